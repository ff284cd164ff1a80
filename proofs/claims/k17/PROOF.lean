import PyProof.Rows.All
import Wide.All
import OpenK.AllK
import Wide.FinOn
import KE.KStateDown
import HandS.ForMost
import HandS.Flow
import HandS.Style
import HandS.IsInst
import HandS.Strs
import HandS.SortInts
import HandS.Defaults
import HandS.MakeKwOnly
import HandS.SetFor
import HandS.More
import HandS.Finally
import HandS.DictComp
import HandS.DictEq
import HandS.DeepEq
import HandS.Iter
import HandS.ListEq
import PyProof.NeKinds
import HandS.ExcInit
import KE.KExcSuper
import HandS.ForExc
import HandS.ExcField
import HandS.ExcIs
import KE.KExcIs
import HandS.Wide
import HandS.Exc
import HandS.HeadHook1
import HandS.HeadHook2
import KE.KEqNest
import HandS.Deep
import HandS.Property
import HandS.TupAny
import HandS.Zip
import HandS.Conv
import HandS.Sort
import KE.DatumOrd
import PyProof.P3In
import PyProof.Rows.RowBridgeK
import PyProof.Draws
import HandS.Zip0
import HandS.MakeKw
import HandS.Rev
import HandS.HotCalls
import KE.DataCmp
import HandS.TupSets
import HandS.TupLe
import HandS.RevRange
import KE.KDictSum
import HandS.Head0
import HandS.Head1
import HandS.Head2
import HandS.HeadEnd
import PySem.Challenge.RW_curbdesk_k17_worths
set_option Elab.async false
set_option linter.all false
set_option maxRecDepth 100000
section
set_option maxHeartbeats 4000000
namespace L3
open PySem PySem.Spec PyProof.Rows L2
abbrev SS := L2.St
def Pst : HO → Prop
  | .frz _ _ => True
  | .tup _ => True
  | .xd _ => True
  | _ => False
def Fzs (H H' : Hp) : Prop := ∀ a o, Pst o → H a = some o → H' a = some o
theorem Fzs.trans {H H1 H2 : Hp} (a : Fzs H H1) (b : Fzs H1 H2) : Fzs H H2 := fun x o p h => b x o p (a x o p h)
def Gr (H H' : Hp) : Prop := ∀ a o, H a = some o → H' a = some o
theorem Gr.trans {H H1 H2 : Hp} (a : Gr H H1) (b : Gr H1 H2) : Gr H H2 := fun x o h => b x o (a x o h)
theorem Gr.new {H : Hp} {p : Addr} {o : HO} (h : H p = none) : Gr H (upd H p o) := fun a u e => by
  rw [upd_ne (ne_of_none e h)]; exact e
theorem Mut.npst {o : HO} (m : Mut (some o)) : ¬ Pst o := by
  cases o <;> first | exact fun z => z | exact fun _ => m
structure Pd where
  pr : Hp → V → Prop
  mono : ∀ {H H' : Hp} {v : V}, Fzs H H' → pr H v → pr H' v
def pInt (i : Int) : Pd := ⟨fun _ v => v = .int i, fun _ h => h⟩
def pStr (x : Str) : Pd := ⟨fun _ v => v = .str x, fun _ h => h⟩
theorem paired_mono {α β : Type} {P Q : α → β → Prop} : ∀ {l₁ : List α} {l₂ : List β}, (∀ a b, P a b → Q a b) → Paired P l₁ l₂ → Paired Q l₁ l₂
  | _, _, _, .nil => .nil
  | _, _, f, .cons r t => .cons (f _ _ r) (paired_mono f t)
def pL {α : Type} (E : α → Pd) (xs : List α) : Pd where
  pr H v := ∃ a o vs, v = .ref a ∧ H a = some (.frz o (.lst vs)) ∧ xs.length ≤ sizeLine ∧ Paired (fun x u => (E x).pr H u) xs vs
  mono := fun f ⟨a, o, vs, e, h, z, p⟩ => ⟨a, o, vs, e, f _ _ trivial h, z, paired_mono (fun x _ => (E x).mono f) p⟩
def pTL {α : Type} (E : α → Pd) (xs : List α) : Pd where
  pr H v := ∃ a vs, v = .ref a ∧ H a = some (.tup vs) ∧ xs.length ≤ sizeLine ∧ Paired (fun x u => (E x).pr H u) xs vs
  mono := fun f ⟨a, vs, e, h, z, p⟩ => ⟨a, vs, e, f _ _ trivial h, z, paired_mono (fun x _ => (E x).mono f) p⟩
def tLk : List Addr → (Hp → Prop) → Hp → Prop
  | [], Φ, H => Φ H
  | d :: G, Φ, H => ∃ u, H d = some u ∧ Mut (some u) ∧ ∀ o, tLk G Φ (upd H d (.frz o u))
theorem tLk.mono {Φ Ψ : Hp → Prop} (f : ∀ H, Φ H → Ψ H) : ∀ {G : List Addr} {H : Hp}, tLk G Φ H → tLk G Ψ H
  | [], _, h => f _ h
  | _ :: _, _, ⟨u, h, m, k⟩ => ⟨u, h, m, fun o => tLk.mono f (k o)⟩
structure Od where
  pr : List Addr → Hp → V → Prop
  pd : Pd
  frame : ∀ {G : List Addr} {H H' : Hp} {v : V}, pr G H v → (∀ a ∈ G, ∀ o, H a = some o → H' a = some o) → Fzs H H' → pr G H' v
  cells : ∀ {G : List Addr} {H : Hp} {v : V}, pr G H v → ∀ a ∈ G, ∃ o, H a = some o ∧ Mut (some o)
  lockd : ∀ {G : List Addr} {H H1 : Hp} {v : V}, pr G H v → (∀ a, a ∉ G → H1 a = H a) → (∀ a ∈ G, ∀ u, H a = some u → ∃ o, H1 a = some (.frz o u)) → pd.pr H1 v
theorem tLk_of {Φ : Hp → Prop} : ∀ {G : List Addr} {H : Hp}, G.Nodup → (∀ a ∈ G, ∃ u, H a = some u ∧ Mut (some u)) → (∀ H1, (∀ a, a ∉ G → H1 a = H a) → (∀ a ∈ G, ∀ u, H a = some u → ∃ o, H1 a = some (.frz o u)) → Φ H1) → tLk G Φ H
  | [], H, _, _, k => k H (fun _ _ => rfl) fun _ h => absurd h List.not_mem_nil
  | d :: G, H, nd, hm, k => by
    obtain ⟨nd1, nd2⟩ := List.nodup_cons.mp nd
    obtain ⟨u, hu, mu⟩ := hm d List.mem_cons_self
    refine ⟨u, hu, mu, fun o => tLk_of nd2 (fun a ha => ?_) fun H1 h1 h2 => k H1 (fun a ha => ?_) fun a ha w hw => ?_⟩
    · rw [upd_ne (fun e => nd1 (by rw [← e]; exact ha))]
      exact hm a (List.mem_cons_of_mem _ ha)
    · rw [h1 a (fun z => ha (List.mem_cons_of_mem _ z)), upd_ne (fun e => ha (by rw [e]; exact List.mem_cons_self))]
    · by_cases e : a = d
      · subst e
        rw [hu] at hw
        cases hw
        exact ⟨o, by rw [h1 a nd1, upd_same]⟩
      · rcases List.mem_cons.mp ha with z | z
        · exact absurd z e
        · exact h2 a z w (by rw [upd_ne e]; exact hw)
theorem Od.cellsN (d : Od) {G : List Addr} {H : Hp} {v : V} (h : d.pr G H v) : ∀ a ∈ G, ∃ o, H a = some o ∧ ¬ Pst o := fun a ha => by
  obtain ⟨o, e, m⟩ := d.cells h a ha
  exact ⟨o, e, Mut.npst m⟩
theorem Od.lock (d : Od) {G : List Addr} {H : Hp} {v : V} {Φ : Hp → Prop} (h : d.pr G H v) (nd : G.Nodup) (k : ∀ H', (∀ a, a ∉ G → H' a = H a) → (∀ a o, H a = some o → ∃ u, H' a = some u) → d.pd.pr H' v → Φ H') : tLk G Φ H :=
  tLk_of nd (d.cells h) fun H1 h1 h2 => k H1 h1 (fun a o e => by
    by_cases ha : a ∈ G
    · obtain ⟨q, hq⟩ := h2 a ha o e
      exact ⟨_, hq⟩
    · exact ⟨o, by rw [h1 a ha]; exact e⟩) (d.lockd h h1 h2)
structure Cel where
  G : List Addr
  v : V
  d : Od
  prm : Option Nat
structure Cell where
  v : V
  d : Od
  prm : Option Nat
def Cel.fg (c : Cel) : Cell := ⟨c.v, c.d, c.prm⟩
structure Fm where
  H0 : Hp
  M : List (List Addr)
abbrev Gm := List (Option Pd)
abbrev Δs := List Cell
def cellsOf (Δ : List Cel) : List Addr := Δ.flatMap Cel.G
structure HkO (F : Fm) (Δ : List Cel) (H : Hp) : Prop where
  base : ∀ a o, F.H0 a = some o → (∀ m ∈ F.M, a ∉ m) → H a = some o
  del : ∀ c ∈ Δ, c.d.pr c.G H c.v
  nod : (cellsOf Δ).Nodup
  own : ∀ c ∈ Δ, ∀ a ∈ c.G, F.H0 a = none ∨ ∃ i m, c.prm = some i ∧ F.M[i]? = some m ∧ a ∈ m
  mem : ∀ m ∈ F.M, ∀ a ∈ m, ∃ o, H a = some o
def Hk (F : Fm) (Δ : Δs) (H : Hp) : Prop := ∃ Δ0 : List Cel, Δ0.map Cel.fg = Δ ∧ HkO F Δ0 H
structure Nm (Γ : Gm) (σ : SS) (H : Hp) : Prop where
  len : σ.length = Γ.length
  gam : ∀ (i : Nat) (p : Pd), Γ[i]? = some (some p) → ∃ v, σ[i]? = some (some v) ∧ p.pr H v
theorem Nm.mono {Γ : Gm} {σ : SS} {H H' : Hp} (k : Nm Γ σ H) (f : Fzs H H') : Nm Γ σ H' := ⟨k.len, fun i p e => by
  obtain ⟨v, h, q⟩ := k.gam i p e
  exact ⟨v, h, p.mono f q⟩⟩
structure Ok (F : Fm) (Γ : Gm) (Δ : Δs) (σ : SS) (H : Hp) : Prop where
  hk : Hk F Δ H
  nm : Nm Γ σ H
theorem Ok.gam {F : Fm} {Γ : Gm} {Δ : Δs} {σ : SS} {H : Hp} (k : Ok F Γ Δ σ H) : ∀ (i : Nat) (p : Pd), Γ[i]? = some (some p) → ∃ v, σ[i]? = some (some v) ∧ p.pr H v := k.nm.gam
theorem Ok.len {F : Fm} {Γ : Gm} {Δ : Δs} {σ : SS} {H : Hp} (k : Ok F Γ Δ σ H) : σ.length = Γ.length := k.nm.len
theorem mem_cellsOf {Δ : List Cel} {c : Cel} {a : Addr} (h : c ∈ Δ) (ha : a ∈ c.G) : a ∈ cellsOf Δ := List.mem_flatMap.mpr ⟨c, h, ha⟩
theorem cellsOf_cons (c : Cel) (Δ : List Cel) : cellsOf (c :: Δ) = c.G ++ cellsOf Δ := by unfold cellsOf; rw [List.flatMap_cons]
theorem HkO.isC {F : Fm} {Δ : List Cel} {H : Hp} (k : HkO F Δ H) {a : Addr} (h : a ∈ cellsOf Δ) : ∃ o, H a = some o ∧ ¬ Pst o := by
  obtain ⟨c, hc, ha⟩ := List.mem_flatMap.mp h
  exact c.d.cellsN (k.del c hc) a ha
theorem HkO.fresh0 {F : Fm} {Δ : List Cel} {H : Hp} (k : HkO F Δ H) {a : Addr} (h : H a = none) : F.H0 a = none := by
  have hm : ∀ m ∈ F.M, a ∉ m := fun m hm z => by
    obtain ⟨o, e⟩ := k.mem m hm a z
    rw [h] at e; cases e
  cases e : F.H0 a with
  | none => rfl
  | some o => rw [k.base a o e hm] at h; cases h
theorem HkO.cons {F : Fm} {Δ : List Cel} {H : Hp} (k : HkO F Δ H) {c : Cel} (nd : c.G.Nodup) (nw : ∀ a ∈ c.G, a ∉ cellsOf Δ) (h : c.d.pr c.G H c.v) (ho : ∀ a ∈ c.G, F.H0 a = none ∨ ∃ i m, c.prm = some i ∧ F.M[i]? = some m ∧ a ∈ m) : HkO F (c :: Δ) H := by
  refine ⟨k.base, fun x hc => ?_, ?_, fun x hc a ha => ?_, k.mem⟩
  · rcases List.mem_cons.mp hc with e | hc
    · subst e; exact h
    · exact k.del x hc
  · rw [cellsOf_cons]
    refine List.nodup_append.mpr ⟨nd, k.nod, fun a ha b hb e => ?_⟩
    subst e
    exact nw a ha hb
  · rcases List.mem_cons.mp hc with e | hc
    · subst e; exact ho a ha
    · exact k.own x hc a ha
def OkN (W : Bool) (F : Fm) (Γ : Gm) (H : Hp) (v : V) (d : Od) (Δ : Δs) (σ : SS) (H' : Hp) : Prop := ∃ (Δ0 : List Cel) (G : List Addr), Δ0.map Cel.fg = Δ ∧ HkO F (⟨G, v, d, none⟩ :: Δ0) H' ∧ (W = false → ∀ a ∈ G, H a = none) ∧ Nm Γ σ H'
theorem OkN.ok {W : Bool} {F : Fm} {Γ : Gm} {Δ : Δs} {σ : SS} {H H' : Hp} {v : V} {d : Od} (k : OkN W F Γ H v d Δ σ H') : Ok F Γ (⟨v, d, none⟩ :: Δ) σ H' := by
  obtain ⟨Δ0, G, e, k, _, n⟩ := k
  exact ⟨⟨_, by rw [List.map_cons, e]; rfl, k⟩, n⟩
end L3
end
section
set_option maxHeartbeats 4000000
set_option autoImplicit true
namespace L3
open PySem PySem.Spec PyProof.Rows L2
structure St (W : Bool) (H H' : Hp) : Prop where
  fz : Fzs H H'
  kp : W = false → Gr H H'
  dom : ∀ a o, H a = some o → ∃ u, H' a = some u
theorem St.trans {W : Bool} {H H1 H2 : Hp} (a : St W H H1) (b : St W H1 H2) : St W H H2 := ⟨a.fz.trans b.fz, fun n => (a.kp n).trans (b.kp n), fun x o h => by
  obtain ⟨u, e⟩ := a.dom x o h
  exact b.dom x u e⟩
theorem St.back {W : Bool} {H H' : Hp} (s : St W H H') {a : Addr} (h : H' a = none) : H a = none := by
  cases e : H a with
  | none => rfl
  | some o =>
    obtain ⟨u, q⟩ := s.dom a o e
    rw [h] at q; cases q
structure Fn (γ : Type) where
  fin : Hp → γ → Ends → Prop
  mono : ∀ {H H' : Hp} {g : γ} {D : Ends}, fin H g D → Fzs H H' → fin H' g D
section
variable {X : Cx}
variable {W : Bool} {F : Fm} {Γ : Gm} {Δ : Δs} {γ : Type}
section
variable {e a b : Expr} {r : R2} {β1 β2 : Type} {T : Option γ} {k1 : β1 → Option γ} {k2 : β1 → β2 → Option γ} {E1 : β1 → Pd} {E2 : β1 → β2 → Pd} {Δ1 : β1 → Δs} {Δ2 : β1 → β2 → Δs}
end
section
variable {e a b : Expr} {r : R2} {β1 β2 : Type} {T : Option γ} {k1 : β1 → Option γ} {k2 : β1 → β2 → Option γ} {E1 : β1 → Pd} {E2 : β1 → β2 → Pd} {Δ1 : β1 → Δs} {Δ2 : β1 → β2 → Δs}
end
section
variable {a b : Expr} {pos : Pos} {β1 β2 : Type} {T : Option γ} {k1 : β1 → Option γ} {k : β1 × β2 → Option γ} {Δ1 : β1 → Δs} {Δ2 : β1 → β2 → Δs} {i : β1 → Int} {j : β1 → β2 → Int}
end
end
end L3
end
section
set_option maxHeartbeats 4000000
namespace L3
open PySem PySem.Spec PyProof.Rows L2
theorem flat_perm {Δ Δ' : List Cel} (p : Δ.Perm Δ') : (cellsOf Δ).Perm (cellsOf Δ') := by
  unfold cellsOf
  exact p.flatMap_right _
theorem HkO.perm {F : Fm} {Δ Δ' : List Cel} {H : Hp} (k : HkO F Δ H) (p : Δ.Perm Δ') : HkO F Δ' H :=
  ⟨k.base, fun c hc => k.del c (p.mem_iff.mpr hc), (flat_perm p).nodup_iff.mp k.nod, fun c hc => k.own c (p.mem_iff.mpr hc), k.mem⟩
theorem HkO.ndup {F : Fm} {c : Cel} {Δ : List Cel} {H : Hp} (k : HkO F (c :: Δ) H) : c.G.Nodup ∧ (cellsOf Δ).Nodup ∧ ∀ a ∈ c.G, a ∉ cellsOf Δ := by
  have h := k.nod
  rw [cellsOf_cons] at h
  obtain ⟨h1, h2, h3⟩ := List.nodup_append.mp h
  exact ⟨h1, h2, fun a ha hb => h3 a ha a hb rfl⟩
theorem HkO.rest {F : Fm} {c : Cel} {R : List Cel} {H H' : Hp} (k : HkO F (c :: R) H) (kp : ∀ a o, a ∉ c.G → H a = some o → H' a = some o) (dm : ∀ a ∈ c.G, ∃ o, H' a = some o) : HkO F R H' ∧ Fzs H H' ∧ ∀ a o, H a = some o → ∃ u, H' a = some u := by
  have fz : Fzs H H' := fun a o p e => kp a o (fun ha => by
    obtain ⟨u, eu, nu⟩ := c.d.cellsN (k.del c List.mem_cons_self) a ha
    rw [e] at eu
    cases eu
    exact nu p) e
  have dom : ∀ a o, H a = some o → ∃ u, H' a = some u := fun a o e => by
    by_cases ha : a ∈ c.G
    · exact dm a ha
    · exact ⟨o, kp a o ha e⟩
  refine ⟨⟨fun a o e m => ?_, fun x hx => ?_, k.ndup.2.1, fun x hx => k.own x (List.mem_cons_of_mem _ hx), fun m hm a ha => ?_⟩, fz, dom⟩
  · refine kp a o (fun ha => ?_) (k.base a o e m)
    rcases k.own c List.mem_cons_self a ha with z | ⟨i, w, _, hw, z⟩
    · rw [e] at z; cases z
    · exact m w (List.mem_of_getElem? hw) z
  · exact x.d.frame (k.del x (List.mem_cons_of_mem _ hx)) (fun a ha o q => kp a o (fun hc => k.ndup.2.2 a hc (mem_cellsOf hx ha)) q) fz
  · obtain ⟨o, e⟩ := k.mem m hm a ha
    exact dom a o e
theorem HkO.turn {F : Fm} {c : Cel} {R : List Cel} {H H' : Hp} {G' : List Addr} {d' : Od} (k : HkO F (c :: R) H) (kp : ∀ a o, a ∉ c.G → H a = some o → H' a = some o) (dm : ∀ a ∈ c.G, ∃ o, H' a = some o) (nd : G'.Nodup) (sb : ∀ a ∈ G', a ∈ c.G ∨ H a = none) (new : d'.pr G' H' c.v) :
    HkO F (⟨G', c.v, d', c.prm⟩ :: R) H' ∧ Fzs H H' ∧ ∀ a o, H a = some o → ∃ u, H' a = some u := by
  obtain ⟨r, fz, dom⟩ := k.rest kp dm
  refine ⟨r.cons (c := ⟨G', c.v, d', c.prm⟩) nd (fun a ha hb => ?_) new (fun a ha => ?_), fz, dom⟩
  · rcases sb a ha with h | h
    · exact k.ndup.2.2 a h hb
    · obtain ⟨o, e, _⟩ := k.isC (a := a) (by rw [cellsOf_cons]; exact List.mem_append_right _ hb)
      rw [h] at e; cases e
  · rcases sb a ha with h | h
    · exact k.own c List.mem_cons_self a h
    · exact .inl (k.fresh0 h)
theorem map_at {Δ0 : List Cel} {j : Nat} {c : Cell} (h : (Δ0.map Cel.fg)[j]? = some c) : ∃ A x B, Δ0 = A ++ x :: B ∧ A.length = j ∧ x.fg = c := by
  rw [List.getElem?_map] at h
  cases e : Δ0[j]? with
  | none => rw [e] at h; cases h
  | some x =>
    rw [e] at h
    have hl : j < Δ0.length := by
      by_cases hl : j < Δ0.length
      · exact hl
      · rw [List.getElem?_eq_none (by omega)] at e; cases e
    refine ⟨Δ0.take j, x, Δ0.drop (j + 1), ?_, by rw [List.length_take]; omega, by simpa using h⟩
    rw [List.getElem?_eq_getElem hl] at e
    cases e
    rw [← List.drop_eq_getElem_cons hl, List.take_append_drop]
theorem mid_perm {A B : List Cel} {x : Cel} : (A ++ x :: B).Perm (x :: (A ++ B)) := List.perm_middle
theorem map_set {A B : List Cel} {x y : Cel} : (A ++ y :: B).map Cel.fg = ((A ++ x :: B).map Cel.fg).set A.length y.fg := by
  simp
theorem map_erase {A B : List Cel} {x : Cel} : (A ++ B).map Cel.fg = ((A ++ x :: B).map Cel.fg).eraseIdx A.length := by
  rw [List.map_append, List.map_append, List.map_cons, List.eraseIdx_append_of_length_le (by rw [List.length_map]; exact Nat.le_refl _), List.length_map, Nat.sub_self]
  rfl
section
variable {F : Fm} {Γ : Gm} {Δ : Δs} {σ : SS} {H : Hp} {j : Nat} {c : Cell}
theorem Ok.cellG (k : Ok F Γ Δ σ H) (hj : Δ[j]? = some c) : ∃ G, c.d.pr G H c.v ∧ G.Nodup ∧ ∀ H' d' G', (∀ a o, a ∉ G → H a = some o → H' a = some o) → (∀ a ∈ G, ∃ o, H' a = some o) → G'.Nodup → (∀ a ∈ G', a ∈ G ∨ H a = none) → d'.pr G' H' c.v →
    Ok F Γ (Δ.set j { c with d := d' }) σ H' ∧ St true H H' := by
  obtain ⟨⟨Δ0, e, k⟩, n⟩ := k
  subst e
  obtain ⟨A, x, B, e0, el, ex⟩ := map_at hj
  subst e0
  subst ex
  have k1 := k.perm mid_perm
  refine ⟨x.G, k1.del x List.mem_cons_self, k1.ndup.1, fun H' d' G' kp dm nd sb new => ?_⟩
  obtain ⟨k2, fz, dom⟩ := k1.turn kp dm nd sb new
  refine ⟨⟨⟨A ++ ⟨G', x.v, d', x.prm⟩ :: B, ?_, k2.perm mid_perm.symm⟩, n.mono fz⟩, fz, (fun h => nomatch h), dom⟩
  rw [← el]
  exact map_set
theorem Ok.cell (k : Ok F Γ Δ σ H) (hj : Δ[j]? = some c) : ∃ G, c.d.pr G H c.v ∧ G.Nodup ∧ ∀ H' d', (∀ a o, a ∉ G → H a = some o → H' a = some o) → d'.pr G H' c.v → Ok F Γ (Δ.set j { c with d := d' }) σ H' ∧ St true H H' := by
  obtain ⟨G, p, nd, t⟩ := k.cellG hj
  exact ⟨G, p, nd, fun H' d' kp new => t H' d' G kp (fun a ha => by
    obtain ⟨o, e, _⟩ := d'.cellsN new a ha
    exact ⟨o, e⟩) nd (fun a ha => .inl ha) new⟩
theorem Ok.at (k : Ok F Γ Δ σ H) (hj : Δ[j]? = some c) : ∃ G, c.d.pr G H c.v := by
  obtain ⟨G, p, _⟩ := k.cell hj
  exact ⟨G, p⟩
theorem Hk.at (k : Hk F Δ H) (hj : Δ[j]? = some c) : ∃ G, c.d.pr G H c.v := by
  obtain ⟨Δ0, e, k⟩ := k
  subst e
  obtain ⟨A, x, B, e0, el, ex⟩ := map_at hj
  subst e0
  subst ex
  exact ⟨x.G, k.del x (by simp)⟩
end
def tLkX (Φ : Hp → Prop) (H : Hp) : Prop := ∃ G, tLk G Φ H
theorem HkO.frz {F : Fm} {c : Cel} {R : List Cel} {H : Hp} (k : HkO F (c :: R) H) {Φ : Hp → Prop} (q : ∀ H', Fzs H H' → (∀ a, a ∉ c.G → H' a = H a) → (∀ a o, H a = some o → ∃ u, H' a = some u) → HkO F R H' → c.d.pd.pr H' c.v → Φ H') : tLk c.G Φ H := by
  refine c.d.lock (k.del c List.mem_cons_self) k.ndup.1 fun H' kp dom p => ?_
  obtain ⟨r, fz, _⟩ := k.rest (H' := H') (fun a o na e => by rw [kp a na]; exact e) (fun a ha => by
    obtain ⟨o, e, _⟩ := c.d.cellsN (k.del c List.mem_cons_self) a ha
    exact dom a o e)
  exact q H' fz kp dom r p
theorem Ok.frz {F : Fm} {Γ : Gm} {Δ : Δs} {σ : SS} {H : Hp} {j : Nat} {c : Cell} (k : Ok F Γ Δ σ H) (hj : Δ[j]? = some c) {Φ : Hp → Prop} (q : ∀ H', St true H H' → Ok F Γ (Δ.eraseIdx j) σ H' → c.d.pd.pr H' c.v → Φ H') : tLkX Φ H := by
  obtain ⟨⟨Δ0, e, k⟩, n⟩ := k
  subst e
  obtain ⟨A, x, B, e0, el, ex⟩ := map_at hj
  subst e0
  subst ex
  refine ⟨x.G, (k.perm mid_perm).frz fun H' f kp dom h p => q H' ⟨f, (fun h => nomatch h), dom⟩ ⟨⟨A ++ B, ?_, h⟩, n.mono f⟩ p⟩
  rw [← el]
  exact map_erase
theorem OkN.frz {F : Fm} {Γ : Gm} {Δ : Δs} {σ : SS} {H0 H : Hp} {v : V} {d : Od} {W : Bool} (k : OkN W F Γ H0 v d Δ σ H) (s0 : St W H0 H) {Φ : Hp → Prop} (q : ∀ H', St W H0 H' → Ok F Γ Δ σ H' → d.pd.pr H' v → Φ H') : tLkX Φ H := by
  obtain ⟨Δ0, G, e, k, nw, n⟩ := k
  refine ⟨G, k.frz fun H' f kp dom h p => q H' ⟨s0.fz.trans f, fun hW a o ea => ?_, fun a o ea => ?_⟩ ⟨⟨Δ0, e, h⟩, n.mono f⟩ p⟩
  · rw [kp a fun ha => ?_]
    · exact s0.kp hW a o ea
    · rw [nw hW a ha] at ea; cases ea
  · obtain ⟨u, eu⟩ := s0.dom a o ea
    exact dom a u eu
theorem Ok.set {F : Fm} {Γ : Gm} {Δ : Δs} {σ : SS} {H : Hp} {i : Nat} {p : Pd} {v : V} (k : Ok F Γ Δ σ H) (hp : p.pr H v) : Ok F (Γ.set i (some p)) Δ (σ.set i (some v)) H :=
  ⟨k.hk, by rw [List.length_set, List.length_set]; exact k.len, fun j q e => by
    by_cases h : j = i
    · subst h
      by_cases hl : j < Γ.length
      · rw [List.getElem?_set_self hl] at e
        cases e
        exact ⟨v, List.getElem?_set_self (by rw [k.len]; exact hl), hp⟩
      · rw [List.getElem?_eq_none (by rw [List.length_set]; omega)] at e
        cases e
    · rw [List.getElem?_set_ne (fun z => h z.symm)] at e
      obtain ⟨w, hs, hq⟩ := k.gam j q e
      exact ⟨w, by rw [List.getElem?_set_ne (fun z => h z.symm)]; exact hs, hq⟩⟩
def SubG : Gm → Gm → Prop
  | [], [] => True
  | none :: g', _ :: g => SubG g' g
  | some p :: g', some q :: g => p = q ∧ SubG g' g
  | _, _ => False
theorem SubG.len : ∀ {g' g : Gm}, SubG g' g → g'.length = g.length
  | [], [], _ => rfl
  | none :: g', _ :: g, h => congrArg (· + 1) (SubG.len (g' := g') (g := g) h)
  | some p :: g', some q :: g, h => congrArg (· + 1) (SubG.len (g' := g') (g := g) h.2)
  | [], _ :: _, h => h.elim
  | some _ :: _, [], h => h.elim
  | none :: _, [], h => h.elim
  | some _ :: _, none :: _, h => h.elim
end L3
end
section
set_option maxHeartbeats 4000000
namespace L3
open PySem PySem.Spec PyProof.Rows L2
section
variable {X : Cx} {W : Bool} {F : Fm} {Γ : Gm} {Δ : Δs} {γ : Type}
section
variable {e a : Expr} {r : V → Hp → VK → Prop} {β : Type} {T : Option γ} {E1 : β → Pd} {Δ1 : β → Δs}
end
variable {γ : Type} {N : Fn γ} {rest : List Stmt}
end
end L3
end
section
set_option maxHeartbeats 4000000
set_option autoImplicit true
namespace L3
open PySem PySem.Spec PyProof.Rows L2
section
variable {X : Cx} {W : Bool} {F : Fm} {Γ : Gm} {Δ : Δs} {γ : Type}
section
variable {a b : Expr} {rest : List Expr} {pos : Pos} {c1 c2 : Bool} {T : Option γ}
end
section
variable {a b : Expr} {rest : List Expr} {pos : Pos} {β1 β2 S : Type} {T : Option γ} {c1 : β1 → Bool} {c2 : β1 → β2 → Bool} {Δ1 : β1 → Δs} {Δ2 : β1 → β2 → Δs} {T2 : β1 → Option (Bool × S)} {s1 : β1 → S} {s2 : β1 → β2 → S} {ΔS : β1 → S → Δs} {k : β1 × (Bool × S) → Option γ}
end
abbrev Cxt := Gm × Δs
def nxOk (F : Fm) (c : Cxt) (H : Hp) (n : SS → Hp → Prop) : Prop := ∀ σ' H', Fzs H H' → Ok F c.1 c.2 σ' H' → n σ' H'
theorem nxOk.mono {F : Fm} {c : Cxt} {H H' : Hp} {n : SS → Hp → Prop} (h : nxOk F c H n) (f : Fzs H H') : nxOk F c H' n := fun σ1 H1 f1 => h σ1 H1 (f.trans f1)
variable {N : Fn γ} {rest : List Stmt}
section
variable {ce : Expr} {A B : List Stmt} {pos : Pos} {β : Type} {T : Option γ} {c : β → Bool} {Δ' : β → Δs}
end
end
end L3
end
section
set_option maxHeartbeats 4000000
namespace L3
open PySem PySem.Spec PyProof.Rows L2
section
variable {X : Cx} {W : Bool} {F : Fm} {Γ : Gm} {Δ : Δs} {γ : Type}
def RL {α : Type} (E : α → Pd) (xs : List α) (H : Hp) (v : V) : Prop := ∃ a vs, v = .ref a ∧ Rd H a (.lst vs) ∧ xs.length ≤ sizeLine ∧ Paired (fun x u => (E x).pr H u) xs vs
theorem RL.sq {α : Type} {E : α → Pd} {xs : List α} {H : Hp} {v : V} {K : PySem.W.Frag} (h : RL E xs H v) : ∃ a vs, v = .ref a ∧ SqL K H a vs ∧ xs.length ≤ sizeLine ∧ Paired (fun x u => (E x).pr H u) xs vs := by
  obtain ⟨a, vs, e, r, z, p⟩ := h
  exact ⟨a, vs, e, .inl r, z, p⟩
section
variable {a b : Expr} {pos : Pos} {β1 β2 α : Type} {T : Option γ} {k1 : β1 → Option γ} {Δ1 : β1 → Δs} {Δ2 : β1 → β2 → Δs} {E1 : β1 → Pd} {Ee : α → Pd} {xs : β1 → β2 → List α} {j : β1 → β2 → Int}
end
section
variable {a : Expr} {pos p : Pos} {β α : Type} {T : Option γ} {Δ1 : β → Δs} {E1 : β → Pd} {Ee : α → Pd} {xs : β → List α} {k : β → Option γ}
end
section
variable {N : Fn γ} {rest : List Stmt}
end
end
end L3
end
section
set_option maxHeartbeats 4000000
namespace L3
open PySem PySem.Spec PyProof.Rows L2
section
variable {F : Fm} {Γ : Gm} {Δ : Δs} {σ : SS} {H H' : Hp} {W : Bool}
end
end L3
end
section
set_option maxHeartbeats 4000000
namespace L3
open PySem PySem.Spec PyProof.Rows L2
end L3
end
section
set_option maxHeartbeats 4000000
namespace L3
open PySem PySem.Spec PyProof.Rows L2
section
variable {X : Cx} {W : Bool} {F : Fm} {Γ : Gm} {Δ : Δs} {γ : Type}
variable {N : Fn γ} {rest : List Stmt}
end
end L3
end
section
set_option maxHeartbeats 4000000
namespace L3
open PySem PySem.Spec PyProof.Rows L2
theorem Hk.cell {F : Fm} {Δ : Δs} {H : Hp} {j : Nat} {c : Cell} (k : Hk F Δ H) (hj : Δ[j]? = some c) : ∃ G, c.d.pr G H c.v ∧ G.Nodup ∧ ∀ H' d', (∀ a o, a ∉ G → H a = some o → H' a = some o) → d'.pr G H' c.v → Hk F (Δ.set j { c with d := d' }) H' ∧ St true H H' := by
  have k2 : Ok F [] Δ [] H := ⟨k, rfl, fun i p e => by cases e⟩
  obtain ⟨G, p, nd, t⟩ := k2.cell hj
  exact ⟨G, p, nd, fun H' d' kp new => ⟨(t H' d' kp new).1.hk, (t H' d' kp new).2⟩⟩
section
variable {X : Cx} {W : Bool} {F : Fm} {Γ : Gm} {Δ : Δs} {γ : Type}
section
variable {α β β2 β3 δ S : Type} {g : TG} {own : List (Str × Nat)} {T : Option γ} {k0 : β → Option γ} {k : β × (List δ × S) → Option γ} {out : β × (List δ × S) → List δ} {Ex : α → Pd} {Ee : δ → Pd} {bd : Gm → α → Gm} {xs : β → List α} {Δ1 : β → Δs} {C : β → S → Δs} {s0 : β → S} {f : β → α → S → Option (Option δ × S)}
    {c : β → α → S → β2 → Bool} {s2 : β → α → S → β2 → S} {T2 : β → α → S → β2 → Option (Option δ × S)} {y : β → α → S → β2 → β3 → δ} {s3 : β → α → S → β2 → β3 → S}
end
end
end L3
end
section
set_option maxHeartbeats 4000000
namespace L3
open PySem PySem.Spec PyProof.Rows L2
section
variable {X : Cx} {W : Bool} {F : Fm} {Γ : Gm} {Δ : Δs} {γ : Type}
section
variable {a b : Expr} {pos : Pos} {β1 β2 α : Type} [DecidableEq α] {T : Option γ} {k1 : β1 → Option γ} {k : β1 × β2 → Option γ} {Δ1 : β1 → Δs} {Δ2 : β1 → β2 → Δs} {Ee : α → Pd} {i : β1 → α} {E2 : β1 → β2 → Pd} {xs : β1 → β2 → List α}
end
section
variable {a b : Expr} {pos : Pos} {β1 β2 : Type} {T : Option γ} {k1 : β1 → Option γ} {k : β1 × β2 → Option γ} {Δ1 : β1 → Δs} {Δ2 : β1 → β2 → Δs} {i : β1 → Str} {j : β1 → β2 → Str} {c : β1 → Bool} {d : β1 → β2 → Bool}
end
structure Dt {α : Type} [DecidableEq α] (E : α → Pd) where
  toD : α → PyData
  dp : ∀ {K H v x}, (E x).pr H v → Dp K H v (toD x)
  dep : Nat
  can : ∀ x, (toD x).canLay0 = true
  deep : ∀ x, (toD x).depth ≤ dep
  eq : ∀ x y, PyData.eqv (toD x) (toD y) = decide (x = y)
theorem dp_all {α : Type} {E : α → Pd} [DecidableEq α] (d : Dt E) {K : PySem.W.Frag} {H : Hp} : ∀ {xs : List α} {vs : List V}, Paired (fun x u => (E x).pr H u) xs vs → DpAll K H vs (xs.map d.toD)
  | _, _, .nil => .nil
  | _, _, .cons r t => .cons (d.dp r) (dp_all d t)
section
variable {a b : Expr} {pos : Pos} {β1 β2 α : Type} [DecidableEq α] {T : Option γ} {k1 : β1 → Option γ} {k : β1 × β2 → Option γ} {Δ1 : β1 → Δs} {Δ2 : β1 → β2 → Δs} {Ee : α → Pd} {E1 : β1 → Pd} {E2 : β1 → β2 → Pd} {xs ys : β1 → β2 → List α}
theorem RL.dp {α : Type} {E : α → Pd} [DecidableEq α] (d : Dt E) {xs : List α} {H : Hp} {v : V} {K : PySem.W.Frag} (h : RL E xs H v) : Dp K H v (.list (xs.map d.toD)) := by
  obtain ⟨a, vs, e, sq, z, p⟩ := h.sq (K := K)
  rw [e]
  exact .lst sq (dp_all d p)
end
end
end L3
end
section
set_option maxHeartbeats 4000000
namespace L3
open PySem PySem.Spec PyProof.Rows L2
section
variable {X : Cx} {W : Bool} {F : Fm} {Γ : Gm} {Δ : Δs} {γ : Type}
section
variable {a : Expr} {lo hi : Option Expr} {p2 pos : Pos} {β1 β2 β3 α : Type} {T : Option γ} {k1 : β1 → Option γ} {k2 : β1 → β2 → Option γ} {k : β1 × β2 × β3 → Option γ} {E1 : β1 → Pd} {Ee : α → Pd} {xs : β1 → β2 → β3 → List α} {o1 : β1 → β2 → Option Int} {o2 : β1 → β2 → β3 → Option Int} {Δ1 : β1 → Δs} {Δ2 : β1 → β2 → Δs} {Δ3 : β1 → β2 → β3 → Δs}
end
section
variable {a : Expr} {β α : Type} {T : Option γ} {k : β → Option γ} {E1 : β → Pd} {Ee : α → Pd} {xs : β → List α} {Δ1 : β → Δs}
variable {p pos : Pos}
end
section
variable {a : Expr} {i : Int} {n : Nat} {p pos : Pos} {β α1 α2 α3 : Type} {T : Option γ} {k : β → Option γ} {A : α1 → Pd} {B : α2 → Pd} {C : α3 → Pd} {Δ1 : β → Δs}
end
section
variable {a b : Expr} {pos : Pos} {β1 β2 α : Type} {T : Option γ} {k1 : β1 → Option γ} {k : β1 × β2 → Option γ} {Δ1 : β1 → Δs} {Δ2 : β1 → β2 → Δs} {Ee : α → Pd} {E1 : β1 → Pd} {E2 : β1 → β2 → Pd} {xs ys : β1 → β2 → List α}
end
section
variable {o e : Expr} {apos cpos : Pos} {β1 β2 α : Type} {T : Option γ} {k1 : β1 → Option γ} {k : β1 × β2 → Option γ} {Δ1 : β1 → Δs} {Δ2 : β1 → β2 → Δs} {Ee : α → Pd} {xs : β1 → β2 → List α} {y : β1 → β2 → α} {v : V} {prm : Option Nat}
end
section
variable {a : Expr} {pos p : Pos} {j : Nat} {β α : Type} {T : Option γ} {k : β → Option γ} {Ee : α → Pd} {x : β → Option α} {Δ1 : β → Δs}
end
end
end L3
end
section
set_option maxHeartbeats 8000000
namespace L3
open PySem PySem.Spec PyProof.Rows L2
section
variable {P : Program} {w : World} {A : Around} {E : Value → Shared → Prop} {s : Shared}
end
section
variable {X : Cx}
variable {W : Bool} {F : Fm} {Γ : Gm} {Δ : Δs} {γ : Type}
section
variable {a : Expr} {p pos : Pos} {β : Type} {T : Option γ} {E1 : β → Pd} {xs : β → List Int} {Δ1 : β → Δs}
end
end
end L3
end
section
set_option maxHeartbeats 8000000
namespace L3
open PySem PySem.Spec PyProof.Rows L2
section
variable {P : Program} {w : World} {A : Around} {E : Value → Shared → Prop} {s : Shared}
end
section
variable {X : Cx} {W : Bool} {F : Fm} {Γ : Gm} {Δ : Δs} {γ : Type}
section
variable {a : Expr} {p pos : Pos} {β : Type} {T : Option γ} {xs : β → List Int} {Δ1 : β → Δs} {k : β → Option γ}
end
end
end L3
end
section
set_option maxHeartbeats 4000000
namespace L3
open PySem PySem.Spec PyProof.Rows L2
section
variable {X : Cx} {W : Bool} {F : Fm} {Γ : Gm} {Δ : Δs} {γ : Type}
end
end L3
end
section
set_option maxHeartbeats 4000000
namespace L3
open PySem PySem.Spec PyProof.Rows L2
section
variable {X : Cx} {W : Bool} {F : Fm} {Γ : Gm} {Δ : Δs} {γ : Type}
inductive Own3 {α : Type} (D : α → Od) (H : Hp) : List α → List V → List (List Addr) → Prop
  | nil : Own3 D H [] [] []
  | cons {x : α} {xs : List α} {v : V} {vs : List V} {g : List Addr} {gs : List (List Addr)} : (D x).pr g H v → Own3 D H xs vs gs → Own3 D H (x :: xs) (v :: vs) (g :: gs)
theorem Own3.len {α : Type} {D : α → Od} {H : Hp} : ∀ {xs : List α} {vs : List V} {gs : List (List Addr)}, Own3 D H xs vs gs → xs.length = vs.length
  | _, _, _, .nil => rfl
  | _, _, _, .cons _ t => congrArg (· + 1) t.len
theorem Own3.frame {α : Type} {D : α → Od} {H H' : Hp} (f : Fzs H H') : ∀ {xs : List α} {vs : List V} {gs : List (List Addr)}, Own3 D H xs vs gs → (∀ a ∈ gs.flatten, ∀ o, H a = some o → H' a = some o) → Own3 D H' xs vs gs
  | _, _, _, .nil, _ => .nil
  | _, _, _, .cons r t, k => by
    rw [List.flatten_cons] at k
    exact .cons ((D _).frame r (fun a ha => k a (List.mem_append_left _ ha)) f) (Own3.frame f t fun a ha => k a (List.mem_append_right _ ha))
theorem Own3.cells {α : Type} {D : α → Od} {H : Hp} : ∀ {xs : List α} {vs : List V} {gs : List (List Addr)}, Own3 D H xs vs gs → ∀ a ∈ gs.flatten, ∃ o, H a = some o ∧ Mut (some o)
  | _, _, _, .nil, a, h => by simp at h
  | _, _, _, .cons r t, a, h => by
    rw [List.flatten_cons] at h
    rcases List.mem_append.mp h with h | h
    · exact (D _).cells r a h
    · exact t.cells a h
theorem Own3.lockd {α : Type} {D : α → Od} {H H1 : Hp} {S : List Addr} (h1 : ∀ a, a ∉ S → H1 a = H a) (h2 : ∀ a ∈ S, ∀ u, H a = some u → ∃ o, H1 a = some (.frz o u)) (hm : ∀ a ∈ S, ∃ o, H a = some o ∧ Mut (some o)) : ∀ {xs : List α} {vs : List V} {gs : List (List Addr)}, Own3 D H xs vs gs → (∀ a ∈ gs.flatten, a ∈ S) → Paired (fun x u => (D x).pd.pr H1 u) xs vs
  | _, _, _, .nil, _ => .nil
  | x :: _, v :: _, g :: gs, .cons r t, sub => by
    rw [List.flatten_cons] at sub
    refine .cons ?_ (Own3.lockd h1 h2 hm t fun a ha => sub a (List.mem_append_right _ ha))
    have m1 : ∀ a, a ∉ g → (fun a => if a ∈ g then H1 a else H a : Hp) a = H a := fun a ha => if_neg ha
    have m2 : ∀ a ∈ g, ∀ u, H a = some u → ∃ o, (fun a => if a ∈ g then H1 a else H a : Hp) a = some (.frz o u) := fun a ha u e => by
      obtain ⟨o, ho⟩ := h2 a (sub a (List.mem_append_left _ ha)) u e
      exact ⟨o, (if_pos ha).trans ho⟩
    refine (D x).pd.mono (fun a o p e => ?_) ((D x).lockd r m1 m2)
    by_cases ha : a ∈ g
    · exact (if_pos ha).symm.trans e
    · have e : H a = some o := (if_neg ha).symm.trans e
      by_cases hs : a ∈ S
      · obtain ⟨u, hu, mu⟩ := hm a hs
        rw [e] at hu
        cases hu
        exact absurd p (Mut.npst mu)
      · rw [h1 a hs]; exact e
theorem Own3.at {α : Type} {D : α → Od} {H : Hp} : ∀ {xs : List α} {vs : List V} {gs : List (List Addr)} {m : Nat} {x : α}, Own3 D H xs vs gs → xs[m]? = some x → ∃ v g, vs[m]? = some v ∧ gs[m]? = some g ∧ (D x).pr g H v
  | _, _, _, _, _, .nil, e => by simp at e
  | _, _, _, 0, _, .cons r _, e => by simp at e; subst e; exact ⟨_, _, rfl, rfl, r⟩
  | _, _, _, m + 1, x, .cons _ t, e => by
    obtain ⟨v, g, h1, h2, h3⟩ := Own3.at (m := m) (x := x) t (by simpa using e)
    exact ⟨v, g, by simpa using h1, by simpa using h2, h3⟩
theorem Own3.app {α : Type} {D : α → Od} {H : Hp} {y : α} {v : V} {g : List Addr} (r : (D y).pr g H v) : ∀ {xs : List α} {vs : List V} {gs : List (List Addr)}, Own3 D H xs vs gs → Own3 D H (xs ++ [y]) (vs ++ [v]) (gs ++ [g])
  | _, _, _, .nil => .cons r .nil
  | _, _, _, .cons a t => .cons a (t.app r)
end
end L3
end
section
set_option maxHeartbeats 4000000
namespace L3
open PySem PySem.Spec PyProof.Rows L2
section
variable {X : Cx} {W : Bool} {F : Fm} {Γ : Gm} {Δ : Δs} {γ : Type} {N : Fn γ} {rest : List Stmt}
end
end L3
end
section
set_option maxHeartbeats 4000000
namespace L3
open PySem PySem.Spec PyProof.Rows L2
section
variable {X : Cx} {W : Bool} {F : Fm} {Γ : Gm} {Δ : Δs} {γ : Type}
section
variable {a : Expr} {pos : Pos} {β : Type} {T : Option γ} {k : β → Option γ} {Δ1 : β → Δs} {i : β → Int}
end
section
variable {a b : Expr} {pos : Pos} {β1 β2 : Type} {T : Option γ} {k1 : β1 → Option γ} {k : β1 × β2 → Option γ} {Δ1 : β1 → Δs} {Δ2 : β1 → β2 → Δs} {i : β1 → Str} {j : β1 → β2 → Str}
end
section
variable {a b : Expr} {pos : Pos} {β1 β2 : Type} {T : Option γ} {k1 : β1 → Option γ} {k : β1 × β2 → Option γ} {Δ1 : β1 → Δs} {Δ2 : β1 → β2 → Δs} {i : β1 → Option Int} {j : β1 → β2 → Option Int} {c : β1 → Option Str} {d : β1 → β2 → Option Str}
end
section
variable {T : Option γ}
end
end
end L3
end
section
set_option maxHeartbeats 4000000
namespace L3
open PySem PySem.Spec PyProof.Rows L2
section
variable {X : Cx} {W : Bool} {F : Fm} {Γ : Gm} {Δ : Δs} {γ : Type}
end
end L3
end
section
set_option maxHeartbeats 4000000
namespace L3
open PySem PySem.Spec PyProof.Rows L2
section
variable {X : Cx} {W : Bool} {F : Fm} {Γ : Gm} {Δ : Δs} {γ : Type}
section
variable {a b : Expr} {pos : Pos} {β1 β2 : Type} {T : Option γ} {k1 : β1 → Option γ} {Δ1 : β1 → Δs} {Δ2 : β1 → β2 → Δs} {xs : β1 → List Int} {j : β1 → β2 → Int}
end
section
variable {a : Expr} {pos p : Pos} {β : Type} {T : Option γ} {Δ1 : β → Δs} {xs : β → List Int} {k : β → Option γ}
end
end
end L3
end
section
set_option maxHeartbeats 4000000
namespace L3
open PySem PySem.Spec PyProof.Rows L2
class Ky (κ : Type) where
  ky : κ → Key
  kp : κ → Pd
  inj : ∀ {x y : κ}, ky x = ky y → x = y
  is : ∀ {x : κ} {H : Hp} {v : V}, (kp x).pr H v → v = kV (ky x)
  of : ∀ (x : κ) (H : Hp), (kp x).pr H (kV (ky x))
@[reducible] instance kyS : Ky Str := { ky := .inr, kp := pStr, inj := fun h => Sum.inr.inj h, is := fun h => h, of := fun _ _ => rfl }
@[reducible] instance kyI : Ky Int := { ky := .inl, kp := pInt, inj := fun h => Sum.inl.inj h, is := fun h => h, of := fun _ _ => rfl }
section
variable {κ α : Type} [DecidableEq κ]
def dget (d : List (κ × α)) (k : κ) : Option α := (d.find? fun p => decide (p.1 = k)).map (·.2)
def dput (d : List (κ × α)) (k : κ) (v : α) : List (κ × α) := if (d.any fun p => decide (p.1 = k)) = true then d.map (fun p => if p.1 = k then (p.1, v) else p) else d ++ [(k, v)]
end
section
variable {κ α : Type} [DecidableEq κ] [Ky κ]
abbrev PrM (E : α → Pd) (H : Hp) (x : κ × α) (u : Key × V) : Prop := u.1 = Ky.ky x.1 ∧ (E x.2).pr H u.2
theorem prM_mono {E : α → Pd} {H H' : Hp} (f : Fzs H H') {xs : List (κ × α)} {us : List (Key × V)} (p : Paired (PrM E H) xs us) : Paired (PrM E H') xs us := paired_mono (fun x _ q => ⟨q.1, (E x.2).mono f q.2⟩) p
def pM (E : α → Pd) (xs : List (κ × α)) : Pd where
  pr H v := ∃ a o kvs, v = .ref a ∧ H a = some (.frz o (.dK kvs)) ∧ xs.length ≤ sizeLine ∧ Paired (PrM E H) xs kvs
  mono := fun f ⟨a, o, vs, e, h, z, p⟩ => ⟨a, o, vs, e, f _ _ trivial h, z, prM_mono f p⟩
end
section
variable {X : Cx} {W : Bool} {F : Fm} {Γ : Gm} {Δ : Δs} {γ : Type} {κ α : Type} [DecidableEq κ] [Ky κ]
section
variable {a b : Expr} {pos : Pos} {β1 β2 : Type} {T : Option γ} {k1 : β1 → Option γ} {Δ1 : β1 → Δs} {Δ2 : β1 → β2 → Δs} {E1 : β1 → Pd} {Ee : α → Pd} {xs : β1 → β2 → List (κ × α)} {j : β1 → β2 → κ}
end
section
variable {a b : Expr} {pos : Pos} {β1 β2 : Type} {T : Option γ} {k1 : β1 → Option γ} {k : β1 × β2 → Option γ} {Δ1 : β1 → Δs} {Δ2 : β1 → β2 → Δs} {E2 : β1 → β2 → Pd} {Ee : α → Pd} {xs : β1 → β2 → List (κ × α)} {i : β1 → κ}
end
end
end L3
end
section
set_option maxHeartbeats 4000000
namespace L3
open PySem PySem.Spec PyProof.Rows L2
section
variable {X : Cx} {W : Bool} {F : Fm} {Γ : Gm} {Δ : Δs} {γ : Type} {κ α : Type} [DecidableEq κ] [Ky κ]
section
variable {e a : Expr} {r : V → Hp → VK → Prop} {β : Type} {T : Option γ} {E1 : β → Pd} {Δ1 : β → Δs}
end
section
variable {a : Expr} {pos p : Pos} {β : Type} {T : Option γ} {Δ1 : β → Δs} {E1 : β → Pd} {Ee : α → Pd} {xs : β → List (κ × α)} {k : β → Option γ}
end
section
variable {N : Fn γ} {rest : List Stmt}
end
end
end L3
end
section
set_option maxHeartbeats 4000000
namespace L3
open PySem PySem.Spec PyProof.Rows L2
section
variable {κ α : Type} [DecidableEq κ] [DecidableEq α]
end
section
variable {X : Cx} {W : Bool} {F : Fm} {Γ : Gm} {Δ : Δs} {γ : Type} {κ α : Type} [DecidableEq κ] [Ky κ] [DecidableEq α]
section
variable {a b : Expr} {pos : Pos} {β1 β2 : Type} {T : Option γ} {k1 : β1 → Option γ} {k : β1 × β2 → Option γ} {Δ1 : β1 → Δs} {Δ2 : β1 → β2 → Δs} {Ee : α → Pd} {E1 : β1 → Pd} {E2 : β1 → β2 → Pd} {xs ys : β1 → β2 → List (κ × α)}
end
end
section
variable {X : Cx} {W : Bool} {F : Fm} {Γ : Gm} {Δ : Δs} {γ : Type}
section
variable {a b : Expr} {p pos : Pos} {β1 β2 : Type} {T : Option γ} {k1 : β1 → Option γ} {k : β1 × β2 → Option γ} {Δ1 : β1 → Δs} {Δ2 : β1 → β2 → Δs} {i : β1 → Int} {j : β1 → β2 → Int}
end
section
variable {a b : Expr} {p pos : Pos} {β β1 β2 : Type} {T : Option γ} {k1 : β1 → Option γ} {Δ1 : β1 → Δs} {Δ0 : β → Δs} {Δ2 : β1 → β2 → Δs}
end
section
variable {o e : Expr} {apos cpos : Pos} {β1 β2 α : Type} {T : Option γ} {k1 : β1 → Option γ} {Δ1 : β1 → Δs} {Δ2 : β1 → β2 → Δs} {E1 : β1 → Pd} {Ee : α → Pd} {y : β1 → β2 → α}
end
end
end L3
end
section
set_option maxHeartbeats 4000000
namespace L3
open PySem PySem.Spec PyProof.Rows L2
section
variable {X : Cx} {W : Bool} {F : Fm} {Γ : Gm} {Δ : Δs} {γ : Type}
end
end L3
end
section
set_option maxHeartbeats 4000000
namespace L3
open PySem PySem.Spec PyProof.Rows L2
inductive Val where
  | non
  | bl (b : Bool)
  | int (i : Int)
  | str (x : Str)
  | lst (xs : List Val)
  | tup (xs : List Val)
  | dct (kvs : List (Key × Val))
  | ins (c : Str) (fs : List (Str × Val))
abbrev Mg := Str → Option Value
mutual
inductive VRep (mg : Mg) (H : Hp) : Val → V → Prop
  | non : VRep mg H .non .non
  | bl (b : Bool) : VRep mg H (.bl b) (.bl b)
  | int (i : Int) : VRep mg H (.int i) (.int i)
  | str (x : Str) : VRep mg H (.str x) (.str x)
  | lst {a : Addr} {o : Obj} {vs : List V} {xs : List Val} : H a = some (.frz o (.lst vs)) → xs.length ≤ sizeLine → VReps mg H xs vs → VRep mg H (.lst xs) (.ref a)
  | tup {a : Addr} {vs : List V} {xs : List Val} : H a = some (.tup vs) → xs.length ≤ sizeLine → VReps mg H xs vs → VRep mg H (.tup xs) (.ref a)
  | dct {a : Addr} {o : Obj} {ks : List (Key × V)} {kvs : List (Key × Val)} : H a = some (.frz o (.dK ks)) → kvs.length ≤ sizeLine → VRepD mg H kvs ks → VRep mg H (.dct kvs) (.ref a)
  | ins {a : Addr} {o : Obj} {C dx : Addr} {vs : List (Str × V)} {c : Str} {fs : List (Str × Val)} : H a = some (.frz o (.ins C dx vs)) → mg c = some (.ref C) → VRepF mg H fs vs → VRep mg H (.ins c fs) (.ref a)
inductive VReps (mg : Mg) (H : Hp) : List Val → List V → Prop
  | nil : VReps mg H [] []
  | cons {x : Val} {v : V} {xs : List Val} {vs : List V} : VRep mg H x v → VReps mg H xs vs → VReps mg H (x :: xs) (v :: vs)
inductive VRepD (mg : Mg) (H : Hp) : List (Key × Val) → List (Key × V) → Prop
  | nil : VRepD mg H [] []
  | cons {k : Key} {x : Val} {v : V} {xs : List (Key × Val)} {vs : List (Key × V)} : VRep mg H x v → VRepD mg H xs vs → VRepD mg H ((k, x) :: xs) ((k, v) :: vs)
inductive VRepF (mg : Mg) (H : Hp) : List (Str × Val) → List (Str × V) → Prop
  | nil : VRepF mg H [] []
  | cons {k : Str} {x : Val} {v : V} {xs : List (Str × Val)} {vs : List (Str × V)} : VRep mg H x v → VRepF mg H xs vs → VRepF mg H ((k, x) :: xs) ((k, v) :: vs)
end
mutual
theorem VRep.mono {mg : Mg} {H H' : Hp} (f : Fzs H H') : ∀ {x : Val} {v : V}, VRep mg H x v → VRep mg H' x v
  | _, _, .non => .non
  | _, _, .bl b => .bl b
  | _, _, .int i => .int i
  | _, _, .str x => .str x
  | _, _, .lst h z r => .lst (f _ _ trivial h) z (VReps.mono f r)
  | _, _, .tup h z r => .tup (f _ _ trivial h) z (VReps.mono f r)
  | _, _, .dct h z r => .dct (f _ _ trivial h) z (VRepD.mono f r)
  | _, _, .ins h m r => .ins (f _ _ trivial h) m (VRepF.mono f r)
theorem VReps.mono {mg : Mg} {H H' : Hp} (f : Fzs H H') : ∀ {x : List Val} {v : List V}, VReps mg H x v → VReps mg H' x v
  | _, _, .nil => .nil
  | _, _, .cons a b => .cons (VRep.mono f a) (VReps.mono f b)
theorem VRepD.mono {mg : Mg} {H H' : Hp} (f : Fzs H H') : ∀ {x : List (Key × Val)} {v : List (Key × V)}, VRepD mg H x v → VRepD mg H' x v
  | _, _, .nil => .nil
  | _, _, .cons a b => .cons (VRep.mono f a) (VRepD.mono f b)
theorem VRepF.mono {mg : Mg} {H H' : Hp} (f : Fzs H H') : ∀ {x : List (Str × Val)} {v : List (Str × V)}, VRepF mg H x v → VRepF mg H' x v
  | _, _, .nil => .nil
  | _, _, .cons a b => .cons (VRep.mono f a) (VRepF.mono f b)
end
inductive OTr where
  | fz (v : Val)
  | lst (xs : List OTr)
  | tup (xs : List OTr)
  | dct (kvs : List (Key × OTr))
  | ins (c : Str) (fs : List (Str × OTr))
mutual
def er : OTr → Val
  | .fz v => v
  | .lst xs => .lst (ers xs)
  | .tup xs => .tup (ers xs)
  | .dct kvs => .dct (erd kvs)
  | .ins c fs => .ins c (erf fs)
def ers : List OTr → List Val
  | [] => []
  | x :: xs => er x :: ers xs
def erd : List (Key × OTr) → List (Key × Val)
  | [] => []
  | (k, x) :: xs => (k, er x) :: erd xs
def erf : List (Str × OTr) → List (Str × Val)
  | [] => []
  | (k, x) :: xs => (k, er x) :: erf xs
end
theorem ers_len : ∀ xs : List OTr, (ers xs).length = xs.length
  | [] => by unfold ers; rfl
  | x :: xs => by unfold ers; rw [List.length_cons, ers_len xs, List.length_cons]
theorem erd_len : ∀ xs : List (Key × OTr), (erd xs).length = xs.length
  | [] => by unfold erd; rfl
  | (k, x) :: xs => by unfold erd; rw [List.length_cons, erd_len xs, List.length_cons]
mutual
inductive ORep (mg : Mg) (H : Hp) : OTr → V → List Addr → Prop
  | fz {v : Val} {x : V} : VRep mg H v x → ORep mg H (.fz v) x []
  | lst {a : Addr} {vs : List V} {xs : List OTr} {G : List Addr} : H a = some (.lst vs) → xs.length ≤ sizeLine → OReps mg H xs vs G → ORep mg H (.lst xs) (.ref a) (a :: G)
  | tup {a : Addr} {vs : List V} {xs : List OTr} {G : List Addr} : H a = some (.tup vs) → xs.length ≤ sizeLine → OReps mg H xs vs G → ORep mg H (.tup xs) (.ref a) G
  | dct {a : Addr} {ks : List (Key × V)} {kvs : List (Key × OTr)} {G : List Addr} : H a = some (.dK ks) → kvs.length ≤ sizeLine → ORepD mg H kvs ks G → ORep mg H (.dct kvs) (.ref a) (a :: G)
  | ins {a : Addr} {C dx : Addr} {vs : List (Str × V)} {c : Str} {fs : List (Str × OTr)} {G : List Addr} : H a = some (.ins C dx vs) → mg c = some (.ref C) → ORepF mg H fs vs G → ORep mg H (.ins c fs) (.ref a) (a :: G)
inductive OReps (mg : Mg) (H : Hp) : List OTr → List V → List Addr → Prop
  | nil : OReps mg H [] [] []
  | cons {x : OTr} {v : V} {xs : List OTr} {vs : List V} {G1 G2 : List Addr} : ORep mg H x v G1 → OReps mg H xs vs G2 → OReps mg H (x :: xs) (v :: vs) (G1 ++ G2)
inductive ORepD (mg : Mg) (H : Hp) : List (Key × OTr) → List (Key × V) → List Addr → Prop
  | nil : ORepD mg H [] [] []
  | cons {k : Key} {x : OTr} {v : V} {xs : List (Key × OTr)} {vs : List (Key × V)} {G1 G2 : List Addr} : ORep mg H x v G1 → ORepD mg H xs vs G2 → ORepD mg H ((k, x) :: xs) ((k, v) :: vs) (G1 ++ G2)
inductive ORepF (mg : Mg) (H : Hp) : List (Str × OTr) → List (Str × V) → List Addr → Prop
  | nil : ORepF mg H [] [] []
  | cons {k : Str} {x : OTr} {v : V} {xs : List (Str × OTr)} {vs : List (Str × V)} {G1 G2 : List Addr} : ORep mg H x v G1 → ORepF mg H xs vs G2 → ORepF mg H ((k, x) :: xs) ((k, v) :: vs) (G1 ++ G2)
end
abbrev Kp (G : List Addr) (H H' : Hp) : Prop := ∀ a ∈ G, ∀ o, H a = some o → H' a = some o
theorem Kp.l {G1 G2 : List Addr} {H H' : Hp} (k : Kp (G1 ++ G2) H H') : Kp G1 H H' := fun a ha => k a (List.mem_append_left _ ha)
theorem Kp.r {G1 G2 : List Addr} {H H' : Hp} (k : Kp (G1 ++ G2) H H') : Kp G2 H H' := fun a ha => k a (List.mem_append_right _ ha)
theorem Kp.t {a : Addr} {G : List Addr} {H H' : Hp} (k : Kp (a :: G) H H') : Kp G H H' := fun a ha => k a (List.mem_cons_of_mem _ ha)
mutual
theorem ORep.frame {mg : Mg} {H H' : Hp} (f : Fzs H H') : ∀ {x : OTr} {v : V} {G : List Addr}, ORep mg H x v G → Kp G H H' → ORep mg H' x v G
  | _, _, _, .fz h, _ => .fz (h.mono f)
  | _, _, _, .lst h z r, k => .lst (k _ List.mem_cons_self _ h) z (OReps.frame f r k.t)
  | _, _, _, .tup h z r, k => .tup (f _ _ trivial h) z (OReps.frame f r k)
  | _, _, _, .dct h z r, k => .dct (k _ List.mem_cons_self _ h) z (ORepD.frame f r k.t)
  | _, _, _, .ins h m r, k => .ins (k _ List.mem_cons_self _ h) m (ORepF.frame f r k.t)
theorem OReps.frame {mg : Mg} {H H' : Hp} (f : Fzs H H') : ∀ {x : List OTr} {v : List V} {G : List Addr}, OReps mg H x v G → Kp G H H' → OReps mg H' x v G
  | _, _, _, .nil, _ => .nil
  | _, _, _, .cons a b, k => .cons (ORep.frame f a k.l) (OReps.frame f b k.r)
theorem ORepD.frame {mg : Mg} {H H' : Hp} (f : Fzs H H') : ∀ {x : List (Key × OTr)} {v : List (Key × V)} {G : List Addr}, ORepD mg H x v G → Kp G H H' → ORepD mg H' x v G
  | _, _, _, .nil, _ => .nil
  | _, _, _, .cons a b, k => .cons (ORep.frame f a k.l) (ORepD.frame f b k.r)
theorem ORepF.frame {mg : Mg} {H H' : Hp} (f : Fzs H H') : ∀ {x : List (Str × OTr)} {v : List (Str × V)} {G : List Addr}, ORepF mg H x v G → Kp G H H' → ORepF mg H' x v G
  | _, _, _, .nil, _ => .nil
  | _, _, _, .cons a b, k => .cons (ORep.frame f a k.l) (ORepF.frame f b k.r)
end
abbrev Muts (G : List Addr) (H : Hp) : Prop := ∀ a ∈ G, ∃ o, H a = some o ∧ Mut (some o)
theorem Muts.cons {a : Addr} {G : List Addr} {H : Hp} {o : HO} (h : H a = some o) (m : Mut (some o)) (t : Muts G H) : Muts (a :: G) H := fun b hb => by
  rcases List.mem_cons.mp hb with e | hb
  · rw [e]; exact ⟨o, h, m⟩
  · exact t b hb
theorem Muts.app {G1 G2 : List Addr} {H : Hp} (a : Muts G1 H) (b : Muts G2 H) : Muts (G1 ++ G2) H := fun x hx => (List.mem_append.mp hx).elim (a x) (b x)
mutual
theorem ORep.cells {mg : Mg} {H : Hp} : ∀ {x : OTr} {v : V} {G : List Addr}, ORep mg H x v G → Muts G H
  | _, _, _, .fz _ => fun _ h => absurd h List.not_mem_nil
  | _, _, _, .lst h _ r => Muts.cons h trivial (OReps.cells r)
  | _, _, _, .tup _ _ r => OReps.cells r
  | _, _, _, .dct h _ r => Muts.cons h trivial (ORepD.cells r)
  | _, _, _, .ins h _ r => Muts.cons h trivial (ORepF.cells r)
theorem OReps.cells {mg : Mg} {H : Hp} : ∀ {x : List OTr} {v : List V} {G : List Addr}, OReps mg H x v G → Muts G H
  | _, _, _, .nil => fun _ h => absurd h List.not_mem_nil
  | _, _, _, .cons a b => Muts.app (ORep.cells a) (OReps.cells b)
theorem ORepD.cells {mg : Mg} {H : Hp} : ∀ {x : List (Key × OTr)} {v : List (Key × V)} {G : List Addr}, ORepD mg H x v G → Muts G H
  | _, _, _, .nil => fun _ h => absurd h List.not_mem_nil
  | _, _, _, .cons a b => Muts.app (ORep.cells a) (ORepD.cells b)
theorem ORepF.cells {mg : Mg} {H : Hp} : ∀ {x : List (Str × OTr)} {v : List (Str × V)} {G : List Addr}, ORepF mg H x v G → Muts G H
  | _, _, _, .nil => fun _ h => absurd h List.not_mem_nil
  | _, _, _, .cons a b => Muts.app (ORep.cells a) (ORepF.cells b)
end
abbrev Lkd (S : List Addr) (H H1 : Hp) : Prop := ∀ a ∈ S, ∀ u, H a = some u → ∃ o, H1 a = some (.frz o u)
theorem Lkd.l {G1 G2 : List Addr} {H H' : Hp} (k : Lkd (G1 ++ G2) H H') : Lkd G1 H H' := fun a ha => k a (List.mem_append_left _ ha)
theorem Lkd.r {G1 G2 : List Addr} {H H' : Hp} (k : Lkd (G1 ++ G2) H H') : Lkd G2 H H' := fun a ha => k a (List.mem_append_right _ ha)
theorem Lkd.t {a : Addr} {G : List Addr} {H H' : Hp} (k : Lkd (a :: G) H H') : Lkd G H H' := fun a ha => k a (List.mem_cons_of_mem _ ha)
mutual
theorem ORep.lockd {mg : Mg} {H H1 : Hp} (f : Fzs H H1) : ∀ {x : OTr} {v : V} {G : List Addr}, ORep mg H x v G → Lkd G H H1 → VRep mg H1 (er x) v
  | _, _, _, .fz h, _ => by unfold er; exact h.mono f
  | _, _, _, .lst h z r, k => by
    obtain ⟨o, ho⟩ := k _ List.mem_cons_self _ h
    unfold er
    exact .lst ho (by rw [ers_len]; exact z) (OReps.lockd f r k.t)
  | _, _, _, .tup h z r, k => by
    unfold er
    exact .tup (f _ _ trivial h) (by rw [ers_len]; exact z) (OReps.lockd f r k)
  | _, _, _, .dct h z r, k => by
    obtain ⟨o, ho⟩ := k _ List.mem_cons_self _ h
    unfold er
    exact .dct ho (by rw [erd_len]; exact z) (ORepD.lockd f r k.t)
  | _, _, _, .ins h m r, k => by
    obtain ⟨o, ho⟩ := k _ List.mem_cons_self _ h
    unfold er
    exact .ins ho m (ORepF.lockd f r k.t)
theorem OReps.lockd {mg : Mg} {H H1 : Hp} (f : Fzs H H1) : ∀ {x : List OTr} {v : List V} {G : List Addr}, OReps mg H x v G → Lkd G H H1 → VReps mg H1 (ers x) v
  | _, _, _, .nil, _ => by unfold ers; exact .nil
  | _, _, _, .cons a b, k => by unfold ers; exact .cons (ORep.lockd f a k.l) (OReps.lockd f b k.r)
theorem ORepD.lockd {mg : Mg} {H H1 : Hp} (f : Fzs H H1) : ∀ {x : List (Key × OTr)} {v : List (Key × V)} {G : List Addr}, ORepD mg H x v G → Lkd G H H1 → VRepD mg H1 (erd x) v
  | _, _, _, .nil, _ => by unfold erd; exact .nil
  | _, _, _, .cons a b, k => by unfold erd; exact .cons (ORep.lockd f a k.l) (ORepD.lockd f b k.r)
theorem ORepF.lockd {mg : Mg} {H H1 : Hp} (f : Fzs H H1) : ∀ {x : List (Str × OTr)} {v : List (Str × V)} {G : List Addr}, ORepF mg H x v G → Lkd G H H1 → VRepF mg H1 (erf x) v
  | _, _, _, .nil, _ => by unfold erf; exact .nil
  | _, _, _, .cons a b, k => by unfold erf; exact .cons (ORep.lockd f a k.l) (ORepF.lockd f b k.r)
end
end L3
end
section
set_option maxHeartbeats 4000000
namespace L3
open PySem PySem.Spec PyProof.Rows L2
structure Dg {α : Type} [DecidableEq α] (E : α → Pd) where
  toD : α → PyData
  dp : ∀ {K H v x}, (E x).pr H v → Dp K H v (toD x)
  dep : Nat
  ok : α → Bool
  can : ∀ x, ok x = true → (toD x).canLay0 = true
  deep : ∀ x, (toD x).depth ≤ dep
  eq : ∀ x y, PyData.eqv (toD x) (toD y) = decide (x = y)
def Dt.g {α : Type} [DecidableEq α] {E : α → Pd} (d : Dt E) : Dg E := ⟨d.toD, d.dp, d.dep, fun _ => true, fun x _ => d.can x, d.deep, d.eq⟩
section
variable {X : Cx} {W : Bool} {F : Fm} {Γ : Gm} {Δ : Δs} {γ : Type} {a b : Expr} {pos : Pos} {β1 β2 α : Type} [DecidableEq α] {T : Option γ} {k1 : β1 → Option γ} {k : β1 × β2 → Option γ} {Δ1 : β1 → Δs} {Δ2 : β1 → β2 → Δs} {Ee : α → Pd} {x : β1 → α} {y : β1 → β2 → α}
end
section
variable {X : Cx} {W : Bool} {F : Fm} {Γ : Gm} {Δ : Δs} {γ : Type}
section
variable {a b : Expr} {pos : Pos} {β1 β2 : Type} {T : Option γ} {k1 : β1 → Option γ} {k : β1 × β2 → Option γ} {Δ1 : β1 → Δs} {Δ2 : β1 → β2 → Δs} {i : β1 → Int} {v0 : V} {xs : β1 → β2 → List Int} {prm : Option Nat}
end
end
end L3
end
section
set_option maxHeartbeats 4000000
namespace L3
open PySem PySem.Spec PyProof.Rows L2
section
variable {X : Cx} {W : Bool} {F : Fm} {Γ : Gm} {Δ : Δs} {γ : Type}
variable {α α2 β β4 β5 δ : Type} {g g2 : TG} {own : List (Str × Nat)} {vs1 : List Nat} {T : Option γ} {k0 : β → Option γ} {k : β × List δ → Option γ} {Ex : α → Pd} {Ex2 : α2 → Pd} {Ee : δ → Pd} {bd : Gm → α → Gm} {bd2 : Gm → α2 → Gm} {xs : β → List α} {C : β → Δs} {f : β → α → Option (List δ)}
    {ys : β → α → β4 → List α2} {h : β → α → β4 → α2 → Option δ} {e : β → α → β4 → α2 → β5 → δ}
end
end L3
end
section
set_option maxHeartbeats 4000000
namespace L3
open PySem PySem.Spec PyProof.Rows L2
theorem at_split {α : Type} {x : α} : ∀ {l : List α} {m : Nat}, l[m]? = some x → ∃ A B, l = A ++ x :: B ∧ ∀ y, l.set m y = A ++ y :: B
  | [], m, h => by simp at h
  | y :: l, 0, h => by
    simp at h
    subst h
    exact ⟨[], l, rfl, fun _ => rfl⟩
  | y :: l, m + 1, h => by
    obtain ⟨A, B, e, s⟩ := at_split (l := l) (m := m) (by simpa using h)
    exact ⟨y :: A, B, by rw [e]; rfl, fun z => by rw [List.set_cons_succ, s z]; rfl⟩
theorem flat_set {gs : List (List Addr)} {m : Nat} {g g' : List Addr} (hg : gs[m]? = some g) (nd : gs.flatten.Nodup) (nd' : g'.Nodup) (ds : ∀ a ∈ g', a ∈ g ∨ a ∉ gs.flatten) : (gs.set m g').flatten.Nodup ∧ ∀ a ∈ (gs.set m g').flatten, (a ∈ gs.flatten ∧ a ∉ g) ∨ a ∈ g' := by
  obtain ⟨A, B, e, s⟩ := at_split hg
  rw [s g']
  subst e
  simp only [List.flatten_append, List.flatten_cons] at nd ds ⊢
  obtain ⟨n1, n2, n3⟩ := List.nodup_append.mp nd
  obtain ⟨n4, n5, n6⟩ := List.nodup_append.mp n2
  have dA : ∀ a ∈ A.flatten, a ∉ g' := fun a ha h => by
    rcases ds a h with h | h
    · exact n3 a ha a (List.mem_append_left _ h) rfl
    · exact h (List.mem_append_left _ ha)
  have dB : ∀ a ∈ B.flatten, a ∉ g' := fun a ha h => by
    rcases ds a h with h | h
    · exact n6 a h a ha rfl
    · exact h (List.mem_append_right _ (List.mem_append_right _ ha))
  refine ⟨List.nodup_append.mpr ⟨n1, List.nodup_append.mpr ⟨nd', n5, fun a ha b hb z => ?_⟩, fun a ha b hb z => ?_⟩, fun a ha => ?_⟩
  · subst z; exact dB a hb ha
  · subst z
    rcases List.mem_append.mp hb with h | h
    · exact dA a ha h
    · exact n3 a ha a (List.mem_append_right _ h) rfl
  · rcases List.mem_append.mp ha with h | h
    · exact .inl ⟨List.mem_append_left _ h, fun z => n3 a h a (List.mem_append_left _ z) rfl⟩
    · rcases List.mem_append.mp h with h | h
      · exact .inr h
      · exact .inl ⟨List.mem_append_right _ (List.mem_append_right _ h), fun z => n6 a z a h rfl⟩
theorem Own3.turnG {α : Type} {D : α → Od} {H H' : Hp} {y : α} {v : V} {g g' : List Addr} (f : Fzs H H') (new : (D y).pr g' H' v) : ∀ {xs : List α} {vs : List V} {gs : List (List Addr)} {m : Nat}, Own3 D H xs vs gs → gs.flatten.Nodup → (∀ a ∈ gs.flatten, a ∉ g → ∀ o, H a = some o → H' a = some o) → m < xs.length → gs[m]? = some g → Own3 D H' (xs.set m y) (vs.set m v) (gs.set m g')
  | _, _, _, _, .nil, _, _, e, _ => by simp at e
  | _, _, _, 0, .cons r t, nd, kp, e1, e2 => by
    simp at e2
    subst e2
    rw [List.flatten_cons] at nd kp
    exact .cons new (t.frame f fun a ha o e => kp a (List.mem_append_right _ ha) (fun hg => (List.nodup_append.mp nd).2.2 a hg a ha rfl) o e)
  | _, _, g0 :: gs, m + 1, .cons r t, nd, kp, e1, e2 => by
    rw [List.flatten_cons] at nd kp
    have e2' : gs[m]? = some g := by simpa using e2
    refine .cons ((D _).frame r (fun a ha o e => kp a (List.mem_append_left _ ha) (fun hg => ?_) o e) f) (Own3.turnG f new t (List.nodup_append.mp nd).2.1 (fun a ha => kp a (List.mem_append_right _ ha)) (by simpa using e1) e2')
    exact (List.nodup_append.mp nd).2.2 a ha a (List.mem_flatten.mpr ⟨g, List.mem_of_getElem? e2', hg⟩) rfl
section
variable {κ α : Type} [DecidableEq κ]
theorem dput_set {xs : List (κ × α)} {k : κ} {x y : α} {m : Nat} (nd : (xs.map Prod.fst).Nodup) (h : xs[m]? = some (k, x)) : dput xs k y = xs.set m (k, y) := by
  have hany : (xs.any fun p => decide (p.1 = k)) = true := List.any_eq_true.mpr ⟨(k, x), List.mem_of_getElem? h, by simp⟩
  unfold dput
  rw [if_pos hany]
  clear hany
  induction xs generalizing m with
  | nil => simp at h
  | cons p xs ih =>
    rw [List.map_cons, List.nodup_cons] at nd
    cases m with
    | zero =>
      simp at h
      subst h
      rw [List.map_cons, if_pos rfl, List.set_cons_zero]
      congr 1
      refine (List.map_congr_left fun q hq => ?_).trans (List.map_id _)
      rw [if_neg]
      · rfl
      · intro e
        exact nd.1 (List.mem_map.mpr ⟨q, hq, e⟩)
    | succ m =>
      have h' : xs[m]? = some (k, x) := by simpa using h
      rw [List.map_cons, List.set_cons_succ, ih nd.2 h', if_neg]
      intro e
      exact nd.1 (List.mem_map.mpr ⟨_, List.mem_of_getElem? h', e.symm⟩)
theorem dget_at {xs : List (κ × α)} {k : κ} {x : α} (h : dget xs k = some x) : ∃ m : Nat, xs[m]? = some (k, x) := by
  unfold dget at h
  cases e : xs.find? fun p => decide (p.1 = k) with
  | none => rw [e] at h; cases h
  | some p =>
    rw [e] at h
    have h : p.2 = x := Option.some.inj h
    have e1 : p.1 = k := by simpa using List.find?_some e
    obtain ⟨m, hm⟩ := List.getElem?_of_mem (List.mem_of_find?_eq_some e)
    exact ⟨m, by rw [hm, ← h, ← e1]⟩
end
section
variable {κ α : Type} [DecidableEq κ] [Ky κ]
theorem prM_of {E : α → Pd} {H : Hp} : ∀ {xs : List (κ × α)} {us : List (Key × V)}, us.map (·.1) = xs.map (fun x => Ky.ky x.1) → Paired (fun x u => (E x.2).pr H u) xs (us.map (·.2)) → Paired (PrM E H) xs us
  | [], [], _, _ => .nil
  | [], _ :: _, e, _ => by cases e
  | _ :: _, [], e, _ => by cases e
  | x :: xs, u :: us, e, .cons r t => by
    rw [List.map_cons, List.map_cons] at e
    injection e with e1 e2
    exact .cons ⟨e1, r⟩ (prM_of e2 t)
def oMO (D : α → Od) (xs : List (κ × α)) : Od where
  pr G H v := ∃ p kvs gs, G = p :: gs.flatten ∧ v = .ref p ∧ H p = some (.dK kvs) ∧ xs.length ≤ sizeLine ∧ (xs.map Prod.fst).Nodup ∧ kvs.map (·.1) = xs.map (fun x => Ky.ky x.1) ∧ Own3 (fun x : κ × α => D x.2) H xs (kvs.map (·.2)) gs
  pd := pM (fun x => (D x).pd) xs
  frame := fun {G H H' v} h k f => by
    obtain ⟨p, vs, gs, eg, ev, h, z, nd, ks, q⟩ := h
    exact ⟨p, vs, gs, eg, ev, k p (by rw [eg]; exact List.mem_cons_self) _ h, z, nd, ks, q.frame f fun a ha => k a (by rw [eg]; exact List.mem_cons_of_mem _ ha)⟩
  cells := fun ⟨p, vs, gs, eg, ev, h, z, nd, ks, q⟩ a ha => by
    rw [eg] at ha
    rcases List.mem_cons.mp ha with e | ha
    · rw [e]; exact ⟨_, h, trivial⟩
    · exact q.cells a ha
  lockd := fun {G H H1 v} ⟨p, vs, gs, eg, ev, h, z, nd, ks, q⟩ h1 h2 => by
    obtain ⟨o, ho⟩ := h2 p (by rw [eg]; exact List.mem_cons_self) _ h
    have hm : ∀ a ∈ G, ∃ o, H a = some o ∧ Mut (some o) := fun a ha => by
      rw [eg] at ha
      rcases List.mem_cons.mp ha with e | ha
      · rw [e]; exact ⟨_, h, trivial⟩
      · exact q.cells a ha
    exact ⟨p, o, vs, ev, ho, z, prM_of ks (q.lockd (D := fun x : κ × α => D x.2) h1 h2 hm fun a ha => by rw [eg]; exact List.mem_cons_of_mem _ ha)⟩
theorem valV_at {us : List (Key × V)} {k : Key} {v : V} {m : Nat} (nd : (us.map (·.1)).Nodup) (h : us[m]? = some (k, v)) : valV us k = some v := by
  induction us generalizing m with
  | nil => simp at h
  | cons p us ih =>
    rw [List.map_cons, List.nodup_cons] at nd
    cases m with
    | zero =>
      simp at h
      subst h
      exact valV_pos rfl
    | succ m =>
      have h' : us[m]? = some (k, v) := by simpa using h
      rw [valV_neg (fun e => nd.1 (List.mem_map.mpr ⟨_, List.mem_of_getElem? h', e.symm⟩))]
      exact ih nd.2 h'
end
theorem nodup_mapI {β δ : Type} {f : β → δ} (hf : ∀ a b, f a = f b → a = b) {l : List β} (nd : l.Nodup) : (l.map f).Nodup := List.Pairwise.map f (fun a b h e => h (hf a b e)) nd
theorem set_self' {β : Type} {x : β} : ∀ {l : List β} {m : Nat}, l[m]? = some x → l.set m x = l
  | [], _, h => by simp at h
  | y :: l, 0, h => by simp at h; subst h; rfl
  | y :: l, m + 1, h => by rw [List.set_cons_succ, set_self' (by simpa using h)]
def Foc {α : Type} (d : Od) (v : V) (D : α → Od) (x : α) (back : α → Od) (u : V) (H : Hp) : Prop :=
  ∀ H1 G, Gr H H1 → d.pr G H1 v → G.Nodup → ∃ G2, (D x).pr G2 H1 u ∧ (∀ a ∈ G2, a ∈ G) ∧ G2.Nodup ∧
    ∀ H' y G2', (∀ a ∈ G, a ∉ G2 → ∀ o, H1 a = some o → H' a = some o) → Fzs H1 H' → G2'.Nodup → (∀ a ∈ G2', a ∈ G2 ∨ a ∉ G) → (D y).pr G2' H' u →
      ∃ G', (back y).pr G' H' v ∧ G'.Nodup ∧ ∀ a ∈ G', (a ∈ G ∧ a ∉ G2) ∨ a ∈ G2'
section
variable {X : Cx} {W : Bool} {F : Fm} {Γ : Gm} {Δ : Δs} {γ : Type}
theorem Foc.key {κ α : Type} [DecidableEq κ] [Ky κ] {d : Od} {v : V} {D : α → Od} {xs : List (κ × α)} {back : List (κ × α) → Od} {u : V} {H : Hp} {n : κ} {x : α} {p : Addr} {kvs : List (Key × V)} {w : V} (f : Foc d v (oMO D) xs back u H) (hu : u = .ref p) (hp : H p = some (.dK kvs)) (hx : dget xs n = some x) (hw : valV kvs (Ky.ky n) = some w) : Foc d v D x (fun y => back (dput xs n y)) w H := fun H1 G g1 hd nd => by
  obtain ⟨G2, ⟨p', kvs', gs, eg, eu, hp', z, ndk, ks, o3⟩, sb, nd2, tr⟩ := f H1 G g1 hd nd
  have eg : G2 = p' :: gs.flatten := eg
  have eu : u = .ref p' := eu
  rw [hu] at eu
  cases eu
  rw [g1 _ _ hp] at hp'
  cases hp'
  subst eg
  obtain ⟨m, hm⟩ := dget_at hx
  obtain ⟨w', g, hvw, hg, pw⟩ := o3.at hm
  have pw : (D x).pr g H1 w' := pw
  have ndkv : (kvs.map (·.1)).Nodup := by
    rw [ks]
    have e : xs.map (fun x => Ky.ky x.1) = (xs.map Prod.fst).map Ky.ky := by rw [List.map_map]; rfl
    rw [e]
    exact nodup_mapI (fun a b e => Ky.inj e) ndk
  have hkv : kvs[m]? = some (Ky.ky n, w') := by
    have h1 : (kvs.map (·.1))[m]? = some (Ky.ky n) := by rw [ks, List.getElem?_map, hm]; rfl
    rw [List.getElem?_map] at h1 hvw
    cases hk : kvs[m]? with
    | none => rw [hk] at h1; cases h1
    | some q =>
      rw [hk] at h1 hvw
      have h1 : q.1 = Ky.ky n := Option.some.inj h1
      have h2 : q.2 = w' := Option.some.inj hvw
      rw [← h1, ← h2]
  have ew : w' = w := by
    have := valV_at ndkv hkv
    rw [hw] at this
    exact (Option.some.inj this).symm
  subst ew
  obtain ⟨pG, ndG⟩ := List.nodup_cons.mp nd2
  have sg : ∀ a ∈ g, a ∈ gs.flatten := fun a ha => List.mem_flatten.mpr ⟨g, List.mem_of_getElem? hg, ha⟩
  have ndg : g.Nodup := by
    obtain ⟨A, B, e, _⟩ := at_split hg
    rw [e, List.flatten_append, List.flatten_cons] at ndG
    exact (List.nodup_append.mp (List.nodup_append.mp ndG).2.1).1
  refine ⟨g, pw, fun a ha => sb a (List.mem_cons_of_mem _ (sg a ha)), ndg, fun H' y G3 kp fz nd3 ds h3 => ?_⟩
  have hml : m < xs.length := (List.getElem?_eq_some_iff.mp hm).1
  have nin : ∀ a ∈ G3, a ∈ g ∨ a ∉ gs.flatten := fun a ha => (ds a ha).imp (fun h => h) fun h z => h (sb a (List.mem_cons_of_mem _ z))
  obtain ⟨fs1, fs2⟩ := flat_set hg ndG nd3 nin
  have pg : p ∉ g := fun z => pG (sg p z)
  have pn : p ∉ G3 := fun z => (ds p z).elim pg fun h => h (sb p List.mem_cons_self)
  have vset : (kvs.map (·.2)).set m w' = kvs.map (·.2) := set_self' hvw
  obtain ⟨G', hb, nb, mb⟩ := tr H' (dput xs n y) (p :: (gs.set m G3).flatten) (fun a ha na o e => kp a ha (fun z => na (List.mem_cons_of_mem _ (sg a z))) o e) fz (List.nodup_cons.mpr ⟨fun z => (fs2 p z).elim (fun h => pG h.1) pn, fs1⟩) (fun a ha => by
      rcases List.mem_cons.mp ha with e | ha
      · exact .inl (by rw [e]; exact List.mem_cons_self)
      · rcases fs2 a ha with h | h
        · exact .inl (List.mem_cons_of_mem _ h.1)
        · exact (ds a h).imp (fun z => List.mem_cons_of_mem _ (sg a z)) fun h => h) ⟨p, kvs, gs.set m G3, rfl, hu, kp p (sb p List.mem_cons_self) pg _ (g1 _ _ hp), by rw [dput_set ndk hm, List.length_set]; exact z, by
        rw [dput_set ndk hm, List.map_set, set_self' (by rw [List.getElem?_map, hm]; rfl)]; exact ndk, by
        rw [dput_set ndk hm, List.map_set, set_self' (by rw [List.getElem?_map, hm]; rfl)]; exact ks, by
        rw [dput_set ndk hm, ← vset]
        exact o3.turnG (y := (n, y)) fz h3 ndG (fun a ha na o e => kp a (sb a (List.mem_cons_of_mem _ ha)) na o e) hml hg⟩
  refine ⟨G', hb, nb, fun a ha => ?_⟩
  rcases mb a ha with ⟨h1, h2⟩ | h
  · exact .inl ⟨h1, fun z => h2 (List.mem_cons_of_mem _ (sg a z))⟩
  · rcases List.mem_cons.mp h with e | h
    · exact .inl ⟨by rw [e]; exact sb p List.mem_cons_self, by rw [e]; exact pg⟩
    · rcases fs2 a h with ⟨h1, h2⟩ | h
      · exact .inl ⟨sb a (List.mem_cons_of_mem _ h1), h2⟩
      · exact .inr h
end
end L3
end
section
set_option maxHeartbeats 4000000
namespace L3
open PySem PySem.Spec PyProof.Rows L2
section
variable {X : Cx} {W : Bool} {F : Fm} {Γ : Gm} {Δ : Δs} {γ : Type}
section
variable {o i e : Expr} {pos : Pos} {β1 β2 α : Type} {T : Option γ} {k1 : β1 → Option γ} {v : V} {d : Od} {D : α → Od} {prm : Option Nat}
end
section
variable {o e : Expr} {apos cpos : Pos} {β1 β2 α : Type} {T : Option γ} {k1 : β1 → Option γ} {k : β1 × β2 → Option γ} {v : V} {d : Od} {prm : Option Nat} {xs : β1 → List α} {back : β1 → List α → Od} {y : β1 → β2 → α}
end
section
variable {N : Fn γ} {rest : List Stmt} {κ : Type} [DecidableEq κ] [Ky κ]
end
end
end L3
end
section
set_option maxHeartbeats 4000000
namespace L3
open PySem PySem.Spec PyProof.Rows L2
section
variable {X : Cx} {W : Bool} {F : Fm} {Γ : Gm} {Δ : Δs} {γ : Type}
section
variable {κ δ : Type} [DecidableEq κ] [Ky κ]
variable {α β β2 β3 : Type} {g : TG} {own : List (Str × Nat)} {T : Option γ} {k : β × List (κ × δ) → Option γ} {Ex : α → Pd} {D : δ → Od} {bd : Gm → α → Gm} {xs : β → List α} {Δ1 : β → Δs} {f : β → α → Option (κ × δ)} {T2 : β → α → β2 → Option (κ × δ)} {ky : β → α → β2 → κ} {y : β → α → β2 → β3 → δ}
end
end
end L3
end
section
set_option maxHeartbeats 4000000
namespace PySem.SeqAt
open AutoSeq1 (wpAny_loadPart')
open MeetsSeq MeetsSeq2 MeetsSeq3 SeqRoads2
section
variable {prog : Program} {w : World}
end
end PySem.SeqAt
end
section
set_option maxHeartbeats 4000000
namespace L3
open PySem PySem.Spec PyProof.Rows L2
section
variable {κ α : Type} [DecidableEq κ] [Ky κ]
end
section
variable {α : Type}
end
end L3
end
section
set_option maxHeartbeats 4000000
namespace L3
open PySem PySem.Spec PyProof.Rows L2
section
variable {X : Cx} {W : Bool} {F : Fm} {Γ : Gm} {Δ : Δs} {γ : Type}
section
variable {a b : Expr} {pos : Pos} {β1 β2 α : Type} {T : Option γ} {k1 : β1 → Option γ} {k : β1 × β2 → Option γ} {Δ1 : β1 → Δs} {Δ2 : β1 → β2 → Δs} {Ee : α → Pd} {x : β1 → List α} {y : β1 → β2 → List α}
end
end
end L3
end
section
set_option maxHeartbeats 4000000
set_option autoImplicit true
namespace L3
open PySem PySem.Spec PyProof.Rows L2
section
variable {X : Cx} {W : Bool} {F : Fm} {Γ : Gm} {Δ : Δs} {γ : Type}
section
variable {e a b : Expr} {r : R2} {β1 β2 : Type} {T : Option γ} {k1 : β1 → Option γ} {E1 : β1 → Pd} {E2 : β1 → β2 → Pd} {Δ1 : β1 → Δs} {Δ2 : β1 → β2 → Δs}
end
section
variable {a b : Expr} {pos : Pos} {β1 β2 α : Type} {T : Option γ} {k1 : β1 → Option γ} {k : β1 × β2 → Option γ} {Δ1 : β1 → Δs} {Δ2 : β1 → β2 → Δs} {Ee : α → Pd} {x : β1 → List α} {y : β1 → β2 → List α}
end
section
variable {a b : Expr} {pos : Pos} {β1 β2 α : Type} [DecidableEq α] {T : Option γ} {k1 : β1 → Option γ} {k : β1 × β2 → Option γ} {Δ1 : β1 → Δs} {Δ2 : β1 → β2 → Δs} {Ee : α → Pd} {x : β1 → α} {y : β1 → β2 → α}
end
end
end L3
end
section
set_option maxHeartbeats 2000000
namespace PySem
namespace SxX
open PySem.W PySem.Calls PyProof.Rows PySem.HandSPX
inductive Stores : List Stmt → List Str → Prop
  | nil : Stores [] []
  | cons {rest : List Stmt} {fs : List Str} {f : Str} {q1 q2 q3 q4 : Pos} (hd : (f == ("__debug__" : Str)) = false) (h : Stores rest fs) : Stores (.Assign [.Attribute (.Name "self" q1) f q2] (.Name f q3) q4 :: rest) (f :: fs)
section
variable {prog : Program} {w : World} {A : Around} {E : Value → Shared → Prop} {K : Frag} {C x L t1 : Addr} {env : Env} {g : Array GenState} {d : Drawn} {os : OsState} {hb : Heap} {m : Str → Option Value} {cd : ClassData}
end
end SxX
end PySem
end
section
set_option maxHeartbeats 2000000
namespace PySem
namespace SxX
open PySem.W PySem.Calls PyProof.Rows PySem.HandSPX
structure SxTxt (prog : Program) (K : Frag) (C fI : Addr) (ps : List Str) : Prop where
  cls : ∃ nm q N bs bm sn sub ab col dd k0 k1 k2 k3 k5, K.lookup C = some (excClassObj nm q C N bs bm true sn sub ab col dd k0 k1 k2 k3 k5 "ValueError.__new__") ∧ refsVE bm = true
  sa : findIn K (.ref C) "__setattr__" = some (some (.builtin "object.__setattr__"))
  noN : ∀ f ∈ ps, findIn K (.ref C) f = some none
  iC : findIn K (.ref C) "__init__" = some (some (.ref fI))
  tC : typeIn K (.ref fI) = some (.type "function")
  kC : keepIn K (.ref C) = true
  exC : subIn K (.ref C) (.type "BaseException") = some true
  veC : subIn K (.ref C) (.type "ValueError") = some true
  tyC : typeIn K (.ref C) = some (.type "type")
  sup : ks_superIn K C C "__init__" = some (some (.builtin "ValueError.__init__"))
  opq : nsIn K cStatics "thirdparty.any" = some none
  few : ps.length ≤ 900
  top : (prog.main.scope.names.lookup ("super" : Str)).isSome = false
  fn : ∃ (oc : Value) (od : Option Addr) (doc pm : Value) (an : Option Addr) (cda : Addr) (ct : Value) (osl : Array (Option Value)) (cc : Addr) (qual : Str) (params : Arguments) (ar : Arg) (text : Str) (kk : Nat) (q0 q1 q2 q3 q4 q5 : Pos) (stores : List Stmt) (scope : Scope)
      (ccl : Value) (cdd : Option Addr) (vs : Array Value) (ccs : Array (Option Value)) (file : Str) (tf : Tok) (cl : Value) (cld : Option Addr) (csl : Array (Option Value)),
    K.lookup fI = some ⟨oc, od, .func (ksFn "__init__" qual params (.Expr (.Call (.Attribute (.Call (.Name "super" q1) [] [] q2) "__init__" q3) [.Constant (.str text) kk q0] [] q4) q5 :: stores) scope .none .none doc pm an (.ref cda) ct cc), osl⟩ ∧ codeIn K (.ref cda) qual = true ∧ Stores stores ps ∧
    (params.posonlyargs ++ params.args).head? = some ar ∧ ar.arg = "self" ∧ K.lookup cda = some ⟨ccl, cdd, .fields vs, ccs⟩ ∧ vs[2]? = some (.str file tf) ∧ ((prog.main.file : Str) == file) = true ∧ (q3.endLine == q4.line) = true ∧ K.lookup cc = some ⟨cl, cld, .cell (some (.ref C)), csl⟩ ∧
    scope.names.lookup ("super" : Str) = some .globalImplicit ∧ scope.names.lookup ("__class__" : Str) = some .free ∧ scope.names.lookup ("self" : Str) = some .local ∧ (∀ f ∈ ps, scope.names.lookup f = some .local) ∧ scope.kind = .function ∧ scope.isCoroutine = false ∧ scope.isGenerator = false ∧ (∀ x ∈ scope.names, x.2 ≠ .cell) ∧
    (("self" : Str) :: ps).Nodup ∧
    ∀ (s : Shared) (us : List Value), us.length = ps.length + 1 → BindsTo s (ksFn "__init__" qual params (.Expr (.Call (.Attribute (.Call (.Name "super" q1) [] [] q2) "__init__" q3) [.Constant (.str text) kk q0] [] q4) q5 :: stores) scope .none .none doc pm an (.ref cda) ct cc) ⟨us, []⟩ ((("self" : Str) :: ps).zip us)
section
variable {prog : Program} {w : World} {A : Around} {R : Result → Shared → Prop} {K : Frag} {C fI x t0 : Addr} {ps : List Str} {hb : Heap} {g : Array GenState} {d : Drawn} {tk : Nat} {os : OsState} {mg : Str → Option Value}
end
end SxX
end PySem
end
section
set_option maxHeartbeats 2000000
set_option autoImplicit true
namespace L2
open PySem PySem.Spec PyProof.Rows PySem.SxX
section
variable {X : Cx} {C fI : Addr} {ps : List Str} {x : Str} {p pos : Pos} {k : Nat}
end
end L2
end
section
set_option maxHeartbeats 4000000
set_option autoImplicit true
namespace L3
open PySem PySem.Spec PyProof.Rows L2 PySem.SxX
structure Xk (ε : Type) where
  ok : ε → Value → Option Addr → Hp → Prop
  mono : ∀ {e : ε} {cls : Value} {d : Option Addr} {H H' : Hp}, Fzs H H' → ok e cls d H → ok e cls d H'
def xOut {ε : Type} (Kx : Xk ε) (F : Fm) (Δx : Δs) (Nx : SS → Hp → Prop) (Wx : WX) (e : ε) (H : Hp) : Prop := ∀ cls d σ H', Fzs H H' → Hk F Δx H' → Nx σ H' → Kx.ok e cls d H' → Wx cls d σ H'
def Ex {ε γ : Type} (N : Fn γ) (ιx : ε → γ) (Kx : Xk ε) (F : Fm) (Δx : Δs) (Nx : SS → Hp → Prop) (Wx : WX) : Prop := ∀ H e D, N.fin H (ιx e) D → xOut Kx F Δx Nx Wx e H
section
variable {X : Cx} {W : Bool} {F : Fm} {Γ : Gm} {Δ : Δs} {γ ε : Type} {Kx : Xk ε} {N : Fn γ} {ιx : ε → γ} {Δx : Δs} {Nx : SS → Hp → Prop} {Wx : WX} {k : Nat} {C fI : Addr} {ps : List Str} {x : Str} {p pos pos2 : Pos}
section
variable {f : Addr} {fd : FuncData} {kk : Nat} {α ρ β : Type} {A : α → List Pd} {Mf : α → Option (Except ε ρ)} {xs : β → α} {T : Option γ} {e : Expr} {es : List Expr}
end
section
variable {rest : List Stmt} {β : Type} {T : Option γ} {kc : β → Option γ} {Δ' : β → Δs} {e : Expr}
end
end
end L3
end
section
set_option maxHeartbeats 4000000
set_option autoImplicit true
namespace L3
open PySem PySem.Spec PyProof.Rows L2 PySem.SxX
section
variable {X : Cx} {W : Bool} {F : Fm} {Γ : Gm} {Δ : Δs} {γ ε : Type} {Kx : Xk ε}
end
inductive FV where
  | str (x : Str)
  | int (i : Int)
  | tupI (xs : List Int)
  | lstS (xs : List Str)
  | dctI (xs : List (Str × Int))
def FV.p : FV → Pd
  | .str x => pStr x
  | .int i => pInt i
  | .tupI xs => pTL pInt xs
  | .lstS xs => pL pStr xs
  | .dctI xs => pM pInt xs
structure Er where
  cn : Str
  fs : List FV
def fieldTab : List (Str × List Str) := [("UnknownName", ["name"]), ("RepeatedName", ["name"]), ("UnknownValue", ["name", "value"]), ("RepeatedValue", ["value"]), ("UnknownKey", ["key"]), ("RepeatedKey", ["key"]), ("EmptyRule", []), ("BadRow", ["row"]), ("BadBounds", ["low", "high"]), ("BadNumber", ["number"]), ("BadStep", ["position"]),
  ("NoMark", ["number"]), ("NotStruck", ["name", "value"]), ("BadOrder", ["names"]), ("NotBare", ["found"]), ("NoClash", []), ("HoldsAnswer", ["answer"]), ("BadLine", ["number", "fault"]), ("UnknownLine", ["number"]), ("BadText", ["number"]), ("NothingToUndo", []), ("NothingToRedo", []), ("UnknownStep", ["number"]), ("BadDeed", ["position"])]
def fieldsOf (c : Str) : List Str := (fieldTab.lookup c).getD []
def subC (x y : Str) : Bool := x == y || y == "DeskError" || y == "ValueError"
def gaM (mg : Str → Option Value) (x : Str) : Addr := match mg x with
  | some (.ref a) => a
  | _ => 0
def clsU (mg : Str → Option Value) (x : Str) : Value := match mg x with
  | some (.ref a) => .ref a
  | _ => .type "ValueError"
structure XcT (P : Program) (K : PySem.W.Frag) (mg : Str → Option Value) (x : Str) : Prop where
  g : mg x = some (.ref (gaM mg x))
  tx : ∃ fI, SxTxt P K (gaM mg x) fI (fieldsOf x)
  ec : ExcC K (gaM mg x)
  xf : XfC K (gaM mg x)
structure XsT (P : Program) (K : PySem.W.Frag) (mg : Str → Option Value) (rs cs : List Str) : Prop where
  sup : mg "super" = none
  x : ∀ x ∈ rs, XcT P K mg x
  own : ∀ y ∈ cs, y = "ValueError" ∧ mg y = none ∨ mg y = some (.ref (gaM mg y))
  kit : ∀ x ∈ rs, ∀ y ∈ cs, PySem.W.kitOne K (.ref (gaM mg x)) (clsU mg y) = some (subC x y)
  exm : ∀ x ∈ rs, ∀ y ∈ cs, PySem.W.exmOne K (.ref (gaM mg x)) (clsU mg y) = some (subC x y)
theorem XsT.names {P : Program} {rs cs : List Str} {X : Cx} (T : XsT P X.K X.mg rs cs) {y : Str} (hy : y ∈ cs) (hg : Gl X y := by rfl) (hd : (y == ("__debug__" : Str)) = false := by decide) (hn : y ≠ "__name__" := by decide) : Names X y (clsU X.mg y) := by
  refine ⟨hg, hd, ?_⟩
  unfold clsU
  rcases T.own y hy with ⟨e, h⟩ | h
  · rw [h]; subst e
    exact .inr ⟨rfl, by decide +kernel, hn⟩
  · rw [h]; exact .inl rfl
section
variable {X : Cx} {W : Bool} {F : Fm} {Γ : Gm} {Δ : Δs} {γ : Type} {P : Program} {rs cs : List Str}
variable {a : Addr} {oe : Obj} {cls : Value} {d : Option Addr} {pn : List (Addr × Obj)} {e : Er} {mg : Str → Option Value}
end
end L3
end
section
set_option maxHeartbeats 4000000
set_option autoImplicit true
namespace L3
open PySem PySem.Spec PyProof.Rows L2 PySem.SxX
section
variable {X : Cx} {W : Bool} {F : Fm} {Γ : Gm} {Δ : Δs} {γ : Type} {N : Fn γ} {rest : List Stmt}
end
section
variable {X : Cx} {W : Bool} {F : Fm} {Γ : Gm} {Δ : Δs} {γ : Type}
section
variable {a b : Expr} {pos : Pos} {β1 β2 : Type} {T : Option γ} {k1 : β1 → Option γ} {k : β1 × β2 → Option γ} {Δ1 : β1 → Δs} {Δ2 : β1 → β2 → Δs}
end
end
end L3
end
section
set_option maxHeartbeats 4000000
set_option autoImplicit true
namespace L3
open PySem PySem.Spec PyProof.Rows L2 PySem.SxX
section
variable {X : Cx} {W : Bool} {F : Fm} {Γ : Gm} {Δ : Δs} {γ : Type} {P : Program} {rs cs : List Str}
variable {a : Addr} {oe : Obj} {cls : Value} {d : Option Addr} {pn : List (Addr × Obj)} {e : Er}
end
end L3
end
section
set_option maxHeartbeats 4000000
set_option autoImplicit true
namespace L3
open PySem PySem.Spec PyProof.Rows L2 PySem.SxX
open He (ga ma eqO eqO_ok ba)
structure XD where
  name : Str
  qual : Str
  params : Arguments
  body : List Stmt
  scope : Scope
  ps : List Str
abbrev FnX : Type := Option (Str × Str × Arguments × FuncBody × Scope × Addr × List Str × Addr)
def iAd (K : PySem.W.Frag) (x : Str) : Addr := ma K (ga K x) "__init__"
def fnXo (K : PySem.W.Frag) (x : Str) : FnX := match K.lookup (iAd K x) with
  | some ⟨_, _, .func fd, _⟩ => some (fd.name, fd.qualname, fd.params, fd.body, fd.scope, fd.globals, fd.closure.map (·.1), fd.builtins)
  | _ => none
def XD.val (d : XD) : FnX := some ("__init__", d.qual, d.params, .stmts d.body, d.scope, mainGlobals, ["__class__"], builtinsNs)
def clsXB (K : PySem.W.Frag) (C : Addr) : Bool := match K.lookup C with
  | some ⟨.type "type", _, .cls cd, sl⟩ => (match cd.mro, sl.toList with
    | .ref C' :: bm, [_, _, _, _, some (.builtin n), _] => C' == C && n == "ValueError.__new__" && !cd.hasDel && cd.hasDict && PySem.HandSPX.refsVE bm
    | _, _ => false)
  | _ => false
def iniXB (P : Program) (K : PySem.W.Frag) (C fI : Addr) (q : Str) : Bool := match K.lookup fI with
  | some ⟨_, _, .func fd, _⟩ => (match fd.defaults, fd.kwdefaults, fd.code, fd.closure with
    | .none, .none, .ref cda, [(_, cc)] => PySem.W.codeIn K (.ref cda) q && ((match K.lookup cda with
      | some ⟨_, _, .fields vs, _⟩ => (match ((vs : Array Value)[2]? : Option Value) with
        | some (.str file _) => (P.main.file : Str) == file
        | _ => false)
      | _ => false) && (match K.lookup cc with
      | some ⟨_, _, .cell (some (.ref C')), _⟩ => C' == C
      | _ => false))
    | _, _, _, _ => false)
  | _ => false
def XD.ok (P : Program) (K : PySem.W.Frag) (d : XD) : Bool :=
  clsXB K (ga K d.name) && (eqO (PySem.W.findIn K (.ref (ga K d.name)) "__setattr__") (some (some (.builtin "object.__setattr__"))) && ((d.ps.all fun f => eqO (PySem.W.findIn K (.ref (ga K d.name)) f) (some none)) && (eqO (PySem.W.findIn K (.ref (ga K d.name)) "__init__") (some (some (.ref (iAd K d.name)))) &&
  (decide (PySem.W.typeIn K (.ref (iAd K d.name)) = some (.type "function")) && (PySem.W.keepIn K (.ref (ga K d.name)) && (decide (PySem.W.subIn K (.ref (ga K d.name)) (.type "BaseException") = some true) && (decide (PySem.W.subIn K (.ref (ga K d.name)) (.type "ValueError") = some true) &&
  (decide (PySem.W.typeIn K (.ref (ga K d.name)) = some (.type "type")) && (eqO (PySem.W.ks_superIn K (ga K d.name) (ga K d.name) "__init__") (some (some (.builtin "ValueError.__init__"))) && (eqO (PySem.W.nsIn K cStatics "thirdparty.any") (some none) && (iniXB P K (ga K d.name) (iAd K d.name) d.qual &&
  (eqO (PySem.W.findIn K (.ref (ga K d.name)) "__getattribute__") (some (some (.builtin "BaseException.__getattribute__"))) && (eqO (PySem.W.findIn K (.ref (ga K d.name)) "__getattr__") (some none) && (PySem.W.hasDictIn K (ga K d.name) && (eqO (PySem.W.findIn K (.ref (ga K d.name)) "__class__") (some (some (.builtin "object.__class__"))) &&
  (eqO (PySem.W.specialIn K (.builtin "object.__class__") "__get__") (some (some (.builtin "getset_descriptor.__get__"))) && (decide (PySem.W.takesIn K (.builtin "object.__class__") = some true) && decide (PySem.W.mroIn K (ga K d.name) (.type "object") = some true))))))))))))))))))
def cU (K : PySem.W.Frag) (y : Str) : Value := if y = "ValueError" then .type "ValueError" else .ref (ga K y)
def tabB (K : PySem.W.Frag) (rs cs : List Str) : Bool := rs.all fun x => cs.all fun y => decide (PySem.W.kitOne K (.ref (ga K x)) (cU K y) = some (subC x y)) && decide (PySem.W.exmOne K (.ref (ga K x)) (cU K y) = some (subC x y))
abbrev AlX : Type := He.AlD × List FnX × Bool
def obsX (P : Program) (fa : List He.Fa) (fn : List He.DefD) (xs : List XD) (rs cs : List Str) (K : PySem.W.Frag) : AlX := (He.obsD fa fn K, xs.map fun d => fnXo K d.name, (xs.all fun d => d.ok P K) && tabB K rs cs)
def valX (fn : List He.DefD) (xs : List XD) : AlX := (He.valD fn, xs.map XD.val, true)
def SaysX (P : Program) (fa : List He.Fa) (fn : List He.DefD) (xs : List XD) (rs cs : List Str) (K : PySem.W.Frag) : Prop := obsX P fa fn xs rs cs K = valX fn xs
def obsXG (n : Nat) (P : Program) (fa : List He.Fa) (fn : List He.DefD) (xs : List XD) (rs cs : List Str) (g : Addr → Option Obj) : AlX := obsX P fa fn xs rs cs (He.frG g (cStatics :: He.asD g n))
def hookX (n : Nat) (P : Program) (fa : List He.Fa) (fn : List He.DefD) (xs : List XD) (rs cs : List Str) : PySem.W.Hook where
  α := AlX
  obs := fun s => obsXG n P fa fn xs rs cs s.heap.get?
  val := fun _ => valX fn xs
  says := fun _ h => ∃ K : PySem.W.Frag, K.In h ∧ SaysX P fa fn xs rs cs K
  of := fun _ _ e => ⟨_, He.frG_in, e⟩
  keeps := fun _ _ _ ⟨K, hK, c⟩ k => ⟨K, PySem.W.Frag.In.keeps hK k, c⟩
theorem obsXG_eq {n : Nat} {P : Program} {fa : List He.Fa} {fn : List He.DefD} {xs : List XD} {rs cs : List Str} {g : Addr → Option Obj} {s : Shared} (h : ∀ a, g a = s.heap.get? a) : obsXG n P fa fn xs rs cs g = (hookX n P fa fn xs rs cs).obs s := by
  have e : g = s.heap.get? := funext h
  rw [e] <;> rfl
section
variable {P : Program} {fa : List He.Fa} {fn : List He.DefD} {xs : List XD} {rs cs : List Str} {K : PySem.W.Frag}
theorem SaysX.d (c : SaysX P fa fn xs rs cs K) : He.SaysD fa fn K := congrArg (fun z : AlX => z.1) c
end
end L3
end
section
set_option maxHeartbeats 4000000
set_option autoImplicit true
namespace L3
open PySem PySem.Spec PyProof.Rows L2
section
variable {X : Cx} {F : Fm} {Γ : Gm} {Δ : Δs} {γ : Type}
variable {α β β3 δ : Type} {g : TG} {own : List (Str × Nat)} {T : Option γ} {k : β × List δ → Option γ} {Ex : α → Pd} {D : δ → Od} {bd : Gm → α → Gm} {xs : β → List α} {Δ1 : β → Δs} {f : β → α → Option δ} {y : β → α → β3 → δ}
end
section
variable {X : Cx} {W : Bool} {F : Fm} {Γ : Gm} {Δ : Δs} {γ : Type}
end
end L3
end
section
set_option maxHeartbeats 4000000
set_option autoImplicit true
namespace L3
open PySem PySem.Spec PyProof.Rows L2
section
variable {X : Cx} {W : Bool} {F : Fm} {Γ : Gm} {Δ : Δs} {γ : Type} {α β α' : Type} {E : α → Pd} {G : α' → Pd}
end
end L3
end
section
set_option maxHeartbeats 4000000
set_option autoImplicit true
namespace L3
open PySem PySem.Spec PyProof.Rows L2
section
variable {X : Cx} {W : Bool} {F : Fm} {Γ : Gm} {Δ : Δs} {γ : Type}
section
variable {a b : Expr} {pos : Pos} {β1 β2 α β : Type} {T : Option γ} {k1 : β1 → Option γ} {k : β1 × β2 → Option γ} {Δ1 : β1 → Δs} {Δ2 : β1 → β2 → Δs} {E : α → Pd} {G : β → Pd} {x : β1 → α × β} {y : β1 → β2 → α × β}
end
section
variable {a b : Expr} {pos : Pos} {β1 β2 α : Type} [DecidableEq α] {T : Option γ} {k1 : β1 → Option γ} {k : β1 × β2 → Option γ} {Δ1 : β1 → Δs} {Δ2 : β1 → β2 → Δs} {E : α → Pd} {x : β1 → α} {y : β1 → β2 → List α}
end
end
end L3
end
section
set_option maxHeartbeats 4000000
set_option autoImplicit true
namespace L3
open PySem PySem.Spec PyProof.Rows L2
section
variable {X : Cx} {W : Bool} {F : Fm} {Γ : Gm} {Δ : Δs} {γ : Type}
end
end L3
end
section
set_option maxHeartbeats 4000000
set_option autoImplicit true
namespace L3
open PySem PySem.Spec PyProof.Rows L2
section
variable {X : Cx}
end
section
variable {X : Cx} {F : Fm} {Γ : Gm} {Δ : Δs} {γ : Type} {κ δ : Type} [DecidableEq κ] [Ky κ]
variable {α β β2 β3 : Type} {g : TG} {own : List (Str × Nat)} {T : Option γ} {k : β × List (κ × δ) → Option γ} {Ex : α → Pd} {D : δ → Od} {bd : Gm → α → Gm} {xs : β → List α} {Δ1 : β → Δs} {f : β → α → Option (κ × δ)} {T2 : β → α → β2 → Option (κ × δ)} {ky : β → α → β2 → κ} {y : β → α → β2 → β3 → δ}
end
end L3
end
section
set_option maxHeartbeats 4000000
set_option autoImplicit true
namespace L3
open PySem PySem.Spec PyProof.Rows L2
section
variable {X : Cx} {W : Bool} {F : Fm} {Γ : Gm} {Δ : Δs} {γ : Type}
section
variable {a : Expr} {n} {p pos : Pos} {β α1 α2 α3 α4 : Type} {T : Option γ} {k : β → Option γ} {Δ1 : β → Δs} {A : α1 → Pd} {B : α2 → Pd} {C : α3 → Pd} {D : α4 → Pd}
end
end
section
variable {X : Cx} {W : Bool} {F : Fm} {Γ : Gm} {Δ : Δs} {γ : Type}
end
section
variable {X : Cx} {W : Bool} {F : Fm} {Γ : Gm} {Δ : Δs} {γ : Type} {κ α δ : Type} [DecidableEq κ] [Ky κ] [DecidableEq α] [DecidableEq δ]
variable {a b : Expr} {pos : Pos} {β1 β2 : Type} {T : Option γ} {k1 : β1 → Option γ} {k : β1 × β2 → Option γ} {Δ1 : β1 → Δs} {Δ2 : β1 → β2 → Δs} {E : α → Pd} {G : δ → Pd} {x : β1 → List α ⊕ List (κ × δ)} {y : β1 → β2 → List α ⊕ List (κ × δ)}
end
end L3
end
section
set_option maxHeartbeats 4000000
set_option autoImplicit true
namespace L3
open PySem PySem.Spec PyProof.Rows L2
section
variable {X : Cx} {W : Bool} {F : Fm} {Γ : Gm} {Δ : Δs} {γ : Type}
end
section
variable {X : Cx} {W : Bool} {F : Fm} {Γ : Gm} {Δ : Δs} {γ : Type} {κ α δ : Type} [DecidableEq κ] [Ky κ] [DecidableEq α] [DecidableEq δ]
variable {a b : Expr} {pos : Pos} {β1 β2 : Type} {T : Option γ} {k1 : β1 → Option γ} {k : β1 × β2 → Option γ} {Δ1 : β1 → Δs} {Δ2 : β1 → β2 → Δs} {E : α → Pd} {G : δ → Pd} {x : β1 → List α ⊕ List (κ × δ)} {y : β1 → β2 → List α ⊕ List (κ × δ)}
end
end L3
end
section
set_option maxHeartbeats 4000000
set_option autoImplicit true
namespace L3
open PySem PySem.Spec PyProof.Rows L2
section
variable {X : Cx} {W : Bool} {F : Fm} {Γ : Gm} {Δ : Δs} {γ : Type}
variable {N : Fn γ} {rest : List Stmt}
section
variable {κ α : Type} [DecidableEq κ] [Ky κ] {a b : Expr} {apos cpos : Pos} {β1 β2 : Type} {T : Option γ} {k1 : β1 → Option γ} {Δ1 : β1 → Δs} {Δ2 : β1 → β2 → Δs} {E1 : β1 → Pd} {Ee : α → Pd} {xs : β1 → β2 → List (κ × α)} {j : β1 → β2 → κ}
end
end
end L3
end
section
set_option maxHeartbeats 4000000
set_option autoImplicit true
namespace L3
open PySem PySem.Spec PyProof.Rows L2
section
variable {X : Cx} {W : Bool} {F : Fm} {Γ : Gm} {Δ : Δs} {γ : Type}
variable {N : Fn γ} {rest : List Stmt}
end
end L3
end
section
set_option maxHeartbeats 4000000
set_option autoImplicit true
namespace L3
open PySem PySem.Spec PyProof.Rows L2
section
variable {X : Cx} {pins : List (Addr × Obj)} {σ : SS} {H : Hp} {s : Shared} {a C dx : Addr} {fs : List (Str × V)} {f : Str} {v : V} {A : Around} {E : Value → Shared → Prop}
end
section
variable {X : Cx} {CX : CXT} {k : Nat} {f : Addr} {fd : FuncData} {ps : List Str} {sp : Sp} {E : XK} {m : Str} {pos apos : Pos} {e o : Expr} {es : List Expr} {ta : TE} {t : TA}
end
section
variable {X : Cx} {W : Bool} {F : Fm} {Γ : Gm} {Δ : Δs} {γ : Type}
variable {N : Fn γ} {rest : List Stmt}
end
def fI {ρ : Type} (F : Fm) (P : ρ → Δs) : Fn ρ := ⟨fun _ r D => ∀ σ' H', Hk F (P r) H' → D.nx σ' H', fun h _ => h⟩
section
variable {X : Cx} {W : Bool} {F : Fm} {Γ : Gm} {Δ : Δs} {γ : Type}
end
end L3
end
section
set_option maxHeartbeats 4000000
set_option autoImplicit true
namespace L3
open PySem PySem.Spec PyProof.Rows L2
section
variable {X : Cx} {W : Bool} {F : Fm} {Γ : Gm} {Δ : Δs} {γ : Type}
section
variable {a : Expr} {pos p : Pos} {β α : Type} {T : Option γ} {Δ1 : β → Δs} {E1 : β → Pd} {Ee : α → Pd} {xs : β → List α} {k : β → Option γ}
end
section
variable {a b : Expr} {pos : Pos} {β1 β2 α : Type} {T : Option γ} {k1 : β1 → Option γ} {Δ1 : β1 → Δs} {Δ2 : β1 → β2 → Δs} {E1 : β1 → Pd} {Ee : α → Pd} {xs : β1 → List α} {j : β1 → β2 → Int}
end
section
variable {a : Expr} {lo hi : Option Expr} {p2 pos : Pos} {β1 β2 β3 α : Type} {T : Option γ} {k1 : β1 → Option γ} {k2 : β1 → β2 → Option γ} {k : β1 × β2 × β3 → Option γ} {Ee : α → Pd} {xs : β1 → List α} {o1 : β1 → β2 → Option Int} {o2 : β1 → β2 → β3 → Option Int} {Δ1 : β1 → Δs} {Δ2 : β1 → β2 → Δs} {Δ3 : β1 → β2 → β3 → Δs}
end
section
variable {a b : Expr} {pos : Pos} {β1 β2 α : Type} {T : Option γ} {k1 : β1 → Option γ} {k : β1 × β2 → Option γ} {Δ1 : β1 → Δs} {Δ2 : β1 → β2 → Δs} {Ee : α → Pd} {xs : β1 → List α} {ys : β1 → β2 → List α}
end
section
variable {a b : Expr} {pos : Pos} {β1 β2 α : Type} [DecidableEq α] {T : Option γ} {k1 : β1 → Option γ} {k : β1 × β2 → Option γ} {Δ1 : β1 → Δs} {Δ2 : β1 → β2 → Δs} {E : α → Pd} {x : β1 → α} {y : β1 → β2 → List α}
end
section
variable {o e : Expr} {apos cpos : Pos} {β1 β2 : Type} {T : Option γ} {k1 : β1 → Option γ} {Δ1 : β1 → Δs} {Δ2 : β1 → β2 → Δs} {xs : β1 → List Str} {y : β1 → β2 → Str}
end
end
end L3
end
section
set_option maxHeartbeats 4000000
set_option autoImplicit true
namespace L3
open PySem PySem.Spec PyProof.Rows L2
section
variable {X : Cx} {W : Bool} {F : Fm} {Γ : Gm} {Δ : Δs} {γ : Type}
section
variable {a : Expr} {pos p : Pos} {β : Type} {T : Option γ} {Δ1 : β → Δs} {E1 : β → Pd} {xs : β → List (List Int)} {k : β × List Int → Option γ}
end
end
end L3
end
section
set_option maxHeartbeats 4000000
set_option autoImplicit true
namespace L3
open PySem PySem.Spec PyProof.Rows L2
open PySem.AutoSeq1 (wpAny_loadPart')
section
variable {prog : Program} {w : World} {A : Around} {E : Value → Shared → Prop} {s : Shared}
end
section
variable {X : Cx} {W : Bool} {F : Fm} {Γ : Gm} {Δ : Δs} {γ : Type}
section
variable {a b : Expr} {pos : Pos} {β1 β2 α : Type} [DecidableEq α] {T : Option γ} {k1 : β1 → Option γ} {k : β1 × β2 → Option γ} {Δ1 : β1 → Δs} {Δ2 : β1 → β2 → Δs} {E : α → Pd} {x : β1 → α} {y : β1 → β2 → List α} {E2 : β1 → β2 → Pd}
end
end
end L3
end
section
set_option maxHeartbeats 4000000
set_option autoImplicit true
namespace L3
open PySem PySem.Spec PyProof.Rows L2
section
variable {X : Cx} {W : Bool} {F : Fm} {Γ : Gm} {Δ : Δs} {γ : Type} {a : Expr} {n p pos} {β α1 α2 α3 α4 α5 : Type} {T : Option γ} {k : β → Option γ} {A1 : α1 → Pd} {A2 : α2 → Pd} {A3 : α3 → Pd} {A4 : α4 → Pd} {A5 : α5 → Pd} {Δ1 : β → Δs} {x : β → α1 × α2 × α3 × α4 × α5}
end
section
variable {X : Cx} {W : Bool} {F : Fm} {Γ : Gm} {Δ : Δs} {γ : Type} {a : Expr} {n p pos} {β α1 α2 α3 α4 α5 α6 : Type} {T : Option γ} {k : β → Option γ} {A1 : α1 → Pd} {A2 : α2 → Pd} {A3 : α3 → Pd} {A4 : α4 → Pd} {A5 : α5 → Pd} {A6 : α6 → Pd} {Δ1 : β → Δs} {x : β → α1 × α2 × α3 × α4 × α5 × α6}
end
section
variable {X : Cx} {W : Bool} {F : Fm} {Γ : Gm} {Δ : Δs} {γ : Type} {a : Expr} {n p pos} {β α1 α2 α3 α4 α5 α6 α7 : Type} {T : Option γ} {k : β → Option γ} {A1 : α1 → Pd} {A2 : α2 → Pd} {A3 : α3 → Pd} {A4 : α4 → Pd} {A5 : α5 → Pd} {A6 : α6 → Pd} {A7 : α7 → Pd} {Δ1 : β → Δs} {x : β → α1 × α2 × α3 × α4 × α5 × α6 × α7}
end
section
variable {X : Cx} {W : Bool} {F : Fm} {Γ : Gm} {Δ : Δs} {γ : Type}
section
variable {a : Expr} {n p p2 pos : Pos} {β α δ : Type} {T : Option γ} {k : β → Option γ} {E : α → Pd} {G : δ → Pd} {Δ1 : β → Δs}
end
variable {N : Fn γ} {rest : List Stmt}
end
end L3
end
section
set_option maxHeartbeats 4000000
set_option autoImplicit true
namespace L3
open PySem PySem.Spec PyProof.Rows L2 PySem.SxX
def TpK : HO → Prop
  | .tup _ => True
  | .frz _ (.tup _) => True
  | _ => False
def Tpy (H H' : Hp) : Prop := ∀ a o, TpK o → H a = some o → H' a = some o
section
variable {X : Cx} {W : Bool} {F : Fm} {Γ : Gm} {Δ : Δs} {γ : Type}
end
section
variable {X : Cx} {CX : CXT} {k : Nat} {f C : Addr} {fd : FuncData} {ps : List Str} {sp : Sp} {x : Str} {p pos : Pos} {e : Expr} {es : List Expr} {t : TA}
end
section
variable {X : Cx} {W : Bool} {F : Fm} {Γ : Gm} {Δ : Δs} {γ ε : Type}
variable {fI : Addr} {kk : Nat} {fd : FuncData} {ps : List Str} {α ρ β : Type} {cn : Str} {A : α → List Pd} {Mf : α → Option (Except ε ρ)} {ns : List Str} {R : ρ → List Pd} {C : Addr} {p pos : Pos} {e : Expr} {es : List Expr} {T : Option γ} {xs : β → α} {kc : β × ρ → Option γ} {D : β × ρ → Od} {Kx : Xk ε}
end
section
variable {X : Cx} {F : Fm} {Γ : Gm} {Δ : Δs} {γ ε : Type} {N : Fn γ} {rest : List Stmt} {ιx : ε → γ} {Kx : Xk ε} {Δx : Δs} {Nx : SS → Hp → Prop} {Wx : WX}
end
end L3
end
section
set_option maxHeartbeats 4000000
set_option autoImplicit true
namespace L3
open PySem PySem.Spec PyProof.Rows L2
section
variable {X : Cx} {W : Bool} {F : Fm} {Γ : Gm} {Δ : Δs} {γ : Type}
end
section
variable {X : Cx} {W : Bool} {F : Fm} {Γ : Gm} {Δ : Δs} {γ : Type} {a : Expr} {pos p : Pos} {β : Type} {T : Option γ} {Δ1 : β → Δs} {E1 : β → Pd} {xs : β → List Int} {k : β × Int → Option γ}
end
end L3
end
section
set_option maxHeartbeats 4000000
set_option autoImplicit true
namespace L3
open PySem PySem.Spec PyProof.Rows L2 PySem.SxX
section
variable {X : Cx} {W : Bool} {F : Fm} {Γ : Gm} {Δ : Δs} {γ : Type}
section
variable {a : Expr} {n} {p pos : Pos} {β α1 α2 α3 α4 α5 : Type} {T : Option γ} {k : β → Option γ} {Δ1 : β → Δs} {A : α1 → Pd} {B : α2 → Pd} {C : α3 → Pd} {D : α4 → Pd} {E : α5 → Pd}
end
end
section
variable {P : Pd → V → Prop} {gV : List V → List V → List V} {As : List Pd} {vs zs : List V}
end
section
variable {X : Cx} {CX : CXT} {k n : Nat} {f C : Addr} {fd : FuncData} {ps ks : List Str} {sp : Sp} {x : Str} {p pos : Pos} {e : Expr} {es : List Expr} {kws : List Keyword} {t tk : TA} {g : List Value → List Value → List Value} {gV : List V → List V → List V}
end
section
variable {X : Cx} {W : Bool} {F : Fm} {Γ : Gm} {Δ : Δs} {γ ε : Type}
variable {fI : Addr} {kk n : Nat} {fd : FuncData} {ps ks : List Str} {α ρ β1 β2 : Type} {cn : Str} {A : α → List Pd} {Mf : α → Option (Except ε ρ)} {ns : List Str} {R : ρ → List Pd} {C : Addr} {p pos : Pos} {e : Expr} {es : List Expr} {kws : List Keyword} {T : Option γ} {kc : (β1 × β2) × ρ → Option γ} {D : (β1 × β2) × ρ → Od} {Kx : Xk ε} {g : List Value → List Value → List Value} {gV : List V → List V → List V}
end
end L3
end
section
set_option maxHeartbeats 4000000
set_option autoImplicit true
namespace L3
open PySem PySem.Spec PyProof.Rows L2 PySem.SxX L2H
section
variable {P : Program} {w : World} {K : PySem.W.Frag} {mg : Str → Option Value} {base : Heap} {CX : CXT} {k : Nat} {f : Addr} {fd : FuncData} {N ps : List Str} {sp : Sp} {x qual : Str} {params : Arguments} {body : List Stmt} {scope : Scope} {dvs : List V} {kws : List (Str × V)}
end
section
variable {X : Cx} {CX : CXT} {k : Nat} {f : Addr} {fd : FuncData} {ps : List Str} {sp : Sp}
end
section
variable {X : Cx} {W : Bool} {F : Fm} {Γ : Gm} {Δ : Δs} {γ : Type}
end
end L3
end
section
set_option maxHeartbeats 4000000
set_option autoImplicit true
namespace L3
open PySem PySem.Spec PyProof.Rows L2
section
variable {X : Cx} {W : Bool} {F : Fm} {Γ : Gm} {Δ : Δs} {γ : Type}
end
end L3
end
section
set_option maxHeartbeats 4000000
set_option autoImplicit true
namespace L3
open PySem PySem.Spec PyProof.Rows L2
def FlatD (d : Od) : Prop := ∀ G H H' v, d.pr G H v → (∀ a ∈ G, H' a = H a) → Tpy H H' → d.pr G H' v
inductive FlatDs : List Od → Prop
  | nil : FlatDs []
  | cons {d : Od} {ds : List Od} : FlatD d → FlatDs ds → FlatDs (d :: ds)
theorem FlatDs.own {H H' : Hp} (t : Tpy H H') : ∀ {ds : List Od} {vs : List V} {gs : List (List Addr)}, FlatDs ds → Own3 (fun d : Od => d) H ds vs gs → (∀ a ∈ gs.flatten, H' a = H a) → Own3 (fun d : Od => d) H' ds vs gs
  | _, _, _, _, .nil, _ => .nil
  | _, _, _, .cons f fs, .cons r q, k => by
    rw [List.flatten_cons] at k
    exact .cons (f _ H H' _ r (fun a ha => k a (List.mem_append_left _ ha)) t) (FlatDs.own t fs q fun a ha => k a (List.mem_append_right _ ha))
section
variable {X : Cx} {W : Bool} {F : Fm} {Γ : Gm} {Δ : Δs} {γ : Type}
variable {N : Fn γ} {rest : List Stmt}
end
section
variable {X : Cx} {W : Bool} {F : Fm} {Γ : Gm} {Δ : Δs} {γ : Type}
end
end L3
end
section
set_option maxHeartbeats 4000000
set_option autoImplicit true
namespace L3
open PySem PySem.Spec PyProof.Rows L2
section
variable {X : Cx} {W : Bool} {F : Fm} {Γ : Gm} {Δ : Δs} {γ : Type}
section
variable {a b : Expr} {pos : Pos} {β1 β2 : Type} {T : Option γ} {k1 : β1 → Option γ} {k : β1 × β2 → Option γ} {Δ1 : β1 → Δs} {Δ2 : β1 → β2 → Δs} {xs : β1 → List Int} {ys : β1 → β2 → List Int}
end
end
end L3
end
section
set_option maxHeartbeats 4000000
namespace L3
open PySem PySem.Spec PyProof.Rows L2
section
variable {prog : Program} {w : World} {A : Around} {R : Result → Shared → Prop} {s : Shared} {kx vx t0 i0 t1 i1 : Expr} {ifs0 ifs1 : List Expr} {scope : Scope} {pos : Pos} {it acc : Value} {env : Env}
end
end L3
end
section
set_option maxHeartbeats 4000000
namespace L3
open PySem PySem.Spec PyProof.Rows L2
section
variable {X : Cx}
end
end L3
end
section
set_option maxHeartbeats 4000000
namespace L3
open PySem PySem.Spec PyProof.Rows L2
section
variable {κ δ : Type} [DecidableEq κ] [Ky κ]
variable {X : Cx} {F : Fm} {Γ : Gm} {Δ : Δs} {γ : Type}
variable {α α2 β β4 β5 β6 : Type} {g g2 : TG} {own : List (Str × Nat)} {vs1 : List Nat} {T : Option γ} {k : β × List (κ × δ) → Option γ} {Ex : α → Pd} {Ex2 : α2 → Pd} {D : δ → Od} {bd : Gm → α → Gm} {bd2 : Gm → α2 → Gm} {xs : β → List α} {C : β → Δs} {f : β → α → Option (List (κ × δ))}
    {ys : β → α → β4 → List α2} {h : β → α → β4 → α2 → Option (κ × δ)} {T2 : β → α → β4 → α2 → β5 → Option (κ × δ)} {ky : β → α → β4 → α2 → β5 → κ} {vy : β → α → β4 → α2 → β5 → β6 → δ}
end
end L3
namespace L3
open PySem PySem.Spec PyProof.Rows L2
section
variable {X : Cx} {W : Bool} {F : Fm} {Γ : Gm} {Δ : Δs} {γ : Type}
end
end L3
end
section
set_option maxHeartbeats 4000000
set_option autoImplicit true
namespace L3
open PySem PySem.Spec PyProof.Rows L2
section
variable {X : Cx} {W : Bool} {F : Fm} {Γ : Gm} {Δ : Δs} {γ : Type}
end
end L3
end
section
set_option maxHeartbeats 4000000
set_option autoImplicit true
namespace L3
open PySem PySem.Spec PyProof.Rows L2
section
variable {X : Cx} {W : Bool} {F : Fm} {Γ : Gm} {Δ : Δs} {γ : Type}
variable {N : Fn γ}
end
end L3
end
section
set_option maxHeartbeats 4000000
set_option autoImplicit true
namespace L3
open PySem PySem.Spec PyProof.Rows L2
section
variable {α β α' β' δ : Type} {E : α → Pd} {G : β → Pd} {E' : α' → Pd} {G' : β' → Pd} {D : δ → Pd}
end
section
variable {X : Cx} {W : Bool} {F : Fm} {Γ : Gm} {Δ : Δs} {γ : Type}
section
variable {α β : Type} {E : α → Pd} {G : β → Pd} {A : α → Od} {B : β → Od}
end
section
variable {a b : Expr} {pos p : Pos} {β1 β2 : Type} {T : Option γ} {k1 : β1 → Option γ} {k : β1 × β2 → Option γ} {c : β1 → Bool} {d : β1 → β2 → Bool} {Δ1 : β1 → Δs} {Δ2 : β1 → β2 → Δs}
end
end
end L3
end
section
set_option maxHeartbeats 4000000
set_option autoImplicit true
namespace L3
open PySem PySem.Spec PyProof.Rows L2
section
variable {α β δ α' : Type} {A : α → Od} {B : β → Od} {D : δ → Od} {E : α → Pd} {E' : α' → Pd}
end
section
variable {X : Cx} {W : Bool} {F : Fm} {Γ : Gm} {Δ : Δs} {γ : Type}
end
end L3
end
section
set_option maxHeartbeats 4000000
set_option autoImplicit true
namespace L3
open PySem PySem.Spec PyProof.Rows L2
section
variable {X : Cx} {W : Bool} {F : Fm} {Γ : Gm} {Δ : Δs} {γ : Type}
section
variable {α β β2 β3 δ S : Type} {g : TG} {own : List (Str × Nat)} {T : Option γ} {k0 : β → Option γ} {k : β × (List δ × S) → Option γ} {out : β × (List δ × S) → List δ} {Ex : α → Pd} {Ee : δ → Pd} {bd : Gm → α → Gm} {xs : β → List α} {Δ1 : β → Δs} {C : β → S → Δs} {s0 : β → S} {f : β → α → S → Option (Option δ × S)}
    {c : β → α → S → β2 → Bool} {s2 : β → α → S → β2 → S} {T2 : β → α → S → β2 → Option (Option δ × S)} {y : β → α → S → β2 → β3 → δ} {s3 : β → α → S → β2 → β3 → S}
end
end
end L3
end
section
set_option maxHeartbeats 4000000
set_option autoImplicit true
namespace L3
open PySem PySem.Spec PyProof.Rows L2
section
variable {X : Cx} {W : Bool} {F : Fm} {Γ : Gm} {Δ : Δs} {γ : Type}
section
variable {a b : Expr} {pos : Pos} {β1 β2 : Type} {T : Option γ} {k1 : β1 → Option γ} {k : β1 × β2 → Option γ} {Δ1 : β1 → Δs} {Δ2 : β1 → β2 → Δs} {i : β1 → Int} {v0 : V} {xs : β1 → β2 → List Int} {prm : Option Nat}
end
variable {α ρ β1 β2 : Type} {fI : Addr} {kk n : Nat} {fd : FuncData} {ps ks : List Str} {cn : Str} {A : α → List Pd} {Mf : α → Option ρ} {ns : List Str} {R : ρ → List Pd} {C : Addr} {p pos : Pos} {e : Expr} {es : List Expr} {kws : List Keyword} {T : Option γ} {kc : (β1 × β2) × ρ → Option γ} {D : (β1 × β2) × ρ → Od} {g : List Value → List Value → List Value} {gV : List V → List V → List V}
end
end L3
end
section
set_option maxHeartbeats 4000000
set_option autoImplicit true
namespace L3
open PySem PySem.Spec PyProof.Rows L2
section
variable {X : Cx} {W : Bool} {F : Fm} {Γ : Gm} {Δ : Δs} {γ : Type}
end
end L3
end
section
set_option maxHeartbeats 4000000
set_option autoImplicit true
namespace L3
open PySem PySem.Spec PyProof.Rows L2
section
variable {X : Cx} {W : Bool} {F : Fm} {Γ : Gm} {Δ : Δs} {γ : Type}
end
end L3
end
section
set_option maxHeartbeats 1000000
namespace L3
open PySem PySem.Spec PyProof.Rows L2 RZ
open PySem.Sem (wp)
section
variable {w : World} {prog : Program} {s : Shared} {A : Around} {E : Value → Shared → Prop}
end
section
variable {w : World} {prog : Program} {s : Shared} {A : Around} {E : Value → Shared → Prop}
end
section
variable {X : Cx} {W : Bool} {F : Fm} {Γ : Gm} {Δ : Δs} {γ : Type}
end
end L3
end
section
set_option maxHeartbeats 4000000
set_option autoImplicit true
namespace L3
open PySem PySem.Spec PyProof.Rows L2
section
variable {α1 α2 α3 α4 α5 : Type} {A : α1 → Pd} {B : α2 → Pd} {C : α3 → Pd} {D : α4 → Pd} {E : α5 → Pd}
end
section
variable {X : Cx} {W : Bool} {F : Fm} {Γ : Gm} {Δ : Δs} {γ : Type}
end
section
variable {α1 α2 α3 α4 α5 : Type} {A : α1 → Pd} {B : α2 → Pd} {C : α3 → Pd} {D : α4 → Pd} {E : α5 → Pd}
end
section
variable {X : Cx} {W : Bool} {F : Fm} {Γ : Gm} {Δ : Δs} {γ : Type} {a b : Expr} {pos : Pos} {β1 β2 : Type} {T : Option γ} {k1 : β1 → Option γ} {k : β1 × β2 → Option γ} {Δ1 : β1 → Δs} {Δ2 : β1 → β2 → Δs}
end
section
variable {X : Cx} {W : Bool} {F : Fm} {Γ : Gm} {Δ : Δs} {γ : Type} {a b : Expr} {pos : Pos} {α β1 β2 : Type} {Ee : α → Pd} {T : Option γ} {k1 : β1 → Option γ} {k : β1 × β2 → Option γ} {Δ1 : β1 → Δs} {Δ2 : β1 → β2 → Δs}
end
section
variable {X : Cx} {W : Bool} {F : Fm} {Γ : Gm} {Δ : Δs} {γ : Type}
end
end L3
end
section
set_option maxHeartbeats 4000000
set_option autoImplicit true
namespace L3
open PySem PySem.Spec PyProof.Rows L2
section
variable {X : Cx} {W : Bool} {F : Fm} {Γ : Gm} {Δ : Δs} {γ ε : Type}
variable {fI : Addr} {kk : Nat} {fd : FuncData} {ps : List Str} {α ρ β : Type} {cn : Str} {A : α → List Pd} {Mf : α → Option (Except ε ρ)} {ns : List Str} {R : ρ → List Od} {C : Addr} {p pos : Pos} {e : Expr} {es : List Expr} {T : Option γ} {xs : β → α} {kc : β × ρ → Option γ} {D : β × ρ → Od} {Kx : Xk ε}
end
section
variable {X : Cx} {F : Fm} {Γ : Gm} {Δ : Δs} {γ ε : Type} {N : Fn γ} {rest : List Stmt} {ιx : ε → γ} {Kx : Xk ε} {Δx : Δs} {Nx : SS → Hp → Prop} {Wx : WX}
end
section
variable {X : Cx} {W : Bool} {F : Fm} {Γ : Gm} {Δ : Δs} {γ : Type}
variable {N : Fn γ}
end
section
variable {X : Cx} {W : Bool} {F : Fm} {Γ : Gm} {Δ : Δs} {γ : Type}
end
end L3
end
section
set_option maxHeartbeats 4000000
namespace L3
open PySem PySem.Spec PyProof.Rows L2
section
variable {Δ : Δs}
end
section
variable {X : Cx} {W : Bool} {F : Fm} {Γ : Gm} {Δ : Δs} {γ : Type}
end
section
variable {κ α : Type} [DecidableEq κ] [Ky κ] {X : Cx} {W : Bool} {F : Fm} {Γ : Gm} {Δ : Δs} {γ : Type} {N : Fn γ} {rest : List Stmt}
end
section
variable {X : Cx} {W : Bool} {F : Fm} {Γ : Gm} {Δ : Δs} {γ β : Type} {N : Fn γ} {rest : List Stmt}
end
end L3
end
section
set_option maxHeartbeats 4000000
namespace L3
open PySem PySem.Spec PyProof.Rows L2
section
variable {κ : Type} [DecidableEq κ] [Ky κ] {X : Cx} {F : Fm} {Γ : Gm} {Δ : Δs} {γ : Type}
end
section
variable {X : Cx} {F : Fm} {Γ : Gm} {Δ : Δs} {γ : Type}
end
section
variable {α1 α2 α3 : Type} {A : α1 → Pd} {B : α2 → Pd} {C : α3 → Pd}
end
section
variable {X : Cx} {W : Bool} {F : Fm} {Γ : Gm} {Δ : Δs} {γ : Type} {a b : Expr} {pos : Pos} {β1 β2 α : Type} {T : Option γ} {k1 : β1 → Option γ} {k : β1 × β2 → Option γ} {Δ1 : β1 → Δs} {Δ2 : β1 → β2 → Δs} {E : α → Pd} {x : β1 → α} {y : β1 → β2 → α}
end
end L3
end
section
set_option maxHeartbeats 4000000
namespace L3
open PySem PySem.Spec PyProof.Rows L2
section
variable {κ δ : Type} [DecidableEq κ] [Ky κ] {X : Cx} {F : Fm} {Γ : Gm} {Δ : Δs} {γ : Type}
variable {α β β2 β3 β4 : Type} {g : TG} {own : List (Str × Nat)} {T : Option γ} {k : β × List (κ × δ) → Option γ} {Ex : α → Pd} {D : δ → Od} {bd : Gm → α → Gm} {xs : β → List α} {Δ1 : β → Δs} {f : β → α → Option (Option (κ × δ))} {c : β → α → β2 → Bool} {T2 : β → α → β2 → Option (Option (κ × δ))} {T3 : β → α → β2 → β3 → Option (Option (κ × δ))} {ky : β → α → β2 → β3 → κ} {y : β → α → β2 → β3 → β4 → δ}
end
end L3
end
section
set_option maxHeartbeats 4000000
namespace L3
open PySem PySem.Spec PyProof.Rows L2
section
variable {κ δ : Type} [DecidableEq κ] [Ky κ] {X : Cx} {W : Bool} {F : Fm} {Γ : Gm} {Δ : Δs} {γ : Type}
variable {α β β2 β3 β4 : Type} {g : TG} {own : List (Str × Nat)} {T : Option γ} {k : β × List (κ × δ) → Option γ} {Ex : α → Pd} {E : δ → Pd} {bd : Gm → α → Gm} {xs : β → List α} {Δ1 : β → Δs} {f : β → α → Option (Option (κ × δ))} {c : β → α → β2 → Bool} {T2 : β → α → β2 → Option (Option (κ × δ))} {T3 : β → α → β2 → β3 → Option (Option (κ × δ))} {ky : β → α → β2 → β3 → κ} {y : β → α → β2 → β3 → β4 → δ}
end
end L3
end
section
set_option maxHeartbeats 4000000
namespace L3
open PySem PySem.Spec PyProof.Rows L2
section
variable {κ α : Type} [DecidableEq κ] [Ky κ]
variable {X : Cx} {W : Bool} {F : Fm} {Γ : Gm} {Δ : Δs} {γ : Type}
end
end L3
end
section
set_option maxHeartbeats 4000000
namespace L3
open PySem PySem.Spec PyProof.Rows L2
section
variable {κ α : Type} [DecidableEq κ] [Ky κ] {X : Cx} {W : Bool} {F : Fm} {Γ : Gm} {Δ : Δs} {γ : Type}
end
section
variable {X : Cx} {F : Fm} {Γ : Gm} {Δ : Δs} {γ : Type}
end
end L3
end
section
set_option maxHeartbeats 4000000
namespace L3
open PySem PySem.Spec PyProof.Rows L2
section
variable {X : Cx} {W : Bool} {F : Fm} {Γ : Gm} {Δ : Δs} {γ : Type}
variable {N : Fn γ}
end
end L3
end
section
set_option maxHeartbeats 4000000
namespace L3
open PySem PySem.Spec PyProof.Rows L2
section
variable {X : Cx} {W : Bool} {F : Fm} {Γ : Gm} {Δ : Δs} {γ : Type}
end
section
variable {X : Cx} {W : Bool} {F : Fm} {Γ : Gm} {Δ : Δs} {γ : Type}
end
section
variable {ε : Type} {Kx : Xk ε} {F : Fm} {Δx : Δs} {Nx : SS → Hp → Prop} {Wx : WX}
end
end L3
end
section
set_option maxHeartbeats 4000000
set_option autoImplicit true
namespace L3
open PySem PySem.Spec PyProof.Rows L2
section
variable {X : Cx} {W : Bool} {F : Fm} {Γ : Gm} {Δ : Δs} {γ : Type}
end
section
variable {X : Cx} {W : Bool} {F : Fm} {Γ : Gm} {Δ : Δs} {γ : Type}
variable {N : Fn γ}
end
section
variable {X : Cx} {W : Bool} {F : Fm} {Γ : Gm} {Δ : Δs} {γ : Type}
end
end L3
end
section
set_option maxHeartbeats 4000000
set_option autoImplicit true
namespace L3
open PySem PySem.Spec PyProof.Rows L2
section
variable {M : Model} {A : Around} {E : Value → Shared → Prop} {s : Shared} {K : PySem.W.Frag} {x C f : Addr} {ox : Obj} {od : Option Obj} {v : Value}
end
section
variable {X : Cx} {CX : CXT} {k : Nat} {f : Addr} {fd : FuncData} {ps : List Str} {sp : Sp} {E : XK}
end
section
variable {X : Cx} {W : Bool} {F : Fm} {Γ : Gm} {Δ : Δs} {γ : Type}
end
section
variable {prog : Program} {w : World} {A : Around} {E : Value → Shared → Prop} {s : Shared} {r d : Addr} {n : Nat} {P : Nat → Value → Prop} {OK : Heap → Prop}
end
section
variable {X : Cx} {W : Bool} {F : Fm} {Γ : Gm} {Δ : Δs} {γ : Type} {κ α : Type} [DecidableEq κ] [Ky κ]
end
section
variable {κ α : Type} [DecidableEq κ] [Ky κ]
end
section
variable {X : Cx} {W : Bool} {F : Fm} {Γ : Gm} {Δ : Δs} {γ : Type} {κ α : Type} [DecidableEq κ] [Ky κ]
end
section
variable {X : Cx} {W : Bool} {F : Fm} {Γ : Gm} {Δ : Δs} {γ ε : Type} {Kx : Xk ε} {ιx : ε → γ} {Wx : WX}
end
section
variable {X : Cx} {F : Fm} {Γ : Gm} {Δ : Δs} {γ : Type}
end
end L3
end
section
set_option maxHeartbeats 4000000
set_option autoImplicit true
namespace L3
open PySem PySem.Spec PyProof.Rows L2 PySem.SxX
section
variable {X : Cx} {x n x2 n2 : Str} {c c2 : Value} {i i2 : Nat} {body suite suite2 : List Stmt} {b₀ b₂ : Stmt} {np pos pos' np2 pos2 : Pos} {tb : WX → TS} {ts ts2 : Addr → Value → Option Addr → TS} {Wout : WX}
end
section
variable {X : Cx} {W : Bool} {F : Fm} {Γ : Gm} {Δ : Δs} {γ ε : Type} {Kx : Xk ε}
end
end L3
end
section
set_option maxHeartbeats 4000000
set_option synthInstance.maxSize 2000
noncomputable section
namespace My
open PySem PySem.Spec PyProof.Rows L2 L3
end My
end
section
set_option maxHeartbeats 4000000
set_option synthInstance.maxSize 2000
namespace My
open PySem PySem.Spec PyProof.Rows L2 L3
def top (i : Nat) : Stmt := PySem.Challenge.pw_curbdesk_k17_worths.main.body.getD i (.Pass ⟨0, 0, 0, 0⟩)
def rsL : List Str := ["UnknownName", "RepeatedName", "RepeatedKey"]
def csL : List Str := ["UnknownName", "RepeatedName", "UnknownValue", "RepeatedValue", "UnknownKey", "RepeatedKey", "EmptyRule", "BadRow", "BadBounds", "BadNumber", "BadStep", "NoMark", "NotStruck", "BadOrder", "NotBare", "NoClash", "HoldsAnswer", "BadLine", "UnknownLine", "BadText", "NothingToUndo", "NothingToRedo", "UnknownStep", "BadDeed", "DeskError", "ValueError"]
def cBody (s : Stmt) : List Stmt := match s with
  | .ClassDef _ _ _ b _ _ _ _ _ _ _ => b
  | _ => []
def mth (i j : Nat) : Stmt := (cBody (top i)).getD j (.Pass ⟨0, 0, 0, 0⟩)
end My
end
section
set_option maxHeartbeats 4000000
set_option synthInstance.maxSize 2000
namespace My
open PySem PySem.Spec PyProof.Rows L2 L3
section
variable {P : Program} {w : World} {K : PySem.W.Frag} {mg : Str → Option Value} {base : Heap}
end
end My
end
section
set_option maxHeartbeats 4000000
set_option synthInstance.maxSize 2000
namespace My
open PySem PySem.Spec PyProof.Rows L2 L3
section
variable {P : Program} {w : World} {K : PySem.W.Frag} {mg : Str → Option Value} {base : Heap}
end
end My
end
section
set_option maxHeartbeats 4000000
set_option synthInstance.maxSize 2000
namespace My
open PySem PySem.Spec PyProof.Rows L2 L3
section
variable {P : Program} {w : World} {K : PySem.W.Frag} {mg : Str → Option Value} {base : Heap}
end
end My
end
section
set_option maxHeartbeats 4000000
set_option synthInstance.maxSize 2000
namespace My
open PySem PySem.Spec PyProof.Rows L2 L3
section
variable {P : Program} {w : World} {K : PySem.W.Frag} {mg : Str → Option Value} {base : Heap}
end
end My
end
section
set_option maxHeartbeats 4000000
set_option synthInstance.maxSize 2000
namespace My
open PySem PySem.Spec PyProof.Rows L2 L3
section
variable {P : Program} {w : World} {K : PySem.W.Frag} {mg : Str → Option Value} {base : Heap}
end
end My
end
section
set_option maxHeartbeats 4000000
set_option synthInstance.maxSize 2000
namespace My
open PySem PySem.Spec PyProof.Rows L2 L3
section
variable {P : Program} {w : World} {K : PySem.W.Frag} {mg : Str → Option Value} {base : Heap}
end
end My
end
section
set_option maxHeartbeats 4000000
set_option synthInstance.maxSize 2000
namespace My
open PySem PySem.Spec PyProof.Rows L2 L3
section
variable {P : Program} {w : World} {K : PySem.W.Frag} {mg : Str → Option Value} {base : Heap}
end
end My
end
section
set_option maxHeartbeats 4000000
set_option synthInstance.maxSize 2000
namespace My
open PySem PySem.Spec PyProof.Rows L2 L3
section
variable {P : Program} {w : World} {K : PySem.W.Frag} {mg : Str → Option Value} {base : Heap}
end
end My
end
section
set_option maxHeartbeats 4000000
set_option synthInstance.maxSize 2000
namespace My
open PySem PySem.Spec PyProof.Rows L2 L3
section
variable {P : Program} {w : World} {K : PySem.W.Frag} {mg : Str → Option Value} {base : Heap}
end
end My
end
section
set_option maxHeartbeats 4000000
set_option synthInstance.maxSize 2000
namespace My
open PySem PySem.Spec PyProof.Rows L2 L3
section
variable {P : Program} {w : World} {K : PySem.W.Frag} {mg : Str → Option Value} {base : Heap}
end
end My
end
section
set_option maxHeartbeats 4000000
set_option synthInstance.maxSize 2000
namespace My
open PySem PySem.Spec PyProof.Rows L2 L3
section
variable {P : Program} {w : World} {K : PySem.W.Frag} {mg : Str → Option Value} {base : Heap}
end
end My
end
section
set_option maxHeartbeats 4000000
set_option synthInstance.maxSize 2000
namespace My
open PySem PySem.Spec PyProof.Rows L2 L3
section
variable {P : Program} {w : World} {K : PySem.W.Frag} {mg : Str → Option Value} {base : Heap}
end
end My
end
section
set_option maxHeartbeats 4000000
set_option synthInstance.maxSize 2000
namespace My
open PySem PySem.Spec PyProof.Rows L2 L3
section
variable {P : Program} {w : World} {K : PySem.W.Frag} {mg : Str → Option Value} {base : Heap}
end
end My
end
section
set_option maxHeartbeats 4000000
set_option synthInstance.maxSize 2000
namespace My
open PySem PySem.Spec PyProof.Rows L2 L3
section
variable {P : Program} {w : World} {K : PySem.W.Frag} {mg : Str → Option Value} {base : Heap}
end
end My
end
section
set_option maxHeartbeats 4000000
set_option synthInstance.maxSize 2000
namespace My
open PySem PySem.Spec PyProof.Rows L2 L3
section
variable {P : Program} {w : World} {K : PySem.W.Frag} {mg : Str → Option Value} {base : Heap}
end
end My
end
section
set_option maxHeartbeats 4000000
set_option synthInstance.maxSize 2000
namespace My
open PySem PySem.Spec PyProof.Rows L2 L3
section
variable {P : Program} {w : World} {K : PySem.W.Frag} {mg : Str → Option Value} {base : Heap}
end
end My
end
section
set_option maxHeartbeats 4000000
set_option synthInstance.maxSize 2000
namespace My
open PySem PySem.Spec PyProof.Rows L2 L3
section
variable {P : Program} {w : World} {K : PySem.W.Frag} {mg : Str → Option Value} {base : Heap}
end
end My
end
section
set_option maxHeartbeats 4000000
set_option synthInstance.maxSize 2000
namespace My
open PySem PySem.Spec PyProof.Rows L2 L3
section
variable {P : Program} {w : World} {K : PySem.W.Frag} {mg : Str → Option Value} {base : Heap}
end
end My
end
section
set_option maxHeartbeats 4000000
set_option synthInstance.maxSize 2000
namespace My
open PySem PySem.Spec PyProof.Rows L2 L3
section
variable {P : Program} {w : World} {K : PySem.W.Frag} {mg : Str → Option Value} {base : Heap}
end
end My
end
section
set_option maxHeartbeats 4000000
set_option synthInstance.maxSize 2000
namespace My
open PySem PySem.Spec PyProof.Rows L2 L3
section
variable {P : Program} {w : World} {K : PySem.W.Frag} {mg : Str → Option Value} {base : Heap}
end
end My
end
section
set_option maxHeartbeats 4000000
set_option synthInstance.maxSize 2000
namespace My
open PySem PySem.Spec PyProof.Rows L2 L3
section
variable {P : Program} {w : World} {K : PySem.W.Frag} {mg : Str → Option Value} {base : Heap}
end
end My
end
section
set_option maxHeartbeats 4000000
set_option synthInstance.maxSize 2000
namespace My
open PySem PySem.Spec PyProof.Rows L2 L3
section
variable {P : Program} {w : World} {K : PySem.W.Frag} {mg : Str → Option Value} {base : Heap}
end
end My
end
section
set_option maxHeartbeats 4000000
set_option synthInstance.maxSize 2000
namespace My
open PySem PySem.Spec PyProof.Rows L2 L3
section
variable {P : Program} {w : World} {K : PySem.W.Frag} {mg : Str → Option Value} {base : Heap}
end
end My
end
section
set_option maxHeartbeats 4000000
set_option synthInstance.maxSize 2000
namespace My
open PySem PySem.Spec PyProof.Rows L2 L3
section
variable {P : Program} {w : World} {K : PySem.W.Frag} {mg : Str → Option Value} {base : Heap}
end
end My
end
section
set_option maxHeartbeats 4000000
set_option synthInstance.maxSize 2000
namespace My
open PySem PySem.Spec PyProof.Rows L2 L3
section
variable {P : Program} {w : World} {K : PySem.W.Frag} {mg : Str → Option Value} {base : Heap}
end
end My
end
section
set_option maxHeartbeats 4000000
set_option synthInstance.maxSize 2000
namespace My
open PySem PySem.Spec PyProof.Rows L2 L3
section
variable {P : Program} {w : World} {K : PySem.W.Frag} {mg : Str → Option Value} {base : Heap}
end
end My
end
section
set_option maxHeartbeats 4000000
set_option synthInstance.maxSize 2000
namespace My
open PySem PySem.Spec PyProof.Rows L2 L3
section
variable {P : Program} {w : World} {K : PySem.W.Frag} {mg : Str → Option Value} {base : Heap}
end
end My
end
section
set_option maxHeartbeats 4000000
set_option synthInstance.maxSize 2000
namespace My
open PySem PySem.Spec PyProof.Rows L2 L3
section
variable {P : Program} {w : World} {K : PySem.W.Frag} {mg : Str → Option Value} {base : Heap}
end
end My
end
section
namespace My
open PySem PySem.Spec PyProof.Rows L2 L3
section
variable {α β γ S ρ δ : Type}
end
end My
end
section
namespace My
open PySem PySem.Spec PyProof.Rows L2 L3
section
variable {κ α : Type} [DecidableEq κ]
end
end My
end
section
namespace My
open PySem PySem.Spec PyProof.Rows L2 L3
end My
end
section
namespace My
open PySem PySem.Spec PyProof.Rows L2 L3
end My
end
section
namespace My
open PySem PySem.Spec PyProof.Rows L2 L3
section
variable {κ α : Type} [DecidableEq κ]
end
section
variable {α S ρ δ : Type}
end
abbrev Box := List (Str × List Int)
end My
end
section
namespace My
open PySem PySem.Spec PyProof.Rows L2 L3
end My
end
section
namespace My
open PySem PySem.Spec PyProof.Rows L2 L3
abbrev Tw := Int × Str
section
variable {W : List Tw} {B : Box} {v : List (Str × Int)}
end
end My
end
section
namespace My
open PySem PySem.Spec PyProof.Rows L2 L3
end My
end
section
namespace My
open PySem PySem.Spec PyProof.Rows L2 L3
end My
end
section
namespace My
open PySem PySem.Spec PyProof.Rows L2 L3
end My
end
section
namespace My
open PySem PySem.Spec PyProof.Rows L2 L3
end My
end
section
set_option maxHeartbeats 0
namespace My
open PySem PySem.Spec PyProof.Rows L2 L3
def d__wall : He.DefD := ⟨("_wall", none), "_wall", "_wall", defArgs (top 0), defBody (top 0), defScope (top 0), [], []⟩
def d_checked_worth : He.DefD := ⟨("checked_worth", none), "checked_worth", "checked_worth", defArgs (top 28), defBody (top 28), defScope (top 28), [], []⟩
def d_worth_of : He.DefD := ⟨("worth_of", none), "worth_of", "worth_of", defArgs (top 29), defBody (top 29), defScope (top 29), [], []⟩
def d_best_in : He.DefD := ⟨("best_in", none), "best_in", "best_in", defArgs (top 30), defBody (top 30), defScope (top 30), [], [("greatest", .bl false)]⟩
def d_side_of : He.DefD := ⟨("side_of", none), "side_of", "side_of", defArgs (top 32), defBody (top 32), defScope (top 32), [], []⟩
def d_copy_box : He.DefD := ⟨("copy_box", none), "copy_box", "copy_box", defArgs (top 34), defBody (top 34), defScope (top 34), [], []⟩
def d_room : He.DefD := ⟨("room", none), "room", "room", defArgs (top 35), defBody (top 35), defScope (top 35), [], []⟩
def d_checked_domains : He.DefD := ⟨("checked_domains", none), "checked_domains", "checked_domains", defArgs (top 37), defBody (top 37), defScope (top 37), [], []⟩
def d__law_is_integer : He.DefD := ⟨("_law_is_integer", none), "_law_is_integer", "_law_is_integer", defArgs (top 40), defBody (top 40), defScope (top 40), [], []⟩
def d__law_stream : He.DefD := ⟨("_law_stream", none), "_law_stream", "_law_stream", defArgs (top 41), defBody (top 41), defScope (top 41), [], []⟩
def d__law_next : He.DefD := ⟨("_law_next", none), "_law_next", "_law_next", defArgs (top 42), defBody (top 42), defScope (top 42), [], []⟩
def d__law_names : He.DefD := ⟨("_law_names", none), "_law_names", "_law_names", defArgs (top 43), defBody (top 43), defScope (top 43), [], []⟩
def d__law_pool : He.DefD := ⟨("_law_pool", none), "_law_pool", "_law_pool", defArgs (top 44), defBody (top 44), defScope (top 44), [], []⟩
def d__law_part : He.DefD := ⟨("_law_part", none), "_law_part", "_law_part", defArgs (top 45), defBody (top 45), defScope (top 45), [], []⟩
def d__law_scope : He.DefD := ⟨("_law_scope", none), "_law_scope", "_law_scope", defArgs (top 46), defBody (top 46), defScope (top 46), [], []⟩
def d__law_assignments : He.DefD := ⟨("_law_assignments", none), "_law_assignments", "_law_assignments", defArgs (top 47), defBody (top 47), defScope (top 47), [], []⟩
def d__law_is_side : He.DefD := ⟨("_law_is_side", none), "_law_is_side", "_law_is_side", defArgs (top 48), defBody (top 48), defScope (top 48), [], []⟩
def d__law_same_sides : He.DefD := ⟨("_law_same_sides", none), "_law_same_sides", "_law_same_sides", defArgs (top 49), defBody (top 49), defScope (top 49), [], []⟩
def d__law_copy : He.DefD := ⟨("_law_copy", none), "_law_copy", "_law_copy", defArgs (top 50), defBody (top 50), defScope (top 50), [], []⟩
def d__law_weights : He.DefD := ⟨("_law_weights", none), "_law_weights", "_law_weights", defArgs (top 51), defBody (top 51), defScope (top 51), [], []⟩
def d__law_spoilt : He.DefD := ⟨("_law_spoilt", none), "_law_spoilt", "_law_spoilt", defArgs (top 52), defBody (top 52), defScope (top 52), [], []⟩
def d__law_fault : He.DefD := ⟨("_law_fault", none), "_law_fault", "_law_fault", defArgs (top 53), defBody (top 53), defScope (top 53), [], []⟩
def d__law_same_terms : He.DefD := ⟨("_law_same_terms", none), "_law_same_terms", "_law_same_terms", defArgs (top 54), defBody (top 54), defScope (top 54), [], []⟩
def d__law_checked : He.DefD := ⟨("_law_checked", none), "_law_checked", "_law_checked", defArgs (top 55), defBody (top 55), defScope (top 55), [], []⟩
def d__law_totals : He.DefD := ⟨("_law_totals", none), "_law_totals", "_law_totals", defArgs (top 56), defBody (top 56), defScope (top 56), [], []⟩
def d__law_bounds : He.DefD := ⟨("_law_bounds", none), "_law_bounds", "_law_bounds", defArgs (top 57), defBody (top 57), defScope (top 57), [], []⟩
def d_law : He.DefD := ⟨("law", none), "law", "law", defArgs (top 58), defBody (top 58), defScope (top 58), [], []⟩
def d_Puzzle___init__ : He.DefD := ⟨("Puzzle", some "__init__"), "__init__", "Puzzle.__init__", defArgs (mth 38 0), defBody (mth 38 0), defScope (mth 38 0), [], []⟩
def d_Puzzle_inner_add : He.DefD := ⟨("Puzzle", some "inner_add"), "inner_add", "Puzzle.inner_add", defArgs (mth 38 1), defBody (mth 38 1), defScope (mth 38 1), [], []⟩
def d_Puzzle___contains__ : He.DefD := ⟨("Puzzle", some "__contains__"), "__contains__", "Puzzle.__contains__", defArgs (mth 38 3), defBody (mth 38 3), defScope (mth 38 3), [], []⟩
def ini (i : Nat) : Stmt := (cBody (top i)).getD 0 (.Pass ⟨0, 0, 0, 0⟩)
def x_UnknownName : XD := ⟨"UnknownName", "UnknownName.__init__", defArgs (ini 3), defBody (ini 3), defScope (ini 3), ["name"]⟩
def x_RepeatedName : XD := ⟨"RepeatedName", "RepeatedName.__init__", defArgs (ini 4), defBody (ini 4), defScope (ini 4), ["name"]⟩
def x_RepeatedKey : XD := ⟨"RepeatedKey", "RepeatedKey.__init__", defArgs (ini 8), defBody (ini 8), defScope (ini 8), ["key"]⟩
def xs : List XD := [x_UnknownName, x_RepeatedName, x_RepeatedKey]
def fn : List He.DefD := [d__wall, d_checked_worth, d_worth_of, d_best_in, d_side_of, d_copy_box, d_room, d_checked_domains, d__law_is_integer, d__law_stream, d__law_next, d__law_names, d__law_pool, d__law_part, d__law_scope, d__law_assignments, d__law_is_side, d__law_same_sides, d__law_copy, d__law_weights, d__law_spoilt, d__law_fault, d__law_same_terms, d__law_checked, d__law_totals, d__law_bounds, d_law, d_Puzzle___init__, d_Puzzle_inner_add, d_Puzzle___contains__]
def fa : List He.Fa := [.glo "_wall", .glo "checked_worth", .glo "worth_of", .glo "best_in", .glo "side_of", .glo "copy_box", .glo "room", .glo "checked_domains", .glo "_law_is_integer", .glo "_law_stream", .glo "_law_next", .glo "_law_names", .glo "_law_pool", .glo "_law_part", .glo "_law_scope", .glo "_law_assignments", .glo "_law_is_side", .glo "_law_same_sides", .glo "_law_copy", .glo "_law_weights", .glo "_law_spoilt", .glo "_law_fault", .glo "_law_same_terms", .glo "_law_checked", .glo "_law_totals", .glo "_law_bounds", .glo "law", .glo "UnknownName", .glo "RepeatedName", .glo "RepeatedKey", .glo "UnknownValue", .glo "RepeatedValue", .glo "UnknownKey", .glo "EmptyRule", .glo "BadRow", .glo "BadBounds", .glo "BadNumber", .glo "BadStep", .glo "NoMark", .glo "NotStruck", .glo "BadOrder", .glo "NotBare", .glo "NoClash", .glo "HoldsAnswer", .glo "BadLine", .glo "UnknownLine", .glo "BadText", .glo "NothingToUndo", .glo "NothingToRedo", .glo "UnknownStep", .glo "BadDeed", .glo "DeskError", .glo "Puzzle", .free "ValueError", .free "all", .free "bool", .free "dict", .free "int", .free "isinstance", .free "iter", .free "len", .free "list", .free "max", .free "min", .free "range", .free "set", .free "sorted", .free "str", .free "sum", .free "super", .free "tuple", .cls "Puzzle", .mkr "Puzzle", .noat "Puzzle" "inner_sides", .noat "Puzzle" "names", .noat "Puzzle" "room", .noat "Puzzle" "inner_rules", .noat "Puzzle" "rule_keys", .meth "Puzzle" "inner_add", .meth "Puzzle" "__contains__"]
def loose0 : List PySem.Str := ["_wall", "DeskError", "UnknownName", "RepeatedName", "UnknownValue", "RepeatedValue", "UnknownKey", "RepeatedKey", "EmptyRule", "BadRow", "BadBounds", "BadNumber", "BadStep", "NoMark", "NotStruck", "BadOrder", "NotBare", "NoClash", "HoldsAnswer", "BadLine", "UnknownLine", "BadText", "NothingToUndo", "NothingToRedo", "UnknownStep", "BadDeed", "checked_worth", "worth_of", "best_in", "side_of"]
def loose1 : List PySem.Str := ["copy_box", "room", "checked_domains", "Puzzle", "_law_is_integer", "_law_stream", "_law_next", "_law_names", "_law_pool", "_law_part", "_law_scope", "_law_assignments", "_law_is_side", "_law_same_sides", "_law_copy", "_law_weights", "_law_spoilt", "_law_fault", "_law_same_terms", "_law_checked", "_law_totals", "_law_bounds"]
def loose : List PySem.Str := loose0 ++ loose1
abbrev R : PySem.W.OpenRow := PySem.W.OpenLaw.row PySem.Challenge.rw_curbdesk_k17_worths
abbrev hk : PySem.W.Hook := hookX 5 R.prog fa fn xs rsL csL
def ob (s : PySem.W.SharedT) : AlX := obsXG 5 R.prog fa fn xs rsL csL (HandSHeadRun.getT s)
theorem ob_eq (s : PySem.W.SharedT) : ob s = hk.obs s.abs := obsXG_eq (HandSHeadRun.getT_eq s)
theorem run (w : World) : HandSHeadRun.RunEq R (PySem.W.view R.prog [58]) hk ob 30000 loose w := by
  intro os
  kernel_rfl
end My
end
section
set_option maxHeartbeats 4000000
namespace L3
open PySem PySem.Spec PyProof.Rows L2
theorem Fzs.refl (H : Hp) : Fzs H H := fun _ _ _ h => h
theorem Gr.refl (H : Hp) : Gr H H := fun _ _ h => h
theorem Gr.fzs {H H' : Hp} (g : Gr H H') : Fzs H H' := fun a o _ h => g a o h
theorem Fzs.mut {H : Hp} {p : Addr} {o u : HO} (h : H p = some o) (m : ¬ Pst o) : Fzs H (upd H p u) := fun a x px e => by
  have : a ≠ p := fun z => by subst z; rw [h] at e; cases e; exact m px
  rw [upd_ne this]; exact e
def pBl (b : Bool) : Pd := ⟨fun _ v => v = .bl b, fun _ h => h⟩
def pNon : Pd := ⟨fun _ v => v = .non, fun _ h => h⟩
def pV (u : V) : Pd := ⟨fun _ v => v = u, fun _ h => h⟩
def pUnit (_ : Unit) : Pd := pNon
def pOp {α : Type} (E : α → Pd) : Option α → Pd
  | none => pNon
  | some x => E x
def pT2 {α β : Type} (E : α → Pd) (G : β → Pd) (x : α × β) : Pd where
  pr H v := ∃ a u w, v = .ref a ∧ H a = some (.tup [u, w]) ∧ (E x.1).pr H u ∧ (G x.2).pr H w
  mono := fun f ⟨a, u, w, e, h, p, q⟩ => ⟨a, u, w, e, f _ _ trivial h, (E _).mono f p, (G _).mono f q⟩
def pT3 {α β γ : Type} (E : α → Pd) (G : β → Pd) (K : γ → Pd) (x : α × β × γ) : Pd where
  pr H v := ∃ a u w z, v = .ref a ∧ H a = some (.tup [u, w, z]) ∧ (E x.1).pr H u ∧ (G x.2.1).pr H w ∧ (K x.2.2).pr H z
  mono := fun f ⟨a, u, w, z, e, h, p, q, r⟩ => ⟨a, u, w, z, e, f _ _ trivial h, (E _).mono f p, (G _).mono f q, (K _).mono f r⟩
def pD {α : Type} (E : α → Pd) (xs : List (Str × α)) : Pd where
  pr H v := ∃ a o kvs, v = .ref a ∧ H a = some (.frz o (.dK kvs)) ∧ xs.length ≤ sizeLine ∧ Paired (fun (x : Str × α) (u : Key × V) => u.1 = .inr x.1 ∧ (E x.2).pr H u.2) xs kvs
  mono := fun f ⟨a, o, vs, e, h, z, p⟩ => ⟨a, o, vs, e, f _ _ trivial h, z, paired_mono (fun x _ q => ⟨q.1, (E x.2).mono f q.2⟩) p⟩
theorem upd_dom {H : Hp} (p : Addr) (u : HO) : ∀ a o, H a = some o → ∃ z, upd H p u a = some z := fun a o e => by
  by_cases h : a = p
  · exact ⟨u, by rw [h, upd_same]⟩
  · exact ⟨o, by rw [upd_ne h, e]⟩
theorem inv_lk {X : Cx} {pins : List (Addr × Obj)} {σ : SS} {s : Shared} {Φ : Hp → Prop} : ∀ {G : List Addr} {H : Hp}, Inv X pins σ H s → tLk G Φ H → ∃ H', Inv X pins σ H' s ∧ Φ H'
  | [], H, I, h => ⟨H, I, h⟩
  | _ :: _, _, I, ⟨u, h, m, k⟩ => by
    obtain ⟨o, I'⟩ := I.lock h m
    exact inv_lk I' (k o)
theorem lk_fzs {G : List Addr} {H H1 : Hp} (hm : ∀ a ∈ G, ∃ o, H a = some o ∧ Mut (some o)) (h1 : ∀ a, a ∉ G → H1 a = H a) : Fzs H H1 := fun a o p e => by
  rw [h1 a fun ha => ?_]
  · exact e
  · obtain ⟨u, eu, m⟩ := hm a ha
    rw [e] at eu
    cases eu
    exact Mut.npst m p
theorem one_cells {p : Addr} {G : List Addr} {H : Hp} {u : HO} (eg : G = [p]) (h : H p = some u) (m : Mut (some u)) : ∀ a ∈ G, ∃ o, H a = some o ∧ Mut (some o) := fun a ha => by
  rw [eg] at ha
  rw [List.mem_singleton.mp ha]
  exact ⟨_, h, m⟩
def oL {α : Type} (E : α → Pd) (xs : List α) : Od where
  pr G H v := ∃ p vs, G = [p] ∧ v = .ref p ∧ H p = some (.lst vs) ∧ xs.length ≤ sizeLine ∧ Paired (fun x u => (E x).pr H u) xs vs
  pd := pL E xs
  frame := fun ⟨p, vs, eg, ev, h, z, q⟩ k f => ⟨p, vs, eg, ev, k p (by rw [eg]; exact List.mem_singleton.mpr rfl) _ h, z, paired_mono (fun x _ => (E x).mono f) q⟩
  cells := fun ⟨p, vs, eg, ev, h, z, q⟩ => one_cells eg h trivial
  lockd := fun ⟨p, vs, eg, ev, h, z, q⟩ h1 h2 => by
    obtain ⟨o, ho⟩ := h2 p (by rw [eg]; exact List.mem_singleton.mpr rfl) _ h
    exact ⟨p, o, vs, ev, ho, z, paired_mono (fun x _ => (E x).mono (lk_fzs (one_cells eg h trivial) h1)) q⟩
def oD {α : Type} (E : α → Pd) (xs : List (Str × α)) : Od where
  pr G H v := ∃ p kvs, G = [p] ∧ v = .ref p ∧ H p = some (.dK kvs) ∧ xs.length ≤ sizeLine ∧ Paired (fun (x : Str × α) (u : Key × V) => u.1 = .inr x.1 ∧ (E x.2).pr H u.2) xs kvs
  pd := pD E xs
  frame := fun ⟨p, vs, eg, ev, h, z, q⟩ k f => ⟨p, vs, eg, ev, k p (by rw [eg]; exact List.mem_singleton.mpr rfl) _ h, z, paired_mono (fun x _ q => ⟨q.1, (E x.2).mono f q.2⟩) q⟩
  cells := fun ⟨p, vs, eg, ev, h, z, q⟩ => one_cells eg h trivial
  lockd := fun ⟨p, vs, eg, ev, h, z, q⟩ h1 h2 => by
    obtain ⟨o, ho⟩ := h2 p (by rw [eg]; exact List.mem_singleton.mpr rfl) _ h
    exact ⟨p, o, vs, ev, ho, z, paired_mono (fun x _ q => ⟨q.1, (E x.2).mono (lk_fzs (one_cells eg h trivial) h1) q.2⟩) q⟩
theorem cellsOf_app (A B : List Cel) : cellsOf (A ++ B) = cellsOf A ++ cellsOf B := by unfold cellsOf; rw [List.flatMap_append]
theorem HkO.gr {F : Fm} {Δ : List Cel} {H H' : Hp} (k : HkO F Δ H) (g : Gr H H') : HkO F Δ H' :=
  ⟨fun a o e m => g a o (k.base a o e m), fun c hc => c.d.frame (k.del c hc) (fun a _ o e => g a o e) g.fzs, k.nod, k.own, fun m hm a ha => (k.mem m hm a ha).imp fun o e => g a o e⟩
theorem Hk.gr {F : Fm} {Δ : Δs} {H H' : Hp} (k : Hk F Δ H) (g : Gr H H') : Hk F Δ H' := by
  obtain ⟨Δ0, e, k⟩ := k
  exact ⟨Δ0, e, k.gr g⟩
theorem Ok.gr {F : Fm} {Γ : Gm} {Δ : Δs} {σ : SS} {H H' : Hp} (k : Ok F Γ Δ σ H) (g : Gr H H') : Ok F Γ Δ σ H' := ⟨k.hk.gr g, k.nm.mono g.fzs⟩
theorem HkO.add {F : Fm} {Δ : List Cel} {H H' : Hp} (k : HkO F Δ H) (g : Gr H H') {G : List Addr} {v : V} {d : Od} (nd : G.Nodup) (new : ∀ a ∈ G, H a = none) (h : d.pr G H' v) : HkO F (⟨G, v, d, none⟩ :: Δ) H' :=
  (k.gr g).cons (c := ⟨G, v, d, none⟩) nd (fun a ha hb => by
    obtain ⟨o, e, _⟩ := k.isC hb
    rw [new a ha] at e
    cases e) h fun a ha => .inl (k.fresh0 (new a ha))
theorem Ok.add {W : Bool} {F : Fm} {Γ : Gm} {Δ : Δs} {σ : SS} {H H' : Hp} (k : Ok F Γ Δ σ H) (g : Gr H H') {G : List Addr} {v : V} {d : Od} (nd : G.Nodup) (new : ∀ a ∈ G, H a = none) (h : d.pr G H' v) : OkN W F Γ H v d Δ σ H' := by
  obtain ⟨⟨Δ0, e, hk⟩, n⟩ := k
  exact ⟨Δ0, G, e, hk.add g nd new h, fun _ => new, n.mono g.fzs⟩
end L3
end
section
set_option maxHeartbeats 4000000
set_option autoImplicit true
namespace L3
open PySem PySem.Spec PyProof.Rows L2
def grd {γ : Type} (c : Prop) [Decidable c] (x : Option γ) : Option γ := if c then x else none
theorem grd_some {γ : Type} {c : Prop} [Decidable c] {x : Option γ} {g : γ} (h : grd c x = some g) : c ∧ x = some g := by
  unfold grd at h
  by_cases q : c
  · rw [if_pos q] at h; exact ⟨q, h⟩
  · rw [if_neg q] at h; cases h
theorem bind_some {α γ : Type} {m : Option α} {k : α → Option γ} {g : γ} (h : m.bind k = some g) : ∃ a, m = some a ∧ k a = some g := by
  cases m with
  | none => cases h
  | some a => exact ⟨a, rfl, h⟩
theorem St.refl {W : Bool} (H : Hp) : St W H H := ⟨Fzs.refl H, fun _ => Gr.refl H, fun _ o h => ⟨o, h⟩⟩
theorem Gr.st {W : Bool} {H H' : Hp} (g : Gr H H') : St W H H' := ⟨g.fzs, fun _ => g, fun a o h => ⟨o, g a o h⟩⟩
theorem St.gr {H H' : Hp} (s : St false H H') : Gr H H' := s.kp rfl
theorem OkN.since {F : Fm} {Γ : Gm} {Δ : Δs} {σ : SS} {H0 H H' : Hp} {v : V} {d : Od} {W : Bool} (k : OkN W F Γ H v d Δ σ H') (s : St W H0 H) : OkN W F Γ H0 v d Δ σ H' := by
  obtain ⟨Δ0, G, e, k, nw, n⟩ := k
  exact ⟨Δ0, G, e, k, fun hw a ha => s.back (nw hw a ha), n⟩
def tE {β γ : Type} (W : Bool) (F : Fm) (Γ : Gm) (Δ : Δs) (T : Option γ) (k : β → Option γ) (E : β → Pd) (Δ' : β → Δs) : TE := fun σ H Q =>
  Ok F Γ Δ σ H ∧ ∃ g, T = some g ∧ ∀ b v H', k b = some g → St W H H' → Ok F Γ (Δ' b) σ H' → (E b).pr H' v → Q v H'
def tO {β γ : Type} (W : Bool) (F : Fm) (Γ : Gm) (Δ : Δs) (T : Option γ) (k : β → Option γ) (D : β → Od) (Δ' : β → Δs) : TE := fun σ H Q =>
  Ok F Γ Δ σ H ∧ ∃ g, T = some g ∧ ∀ b v H', k b = some g → St W H H' → OkN W F Γ H v (D b) (Δ' b) σ H' → Q v H'
def tAr {β γ : Type} (W : Bool) (F : Fm) (Γ : Gm) (Δ : Δs) (T : Option γ) (k : β → Option γ) (Es : β → List Pd) (Δ' : β → Δs) : TA := fun σ H Q =>
  Ok F Γ Δ σ H ∧ ∃ g, T = some g ∧ ∀ b vs H', k b = some g → St W H H' → Ok F Γ (Δ' b) σ H' → Paired (fun p v => Pd.pr p H' v) (Es b) vs → Q vs H'
def tTs {β γ : Type} (W : Bool) (F : Fm) (Γ : Gm) (Δ : Δs) (T : Option γ) (k : β → Option γ) (c : β → Bool) (Δ' : β → Δs) : TT := fun σ H Q =>
  Ok F Γ Δ σ H ∧ ∃ g, T = some g ∧ ∀ b H', k b = some g → St W H H' → Ok F Γ (Δ' b) σ H' → Q (c b) H'
def tS {γ : Type} (F : Fm) (Γ : Gm) (Δ : Δs) (N : Fn γ) (T : Option γ) : TS := fun D σ H => Ok F Γ Δ σ H ∧ ∃ g, T = some g ∧ N.fin H g D
section
variable {X : Cx}
theorem _root_.L2.PE.wk {e : Expr} {t t' : TE} (h : PE X e t) (w : ∀ σ H Q, t' σ H Q → t σ H Q) : PE X e t' := ⟨fun pins s σ H Q I q => h.run pins s σ H Q I (w σ H Q q)⟩
theorem _root_.L2.PA.wk {e : List Expr} {t t' : TA} (h : PA X e t) (w : ∀ σ H Q, t' σ H Q → t σ H Q) : PA X e t' := ⟨fun p pins s σ H Q I q => h.run p pins s σ H Q I (w σ H Q q)⟩
theorem _root_.L2.PT.wk {e : Expr} {t t' : TT} (h : PT X e t) (w : ∀ σ H Q, t' σ H Q → t σ H Q) : PT X e t' := ⟨fun pins s σ H Q I q => h.run pins s σ H Q I (w σ H Q q)⟩
theorem _root_.L2.PW.wk {e : Expr} {t t' : TT} (h : PW X e t) (w : ∀ σ H Q, t' σ H Q → t σ H Q) : PW X e t' := ⟨fun wh pins s σ H Q I q => h.run wh pins s σ H Q I (w σ H Q q)⟩
theorem _root_.L2.PSs.wk {e : List Stmt} {t t' : TS} (h : PSs X e t) (w : ∀ D σ H, t' D σ H → t D σ H) : PSs X e t' := ⟨fun pins s σ H D I q => h.run pins s σ H D I (w D σ H q)⟩
theorem _root_.L2.PS.wk {e : Stmt} {t t' : TS} (h : PS X e t) (w : ∀ D σ H, t' D σ H → t D σ H) : PS X e t' := ⟨fun pins s σ H D I q => h.run pins s σ H D I (w D σ H q)⟩
theorem pe_ex {β : Type} {e : Expr} {t : β → TE} (h : ∀ b, PE X e (t b)) : PE X e (fun σ H Q => ∃ b, t b σ H Q) := ⟨fun pins s σ H Q I ⟨b, q⟩ => (h b).run pins s σ H Q I q⟩
theorem pa_ex {β : Type} {e : List Expr} {t : β → TA} (h : ∀ b, PA X e (t b)) : PA X e (fun σ H Q => ∃ b, t b σ H Q) := ⟨fun p pins s σ H Q I ⟨b, q⟩ => (h b).run p pins s σ H Q I q⟩
theorem pw_ex {β : Type} {e : Expr} {t : β → TT} (h : ∀ b, PW X e (t b)) : PW X e (fun σ H Q => ∃ b, t b σ H Q) := ⟨fun wh pins s σ H Q I ⟨b, q⟩ => (h b).run wh pins s σ H Q I q⟩
theorem pss_ex {β : Type} {e : List Stmt} {t : β → TS} (h : ∀ b, PSs X e (t b)) : PSs X e (fun D σ H => ∃ b, t b D σ H) := ⟨fun pins s σ H D I ⟨b, q⟩ => (h b).run pins s σ H D I q⟩
variable {W : Bool} {F : Fm} {Γ : Gm} {Δ : Δs} {γ : Type}
theorem x_var (i : Nat) {x : Str} {pos : Pos} {p : Pd} {k : Unit → Option γ} (h : Γ[i]? = some (some p) := by rfl) (hN : X.N[i]? = some x := by rfl) (hv : Vis X.env.scope x := by first | exact Or.inl rfl | exact Or.inr (Or.inl rfl) | exact Or.inr (Or.inr rfl))
    (hd : (x == ("__debug__" : Str)) = false := by decide) (hcd : (x == ("__classdict__" : Str)) = false := by decide) : PE X (.Name x pos) (tE W F Γ Δ (k ()) k (fun _ => p) fun _ => Δ) :=
  (pe_var hN hv hd hcd).wk fun σ H Q ⟨ok, g, e, q⟩ => by
    obtain ⟨v, hs, hp⟩ := ok.gam i p h
    exact ⟨v, hs, q () v H e (St.refl H) ok hp⟩
theorem x_c {e : Expr} {v : V} {p : Pd} {k : Unit → Option γ} (he : PE X e (tC v)) (hp : ∀ H, p.pr H v) : PE X e (tE W F Γ Δ (k ()) k (fun _ => p) fun _ => Δ) :=
  he.wk fun σ H Q ⟨ok, g, e, q⟩ => q () v H e (St.refl H) ok (hp H)
theorem x_int {i : Int} {j pos} {k : Unit → Option γ} : PE X (.Constant (.int i) j pos) (tE W F Γ Δ (k ()) k (fun _ => pInt i) fun _ => Δ) := x_c pe_int fun _ => rfl
theorem x_bl {i : Bool} {j pos} {k : Unit → Option γ} : PE X (.Constant (.bool i) j pos) (tE W F Γ Δ (k ()) k (fun _ => pBl i) fun _ => Δ) := x_c pe_bl fun _ => rfl
theorem x_str {i : Str} {j pos} {k : Unit → Option γ} : PE X (.Constant (.str i) j pos) (tE W F Γ Δ (k ()) k (fun _ => pStr i) fun _ => Δ) := x_c pe_str fun _ => rfl
def Bin2 (X : Cx) (e a b : Expr) (r : R2) : Prop := ∀ ta tb, PE X a ta → PE X b tb → PE X e (tOp r ta tb)
theorem b_op {op : Operator} {r : R2} {a b : Expr} {pos : Pos} (ho : OpR X (binaryOp op) r) : Bin2 X (.BinOp a op b pos) a b r := fun _ _ ha hb => pe_op ho ha hb
theorem b_cmp {op : CmpOp} {r : R2} {a b : Expr} {pos : Pos} (ho : OpR X (compareOp op) r) (hm : behindInMarks op b = false) : Bin2 X (.Compare a [op] [b] pos) a b r := fun _ _ ha hb => pe_cmpR ho ha hb hm
theorem b_ix {r : R2} {a b : Expr} {pos : Pos} (ho : IxR X r) (hs : PlainIx b) : Bin2 X (.Subscript a b pos) a b r := fun _ _ ha hb => pe_ix ho ha hb hs
section
variable {e a b : Expr} {r : R2} {β1 β2 : Type} {T : Option γ} {k1 : β1 → Option γ} {k2 : β1 → β2 → Option γ} {E1 : β1 → Pd} {E2 : β1 → β2 → Pd} {Δ1 : β1 → Δs} {Δ2 : β1 → β2 → Δs}
theorem x2_core {t' : TE} (h2 : Bin2 X e a b r) (ha : PE X a (tE W F Γ Δ T k1 E1 Δ1)) (hb : ∀ b1, PE X b (tE W F Γ (Δ1 b1) (k1 b1) (k2 b1) (E2 b1) (Δ2 b1)))
    (hw : ∀ σ H Q, t' σ H Q → Ok F Γ Δ σ H ∧ ∃ g, T = some g ∧ ∀ b1 b2 v w H2, k2 b1 b2 = some g → St W H H2 → Ok F Γ (Δ2 b1 b2) σ H2 → (E1 b1).pr H2 v → (E2 b1 b2).pr H2 w → r v w H2 Q) : PE X e t' :=
  (h2 _ _ ha (pe_ex hb)).wk fun σ H Q h => by
    obtain ⟨ok, g, e, q⟩ := hw σ H Q h
    exact ⟨ok, g, e, fun b1 v H1 kb f1 ok1 hv => ⟨b1, ok1, g, kb, fun b2 w H2 kb2 f2 ok2 hw => q b1 b2 v w H2 kb2 (f1.trans f2) ok2 ((E1 b1).mono f2.fz hv) hw⟩⟩
theorem x2t {E : β1 × β2 → Pd} {k : β1 × β2 → Option γ} (h2 : Bin2 X e a b r) (ha : PE X a (tE W F Γ Δ T k1 E1 Δ1)) (hb : ∀ b1, PE X b (tE W F Γ (Δ1 b1) (k1 b1) (fun b2 => k (b1, b2)) (E2 b1) (Δ2 b1)))
    (hv : ∀ b1 b2 σ v w H Q, Ok F Γ (Δ2 b1 b2) σ H → (E1 b1).pr H v → (E2 b1 b2).pr H w → (∀ u, (E (b1, b2)).pr H u → Q u H) → r v w H Q) : PE X e (tE W F Γ Δ T k E fun b => Δ2 b.1 b.2) :=
  x2_core h2 ha hb fun σ H Q ⟨ok, g, e, q⟩ => ⟨ok, g, e, fun b1 b2 v w H2 kb f ok2 hv1 hv2 => hv b1 b2 σ v w H2 Q ok2 hv1 hv2 fun u hu => q (b1, b2) u H2 kb f ok2 hu⟩
theorem x2g {E : β1 × β2 → Pd} {k : β1 × β2 → Option γ} {c : β1 → β2 → Prop} [∀ b1 b2, Decidable (c b1 b2)] (h2 : Bin2 X e a b r) (ha : PE X a (tE W F Γ Δ T k1 E1 Δ1)) (hb : ∀ b1, PE X b (tE W F Γ (Δ1 b1) (k1 b1) (fun b2 => grd (c b1 b2) (k (b1, b2))) (E2 b1) (Δ2 b1)))
    (hv : ∀ b1 b2 σ v w H Q, Ok F Γ (Δ2 b1 b2) σ H → c b1 b2 → (E1 b1).pr H v → (E2 b1 b2).pr H w → (∀ u, (E (b1, b2)).pr H u → Q u H) → r v w H Q) : PE X e (tE W F Γ Δ T k E fun b => Δ2 b.1 b.2) :=
  x2_core h2 ha hb fun σ H Q ⟨ok, g, e, q⟩ => ⟨ok, g, e, fun b1 b2 v w H2 kb f ok2 hv1 hv2 => hv b1 b2 σ v w H2 Q ok2 (grd_some kb).1 hv1 hv2 fun u hu => q (b1, b2) u H2 (grd_some kb).2 f ok2 hu⟩
theorem x2p {β3 : Type} {E : (β1 × β2) × β3 → Pd} {k : (β1 × β2) × β3 → Option γ} {m : β1 → β2 → Option β3} (h2 : Bin2 X e a b r) (ha : PE X a (tE W F Γ Δ T k1 E1 Δ1))
    (hb : ∀ b1, PE X b (tE W F Γ (Δ1 b1) (k1 b1) (fun b2 => (m b1 b2).bind fun b3 => k ((b1, b2), b3)) (E2 b1) (Δ2 b1)))
    (hv : ∀ b1 b2 b3 σ v w H Q, Ok F Γ (Δ2 b1 b2) σ H → m b1 b2 = some b3 → (E1 b1).pr H v → (E2 b1 b2).pr H w → (∀ u, (E ((b1, b2), b3)).pr H u → Q u H) → r v w H Q) : PE X e (tE W F Γ Δ T k E fun b => Δ2 b.1.1 b.1.2) :=
  x2_core h2 ha hb fun σ H Q ⟨ok, g, e, q⟩ => ⟨ok, g, e, fun b1 b2 v w H2 kb f ok2 hv1 hv2 => by
    obtain ⟨b3, e3, kb3⟩ := bind_some kb
    exact hv b1 b2 b3 σ v w H2 Q ok2 e3 hv1 hv2 fun u hu => q ((b1, b2), b3) u H2 kb3 f ok2 hu⟩
end
def Bin2T (X : Cx) (e a b : Expr) (r : R2) : Prop := ∀ ta tb, PE X a ta → PE X b tb → PT X e (tTest (tOp r ta tb))
theorem bt_cmp {op : CmpOp} {r : R2} {a b : Expr} {pos : Pos} (ho : OpR X (compareOp op) r) (hm : behindInMarks op b = false) : Bin2T X (.Compare a [op] [b] pos) a b r := fun _ _ ha hb => pt_cmpR ho ha hb hm
section
variable {e a b : Expr} {r : R2} {β1 β2 : Type} {T : Option γ} {k1 : β1 → Option γ} {k2 : β1 → β2 → Option γ} {E1 : β1 → Pd} {E2 : β1 → β2 → Pd} {Δ1 : β1 → Δs} {Δ2 : β1 → β2 → Δs}
theorem t2_core {t' : TT} (h2 : Bin2T X e a b r) (ha : PE X a (tE W F Γ Δ T k1 E1 Δ1)) (hb : ∀ b1, PE X b (tE W F Γ (Δ1 b1) (k1 b1) (k2 b1) (E2 b1) (Δ2 b1)))
    (hw : ∀ σ H Q, t' σ H Q → Ok F Γ Δ σ H ∧ ∃ g, T = some g ∧ ∀ b1 b2 v w H2, k2 b1 b2 = some g → St W H H2 → Ok F Γ (Δ2 b1 b2) σ H2 → (E1 b1).pr H2 v → (E2 b1 b2).pr H2 w → r v w H2 (fun x H' => ∃ k, x = .bl k ∧ Q k H')) : PT X e t' :=
  (h2 _ _ ha (pe_ex hb)).wk fun σ H Q h => by
    obtain ⟨ok, g, e, q⟩ := hw σ H Q h
    exact ⟨ok, g, e, fun b1 v H1 kb f1 ok1 hv => ⟨b1, ok1, g, kb, fun b2 w H2 kb2 f2 ok2 hw => q b1 b2 v w H2 kb2 (f1.trans f2) ok2 ((E1 b1).mono f2.fz hv) hw⟩⟩
theorem t2t {c : β1 × β2 → Bool} {k : β1 × β2 → Option γ} (h2 : Bin2T X e a b r) (ha : PE X a (tE W F Γ Δ T k1 E1 Δ1)) (hb : ∀ b1, PE X b (tE W F Γ (Δ1 b1) (k1 b1) (fun b2 => k (b1, b2)) (E2 b1) (Δ2 b1)))
    (hv : ∀ b1 b2 σ v w H Q, Ok F Γ (Δ2 b1 b2) σ H → (E1 b1).pr H v → (E2 b1 b2).pr H w → (∀ u, (pBl (c (b1, b2))).pr H u → Q u H) → r v w H Q) : PT X e (tTs W F Γ Δ T k c fun b => Δ2 b.1 b.2) :=
  t2_core h2 ha hb fun σ H Q ⟨ok, g, e, q⟩ => ⟨ok, g, e, fun b1 b2 v w H2 kb f ok2 hv1 hv2 => hv b1 b2 σ v w H2 _ ok2 hv1 hv2 fun u hu => ⟨c (b1, b2), hu, q (b1, b2) H2 kb f ok2⟩⟩
end
section
variable {a b : Expr} {pos : Pos} {β1 β2 : Type} {T : Option γ} {k1 : β1 → Option γ} {k : β1 × β2 → Option γ} {Δ1 : β1 → Δs} {Δ2 : β1 → β2 → Δs} {i : β1 → Int} {j : β1 → β2 → Int}
theorem x_add (ha : PE X a (tE W F Γ Δ T k1 (fun b => pInt (i b)) Δ1)) (hb : ∀ b1, PE X b (tE W F Γ (Δ1 b1) (k1 b1) (fun b2 => k (b1, b2)) (fun b => pInt (j b1 b)) (Δ2 b1))) :
    PE X (.BinOp a .Add b pos) (tE W F Γ Δ T k (fun b => pInt (i b.1 + j b.1 b.2)) fun b => Δ2 b.1 b.2) :=
  x2t (b_op op_add) ha hb fun b1 b2 _ v w H Q _ hv hw q => ⟨i b1, j b1 b2, hv, hw, q _ rfl⟩
theorem x_sub (ha : PE X a (tE W F Γ Δ T k1 (fun b => pInt (i b)) Δ1)) (hb : ∀ b1, PE X b (tE W F Γ (Δ1 b1) (k1 b1) (fun b2 => k (b1, b2)) (fun b => pInt (j b1 b)) (Δ2 b1))) :
    PE X (.BinOp a .Sub b pos) (tE W F Γ Δ T k (fun b => pInt (i b.1 - j b.1 b.2)) fun b => Δ2 b.1 b.2) :=
  x2t (b_op op_sub) ha hb fun b1 b2 _ v w H Q _ hv hw q => ⟨i b1, j b1 b2, hv, hw, q _ rfl⟩
def sm (i : Int) : Bool := decide (-(2 ^ 64) < i) && decide (i < 2 ^ 64)
theorem sm_ok {i : Int} (h : sm i = true) : -(2 ^ 64) < i ∧ i < 2 ^ 64 := by
  obtain ⟨a, b⟩ := Bool.and_eq_true_iff.mp h
  exact ⟨of_decide_eq_true a, of_decide_eq_true b⟩
theorem x_mul (ha : PE X a (tE W F Γ Δ T k1 (fun b => pInt (i b)) Δ1)) (hb : ∀ b1, PE X b (tE W F Γ (Δ1 b1) (k1 b1) (fun b2 => grd ((sm (i b1) || sm (j b1 b2)) = true) (k (b1, b2))) (fun b => pInt (j b1 b)) (Δ2 b1))) :
    PE X (.BinOp a .Mult b pos) (tE W F Γ Δ T k (fun b => pInt (i b.1 * j b.1 b.2)) fun b => Δ2 b.1 b.2) :=
  x2g (b_op op_mul) ha hb fun b1 b2 _ v w H Q _ c hv hw q => ⟨i b1, j b1 b2, hv, hw, by
    rcases Bool.or_eq_true_iff.mp c with h | h
    · exact .inl (sm_ok h)
    · exact .inr (sm_ok h), q _ rfl⟩
theorem x_mod (ha : PE X a (tE W F Γ Δ T k1 (fun b => pInt (i b)) Δ1)) (hb : ∀ b1, PE X b (tE W F Γ (Δ1 b1) (k1 b1) (fun b2 => grd (0 < j b1 b2) (k (b1, b2))) (fun b => pInt (j b1 b)) (Δ2 b1))) :
    PE X (.BinOp a .Mod b pos) (tE W F Γ Δ T k (fun b => pInt (i b.1 % j b.1 b.2)) fun b => Δ2 b.1 b.2) :=
  x2g (b_op op_mod) ha hb fun b1 b2 _ v w H Q _ c hv hw q => ⟨i b1, j b1 b2, hv, hw, c, q _ rfl⟩
def dv (j : Int) : Bool := decide (0 < j) && decide (j < 1073741824)
theorem x_fdiv (ha : PE X a (tE W F Γ Δ T k1 (fun b => pInt (i b)) Δ1)) (hb : ∀ b1, PE X b (tE W F Γ (Δ1 b1) (k1 b1) (fun b2 => grd (dv (j b1 b2) = true) (k (b1, b2))) (fun b => pInt (j b1 b)) (Δ2 b1))) :
    PE X (.BinOp a .FloorDiv b pos) (tE W F Γ Δ T k (fun b => pInt (i b.1 / j b.1 b.2)) fun b => Δ2 b.1 b.2) :=
  x2g (b_op op_fdiv) ha hb fun b1 b2 _ v w H Q _ c hv hw q => ⟨i b1, j b1 b2, hv, hw, by
    obtain ⟨h1, h2⟩ := Bool.and_eq_true_iff.mp c
    exact ⟨of_decide_eq_true h1, of_decide_eq_true h2⟩, q _ rfl⟩
theorem x_pow (ha : PE X a (tE W F Γ Δ T k1 (fun b => pInt (i b)) Δ1)) (hb : ∀ b1, PE X b (tE W F Γ (Δ1 b1) (k1 b1) (fun b2 => k (b1, b2)) (fun b => pInt (j b1 b)) (Δ2 b1))) (hc : ∀ b1 b2, 0 ≤ j b1 b2 ∧ j b1 b2 ≤ 1000000 ∧ (i b1).natAbs < 2 ^ 64) :
    PE X (.BinOp a .Pow b pos) (tE W F Γ Δ T k (fun b => pInt (i b.1 ^ (j b.1 b.2).toNat)) fun b => Δ2 b.1 b.2) :=
  x2t (b_op op_pow) ha hb fun b1 b2 _ v w H Q _ hv hw q => ⟨i b1, j b1 b2, hv, hw, hc b1 b2, q _ rfl⟩
theorem x_lt (ha : PE X a (tE W F Γ Δ T k1 (fun b => pInt (i b)) Δ1)) (hb : ∀ b1, PE X b (tE W F Γ (Δ1 b1) (k1 b1) (fun b2 => k (b1, b2)) (fun b => pInt (j b1 b)) (Δ2 b1))) :
    PE X (.Compare a [.Lt] [b] pos) (tE W F Γ Δ T k (fun b => pBl (decide (i b.1 < j b.1 b.2))) fun b => Δ2 b.1 b.2) :=
  x2t (b_cmp op_lt (nomark _)) ha hb fun b1 b2 _ v w H Q _ hv hw q => ⟨i b1, j b1 b2, hv, hw, q _ rfl⟩
theorem x_gt (ha : PE X a (tE W F Γ Δ T k1 (fun b => pInt (i b)) Δ1)) (hb : ∀ b1, PE X b (tE W F Γ (Δ1 b1) (k1 b1) (fun b2 => k (b1, b2)) (fun b => pInt (j b1 b)) (Δ2 b1))) :
    PE X (.Compare a [.Gt] [b] pos) (tE W F Γ Δ T k (fun b => pBl (decide (j b.1 b.2 < i b.1))) fun b => Δ2 b.1 b.2) :=
  x2t (b_cmp op_gt (nomark _)) ha hb fun b1 b2 _ v w H Q _ hv hw q => ⟨i b1, j b1 b2, hv, hw, q _ rfl⟩
theorem x_ge (ha : PE X a (tE W F Γ Δ T k1 (fun b => pInt (i b)) Δ1)) (hb : ∀ b1, PE X b (tE W F Γ (Δ1 b1) (k1 b1) (fun b2 => k (b1, b2)) (fun b => pInt (j b1 b)) (Δ2 b1))) :
    PE X (.Compare a [.GtE] [b] pos) (tE W F Γ Δ T k (fun b => pBl (decide (j b.1 b.2 ≤ i b.1))) fun b => Δ2 b.1 b.2) :=
  x2t (b_cmp op_ge (nomark _)) ha hb fun b1 b2 _ v w H Q _ hv hw q => ⟨i b1, j b1 b2, hv, hw, q _ rfl⟩
theorem x_eqI (ha : PE X a (tE W F Γ Δ T k1 (fun b => pInt (i b)) Δ1)) (hb : ∀ b1, PE X b (tE W F Γ (Δ1 b1) (k1 b1) (fun b2 => k (b1, b2)) (fun b => pInt (j b1 b)) (Δ2 b1))) :
    PE X (.Compare a [.Eq] [b] pos) (tE W F Γ Δ T k (fun b => pBl (decide (i b.1 = j b.1 b.2))) fun b => Δ2 b.1 b.2) :=
  x2t (b_cmp op_eq (nomark _)) ha hb fun b1 b2 _ v w H Q _ hv hw q => by
    cases hv; cases hw
    refine ⟨rfl, q _ ?_⟩
    show V.bl _ = V.bl _
    congr 1
    by_cases z : i b1 = j b1 b2
    · rw [z]; simp
    · rw [decide_eq_false z, decide_eq_false fun y => z (V.int.inj y)]
theorem t_lt (ha : PE X a (tE W F Γ Δ T k1 (fun b => pInt (i b)) Δ1)) (hb : ∀ b1, PE X b (tE W F Γ (Δ1 b1) (k1 b1) (fun b2 => k (b1, b2)) (fun b => pInt (j b1 b)) (Δ2 b1))) :
    PT X (.Compare a [.Lt] [b] pos) (tTs W F Γ Δ T k (fun b => decide (i b.1 < j b.1 b.2)) fun b => Δ2 b.1 b.2) :=
  t2t (bt_cmp op_lt (nomark _)) ha hb fun b1 b2 _ v w H Q _ hv hw q => ⟨i b1, j b1 b2, hv, hw, q _ rfl⟩
theorem t_gt (ha : PE X a (tE W F Γ Δ T k1 (fun b => pInt (i b)) Δ1)) (hb : ∀ b1, PE X b (tE W F Γ (Δ1 b1) (k1 b1) (fun b2 => k (b1, b2)) (fun b => pInt (j b1 b)) (Δ2 b1))) :
    PT X (.Compare a [.Gt] [b] pos) (tTs W F Γ Δ T k (fun b => decide (j b.1 b.2 < i b.1)) fun b => Δ2 b.1 b.2) :=
  t2t (bt_cmp op_gt (nomark _)) ha hb fun b1 b2 _ v w H Q _ hv hw q => ⟨i b1, j b1 b2, hv, hw, q _ rfl⟩
theorem t_eqI (ha : PE X a (tE W F Γ Δ T k1 (fun b => pInt (i b)) Δ1)) (hb : ∀ b1, PE X b (tE W F Γ (Δ1 b1) (k1 b1) (fun b2 => k (b1, b2)) (fun b => pInt (j b1 b)) (Δ2 b1))) :
    PT X (.Compare a [.Eq] [b] pos) (tTs W F Γ Δ T k (fun b => decide (i b.1 = j b.1 b.2)) fun b => Δ2 b.1 b.2) :=
  t2t (bt_cmp op_eq (nomark _)) ha hb fun b1 b2 _ v w H Q _ hv hw q => by
    cases hv; cases hw
    refine ⟨rfl, q _ ?_⟩
    show V.bl _ = V.bl _
    congr 1
    by_cases z : i b1 = j b1 b2
    · rw [z]; simp
    · rw [decide_eq_false z, decide_eq_false fun y => z (V.int.inj y)]
theorem t_neI (ha : PE X a (tE W F Γ Δ T k1 (fun b => pInt (i b)) Δ1)) (hb : ∀ b1, PE X b (tE W F Γ (Δ1 b1) (k1 b1) (fun b2 => k (b1, b2)) (fun b => pInt (j b1 b)) (Δ2 b1))) :
    PT X (.Compare a [.NotEq] [b] pos) (tTs W F Γ Δ T k (fun b => !decide (i b.1 = j b.1 b.2)) fun b => Δ2 b.1 b.2) :=
  t2t (bt_cmp op_ne (nomark _)) ha hb fun b1 b2 _ v w H Q _ hv hw q => by
    cases hv; cases hw
    refine ⟨rfl, q _ ?_⟩
    show V.bl _ = V.bl _
    congr 1
    by_cases z : i b1 = j b1 b2
    · rw [z]; simp
    · rw [decide_eq_false z, decide_eq_false fun y => z (V.int.inj y)]
end
end
end L3
end
section
set_option maxHeartbeats 4000000
namespace L3
open PySem PySem.Spec PyProof.Rows L2
theorem flat_sub : ∀ {Δ' Δ : List Cel}, Δ'.Sublist Δ → (cellsOf Δ').Sublist (cellsOf Δ)
  | _, _, .slnil => List.Sublist.refl _
  | _, _, .cons a s => by
    rw [cellsOf_cons]
    exact (flat_sub s).trans (List.sublist_append_right _ _)
  | _, _, .cons₂ a s => by
    rw [cellsOf_cons, cellsOf_cons]
    exact (List.Sublist.refl _).append (flat_sub s)
theorem HkO.less {F : Fm} {Δ Δ' : List Cel} {H : Hp} (k : HkO F Δ H) (h : Δ'.Sublist Δ) : HkO F Δ' H :=
  ⟨k.base, fun c hc => k.del c (h.subset hc), k.nod.sublist (flat_sub h), fun c hc => k.own c (h.subset hc), k.mem⟩
section
variable {F : Fm} {Γ : Gm} {Δ : Δs} {σ : SS} {H : Hp} {j : Nat} {c : Cell}
end
theorem inv_lkX {X : Cx} {pins : List (Addr × Obj)} {σ : SS} {s : Shared} {Φ : Hp → Prop} {H : Hp} (I : Inv X pins σ H s) (h : tLkX Φ H) : ∃ H', Inv X pins σ H' s ∧ Φ H' := by
  obtain ⟨G, h⟩ := h
  exact inv_lk I h
theorem map_sub : ∀ {Δ0 : List Cel} {Δ' : Δs}, Δ'.Sublist (Δ0.map Cel.fg) → ∃ Δ1 : List Cel, Δ1.Sublist Δ0 ∧ Δ1.map Cel.fg = Δ'
  | [], _, h => ⟨[], .slnil, by
    have := List.sublist_nil.mp h
    rw [this]; rfl⟩
  | x :: Δ0, Δ', h => by
    rw [List.map_cons] at h
    cases h with
    | cons _ h =>
      obtain ⟨Δ1, s, e⟩ := map_sub h
      exact ⟨Δ1, .cons _ s, e⟩
    | cons_cons _ h =>
      obtain ⟨Δ1, s, e⟩ := map_sub h
      exact ⟨x :: Δ1, .cons₂ _ s, by rw [List.map_cons, e]⟩
theorem Hk.less {F : Fm} {Δ Δ' : Δs} {H : Hp} (k : Hk F Δ H) (h : Δ'.Sublist Δ) : Hk F Δ' H := by
  obtain ⟨Δ0, e, k⟩ := k
  subst e
  obtain ⟨Δ1, s, e⟩ := map_sub h
  exact ⟨Δ1, e, k.less s⟩
theorem Ok.less {F : Fm} {Γ : Gm} {Δ Δ' : Δs} {σ : SS} {H : Hp} (k : Ok F Γ Δ σ H) (h : Δ'.Sublist Δ) : Ok F Γ Δ' σ H := ⟨k.hk.less h, k.nm⟩
theorem OkN.less {W : Bool} {F : Fm} {Γ : Gm} {Δ Δ' : Δs} {σ : SS} {H0 H : Hp} {v : V} {d : Od} (k : OkN W F Γ H0 v d Δ σ H) (h : Δ'.Sublist Δ) : OkN W F Γ H0 v d Δ' σ H := by
  obtain ⟨Δ0, G, e, k, nw, n⟩ := k
  subst e
  obtain ⟨Δ1, s, e⟩ := map_sub h
  exact ⟨Δ1, G, e, k.less (s.cons₂ _), nw, n⟩
theorem SubG.get : ∀ {g' g : Gm} {i : Nat} {p : Pd}, SubG g' g → g'[i]? = some (some p) → g[i]? = some (some p)
  | [], [], _, _, _, e => by simp at e
  | none :: g', _ :: g, 0, p, h, e => by simp at e
  | none :: g', _ :: g, i + 1, p, h, e => SubG.get (g' := g') (g := g) (i := i) h (by simpa using e)
  | some a :: g', some b :: g, 0, p, h, e => by
    have q : a = p := by simpa using e
    rw [← q, h.1]
    rfl
  | some a :: g', some b :: g, i + 1, p, h, e => SubG.get (g' := g') (g := g) (i := i) h.2 (by simpa using e)
  | [], _ :: _, _, _, h, _ => h.elim
  | some _ :: _, [], _, _, h, _ => h.elim
  | none :: _, [], _, _, h, _ => h.elim
  | some _ :: _, none :: _, _, _, h, _ => h.elim
theorem Ok.wk {F : Fm} {Γ Γ' : Gm} {Δ Δ' : Δs} {σ : SS} {H : Hp} (k : Ok F Γ Δ σ H) (g : SubG Γ' Γ) (h : Δ'.Sublist Δ) : Ok F Γ' Δ' σ H :=
  ⟨k.hk.less h, ⟨k.len.trans g.len.symm, fun i p e => k.gam i p (g.get e)⟩⟩
end L3
end
section
set_option maxHeartbeats 4000000
namespace L3
open PySem PySem.Spec PyProof.Rows L2
section
variable {X : Cx} {W : Bool} {F : Fm} {Γ : Gm} {Δ : Δs} {γ : Type}
theorem x_frz {β : Type} {e : Expr} {T : Option γ} {k : β → Option γ} {D : β → Od} {Δ' : β → Δs} (he : PE X e (tO W F Γ Δ T k D Δ')) : PE X e (tE W F Γ Δ T k (fun b => (D b).pd) Δ') :=
  ⟨fun pins s σ H Q I ⟨ok, g, e, q⟩ => thn (he.run pins s σ H (fun v H' => ∃ b, k b = some g ∧ St W H H' ∧ OkN W F Γ H v (D b) (Δ' b) σ H') I ⟨ok, g, e, fun b v H' kb f ok' => ⟨b, kb, f, ok'⟩⟩) fun u s1 ⟨v, H1, I1, r1, b, kb, f, ok1⟩ => by
    obtain ⟨H2, I2, f2, ok2, p2⟩ := inv_lkX (Φ := fun H2 => St W H H2 ∧ Ok F Γ (Δ' b) σ H2 ∧ (D b).pd.pr H2 v) I1 (ok1.frz f fun H' f h p => ⟨f, h, p⟩)
    exact ⟨v, H2, I2, r1, q b v H2 kb f2 ok2 p2⟩⟩
def Un1 (X : Cx) (e a : Expr) (r : V → Hp → VK → Prop) : Prop := ∀ ta, PE X a ta → PE X e (tUn r ta)
theorem u_un {op : UnaryOp} {r : V → Hp → VK → Prop} {a : Expr} {pos : Pos} (ho : UnR X (unaryOp op) r) : Un1 X (.UnaryOp op a pos) a r := fun _ ha => pe_un ho ha
theorem u_callB {id : String} {r : List V → Hp → VK → Prop} {x : Str} {a : Expr} {p pos : Pos} (hc : CallR X (.builtin id) r) (hg : Gl X x) (hm : X.mg x = none) (hv : bootBuiltins x = some (.builtin id)) (hn : x ≠ "__name__" := by decide) (hdb : (x == ("__debug__" : Str)) = false := by decide)
    (hs : starEach [a] X.env = (false, eval a X.env) :: starEach [] X.env := by rfl) : Un1 X (.Call (.Name x p) [a] [] pos) a (fun v => r [v]) := fun ta ha => (pe_callB hc hg hm hv (pa_cons ha pa_nil hs) hn hdb hs).wk fun σ H Q h => h
theorem u_callTy {id : String} {r : List V → Hp → VK → Prop} {x : Str} {a : Expr} {p pos : Pos} (hc : CallR X (.type id) r) (hg : Gl X x) (hm : X.mg x = none) (hv : bootBuiltins x = some (.type id)) (hn : x ≠ "__name__" := by decide) (hdb : (x == ("__debug__" : Str)) = false := by decide)
    (hs : starEach [a] X.env = (false, eval a X.env) :: starEach [] X.env := by rfl) : Un1 X (.Call (.Name x p) [a] [] pos) a (fun v => r [v]) := fun ta ha => (pe_callTy hc hg hm hv (pa_cons ha pa_nil hs) hn hdb hs).wk fun σ H Q h => h
theorem b_callB {id : String} {r : List V → Hp → VK → Prop} {x : Str} {a b : Expr} {p pos : Pos} (hc : CallR X (.builtin id) r) (hg : Gl X x) (hm : X.mg x = none) (hv : bootBuiltins x = some (.builtin id)) (hn : x ≠ "__name__" := by decide) (hdb : (x == ("__debug__" : Str)) = false := by decide)
    (hs : starEach [a, b] X.env = (false, eval a X.env) :: starEach [b] X.env := by rfl) (hs2 : starEach [b] X.env = (false, eval b X.env) :: starEach [] X.env := by rfl) (hpl : (backTo pos (starEach [b] X.env)).any (·.1) = false := by rfl) : Bin2 X (.Call (.Name x p) [a, b] [] pos) a b (fun v w => r [v, w]) := fun ta tb ha hb => (pe_callB hc hg hm hv (pa_cons ha (pa_cons hb pa_nil hs2) hs) hn hdb hs hpl).wk fun σ H Q h => h
section
variable {e a : Expr} {r : V → Hp → VK → Prop} {β : Type} {T : Option γ} {E1 : β → Pd} {Δ1 : β → Δs}
theorem x1t {k : β → Option γ} {E : β → Pd} (h1 : Un1 X e a r) (ha : PE X a (tE W F Γ Δ T k E1 Δ1)) (hv : ∀ b σ v H Q, Ok F Γ (Δ1 b) σ H → (E1 b).pr H v → (∀ u, (E b).pr H u → Q u H) → r v H Q) : PE X e (tE W F Γ Δ T k E Δ1) :=
  (h1 _ ha).wk fun σ H Q ⟨ok, g, e, q⟩ => ⟨ok, g, e, fun b v H' kb f ok' hp => hv b σ v H' Q ok' hp fun u hu => q b u H' kb f ok' hu⟩
theorem x1p {β2 : Type} {k : β × β2 → Option γ} {E : β × β2 → Pd} {m : β → Option β2} (h1 : Un1 X e a r) (ha : PE X a (tE W F Γ Δ T (fun b => (m b).bind fun c => k (b, c)) E1 Δ1))
    (hv : ∀ b c σ v H Q, Ok F Γ (Δ1 b) σ H → m b = some c → (E1 b).pr H v → (∀ u, (E (b, c)).pr H u → Q u H) → r v H Q) : PE X e (tE W F Γ Δ T k E fun b => Δ1 b.1) :=
  (h1 _ ha).wk fun σ H Q ⟨ok, g, e, q⟩ => ⟨ok, g, e, fun b v H' kb f ok' hp => by
    obtain ⟨c, ec, kc⟩ := bind_some kb
    exact hv b c σ v H' Q ok' ec hp fun u hu => q (b, c) u H' kc f ok' hu⟩
theorem Ok.newL {σ : SS} {H : Hp} {p : Addr} {α : Type} {E : α → Pd} {xs : List α} {vs : List V} (ok : Ok F Γ Δ σ H) (hp : H p = none) (z : xs.length ≤ sizeLine) (q : Paired (fun x u => (E x).pr H u) xs vs) : OkN W F Γ H (.ref p) (oL E xs) Δ σ (upd H p (.lst vs)) ∧ Gr H (upd H p (.lst vs)) := by
  have g : Gr H (upd H p (.lst vs)) := Gr.new hp
  exact ⟨ok.add g (List.nodup_cons.mpr ⟨List.not_mem_nil, List.nodup_nil⟩) (fun a ha => by rw [List.mem_singleton.mp ha]; exact hp) ⟨p, vs, rfl, rfl, upd_same, z, paired_mono (fun x _ => (E x).mono g.fzs) q⟩, g⟩
theorem x1n {k : β → Option γ} {α : Type} {Ee : α → Pd} {ys : β → List α} (h1 : Un1 X e a r) (ha : PE X a (tE W F Γ Δ T k E1 Δ1))
    (hv : ∀ b σ v H Q, Ok F Γ (Δ1 b) σ H → (E1 b).pr H v → (∀ p vs, H p = none → (ys b).length ≤ sizeLine → Paired (fun x u => (Ee x).pr H u) (ys b) vs → Q (.ref p) (upd H p (.lst vs))) → r v H Q) : PE X e (tO W F Γ Δ T k (fun b => oL Ee (ys b)) Δ1) :=
  (h1 _ ha).wk fun σ H Q ⟨ok, g, e, q⟩ => ⟨ok, g, e, fun b v H' kb f ok' hp => hv b σ v H' Q ok' hp fun p vs np z pr => by
    obtain ⟨o2, f2⟩ := ok'.newL np z pr
    exact q b _ _ kb (f.trans f2.st) (o2.since f)⟩
end
theorem a_nil {k : Unit → Option γ} : PA X [] (tAr W F Γ Δ (k ()) k (fun _ => []) fun _ => Δ) := pa_nil.wk fun σ H Q ⟨ok, g, e, q⟩ => q () [] H e (St.refl H) ok .nil
theorem a_cons {a : Expr} {es : List Expr} {β1 β2 : Type} {T : Option γ} {k1 : β1 → Option γ} {k : β1 × β2 → Option γ} {E1 : β1 → Pd} {Es : β1 → β2 → List Pd} {Δ1 : β1 → Δs} {Δ2 : β1 → β2 → Δs}
    (ha : PE X a (tE W F Γ Δ T k1 E1 Δ1)) (hr : ∀ b1, PA X es (tAr W F Γ (Δ1 b1) (k1 b1) (fun b2 => k (b1, b2)) (Es b1) (Δ2 b1))) (hs : starEach (a :: es) X.env = (false, eval a X.env) :: starEach es X.env := by rfl) :
    PA X (a :: es) (tAr W F Γ Δ T k (fun b => E1 b.1 :: Es b.1 b.2) fun b => Δ2 b.1 b.2) :=
  (pa_cons ha (pa_ex hr) hs).wk fun σ H Q ⟨ok, g, e, q⟩ => ⟨ok, g, e, fun b1 v H1 kb f1 ok1 hv => ⟨b1, ok1, g, kb, fun b2 vs H2 kb2 f2 ok2 hvs => q (b1, b2) (v :: vs) H2 kb2 (f1.trans f2) ok2 (.cons ((E1 b1).mono f2.fz hv) hvs)⟩⟩
theorem paired_len {α β : Type} {P : α → β → Prop} {l₁ : List α} {l₂ : List β} (h : Paired P l₁ l₂) : l₁.length = l₂.length := Paired.length h
theorem paired_map {α : Type} {E : α → Pd} {H : Hp} : ∀ {xs : List α} {vs : List V}, Paired (fun p v => Pd.pr p H v) (xs.map E) vs → Paired (fun x v => (E x).pr H v) xs vs
  | [], _, h => by cases h; exact .nil
  | x :: xs, _, h => by
    cases h with
    | cons r t => exact .cons r (paired_map t)
theorem x_disp {es : List Expr} {pos : Pos} {β α : Type} {T : Option γ} {k : β → Option γ} {Es : β → List Pd} {Δ1 : β → Δs} (Ee : α → Pd) (xs : β → List α) (ha : PA X es (tAr W F Γ Δ T k Es Δ1)) (he : ∀ b, Es b = (xs b).map Ee) (hz : ∀ b, (xs b).length ≤ 1000) :
    PE X (.List es pos) (tO W F Γ Δ T k (fun b => oL Ee (xs b)) Δ1) :=
  (pe_lst ha).wk fun σ H Q ⟨ok, g, e, q⟩ => ⟨ok, g, e, fun b vs H' kb f ok' hp => by
    rw [he b] at hp
    have hp2 := paired_map hp
    have z : (xs b).length ≤ sizeLine := Nat.le_trans (hz b) (by decide)
    refine ⟨by rw [← paired_len hp2]; exact z, fun p np => ?_⟩
    obtain ⟨o2, f2⟩ := ok'.newL np z hp2
    exact q b _ _ kb (f.trans f2.st) (o2.since f)⟩
theorem x_nil {pos : Pos} {α : Type} {k : Unit → Option γ} (Ee : α → Pd) : PE X (.List [] pos) (tO W F Γ Δ (k ()) k (fun _ => oL Ee []) fun _ => Δ) := x_disp Ee (fun _ => []) a_nil (fun _ => rfl) fun _ => Nat.zero_le _
theorem paired2 {α β : Type} {P : α → β → Prop} {p q : α} {vs : List β} (h : Paired P [p, q] vs) : ∃ u w, vs = [u, w] ∧ P p u ∧ P q w := by
  cases h with
  | cons r1 t => cases t with
    | cons r2 t => cases t with
      | nil => exact ⟨_, _, rfl, r1, r2⟩
theorem x_tup2 {a b : Expr} {x1} {pos : Pos} {α1 α2 β : Type} {T : Option γ} {k : β → Option γ} {Δ1 : β → Δs} {p q : β → Pd} (ha : PA X [a, b] (tAr W F Γ Δ T k (fun b => [p b, q b]) Δ1)) (E1 : α1 → Pd) (E2 : α2 → Pd) (x : β → α1) (y : β → α2) (h1 : ∀ b, p b = E1 (x b) := by exact fun _ => rfl) (h2 : ∀ b, q b = E2 (y b) := by exact fun _ => rfl) :
    PE X (.Tuple [a, b] x1 pos) (tE W F Γ Δ T k (fun b => pT2 E1 E2 (x b, y b)) Δ1) :=
  (pe_tup ha).wk fun σ H Q ⟨ok, g, e, w⟩ => ⟨ok, g, e, fun b vs H' kb f ok' hp => by
    have hp : Paired (fun p v => Pd.pr p H' v) [p b, q b] vs := hp
    rw [h1 b, h2 b] at hp
    obtain ⟨u1, u2, e, r1, r2⟩ := paired2 hp
    subst e
    refine ⟨by show 2 ≤ sizeLine; decide, fun t nt => ?_⟩
    have g' : Gr H' (upd H' t (.tup [u1, u2])) := Gr.new nt
    exact w b _ _ kb (f.trans g'.st) (ok'.gr g') ⟨t, _, _, rfl, upd_same, (E1 _).mono g'.fzs r1, (E2 _).mono g'.fzs r2⟩⟩
variable {γ : Type} {N : Fn γ} {rest : List Stmt}
theorem s_asg {i : Nat} {x : Str} {e : Expr} {pos pos' : Pos} {β : Type} {T : Option γ} {k : β → Option γ} {E : β → Pd} {Δ' : β → Δs} (nd : X.N.Nodup) (he : PE X e (tE true F Γ Δ T k E Δ'))
    (hr : ∀ b, PSs X rest (tS F (Γ.set i (some (E b))) (Δ' b) N (k b))) (hi : X.N[i]? = some x := by rfl) (hx : Loc X.env.scope x := by first | exact .inl rfl | exact .inr rfl)
    (hs : swapsWith e (some (.Name x pos')) pos.line X.env = pure false := by rfl) (hf : X.fn x = true ∨ X.env.scope.names.lookup x = some .local := by first | exact .inl rfl | exact .inr rfl | assumption) :
    PSs X (.Assign [.Name x pos'] e pos :: rest) (tS F Γ Δ N T) :=
  (pss_cons (ps_set nd hi hx he hs hf) (pss_ex hr)).wk fun D σ H ⟨ok, g, e, f⟩ => ⟨ok, g, e, fun b v H' kb fz ok' hv => ⟨b, ok'.set hv, g, kb, N.mono f fz.fz⟩⟩
theorem s_let {i : Nat} {x : Str} {e : Expr} {pos pos' : Pos} {β α : Type} {T : Option γ} {Δ' : β → Δs} {val : β → α} {k2 : β → α → Option γ} (E0 : α → Pd) (nd : X.N.Nodup) (he : PE X e (tE true F Γ Δ T (fun b => (some (val b)).bind (k2 b)) (fun b => E0 (val b)) Δ'))
    (hr : ∀ b a, PSs X rest (tS F (Γ.set i (some (E0 a))) (Δ' b) N (k2 b a))) (hi : X.N[i]? = some x := by rfl) (hx : Loc X.env.scope x := by first | exact .inl rfl | exact .inr rfl)
    (hs : swapsWith e (some (.Name x pos')) pos.line X.env = pure false := by rfl) (hf : X.fn x = true ∨ X.env.scope.names.lookup x = some .local := by first | exact .inl rfl | exact .inr rfl | assumption) :
    PSs X (.Assign [.Name x pos'] e pos :: rest) (tS F Γ Δ N T) :=
  s_asg nd he (fun b => hr b (val b)) hi hx hs hf
theorem s_letO {i : Nat} {x : Str} {e : Expr} {pos pos' : Pos} {β α : Type} {T : Option γ} {Δ' : β → Δs} {val : β → α} {k2 : β → α → Option γ} (D0 : α → Od) (nd : X.N.Nodup) (he : PE X e (tO true F Γ Δ T (fun b => (some (val b)).bind (k2 b)) (fun b => D0 (val b)) Δ'))
    (hr : ∀ b a v, PSs X rest (tS F (Γ.set i (some (pV v))) (⟨v, D0 a, none⟩ :: Δ' b) N (k2 b a))) (hi : X.N[i]? = some x := by rfl) (hx : Loc X.env.scope x := by first | exact .inl rfl | exact .inr rfl)
    (hs : swapsWith e (some (.Name x pos')) pos.line X.env = pure false := by rfl) (hf : X.fn x = true ∨ X.env.scope.names.lookup x = some .local := by first | exact .inl rfl | exact .inr rfl | assumption) :
    PSs X (.Assign [.Name x pos'] e pos :: rest) (tS F Γ Δ N T) :=
  (pss_cons (ps_set nd hi hx he hs hf) (pss_ex fun b => pss_ex fun v => hr b (val b) v)).wk fun D σ H ⟨ok, g, e, f⟩ => ⟨ok, g, e, fun b v H' kb fz ok' => ⟨b, v, ok'.ok.set rfl, g, kb, N.mono f fz.fz⟩⟩
theorem s_is {st : List Stmt} {T T' : Option γ} (hr : PSs X st (tS F Γ Δ N T')) (e : T = T') : PSs X st (tS F Γ Δ N T) := by rw [e]; exact hr
theorem Ok.frzS {σ : SS} {H : Hp} {i j : Nat} {c : Cell} (k : Ok F Γ Δ σ H) (hj : Δ[j]? = some c) (hi : Γ[i]? = some (some (pV c.v))) {Φ : Hp → Prop} (q : ∀ H', St true H H' → Ok F (Γ.set i (some c.d.pd)) (Δ.eraseIdx j) σ H' → Φ H') : tLkX Φ H :=
  k.frz hj fun H' f ok' p => q H' f (by
    obtain ⟨v, hs, hv⟩ := k.gam i _ hi
    have hv2 : v = c.v := hv
    subst hv2
    refine ⟨ok'.hk, by rw [List.length_set]; exact ok'.len, fun m p' e => ?_⟩
    by_cases h : m = i
    · subst h
      rw [List.getElem?_set_self (List.getElem?_eq_some_iff.mp hi).1] at e
      cases e
      exact ⟨_, hs, p⟩
    · rw [List.getElem?_set_ne (fun z => h z.symm)] at e
      exact ok'.gam m p' e)
theorem s_frz {st : List Stmt} {i : Nat} {T : Option γ} {c : Cell} (j : Nat) (hr : PSs X st (tS F (Γ.set i (some c.d.pd)) (Δ.eraseIdx j) N T)) (hj : Δ[j]? = some c := by rfl) (hi : Γ[i]? = some (some (pV c.v)) := by rfl) : PSs X st (tS F Γ Δ N T) :=
  ⟨fun pins s σ H D I ⟨ok, g, e, f⟩ => by
    obtain ⟨H2, I2, ok2⟩ := inv_lkX (Φ := fun H2 => Fzs H H2 ∧ Ok F (Γ.set i (some c.d.pd)) (Δ.eraseIdx j) σ H2) I (ok.frzS hj hi fun H' f h => ⟨f.fz, h⟩)
    exact hr.run pins s σ H2 D I2 ⟨ok2.2, g, e, N.mono f ok2.1⟩⟩
theorem s_expr {e : Expr} {pos : Pos} {β : Type} {T : Option γ} {k : β → Option γ} {E : β → Pd} {Δ' : β → Δs} (he : PE X e (tE true F Γ Δ T k E Δ')) (hr : ∀ b, PSs X rest (tS F Γ (Δ' b) N (k b))) (hs : swapsWith e none pos.line X.env = pure false := by rfl) :
    PSs X (.Expr e pos :: rest) (tS F Γ Δ N T) :=
  (pss_cons (ps_expr he hs) (pss_ex hr)).wk fun D σ H ⟨ok, g, e, f⟩ => ⟨ok, g, e, fun b v H' kb fz ok' _ => ⟨b, ok', g, kb, N.mono f fz.fz⟩⟩
abbrev Rt (ρ : Type) := ρ → VK → Prop
def fF {ρ : Type} (R : Rt ρ) : Fn ρ := ⟨fun _ r D => R r D.rt, fun h _ => h⟩
def RF {ρ : Type} (F : Fm) (P : ρ → Δs) (Rp : ρ → Pd) : Rt ρ := fun r rt => ∀ v H', Hk F (P r) H' → (Rp r).pr H' v → rt v H'
def RO {ρ : Type} (F : Fm) (P : ρ → Δs) (Ro : ρ → Od) : Rt ρ := fun r rt => ∀ v H', Hk F (⟨v, Ro r, none⟩ :: P r) H' → rt v H'
theorem s_ret {e : Expr} {pos : Pos} {β ρ : Type} {T : Option γ} {Δ' : β → Δs} {P : ρ → Δs} {Rp : ρ → Pd} {ι : ρ → γ} {rv : β → ρ} (hN : ∀ H r D, N.fin H (ι r) D → RF F P Rp r D.rt) (he : PE X e (tE true F Γ Δ T (fun b => some (ι (rv b))) (fun b => Rp (rv b)) Δ'))
    (hP : ∀ b, (P (rv b)).Sublist (Δ' b)) : PSs X [.Return (some e) pos] (tS F Γ Δ N T) :=
  (pss_one (ps_ret he)).wk fun D σ H ⟨ok, g, e, f⟩ => ⟨ok, g, e, fun b v H' kb fz ok' hv => by
    have eg : g = ι (rv b) := (Option.some.inj kb).symm
    rw [eg] at f
    exact hN _ _ D f v H' (ok'.hk.less (hP b)) hv⟩
theorem s_retO {e : Expr} {pos : Pos} {β ρ : Type} {T : Option γ} {Δ' : β → Δs} {P : ρ → Δs} {Ro : ρ → Od} {ι : ρ → γ} {rv : β → ρ} (hN : ∀ H r D, N.fin H (ι r) D → RO F P Ro r D.rt) (he : PE X e (tO true F Γ Δ T (fun b => some (ι (rv b))) (fun b => Ro (rv b)) Δ'))
    (hP : ∀ b, (P (rv b)).Sublist (Δ' b)) : PSs X [.Return (some e) pos] (tS F Γ Δ N T) :=
  (pss_one (ps_ret he)).wk fun D σ H ⟨ok, g, e, f⟩ => ⟨ok, g, e, fun b v H' kb fz ok' => by
    have eg : g = ι (rv b) := (Option.some.inj kb).symm
    rw [eg] at f
    exact hN _ _ D f v H' (ok'.ok.hk.less ((hP b).cons₂ _))⟩
end
end L3
end
section
set_option maxHeartbeats 4000000
set_option autoImplicit true
namespace L3
open PySem PySem.Spec PyProof.Rows L2
section
variable {X : Cx} {W : Bool} {F : Fm} {Γ : Gm} {Δ : Δs} {γ : Type}
theorem x_tot {β : Type} {e : Expr} {T : Option γ} {E : β → Pd} {Δ' : β → Δs} (b0 : β) (hβ : ∀ b, b = b0) (he : PE X e (tE W F Γ Δ T (fun _ : β => T) E Δ')) : PE X e (tE W F Γ Δ T (fun _ : Unit => T) (fun _ => E b0) fun _ => Δ' b0) :=
  he.wk fun σ H Q ⟨ok, g, e, q⟩ => ⟨ok, g, e, fun b v H' kb f ok' hv => by
    rw [hβ b] at ok' hv
    exact q () v H' kb f ok' hv⟩
theorem t_val {e : Expr} {β : Type} {T : Option γ} {k : β → Option γ} {c : β → Bool} {Δ' : β → Δs} (he : PE X e (tE W F Γ Δ T k (fun b => pBl (c b)) Δ')) (hw : ∀ whole, isTrue e X.env whole = (do let v ← whole; standAt e.pos; holding [v] (truthy v)) := by intro _; rfl) :
    PT X e (tTs W F Γ Δ T k c Δ') :=
  (pt_val he hw).wk fun σ H Q ⟨ok, g, e, q⟩ => ⟨ok, g, e, fun b v H' kb f ok' hv => ⟨c b, hv, q b H' kb f ok'⟩⟩
theorem t_not {e : Expr} {pos : Pos} {β : Type} {T : Option γ} {k : β → Option γ} {c : β → Bool} {Δ' : β → Δs} (he : PT X e (tTs W F Γ Δ T k c Δ')) : PT X (.UnaryOp .Not e pos) (tTs W F Γ Δ T k (fun b => !c b) Δ') :=
  (pt_not he).wk fun σ H Q ⟨ok, g, e, q⟩ => ⟨ok, g, e, fun b H' kb f ok' => q b H' kb f ok'⟩
theorem x_not {e : Expr} {pos : Pos} {β : Type} {T : Option γ} {k : β → Option γ} {c : β → Bool} {Δ' : β → Δs} (he : PE X e (tE W F Γ Δ T k (fun b => pBl (c b)) Δ')) : PE X (.UnaryOp .Not e pos) (tE W F Γ Δ T k (fun b => pBl (!c b)) Δ') :=
  (pe_not he).wk fun σ H Q ⟨ok, g, e, q⟩ => ⟨ok, g, e, fun b v H' kb f ok' hv => ⟨c b, hv, q b _ H' kb f ok' rfl⟩⟩
theorem t_tot {β : Type} {e : Expr} {T : Option γ} {c : β → Bool} {Δ' : β → Δs} (b0 : β) (hβ : ∀ b, b = b0) (he : PT X e (tTs W F Γ Δ T (fun _ : β => T) c Δ')) : PT X e (tTs W F Γ Δ T (fun _ : Unit => T) (fun _ => c b0) fun _ => Δ' b0) :=
  he.wk fun σ H Q ⟨ok, g, e, q⟩ => ⟨ok, g, e, fun b H' kb f ok' => by
    rw [hβ b] at ok' ⊢
    exact q () H' kb f ok'⟩
section
variable {a b : Expr} {rest : List Expr} {pos : Pos} {c1 c2 : Bool} {T : Option γ}
abbrev tTot (W : Bool) (F : Fm) (Γ : Gm) (Δ : Δs) {γ : Type} (T : Option γ) (c : Bool) : TT := tTs W F Γ Δ T (fun _ : Unit => T) (fun _ => c) fun _ => Δ
abbrev eTot (W : Bool) (F : Fm) (Γ : Gm) (Δ : Δs) {γ : Type} (T : Option γ) (p : Pd) : TE := tE W F Γ Δ T (fun _ : Unit => T) (fun _ => p) fun _ => Δ
theorem w_and1 (ha : PT X a (tTs W F Γ Δ T k c Δ')) : PW X (.BoolOp .And [a] pos) (tTs W F Γ Δ T k c Δ') := pw_and1 ha
theorem w_or1 (ha : PT X a (tTs W F Γ Δ T k c Δ')) : PW X (.BoolOp .Or [a] pos) (tTs W F Γ Δ T k c Δ') := pw_or1 ha
theorem w_or (ha : PT X a (tTot W F Γ Δ T c1)) (hb : PW X (.BoolOp .Or (b :: rest) pos) (tTot W F Γ Δ T c2)) : PW X (.BoolOp .Or (a :: b :: rest) pos) (tTot W F Γ Δ T (c1 || c2)) :=
  (pw_or ha hb).wk fun σ H Q ⟨ok, g, e, q⟩ => ⟨ok, g, e, fun _ H1 kb f ok1 => by
    cases c1 with
    | true => exact iteT (q () H1 kb f ok1)
    | false => exact iteF ⟨ok1, g, e, fun _ H2 kb2 f2 ok2 => q () H2 kb2 (f.trans f2) ok2⟩⟩
theorem v_one {op} {t : TE} (h : PE X a t) : PE X (.BoolOp op [a] pos) t := pe_one h
theorem v_and (ha : PE X a (eTot W F Γ Δ T (pBl c1))) (hb : PE X (.BoolOp .And (b :: rest) pos) (eTot W F Γ Δ T (pBl c2))) : PE X (.BoolOp .And (a :: b :: rest) pos) (eTot W F Γ Δ T (pBl (c1 && c2))) :=
  (pe_and ha hb).wk fun σ H Q ⟨ok, g, e, q⟩ => ⟨ok, g, e, fun _ v H1 kb f ok1 hv => ⟨c1, hv, by
    cases c1 with
    | true => exact iteT ⟨ok1, g, e, fun _ w H2 kb2 f2 ok2 hw => q () w H2 kb2 (f.trans f2) ok2 hw⟩
    | false => exact iteF (q () _ H1 kb f ok1 rfl)⟩⟩
end
section
variable {a b : Expr} {rest : List Expr} {pos : Pos} {β1 β2 S : Type} {T : Option γ} {c1 : β1 → Bool} {c2 : β1 → β2 → Bool} {Δ1 : β1 → Δs} {Δ2 : β1 → β2 → Δs} {T2 : β1 → Option (Bool × S)} {s1 : β1 → S} {s2 : β1 → β2 → S} {ΔS : β1 → S → Δs} {k : β1 × (Bool × S) → Option γ}
theorem w_andM (ha : PT X a (tTs W F Γ Δ T (fun b1 => (if c1 b1 = true then T2 b1 else some (false, s1 b1)).bind fun c => k (b1, c)) c1 Δ1)) (hb : ∀ b1, PW X (.BoolOp .And (b :: rest) pos) (tTs W F Γ (Δ1 b1) (T2 b1) (fun b2 => some (c2 b1 b2, s2 b1 b2)) (c2 b1) (Δ2 b1)))
    (h1 : ∀ b1, Δ1 b1 = ΔS b1 (s1 b1)) (h2 : ∀ b1 b2, Δ2 b1 b2 = ΔS b1 (s2 b1 b2)) : PW X (.BoolOp .And (a :: b :: rest) pos) (tTs W F Γ Δ T k (fun b => b.2.1) fun b => ΔS b.1 b.2.2) :=
  (pw_and ha (pw_ex hb)).wk fun σ H Q ⟨ok, g, e, q⟩ => ⟨ok, g, e, fun b1 H1 kb f ok1 => by
    cases h : c1 b1 with
    | true =>
      try dsimp only at kb
      rw [if_pos h] at kb
      obtain ⟨cs, ec, kc⟩ := bind_some kb
      refine iteT ⟨b1, ok1, cs, ec, fun b2 H2 kb2 f2 ok2 => ?_⟩
      have ecs : (c2 b1 b2, s2 b1 b2) = cs := Option.some.inj kb2
      rw [← ecs] at kc
      rw [h2] at ok2
      exact q (b1, (c2 b1 b2, s2 b1 b2)) H2 kc (f.trans f2) ok2
    | false =>
      try dsimp only at kb
      rw [if_neg (by rw [h]; exact Bool.false_ne_true)] at kb
      rw [h1] at ok1
      exact iteF (q (b1, (false, s1 b1)) H1 kb f ok1)⟩
theorem w_orM (ha : PT X a (tTs W F Γ Δ T (fun b1 => (if c1 b1 = true then some (true, s1 b1) else T2 b1).bind fun c => k (b1, c)) c1 Δ1)) (hb : ∀ b1, PW X (.BoolOp .Or (b :: rest) pos) (tTs W F Γ (Δ1 b1) (T2 b1) (fun b2 => some (c2 b1 b2, s2 b1 b2)) (c2 b1) (Δ2 b1)))
    (h1 : ∀ b1, Δ1 b1 = ΔS b1 (s1 b1)) (h2 : ∀ b1 b2, Δ2 b1 b2 = ΔS b1 (s2 b1 b2)) : PW X (.BoolOp .Or (a :: b :: rest) pos) (tTs W F Γ Δ T k (fun b => b.2.1) fun b => ΔS b.1 b.2.2) :=
  (pw_or ha (pw_ex hb)).wk fun σ H Q ⟨ok, g, e, q⟩ => ⟨ok, g, e, fun b1 H1 kb f ok1 => by
    cases h : c1 b1 with
    | true =>
      try dsimp only at kb
      rw [if_pos h] at kb
      rw [h1] at ok1
      exact iteT (q (b1, (true, s1 b1)) H1 kb f ok1)
    | false =>
      try dsimp only at kb
      rw [if_neg (by rw [h]; exact Bool.false_ne_true)] at kb
      obtain ⟨cs, ec, kc⟩ := bind_some kb
      refine iteF ⟨b1, ok1, cs, ec, fun b2 H2 kb2 f2 ok2 => ?_⟩
      have ecs : (c2 b1 b2, s2 b1 b2) = cs := Option.some.inj kb2
      rw [← ecs] at kc
      rw [h2] at ok2
      exact q (b1, (c2 b1 b2, s2 b1 b2)) H2 kc (f.trans f2) ok2⟩
theorem v_andM (ha : PE X a (tE W F Γ Δ T (fun b1 => (if c1 b1 = true then T2 b1 else some (false, s1 b1)).bind fun c => k (b1, c)) (fun b => pBl (c1 b)) Δ1)) (hb : ∀ b1, PE X (.BoolOp .And (b :: rest) pos) (tE W F Γ (Δ1 b1) (T2 b1) (fun b2 => some (c2 b1 b2, s2 b1 b2)) (fun b2 => pBl (c2 b1 b2)) (Δ2 b1)))
    (h1 : ∀ b1, Δ1 b1 = ΔS b1 (s1 b1)) (h2 : ∀ b1 b2, Δ2 b1 b2 = ΔS b1 (s2 b1 b2)) : PE X (.BoolOp .And (a :: b :: rest) pos) (tE W F Γ Δ T k (fun b => pBl b.2.1) fun b => ΔS b.1 b.2.2) :=
  (pe_and ha (pe_ex hb)).wk fun σ H Q ⟨ok, g, e, q⟩ => ⟨ok, g, e, fun b1 v H1 kb f ok1 hv => ⟨c1 b1, hv, by
    cases h : c1 b1 with
    | true =>
      try dsimp only at kb
      rw [if_pos h] at kb
      obtain ⟨cs, ec, kc⟩ := bind_some kb
      refine iteT ⟨b1, ok1, cs, ec, fun b2 w H2 kb2 f2 ok2 hw => ?_⟩
      have ecs : (c2 b1 b2, s2 b1 b2) = cs := Option.some.inj kb2
      rw [← ecs] at kc
      rw [h2] at ok2
      exact q (b1, (c2 b1 b2, s2 b1 b2)) w H2 kc (f.trans f2) ok2 hw
    | false =>
      try dsimp only at kb
      rw [if_neg (by rw [h]; exact Bool.false_ne_true)] at kb
      rw [h1] at ok1
      exact iteF (q (b1, (false, s1 b1)) _ H1 kb f ok1 rfl)⟩⟩
end
inductive Bo (S τ : Type) where
  | nx (s : S)
  | tm (t : τ)
inductive Tm (S ρ : Type) where
  | ct (s : S)
  | bk (s : S)
  | rt (r : ρ)
def fN {S : Type} (F : Fm) (C : S → Cxt) : Fn S := ⟨fun H s D => nxOk F (C s) H D.nx, fun h f => nxOk.mono h f⟩
def fB {S τ : Type} (F : Fm) (C : S → Cxt) (Tf : Fn τ) : Fn (Bo S τ) := ⟨fun H o D => match o with
  | .nx s => nxOk F (C s) H D.nx
  | .tm t => Tf.fin H t D, fun {H H' g D} h f => by
    cases g with
    | nx s => exact nxOk.mono h f
    | tm t => exact Tf.mono h f⟩
def fT {S ρ : Type} (F : Fm) (C : S → Cxt) (R : Rt ρ) : Fn (Tm S ρ) := ⟨fun H o D => match o with
  | .ct s => nxOk F (C s) H D.ct
  | .bk s => nxOk F (C s) H D.bk
  | .rt r => R r D.rt, fun {H H' g D} h f => by
    cases g with
    | ct s => exact nxOk.mono h f
    | bk s => exact nxOk.mono h f
    | rt r => exact h⟩
def Ins {γ : Type} (N : Fn γ) : Prop := ∀ H g D n, N.fin H g D → N.fin H g { D with nx := n }
theorem ins_F {ρ : Type} (R : Rt ρ) : Ins (fF R) := fun _ _ _ _ h => h
theorem ins_T {S ρ : Type} {F : Fm} {C : S → Cxt} {R : Rt ρ} : Ins (fT F C R) := fun H g D n h => by cases g <;> exact h
def inB {S τ : Type} (T : Option τ) : Option (Bo S τ) := T.bind fun t => some (.tm t)
def boK {S τ γ : Type} (k : S → Option γ) (ι : τ → γ) : Bo S τ → Option γ
  | .nx s => k s
  | .tm t => some (ι t)
variable {N : Fn γ} {rest : List Stmt}
theorem s_end {S : Type} {C : S → Cxt} {T : Option S} (s : S) (hT : T = some s) (g : SubG (C s).1 Γ) (h : (C s).2.Sublist Δ) : PSs X [] (tS F Γ Δ (fN F C) T) :=
  pss_nil.wk fun D σ H ⟨ok, g', e, f⟩ => by
    rw [hT] at e
    cases e
    exact f σ H (Fzs.refl H) (ok.wk g h)
theorem s_endB {S τ : Type} {C : S → Cxt} {Tf : Fn τ} (s : S) (g : SubG (C s).1 Γ) (h : (C s).2.Sublist Δ) : PSs X [] (tS F Γ Δ (fB F C Tf) (some (.nx s))) :=
  pss_nil.wk fun D σ H ⟨ok, g', e, f⟩ => by
    cases e
    exact f σ H (Fzs.refl H) (ok.wk g h)
section
variable {ce : Expr} {A B : List Stmt} {pos : Pos} {β : Type} {T : Option γ} {c : β → Bool} {Δ' : β → Δs}
theorem s_if0 {N1 N2 : Fn γ} {t : TS} {u : TS} {k : β → Option γ} (hc : PT X ce (tTs true F Γ Δ T k c Δ')) (ha : PSs X A t) (hb : PSs X B u) (hr : PSs X rest v) {t' : TS}
    (hw : ∀ D σ H, t' D σ H → Ok F Γ Δ σ H ∧ ∃ g, T = some g ∧ ∀ b H', k b = some g → St true H H' → Ok F Γ (Δ' b) σ H' → (c b = true → t { D with nx := v D } σ H') ∧ (c b = false → u { D with nx := v D } σ H')) : PSs X (.If ce A B pos :: rest) t' :=
  (pss_cons (ps_if hc ha hb) hr).wk fun D σ H h => by
    obtain ⟨ok, g, e, q⟩ := hw D σ H h
    refine ⟨ok, g, e, fun b H' kb f ok' => ?_⟩
    obtain ⟨q1, q2⟩ := q b H' kb f ok'
    cases hcb : c b with
    | true => exact iteT (q1 hcb)
    | false => exact iteF (q2 hcb)
theorem s_ifT {T1 T2 : β → Option γ} (hI : Ins N) (hc : PT X ce (tTs true F Γ Δ T (fun b => if c b = true then T1 b else T2 b) c Δ')) (ha : ∀ b, PSs X A (tS F Γ (Δ' b) N (T1 b))) (hr : ∀ b, PSs X rest (tS F Γ (Δ' b) N (T2 b))) : PSs X (.If ce A [] pos :: rest) (tS F Γ Δ N T) :=
  s_if0 (N1 := N) (N2 := N) hc (pss_ex ha) pss_nil (pss_ex hr) fun D σ H ⟨ok, g, e, f⟩ => ⟨ok, g, e, fun b H' kb fz ok' => ⟨fun h => by
    try dsimp only at kb
    rw [if_pos h] at kb
    exact ⟨b, ok', g, kb, hI _ _ _ _ (N.mono f fz.fz)⟩, fun h => by
    try dsimp only at kb
    rw [if_neg (by rw [h]; exact Bool.false_ne_true)] at kb
    exact ⟨b, ok', g, kb, N.mono f fz.fz⟩⟩⟩
theorem s_ifB {S τ : Type} {C : S → Cxt} {Tf : Fn τ} {T : Option (Bo S τ)} {T1 : β → Option τ} {T2 : β → Option (Bo S τ)} (hI : Ins Tf) (hc : PT X ce (tTs true F Γ Δ T (fun b => if c b = true then inB (T1 b) else T2 b) c Δ')) (ha : ∀ b, PSs X A (tS F Γ (Δ' b) Tf (T1 b))) (hr : ∀ b, PSs X rest (tS F Γ (Δ' b) (fB F C Tf) (T2 b))) : PSs X (.If ce A [] pos :: rest) (tS F Γ Δ (fB F C Tf) T) :=
  s_if0 (N1 := fB F C Tf) (N2 := fB F C Tf) hc (pss_ex ha) pss_nil (pss_ex hr) fun D σ H ⟨ok, g, e, f⟩ => ⟨ok, g, e, fun b H' kb fz ok' => ⟨fun h => by
    try dsimp only at kb
    rw [if_pos h] at kb
    obtain ⟨t, et, e2⟩ := bind_some kb
    cases e2
    exact ⟨b, ok', t, et, hI _ _ _ _ (Tf.mono f fz.fz)⟩, fun h => by
    try dsimp only at kb
    rw [if_neg (by rw [h]; exact Bool.false_ne_true)] at kb
    exact ⟨b, ok', g, kb, (fB F C Tf).mono f fz.fz⟩⟩⟩
theorem s_ifN {S : Type} {C : S → Cxt} {T1 T2 : β → Option S} {k2 : β → S → Option γ} (hc : PT X ce (tTs true F Γ Δ T (fun b => (if c b = true then T1 b else T2 b).bind (k2 b)) c Δ')) (ha : ∀ b, PSs X A (tS F Γ (Δ' b) (fN F C) (T1 b))) (hb : ∀ b, PSs X B (tS F Γ (Δ' b) (fN F C) (T2 b)))
    (hr : ∀ b s, PSs X rest (tS F (C s).1 (C s).2 N (k2 b s))) : PSs X (.If ce A B pos :: rest) (tS F Γ Δ N T) :=
  s_if0 (N1 := N) (N2 := N) hc (pss_ex ha) (pss_ex hb) (pss_ex fun b => pss_ex fun s => hr b s) fun D σ H ⟨ok, g, e, f⟩ => ⟨ok, g, e, fun b H' kb fz ok' => by
    obtain ⟨s, es, ks⟩ := bind_some kb
    refine ⟨fun h => ?_, fun h => ?_⟩
    · rw [if_pos h] at es
      exact ⟨b, ok', s, es, fun σ2 H2 f2 ok2 => ⟨b, s, ok2, g, ks, N.mono f (fz.fz.trans f2)⟩⟩
    · rw [if_neg (by rw [h]; exact Bool.false_ne_true)] at es
      exact ⟨b, ok', s, es, fun σ2 H2 f2 ok2 => ⟨b, s, ok2, g, ks, N.mono f (fz.fz.trans f2)⟩⟩⟩
end
end
end L3
end
section
set_option maxHeartbeats 4000000
namespace L3
open PySem PySem.Spec PyProof.Rows L2
section
variable {X : Cx} {W : Bool} {F : Fm} {Γ : Gm} {Δ : Δs} {γ : Type}
def RdL {α : Type} (Δ : Δs) (p : Pd) (E : α → Pd) (xs : List α) : Prop := ∀ F H v, Hk F Δ H → p.pr H v → RL E xs H v
theorem rdF {α : Type} {E : α → Pd} {xs : List α} : RdL Δ (pL E xs) E xs := fun _ _ _ _ ⟨a, o, vs, e, h, z, p⟩ => ⟨a, vs, e, .inr ⟨o, h⟩, z, p⟩
theorem rdO {α : Type} {E : α → Pd} {xs : List α} {v : V} {prm : Option Nat} (j : Nat) (h : Δ[j]? = some ⟨v, oL E xs, prm⟩ := by rfl) : RdL Δ (pV v) E xs := fun F H w hk e => by
  have e : w = v := e
  subst e
  obtain ⟨G, p, vs, _, ev, hp, z, q⟩ := hk.at h
  exact ⟨p, vs, ev, .inl hp, z, q⟩
theorem paired_at {α β : Type} {P : α → β → Prop} : ∀ {xs : List α} {vs : List β} {i : Nat} {x : α}, Paired P xs vs → xs[i]? = some x → ∃ v, vs[i]? = some v ∧ P x v
  | _, _, _, _, .nil, e => by simp at e
  | _, _, 0, _, .cons r _, e => by simp at e; subst e; exact ⟨_, rfl, r⟩
  | _, _, i + 1, x, .cons _ t, e => by
    obtain ⟨v, h1, h2⟩ := paired_at (i := i) (x := x) t (by simpa using e)
    exact ⟨v, by simpa using h1, h2⟩
theorem paired_atI {α β : Type} {P : α → β → Prop} {xs : List α} {vs : List β} {i : Int} {x : α} (h : Paired P xs vs) (e : atI xs i = some x) : ∃ v, atI vs i = some v ∧ P x v := by
  unfold atI at e ⊢
  rw [← paired_len h]
  obtain ⟨j, ej, ex⟩ := bind_some e
  obtain ⟨v, hv, p⟩ := paired_at h ex
  exact ⟨v, by rw [ej]; exact hv, p⟩
theorem paired_app {α β : Type} {P : α → β → Prop} : ∀ {xs ys : List α} {vs ws : List β}, Paired P xs vs → Paired P ys ws → Paired P (xs ++ ys) (vs ++ ws)
  | _, _, _, _, .nil, s => s
  | _, _, _, _, .cons r t, s => .cons r (paired_app t s)
theorem paired_drop {α β : Type} {P : α → β → Prop} : ∀ (n : Nat) {xs : List α} {vs : List β}, Paired P xs vs → Paired P (xs.drop n) (vs.drop n)
  | 0, _, _, h => h
  | _ + 1, _, _, .nil => .nil
  | n + 1, _, _, .cons _ t => paired_drop n t
theorem paired_take {α β : Type} {P : α → β → Prop} : ∀ (n : Nat) {xs : List α} {vs : List β}, Paired P xs vs → Paired P (xs.take n) (vs.take n)
  | 0, _, _, _ => .nil
  | _ + 1, _, _, .nil => .nil
  | n + 1, _, _, .cons r t => .cons r (paired_take n t)
theorem paired_set {α β : Type} {P : α → β → Prop} {x : α} {v : β} (r : P x v) : ∀ {xs : List α} {vs : List β} (i : Nat), Paired P xs vs → Paired P (xs.set i x) (vs.set i v)
  | _, _, _, .nil => .nil
  | _, _, 0, .cons _ t => .cons r t
  | _, _, i + 1, .cons q t => .cons q (paired_set r i t)
theorem paired_ints {H : Hp} : ∀ {xs : List Int} {vs : List V}, Paired (fun x u => (pInt x).pr H u) xs vs → vs = xs.map V.int
  | _, _, .nil => rfl
  | _, _, .cons r t => by rw [List.map_cons, ← paired_ints t]; exact congrArg (· :: _) r
theorem paired_bls {H : Hp} : ∀ {xs : List Bool} {vs : List V}, Paired (fun x u => (pBl x).pr H u) xs vs → vs = xs.map V.bl
  | _, _, .nil => rfl
  | _, _, .cons r t => by rw [List.map_cons, ← paired_bls t]; exact congrArg (· :: _) r
theorem ints_paired {H : Hp} : ∀ xs : List Int, Paired (fun x u => (pInt x).pr H u) xs (xs.map V.int)
  | [] => .nil
  | _ :: xs => .cons rfl (ints_paired xs)
section
variable {a b : Expr} {pos : Pos} {β1 β2 α : Type} {T : Option γ} {k1 : β1 → Option γ} {Δ1 : β1 → Δs} {Δ2 : β1 → β2 → Δs} {E1 : β1 → Pd} {Ee : α → Pd} {xs : β1 → β2 → List α} {j : β1 → β2 → Int}
theorem x_ixL {k : (β1 × β2) × α → Option γ} (ha : PE X a (tE W F Γ Δ T k1 E1 Δ1)) (hb : ∀ b1, PE X b (tE W F Γ (Δ1 b1) (k1 b1) (fun b2 => (atI (xs b1 b2) (j b1 b2)).bind fun x => k ((b1, b2), x)) (fun b => pInt (j b1 b)) (Δ2 b1)))
    (rd : ∀ b1 b2, RdL (Δ2 b1 b2) (E1 b1) Ee (xs b1 b2)) (hs : PlainIx b := by exact fun _ _ => rfl) : PE X (.Subscript a b pos) (tE W F Γ Δ T k (fun b => Ee b.2) fun b => Δ2 b.1.1 b.1.2) :=
  x2p (b_ix ix_list hs) ha hb fun b1 b2 x σ v w H Q ok e hv hw q => by
    obtain ⟨p, vs, ev, sq, _, pr⟩ := (rd b1 b2 F H v ok.hk hv).sq (K := X.K)
    obtain ⟨u, eu, pu⟩ := paired_atI pr e
    exact ⟨p, vs, j b1 b2, u, ev, hw, sq, eu, q u pu⟩
end
section
variable {a : Expr} {pos p : Pos} {β α : Type} {T : Option γ} {Δ1 : β → Δs} {E1 : β → Pd} {Ee : α → Pd} {xs : β → List α} {k : β → Option γ}
theorem x_lenL (hm : X.mg "len" = none) (ha : PE X a (tE W F Γ Δ T k E1 Δ1)) (rd : ∀ b, RdL (Δ1 b) (E1 b) Ee (xs b)) (hg : Gl X "len" := by rfl) (hs : starEach [a] X.env = (false, eval a X.env) :: starEach [] X.env := by rfl) : PE X (.Call (.Name "len" p) [a] [] pos) (tE W F Γ Δ T k (fun b => pInt ((xs b).length : Int)) Δ1) :=
  x1t (u_callB call_len_seq hg hm PySem.boot_len (by decide) (by decide) hs) ha fun b σ v H Q ok hv q => by
    obtain ⟨p, vs, ev, sq, _, pr⟩ := (rd b F H v ok.hk hv).sq (K := X.K)
    rw [ev]
    exact ⟨p, vs, rfl, .inl sq, by rw [← paired_len pr]; exact q _ rfl⟩
theorem x_intI {i : β → Int} (hm : X.mg "int" = none) (ha : PE X a (tE W F Γ Δ T k (fun b => pInt (i b)) Δ1)) (hg : Gl X "int" := by rfl) (hs : starEach [a] X.env = (false, eval a X.env) :: starEach [] X.env := by rfl) : PE X (.Call (.Name "int" p) [a] [] pos) (tE W F Γ Δ T k (fun b => pInt (i b)) Δ1) :=
  x1t (u_callTy call_int1 hg hm (by decide +kernel) (by decide) (by decide) hs) ha fun b σ v H Q ok hv q => .inl ⟨i b, by rw [show v = .int (i b) from hv], q _ rfl⟩
theorem x_intB {c : β → Bool} (hm : X.mg "int" = none) (ha : PE X a (tE W F Γ Δ T k (fun b => pBl (c b)) Δ1)) (hg : Gl X "int" := by rfl) (hs : starEach [a] X.env = (false, eval a X.env) :: starEach [] X.env := by rfl) : PE X (.Call (.Name "int" p) [a] [] pos) (tE W F Γ Δ T k (fun b => pInt (if c b then 1 else 0)) Δ1) :=
  x1t (u_callTy call_int1 hg hm (by decide +kernel) (by decide) (by decide) hs) ha fun b σ v H Q ok hv q => .inr ⟨c b, by rw [show v = .bl (c b) from hv], q _ rfl⟩
theorem x_listL (hm : X.mg "list" = none) (ha : PE X a (tE W F Γ Δ T k E1 Δ1)) (rd : ∀ b, RdL (Δ1 b) (E1 b) Ee (xs b)) (hg : Gl X "list" := by rfl) (hs : starEach [a] X.env = (false, eval a X.env) :: starEach [] X.env := by rfl) : PE X (.Call (.Name "list" p) [a] [] pos) (tO W F Γ Δ T k (fun b => oL Ee (xs b)) Δ1) :=
  x1n (u_callTy call_list_of hg hm (by decide +kernel) (by decide) (by decide) hs) ha fun b σ v H Q ok hv q => by
    obtain ⟨p, vs, ev, sq, z, pr⟩ := (rd b F H v ok.hk hv).sq (K := X.K)
    rw [ev]
    exact ⟨p, vs, rfl, .inl sq, fun l hl => q l vs hl z pr⟩
end
section
variable {N : Fn γ} {rest : List Stmt}
theorem s_setL {o i e : Expr} {pos pos' : Pos} {β0 β1 β2 α : Type} {T : Option γ} {k0 : β0 → Option γ} {k1 : β0 → β1 → Option γ} {k : (β0 × β1) × β2 → Option γ} {Δ0 : β0 → Δs} {Δ1 : β0 → β1 → Δs} {Δ2 : β0 → β1 → β2 → Δs} {Ee : α → Pd} {y : β0 → α} {n : β0 → β1 → β2 → Int} {xs : β0 → β1 → β2 → List α} {v : V} {prm : Option Nat} (j : Nat)
    (he : PE X e (tE true F Γ Δ T k0 (fun b => Ee (y b)) Δ0)) (ho : ∀ b0, PE X o (tE true F Γ (Δ0 b0) (k0 b0) (k1 b0) (fun _ => pV v) (Δ1 b0)))
    (hi : ∀ b0 b1, PE X i (tE true F Γ (Δ1 b0 b1) (k1 b0 b1) (fun b2 => (ixN (xs b0 b1 b2).length (n b0 b1 b2)).bind fun m => (fun (_ : Nat) => k ((b0, b1), b2)) m) (fun b2 => pInt (n b0 b1 b2)) (Δ2 b0 b1)))
    (hj : ∀ b0 b1 b2, (Δ2 b0 b1 b2)[j]? = some ⟨v, oL Ee (xs b0 b1 b2), prm⟩)
    (hr : ∀ b : (β0 × β1) × β2, PSs X rest (tS F Γ ((Δ2 b.1.1 b.1.2 b.2).set j ⟨v, oL Ee ((xs b.1.1 b.1.2 b.2).set ((ixN (xs b.1.1 b.1.2 b.2).length (n b.1.1 b.1.2 b.2)).getD 0) (y b.1.1)), prm⟩) N (k b)))
    (hs : swapsWithSole [.Subscript o i pos'] e pos.line X.env = pure false := by rfl) (hw : swappedStores [.Subscript o i pos'] e X.env = pure none := by rfl) (h1 : (assignEach [.Subscript o i pos'] X.env).map (·.2) = [assign (.Subscript o i pos') X.env] := by rfl)
    (ha : ∀ v, assign (.Subscript o i pos') X.env v = (do
      let ov ← holding [v] (eval o X.env)
      let iv ← holding [v, ov] (eval i X.env)
      standAt pos'
      holding [v, ov, iv] (setItem ov iv v)
      release [v, ov, iv] []) := by intro _; rfl) :
    PSs X (.Assign [.Subscript o i pos'] e pos :: rest) (tS F Γ Δ N T) :=
  (pss_cons (ps_asg he (pg_sub (pe_ex ho) (pe_ex fun b0 => pe_ex fun b1 => hi b0 b1) set_list ha) hs hw h1) (pss_ex hr)).wk fun D σ H ⟨ok, g, e, f⟩ => ⟨ok, g, e, fun b0 u H0 kb0 f0 ok0 hu => ⟨b0, ok0, g, kb0, fun b1 w H1 kb1 f1 ok1 hw => ⟨b0, b1, ok1, g, kb1, fun b2 z H2 kb2 f2 ok2 hz => by
    obtain ⟨m, em, km⟩ := bind_some kb2
    have hw : w = v := hw
    have hz : z = .int (n b0 b1 b2) := hz
    subst hw hz
    obtain ⟨G, ⟨p, vs, eG, ev, hp, zz, pr⟩, nd, turn⟩ := ok2.cell (hj b0 b1 b2)
    refine ⟨p, vs, n b0 b1 b2, m, ev, rfl, hp, by rw [← paired_len pr]; exact em, ((b0, b1), b2), ?_⟩
    have hu2 : (Ee (y b0)).pr H2 u := (Ee (y b0)).mono (f1.fz.trans f2.fz) hu
    have fzm : Fzs H2 (upd H2 p (.lst (vs.set m u))) := Fzs.mut hp fun z => z
    obtain ⟨ok3, f3⟩ := turn (upd H2 p (.lst (vs.set m u))) (oL Ee ((xs b0 b1 b2).set m (y b0))) (fun a o na e => by
      rw [upd_ne fun q => na (by
        show a ∈ G
        have eG : G = [p] := eG
        rw [eG, q]; exact List.mem_singleton.mpr rfl)]
      exact e) ⟨p, vs.set m u, eG, ev, upd_same, by rw [List.length_set]; exact zz, paired_set (P := fun x q => (Ee x).pr (upd H2 p (.lst (vs.set m u))) q) ((Ee _).mono fzm hu2) m (paired_mono (fun x _ => (Ee x).mono fzm) pr)⟩
    have em2 : (ixN (xs b0 b1 b2).length (n b0 b1 b2)).getD 0 = m := by rw [em]; rfl
    show tS F Γ _ N (k ((b0, b1), b2)) D σ _
    rw [em2]
    exact ⟨ok3, g, km, N.mono f (((f0.fz.trans f1.fz).trans f2.fz).trans f3.fz)⟩⟩⟩⟩
end
end
end L3
end
section
set_option maxHeartbeats 4000000
namespace L3
open PySem PySem.Spec PyProof.Rows L2
theorem start_gam {H : Hp} : ∀ {ps : List Pd} {vs : List V} {m : Nat}, Paired (fun p v => Pd.pr p H v) ps vs → ∀ (i : Nat) (p : Pd), (ps.map some ++ List.replicate m none)[i]? = some (some p) → ∃ v, (vs.map some ++ List.replicate m none)[i]? = some (some v) ∧ p.pr H v
  | [], _, m, .nil, i, p, e => by
    have e : (List.replicate m (none : Option Pd))[i]? = some (some p) := e
    rw [List.getElem?_replicate] at e
    split at e <;> cases e
  | _ :: _, _ :: _, m, .cons r t, 0, p, e => by
    have e : some (some _) = some (some p) := e
    cases e
    exact ⟨_, rfl, r⟩
  | _ :: _, _ :: _, m, .cons r t, i + 1, p, e => start_gam t i p e
theorem ok_start {ps : List Pd} {vs : List V} {N : List Str} {H : Hp} {Δ : List Cel} {n : Nat} (hn : vs.length = n) (h : Paired (fun p v => Pd.pr p H v) ps vs) (hd : ∀ c ∈ Δ, c.d.pr c.G H c.v) (nd : (cellsOf Δ).Nodup) (hp : ∀ (i : Nat) (c : Cel), Δ[i]? = some c → c.prm = some i) :
    Ok ⟨H, Δ.map Cel.G⟩ (ps.map some ++ List.replicate (N.length - n) none) (Δ.map Cel.fg) (L2.start N vs) H := by
  subst hn
  refine ⟨⟨Δ, rfl, fun _ _ e _ => e, hd, nd, fun c hc a ha => .inr ?_, fun m hm a ha => ?_⟩, ?_, fun i p e => start_gam h i p e⟩
  · obtain ⟨i, hi⟩ := List.getElem?_of_mem hc
    exact ⟨i, c.G, hp i c hi, by rw [List.getElem?_map, hi]; rfl, ha⟩
  · obtain ⟨c, hc, e⟩ := List.mem_map.mp hm
    subst e
    obtain ⟨o, e, _⟩ := c.d.cellsN (hd c hc) a ha
    exact ⟨o, e⟩
  · unfold L2.start
    rw [List.length_append, List.length_append, List.length_map, List.length_map, List.length_replicate, List.length_replicate, paired_len h]
section
variable {F : Fm} {Γ : Gm} {Δ : Δs} {σ : SS} {H H' : Hp} {W : Bool}
theorem call_f0 (ok : Ok F Γ Δ σ H) (hk : Hk ⟨H, []⟩ [] H') : Ok F Γ Δ σ H' ∧ St W H H' := by
  obtain ⟨_, _, hk⟩ := hk
  have g : Gr H H' := fun a o e => hk.base a o e fun _ h => nomatch h
  exact ⟨ok.gr g, g.st⟩
theorem call_o0 {v : V} {d : Od} (ok : Ok F Γ Δ σ H) (hk : Hk ⟨H, []⟩ [⟨v, d, none⟩] H') : OkN W F Γ H v d Δ σ H' ∧ St W H H' := by
  obtain ⟨Δ0, e, hk⟩ := hk
  match Δ0, e with
  | [⟨G, _, _, _⟩], e =>
    cases e
    have g : Gr H H' := fun a o e => hk.base a o e fun _ h => nomatch h
    have nw : ∀ a ∈ G, H a = none := fun a ha => by
      rcases hk.own _ (List.mem_singleton.mpr rfl) a ha with z | ⟨i, m, z, _⟩
      · exact z
      · cases z
    exact ⟨ok.add g hk.ndup.1 nw (hk.del _ (List.mem_singleton.mpr rfl)), g.st⟩
theorem lendO {Δ1 Δ2 : List Cel} (k : HkO F (Δ1 ++ Δ2) H) {Δ1' N : List Cel} (hk : HkO ⟨H, Δ1.map Cel.G⟩ (N ++ Δ1') H') (hl : Δ1'.length = Δ1.length) (hi : ∀ (i : Nat) (c : Cel), Δ1'[i]? = some c → c.prm = some i) (hN : ∀ c ∈ N, c.prm = none) {Δ1o : List Cel} (ho : Δ1o.length = Δ1.length) (hoe : ∀ (i : Nat) (c c' e : Cel), Δ1[i]? = some c → Δ1'[i]? = some c' → Δ1o[i]? = some e → e = ⟨c'.G, c'.v, c'.d, c.prm⟩) :
    HkO F (N ++ Δ1o ++ Δ2) H' ∧ St true H H' ∧ ∀ c ∈ N, ∀ a ∈ c.G, H a = none := by
  have hG : ∀ a, a ∈ cellsOf Δ1 ↔ ∃ m ∈ Δ1.map Cel.G, a ∈ m := fun a => by
    unfold cellsOf
    rw [List.mem_flatMap]
    constructor
    · rintro ⟨c, hc, ha⟩; exact ⟨c.G, List.mem_map.mpr ⟨c, hc, rfl⟩, ha⟩
    · rintro ⟨m, hm, ha⟩
      obtain ⟨c, hc, e⟩ := List.mem_map.mp hm
      subst e
      exact ⟨c, hc, ha⟩
  have kp : ∀ a o, a ∉ cellsOf Δ1 → H a = some o → H' a = some o := fun a o n e => hk.base a o e fun m hm ha => n ((hG a).mpr ⟨m, hm, ha⟩)
  have k1 : HkO F Δ1 H := k.less (List.sublist_append_left _ _)
  have k2 : HkO F Δ2 H := k.less (List.sublist_append_right _ _)
  have fz : Fzs H H' := fun a o p e => kp a o (fun ha => by
    obtain ⟨u, eu, nu⟩ := k1.isC ha
    rw [e] at eu; cases eu; exact nu p) e
  have dom : ∀ a o, H a = some o → ∃ u, H' a = some u := fun a o e => by
    by_cases ha : a ∈ cellsOf Δ1
    · obtain ⟨m, hm, ha⟩ := (hG a).mp ha
      exact hk.mem m hm a ha
    · exact ⟨o, kp a o ha e⟩
  have nd := k.nod
  rw [cellsOf_app] at nd
  obtain ⟨nd1, nd2, nd3⟩ := List.nodup_append.mp nd
  -- what a cell of the def's end owns
  have ownN : ∀ c ∈ N, ∀ a ∈ c.G, H a = none := fun c hc a ha => by
    rcases hk.own c (List.mem_append_left _ hc) a ha with z | ⟨i, m, z, _⟩
    · exact z
    · rw [hN c hc] at z; cases z
  have own1 : ∀ (i : Nat) (c' : Cel), Δ1'[i]? = some c' → ∀ a ∈ c'.G, H a = none ∨ ∃ c, Δ1[i]? = some c ∧ a ∈ c.G := fun i c' h a ha => by
    rcases hk.own c' (List.mem_append_right _ (List.mem_of_getElem? h)) a ha with z | ⟨q, m, z, hm, hin⟩
    · exact .inl z
    · rw [hi i c' h] at z
      cases z
      have hm : (Δ1.map Cel.G)[i]? = some m := hm
      rw [List.getElem?_map] at hm
      cases e : Δ1[i]? with
      | none => rw [e] at hm; cases hm
      | some c =>
        rw [e] at hm
        cases hm
        exact .inr ⟨c, rfl, hin⟩
  have cof : ∀ (i : Nat) (e : Cel), Δ1o[i]? = some e → ∃ c c', Δ1[i]? = some c ∧ Δ1'[i]? = some c' ∧ e = ⟨c'.G, c'.v, c'.d, c.prm⟩ := fun i e h => by
    have hl1 : i < Δ1o.length := by
      by_cases x : i < Δ1o.length
      · exact x
      · rw [List.getElem?_eq_none (by omega)] at h; cases h
    have e1 := List.getElem?_eq_getElem (l := Δ1) (i := i) (by omega)
    have e2 := List.getElem?_eq_getElem (l := Δ1') (i := i) (by omega)
    exact ⟨_, _, e1, e2, hoe i _ _ e e1 e2 h⟩
  have eqG : Δ1o.map Cel.G = Δ1'.map Cel.G := by
    apply List.ext_getElem?
    intro i
    rw [List.getElem?_map, List.getElem?_map]
    by_cases hl1 : i < Δ1o.length
    · obtain ⟨c, c', _, e2, e3⟩ := cof i _ (List.getElem?_eq_getElem hl1)
      rw [List.getElem?_eq_getElem hl1, e2, e3]
      rfl
    · rw [List.getElem?_eq_none (by omega), List.getElem?_eq_none (by omega)]
  have eqC : cellsOf Δ1o = cellsOf Δ1' := by
    unfold cellsOf
    rw [List.flatMap_def, List.flatMap_def, eqG]
  refine ⟨⟨fun a o e m => kp a o (fun ha => ?_) (k.base a o e m), fun c hc => ?_, ?_, fun c hc a ha => ?_, fun m hm a ha => ?_⟩, ⟨fz, (fun h => nomatch h), dom⟩, ownN⟩
  · obtain ⟨c, hc, ha⟩ := List.mem_flatMap.mp ha
    rcases k1.own c hc a ha with z | ⟨i, w, _, hw, z⟩
    · rw [e] at z; cases z
    · exact m w (List.mem_of_getElem? hw) z
  · rcases List.mem_append.mp hc with hc | hc
    · rcases List.mem_append.mp hc with hc | hc
      · exact hk.del c (List.mem_append_left _ hc)
      · obtain ⟨i, h⟩ := List.getElem?_of_mem hc
        obtain ⟨d, d', _, e2, e3⟩ := cof i c h
        subst e3
        exact hk.del d' (List.mem_append_right _ (List.mem_of_getElem? e2))
    · exact c.d.frame (k2.del c hc) (fun a ha o q => kp a o (fun h1 => nd3 a h1 a (mem_cellsOf hc ha) rfl) q) fz
  · rw [cellsOf_app, cellsOf_app, eqC, ← cellsOf_app]
    refine List.nodup_append.mpr ⟨hk.nod, nd2, fun a ha b hb e => ?_⟩
    subst e
    obtain ⟨o2, e2, _⟩ := k2.isC hb
    rw [cellsOf_app] at ha
    rcases List.mem_append.mp ha with ha | ha
    · obtain ⟨c, hc, ha⟩ := List.mem_flatMap.mp ha
      rw [ownN c hc a ha] at e2; cases e2
    · obtain ⟨c', hc, ha⟩ := List.mem_flatMap.mp ha
      obtain ⟨i, h⟩ := List.getElem?_of_mem hc
      rcases own1 i c' h a ha with z | ⟨c, e1, z⟩
      · rw [z] at e2; cases e2
      · exact nd3 a (mem_cellsOf (List.mem_of_getElem? e1) z) a hb rfl
  · rcases List.mem_append.mp hc with hc | hc
    · rcases List.mem_append.mp hc with hc | hc
      · exact .inl (k.fresh0 (ownN c hc a ha))
      · obtain ⟨i, h⟩ := List.getElem?_of_mem hc
        obtain ⟨d, d', e1, e2, e3⟩ := cof i c h
        subst e3
        rcases own1 i d' e2 a ha with z | ⟨c, e4, z⟩
        · exact .inl (k.fresh0 z)
        · rw [e1] at e4
          cases e4
          exact k1.own d (List.mem_of_getElem? e1) a z
    · exact k2.own c hc a ha
  · obtain ⟨o, e⟩ := k.mem m hm a ha
    exact dom a o e
theorem map_one {Δ1 : List Cel} {c : Cell} (e : Δ1.map Cel.fg = [c]) : ∃ G, Δ1 = [⟨G, c.v, c.d, c.prm⟩] := by
  cases Δ1 with
  | nil => cases e
  | cons y r =>
    cases r with
    | cons _ _ => cases e
    | nil => cases e; exact ⟨y.G, rfl⟩
theorem map_two {Δ1 : List Cel} {c d : Cell} (e : Δ1.map Cel.fg = [c, d]) : ∃ G G2, Δ1 = [⟨G, c.v, c.d, c.prm⟩, ⟨G2, d.v, d.d, d.prm⟩] := by
  cases Δ1 with
  | nil => cases e
  | cons y r =>
    cases r with
    | nil => cases e
    | cons z r =>
      cases r with
      | cons _ _ => cases e
      | nil => cases e; exact ⟨y.G, z.G, rfl⟩
theorem Ok.lend1 {j : Nat} {c : Cell} (ok : Ok F Γ Δ σ H) (hj : Δ[j]? = some c) : ∃ G, c.d.pr G H c.v ∧ G.Nodup ∧ (∀ H' d', Hk ⟨H, [G]⟩ [⟨c.v, d', some 0⟩] H' → Ok F Γ (Δ.set j { c with d := d' }) σ H' ∧ St true H H') ∧
    ∀ H' d' v2 d2, Hk ⟨H, [G]⟩ [⟨v2, d2, none⟩, ⟨c.v, d', some 0⟩] H' → OkN true F Γ H v2 d2 (Δ.set j { c with d := d' }) σ H' ∧ St true H H' := by
  obtain ⟨⟨Δ0, e, k⟩, n⟩ := ok
  subst e
  obtain ⟨A, x, B, e0, el, ex⟩ := map_at hj
  subst e0
  subst ex
  have k1 : HkO F ([x] ++ (A ++ B)) H := k.perm mid_perm
  have nd := (k.perm mid_perm).ndup.1
  refine ⟨x.G, k1.del x List.mem_cons_self, nd, fun H' d' hk => ?_, fun H' d' v2 d2 hk => ?_⟩
  · obtain ⟨Δ1, e1, hk⟩ := hk
    obtain ⟨yG, e2⟩ := map_one e1
    subst e2
    ·
      obtain ⟨r, st, _⟩ := lendO (Δ1 := [x]) (N := []) (Δ1' := [⟨yG, x.v, d', some 0⟩]) (Δ1o := [⟨yG, x.v, d', x.prm⟩]) k1 hk rfl (fun i c h => by
        match i, h with
        | 0, h => cases h; rfl
        | _ + 1, h => cases h) (fun _ h => nomatch h) rfl (fun i c c' e h1 h2 h3 => by
        match i, h1, h2, h3 with
        | 0, h1, h2, h3 => cases h1; cases h2; cases h3; rfl
        | _ + 1, h1, _, _ => cases h1)
      refine ⟨⟨⟨A ++ ⟨yG, x.v, d', x.prm⟩ :: B, ?_, HkO.perm (Δ := ⟨yG, x.v, d', x.prm⟩ :: (A ++ B)) r mid_perm.symm⟩, n.mono st.fz⟩, st⟩
      rw [← el]
      exact map_set
  · obtain ⟨Δ1, e1, hk⟩ := hk
    obtain ⟨zG, yG, e2⟩ := map_two e1
    subst e2
    ·
      obtain ⟨r, st, nw⟩ := lendO (Δ1 := [x]) (N := [⟨zG, v2, d2, none⟩]) (Δ1' := [⟨yG, x.v, d', some 0⟩]) (Δ1o := [⟨yG, x.v, d', x.prm⟩]) k1 hk rfl (fun i c h => by
        match i, h with
        | 0, h => cases h; rfl
        | _ + 1, h => cases h) (fun c h => by rw [List.mem_singleton.mp h]) rfl (fun i c c' e h1 h2 h3 => by
        match i, h1, h2, h3 with
        | 0, h1, h2, h3 => cases h1; cases h2; cases h3; rfl
        | _ + 1, h1, _, _ => cases h1)
      refine ⟨⟨A ++ ⟨yG, x.v, d', x.prm⟩ :: B, zG, ?_, HkO.perm (Δ := ⟨zG, v2, d2, none⟩ :: ⟨yG, x.v, d', x.prm⟩ :: (A ++ B)) r (List.Perm.cons _ mid_perm.symm), (fun h => nomatch h), n.mono st.fz⟩, st⟩
      rw [← el]
      exact map_set
end
end L3
end
section
set_option maxHeartbeats 4000000
namespace L3
open PySem PySem.Spec PyProof.Rows L2
def Sp_FFFF_f {α1 α2 α3 α4 ρ : Type} (E1 : α1 → Pd) (E2 : α2 → Pd) (E3 : α3 → Pd) (E4 : α4 → Pd) (Mf : α1 → α2 → α3 → α4 → Option (ρ)) (Rp : ρ → Pd) : Sp := fun vs H Q _ => ∃ (v1 v2 v3 v4 : V)  (a1 : α1) (a2 : α2) (a3 : α3) (a4 : α4), vs = [v1, v2, v3, v4] ∧ (E1 a1).pr H v1 ∧ (E2 a2).pr H v2 ∧ (E3 a3).pr H v3 ∧ (E4 a4).pr H v4 ∧ ∃ r, Mf a1 a2 a3 a4 = some r ∧ RF ⟨H, []⟩ (fun _ => []) (Rp) r Q
theorem fn_FFFF_f {P : Program} {w : World} {K : PySem.W.Frag} {mg : Str → Option Value} {base : Heap} {x qual : Str} {params : Arguments} {body : List Stmt} {scope : Scope} {dvs : List V} {kws : List (Str × V)} {f : Addr} {fd : FuncData} {N ps : List Str} {k : Nat} {α1 α2 α3 α4 ρ : Type} {E1 : α1 → Pd} {E2 : α2 → Pd} {E3 : α3 → Pd} {E4 : α4 → Pd} {Mf : α1 → α2 → α3 → α4 → Option (ρ)} {Rp : ρ → Pd}
    (FD : FunD K x qual params body scope dvs kws f fd) (S : FnScope N ps scope) (hl : 4 = ps.length)
    (hb : ∀ (cdv : Value) (A : Around) (outer : List Env) (s : Shared) (H : Hp) (E : XK) (hr : Room k (A.deeper (envOfC qual scope s.heap.objs.size f cdv)))  (a1 : α1) (a2 : α2) (a3 : α3) (a4 : α4), PSs (cxOf CX0 P w K mg base N qual scope f cdv A outer s H E).nox body
      (tS ⟨H, []⟩ (([E1 a1, E2 a2, E3 a3, E4 a4] : List Pd).map some ++ List.replicate (N.length - 4) none) [] (fF (RF ⟨H, []⟩ (fun _ => []) (Rp))) (Mf a1 a2 a3 a4))) : FnOk P w K mg base CX0 (k + 1) f fd ps (Sp_FFFF_f E1 E2 E3 E4 Mf Rp) := by
  refine FD.ok S (fun vs H Q E h => ?_) (fun cdv A outer s H vs Q E hr h => ?_)
  · obtain ⟨v1, v2, v3, v4, a1, a2, a3, a4, rfl, _⟩ := h
    exact hl
  · obtain ⟨v1, v2, v3, v4, a1, a2, a3, a4, rfl, p1, p2, p3, p4, r, hM, fin⟩ := h
    refine ⟨_, PSs.nox (hb cdv A outer s H E hr  a1 a2 a3 a4), ok_start (Δ := []) rfl (.cons p1 (.cons p2 (.cons p3 (.cons p4 (.nil))))) ?_ ?_ ?_, r, hM, fin⟩
    · exact fun _ h => nomatch h
    · exact List.nodup_nil
    · exact fun _ _ h => nomatch h
theorem x_FFFF_f {X : Cx} {W : Bool} {F : Fm} {Γ : Gm} {Δ : Δs} {γ : Type} {x : Str} {p pos : Pos} {e1 e2 e3 e4 : Expr} {f : Addr} {fd : FuncData} {ps : List Str} {kk : Nat} {α1 α2 α3 α4 ρ β1 β2 β3 β4 : Type} {E1 : α1 → Pd} {E2 : α2 → Pd} {E3 : α3 → Pd} {E4 : α4 → Pd} {Mf : α1 → α2 → α3 → α4 → Option (ρ)} {Rp : ρ → Pd} {T : Option γ} {Δ1 : β1 → Δs} {x1 : β1 → α1} {k1 : β1 → Option γ} {Δ2 : β1 → β2 → Δs} {x2 : β1 → β2 → α2} {k2 : β1 → β2 → Option γ} {Δ3 : β1 → β2 → β3 → Δs} {x3 : β1 → β2 → β3 → α3} {k3 : β1 → β2 → β3 → Option γ} {Δ4 : β1 → β2 → β3 → β4 → Δs} {x4 : β1 → β2 → β3 → β4 → α4} {k : (β1 × β2 × β3 × β4) × (ρ) → Option γ}
    (G : FnOk X.prog X.w X.K X.mg X.base CX0 kk f fd ps (Sp_FFFF_f E1 E2 E3 E4 Mf Rp)) (hr : Room kk X.A) (hm : X.mg x = some (.ref f)) (hk : PySem.W.keepIn X.K (.ref f) = true) (hb : Binds X.K fd ps []) (h1 : PE X e1 (tE W F Γ Δ T (k1) (fun b1 => E1 (x1 b1)) (Δ1))) (h2 : ∀ b1, PE X e2 (tE W F Γ (Δ1 b1) (k1 b1) (k2 b1) (fun b2 => E2 (x2 b1 b2)) (Δ2 b1))) (h3 : ∀ b1 b2, PE X e3 (tE W F Γ (Δ2 b1 b2) (k2 b1 b2) (k3 b1 b2) (fun b3 => E3 (x3 b1 b2 b3)) (Δ3 b1 b2))) (h4 : ∀ b1 b2 b3, PE X e4 (tE W F Γ (Δ3 b1 b2 b3) (k3 b1 b2 b3) (fun b4 => (Mf (x1 b1) (x2 b1 b2) (x3 b1 b2 b3) (x4 b1 b2 b3 b4)).bind fun r => k ((b1, b2, b3, b4), r)) (fun b4 => E4 (x4 b1 b2 b3 b4)) (Δ4 b1 b2 b3)))
     (hg : Gl X x := by rfl) (hdb : (x == ("__debug__" : Str)) = false := by decide) (st1 : starEach [e1, e2, e3, e4] X.env = (false, eval e1 X.env) :: starEach [e2, e3, e4] X.env := by rfl) (st2 : starEach [e2, e3, e4] X.env = (false, eval e2 X.env) :: starEach [e3, e4] X.env := by rfl) (st3 : starEach [e3, e4] X.env = (false, eval e3 X.env) :: starEach [e4] X.env := by rfl) (st4 : starEach [e4] X.env = (false, eval e4 X.env) :: starEach [] X.env := by rfl) (hpl : (backTo pos (starEach [e2, e3, e4] X.env)).any (·.1) = false := by rfl) :
    PE X (.Call (.Name x p) [e1, e2, e3, e4] [] pos) (tE W F Γ Δ T k (fun b => Rp b.2) fun b => Δ4 b.1.1 b.1.2.1 b.1.2.2.1 b.1.2.2.2) :=
  (pe_call G hr hg hm hk hb .nil pass0 (pa_cons h1 (pa_cons (pe_ex fun b1 => h2 b1) (pa_cons (pe_ex fun b1 => pe_ex fun b2 => h3 b1 b2) (pa_cons (pe_ex fun b1 => pe_ex fun b2 => pe_ex fun b3 => h4 b1 b2 b3) pa_nil st4) st3) st2) st1) hdb st1 hpl).wk fun σ H Q ⟨ok, g, e, q⟩ => ⟨ok, g, e, fun b1 v1 H1 kb1 f1 ok1 hv1 => ⟨b1, ok1, g, kb1, fun b2 v2 H2 kb2 f2 ok2 hv2 => ⟨b1, b2, ok2, g, kb2, fun b3 v3 H3 kb3 f3 ok3 hv3 => ⟨b1, b2, b3, ok3, g, kb3, fun b4 v4 H4 kb4 f4 ok4 hv4 => by
    obtain ⟨r, er, kr⟩ := bind_some kb4
    refine ⟨v1, v2, v3, v4, x1 b1, x2 b1 b2, x3 b1 b2 b3, x4 b1 b2 b3 b4, rfl, ((E1 _).mono ((f2.fz.trans f3.fz).trans f4.fz) hv1), ((E2 _).mono (f3.fz.trans f4.fz) hv2), ((E3 _).mono f4.fz hv3), hv4, r, er, fun v H' hk hv => ?_⟩
    obtain ⟨ok', st⟩ := call_f0 (W := W) ok4 hk
    exact q ((b1, b2, b3, b4), r) v H' kr ((((f1.trans f2).trans f3).trans f4).trans st) ok' hv⟩⟩⟩⟩
def Sp_FFFF_o {α1 α2 α3 α4 ρ : Type} (E1 : α1 → Pd) (E2 : α2 → Pd) (E3 : α3 → Pd) (E4 : α4 → Pd) (Mf : α1 → α2 → α3 → α4 → Option (ρ)) (Rp : ρ → Od) : Sp := fun vs H Q _ => ∃ (v1 v2 v3 v4 : V)  (a1 : α1) (a2 : α2) (a3 : α3) (a4 : α4), vs = [v1, v2, v3, v4] ∧ (E1 a1).pr H v1 ∧ (E2 a2).pr H v2 ∧ (E3 a3).pr H v3 ∧ (E4 a4).pr H v4 ∧ ∃ r, Mf a1 a2 a3 a4 = some r ∧ RO ⟨H, []⟩ (fun _ => []) (Rp) r Q
theorem fn_FFFF_o {P : Program} {w : World} {K : PySem.W.Frag} {mg : Str → Option Value} {base : Heap} {x qual : Str} {params : Arguments} {body : List Stmt} {scope : Scope} {dvs : List V} {kws : List (Str × V)} {f : Addr} {fd : FuncData} {N ps : List Str} {k : Nat} {α1 α2 α3 α4 ρ : Type} {E1 : α1 → Pd} {E2 : α2 → Pd} {E3 : α3 → Pd} {E4 : α4 → Pd} {Mf : α1 → α2 → α3 → α4 → Option (ρ)} {Rp : ρ → Od}
    (FD : FunD K x qual params body scope dvs kws f fd) (S : FnScope N ps scope) (hl : 4 = ps.length)
    (hb : ∀ (cdv : Value) (A : Around) (outer : List Env) (s : Shared) (H : Hp) (E : XK) (hr : Room k (A.deeper (envOfC qual scope s.heap.objs.size f cdv)))  (a1 : α1) (a2 : α2) (a3 : α3) (a4 : α4), PSs (cxOf CX0 P w K mg base N qual scope f cdv A outer s H E).nox body
      (tS ⟨H, []⟩ (([E1 a1, E2 a2, E3 a3, E4 a4] : List Pd).map some ++ List.replicate (N.length - 4) none) [] (fF (RO ⟨H, []⟩ (fun _ => []) (Rp))) (Mf a1 a2 a3 a4))) : FnOk P w K mg base CX0 (k + 1) f fd ps (Sp_FFFF_o E1 E2 E3 E4 Mf Rp) := by
  refine FD.ok S (fun vs H Q E h => ?_) (fun cdv A outer s H vs Q E hr h => ?_)
  · obtain ⟨v1, v2, v3, v4, a1, a2, a3, a4, rfl, _⟩ := h
    exact hl
  · obtain ⟨v1, v2, v3, v4, a1, a2, a3, a4, rfl, p1, p2, p3, p4, r, hM, fin⟩ := h
    refine ⟨_, PSs.nox (hb cdv A outer s H E hr  a1 a2 a3 a4), ok_start (Δ := []) rfl (.cons p1 (.cons p2 (.cons p3 (.cons p4 (.nil))))) ?_ ?_ ?_, r, hM, fin⟩
    · exact fun _ h => nomatch h
    · exact List.nodup_nil
    · exact fun _ _ h => nomatch h
theorem x_FFFF_o {X : Cx} {W : Bool} {F : Fm} {Γ : Gm} {Δ : Δs} {γ : Type} {x : Str} {p pos : Pos} {e1 e2 e3 e4 : Expr} {f : Addr} {fd : FuncData} {ps : List Str} {kk : Nat} {α1 α2 α3 α4 ρ β1 β2 β3 β4 : Type} {E1 : α1 → Pd} {E2 : α2 → Pd} {E3 : α3 → Pd} {E4 : α4 → Pd} {Mf : α1 → α2 → α3 → α4 → Option (ρ)} {Rp : ρ → Od} {T : Option γ} {Δ1 : β1 → Δs} {x1 : β1 → α1} {k1 : β1 → Option γ} {Δ2 : β1 → β2 → Δs} {x2 : β1 → β2 → α2} {k2 : β1 → β2 → Option γ} {Δ3 : β1 → β2 → β3 → Δs} {x3 : β1 → β2 → β3 → α3} {k3 : β1 → β2 → β3 → Option γ} {Δ4 : β1 → β2 → β3 → β4 → Δs} {x4 : β1 → β2 → β3 → β4 → α4} {k : (β1 × β2 × β3 × β4) × (ρ) → Option γ}
    (G : FnOk X.prog X.w X.K X.mg X.base CX0 kk f fd ps (Sp_FFFF_o E1 E2 E3 E4 Mf Rp)) (hr : Room kk X.A) (hm : X.mg x = some (.ref f)) (hk : PySem.W.keepIn X.K (.ref f) = true) (hb : Binds X.K fd ps []) (h1 : PE X e1 (tE W F Γ Δ T (k1) (fun b1 => E1 (x1 b1)) (Δ1))) (h2 : ∀ b1, PE X e2 (tE W F Γ (Δ1 b1) (k1 b1) (k2 b1) (fun b2 => E2 (x2 b1 b2)) (Δ2 b1))) (h3 : ∀ b1 b2, PE X e3 (tE W F Γ (Δ2 b1 b2) (k2 b1 b2) (k3 b1 b2) (fun b3 => E3 (x3 b1 b2 b3)) (Δ3 b1 b2))) (h4 : ∀ b1 b2 b3, PE X e4 (tE W F Γ (Δ3 b1 b2 b3) (k3 b1 b2 b3) (fun b4 => (Mf (x1 b1) (x2 b1 b2) (x3 b1 b2 b3) (x4 b1 b2 b3 b4)).bind fun r => k ((b1, b2, b3, b4), r)) (fun b4 => E4 (x4 b1 b2 b3 b4)) (Δ4 b1 b2 b3)))
     (hg : Gl X x := by rfl) (hdb : (x == ("__debug__" : Str)) = false := by decide) (st1 : starEach [e1, e2, e3, e4] X.env = (false, eval e1 X.env) :: starEach [e2, e3, e4] X.env := by rfl) (st2 : starEach [e2, e3, e4] X.env = (false, eval e2 X.env) :: starEach [e3, e4] X.env := by rfl) (st3 : starEach [e3, e4] X.env = (false, eval e3 X.env) :: starEach [e4] X.env := by rfl) (st4 : starEach [e4] X.env = (false, eval e4 X.env) :: starEach [] X.env := by rfl) (hpl : (backTo pos (starEach [e2, e3, e4] X.env)).any (·.1) = false := by rfl) :
    PE X (.Call (.Name x p) [e1, e2, e3, e4] [] pos) (tO W F Γ Δ T k (fun b => Rp b.2) fun b => Δ4 b.1.1 b.1.2.1 b.1.2.2.1 b.1.2.2.2) :=
  (pe_call G hr hg hm hk hb .nil pass0 (pa_cons h1 (pa_cons (pe_ex fun b1 => h2 b1) (pa_cons (pe_ex fun b1 => pe_ex fun b2 => h3 b1 b2) (pa_cons (pe_ex fun b1 => pe_ex fun b2 => pe_ex fun b3 => h4 b1 b2 b3) pa_nil st4) st3) st2) st1) hdb st1 hpl).wk fun σ H Q ⟨ok, g, e, q⟩ => ⟨ok, g, e, fun b1 v1 H1 kb1 f1 ok1 hv1 => ⟨b1, ok1, g, kb1, fun b2 v2 H2 kb2 f2 ok2 hv2 => ⟨b1, b2, ok2, g, kb2, fun b3 v3 H3 kb3 f3 ok3 hv3 => ⟨b1, b2, b3, ok3, g, kb3, fun b4 v4 H4 kb4 f4 ok4 hv4 => by
    obtain ⟨r, er, kr⟩ := bind_some kb4
    refine ⟨v1, v2, v3, v4, x1 b1, x2 b1 b2, x3 b1 b2 b3, x4 b1 b2 b3 b4, rfl, ((E1 _).mono ((f2.fz.trans f3.fz).trans f4.fz) hv1), ((E2 _).mono (f3.fz.trans f4.fz) hv2), ((E3 _).mono f4.fz hv3), hv4, r, er, fun v H' hk => ?_⟩
    obtain ⟨ok', st⟩ := call_o0 (W := W) ok4 hk
    exact q ((b1, b2, b3, b4), r) v H' kr ((((f1.trans f2).trans f3).trans f4).trans st) (ok'.since (((f1.trans f2).trans f3).trans f4))⟩⟩⟩⟩
def Sp_FFF_f {α1 α2 α3 ρ : Type} (E1 : α1 → Pd) (E2 : α2 → Pd) (E3 : α3 → Pd) (Mf : α1 → α2 → α3 → Option (ρ)) (Rp : ρ → Pd) : Sp := fun vs H Q _ => ∃ (v1 v2 v3 : V)  (a1 : α1) (a2 : α2) (a3 : α3), vs = [v1, v2, v3] ∧ (E1 a1).pr H v1 ∧ (E2 a2).pr H v2 ∧ (E3 a3).pr H v3 ∧ ∃ r, Mf a1 a2 a3 = some r ∧ RF ⟨H, []⟩ (fun _ => []) (Rp) r Q
theorem fn_FFF_f {P : Program} {w : World} {K : PySem.W.Frag} {mg : Str → Option Value} {base : Heap} {x qual : Str} {params : Arguments} {body : List Stmt} {scope : Scope} {dvs : List V} {kws : List (Str × V)} {f : Addr} {fd : FuncData} {N ps : List Str} {k : Nat} {α1 α2 α3 ρ : Type} {E1 : α1 → Pd} {E2 : α2 → Pd} {E3 : α3 → Pd} {Mf : α1 → α2 → α3 → Option (ρ)} {Rp : ρ → Pd}
    (FD : FunD K x qual params body scope dvs kws f fd) (S : FnScope N ps scope) (hl : 3 = ps.length)
    (hb : ∀ (cdv : Value) (A : Around) (outer : List Env) (s : Shared) (H : Hp) (E : XK) (hr : Room k (A.deeper (envOfC qual scope s.heap.objs.size f cdv)))  (a1 : α1) (a2 : α2) (a3 : α3), PSs (cxOf CX0 P w K mg base N qual scope f cdv A outer s H E).nox body
      (tS ⟨H, []⟩ (([E1 a1, E2 a2, E3 a3] : List Pd).map some ++ List.replicate (N.length - 3) none) [] (fF (RF ⟨H, []⟩ (fun _ => []) (Rp))) (Mf a1 a2 a3))) : FnOk P w K mg base CX0 (k + 1) f fd ps (Sp_FFF_f E1 E2 E3 Mf Rp) := by
  refine FD.ok S (fun vs H Q E h => ?_) (fun cdv A outer s H vs Q E hr h => ?_)
  · obtain ⟨v1, v2, v3, a1, a2, a3, rfl, _⟩ := h
    exact hl
  · obtain ⟨v1, v2, v3, a1, a2, a3, rfl, p1, p2, p3, r, hM, fin⟩ := h
    refine ⟨_, PSs.nox (hb cdv A outer s H E hr  a1 a2 a3), ok_start (Δ := []) rfl (.cons p1 (.cons p2 (.cons p3 (.nil)))) ?_ ?_ ?_, r, hM, fin⟩
    · exact fun _ h => nomatch h
    · exact List.nodup_nil
    · exact fun _ _ h => nomatch h
theorem x_FFF_f {X : Cx} {W : Bool} {F : Fm} {Γ : Gm} {Δ : Δs} {γ : Type} {x : Str} {p pos : Pos} {e1 e2 e3 : Expr} {f : Addr} {fd : FuncData} {ps : List Str} {kk : Nat} {α1 α2 α3 ρ β1 β2 β3 : Type} {E1 : α1 → Pd} {E2 : α2 → Pd} {E3 : α3 → Pd} {Mf : α1 → α2 → α3 → Option (ρ)} {Rp : ρ → Pd} {T : Option γ} {Δ1 : β1 → Δs} {x1 : β1 → α1} {k1 : β1 → Option γ} {Δ2 : β1 → β2 → Δs} {x2 : β1 → β2 → α2} {k2 : β1 → β2 → Option γ} {Δ3 : β1 → β2 → β3 → Δs} {x3 : β1 → β2 → β3 → α3} {k : (β1 × β2 × β3) × (ρ) → Option γ}
    (G : FnOk X.prog X.w X.K X.mg X.base CX0 kk f fd ps (Sp_FFF_f E1 E2 E3 Mf Rp)) (hr : Room kk X.A) (hm : X.mg x = some (.ref f)) (hk : PySem.W.keepIn X.K (.ref f) = true) (hb : Binds X.K fd ps []) (h1 : PE X e1 (tE W F Γ Δ T (k1) (fun b1 => E1 (x1 b1)) (Δ1))) (h2 : ∀ b1, PE X e2 (tE W F Γ (Δ1 b1) (k1 b1) (k2 b1) (fun b2 => E2 (x2 b1 b2)) (Δ2 b1))) (h3 : ∀ b1 b2, PE X e3 (tE W F Γ (Δ2 b1 b2) (k2 b1 b2) (fun b3 => (Mf (x1 b1) (x2 b1 b2) (x3 b1 b2 b3)).bind fun r => k ((b1, b2, b3), r)) (fun b3 => E3 (x3 b1 b2 b3)) (Δ3 b1 b2)))
     (hg : Gl X x := by rfl) (hdb : (x == ("__debug__" : Str)) = false := by decide) (st1 : starEach [e1, e2, e3] X.env = (false, eval e1 X.env) :: starEach [e2, e3] X.env := by rfl) (st2 : starEach [e2, e3] X.env = (false, eval e2 X.env) :: starEach [e3] X.env := by rfl) (st3 : starEach [e3] X.env = (false, eval e3 X.env) :: starEach [] X.env := by rfl) (hpl : (backTo pos (starEach [e2, e3] X.env)).any (·.1) = false := by rfl) :
    PE X (.Call (.Name x p) [e1, e2, e3] [] pos) (tE W F Γ Δ T k (fun b => Rp b.2) fun b => Δ3 b.1.1 b.1.2.1 b.1.2.2) :=
  (pe_call G hr hg hm hk hb .nil pass0 (pa_cons h1 (pa_cons (pe_ex fun b1 => h2 b1) (pa_cons (pe_ex fun b1 => pe_ex fun b2 => h3 b1 b2) pa_nil st3) st2) st1) hdb st1 hpl).wk fun σ H Q ⟨ok, g, e, q⟩ => ⟨ok, g, e, fun b1 v1 H1 kb1 f1 ok1 hv1 => ⟨b1, ok1, g, kb1, fun b2 v2 H2 kb2 f2 ok2 hv2 => ⟨b1, b2, ok2, g, kb2, fun b3 v3 H3 kb3 f3 ok3 hv3 => by
    obtain ⟨r, er, kr⟩ := bind_some kb3
    refine ⟨v1, v2, v3, x1 b1, x2 b1 b2, x3 b1 b2 b3, rfl, ((E1 _).mono (f2.fz.trans f3.fz) hv1), ((E2 _).mono f3.fz hv2), hv3, r, er, fun v H' hk hv => ?_⟩
    obtain ⟨ok', st⟩ := call_f0 (W := W) ok3 hk
    exact q ((b1, b2, b3), r) v H' kr (((f1.trans f2).trans f3).trans st) ok' hv⟩⟩⟩
def Sp_FF_f {α1 α2 ρ : Type} (E1 : α1 → Pd) (E2 : α2 → Pd) (Mf : α1 → α2 → Option (ρ)) (Rp : ρ → Pd) : Sp := fun vs H Q _ => ∃ (v1 v2 : V)  (a1 : α1) (a2 : α2), vs = [v1, v2] ∧ (E1 a1).pr H v1 ∧ (E2 a2).pr H v2 ∧ ∃ r, Mf a1 a2 = some r ∧ RF ⟨H, []⟩ (fun _ => []) (Rp) r Q
theorem fn_FF_f {P : Program} {w : World} {K : PySem.W.Frag} {mg : Str → Option Value} {base : Heap} {x qual : Str} {params : Arguments} {body : List Stmt} {scope : Scope} {dvs : List V} {kws : List (Str × V)} {f : Addr} {fd : FuncData} {N ps : List Str} {k : Nat} {α1 α2 ρ : Type} {E1 : α1 → Pd} {E2 : α2 → Pd} {Mf : α1 → α2 → Option (ρ)} {Rp : ρ → Pd}
    (FD : FunD K x qual params body scope dvs kws f fd) (S : FnScope N ps scope) (hl : 2 = ps.length)
    (hb : ∀ (cdv : Value) (A : Around) (outer : List Env) (s : Shared) (H : Hp) (E : XK) (hr : Room k (A.deeper (envOfC qual scope s.heap.objs.size f cdv)))  (a1 : α1) (a2 : α2), PSs (cxOf CX0 P w K mg base N qual scope f cdv A outer s H E).nox body
      (tS ⟨H, []⟩ (([E1 a1, E2 a2] : List Pd).map some ++ List.replicate (N.length - 2) none) [] (fF (RF ⟨H, []⟩ (fun _ => []) (Rp))) (Mf a1 a2))) : FnOk P w K mg base CX0 (k + 1) f fd ps (Sp_FF_f E1 E2 Mf Rp) := by
  refine FD.ok S (fun vs H Q E h => ?_) (fun cdv A outer s H vs Q E hr h => ?_)
  · obtain ⟨v1, v2, a1, a2, rfl, _⟩ := h
    exact hl
  · obtain ⟨v1, v2, a1, a2, rfl, p1, p2, r, hM, fin⟩ := h
    refine ⟨_, PSs.nox (hb cdv A outer s H E hr  a1 a2), ok_start (Δ := []) rfl (.cons p1 (.cons p2 (.nil))) ?_ ?_ ?_, r, hM, fin⟩
    · exact fun _ h => nomatch h
    · exact List.nodup_nil
    · exact fun _ _ h => nomatch h
theorem x_FF_f {X : Cx} {W : Bool} {F : Fm} {Γ : Gm} {Δ : Δs} {γ : Type} {x : Str} {p pos : Pos} {e1 e2 : Expr} {f : Addr} {fd : FuncData} {ps : List Str} {kk : Nat} {α1 α2 ρ β1 β2 : Type} {E1 : α1 → Pd} {E2 : α2 → Pd} {Mf : α1 → α2 → Option (ρ)} {Rp : ρ → Pd} {T : Option γ} {Δ1 : β1 → Δs} {x1 : β1 → α1} {k1 : β1 → Option γ} {Δ2 : β1 → β2 → Δs} {x2 : β1 → β2 → α2} {k : (β1 × β2) × (ρ) → Option γ}
    (G : FnOk X.prog X.w X.K X.mg X.base CX0 kk f fd ps (Sp_FF_f E1 E2 Mf Rp)) (hr : Room kk X.A) (hm : X.mg x = some (.ref f)) (hk : PySem.W.keepIn X.K (.ref f) = true) (hb : Binds X.K fd ps []) (h1 : PE X e1 (tE W F Γ Δ T (k1) (fun b1 => E1 (x1 b1)) (Δ1))) (h2 : ∀ b1, PE X e2 (tE W F Γ (Δ1 b1) (k1 b1) (fun b2 => (Mf (x1 b1) (x2 b1 b2)).bind fun r => k ((b1, b2), r)) (fun b2 => E2 (x2 b1 b2)) (Δ2 b1)))
     (hg : Gl X x := by rfl) (hdb : (x == ("__debug__" : Str)) = false := by decide) (st1 : starEach [e1, e2] X.env = (false, eval e1 X.env) :: starEach [e2] X.env := by rfl) (st2 : starEach [e2] X.env = (false, eval e2 X.env) :: starEach [] X.env := by rfl) (hpl : (backTo pos (starEach [e2] X.env)).any (·.1) = false := by rfl) :
    PE X (.Call (.Name x p) [e1, e2] [] pos) (tE W F Γ Δ T k (fun b => Rp b.2) fun b => Δ2 b.1.1 b.1.2) :=
  (pe_call G hr hg hm hk hb .nil pass0 (pa_cons h1 (pa_cons (pe_ex fun b1 => h2 b1) pa_nil st2) st1) hdb st1 hpl).wk fun σ H Q ⟨ok, g, e, q⟩ => ⟨ok, g, e, fun b1 v1 H1 kb1 f1 ok1 hv1 => ⟨b1, ok1, g, kb1, fun b2 v2 H2 kb2 f2 ok2 hv2 => by
    obtain ⟨r, er, kr⟩ := bind_some kb2
    refine ⟨v1, v2, x1 b1, x2 b1 b2, rfl, ((E1 _).mono f2.fz hv1), hv2, r, er, fun v H' hk hv => ?_⟩
    obtain ⟨ok', st⟩ := call_f0 (W := W) ok2 hk
    exact q ((b1, b2), r) v H' kr ((f1.trans f2).trans st) ok' hv⟩⟩
def Sp_FF_o {α1 α2 ρ : Type} (E1 : α1 → Pd) (E2 : α2 → Pd) (Mf : α1 → α2 → Option (ρ)) (Rp : ρ → Od) : Sp := fun vs H Q _ => ∃ (v1 v2 : V)  (a1 : α1) (a2 : α2), vs = [v1, v2] ∧ (E1 a1).pr H v1 ∧ (E2 a2).pr H v2 ∧ ∃ r, Mf a1 a2 = some r ∧ RO ⟨H, []⟩ (fun _ => []) (Rp) r Q
theorem fn_FF_o {P : Program} {w : World} {K : PySem.W.Frag} {mg : Str → Option Value} {base : Heap} {x qual : Str} {params : Arguments} {body : List Stmt} {scope : Scope} {dvs : List V} {kws : List (Str × V)} {f : Addr} {fd : FuncData} {N ps : List Str} {k : Nat} {α1 α2 ρ : Type} {E1 : α1 → Pd} {E2 : α2 → Pd} {Mf : α1 → α2 → Option (ρ)} {Rp : ρ → Od}
    (FD : FunD K x qual params body scope dvs kws f fd) (S : FnScope N ps scope) (hl : 2 = ps.length)
    (hb : ∀ (cdv : Value) (A : Around) (outer : List Env) (s : Shared) (H : Hp) (E : XK) (hr : Room k (A.deeper (envOfC qual scope s.heap.objs.size f cdv)))  (a1 : α1) (a2 : α2), PSs (cxOf CX0 P w K mg base N qual scope f cdv A outer s H E).nox body
      (tS ⟨H, []⟩ (([E1 a1, E2 a2] : List Pd).map some ++ List.replicate (N.length - 2) none) [] (fF (RO ⟨H, []⟩ (fun _ => []) (Rp))) (Mf a1 a2))) : FnOk P w K mg base CX0 (k + 1) f fd ps (Sp_FF_o E1 E2 Mf Rp) := by
  refine FD.ok S (fun vs H Q E h => ?_) (fun cdv A outer s H vs Q E hr h => ?_)
  · obtain ⟨v1, v2, a1, a2, rfl, _⟩ := h
    exact hl
  · obtain ⟨v1, v2, a1, a2, rfl, p1, p2, r, hM, fin⟩ := h
    refine ⟨_, PSs.nox (hb cdv A outer s H E hr  a1 a2), ok_start (Δ := []) rfl (.cons p1 (.cons p2 (.nil))) ?_ ?_ ?_, r, hM, fin⟩
    · exact fun _ h => nomatch h
    · exact List.nodup_nil
    · exact fun _ _ h => nomatch h
theorem x_FF_o {X : Cx} {W : Bool} {F : Fm} {Γ : Gm} {Δ : Δs} {γ : Type} {x : Str} {p pos : Pos} {e1 e2 : Expr} {f : Addr} {fd : FuncData} {ps : List Str} {kk : Nat} {α1 α2 ρ β1 β2 : Type} {E1 : α1 → Pd} {E2 : α2 → Pd} {Mf : α1 → α2 → Option (ρ)} {Rp : ρ → Od} {T : Option γ} {Δ1 : β1 → Δs} {x1 : β1 → α1} {k1 : β1 → Option γ} {Δ2 : β1 → β2 → Δs} {x2 : β1 → β2 → α2} {k : (β1 × β2) × (ρ) → Option γ}
    (G : FnOk X.prog X.w X.K X.mg X.base CX0 kk f fd ps (Sp_FF_o E1 E2 Mf Rp)) (hr : Room kk X.A) (hm : X.mg x = some (.ref f)) (hk : PySem.W.keepIn X.K (.ref f) = true) (hb : Binds X.K fd ps []) (h1 : PE X e1 (tE W F Γ Δ T (k1) (fun b1 => E1 (x1 b1)) (Δ1))) (h2 : ∀ b1, PE X e2 (tE W F Γ (Δ1 b1) (k1 b1) (fun b2 => (Mf (x1 b1) (x2 b1 b2)).bind fun r => k ((b1, b2), r)) (fun b2 => E2 (x2 b1 b2)) (Δ2 b1)))
     (hg : Gl X x := by rfl) (hdb : (x == ("__debug__" : Str)) = false := by decide) (st1 : starEach [e1, e2] X.env = (false, eval e1 X.env) :: starEach [e2] X.env := by rfl) (st2 : starEach [e2] X.env = (false, eval e2 X.env) :: starEach [] X.env := by rfl) (hpl : (backTo pos (starEach [e2] X.env)).any (·.1) = false := by rfl) :
    PE X (.Call (.Name x p) [e1, e2] [] pos) (tO W F Γ Δ T k (fun b => Rp b.2) fun b => Δ2 b.1.1 b.1.2) :=
  (pe_call G hr hg hm hk hb .nil pass0 (pa_cons h1 (pa_cons (pe_ex fun b1 => h2 b1) pa_nil st2) st1) hdb st1 hpl).wk fun σ H Q ⟨ok, g, e, q⟩ => ⟨ok, g, e, fun b1 v1 H1 kb1 f1 ok1 hv1 => ⟨b1, ok1, g, kb1, fun b2 v2 H2 kb2 f2 ok2 hv2 => by
    obtain ⟨r, er, kr⟩ := bind_some kb2
    refine ⟨v1, v2, x1 b1, x2 b1 b2, rfl, ((E1 _).mono f2.fz hv1), hv2, r, er, fun v H' hk => ?_⟩
    obtain ⟨ok', st⟩ := call_o0 (W := W) ok2 hk
    exact q ((b1, b2), r) v H' kr ((f1.trans f2).trans st) (ok'.since (f1.trans f2))⟩⟩
def Sp_F_f {α1 ρ : Type} (E1 : α1 → Pd) (Mf : α1 → Option (ρ)) (Rp : ρ → Pd) : Sp := fun vs H Q _ => ∃ (v1 : V)  (a1 : α1), vs = [v1] ∧ (E1 a1).pr H v1 ∧ ∃ r, Mf a1 = some r ∧ RF ⟨H, []⟩ (fun _ => []) (Rp) r Q
theorem fn_F_f {P : Program} {w : World} {K : PySem.W.Frag} {mg : Str → Option Value} {base : Heap} {x qual : Str} {params : Arguments} {body : List Stmt} {scope : Scope} {dvs : List V} {kws : List (Str × V)} {f : Addr} {fd : FuncData} {N ps : List Str} {k : Nat} {α1 ρ : Type} {E1 : α1 → Pd} {Mf : α1 → Option (ρ)} {Rp : ρ → Pd}
    (FD : FunD K x qual params body scope dvs kws f fd) (S : FnScope N ps scope) (hl : 1 = ps.length)
    (hb : ∀ (cdv : Value) (A : Around) (outer : List Env) (s : Shared) (H : Hp) (E : XK) (hr : Room k (A.deeper (envOfC qual scope s.heap.objs.size f cdv)))  (a1 : α1), PSs (cxOf CX0 P w K mg base N qual scope f cdv A outer s H E).nox body
      (tS ⟨H, []⟩ (([E1 a1] : List Pd).map some ++ List.replicate (N.length - 1) none) [] (fF (RF ⟨H, []⟩ (fun _ => []) (Rp))) (Mf a1))) : FnOk P w K mg base CX0 (k + 1) f fd ps (Sp_F_f E1 Mf Rp) := by
  refine FD.ok S (fun vs H Q E h => ?_) (fun cdv A outer s H vs Q E hr h => ?_)
  · obtain ⟨v1, a1, rfl, _⟩ := h
    exact hl
  · obtain ⟨v1, a1, rfl, p1, r, hM, fin⟩ := h
    refine ⟨_, PSs.nox (hb cdv A outer s H E hr  a1), ok_start (Δ := []) rfl (.cons p1 (.nil)) ?_ ?_ ?_, r, hM, fin⟩
    · exact fun _ h => nomatch h
    · exact List.nodup_nil
    · exact fun _ _ h => nomatch h
theorem x_F_f {X : Cx} {W : Bool} {F : Fm} {Γ : Gm} {Δ : Δs} {γ : Type} {x : Str} {p pos : Pos} {e1 : Expr} {f : Addr} {fd : FuncData} {ps : List Str} {kk : Nat} {α1 ρ β1 : Type} {E1 : α1 → Pd} {Mf : α1 → Option (ρ)} {Rp : ρ → Pd} {T : Option γ} {Δ1 : β1 → Δs} {x1 : β1 → α1} {k : (β1) × (ρ) → Option γ}
    (G : FnOk X.prog X.w X.K X.mg X.base CX0 kk f fd ps (Sp_F_f E1 Mf Rp)) (hr : Room kk X.A) (hm : X.mg x = some (.ref f)) (hk : PySem.W.keepIn X.K (.ref f) = true) (hb : Binds X.K fd ps []) (h1 : PE X e1 (tE W F Γ Δ T (fun b1 => (Mf (x1 b1)).bind fun r => k (b1, r)) (fun b1 => E1 (x1 b1)) (Δ1)))
     (hg : Gl X x := by rfl) (hdb : (x == ("__debug__" : Str)) = false := by decide) (st1 : starEach [e1] X.env = (false, eval e1 X.env) :: starEach [] X.env := by rfl) (hpl : (backTo pos (starEach [] X.env)).any (·.1) = false := by rfl) :
    PE X (.Call (.Name x p) [e1] [] pos) (tE W F Γ Δ T k (fun b => Rp b.2) fun b => Δ1 b.1) :=
  (pe_call G hr hg hm hk hb .nil pass0 (pa_cons h1 pa_nil st1) hdb st1 hpl).wk fun σ H Q ⟨ok, g, e, q⟩ => ⟨ok, g, e, fun b1 v1 H1 kb1 f1 ok1 hv1 => by
    obtain ⟨r, er, kr⟩ := bind_some kb1
    refine ⟨v1, x1 b1, rfl, hv1, r, er, fun v H' hk hv => ?_⟩
    obtain ⟨ok', st⟩ := call_f0 (W := W) ok1 hk
    exact q (b1, r) v H' kr (f1.trans st) ok' hv⟩
def Sp_F_o {α1 ρ : Type} (E1 : α1 → Pd) (Mf : α1 → Option (ρ)) (Rp : ρ → Od) : Sp := fun vs H Q _ => ∃ (v1 : V)  (a1 : α1), vs = [v1] ∧ (E1 a1).pr H v1 ∧ ∃ r, Mf a1 = some r ∧ RO ⟨H, []⟩ (fun _ => []) (Rp) r Q
theorem fn_F_o {P : Program} {w : World} {K : PySem.W.Frag} {mg : Str → Option Value} {base : Heap} {x qual : Str} {params : Arguments} {body : List Stmt} {scope : Scope} {dvs : List V} {kws : List (Str × V)} {f : Addr} {fd : FuncData} {N ps : List Str} {k : Nat} {α1 ρ : Type} {E1 : α1 → Pd} {Mf : α1 → Option (ρ)} {Rp : ρ → Od}
    (FD : FunD K x qual params body scope dvs kws f fd) (S : FnScope N ps scope) (hl : 1 = ps.length)
    (hb : ∀ (cdv : Value) (A : Around) (outer : List Env) (s : Shared) (H : Hp) (E : XK) (hr : Room k (A.deeper (envOfC qual scope s.heap.objs.size f cdv)))  (a1 : α1), PSs (cxOf CX0 P w K mg base N qual scope f cdv A outer s H E).nox body
      (tS ⟨H, []⟩ (([E1 a1] : List Pd).map some ++ List.replicate (N.length - 1) none) [] (fF (RO ⟨H, []⟩ (fun _ => []) (Rp))) (Mf a1))) : FnOk P w K mg base CX0 (k + 1) f fd ps (Sp_F_o E1 Mf Rp) := by
  refine FD.ok S (fun vs H Q E h => ?_) (fun cdv A outer s H vs Q E hr h => ?_)
  · obtain ⟨v1, a1, rfl, _⟩ := h
    exact hl
  · obtain ⟨v1, a1, rfl, p1, r, hM, fin⟩ := h
    refine ⟨_, PSs.nox (hb cdv A outer s H E hr  a1), ok_start (Δ := []) rfl (.cons p1 (.nil)) ?_ ?_ ?_, r, hM, fin⟩
    · exact fun _ h => nomatch h
    · exact List.nodup_nil
    · exact fun _ _ h => nomatch h
theorem x_F_o {X : Cx} {W : Bool} {F : Fm} {Γ : Gm} {Δ : Δs} {γ : Type} {x : Str} {p pos : Pos} {e1 : Expr} {f : Addr} {fd : FuncData} {ps : List Str} {kk : Nat} {α1 ρ β1 : Type} {E1 : α1 → Pd} {Mf : α1 → Option (ρ)} {Rp : ρ → Od} {T : Option γ} {Δ1 : β1 → Δs} {x1 : β1 → α1} {k : (β1) × (ρ) → Option γ}
    (G : FnOk X.prog X.w X.K X.mg X.base CX0 kk f fd ps (Sp_F_o E1 Mf Rp)) (hr : Room kk X.A) (hm : X.mg x = some (.ref f)) (hk : PySem.W.keepIn X.K (.ref f) = true) (hb : Binds X.K fd ps []) (h1 : PE X e1 (tE W F Γ Δ T (fun b1 => (Mf (x1 b1)).bind fun r => k (b1, r)) (fun b1 => E1 (x1 b1)) (Δ1)))
     (hg : Gl X x := by rfl) (hdb : (x == ("__debug__" : Str)) = false := by decide) (st1 : starEach [e1] X.env = (false, eval e1 X.env) :: starEach [] X.env := by rfl) (hpl : (backTo pos (starEach [] X.env)).any (·.1) = false := by rfl) :
    PE X (.Call (.Name x p) [e1] [] pos) (tO W F Γ Δ T k (fun b => Rp b.2) fun b => Δ1 b.1) :=
  (pe_call G hr hg hm hk hb .nil pass0 (pa_cons h1 pa_nil st1) hdb st1 hpl).wk fun σ H Q ⟨ok, g, e, q⟩ => ⟨ok, g, e, fun b1 v1 H1 kb1 f1 ok1 hv1 => by
    obtain ⟨r, er, kr⟩ := bind_some kb1
    refine ⟨v1, x1 b1, rfl, hv1, r, er, fun v H' hk => ?_⟩
    obtain ⟨ok', st⟩ := call_o0 (W := W) ok1 hk
    exact q (b1, r) v H' kr (f1.trans st) (ok'.since f1)⟩
def Sp_OFF_f {α1 α2 α3 ρ : Type} (E1 : α1 → Od) (E2 : α2 → Pd) (E3 : α3 → Pd) (Mf : α1 → α2 → α3 → Option (ρ × α1)) (Rp : ρ → Pd) : Sp := fun vs H Q _ => ∃ (v1 v2 v3 : V) (G1 : List Addr) (a1 : α1) (a2 : α2) (a3 : α3), vs = [v1, v2, v3] ∧ (E1 a1).pr G1 H v1 ∧ G1.Nodup ∧ (E2 a2).pr H v2 ∧ (E3 a3).pr H v3 ∧ ∃ r, Mf a1 a2 a3 = some r ∧ RF ⟨H, [G1]⟩ (fun r => [⟨v1, E1 r.2, some 0⟩]) (fun r => Rp r.1) r Q
theorem fn_OFF_f {P : Program} {w : World} {K : PySem.W.Frag} {mg : Str → Option Value} {base : Heap} {x qual : Str} {params : Arguments} {body : List Stmt} {scope : Scope} {dvs : List V} {kws : List (Str × V)} {f : Addr} {fd : FuncData} {N ps : List Str} {k : Nat} {α1 α2 α3 ρ : Type} {E1 : α1 → Od} {E2 : α2 → Pd} {E3 : α3 → Pd} {Mf : α1 → α2 → α3 → Option (ρ × α1)} {Rp : ρ → Pd}
    (FD : FunD K x qual params body scope dvs kws f fd) (S : FnScope N ps scope) (hl : 3 = ps.length)
    (hb : ∀ (cdv : Value) (A : Around) (outer : List Env) (s : Shared) (H : Hp) (E : XK) (hr : Room k (A.deeper (envOfC qual scope s.heap.objs.size f cdv))) (v1 : V) (G1 : List Addr) (a1 : α1) (a2 : α2) (a3 : α3), PSs (cxOf CX0 P w K mg base N qual scope f cdv A outer s H E).nox body
      (tS ⟨H, [G1]⟩ (([pV v1, E2 a2, E3 a3] : List Pd).map some ++ List.replicate (N.length - 3) none) [⟨v1, E1 a1, some 0⟩] (fF (RF ⟨H, [G1]⟩ (fun r => [⟨v1, E1 r.2, some 0⟩]) (fun r => Rp r.1))) (Mf a1 a2 a3))) : FnOk P w K mg base CX0 (k + 1) f fd ps (Sp_OFF_f E1 E2 E3 Mf Rp) := by
  refine FD.ok S (fun vs H Q E h => ?_) (fun cdv A outer s H vs Q E hr h => ?_)
  · obtain ⟨v1, v2, v3, G1, a1, a2, a3, rfl, _⟩ := h
    exact hl
  · obtain ⟨v1, v2, v3, G1, a1, a2, a3, rfl, p1, n1, p2, p3, r, hM, fin⟩ := h
    refine ⟨_, PSs.nox (hb cdv A outer s H E hr v1 G1 a1 a2 a3), ok_start (Δ := [⟨G1, v1, E1 a1, some 0⟩]) rfl (.cons rfl (.cons p2 (.cons p3 (.nil)))) ?_ ?_ ?_, r, hM, fin⟩
    · intro c hc; rw [List.mem_singleton.mp hc]; exact p1
    · rw [cellsOf_cons]; show (_ ++ []).Nodup; rw [List.append_nil]; exact n1
    · intro i c h; match i, h with | 0, h => cases h; rfl | _ + 1, h => cases h
theorem x_OFF_f {X : Cx} {F : Fm} {Γ : Gm} {Δ : Δs} {γ : Type} {x : Str} {p pos : Pos} {e1 e2 e3 : Expr} {f : Addr} {fd : FuncData} {ps : List Str} {kk : Nat} {α1 α2 α3 ρ β1 β2 β3 : Type} {E1 : α1 → Od} {E2 : α2 → Pd} {E3 : α3 → Pd} {Mf : α1 → α2 → α3 → Option (ρ × α1)} {Rp : ρ → Pd} {T : Option γ} {Δ1 : β1 → Δs} {k1 : β1 → Option γ} {Δ2 : β1 → β2 → Δs} {x2 : β1 → β2 → α2} {k2 : β1 → β2 → Option γ} {Δ3 : β1 → β2 → β3 → Δs} {x3 : β1 → β2 → β3 → α3} {v1 : V} {prm : Option Nat} {s1 : β1 → β2 → β3 → α1} {k : (β1 × β2 × β3) × (ρ × α1) → Option γ}
    (G : FnOk X.prog X.w X.K X.mg X.base CX0 kk f fd ps (Sp_OFF_f E1 E2 E3 Mf Rp)) (hr : Room kk X.A) (hm : X.mg x = some (.ref f)) (hk : PySem.W.keepIn X.K (.ref f) = true) (hb : Binds X.K fd ps []) (j : Nat) (h1 : PE X e1 (tE true F Γ Δ T (k1) (fun b1 => pV v1) (Δ1))) (h2 : ∀ b1, PE X e2 (tE true F Γ (Δ1 b1) (k1 b1) (k2 b1) (fun b2 => E2 (x2 b1 b2)) (Δ2 b1))) (h3 : ∀ b1 b2, PE X e3 (tE true F Γ (Δ2 b1 b2) (k2 b1 b2) (fun b3 => (Mf (s1 b1 b2 b3) (x2 b1 b2) (x3 b1 b2 b3)).bind fun r => k ((b1, b2, b3), r)) (fun b3 => E3 (x3 b1 b2 b3)) (Δ3 b1 b2)))
    (hj : ∀ b1 b2 b3, (Δ3 b1 b2 b3)[j]? = some ⟨v1, E1 (s1 b1 b2 b3), prm⟩) (hg : Gl X x := by rfl) (hdb : (x == ("__debug__" : Str)) = false := by decide) (st1 : starEach [e1, e2, e3] X.env = (false, eval e1 X.env) :: starEach [e2, e3] X.env := by rfl) (st2 : starEach [e2, e3] X.env = (false, eval e2 X.env) :: starEach [e3] X.env := by rfl) (st3 : starEach [e3] X.env = (false, eval e3 X.env) :: starEach [] X.env := by rfl) (hpl : (backTo pos (starEach [e2, e3] X.env)).any (·.1) = false := by rfl) :
    PE X (.Call (.Name x p) [e1, e2, e3] [] pos) (tE true F Γ Δ T k (fun b => Rp b.2.1) fun b => (Δ3 b.1.1 b.1.2.1 b.1.2.2).set j ⟨v1, E1 b.2.2, prm⟩) :=
  (pe_call G hr hg hm hk hb .nil pass0 (pa_cons h1 (pa_cons (pe_ex fun b1 => h2 b1) (pa_cons (pe_ex fun b1 => pe_ex fun b2 => h3 b1 b2) pa_nil st3) st2) st1) hdb st1 hpl).wk fun σ H Q ⟨ok, g, e, q⟩ => ⟨ok, g, e, fun b1 v1 H1 kb1 f1 ok1 hv1 => ⟨b1, ok1, g, kb1, fun b2 v2 H2 kb2 f2 ok2 hv2 => ⟨b1, b2, ok2, g, kb2, fun b3 v3 H3 kb3 f3 ok3 hv3 => by
    obtain ⟨r, er, kr⟩ := bind_some kb3
    have hv1 : v1 = _ := hv1
    subst hv1
    obtain ⟨G0, hcell, hnd, ret_f, ret_o⟩ := ok3.lend1 (hj b1 b2 b3)
    refine ⟨_, v2, v3, G0, s1 b1 b2 b3, x2 b1 b2, x3 b1 b2 b3, rfl, hcell, hnd, ((E2 _).mono f3.fz hv2), hv3, r, er, fun v H' hk hv => ?_⟩
    obtain ⟨ok', st⟩ := ret_f _ _ hk
    exact q ((b1, b2, b3), r) v H' kr (((f1.trans f2).trans f3).trans st) ok' hv⟩⟩⟩
def Sp_OFF_o {α1 α2 α3 ρ : Type} (E1 : α1 → Od) (E2 : α2 → Pd) (E3 : α3 → Pd) (Mf : α1 → α2 → α3 → Option (ρ × α1)) (Rp : ρ → Od) : Sp := fun vs H Q _ => ∃ (v1 v2 v3 : V) (G1 : List Addr) (a1 : α1) (a2 : α2) (a3 : α3), vs = [v1, v2, v3] ∧ (E1 a1).pr G1 H v1 ∧ G1.Nodup ∧ (E2 a2).pr H v2 ∧ (E3 a3).pr H v3 ∧ ∃ r, Mf a1 a2 a3 = some r ∧ RO ⟨H, [G1]⟩ (fun r => [⟨v1, E1 r.2, some 0⟩]) (fun r => Rp r.1) r Q
theorem fn_OFF_o {P : Program} {w : World} {K : PySem.W.Frag} {mg : Str → Option Value} {base : Heap} {x qual : Str} {params : Arguments} {body : List Stmt} {scope : Scope} {dvs : List V} {kws : List (Str × V)} {f : Addr} {fd : FuncData} {N ps : List Str} {k : Nat} {α1 α2 α3 ρ : Type} {E1 : α1 → Od} {E2 : α2 → Pd} {E3 : α3 → Pd} {Mf : α1 → α2 → α3 → Option (ρ × α1)} {Rp : ρ → Od}
    (FD : FunD K x qual params body scope dvs kws f fd) (S : FnScope N ps scope) (hl : 3 = ps.length)
    (hb : ∀ (cdv : Value) (A : Around) (outer : List Env) (s : Shared) (H : Hp) (E : XK) (hr : Room k (A.deeper (envOfC qual scope s.heap.objs.size f cdv))) (v1 : V) (G1 : List Addr) (a1 : α1) (a2 : α2) (a3 : α3), PSs (cxOf CX0 P w K mg base N qual scope f cdv A outer s H E).nox body
      (tS ⟨H, [G1]⟩ (([pV v1, E2 a2, E3 a3] : List Pd).map some ++ List.replicate (N.length - 3) none) [⟨v1, E1 a1, some 0⟩] (fF (RO ⟨H, [G1]⟩ (fun r => [⟨v1, E1 r.2, some 0⟩]) (fun r => Rp r.1))) (Mf a1 a2 a3))) : FnOk P w K mg base CX0 (k + 1) f fd ps (Sp_OFF_o E1 E2 E3 Mf Rp) := by
  refine FD.ok S (fun vs H Q E h => ?_) (fun cdv A outer s H vs Q E hr h => ?_)
  · obtain ⟨v1, v2, v3, G1, a1, a2, a3, rfl, _⟩ := h
    exact hl
  · obtain ⟨v1, v2, v3, G1, a1, a2, a3, rfl, p1, n1, p2, p3, r, hM, fin⟩ := h
    refine ⟨_, PSs.nox (hb cdv A outer s H E hr v1 G1 a1 a2 a3), ok_start (Δ := [⟨G1, v1, E1 a1, some 0⟩]) rfl (.cons rfl (.cons p2 (.cons p3 (.nil)))) ?_ ?_ ?_, r, hM, fin⟩
    · intro c hc; rw [List.mem_singleton.mp hc]; exact p1
    · rw [cellsOf_cons]; show (_ ++ []).Nodup; rw [List.append_nil]; exact n1
    · intro i c h; match i, h with | 0, h => cases h; rfl | _ + 1, h => cases h
theorem x_OFF_o {X : Cx} {F : Fm} {Γ : Gm} {Δ : Δs} {γ : Type} {x : Str} {p pos : Pos} {e1 e2 e3 : Expr} {f : Addr} {fd : FuncData} {ps : List Str} {kk : Nat} {α1 α2 α3 ρ β1 β2 β3 : Type} {E1 : α1 → Od} {E2 : α2 → Pd} {E3 : α3 → Pd} {Mf : α1 → α2 → α3 → Option (ρ × α1)} {Rp : ρ → Od} {T : Option γ} {Δ1 : β1 → Δs} {k1 : β1 → Option γ} {Δ2 : β1 → β2 → Δs} {x2 : β1 → β2 → α2} {k2 : β1 → β2 → Option γ} {Δ3 : β1 → β2 → β3 → Δs} {x3 : β1 → β2 → β3 → α3} {v1 : V} {prm : Option Nat} {s1 : β1 → β2 → β3 → α1} {k : (β1 × β2 × β3) × (ρ × α1) → Option γ}
    (G : FnOk X.prog X.w X.K X.mg X.base CX0 kk f fd ps (Sp_OFF_o E1 E2 E3 Mf Rp)) (hr : Room kk X.A) (hm : X.mg x = some (.ref f)) (hk : PySem.W.keepIn X.K (.ref f) = true) (hb : Binds X.K fd ps []) (j : Nat) (h1 : PE X e1 (tE true F Γ Δ T (k1) (fun b1 => pV v1) (Δ1))) (h2 : ∀ b1, PE X e2 (tE true F Γ (Δ1 b1) (k1 b1) (k2 b1) (fun b2 => E2 (x2 b1 b2)) (Δ2 b1))) (h3 : ∀ b1 b2, PE X e3 (tE true F Γ (Δ2 b1 b2) (k2 b1 b2) (fun b3 => (Mf (s1 b1 b2 b3) (x2 b1 b2) (x3 b1 b2 b3)).bind fun r => k ((b1, b2, b3), r)) (fun b3 => E3 (x3 b1 b2 b3)) (Δ3 b1 b2)))
    (hj : ∀ b1 b2 b3, (Δ3 b1 b2 b3)[j]? = some ⟨v1, E1 (s1 b1 b2 b3), prm⟩) (hg : Gl X x := by rfl) (hdb : (x == ("__debug__" : Str)) = false := by decide) (st1 : starEach [e1, e2, e3] X.env = (false, eval e1 X.env) :: starEach [e2, e3] X.env := by rfl) (st2 : starEach [e2, e3] X.env = (false, eval e2 X.env) :: starEach [e3] X.env := by rfl) (st3 : starEach [e3] X.env = (false, eval e3 X.env) :: starEach [] X.env := by rfl) (hpl : (backTo pos (starEach [e2, e3] X.env)).any (·.1) = false := by rfl) :
    PE X (.Call (.Name x p) [e1, e2, e3] [] pos) (tO true F Γ Δ T k (fun b => Rp b.2.1) fun b => (Δ3 b.1.1 b.1.2.1 b.1.2.2).set j ⟨v1, E1 b.2.2, prm⟩) :=
  (pe_call G hr hg hm hk hb .nil pass0 (pa_cons h1 (pa_cons (pe_ex fun b1 => h2 b1) (pa_cons (pe_ex fun b1 => pe_ex fun b2 => h3 b1 b2) pa_nil st3) st2) st1) hdb st1 hpl).wk fun σ H Q ⟨ok, g, e, q⟩ => ⟨ok, g, e, fun b1 v1 H1 kb1 f1 ok1 hv1 => ⟨b1, ok1, g, kb1, fun b2 v2 H2 kb2 f2 ok2 hv2 => ⟨b1, b2, ok2, g, kb2, fun b3 v3 H3 kb3 f3 ok3 hv3 => by
    obtain ⟨r, er, kr⟩ := bind_some kb3
    have hv1 : v1 = _ := hv1
    subst hv1
    obtain ⟨G0, hcell, hnd, ret_f, ret_o⟩ := ok3.lend1 (hj b1 b2 b3)
    refine ⟨_, v2, v3, G0, s1 b1 b2 b3, x2 b1 b2, x3 b1 b2 b3, rfl, hcell, hnd, ((E2 _).mono f3.fz hv2), hv3, r, er, fun v H' hk => ?_⟩
    obtain ⟨ok', st⟩ := ret_o _ _ _ _ hk
    exact q ((b1, b2, b3), r) v H' kr (((f1.trans f2).trans f3).trans st) (ok'.since ((f1.trans f2).trans f3))⟩⟩⟩
def Sp_OF_f {α1 α2 ρ : Type} (E1 : α1 → Od) (E2 : α2 → Pd) (Mf : α1 → α2 → Option (ρ × α1)) (Rp : ρ → Pd) : Sp := fun vs H Q _ => ∃ (v1 v2 : V) (G1 : List Addr) (a1 : α1) (a2 : α2), vs = [v1, v2] ∧ (E1 a1).pr G1 H v1 ∧ G1.Nodup ∧ (E2 a2).pr H v2 ∧ ∃ r, Mf a1 a2 = some r ∧ RF ⟨H, [G1]⟩ (fun r => [⟨v1, E1 r.2, some 0⟩]) (fun r => Rp r.1) r Q
theorem fn_OF_f {P : Program} {w : World} {K : PySem.W.Frag} {mg : Str → Option Value} {base : Heap} {x qual : Str} {params : Arguments} {body : List Stmt} {scope : Scope} {dvs : List V} {kws : List (Str × V)} {f : Addr} {fd : FuncData} {N ps : List Str} {k : Nat} {α1 α2 ρ : Type} {E1 : α1 → Od} {E2 : α2 → Pd} {Mf : α1 → α2 → Option (ρ × α1)} {Rp : ρ → Pd}
    (FD : FunD K x qual params body scope dvs kws f fd) (S : FnScope N ps scope) (hl : 2 = ps.length)
    (hb : ∀ (cdv : Value) (A : Around) (outer : List Env) (s : Shared) (H : Hp) (E : XK) (hr : Room k (A.deeper (envOfC qual scope s.heap.objs.size f cdv))) (v1 : V) (G1 : List Addr) (a1 : α1) (a2 : α2), PSs (cxOf CX0 P w K mg base N qual scope f cdv A outer s H E).nox body
      (tS ⟨H, [G1]⟩ (([pV v1, E2 a2] : List Pd).map some ++ List.replicate (N.length - 2) none) [⟨v1, E1 a1, some 0⟩] (fF (RF ⟨H, [G1]⟩ (fun r => [⟨v1, E1 r.2, some 0⟩]) (fun r => Rp r.1))) (Mf a1 a2))) : FnOk P w K mg base CX0 (k + 1) f fd ps (Sp_OF_f E1 E2 Mf Rp) := by
  refine FD.ok S (fun vs H Q E h => ?_) (fun cdv A outer s H vs Q E hr h => ?_)
  · obtain ⟨v1, v2, G1, a1, a2, rfl, _⟩ := h
    exact hl
  · obtain ⟨v1, v2, G1, a1, a2, rfl, p1, n1, p2, r, hM, fin⟩ := h
    refine ⟨_, PSs.nox (hb cdv A outer s H E hr v1 G1 a1 a2), ok_start (Δ := [⟨G1, v1, E1 a1, some 0⟩]) rfl (.cons rfl (.cons p2 (.nil))) ?_ ?_ ?_, r, hM, fin⟩
    · intro c hc; rw [List.mem_singleton.mp hc]; exact p1
    · rw [cellsOf_cons]; show (_ ++ []).Nodup; rw [List.append_nil]; exact n1
    · intro i c h; match i, h with | 0, h => cases h; rfl | _ + 1, h => cases h
theorem x_OF_f {X : Cx} {F : Fm} {Γ : Gm} {Δ : Δs} {γ : Type} {x : Str} {p pos : Pos} {e1 e2 : Expr} {f : Addr} {fd : FuncData} {ps : List Str} {kk : Nat} {α1 α2 ρ β1 β2 : Type} {E1 : α1 → Od} {E2 : α2 → Pd} {Mf : α1 → α2 → Option (ρ × α1)} {Rp : ρ → Pd} {T : Option γ} {Δ1 : β1 → Δs} {k1 : β1 → Option γ} {Δ2 : β1 → β2 → Δs} {x2 : β1 → β2 → α2} {v1 : V} {prm : Option Nat} {s1 : β1 → β2 → α1} {k : (β1 × β2) × (ρ × α1) → Option γ}
    (G : FnOk X.prog X.w X.K X.mg X.base CX0 kk f fd ps (Sp_OF_f E1 E2 Mf Rp)) (hr : Room kk X.A) (hm : X.mg x = some (.ref f)) (hk : PySem.W.keepIn X.K (.ref f) = true) (hb : Binds X.K fd ps []) (j : Nat) (h1 : PE X e1 (tE true F Γ Δ T (k1) (fun b1 => pV v1) (Δ1))) (h2 : ∀ b1, PE X e2 (tE true F Γ (Δ1 b1) (k1 b1) (fun b2 => (Mf (s1 b1 b2) (x2 b1 b2)).bind fun r => k ((b1, b2), r)) (fun b2 => E2 (x2 b1 b2)) (Δ2 b1)))
    (hj : ∀ b1 b2, (Δ2 b1 b2)[j]? = some ⟨v1, E1 (s1 b1 b2), prm⟩) (hg : Gl X x := by rfl) (hdb : (x == ("__debug__" : Str)) = false := by decide) (st1 : starEach [e1, e2] X.env = (false, eval e1 X.env) :: starEach [e2] X.env := by rfl) (st2 : starEach [e2] X.env = (false, eval e2 X.env) :: starEach [] X.env := by rfl) (hpl : (backTo pos (starEach [e2] X.env)).any (·.1) = false := by rfl) :
    PE X (.Call (.Name x p) [e1, e2] [] pos) (tE true F Γ Δ T k (fun b => Rp b.2.1) fun b => (Δ2 b.1.1 b.1.2).set j ⟨v1, E1 b.2.2, prm⟩) :=
  (pe_call G hr hg hm hk hb .nil pass0 (pa_cons h1 (pa_cons (pe_ex fun b1 => h2 b1) pa_nil st2) st1) hdb st1 hpl).wk fun σ H Q ⟨ok, g, e, q⟩ => ⟨ok, g, e, fun b1 v1 H1 kb1 f1 ok1 hv1 => ⟨b1, ok1, g, kb1, fun b2 v2 H2 kb2 f2 ok2 hv2 => by
    obtain ⟨r, er, kr⟩ := bind_some kb2
    have hv1 : v1 = _ := hv1
    subst hv1
    obtain ⟨G0, hcell, hnd, ret_f, ret_o⟩ := ok2.lend1 (hj b1 b2)
    refine ⟨_, v2, G0, s1 b1 b2, x2 b1 b2, rfl, hcell, hnd, hv2, r, er, fun v H' hk hv => ?_⟩
    obtain ⟨ok', st⟩ := ret_f _ _ hk
    exact q ((b1, b2), r) v H' kr ((f1.trans f2).trans st) ok' hv⟩⟩
def Sp_OF_o {α1 α2 ρ : Type} (E1 : α1 → Od) (E2 : α2 → Pd) (Mf : α1 → α2 → Option (ρ × α1)) (Rp : ρ → Od) : Sp := fun vs H Q _ => ∃ (v1 v2 : V) (G1 : List Addr) (a1 : α1) (a2 : α2), vs = [v1, v2] ∧ (E1 a1).pr G1 H v1 ∧ G1.Nodup ∧ (E2 a2).pr H v2 ∧ ∃ r, Mf a1 a2 = some r ∧ RO ⟨H, [G1]⟩ (fun r => [⟨v1, E1 r.2, some 0⟩]) (fun r => Rp r.1) r Q
theorem fn_OF_o {P : Program} {w : World} {K : PySem.W.Frag} {mg : Str → Option Value} {base : Heap} {x qual : Str} {params : Arguments} {body : List Stmt} {scope : Scope} {dvs : List V} {kws : List (Str × V)} {f : Addr} {fd : FuncData} {N ps : List Str} {k : Nat} {α1 α2 ρ : Type} {E1 : α1 → Od} {E2 : α2 → Pd} {Mf : α1 → α2 → Option (ρ × α1)} {Rp : ρ → Od}
    (FD : FunD K x qual params body scope dvs kws f fd) (S : FnScope N ps scope) (hl : 2 = ps.length)
    (hb : ∀ (cdv : Value) (A : Around) (outer : List Env) (s : Shared) (H : Hp) (E : XK) (hr : Room k (A.deeper (envOfC qual scope s.heap.objs.size f cdv))) (v1 : V) (G1 : List Addr) (a1 : α1) (a2 : α2), PSs (cxOf CX0 P w K mg base N qual scope f cdv A outer s H E).nox body
      (tS ⟨H, [G1]⟩ (([pV v1, E2 a2] : List Pd).map some ++ List.replicate (N.length - 2) none) [⟨v1, E1 a1, some 0⟩] (fF (RO ⟨H, [G1]⟩ (fun r => [⟨v1, E1 r.2, some 0⟩]) (fun r => Rp r.1))) (Mf a1 a2))) : FnOk P w K mg base CX0 (k + 1) f fd ps (Sp_OF_o E1 E2 Mf Rp) := by
  refine FD.ok S (fun vs H Q E h => ?_) (fun cdv A outer s H vs Q E hr h => ?_)
  · obtain ⟨v1, v2, G1, a1, a2, rfl, _⟩ := h
    exact hl
  · obtain ⟨v1, v2, G1, a1, a2, rfl, p1, n1, p2, r, hM, fin⟩ := h
    refine ⟨_, PSs.nox (hb cdv A outer s H E hr v1 G1 a1 a2), ok_start (Δ := [⟨G1, v1, E1 a1, some 0⟩]) rfl (.cons rfl (.cons p2 (.nil))) ?_ ?_ ?_, r, hM, fin⟩
    · intro c hc; rw [List.mem_singleton.mp hc]; exact p1
    · rw [cellsOf_cons]; show (_ ++ []).Nodup; rw [List.append_nil]; exact n1
    · intro i c h; match i, h with | 0, h => cases h; rfl | _ + 1, h => cases h
theorem x_OF_o {X : Cx} {F : Fm} {Γ : Gm} {Δ : Δs} {γ : Type} {x : Str} {p pos : Pos} {e1 e2 : Expr} {f : Addr} {fd : FuncData} {ps : List Str} {kk : Nat} {α1 α2 ρ β1 β2 : Type} {E1 : α1 → Od} {E2 : α2 → Pd} {Mf : α1 → α2 → Option (ρ × α1)} {Rp : ρ → Od} {T : Option γ} {Δ1 : β1 → Δs} {k1 : β1 → Option γ} {Δ2 : β1 → β2 → Δs} {x2 : β1 → β2 → α2} {v1 : V} {prm : Option Nat} {s1 : β1 → β2 → α1} {k : (β1 × β2) × (ρ × α1) → Option γ}
    (G : FnOk X.prog X.w X.K X.mg X.base CX0 kk f fd ps (Sp_OF_o E1 E2 Mf Rp)) (hr : Room kk X.A) (hm : X.mg x = some (.ref f)) (hk : PySem.W.keepIn X.K (.ref f) = true) (hb : Binds X.K fd ps []) (j : Nat) (h1 : PE X e1 (tE true F Γ Δ T (k1) (fun b1 => pV v1) (Δ1))) (h2 : ∀ b1, PE X e2 (tE true F Γ (Δ1 b1) (k1 b1) (fun b2 => (Mf (s1 b1 b2) (x2 b1 b2)).bind fun r => k ((b1, b2), r)) (fun b2 => E2 (x2 b1 b2)) (Δ2 b1)))
    (hj : ∀ b1 b2, (Δ2 b1 b2)[j]? = some ⟨v1, E1 (s1 b1 b2), prm⟩) (hg : Gl X x := by rfl) (hdb : (x == ("__debug__" : Str)) = false := by decide) (st1 : starEach [e1, e2] X.env = (false, eval e1 X.env) :: starEach [e2] X.env := by rfl) (st2 : starEach [e2] X.env = (false, eval e2 X.env) :: starEach [] X.env := by rfl) (hpl : (backTo pos (starEach [e2] X.env)).any (·.1) = false := by rfl) :
    PE X (.Call (.Name x p) [e1, e2] [] pos) (tO true F Γ Δ T k (fun b => Rp b.2.1) fun b => (Δ2 b.1.1 b.1.2).set j ⟨v1, E1 b.2.2, prm⟩) :=
  (pe_call G hr hg hm hk hb .nil pass0 (pa_cons h1 (pa_cons (pe_ex fun b1 => h2 b1) pa_nil st2) st1) hdb st1 hpl).wk fun σ H Q ⟨ok, g, e, q⟩ => ⟨ok, g, e, fun b1 v1 H1 kb1 f1 ok1 hv1 => ⟨b1, ok1, g, kb1, fun b2 v2 H2 kb2 f2 ok2 hv2 => by
    obtain ⟨r, er, kr⟩ := bind_some kb2
    have hv1 : v1 = _ := hv1
    subst hv1
    obtain ⟨G0, hcell, hnd, ret_f, ret_o⟩ := ok2.lend1 (hj b1 b2)
    refine ⟨_, v2, G0, s1 b1 b2, x2 b1 b2, rfl, hcell, hnd, hv2, r, er, fun v H' hk => ?_⟩
    obtain ⟨ok', st⟩ := ret_o _ _ _ _ hk
    exact q ((b1, b2), r) v H' kr ((f1.trans f2).trans st) (ok'.since (f1.trans f2))⟩⟩
theorem x_TF_o {X : Cx} {F : Fm} {Γ : Gm} {Δ : Δs} {γ : Type} {x : Str} {p pos : Pos} {e1 e2 : Expr} {f : Addr} {fd : FuncData} {ps : List Str} {kk : Nat} {α1 α2 ρ β1 β2 : Type} {E1 : α1 → Od} {E2 : α2 → Pd} {Mf : α1 → α2 → Option (ρ × α1)} {Rp : ρ → Od} {T : Option γ} {Δ1 : β1 → Δs} {x1 : β1 → α1} {k1 : β1 → Option γ} {Δ2 : β1 → β2 → Δs} {x2 : β1 → β2 → α2} {k : (β1 × β2) × (ρ × α1) → Option γ}
    (G : FnOk X.prog X.w X.K X.mg X.base CX0 kk f fd ps (Sp_OF_o E1 E2 Mf Rp)) (hr : Room kk X.A) (hm : X.mg x = some (.ref f)) (hk : PySem.W.keepIn X.K (.ref f) = true) (hb : Binds X.K fd ps []) (h1 : PE X e1 (tO true F Γ Δ T (k1) (fun b1 => E1 (x1 b1)) Δ1)) (h2 : ∀ b1 v, PE X e2 (tE true F Γ (⟨v, E1 (x1 b1), none⟩ :: Δ1 b1) (k1 b1) (fun b2 => (Mf (x1 b1) (x2 b1 b2)).bind fun r => k ((b1, b2), r)) (fun b2 => E2 (x2 b1 b2)) (fun b2 => ⟨v, E1 (x1 b1), none⟩ :: Δ2 b1 b2)))
    (hg : Gl X x := by rfl) (hdb : (x == ("__debug__" : Str)) = false := by decide) (st1 : starEach [e1, e2] X.env = (false, eval e1 X.env) :: starEach [e2] X.env := by rfl) (st2 : starEach [e2] X.env = (false, eval e2 X.env) :: starEach [] X.env := by rfl) (hpl : (backTo pos (starEach [e2] X.env)).any (·.1) = false := by rfl) :
    PE X (.Call (.Name x p) [e1, e2] [] pos) (tO true F Γ Δ T k (fun b => Rp b.2.1) fun b => Δ2 b.1.1 b.1.2) :=
  (pe_call G hr hg hm hk hb .nil pass0 (pa_cons h1 (pa_cons (pe_ex fun b1 => pe_ex fun v => h2 b1 v) pa_nil st2) st1) hdb st1 hpl).wk fun σ H Q ⟨ok, g, e, q⟩ => ⟨ok, g, e, fun b1 v1 H1 kb1 f1 okn => ⟨b1, v1, okn.ok, g, kb1, fun b2 v2 H2 kb2 f2 ok2 hv2 => by
    obtain ⟨r, er, kr⟩ := bind_some kb2
    obtain ⟨G1, hcell, hnd, ret_f, ret_o⟩ := ok2.lend1 (j := 0) rfl
    refine ⟨v1, v2, G1, x1 b1, x2 b1 b2, rfl, hcell, hnd, hv2, r, er, fun v H' hk => ?_⟩
    obtain ⟨ok', st⟩ := ret_o _ _ _ _ hk
    exact q ((b1, b2), r) v H' kr ((f1.trans f2).trans st) ((ok'.since (f1.trans f2)).less (.cons _ (List.Sublist.refl _)))⟩⟩
theorem x_KFFF_f_2_ {X : Cx} {W : Bool} {F : Fm} {Γ : Gm} {Δ : Δs} {γ : Type} {x : Str} {p pos : Pos} {e1 e2 : Expr}  {f : Addr} {fd : FuncData} {ps : List Str} {kk : Nat} {α1 α2 α3 ρ β1 β2 : Type} {E1 : α1 → Pd} {E2 : α2 → Pd} {E3 : α3 → Pd} {Mf : α1 → α2 → α3 → Option ρ} {Rp : ρ → Pd} {T : Option γ} {Δ1 : β1 → Δs} {x1 : β1 → α1} {k1 : β1 → Option γ} {Δ2 : β1 → β2 → Δs} {x2 : β1 → β2 → α2} {k : (β1 × β2) × ρ → Option γ}
    (G : FnOk X.prog X.w X.K X.mg X.base CX0 kk f fd ps (Sp_FFF_f E1 E2 E3 Mf Rp)) (hr : Room kk X.A) (hm : X.mg x = some (.ref f)) (hk : PySem.W.keepIn X.K (.ref f) = true) {dw3 : V} {ds : List Value} (hb : Binds X.K fd ps ds) (hds : Vals [dw3] ds) (d3 : α3) (hd3 : ∀ H, (E3 d3).pr H dw3) (h1 : PE X e1 (tE W F Γ Δ T (k1) (fun b1 => E1 (x1 b1)) (Δ1))) (h2 : ∀ b1, PE X e2 (tE W F Γ (Δ1 b1) (k1 b1) (fun b2 => (Mf (x1 b1) (x2 b1 b2) d3).bind fun r => k ((b1, b2), r)) (fun b2 => E2 (x2 b1 b2)) (Δ2 b1)))
    (hg : Gl X x := by rfl) (hdb : (x == ("__debug__" : Str)) = false := by decide) (st1 : starEach [e1, e2] X.env = (false, eval e1 X.env) :: starEach [e2] X.env := by rfl) (st2 : starEach [e2] X.env = (false, eval e2 X.env) :: starEach [] X.env := by rfl) (hpl : (backTo pos (starEach [e2] X.env)).any (·.1) = false := by rfl) :
    PE X (.Call (.Name x p) [e1, e2] [] pos) (tE W F Γ Δ T k (fun b => Rp b.2) fun b => Δ2 b.1.1 b.1.2) :=
  (pe_call G hr hg hm hk hb hds pass0 (pa_cons h1 (pa_cons (pe_ex fun b1 => h2 b1) pa_nil st2) st1) hdb st1 hpl).wk fun σ H Q ⟨ok, g, e, q⟩ => ⟨ok, g, e, fun b1 v1 H1 kb1 f1 ok1 hv1 => ⟨b1, ok1, g, kb1, fun b2 v2 H2 kb2 f2 ok2 hv2 => by
    obtain ⟨r, er, kr⟩ := bind_some kb2
    refine ⟨v1, v2, dw3, x1 b1, x2 b1 b2, d3, rfl, ((E1 _).mono f2.fz hv1), hv2, hd3 _, r, er, fun v H' hk hv => ?_⟩
    obtain ⟨ok', st⟩ := call_f0 (W := W) ok2 hk
    exact q ((b1, b2), r) v H' kr ((f1.trans f2).trans st) ok' hv⟩⟩
theorem x_KFFF_f_2_3 {X : Cx} {W : Bool} {F : Fm} {Γ : Gm} {Δ : Δs} {γ : Type} {x : Str} {p pos : Pos} {e1 e2 e3 : Expr} {nm3 : Option Str} {kp3 : Pos} {f : Addr} {fd : FuncData} {ps : List Str} {kk : Nat} {α1 α2 α3 ρ β1 β2 β3 : Type} {E1 : α1 → Pd} {E2 : α2 → Pd} {E3 : α3 → Pd} {Mf : α1 → α2 → α3 → Option ρ} {Rp : ρ → Pd} {T : Option γ} {Δ1 : β1 → Δs} {x1 : β1 → α1} {k1 : β1 → Option γ} {Δ2 : β1 → β2 → Δs} {x2 : β1 → β2 → α2} {k2 : β1 → β2 → Option γ} {Δ3 : β1 → β2 → β3 → Δs} {x3 : β1 → β2 → β3 → α3} {k : (β1 × β2 × β3) × ρ → Option γ}
    (G : FnOk X.prog X.w X.K X.mg X.base CX0 kk f fd ps (Sp_FFF_f E1 E2 E3 Mf Rp)) (hr : Room kk X.A) (hm : X.mg x = some (.ref f)) (hk : PySem.W.keepIn X.K (.ref f) = true) {ks : List Str} {gg : List Value → List Value → List Value} (hb : KBn X.K fd ps 2 ks gg (fun vs zs => vs ++ (zs.drop 0).take 1))  (h1 : PE X e1 (tE W F Γ Δ T (k1) (fun b1 => E1 (x1 b1)) (Δ1))) (h2 : ∀ b1, PE X e2 (tE W F Γ (Δ1 b1) (k1 b1) (k2 b1) (fun b2 => E2 (x2 b1 b2)) (Δ2 b1))) (h3 : ∀ b1 b2, PE X e3 (tE W F Γ (Δ2 b1 b2) (k2 b1 b2) (fun b3 => (Mf (x1 b1) (x2 b1 b2) (x3 b1 b2 b3)).bind fun r => k ((b1, b2, b3), r)) (fun b3 => E3 (x3 b1 b2 b3)) (Δ3 b1 b2)))
    (hg : Gl X x := by rfl) (hdb : (x == ("__debug__" : Str)) = false := by decide) (st1 : starEach [e1, e2] X.env = (false, eval e1 X.env) :: starEach [e2] X.env := by rfl) (st2 : starEach [e2] X.env = (false, eval e2 X.env) :: starEach [] X.env := by rfl) (hall : (backToKw pos (keywordEach [⟨nm3, e3, kp3⟩] X.env)).all (·.1.isSome) = true := by rfl) (hks : (backToKw pos (keywordEach [⟨nm3, e3, kp3⟩] X.env)).filterMap (·.1) = ks := by rfl) (hln : 1 = ks.length := by rfl) (hpl : ((backTo pos (starEach [e1, e2] X.env)).any (·.1) || (backToKw pos (keywordEach [⟨nm3, e3, kp3⟩] X.env)).any (·.1.isNone)) = false := by rfl) :
    PE X (.Call (.Name x p) [e1, e2] [⟨nm3, e3, kp3⟩] pos) (tE W F Γ Δ T k (fun b => Rp b.2) fun b => Δ3 b.1.1 b.1.2.1 b.1.2.2) :=
  (pe_callN G hr hg hm hk hb pass0 (pa_cons h1 (pa_cons (pe_ex fun b1 => h2 b1) pa_nil st2) st1) (pk_cons (pe_ex fun b1 => pe_ex fun b2 => h3 b1 b2) pk_nil) hall hks hdb st1 hpl).wk fun σ H Q ⟨ok, g, e, q⟩ => ⟨ok, g, e, fun b1 v1 H1 kb1 f1 ok1 hv1 => ⟨b1, ok1, g, kb1, fun b2 v2 H2 kb2 f2 ok2 hv2 => ⟨b1, b2, ok2, g, kb2, fun b3 v3 H3 kb3 f3 ok3 hv3 => by
    obtain ⟨r, er, kr⟩ := bind_some kb3
    refine ⟨rfl, hln, v1, v2, v3, x1 b1, x2 b1 b2, x3 b1 b2 b3, rfl, ((E1 _).mono (f2.fz.trans f3.fz) hv1), ((E2 _).mono f3.fz hv2), hv3, r, er, fun v H' hk hv => ?_⟩
    obtain ⟨ok', st⟩ := call_f0 (W := W) ok3 hk
    exact q ((b1, b2, b3), r) v H' kr (((f1.trans f2).trans f3).trans st) ok' hv⟩⟩⟩
end L3
end
section
set_option maxHeartbeats 4000000
namespace L3
open PySem PySem.Spec PyProof.Rows L2
def WalkF {α : Type} (J : It) (Ex : α → Pd) (xs : List α) (H : Hp) : Prop := ∀ H', Fzs H H' → ∀ i, (i < xs.length → J.go i H') ∧ (xs.length ≤ i → J.stop i H') ∧ ∀ x v H'', xs[i]? = some x → J.yld i H' v H'' → Gr H' H'' ∧ (Ex x).pr H'' v
def tI {α β γ : Type} (W : Bool) (F : Fm) (Γ : Gm) (Δ : Δs) (T : Option γ) (k : β → Option γ) (Ex : α → Pd) (xs : β → List α) (Δ' : β → Δs) : TI := fun σ H R =>
  Ok F Γ Δ σ H ∧ ∃ g, T = some g ∧ ∀ b J H', k b = some g → St W H H' → Ok F Γ (Δ' b) σ H' → (xs b).length ≤ sizeLine → WalkF J Ex (xs b) H' → R J H'
def forS {α S : Type} : List α → S → (α → S → Option S) → Option S
  | [], s, _ => some s
  | x :: xs, s, f => (f x s).bind fun s' => forS xs s' f
def forL {α S ρ : Type} : List α → S → (α → S → Option (Bo S (Tm S ρ))) → Option (Bo S ρ)
  | [], s, _ => some (.nx s)
  | x :: xs, s, f => (f x s).bind fun o => match o with
    | .nx s' => forL xs s' f
    | .tm (.ct s') => forL xs s' f
    | .tm (.bk s') => some (.nx s')
    | .tm (.rt r) => some (.tm r)
def rngL (lo : Int) (n : Nat) : List Int := (List.range n).map fun (i : Nat) => lo + (i : Int)
def rg (n : Int) : Bool := decide (-(2 ^ 62) ≤ n) && decide (n ≤ 16777216)
theorem rngL_len (lo : Int) (n : Nat) : (rngL lo n).length = n := by unfold rngL; rw [List.length_map, List.length_range]
section
variable {X : Cx} {W : Bool} {F : Fm} {Γ : Gm} {Δ : Δs} {γ : Type}
theorem _root_.L2.PI.wk {tg iter : Expr} {t t' : TI} (h : PI X tg iter t) (w : ∀ σ H R, t' σ H R → t σ H R) : PI X tg iter t' := ⟨fun pins s σ H R I q => h.run pins s σ H R I (w σ H R q)⟩
theorem i_list {tg l : Expr} {α β : Type} {T : Option γ} {k : β → Option γ} {Ex : α → Pd} {xs : β → List α} {Δ' : β → Δs} (he : PE X l (tE W F Γ Δ T k (fun b => pL Ex (xs b)) Δ')) : PI X tg l (tI W F Γ Δ T k Ex xs Δ') :=
  (pi_list he).wk fun σ H R ⟨ok, g, e, q⟩ => ⟨ok, g, e, fun b v H' kb f ok' ⟨a, o, vs, ev, h, z, p⟩ => ⟨a, ev, ⟨vs, .inl (.inr ⟨o, h⟩)⟩, q b _ H' kb f ok' z fun H2 f2 i => by
    have h2 : SqL X.K H2 a vs := .inl (.inr ⟨o, f2 _ _ trivial h⟩)
    refine ⟨fun hi => ?_, fun hi => ⟨vs, h2, by rw [← paired_len p]; exact hi⟩, fun x v H3 hx hy => ?_⟩
    · obtain ⟨u, hu, _⟩ := paired_at p (List.getElem?_eq_getElem hi)
      exact ⟨vs, u, h2, hu⟩
    · obtain ⟨e3, hy⟩ := hy
      obtain ⟨u, hu, pu⟩ := paired_at p hx
      have e4 := hy vs h2
      rw [hu] at e4
      cases e4
      subst e3
      exact ⟨Gr.refl _, (Ex x).mono f2 pu⟩⟩⟩
theorem rng_walk {lo : Int} {n : Nat} {H : Hp} : WalkF (Itr lo n) pInt (rngL lo n) H := fun H2 f2 i => by
  have hl : (rngL lo n).length = n := by unfold rngL; rw [List.length_map, List.length_range]
  rw [hl]
  refine ⟨fun h => h, fun h => h, fun x v H3 hx hy => ?_⟩
  obtain ⟨e1, e2⟩ := hy
  subst e1
  refine ⟨Gr.refl _, ?_⟩
  unfold rngL at hx
  rw [List.getElem?_map] at hx
  cases hr : (List.range n)[i]? with
  | none => rw [hr] at hx; cases hx
  | some m =>
    rw [hr] at hx
    have hi : i < n := by
      have := (List.getElem?_eq_some_iff.mp hr).1
      rwa [List.length_range] at this
    rw [List.getElem?_range hi] at hr
    cases hr
    have hx : lo + (i : Int) = x := by simpa using hx
    rw [← hx]
    exact e2
theorem i_rng1 {tg a : Expr} {p pos : Pos} {β : Type} {T : Option γ} {k : β → Option γ} {n : β → Int} {Δ' : β → Δs} (hm : X.mg "range" = none) (he : PE X a (tE W F Γ Δ T (fun b => grd (rg (n b) = true) (k b)) (fun b => pInt (n b)) Δ')) (hg : Gl X "range" := by rfl)
    (hs : starEach [a] X.env = [(false, eval a X.env)] := by rfl) : PI X tg (.Call (.Name "range" p) [a] [] pos) (tI W F Γ Δ T k pInt (fun b => rngL 0 (n b).toNat) Δ') :=
  (pi_range1 hg hm (pa_cons he pa_nil hs) hs).wk fun σ H R ⟨ok, g, e, q⟩ => ⟨ok, g, e, fun b v H' kb f ok' hv => by
    obtain ⟨c, kb⟩ := grd_some kb
    obtain ⟨c1, c2⟩ := Bool.and_eq_true_iff.mp c
    have hv : v = .int (n b) := hv
    subst hv
    have c2 := of_decide_eq_true c2
    exact ⟨n b, rfl, of_decide_eq_true c1, by omega, q b _ H' kb f ok' (by rw [rngL_len]; have : sizeLine = 16777216 := rfl; omega) rng_walk⟩⟩
def Tgt {α : Type} (g : TG) (Ex : α → Pd) (bd : Gm → α → Gm) : Prop := ∀ (F : Fm) (Γ : Gm) (Δ : Δs) (σ : SS) (H : Hp) (x : α) (v : V) (Q : SS → Hp → Prop), Ok F Γ Δ σ H → (Ex x).pr H v → (∀ σ', Ok F (bd Γ x) Δ σ' H → Q σ' H) → g v σ H Q
theorem tg_name {α : Type} {Ex : α → Pd} (i : Nat) : Tgt (gName i) Ex (fun Γ x => Γ.set i (some (Ex x))) := fun _ _ _ _ _ _ _ _ ok hv q => q _ (ok.set hv)
theorem tg_pair {α β : Type} {E1 : α → Pd} {E2 : β → Pd} {K : PySem.W.Frag} (i j : Nat) : Tgt (gTup K 2 (gCons (gName i) (gCons (gName j) gNil))) (pT2 E1 E2) (fun Γ x => (Γ.set i (some (E1 x.1))).set j (some (E2 x.2))) :=
  fun _ _ _ _ _ _ _ _ ok ⟨a, u, w, ev, h, p1, p2⟩ q => ⟨a, [u, w], ev, .inl (.inl h), rfl, u, [w], rfl, w, [], rfl, rfl, q _ ((ok.set p1).set p2)⟩
variable {N : Fn γ} {rest : List Stmt}
theorem drop_cons {α : Type} {xs : List α} {i : Nat} (h : i < xs.length) : ∃ x, xs[i]? = some x ∧ xs.drop i = x :: xs.drop (i + 1) := ⟨xs[i], List.getElem?_eq_getElem h, List.drop_eq_getElem_cons h⟩
theorem s_for {tg iter : Expr} {body : List Stmt} {pos : Pos} {g : TG} {α β S ρ : Type} {T : Option γ} {Ex : α → Pd} {bd : Gm → α → Gm} {xs : β → List α} {Δ' : β → Δs} {f : β → α → S → Option (Bo S (Tm S ρ))} {k2 : β → S → Option γ} {ι : ρ → γ} {R : Rt ρ} (hp : PassesOwn (model X.prog X.w) X.A X.env X.xe) (C : β → S → Cxt) (s0 : β → S)
    (hi : PI X tg iter (tI true F Γ Δ T (fun b => (forL (xs b) (s0 b) (f b)).bind (boK (k2 b) ι)) Ex xs Δ')) (hg : PG X tg g) (ht : Tgt g Ex bd) (h0 : ∀ b, SubG (C b (s0 b)).1 Γ) (h0d : ∀ b, (C b (s0 b)).2.Sublist (Δ' b))
    (hb : ∀ b x s, PSs X body (tS F (bd (C b s).1 x) (C b s).2 (fB F (C b) (fT F (C b) R)) (f b x s))) (hr : ∀ b s, PSs X rest (tS F (C b s).1 (C b s).2 N (k2 b s))) (hN : ∀ H r D, N.fin H (ι r) D → R r D.rt) (hc : X.calm = true := by rfl) (hfs : ∀ x, foldedSetIterable iter X.env x = pure x := by intro _; rfl) :
    PSs X (.For tg iter body [] pos :: rest) (tS F Γ Δ N T) :=
  (pss_cons (ps_for hp hc hi hg (pss_ex fun b => pss_ex fun x => pss_ex fun s => hb b x s) hfs) (pss_ex fun b => pss_ex fun s => hr b s)).wk fun D σ H ⟨ok, gg, e, fin⟩ => ⟨ok, gg, e, fun b J H1 kb f1 ok1 _ wk => by
    obtain ⟨o, eo, ko⟩ := bind_some kb
    refine ⟨fun i m σ' H' => i + m = (xs b).length ∧ Fzs H1 H' ∧ ∃ s, Ok F (C b s).1 (C b s).2 σ' H' ∧ forL ((xs b).drop i) s (f b) = some o, ⟨(xs b).length, Nat.zero_add _, Fzs.refl _, s0 b, ok1.wk (h0 b) (h0d b), by rw [List.drop_zero]; exact eo⟩, fun i m σ2 H2 ⟨em, fz2, s, ok2, e2⟩ => ?_⟩
    by_cases hi : i < (xs b).length
    · obtain ⟨x, hx, ed⟩ := drop_cons hi
      rw [ed] at e2
      have e2 : (f b x s).bind _ = some o := e2
      obtain ⟨ob, eb, e2⟩ := bind_some e2
      refine .inr ⟨((wk H2 fz2) i).1 hi, fun σ3 H3 => (i + 1) + (m - 1) = (xs b).length ∧ Fzs H1 H3 ∧ ∃ s, Ok F (C b s).1 (C b s).2 σ3 H3 ∧ forL ((xs b).drop (i + 1)) s (f b) = some o, fun σ3 H3 h3 => ⟨m - 1, by omega, h3⟩, fun v H3 hy => ?_⟩
      obtain ⟨gr3, pv⟩ := ((wk H2 fz2) i).2.2 x v H3 hx hy
      refine ht F _ _ σ2 H3 x v _ (ok2.gr gr3) pv fun σ4 ok4 => ⟨b, x, s, ok4, ob, eb, ?_⟩
      cases ob with
      | nx s' => exact fun σ5 H5 f5 ok5 => ⟨by omega, (fz2.trans gr3.fzs).trans f5, s', ok5, e2⟩
      | tm t =>
        cases t with
        | ct s' => exact fun σ5 H5 f5 ok5 => ⟨by omega, (fz2.trans gr3.fzs).trans f5, s', ok5, e2⟩
        | bk s' =>
          have e2 : some (Bo.nx s') = some o := e2
          cases e2
          exact fun σ5 H5 f5 ok5 => ⟨b, s', ok5, gg, ko, N.mono fin (f1.fz.trans ((fz2.trans gr3.fzs).trans f5))⟩
        | rt r =>
          have e2 : some (Bo.tm r) = some o := e2
          cases e2
          have ko : some (ι r) = some gg := ko
          cases ko
          exact hN H r D fin
    · refine .inl ⟨((wk H2 fz2) i).2.1 (by omega), ?_⟩
      rw [List.drop_eq_nil_of_le (by omega)] at e2
      have e2 : some (Bo.nx s) = some o := e2
      cases e2
      exact ⟨b, s, ok2, gg, ko, N.mono fin (f1.fz.trans fz2)⟩⟩
theorem s_forS {tg iter : Expr} {body : List Stmt} {pos : Pos} {g : TG} {α β S : Type} {T : Option γ} {Ex : α → Pd} {bd : Gm → α → Gm} {xs : β → List α} {Δ' : β → Δs} {f : β → α → S → Option S} {k2 : β → S → Option γ} (hp : PassesOwn (model X.prog X.w) X.A X.env X.xe) (C : β → S → Cxt) (s0 : β → S)
    (hi : PI X tg iter (tI true F Γ Δ T (fun b => (forS (xs b) (s0 b) (f b)).bind (k2 b)) Ex xs Δ')) (hg : PG X tg g) (ht : Tgt g Ex bd) (h0 : ∀ b, SubG (C b (s0 b)).1 Γ) (h0d : ∀ b, (C b (s0 b)).2.Sublist (Δ' b))
    (hb : ∀ b x s, PSs X body (tS F (bd (C b s).1 x) (C b s).2 (fN F (C b)) (f b x s))) (hr : ∀ b s, PSs X rest (tS F (C b s).1 (C b s).2 N (k2 b s))) (hc : X.calm = true := by rfl) (hfs : ∀ x, foldedSetIterable iter X.env x = pure x := by intro _; rfl) :
    PSs X (.For tg iter body [] pos :: rest) (tS F Γ Δ N T) :=
  (pss_cons (ps_for hp hc hi hg (pss_ex fun b => pss_ex fun x => pss_ex fun s => hb b x s) hfs) (pss_ex fun b => pss_ex fun s => hr b s)).wk fun D σ H ⟨ok, gg, e, fin⟩ => ⟨ok, gg, e, fun b J H1 kb f1 ok1 _ wk => by
    obtain ⟨o, eo, ko⟩ := bind_some kb
    refine ⟨fun i m σ' H' => i + m = (xs b).length ∧ Fzs H1 H' ∧ ∃ s, Ok F (C b s).1 (C b s).2 σ' H' ∧ forS ((xs b).drop i) s (f b) = some o, ⟨(xs b).length, Nat.zero_add _, Fzs.refl _, s0 b, ok1.wk (h0 b) (h0d b), by rw [List.drop_zero]; exact eo⟩, fun i m σ2 H2 ⟨em, fz2, s, ok2, e2⟩ => ?_⟩
    by_cases hi : i < (xs b).length
    · obtain ⟨x, hx, ed⟩ := drop_cons hi
      rw [ed] at e2
      have e2 : (f b x s).bind _ = some o := e2
      obtain ⟨s', eb, e2⟩ := bind_some e2
      refine .inr ⟨((wk H2 fz2) i).1 hi, fun σ3 H3 => (i + 1) + (m - 1) = (xs b).length ∧ Fzs H1 H3 ∧ ∃ s, Ok F (C b s).1 (C b s).2 σ3 H3 ∧ forS ((xs b).drop (i + 1)) s (f b) = some o, fun σ3 H3 h3 => ⟨m - 1, by omega, h3⟩, fun v H3 hy => ?_⟩
      obtain ⟨gr3, pv⟩ := ((wk H2 fz2) i).2.2 x v H3 hx hy
      exact ht F _ _ σ2 H3 x v _ (ok2.gr gr3) pv fun σ4 ok4 => ⟨b, x, s, ok4, s', eb, fun σ5 H5 f5 ok5 => ⟨by omega, (fz2.trans gr3.fzs).trans f5, s', ok5, e2⟩⟩
    · refine .inl ⟨((wk H2 fz2) i).2.1 (by omega), ?_⟩
      rw [List.drop_eq_nil_of_le (by omega)] at e2
      have e2 : s = o := Option.some.inj e2
      rw [e2] at ok2
      exact ⟨b, o, ok2, gg, ko, N.mono fin (f1.fz.trans fz2)⟩⟩
end
end L3
end
section
set_option maxHeartbeats 4000000
namespace L3
open PySem PySem.Spec PyProof.Rows L2
def compM {α δ S : Type} : List α → S → (α → S → Option (Option δ × S)) → Option (List δ × S)
  | [], s, _ => some ([], s)
  | x :: xs, s, f => (f x s).bind fun o => (compM xs o.2 f).bind fun r => some ((match o.1 with | none => r.1 | some y => y :: r.1), r.2)
theorem compM_len {α δ S : Type} {f : α → S → Option (Option δ × S)} : ∀ {xs : List α} {s : S} {r : List δ × S}, compM xs s f = some r → r.1.length ≤ xs.length
  | [], s, r, h => by cases h; exact Nat.le_refl _
  | x :: xs, s, r, h => by
    obtain ⟨o, _, h⟩ := bind_some (show (f x s).bind _ = some r from h)
    obtain ⟨q, hq, h⟩ := bind_some h
    have ih := compM_len hq
    cases h
    cases o.1 with
    | none => exact Nat.le_succ_of_le ih
    | some y => exact Nat.succ_le_succ ih
def wipeG (Γ : Gm) : List Nat → Gm
  | [] => Γ
  | v :: vs => (wipeG Γ vs).set v none
theorem wipeG_length (Γ : Gm) : ∀ vs : List Nat, (wipeG Γ vs).length = Γ.length
  | [] => rfl
  | v :: vs => by unfold wipeG; rw [List.length_set, wipeG_length Γ vs]
theorem wipe_get {Γ : Gm} {σ : SS} {p : Pd} {i : Nat} : ∀ {vs : List Nat}, (wipeG Γ vs)[i]? = some (some p) → Γ[i]? = some (some p) ∧ (wipe σ vs)[i]? = σ[i]?
  | [], h => ⟨h, rfl⟩
  | v :: vs, h => by
    unfold wipeG at h
    by_cases e : i = v
    · subst e
      by_cases l : i < (wipeG Γ vs).length
      · rw [List.getElem?_set_self l] at h; cases h
      · rw [List.getElem?_eq_none (by rw [List.length_set]; omega)] at h; cases h
    · rw [List.getElem?_set_ne (fun z => e z.symm)] at h
      obtain ⟨h1, h2⟩ := wipe_get h
      refine ⟨h1, ?_⟩
      unfold wipe
      rw [List.getElem?_set_ne (fun z => e z.symm)]
      exact h2
theorem Ok.wipe {F : Fm} {Γ : Gm} {Δ Δ' : Δs} {σ : SS} {H H' : Hp} (k : Ok F Γ Δ σ H) (f : Fzs H H') (h : Hk F Δ' H') (vs : List Nat) : Ok F (wipeG Γ vs) Δ' (L2.wipe σ vs) H' :=
  ⟨h, by rw [wipe_length, wipeG_length]; exact k.len, fun i p e => by
    obtain ⟨e1, e2⟩ := wipe_get (σ := σ) e
    obtain ⟨v, hs, hv⟩ := k.gam i p e1
    exact ⟨v, e2.trans hs, p.mono f hv⟩⟩
theorem perm_lift {A B : Δs} (p : A.Perm B) : ∀ {Δ0 : List Cel}, Δ0.map Cel.fg = A → ∃ Δ1 : List Cel, Δ0.Perm Δ1 ∧ Δ1.map Cel.fg = B := by
  induction p with
  | nil => intro Δ0 e; exact ⟨Δ0, List.Perm.refl _, e⟩
  | cons x _ ih =>
    intro Δ0 e
    cases Δ0 with
    | nil => cases e
    | cons y r =>
      rw [List.map_cons] at e
      injection e with e1 e2
      obtain ⟨Δ1, q, e3⟩ := ih e2
      exact ⟨y :: Δ1, q.cons y, by rw [List.map_cons, e3, e1]⟩
  | swap x y l =>
    intro Δ0 e
    cases Δ0 with
    | nil => cases e
    | cons a r =>
      cases r with
      | nil => cases e
      | cons b r =>
        have e' : a.fg = y ∧ b.fg = x ∧ r.map Cel.fg = l := by simpa using e
        exact ⟨b :: a :: r, List.Perm.swap _ _ _, by rw [List.map_cons, List.map_cons, e'.1, e'.2.1, e'.2.2]⟩
  | trans _ _ ih1 ih2 =>
    intro Δ0 e
    obtain ⟨Δ1, q1, e1⟩ := ih1 e
    obtain ⟨Δ2, q2, e2⟩ := ih2 e1
    exact ⟨Δ2, q1.trans q2, e2⟩
theorem Hk.perm {F : Fm} {Δ Δ' : Δs} {H : Hp} (k : Hk F Δ H) (p : Δ.Perm Δ') : Hk F Δ' H := by
  obtain ⟨Δ0, e, k⟩ := k
  obtain ⟨Δ1, q, e1⟩ := perm_lift p e
  exact ⟨Δ1, e1, k.perm q⟩
theorem Hk.one {W : Bool} {F : Fm} {Δ : Δs} {H H0 : Hp} {D : Addr} {α : Type} {E : α → Pd} {xs : List α} {Γ : Gm} {σ : SS} (k : Hk F (⟨.ref D, oL E xs, none⟩ :: Δ) H) (n : Nm Γ σ H) (h0 : H0 D = none) : OkN W F Γ H0 (.ref D) (oL E xs) Δ σ H := by
  obtain ⟨Δ0, e, k⟩ := k
  cases Δ0 with
  | nil => cases e
  | cons y r =>
    obtain ⟨yG, yv, yd, yp⟩ := y
    have e' : (⟨yv, yd, yp⟩ : Cell) = ⟨.ref D, oL E xs, none⟩ ∧ r.map Cel.fg = Δ := by simpa [Cel.fg] using e
    obtain ⟨e1, e2⟩ := e'
    cases e1
    obtain ⟨p, vs, eG, ev, _⟩ := k.del _ List.mem_cons_self
    cases ev
    have eG : yG = [D] := eG
    subst eG
    exact ⟨r, [D], e2, k, fun _ a ha => by rw [List.mem_singleton.mp ha]; exact h0, n⟩
def TgtW {α : Type} (g : TG) (Ex : α → Pd) (bd : Gm → α → Gm) (vs : List Nat) : Prop := ∀ (F : Fm) (Γ : Gm) (Δ : Δs) (σ : SS) (H : Hp) (x : α) (v : V) (Q : SS → Hp → Prop), Ok F (wipeG Γ vs) Δ (L2.wipe σ vs) H → (Ex x).pr H v → (∀ σ', L2.wipe σ' vs = L2.wipe σ vs → Ok F (bd (wipeG Γ vs) x) Δ σ' H → Q σ' H) → g v (L2.wipe σ vs) H Q
theorem tw_name {α : Type} {Ex : α → Pd} (i : Nat) : TgtW (gName i) Ex (fun Γ x => Γ.set i (some (Ex x))) [i] := fun _ _ _ σ _ _ _ _ ok hv q => q _ (by
  show ((σ.set i none).set i _).set i none = σ.set i none
  rw [List.set_set, List.set_set]) (ok.set hv)
theorem tw_pair {α β : Type} {E1 : α → Pd} {E2 : β → Pd} {K : PySem.W.Frag} (i j : Nat) (hij : i ≠ j) : TgtW (gTup K 2 (gCons (gName i) (gCons (gName j) gNil))) (pT2 E1 E2) (fun Γ x => (Γ.set i (some (E1 x.1))).set j (some (E2 x.2))) [i, j] :=
  fun _ _ _ σ _ _ _ _ ok ⟨a, u, w, ev, h, p1, p2⟩ q => ⟨a, [u, w], ev, .inl (.inl h), rfl, u, [w], rfl, w, [], rfl, rfl, q _ (by
    show (((((σ.set j none).set i none).set i _).set j _).set j none).set i none = (σ.set j none).set i none
    rw [List.set_set, List.set_set, List.set_comm _ _ hij, List.set_set, List.set_set]) ((ok.set p1).set p2)⟩
section
variable {X : Cx} {W : Bool} {F : Fm} {Γ : Gm} {Δ : Δs} {γ : Type}
abbrev Blk (X : Cx) (scope : Scope) (P : Cx → Prop) : Prop := ∀ (s : Shared) (H : Hp) (C : Addr) (cl : List (Str × Addr)) (fp : List Addr), P (X.blk s H scope (compEnvC scope cl C X.env) fp)
section
variable {α β β2 β3 δ S : Type} {g : TG} {own : List (Str × Nat)} {T : Option γ} {k0 : β → Option γ} {k : β × (List δ × S) → Option γ} {out : β × (List δ × S) → List δ} {Ex : α → Pd} {Ee : δ → Pd} {bd : Gm → α → Gm} {xs : β → List α} {Δ1 : β → Δs} {C : β → S → Δs} {s0 : β → S} {f : β → α → S → Option (Option δ × S)}
    {c : β → α → S → β2 → Bool} {s2 : β → α → S → β2 → S} {T2 : β → α → S → β2 → Option (Option δ × S)} {y : β → α → S → β2 → β3 → δ} {s3 : β → α → S → β2 → β3 → S}
abbrev lcT (W : Bool) (F : Fm) (Γ : Gm) (own : List (Str × Nat)) (bd : Gm → α → Gm) (C : β → S → Δs) (f : β → α → S → Option (Option δ × S)) (c : β → α → S → β2 → Bool) (s2 : β → α → S → β2 → S) (T2 : β → α → S → β2 → Option (Option δ × S)) : TT := fun σ H Q => ∃ d b x s, tTs W F (bd (wipeG Γ (own.map (·.2))) x) (C b s ++ [d]) (f b x s) (fun b2 => if c b x s b2 = true then T2 b x s b2 else some (none, s2 b x s b2)) (c b x s) (fun b2 => C b (s2 b x s b2) ++ [d]) σ H Q
abbrev lcE (W : Bool) (F : Fm) (Γ : Gm) (own : List (Str × Nat)) (bd : Gm → α → Gm) (C : β → S → Δs) (s2 : β → α → S → β2 → S) (T2 : β → α → S → β2 → Option (Option δ × S)) (Ee : δ → Pd) (y : β → α → S → β2 → β3 → δ) (s3 : β → α → S → β2 → β3 → S) : TE := fun σ H Q => ∃ d b x s b2, tE W F (bd (wipeG Γ (own.map (·.2))) x) (C b (s2 b x s b2) ++ [d]) (T2 b x s b2) (fun b3 => some (some (y b x s b2 b3), s3 b x s b2 b3)) (fun b3 => Ee (y b x s b2 b3)) (fun b3 => C b (s3 b x s b2 b3) ++ [d]) σ H Q
theorem lc_imp (hrun : ∀ b g, k0 b = some g → ∃ r, compM (xs b) (s0 b) (f b) = some r ∧ k (b, r) = some g) (hout : ∀ b r, compM (xs b) (s0 b) (f b) = some r → out (b, r) = r.1) (ht : TgtW g Ex bd (own.map (·.2))) (h0 : ∀ b, Δ1 b = C b (s0 b)) :
    ∀ σ H Q, tO W F Γ Δ T k (fun b => oL Ee (out b)) (fun b => C b.1 b.2.2) σ H Q → tLc (tI W F Γ Δ T k0 Ex xs Δ1) g (lcT W F Γ own bd C f c s2 T2) (lcE W F Γ own bd C s2 T2 Ee y s3) (own.map (·.2)) σ H Q :=
  fun σ H Q ⟨ok0, gg, e, q⟩ => ⟨ok0, gg, e, fun b J H1 kb f1 ok1 zl wk D nD => by
    obtain ⟨⟨ys, sf⟩, er, kr⟩ := hrun b gg kb
    have grD : Gr H1 (upd H1 D (.lst [])) := Gr.new nD
    have hk0 : Hk F (C b (s0 b) ++ [⟨.ref D, oL Ee [], none⟩]) (upd H1 D (.lst [])) := by
      rw [← h0 b]
      exact (ok1.newL (W := true) (E := Ee) (xs := []) nD (Nat.zero_le _) .nil).1.ok.hk.perm (List.perm_append_singleton _ _).symm
    refine ⟨fun i m H' => i + m = (xs b).length ∧ St W H1 H' ∧ ∃ s acc ys', Hk F (C b s ++ [⟨.ref D, oL Ee acc, none⟩]) H' ∧ compM ((xs b).drop i) s (f b) = some (ys', sf) ∧ acc ++ ys' = ys, ⟨(xs b).length, Nat.zero_add _, grD.st, s0 b, [], ys, hk0, by rw [List.drop_zero]; exact er, rfl⟩, fun i m H2 ⟨em, st2, s, acc, ys', hk2, ec, ea⟩ => ?_⟩
    by_cases hi : i < (xs b).length
    · obtain ⟨x, hx, ed⟩ := drop_cons hi
      rw [ed] at ec
      obtain ⟨o, eo, ec⟩ := bind_some (show (f b x s).bind _ = some (ys', sf) from ec)
      obtain ⟨r, erc, ec⟩ := bind_some ec
      refine .inr ⟨((wk H2 st2.fz) i).1 hi, fun H' => (i + 1) + (m - 1) = (xs b).length ∧ St W H1 H' ∧ ∃ s acc ys', Hk F (C b s ++ [⟨.ref D, oL Ee acc, none⟩]) H' ∧ compM ((xs b).drop (i + 1)) s (f b) = some (ys', sf) ∧ acc ++ ys' = ys, fun H' h => ⟨m - 1, by omega, h⟩, fun v H3 hy => ?_⟩
      obtain ⟨gr3, pv⟩ := ((wk H2 st2.fz) i).2.2 x v H3 hx hy
      have st3 : St W H1 H3 := st2.trans gr3.st
      refine ht F Γ _ σ H3 x v _ (ok1.wipe st3.fz (hk2.gr gr3) _) pv fun σ4 ew ok4 => ⟨ew, ⟨.ref D, oL Ee acc, none⟩, b, x, s, ok4, o, eo, fun b2 H5 kb2 st5 ok5 => ?_⟩
      try dsimp only at kb2
      cases hcb : c b x s b2 with
      | false =>
        rw [if_neg (by rw [hcb]; exact Bool.false_ne_true)] at kb2
        cases kb2
        cases ec
        exact iteF ⟨by omega, st3.trans st5, s2 b x s b2, acc, r.1, ok5.hk, erc, ea⟩
      | true =>
        rw [if_pos hcb] at kb2
        refine iteT ⟨⟨.ref D, oL Ee acc, none⟩, b, x, s, b2, ok5, o, kb2, fun b3 w H6 kb3 st6 ok6 hw => ?_⟩
        cases kb3
        cases ec
        have hlast : (C b (s3 b x s b2 b3) ++ [⟨.ref D, oL Ee acc, none⟩])[(C b (s3 b x s b2 b3)).length]? = some ⟨.ref D, oL Ee acc, none⟩ := by rw [List.getElem?_append_right (Nat.le_refl _), Nat.sub_self]; rfl
        obtain ⟨G', ⟨D', vs, eG, eD, hD, zD, pD⟩, _, turn⟩ := ok6.hk.cell hlast
        cases eD
        subst eG
        have hlen : acc.length < sizeLine := by
          have l1 := compM_len erc
          have l2 : (acc ++ y b x s b2 b3 :: r.1).length = ys.length := congrArg List.length ea
          have l3 := compM_len er
          rw [List.length_append, List.length_cons] at l2
          have : ys.length ≤ (xs b).length := l3
          omega
        have fzm : Fzs H6 (upd H6 D (.lst (vs ++ [w]))) := Fzs.mut hD fun z => z
        obtain ⟨hk7, st7⟩ := turn (upd H6 D (.lst (vs ++ [w]))) (oL Ee (acc ++ [y b x s b2 b3])) (fun a o na e => by
          rw [upd_ne fun z => na (by rw [z]; exact List.mem_singleton.mpr rfl)]; exact e)
          ⟨D, vs ++ [w], rfl, rfl, upd_same, by rw [List.length_append, List.length_singleton]; omega, paired_app (paired_mono (fun x _ => (Ee x).mono fzm) pD) (.cons ((Ee _).mono fzm hw) .nil)⟩
        refine ⟨vs, hD, by rw [← paired_len pD]; exact hlen, by omega, ⟨((st3.fz.trans st5.fz).trans st6.fz).trans st7.fz, fun hw a o e => ?_, fun a o e => ?_⟩, s3 b x s b2 b3, acc ++ [y b x s b2 b3], r.1, ?_, erc, by rw [List.append_assoc]; exact ea⟩
        · rw [upd_ne (ne_of_none e nD)]
          exact ((st3.trans st5).trans st6).kp hw a o e
        · obtain ⟨u, eu⟩ := ((st3.trans st5).trans st6).dom a o e
          exact upd_dom _ _ a u eu
        · rw [List.set_append_right _ _ (Nat.le_refl _), Nat.sub_self] at hk7
          exact hk7
    · refine .inl ⟨((wk H2 st2.fz) i).2.1 (by omega), ?_⟩
      rw [List.drop_eq_nil_of_le (by omega)] at ec
      have ec : some (([] : List δ), s) = some (ys', sf) := ec
      cases ec
      rw [List.append_nil] at ea
      subst ea
      have hkf := hk2.perm (List.perm_append_singleton _ _)
      rw [show acc = out (b, (acc, _)) from (hout b _ er).symm] at hkf
      exact q (b, (acc, _)) _ H2 kr (f1.trans st2) (hkf.one (ok1.nm.mono st2.fz) (f1.back nD))⟩
theorem x_lc0 {elt tg iter : Expr} {ifs : List Expr} {scope : Scope} {pos : Pos} (nd : X.N.Nodup)
    (hi : PI X tg iter (tI W F Γ Δ T k0 Ex xs Δ1)) (hrun : ∀ b g, k0 b = some g → ∃ r, compM (xs b) (s0 b) (f b) = some r ∧ k (b, r) = some g) (hout : ∀ b r, compM (xs b) (s0 b) (f b) = some r → out (b, r) = r.1) (ok : BlkOk X.N X.env.scope scope own) (hg : Blk X scope fun Y => PG Y tg g) (ht : TgtW g Ex bd (own.map (·.2))) (h0 : ∀ b, Δ1 b = C b (s0 b))
    (hc : ∀ d, Blk X scope fun Y => ∀ b x s, PTs Y ifs (tTs W F (bd (wipeG Γ (own.map (·.2))) x) (C b s ++ [d]) (f b x s) (fun b2 => if c b x s b2 = true then T2 b x s b2 else some (none, s2 b x s b2)) (c b x s) fun b2 => C b (s2 b x s b2) ++ [d]))
    (he : ∀ d, Blk X scope fun Y => ∀ b x s b2, PE Y elt (tE W F (bd (wipeG Γ (own.map (·.2))) x) (C b (s2 b x s b2) ++ [d]) (T2 b x s b2) (fun b3 => some (some (y b x s b2 b3), s3 b x s b2 b3)) (fun b3 => Ee (y b x s b2 b3)) fun b3 => C b (s3 b x s b2 b3) ++ [d]))
    (hcm : X.calm = true := by rfl) (hs : ∀ x, foldedSetIterable iter X.env x = pure x := by intro _; rfl) :
    PE X (.ListComp elt [⟨tg, iter, ifs, 0⟩] scope pos) (tO W F Γ Δ T k (fun b => oL Ee (out b)) fun b => C b.1 b.2.2) :=
  (pe_lc hcm nd hi ok hg (tt := lcT W F Γ own bd C f c s2 T2) (fun s H Cc cl fp => ⟨fun pins s' σ H Q I ⟨d, b, x, s'', h⟩ => (hc d s _ Cc cl fp b x s'').run pins s' σ H Q I h⟩) (te := lcE W F Γ own bd C s2 T2 Ee y s3) (fun s H Cc cl fp => ⟨fun pins s' σ H Q I ⟨d, b, x, s'', b2, h⟩ => (he d s _ Cc cl fp b x s'' b2).run pins s' σ H Q I h⟩) hs).wk (lc_imp hrun hout ht h0)
theorem a_lc0 {elt tg iter : Expr} {ifs : List Expr} {scope : Scope} {pos py spos : Pos} {i : Nat} {yv : Str} (nd : X.N.Nodup)
    (hi : PI X tg iter (tI W F Γ Δ T k0 Ex xs Δ1)) (hrun : ∀ b g, k0 b = some g → ∃ r, compM (xs b) (s0 b) (f b) = some r ∧ k (b, r) = some g) (hout : ∀ b r, compM (xs b) (s0 b) (f b) = some r → out (b, r) = r.1) (ok : BlkOk X.N X.env.scope scope own) (hg : Blk X scope fun Y => PG Y tg g) (ht : TgtW g Ex bd (own.map (·.2))) (h0 : ∀ b, Δ1 b = C b (s0 b))
    (hc : ∀ d, Blk X scope fun Y => ∀ b x s, PTs Y ifs (tTs W F (bd (wipeG Γ (own.map (·.2))) x) (C b s ++ [d]) (f b x s) (fun b2 => if c b x s b2 = true then T2 b x s b2 else some (none, s2 b x s b2)) (c b x s) fun b2 => C b (s2 b x s b2) ++ [d]))
    (he : ∀ d, Blk X scope fun Y => ∀ b x s b2, PE Y elt (tE W F (bd (wipeG Γ (own.map (·.2))) x) (C b (s2 b x s b2) ++ [d]) (T2 b x s b2) (fun b3 => some (some (y b x s b2 b3), s3 b x s b2 b3)) (fun b3 => Ee (y b x s b2 b3)) fun b3 => C b (s3 b x s b2 b3) ++ [d]))
    (hsw : swapsWith (.ListComp elt [⟨tg, iter, ifs, 0⟩] scope pos) (some (.Name yv py)) spos.line X.env = pure true) (hy : X.N[i]? = some yv := by rfl) (hyl : X.env.scope.names.lookup yv = some .local := by rfl) (hcm : X.calm = true := by rfl) (hs : ∀ x, foldedSetIterable iter X.env x = pure x := by intro _; rfl) :
    PS X (.Assign [.Name yv py] (.ListComp elt [⟨tg, iter, ifs, 0⟩] scope pos) spos) (tAsg (tO W F Γ Δ T k (fun b => oL Ee (out b)) fun b => C b.1 b.2.2) (gName i)) :=
  (ps_setLc hcm nd hy hyl hsw hi ok hg (tt := lcT W F Γ own bd C f c s2 T2) (fun s H Cc cl fp => ⟨fun pins s' σ H Q I ⟨d, b, x, s'', h⟩ => (hc d s _ Cc cl fp b x s'').run pins s' σ H Q I h⟩) (te := lcE W F Γ own bd C s2 T2 Ee y s3) (fun s H Cc cl fp => ⟨fun pins s' σ H Q I ⟨d, b, x, s'', b2, h⟩ => (he d s _ Cc cl fp b x s'' b2).run pins s' σ H Q I h⟩) hs).wk fun D σ H h => lc_imp hrun hout ht h0 σ H _ h
end
theorem x_lc {elt tg iter : Expr} {ifs : List Expr} {scope : Scope} {own : List (Str × Nat)} {pos : Pos} {g : TG} {α β β2 β3 δ S : Type} {T : Option γ} {k : β × (List δ × S) → Option γ} {Ex : α → Pd} {Ee : δ → Pd} {bd : Gm → α → Gm} {xs : β → List α} {Δ1 : β → Δs} {C : β → S → Δs} {s0 : β → S} {f : β → α → S → Option (Option δ × S)}
    {c : β → α → S → β2 → Bool} {s2 : β → α → S → β2 → S} {T2 : β → α → S → β2 → Option (Option δ × S)} {y : β → α → S → β2 → β3 → δ} {s3 : β → α → S → β2 → β3 → S} (nd : X.N.Nodup)
    (hi : PI X tg iter (tI W F Γ Δ T (fun b => (compM (xs b) (s0 b) (f b)).bind fun r => k (b, r)) Ex xs Δ1)) (ok : BlkOk X.N X.env.scope scope own) (hg : Blk X scope fun Y => PG Y tg g) (ht : TgtW g Ex bd (own.map (·.2))) (h0 : ∀ b, Δ1 b = C b (s0 b))
    (hc : ∀ d, Blk X scope fun Y => ∀ b x s, PTs Y ifs (tTs W F (bd (wipeG Γ (own.map (·.2))) x) (C b s ++ [d]) (f b x s) (fun b2 => if c b x s b2 = true then T2 b x s b2 else some (none, s2 b x s b2)) (c b x s) fun b2 => C b (s2 b x s b2) ++ [d]))
    (he : ∀ d, Blk X scope fun Y => ∀ b x s b2, PE Y elt (tE W F (bd (wipeG Γ (own.map (·.2))) x) (C b (s2 b x s b2) ++ [d]) (T2 b x s b2) (fun b3 => some (some (y b x s b2 b3), s3 b x s b2 b3)) (fun b3 => Ee (y b x s b2 b3)) fun b3 => C b (s3 b x s b2 b3) ++ [d]))
    (hcm : X.calm = true := by rfl) (hs : ∀ x, foldedSetIterable iter X.env x = pure x := by intro _; rfl) :
    PE X (.ListComp elt [⟨tg, iter, ifs, 0⟩] scope pos) (tO W F Γ Δ T k (fun b => oL Ee b.2.1) fun b => C b.1 b.2.2) :=
  x_lc0 (out := fun b => b.2.1) nd hi (fun _ _ h => bind_some h) (fun _ _ _ => rfl) ok hg ht h0 hc he hcm hs
theorem a_lc {elt tg iter : Expr} {ifs : List Expr} {scope : Scope} {own : List (Str × Nat)} {pos py spos : Pos} {i : Nat} {yv : Str} {g : TG} {α β β2 β3 δ S : Type} {T : Option γ} {k : β × (List δ × S) → Option γ} {Ex : α → Pd} {Ee : δ → Pd} {bd : Gm → α → Gm} {xs : β → List α} {Δ1 : β → Δs} {C : β → S → Δs} {s0 : β → S} {f : β → α → S → Option (Option δ × S)}
    {c : β → α → S → β2 → Bool} {s2 : β → α → S → β2 → S} {T2 : β → α → S → β2 → Option (Option δ × S)} {y : β → α → S → β2 → β3 → δ} {s3 : β → α → S → β2 → β3 → S} (nd : X.N.Nodup)
    (hi : PI X tg iter (tI W F Γ Δ T (fun b => (compM (xs b) (s0 b) (f b)).bind fun r => k (b, r)) Ex xs Δ1)) (ok : BlkOk X.N X.env.scope scope own) (hg : Blk X scope fun Y => PG Y tg g) (ht : TgtW g Ex bd (own.map (·.2))) (h0 : ∀ b, Δ1 b = C b (s0 b))
    (hc : ∀ d, Blk X scope fun Y => ∀ b x s, PTs Y ifs (tTs W F (bd (wipeG Γ (own.map (·.2))) x) (C b s ++ [d]) (f b x s) (fun b2 => if c b x s b2 = true then T2 b x s b2 else some (none, s2 b x s b2)) (c b x s) fun b2 => C b (s2 b x s b2) ++ [d]))
    (he : ∀ d, Blk X scope fun Y => ∀ b x s b2, PE Y elt (tE W F (bd (wipeG Γ (own.map (·.2))) x) (C b (s2 b x s b2) ++ [d]) (T2 b x s b2) (fun b3 => some (some (y b x s b2 b3), s3 b x s b2 b3)) (fun b3 => Ee (y b x s b2 b3)) fun b3 => C b (s3 b x s b2 b3) ++ [d]))
    (hsw : swapsWith (.ListComp elt [⟨tg, iter, ifs, 0⟩] scope pos) (some (.Name yv py)) spos.line X.env = pure true) (hy : X.N[i]? = some yv := by rfl) (hyl : X.env.scope.names.lookup yv = some .local := by rfl) (hcm : X.calm = true := by rfl) (hs : ∀ x, foldedSetIterable iter X.env x = pure x := by intro _; rfl) :
    PS X (.Assign [.Name yv py] (.ListComp elt [⟨tg, iter, ifs, 0⟩] scope pos) spos) (tAsg (tO W F Γ Δ T k (fun b => oL Ee b.2.1) fun b => C b.1 b.2.2) (gName i)) :=
  a_lc0 (out := fun b => b.2.1) nd hi (fun _ _ h => bind_some h) (fun _ _ _ => rfl) ok hg ht h0 hc he hsw hy hyl hcm hs
theorem pts_T {Y : Cx} {Γ : Gm} {Δ : Δs} {T : Option γ} : PTs Y [] (tTs W F Γ Δ T (fun _ : Unit => T) (fun _ => true) fun _ => Δ) := ⟨fun pins s σ H Q I ⟨ok, g, e, q⟩ => pts_nil.run pins s σ H Q I (q () H e (St.refl H) ok)⟩
end
end L3
end
section
set_option maxHeartbeats 4000000
namespace L3
open PySem PySem.Spec PyProof.Rows L2
section
variable {X : Cx} {W : Bool} {F : Fm} {Γ : Gm} {Δ : Δs} {γ : Type}
structure Flat {α : Type} [DecidableEq α] (E : α → Pd) where
  mp : α → V
  eq : ∀ {x H v}, (E x).pr H v → v = mp x
  rel : ∀ {x H}, (E x).pr H (mp x)
  fl : ∀ x, flatV (mp x) = true
  one : ∀ x y, eqV (mp x) (mp y) = decide (x = y)
def flStr : Flat pStr := ⟨V.str, fun h => h, rfl, fun _ => rfl, fun x y => by show (x == y) = _; by_cases h : x = y <;> simp [h]⟩
def flBl : Flat pBl := ⟨V.bl, fun h => h, rfl, fun _ => rfl, fun x y => by show (x == y) = _; by_cases h : x = y <;> simp [h]⟩
theorem flat_vals {α : Type} {E : α → Pd} [DecidableEq α] (fl : Flat E) {H : Hp} : ∀ {xs : List α} {vs : List V}, Paired (fun x u => (E x).pr H u) xs vs → vs = xs.map fl.mp
  | _, _, .nil => rfl
  | _, _, .cons r t => by rw [List.map_cons, ← flat_vals fl t, fl.eq r]
theorem flat_in {α : Type} {E : α → Pd} [DecidableEq α] (fl : Flat E) (i : α) : ∀ xs : List α, inV (fl.mp i) (xs.map fl.mp) = decide (i ∈ xs)
  | [] => by simp [inV]
  | x :: xs => by
    have ih := flat_in fl i xs
    unfold inV at ih ⊢
    rw [List.map_cons, List.any_cons, ih, fl.one]
    by_cases h : x = i
    · simp [h]
    · have h2 : ¬ i = x := fun z => h z.symm
      simp [h, h2]
theorem flat_all {α : Type} {E : α → Pd} [DecidableEq α] (fl : Flat E) : ∀ xs : List α, (xs.map fl.mp).all flatV = true
  | [] => rfl
  | x :: xs => by rw [List.map_cons, List.all_cons, fl.fl, flat_all fl xs]; rfl
section
variable {a b : Expr} {pos : Pos} {β1 β2 α : Type} [DecidableEq α] {T : Option γ} {k1 : β1 → Option γ} {k : β1 × β2 → Option γ} {Δ1 : β1 → Δs} {Δ2 : β1 → β2 → Δs} {Ee : α → Pd} {i : β1 → α} {E2 : β1 → β2 → Pd} {xs : β1 → β2 → List α}
theorem v_inL (fl : Flat Ee) {neg : Bool} (rd : ∀ b1 b2, RdL (Δ2 b1 b2) (E2 b1 b2) Ee (xs b1 b2)) : ∀ b1 b2 σ v w H Q, Ok F Γ (Δ2 b1 b2) σ H → (Ee (i b1)).pr H v → (E2 b1 b2).pr H w → (∀ u, (pBl (if neg then !decide (i b1 ∈ xs b1 b2) else decide (i b1 ∈ xs b1 b2))).pr H u → Q u H) → rIn X.K neg v w H Q :=
  fun b1 b2 σ v w H Q ok hv hw q => by
    obtain ⟨p, vs, ev, sq, _, pr⟩ := (rd b1 b2 F H w ok.hk hw).sq (K := X.K)
    have e1 := flat_vals fl pr
    subst e1
    have e2 := fl.eq hv
    subst e2
    refine ⟨p, _, ev, .inl sq, fl.fl _, flat_all fl _, ?_⟩
    rw [flat_in fl]
    exact q _ rfl
theorem t_inL (fl : Flat Ee) (ha : PE X a (tE W F Γ Δ T k1 (fun b => Ee (i b)) Δ1)) (hb : ∀ b1, PE X b (tE W F Γ (Δ1 b1) (k1 b1) (fun b2 => k (b1, b2)) (E2 b1) (Δ2 b1))) (rd : ∀ b1 b2, RdL (Δ2 b1 b2) (E2 b1 b2) Ee (xs b1 b2)) (hm : behindInMarks .In b = false := by rfl) :
    PT X (.Compare a [.In] [b] pos) (tTs W F Γ Δ T k (fun b => decide (i b.1 ∈ xs b.1 b.2)) fun b => Δ2 b.1 b.2) := t2t (bt_cmp op_in_seq hm) ha hb (v_inL (neg := false) fl rd)
theorem t_ninL (fl : Flat Ee) (ha : PE X a (tE W F Γ Δ T k1 (fun b => Ee (i b)) Δ1)) (hb : ∀ b1, PE X b (tE W F Γ (Δ1 b1) (k1 b1) (fun b2 => k (b1, b2)) (E2 b1) (Δ2 b1))) (rd : ∀ b1 b2, RdL (Δ2 b1 b2) (E2 b1 b2) Ee (xs b1 b2)) (hm : behindInMarks .NotIn b = false := by rfl) :
    PT X (.Compare a [.NotIn] [b] pos) (tTs W F Γ Δ T k (fun b => !decide (i b.1 ∈ xs b.1 b.2)) fun b => Δ2 b.1 b.2) := t2t (bt_cmp op_notIn_seq hm) ha hb (v_inL (neg := true) fl rd)
theorem v_eqF (fl : Flat Ee) (sc : ∀ x y, scal (fl.mp x) (fl.mp y) = true) (inj : ∀ x y, fl.mp x = fl.mp y → x = y) {j : β1 → β2 → α} : ∀ b1 b2 σ v w H Q, Ok F Γ (Δ2 b1 b2) σ H → (Ee (i b1)).pr H v → (Ee (j b1 b2)).pr H w → (∀ u, (pBl (decide (i b1 = j b1 b2))).pr H u → Q u H) → rEq v w H Q :=
  fun b1 b2 σ v w H Q ok hv hw q => by
    rw [fl.eq hv, fl.eq hw]
    refine ⟨sc _ _, q _ ?_⟩
    show V.bl _ = V.bl _
    congr 1
    by_cases z : i b1 = j b1 b2
    · rw [z]; simp
    · rw [decide_eq_false z, decide_eq_false fun y => z (inj _ _ y)]
end
section
variable {a b : Expr} {pos : Pos} {β1 β2 : Type} {T : Option γ} {k1 : β1 → Option γ} {k : β1 × β2 → Option γ} {Δ1 : β1 → Δs} {Δ2 : β1 → β2 → Δs} {i : β1 → Str} {j : β1 → β2 → Str} {c : β1 → Bool} {d : β1 → β2 → Bool}
theorem t_eqS (ha : PE X a (tE W F Γ Δ T k1 (fun b => pStr (i b)) Δ1)) (hb : ∀ b1, PE X b (tE W F Γ (Δ1 b1) (k1 b1) (fun b2 => k (b1, b2)) (fun b => pStr (j b1 b)) (Δ2 b1))) : PT X (.Compare a [.Eq] [b] pos) (tTs W F Γ Δ T k (fun b => decide (i b.1 = j b.1 b.2)) fun b => Δ2 b.1 b.2) := t2t (bt_cmp op_eq (nomark _)) ha hb (v_eqF flStr (fun _ _ => rfl) fun _ _ h => V.str.inj h)
theorem t_eqB (ha : PE X a (tE W F Γ Δ T k1 (fun b => pBl (c b)) Δ1)) (hb : ∀ b1, PE X b (tE W F Γ (Δ1 b1) (k1 b1) (fun b2 => k (b1, b2)) (fun b => pBl (d b1 b)) (Δ2 b1))) : PT X (.Compare a [.Eq] [b] pos) (tTs W F Γ Δ T k (fun b => decide (c b.1 = d b.1 b.2)) fun b => Δ2 b.1 b.2) := t2t (bt_cmp op_eq (nomark _)) ha hb (v_eqF flBl (fun _ _ => rfl) fun _ _ h => V.bl.inj h)
end
def dtInt : Dt pInt := ⟨.int, fun h => by rw [h]; exact .int _, 0, fun _ => rfl, fun _ => Nat.le_refl 0, fun x y => by show (x == y) = _; by_cases h : x = y <;> simp [h]⟩
theorem can_all {α : Type} {E : α → Pd} [DecidableEq α] (d : Dt E) : ∀ xs : List α, PyData.canLayAll0 (xs.map d.toD) = true
  | [] => rfl
  | x :: xs => by
    show (PyData.canLay0 (d.toD x) && PyData.canLayAll0 (xs.map d.toD)) = true
    rw [d.can, can_all d xs]; rfl
theorem deep_all {α : Type} {E : α → Pd} [DecidableEq α] (d : Dt E) : ∀ xs : List α, PyData.depthAll (xs.map d.toD) ≤ d.dep
  | [] => Nat.zero_le _
  | x :: xs => Nat.max_le.mpr ⟨d.deep x, deep_all d xs⟩
theorem eqv_all {α : Type} {E : α → Pd} [DecidableEq α] (d : Dt E) : ∀ xs ys : List α, PyData.eqvAll (xs.map d.toD) (ys.map d.toD) = decide (xs = ys)
  | [], [] => rfl
  | [], _ :: _ => rfl
  | _ :: _, [] => rfl
  | x :: xs, y :: ys => by
    show (PyData.eqv (d.toD x) (d.toD y) && PyData.eqvAll (xs.map d.toD) (ys.map d.toD)) = _
    rw [d.eq, eqv_all d xs ys]
    by_cases h : x = y <;> by_cases h2 : xs = ys <;> simp [h, h2]
section
variable {a b : Expr} {pos : Pos} {β1 β2 α : Type} [DecidableEq α] {T : Option γ} {k1 : β1 → Option γ} {k : β1 × β2 → Option γ} {Δ1 : β1 → Δs} {Δ2 : β1 → β2 → Δs} {Ee : α → Pd} {E1 : β1 → Pd} {E2 : β1 → β2 → Pd} {xs ys : β1 → β2 → List α}
theorem shaped_l {α : Type} {E : α → Pd} [DecidableEq α] (d : Dt E) (hd : d.dep < 60) (xs : List α) : SeqAt.shaped (.list (xs.map d.toD)) = true := by
  show (PyData.canLayAll0 (xs.map d.toD) && decide (PyData.depthAll (xs.map d.toD) + 1 ≤ 64)) = true
  rw [can_all d xs, decide_eq_true (by have := deep_all d xs; omega)]; rfl
theorem v_eqL (d : Dt Ee) (hd : d.dep < 60) (r1 : ∀ b1 b2, RdL (Δ2 b1 b2) (E1 b1) Ee (xs b1 b2)) (r2 : ∀ b1 b2, RdL (Δ2 b1 b2) (E2 b1 b2) Ee (ys b1 b2)) : ∀ b1 b2 σ v w H Q, Ok F Γ (Δ2 b1 b2) σ H → (E1 b1).pr H v → (E2 b1 b2).pr H w → (∀ u, (pBl (decide (xs b1 b2 = ys b1 b2))).pr H u → Q u H) → rEqD X.K v w H Q :=
  fun b1 b2 σ v w H Q ok hv hw q => ⟨_, _, (r1 b1 b2 F H v ok.hk hv).dp d, (r2 b1 b2 F H w ok.hk hw).dp d, shaped_l d hd _, shaped_l d hd _, by
    show Q (.bl (PyData.eqvAll _ _)) H
    rw [eqv_all d]
    exact q _ rfl⟩
theorem x_eqL (hu : X.A.units + 64 < cLine) (d : Dt Ee) (ha : PE X a (tE W F Γ Δ T k1 E1 Δ1)) (hb : ∀ b1, PE X b (tE W F Γ (Δ1 b1) (k1 b1) (fun b2 => k (b1, b2)) (E2 b1) (Δ2 b1))) (r1 : ∀ b1 b2, RdL (Δ2 b1 b2) (E1 b1) Ee (xs b1 b2)) (r2 : ∀ b1 b2, RdL (Δ2 b1 b2) (E2 b1 b2) Ee (ys b1 b2)) (hd : d.dep < 60 := by decide) :
    PE X (.Compare a [.Eq] [b] pos) (tE W F Γ Δ T k (fun b => pBl (decide (xs b.1 b.2 = ys b.1 b.2))) fun b => Δ2 b.1 b.2) := x2t (b_cmp (op_eqD hu) (nomark _)) ha hb (v_eqL d hd r1 r2)
end
end
end L3
end
section
set_option maxHeartbeats 4000000
namespace L3
open PySem PySem.Spec PyProof.Rows L2
def cutL {α : Type} (xs : List α) (lo hi : Option Int) : List α := (xs.drop (HT.sIx xs.length 0 lo)).take (HT.sIx xs.length xs.length hi - HT.sIx xs.length 0 lo)
theorem cutL_len {α : Type} (xs : List α) (lo hi : Option Int) : (cutL xs lo hi).length ≤ xs.length := by
  unfold cutL
  rw [List.length_take, List.length_drop]
  omega
theorem paired_cut {α : Type} {P : α → V → Prop} {xs : List α} {vs : List V} (h : Paired P xs vs) (lo hi : Option Int) : Paired P (cutL xs lo hi) (cutV vs lo hi) := by
  unfold cutL cutV
  rw [← paired_len h]
  exact paired_take _ (paired_drop _ h)
def srt (xs : List Int) : List Int := xs.mergeSort fun a b => decide (a ≤ b)
theorem srt_perm (xs : List Int) : (srt xs).Perm xs := List.mergeSort_perm _ _
theorem srt_le (xs : List Int) : (srt xs).Pairwise (· ≤ ·) := by
  have h := List.pairwise_mergeSort (le := fun a b : Int => decide (a ≤ b)) (fun a b c h1 h2 => by
    have h1 := of_decide_eq_true h1
    have h2 := of_decide_eq_true h2
    exact decide_eq_true (by omega)) (fun a b => by
    by_cases h : a ≤ b
    · simp [h]
    · have : b ≤ a := by omega
      simp [this]) xs
  exact h.imp fun h => of_decide_eq_true h
theorem sorted_eq : ∀ {xs ys : List Int}, xs.Perm ys → xs.Pairwise (· ≤ ·) → ys.Pairwise (· ≤ ·) → xs = ys
  | [], ys, p, _, _ => (List.nil_perm.mp p).symm ▸ rfl
  | x :: xs, [], p, _, _ => (List.perm_nil.mp p)
  | x :: xs, y :: ys, p, hx, hy => by
    have e : x = y := by
      have m1 : x ∈ y :: ys := p.mem_iff.mp List.mem_cons_self
      have m2 : y ∈ x :: xs := p.mem_iff.mpr List.mem_cons_self
      have l1 : y ≤ x := by
        rcases List.mem_cons.mp m1 with h | h
        · omega
        · exact (List.pairwise_cons.mp hy).1 x h
      have l2 : x ≤ y := by
        rcases List.mem_cons.mp m2 with h | h
        · omega
        · exact (List.pairwise_cons.mp hx).1 y h
      omega
    subst e
    rw [sorted_eq (List.Perm.cons_inv p) (List.pairwise_cons.mp hx).2 (List.pairwise_cons.mp hy).2]
section
variable {X : Cx} {W : Bool} {F : Fm} {Γ : Gm} {Δ : Δs} {γ : Type}
def tPo {β γ : Type} (W : Bool) (F : Fm) (Γ : Gm) (Δ : Δs) (T : Option γ) (k : β → Option γ) (o : β → Option Int) (Δ' : β → Δs) : TO := fun σ H Q =>
  Ok F Γ Δ σ H ∧ ∃ g, T = some g ∧ ∀ b H', k b = some g → St W H H' → Ok F Γ (Δ' b) σ H' → Q (o b) H'
theorem _root_.L2.PO.wk {e : Option Expr} {t t' : TO} (h : PO X e t) (w : ∀ σ H Q, t' σ H Q → t σ H Q) : PO X e t' := ⟨fun pins s σ H Q I q => h.run pins s σ H Q I (w σ H Q q)⟩
theorem po_ex {β : Type} {e : Option Expr} {t : β → TO} (h : ∀ b, PO X e (t b)) : PO X e (fun σ H Q => ∃ b, t b σ H Q) := ⟨fun pins s σ H Q I ⟨b, q⟩ => (h b).run pins s σ H Q I q⟩
theorem p_none {k : Unit → Option γ} : PO X none (tPo W F Γ Δ (k ()) k (fun _ => none) fun _ => Δ) := po_none.wk fun σ H Q ⟨ok, g, e, q⟩ => q () H e (St.refl H) ok
theorem p_some {e : Expr} {β : Type} {T : Option γ} {k : β → Option γ} {i : β → Int} {Δ' : β → Δs} (he : PE X e (tE W F Γ Δ T k (fun b => pInt (i b)) Δ')) : PO X (some e) (tPo W F Γ Δ T k (fun b => some (i b)) Δ') :=
  (po_some he).wk fun σ H Q ⟨ok, g, e, q⟩ => ⟨ok, g, e, fun b v H' kb f ok' hv => ⟨i b, hv, q b H' kb f ok'⟩⟩
section
variable {a : Expr} {lo hi : Option Expr} {p2 pos : Pos} {β1 β2 β3 α : Type} {T : Option γ} {k1 : β1 → Option γ} {k2 : β1 → β2 → Option γ} {k : β1 × β2 × β3 → Option γ} {E1 : β1 → Pd} {Ee : α → Pd} {xs : β1 → β2 → β3 → List α} {o1 : β1 → β2 → Option Int} {o2 : β1 → β2 → β3 → Option Int} {Δ1 : β1 → Δs} {Δ2 : β1 → β2 → Δs} {Δ3 : β1 → β2 → β3 → Δs}
theorem x_slL (ha : PE X a (tE W F Γ Δ T k1 E1 Δ1)) (hl : ∀ b1, PO X lo (tPo W F Γ (Δ1 b1) (k1 b1) (k2 b1) (o1 b1) (Δ2 b1))) (hh : ∀ b1 b2, PO X hi (tPo W F Γ (Δ2 b1 b2) (k2 b1 b2) (fun b3 => k (b1, b2, b3)) (o2 b1 b2) (Δ3 b1 b2))) (rd : ∀ b1 b2 b3, RdL (Δ3 b1 b2 b3) (E1 b1) Ee (xs b1 b2 b3)) :
    PE X (.Subscript a (.Slice lo hi none p2) pos) (tO W F Γ Δ T k (fun b => oL Ee (cutL (xs b.1 b.2.1 b.2.2) (o1 b.1 b.2.1) (o2 b.1 b.2.1 b.2.2))) fun b => Δ3 b.1 b.2.1 b.2.2) :=
  (pe_slice sl_list ha (po_ex hl) (po_ex fun b1 => po_ex fun b2 => hh b1 b2)).wk fun σ H Q ⟨ok, g, e, q⟩ => ⟨ok, g, e, fun b1 v H1 kb1 f1 ok1 hv => ⟨b1, ok1, g, kb1, fun b2 H2 kb2 f2 ok2 => ⟨b1, b2, ok2, g, kb2, fun b3 H3 kb3 f3 ok3 => by
    obtain ⟨p, vs, ev, sq, z, pr⟩ := (rd b1 b2 b3 F H3 v ok3.hk ((E1 b1).mono (f2.fz.trans f3.fz) hv)).sq (K := X.K)
    refine ⟨p, vs, ev, sq, fun n nn => ?_⟩
    have st := (f1.trans f2).trans f3
    obtain ⟨o, g'⟩ := ok3.newL nn (Nat.le_trans (cutL_len _ _ _) z) (paired_cut pr (o1 b1 b2) (o2 b1 b2 b3))
    exact q (b1, b2, b3) _ _ kb3 (st.trans g'.st) (o.since st)⟩⟩⟩
theorem x_slS {z : β1 → Str} (ha : PE X a (tE W F Γ Δ T k1 (fun b => pStr (z b)) Δ1)) (hl : ∀ b1, PO X lo (tPo W F Γ (Δ1 b1) (k1 b1) (k2 b1) (o1 b1) (Δ2 b1))) (hh : ∀ b1 b2, PO X hi (tPo W F Γ (Δ2 b1 b2) (k2 b1 b2) (fun b3 => grd ((z b1).length ≤ sizeLine) (k (b1, b2, b3))) (o2 b1 b2) (Δ3 b1 b2))) :
    PE X (.Subscript a (.Slice lo hi none p2) pos) (tE W F Γ Δ T k (fun b => pStr (cutS (z b.1) (o1 b.1 b.2.1) (o2 b.1 b.2.1 b.2.2))) fun b => Δ3 b.1 b.2.1 b.2.2) :=
  (pe_slice sl_str ha (po_ex hl) (po_ex fun b1 => po_ex fun b2 => hh b1 b2)).wk fun σ H Q ⟨ok, g, e, q⟩ => ⟨ok, g, e, fun b1 v H1 kb1 f1 ok1 hv => ⟨b1, ok1, g, kb1, fun b2 H2 kb2 f2 ok2 => ⟨b1, b2, ok2, g, kb2, fun b3 H3 kb3 f3 ok3 => by
    obtain ⟨c, kb⟩ := grd_some kb3
    exact ⟨z b1, hv, c, q (b1, b2, b3) _ H3 kb ((f1.trans f2).trans f3) ok3 rfl⟩⟩⟩⟩
end
section
variable {a : Expr} {β α : Type} {T : Option γ} {k : β → Option γ} {E1 : β → Pd} {Ee : α → Pd} {xs : β → List α} {Δ1 : β → Δs}
variable {p pos : Pos}
theorem x_all {xs : β → List Bool} (hm : X.mg "all" = none) (ha : PE X a (tE W F Γ Δ T k E1 Δ1)) (rd : ∀ b, RdL (Δ1 b) (E1 b) pBl (xs b)) (hg : Gl X "all" := by rfl) (hs : starEach [a] X.env = (false, eval a X.env) :: starEach [] X.env := by rfl) (hc : X.calm = true := by rfl) : PE X (.Call (.Name "all" p) [a] [] pos) (tE W F Γ Δ T k (fun b => pBl ((xs b).all id)) Δ1) :=
  x1t (u_callB (cr_all hc) hg hm (by decide +kernel) (by decide) (by decide) hs) ha fun b σ v H Q ok hv q => by
    obtain ⟨p, vs, ev, sq, z, pr⟩ := (rd b F H v ok.hk hv).sq (K := X.K)
    have e := paired_bls pr
    subst e
    rw [ev]
    exact ⟨p, xs b, rfl, sq, q _ rfl⟩
theorem x_sum {xs : β → List Int} (hm : X.mg "sum" = none) (ha : PE X a (tE W F Γ Δ T k E1 Δ1)) (rd : ∀ b, RdL (Δ1 b) (E1 b) pInt (xs b)) (hg : Gl X "sum" := by rfl) (hs : starEach [a] X.env = (false, eval a X.env) :: starEach [] X.env := by rfl) (hc : X.calm = true := by rfl) : PE X (.Call (.Name "sum" p) [a] [] pos) (tE W F Γ Δ T k (fun b => pInt (xs b).sum) Δ1) :=
  x1t (u_callB (cr_sum hc) hg hm (by decide +kernel) (by decide) (by decide) hs) ha fun b σ v H Q ok hv q => by
    obtain ⟨p, vs, ev, sq, z, pr⟩ := (rd b F H v ok.hk hv).sq (K := X.K)
    have e := paired_ints pr
    subst e
    rw [ev]
    exact ⟨p, xs b, rfl, sq, q _ rfl⟩
end
section
variable {a : Expr} {i : Int} {n : Nat} {p pos : Pos} {β α1 α2 α3 : Type} {T : Option γ} {k : β → Option γ} {A : α1 → Pd} {B : α2 → Pd} {C : α3 → Pd} {Δ1 : β → Δs}
theorem x_fst {x : β → α1 × α2} (ha : PE X a (tE W F Γ Δ T k (fun b => pT2 A B (x b)) Δ1)) : PE X (.Subscript a (.Constant (.int 0) n p) pos) (tE W F Γ Δ T k (fun b => A (x b).1) Δ1) :=
  (pe_ix ix_tup ha pe_int (fun _ _ => rfl)).wk fun σ H Q ⟨ok, g, e, q⟩ => ⟨ok, g, e, fun b v H1 kb f ok1 ⟨t, u, w, ev, h, p1, p2⟩ => ⟨t, [u, w], 0, u, ev, rfl, .inl (.inl h), rfl, q b u H1 kb f ok1 p1⟩⟩
theorem x_snd {x : β → α1 × α2} (ha : PE X a (tE W F Γ Δ T k (fun b => pT2 A B (x b)) Δ1)) : PE X (.Subscript a (.Constant (.int 1) n p) pos) (tE W F Γ Δ T k (fun b => B (x b).2) Δ1) :=
  (pe_ix ix_tup ha pe_int (fun _ _ => rfl)).wk fun σ H Q ⟨ok, g, e, q⟩ => ⟨ok, g, e, fun b v H1 kb f ok1 ⟨t, u, w, ev, h, p1, p2⟩ => ⟨t, [u, w], 1, w, ev, rfl, .inl (.inl h), rfl, q b w H1 kb f ok1 p2⟩⟩
end
def rCatR (K : PySem.W.Frag) : R2 := fun x y H Q => ∃ l b xs zs, x = .ref l ∧ y = .ref b ∧ Rd H l (.lst xs) ∧ Rd H b (.lst zs) ∧ xs.length + zs.length ≤ sizeLine ∧ ∀ p, H p = none → Q (.ref p) (upd H p (.lst (xs ++ zs)))
theorem op_catR : OpR X (binaryOp .Add) (rCatR X.K) := fun pins s σ H x y v u Q I rx ry ⟨l, b, xs, zs, ex, ey, hl, hb, hz, q⟩ => by
  subst ex ey
  have e1 : v = Value.ref l := rx
  have e2 : u = Value.ref b := ry
  subst e1 e2
  obtain ⟨z1, i1, n1, r1, g1⟩ := (show ObjOk X.prog X.w H s.heap l (.lst xs) from hl.ok I.hok)
  obtain ⟨z2, i2, n2, r2, g2⟩ := (show ObjOk X.prog X.w H s.heap b (.lst zs) from hb.ok I.hok)
  have l1 := r1.length
  have l2 := r2.length
  refine PySem.P.add_list g1 g2 ?_ (by simp only [List.size_toArray]; omega)
  rw [show i1.toArray ++ i2.toArray = (i1 ++ i2).toArray by simp]
  exact ⟨.ref _, _, I.lnew (t' := s.toks) (r1.append r2) (by simp only [List.length_append]; omega), rfl, q _ I.fresh⟩
section
variable {a b : Expr} {pos : Pos} {β1 β2 α : Type} {T : Option γ} {k1 : β1 → Option γ} {k : β1 × β2 → Option γ} {Δ1 : β1 → Δs} {Δ2 : β1 → β2 → Δs} {Ee : α → Pd} {E1 : β1 → Pd} {E2 : β1 → β2 → Pd} {xs ys : β1 → β2 → List α}
theorem x_cat (ha : PE X a (tE W F Γ Δ T k1 E1 Δ1)) (hb : ∀ b1, PE X b (tE W F Γ (Δ1 b1) (k1 b1) (fun b2 => grd ((xs b1 b2).length + (ys b1 b2).length ≤ sizeLine) (k (b1, b2))) (E2 b1) (Δ2 b1))) (r1 : ∀ b1 b2, RdL (Δ2 b1 b2) (E1 b1) Ee (xs b1 b2)) (r2 : ∀ b1 b2, RdL (Δ2 b1 b2) (E2 b1 b2) Ee (ys b1 b2)) :
    PE X (.BinOp a .Add b pos) (tO W F Γ Δ T k (fun b => oL Ee (xs b.1 b.2 ++ ys b.1 b.2)) fun b => Δ2 b.1 b.2) :=
  x2_core (b_op op_catR) ha hb fun σ H Q ⟨ok, g, e, q⟩ => ⟨ok, g, e, fun b1 b2 v w H2 kb f ok2 hv hw => by
    obtain ⟨c, kb⟩ := grd_some kb
    obtain ⟨l, vs, ev, rv, zv, pv⟩ := r1 b1 b2 F H2 v ok2.hk hv
    obtain ⟨m, ws, ew, rw', zw, pw⟩ := r2 b1 b2 F H2 w ok2.hk hw
    refine ⟨l, m, vs, ws, ev, ew, rv, rw', by rw [← paired_len pv, ← paired_len pw]; exact c, fun n nn => ?_⟩
    obtain ⟨o, g'⟩ := ok2.newL nn (by rw [List.length_append]; exact c) (paired_app pv pw)
    exact q (b1, b2) _ _ kb (f.trans g'.st) (o.since f)⟩
end
section
variable {o e : Expr} {apos cpos : Pos} {β1 β2 α : Type} {T : Option γ} {k1 : β1 → Option γ} {k : β1 × β2 → Option γ} {Δ1 : β1 → Δs} {Δ2 : β1 → β2 → Δs} {Ee : α → Pd} {xs : β1 → β2 → List α} {y : β1 → β2 → α} {v : V} {prm : Option Nat}
theorem x_app (j : Nat) (ho : PE X o (tE true F Γ Δ T k1 (fun _ => pV v) Δ1)) (he : ∀ b1, PE X e (tE true F Γ (Δ1 b1) (k1 b1) (fun b2 => grd ((xs b1 b2).length < sizeLine) (k (b1, b2))) (fun b2 => Ee (y b1 b2)) (Δ2 b1))) {xs0 : β1 → List α} {prm0 : Option Nat} (hj0 : ∀ b1, (Δ1 b1)[j]? = some ⟨v, oL Ee (xs0 b1), prm0⟩)
    (hj : ∀ b1 b2, (Δ2 b1 b2)[j]? = some ⟨v, oL Ee (xs b1 b2), prm⟩)
    (hbase : attributeBase o "append" X.env (eval o X.env) = eval o X.env := by rfl) (hline : (apos.endLine == cpos.line) = true := by rfl) (hs : starEach [e] X.env = (false, eval e X.env) :: starEach [] X.env := by rfl)
    (hfew : ((backTo cpos (starEach [e] X.env)).all (fun x => !x.1) && (backToKw cpos (keywordEach [] X.env)).all (fun x => x.1.isSome) && decide ([e].length + ([] : List Keyword).length + (if ([] : List Keyword).isEmpty then 0 else 1) < 30)) = true := by rfl) :
    PE X (.Call (.Attribute o "append" apos) [e] [] cpos) (tE true F Γ Δ T k (fun _ => pNon) fun b => (Δ2 b.1 b.2).set j ⟨v, oL Ee (xs b.1 b.2 ++ [y b.1 b.2]), prm⟩) :=
  (pe_bm PySem.F.plainAttrs_list PySem.F.slot_list_append PySem.F.type_list_append mt_append ho (pa_cons (pe_ex he) pa_nil hs) hbase hfew hline hs).wk fun σ H Q ⟨ok, g, e, q⟩ => ⟨ok, g, e, fun b1 u H1 kb1 f1 ok1 hu => by
    have hu : u = v := hu
    subst hu
    obtain ⟨_, p0, vs0, _, ev0, hp0, _, _⟩ := ok1.hk.at (hj0 b1)
    have ev0 : u = .ref p0 := ev0
    refine ⟨by rw [ev0]; exact .inl ⟨rfl, vs0, .inl (.inl hp0)⟩, b1, ok1, g, kb1, fun b2 w H2 kb2 f2 ok2 hw => ?_⟩
    obtain ⟨c, kb⟩ := grd_some kb2
    obtain ⟨G, ⟨p, vs, eG, ev, hp, z, pr⟩, _, turn⟩ := ok2.cell (hj b1 b2)
    have fzm : Fzs H2 (upd H2 p (.lst (vs ++ [w]))) := Fzs.mut hp fun z => z
    obtain ⟨ok3, f3⟩ := turn (upd H2 p (.lst (vs ++ [w]))) (oL Ee (xs b1 b2 ++ [y b1 b2])) (fun a o na e => by
      rw [upd_ne fun z => na (by rw [eG, z]; exact List.mem_singleton.mpr rfl)]; exact e)
      ⟨p, vs ++ [w], eG, ev, upd_same, by rw [List.length_append, List.length_singleton]; omega, paired_app (paired_mono (fun x _ => (Ee x).mono fzm) pr) (.cons ((Ee _).mono fzm hw) .nil)⟩
    exact ⟨p, vs, w, ev, rfl, hp, by rw [← paired_len pr]; exact c, q (b1, b2) .non _ kb ((f1.trans f2).trans f3) ok3 rfl⟩⟩
end
section
variable {a : Expr} {pos p : Pos} {j : Nat} {β α : Type} {T : Option γ} {k : β → Option γ} {Ee : α → Pd} {x : β → Option α} {Δ1 : β → Δs}
def TyP (Δ : Δs) (p : Pd) (t : String) : Prop := ∀ K F H v, Hk F Δ H → p.pr H v → TyX K H v (.type t)
theorem tyInt {i : Int} : TyP Δ (pInt i) "int" := fun _ _ _ _ _ h => by rw [h]; exact .base (.int _)
theorem tyStr {i : Str} : TyP Δ (pStr i) "str" := fun _ _ _ _ _ h => by rw [h]; exact .base (.str _)
theorem tyL {α : Type} {E : α → Pd} {xs : List α} : TyP Δ (pL E xs) "list" := fun _ _ _ _ _ ⟨_, _, _, e, h, _⟩ => by rw [e]; exact .base (.frz h)
theorem tyT2 {α β : Type} {A : α → Pd} {B : β → Pd} {x : α × β} : TyP Δ (pT2 A B x) "tuple" := fun _ _ _ _ _ ⟨_, _, _, e, h, _⟩ => by rw [e]; exact .base (.tup h)
theorem x_isi {E1 : β → Pd} {cls : Str} {cn : String} {p1 p2 : Pos} (t : β → String) (r : β → Bool) (hm : X.mg "isinstance" = none) (hm2 : X.mg cls = none) (ha : PE X a (tE W F Γ Δ T k E1 Δ1)) (ty : ∀ b, TyP (Δ1 b) (E1 b) (t b)) (hr : ∀ b, kitB (t b) cn = some (r b)) (hb : bootBuiltins cls = some (.type cn)) (hg : Gl X "isinstance" := by rfl) (hg2 : Gl X cls := by rfl)
    (hn : cls ≠ "__name__" := by decide) (hdb : (cls == ("__debug__" : Str)) = false := by decide) (hs : starEach [a, .Name cls p2] X.env = (false, eval a X.env) :: starEach [.Name cls p2] X.env := by rfl) (hs2 : starEach [.Name cls p2] X.env = (false, eval (.Name cls p2) X.env) :: starEach [] X.env := by rfl) (hpl : (backTo pos (starEach [.Name cls p2] X.env)).any (·.1) = false := by rfl) :
    PE X (.Call (.Name "isinstance" p1) [a, .Name cls p2] [] pos) (tE W F Γ Δ T k (fun b => pBl (r b)) Δ1) :=
  (b_callB call_isi hg hm boot_isinstance (by decide) (by decide) hs hs2 hpl _ _ ha (pe_bltn (v := .ty cn) hg2 hm2 hb rfl hn hdb)).wk fun σ H Q ⟨ok, g, e, q⟩ => ⟨ok, g, e, fun b v H1 kb f ok1 hv => ⟨v, .ty cn, .type (t b), .type cn, r b, rfl, .ty cn, ty b X.K F H1 v ok1.hk hv, kit_ty (hr b), q b _ H1 kb f ok1 rfl⟩⟩
end
end
end L3
end
section
set_option maxHeartbeats 8000000
namespace L3
open PySem PySem.Spec PyProof.Rows L2
abbrev eSet (w : World) : Obj := { cls := .type "set", dict := none, data := .set #[] 0 (.fresh 0 0 (!w.params.followText "set-order")) }
section
variable {P : Program} {w : World} {A : Around} {E : Value → Shared → Prop} {s : Shared}
theorem set_of_ints {l : Addr} {items : Array Value} (ns : List Int) {Q : Value → Shared → Prop} (hh : A.handled = none) (hl : s.heap.IsList l items) (hit : IntsAre items.toList ns) (hb : ns.length + 1 < scanBound)
    (fin : ∀ (h' : Heap) (tk c : Nat), SetR w h' s.heap.objs.size (fun j => decide (j ∈ ns)) c → c ≤ ns.length → (∀ b o, s.heap.get? b = some o → h'.get? b = some o) → Q (.ref s.heap.objs.size) { s with heap := h', toks := tk }) :
    wpAny (model P w) A (call (.type "set") [.ref l]) Q E s := by
  have size : items.size = ns.length := by have q := IntsAre.length hit; rw [Array.length_toList] at q; exact q
  have cs := PySem.F.called_set
  obtain ⟨c, tl, mro⟩ := cs.mro
  have m1 := cs.made
  have m2 := cs.sub
  refine wpAny_call (codeAny_of_tree (show wpAny _ _ (callAny (.type "set") _) _ _ _ from wpAny_pure ⟨Code.quiet_builtin _ (by decide +kernel), codeAny_builtin PySem.F.entry_type_call ?_⟩))
  rw [Around.under_plain (weight_type_call_type "set" [.ref l] []) rfl]
  have m3 := cs.notType
  have m4 := cs.canCreate
  have m5 := PySem.F.typeCall_set_1 (.ref l)
  repeat (any_goals (first | assumption | wp_step))
  refine codeAny_mono (code_set_led1 (.ref l) (E := E) (Q₁ := fun obj s₁ => obj = .ref s.heap.objs.size ∧ s₁ = { s with heap := s.heap.push (eSet w) }) ⟨rfl, rfl⟩) fun r s₁ hr => ?_
  cases r with
  | error e => exact hr
  | ok fl =>
    cases fl with
    | ret obj =>
      obtain ⟨rfl, rfl⟩ := hr
      have at1 : (s.heap.push (eSet w)).get? s.heap.objs.size = some (eSet w) := Heap.get?_push_size _ rfl
      have ty1 : Shared.TypeIs { s with heap := s.heap.push (eSet w) } (.ref s.heap.objs.size) "set" := ⟨_, at1, rfl⟩
      have m6 := cs.init.lookup
      have m7 := cs.init.bind (.ref s.heap.objs.size)
      repeat (any_goals (first | assumption | wp_step))
      refine codeAny_mono (codeAny_call_builtin (R := wants (fun r s₂ => r = .none ∧ ∃ h' tk c, s₂ = { s with heap := h', toks := tk } ∧ SetR w h' s.heap.objs.size (fun j => decide (j ∈ ns)) c ∧ c ≤ ns.length ∧ (∀ b o, s.heap.get? b = some o → h'.get? b = some o)) E) cs.init.plain PySem.F.entry_set_init (check_set_init_1 ty1 ?_)) fun r₂ s₂ hr₂ => ?_
      · obtain ⟨⟨oc, od, odt, osl⟩, ho, hc, nl, hd⟩ := hl
        simp only at hc hd
        subst hc hd
        have at2 : (s.heap.push (eSet w)).get? l = some { cls := .type "list", dict := od, data := .seq items nl, slots := osl } := Heap.get?_push_of_some _ ho
        have f1 := PySem.F.sub_list_set
        have f2 := PySem.F.sub_list_frozenset
        have f3 : (Value.type "list" == Value.type "dict") = false := by decide
        have il : (s.heap.push (eSet w)).IsList l items := ⟨_, at2, rfl, nl, rfl⟩
        unfold Builtin.«set.__init__» noKeywords Builtin.Frozenset.updateFrom
        generalize hPI : pyIter = PI
        wp_walk
        subst hPI
        refine wpAny_pyIter_list il (wpAny_bind (wpAny_runValue ?_))
        have lt : l < s.heap.objs.size := Heap.lt_size ho
        have h3 : A.in1.in1.in1.handled = none := by simp [hh]
        have sz : (s.heap.push (eSet w)).objs.size = s.heap.objs.size + 1 := Heap.size_push ..
        have ne1 : l ≠ (s.heap.push (eSet w)).objs.size := by rw [sz]; exact Nat.ne_of_lt (Nat.lt_succ_of_lt lt)
        have nf : s.heap.objs.size ∉ [(s.heap.push (eSet w)).objs.size, l] := by
          rw [sz]
          intro hm
          rcases List.mem_cons.mp hm with e | hm
          · exact absurd e (Nat.ne_of_lt (Nat.lt_succ_self _))
          · exact absurd (List.mem_singleton.mp hm) (Nat.ne_of_gt lt)
        have val : ∀ (i : Nat) (v : Value), items[i]? = some v → ∃ k t, ns[i]? = some k ∧ v = .int k t := fun i v hv => by
          have hi : i < ns.length := by rw [← size]; exact (Array.getElem?_eq_some_iff.mp hv).1
          obtain ⟨t, e⟩ := IntsAre.int_at hit i v (by rw [Array.getElem?_toList]; exact hv)
          refine ⟨ns[i], t, List.getElem?_eq_getElem hi, e.trans ?_⟩
          rw [List.getD_eq_getElem?_getD, List.getElem?_eq_getElem hi]; rfl
        refine set_update_ints ((Walks.list h3 _ l ne1 items).toS) s.heap.objs.size nf ns size hb val (items.size - 0) 0 _ (by omega) (Nat.zero_le _) ⟨⟨_, Heap.get?_push_size _ rfl, rfl, rfl⟩, il.push _⟩ ⟨0, Nat.le_refl 0, setR_new_at (Heap.get?_push_of_some _ at1)⟩ ?_
        intro s' c' mv hc' hS'
        obtain ⟨h', g2, d', tk', os'⟩ := s'
        have eg : g2 = s.gens := mv.gens
        have ed : d' = s.drawn := mv.drawn
        have eo : os' = s.os := mv.os
        subst eg ed eo
        show wpAny _ _ _ _ _ _
        refine wpAny_pure (show wpAny _ _ (ret Value.none) _ _ _ from wpAny_pure ⟨rfl, h', tk', c', rfl, hS', by rw [size] at hc'; exact hc', fun b o e => ?_⟩)
        have lb : b < s.heap.objs.size := Heap.lt_size e
        refine mv.heap b o (fun hm => ?_) (Heap.get?_push_of_some _ (Heap.get?_push_of_some _ e))
        rcases List.mem_cons.mp hm with e | hm
        · exact absurd e (Nat.ne_of_lt lb)
        · exact absurd (List.mem_singleton.mp hm) (by rw [sz]; exact Nat.ne_of_lt (Nat.lt_succ_of_lt lb))
      · cases r₂ with
        | error e => exact hr₂
        | ok f2 =>
          cases f2 with
          | ret r =>
            obtain ⟨rfl, h', tk, c', rfl, hS', hc', hk'⟩ := hr₂
            repeat (any_goals (first | assumption | wp_step))
            exact fin _ _ _ hS' hc' hk'
          | _ => exact hr₂.elim
    | _ => exact hr.elim
end
def rSetOf (w : World) : List V → Hp → VK → Prop := fun vs H Q => ∃ (a : Addr) (ns : List Int), vs = [V.ref a] ∧ Rd H a (.lst (ns.map V.int)) ∧ ns.length + 1 < scanBound ∧
  ∀ (p : Addr) (c : Nat), H p = none → c ≤ ns.length → Q (.ref p) (upd H p (SetO w p (fun j => decide (j ∈ ns)) c))
section
variable {X : Cx}
theorem cr_setOf (hc : X.calm = true) : CallR X (.type "set") (rSetOf X.w) := fun pins s σ H vs us Q I r ⟨a, ns, e, hr, hb, q⟩ => by
  subst e
  rw [Vals.ref1 r]
  obtain ⟨its, rv, hl, hz⟩ := I.list (.inl hr)
  refine set_of_ints ns (I.ok.hd hc) hl.isList rv.ints hb fun h' tk c hS hc' kp => ?_
  have hp : H s.heap.objs.size = none := I.hok.fresh (Nat.le_refl _)
  exact ⟨.ref _, upd H s.heap.objs.size (SetO X.w s.heap.objs.size (fun j => decide (j ∈ ns)) c), I.laid (t' := tk) kp (Nat.le_refl _) (setO_new hS), rfl, q _ c hp hc'⟩
variable {W : Bool} {F : Fm} {Γ : Gm} {Δ : Δs} {γ : Type}
def pTrue : Pd := ⟨fun _ _ => True, fun _ h => h⟩
def oSet (w : World) (xs : List Int) : Od where
  pr G H v := ∃ p n, G = [p] ∧ v = .ref p ∧ H p = some (SetO w p (fun j => decide (j ∈ xs)) n) ∧ n ≤ xs.length
  pd := pTrue
  frame := fun ⟨p, n, eg, ev, h, z⟩ k _ => ⟨p, n, eg, ev, k p (by rw [eg]; exact List.mem_singleton.mpr rfl) _ h, z⟩
  cells := fun ⟨p, n, eg, ev, h, z⟩ => one_cells eg h trivial
  lockd := fun _ _ _ => trivial
def sideL (xs : List Int) : List Int := srt xs.eraseDups
section
variable {a : Expr} {p pos : Pos} {β : Type} {T : Option γ} {E1 : β → Pd} {xs : β → List Int} {Δ1 : β → Δs}
theorem x_set {k : β → Option γ} (hm : X.mg "set" = none) (ha : PE X a (tE W F Γ Δ T (fun b => grd ((xs b).length + 1 < scanBound) (k b)) E1 Δ1)) (rd : ∀ b, RdL (Δ1 b) (E1 b) pInt (xs b)) (hg : Gl X "set" := by rfl) (hs : starEach [a] X.env = (false, eval a X.env) :: starEach [] X.env := by rfl) (hc : X.calm = true := by rfl) :
    PE X (.Call (.Name "set" p) [a] [] pos) (tO W F Γ Δ T k (fun b => oSet X.w (xs b)) Δ1) :=
  (u_callTy (cr_setOf hc) hg hm (by decide +kernel) (by decide) (by decide) hs _ ha).wk fun σ H Q ⟨ok, g, e, q⟩ => ⟨ok, g, e, fun b v H' kb f ok' hv => by
    obtain ⟨c, kb⟩ := grd_some kb
    obtain ⟨l, vs, ev, rv, z, pr⟩ := rd b F H' v ok'.hk hv
    have e := paired_ints pr
    subst e
    rw [ev]
    refine ⟨l, xs b, rfl, rv, c, fun n m nn hm => ?_⟩
    have g' : Gr H' (upd H' n (SetO X.w n (fun j => decide (j ∈ xs b)) m)) := Gr.new nn
    exact q b _ _ kb (f.trans g'.st) ((ok'.add (v := .ref n) (d := oSet X.w (xs b)) g' (List.nodup_cons.mpr ⟨List.not_mem_nil, List.nodup_nil⟩) (fun a ha => by rw [List.mem_singleton.mp ha]; exact nn) ⟨n, m, rfl, rfl, upd_same, hm⟩).since f)⟩
end
end
theorem dups_nodup : ∀ xs : List Int, xs.eraseDups.Nodup := fun xs => by
  induction h : xs.length using Nat.strongRecOn generalizing xs with
  | _ n ih =>
    cases xs with
    | nil => simp
    | cons x xs =>
      rw [List.eraseDups_cons]
      refine List.nodup_cons.mpr ⟨fun hm => ?_, ih _ ?_ _ rfl⟩
      · have := List.mem_eraseDups.mp hm
        simp at this
      · have := List.length_filter_le (fun b => !b == x) xs
        simp only [List.length_cons] at h
        omega
theorem sideL_lt (xs : List Int) : (sideL xs).Pairwise (· < ·) := by
  have h1 := srt_le xs.eraseDups
  have h2 : (sideL xs).Nodup := (srt_perm _).nodup_iff.mpr (dups_nodup xs)
  exact (List.pairwise_and_iff.mpr ⟨h1, h2⟩).imp fun ⟨a, b⟩ => by omega
theorem sideL_mem (xs : List Int) (k : Int) : k ∈ sideL xs ↔ k ∈ xs := by
  unfold sideL
  rw [(srt_perm _).mem_iff, List.mem_eraseDups]
theorem lt_uniq : ∀ {xs ys : List Int}, xs.Pairwise (· < ·) → ys.Pairwise (· < ·) → (∀ k, k ∈ xs ↔ k ∈ ys) → xs = ys := fun {xs ys} h1 h2 h => by
  have n1 : xs.Nodup := h1.imp fun h => by omega
  have n2 : ys.Nodup := h2.imp fun h => by omega
  exact sorted_eq ((List.perm_ext_iff_of_nodup n1 n2).mpr h) (h1.imp fun h => by omega) (h2.imp fun h => by omega)
end L3
end
section
set_option maxHeartbeats 8000000
namespace L3
open PySem PySem.Spec PyProof.Rows L2
section
variable {P : Program} {w : World} {A : Around} {E : Value → Shared → Prop} {s : Shared}
theorem sorted_of_set {a : Addr} {S : Int → Bool} {n : Nat} {Q : Value → Shared → Prop} (R : SetR w s.heap a S n) (hh : A.handled = none)
    (hQ : ∀ s' p (out : List Value) (c : Nat) (ns : List Int), (∀ b o, s.heap.get? b = some o → s'.heap.get? b = some o) → s'.gens = s.gens → s'.os = s.os → s.heap.objs.size ≤ p → s'.heap.get? p = some (seqObj "list" out.toArray c) → IntsAre out ns → ns.Pairwise (· < ·) → (∀ k, k ∈ ns ↔ S k = true) → ns.length ≤ sizeLine → Q (.ref p) s') :
    wpAny (model P w) A (call (.builtin "sorted") [.ref a]) Q E s := by
  obtain ⟨o, es, ep, t, ho, hex, hd, good, nd, mem, small, fits, hn, ris, led⟩ := R
  refine Calls.call_function_entry kind_sorted plain_sorted entry_sorted (args_sorted1 _) ?_
  unfold Builtin.«sorted»
  refine wpAny_bind (m := checkCount "sorted" 1 1 _) (wpAny_pure (wpAny_bind (collect_set (A := A.in1) hh ⟨o, ho, hex.1, hd⟩ fits small ris led fun s1 vs k1 hz g1 o1 pm => ?_)))
  have len : vs.length < scanBound := by rw [pm.length_eq, List.length_map, Array.length_toList]; exact small
  have big : vs.length ≤ sizeLine := Nat.le_of_lt (Nat.lt_of_lt_of_le len (by decide))
  have shape : ∀ v ∈ vs, ∃ i t, v = Value.int i t := fun v hv => by
    obtain ⟨e, he, q⟩ := List.mem_map.mp (pm.mem_iff.mp hv)
    obtain ⟨k, tk, h1, _⟩ := good e he
    exact ⟨k, tk, q.symm.trans h1⟩
  have hI : IntsAre vs (vs.map SrtO.iv) := SrtO.ints_iv shape
  have keys : (vs.map SrtO.iv).Perm (es.toList.map keyOf) := by
    have q := pm.map SrtO.iv
    rw [List.map_map] at q
    refine q.trans (List.Perm.of_eq (List.map_congr_left fun e he => ?_))
    obtain ⟨k, tk, h1, h2⟩ := good e he
    show SrtO.iv e.2 = keyOf e
    rw [key_vInt, h1]
    rfl
  refine wpAny_bind (wpAny_newList ?_ big)
  have at1 : (s1.heap.push (seqObj "list" vs.toArray 0)).get? s1.heap.objs.size = some (seqObj "list" vs.toArray 0) := Heap.get?_push_size _ rfl
  refine wpAny_bind (wpAny_holding (wpAny_call_entry slot_list_sort ⟨_, at1, rfl⟩ entry_list_sort (SrtO.list_sort_ord SrtO.swo_int at1 big (fun h2 => SrtO.ints_sortable hI h2) fun out hs hb => ⟨_, rfl, ?_⟩) (args_list_sort _)))
  obtain ⟨i1, i2, i3⟩ := SrtO.ints_out hI hs hb
  have pn := i2.trans keys
  obtain ⟨c, hc⟩ := sortedHeap_at (vs := vs) (out := out.toArray) at1
  refine wpAny_pure ⟨_, rfl, hQ _ s1.heap.objs.size out c (out.map SrtO.iv) (fun b u e => ?_) g1 o1 hz hc i1 ?_ (fun k => by rw [pn.mem_iff, ← mem k]) ?_⟩
  · have q := k1 b u e
    have lt := Heap.lt_size q
    show (sortedHeap (s1.heap.push (seqObj "list" vs.toArray 0)) s1.heap.objs.size vs out.toArray).get? b = some u
    rw [sortedHeap_old (Nat.ne_of_lt lt) (by rw [size_push']; exact Nat.lt_succ_of_lt lt)]
    exact Heap.get?_push_of_some _ q
  · have n2 : (out.map SrtO.iv).Nodup := pn.nodup_iff.mpr nd
    exact (List.pairwise_and_iff.mpr ⟨i3, n2⟩).imp fun ⟨x, y⟩ => by omega
  · rw [pn.length_eq, List.length_map, Array.length_toList]
    exact Nat.le_of_lt (Nat.lt_of_lt_of_le small (by decide))
end
def rSortSet (w : World) : List V → Hp → VK → Prop := fun vs H Q => ∃ (a : Addr) (S : Int → Bool) (n : Nat), vs = [V.ref a] ∧ H a = some (SetO w a S n) ∧
  ∀ (ns : List Int) (p : Addr), ns.Pairwise (· < ·) → (∀ k : Int, k ∈ ns ↔ S k = true) → ns.length ≤ sizeLine → H p = none → Q (.ref p) (upd H p (.lst (ns.map V.int)))
section
variable {X : Cx} {W : Bool} {F : Fm} {Γ : Gm} {Δ : Δs} {γ : Type}
theorem cr_sortSet (hc : X.calm = true) : CallR X (.builtin "sorted") (rSortSet X.w) := fun pins s σ H vs us Q I r ⟨a, S, n, e, ha, q⟩ => by
  subst e
  rw [Vals.ref1 r]
  refine sorted_of_set (setO_get I ha) (I.ok.hd hc) fun s' p out c ns kp hg ho hp hat hi hs hm hl => ?_
  have hn : H p = none := I.hok.fresh hp
  have z : (ns.map V.int).length ≤ sizeLine := by rw [List.length_map]; exact hl
  have J : Inv X pins σ (upd H p (.lst (ns.map V.int))) { s with heap := s'.heap, gens := s'.gens, drawn := s'.drawn, toks := s'.toks } :=
    I.call (ch := []) (Un.laid kp hp hn) (I.hok.laid kp hp ⟨z, out, c, vals_of_ints hi, hat⟩) (by rw [hg]; exact I.bare) (fun _ z => nomatch z)
  have e : s' = { s with heap := s'.heap, gens := s'.gens, drawn := s'.drawn, toks := s'.toks } := by cases s'; cases s; cases ho; rfl
  rw [e]
  exact ⟨.ref p, _, J, rfl, q ns p hs hm hl hn⟩
section
variable {a : Expr} {p pos : Pos} {β : Type} {T : Option γ} {xs : β → List Int} {Δ1 : β → Δs} {k : β → Option γ}
theorem x_sortedSet (hm : X.mg "sorted" = none) (ha : PE X a (tO W F Γ Δ T k (fun b => oSet X.w (xs b)) Δ1)) (hg : Gl X "sorted" := by rfl) (hs : starEach [a] X.env = (false, eval a X.env) :: starEach [] X.env := by rfl) (hc : X.calm = true := by rfl) :
    PE X (.Call (.Name "sorted" p) [a] [] pos) (tO W F Γ Δ T k (fun b => oL pInt (sideL (xs b))) Δ1) :=
  (u_callB (cr_sortSet hc) hg hm (by decide +kernel) (by decide) (by decide) hs _ ha).wk fun σ H Q ⟨ok, g, e, q⟩ => ⟨ok, g, e, fun b v H' kb f okn => by
    have ok' := okn.ok
    obtain ⟨_, l, n, eG, ev, hl, _⟩ := ok'.at (j := 0) rfl
    have ev : v = .ref l := ev
    rw [ev]
    refine ⟨l, _, n, rfl, hl, fun ns m h1 h2 h3 nm => ?_⟩
    have e : ns = sideL (xs b) := lt_uniq h1 (sideL_lt _) fun k => by rw [h2 k, sideL_mem]; exact decide_eq_true_iff
    subst e
    obtain ⟨o, g'⟩ := (Ok.less ok' (.cons _ (List.Sublist.refl _))).newL nm h3 (ints_paired (H := H') (sideL (xs b)))
    exact q b _ _ kb (f.trans g'.st) (o.since f)⟩
end
end
end L3
end
section
set_option maxHeartbeats 4000000
namespace L3
open PySem PySem.Spec PyProof.Rows L2
section
variable {X : Cx} {W : Bool} {F : Fm} {Γ : Gm} {Δ : Δs} {γ : Type}
def FlatE {β : Type} (E : β → Pd) : Prop := ∀ b H H' v, (E b).pr H v → (E b).pr H' v
theorem feBl {β : Type} {i : β → Bool} : FlatE fun b => pBl (i b) := fun _ _ _ _ h => h
theorem Ok.lockC {σ : SS} {H : Hp} {i j : Nat} {c : Cell} (ok : Ok F Γ Δ σ H) (hj : Δ[j]? = some c) (hi : Γ[i]? = some (some (pV c.v))) : ∃ G, G.Nodup ∧ c.d.pr G H c.v ∧ ∀ H1, (∀ a, a ∉ G → H1 a = H a) → (∀ a ∈ G, ∀ u, H a = some u → ∃ o, H1 a = some (.frz o u)) → Ok F (Γ.set i (some c.d.pd)) (Δ.eraseIdx j) σ H1 := by
  obtain ⟨⟨Δ0, e, k⟩, n⟩ := ok
  subst e
  obtain ⟨A, x, B, e0, el, ex⟩ := map_at hj
  subst e0
  subst ex
  have k1 := k.perm mid_perm
  have hc := k1.del x List.mem_cons_self
  refine ⟨x.G, k1.ndup.1, hc, fun H1 h1 h2 => ?_⟩
  obtain ⟨r, fz, _⟩ := k1.rest (H' := H1) (fun a o na e => by rw [h1 a na]; exact e) (fun a ha => by
    obtain ⟨u, hu, _⟩ := x.d.cells hc a ha
    obtain ⟨o, ho⟩ := h2 a ha u hu
    exact ⟨_, ho⟩)
  refine ⟨⟨A ++ B, by rw [← el]; exact map_erase, r⟩, by rw [List.length_set]; exact n.len, fun m p e => ?_⟩
  by_cases h : m = i
  · subst h
    rw [List.getElem?_set_self (List.getElem?_eq_some_iff.mp hi).1] at e
    cases e
    obtain ⟨w, hs, hv⟩ := n.gam m _ hi
    have hv : w = x.v := hv
    subst hv
    exact ⟨_, hs, x.d.lockd hc h1 h2⟩
  · rw [List.getElem?_set_ne (fun z => h z.symm)] at e
    obtain ⟨w, hs, hv⟩ := n.gam m p e
    exact ⟨w, hs, p.mono fz hv⟩
def tLkE : List Addr → TE → TE
  | [], t => t
  | _ :: G, t => tLockE (tLkE G t)
theorem pe_lkE {e : Expr} {t : TE} (h : PE X e t) : ∀ G : List Addr, PE X e (tLkE G t)
  | [] => h
  | _ :: G => pe_lock (pe_lkE h G)
theorem tLkE_of {t : TE} {σ : SS} (mono : ∀ H (Q Q' : VK), (∀ v H', Q v H' → Q' v H') → t σ H Q → t σ H Q') : ∀ {G : List Addr} {H : Hp} {Q : VK}, G.Nodup → (∀ a ∈ G, ∃ u, H a = some u ∧ Mut (some u)) →
    (∀ H1, (∀ a, a ∉ G → H1 a = H a) → (∀ a ∈ G, ∀ u, H a = some u → ∃ o, H1 a = some (.frz o u)) → t σ H1 fun v H' => (∀ a ∈ G, H' a = H1 a) ∧ ∀ H2 : Hp, (∀ a, a ∉ G → H2 a = H' a) → (∀ a ∈ G, H2 a = H a) → Q v H2) → tLkE G t σ H Q
  | [], H, Q, _, _, k => mono H _ _ (fun v H' h => h.2 H' (fun _ _ => rfl) fun _ h => absurd h List.not_mem_nil) (k H (fun _ _ => rfl) fun _ h => absurd h List.not_mem_nil)
  | d :: G, H, Q, nd, hm, k => by
    obtain ⟨nd1, nd2⟩ := List.nodup_cons.mp nd
    obtain ⟨u, hu, mu⟩ := hm d List.mem_cons_self
    refine ⟨d, u, hu, mu, fun od => tLkE_of mono nd2 (fun a ha => ?_) fun H1 h1 h2 => ?_⟩
    · rw [upd_ne (fun e => nd1 (by rw [← e]; exact ha))]
      exact hm a (List.mem_cons_of_mem _ ha)
    · have k1 : ∀ a, a ∉ d :: G → H1 a = H a := fun a ha => by
        rw [h1 a (fun z => ha (List.mem_cons_of_mem _ z)), upd_ne (fun e => ha (by rw [e]; exact List.mem_cons_self))]
      have k2 : ∀ a ∈ d :: G, ∀ w, H a = some w → ∃ o, H1 a = some (.frz o w) := fun a ha w hw => by
        by_cases e : a = d
        · subst e
          rw [hu] at hw
          cases hw
          exact ⟨od, by rw [h1 a nd1, upd_same]⟩
        · rcases List.mem_cons.mp ha with z | z
          · exact absurd z e
          · exact h2 a z w (by rw [upd_ne e]; exact hw)
      refine mono _ _ _ (fun v H' q => ⟨fun a ha => q.1 a (List.mem_cons_of_mem _ ha), fun H2 r1 r2 => ⟨by rw [r1 d nd1, q.1 d List.mem_cons_self, h1 d nd1, upd_same], q.2 _ (fun a ha => ?_) (fun a ha => ?_)⟩⟩) (k H1 k1 k2)
      · rw [upd_ne (fun e => ha (by rw [e]; exact List.mem_cons_self)), r1 a fun z => ha (List.mem_cons_of_mem _ z)]
      · by_cases e : a = d
        · subst e; rw [upd_same, hu]
        · rcases List.mem_cons.mp ha with z | z
          · exact absurd z e
          · rw [upd_ne e, r2 a z, upd_ne e]
theorem lk_back {G : List Addr} {H H1 H' H2 : Hp} (h1 : ∀ a, a ∉ G → H1 a = H a) (st : Gr H1 H') (r1 : ∀ a, a ∉ G → H2 a = H' a) (r2 : ∀ a ∈ G, H2 a = H a) : Gr H H2 := fun a o e => by
  by_cases ha : a ∈ G
  · rw [r2 a ha]; exact e
  · rw [r1 a ha]
    exact st a o (by rw [h1 a ha]; exact e)
theorem lk_kept {G : List Addr} {H H1 H' : Hp} (hm : ∀ a ∈ G, ∃ o, H a = some o ∧ Mut (some o)) (h2 : ∀ a ∈ G, ∀ u, H a = some u → ∃ o, H1 a = some (.frz o u)) (st : Gr H1 H') : ∀ a ∈ G, H' a = H1 a := fun a ha => by
  obtain ⟨u, hu, _⟩ := hm a ha
  obtain ⟨o, ho⟩ := h2 a ha u hu
  rw [ho]
  exact st a _ ho
theorem x_lockG {e : Expr} {β : Type} {T : Option γ} {k : β → Option γ} {E : β → Pd} {v : V} {d : Od} {prm : Option Nat} (j i : Nat) (fe : FlatE E)
    (he : PE X e (tE false F (Γ.set i (some d.pd)) (Δ.eraseIdx j) T k E fun _ => Δ.eraseIdx j)) (hj : Δ[j]? = some ⟨v, d, prm⟩ := by rfl) (hi : Γ[i]? = some (some (pV v)) := by rfl) : PE X e (tE W F Γ Δ T k E fun _ => Δ) :=
  (pe_ex fun G => pe_lkE he G).wk fun σ H Q ⟨ok, g, e, q⟩ => by
    obtain ⟨G, nd, hc, lk⟩ := ok.lockC hj hi
    refine ⟨G, tLkE_of (fun H Q Q' h ⟨a, g, b, c⟩ => ⟨a, g, b, fun b v H' k s o p => h v H' (c b v H' k s o p)⟩) nd (d.cells hc) fun H1 h1 h2 => ⟨lk H1 h1 h2, g, e, fun b w H' kb st ok2 hw => ⟨lk_kept (d.cells hc) h2 st.gr, fun H2 r1 r2 => ?_⟩⟩⟩
    have g2 := lk_back h1 st.gr r1 r2
    exact q b w H2 kb g2.st (ok.gr g2) (fe b _ _ w hw)
end
end L3
end
section
set_option maxHeartbeats 4000000
namespace L3
open PySem PySem.Spec PyProof.Rows L2
section
variable {X : Cx} {W : Bool} {F : Fm} {Γ : Gm} {Δ : Δs} {γ : Type}
theorem Own3.turn {α : Type} {D : α → Od} {H H' : Hp} {y : α} {v : V} {g : List Addr} (f : Fzs H H') (kp : ∀ a o, a ∉ g → H a = some o → H' a = some o) (new : (D y).pr g H' v) : ∀ {xs : List α} {vs : List V} {gs : List (List Addr)} {m : Nat}, Own3 D H xs vs gs → gs.flatten.Nodup → vs[m]? = some v → gs[m]? = some g → Own3 D H' (xs.set m y) vs gs
  | _, _, _, _, .nil, _, e, _ => by simp at e
  | _, _, _, 0, .cons r t, nd, e1, e2 => by
    simp at e1 e2
    subst e1 e2
    rw [List.flatten_cons] at nd
    exact .cons new (t.frame f fun a ha o e => kp a o (fun hg => (List.nodup_append.mp nd).2.2 a hg a ha rfl) e)
  | _, _, g0 :: gs, m + 1, .cons r t, nd, e1, e2 => by
    rw [List.flatten_cons] at nd
    have e2' : gs[m]? = some g := by simpa using e2
    refine .cons ((D _).frame r (fun a ha o e => kp a o (fun hg => ?_) e) f) (Own3.turn f kp new t (List.nodup_append.mp nd).2.1 (by simpa using e1) e2')
    exact (List.nodup_append.mp nd).2.2 a ha a (List.mem_flatten.mpr ⟨g, List.mem_of_getElem? e2', hg⟩) rfl
end
end L3
end
section
set_option maxHeartbeats 4000000
namespace L3
open PySem PySem.Spec PyProof.Rows L2
section
variable {X : Cx} {W : Bool} {F : Fm} {Γ : Gm} {Δ : Δs} {γ : Type} {N : Fn γ} {rest : List Stmt}
theorem s_letOA {i : Nat} {st : Stmt} {β α : Type} {T : Option γ} {Δ' : β → Δs} {val : β → α} {k2 : β → α → Option γ} (D0 : α → Od) (hst : PS X st (tAsg (tO true F Γ Δ T (fun b => (some (val b)).bind (k2 b)) (fun b => D0 (val b)) Δ') (gName i)))
    (hr : ∀ b a v, PSs X rest (tS F (Γ.set i (some (pV v))) (⟨v, D0 a, none⟩ :: Δ' b) N (k2 b a))) : PSs X (st :: rest) (tS F Γ Δ N T) :=
  (pss_cons hst (pss_ex fun b => pss_ex fun v => hr b (val b) v)).wk fun D σ H ⟨ok, g, e, f⟩ => ⟨ok, g, e, fun b v H' kb fz ok' => ⟨b, v, ok'.ok.set rfl, g, kb, N.mono f fz.fz⟩⟩
theorem erase_perm {α : Type} {c : α} : ∀ {l : List α} {j : Nat}, l[j]? = some c → (c :: l.eraseIdx j).Perm l
  | [], _, h => by simp at h
  | x :: l, 0, h => by
    have e : x = c := by simpa using h
    rw [e]; exact List.Perm.refl _
  | x :: l, j + 1, h => by
    have q : l[j]? = some c := by simpa using h
    exact (List.Perm.swap x c _).trans ((erase_perm q).cons x)
theorem s_retV {e : Expr} {pos : Pos} {β ρ : Type} {T : Option γ} {Δ' : β → Δs} {P : ρ → Δs} {Ro : ρ → Od} {ι : ρ → γ} {rv : β → ρ} {v : V} (j : Nat) (hN : ∀ H r D, N.fin H (ι r) D → RO F P Ro r D.rt) (he : PE X e (tE true F Γ Δ T (fun b => some (ι (rv b))) (fun _ => pV v) Δ'))
    (hj : ∀ b, (Δ' b)[j]? = some ⟨v, Ro (rv b), none⟩) (hP : ∀ b, (P (rv b)).Sublist ((Δ' b).eraseIdx j)) : PSs X [.Return (some e) pos] (tS F Γ Δ N T) :=
  (pss_one (ps_ret he)).wk fun D σ H ⟨ok, g, e, f⟩ => ⟨ok, g, e, fun b w H' kb fz ok' hw => by
    have eg : g = ι (rv b) := (Option.some.inj kb).symm
    rw [eg] at f
    have hw : w = v := hw
    subst hw
    exact hN _ _ D f w H' ((ok'.hk.perm (erase_perm (hj b)).symm).less ((hP b).cons₂ _))⟩
end
end L3
end
section
set_option maxHeartbeats 4000000
namespace L3
open PySem PySem.Spec PyProof.Rows L2
section
variable {X : Cx} {W : Bool} {F : Fm} {Γ : Gm} {Δ : Δs} {γ : Type}
section
variable {a : Expr} {pos : Pos} {β : Type} {T : Option γ} {k : β → Option γ} {Δ1 : β → Δs} {i : β → Int}
theorem x_neg (ha : PE X a (tE W F Γ Δ T k (fun b => pInt (i b)) Δ1)) : PE X (.UnaryOp .USub a pos) (tE W F Γ Δ T k (fun b => pInt (-(i b))) Δ1) :=
  x1t (u_un un_neg) ha fun b σ v H Q _ hv q => ⟨i b, hv, q _ rfl⟩
end
section
variable {a b : Expr} {pos : Pos} {β1 β2 : Type} {T : Option γ} {k1 : β1 → Option γ} {k : β1 × β2 → Option γ} {Δ1 : β1 → Δs} {Δ2 : β1 → β2 → Δs} {i : β1 → Str} {j : β1 → β2 → Str}
theorem x_addS (ha : PE X a (tE W F Γ Δ T k1 (fun b => pStr (i b)) Δ1)) (hb : ∀ b1, PE X b (tE W F Γ (Δ1 b1) (k1 b1) (fun b2 => grd ((i b1).length + (j b1 b2).length ≤ sizeLine) (k (b1, b2))) (fun b => pStr (j b1 b)) (Δ2 b1))) :
    PE X (.BinOp a .Add b pos) (tE W F Γ Δ T k (fun b => pStr (i b.1 ++ j b.1 b.2)) fun b => Δ2 b.1 b.2) :=
  x2g (b_op op_add_str) ha hb fun b1 b2 _ v w H Q _ c hv hw q => ⟨i b1, j b1 b2, hv, hw, c, q _ rfl⟩
end
section
variable {a b : Expr} {pos : Pos} {β1 β2 : Type} {T : Option γ} {k1 : β1 → Option γ} {k : β1 × β2 → Option γ} {Δ1 : β1 → Δs} {Δ2 : β1 → β2 → Δs} {i : β1 → Option Int} {j : β1 → β2 → Option Int} {c : β1 → Option Str} {d : β1 → β2 → Option Str}
end
section
variable {T : Option γ}
theorem y_var (i : Nat) {x : Str} {pos : Pos} {p : Pd} (h : Γ[i]? = some (some p) := by rfl) (hN : X.N[i]? = some x := by rfl) (hv : Vis X.env.scope x := by first | exact Or.inl rfl | exact Or.inr (Or.inl rfl) | exact Or.inr (Or.inr rfl))
    (hd : (x == ("__debug__" : Str)) = false := by decide) (hcd : (x == ("__classdict__" : Str)) = false := by decide) : PE X (.Name x pos) (tE W F Γ Δ T (fun _ : Unit => T) (fun _ => p) fun _ => Δ) := x_var (k := fun _ => T) i h hN hv hd hcd
theorem b_nil : PA X [] (tAr W F Γ Δ T (fun _ : Unit => T) (fun _ => []) fun _ => Δ) := a_nil (k := fun _ => T)
end
end
end L3
end
section
set_option maxHeartbeats 4000000
namespace L3
open PySem PySem.Spec PyProof.Rows L2
section
variable {X : Cx} {W : Bool} {F : Fm} {Γ : Gm} {Δ : Δs} {γ : Type}
theorem x_out {β : Type} {e : Expr} {T T' : Option γ} {k : β → Option γ} {E E' : β → Pd} {Δ' Δ'' : β → Δs} (h : PE X e (tE W F Γ Δ T' k E' Δ''))
    (hT : T = T' := by rfl) (hE : ∀ b, E b = E' b := by intro _; rfl) (hΔ : ∀ b, Δ' b = Δ'' b := by intro _; rfl) : PE X e (tE W F Γ Δ T k E Δ') := by
  have e1 : E = E' := funext hE
  have e2 : Δ' = Δ'' := funext hΔ
  subst hT e1 e2
  exact h
theorem t_out {β : Type} {e : List Expr} {T T' : Option γ} {k : β → Option γ} {c c' : β → Bool} {Δ' Δ'' : β → Δs} (h : PTs X e (tTs W F Γ Δ T' k c' Δ''))
    (hT : T = T' := by rfl) (hE : ∀ b, c b = c' b := by intro _; rfl) (hΔ : ∀ b, Δ' b = Δ'' b := by intro _; rfl) : PTs X e (tTs W F Γ Δ T k c Δ') := by
  have e1 : c = c' := funext hE
  have e2 : Δ' = Δ'' := funext hΔ
  subst hT e1 e2
  exact h
theorem x_kd {β : Type} {e : Expr} {T : Option γ} {k : β → Option γ} {E E' : β → Pd} {Δ' : β → Δs} (h : PE X e (tE W F Γ Δ T k E' Δ')) (hE : ∀ b, E b = E' b := by intro _; rfl) : PE X e (tE W F Γ Δ T k E Δ') := by
  have e1 : E = E' := funext hE
  subst e1
  exact h
theorem o_kd {β : Type} {e : Expr} {T : Option γ} {k : β → Option γ} {E E' : β → Od} {Δ' : β → Δs} (h : PE X e (tO W F Γ Δ T k E' Δ')) (hE : ∀ b, E b = E' b := by intro _; rfl) : PE X e (tO W F Γ Δ T k E Δ') := by
  have e1 : E = E' := funext hE
  subst e1
  exact h
theorem t_kd {β : Type} {e : Expr} {T : Option γ} {k : β → Option γ} {c c' : β → Bool} {Δ' : β → Δs} (h : PT X e (tTs W F Γ Δ T k c' Δ')) (hE : ∀ b, c b = c' b := by intro _; rfl) : PT X e (tTs W F Γ Δ T k c Δ') := by
  have e1 : c = c' := funext hE
  subst e1
  exact h
theorem s_T {st : List Stmt} {N : Fn γ} {T T' : Option γ} (h : PSs X st (tS F Γ Δ N T')) (hT : T = T' := by rfl) : PSs X st (tS F Γ Δ N T) := by
  subst hT
  exact h
theorem t_totV {β : Type} {e : Expr} {T : Option γ} {c : β → Bool} {Δ' : β → Δs} (c0 : Bool) (b0 : β) (hβ : ∀ b, b = b0) (he : PT X e (tTs W F Γ Δ T (fun _ : β => T) c Δ')) (hΔ : Δ = Δ' b0 := by rfl) (hc : c0 = c b0 := by rfl) : PT X e (tTs W F Γ Δ T (fun _ : Unit => T) (fun _ => c0) fun _ => Δ) := by
  have h := t_tot b0 hβ he
  rw [← hc, ← hΔ] at h
  exact h
theorem x_totV {β : Type} {e : Expr} {T : Option γ} {E : β → Pd} {Δ' : β → Δs} (E0 : Pd) (b0 : β) (hβ : ∀ b, b = b0) (he : PE X e (tE W F Γ Δ T (fun _ : β => T) E Δ')) (hΔ : Δ = Δ' b0 := by rfl) (hc : E0 = E b0 := by rfl) : PE X e (tE W F Γ Δ T (fun _ : Unit => T) (fun _ => E0) fun _ => Δ) := by
  have h := x_tot b0 hβ he
  rw [← hc, ← hΔ] at h
  exact h
end
end L3
end
section
set_option maxHeartbeats 4000000
namespace L3
open PySem PySem.Spec PyProof.Rows L2
def pS (K : PySem.W.Frag) (xs : List Int) : Pd where
  pr H v := ∃ a, v = .ref a ∧ xs.length ≤ sizeLine ∧ ((∃ o, H a = some (.frz o (.lst (xs.map V.int)))) ∨ ∃ (o : Obj) (its : Array Value) (n : Nat), K.lookup a = some o ∧ o.cls = .type "list" ∧ o.dict = none ∧ o.data = .seq its n ∧ its.size ≤ sizeLine ∧ Vals (xs.map V.int) its.toList)
  mono := fun f ⟨a, e, z, h⟩ => ⟨a, e, z, h.imp (fun ⟨o, h⟩ => ⟨o, f _ _ trivial h⟩) id⟩
theorem pS_sq {K : PySem.W.Frag} {xs : List Int} {H : Hp} {v : V} (h : (pS K xs).pr H v) : ∃ a, v = .ref a ∧ SqL K H a (xs.map V.int) ∧ xs.length ≤ sizeLine := by
  obtain ⟨a, e, z, h⟩ := h
  refine ⟨a, e, ?_, z⟩
  rcases h with ⟨o, h⟩ | h
  · exact .inl (.inr ⟨o, h⟩)
  · exact .inr h
theorem pS_of {K : PySem.W.Frag} {xs : List Int} {H : Hp} {v : V} (h : (pL pInt xs).pr H v) : (pS K xs).pr H v := by
  obtain ⟨a, o, vs, e, h, z, p⟩ := h
  rw [paired_ints p] at h
  exact ⟨a, e, z, .inl ⟨o, h⟩⟩
section
variable {X : Cx} {W : Bool} {F : Fm} {Γ : Gm} {Δ : Δs} {γ : Type}
section
variable {a b : Expr} {pos : Pos} {β1 β2 : Type} {T : Option γ} {k1 : β1 → Option γ} {Δ1 : β1 → Δs} {Δ2 : β1 → β2 → Δs} {xs : β1 → List Int} {j : β1 → β2 → Int}
theorem x_ixS {k : (β1 × β2) × Int → Option γ} (ha : PE X a (tE W F Γ Δ T k1 (fun b => pS X.K (xs b)) Δ1)) (hb : ∀ b1, PE X b (tE W F Γ (Δ1 b1) (k1 b1) (fun b2 => (atI (xs b1) (j b1 b2)).bind fun x => k ((b1, b2), x)) (fun b => pInt (j b1 b)) (Δ2 b1)))
    (hs : PlainIx b := by exact fun _ _ => rfl) : PE X (.Subscript a b pos) (tE W F Γ Δ T k (fun b => pInt b.2) fun b => Δ2 b.1.1 b.1.2) :=
  x2p (b_ix ix_list hs) ha hb fun b1 b2 x σ v w H Q ok e hv hw q => by
    obtain ⟨p, ev, sq, _⟩ := pS_sq hv
    obtain ⟨u, eu, pu⟩ := paired_atI (ints_paired (H := H) (xs b1)) e
    exact ⟨p, _, j b1 b2, u, ev, hw, sq, eu, q u pu⟩
end
section
variable {a : Expr} {pos p : Pos} {β : Type} {T : Option γ} {Δ1 : β → Δs} {xs : β → List Int} {k : β → Option γ}
theorem x_lenS (hm : X.mg "len" = none) (ha : PE X a (tE W F Γ Δ T k (fun b => pS X.K (xs b)) Δ1)) (hg : Gl X "len" := by rfl) (hs : starEach [a] X.env = (false, eval a X.env) :: starEach [] X.env := by rfl) : PE X (.Call (.Name "len" p) [a] [] pos) (tE W F Γ Δ T k (fun b => pInt ((xs b).length : Int)) Δ1) :=
  x1t (u_callB call_len_seq hg hm PySem.boot_len (by decide) (by decide) hs) ha fun b σ v H Q ok hv q => by
    obtain ⟨p, ev, sq, _⟩ := pS_sq hv
    rw [ev]
    exact ⟨p, _, rfl, .inl sq, by rw [List.length_map]; exact q _ rfl⟩
end
end
def Sp_S (K : PySem.W.Frag) (Mf : List Int → Option Bool) : Sp := fun vs H Q _ => ∃ (a : Addr) (ns : List Int), vs = [.ref a] ∧ ns.length ≤ sizeLine ∧ SqL K H a (ns.map V.int) ∧ ∃ r, Mf ns = some r ∧ ∀ H', Q (.bl r) H'
theorem fn_S {P : Program} {w : World} {K : PySem.W.Frag} {mg : Str → Option Value} {base : Heap} {x qual : Str} {params : Arguments} {body : List Stmt} {scope : Scope} {dvs : List V} {kws : List (Str × V)} {f : Addr} {fd : FuncData} {N ps : List Str} {k : Nat} {Mf : List Int → Option Bool}
    (FD : FunD K x qual params body scope dvs kws f fd) (S : FnScope N ps scope) (hl : 1 = ps.length)
    (hb : ∀ (cdv : Value) (A : Around) (outer : List Env) (s : Shared) (H : Hp) (E : XK) (hr : Room k (A.deeper (envOfC qual scope s.heap.objs.size f cdv))) (M : List (List Addr)) (a1 : List Int), PSs (cxOf CX0 P w K mg base N qual scope f cdv A outer s H E).nox body
      (tS ⟨H, M⟩ (([pS K a1] : List Pd).map some ++ List.replicate (N.length - 1) none) [] (fF (RF ⟨H, M⟩ (fun _ => []) pBl)) (Mf a1))) : FnOk P w K mg base CX0 (k + 1) f fd ps (Sp_S K Mf) := by
  refine FD.ok S (fun vs H Q E h => ?_) (fun cdv A outer s H vs Q E hr h => ?_)
  · obtain ⟨a, ns, rfl, _⟩ := h
    exact hl
  · obtain ⟨a, ns, rfl, z, sq, r, hM, fin⟩ := h
    have fin' : ∀ M, RF ⟨H, M⟩ (fun _ => []) pBl r Q := fun M v H' _ hv => by
      rw [show v = .bl r from hv]
      exact fin H'
    by_cases hu : H a = some (.lst (ns.map V.int))
    · refine ⟨tS ⟨H, [[a]]⟩ (([pV (.ref a)] : List Pd).map some ++ List.replicate (N.length - 1) none) [⟨.ref a, oL pInt ns, some 0⟩] (fF (RF ⟨H, [[a]]⟩ (fun _ => []) pBl)) (Mf ns), PSs.nox (s_frz (i := 0) (c := ⟨.ref a, oL pInt ns, some 0⟩) 0 ?_), ok_start (Δ := [⟨[a], .ref a, oL pInt ns, some 0⟩]) rfl (.cons rfl .nil) ?_ ?_ ?_, r, hM, fin' _⟩
      · refine (hb cdv A outer s H E hr [[a]] ns).wk fun D σ H' ⟨ok, g, e, q⟩ => ⟨⟨ok.hk, ok.len, fun i p e => ?_⟩, g, e, q⟩
        cases i with
        | zero =>
          cases e
          obtain ⟨v, hs, hv⟩ := ok.gam 0 (pL pInt ns) rfl
          exact ⟨v, hs, pS_of hv⟩
        | succ i => exact ok.gam (i + 1) p e
      · intro c hc
        rw [List.mem_singleton.mp hc]
        exact ⟨a, ns.map V.int, rfl, rfl, hu, z, ints_paired ns⟩
      · exact List.nodup_cons.mpr ⟨by simp, List.nodup_nil⟩
      · intro i c h
        match i, h with
        | 0, h => cases h; rfl
        | _ + 1, h => cases h
    · refine ⟨_, PSs.nox (hb cdv A outer s H E hr [] ns), ok_start (Δ := []) rfl (.cons ⟨a, rfl, z, ?_⟩ .nil) (fun _ h => nomatch h) List.nodup_nil (fun _ _ h => nomatch h), r, hM, fin' _⟩
      rcases sq with (h | ⟨o, h⟩) | h
      · exact absurd h hu
      · exact .inl ⟨o, h⟩
      · exact .inr h
end L3
end
section
set_option maxHeartbeats 4000000
namespace L3
open PySem PySem.Spec PyProof.Rows L2
section
variable {κ α : Type} [DecidableEq κ]
def dhas (d : List (κ × α)) (k : κ) : Bool := d.any fun p => decide (p.1 = k)
def ddel (d : List (κ × α)) (k : κ) : List (κ × α) := d.filter fun p => decide (p.1 ≠ k)
theorem dhas_get (k : κ) : ∀ d : List (κ × α), dhas d k = (dget d k).isSome
  | [] => rfl
  | p :: r => by
    have ih := dhas_get k r
    unfold dhas dget at ih ⊢
    rw [List.any_cons, List.find?_cons]
    by_cases h : p.1 = k
    · simp [h]
    · simp only [decide_eq_false h, Bool.false_or]; exact ih
theorem dput_len (d : List (κ × α)) (k : κ) (v : α) : (dput d k v).length ≤ d.length + 1 := by
  unfold dput
  split
  · rw [List.length_map]; omega
  · rw [List.length_append]; exact Nat.le_refl _
end
section
variable {κ α : Type} [DecidableEq κ] [Ky κ]
def oM (E : α → Pd) (xs : List (κ × α)) : Od where
  pr G H v := ∃ p kvs, G = [p] ∧ v = .ref p ∧ H p = some (.dK kvs) ∧ xs.length ≤ sizeLine ∧ Paired (PrM E H) xs kvs
  pd := pM E xs
  frame := fun ⟨p, vs, eg, ev, h, z, q⟩ k f => ⟨p, vs, eg, ev, k p (by rw [eg]; exact List.mem_singleton.mpr rfl) _ h, z, prM_mono f q⟩
  cells := fun ⟨p, vs, eg, ev, h, z, q⟩ => one_cells eg h trivial
  lockd := fun ⟨p, vs, eg, ev, h, z, q⟩ h1 h2 => by
    obtain ⟨o, ho⟩ := h2 p (by rw [eg]; exact List.mem_singleton.mpr rfl) _ h
    exact ⟨p, o, vs, ev, ho, z, prM_mono (lk_fzs (one_cells eg h trivial) h1) q⟩
theorem dget_neg {κ α : Type} [DecidableEq κ] {p : κ × α} {r : List (κ × α)} {k : κ} (h : ¬ p.1 = k) : dget (p :: r) k = dget r k := by unfold dget; rw [List.find?_cons, decide_eq_false h]
theorem dget_pos {κ α : Type} [DecidableEq κ] {p : κ × α} {r : List (κ × α)} {k : κ} (h : p.1 = k) : dget (p :: r) k = some p.2 := by unfold dget; rw [List.find?_cons, decide_eq_true h]; rfl
theorem prM_get {E : α → Pd} {H : Hp} (k : κ) : ∀ {xs : List (κ × α)} {us : List (Key × V)}, Paired (PrM E H) xs us → (dget xs k = none ∧ valV us (Ky.ky k) = none) ∨ ∃ x v, dget xs k = some x ∧ valV us (Ky.ky k) = some v ∧ (E x).pr H v
  | [], [], .nil => .inl ⟨rfl, rfl⟩
  | x :: xs, u :: us, .cons r t => by
    by_cases h : x.1 = k
    · exact .inr ⟨x.2, u.2, dget_pos h, valV_pos (by rw [r.1, h]), r.2⟩
    · rw [dget_neg h, valV_neg (fun z => h (Ky.inj (by rw [← r.1, z])))]
      exact prM_get k t
theorem prM_any {E : α → Pd} {H : Hp} (k : κ) : ∀ {xs : List (κ × α)} {us : List (Key × V)}, Paired (PrM E H) xs us → (xs.any fun p => decide (p.1 = k)) = us.any fun kv => decide (kv.1 = Ky.ky k)
  | _, _, .nil => rfl
  | _, _, .cons (a := x) (b := u) r t => by
    rw [List.any_cons, List.any_cons, prM_any k t]
    congr 1
    by_cases h : x.1 = k
    · rw [decide_eq_true h, decide_eq_true (by rw [r.1, h])]
    · rw [decide_eq_false h, decide_eq_false (fun z => h (Ky.inj (by rw [← r.1, z])))]
theorem prM_map {E : α → Pd} {H : Hp} {k : κ} {y : α} {v : V} (hv : (E y).pr H v) : ∀ {xs : List (κ × α)} {us : List (Key × V)}, Paired (PrM E H) xs us → Paired (PrM E H) (xs.map fun p => if p.1 = k then (p.1, y) else p) (us.map fun kv => if kv.1 = Ky.ky k then (kv.1, v) else kv)
  | _, _, .nil => .nil
  | _, _, .cons (a := x) (b := u) r t => by
    rw [List.map_cons, List.map_cons]
    refine .cons ?_ (prM_map hv t)
    by_cases h : x.1 = k
    · rw [if_pos h, if_pos (by rw [r.1, h])]
      exact ⟨r.1, hv⟩
    · rw [if_neg h, if_neg (fun z => h (Ky.inj (by rw [← r.1, z])))]
      exact r
theorem prM_put {E : α → Pd} {H : Hp} {k : κ} {y : α} {v : V} (hv : (E y).pr H v) {xs : List (κ × α)} {us : List (Key × V)} (h : Paired (PrM E H) xs us) : Paired (PrM E H) (dput xs k y) (putK us (Ky.ky k) v) := by
  unfold dput putK
  rw [prM_any k h]
  split
  · exact prM_map hv h
  · exact paired_app h (.cons ⟨rfl, hv⟩ .nil)
end
section
variable {X : Cx} {W : Bool} {F : Fm} {Γ : Gm} {Δ : Δs} {γ : Type} {κ α : Type} [DecidableEq κ] [Ky κ]
def RM (E : α → Pd) (xs : List (κ × α)) (H : Hp) (v : V) : Prop := ∃ a kvs, v = .ref a ∧ Rd H a (.dK kvs) ∧ xs.length ≤ sizeLine ∧ Paired (PrM E H) xs kvs
def RdM (Δ : Δs) (p : Pd) (E : α → Pd) (xs : List (κ × α)) : Prop := ∀ F H v, Hk F Δ H → p.pr H v → RM E xs H v
theorem rdMF {E : α → Pd} {xs : List (κ × α)} : RdM Δ (pM E xs) E xs := fun _ _ _ _ ⟨a, o, vs, e, h, z, p⟩ => ⟨a, vs, e, .inr ⟨o, h⟩, z, p⟩
theorem rdMO {E : α → Pd} {xs : List (κ × α)} {v : V} {prm : Option Nat} (j : Nat) (h : Δ[j]? = some ⟨v, oM E xs, prm⟩ := by rfl) : RdM Δ (pV v) E xs := fun F H w hk e => by
  have e : w = v := e
  subst e
  obtain ⟨_, p, vs, _, ev, hp, z, q⟩ := hk.at h
  exact ⟨p, vs, ev, .inl hp, z, q⟩
theorem Ok.newM {σ : SS} {H : Hp} {p : Addr} {E : α → Pd} {xs : List (κ × α)} {kvs : List (Key × V)} (ok : Ok F Γ Δ σ H) (hp : H p = none) (z : xs.length ≤ sizeLine) (q : Paired (PrM E H) xs kvs) : OkN W F Γ H (.ref p) (oM E xs) Δ σ (upd H p (.dK kvs)) ∧ Gr H (upd H p (.dK kvs)) := by
  have g : Gr H (upd H p (.dK kvs)) := Gr.new hp
  exact ⟨ok.add g (List.nodup_cons.mpr ⟨List.not_mem_nil, List.nodup_nil⟩) (fun a ha => by rw [List.mem_singleton.mp ha]; exact hp) ⟨p, kvs, rfl, rfl, upd_same, z, prM_mono g.fzs q⟩, g⟩
section
variable {a b : Expr} {pos : Pos} {β1 β2 : Type} {T : Option γ} {k1 : β1 → Option γ} {Δ1 : β1 → Δs} {Δ2 : β1 → β2 → Δs} {E1 : β1 → Pd} {Ee : α → Pd} {xs : β1 → β2 → List (κ × α)} {j : β1 → β2 → κ}
theorem x_dget {k : (β1 × β2) × α → Option γ} (hu : X.A.units + 64 < cLine) (ha : PE X a (tE W F Γ Δ T k1 E1 Δ1)) (hb : ∀ b1, PE X b (tE W F Γ (Δ1 b1) (k1 b1) (fun b2 => (dget (xs b1 b2) (j b1 b2)).bind fun x => k ((b1, b2), x)) (fun b => Ky.kp (j b1 b)) (Δ2 b1)))
    (rd : ∀ b1 b2, RdM (Δ2 b1 b2) (E1 b1) Ee (xs b1 b2)) (hs : NoSl b := by exact fun _ _ => rfl) : PE X (.Subscript a b pos) (tE W F Γ Δ T k (fun b => Ee b.2) fun b => Δ2 b.1.1 b.1.2) :=
  x2p (r := fun x y H Q => ∃ a v, x = .ref a ∧ DGet H a y (some v) ∧ Q v H) (fun _ _ ha hb => pe_dget (by omega) ha hb hs) ha hb fun b1 b2 x σ v w H Q ok e hv hw q => by
    obtain ⟨p, kvs, ev, r, _, pr⟩ := rd b1 b2 F H v ok.hk hv
    rcases prM_get (j b1 b2) pr with ⟨e0, _⟩ | ⟨x', u, e1, e2, hu⟩
    · rw [e] at e0; cases e0
    · rw [e] at e1; cases e1
      exact ⟨p, u, ev, .inl ⟨kvs, Ky.ky (j b1 b2), r, Ky.is hw, e2.symm⟩, q u hu⟩
end
section
variable {a b : Expr} {pos : Pos} {β1 β2 : Type} {T : Option γ} {k1 : β1 → Option γ} {k : β1 × β2 → Option γ} {Δ1 : β1 → Δs} {Δ2 : β1 → β2 → Δs} {E2 : β1 → β2 → Pd} {Ee : α → Pd} {xs : β1 → β2 → List (κ × α)} {i : β1 → κ}
theorem has_of {E : α → Pd} {H : Hp} {xs : List (κ × α)} {us : List (Key × V)} (k : κ) (p : Paired (PrM E H) xs us) : (valV us (Ky.ky k)).isSome = dhas xs k := by
  rw [dhas_get]
  rcases prM_get k p with ⟨e0, e1⟩ | ⟨x, v, e0, e1, _⟩ <;> rw [e0, e1] <;> rfl
theorem x_dinG {op : CmpOp} {c : Bool → Bool} (hp : ∀ ta tb, PE X a ta → PE X b tb → PC X op a b (fun σ H Q => ta σ H fun y H1 => tb σ H1 fun x H2 => ∃ a o, x = .ref a ∧ DGet H2 a y o ∧ Q (.bl (c o.isSome)) H2)) (hm : behindInMarks op b = false)
    (ha : PE X a (tE W F Γ Δ T k1 (fun b => Ky.kp (i b)) Δ1)) (hb : ∀ b1, PE X b (tE W F Γ (Δ1 b1) (k1 b1) (fun b2 => k (b1, b2)) (E2 b1) (Δ2 b1))) (rd : ∀ b1 b2, RdM (Δ2 b1 b2) (E2 b1 b2) Ee (xs b1 b2)) :
    PE X (.Compare a [op] [b] pos) (tE W F Γ Δ T k (fun b => pBl (c (dhas (xs b.1 b.2) (i b.1)))) fun b => Δ2 b.1 b.2) :=
  x2t (r := fun y x H Q => ∃ a o, x = .ref a ∧ DGet H a y o ∧ Q (.bl (c o.isSome)) H) (fun ta tb ha hb => pe_cmp (hp ta tb ha hb) hm) ha hb fun b1 b2 σ v w H Q ok hv hw q => by
    obtain ⟨p, kvs, ev, r, _, pr⟩ := rd b1 b2 F H w ok.hk hw
    refine ⟨p, valV kvs (Ky.ky (i b1)), ev, .inl ⟨kvs, _, r, Ky.is hv, rfl⟩, ?_⟩
    rw [has_of (i b1) pr]
    exact q _ rfl
theorem t_dinG {op : CmpOp} {c : Bool → Bool} (hp : ∀ ta tb, PE X a ta → PE X b tb → PC X op a b (fun σ H Q => ta σ H fun y H1 => tb σ H1 fun x H2 => ∃ a o, x = .ref a ∧ DGet H2 a y o ∧ Q (.bl (c o.isSome)) H2)) (hm : behindInMarks op b = false)
    (ha : PE X a (tE W F Γ Δ T k1 (fun b => Ky.kp (i b)) Δ1)) (hb : ∀ b1, PE X b (tE W F Γ (Δ1 b1) (k1 b1) (fun b2 => k (b1, b2)) (E2 b1) (Δ2 b1))) (rd : ∀ b1 b2, RdM (Δ2 b1 b2) (E2 b1 b2) Ee (xs b1 b2)) :
    PT X (.Compare a [op] [b] pos) (tTs W F Γ Δ T k (fun b => c (dhas (xs b.1 b.2) (i b.1))) fun b => Δ2 b.1 b.2) :=
  t2t (r := fun y x H Q => ∃ a o, x = .ref a ∧ DGet H a y o ∧ Q (.bl (c o.isSome)) H) (fun ta tb ha hb => (pt_cmp (hp ta tb ha hb) hm).wk fun σ H Q h => h) ha hb fun b1 b2 σ v w H Q ok hv hw q => by
    obtain ⟨p, kvs, ev, r, _, pr⟩ := rd b1 b2 F H w ok.hk hw
    refine ⟨p, valV kvs (Ky.ky (i b1)), ev, .inl ⟨kvs, _, r, Ky.is hv, rfl⟩, ?_⟩
    rw [has_of (i b1) pr]
    exact q _ rfl
theorem x_din (hu : X.A.units + 64 < cLine) (ha : PE X a (tE W F Γ Δ T k1 (fun b => Ky.kp (i b)) Δ1)) (hb : ∀ b1, PE X b (tE W F Γ (Δ1 b1) (k1 b1) (fun b2 => k (b1, b2)) (E2 b1) (Δ2 b1))) (rd : ∀ b1 b2, RdM (Δ2 b1 b2) (E2 b1 b2) Ee (xs b1 b2)) (hm : behindInMarks .In b = false := by rfl) :
    PE X (.Compare a [.In] [b] pos) (tE W F Γ Δ T k (fun b => pBl (dhas (xs b.1 b.2) (i b.1))) fun b => Δ2 b.1 b.2) := x_dinG (c := id) (fun _ _ ha hb => pc_din (by omega) ha hb) hm ha hb rd
theorem t_din (hu : X.A.units + 64 < cLine) (ha : PE X a (tE W F Γ Δ T k1 (fun b => Ky.kp (i b)) Δ1)) (hb : ∀ b1, PE X b (tE W F Γ (Δ1 b1) (k1 b1) (fun b2 => k (b1, b2)) (E2 b1) (Δ2 b1))) (rd : ∀ b1 b2, RdM (Δ2 b1 b2) (E2 b1 b2) Ee (xs b1 b2)) (hm : behindInMarks .In b = false := by rfl) :
    PT X (.Compare a [.In] [b] pos) (tTs W F Γ Δ T k (fun b => dhas (xs b.1 b.2) (i b.1)) fun b => Δ2 b.1 b.2) := t_dinG (c := id) (fun _ _ ha hb => pc_din (by omega) ha hb) hm ha hb rd
end
end
end L3
end
section
set_option maxHeartbeats 4000000
namespace L3
open PySem PySem.Spec PyProof.Rows L2
section
variable {X : Cx} {W : Bool} {F : Fm} {Γ : Gm} {Δ : Δs} {γ : Type} {κ α : Type} [DecidableEq κ] [Ky κ]
theorem call_lenM : CallR X (.builtin "len") (fun xs H Q => ∃ a kvs, xs = [V.ref a] ∧ Rd H a (.dK kvs) ∧ Q (.int kvs.length) H) := by
  intro pins s σ H xs us Q I r h
  obtain ⟨a, kvs, rfl, ha, q⟩ := h
  obtain ⟨u, rfl, ru⟩ := vals1 r
  cases ru
  exact d_len I ha fun t s' I' => ⟨.int kvs.length, H, I', ⟨t, rfl⟩, q⟩
section
variable {e a : Expr} {r : V → Hp → VK → Prop} {β : Type} {T : Option γ} {E1 : β → Pd} {Δ1 : β → Δs}
theorem x1m {k : β → Option γ} {Ee : α → Pd} {ys : β → List (κ × α)} (h1 : Un1 X e a r) (ha : PE X a (tE W F Γ Δ T k E1 Δ1))
    (hv : ∀ b σ v H Q, Ok F Γ (Δ1 b) σ H → (E1 b).pr H v → (∀ p vs, H p = none → (ys b).length ≤ sizeLine → Paired (PrM Ee H) (ys b) vs → Q (.ref p) (upd H p (.dK vs))) → r v H Q) : PE X e (tO W F Γ Δ T k (fun b => oM Ee (ys b)) Δ1) :=
  (h1 _ ha).wk fun σ H Q ⟨ok, g, e, q⟩ => ⟨ok, g, e, fun b v H' kb f ok' hp => hv b σ v H' Q ok' hp fun p vs np z pr => by
    obtain ⟨o2, f2⟩ := ok'.newM np z pr
    exact q b _ _ kb (f.trans f2.st) (o2.since f)⟩
end
section
variable {a : Expr} {pos p : Pos} {β : Type} {T : Option γ} {Δ1 : β → Δs} {E1 : β → Pd} {Ee : α → Pd} {xs : β → List (κ × α)} {k : β → Option γ}
theorem x_lenM (hm : X.mg "len" = none) (ha : PE X a (tE W F Γ Δ T k E1 Δ1)) (rd : ∀ b, RdM (Δ1 b) (E1 b) Ee (xs b)) (hg : Gl X "len" := by rfl) (hs : starEach [a] X.env = (false, eval a X.env) :: starEach [] X.env := by rfl) : PE X (.Call (.Name "len" p) [a] [] pos) (tE W F Γ Δ T k (fun b => pInt ((xs b).length : Int)) Δ1) :=
  x1t (u_callB call_lenM hg hm PySem.boot_len (by decide) (by decide) hs) ha fun b σ v H Q ok hv q => by
    obtain ⟨p, vs, ev, sq, _, pr⟩ := rd b F H v ok.hk hv
    rw [ev]
    exact ⟨p, vs, rfl, sq, by rw [← paired_len pr]; exact q _ rfl⟩
theorem x_dictD (hm : X.mg "dict" = none) (ha : PE X a (tE W F Γ Δ T k E1 Δ1)) (rd : ∀ b, RdM (Δ1 b) (E1 b) Ee (xs b)) (hg : Gl X "dict" := by rfl) (hs : starEach [a] X.env = (false, eval a X.env) :: starEach [] X.env := by rfl) : PE X (.Call (.Name "dict" p) [a] [] pos) (tO W F Γ Δ T k (fun b => oM Ee (xs b)) Δ1) :=
  x1m (u_callTy call_dictD hg hm (by decide +kernel) (by decide) (by decide) hs) ha fun b σ v H Q ok hv q => by
    obtain ⟨p, vs, ev, sq, z, pr⟩ := rd b F H v ok.hk hv
    rw [ev]
    exact ⟨p, vs, rfl, sq, fun l hl => q l vs hl z pr⟩
end
theorem x_dict0 {pos : Pos} {k : Unit → Option γ} (Ee : α → Pd) : PE X (.Dict [] [] pos) (tO W F Γ Δ (k ()) k (fun _ => oM (κ := κ) Ee []) fun _ => Δ) :=
  pe_dnewK.wk fun σ H Q ⟨ok, g, e, q⟩ p np => by
    obtain ⟨o2, f2⟩ := ok.newM (E := Ee) (xs := ([] : List (κ × α))) np (Nat.zero_le _) .nil
    exact q () _ _ e f2.st o2
theorem i_mkeys {tg l : Expr} {β : Type} {T : Option γ} {k : β → Option γ} {Ex : α → Pd} {xs : β → List (κ × α)} {Δ' : β → Δs} (he : PE X l (tE W F Γ Δ T k (fun b => pM Ex (xs b)) Δ')) : PI X tg l (tI W F Γ Δ T k (Ky.kp (κ := κ)) (fun b => (xs b).map Prod.fst) Δ') :=
  (pi_keys he).wk fun σ H R ⟨ok, g, e, q⟩ => ⟨ok, g, e, fun b v H' kb f ok' ⟨a, o, kvs, ev, h, z, p⟩ => ⟨a, o, ev, .inl ⟨kvs, h, q b _ H' kb f ok' (by rw [List.length_map]; exact z) fun H2 f2 i => by
    have h2 : H2 a = some (.frz o (.dK kvs)) := f2 _ _ trivial h
    rw [List.length_map]
    refine ⟨fun hi => ⟨h2, by rw [← paired_len p]; exact hi⟩, fun hi => ⟨h2, by rw [← paired_len p]; exact hi⟩, fun x v H3 hx hy => ?_⟩
    obtain ⟨e3, ky, vv, ek, ev⟩ := hy
    rw [List.getElem?_map] at hx
    cases hr : (xs b)[i]? with
    | none => rw [hr] at hx; cases hx
    | some m =>
      rw [hr] at hx
      have hx : m.1 = x := by simpa using hx
      obtain ⟨u, hu, pu, _⟩ := paired_at p hr
      rw [ek] at hu
      cases hu
      subst e3
      refine ⟨Gr.refl _, ?_⟩
      have pu : ky = Ky.ky m.1 := pu
      rw [ev, pu, hx]
      exact Ky.of _ _⟩⟩⟩
theorem tyM {E : α → Pd} {xs : List (κ × α)} : TyP Δ (pM E xs) "dict" := fun _ _ _ _ _ ⟨_, _, _, e, h, _⟩ => by rw [e]; exact .fDict h
section
variable {N : Fn γ} {rest : List Stmt}
theorem s_dput {o i e : Expr} {pos pos' : Pos} {β0 β1 β2 : Type} {T : Option γ} {k0 : β0 → Option γ} {k1 : β0 → β1 → Option γ} {k : (β0 × β1) × β2 → Option γ} {Δ0 : β0 → Δs} {Δ1 : β0 → β1 → Δs} {Δ2 : β0 → β1 → β2 → Δs} {Ee : α → Pd} {y : β0 → α} {n : β0 → β1 → β2 → κ} {xs : β0 → β1 → β2 → List (κ × α)} {v : V} {prm : Option Nat} (j : Nat) (hu : X.A.units + 64 < cLine)
    (he : PE X e (tE true F Γ Δ T k0 (fun b => Ee (y b)) Δ0)) (ho : ∀ b0, PE X o (tE true F Γ (Δ0 b0) (k0 b0) (k1 b0) (fun _ => pV v) (Δ1 b0)))
    (hi : ∀ b0 b1, PE X i (tE true F Γ (Δ1 b0 b1) (k1 b0 b1) (fun b2 => grd ((xs b0 b1 b2).length < sizeLine) (k ((b0, b1), b2))) (fun b2 => Ky.kp (n b0 b1 b2)) (Δ2 b0 b1)))
    (hj : ∀ b0 b1 b2, (Δ2 b0 b1 b2)[j]? = some ⟨v, oM Ee (xs b0 b1 b2), prm⟩)
    (hr : ∀ b : (β0 × β1) × β2, PSs X rest (tS F Γ ((Δ2 b.1.1 b.1.2 b.2).set j ⟨v, oM Ee (dput (xs b.1.1 b.1.2 b.2) (n b.1.1 b.1.2 b.2) (y b.1.1)), prm⟩) N (k b)))
    (hs : swapsWith e (some (.Subscript o i pos')) pos.line X.env = pure false := by rfl) :
    PSs X (.Assign [.Subscript o i pos'] e pos :: rest) (tS F Γ Δ N T) :=
  (pss_cons (ps_dput (by omega) (pe_ex ho) (pe_ex fun b0 => pe_ex fun b1 => hi b0 b1) he hs) (pss_ex hr)).wk fun D σ H ⟨ok, g, e, f⟩ => ⟨ok, g, e, fun b0 u H0 kb0 f0 ok0 hu => ⟨b0, ok0, g, kb0, fun b1 w H1 kb1 f1 ok1 hw => ⟨b0, b1, ok1, g, kb1, fun b2 z H2 kb2 f2 ok2 hz => by
    obtain ⟨c, km⟩ := grd_some kb2
    have hw : w = v := hw
    subst hw
    have hz := Ky.is hz
    obtain ⟨G, ⟨p, vs, eG, ev, hp, zz, pr⟩, _, turn⟩ := ok2.cell (hj b0 b1 b2)
    have hu2 : (Ee (y b0)).pr H2 u := (Ee (y b0)).mono (f1.fz.trans f2.fz) hu
    have fzm : Fzs H2 (upd H2 p (.dK (putK vs (Ky.ky (n b0 b1 b2)) u))) := Fzs.mut hp fun z => z
    have eG : G = [p] := eG
    refine ⟨p, _, ev, .inl ⟨vs, Ky.ky (n b0 b1 b2), hp, hz, by rw [← paired_len pr]; exact c, rfl⟩, ((b0, b1), b2), ?_⟩
    obtain ⟨ok3, f3⟩ := turn (upd H2 p (.dK (putK vs (Ky.ky (n b0 b1 b2)) u))) (oM Ee (dput (xs b0 b1 b2) (n b0 b1 b2) (y b0))) (fun a o na e => by
      rw [upd_ne fun q => na (by show a ∈ G; rw [eG, q]; exact List.mem_singleton.mpr rfl)]
      exact e) ⟨p, _, eG, ev, upd_same, Nat.le_trans (dput_len _ _ _) c, prM_put ((Ee _).mono fzm hu2) (prM_mono fzm pr)⟩
    exact ⟨ok3, g, km, N.mono f (((f0.fz.trans f1.fz).trans f2.fz).trans f3.fz)⟩⟩⟩⟩
end
end
end L3
end
section
set_option maxHeartbeats 4000000
namespace L3
open PySem PySem.Spec PyProof.Rows L2
section
variable {κ α : Type} [DecidableEq κ] [DecidableEq α]
def deq (c d : List (κ × α)) : Bool := (c.length == d.length) && c.all fun p => decide (dget d p.1 = some p.2)
end
section
variable {X : Cx} {W : Bool} {F : Fm} {Γ : Gm} {Δ : Δs} {γ : Type} {κ α : Type} [DecidableEq κ] [Ky κ] [DecidableEq α]
theorem deq_hits {E : α → Pd} (d : Dt E) (hd : d.dep < 60) {A : Around} {pins : List (Addr × Obj)} {σ : SS} {H : Hp} {s : Shared} (I : Inv X pins σ H s) (hu : A.in1.units + 64 < cLine) {ys : List (κ × α)} {ls : List (Key × V)} {vb : List (Key × Value)} (py : Paired (PrM E H) ys ls) (rb : KV ls vb) :
    ∀ {xs : List (κ × α)} {ks : List (Key × V)} {va : List (Key × Value)}, Paired (PrM E H) xs ks → KV ks va → PySem.W.KeqHits A.in1 s vb va (xs.all fun p => decide (dget ys p.1 = some p.2))
  | [], [], [], .nil, .nil => .nil
  | x :: xs, k :: ks, (key, v) :: va, .cons r t, .cons q u => by
    have ih := deq_hits d hd I hu py rb t u
    have ek : k.1 = key := q.1
    rw [List.all_cons]
    have rr : RelO (valV ls k.1) (valueAt vb k.1) := rb.val k.1
    rw [r.1] at rr
    rcases prM_get x.1 py with ⟨e0, e1⟩ | ⟨y, w, e0, e1, hw⟩
    · rw [e0, decide_eq_false (by simp), Bool.false_and]
      rw [e1] at rr
      refine .miss ?_
      rw [← ek, r.1]
      cases hv : valueAt vb (Ky.ky x.1) with
      | none => rfl
      | some z => rw [hv] at rr; exact rr.elim
    · rw [e1] at rr
      obtain ⟨z, hz, rz⟩ := rr.some_of
      have key_eq : valueAt vb key = some z := by rw [← ek, r.1]; exact hz
      obtain ⟨as, r1⟩ := Dp.reads I (d.toD x.2) k.2 v (d.dp r.2) q.2
      obtain ⟨bs, r2⟩ := Dp.reads I (d.toD y) w z (d.dp hw) rz
      have sh : ∀ a : α, SeqAt.shaped (d.toD a) = true := fun a => by
        show ((d.toD a).canLay0 && decide ((d.toD a).depth ≤ 64)) = true
        rw [d.can, decide_eq_true (by have := d.deep a; omega)]; rfl
      have eq := PySem.W.keq_at (A := A) r1 r2 (sh _) (sh _) hu
      rw [d.eq] at eq
      have e2 : decide (dget ys x.1 = some x.2) = decide (x.2 = y) := by
        rw [e0]
        by_cases h : x.2 = y
        · simp [h]
        · have h2 : ¬ y = x.2 := fun z => h z.symm
          simp [h, h2]
      rw [e2]
      exact .hit key_eq eq ih
def rDeq (d : Bool → Bool) : R2 := fun x y H Q => ∃ (κ α : Type) (_ : DecidableEq κ) (_ : Ky κ) (_ : DecidableEq α) (E : α → Pd) (t : Dt E) (_ : t.dep < 60) (xs ys : List (κ × α)), RM E xs H x ∧ RM E ys H y ∧ Q (.bl (d (deq xs ys))) H
theorem op_dne (hu : X.A.units + 66 < cLine) : OpR X (compareOp .NotEq) (rDeq (fun x => !x)) := by
  intro pins s σ H x y v u Q I rx ry h
  obtain ⟨κ, α, i1, i2, i3, E, t, ht, xs, ys, ⟨a, ks, rfl, ra, _, pa⟩, ⟨b, ls, rfl, rb, _, pb⟩, q⟩ := h
  obtain rfl : v = Value.ref a := rx
  obtain rfl : u = Value.ref b := ry
  obtain ⟨_, ya, va, rva, da⟩ := dk_rd I.hok ra
  obtain ⟨_, yb, vb, rvb, db⟩ := dk_rd I.hok rb
  refine PySem.W.keq_ne (knd := mixKind X.prog X.w) ya yb da db (by omega) (fun _ => deq_hits t ht I (by show X.A.units + 1 + 64 < cLine; omega) pb rvb pa rva) ⟨.bl (!deq xs ys), H, I, ?_, q⟩
  show Value.bool _ = Value.bool _
  unfold deq
  rw [← rva.length, ← rvb.length, ← paired_len pa, ← paired_len pb]
theorem room66 {k : Nat} {A : Around} (r : Room k A) : A.units + 66 < cLine := by have := r.un; omega
section
variable {a b : Expr} {pos : Pos} {β1 β2 : Type} {T : Option γ} {k1 : β1 → Option γ} {k : β1 × β2 → Option γ} {Δ1 : β1 → Δs} {Δ2 : β1 → β2 → Δs} {Ee : α → Pd} {E1 : β1 → Pd} {E2 : β1 → β2 → Pd} {xs ys : β1 → β2 → List (κ × α)}
theorem t_neM (hu : X.A.units + 66 < cLine) (d : Dt Ee) (ha : PE X a (tE W F Γ Δ T k1 E1 Δ1)) (hb : ∀ b1, PE X b (tE W F Γ (Δ1 b1) (k1 b1) (fun b2 => k (b1, b2)) (E2 b1) (Δ2 b1))) (r1 : ∀ b1 b2, RdM (Δ2 b1 b2) (E1 b1) Ee (xs b1 b2)) (r2 : ∀ b1 b2, RdM (Δ2 b1 b2) (E2 b1 b2) Ee (ys b1 b2)) (hd : d.dep < 60 := by decide) :
    PT X (.Compare a [.NotEq] [b] pos) (tTs W F Γ Δ T k (fun b => !deq (xs b.1 b.2) (ys b.1 b.2)) fun b => Δ2 b.1 b.2) := t2t (bt_cmp (op_dne hu) (nomark _)) ha hb fun b1 b2 σ v w H Q ok hv hw q => ⟨κ, α, _, _, _, Ee, d, hd, _, _, r1 b1 b2 F H v ok.hk hv, r2 b1 b2 F H w ok.hk hw, q _ rfl⟩
end
end
section
variable {X : Cx} {W : Bool} {F : Fm} {Γ : Gm} {Δ : Δs} {γ : Type}
section
variable {a b : Expr} {p pos : Pos} {β1 β2 : Type} {T : Option γ} {k1 : β1 → Option γ} {k : β1 × β2 → Option γ} {Δ1 : β1 → Δs} {Δ2 : β1 → β2 → Δs} {i : β1 → Int} {j : β1 → β2 → Int}
theorem x_min2 (hm : X.mg "min" = none) (ha : PE X a (tE W F Γ Δ T k1 (fun b => pInt (i b)) Δ1)) (hb : ∀ b1, PE X b (tE W F Γ (Δ1 b1) (k1 b1) (fun b2 => k (b1, b2)) (fun b => pInt (j b1 b)) (Δ2 b1))) (hg : Gl X "min" := by rfl) (hs : starEach [a, b] X.env = (false, eval a X.env) :: starEach [b] X.env := by rfl) (hs2 : starEach [b] X.env = (false, eval b X.env) :: starEach [] X.env := by rfl) (hpl : (backTo pos (starEach [b] X.env)).any (·.1) = false := by rfl) (hc : X.calm = true := by rfl) :
    PE X (.Call (.Name "min" p) [a, b] [] pos) (tE W F Γ Δ T k (fun b => pInt (min (i b.1) (j b.1 b.2))) fun b => Δ2 b.1 b.2) :=
  x2t (b_callB (call_min2 hc) hg hm (by decide +kernel) (by decide) (by decide) hs hs2 hpl) ha hb fun b1 b2 σ v w H Q ok hv hw q => ⟨i b1, j b1 b2, by rw [show v = .int (i b1) from hv, show w = .int (j b1 b2) from hw], q _ (by
    show V.int _ = V.int _
    congr 1
    dsimp only
    by_cases h : j b1 b2 < i b1
    · rw [if_pos h, Int.min_def]; split <;> omega
    · rw [if_neg h, Int.min_def, if_pos (by omega)])⟩
end
section
variable {a b : Expr} {p pos : Pos} {β β1 β2 : Type} {T : Option γ} {k1 : β1 → Option γ} {Δ1 : β1 → Δs} {Δ0 : β → Δs} {Δ2 : β1 → β2 → Δs}
theorem x_ixC {k : (β1 × β2) × Nat → Option γ} {z : β1 → Str} {j : β1 → β2 → Int} (ha : PE X a (tE W F Γ Δ T k1 (fun b => pStr (z b)) Δ1)) (hb : ∀ b1, PE X b (tE W F Γ (Δ1 b1) (k1 b1) (fun b2 => grd ((z b1).length ≤ sizeLine) ((atI (z b1).cps.toList (j b1 b2)).bind fun x => k ((b1, b2), x))) (fun b => pInt (j b1 b)) (Δ2 b1))) (hs : PlainIx b := by exact fun _ _ => rfl) :
    PE X (.Subscript a b pos) (tE W F Γ Δ T k (fun b => pStr ⟨#[b.2]⟩) fun b => Δ2 b.1.1 b.1.2) :=
  x2_core (b_ix ix_str hs) ha hb fun σ H Q ⟨ok, g, e, q⟩ => ⟨ok, g, e, fun b1 b2 v w H2 kb f ok2 hv hw => by
    obtain ⟨c, kb⟩ := grd_some kb
    obtain ⟨x, ex, kx⟩ := bind_some kb
    exact ⟨z b1, j b1 b2, x, hv, hw, c, ex, q ((b1, b2), x) _ H2 kx f ok2 rfl⟩⟩
end
section
variable {o e : Expr} {apos cpos : Pos} {β1 β2 α : Type} {T : Option γ} {k1 : β1 → Option γ} {Δ1 : β1 → Δs} {Δ2 : β1 → β2 → Δs} {E1 : β1 → Pd} {Ee : α → Pd} {y : β1 → β2 → α}
end
end
end L3
end
section
set_option maxHeartbeats 4000000
namespace L3
open PySem PySem.Spec PyProof.Rows L2
section
variable {X : Cx} {W : Bool} {F : Fm} {Γ : Gm} {Δ : Δs} {γ : Type}
end
end L3
end
section
set_option maxHeartbeats 4000000
namespace L3
open PySem PySem.Spec PyProof.Rows L2
end L3
end
section
set_option maxHeartbeats 4000000
namespace L3
open PySem PySem.Spec PyProof.Rows L2
def strOk (x : Str) : Bool := PyData.strOk x
def dgInt : Dg pInt := dtInt.g
def dgStr : Dg pStr := ⟨.str, fun h => by rw [h]; exact .str _, 0, strOk, fun x h => h, fun _ => Nat.le_refl 0, fun x y => by show (x == y) = _; by_cases h : x = y <;> simp [h]⟩
def dgT2 {α β : Type} {E : α → Pd} {G : β → Pd} [DecidableEq α] [DecidableEq β] (d : Dg E) (e : Dg G) : Dg (pT2 E G) := ⟨fun x => .tuple [d.toD x.1, e.toD x.2], fun ⟨a, u, w, ev, h, p, q⟩ => by rw [ev]; exact .tup (.inl (.inl h)) (.cons (d.dp p) (.cons (e.dp q) .nil)), max d.dep e.dep + 1, fun x => d.ok x.1 && e.ok x.2, fun x h => by
  obtain ⟨h1, h2⟩ := Bool.and_eq_true_iff.mp h
  show (PyData.canLay0 (d.toD x.1) && (PyData.canLay0 (e.toD x.2) && true)) = true
  rw [d.can _ h1, e.can _ h2]; rfl, fun x => by
  show PyData.depthAll [d.toD x.1, e.toD x.2] + 1 ≤ _
  have h1 := d.deep x.1
  have h2 := e.deep x.2
  have : PyData.depthAll [d.toD x.1, e.toD x.2] = max (PyData.depth (d.toD x.1)) (max (PyData.depth (e.toD x.2)) 0) := rfl
  rw [this]
  omega, fun x y => by
  show (PyData.eqv (d.toD x.1) (d.toD y.1) && (PyData.eqv (e.toD x.2) (e.toD y.2) && true)) = _
  rw [d.eq, e.eq]
  obtain ⟨x1, x2⟩ := x
  obtain ⟨y1, y2⟩ := y
  by_cases h1 : x1 = y1 <;> by_cases h2 : x2 = y2 <;> simp [h1, h2]⟩
theorem gdp_all {α : Type} {E : α → Pd} [DecidableEq α] (d : Dg E) {K : PySem.W.Frag} {H : Hp} : ∀ {xs : List α} {vs : List V}, Paired (fun x u => (E x).pr H u) xs vs → DpAll K H vs (xs.map d.toD)
  | _, _, .nil => .nil
  | _, _, .cons r t => .cons (d.dp r) (gdp_all d t)
theorem gcan_all {α : Type} {E : α → Pd} [DecidableEq α] (d : Dg E) : ∀ xs : List α, xs.all d.ok = true → PyData.canLayAll0 (xs.map d.toD) = true
  | [], _ => rfl
  | x :: xs, h => by
    rw [List.all_cons] at h
    obtain ⟨h1, h2⟩ := Bool.and_eq_true_iff.mp h
    show (PyData.canLay0 (d.toD x) && PyData.canLayAll0 (xs.map d.toD)) = true
    rw [d.can x h1, gcan_all d xs h2]; rfl
theorem gdeep_all {α : Type} {E : α → Pd} [DecidableEq α] (d : Dg E) : ∀ xs : List α, PyData.depthAll (xs.map d.toD) ≤ d.dep
  | [] => Nat.zero_le _
  | x :: xs => Nat.max_le.mpr ⟨d.deep x, gdeep_all d xs⟩
theorem geqv_all {α : Type} {E : α → Pd} [DecidableEq α] (d : Dg E) : ∀ xs ys : List α, PyData.eqvAll (xs.map d.toD) (ys.map d.toD) = decide (xs = ys)
  | [], [] => rfl
  | [], _ :: _ => rfl
  | _ :: _, [] => rfl
  | x :: xs, y :: ys => by
    show (PyData.eqv (d.toD x) (d.toD y) && PyData.eqvAll (xs.map d.toD) (ys.map d.toD)) = _
    rw [d.eq, geqv_all d xs ys]
    by_cases h : x = y <;> by_cases h2 : xs = ys <;> simp [h, h2]
def dgL {α : Type} {E : α → Pd} [DecidableEq α] (d : Dg E) : Dg (pL E) := ⟨fun xs => .list (xs.map d.toD), fun ⟨a, o, vs, e, h, z, p⟩ => by rw [e]; exact .lst (.inl (.inr ⟨o, h⟩)) (gdp_all d p), d.dep + 1, fun xs => xs.all d.ok, fun xs h => gcan_all d xs h, fun xs => Nat.succ_le_succ (gdeep_all d xs), fun xs ys => geqv_all d xs ys⟩
theorem Dg.sh {α : Type} {E : α → Pd} [DecidableEq α] (d : Dg E) (hd : d.dep < 60) {x : α} (h : d.ok x = true) : SeqAt.shaped (d.toD x) = true := by
  show (PyData.canLay0 (d.toD x) && decide (PyData.depth (d.toD x) ≤ 64)) = true
  rw [d.can x h, decide_eq_true (by have := d.deep x; omega)]; rfl
section
variable {X : Cx} {W : Bool} {F : Fm} {Γ : Gm} {Δ : Δs} {γ : Type} {a b : Expr} {pos : Pos} {β1 β2 α : Type} [DecidableEq α] {T : Option γ} {k1 : β1 → Option γ} {k : β1 × β2 → Option γ} {Δ1 : β1 → Δs} {Δ2 : β1 → β2 → Δs} {Ee : α → Pd} {x : β1 → α} {y : β1 → β2 → α}
def okG (d : Dg Ee) (x y : α) : Bool := d.ok x && d.ok y
theorem x_eqG (d : Dg Ee) (hu : X.A.units + 64 < cLine) (ha : PE X a (tE W F Γ Δ T k1 (fun b => Ee (x b)) Δ1)) (hb : ∀ b1, PE X b (tE W F Γ (Δ1 b1) (k1 b1) (fun b2 => grd (okG d (x b1) (y b1 b2) = true) (k (b1, b2))) (fun b2 => Ee (y b1 b2)) (Δ2 b1))) (hd : d.dep < 60 := by decide) :
    PE X (.Compare a [.Eq] [b] pos) (tE W F Γ Δ T k (fun b => pBl (decide (x b.1 = y b.1 b.2))) fun b => Δ2 b.1 b.2) :=
  x2g (b_cmp (op_eqD hu) (nomark _)) ha hb fun b1 b2 σ v w H Q ok c hv hw q => by
    obtain ⟨c1, c2⟩ := Bool.and_eq_true_iff.mp c
    exact ⟨_, _, d.dp hv, d.dp hw, d.sh hd c1, d.sh hd c2, by rw [d.eq]; exact q _ rfl⟩
end
section
variable {X : Cx} {W : Bool} {F : Fm} {Γ : Gm} {Δ : Δs} {γ : Type}
section
variable {a b : Expr} {pos : Pos} {β1 β2 : Type} {T : Option γ} {k1 : β1 → Option γ} {k : β1 × β2 → Option γ} {Δ1 : β1 → Δs} {Δ2 : β1 → β2 → Δs} {i : β1 → Int} {v0 : V} {xs : β1 → β2 → List Int} {prm : Option Nat}
end
end
end L3
end
section
set_option maxHeartbeats 4000000
namespace L3
open PySem PySem.Spec PyProof.Rows L2
section
variable {X : Cx} {W : Bool} {F : Fm} {Γ : Gm} {Δ : Δs} {γ : Type}
variable {α α2 β β4 β5 δ : Type} {g g2 : TG} {own : List (Str × Nat)} {vs1 : List Nat} {T : Option γ} {k0 : β → Option γ} {k : β × List δ → Option γ} {Ex : α → Pd} {Ex2 : α2 → Pd} {Ee : δ → Pd} {bd : Gm → α → Gm} {bd2 : Gm → α2 → Gm} {xs : β → List α} {C : β → Δs} {f : β → α → Option (List δ)}
    {ys : β → α → β4 → List α2} {h : β → α → β4 → α2 → Option δ} {e : β → α → β4 → α2 → β5 → δ}
end
end L3
end
section
set_option maxHeartbeats 4000000
namespace L3
open PySem PySem.Spec PyProof.Rows L2
section
variable {κ α : Type} [DecidableEq κ]
end
section
variable {κ α : Type} [DecidableEq κ] [Ky κ]
end
theorem Foc.gr {α : Type} {d : Od} {v : V} {D : α → Od} {x : α} {back : α → Od} {u : V} {H H2 : Hp} (f : Foc d v D x back u H) (g : Gr H H2) : Foc d v D x back u H2 := fun H1 G g1 => f H1 G (g.trans g1)
theorem Foc.id {α : Type} {v : V} {D : α → Od} {x : α} {H : Hp} : Foc (D x) v D x D v H := fun H1 G _ h nd => ⟨G, h, fun _ h => h, nd, fun H' y G2' _ _ nd' _ h' => ⟨G2', h', nd', fun a ha => .inr ha⟩⟩
section
variable {X : Cx} {W : Bool} {F : Fm} {Γ : Gm} {Δ : Δs} {γ : Type}
end
end L3
end
section
set_option maxHeartbeats 4000000
namespace L3
open PySem PySem.Spec PyProof.Rows L2
section
variable {X : Cx} {W : Bool} {F : Fm} {Γ : Gm} {Δ : Δs} {γ : Type}
section
variable {o i e : Expr} {pos : Pos} {β1 β2 α : Type} {T : Option γ} {k1 : β1 → Option γ} {v : V} {d : Od} {D : α → Od} {prm : Option Nat}
end
section
variable {o e : Expr} {apos cpos : Pos} {β1 β2 α : Type} {T : Option γ} {k1 : β1 → Option γ} {k : β1 × β2 → Option γ} {v : V} {d : Od} {prm : Option Nat} {xs : β1 → List α} {back : β1 → List α → Od} {y : β1 → β2 → α}
end
theorem dput_new {κ α : Type} [DecidableEq κ] {xs : List (κ × α)} {k : κ} {y : α} (h : dhas xs k = false) : dput xs k y = xs ++ [(k, y)] := by
  unfold dput
  rw [if_neg]
  intro z
  unfold dhas at h
  rw [h] at z
  cases z
theorem dhas_not {κ α : Type} [DecidableEq κ] {xs : List (κ × α)} {k : κ} (h : dhas xs k = false) : k ∉ xs.map Prod.fst := fun z => by
  obtain ⟨p, hp, e⟩ := List.mem_map.mp z
  unfold dhas at h
  have := List.any_eq_false.mp h p hp
  simp [e] at this
section
variable {N : Fn γ} {rest : List Stmt} {κ : Type} [DecidableEq κ] [Ky κ]
end
end
end L3
end
section
set_option maxHeartbeats 4000000
namespace L3
open PySem PySem.Spec PyProof.Rows L2
section
variable {X : Cx} {W : Bool} {F : Fm} {Γ : Gm} {Δ : Δs} {γ : Type}
section
variable {κ δ : Type} [DecidableEq κ] [Ky κ]
variable {α β β2 β3 : Type} {g : TG} {own : List (Str × Nat)} {T : Option γ} {k : β × List (κ × δ) → Option γ} {Ex : α → Pd} {D : δ → Od} {bd : Gm → α → Gm} {xs : β → List α} {Δ1 : β → Δs} {f : β → α → Option (κ × δ)} {T2 : β → α → β2 → Option (κ × δ)} {ky : β → α → β2 → κ} {y : β → α → β2 → β3 → δ}
end
end
end L3
end
section
set_option maxHeartbeats 4000000
namespace PySem.SeqAt
open AutoSeq1 (wpAny_loadPart')
open MeetsSeq MeetsSeq2 MeetsSeq3 SeqRoads2
section
variable {prog : Program} {w : World}
end
end PySem.SeqAt
end
section
set_option maxHeartbeats 4000000
namespace L3
open PySem PySem.Spec PyProof.Rows L2
structure De {α : Type} (E : α → Pd) where
  dep : Nat
  ok : α → α → Bool
  eqv : α → α → Bool
  rc : ∀ {X : Cx} {pins : List (Addr × Obj)} {σ : SS} {H : Hp} {s : Shared}, Inv X pins σ H s → ∀ A : Around, A.units + dep < cLine → ∀ x y, ok x y = true → ∀ v u v' u', (E x).pr H v → (E y).pr H u → RelV v v' → RelV u u' → SeqAt.EqP X.prog X.w A.in1 s v' u' (eqv x y)
  same : ∀ (H : Hp) x y v, ok x y = true → (E x).pr H v → (E y).pr H v → eqv x y = true
section
variable {κ α : Type} [DecidableEq κ] [Ky κ]
end
section
variable {α : Type}
end
end L3
end
section
set_option maxHeartbeats 4000000
namespace L3
open PySem PySem.Spec PyProof.Rows L2
section
variable {X : Cx} {W : Bool} {F : Fm} {Γ : Gm} {Δ : Δs} {γ : Type}
section
variable {a b : Expr} {pos : Pos} {β1 β2 α : Type} {T : Option γ} {k1 : β1 → Option γ} {k : β1 × β2 → Option γ} {Δ1 : β1 → Δs} {Δ2 : β1 → β2 → Δs} {Ee : α → Pd} {x : β1 → List α} {y : β1 → β2 → List α}
end
end
end L3
end
section
set_option maxHeartbeats 4000000
set_option autoImplicit true
namespace L3
open PySem PySem.Spec PyProof.Rows L2
section
variable {X : Cx} {W : Bool} {F : Fm} {Γ : Gm} {Δ : Δs} {γ : Type}
section
variable {e a b : Expr} {r : R2} {β1 β2 : Type} {T : Option γ} {k1 : β1 → Option γ} {E1 : β1 → Pd} {E2 : β1 → β2 → Pd} {Δ1 : β1 → Δs} {Δ2 : β1 → β2 → Δs}
theorem t2g {c : β1 × β2 → Bool} {k : β1 × β2 → Option γ} {d : β1 → β2 → Prop} [∀ b1 b2, Decidable (d b1 b2)] (h2 : Bin2T X e a b r) (ha : PE X a (tE W F Γ Δ T k1 E1 Δ1)) (hb : ∀ b1, PE X b (tE W F Γ (Δ1 b1) (k1 b1) (fun b2 => grd (d b1 b2) (k (b1, b2))) (E2 b1) (Δ2 b1)))
    (hv : ∀ b1 b2 σ v w H Q, Ok F Γ (Δ2 b1 b2) σ H → d b1 b2 → (E1 b1).pr H v → (E2 b1 b2).pr H w → (∀ u, (pBl (c (b1, b2))).pr H u → Q u H) → r v w H Q) : PT X e (tTs W F Γ Δ T k c fun b => Δ2 b.1 b.2) :=
  t2_core h2 ha hb fun σ H Q ⟨ok, g, e, q⟩ => ⟨ok, g, e, fun b1 b2 v w H2 kb f ok2 hv1 hv2 => hv b1 b2 σ v w H2 _ ok2 (grd_some kb).1 hv1 hv2 fun u hu => ⟨c (b1, b2), hu, q (b1, b2) H2 (grd_some kb).2 f ok2⟩⟩
end
section
variable {a b : Expr} {pos : Pos} {β1 β2 α : Type} {T : Option γ} {k1 : β1 → Option γ} {k : β1 × β2 → Option γ} {Δ1 : β1 → Δs} {Δ2 : β1 → β2 → Δs} {Ee : α → Pd} {x : β1 → List α} {y : β1 → β2 → List α}
end
section
variable {a b : Expr} {pos : Pos} {β1 β2 α : Type} [DecidableEq α] {T : Option γ} {k1 : β1 → Option γ} {k : β1 × β2 → Option γ} {Δ1 : β1 → Δs} {Δ2 : β1 → β2 → Δs} {Ee : α → Pd} {x : β1 → α} {y : β1 → β2 → α}
theorem t_neG (d : Dg Ee) (hu : X.A.units + 64 < cLine) (ha : PE X a (tE W F Γ Δ T k1 (fun b => Ee (x b)) Δ1)) (hb : ∀ b1, PE X b (tE W F Γ (Δ1 b1) (k1 b1) (fun b2 => grd (okG d (x b1) (y b1 b2) = true) (k (b1, b2))) (fun b2 => Ee (y b1 b2)) (Δ2 b1))) (hd : d.dep < 60 := by decide) :
    PT X (.Compare a [.NotEq] [b] pos) (tTs W F Γ Δ T k (fun b => !decide (x b.1 = y b.1 b.2)) fun b => Δ2 b.1 b.2) :=
  t2g (bt_cmp (op_neD hu) (nomark _)) ha hb fun b1 b2 σ v w H Q ok c hv hw q => by
    obtain ⟨c1, c2⟩ := Bool.and_eq_true_iff.mp c
    exact ⟨_, _, d.dp hv, d.dp hw, d.sh hd c1, d.sh hd c2, by rw [d.eq]; exact q _ rfl⟩
end
end
end L3
end
section
set_option maxHeartbeats 2000000
namespace PySem
namespace SxX
open PySem.W PySem.Calls PyProof.Rows PySem.HandSPX
abbrev exR (C t : Addr) (dv : Option Addr) : Obj := { cls := .ref C, dict := dv, data := .fields #[.ref t, .none, .none, .none, .bool false, .none] }
theorem kept_but {K : Frag} {h h' : Heap} {x : Addr} (X : K.In h) (hx : K.lookup x = none) (k : ∀ b o, b ≠ x → h.get? b = some o → h'.get? b = some o) : K.In h' := fun a o e =>
  k a o (fun z => by rw [z, hx] at e; cases e) (X a o e)
theorem ns_but {h h' : Heap} {L x : Addr} {m : Str → Option Value} (hn : h.Ns L m) (hL : L ≠ x) (k : ∀ b o, b ≠ x → h.get? b = some o → h'.get? b = some o) : h'.Ns L m := by
  obtain ⟨oL, es, ep, e, r⟩ := hn
  exact ⟨oL, es, ep, k _ _ hL e, r⟩
theorem lookup_cons (f g : Str) (v : Value) (l : List (Str × Value)) : ((f, v) :: l).lookup g = if g = f then some v else l.lookup g := by
  by_cases h : g = f
  · subst h; rw [if_pos rfl]; simp [List.lookup]
  · rw [if_neg h]
    have : (g == f) = false := by simpa using h
    simp [List.lookup, this]
theorem within_self (l : List (Str × Value)) : Within (fun y => l.lookup y) (l.map (·.1)) := fun y hy => by
  induction l with
  | nil => exact absurd (show (none : Option Value) ≠ none from hy) (fun z => z rfl)
  | cons p l ih =>
    obtain ⟨f, v⟩ := p
    have hy : ((f, v) :: l).lookup y ≠ none := hy
    rw [lookup_cons] at hy
    by_cases e : y = f
    · rw [e]; exact List.mem_cons_self
    · rw [if_neg e] at hy
      exact List.mem_cons_of_mem _ (ih hy)
def Dct (h : Heap) (K : Frag) (x L n : Addr) (dv : Option Addr) (done : List (Str × Value)) : Prop :=
  match dv with
  | none => done = []
  | some dx => h.Ns1 dx (fun y => done.lookup y) ∧ K.lookup dx = none ∧ dx ≠ x ∧ dx ≠ L ∧ n ≤ dx
section
variable {prog : Program} {w : World} {A : Around} {E : Value → Shared → Prop} {K : Frag} {C x L t1 : Addr} {env : Env} {g : Array GenState} {d : Drawn} {os : OsState} {hb : Heap} {m : Str → Option Value} {cd : ClassData}
theorem ldL {M : Model} {s : Shared} {y : Str} {pos : Pos} {v : Value} {Q : Value → Shared → Prop} (hk : env.scope.kind = .function) (hl : env.kindOf y = some .local) (hL : env.locals = L) (hn : s.heap.Ns L m) (hv : m y = some v) (h : Q v s) (hd : (y == ("__debug__" : Str)) = false) :
    wpAny M A (eval (.Name y pos) env) Q E s := wpAny_Name (wpAny_loadName_local hk hl (by rw [hL]; exact hn) hv h) hd
theorem stores_run (hk : env.scope.kind = .function) (hL : env.locals = L) (hself : env.kindOf "self" = some .local) (hms : m "self" = some (.ref x)) (hcl : clsIn K C = some cd) (hm : refsVE cd.mro = true) (hh : cd.hasDict = true) (sa : findIn K (.ref C) "__setattr__" = some (some (.builtin "object.__setattr__")))
    (hnx : K.lookup x = none) (hxL : L ≠ x) : ∀ {st : List Stmt} {fs : List Str}, Stores st fs → ∀ {h : Heap} {tk : Nat} {vs : List Value} {done : List (Str × Value)} {dv : Option Addr} {Q : Flow → Shared → Prop},
    K.In h → h.Ns L m → vs.length = fs.length → (∀ (i : Nat) f v, fs[i]? = some f → vs[i]? = some v → m f = some v) → (∀ f ∈ fs, env.kindOf f = some .local) → (∀ f ∈ fs, findIn K (.ref C) f = some none) → h.get? x = some (exR C t1 dv) → Dct h K x L hb.objs.size dv done →
    done.length + fs.length ≤ 900 → L < h.objs.size → hb.objs.size ≤ h.objs.size → (∀ b o, b ≠ x → hb.get? b = some o → h.get? b = some o) →
    (∀ (h' : Heap) (tk' : Nat) (dv' : Option Addr), (∀ b o, b ≠ x → hb.get? b = some o → h'.get? b = some o) → h'.get? x = some (exR C t1 dv') → Dct h' K x L hb.objs.size dv' ((fs.zip vs).reverse ++ done) → (fs = [] → dv' = dv) → Q .next ⟨h', g, d, tk', os⟩) →
    wpAny (model prog w) A (execs st env) Q E ⟨h, g, d, tk, os⟩
  | _, _, .nil, h, tk, vs, done, dv, Q, X, hn, hl, hv, hloc, hno, hx, hD, hz, hLs, hsz, hkb, hq => by
    refine wpAny_execs_nil (hq h tk dv hkb hx ?_ fun _ => rfl)
    have : vs = [] := List.eq_nil_of_length_eq_zero hl
    subst this
    exact hD
  | _, f :: fs, .cons hdb hS, h, tk, [], done, dv, Q, X, hn, hl, hv, hloc, hno, hx, hD, hz, hLs, hsz, hkb, hq => by cases hl
  | _, f :: fs, .cons hdb hS, h, tk, v :: vs, done, dv, Q, X, hn, hl, hv, hloc, hno, hx, hD, hz, hLs, hsz, hkb, hq => by
    have hfv : m f = some v := hv 0 f v rfl rfl
    have hz2 : done.length + (fs.length + 1) ≤ 900 := by simpa using hz
    refine wpAny_execs_cons (plainObj_wpAny_Assign_Attribute ?_)
    refine ldL hk (hloc f List.mem_cons_self) hL hn hfv (ldL hk hself hL hn hms ?_ (by decide)) hdb
    have next : ∀ (h' : Heap) (tk' : Nat) (dx : Addr), (∀ b o, b ≠ x → hb.get? b = some o → h'.get? b = some o) → K.In h' → h'.Ns L m → h'.get? x = some (exR C t1 (some dx)) → h'.Ns1 dx (fun y => ((f, v) :: done).lookup y) → K.lookup dx = none → dx ≠ x → dx ≠ L → hb.objs.size ≤ dx → L < h'.objs.size → hb.objs.size ≤ h'.objs.size →
        wpAny (model prog w) A (execs _ env) Q E ⟨h', g, d, tk', os⟩ := fun h' tk' dx k1 X' n' x' d' kd dx1 dxL dn L' sz' =>
      stores_run hk hL hself hms hcl hm hh sa hnx hxL hS (done := (f, v) :: done) (dv := some dx) X' n' (by simpa using hl) (fun i f' v' e1 e2 => hv (i + 1) f' v' e1 e2) (fun f' hf => hloc f' (List.mem_cons_of_mem _ hf)) (fun f' hf => hno f' (List.mem_cons_of_mem _ hf)) x' ⟨d', kd, dx1, dxL, dn⟩ (by rw [List.length_cons]; omega) L' sz' k1 fun h2 tk2 dv2 k2 x2 d2 _ => hq h2 tk2 dv2 k2 x2 (by
        rw [List.zip_cons_cons, List.reverse_cons, List.append_assoc]
        exact d2) (fun z => by cases z)
    cases dv with
    | none =>
      have hd0 : done = [] := hD
      refine set_plain X (ox := exR C t1 none) (od := none) ⟨hx, rfl, rfl, trivial⟩ sa ?_
      refine exc_osa X hx hcl hm hh (hno f List.mem_cons_self) fun h' tk' dx k dn dne hx' hn' => ?_
      have kd : K.lookup dx = none := by
        cases e : K.lookup dx with
        | none => rfl
        | some o => exact absurd (Heap.lt_size (X _ _ e)) (Nat.not_lt.mpr dn)
      have dn : h.objs.size ≤ dx := dn
      have h3 : dx < h'.objs.size := by
        obtain ⟨oD, esD, epD, hoD, hdD, _⟩ := hn'.count (Within.cons f v Within.nil)
        exact Heap.lt_size hoD
      have hs : h.objs.size ≤ h'.objs.size := Nat.le_trans dn (Nat.le_of_lt h3)
      refine next h' tk' dx (fun b o hb1 hb2 => k b o hb1 (hkb b o hb1 hb2)) (kept_but X hnx k) (ns_but hn hxL k) hx' ?_ kd dne (fun z => Nat.lt_irrefl _ (Nat.lt_of_lt_of_le hLs (by rw [← z]; exact dn))) (Nat.le_trans hsz dn) (Nat.lt_of_lt_of_le hLs hs) (Nat.le_trans hsz hs)
      have e : (fun y => if y = f then some v else none) = fun y => ((f, v) :: done).lookup y := by
        funext y
        rw [lookup_cons, hd0]
        rfl
      rw [← e]
      exact hn'
    | some dx =>
      obtain ⟨hns, kd, dne, dL, dn⟩ := hD
      have dn : hb.objs.size ≤ dx := dn
      have hw := within_self done
      obtain ⟨oD, esD, epD, hoD, hdD, _⟩ := hns.count hw
      refine set_plain X (ox := exR C t1 (some dx)) (od := some oD) ⟨hx, rfl, rfl, hoD⟩ sa ?_
      refine OEX.osa_old X hx hns hw (by rw [List.length_map]; omega) hcl hm hh (hno f List.mem_cons_self) fun h' tk' k hn' => ?_
      have e : (fun y => if y = f then some v else done.lookup y) = fun y => ((f, v) :: done).lookup y := by
        funext y
        rw [lookup_cons]
      rw [e] at hn'
      have hx' := k x _ (Ne.symm dne) hx
      have L' : L < h'.objs.size := by
        obtain ⟨oL, es, ep, e, r⟩ := hn
        exact Heap.lt_size (k L _ (Ne.symm dL) e)
      have sz' : hb.objs.size ≤ h'.objs.size := by
        have h3 : dx < h'.objs.size := by
          obtain ⟨oD, esD, epD, hoD, hdD, _⟩ := hn'.count (within_self ((f, v) :: done))
          exact Heap.lt_size hoD
        exact Nat.le_trans dn (Nat.le_of_lt h3)
      exact next h' tk' dx (fun b o hb1 hb2 => k b o (fun z => by
        have := Heap.lt_size hb2
        rw [z] at this
        exact Nat.lt_irrefl _ (Nat.lt_of_lt_of_le this dn)) (hkb b o hb1 hb2)) (kept_but X kd k) (ns_but hn (Ne.symm dL) k) hx' hn' kd dne dL dn L' sz'
end
end SxX
end PySem
end
section
set_option maxHeartbeats 2000000
namespace PySem
namespace SxX
open PySem.W PySem.Calls PyProof.Rows PySem.HandSPX
theorem eval_mcall {o : Expr} {name : Str} {apos pos : Pos} {args : List Expr} {env : Env} (hline : (apos.endLine == pos.line) = true) (hform : methodCallForm (args.length + ([] : List Keyword).length) (backTo pos (starEach args env)) (backToKw pos (keywordEach [] env)) = true) :
    eval (.Call (.Attribute o name apos) args [] pos) env = (do
      let ov ← attributeBase o name env (eval o env)
      standAt apos.atName
      let (f, first) ← holding [ov] (getMethod ov name (do return (← importBound o env).getD true))
      callWith pos f first (backTo pos (starEach args env)) []) := by
  rw [arm_eval_Call]
  have hpos : methodCallPos true o env apos pos = pure pos := by unfold methodCallPos; simp [hline]
  unfold methodCall
  rw [hform, hpos]
  simp only [pure_bind]
  rfl
theorem str1_size (v : Value) : [v].length ≤ sizeLine := by
  rw [sizeLine_eq]
  exact (by decide : 1 ≤ 16777216)
theorem zip_rev_lookup : ∀ {ps : List Str} {us : List Value}, ps.Nodup → ∀ (i : Nat) (f : Str) (v : Value), ps[i]? = some f → us[i]? = some v → (ps.zip us).reverse.lookup f = some v
  | [], us, _, i, f, v, h, _ => by simp at h
  | p :: ps, [], _, i, f, v, _, h => by simp at h
  | p :: ps, u :: us, nd, i, f, v, h1, h2 => by
    rw [List.nodup_cons] at nd
    rw [List.zip_cons_cons, List.reverse_cons, List.lookup_append]
    cases i with
    | zero =>
      simp only [List.getElem?_cons_zero, Option.some.injEq] at h1 h2
      subst h1 h2
      have hn : (ps.zip us).reverse.lookup p = none := by
        rw [List.lookup_eq_none_iff]
        intro q hq
        have hq := List.mem_reverse.mp hq
        have := (List.of_mem_zip (show (q.1, q.2) ∈ ps.zip us from hq)).1
        simp only [beq_eq_false_iff_ne, ne_eq, bne_iff_ne, Bool.not_eq_true]
        exact fun e => nd.1 (by rw [e]; exact this)
      rw [hn]
      simp [List.lookup]
    | succ j =>
      rw [zip_rev_lookup nd.2 j f v (by simpa using h1) (by simpa using h2)]
      rfl
section
variable {prog : Program} {w : World} {A : Around} {R : Result → Shared → Prop} {K : Frag} {C fI x t0 : Addr} {ps : List Str} {hb : Heap} {g : Array GenState} {d : Drawn} {tk : Nat} {os : OsState} {mg : Str → Option Value}
theorem bound_call {A : Around} {E : Value → Shared → Prop} {h : Heap} {u t : Addr} {rest : List Value} {Q : Value → Shared → Prop} {nm q : Str} {N : Addr} {bs bm : List Value} {hdct : Bool} {sn : List Str} {sub : List Value} {ab : Bool} {col : Option Bool} {dd : Option Addr} {k0 k1 k2 k3 k5 : Option Value}
    (hC : h.get? C = some (excClassObj nm q C N bs bm hdct sn sub ab col dd k0 k1 k2 k3 k5 "ValueError.__new__")) (hu : h.get? u = some (kxs_mw "ValueError.__init__" x)) (he : h.get? x = some (exR C t none)) (hz : rest.length ≤ sizeLine)
    (hq : ∀ h' t1, (∀ b o, b ≠ x → h.get? b = some o → h'.get? b = some o) → h'.get? x = some (exR C t1 none) → Q .none ⟨h', g, d, tk, os⟩) : wpAny (model prog w) A (call (.ref u) rest) Q E ⟨h, g, d, tk, os⟩ := by
  refine wpAny_call (codeAny_of_tree ?_)
  show wpAny _ A.in1 (callAny (.ref u) ⟨rest, []⟩) _ _ _
  simp only [callAny]
  refine wpAny_bind (wpAny_load hu ?_)
  simp only [kxs_mw, show (Value.type "method-wrapper" == Value.type "method" || Value.type "method-wrapper" == Value.type "builtin_function_or_method" || Value.type "method-wrapper" == Value.type "method-wrapper") = true by decide, if_true]
  refine KFB.if_so (by decide) ?_
  refine wpAny_bind (check_bound_init F.excBase_ValueError.toExcCallFacts hC he rfl ?_)
  refine wpAny_bind (wpAny_pure (wpAny_pure ?_))
  refine ⟨plainId_quiet F.excBase_ValueError.init.plain _, codeAny_builtin F.excBase_ValueError.initEntry ?_⟩
  exact exc_init_tree (cls := .ref C) (t0 := t) (dv := none) (c2 := .none) (c3 := .none) (b4 := .bool false) he hz fun h' k e _ => hq h' _ k e
theorem sx_init (T : SxTxt prog K C fI ps) {vs : List Value} (hl : vs.length = ps.length) (X : K.In hb) (hlim : hb.NoLimit) (G : hb.Ns mainGlobals mg) (hmg : mg "super" = none) (hblt : ∃ mb, hb.Ns builtinsNs mb ∧ ∀ x : Str, x ≠ "__name__" → mb x = bootBuiltins x)
    (hx : hb.get? x = some (excO C t0)) (hnx : K.lookup x = none) (hroom : A.depth < recursionLimit)
    (hq : ∀ (h' : Heap) (tk' : Nat) (t1 : Addr) (dv : Option Addr), (∀ b o, b ≠ x → hb.get? b = some o → h'.get? b = some o) → h'.get? x = some (exR C t1 dv) → Dct h' K x hb.objs.size hb.objs.size dv (ps.zip vs).reverse → (ps = [] → dv = none) → R (.ok (.ret .none)) ⟨h', g, d, tk', os⟩) :
    codeAny (model prog w) A (.call (.ref fI) ⟨.ref x :: vs, []⟩) R ⟨hb, g, d, tk, os⟩ := by
  obtain ⟨oc, od, doc, pm, an, cda, ct, osl, cc, qual, params, ar, text, kk, q0, q1, q2, q3, q4, q5, stores, scope, ccl, cdd, fvs, ccs, file, tf, cl, cld, csl, ho, hcd, hS, hp, har, hcode, hfv, hfile, hline, hcell, hks, hkc, hka, hkps, hkf, hco, hgen, hnc, nd, hbd⟩ := T.fn
  obtain ⟨nm, q, N, bs, bm, sn, sub, ab, col, dd, k0, k1, k2, k3, k5, hC, hbm⟩ := T.cls
  have hcl : clsIn K C = some { name := nm, bases := bs, mro := .ref C :: bm, ns := N, qualname := q, hasDict := true, slotNames := sn, subclasses := sub, abstract := ab, collection := col, hasDel := false } := by unfold clsIn; rw [hC] <;> rfl
  have hlen : (Value.ref x :: vs).length = ps.length + 1 := by rw [List.length_cons, hl]
  have hxs := Heap.lt_size hx
  refine ks_codeAny_call_defAt (binds := (("self" : Str) :: ps).zip (Value.ref x :: vs)) hroom (X _ _ ho) rfl hlim (codeRec_of X hcd) rfl (hbd _ _ hlen) hnc (fun y hy => ?_) (fun h₁ hns hk₁ => ?_) hco hgen hkf
  · have := (List.of_mem_zip (show (y.1, y.2) ∈ _ from hy)).1
    rcases List.mem_cons.mp this with e | e
    · rw [e]; exact hka
    · exact hkps _ e
  have hk1 : ∀ b o, hb.get? b = some o → h₁.get? b = some o := hk₁
  have hL : (hb.objs.size : Addr) ≠ x := Nat.ne_of_gt hxs
  have X1 : K.In h₁ := X.keeps hk1
  have hx1 := hk1 _ _ hx
  have hmself : ((("self" : Str) :: ps).zip (Value.ref x :: vs)).reverse.lookup ("self" : Str) = some (.ref x) := zip_rev_lookup nd 0 _ _ rfl rfl
  have hmf : ∀ (i : Nat) f v, ps[i]? = some f → vs[i]? = some v → ((("self" : Str) :: ps).zip (Value.ref x :: vs)).reverse.lookup f = some v := fun i f v e1 e2 => zip_rev_lookup nd (i + 1) f v e1 e2
  generalize hm : (fun y => ((("self" : Str) :: ps).zip (Value.ref x :: vs)).reverse.lookup y) = m at hns
  have hmself : m "self" = some (.ref x) := by rw [← hm]; exact hmself
  have hmf : ∀ (i : Nat) f v, ps[i]? = some f → vs[i]? = some v → m f = some v := fun i f v e1 e2 => by rw [← hm]; exact hmf i f v e1 e2
  obtain ⟨mb, hb1, hb2⟩ := hblt
  show wpAt _ _ _ (execs _ (ksEnv qual scope hb.objs.size fI (.ref cda) cc)) _ _ _
  refine ks_wpAt_execs_cons (ks_wpAt_Expr_any (ks_wpAt_MethodCall ?_ (eval_mcall hline (by rfl))) (by unfold interactive; simp [hkf]) (by rfl))
  obtain ⟨oD, hD1, hD2⟩ : ∃ oD : Obj, h₁.get? C = some oD ∧ ∃ cd, oD.data = .cls cd := ⟨_, X1 _ _ hC, _, rfl⟩
  obtain ⟨cdD, hD2⟩ := hD2
  refine ks_wpAt_super_base (env := ksEnv qual scope hb.objs.size fI (.ref cda) cc) hks hkc (by decide) rfl (X1 _ _ ho) rfl hp rfl (X1 _ _ hcode) rfl hfv hfile T.top ?_
  refine ks_loadName_global hkf hks (loadGlobal_builtin (env := ksEnv qual scope hb.objs.size fI (.ref cda) cc) (G.keeps hk1) hmg (hb1.keeps hk1) ((hb2 _ (by decide)).trans (by decide +kernel)) ⟨rfl, ?_⟩)
  refine wpAny_loadName_free hkf hkc rfl ⟨_, X1 _ _ hcell, rfl⟩ ?_
  refine wpAny_loadName_local (by exact hkf) (by rw [har]; exact hka) hns (by rw [har]; exact hmself) ?_
  refine ks_wpAny_isType_cls hD1 hD2 ⟨rfl, ?_⟩
  have subCC : Looks (model prog w) h₁ (isSubtype (.ref C) (.ref C)) true := by
    refine looks_mroIn X1 ?_
    unfold mroIn
    rw [hcl]
    simp
  refine ks_wpAny_call_super hD1 hD2 hx1 rfl (fun c e => by cases e) subCC fun h2 hso hk2 => ?_
  have hk02 : ∀ b o, hb.get? b = some o → h2.get? b = some o := fun b o e => hk2 b o (hk1 b o e)
  have X2 : K.In h2 := X1.keeps hk2
  have hx2 := hk2 _ _ hx1
  have hI : Looks (model prog w) h2 (isInstance (.ref x) (.type "ValueError")) true := (show W.InstAt h2 x (excO C t0) C none from ⟨hx2, rfl, rfl, trivial⟩).type.andThen (looks_subIn X2 T.veC)
  have hxC : x ≠ C := ks_ne X2 (show W.InstAt h2 x (excO C t0) C none from ⟨hx2, rfl, rfl, trivial⟩) hcl
  have hsup : alongIn K "__init__" (((Value.ref C :: bm).dropWhile (· != .ref C)).drop 1) = some (some (.builtin "ValueError.__init__")) := by
    have := T.sup
    unfold ks_superIn at this
    rw [hcl] at this
    exact this
  refine kxs_getMethod kxs_ValueError hso (looks_opaque X2 T.opq) (l₀ := .ref C :: bm) (fun A Q E s k q => wpAny_bind ((looks_clsIn X2 hcl) A _ E s k (wpAny_pure q))) rfl X2 hsup hI hxC (by decide) ?_
  have hu3 : (h2.push (kxs_mw "ValueError.__init__" x)).get? h2.objs.size = some (kxs_mw "ValueError.__init__" x) := Heap.get?_push_size _ rfl
  have hk3 : ∀ b o, h2.get? b = some o → (h2.push (kxs_mw "ValueError.__init__" x)).get? b = some o := fun b o e => Heap.get?_push_of_some _ e
  show wpAny _ _ (callWith _ (.ref h2.objs.size) [] _ []) _ _ _
  refine kxs_callWith (i := "ValueError.__init__") (x := x) (by rfl) ?_
  refine evalArgs_plain (spliced_cons (Constant_str (k := kk) (pos := q0) (spliced_nil ⟨hu3, ?_⟩)))
  have hC3 := hk3 _ _ (X2 _ _ hC)
  refine bound_call (t := t0) hC3 hu3 (hk3 _ _ hx2) (str1_size _) fun h5 t1 k5 x5 => ?_
  refine wpAt_of_wpAny ?_
  have k05 : ∀ b o, b ≠ x → hb.get? b = some o → h5.get? b = some o := fun b o e1 e2 => k5 b o e1 (hk3 b o (hk02 b o e2))
  have n5 : h5.Ns hb.objs.size m := by
    obtain ⟨oL, es, ep, e, r⟩ := hns
    exact ⟨oL, es, ep, k5 _ _ hL (hk3 _ _ (hk2 _ _ e)), r⟩
  have L5 : hb.objs.size < h5.objs.size := by
    obtain ⟨oL, es, ep, e, r⟩ := n5
    exact Heap.lt_size e
  refine stores_run (env := ksEnv qual scope hb.objs.size fI (.ref cda) cc) (hb := hb) (L := hb.objs.size) hkf rfl hka hmself hcl (show refsVE (.ref C :: bm) = true from hbm) rfl T.sa hnx hL hS (done := []) (dv := none) (kept_but X hnx k05) n5 hl hmf hkps T.noN x5 rfl (by have := T.few; rw [List.length_nil]; omega) L5 (Nat.le_of_lt L5) k05 fun h' tk' dv' k' x' d' z => ?_
  exact hq h' tk' t1 dv' k' x' (by rw [List.append_nil] at d'; exact d') z
theorem sx_made (T : SxTxt prog K C fI ps) {vs : List Value} (hl : vs.length = ps.length) (X : K.In hb) (hlim : hb.NoLimit) (G : hb.Ns mainGlobals mg) (hmg : mg "super" = none) (hblt : ∃ mb, hb.Ns builtinsNs mb ∧ ∀ x : Str, x ≠ "__name__" → mb x = bootBuiltins x) (hroom : A.depth + 1 < recursionLimit)
    (hq : ∀ (h' : Heap) (tk' : Nat) (e t1 : Addr) (dv : Option Addr), (∀ b o, hb.get? b = some o → h'.get? b = some o) → hb.objs.size ≤ e → h'.get? e = some (exR C t1 dv) → (match dv with | none => ps = [] | some dx => hb.objs.size ≤ dx ∧ dx ≠ e ∧ h'.Ns1 dx (fun y => (ps.zip vs).reverse.lookup y) ∧ ps ≠ []) → R (.ok (.ret (.ref e))) ⟨h', g, d, tk', os⟩) :
    codeAny (model prog w) A (.call (.ref C) ⟨vs, []⟩) R ⟨hb, g, d, tk, os⟩ := by
  obtain ⟨nm, q, N, bs, bm, sn, sub, ab, col, dd, k0, k1, k2, k3, k5, hC, hbm⟩ := T.cls
  have k : ∀ b o, hb.get? b = some o → ((hb.push (kdv_tup vs)).push (excO C hb.objs.size)).get? b = some o := fun b o e => Heap.get?_push_of_some _ (Heap.get?_push_of_some _ e)
  have hget : ((hb.push (kdv_tup vs)).push (excO C hb.objs.size)).get? (hb.objs.size + 1) = some (excO C hb.objs.size) := by heap_get
  have hnx : K.lookup (hb.objs.size + 1) = none := by
    cases e : K.lookup (hb.objs.size + 1) with
    | none => rfl
    | some o =>
      have z : hb.get? (hb.objs.size + 1) = some o := X _ _ e
      exact absurd (Nat.lt_of_succ_lt (Heap.lt_size z)) (Nat.lt_irrefl _)
  have hsz : vs.length ≤ sizeLine := by
    have := T.few
    rw [hl, sizeLine_eq]
    omega
  refine call_own F.excBase_ValueError (fun X => refsVE_contains X bm hbm) (X _ _ hC) (looks_findIn X T.iC) (fun self => bind_fn X self T.tC) hsz ?_
  refine sx_init (hb := (hb.push (kdv_tup vs)).push (excO C hb.objs.size)) T hl (X.keeps k) (hlim.keeps k) (G.keeps k) hmg (by
    obtain ⟨mb, h1, h2⟩ := hblt
    exact ⟨mb, h1.keeps k, h2⟩) hget hnx (by show A.depth + 1 < recursionLimit; exact hroom) fun h' tk' t1 dv k' hx hD hn => ?_
  have old : ∀ b o, hb.get? b = some o → h'.get? b = some o := fun b o e => k' b o (Nat.ne_of_lt (Nat.lt_succ_of_lt (Heap.lt_size e))) (k b o e)
  refine ⟨rfl, hq h' tk' (hb.objs.size + 1) t1 dv old (Nat.le_succ _) hx ?_⟩
  cases dv with
  | none =>
    have hD : (ps.zip vs).reverse = [] := hD
    have hD := List.reverse_eq_nil_iff.mp hD
    rcases List.zip_eq_nil_iff.mp hD with e | e
    · exact e
    · rw [e] at hl
      exact List.eq_nil_of_length_eq_zero hl.symm
  | some dx =>
    obtain ⟨hns, kd, dne, dL, dn⟩ := hD
    have z : hb.objs.size ≤ dx := by
      refine Nat.le_trans ?_ dn
      rw [Heap.size_push, Heap.size_push]
      omega
    exact ⟨z, dne, hns, fun e => by cases hn e⟩
end
end SxX
end PySem
end
section
set_option maxHeartbeats 2000000
set_option autoImplicit true
namespace L2
open PySem PySem.Spec PyProof.Rows PySem.SxX
def tSx (C : Addr) (ps : List Str) (vs : List V) : Hp → XK → Prop := fun H Q => vs.length = ps.length ∧ (ps = [] → Q (.ref C) none H) ∧ (ps ≠ [] → ∀ d, H d = none → Q (.ref C) (some d) (upd H d (.xd (ps.zip vs).reverse)))
theorem relO_app {f : Str} {l l' : List (Str × V)} {m m' : List (Str × Value)} (h1 : RelO (l.lookup f) (m.lookup f)) (h2 : RelO (l'.lookup f) (m'.lookup f)) : RelO ((l ++ l').lookup f) ((m ++ m').lookup f) := by
  rw [List.lookup_append, List.lookup_append]
  cases e1 : l.lookup f with
  | none =>
    cases e2 : m.lookup f with
    | none => exact h2
    | some u => rw [e1, e2] at h1; exact h1.elim
  | some v =>
    cases e2 : m.lookup f with
    | none => rw [e1, e2] at h1; exact h1.elim
    | some u => rw [e1, e2] at h1; exact h1
theorem relO_one {f p : Str} {v : V} {u : Value} (r : RelV v u) : RelO (List.lookup f [(p, v)]) (List.lookup f [(p, u)]) := by
  rw [lookup_put, lookup_cons]
  by_cases e : f = p
  · rw [if_pos e, if_pos e]; exact r
  · rw [if_neg e, if_neg e]; trivial
theorem vals_rev : ∀ {ps : List Str} {vs : List V} {us : List Value}, Vals vs us → ∀ f, RelO ((ps.zip vs).reverse.lookup f) ((ps.zip us).reverse.lookup f)
  | [], _, _, _, f => trivial
  | p :: ps, [], _, .nil, f => trivial
  | p :: ps, v :: vs, u :: us, .cons r t, f => by
    rw [List.zip_cons_cons, List.zip_cons_cons, List.reverse_cons, List.reverse_cons]
    exact relO_app (vals_rev t f) (relO_one r)
section
variable {X : Cx} {C fI : Addr} {ps : List Str} {x : Str} {p pos : Pos} {k : Nat}
theorem sx_mkP {pins : List (Addr × Obj)} {σ : St} {H1 : Hp} {Q : XK} {hp : Heap} {g : Array GenState} {dr : Drawn} {tk : Nat} {os : OsState} {vs : List V} {us : List Value} (T : SxTxt X.prog X.K C fI ps) (gS : X.mg "super" = none) (hr : Room k X.A) (I1 : Inv X pins σ H1 ⟨hp, g, dr, tk, os⟩) (r : Vals vs us) (q : tSx C ps vs H1 Q) :
    wpAny (model X.prog X.w) X.A (call (.ref C) us) (MkP X pins σ Q) X.xe ⟨hp, g, dr, tk, os⟩ := by
  have hlim := I1.nolimit
  obtain ⟨hl, q0, q1⟩ := q
  have hlu : us.length = ps.length := by rw [← r.length, hl]
  refine wpAny_call (sx_made T hlu I1.kIn hlim (I1.mod.glob.keeps I1.bk) gS (by
    obtain ⟨mb, h1, h2⟩ := I1.mod.blt
    exact ⟨mb, h1.keeps I1.bk, h2⟩) (by have := hr.dp; omega) fun h' tk' e t1 dv keep new hoe hD => ?_)
  show MkP X pins σ Q (.ref e) ⟨h', g, dr, tk', os⟩
  obtain ⟨G', g1, g2⟩ := restrict h' fun b => decide (b ≠ e)
  have gk : ∀ b, b ≠ e → G'.get? b = h'.get? b := fun b hb => g1 b (decide_eq_true hb)
  have ge : G'.get? e = none := g2 e (by simp)
  have old : ∀ b o, hp.get? b = some o → G'.get? b = some o := fun b o q => (gk b (Nat.ne_of_lt (Nat.lt_of_lt_of_le (Heap.lt_size q) new))).trans (keep b o q)
  have back : ∀ b o, G'.get? b = some o → h'.get? b = some o := fun b o q => by
    by_cases hb : b = e
    · rw [hb, ge] at q; cases q
    · exact (gk b hb).symm.trans q
  cases dv with
  | none =>
    have e0 : ps = [] := hD
    have J : Inv X pins σ H1 ⟨G', g, dr, tk', os⟩ := I1.kept old
    exact ⟨e, _, _, ⟨G', g, dr, tk', os⟩, H1, .ref C, none, rfl, J, back, ge, hoe, ⟨rfl, rfl⟩, rfl, rfl, I1.hok.fresh new, rfl, I1.bare, raises_own T.exC T.tyC, q0 e0⟩
  | some d =>
    obtain ⟨dbig, dne, hns, ne⟩ := hD
    have ob : ObjOk X.prog X.w (upd H1 d (.xd (ps.zip vs).reverse)) G' d (.xd (ps.zip vs).reverse) := ⟨_, hns.at (fun o q => (gk d dne).trans q), fun f => vals_rev r f⟩
    have J : Inv X pins σ (upd H1 d (.xd (ps.zip vs).reverse)) ⟨G', g, dr, tk', os⟩ := I1.laid (t' := tk') old dbig ob
    exact ⟨e, _, _, ⟨G', g, dr, tk', os⟩, _, .ref C, some d, rfl, J, back, ge, hoe, ⟨rfl, rfl⟩, rfl, rfl, by rw [upd_ne (Ne.symm dne)]; exact I1.hok.fresh new, rfl, I1.bare, raises_own T.exC T.tyC, q1 ne d (I1.hok.fresh dbig)⟩
def tMkSx (C : Addr) (ps : List Str) (ta : TA) : St → Hp → XK → Prop := fun σ H Q => ta σ H fun vs H1 => tSx C ps vs H1 Q
theorem pmk_sx {e : Expr} {es : List Expr} {ta : TA} (T : SxTxt X.prog X.K C fI ps) (gC : X.mg x = some (.ref C)) (gS : X.mg "super" = none) (hr : Room k X.A) (ha : PA X (e :: es) ta) (hg : Gl X x := by rfl) (hdb : (x == ("__debug__" : Str)) = false := by decide)
    (he : starEach (e :: es) X.env = (false, eval e X.env) :: starEach es X.env := by rfl) (hpl : (backTo pos (starEach es X.env)).any (·.1) = false := by rfl) :
    PMk X (.Call (.Name x p) (e :: es) [] pos) (tMkSx C ps ta) := by
  intro pins s σ H Q I h
  refine wpAny_Call_Name_kw (ld_glob I hg gC ?_ hdb)
  refine PySem.W.callWith_K (h₀ := X.base) I.ok.mod.kin T.kC (thn (ha.run pos pins s σ H _ I h) fun us s1 hh => ?_) he hpl
  obtain ⟨vs, H1, I1, r1, q1⟩ := hh
  refine ⟨I1.kIn, ?_⟩
  obtain ⟨hp, g, dr, tk, os⟩ := s1
  exact sx_mkP T gS hr I1 r1 q1
end
end L2
end
section
set_option maxHeartbeats 4000000
set_option autoImplicit true
namespace L3
open PySem PySem.Spec PyProof.Rows L2 PySem.SxX
def exC (C : Addr) (ps : List Str) (pds : List Pd) (cls : Value) (d : Option Addr) (H : Hp) : Prop :=
  cls = .ref C ∧ ((ps = [] ∧ d = none) ∨ (ps ≠ [] ∧ ∃ dd vs, d = some dd ∧ H dd = some (.xd (ps.zip vs).reverse) ∧ Paired (fun p v => Pd.pr p H v) pds vs))
theorem exC_mono {C : Addr} {ps : List Str} {pds : List Pd} {cls : Value} {d : Option Addr} {H H' : Hp} (f : Fzs H H') (h : exC C ps pds cls d H) : exC C ps pds cls d H' := by
  obtain ⟨e, h | ⟨ne, dd, vs, ed, hd, p⟩⟩ := h
  · exact ⟨e, .inl h⟩
  · exact ⟨e, .inr ⟨ne, dd, vs, ed, f _ _ trivial hd, paired_mono (fun p v q => p.mono f q) p⟩⟩
theorem xOut.mono {ε : Type} {Kx : Xk ε} {F : Fm} {Δx : Δs} {Nx : SS → Hp → Prop} {Wx : WX} {e : ε} {H H1 : Hp} (h : xOut Kx F Δx Nx Wx e H) (f : Fzs H H1) : xOut Kx F Δx Nx Wx e H1 := fun cls d σ H' f' => h cls d σ H' (f.trans f')
def fX {ε τ : Type} (Kx : Xk ε) (Tf : Fn τ) (F : Fm) (Δx : Δs) (Nx : SS → Hp → Prop) (Wx : WX) : Fn (Except ε τ) := ⟨fun H g D => match g with | .ok t => Tf.fin H t D | .error e => xOut Kx F Δx Nx Wx e H, fun {H H' g D} h f => by
  cases g with
  | ok t => exact Tf.mono h f
  | error e => exact xOut.mono h f⟩
theorem ex_X {ε τ : Type} {Kx : Xk ε} {Tf : Fn τ} {F : Fm} {Δx : Δs} {Nx : SS → Hp → Prop} {Wx : WX} : Ex (fX Kx Tf F Δx Nx Wx) (Except.error (α := τ)) Kx F Δx Nx Wx := fun _ _ _ h => h
section
variable {X : Cx} {W : Bool} {F : Fm} {Γ : Gm} {Δ : Δs} {γ ε : Type} {Kx : Xk ε} {N : Fn γ} {ιx : ε → γ} {Δx : Δs} {Nx : SS → Hp → Prop} {Wx : WX} {k : Nat} {C fI : Addr} {ps : List Str} {x : Str} {p pos pos2 : Pos}
theorem s_raise {e : Expr} {es : List Expr} {β : Type} {T : Option γ} {pds : β → List Pd} {er : β → ε} {Δ' : β → Δs} (tk : Takes X Wx) (hN : Ex N ιx Kx F Δx Nx Wx) (Tx : SxTxt X.prog X.K C fI ps) (gC : X.mg x = some (.ref C)) (gS : X.mg "super" = none) (hr : Room k X.A)
    (ha : PA X (e :: es) (tAr true F Γ Δ T (fun b => some (ιx (er b))) pds Δ')) (hx : ∀ b cls d H, exC C ps (pds b) cls d H → Kx.ok (er b) cls d H) (hl : ∀ b, (pds b).length = ps.length) (ne : ps ≠ []) (hΔ : ∀ b, Δx.Sublist (Δ' b)) (hNx : ∀ σ H, Nm Γ σ H → Nx σ H) (hc : X.calm = true := by rfl) (hg : Gl X x := by rfl) (hdb : (x == ("__debug__" : Str)) = false := by decide)
    (he : starEach (e :: es) X.env = (false, eval e X.env) :: starEach es X.env := by rfl) (hpl : (backTo pos (starEach es X.env)).any (·.1) = false := by rfl) :
    PSs X [.Raise (some (.Call (.Name x p) (e :: es) [] pos)) none pos2] (tS F Γ Δ N T) :=
  (pss_one (ps_raise hc tk (pmk_sx Tx gC gS hr ha hg hdb he hpl))).wk fun D σ H ⟨ok, g, e, f⟩ => ⟨ok, g, e, fun b vs H1 kb st ok1 pv => by
    have eg : ιx (er b) = g := Option.some.inj kb
    rw [← eg] at f
    refine ⟨by rw [← paired_len pv, hl], fun z => absurd z ne, fun _ d nd => ?_⟩
    have gr : Gr H1 (upd H1 d (.xd (ps.zip vs).reverse)) := Gr.new nd
    exact hN _ _ D f _ _ σ _ (st.fz.trans gr.fzs) ((ok1.hk.gr gr).less (hΔ b)) (hNx _ _ (ok1.nm.mono gr.fzs)) (hx b _ _ _ ⟨rfl, .inr ⟨ne, d, vs, rfl, upd_same, paired_mono (fun p v q => p.mono gr.fzs q) pv⟩⟩)⟩
def tEX {β : Type} (W : Bool) (F : Fm) (Γ : Gm) (Δ : Δs) (T : Option γ) (k : β → Option γ) (E : β → Pd) (Δ' : β → Δs) (ιx : ε → γ) (Kx : Xk ε) (Wx : WX) : TE := fun σ H Q =>
  Ok F Γ Δ σ H ∧ ∃ g, T = some g ∧ (∀ b v H', k b = some g → St W H H' → Ok F Γ (Δ' b) σ H' → (E b).pr H' v → Q v H') ∧ ∀ e, g = ιx e → ∀ cls d H', St W H H' → Ok F Γ Δ σ H' → Kx.ok e cls d H' → Wx cls d σ H'
def tOX {β : Type} (W : Bool) (F : Fm) (Γ : Gm) (Δ : Δs) (T : Option γ) (k : β → Option γ) (E : β → Od) (Δ' : β → Δs) (ιx : ε → γ) (Kx : Xk ε) (Wx : WX) : TE := fun σ H Q =>
  Ok F Γ Δ σ H ∧ ∃ g, T = some g ∧ (∀ b v H', k b = some g → St W H H' → OkN W F Γ H v (E b) (Δ' b) σ H' → Q v H') ∧ ∀ e, g = ιx e → ∀ cls d H', St W H H' → Ok F Γ Δ σ H' → Kx.ok e cls d H' → Wx cls d σ H'
def xE {ε : Type} (Kx : Xk ε) (e : ε) (H : Hp) (E : XK) : Prop := ∀ cls d H', Hk ⟨H, []⟩ [] H' → Kx.ok e cls d H' → E cls d H'
def SpXo {α ρ : Type} (A : α → List Pd) (Mf : α → Option (Except ε ρ)) (Ro : ρ → Od) (Kx : Xk ε) : Sp := fun vs H Q E => ∃ a : α, Paired (fun p v => Pd.pr p H v) (A a) vs ∧ ∃ g, Mf a = some g ∧ match g with | .ok r => RO ⟨H, []⟩ (fun _ => []) Ro r Q | .error e => xE Kx e H E
def wE (E : XK) : WX := fun cls d _ H => E cls d H
theorem fn_Xo {P : Program} {w : World} {K : PySem.W.Frag} {mg : Str → Option Value} {base : Heap} {x qual : Str} {params : Arguments} {body : List Stmt} {scope : Scope} {dvs : List V} {kws : List (Str × V)} {f : Addr} {fd : FuncData} {Nn ps : List Str} {k n : Nat} {α ρ : Type} {A : α → List Pd} {Mf : α → Option (Except ε ρ)} {Ro : ρ → Od}
    (FD : FunD K x qual params body scope dvs kws f fd) (S : FnScope Nn ps scope) (hn : ∀ a, (A a).length = n) (hl : n = ps.length)
    (hb : ∀ (cdv : Value) (Ar : Around) (outer : List Env) (s : Shared) (H : Hp) (E : XK) (hr : Room k (Ar.deeper (envOfC qual scope s.heap.objs.size f cdv))) (a : α), Takes (cxOf (L2.CX P w) P w K mg base Nn qual scope f cdv Ar outer s H E) (wE E) → PSs (cxOf (L2.CX P w) P w K mg base Nn qual scope f cdv Ar outer s H E) body
      (tS ⟨H, []⟩ ((A a).map some ++ List.replicate (Nn.length - n) none) [] (fX Kx (fF (RO ⟨H, []⟩ (fun _ => []) Ro)) ⟨H, []⟩ [] (fun _ _ => True) (wE E)) (Mf a))) : FnOk P w K mg base (L2.CX P w) (k + 1) f fd ps (SpXo A Mf Ro Kx) := by
  refine FD.ok S (fun vs H Q E h => ?_) (fun cdv Ar outer s H vs Q E hr h => ?_)
  · obtain ⟨a, pv, _⟩ := h
    rw [← paired_len pv, hn, hl]
  · obtain ⟨a, pv, g, hM, fin⟩ := h
    refine ⟨_, hb cdv Ar outer s H E hr a (takes_of rfl rfl rfl rfl), ok_start (Δ := []) (by rw [← paired_len pv, hn]) pv (fun _ h => nomatch h) List.nodup_nil (fun _ _ h => nomatch h), g, hM, ?_⟩
    cases g with
    | ok r => exact fin
    | error e => exact fun cls d σ H' _ hk _ q => fin cls d H' hk q
def okx {ε ρ : Type} : Except ε ρ → Option ρ
  | .ok r => some r
  | .error _ => none
def xK {ε ρ γ : Type} (ιx : ε → γ) (k : ρ → Option γ) : Except ε ρ → Option γ
  | .ok r => k r
  | .error e => some (ιx e)
section
variable {f : Addr} {fd : FuncData} {kk : Nat} {α ρ β : Type} {A : α → List Pd} {Mf : α → Option (Except ε ρ)} {xs : β → α} {T : Option γ} {e : Expr} {es : List Expr}
theorem x_Xo {Ro : ρ → Od} {kc : β × ρ → Option γ} (G : FnOk X.prog X.w X.K X.mg X.base (L2.CX X.prog X.w) kk f fd ps (SpXo A Mf Ro Kx)) (tk : Takes X Wx) (hr : Room kk X.A) (hm : X.mg x = some (.ref f)) (hk : PySem.W.keepIn X.K (.ref f) = true) (hb : Binds X.K fd ps [])
    (ha : PA X (e :: es) (tAr W F Γ Δ T (fun b => (Mf (xs b)).bind (xK ιx fun r => kc (b, r))) (fun b => A (xs b)) fun _ => Δ)) (hg : Gl X x := by rfl) (hdb : (x == ("__debug__" : Str)) = false := by decide)
    (he : starEach (e :: es) X.env = (false, eval e X.env) :: starEach es X.env := by rfl) (hpl : (backTo pos (starEach es X.env)).any (·.1) = false := by rfl) :
    PE X (.Call (.Name x p) (e :: es) [] pos) (tOX W F Γ Δ T kc (fun b => Ro b.2) (fun _ => Δ) ιx Kx Wx) :=
  (pe_callS G hr hg hm hk hb (fun σ => passAt tk σ) ha hdb he hpl).wk fun σ H Q ⟨ok, g, e, q, qx⟩ => ⟨ok, g, e, fun b vs H1 kb st ok1 pv => by
    obtain ⟨w, ew, kw⟩ := bind_some kb
    refine ⟨xs b, pv, w, ew, ?_⟩
    cases w with
    | ok r =>
      intro v H' hk
      obtain ⟨ok', st'⟩ := call_o0 (W := W) ok1 hk
      exact q (b, r) v H' kw (st.trans st') (ok'.since st)
    | error er =>
      intro cls d H' hk hx
      obtain ⟨ok', st'⟩ := call_f0 (W := W) ok1 hk
      exact qx er (Option.some.inj kw).symm cls d H' (st.trans st') ok' hx⟩
theorem takes_no : Takes X (fun _ _ _ _ => False) := fun _ _ ⟨_, _, _, _, _, _, _, _, _, _, _, _, _, _, _, _, w⟩ => w.elim
theorem pass_no : Passes (L2.CX X.prog X.w) X (fun _ _ _ => False) := passes_call takes_no fun _ _ _ _ h => h
end
section
variable {rest : List Stmt} {β : Type} {T : Option γ} {kc : β → Option γ} {Δ' : β → Δs} {e : Expr}
theorem s_letOX {i : Nat} {y : Str} {pos' : Pos} {α : Type} {val : β → α} {k2 : β → α → Option γ} (D0 : α → Od) (nd : X.N.Nodup) (he : PE X e (tOX true F Γ Δ T (fun b => (some (val b)).bind (k2 b)) (fun b => D0 (val b)) Δ' ιx Kx Wx)) (hN : Ex N ιx Kx F Δx Nx Wx) (hΔ : Δx.Sublist Δ) (hNx : ∀ σ H, Nm Γ σ H → Nx σ H)
    (hr : ∀ b a v, PSs X rest (tS F (Γ.set i (some (pV v))) (⟨v, D0 a, none⟩ :: Δ' b) N (k2 b a))) (hi : X.N[i]? = some y := by rfl) (hx : Loc X.env.scope y := by first | exact .inl rfl | exact .inr rfl)
    (hs : swapsWith e (some (.Name y pos')) pos.line X.env = pure false := by rfl) (hf : X.fn y = true ∨ X.env.scope.names.lookup y = some .local := by first | exact .inl rfl | exact .inr rfl | assumption) :
    PSs X (.Assign [.Name y pos'] e pos :: rest) (tS F Γ Δ N T) :=
  (pss_cons (ps_set nd hi hx he hs hf) (pss_ex fun b => pss_ex fun v => hr b (val b) v)).wk fun D σ H ⟨ok, g, e, f⟩ => ⟨ok, g, e, fun b v H' kb fz ok' => ⟨b, v, ok'.ok.set rfl, g, kb, N.mono f fz.fz⟩, fun er eg cls d H' st ok' hx => by
    subst eg
    exact hN _ _ D f cls d σ H' st.fz (ok'.hk.less hΔ) (hNx _ _ ok'.nm) hx⟩
end
end
end L3
end
section
set_option maxHeartbeats 4000000
set_option autoImplicit true
namespace L3
open PySem PySem.Spec PyProof.Rows L2 PySem.SxX
def pExc {ε : Type} (Kx : Xk ε) (a : Addr) (cls : Value) (d : Option Addr) (e : ε) : Pd := ⟨fun H v => v = .ref a ∧ Kx.ok e cls d H, fun f h => ⟨h.1, Kx.mono f h.2⟩⟩
def Ends.un (D : Ends) (i : Nat) : Ends := { nx := fun σ' H' => D.nx (σ'.set i none) H', rt := D.rt, bk := fun σ' H' => D.bk (σ'.set i none) H', ct := fun σ' H' => D.ct (σ'.set i none) H' }
def Uns {τ : Type} (i : Nat) (Tf : Fn τ) : Prop := ∀ H t D, Tf.fin H t D → Tf.fin H t (Ends.un D i)
theorem uns_F {ρ : Type} {i : Nat} (R : Rt ρ) : Uns i (fF R) := fun _ _ _ h => h
theorem Ok.unset {F : Fm} {Γ : Gm} {Δ : Δs} {σ : SS} {H : Hp} {i : Nat} (k : Ok F Γ Δ σ H) (h : Γ[i]? = some none) : Ok F Γ Δ (σ.set i none) H :=
  ⟨k.hk, by rw [List.length_set]; exact k.len, fun j q e => by
    have hj : j ≠ i := fun z => by rw [z, h] at e; cases e
    rw [List.getElem?_set_ne (fun z => hj z.symm)]
    exact k.gam j q e⟩
section
variable {X : Cx} {W : Bool} {F : Fm} {Γ : Gm} {Δ : Δs} {γ ε : Type} {Kx : Xk ε}
end
def rIsX (K : PySem.W.Frag) (a : Addr) (cls : Value) (d : Option Addr) : List V → Hp → VK → Prop := fun xs H Q => ∃ (D : Addr) (c : V) (b : Bool), xs = [.ref a, c] ∧ cls = .ref D ∧ ExcC K D ∧ (d = none ∨ ∃ dd fs, d = some dd ∧ H dd = some (.xd fs)) ∧
  ((∃ cv, ClsV c cv ∧ PySem.W.kitOne K (.ref D) cv = some b) ∨ ∃ tp cs us, c = .ref tp ∧ H tp = some (.tup cs) ∧ Paired ClsV cs us ∧ PySem.W.kitAny K (.ref D) us = some b) ∧ Q (.bl b) H
theorem call_isX {X : Cx} {a : Addr} {oe : Obj} {cls : Value} {d : Option Addr} {pn : List (Addr × Obj)} (hz : Zc cls d oe) (hf : ∃ vs, oe.data = .fields vs) : CallR (X.suite a ((a, oe) :: pn)) (.builtin "isinstance") (rIsX X.K a cls d) := by
  intro pins s σ H xs us Q I r h
  obtain ⟨D, c, b, rfl, rfl, C, hd, hk, q⟩ := h
  obtain ⟨u1, u2, rfl, r1, r2⟩ := vals2 r
  cases (show u1 = Value.ref a from r1)
  obtain ⟨hget, _⟩ := I.pin (a, oe) (List.mem_append.mpr (.inl List.mem_cons_self))
  obtain ⟨vs, hv⟩ := hf
  obtain ⟨od, J⟩ : ∃ od, PySem.W.InstAt s.heap a oe D od := by
    rcases hd with e | ⟨dd, fs, e, ed⟩
    · refine ⟨none, hget, hz.1, by unfold PySem.W.notCls; rw [hv] <;> rfl, by rw [hz.2, e]; exact trivial⟩
    · obtain ⟨mA, hns, _⟩ := (show ObjOk X.prog X.w H s.heap dd (.xd fs) from I.hok dd _ ed)
      obtain ⟨oD, ho, _⟩ := lookIn_ns hns
      exact ⟨some oD, hget, hz.1, by unfold PySem.W.notCls; rw [hv] <;> rfl, by rw [hz.2, e]; exact ho⟩
  have Z := PySem.W.kitx_exc (K := X.K) (x := a) (ox := oe) (od := od) (C := D) (by obtain ⟨cd, hc, _⟩ := PySem.W.any_some C.hd; rw [hc]; rfl) C.hg C.hk C.hs C.ha C.hn C.ht C.hm
  rcases hk with ⟨cv, k, e⟩ | ⟨tp, cs, us, rfl, hT, k, e⟩
  · cases k.eq r2
    exact PySem.W.kia_one Z I.kIn J e (fun z => nomatch z) fun tk => ⟨.bl b, H, I.kept (t' := tk) fun _ _ z => z, rfl, q⟩
  · cases (show u2 = Value.ref tp from r2)
    obtain ⟨_, its, rv, o, h1, h2, n, h3⟩ := (show ObjOk X.prog X.w H s.heap tp (.tup cs) from I.hok tp _ hT)
    have e3 := ClsV.all k rv
    subst e3
    obtain ⟨oc, od, dt, sl⟩ := o
    simp only at h2 h3
    subst h2 h3
    exact PySem.W.kia_tup Z I.kIn J h1 e (fun z => nomatch z) fun tk => ⟨.bl b, H, I.tok tk, rfl, q⟩
def FV.str? : FV → Option Str
  | .str x => some x
  | _ => none
theorem fields_nd (c : Str) : (fieldsOf c).Nodup := by
  have h : ∀ p ∈ fieldTab, p.2.Nodup := by decide +kernel
  unfold fieldsOf
  cases e : fieldTab.lookup c with
  | none => exact List.nodup_nil
  | some l =>
    have : ∀ {t : List (Str × List Str)}, t.lookup c = some l → ∃ p ∈ t, p.2 = l := by
      intro t
      induction t with
      | nil => intro h; cases h
      | cons p t ih =>
        intro h
        obtain ⟨a, b⟩ := p
        rw [List.lookup_cons] at h
        split at h
        · cases h; exact ⟨_, List.mem_cons_self, rfl⟩
        · obtain ⟨q, hq, e⟩ := ih h
          exact ⟨q, List.mem_cons_of_mem _ hq, e⟩
    obtain ⟨p, hp, e2⟩ := this e
    rw [← e2]
    exact h p hp
def clsW (mg : Str → Option Value) (x : Str) : V := match mg x with
  | some (.ref a) => .ref a
  | _ => .ty "ValueError"
theorem cls_VU (mg : Str → Option Value) (x : Str) : ClsV (clsW mg x) (clsU mg x) := by
  unfold clsW clsU
  split
  · exact .own _
  · exact .ty _
def erX (mg : Str → Option Value) (rs : List Str) : Xk Er := ⟨fun e cls d H => e.cn ∈ rs ∧ exC (gaM mg e.cn) (fieldsOf e.cn) (e.fs.map FV.p) cls d H, fun f h => ⟨h.1, exC_mono f h.2⟩⟩
def erF (e : Er) (f : Str) : Option FV := ((fieldsOf e.cn).zip e.fs).lookup f
theorem XsT.kits {P : Program} {K : PySem.W.Frag} {mg : Str → Option Value} {rs cs : List Str} (T : XsT P K mg rs cs) {x : Str} (hx : x ∈ rs) : ∀ {ys : List Str}, (∀ y ∈ ys, y ∈ cs) → ys ≠ [] → PySem.W.kitAny K (.ref (gaM mg x)) (ys.map (clsU mg)) = some (ys.any (subC x))
  | [], _, ne => absurd rfl ne
  | [y], h, _ => by
    have e := T.kit x hx y (h y List.mem_cons_self)
    show PySem.W.kitAny K _ [clsU mg y] = some (subC x y || false)
    rw [Bool.or_false]
    unfold PySem.W.kitAny
    rw [e]
    cases subC x y <;> rfl
  | y :: z :: ys, h, _ => by
    have e := T.kit x hx y (h y List.mem_cons_self)
    have ih := T.kits hx (ys := z :: ys) (fun w hw => h w (List.mem_cons_of_mem _ hw)) (by simp)
    show PySem.W.kitAny K _ (clsU mg y :: (z :: ys).map (clsU mg)) = some (subC x y || (z :: ys).any (subC x))
    refine kitAny_cons e (fun hb => ?_) fun hb => ?_
    · rw [hb, Bool.false_or]; exact ih
    · rw [hb, Bool.true_or]
section
variable {X : Cx} {W : Bool} {F : Fm} {Γ : Gm} {Δ : Δs} {γ : Type} {P : Program} {rs cs : List Str}
theorem x_cls {k : Unit → Option γ} {y : Str} {pos : Pos} (T : XsT P X.K X.mg rs cs) (hy : y ∈ cs) (hg : Gl X y := by rfl) (hd : (y == ("__debug__" : Str)) = false := by decide) (hn : y ≠ "__name__" := by decide) : PE X (.Name y pos) (tE W F Γ Δ (k ()) k (fun _ => pV (clsW X.mg y)) fun _ => Δ) := by
  have h : PE X (.Name y pos) (tC (clsW X.mg y)) := by
    unfold clsW
    rcases T.own y hy with ⟨e, h⟩ | h
    · rw [h]; subst e
      exact pe_bltn hg h (by decide +kernel) rfl hn hd
    · rw [h]; exact pe_glob hg h rfl hd
  exact h.wk fun σ H Q ⟨ok, g, e, q⟩ => q () _ H e (St.refl H) ok rfl
variable {a : Addr} {oe : Obj} {cls : Value} {d : Option Addr} {pn : List (Addr × Obj)} {e : Er} {mg : Str → Option Value}
theorem exC_d {C : Addr} {ps : List Str} {pds : List Pd} {H : Hp} (h : exC C ps pds cls d H) : d = none ∨ ∃ dd fs, d = some dd ∧ H dd = some (.xd fs) := by
  obtain ⟨_, ⟨_, h⟩ | ⟨_, dd, vs, e, h, _⟩⟩ := h
  · exact .inl h
  · exact .inr ⟨dd, _, e, h⟩
theorem x_isE1 {β : Type} {T0 : Option γ} {k : β → Option γ} {Δ1 : β → Δs} {ne : Expr} {y : Str} {p1 p3 pos : Pos} (hz : Zc cls d oe) (hf : ∃ vs, oe.data = .fields vs) (T : XsT P X.K X.mg rs cs) (hy : y ∈ cs) (hm : X.mg "isinstance" = none) (h1 : PE (X.suite a ((a, oe) :: pn)) ne (tE W F Γ Δ T0 k (fun _ => pExc (erX X.mg rs) a cls d e) Δ1))
    (hg : Gl X "isinstance" := by rfl) (hgy : Gl X y := by rfl) (hdy : (y == ("__debug__" : Str)) = false := by decide) (hny : y ≠ "__name__" := by decide) (hs : starEach [ne, .Name y p3] X.env = (false, eval ne X.env) :: starEach [.Name y p3] X.env := by rfl) :
    PE (X.suite a ((a, oe) :: pn)) (.Call (.Name "isinstance" p1) [ne, .Name y p3] [] pos) (tE W F Γ Δ T0 k (fun _ => pBl (subC e.cn y)) Δ1) := by
  have h2 : ∀ b, PE (X.suite a ((a, oe) :: pn)) (.Name y p3) (tE W F Γ (Δ1 b) (k b) (fun _ : Unit => k b) (fun _ => pV (clsW X.mg y)) fun _ => Δ1 b) := fun b => x_cls (k := fun _ => k b) (X := X.suite a ((a, oe) :: pn)) T hy hgy hdy hny
  exact (b_callB (X := X.suite a ((a, oe) :: pn)) (call_isX hz hf) hg hm boot_isinstance (by decide) (by decide) hs (by rfl) (by rfl) _ _ h1 (pe_ex h2)).wk fun σ H Q ⟨ok, g, e', q⟩ => ⟨ok, g, e', fun b v H1 kb f ok1 hv => ⟨b, ok1, g, kb, fun _ w H2 kb2 f2 ok2 hw => by
    obtain ⟨ev, hin, hx⟩ := hv
    have hw : w = clsW X.mg y := hw
    subst ev hw
    have hx2 := exC_mono f2.fz hx
    exact ⟨_, _, _, rfl, hx2.1, (T.x _ hin).ec, exC_d hx2, .inl ⟨_, cls_VU X.mg y, T.kit _ hin y hy⟩, q b _ H2 kb (f.trans f2) ok2 rfl⟩⟩⟩
def pTps (ps : List Pd) : Pd where
  pr H v := ∃ a vs, v = .ref a ∧ H a = some (.tup vs) ∧ Paired (fun p u => Pd.pr p H u) ps vs
  mono := fun f ⟨a, vs, e, h, p⟩ => ⟨a, vs, e, f _ _ trivial h, paired_mono (fun p _ q => p.mono f q) p⟩
theorem x_tups {X : Cx} {es : List Expr} {x1} {pos : Pos} {β : Type} {T : Option γ} {k : β → Option γ} {Δ1 : β → Δs} {ps : List Pd} (ha : PA X es (tAr W F Γ Δ T k (fun _ => ps) Δ1)) (hl : ps.length ≤ 1000 := by decide) : PE X (.Tuple es x1 pos) (tE W F Γ Δ T k (fun _ => pTps ps) Δ1) :=
  (pe_tup ha).wk fun σ H Q ⟨ok, g, e, w⟩ => ⟨ok, g, e, fun b vs H' kb f ok' hp => by
    refine ⟨by rw [← paired_len hp]; exact Nat.le_trans hl (by decide), fun t nt => ?_⟩
    have g' : Gr H' (upd H' t (.tup vs)) := Gr.new nt
    exact w b _ _ kb (f.trans g'.st) (ok'.gr g') ⟨t, vs, rfl, upd_same, paired_mono (fun p v q => p.mono g'.fzs q) hp⟩⟩
theorem clsVs {H : Hp} {mg : Str → Option Value} : ∀ {ys : List Str} {vs : List V}, Paired (fun p u => Pd.pr p H u) (ys.map fun y => pV (clsW mg y)) vs → Paired ClsV vs (ys.map (clsU mg))
  | [], _, .nil => .nil
  | y :: ys, _, .cons r t => .cons (by
    rename_i v vs
    have r : v = clsW mg y := r
    rw [r]
    exact cls_VU mg y) (clsVs t)
theorem x_isET {β : Type} {T0 : Option γ} {k : β → Option γ} {Δ1 : β → Δs} {ne te : Expr} {p1 pos : Pos} (ys : List Str) (hz : Zc cls d oe) (hf : ∃ vs, oe.data = .fields vs) (T : XsT P X.K X.mg rs cs) (hy : ∀ y ∈ ys, y ∈ cs) (hyn : ys ≠ []) (hm : X.mg "isinstance" = none) (h1 : PE (X.suite a ((a, oe) :: pn)) ne (tE W F Γ Δ T0 k (fun _ => pExc (erX X.mg rs) a cls d e) Δ1))
    (h2 : ∀ b, PE (X.suite a ((a, oe) :: pn)) te (tE W F Γ (Δ1 b) (k b) (fun _ : Unit => k b) (fun _ => pTps (ys.map fun y => pV (clsW X.mg y))) fun _ => Δ1 b)) (hg : Gl X "isinstance" := by rfl) (hs : starEach [ne, te] X.env = (false, eval ne X.env) :: starEach [te] X.env := by rfl) (hs2 : starEach [te] X.env = (false, eval te X.env) :: starEach [] X.env := by rfl) (hpl : (backTo pos (starEach [te] X.env)).any (·.1) = false := by rfl) :
    PE (X.suite a ((a, oe) :: pn)) (.Call (.Name "isinstance" p1) [ne, te] [] pos) (tE W F Γ Δ T0 k (fun _ => pBl (ys.any (subC e.cn))) Δ1) :=
  (b_callB (X := X.suite a ((a, oe) :: pn)) (call_isX hz hf) hg hm boot_isinstance (by decide) (by decide) hs hs2 hpl _ _ h1 (pe_ex h2)).wk fun σ H Q ⟨ok, g, e', q⟩ => ⟨ok, g, e', fun b v H1 kb f ok1 hv => ⟨b, ok1, g, kb, fun _ w H2 kb2 f2 ok2 hw => by
    obtain ⟨ev, hin, hx⟩ := hv
    obtain ⟨tp, vs, ew, ht, hp⟩ := hw
    subst ev ew
    have hx2 := exC_mono f2.fz hx
    exact ⟨_, _, _, rfl, hx2.1, (T.x _ hin).ec, exC_d hx2, .inr ⟨tp, vs, _, rfl, ht, clsVs hp, T.kits hin hy hyn⟩, q b _ H2 kb (f.trans f2) ok2 rfl⟩⟩⟩
theorem zip_rev_V : ∀ {ps : List Str} {vs : List V}, ps.Nodup → ∀ {f : Str} {pds : List Pd} {fvs : List FV} {fv : FV} {H : Hp}, pds = fvs.map FV.p → Paired (fun p v => Pd.pr p H v) pds vs → (ps.zip fvs).lookup f = some fv → ∃ v, (ps.zip vs).reverse.lookup f = some v ∧ (FV.p fv).pr H v
  | [], _, _, f, pds, fvs, fv, H, _, _, h => by simp at h
  | p :: ps, vs, nd, f, pds, [], fv, H, _, _, h => by simp at h
  | p :: ps, vs, nd, f, pds, q :: fvs, fv, H, e, hp, h => by
    subst e
    cases hp with
    | @cons _ v _ vs r t =>
      rw [List.nodup_cons] at nd
      rw [List.zip_cons_cons, List.lookup_cons] at h
      rw [List.zip_cons_cons, List.reverse_cons, List.lookup_append]
      by_cases hf : f = p
      · subst hf
        simp only [beq_self_eq_true] at h
        cases h
        have hn : (ps.zip vs).reverse.lookup f = none := by
          rw [List.lookup_eq_none_iff]
          intro q hq
          have hq := List.mem_reverse.mp hq
          have := (List.of_mem_zip (show (q.1, q.2) ∈ ps.zip vs from hq)).1
          simp only [beq_eq_false_iff_ne, ne_eq, bne_iff_ne, Bool.not_eq_true]
          exact fun e => nd.1 (by rw [e]; exact this)
        rw [hn]
        exact ⟨v, by simp [List.lookup], r⟩
      · have hb : (f == p) = false := by simpa using hf
        rw [hb] at h
        obtain ⟨v', e', r'⟩ := zip_rev_V nd.2 (f := f) rfl t h
        exact ⟨v', by rw [e']; rfl, r'⟩
theorem x_erF {β : Type} {T0 : Option γ} {k : β × FV → Option γ} {Δ1 : β → Δs} {ne : Expr} {f : Str} {pos : Pos} (hz : Zc cls d oe) (hf : ∃ vs, oe.data = .fields vs) (T : XsT P X.K X.mg rs cs) (h1 : PE (X.suite a ((a, oe) :: pn)) ne (tE W F Γ Δ T0 (fun b => (erF e f).bind fun y => k (b, y)) (fun _ => pExc (erX X.mg rs) a cls d e) Δ1))
    (hb : attributeBase ne f X.env (eval ne X.env) = eval ne X.env := by rfl) : PE (X.suite a ((a, oe) :: pn)) (.Attribute ne f pos) (tE W F Γ Δ T0 k (fun b => FV.p b.2) fun b => Δ1 b.1) := by
  by_cases hin : e.cn ∈ rs ∧ f ∈ fieldsOf e.cn
  · obtain ⟨fI, tx⟩ := (T.x _ hin.1).tx
    exact (pe_xf (X := X) (T.x _ hin.1).xf (tx.noN f hin.2) hz hf h1 hb).wk fun σ H Q ⟨ok, g, e', q⟩ => ⟨ok, g, e', fun b v H1 kb fz ok1 hv => by
      obtain ⟨ev, _, hx⟩ := hv
      obtain ⟨y, ey, ky⟩ := bind_some kb
      obtain ⟨ec, ⟨en, _⟩ | ⟨_, dd, vs, ed, hd, hp⟩⟩ := hx
      · unfold erF at ey
        rw [en] at ey
        simp at ey
      · obtain ⟨v', el, hv'⟩ := zip_rev_V (fields_nd e.cn) rfl hp ey
        exact ⟨ev, ec, dd, _, v', ed, hd, el, q (b, y) v' H1 ky fz ok1 hv'⟩⟩
  · have he : ∀ {τ : Type} (kk : FV → Option τ), e.cn ∈ rs → (erF e f).bind kk = none := fun kk hr => by
      have hnf : f ∉ fieldsOf e.cn := fun z => hin ⟨hr, z⟩
      have : erF e f = none := by
        unfold erF
        rw [List.lookup_eq_none_iff]
        intro q hq
        have := (List.of_mem_zip (show (q.1, q.2) ∈ (fieldsOf e.cn).zip e.fs from hq)).1
        simp only [beq_eq_false_iff_ne, ne_eq, bne_iff_ne, Bool.not_eq_true]
        exact fun e => hnf (by rw [e]; exact this)
      rw [this]; rfl
    refine ⟨fun pins s σ H Q I ⟨ok, g, e', q⟩ => attr_of hb (thn (h1.run pins s σ H (fun _ _ => False) I ⟨ok, g, e', fun b v H1 kb fz ok1 hv => by
      obtain ⟨y, ey, _⟩ := bind_some kb
      have z := he (fun y => some y) hv.2.1
      rw [ey] at z
      cases z⟩) fun u s1 hh => ?_)⟩
    obtain ⟨_, _, _, _, z⟩ := hh
    exact z.elim
theorem x_fv {X : Cx} {a : Expr} {β α : Type} {T : Option γ} {k : β × α → Option γ} {Ee : α → Pd} {x : β → FV} {Δ1 : β → Δs} (c : FV → Option α) (hc : ∀ y z, c y = some z → FV.p y = Ee z) (ha : PE X a (tE W F Γ Δ T (fun b => (c (x b)).bind fun y => k (b, y)) (fun b => FV.p (x b)) Δ1)) : PE X a (tE W F Γ Δ T k (fun b => Ee b.2) fun b => Δ1 b.1) :=
  ha.wk fun σ H Q ⟨ok, g, e, q⟩ => ⟨ok, g, e, fun b v H' kb f ok' hv => by
    obtain ⟨y, ey, ky⟩ := bind_some kb
    have hv : (FV.p (x b)).pr H' v := hv
    rw [hc _ _ ey] at hv
    exact q (b, y) v H' ky f ok' hv⟩
theorem fv_str : ∀ y z, FV.str? y = some z → FV.p y = pStr z := fun y z h => by cases y <;> cases h <;> rfl
end
end L3
end
section
set_option maxHeartbeats 4000000
set_option autoImplicit true
namespace L3
open PySem PySem.Spec PyProof.Rows L2 PySem.SxX
theorem nm_wk {Γ Γ' : Gm} {σ : SS} {H : Hp} (k : Nm Γ σ H) (g : SubG Γ' Γ) : Nm Γ' σ H := ⟨k.len.trans g.len.symm, fun i p e => k.gam i p (g.get e)⟩
def fTg {S τ : Type} (F : Fm) (C : S → Cxt) (Tf : Fn τ) : Fn (Tm S τ) := ⟨fun H o D => match o with
  | .ct s => nxOk F (C s) H D.ct
  | .bk s => nxOk F (C s) H D.bk
  | .rt r => Tf.fin H r D, fun {H H' g D} h f => by
    cases g with
    | ct s => exact nxOk.mono h f
    | bk s => exact nxOk.mono h f
    | rt r => exact Tf.mono h f⟩
def InsT {τ : Type} (Tf : Fn τ) : Prop := ∀ H r (D D' : Ends), D.rt = D'.rt → Tf.fin H r D → Tf.fin H r D'
theorem insT_F {ρ : Type} (R : Rt ρ) : InsT (fF R) := fun H r D D' e h => by
  have h : R r D.rt := h
  show R r D'.rt
  rw [← e]; exact h
theorem insT_X {ε τ : Type} {Kx : Xk ε} {Tf : Fn τ} {F : Fm} {Δx : Δs} {Nx : SS → Hp → Prop} {Wx : WX} (h : InsT Tf) : InsT (fX Kx Tf F Δx Nx Wx) := fun H g D D' e q => by
  cases g with
  | ok t => exact h H t D D' e q
  | error e => exact q
theorem ins_Tg {S τ : Type} {F : Fm} {C : S → Cxt} {Tf : Fn τ} (h : InsT Tf) : Ins (fTg F C Tf) := fun H g D n q => by
  cases g with
  | ct s => exact q
  | bk s => exact q
  | rt r => exact h H r D _ rfl q
theorem ex_T {ε S τ : Type} {Kx : Xk ε} {Tf : Fn τ} {ιx : ε → τ} {C : S → Cxt} {F F' : Fm} {Δx : Δs} {Nx : SS → Hp → Prop} {Wx : WX} (h : Ex Tf ιx Kx F Δx Nx Wx) : Ex (fTg F' C Tf) (fun e => Tm.rt (ιx e)) Kx F Δx Nx Wx := fun H e D q => h H e D q
section
variable {X : Cx} {W : Bool} {F : Fm} {Γ : Gm} {Δ : Δs} {γ : Type} {N : Fn γ} {rest : List Stmt}
theorem s_forX {tg iter : Expr} {body : List Stmt} {pos : Pos} {g : TG} {α β S ρ : Type} {T : Option γ} {Ex : α → Pd} {bd : Gm → α → Gm} {xs : β → List α} {Δ' : β → Δs} {f : β → α → S → Option (Bo S (Tm S ρ))} {k2 : β → S → Option γ} {ι : ρ → γ} {Tf : Fn ρ} (hp : PassesOwn (model X.prog X.w) X.A X.env X.xe) (C : β → S → Cxt) (s0 : β → S)
    (hi : PI X tg iter (tI true F Γ Δ T (fun b => (forL (xs b) (s0 b) (f b)).bind (boK (k2 b) ι)) Ex xs Δ')) (hg : PG X tg g) (ht : Tgt g Ex bd) (h0 : ∀ b, SubG (C b (s0 b)).1 Γ) (h0d : ∀ b, (C b (s0 b)).2.Sublist (Δ' b))
    (hb : ∀ b x s, PSs X body (tS F (bd (C b s).1 x) (C b s).2 (fB F (C b) (fTg F (C b) Tf)) (f b x s))) (hr : ∀ b s, PSs X rest (tS F (C b s).1 (C b s).2 N (k2 b s))) (hN : ∀ H r D, N.fin H (ι r) D → Tf.fin H r D) (hI : InsT Tf) (hc : X.calm = true := by rfl) (hfs : ∀ x, foldedSetIterable iter X.env x = pure x := by intro _; rfl) :
    PSs X (.For tg iter body [] pos :: rest) (tS F Γ Δ N T) :=
  (pss_cons (ps_for hp hc hi hg (pss_ex fun b => pss_ex fun x => pss_ex fun s => hb b x s) hfs) (pss_ex fun b => pss_ex fun s => hr b s)).wk fun D σ H ⟨ok, gg, e, fin⟩ => ⟨ok, gg, e, fun b J H1 kb f1 ok1 _ wk => by
    obtain ⟨o, eo, ko⟩ := bind_some kb
    refine ⟨fun i m σ' H' => i + m = (xs b).length ∧ Fzs H1 H' ∧ ∃ s, Ok F (C b s).1 (C b s).2 σ' H' ∧ forL ((xs b).drop i) s (f b) = some o, ⟨(xs b).length, Nat.zero_add _, Fzs.refl _, s0 b, ok1.wk (h0 b) (h0d b), by rw [List.drop_zero]; exact eo⟩, fun i m σ2 H2 ⟨em, fz2, s, ok2, e2⟩ => ?_⟩
    by_cases hi : i < (xs b).length
    · obtain ⟨x, hx, ed⟩ := drop_cons hi
      rw [ed] at e2
      have e2 : (f b x s).bind _ = some o := e2
      obtain ⟨ob, eb, e2⟩ := bind_some e2
      refine .inr ⟨((wk H2 fz2) i).1 hi, fun σ3 H3 => (i + 1) + (m - 1) = (xs b).length ∧ Fzs H1 H3 ∧ ∃ s, Ok F (C b s).1 (C b s).2 σ3 H3 ∧ forL ((xs b).drop (i + 1)) s (f b) = some o, fun σ3 H3 h3 => ⟨m - 1, by omega, h3⟩, fun v H3 hy => ?_⟩
      obtain ⟨gr3, pv⟩ := ((wk H2 fz2) i).2.2 x v H3 hx hy
      refine ht F _ _ σ2 H3 x v _ (ok2.gr gr3) pv fun σ4 ok4 => ⟨b, x, s, ok4, ob, eb, ?_⟩
      cases ob with
      | nx s' => exact fun σ5 H5 f5 ok5 => ⟨by omega, (fz2.trans gr3.fzs).trans f5, s', ok5, e2⟩
      | tm t =>
        cases t with
        | ct s' => exact fun σ5 H5 f5 ok5 => ⟨by omega, (fz2.trans gr3.fzs).trans f5, s', ok5, e2⟩
        | bk s' =>
          have e2 : some (Bo.nx s') = some o := e2
          cases e2
          exact fun σ5 H5 f5 ok5 => ⟨b, s', ok5, gg, ko, N.mono fin (f1.fz.trans ((fz2.trans gr3.fzs).trans f5))⟩
        | rt r =>
          have e2 : some (Bo.tm r) = some o := e2
          cases e2
          have ko : some (ι r) = some gg := ko
          cases ko
          exact hI _ _ D _ rfl (Tf.mono (hN H r D fin) (f1.fz.trans (fz2.trans gr3.fzs)))
    · refine .inl ⟨((wk H2 fz2) i).2.1 (by omega), ?_⟩
      rw [List.drop_eq_nil_of_le (by omega)] at e2
      have e2 : some (Bo.nx s) = some o := e2
      cases e2
      exact ⟨b, s, ok2, gg, ko, N.mono fin (f1.fz.trans fz2)⟩⟩
end
theorem XsT.exms {P : Program} {K : PySem.W.Frag} {mg : Str → Option Value} {rs cs : List Str} (T : XsT P K mg rs cs) {y : Str} (hy : y ∈ cs) : ∀ e cls d H, (erX mg rs).ok e cls d H → PySem.W.exmOne K cls (clsU mg y) = some (subC e.cn y) := fun e cls d H h => by
  rw [h.2.1]
  exact T.exm _ h.1 y hy
section
variable {X : Cx} {W : Bool} {F : Fm} {Γ : Gm} {Δ : Δs} {γ : Type}
theorem y_cls {P : Program} {rs cs : List Str} {T : Option γ} {y : Str} {pos : Pos} (Tx : XsT P X.K X.mg rs cs) (hy : y ∈ cs) (hg : Gl X y := by rfl) (hd : (y == ("__debug__" : Str)) = false := by decide) (hn : y ≠ "__name__" := by decide) : PE X (.Name y pos) (tE W F Γ Δ T (fun _ : Unit => T) (fun _ => pV (clsW X.mg y)) fun _ => Δ) := x_cls (k := fun _ => T) Tx hy hg hd hn
section
variable {a b : Expr} {pos : Pos} {β1 β2 : Type} {T : Option γ} {k1 : β1 → Option γ} {k : β1 × β2 → Option γ} {Δ1 : β1 → Δs} {Δ2 : β1 → β2 → Δs}
end
end
end L3
end
section
set_option maxHeartbeats 4000000
set_option autoImplicit true
namespace L3
open PySem PySem.Spec PyProof.Rows L2 PySem.SxX
section
variable {X : Cx} {W : Bool} {F : Fm} {Γ : Gm} {Δ : Δs} {γ : Type} {P : Program} {rs cs : List Str}
theorem c_nil {T : Option γ} {mg : Str → Option Value} : PA X [] (tAr W F Γ Δ T (fun _ : Unit => T) (fun _ => ([] : List Str).map fun y => pV (clsW mg y)) fun _ => Δ) := b_nil
theorem c_cons {T : Option γ} {y : Str} {ys : List Str} {es : List Expr} {pos : Pos} (Tx : XsT P X.K X.mg rs cs) (hy : y ∈ cs) (h : PA X es (tAr W F Γ Δ T (fun _ : Unit => T) (fun _ => ys.map fun y => pV (clsW X.mg y)) fun _ => Δ)) (hg : Gl X y := by rfl) (hd : (y == ("__debug__" : Str)) = false := by decide) (hn : y ≠ "__name__" := by decide)
    (hs : starEach (.Name y pos :: es) X.env = (false, eval (.Name y pos) X.env) :: starEach es X.env := by rfl) : PA X (.Name y pos :: es) (tAr W F Γ Δ T (fun _ : Unit => T) (fun _ => (y :: ys).map fun y => pV (clsW X.mg y)) fun _ => Δ) :=
  (a_cons (β1 := Unit) (β2 := Unit) (k1 := fun _ => T) (k := fun _ => T) (Es := fun _ _ => ys.map fun y => pV (clsW X.mg y)) (Δ1 := fun _ => Δ) (Δ2 := fun _ _ => Δ) (y_cls (pos := pos) Tx hy hg hd hn) (fun _ => h) hs).wk fun σ H Q ⟨ok, g, e, q⟩ => ⟨ok, g, e, fun b v H' kb f ok' hv => q () v H' kb f ok' (by cases b; exact hv)⟩
variable {a : Addr} {oe : Obj} {cls : Value} {d : Option Addr} {pn : List (Addr × Obj)} {e : Er}
theorem x_isEC {β : Type} {T0 : Option γ} {k : β → Option γ} {Δ1 : β → Δs} {ne : Expr} {es : List Expr} {p1 p2 pos : Pos} {x1} (ys : List Str) (hz : Zc cls d oe) (hf : ∃ vs, oe.data = .fields vs) (T : XsT P X.K X.mg rs cs) (hy : ∀ y ∈ ys, y ∈ cs) (hyn : ys ≠ []) (hm : X.mg "isinstance" = none) (h1 : PE (X.suite a ((a, oe) :: pn)) ne (tE W F Γ Δ T0 k (fun _ => pExc (erX X.mg rs) a cls d e) Δ1))
    (h2 : ∀ b, PA (X.suite a ((a, oe) :: pn)) es (tAr W F Γ (Δ1 b) (k b) (fun _ : Unit => k b) (fun _ => ys.map fun y => pV (clsW X.mg y)) fun _ => Δ1 b)) (hl : ys.length ≤ 1000 := by decide) (hg : Gl X "isinstance" := by rfl) (hs : starEach [ne, .Tuple es x1 p2] X.env = (false, eval ne X.env) :: starEach [.Tuple es x1 p2] X.env := by rfl) (hs2 : starEach [.Tuple es x1 p2] X.env = (false, eval (.Tuple es x1 p2) X.env) :: starEach [] X.env := by rfl) (hpl : (backTo pos (starEach [.Tuple es x1 p2] X.env)).any (·.1) = false := by rfl) :
    PE (X.suite a ((a, oe) :: pn)) (.Call (.Name "isinstance" p1) [ne, .Tuple es x1 p2] [] pos) (tE W F Γ Δ T0 k (fun _ => pBl (ys.any (subC e.cn))) Δ1) :=
  x_isET ys hz hf T hy hyn hm h1 (fun b => x_tups (h2 b) (by rw [List.length_map]; exact hl)) hg hs hs2 hpl
end
end L3
end
section
set_option maxHeartbeats 4000000
set_option autoImplicit true
namespace L3
open PySem PySem.Spec PyProof.Rows L2 PySem.SxX
open He (ga ma eqO eqO_ok ba)
theorem clsXB_ok {K : PySem.W.Frag} {C : Addr} (q : clsXB K C = true) : ∃ nm q N bs bm sn sub ab col dd k0 k1 k2 k3 k5, K.lookup C = some (excClassObj nm q C N bs bm true sn sub ab col dd k0 k1 k2 k3 k5 "ValueError.__new__") ∧ PySem.HandSPX.refsVE bm = true := by
  unfold clsXB at q
  split at q
  · rename_i dd cd sl ho
    split at q
    · rename_i C' bm k0 k1 k2 k3 n k5 hm hs
      simp only [Bool.and_eq_true, beq_iff_eq, Bool.not_eq_true'] at q
      obtain ⟨⟨⟨⟨rfl, rfl⟩, hdel⟩, hdi⟩, ht⟩ := q
      obtain ⟨nm, bs, mro, ns, qn, hd, sn, sub, ab, col, del⟩ := cd
      dsimp only at hm hdel hdi
      subst hm hdel hdi
      have hsl : sl = #[k0, k1, k2, k3, some (.builtin "ValueError.__new__"), k5] := by
        obtain ⟨l⟩ := sl
        simp only at hs
        rw [hs]
      subst hsl
      exact ⟨nm, qn, ns, bs, bm, sn, sub, ab, col, dd, k0, k1, k2, k3, k5, ho, ht⟩
    · cases q
  · cases q
structure XTx (P : Program) (d : XD) : Prop where
  few : d.ps.length ≤ 900
  top : (P.main.scope.names.lookup ("super" : Str)).isSome = false
  tx : ∃ (ar : Arg) (text : Str) (kk : Nat) (q0 q1 q2 q3 q4 q5 : Pos) (stores : List Stmt), d.body = .Expr (.Call (.Attribute (.Call (.Name "super" q1) [] [] q2) "__init__" q3) [.Constant (.str text) kk q0] [] q4) q5 :: stores ∧ Stores stores d.ps ∧
    (d.params.posonlyargs ++ d.params.args).head? = some ar ∧ ar.arg = "self" ∧ (q3.endLine == q4.line) = true
  s1 : d.scope.names.lookup ("super" : Str) = some .globalImplicit
  s2 : d.scope.names.lookup ("__class__" : Str) = some .free
  s3 : d.scope.names.lookup ("self" : Str) = some .local
  s4 : ∀ f ∈ d.ps, d.scope.names.lookup f = some .local
  s5 : d.scope.kind = .function
  s6 : d.scope.isCoroutine = false
  s7 : d.scope.isGenerator = false
  s8 : ∀ x ∈ d.scope.names, x.2 ≠ .cell
  nd : (("self" : Str) :: d.ps).Nodup
  bi : ∀ (doc pm : Value) (an : Option Addr) (cda ct : Value) (cc : Addr) (us : List Value), us.length = d.ps.length + 1 → bindArgs (PySem.W.ksFn "__init__" d.qual d.params d.body d.scope .none .none doc pm an cda ct cc) ⟨us, []⟩ = pure ((("self" : Str) :: d.ps).zip us)
theorem XD.sx {P : Program} {K : PySem.W.Frag} {d : XD} (e : fnXo K d.name = d.val) (c : d.ok P K = true) (t : XTx P d) : SxTxt P K (ga K d.name) (iAd K d.name) d.ps ∧ ExcC K (ga K d.name) ∧ XfC K (ga K d.name) := by
  obtain ⟨c1, c⟩ := ba c
  obtain ⟨c2, c⟩ := ba c
  obtain ⟨c3, c⟩ := ba c
  obtain ⟨c4, c⟩ := ba c
  obtain ⟨c5, c⟩ := ba c
  obtain ⟨c6, c⟩ := ba c
  obtain ⟨c7, c⟩ := ba c
  obtain ⟨c8, c⟩ := ba c
  obtain ⟨c9, c⟩ := ba c
  obtain ⟨c10, c⟩ := ba c
  obtain ⟨c11, c⟩ := ba c
  obtain ⟨c12, c⟩ := ba c
  obtain ⟨c13, c⟩ := ba c
  obtain ⟨c14, c⟩ := ba c
  obtain ⟨c15, c⟩ := ba c
  obtain ⟨c16, c⟩ := ba c
  obtain ⟨c17, c⟩ := ba c
  obtain ⟨c18, c19⟩ := ba c
  refine ⟨⟨clsXB_ok c1, eqO_ok c2, fun f hf => eqO_ok (List.all_eq_true.mp c3 f hf), eqO_ok c4, of_decide_eq_true c5, c6, of_decide_eq_true c7, of_decide_eq_true c8, of_decide_eq_true c9, eqO_ok c10, eqO_ok c11, t.few, t.top, ?_⟩, ⟨eqO_ok c13, eqO_ok c14, of_decide_eq_true c7, c15, eqO_ok c16, eqO_ok c17, of_decide_eq_true c18, of_decide_eq_true c19⟩, ⟨eqO_ok c13, eqO_ok c14, of_decide_eq_true c7, c15⟩⟩
  obtain ⟨ar, text, kk, q0, q1, q2, q3, q4, q5, stores, eb, st, ha, hs, hl⟩ := t.tx
  have bi := t.bi
  obtain ⟨dn, dq, dp, db, ds, dps⟩ := d
  dsimp only at *
  subst eb
  unfold fnXo XD.val at e
  unfold iniXB at c12
  dsimp only at e c12
  cases q : K.lookup (iAd K dn) with
  | none => rw [q] at c12; cases c12
  | some o =>
    obtain ⟨oc, od, dt, osl⟩ := o
    rw [q] at c12 e
    cases dt with
    | func fd =>
      obtain ⟨n1, n2, n3, n4, n5, n6, n7, n8, n9, n10, n11, n12, n13, n14, n15⟩ := fd
      simp only [Option.some.injEq, Prod.mk.injEq] at e
      obtain ⟨h1, h2, h3, h4, h5, h6, h7, h8⟩ := e
      subst h1 h2 h3 h4 h5 h6 h8
      dsimp only at c12
      cases n8 with
      | none =>
        cases n9 with
        | none =>
          cases n13 with
          | ref cda =>
            match n7, h7, c12 with
            | [(nm, cc)], h7, c12 =>
              have h7 : [nm] = [("__class__" : Str)] := h7
              obtain rfl : nm = ("__class__" : Str) := (List.cons.inj h7).1
              obtain ⟨k1, k2⟩ := ba c12
              obtain ⟨k2, k3⟩ := ba k2
              split at k2
              · rename_i ccl cdd vs ccs hk
                split at k2
                · rename_i file tf hv
                  split at k3
                  · rename_i cl cld C' csl hc
                    have eC : C' = ga K dn := beq_iff_eq.mp k3
                    subst eC
                    exact ⟨oc, od, n10, n11, n12, cda, n14, osl, cc, _, _, ar, text, kk, q0, q1, q2, q3, q4, q5, stores, _, ccl, cdd, vs, ccs, file, tf, cl, cld, csl, rfl, k1, st, ha, hs, hk, hv, k2, hl, hc, t.s1, t.s2, t.s3, t.s4, t.s5, t.s6, t.s7, t.s8, t.nd, fun s us hl => .of_eq (bi _ _ _ _ _ _ us hl)⟩
                  · cases k3
                · cases k2
              · cases k2
            | [], _, c12 => cases c12
            | _ :: _ :: _, _, c12 => cases c12
          | _ => cases c12
        | _ => cases c12
      | _ => cases c12
    | _ => cases c12
section
variable {P : Program} {fa : List He.Fa} {fn : List He.DefD} {xs : List XD} {rs cs : List Str} {K : PySem.W.Frag}
theorem SaysX.xc {mg : Str → Option Value} (c : SaysX P fa fn xs rs cs K) (i : Nat) {d : XD} (h : xs[i]? = some d) (t : XTx P d) (hg : mg d.name = some (.ref (ga K d.name))) (hp : d.ps = fieldsOf d.name) : XcT P K mg d.name := by
  have c2 := (ba (show ((xs.all fun d => d.ok P K) && tabB K rs cs) = true from congrArg (fun z : AlX => z.2.2) c)).1
  have e : xs.map (fun d => fnXo K d.name) = xs.map XD.val := congrArg (fun z : AlX => z.2.1) c
  have e2 : (xs.map fun d => fnXo K d.name)[i]? = (xs.map XD.val)[i]? := by rw [e]
  rw [List.getElem?_map, List.getElem?_map, h] at e2
  obtain ⟨z1, z2, z3⟩ := XD.sx (Option.some.inj e2) (List.all_eq_true.mp c2 d (List.mem_of_getElem? h)) t
  have eg : gaM mg d.name = ga K d.name := by unfold gaM; rw [hg]
  exact ⟨by rw [eg]; exact hg, ⟨_, by rw [eg, ← hp]; exact z1⟩, by rw [eg]; exact z2, by rw [eg]; exact z3⟩
theorem SaysX.xst {mg : Str → Option Value} (c : SaysX P fa fn xs rs cs K) (hsup : mg "super" = none) (hx : ∀ x ∈ rs, XcT P K mg x) (hr : ∀ x ∈ rs, mg x = some (.ref (ga K x))) (hc : ∀ y ∈ cs, y = "ValueError" ∧ mg y = none ∨ y ≠ "ValueError" ∧ mg y = some (.ref (ga K y))) : XsT P K mg rs cs := by
  have c2 := (ba (show ((xs.all fun d => d.ok P K) && tabB K rs cs) = true from congrArg (fun z : AlX => z.2.2) c)).2
  have eg : ∀ x, mg x = some (.ref (ga K x)) → gaM mg x = ga K x := fun x h => by unfold gaM; rw [h]
  have eu : ∀ y ∈ cs, clsU mg y = cU K y := fun y hy => by
    unfold clsU cU
    rcases hc y hy with ⟨e, h⟩ | ⟨e, h⟩
    · rw [h, if_pos e]
    · rw [h, if_neg e]
  have tb : ∀ x ∈ rs, ∀ y ∈ cs, PySem.W.kitOne K (.ref (gaM mg x)) (clsU mg y) = some (subC x y) ∧ PySem.W.exmOne K (.ref (gaM mg x)) (clsU mg y) = some (subC x y) := fun x hx y hy => by
    rw [eg x (hr x hx), eu y hy]
    obtain ⟨a, b⟩ := ba (List.all_eq_true.mp (List.all_eq_true.mp c2 x hx) y hy)
    exact ⟨of_decide_eq_true a, of_decide_eq_true b⟩
  refine ⟨hsup, hx, fun y hy => ?_, fun x hx y hy => (tb x hx y hy).1, fun x hx y hy => (tb x hx y hy).2⟩
  rcases hc y hy with h | ⟨_, h⟩
  · exact .inl h
  · exact .inr (by rw [eg y h]; exact h)
end
end L3
end
section
set_option maxHeartbeats 4000000
set_option autoImplicit true
namespace L3
open PySem PySem.Spec PyProof.Rows L2
section
variable {X : Cx} {F : Fm} {Γ : Gm} {Δ : Δs} {γ : Type}
variable {α β β3 δ : Type} {g : TG} {own : List (Str × Nat)} {T : Option γ} {k : β × List δ → Option γ} {Ex : α → Pd} {D : δ → Od} {bd : Gm → α → Gm} {xs : β → List α} {Δ1 : β → Δs} {f : β → α → Option δ} {y : β → α → β3 → δ}
end
section
variable {X : Cx} {W : Bool} {F : Fm} {Γ : Gm} {Δ : Δs} {γ : Type}
end
end L3
end
section
set_option maxHeartbeats 4000000
set_option autoImplicit true
namespace L3
open PySem PySem.Spec PyProof.Rows L2
def pSm {α β : Type} (E : α → Pd) (G : β → Pd) : α ⊕ β → Pd
  | .inl x => E x
  | .inr y => G y
section
variable {X : Cx} {W : Bool} {F : Fm} {Γ : Gm} {Δ : Δs} {γ : Type} {α β α' : Type} {E : α → Pd} {G : α' → Pd}
end
end L3
end
section
set_option maxHeartbeats 4000000
set_option autoImplicit true
namespace L3
open PySem PySem.Spec PyProof.Rows L2
section
variable {X : Cx} {W : Bool} {F : Fm} {Γ : Gm} {Δ : Δs} {γ : Type}
section
variable {a b : Expr} {pos : Pos} {β1 β2 α β : Type} {T : Option γ} {k1 : β1 → Option γ} {k : β1 × β2 → Option γ} {Δ1 : β1 → Δs} {Δ2 : β1 → β2 → Δs} {E : α → Pd} {G : β → Pd} {x : β1 → α × β} {y : β1 → β2 → α × β}
end
theorem x_lenT2 {a : Expr} {p pos : Pos} {α β β' : Type} {T : Option γ} {k : β → Option γ} {Δ1 : β → Δs} {E : α → Pd} {G : β' → Pd} {x : β → α × β'} (hm : X.mg "len" = none) (ha : PE X a (tE W F Γ Δ T k (fun b => pT2 E G (x b)) Δ1)) (hg : Gl X "len" := by rfl) (hs : starEach [a] X.env = (false, eval a X.env) :: starEach [] X.env := by rfl) :
    PE X (.Call (.Name "len" p) [a] [] pos) (tE W F Γ Δ T k (fun _ => pInt 2) Δ1) :=
  x1t (u_callB call_len_seq hg hm PySem.boot_len (by decide) (by decide) hs) ha fun b σ v H Q ok hv q => by
    obtain ⟨p, u, w, ev, h, _, _⟩ := hv
    rw [ev]
    exact ⟨p, [u, w], rfl, .inr (.inl (.inl h)), q _ rfl⟩
section
variable {a b : Expr} {pos : Pos} {β1 β2 α : Type} [DecidableEq α] {T : Option γ} {k1 : β1 → Option γ} {k : β1 × β2 → Option γ} {Δ1 : β1 → Δs} {Δ2 : β1 → β2 → Δs} {E : α → Pd} {x : β1 → α} {y : β1 → β2 → List α}
end
end
end L3
end
section
set_option maxHeartbeats 4000000
set_option autoImplicit true
namespace L3
open PySem PySem.Spec PyProof.Rows L2
section
variable {X : Cx} {W : Bool} {F : Fm} {Γ : Gm} {Δ : Δs} {γ : Type}
end
end L3
end
section
set_option maxHeartbeats 4000000
set_option autoImplicit true
namespace L3
open PySem PySem.Spec PyProof.Rows L2
section
variable {X : Cx}
end
section
variable {X : Cx} {F : Fm} {Γ : Gm} {Δ : Δs} {γ : Type} {κ δ : Type} [DecidableEq κ] [Ky κ]
variable {α β β2 β3 : Type} {g : TG} {own : List (Str × Nat)} {T : Option γ} {k : β × List (κ × δ) → Option γ} {Ex : α → Pd} {D : δ → Od} {bd : Gm → α → Gm} {xs : β → List α} {Δ1 : β → Δs} {f : β → α → Option (κ × δ)} {T2 : β → α → β2 → Option (κ × δ)} {ky : β → α → β2 → κ} {y : β → α → β2 → β3 → δ}
end
end L3
end
section
set_option maxHeartbeats 4000000
set_option autoImplicit true
namespace L3
open PySem PySem.Spec PyProof.Rows L2
section
variable {X : Cx} {W : Bool} {F : Fm} {Γ : Gm} {Δ : Δs} {γ : Type}
section
variable {a : Expr} {n} {p pos : Pos} {β α1 α2 α3 α4 : Type} {T : Option γ} {k : β → Option γ} {Δ1 : β → Δs} {A : α1 → Pd} {B : α2 → Pd} {C : α3 → Pd} {D : α4 → Pd}
end
end
def oW {α β : Type} (E : α → Pd) (D : β → Od) (x : α × β) : Od where
  pr G H v := ∃ a u w, v = .ref a ∧ H a = some (.tup [u, w]) ∧ (E x.1).pr H u ∧ (D x.2).pr G H w
  pd := pT2 E (fun y => (D y).pd) x
  frame := fun ⟨a, u, w, ev, h, p, q⟩ k f => ⟨a, u, w, ev, f _ _ trivial h, (E _).mono f p, (D _).frame q k f⟩
  cells := fun ⟨a, u, w, ev, h, p, q⟩ => (D _).cells q
  lockd := fun ⟨a, u, w, ev, h, p, q⟩ h1 h2 => ⟨a, u, w, ev, lk_fzs ((D _).cells q) h1 _ _ trivial h, (E _).mono (lk_fzs ((D _).cells q) h1) p, (D _).lockd q h1 h2⟩
def oSmPr {α β : Type} (A : α → Od) (B : β → Od) : α ⊕ β → List Addr → Hp → V → Prop
  | .inl a => (A a).pr
  | .inr b => (B b).pr
def oSm {α β : Type} (A : α → Od) (B : β → Od) (x : α ⊕ β) : Od where
  pr := oSmPr A B x
  pd := pSm (fun a => (A a).pd) (fun b => (B b).pd) x
  frame := fun {G H H' v} h k f => by
    cases x with
    | inl a => exact (A a).frame h k f
    | inr b => exact (B b).frame h k f
  cells := fun {G H v} h => by
    cases x with
    | inl a => exact (A a).cells h
    | inr b => exact (B b).cells h
  lockd := fun {G H H1 v} h h1 h2 => by
    cases x with
    | inl a => exact (A a).lockd h h1 h2
    | inr b => exact (B b).lockd h h1 h2
section
variable {X : Cx} {W : Bool} {F : Fm} {Γ : Gm} {Δ : Δs} {γ : Type}
theorem x_lclear {o : Expr} {apos cpos : Pos} {β α : Type} {T : Option γ} {k : β → Option γ} {Δ1 : β → Δs} {E : α → Pd} {xs : β → List α} {v : V} {prm : Option Nat} (j : Nat) (ho : PE X o (tE true F Γ Δ T k (fun _ => pV v) Δ1)) (hj : ∀ b, (Δ1 b)[j]? = some ⟨v, oL E (xs b), prm⟩)
    (hbase : attributeBase o "clear" X.env (eval o X.env) = eval o X.env := by rfl) (hline : (apos.endLine == cpos.line) = true := by rfl) :
    PE X (.Call (.Attribute o "clear" apos) [] [] cpos) (tE true F Γ Δ T k (fun _ => pNon) fun b => (Δ1 b).set j ⟨v, oL E [], prm⟩) :=
  (pe_bm0 PySem.F.plainAttrs_list PySem.F.slot_list_clear PySem.F.type_list_clear mt_clear ho hbase hline).wk fun σ H Q ⟨ok, g, e, q⟩ => ⟨ok, g, e, fun b u H1 kb f ok1 hu => by
    have hu : u = v := hu
    subst hu
    obtain ⟨G, ⟨p, vs, eG, ev, hp, z, pr⟩, _, turn⟩ := ok1.cell (hj b)
    have eG : G = [p] := eG
    have ev : u = .ref p := ev
    obtain ⟨ok3, f3⟩ := turn (upd H1 p (.lst [])) (oL E []) (fun a o na e => by
      rw [upd_ne fun q => na (by show a ∈ G; rw [eG, q]; exact List.mem_singleton.mpr rfl)]
      exact e) ⟨p, _, eG, ev, upd_same, Nat.zero_le _, .nil⟩
    exact ⟨by rw [ev]; exact .inl ⟨rfl, vs, .inl (.inl hp)⟩, p, vs, ev, rfl, hp, q b .non _ kb (f.trans f3) ok3 rfl⟩⟩
end
section
variable {X : Cx} {W : Bool} {F : Fm} {Γ : Gm} {Δ : Δs} {γ : Type} {κ α δ : Type} [DecidableEq κ] [Ky κ] [DecidableEq α] [DecidableEq δ]
variable {a b : Expr} {pos : Pos} {β1 β2 : Type} {T : Option γ} {k1 : β1 → Option γ} {k : β1 × β2 → Option γ} {Δ1 : β1 → Δs} {Δ2 : β1 → β2 → Δs} {E : α → Pd} {G : δ → Pd} {x : β1 → List α ⊕ List (κ × δ)} {y : β1 → β2 → List α ⊕ List (κ × δ)}
end
end L3
end
section
set_option maxHeartbeats 4000000
set_option autoImplicit true
namespace L3
open PySem PySem.Spec PyProof.Rows L2
section
variable {X : Cx} {W : Bool} {F : Fm} {Γ : Gm} {Δ : Δs} {γ : Type}
end
section
variable {X : Cx} {W : Bool} {F : Fm} {Γ : Gm} {Δ : Δs} {γ : Type} {κ α δ : Type} [DecidableEq κ] [Ky κ] [DecidableEq α] [DecidableEq δ]
variable {a b : Expr} {pos : Pos} {β1 β2 : Type} {T : Option γ} {k1 : β1 → Option γ} {k : β1 × β2 → Option γ} {Δ1 : β1 → Δs} {Δ2 : β1 → β2 → Δs} {E : α → Pd} {G : δ → Pd} {x : β1 → List α ⊕ List (κ × δ)} {y : β1 → β2 → List α ⊕ List (κ × δ)}
end
end L3
end
section
set_option maxHeartbeats 4000000
set_option autoImplicit true
namespace L3
open PySem PySem.Spec PyProof.Rows L2
theorem Od.lockdW (d : Od) {G S : List Addr} {H H1 : Hp} {v : V} (h : d.pr G H v) (hs : ∀ a ∈ G, a ∈ S) (hm : ∀ a ∈ S, ∃ o, H a = some o ∧ Mut (some o)) (h1 : ∀ a, a ∉ S → H1 a = H a) (h2 : ∀ a ∈ S, ∀ u, H a = some u → ∃ o, H1 a = some (.frz o u)) : d.pd.pr H1 v := by
  have hf : d.pr G (fun a => if a ∈ G then H a else H1 a) v := d.frame h (fun a ha o e => by
    show (if a ∈ G then H a else H1 a) = _
    rw [if_pos ha]; exact e) fun a o p e => by
    show (if a ∈ G then H a else H1 a) = _
    have hn : a ∉ S := fun z => by
      obtain ⟨u, eu, m⟩ := hm a z
      rw [e] at eu
      cases eu
      exact Mut.npst m p
    rw [if_neg fun z => hn (hs a z), h1 a hn]; exact e
  refine d.lockd hf (fun a ha => ?_) fun a ha u e => ?_
  · show H1 a = (if a ∈ G then H a else H1 a)
    rw [if_neg ha]
  · have e : (if a ∈ G then H a else H1 a) = some u := e
    rw [if_pos ha] at e
    exact h2 a (hs a ha) u e
def oTT {α β : Type} (A : α → Od) (B : β → Od) (x : α × β) : Od where
  pr G H v := ∃ a u w G1 G2, G = G1 ++ G2 ∧ v = .ref a ∧ H a = some (.tup [u, w]) ∧ (A x.1).pr G1 H u ∧ (B x.2).pr G2 H w
  pd := pT2 (fun y => (A y).pd) (fun y => (B y).pd) x
  frame := fun {G H H' v} h k f => by
    obtain ⟨a, u, w, G1, G2, eg, ev, ht, p, q⟩ := h
    subst eg
    exact ⟨a, u, w, G1, G2, rfl, ev, f _ _ trivial ht, (A _).frame p (fun a ha => k a (List.mem_append_left _ ha)) f, (B _).frame q (fun a ha => k a (List.mem_append_right _ ha)) f⟩
  cells := fun {G H v} h x hx => by
    obtain ⟨a, u, w, G1, G2, eg, ev, ht, p, q⟩ := h
    rw [eg] at hx
    rcases List.mem_append.mp hx with z | z
    · exact (A _).cells p x z
    · exact (B _).cells q x z
  lockd := fun {G H H1 v} h h1 h2 => by
    obtain ⟨a, u, w, G1, G2, eg, ev, ht, p, q⟩ := h
    have hm : ∀ x ∈ G, ∃ o, H x = some o ∧ Mut (some o) := fun x hx => by
      rw [eg] at hx
      rcases List.mem_append.mp hx with z | z
      · exact (A _).cells p x z
      · exact (B _).cells q x z
    exact ⟨a, u, w, ev, lk_fzs hm h1 _ _ trivial ht, (A _).lockdW p (fun x hx => by rw [eg]; exact List.mem_append_left _ hx) hm h1 h2, (B _).lockdW q (fun x hx => by rw [eg]; exact List.mem_append_right _ hx) hm h1 h2⟩
def oOpPr {α : Type} (D : α → Od) : Option α → List Addr → Hp → V → Prop
  | none => fun G _ v => G = [] ∧ v = .non
  | some x => (D x).pr
def oOp {α : Type} (D : α → Od) (o : Option α) : Od where
  pr := oOpPr D o
  pd := pOp (fun x => (D x).pd) o
  frame := fun {G H H' v} h k f => by
    cases o with
    | none => exact h
    | some x => exact (D x).frame h k f
  cells := fun {G H v} h => by
    cases o with
    | none =>
      obtain ⟨e, _⟩ := h
      subst e
      exact fun _ h => absurd h List.not_mem_nil
    | some x => exact (D x).cells h
  lockd := fun {G H H1 v} h h1 h2 => by
    cases o with
    | none => exact h.2
    | some x => exact (D x).lockd h h1 h2
section
variable {X : Cx} {W : Bool} {F : Fm} {Γ : Gm} {Δ : Δs} {γ : Type}
def fBn {ν S τ : Type} (F : Fm) (C : ν → S → Cxt) (Tf : Fn τ) : Fn (Bo S τ) := ⟨fun H o D => match o with
  | .nx s => ∀ n, nxOk F (C n s) H D.nx
  | .tm t => Tf.fin H t D, fun {H H' g D} h f => by
    cases g with
    | nx s => exact fun n => nxOk.mono (h n) f
    | tm t => exact Tf.mono h f⟩
theorem s_endBn {ν S τ : Type} {C : ν → S → Cxt} {Tf : Fn τ} (n : ν) (s : S) (g : SubG (C n s).1 Γ) (h : (C n s).2.Sublist Δ) : PSs X [] (tS F Γ Δ (fBn F C Tf) (some (.nx s))) :=
  pss_nil.wk fun D σ H ⟨ok, g', e, f⟩ => by
    cases e
    exact f n σ H (Fzs.refl H) (ok.wk g h)
theorem s_ifBn {ce : Expr} {A rest : List Stmt} {pos : Pos} {β ν S τ : Type} {c : β → Bool} {Δ' : β → Δs} {C : ν → S → Cxt} {Tf : Fn τ} {T : Option (Bo S τ)} {T1 : β → Option τ} {T2 : β → Option (Bo S τ)} (hI : Ins Tf) (hc : PT X ce (tTs true F Γ Δ T (fun b => if c b = true then inB (T1 b) else T2 b) c Δ')) (ha : ∀ b, PSs X A (tS F Γ (Δ' b) Tf (T1 b))) (hr : ∀ b, PSs X rest (tS F Γ (Δ' b) (fBn F C Tf) (T2 b))) : PSs X (.If ce A [] pos :: rest) (tS F Γ Δ (fBn F C Tf) T) :=
  s_if0 (N1 := fBn F C Tf) (N2 := fBn F C Tf) hc (pss_ex ha) pss_nil (pss_ex hr) fun D σ H ⟨ok, g, e, f⟩ => ⟨ok, g, e, fun b H' kb fz ok' => ⟨fun h => by
    try dsimp only at kb
    rw [if_pos h] at kb
    obtain ⟨t, et, e2⟩ := bind_some kb
    cases e2
    exact ⟨b, ok', t, et, hI _ _ _ _ (Tf.mono f fz.fz)⟩, fun h => by
    try dsimp only at kb
    rw [if_neg (by rw [h]; exact Bool.false_ne_true)] at kb
    exact ⟨b, ok', g, kb, (fBn F C Tf).mono f fz.fz⟩⟩⟩
variable {N : Fn γ} {rest : List Stmt}
section
variable {κ α : Type} [DecidableEq κ] [Ky κ] {a b : Expr} {apos cpos : Pos} {β1 β2 : Type} {T : Option γ} {k1 : β1 → Option γ} {Δ1 : β1 → Δs} {Δ2 : β1 → β2 → Δs} {E1 : β1 → Pd} {Ee : α → Pd} {xs : β1 → β2 → List (κ × α)} {j : β1 → β2 → κ}
end
end
end L3
end
section
set_option maxHeartbeats 4000000
set_option autoImplicit true
namespace L3
open PySem PySem.Spec PyProof.Rows L2
section
variable {X : Cx} {W : Bool} {F : Fm} {Γ : Gm} {Δ : Δs} {γ : Type}
variable {N : Fn γ} {rest : List Stmt}
end
end L3
end
section
set_option maxHeartbeats 4000000
set_option autoImplicit true
namespace L3
open PySem PySem.Spec PyProof.Rows L2
def idxF : List Str → Str → Option Nat
  | [], _ => none
  | g :: r, f => if f = g then some 0 else (idxF r f).map (· + 1)
theorem lookup_zip {f : Str} {v : V} : ∀ {ns : List Str} {vs : List V} {i : Nat}, idxF ns f = some i → vs[i]? = some v → (ns.zip vs).lookup f = some v
  | [], _, _, h, _ => by cases h
  | g :: ns, [], _, _, e => by simp at e
  | g :: ns, w :: vs, i, h, e => by
    unfold idxF at h
    rw [List.zip_cons_cons]
    by_cases q : f = g
    · rw [if_pos q] at h
      cases h
      have hb : (f == g) = true := beq_iff_eq.mpr q
      simp only [List.lookup, hb]
      simpa using e
    · rw [if_neg q] at h
      have hb : (f == g) = false := beq_eq_false_iff_ne.mpr q
      simp only [List.lookup, hb]
      cases h2 : idxF ns f with
      | none => rw [h2] at h; cases h
      | some j =>
        rw [h2] at h
        cases h
        exact lookup_zip h2 (by simpa using e)
theorem lookup_zipN {f : Str} : ∀ {ns : List Str} {vs : List V}, idxF ns f = none → (ns.zip vs).lookup f = none
  | [], _, _ => rfl
  | g :: ns, [], _ => rfl
  | g :: ns, w :: vs, h => by
    unfold idxF at h
    rw [List.zip_cons_cons]
    by_cases q : f = g
    · rw [if_pos q] at h; cases h
    · rw [if_neg q] at h
      have hb : (f == g) = false := beq_eq_false_iff_ne.mpr q
      simp only [List.lookup, hb]
      cases h2 : idxF ns f with
      | none => exact lookup_zipN h2
      | some j => rw [h2] at h; cases h
theorem putF_zip {f : Str} {y : V} : ∀ {ns : List Str} {vs : List V}, ns.length = vs.length → idxF ns f = none → putF f y (ns.zip vs) = (ns ++ [f]).zip (vs ++ [y])
  | [], [], _, _ => rfl
  | [], _ :: _, h, _ => by cases h
  | _ :: _, [], h, _ => by cases h
  | g :: ns, w :: vs, h, e => by
    unfold idxF at e
    by_cases q : f = g
    · rw [if_pos q] at e; cases e
    · rw [if_neg q] at e
      have e2 : idxF ns f = none := by
        cases h2 : idxF ns f with
        | none => rfl
        | some j => rw [h2] at e; cases e
      show (if g = f then (g, y) :: ns.zip vs else (g, w) :: putF f y (ns.zip vs)) = _
      rw [if_neg fun z => q z.symm, putF_zip (by simpa using h) e2]
      rfl
def pI (mg : Str → Option Value) (cn : Str) (ns : List Str) (ps : List Pd) : Pd where
  pr H v := ∃ a o C dx vs, v = .ref a ∧ mg cn = some (.ref C) ∧ H a = some (.frz o (.ins C dx (ns.zip vs))) ∧ Paired (fun p u => Pd.pr p H u) ps vs
  mono := fun f ⟨a, o, C, dx, vs, e, g, h, p⟩ => ⟨a, o, C, dx, vs, e, g, f _ _ trivial h, paired_mono (fun x _ => x.mono f) p⟩
def oI (mg : Str → Option Value) (cn : Str) (ns : List Str) (ps : List Pd) : Od where
  pr G H v := ∃ a C dx vs, G = [a] ∧ v = .ref a ∧ mg cn = some (.ref C) ∧ H a = some (.ins C dx (ns.zip vs)) ∧ Paired (fun p u => Pd.pr p H u) ps vs
  pd := pI mg cn ns ps
  frame := fun ⟨a, C, dx, vs, eg, ev, g, h, q⟩ k f => ⟨a, C, dx, vs, eg, ev, g, k a (by rw [eg]; exact List.mem_singleton.mpr rfl) _ h, paired_mono (fun x _ => x.mono f) q⟩
  cells := fun ⟨a, C, dx, vs, eg, ev, g, h, q⟩ => one_cells eg h trivial
  lockd := fun ⟨a, C, dx, vs, eg, ev, g, h, q⟩ h1 h2 => by
    obtain ⟨o, ho⟩ := h2 a (by rw [eg]; exact List.mem_singleton.mpr rfl) _ h
    exact ⟨a, o, C, dx, vs, ev, g, ho, paired_mono (fun x _ => x.mono (lk_fzs (one_cells eg h trivial) h1)) q⟩
section
variable {X : Cx} {pins : List (Addr × Obj)} {σ : SS} {H : Hp} {s : Shared} {a C dx : Addr} {fs : List (Str × V)} {f : Str} {v : V} {A : Around} {E : Value → Shared → Prop}
theorem insF_get {P : Program} {w : World} {h : Heap} {ob : Obj} (hok : HOk P w H h) (e : H a = some (.frz ob (.ins C dx fs))) : ∃ mA, ObjM h a dx C mA ∧ ∀ f, RelO (fs.lookup f) (mA f) := by
  obtain ⟨_, d, z, ne, ob, mA, n, r, q⟩ := (show ObjOk P w H h a (.frz _ (.ins C dx fs)) from hok a _ e)
  exact ⟨mA, ⟨ob, n, ne⟩, r⟩
theorem getattrF_ok {b : Bool} {ob : Obj} {Q : Value → Shared → Prop} (I : Inv X pins σ H s) (e : H a = some (.frz ob (.ins C dx fs))) (c : Cls X.K C) (n : NoAttr X.K C f) (l : fs.lookup f = some v)
    (h : ∀ u s', Inv X pins σ H s' → RelV v u → Q u s') : wpAny (model X.prog X.w) A (getAttr (.ref a) f b) Q E s := by
  obtain ⟨mA, O, r⟩ := insF_get I.hok e
  obtain ⟨u, hu, ru⟩ := RelO.some_of (v := v) (o := mA f) (by rw [← l]; exact r f)
  exact get_map I.kIn O (c.get f) c.hd n hu (handed_of ru) (h u _ (I.tok _) ru)
end
def tFldF (K : PySem.W.Frag) (ta : TE) (f : Str) : TE := fun σ H Q => ta σ H fun x H1 => ∃ a o C dx fs v, x = .ref a ∧ H1 a = some (.frz o (.ins C dx fs)) ∧ Cls K C ∧ NoAttr K C f ∧ fs.lookup f = some v ∧ Q v H1
theorem pe_fldF {X : Cx} {e : Expr} {f : Str} {pos : Pos} {ta : TE} (he : PE X e ta) (hb : attributeBase e f X.env (eval e X.env) = eval e X.env) : PE X (.Attribute e f pos) (tFldF X.K ta f) := by
  refine ⟨fun pins s σ H Q I h => ?_⟩
  refine attr_of hb (thn (he.run pins s σ H _ I h) fun u s1 ⟨x, H1, I1, rx, a, o, C, dx, fs, v, ex, ea, c, n, l, q⟩ => ?_)
  subst ex
  obtain rfl : u = Value.ref a := rx
  exact getattrF_ok I1 ea c n l fun u' s2 I2 ru => ⟨v, H1, I2, ru, q⟩
def IsM (K : PySem.W.Frag) (m : Str) (f : Addr) (H : Hp) (v : V) : Prop := ∃ a o C dx fs, v = .ref a ∧ H a = some (.frz o (.ins C dx fs)) ∧ Cls K C ∧ Meth K C m f ∧ fs.lookup m = none
theorem pI_isM {K : PySem.W.Frag} {mg : Str → Option Value} {cn m : Str} {C f : Addr} {ns : List Str} {ps : List Pd} (gc : mg cn = some (.ref C)) (c : Cls K C) (hm : Meth K C m f) (hn : idxF ns m = none) : ∀ H v, (pI mg cn ns ps).pr H v → IsM K m f H v := fun H v ⟨a, o, C', dx, vs, e, g, h, p⟩ => by
  rw [gc] at g
  cases g
  exact ⟨a, o, C, dx, _, e, h, c, hm, lookup_zipN hn⟩
section
variable {X : Cx} {CX : CXT} {k : Nat} {f : Addr} {fd : FuncData} {ps : List Str} {sp : Sp} {E : XK} {m : Str} {pos apos : Pos} {e o : Expr} {es : List Expr} {ta : TE} {t : TA}
end
section
variable {X : Cx} {W : Bool} {F : Fm} {Γ : Gm} {Δ : Δs} {γ : Type}
theorem x_fld {β α : Type} {e : Expr} {f cn : Str} {pos : Pos} {T : Option γ} {k : β → Option γ} {Δ1 : β → Δs} {ns : List Str} {ps : β → List Pd} {y : β → α} {C : Addr} (E : α → Pd) (i : Nat) (gc : X.mg cn = some (.ref C)) (c : Cls X.K C) (n : NoAttr X.K C f) (hi : idxF ns f = some i)
    (h1 : PE X e (tE W F Γ Δ T k (fun b => pI X.mg cn ns (ps b)) Δ1)) (hp : ∀ b, (ps b)[i]? = some (E (y b)) := by exact fun _ => rfl) (hb : attributeBase e f X.env (eval e X.env) = eval e X.env := by rfl) : PE X (.Attribute e f pos) (tE W F Γ Δ T k (fun b => E (y b)) Δ1) :=
  (pe_fldF h1 hb).wk fun σ H Q ⟨ok, g, e, q⟩ => ⟨ok, g, e, fun b v H' kb st ok' ⟨a, o, C', dx, vs, ev, g', h, p⟩ => by
    rw [gc] at g'
    cases g'
    obtain ⟨w, hw, pw⟩ := paired_at p (hp b)
    exact ⟨a, o, C, dx, _, w, ev, h, c, n, lookup_zip hi hw, q b w H' kb st ok' pw⟩⟩
theorem x_fldV {β α : Type} {e : Expr} {f cn : Str} {pos : Pos} {T : Option γ} {k : β → Option γ} {Δ1 : β → Δs} {ns : List Str} {ps : β → List Pd} {y : β → α} {C : Addr} {v : V} {prm : Option Nat} (E : α → Pd) (i j : Nat) (gc : X.mg cn = some (.ref C)) (c : Cls X.K C) (n : NoAttr X.K C f) (hi : idxF ns f = some i)
    (h1 : PE X e (tE W F Γ Δ T k (fun _ => pV v) Δ1)) (hj : ∀ b, (Δ1 b)[j]? = some ⟨v, oI X.mg cn ns (ps b), prm⟩ := by exact fun _ => rfl) (hp : ∀ b, (ps b)[i]? = some (E (y b)) := by exact fun _ => rfl) (hb : attributeBase e f X.env (eval e X.env) = eval e X.env := by rfl) : PE X (.Attribute e f pos) (tE W F Γ Δ T k (fun b => E (y b)) Δ1) :=
  (pe_fld h1 hb).wk fun σ H Q ⟨ok, g, e, q⟩ => ⟨ok, g, e, fun b u H' kb st ok' hu => by
    have hu : u = v := hu
    subst hu
    obtain ⟨G, a, C', dx, vs, eg, ev, g', h, p⟩ := ok'.at (hj b)
    rw [gc] at g'
    cases g'
    obtain ⟨w, hw, pw⟩ := paired_at p (hp b)
    exact ⟨a, C, dx, _, w, ev, h, c, n, lookup_zip hi hw, q b w H' kb st ok' pw⟩⟩
variable {N : Fn γ} {rest : List Stmt}
theorem s_fld {o e : Expr} {f cn : Str} {pos pos' : Pos} {β0 β1 : Type} {T : Option γ} {k0 : β0 → Option γ} {k : β0 → β1 → Option γ} {Δ0 : β0 → Δs} {Δ1 : β0 → β1 → Δs} {E0 : β0 → Pd} {ns : List Str} {ps : β0 → β1 → List Pd} {v : V} {prm : Option Nat} {C : Addr} (j : Nat) (gc : X.mg cn = some (.ref C)) (c : Cls X.K C) (n : NoAttr X.K C f) (hi : idxF ns f = none) (hs1 : ns.length < 900)
    (he : PE X e (tE true F Γ Δ T k0 E0 Δ0)) (ho : ∀ b0, PE X o (tE true F Γ (Δ0 b0) (k0 b0) (k b0) (fun _ => pV v) (Δ1 b0)))
    (hj : ∀ b0 b1, (Δ1 b0 b1)[j]? = some ⟨v, oI X.mg cn ns (ps b0 b1), prm⟩) (hl : ∀ b0 b1, (ps b0 b1).length = ns.length)
    (hr : ∀ b0 b1, PSs X rest (tS F Γ ((Δ1 b0 b1).set j ⟨v, oI X.mg cn (ns ++ [f]) (ps b0 b1 ++ [E0 b0]), prm⟩) N (k b0 b1)))
    (hs : swapsWith e (some (.Attribute o f pos')) pos.line X.env = pure false := by rfl) :
    PSs X (.Assign [.Attribute o f pos'] e pos :: rest) (tS F Γ Δ N T) :=
  (pss_cons (ps_fld (pe_ex ho) he hs) (pss_ex fun b0 => pss_ex fun b1 => hr b0 b1)).wk fun D σ H ⟨ok, g, e, q⟩ => ⟨ok, g, e, fun b0 u H0 kb0 f0 ok0 hu => ⟨b0, ok0, g, kb0, fun b1 w H1 kb1 f1 ok1 hw => by
    have hw : w = v := hw
    subst hw
    obtain ⟨G, ⟨a, C', dx, vs, eG, ev, g', h, p⟩, nd, turn⟩ := ok1.cell (hj b0 b1)
    rw [gc] at g'
    cases g'
    have lz : ns.length = vs.length := by rw [← hl b0 b1]; exact paired_len p
    refine ⟨a, C, dx, _, ev, h, c, n, by rw [List.length_zip]; omega, b0, b1, ?_⟩
    have hu2 : (E0 b0).pr H1 u := (E0 b0).mono f1.fz hu
    rw [putF_zip lz hi]
    have fzm : Fzs H1 (upd H1 a (.ins C dx ((ns ++ [f]).zip (vs ++ [u])))) := Fzs.mut h fun z => z
    obtain ⟨ok3, f3⟩ := turn (upd H1 a (.ins C dx ((ns ++ [f]).zip (vs ++ [u])))) (oI X.mg cn (ns ++ [f]) (ps b0 b1 ++ [E0 b0])) (fun z o na e => by
      rw [upd_ne fun q => na (by
        show z ∈ G
        have eG : G = [a] := eG
        rw [eG, q]; exact List.mem_singleton.mpr rfl)]
      exact e) ⟨a, C, dx, vs ++ [u], eG, ev, gc, upd_same, paired_app (paired_mono (fun x _ => x.mono fzm) p) (.cons ((E0 b0).mono fzm hu2) .nil)⟩
    exact ⟨ok3, g, kb1, N.mono q ((f0.fz.trans f1.fz).trans f3.fz)⟩⟩⟩
end
theorem s_endI {X : Cx} {F : Fm} {Γ : Gm} {Δ : Δs} {ρ : Type} {P : ρ → Δs} (r : ρ) (hP : (P r).Sublist Δ) : PSs X [] (tS F Γ Δ (fI F P) (some r)) :=
  pss_nil.wk fun D σ H ⟨ok, g', e, f⟩ => by
    cases e
    exact f σ H (ok.hk.less hP)
section
variable {X : Cx} {W : Bool} {F : Fm} {Γ : Gm} {Δ : Δs} {γ : Type}
theorem made_ok {α : Type} {H1 H' : Hp} {σ : SS} {x dx C : Addr} {d : Od} (ok : Ok F Γ Δ σ H1) (hx : H1 x = none) (hd : H1 dx = none) (ne : dx ≠ x) (hk : Hk ⟨upd (upd H1 dx (.own x)) x (.ins C dx []), [[x]]⟩ [⟨.ref x, d, some 0⟩] H') : OkN W F Γ H1 (.ref x) d Δ σ H' ∧ Gr H1 H' := by
  have g0 : Gr H1 (upd (upd H1 dx (.own x)) x (.ins C dx [])) := fun a o e => by
    rw [upd_ne (ne_of_none e hx), upd_ne (ne_of_none e hd)]; exact e
  obtain ⟨Δ0, e, hk⟩ := hk
  obtain ⟨G, e2⟩ := map_one e
  subst e2
  have g : Gr H1 H' := fun a o e => hk.base a o (g0 a o e) fun m hm ha => by
    rw [List.mem_singleton.mp hm] at ha
    rw [List.mem_singleton.mp ha, hx] at e
    cases e
  have nw : ∀ a ∈ G, H1 a = none := fun a ha => by
    rcases hk.own _ (List.mem_singleton.mpr rfl) a ha with z | ⟨i, m, z, hm, hin⟩
    · cases q : H1 a with
      | none => rfl
      | some o =>
        have z : upd (upd H1 dx (.own x)) x (.ins C dx []) a = none := z
        rw [g0 a o q] at z; cases z
    · cases z
      cases hm
      rw [List.mem_singleton.mp hin]; exact hx
  exact ⟨ok.add g hk.ndup.1 nw (hk.del _ (List.mem_singleton.mpr rfl)), g⟩
end
end L3
end
section
set_option maxHeartbeats 4000000
set_option autoImplicit true
namespace L3
open PySem PySem.Spec PyProof.Rows L2
def pTN {α : Type} (E : α → Pd) (xs : List α) : Pd where
  pr H v := ∃ a o vs, v = .ref a ∧ H a = some (.frz o (.tup vs)) ∧ o.dict = none ∧ xs.length ≤ sizeLine ∧ Paired (fun x u => (E x).pr H u) xs vs
  mono := fun f ⟨a, o, vs, e, h, n, z, p⟩ => ⟨a, o, vs, e, f _ _ trivial h, n, z, paired_mono (fun x _ => (E x).mono f) p⟩
section
variable {X : Cx} {W : Bool} {F : Fm} {Γ : Gm} {Δ : Δs} {γ : Type}
section
variable {a : Expr} {pos p : Pos} {β α : Type} {T : Option γ} {Δ1 : β → Δs} {E1 : β → Pd} {Ee : α → Pd} {xs : β → List α} {k : β → Option γ}
theorem x1l {e : Expr} {r : V → Hp → VK → Prop} {E : β → Pd} (h1 : Un1 X e a r) (ha : PE X a (tE W F Γ Δ T k E1 Δ1))
    (hv : ∀ b σ v H Q, Ok F Γ (Δ1 b) σ H → (E1 b).pr H v → (∀ u H', Gr H H' → (E b).pr H' u → Q u H') → r v H Q) : PE X e (tE W F Γ Δ T k E Δ1) :=
  (h1 _ ha).wk fun σ H Q ⟨ok, g, e, q⟩ => ⟨ok, g, e, fun b v H' kb f ok' hp => hv b σ v H' Q ok' hp fun u H2 g2 hu => q b u H2 kb (f.trans g2.st) (ok'.gr g2) hu⟩
end
section
variable {a b : Expr} {pos : Pos} {β1 β2 α : Type} {T : Option γ} {k1 : β1 → Option γ} {Δ1 : β1 → Δs} {Δ2 : β1 → β2 → Δs} {E1 : β1 → Pd} {Ee : α → Pd} {xs : β1 → List α} {j : β1 → β2 → Int}
end
section
variable {a : Expr} {lo hi : Option Expr} {p2 pos : Pos} {β1 β2 β3 α : Type} {T : Option γ} {k1 : β1 → Option γ} {k2 : β1 → β2 → Option γ} {k : β1 × β2 × β3 → Option γ} {Ee : α → Pd} {xs : β1 → List α} {o1 : β1 → β2 → Option Int} {o2 : β1 → β2 → β3 → Option Int} {Δ1 : β1 → Δs} {Δ2 : β1 → β2 → Δs} {Δ3 : β1 → β2 → β3 → Δs}
end
section
variable {a b : Expr} {pos : Pos} {β1 β2 α : Type} {T : Option γ} {k1 : β1 → Option γ} {k : β1 × β2 → Option γ} {Δ1 : β1 → Δs} {Δ2 : β1 → β2 → Δs} {Ee : α → Pd} {xs : β1 → List α} {ys : β1 → β2 → List α}
end
section
variable {a b : Expr} {pos : Pos} {β1 β2 α : Type} [DecidableEq α] {T : Option γ} {k1 : β1 → Option γ} {k : β1 × β2 → Option γ} {Δ1 : β1 → Δs} {Δ2 : β1 → β2 → Δs} {E : α → Pd} {x : β1 → α} {y : β1 → β2 → List α}
end
section
variable {o e : Expr} {apos cpos : Pos} {β1 β2 : Type} {T : Option γ} {k1 : β1 → Option γ} {Δ1 : β1 → Δs} {Δ2 : β1 → β2 → Δs} {xs : β1 → List Str} {y : β1 → β2 → Str}
end
end
end L3
end
section
set_option maxHeartbeats 4000000
set_option autoImplicit true
namespace L3
open PySem PySem.Spec PyProof.Rows L2
section
variable {X : Cx} {W : Bool} {F : Fm} {Γ : Gm} {Δ : Δs} {γ : Type}
section
variable {a : Expr} {pos p : Pos} {β : Type} {T : Option γ} {Δ1 : β → Δs} {E1 : β → Pd} {xs : β → List (List Int)} {k : β × List Int → Option γ}
end
end
end L3
end
section
set_option maxHeartbeats 4000000
set_option autoImplicit true
namespace L3
open PySem PySem.Spec PyProof.Rows L2
open PySem.AutoSeq1 (wpAny_loadPart')
section
variable {prog : Program} {w : World} {A : Around} {E : Value → Shared → Prop} {s : Shared}
end
section
variable {X : Cx} {W : Bool} {F : Fm} {Γ : Gm} {Δ : Δs} {γ : Type}
section
variable {a b : Expr} {pos : Pos} {β1 β2 α : Type} [DecidableEq α] {T : Option γ} {k1 : β1 → Option γ} {k : β1 × β2 → Option γ} {Δ1 : β1 → Δs} {Δ2 : β1 → β2 → Δs} {E : α → Pd} {x : β1 → α} {y : β1 → β2 → List α} {E2 : β1 → β2 → Pd}
end
end
end L3
end
section
set_option maxHeartbeats 4000000
set_option autoImplicit true
namespace L3
open PySem PySem.Spec PyProof.Rows L2
section
variable {X : Cx} {W : Bool} {F : Fm} {Γ : Gm} {Δ : Δs} {γ : Type} {a : Expr} {n p pos} {β α1 α2 α3 α4 α5 : Type} {T : Option γ} {k : β → Option γ} {A1 : α1 → Pd} {A2 : α2 → Pd} {A3 : α3 → Pd} {A4 : α4 → Pd} {A5 : α5 → Pd} {Δ1 : β → Δs} {x : β → α1 × α2 × α3 × α4 × α5}
end
section
variable {X : Cx} {W : Bool} {F : Fm} {Γ : Gm} {Δ : Δs} {γ : Type} {a : Expr} {n p pos} {β α1 α2 α3 α4 α5 α6 : Type} {T : Option γ} {k : β → Option γ} {A1 : α1 → Pd} {A2 : α2 → Pd} {A3 : α3 → Pd} {A4 : α4 → Pd} {A5 : α5 → Pd} {A6 : α6 → Pd} {Δ1 : β → Δs} {x : β → α1 × α2 × α3 × α4 × α5 × α6}
end
section
variable {X : Cx} {W : Bool} {F : Fm} {Γ : Gm} {Δ : Δs} {γ : Type} {a : Expr} {n p pos} {β α1 α2 α3 α4 α5 α6 α7 : Type} {T : Option γ} {k : β → Option γ} {A1 : α1 → Pd} {A2 : α2 → Pd} {A3 : α3 → Pd} {A4 : α4 → Pd} {A5 : α5 → Pd} {A6 : α6 → Pd} {A7 : α7 → Pd} {Δ1 : β → Δs} {x : β → α1 × α2 × α3 × α4 × α5 × α6 × α7}
end
section
variable {X : Cx} {W : Bool} {F : Fm} {Γ : Gm} {Δ : Δs} {γ : Type}
section
variable {a : Expr} {n p p2 pos : Pos} {β α δ : Type} {T : Option γ} {k : β → Option γ} {E : α → Pd} {G : δ → Pd} {Δ1 : β → Δs}
end
variable {N : Fn γ} {rest : List Stmt}
end
end L3
end
section
set_option maxHeartbeats 4000000
set_option autoImplicit true
namespace L3
open PySem PySem.Spec PyProof.Rows L2 PySem.SxX
section
variable {X : Cx} {W : Bool} {F : Fm} {Γ : Gm} {Δ : Δs} {γ : Type}
end
def Sp_XI {α ρ ε : Type} (mg : Str → Option Value) (cn : Str) (A : α → List Pd) (Mf : α → Option (Except ε ρ)) (ns : List Str) (R : ρ → List Pd) (Kx : Xk ε) : Sp := fun vs H Q E =>
  ∃ x v1 a, vs = .ref x :: v1 ∧ (oI mg cn [] []).pr [x] H (.ref x) ∧ Paired (fun p v => Pd.pr p H v) (A a) v1 ∧ ∃ g, Mf a = some g ∧ match g with
    | .ok r => ∀ H', Hk ⟨H, [[x]]⟩ [⟨.ref x, oI mg cn ns (R r), some 0⟩] H' → Q .non H'
    | .error e => ∀ cls d H', Hk ⟨H, [[x]]⟩ [] H' → Kx.ok e cls d H' → E cls d H'
theorem s_endXI {X : Cx} {F : Fm} {Γ : Gm} {Δ : Δs} {ρ ε : Type} {P : ρ → Δs} {Kx : Xk ε} {F2 : Fm} {Δx : Δs} {Nx : SS → Hp → Prop} {Wx : WX} (r : ρ) (hP : (P r).Sublist Δ) : PSs X [] (tS F Γ Δ (fX Kx (fI F P) F2 Δx Nx Wx) (some (.ok r))) :=
  pss_nil.wk fun D σ H ⟨ok, g', e, f⟩ => by
    cases e
    exact f σ H (ok.hk.less hP)
theorem fn_XI {P : Program} {w : World} {K : PySem.W.Frag} {mg : Str → Option Value} {base : Heap} {x qual : Str} {params : Arguments} {body : List Stmt} {scope : Scope} {dvs : List V} {kws : List (Str × V)} {f : Addr} {fd : FuncData} {Nn ps : List Str} {k n : Nat} {α ρ ε : Type} {cn : Str} {A : α → List Pd} {Mf : α → Option (Except ε ρ)} {ns : List Str} {R : ρ → List Pd} {Kx : Xk ε}
    (FD : FunD K x qual params body scope dvs kws f fd) (S : FnScope Nn ps scope) (hn : ∀ a, (A a).length = n) (hl : n + 1 = ps.length)
    (hb : ∀ (cdv : Value) (Ar : Around) (outer : List Env) (s : Shared) (H : Hp) (E : XK) (hr : Room k (Ar.deeper (envOfC qual scope s.heap.objs.size f cdv))) (x : Addr) (a : α), Takes (cxOf (L2.CX P w) P w K mg base Nn qual scope f cdv Ar outer s H E) (wE E) → PSs (cxOf (L2.CX P w) P w K mg base Nn qual scope f cdv Ar outer s H E) body
      (tS ⟨H, [[x]]⟩ ((pV (.ref x) :: A a).map some ++ List.replicate (Nn.length - (n + 1)) none) [⟨.ref x, oI mg cn [] [], some 0⟩] (fX Kx (fI ⟨H, [[x]]⟩ fun r => [⟨.ref x, oI mg cn ns (R r), some 0⟩]) ⟨H, [[x]]⟩ [] (fun _ _ => True) (wE E)) (Mf a))) : FnOk P w K mg base (L2.CX P w) (k + 1) f fd ps (Sp_XI mg cn A Mf ns R Kx) := by
  refine FD.ok S (fun vs H Q E h => ?_) (fun cdv Ar outer s H vs Q E hr h => ?_)
  · obtain ⟨x, v1, a, e, _, pv, _⟩ := h
    rw [e, List.length_cons, ← paired_len pv, hn, hl]
  · obtain ⟨x, v1, a, e, hx, pv, g, hM, fin⟩ := h
    subst e
    refine ⟨_, hb cdv Ar outer s H E hr x a (takes_of rfl rfl rfl rfl), ok_start (Δ := [⟨[x], .ref x, oI mg cn [] [], some 0⟩]) (by rw [List.length_cons, ← paired_len pv, hn]) (.cons rfl pv) ?_ ?_ ?_, g, hM, ?_⟩
    · intro c hc; rw [List.mem_singleton.mp hc]; exact hx
    · rw [cellsOf_cons]; show ([x] ++ []).Nodup; simp
    · intro i c h
      match i, h with
      | 0, h => cases h; rfl
      | _ + 1, h => cases h
    · cases g with
      | ok r => exact fun σ' H' h => fin H' h
      | error e => exact fun cls d σ H' _ hk _ q => fin cls d H' hk q
section
variable {X : Cx} {CX : CXT} {k : Nat} {f C : Addr} {fd : FuncData} {ps : List Str} {sp : Sp} {x : Str} {p pos : Pos} {e : Expr} {es : List Expr} {t : TA}
end
section
variable {X : Cx} {W : Bool} {F : Fm} {Γ : Gm} {Δ : Δs} {γ ε : Type}
theorem gone_ok {H1 H' : Hp} {σ : SS} {x dx C : Addr} (ok : Ok F Γ Δ σ H1) (hx : H1 x = none) (hd : H1 dx = none) (hk : Hk ⟨upd (upd H1 dx (.own x)) x (.ins C dx []), [[x]]⟩ [] H') : Ok F Γ Δ σ H' ∧ Gr H1 H' := by
  have g0 : Gr H1 (upd (upd H1 dx (.own x)) x (.ins C dx [])) := fun a o e => by
    rw [upd_ne (ne_of_none e hx), upd_ne (ne_of_none e hd)]; exact e
  obtain ⟨Δ0, e, hk⟩ := hk
  have g : Gr H1 H' := fun a o e => hk.base a o (g0 a o e) fun m hm ha => by
    rw [List.mem_singleton.mp hm] at ha
    rw [List.mem_singleton.mp ha, hx] at e
    cases e
  exact ⟨ok.gr g, g⟩
variable {fI : Addr} {kk : Nat} {fd : FuncData} {ps : List Str} {α ρ β : Type} {cn : Str} {A : α → List Pd} {Mf : α → Option (Except ε ρ)} {ns : List Str} {R : ρ → List Pd} {C : Addr} {p pos : Pos} {e : Expr} {es : List Expr} {T : Option γ} {xs : β → α} {kc : β × ρ → Option γ} {D : β × ρ → Od} {Kx : Xk ε}
theorem x_makeZ {Δ1 : β → Δs} (M : Mk X.K C fI) (G : FnOk X.prog X.w X.K X.mg X.base (L2.CX X.prog X.w) kk fI fd ps (Sp_XI X.mg cn A Mf ns R Kx)) (hr : Room (kk + 1) X.A) (gc : X.mg cn = some (.ref C)) (hb : Binds X.K fd ps [])
    (ha : PA X (e :: es) (tAr W F Γ Δ T (fun b => ((Mf (xs b)).bind okx).bind fun r => kc (b, r)) (fun b => A (xs b)) Δ1)) (hD : ∀ b, oI X.mg cn ns (R b.2) = D b := by exact fun _ => rfl) (hg : Gl X cn := by rfl) (hdb : (cn == ("__debug__" : Str)) = false := by decide)
    (he : starEach (e :: es) X.env = (false, eval e X.env) :: starEach es X.env := by rfl) (hpl : (backTo pos (starEach es X.env)).any (·.1) = false := by rfl) :
    PE X (.Call (.Name cn p) (e :: es) [] pos) (tO W F Γ Δ T kc D fun b => Δ1 b.1) :=
  (pe_make M G hr hg gc hb .nil pass_no ha hdb he hpl).wk fun σ H Q ⟨ok, g, e, q⟩ => ⟨ok, g, e, fun b vs H1 kb st ok1 pv x dx hx hdx ne => by
    obtain ⟨r, er, kr⟩ := bind_some kb
    obtain ⟨w, ew, kw⟩ := bind_some er
    have g0 : Gr H1 (upd (upd H1 dx (.own x)) x (.ins C dx [])) := fun a o e => by
      rw [upd_ne (ne_of_none e hx), upd_ne (ne_of_none e hdx)]; exact e
    refine ⟨x, vs, xs b, by rw [List.append_nil], ⟨x, C, dx, [], rfl, rfl, gc, upd_same, .nil⟩, paired_mono (fun p _ h => p.mono g0.fzs h) pv, w, ew, ?_⟩
    cases w with
    | ok r' =>
      cases kw
      intro H' hk
      obtain ⟨okn, g1⟩ := made_ok (W := W) (α := α) ok1 hx hdx ne hk
      rw [hD (b, _)] at okn
      exact ⟨rfl, q (b, _) _ H' kr (st.trans g1.st) (okn.since st)⟩
    | error er => cases kw⟩
end
section
variable {X : Cx} {F : Fm} {Γ : Gm} {Δ : Δs} {γ ε : Type} {N : Fn γ} {rest : List Stmt} {ιx : ε → γ} {Kx : Xk ε} {Δx : Δs} {Nx : SS → Hp → Prop} {Wx : WX}
theorem s_fldX {o e : Expr} {f cn : Str} {pos pos' : Pos} {β0 β1 : Type} {T : Option γ} {k0 : β0 → Option γ} {k : β0 → β1 → Option γ} {Δ0 : β0 → Δs} {Δ1 : β0 → β1 → Δs} {E0 : β0 → Pd} {ns : List Str} {ps : β0 → β1 → List Pd} {v : V} {prm : Option Nat} {C : Addr} (j : Nat) (gc : X.mg cn = some (.ref C)) (c : Cls X.K C) (n : NoAttr X.K C f) (hi : idxF ns f = none) (hs1 : ns.length < 900)
    (he : PE X e (tEX true F Γ Δ T k0 E0 Δ0 ιx Kx Wx)) (hN : Ex N ιx Kx F Δx Nx Wx) (hΔ : Δx.Sublist Δ) (hNx : ∀ σ H, Nm Γ σ H → Nx σ H) (ho : ∀ b0, PE X o (tE true F Γ (Δ0 b0) (k0 b0) (k b0) (fun _ => pV v) (Δ1 b0)))
    (hj : ∀ b0 b1, (Δ1 b0 b1)[j]? = some ⟨v, oI X.mg cn ns (ps b0 b1), prm⟩) (hl : ∀ b0 b1, (ps b0 b1).length = ns.length)
    (hr : ∀ b0 b1, PSs X rest (tS F Γ ((Δ1 b0 b1).set j ⟨v, oI X.mg cn (ns ++ [f]) (ps b0 b1 ++ [E0 b0]), prm⟩) N (k b0 b1)))
    (hs : swapsWith e (some (.Attribute o f pos')) pos.line X.env = pure false := by rfl) :
    PSs X (.Assign [.Attribute o f pos'] e pos :: rest) (tS F Γ Δ N T) :=
  (pss_cons (ps_fld (pe_ex ho) he hs) (pss_ex fun b0 => pss_ex fun b1 => hr b0 b1)).wk fun D σ H ⟨ok, g, e, q⟩ => ⟨ok, g, e, fun b0 u H0 kb0 f0 ok0 hu => ⟨b0, ok0, g, kb0, fun b1 w H1 kb1 f1 ok1 hw => by
    have hw : w = v := hw
    subst hw
    obtain ⟨G, ⟨a, C', dx, vs, eG, ev, g', h, p⟩, nd, turn⟩ := ok1.cell (hj b0 b1)
    rw [gc] at g'
    cases g'
    have lz : ns.length = vs.length := by rw [← hl b0 b1]; exact paired_len p
    refine ⟨a, C, dx, _, ev, h, c, n, by rw [List.length_zip]; omega, b0, b1, ?_⟩
    have hu2 : (E0 b0).pr H1 u := (E0 b0).mono f1.fz hu
    rw [putF_zip lz hi]
    have fzm : Fzs H1 (upd H1 a (.ins C dx ((ns ++ [f]).zip (vs ++ [u])))) := Fzs.mut h fun z => z
    obtain ⟨ok3, f3⟩ := turn (upd H1 a (.ins C dx ((ns ++ [f]).zip (vs ++ [u])))) (oI X.mg cn (ns ++ [f]) (ps b0 b1 ++ [E0 b0])) (fun z o na e => by
      rw [upd_ne fun q => na (by
        show z ∈ G
        have eG : G = [a] := eG
        rw [eG, q]; exact List.mem_singleton.mpr rfl)]
      exact e) ⟨a, C, dx, vs ++ [u], eG, ev, gc, upd_same, paired_app (paired_mono (fun x _ => x.mono fzm) p) (.cons ((E0 b0).mono fzm hu2) .nil)⟩
    exact ⟨ok3, g, kb1, N.mono q ((f0.fz.trans f1.fz).trans f3.fz)⟩⟩, fun er eg cls d H' st ok' hx => by
    subst eg
    exact hN _ _ D q cls d σ H' st.fz (ok'.hk.less hΔ) (hNx _ _ ok'.nm) hx⟩
end
end L3
end
section
set_option maxHeartbeats 4000000
set_option autoImplicit true
namespace L3
open PySem PySem.Spec PyProof.Rows L2
section
variable {X : Cx} {W : Bool} {F : Fm} {Γ : Gm} {Δ : Δs} {γ : Type}
end
def maxI : List Int → Option Int
  | [] => none
  | x :: xs => some (xs.foldl max x)
def minI : List Int → Option Int
  | [] => none
  | x :: xs => some (xs.foldl min x)
theorem fold_max : ∀ (xs : List Int) (x : Int), xs.foldl max x ∈ x :: xs ∧ ∀ y ∈ x :: xs, y ≤ xs.foldl max x
  | [], x => ⟨List.mem_singleton.mpr rfl, fun y hy => by rw [List.mem_singleton.mp hy]; exact Int.le_refl _⟩
  | z :: xs, x => by
    obtain ⟨h1, h2⟩ := fold_max xs (max x z)
    have hz : xs.foldl max (max x z) = (z :: xs).foldl max x := rfl
    rw [← hz]
    refine ⟨?_, fun y hy => ?_⟩
    · rcases List.mem_cons.mp h1 with h | h
      · rw [h]
        by_cases c : x ≤ z
        · rw [Int.max_eq_right c]; simp
        · rw [Int.max_eq_left (by omega)]; simp
      · simp [h]
    · have m := h2 (max x z) List.mem_cons_self
      rcases List.mem_cons.mp hy with e | hy
      · rw [e]; exact Int.le_trans (Int.le_max_left _ _) m
      · rcases List.mem_cons.mp hy with e | hy
        · rw [e]; exact Int.le_trans (Int.le_max_right _ _) m
        · exact h2 y (List.mem_cons_of_mem _ hy)
theorem fold_min : ∀ (xs : List Int) (x : Int), xs.foldl min x ∈ x :: xs ∧ ∀ y ∈ x :: xs, xs.foldl min x ≤ y
  | [], x => ⟨List.mem_singleton.mpr rfl, fun y hy => by rw [List.mem_singleton.mp hy]; exact Int.le_refl _⟩
  | z :: xs, x => by
    obtain ⟨h1, h2⟩ := fold_min xs (min x z)
    have hz : xs.foldl min (min x z) = (z :: xs).foldl min x := rfl
    rw [← hz]
    refine ⟨?_, fun y hy => ?_⟩
    · rcases List.mem_cons.mp h1 with h | h
      · rw [h]
        by_cases c : x ≤ z
        · rw [Int.min_eq_left c]; simp
        · rw [Int.min_eq_right (by omega)]; simp
      · simp [h]
    · have m := h2 (min x z) List.mem_cons_self
      rcases List.mem_cons.mp hy with e | hy
      · rw [e]; exact Int.le_trans m (Int.min_le_left _ _)
      · rcases List.mem_cons.mp hy with e | hy
        · rw [e]; exact Int.le_trans m (Int.min_le_right _ _)
        · exact h2 y (List.mem_cons_of_mem _ hy)
theorem maxI_spec {xs : List Int} {m : Int} (h : maxI xs = some m) : m ∈ xs ∧ ∀ y ∈ xs, y ≤ m := by
  cases xs with
  | nil => cases h
  | cons x xs => cases h; exact fold_max xs x
theorem minI_spec {xs : List Int} {m : Int} (h : minI xs = some m) : m ∈ xs ∧ ∀ y ∈ xs, m ≤ y := by
  cases xs with
  | nil => cases h
  | cons x xs => cases h; exact fold_min xs x
section
variable {X : Cx} {W : Bool} {F : Fm} {Γ : Gm} {Δ : Δs} {γ : Type} {a : Expr} {pos p : Pos} {β : Type} {T : Option γ} {Δ1 : β → Δs} {E1 : β → Pd} {xs : β → List Int} {k : β × Int → Option γ}
theorem x_maxL (hm : X.mg "max" = none) (ha : PE X a (tE W F Γ Δ T (fun b => (maxI (xs b)).bind fun m => k (b, m)) E1 Δ1)) (rd : ∀ b, RdL (Δ1 b) (E1 b) pInt (xs b)) (hg : Gl X "max" := by rfl) (hs : starEach [a] X.env = (false, eval a X.env) :: starEach [] X.env := by rfl) (hc : X.calm = true := by rfl) :
    PE X (.Call (.Name "max" p) [a] [] pos) (tE W F Γ Δ T k (fun b => pInt b.2) fun b => Δ1 b.1) :=
  x1p (u_callB (cr_max hc) hg hm (by decide +kernel) (by decide) (by decide) hs) ha fun b m σ v H Q ok em hv q => by
    obtain ⟨p, vs, ev, sq, z, pr⟩ := (rd b F H v ok.hk hv).sq (K := X.K)
    have e := paired_ints pr
    subst e
    rw [ev]
    obtain ⟨m1, m2⟩ := maxI_spec em
    refine ⟨p, xs b, rfl, sq, List.length_pos_of_mem m1, fun n hn hle => q _ ?_⟩
    have := hle m m1
    have := m2 n hn
    show V.int n = V.int m
    congr 1
    omega
theorem x_minL (hm : X.mg "min" = none) (ha : PE X a (tE W F Γ Δ T (fun b => (minI (xs b)).bind fun m => k (b, m)) E1 Δ1)) (rd : ∀ b, RdL (Δ1 b) (E1 b) pInt (xs b)) (hg : Gl X "min" := by rfl) (hs : starEach [a] X.env = (false, eval a X.env) :: starEach [] X.env := by rfl) (hc : X.calm = true := by rfl) :
    PE X (.Call (.Name "min" p) [a] [] pos) (tE W F Γ Δ T k (fun b => pInt b.2) fun b => Δ1 b.1) :=
  x1p (u_callB (cr_min hc) hg hm (by decide +kernel) (by decide) (by decide) hs) ha fun b m σ v H Q ok em hv q => by
    obtain ⟨p, vs, ev, sq, z, pr⟩ := (rd b F H v ok.hk hv).sq (K := X.K)
    have e := paired_ints pr
    subst e
    rw [ev]
    obtain ⟨m1, m2⟩ := minI_spec em
    refine ⟨p, xs b, rfl, sq, List.length_pos_of_mem m1, fun n hn hle => q _ ?_⟩
    have := hle m m1
    have := m2 n hn
    show V.int n = V.int m
    congr 1
    omega
end
end L3
end
section
set_option maxHeartbeats 4000000
set_option autoImplicit true
namespace L3
open PySem PySem.Spec PyProof.Rows L2 PySem.SxX
section
variable {X : Cx} {W : Bool} {F : Fm} {Γ : Gm} {Δ : Δs} {γ : Type}
theorem Ok.swap {σ : SS} {H H' H0 : Hp} {v v' : V} {d d' : Od} (ok : Ok F Γ (⟨v, d, none⟩ :: Δ) σ H) (g : Gr H H') (h : ∀ G, d.pr G H v → G.Nodup → ∃ G' : List Addr, G'.Nodup ∧ (∀ a ∈ G', a ∈ G ∨ H a = none) ∧ d'.pr G' H' v') : OkN true F Γ H0 v' d' Δ σ H' := by
  obtain ⟨⟨Δ0, e, k⟩, n⟩ := ok
  cases Δ0 with
  | nil => cases e
  | cons c0 R =>
    have e1 : c0.fg :: R.map Cel.fg = ⟨v, d, none⟩ :: Δ := e
    injection e1 with e2 e3
    subst e3
    obtain ⟨G, cv, cd, cp⟩ := c0
    have f1 : cv = v := congrArg Cell.v e2
    have f2 : cd = d := congrArg Cell.d e2
    have f3 : cp = none := congrArg Cell.prm e2
    subst f1 f2 f3
    obtain ⟨G', nd', sub, hd'⟩ := h G (k.del _ List.mem_cons_self) k.ndup.1
    refine ⟨R, G', rfl, ((k.gr g).less (.cons _ (List.Sublist.refl R))).cons (c := ⟨G', v', d', none⟩) nd' (fun a ha hb => ?_) hd' (fun a ha => ?_), (fun z => nomatch z), n.mono g.fzs⟩
    · rcases sub a ha with z | z
      · exact k.ndup.2.2 a z hb
      · obtain ⟨o, eo, _⟩ := k.isC (a := a) (by rw [cellsOf_cons]; exact List.mem_append_right _ hb)
        rw [z] at eo; cases eo
    · rcases sub a ha with z | z
      · exact k.own _ List.mem_cons_self a z
      · exact .inl (k.fresh0 z)
theorem Own3.take {α : Type} {D : α → Od} {H : Hp} : ∀ (m : Nat) {xs : List α} {vs : List V} {gs : List (List Addr)}, Own3 D H xs vs gs → ∃ g2, Own3 D H (xs.take m) (vs.take m) g2 ∧ g2.flatten.Sublist gs.flatten
  | 0, _, _, _, _ => ⟨[], .nil, List.nil_sublist _⟩
  | _ + 1, _, _, _, .nil => ⟨[], .nil, List.nil_sublist _⟩
  | m + 1, _, _, _, .cons r t => by
    obtain ⟨g2, h, s⟩ := t.take m
    exact ⟨_ :: g2, .cons r h, by rw [List.flatten_cons, List.flatten_cons]; exact List.Sublist.append (List.Sublist.refl _) s⟩
theorem Own3.drop {α : Type} {D : α → Od} {H : Hp} : ∀ (m : Nat) {xs : List α} {vs : List V} {gs : List (List Addr)}, Own3 D H xs vs gs → ∃ g2, Own3 D H (xs.drop m) (vs.drop m) g2 ∧ g2.flatten.Sublist gs.flatten
  | 0, _, _, gs, h => ⟨gs, h, List.Sublist.refl _⟩
  | _ + 1, _, _, _, .nil => ⟨[], .nil, List.nil_sublist _⟩
  | m + 1, _, _, _, .cons r t => by
    obtain ⟨g2, h, s⟩ := t.drop m
    exact ⟨g2, h, by rw [List.flatten_cons]; exact s.trans (List.sublist_append_right _ _)⟩
def pHT (ps : List Pd) : Pd where
  pr H v := ∃ a vs, v = .ref a ∧ H a = some (.tup vs) ∧ Paired (fun p u => Pd.pr p H u) ps vs
  mono := fun f ⟨a, vs, e, h, p⟩ => ⟨a, vs, e, f _ _ trivial h, paired_mono (fun x _ => x.mono f) p⟩
section
variable {a : Expr} {n} {p pos : Pos} {β α1 α2 α3 α4 α5 : Type} {T : Option γ} {k : β → Option γ} {Δ1 : β → Δs} {A : α1 → Pd} {B : α2 → Pd} {C : α3 → Pd} {D : α4 → Pd} {E : α5 → Pd}
end
end
section
variable {P : Pd → V → Prop} {gV : List V → List V → List V} {As : List Pd} {vs zs : List V}
end
section
variable {X : Cx} {CX : CXT} {k n : Nat} {f C : Addr} {fd : FuncData} {ps ks : List Str} {sp : Sp} {x : Str} {p pos : Pos} {e : Expr} {es : List Expr} {kws : List Keyword} {t tk : TA} {g : List Value → List Value → List Value} {gV : List V → List V → List V}
theorem _root_.L2.PK.wk {t t' : TA} (h : PK X kws t) (w : ∀ σ H Q, t' σ H Q → t σ H Q) : PK X kws t' := ⟨fun pos pins s σ H Q I q => h.run pos pins s σ H Q I (w σ H Q q)⟩
end
section
variable {X : Cx} {W : Bool} {F : Fm} {Γ : Gm} {Δ : Δs} {γ ε : Type}
variable {fI : Addr} {kk n : Nat} {fd : FuncData} {ps ks : List Str} {α ρ β1 β2 : Type} {cn : Str} {A : α → List Pd} {Mf : α → Option (Except ε ρ)} {ns : List Str} {R : ρ → List Pd} {C : Addr} {p pos : Pos} {e : Expr} {es : List Expr} {kws : List Keyword} {T : Option γ} {kc : (β1 × β2) × ρ → Option γ} {D : (β1 × β2) × ρ → Od} {Kx : Xk ε} {g : List Value → List Value → List Value} {gV : List V → List V → List V}
end
end L3
end
section
set_option maxHeartbeats 4000000
set_option autoImplicit true
namespace L3
open PySem PySem.Spec PyProof.Rows L2 PySem.SxX L2H
structure FnQ (P : Program) (w : World) (K : PySem.W.Frag) (mg : Str → Option Value) (base : Heap) (CX : CXT) (k : Nat) (f : Addr) (fd : FuncData) (ps : List Str) (sp : Sp) : Prop where
  sz : ∀ vs H Q E, sp vs H Q E → vs.length = ps.length
  go : ∀ (A : Around) (outer : List Env) (s : Shared) (H : Hp) (args : Args) (us : List Value) (vs : List V) (Q : VK) (E : XK) (p : Addr × Obj), RoomH k A → PinOk outer H s p → Env0 P w K mg base A outer s H → BindsTo s fd args (ps.zip us) → Vals vs us → sp vs H Q E → codeAny (model P w) A (.call (.ref f) args) (CR CX outer P w H s Q E) s
section
variable {P : Program} {w : World} {K : PySem.W.Frag} {mg : Str → Option Value} {base : Heap} {CX : CXT} {k : Nat} {f : Addr} {fd : FuncData} {N ps : List Str} {sp : Sp} {x qual : Str} {params : Arguments} {body : List Stmt} {scope : Scope} {dvs : List V} {kws : List (Str × V)}
end
section
variable {X : Cx} {CX : CXT} {k : Nat} {f : Addr} {fd : FuncData} {ps : List Str} {sp : Sp}
end
section
variable {X : Cx} {W : Bool} {F : Fm} {Γ : Gm} {Δ : Δs} {γ : Type}
end
end L3
end
section
set_option maxHeartbeats 4000000
set_option autoImplicit true
namespace L3
open PySem PySem.Spec PyProof.Rows L2
section
variable {X : Cx} {W : Bool} {F : Fm} {Γ : Gm} {Δ : Δs} {γ : Type}
theorem Foc.inl {α β : Type} {d : Od} {v : V} {A : α → Od} {B : β → Od} {x : α ⊕ β} {back : α ⊕ β → Od} {u : V} {H : Hp} {y : α} (f : Foc d v (oSm A B) x back u H) (e : x = .inl y) : Foc d v A y (fun y => back (.inl y)) u H := fun H1 G g1 hd nd => by
  subst e
  obtain ⟨G2, h, sb, nd2, tr⟩ := f H1 G g1 hd nd
  exact ⟨G2, h, sb, nd2, fun H' y G3 kp fz nd3 ds h3 => tr H' (.inl y) G3 kp fz nd3 ds h3⟩
theorem Foc.inr {α β : Type} {d : Od} {v : V} {A : α → Od} {B : β → Od} {x : α ⊕ β} {back : α ⊕ β → Od} {u : V} {H : Hp} {y : β} (f : Foc d v (oSm A B) x back u H) (e : x = .inr y) : Foc d v B y (fun y => back (.inr y)) u H := fun H1 G g1 hd nd => by
  subst e
  obtain ⟨G2, h, sb, nd2, tr⟩ := f H1 G g1 hd nd
  exact ⟨G2, h, sb, nd2, fun H' y G3 kp fz nd3 ds h3 => tr H' (.inr y) G3 kp fz nd3 ds h3⟩
end
end L3
end
section
set_option maxHeartbeats 4000000
set_option autoImplicit true
namespace L3
open PySem PySem.Spec PyProof.Rows L2
section
variable {X : Cx} {W : Bool} {F : Fm} {Γ : Gm} {Δ : Δs} {γ : Type}
variable {N : Fn γ} {rest : List Stmt}
end
section
variable {X : Cx} {W : Bool} {F : Fm} {Γ : Gm} {Δ : Δs} {γ : Type}
end
end L3
end
section
set_option maxHeartbeats 4000000
set_option autoImplicit true
namespace L3
open PySem PySem.Spec PyProof.Rows L2
section
variable {X : Cx} {W : Bool} {F : Fm} {Γ : Gm} {Δ : Δs} {γ : Type}
section
variable {a b : Expr} {pos : Pos} {β1 β2 : Type} {T : Option γ} {k1 : β1 → Option γ} {k : β1 × β2 → Option γ} {Δ1 : β1 → Δs} {Δ2 : β1 → β2 → Δs} {xs : β1 → List Int} {ys : β1 → β2 → List Int}
end
end
end L3
end
section
set_option maxHeartbeats 4000000
namespace L3
open PySem PySem.Spec PyProof.Rows L2
section
variable {prog : Program} {w : World} {A : Around} {R : Result → Shared → Prop} {s : Shared} {kx vx t0 i0 t1 i1 : Expr} {ifs0 ifs1 : List Expr} {scope : Scope} {pos : Pos} {it acc : Value} {env : Env}
end
end L3
end
section
set_option maxHeartbeats 4000000
namespace L3
open PySem PySem.Spec PyProof.Rows L2
section
variable {X : Cx}
end
end L3
end
section
set_option maxHeartbeats 4000000
namespace L3
open PySem PySem.Spec PyProof.Rows L2
section
variable {κ δ : Type} [DecidableEq κ] [Ky κ]
variable {X : Cx} {F : Fm} {Γ : Gm} {Δ : Δs} {γ : Type}
variable {α α2 β β4 β5 β6 : Type} {g g2 : TG} {own : List (Str × Nat)} {vs1 : List Nat} {T : Option γ} {k : β × List (κ × δ) → Option γ} {Ex : α → Pd} {Ex2 : α2 → Pd} {D : δ → Od} {bd : Gm → α → Gm} {bd2 : Gm → α2 → Gm} {xs : β → List α} {C : β → Δs} {f : β → α → Option (List (κ × δ))}
    {ys : β → α → β4 → List α2} {h : β → α → β4 → α2 → Option (κ × δ)} {T2 : β → α → β4 → α2 → β5 → Option (κ × δ)} {ky : β → α → β4 → α2 → β5 → κ} {vy : β → α → β4 → α2 → β5 → β6 → δ}
end
end L3
namespace L3
open PySem PySem.Spec PyProof.Rows L2
section
variable {X : Cx} {W : Bool} {F : Fm} {Γ : Gm} {Δ : Δs} {γ : Type}
end
end L3
end
section
set_option maxHeartbeats 4000000
set_option autoImplicit true
namespace L3
open PySem PySem.Spec PyProof.Rows L2
section
variable {X : Cx} {W : Bool} {F : Fm} {Γ : Gm} {Δ : Δs} {γ : Type}
end
end L3
end
section
set_option maxHeartbeats 4000000
set_option autoImplicit true
namespace L3
open PySem PySem.Spec PyProof.Rows L2
section
variable {X : Cx} {W : Bool} {F : Fm} {Γ : Gm} {Δ : Δs} {γ : Type}
variable {N : Fn γ}
end
end L3
end
section
set_option maxHeartbeats 4000000
set_option autoImplicit true
namespace L3
open PySem PySem.Spec PyProof.Rows L2
section
variable {α β α' β' δ : Type} {E : α → Pd} {G : β → Pd} {E' : α' → Pd} {G' : β' → Pd} {D : δ → Pd}
end
section
variable {X : Cx} {W : Bool} {F : Fm} {Γ : Gm} {Δ : Δs} {γ : Type}
theorem Foc.op {α : Type} {d : Od} {v : V} {A : α → Od} {x : Option α} {back : Option α → Od} {u : V} {H : Hp} {y : α} (f : Foc d v (oOp A) x back u H) (e : x = some y) : Foc d v A y (fun y => back (some y)) u H := fun H1 G g1 hd nd => by
  subst e
  obtain ⟨G2, h, sb, nd2, tr⟩ := f H1 G g1 hd nd
  exact ⟨G2, h, sb, nd2, fun H' y G3 kp fz nd3 ds h3 => tr H' (some y) G3 kp fz nd3 ds h3⟩
theorem Foc.snd {α β : Type} {d : Od} {v : V} {E : α → Pd} {D : β → Od} {x : α × β} {back : α × β → Od} {u : V} {H : Hp} {a : Addr} {z w : V} (f : Foc d v (oW E D) x back u H) (eu : u = .ref a) (ha : H a = some (.tup [z, w])) : Foc d v D x.2 (fun y => back (x.1, y)) w H := fun H1 G g1 hd nd => by
  obtain ⟨G2, ⟨a', z', w', eu', ha', p, q⟩, sb, nd2, tr⟩ := f H1 G g1 hd nd
  have eu' : u = .ref a' := eu'
  rw [eu] at eu'
  cases eu'
  rw [g1 _ _ ha] at ha'
  cases ha'
  refine ⟨G2, q, sb, nd2, fun H' y G3 kp fz nd3 ds h3 => tr H' (x.1, y) G3 kp fz nd3 ds ⟨a, z, w, eu, fz _ _ trivial (g1 _ _ ha), (E _).mono fz p, h3⟩⟩
section
variable {α β : Type} {E : α → Pd} {G : β → Pd} {A : α → Od} {B : β → Od}
end
section
variable {a b : Expr} {pos p : Pos} {β1 β2 : Type} {T : Option γ} {k1 : β1 → Option γ} {k : β1 × β2 → Option γ} {c : β1 → Bool} {d : β1 → β2 → Bool} {Δ1 : β1 → Δs} {Δ2 : β1 → β2 → Δs}
end
end
end L3
end
section
set_option maxHeartbeats 4000000
set_option autoImplicit true
namespace L3
open PySem PySem.Spec PyProof.Rows L2
section
variable {α β δ α' : Type} {A : α → Od} {B : β → Od} {D : δ → Od} {E : α → Pd} {E' : α' → Pd}
end
section
variable {X : Cx} {W : Bool} {F : Fm} {Γ : Gm} {Δ : Δs} {γ : Type}
end
end L3
end
section
set_option maxHeartbeats 4000000
set_option autoImplicit true
namespace L3
open PySem PySem.Spec PyProof.Rows L2
section
variable {X : Cx} {W : Bool} {F : Fm} {Γ : Gm} {Δ : Δs} {γ : Type}
section
variable {α β β2 β3 δ S : Type} {g : TG} {own : List (Str × Nat)} {T : Option γ} {k0 : β → Option γ} {k : β × (List δ × S) → Option γ} {out : β × (List δ × S) → List δ} {Ex : α → Pd} {Ee : δ → Pd} {bd : Gm → α → Gm} {xs : β → List α} {Δ1 : β → Δs} {C : β → S → Δs} {s0 : β → S} {f : β → α → S → Option (Option δ × S)}
    {c : β → α → S → β2 → Bool} {s2 : β → α → S → β2 → S} {T2 : β → α → S → β2 → Option (Option δ × S)} {y : β → α → S → β2 → β3 → δ} {s3 : β → α → S → β2 → β3 → S}
end
end
end L3
end
section
set_option maxHeartbeats 4000000
set_option autoImplicit true
namespace L3
open PySem PySem.Spec PyProof.Rows L2
section
variable {X : Cx} {W : Bool} {F : Fm} {Γ : Gm} {Δ : Δs} {γ : Type}
section
variable {a b : Expr} {pos : Pos} {β1 β2 : Type} {T : Option γ} {k1 : β1 → Option γ} {k : β1 × β2 → Option γ} {Δ1 : β1 → Δs} {Δ2 : β1 → β2 → Δs} {i : β1 → Int} {v0 : V} {xs : β1 → β2 → List Int} {prm : Option Nat}
end
variable {α ρ β1 β2 : Type} {fI : Addr} {kk n : Nat} {fd : FuncData} {ps ks : List Str} {cn : Str} {A : α → List Pd} {Mf : α → Option ρ} {ns : List Str} {R : ρ → List Pd} {C : Addr} {p pos : Pos} {e : Expr} {es : List Expr} {kws : List Keyword} {T : Option γ} {kc : (β1 × β2) × ρ → Option γ} {D : (β1 × β2) × ρ → Od} {g : List Value → List Value → List Value} {gV : List V → List V → List V}
end
end L3
end
section
set_option maxHeartbeats 4000000
set_option autoImplicit true
namespace L3
open PySem PySem.Spec PyProof.Rows L2
section
variable {X : Cx} {W : Bool} {F : Fm} {Γ : Gm} {Δ : Δs} {γ : Type}
end
end L3
end
section
set_option maxHeartbeats 4000000
set_option autoImplicit true
namespace L3
open PySem PySem.Spec PyProof.Rows L2
section
variable {X : Cx} {W : Bool} {F : Fm} {Γ : Gm} {Δ : Δs} {γ : Type}
end
end L3
end
section
set_option maxHeartbeats 1000000
namespace L3
open PySem PySem.Spec PyProof.Rows L2 RZ
open PySem.Sem (wp)
section
variable {w : World} {prog : Program} {s : Shared} {A : Around} {E : Value → Shared → Prop}
end
section
variable {w : World} {prog : Program} {s : Shared} {A : Around} {E : Value → Shared → Prop}
end
section
variable {X : Cx} {W : Bool} {F : Fm} {Γ : Gm} {Δ : Δs} {γ : Type}
end
end L3
end
section
set_option maxHeartbeats 4000000
set_option autoImplicit true
namespace L3
open PySem PySem.Spec PyProof.Rows L2
theorem ht2 {α β : Type} {A : α → Pd} {B : β → Pd} {x : α × β} {H : Hp} {v : V} (h : (pT2 A B x).pr H v) : (pHT [A x.1, B x.2]).pr H v := by
  obtain ⟨a, u, w, e, h, p, q⟩ := h
  exact ⟨a, [u, w], e, h, .cons p (.cons q .nil)⟩
theorem ht3 {α β γ : Type} {A : α → Pd} {B : β → Pd} {C : γ → Pd} {x : α × β × γ} {H : Hp} {v : V} (h : (pT3 A B C x).pr H v) : (pHT [A x.1, B x.2.1, C x.2.2]).pr H v := by
  obtain ⟨a, u, w, z, e, h, p, q, r⟩ := h
  exact ⟨a, [u, w, z], e, h, .cons p (.cons q (.cons r .nil))⟩
section
variable {α1 α2 α3 α4 α5 : Type} {A : α1 → Pd} {B : α2 → Pd} {C : α3 → Pd} {D : α4 → Pd} {E : α5 → Pd}
end
section
variable {X : Cx} {W : Bool} {F : Fm} {Γ : Gm} {Δ : Δs} {γ : Type}
end
structure Dh {α : Type} (ps : α → List Pd) where
  n : Nat
  len : ∀ x, (ps x).length = n
  dep : Nat
  ok : α → α → Bool
  eqv : α → α → Bool
  e : α → α → Nat → Bool
  es : ∀ x y, (List.range n).all (e x y) = eqv x y
  rc : ∀ {X : Cx} {pins : List (Addr × Obj)} {σ : SS} {H : Hp} {s : Shared}, Inv X pins σ H s → ∀ A : Around, A.units + dep < cLine → ∀ x y, ok x y = true → ∀ j p q, (ps x)[j]? = some p → (ps y)[j]? = some q → ∀ v u v' u', p.pr H v → q.pr H u → RelV v v' → RelV u u' → SeqAt.EqP X.prog X.w A.in1 s v' u' (e x y j)
  same : ∀ (H : Hp) x y vs, ok x y = true → Paired (fun p u => Pd.pr p H u) (ps x) vs → Paired (fun p u => Pd.pr p H u) (ps y) vs → eqv x y = true
section
variable {α1 α2 α3 α4 α5 : Type} {A : α1 → Pd} {B : α2 → Pd} {C : α3 → Pd} {D : α4 → Pd} {E : α5 → Pd}
end
section
variable {X : Cx} {W : Bool} {F : Fm} {Γ : Gm} {Δ : Δs} {γ : Type} {a b : Expr} {pos : Pos} {β1 β2 : Type} {T : Option γ} {k1 : β1 → Option γ} {k : β1 × β2 → Option γ} {Δ1 : β1 → Δs} {Δ2 : β1 → β2 → Δs}
end
section
variable {X : Cx} {W : Bool} {F : Fm} {Γ : Gm} {Δ : Δs} {γ : Type} {a b : Expr} {pos : Pos} {α β1 β2 : Type} {Ee : α → Pd} {T : Option γ} {k1 : β1 → Option γ} {k : β1 × β2 → Option γ} {Δ1 : β1 → Δs} {Δ2 : β1 → β2 → Δs}
theorem flat_len {β : Type} {vs : List β} : ∀ n : Nat, (List.replicate n vs).flatten.length = vs.length * n
  | 0 => rfl
  | n + 1 => by rw [List.replicate_succ, List.flatten_cons, List.length_append, flat_len n, Nat.mul_succ, Nat.add_comm]
end
section
variable {X : Cx} {W : Bool} {F : Fm} {Γ : Gm} {Δ : Δs} {γ : Type}
end
end L3
end
section
set_option maxHeartbeats 4000000
set_option autoImplicit true
namespace L3
open PySem PySem.Spec PyProof.Rows L2
section
variable {X : Cx} {W : Bool} {F : Fm} {Γ : Gm} {Δ : Δs} {γ ε : Type}
variable {fI : Addr} {kk : Nat} {fd : FuncData} {ps : List Str} {α ρ β : Type} {cn : Str} {A : α → List Pd} {Mf : α → Option (Except ε ρ)} {ns : List Str} {R : ρ → List Od} {C : Addr} {p pos : Pos} {e : Expr} {es : List Expr} {T : Option γ} {xs : β → α} {kc : β × ρ → Option γ} {D : β × ρ → Od} {Kx : Xk ε}
end
section
variable {X : Cx} {F : Fm} {Γ : Gm} {Δ : Δs} {γ ε : Type} {N : Fn γ} {rest : List Stmt} {ιx : ε → γ} {Kx : Xk ε} {Δx : Δs} {Nx : SS → Hp → Prop} {Wx : WX}
end
section
variable {X : Cx} {W : Bool} {F : Fm} {Γ : Gm} {Δ : Δs} {γ : Type}
variable {N : Fn γ}
end
section
variable {X : Cx} {W : Bool} {F : Fm} {Γ : Gm} {Δ : Δs} {γ : Type}
end
end L3
end
section
set_option maxHeartbeats 4000000
namespace L3
open PySem PySem.Spec PyProof.Rows L2
section
variable {Δ : Δs}
end
section
variable {X : Cx} {W : Bool} {F : Fm} {Γ : Gm} {Δ : Δs} {γ : Type}
end
section
variable {κ α : Type} [DecidableEq κ] [Ky κ] {X : Cx} {W : Bool} {F : Fm} {Γ : Gm} {Δ : Δs} {γ : Type} {N : Fn γ} {rest : List Stmt}
end
section
variable {X : Cx} {W : Bool} {F : Fm} {Γ : Gm} {Δ : Δs} {γ β : Type} {N : Fn γ} {rest : List Stmt}
end
end L3
end
section
set_option maxHeartbeats 4000000
namespace L3
open PySem PySem.Spec PyProof.Rows L2
section
variable {κ : Type} [DecidableEq κ] [Ky κ] {X : Cx} {F : Fm} {Γ : Gm} {Δ : Δs} {γ : Type}
end
section
variable {X : Cx} {F : Fm} {Γ : Gm} {Δ : Δs} {γ : Type}
end
section
variable {α1 α2 α3 : Type} {A : α1 → Pd} {B : α2 → Pd} {C : α3 → Pd}
end
section
variable {X : Cx} {W : Bool} {F : Fm} {Γ : Gm} {Δ : Δs} {γ : Type} {a b : Expr} {pos : Pos} {β1 β2 α : Type} {T : Option γ} {k1 : β1 → Option γ} {k : β1 × β2 → Option γ} {Δ1 : β1 → Δs} {Δ2 : β1 → β2 → Δs} {E : α → Pd} {x : β1 → α} {y : β1 → β2 → α}
end
end L3
end
section
set_option maxHeartbeats 4000000
namespace L3
open PySem PySem.Spec PyProof.Rows L2
section
variable {κ δ : Type} [DecidableEq κ] [Ky κ] {X : Cx} {F : Fm} {Γ : Gm} {Δ : Δs} {γ : Type}
variable {α β β2 β3 β4 : Type} {g : TG} {own : List (Str × Nat)} {T : Option γ} {k : β × List (κ × δ) → Option γ} {Ex : α → Pd} {D : δ → Od} {bd : Gm → α → Gm} {xs : β → List α} {Δ1 : β → Δs} {f : β → α → Option (Option (κ × δ))} {c : β → α → β2 → Bool} {T2 : β → α → β2 → Option (Option (κ × δ))} {T3 : β → α → β2 → β3 → Option (Option (κ × δ))} {ky : β → α → β2 → β3 → κ} {y : β → α → β2 → β3 → β4 → δ}
end
end L3
end
section
set_option maxHeartbeats 4000000
namespace L3
open PySem PySem.Spec PyProof.Rows L2
section
variable {κ δ : Type} [DecidableEq κ] [Ky κ] {X : Cx} {W : Bool} {F : Fm} {Γ : Gm} {Δ : Δs} {γ : Type}
variable {α β β2 β3 β4 : Type} {g : TG} {own : List (Str × Nat)} {T : Option γ} {k : β × List (κ × δ) → Option γ} {Ex : α → Pd} {E : δ → Pd} {bd : Gm → α → Gm} {xs : β → List α} {Δ1 : β → Δs} {f : β → α → Option (Option (κ × δ))} {c : β → α → β2 → Bool} {T2 : β → α → β2 → Option (Option (κ × δ))} {T3 : β → α → β2 → β3 → Option (Option (κ × δ))} {ky : β → α → β2 → β3 → κ} {y : β → α → β2 → β3 → β4 → δ}
end
end L3
end
section
set_option maxHeartbeats 4000000
namespace L3
open PySem PySem.Spec PyProof.Rows L2
section
variable {κ α : Type} [DecidableEq κ] [Ky κ]
variable {X : Cx} {W : Bool} {F : Fm} {Γ : Gm} {Δ : Δs} {γ : Type}
end
end L3
end
section
set_option maxHeartbeats 4000000
namespace L3
open PySem PySem.Spec PyProof.Rows L2
section
variable {κ α : Type} [DecidableEq κ] [Ky κ] {X : Cx} {W : Bool} {F : Fm} {Γ : Gm} {Δ : Δs} {γ : Type}
end
section
variable {X : Cx} {F : Fm} {Γ : Gm} {Δ : Δs} {γ : Type}
end
end L3
end
section
set_option maxHeartbeats 4000000
namespace L3
open PySem PySem.Spec PyProof.Rows L2
section
variable {X : Cx} {W : Bool} {F : Fm} {Γ : Gm} {Δ : Δs} {γ : Type}
variable {N : Fn γ}
end
end L3
end
section
set_option maxHeartbeats 4000000
namespace L3
open PySem PySem.Spec PyProof.Rows L2
section
variable {X : Cx} {W : Bool} {F : Fm} {Γ : Gm} {Δ : Δs} {γ : Type}
theorem Foc.t1 {α β : Type} {d : Od} {v : V} {A : α → Od} {B : β → Od} {x : α × β} {back : α × β → Od} {u : V} {H : Hp} {a : Addr} {z w : V} (f : Foc d v (oTT A B) x back u H) (eu : u = .ref a) (ha : H a = some (.tup [z, w])) : Foc d v B x.2 (fun y => back (x.1, y)) w H := fun H1 G g1 hd nd => by
  obtain ⟨G2, ⟨a', z', w', Ga, Gb, eg, eu', ha', p, q⟩, sb, nd2, tr⟩ := f H1 G g1 hd nd
  have eg : G2 = Ga ++ Gb := eg
  have eu' : u = .ref a' := eu'
  rw [eu] at eu'
  cases eu'
  rw [g1 _ _ ha] at ha'
  cases ha'
  subst eg
  obtain ⟨n1, n2, n3⟩ := List.nodup_append.mp nd2
  refine ⟨Gb, q, fun b hb => sb b (List.mem_append_right _ hb), n2, fun H' y G3 kp fz nd3 ds h3 => ?_⟩
  have dj : ∀ b ∈ Ga, b ∉ G3 := fun b hb h => by
    rcases ds b h with h | h
    · exact n3 b hb b h rfl
    · exact h (sb b (List.mem_append_left _ hb))
  have dab : ∀ b ∈ Ga, b ∉ Gb := fun b hb h => n3 b hb b h rfl
  obtain ⟨G', hb, nb, mb⟩ := tr H' (x.1, y) (Ga ++ G3) (fun b hb na o e => kp b hb (fun h => na (List.mem_append_right _ h)) o e) fz (List.nodup_append.mpr ⟨n1, nd3, fun b hb c hc e => dj b hb (by rw [e]; exact hc)⟩) (fun b hb => by
    rcases List.mem_append.mp hb with h | h
    · exact .inl (List.mem_append_left _ h)
    · exact (ds b h).imp (fun h => List.mem_append_right _ h) fun h => h) ⟨a, z, w, Ga, G3, rfl, eu, fz _ _ trivial (g1 _ _ ha), (A _).frame p (fun b hb o e => kp b (sb b (List.mem_append_left _ hb)) (dab b hb) o e) fz, h3⟩
  refine ⟨G', hb, nb, fun b hb' => ?_⟩
  rcases mb b hb' with ⟨h1, h2⟩ | h
  · exact .inl ⟨h1, fun h => h2 (List.mem_append_right _ h)⟩
  · rcases List.mem_append.mp h with h | h
    · exact .inl ⟨sb b (List.mem_append_left _ h), dab b h⟩
    · exact .inr h
theorem Foc.t0 {α β : Type} {d : Od} {v : V} {A : α → Od} {B : β → Od} {x : α × β} {back : α × β → Od} {u : V} {H : Hp} {a : Addr} {z w : V} (f : Foc d v (oTT A B) x back u H) (eu : u = .ref a) (ha : H a = some (.tup [z, w])) : Foc d v A x.1 (fun y => back (y, x.2)) z H := fun H1 G g1 hd nd => by
  obtain ⟨G2, ⟨a', z', w', Ga, Gb, eg, eu', ha', p, q⟩, sb, nd2, tr⟩ := f H1 G g1 hd nd
  have eg : G2 = Ga ++ Gb := eg
  have eu' : u = .ref a' := eu'
  rw [eu] at eu'
  cases eu'
  rw [g1 _ _ ha] at ha'
  cases ha'
  subst eg
  obtain ⟨n1, n2, n3⟩ := List.nodup_append.mp nd2
  refine ⟨Ga, p, fun b hb => sb b (List.mem_append_left _ hb), n1, fun H' y G3 kp fz nd3 ds h3 => ?_⟩
  have dj : ∀ b ∈ Gb, b ∉ G3 := fun b hb h => by
    rcases ds b h with h | h
    · exact n3 b h b hb rfl
    · exact h (sb b (List.mem_append_right _ hb))
  have dab : ∀ b ∈ Gb, b ∉ Ga := fun b hb h => n3 b h b hb rfl
  obtain ⟨G', hb, nb, mb⟩ := tr H' (y, x.2) (G3 ++ Gb) (fun b hb na o e => kp b hb (fun h => na (List.mem_append_left _ h)) o e) fz (List.nodup_append.mpr ⟨nd3, n2, fun b hb c hc e => dj c hc (by rw [← e]; exact hb)⟩) (fun b hb => by
    rcases List.mem_append.mp hb with h | h
    · exact (ds b h).imp (fun h => List.mem_append_left _ h) fun h => h
    · exact .inl (List.mem_append_right _ h)) ⟨a, z, w, G3, Gb, rfl, eu, fz _ _ trivial (g1 _ _ ha), h3, (B _).frame q (fun b hb o e => kp b (sb b (List.mem_append_right _ hb)) (dab b hb) o e) fz⟩
  refine ⟨G', hb, nb, fun b hb' => ?_⟩
  rcases mb b hb' with ⟨h1, h2⟩ | h
  · exact .inl ⟨h1, fun h => h2 (List.mem_append_left _ h)⟩
  · rcases List.mem_append.mp h with h | h
    · exact .inr h
    · exact .inl ⟨sb b (List.mem_append_right _ h), dab b h⟩
end
section
variable {X : Cx} {W : Bool} {F : Fm} {Γ : Gm} {Δ : Δs} {γ : Type}
end
section
variable {ε : Type} {Kx : Xk ε} {F : Fm} {Δx : Δs} {Nx : SS → Hp → Prop} {Wx : WX}
end
end L3
end
section
set_option maxHeartbeats 4000000
set_option autoImplicit true
namespace L3
open PySem PySem.Spec PyProof.Rows L2
section
variable {X : Cx} {W : Bool} {F : Fm} {Γ : Gm} {Δ : Δs} {γ : Type}
end
section
variable {X : Cx} {W : Bool} {F : Fm} {Γ : Gm} {Δ : Δs} {γ : Type}
variable {N : Fn γ}
end
section
variable {X : Cx} {W : Bool} {F : Fm} {Γ : Gm} {Δ : Δs} {γ : Type}
end
end L3
end
section
set_option maxHeartbeats 4000000
set_option autoImplicit true
namespace L3
open PySem PySem.Spec PyProof.Rows L2
def pE0 (x : Empty) : Pd := nomatch x
section
variable {M : Model} {A : Around} {E : Value → Shared → Prop} {s : Shared} {K : PySem.W.Frag} {x C f : Addr} {ox : Obj} {od : Option Obj} {v : Value}
theorem cont_own {Q : Bool → Shared → Prop} (hK : K.In s.heap) (I : PySem.W.InstAt s.heap x ox C od) (m : Meth K C "__contains__" f)
    (h : wpAny M A (call (.ref f) [.ref x, v]) (fun r t => wpAny M A (truthy r) Q E t) E s) : wpAny M A (contains (.ref x) v) Q E s := by
  unfold contains
  exact wpAny_holding (wpAny_bind (wpAny_bind (I.type.here ((PySem.W.looks_findIn hK m.at_).here (by
    rw [if_neg (by simp)]
    exact wpAny_bind (PySem.W.unlessNone_K hK I m.at_ m.fn h))))))
end
section
variable {X : Cx} {CX : CXT} {k : Nat} {f : Addr} {fd : FuncData} {ps : List Str} {sp : Sp} {E : XK}
def rNin (K : PySem.W.Frag) (f : Addr) (sp : Sp) (E : XK) : R2 := fun x y H Q => ∃ a o C dx fs, y = .ref a ∧ H a = some (.frz o (.ins C dx fs)) ∧ Meth K C "__contains__" f ∧ sp [y, x] H (fun v H' => ∃ b : Bool, v = .bl b ∧ Q (.bl (!b)) H') E
theorem op_nin (G : FnOk X.prog X.w X.K X.mg X.base CX k f fd ps sp) (hr : Room k X.A) (hb : Binds X.K fd ps []) (hx : Passes CX X E) : OpR X (compareOp .NotIn) (rNin X.K f sp E) := by
  intro pins s σ H x y v u Q I rx ry ⟨a, o, C, dx, fs, ey, ea, m, q⟩
  subst ey
  obtain rfl : u = Value.ref a := ry
  obtain ⟨mA, O, r⟩ := insF_get I.hok ea
  obtain ⟨od, J, hl⟩ := O.look
  refine wpAny_bind (cont_own I.kIn J m (wpAny_mono (run_fn (us := [.ref a, v]) (vs := [.ref a, x]) G hr hb .nil hx I (.cons rfl (.cons rx .nil)) q) (fun w t ⟨z, H2, I2, rz, b, eb, q2⟩ => ?_) fun _ _ z => z))
  subst eb
  obtain rfl : w = Value.bool b := rz
  exact wpAny_truthy_bool (wpAny_pure ⟨.bl (!b), H2, I2, rfl, q2⟩)
end
section
variable {X : Cx} {W : Bool} {F : Fm} {Γ : Gm} {Δ : Δs} {γ : Type}
theorem t_ninI {CX : CXT} {kk : Nat} {f : Addr} {fd : FuncData} {ps : List Str} {sp : Sp} {E : XK} {a b : Expr} {pos : Pos} {α1 α2 β1 β2 : Type} {Es : α1 → Pd} {Ex : α2 → Pd} {Mf : α1 → α2 → Option Bool} {T : Option γ} {Δ1 : β1 → Δs} {k1 : β1 → Option γ} {Δ2 : β1 → β2 → Δs} {x : β1 → α2} {o : β1 → β2 → α1} {k : (β1 × β2) × Bool → Option γ}
    (G : FnOk X.prog X.w X.K X.mg X.base CX kk f fd ps sp) (hr : Room kk X.A) (hb : Binds X.K fd ps []) (hx : Passes CX X E) (hI : ∀ o H v, (Es o).pr H v → IsM X.K "__contains__" f H v)
    (hsp : ∀ (o : α1) (x : α2) v1 v2 H Q, (Es o).pr H v1 → (Ex x).pr H v2 → ∀ r, Mf o x = some r → (∀ H', Hk ⟨H, []⟩ [] H' → Q (.bl r) H') → sp [v1, v2] H Q E)
    (h1 : PE X a (tE W F Γ Δ T k1 (fun b1 => Ex (x b1)) Δ1)) (h2 : ∀ b1, PE X b (tE W F Γ (Δ1 b1) (k1 b1) (fun b2 => (Mf (o b1 b2) (x b1)).bind fun r => k ((b1, b2), r)) (fun b2 => Es (o b1 b2)) (Δ2 b1))) (hm : behindInMarks .NotIn b = false := by rfl) :
    PT X (.Compare a [.NotIn] [b] pos) (tTs W F Γ Δ T k (fun b => !b.2) fun b => Δ2 b.1.1 b.1.2) :=
  t2_core (bt_cmp (op_nin G hr hb hx) hm) h1 h2 fun σ H Q ⟨ok, g, e, q⟩ => ⟨ok, g, e, fun b1 b2 v w H2 kb st ok2 hv hw => by
    obtain ⟨r, er, kr⟩ := bind_some kb
    obtain ⟨a, ob, C, dx, fs, ew, ea, c, m, l⟩ := hI _ _ _ hw
    exact ⟨a, ob, C, dx, fs, ew, ea, m, hsp _ _ _ _ _ _ hw hv r er fun H' hk => ⟨r, rfl, !r, rfl, by
      obtain ⟨ok', st'⟩ := call_f0 (W := W) ok2 hk
      exact q ((b1, b2), r) H' kr (st.trans st') ok'⟩⟩⟩
end
section
variable {prog : Program} {w : World} {A : Around} {E : Value → Shared → Prop} {s : Shared} {r d : Addr} {n : Nat} {P : Nat → Value → Prop} {OK : Heap → Prop}
theorem tupd_code {Qn : Value → Shared → Prop} (S : PySem.W.KdlSrc prog w "dict" r d n P OK) (hh : A.handled = none) (ok : OK s.heap) (hn : n ≤ sizeLine)
    (h : ∀ (h' : Heap) (tk : Nat) (acc : Array Value), (∀ b o, s.heap.get? b = some o → h'.get? b = some o) → ItemsOf P acc n → Qn (.ref h'.objs.size) { s with heap := h'.push { cls := .type "tuple", data := .seq acc }, toks := tk }) :
    codeAny (model prog w) A (.call (.builtin "tuple.__new__") ⟨[.type "tuple", .ref r], []⟩) (wants Qn E) s := by
  apply codeAny_of_tree
  show wpAny _ A.in1 (do checkBuiltinCall "tuple.__new__" ⟨[.type "tuple", .ref r], []⟩; again (.builtin "tuple.__new__" ⟨[.type "tuple", .ref r], []⟩)) _ _ s
  refine wpAny_bind (wpAny_of_eq (PySem.F.newCall_tuple_1 _) (wpAny_pure ⟨plainId_quiet PySem.F.plain_tuple_new _, codeAny_builtin PySem.F.entry_tuple_new ?_⟩))
  rw [Around.under_plainId PySem.F.plain_tuple_new _]
  have f1 := sub_tuple_self
  have f2 := init_tuple_lookup
  have f3 := madeHere_tuple
  have ty := S.type s ok
  have h1 : A.in1.handled = none := hh
  wp_walk using wpAny_typeOf ty, PySem.W.kdu_collect (A := A.in1) S h1 ok hn
  intro h' tk acc keep items
  show wpAny _ _ (Builtin.Tuple.tupleExact acc.toList.toArray >>= fun v => ret v) _ _ _
  unfold Builtin.Tuple.tupleExact
  have e : acc.toList.toArray = acc := by simp
  rw [e]
  exact wpAny_bind (wpAny_newObj_type (wpAny_pure (h h' tk acc keep items)) (by show acc.size ≤ sizeLine; rw [items.1]; exact hn))
theorem tupd_call {Q : Value → Shared → Prop} (S : PySem.W.KdlSrc prog w "dict" r d n P OK) (hh : A.handled = none) (ok : OK s.heap) (hn : n ≤ sizeLine)
    (h : ∀ (h' : Heap) (tk : Nat) (acc : Array Value), (∀ b o, s.heap.get? b = some o → h'.get? b = some o) → ItemsOf P acc n → Q (.ref h'.objs.size) { s with heap := h'.push { cls := .type "tuple", data := .seq acc }, toks := tk }) :
    wpAny (model prog w) A (call (.type "tuple") [.ref r]) Q E s := by
  refine callType_codes (Q₁ := fun v t => t.TypeIs v "tuple" ∧ Q v t) PySem.F.called_tuple (PySem.F.typeCall_tuple_1 _) PySem.F.entry_object_init (tupd_code (A := A.in1) S hh ok hn fun h' tk acc keep items => ⟨⟨_, Heap.get?_push_size _ rfl, rfl⟩, h h' tk acc keep items⟩) fun v t q => ?_
  exact ⟨q.1, PySem.F.args_object_init_2 v _, object_init_meets PySem.F.called_tuple.init.lookup PySem.F.called_tuple.made (by decide) prog w A.in1 _ t ⟨q.1, rfl, q.2⟩⟩
end
theorem call_tupleD {X : Cx} (hc : X.calm = true) : CallR X (.type "tuple") (fun xs H Q => ∃ (a : Addr) (kvs : List (Key × V)), xs = [.ref a] ∧ Rd H a (.dK kvs) ∧ ∀ l o, H l = none → o.dict = none → Q (.ref l) (upd H l (.frz o (.tup (kvs.map fun kv => kV kv.1))))) := by
  intro pins s σ H xs us Q I r q
  obtain ⟨a, kvs, rfl, hd, q⟩ := q
  obtain ⟨u, rfl, rx⟩ := vals1 r
  cases rx
  obtain ⟨z, lo, vs, rel, dd⟩ := dk_rd I.hok hd
  obtain ⟨ep, hat⟩ := dd.dictAt
  have ek : (kvs.map fun kv => kV kv.1) = vs.map fun p => kV p.1 := by
    have e := congrArg (List.map kV) rel.keys
    rwa [List.map_map, List.map_map] at e
  have lv : vs.length ≤ sizeLine := by rw [← rel.length]; exact z
  refine tupd_call (PySem.W.kdl_dict (knd := mixKind X.prog X.w) (kvs := vs) (ep := ep) lo) (I.ok.hd hc) hat lv fun h' tk acc keep items => ?_
  have hv : Vals (vs.map fun p => kV p.1) acc.toList := keys_at (by rw [Array.length_toList]; exact items.1) fun j v e => items.2 j v (by rw [← Array.getElem?_toList]; exact e)
  have I1 : Inv X pins σ H { s with heap := h', toks := tk } := I.kept (t' := tk) keep
  have ea : acc.toList.toArray = acc := by simp
  have I2 : Inv X pins σ (upd H h'.objs.size (.frz { cls := .type "tuple", data := .seq acc } (.tup (kvs.map fun kv => kV kv.1)))) { s with heap := h'.push { cls := .type "tuple", data := .seq acc }, toks := tk } :=
    I1.laid (t' := tk) (fun b o e => Heap.get?_push_of_some _ e) (Nat.le_refl _) (show ObjOk X.prog X.w _ _ _ (.frz _ (.tup _)) from ⟨Heap.get?_push_size _ rfl, by rw [List.length_map]; exact z, acc.toList, by rw [ek]; exact hv, by rw [ea]; exact IsTup.new _ _⟩)
  exact ⟨.ref h'.objs.size, _, I2, rfl, q _ _ (I1.hok.fresh (Nat.le_refl _)) rfl⟩
section
variable {X : Cx} {W : Bool} {F : Fm} {Γ : Gm} {Δ : Δs} {γ : Type} {κ α : Type} [DecidableEq κ] [Ky κ]
theorem keys_prM {E : α → Pd} {H H' : Hp} : ∀ {xs : List (κ × α)} {us : List (Key × V)}, Paired (PrM E H) xs us → Paired (fun (x : κ) u => (Ky.kp x).pr H' u) (xs.map Prod.fst) (us.map fun kv => kV kv.1)
  | _, _, .nil => .nil
  | _, _, .cons (b := u) h t => .cons (by show (Ky.kp _).pr H' (kV u.1); rw [h.1]; exact Ky.of _ _) (keys_prM t)
theorem x_tupM {a : Expr} {pos p : Pos} {β : Type} {T : Option γ} {Δ1 : β → Δs} {E1 : β → Pd} {Ee : α → Pd} {xs : β → List (κ × α)} {k : β → Option γ} (hm : X.mg "tuple" = none) (ha : PE X a (tE W F Γ Δ T k E1 Δ1)) (rd : ∀ b, RdM (Δ1 b) (E1 b) Ee (xs b)) (hg : Gl X "tuple" := by rfl) (hs : starEach [a] X.env = (false, eval a X.env) :: starEach [] X.env := by rfl) (hc : X.calm = true := by rfl) :
    PE X (.Call (.Name "tuple" p) [a] [] pos) (tE W F Γ Δ T k (fun b => pTN Ky.kp ((xs b).map Prod.fst)) Δ1) :=
  x1l (u_callTy (call_tupleD hc) hg hm (by decide +kernel) (by decide) (by decide) hs) ha fun b σ v H Q ok hv q => by
    obtain ⟨p, vs, ev, sq, z, pr⟩ := rd b F H v ok.hk hv
    rw [ev]
    exact ⟨p, vs, rfl, sq, fun l o hl hd => by
      have g : Gr H (upd H l (.frz o (.tup (vs.map fun kv => kV kv.1)))) := Gr.new hl
      exact q _ _ g ⟨l, o, _, rfl, upd_same, hd, by rw [List.length_map]; exact z, keys_prM pr⟩⟩
end
def dmk {κ α : Type} [DecidableEq κ] (xs : List (κ × α)) : List (κ × α) := xs.foldl (fun d p => dput d p.1 p.2) []
section
variable {κ α : Type} [DecidableEq κ] [Ky κ]
theorem fold_len : ∀ {xs d : List (κ × α)}, (xs.foldl (fun d p => dput d p.1 p.2) d).length ≤ d.length + xs.length
  | [], _ => Nat.le_refl _
  | p :: xs, d => by
    have h1 := dput_len d p.1 p.2
    have h2 := fold_len (xs := xs) (d := dput d p.1 p.2)
    rw [List.foldl_cons, List.length_cons]
    omega
theorem prM_fold {E : α → Pd} {H : Hp} : ∀ {xs d : List (κ × α)} {us ks : List (Key × V)}, Paired (PrM E H) xs us → Paired (PrM E H) d ks → Paired (PrM E H) (xs.foldl (fun d p => dput d p.1 p.2) d) (mergeK ks us)
  | _, _, _, _, .nil, h => h
  | _, _, _, _, .cons (a := p) (b := u) h t, hd => by
    have h1 := prM_put (k := p.1) h.2 hd
    rw [← h.1] at h1
    exact prM_fold (d := dput _ p.1 p.2) (ks := putK _ u.1 u.2) t h1
theorem pairs_prs {E : α → Pd} {K : PySem.W.Frag} {H : Hp} : ∀ {xs : List (κ × α)} {vs : List V}, Paired (fun x u => (pT2 (Ky.kp (κ := κ)) E x).pr H u) xs vs → ∃ (ps : List Addr) (ks : List (Key × V)), vs = ps.map V.ref ∧ Paired (fun p kv => SqT K H p [kV kv.1, kv.2]) ps ks ∧ Paired (PrM E H) xs ks
  | _, _, .nil => ⟨[], [], rfl, .nil, .nil⟩
  | _, _, .cons (a := x) h t => by
    obtain ⟨ps, ks, e, p1, p2⟩ := pairs_prs (K := K) t
    obtain ⟨a, u, w, ev, ha, hu, hw⟩ := h
    have hk := Ky.is hu
    subst hk ev e
    exact ⟨a :: ps, (Ky.ky x.1, w) :: ks, rfl, .cons (.inl (.inl ha)) p1, .cons ⟨rfl, hw⟩ p2⟩
end
section
variable {X : Cx} {W : Bool} {F : Fm} {Γ : Gm} {Δ : Δs} {γ : Type} {κ α : Type} [DecidableEq κ] [Ky κ]
end
section
variable {X : Cx} {W : Bool} {F : Fm} {Γ : Gm} {Δ : Δs} {γ ε : Type} {Kx : Xk ε} {ιx : ε → γ} {Wx : WX}
theorem x_frzX {β : Type} {e : Expr} {T : Option γ} {k : β → Option γ} {D : β → Od} {Δ' : β → Δs} (he : PE X e (tOX W F Γ Δ T k D Δ' ιx Kx Wx)) : PE X e (tEX W F Γ Δ T k (fun b => (D b).pd) Δ' ιx Kx Wx) :=
  ⟨fun pins s σ H Q I ⟨ok, g, e, q, qx⟩ => thn (he.run pins s σ H (fun v H' => ∃ b, k b = some g ∧ St W H H' ∧ OkN W F Γ H v (D b) (Δ' b) σ H') I ⟨ok, g, e, fun b v H' kb f ok' => ⟨b, kb, f, ok'⟩, qx⟩) fun u s1 ⟨v, H1, I1, r1, b, kb, f, ok1⟩ => by
    obtain ⟨H2, I2, f2, ok2, p2⟩ := inv_lkX (Φ := fun H2 => St W H H2 ∧ Ok F Γ (Δ' b) σ H2 ∧ (D b).pd.pr H2 v) I1 (ok1.frz f fun H' f h p => ⟨f, h, p⟩)
    exact ⟨v, H2, I2, r1, q b v H2 kb f2 ok2 p2⟩⟩
theorem x_dictPX {κ α : Type} [DecidableEq κ] [Ky κ] {a : Expr} {pos p : Pos} {β : Type} {T : Option γ} {Δ1 : β → Δs} {E1 : β → Pd} {Ee : α → Pd} {xs : β → List (κ × α)} {k : β → Option γ} (hm : X.mg "dict" = none) (ha : PE X a (tEX W F Γ Δ T k E1 Δ1 ιx Kx Wx)) (rd : ∀ b, RdL (Δ1 b) (E1 b) (pT2 (Ky.kp (κ := κ)) Ee) (xs b)) (hg : Gl X "dict" := by rfl) (hs : starEach [a] X.env = (false, eval a X.env) :: starEach [] X.env := by rfl) (hc : X.calm = true := by rfl) :
    PE X (.Call (.Name "dict" p) [a] [] pos) (tOX W F Γ Δ T k (fun b => oM Ee (dmk (xs b))) Δ1 ιx Kx Wx) :=
  (u_callTy (call_dictP hc) hg hm (by decide +kernel) (by decide) (by decide) hs _ ha).wk fun σ H Q ⟨ok, g, e, q, qx⟩ => ⟨ok, g, e, fun b v H' kb f ok' hp => by
    obtain ⟨p, vs, ev, sq, z, pr⟩ := (rd b F H' v ok'.hk hp).sq (K := X.K)
    obtain ⟨ps, ks, e, p1, p2⟩ := pairs_prs (K := X.K) pr
    subst e ev
    exact ⟨p, ps, ks, rfl, sq, p1, fun l hl => by
      obtain ⟨o2, f2⟩ := ok'.newM (E := Ee) hl (by
        have := fold_len (xs := xs b) (d := [])
        rw [List.length_nil, Nat.zero_add] at this
        exact Nat.le_trans this z) (prM_fold p2 .nil)
      exact q b _ _ kb (f.trans f2.st) (o2.since f)⟩, qx⟩
end
def SpU {α : Type} (A : α → List Pd) (Mf : α → Option Unit) : Sp := fun vs H Q _ => ∃ a, Paired (fun p v => Pd.pr p H v) (A a) vs ∧ ∃ r, Mf a = some r ∧ ∀ H', Hk ⟨H, []⟩ [] H' → Q .non H'
theorem fn_U {P : Program} {w : World} {K : PySem.W.Frag} {mg : Str → Option Value} {base : Heap} {x qual : Str} {params : Arguments} {body : List Stmt} {scope : Scope} {dvs : List V} {kws : List (Str × V)} {f : Addr} {fd : FuncData} {Nn ps : List Str} {k n : Nat} {α : Type} {A : α → List Pd} {Mf : α → Option Unit}
    (FD : FunD K x qual params body scope dvs kws f fd) (S : FnScope Nn ps scope) (hn : ∀ a, (A a).length = n) (hl : n = ps.length)
    (hb : ∀ (cdv : Value) (Ar : Around) (outer : List Env) (s : Shared) (H : Hp) (E : XK) (hr : Room k (Ar.deeper (envOfC qual scope s.heap.objs.size f cdv))) (a : α), PSs (cxOf CX0 P w K mg base Nn qual scope f cdv Ar outer s H E).nox body
      (tS ⟨H, []⟩ ((A a).map some ++ List.replicate (Nn.length - n) none) [] (fI ⟨H, []⟩ fun _ => []) (Mf a))) : FnOk P w K mg base CX0 (k + 1) f fd ps (SpU A Mf) := by
  refine FD.ok S (fun vs H Q E h => ?_) (fun cdv Ar outer s H vs Q E hr h => ?_)
  · obtain ⟨a, pv, _⟩ := h
    rw [← paired_len pv, hn, hl]
  · obtain ⟨a, pv, r, hM, fin⟩ := h
    exact ⟨_, PSs.nox (hb cdv Ar outer s H E hr a), ok_start (Δ := []) (by rw [← paired_len pv, hn]) pv (fun _ h => nomatch h) List.nodup_nil (fun _ _ h => nomatch h), r, hM, fun σ' H' h => fin H' h⟩
section
variable {X : Cx} {F : Fm} {Γ : Gm} {Δ : Δs} {γ : Type}
theorem x_callU {m cn : Str} {pos apos : Pos} {pl : Sem Bool} {o e1 : Expr} {C f : Addr} {fd : FuncData} {ps : List Str} {kk : Nat} {α1 β1 β2 : Type} {E1 : α1 → Pd} {Mf : α1 → Option Unit} {T : Option γ} {Δ1 : β1 → Δs} {k1 : β1 → Option γ} {Δ2 : β1 → β2 → Δs} {x1 : β1 → β2 → α1} {k : β1 × β2 → Option γ} {v : V} {ns : List Str} {pds : β1 → List Pd} {prm : Option Nat}
    (gc : X.mg cn = some (.ref C)) (c : Cls X.K C) (hm : Meth X.K C m f) (hn : idxF ns m = none) (G : FnOk X.prog X.w X.K X.mg X.base CX0 kk f fd ps (SpU (fun (a : V × α1) => [pV a.1, E1 a.2]) fun a => Mf a.2)) (hr : Room kk X.A) (hb : Binds X.K fd ps []) (j : Nat)
    (ho : PE X o (tE true F Γ Δ T k1 (fun _ => pV v) Δ1)) (hj : ∀ b1, (Δ1 b1)[j]? = some ⟨v, oI X.mg cn ns (pds b1), prm⟩)
    (h1 : ∀ b1, PE X e1 (tE true F Γ (Δ1 b1) (k1 b1) (fun b2 => (Mf (x1 b1 b2)).bind fun _ => k (b1, b2)) (fun b2 => E1 (x1 b1 b2)) (Δ2 b1)))
    (st2 : starEach [e1] X.env = (false, eval e1 X.env) :: starEach [] X.env := by rfl) (hpl : (backTo pos (starEach [] X.env)).any (·.1) = false := by rfl) (ht : eval (.Call (.Attribute o m apos) [e1] [] pos) X.env = (do let ov ← eval o X.env; standAt apos.atName; let (f, first) ← holding [ov] (getMethod ov m pl); callWith pos f first (backTo pos (starEach [e1] X.env)) (backToKw pos (keywordEach [] X.env))) := by rfl) :
    PE X (.Call (.Attribute o m apos) [e1] [] pos) (tE true F Γ Δ T k (fun _ => pUnit ()) fun b => Δ2 b.1 b.2) :=
  (pe_meth (pl := pl) ho c hm G hr hb .nil pass0 (pa_cons (pe_ex fun b1 => h1 b1) pa_nil st2) st2 hpl ht).wk fun σ H Q ⟨ok, g, e, q⟩ => ⟨ok, g, e, fun b1 v1 H1 kb1 f1 ok1 hv1 => by
    have hv1 : v1 = v := hv1
    subst hv1
    obtain ⟨G', a, C', dx, vs, eg, ev, g', h, p⟩ := ok1.at (hj b1)
    rw [gc] at g'
    cases g'
    exact ⟨a, dx, _, ev, h, lookup_zipN hn, b1, ok1, g, kb1, fun b2 v2 H2 kb2 f2 ok2 hv2 => by
      obtain ⟨r, er, kr⟩ := bind_some kb2
      exact ⟨(v1, x1 b1 b2), .cons rfl (.cons hv2 .nil), r, er, fun H' hk => by
        obtain ⟨ok', st⟩ := call_f0 (W := true) ok2 hk
        exact q (b1, b2) .non H' kr ((f1.trans f2).trans st) ok' rfl⟩⟩⟩
end
end L3
end
section
set_option maxHeartbeats 4000000
set_option autoImplicit true
namespace L3
open PySem PySem.Spec PyProof.Rows L2 PySem.SxX
section
variable {X : Cx} {x n x2 n2 : Str} {c c2 : Value} {i i2 : Nat} {body suite suite2 : List Stmt} {b₀ b₂ : Stmt} {np pos pos' np2 pos2 : Pos} {tb : WX → TS} {ts ts2 : Addr → Value → Option Addr → TS} {Wout : WX}
abbrev SuOk (X : Cx) (st : List Stmt) (ts : Addr → Value → Option Addr → TS) : Prop := ∀ (a : Addr) (oe : Obj) (cls : Value) (d : Option Addr) (pn : List (Addr × Obj)), Zc cls d oe → (∃ vs, oe.data = .fields vs) → PSs (X.suite a ((a, oe) :: pn)) st (ts a cls d)
theorem ps_try_as2 (hs : X.stack = X.env :: X.outer) (hf : X.env.frame = some X.env.locals) (hN : X.N.Nodup) (hi : X.N[i]? = some n) (hi2 : X.N[i2]? = some n2) (hln : X.env.kindOf n = some .local) (hln2 : X.env.kindOf n2 = some .local) (hc : Names X x c) (hc2 : Names X x2 c2) (tk : Takes X Wout)
    (hb : ∀ (W : WX) (pn : List (Addr × Obj)) (xe : Value → Shared → Prop), Takes (X.tr pn xe) W → PassesOwn (model X.prog X.w) X.A X.env xe → PSs (X.tr pn xe) body (tb W))
    (hsu : SuOk X (b₀ :: suite) ts) (hsu2 : SuOk X (b₂ :: suite2) ts2) :
    PS X (.Try body [.ExceptHandler (some (.Name x np)) (some n) (b₀ :: suite) pos', .ExceptHandler (some (.Name x2 np2)) (some n2) (b₂ :: suite2) pos2] [] [] pos) (fun D σ H => tb (wAs X.K c i ts (wAs X.K c2 i2 ts2 Wout D) D) D σ H) := by
  refine ⟨fun pins s σ H D I h => ?_⟩
  have ok := I.ok
  have frs_ : X.A.frames = some (X.env :: X.outer) := ok.frames.trans (by rw [hs])
  generalize hW : wAs X.K c i ts (wAs X.K c2 i2 ts2 Wout D) D = W at h
  generalize hL : (ExceptHandler.ExceptHandler (some (.Name x np)) (some n) (b₀ :: suite) pos') = h₀
  generalize hR : ([.ExceptHandler (some (.Name x2 np2)) (some n2) (b₂ :: suite2) pos2] : List ExceptHandler) = R₀
  refine wpAny_Try_except ?_
  have hxe : Takes (X.tr (X.pn ++ pins) fun e s1 => wpAny (model X.prog X.w) X.A (noteFrame e X.env) (fun _ s2 => wpAny (model X.prog X.w) X.A (setFlight e none) (fun _ s3 => wpAny (model X.prog X.w) X.A (handleBy e X.env (h₀ :: R₀)) (SP X pins D) X.xe s3) X.xe s2) X.xe s1) W := by
    intro u t xx
    obtain ⟨a, B, sI, pinsI, σ', H', cls, d, rfl, JI, nb, up, sky, na, os, ag, w⟩ := xx
    have J := JI.ofTry ok
    have sky2 : Sky B (X.env :: X.outer) a (Zc cls d) X.env.locals t.heap := by rw [← hs]; exact sky
    show wpAny (model X.prog X.w) X.A (noteFrame (.ref a) X.env) _ _ _
    refine Sky.land Zc.steady frs_ hf sky2 fun h3 fl up3 => ?_
    have J3 : Inv X pins σ' H' { t with heap := h3 } := J.landed nb fl.1 (up.trans up3) os ag
    obtain ⟨o3, vs3, get3, zc3, dat3⟩ := fl.there
    have away : a ∉ frs (X.env :: X.outer) := fun hm => by
      obtain ⟨_, o', get', nof⟩ := fl.2.2.1.mem hm
      cases get3.symm.trans get'
      exact nof _ dat3
    have n1 : a ≠ X.env.locals := fun z => away (List.mem_filterMap.mpr ⟨X.env, List.mem_cons_self, by rw [hf, z]⟩)
    have n2' : a ∉ X.fs := fun hm => by
      obtain ⟨e, he, q⟩ := List.mem_filterMap.mp hm
      exact away (List.mem_filterMap.mpr ⟨e, List.mem_cons_of_mem _ he, q⟩)
    have S3 := J3.suite get3 dat3 na n1 n2'
    -- one clause
    have one : ∀ {y m : Str} {cv : Value} {j : Nat} {b : Stmt} {st : List Stmt} {p1 p2 : Pos} {us : Addr → Value → Option Addr → TS} {Wo : WX} {R : List ExceptHandler}, X.N[j]? = some m → X.env.kindOf m = some .local → Names X y cv → SuOk X (b :: st) us → wAs X.K cv j us Wo D cls d σ' H' →
        (Wo cls d σ' H' → wpAny (model X.prog X.w) X.A (handleBy (.ref a) X.env R) (SP X pins D) X.xe { t with heap := h3 }) →
        wpAny (model X.prog X.w) X.A (handleBy (.ref a) X.env (.ExceptHandler (some (.Name y p1)) (some m) (b :: st) p2 :: R)) (SP X pins D) X.xe { t with heap := h3 } := by
      intro y m cv j b st p1 p2 us Wo R hj hm hn su ⟨yes, hyes, hT, hF⟩ next
      refine wpAny_handleBy_cons (codeAny_handlers_test ?_) (fun q => by cases q)
      have look : PySem.W.Looks (model X.prog X.w) h3 (typeOf (.ref a)) cls := fun _ _ _ _ k q => wpAny_typeOf_ref (k _ _ get3) (by rw [zc3.1]; exact q)
      have test := PySem.W.exm_one (M := model X.prog X.w) J3.kIn look hyes
      have name : ∀ {Q : Value → Shared → Prop} {E : Value → Shared → Prop}, Q cv { t with heap := h3 } → wpAny (model X.prog X.w) (X.A.mark (some (.ref a))) (eval (.Name y p1) X.env) Q E { t with heap := h3 } := fun {Q E} q => by
        rcases hn with ⟨g1, g2, g3 | ⟨g3, g4, g5⟩⟩
        · exact ld_glob (X := X.suite a ((a, o3) :: (X.pn ++ pins))) S3 g1 g3 q g2
        · exact ld_blt (X := X.suite a ((a, o3) :: (X.pn ++ pins))) S3 g1 g3 g4 q g5 g2
      refine name (test.here ?_)
      cases yes with
      | false => exact next (hF rfl)
      | true =>
        refine codeAny_handlers_suite_as (HandSPX.lands_againZ fl fun h4 fl4 up4 => ?_)
        have J4 : Inv X pins σ' H' { t with heap := h4 } := J.landed nb fl4.1 ((up.trans up3).trans up4) os ag
        obtain ⟨o4, vs4, get4, zc4, dat4⟩ := fl4.there
        have S4 := J4.suite get4 dat4 na n1 n2'
        refine store_ok (X := X.suite a ((a, o4) :: (X.pn ++ pins))) (v := .ref a) S4 hN hj (.inl hm) rfl (fun s5 S5 => ?_) (.inr hm)
        have fin : ∀ {t6 : Shared} {σ6 : SS} {H6 : Hp} {Q : Shared → Prop}, Inv (X.suite a ((a, o4) :: (X.pn ++ pins))) [] σ6 H6 t6 → (∀ t7, Inv X pins (σ6.set j none) H6 t7 → Q t7) → wpAny (model X.prog X.w) X.A (do bindName X.env m .none; unbindBehindTheSuite X.env m p2) (fun _ t7 => Q t7) X.xe t6 := fun S6 q => L2.gone_ok (S6.unsuite ok) hN hj hm q
        refine wpAny_mono ((su a o4 cls d (X.pn ++ pins) zc4 ⟨_, dat4⟩).run [] s5 _ H' _ S5 (hT rfl a na)) (fun fl6 t6 out => ?_) fun _ _ z => z.elim
        cases fl6 with
        | next => exact fin out.choose_spec.choose_spec.1 fun t7 J7 => ⟨_, _, J7, out.choose_spec.choose_spec.2⟩
        | brk => exact fin out.choose_spec.choose_spec.1 fun t7 J7 => ⟨_, _, J7, out.choose_spec.choose_spec.2⟩
        | cont => exact fin out.choose_spec.choose_spec.1 fun t7 J7 => ⟨_, _, J7, out.choose_spec.choose_spec.2⟩
        | ret u =>
          obtain ⟨v6, σ6, H6, S6, r6, q6⟩ := out
          exact fin S6 fun t7 J7 => ⟨_, _, _, J7, r6, q6⟩
    subst hW hL hR
    refine one hi hln hc hsu w fun w2 => one hi2 hln2 hc2 hsu2 w2 fun w3 => ?_
    refine wpAny_handleBy_nil ?_
    obtain ⟨_, _, _, o5, vs5, T, oT, ts', get5, zc5, dat5, at1, hr⟩ := id fl
    unfold PySem.passOn
    have out : wpAny (model X.prog X.w) X.A (setFlight (.ref a) X.env.frame) (fun _ s4 => wpAny (model X.prog X.w) X.A (throw (.ref a) : Sem Flow) (SP X pins D) X.xe s4) X.xe { t with heap := h3 } := by
      rw [hf]
      exact HandSPX.setFlight_upZ fl fun h4 hh4 up4 => wpAny_throw (tk _ _ ⟨a, B, sI, pins, σ', H', cls, d, rfl, J, nb, (up.trans up3).trans up4, .inr (.inr (by rw [hs]; exact hh4)), na, os, ag, w3⟩)
    refine wpAny_bind (wpAny_field get5 dat5 at1 ?_)
    rw [if_neg (show ¬ ((Value.ref T == Value.none) = true) from by simp)]
    first
      | exact wpAny_bind (wpAny_pure (wpAny_bind out))
      | exact wpAny_bind out
  refine wpAny_mono ((hb W _ _ hxe PassesOwn.looking).run [] s σ H D (I.toTry _) h) (fun fl t out => ?_) (fun _ _ z => z)
  cases fl with
  | next =>
    obtain ⟨σ', H', J', q⟩ := out
    exact wpAny_execs_nil ⟨σ', H', J'.ofTry ok, q⟩
  | brk => exact let ⟨σ', H', J', q⟩ := out; ⟨σ', H', J'.ofTry ok, q⟩
  | cont => exact let ⟨σ', H', J', q⟩ := out; ⟨σ', H', J'.ofTry ok, q⟩
  | ret u => exact let ⟨v, σ', H', J', r, q⟩ := out; ⟨v, σ', H', J'.ofTry ok, r, q⟩
end
def tryK2 {S τ ε γ : Type} (k2 : S → Option γ) (ι : τ → γ) (m : ε → Bool) (TS : ε → Option (Bo S τ)) (m2 : ε → Bool) (TS2 : ε → Option (Bo S τ)) (Ke : ε → Option γ) : Bo S (Except ε τ) → Option γ
  | .nx s => k2 s
  | .tm (.ok t) => some (ι t)
  | .tm (.error e) => if m e = true then (TS e).bind (boK k2 ι) else if m2 e = true then (TS2 e).bind (boK k2 ι) else Ke e
section
variable {X : Cx} {W : Bool} {F : Fm} {Γ : Gm} {Δ : Δs} {γ ε : Type} {Kx : Xk ε}
theorem s_try_as2n {ν S τ : Type} {N : Fn γ} {Tf : Fn τ} {ι : τ → γ} {i i2 : Nat} {x n x2 n2 : Str} {c c2 : Value} {body suite suite2 rest : List Stmt} {b₀ b₂ : Stmt} {np pos pos' np2 pos2 : Pos} {Wout : WX} {T : Option γ} {TB : Option (Bo S (Except ε τ))} {k2 : S → Option γ} {m m2 : ε → Bool} {TS TS2 : ε → Option (Bo S τ)} {Ke : ε → Option γ}
    (C : ν → S → Cxt) (Γx : Gm) (Δx : Δs) (hN : X.N.Nodup) (hc : Names X x c) (hc2 : Names X x2 c2) (tk : Takes X Wout) (hm : ∀ e cls d H, Kx.ok e cls d H → PySem.W.exmOne X.K cls c = some (m e)) (hm2 : ∀ e cls d H, Kx.ok e cls d H → PySem.W.exmOne X.K cls c2 = some (m2 e))
    (hT : T = TB.bind (tryK2 k2 ι m TS m2 TS2 Ke))
    (hb : ∀ (W : WX) (pn : List (Addr × Obj)) (xe : Value → Shared → Prop), Takes (X.tr pn xe) W → PassesOwn (model X.prog X.w) X.A X.env xe → PSs (X.tr pn xe) body (tS F Γ Δ (fBn F C (fX Kx Tf F Δx (Nm Γx) W)) TB))
    (hsu : ∀ (a : Addr) (oe : Obj) (cls : Value) (d : Option Addr) (pn : List (Addr × Obj)), Zc cls d oe → (∃ vs, oe.data = .fields vs) → ∀ e, PSs (X.suite a ((a, oe) :: pn)) (b₀ :: suite) (tS F (Γx.set i (some (pExc Kx a cls d e))) Δx (fBn F C Tf) (TS e)))
    (hsu2 : ∀ (a : Addr) (oe : Obj) (cls : Value) (d : Option Addr) (pn : List (Addr × Obj)), Zc cls d oe → (∃ vs, oe.data = .fields vs) → ∀ e, PSs (X.suite a ((a, oe) :: pn)) (b₂ :: suite2) (tS F (Γx.set i2 (some (pExc Kx a cls d e))) Δx (fBn F C Tf) (TS2 e)))
    (hr : ∀ n s, PSs X rest (tS F (C n s).1 (C n s).2 N (k2 s))) (hι : ∀ H t D, N.fin H (ι t) D → Tf.fin H t D) (hI : Ins Tf) (hU : Uns i Tf) (hU2 : Uns i2 Tf) (hCi : ∀ n s, (C n s).1[i]? = some none) (hCi2 : ∀ n s, (C n s).1[i2]? = some none) (hE : ∀ e g H D, m e = false → m2 e = false → Ke e = some g → N.fin H g D → xOut Kx F Δx (Nm Γx) Wout e H)
    (hs : X.stack = X.env :: X.outer := by rfl) (hf : X.env.frame = some X.env.locals := by rfl) (hi : X.N[i]? = some n := by rfl) (hi2 : X.N[i2]? = some n2 := by rfl) (hln : X.env.kindOf n = some .local := by rfl) (hln2 : X.env.kindOf n2 = some .local := by rfl) :
    PSs X (.Try body [.ExceptHandler (some (.Name x np)) (some n) (b₀ :: suite) pos', .ExceptHandler (some (.Name x2 np2)) (some n2) (b₂ :: suite2) pos2] [] [] pos :: rest) (tS F Γ Δ N T) :=
  (pss_cons (ps_try_as2 hs hf hN hi hi2 hln hln2 hc hc2 tk (tb := fun W => tS F Γ Δ (fBn F C (fX Kx Tf F Δx (Nm Γx) W)) TB) hb
    (ts := fun a cls d D σ H => ∃ e, tS F (Γx.set i (some (pExc Kx a cls d e))) Δx (fBn F C Tf) (TS e) D σ H) (ts2 := fun a cls d D σ H => ∃ e, tS F (Γx.set i2 (some (pExc Kx a cls d e))) Δx (fBn F C Tf) (TS2 e) D σ H)
    (fun a oe cls d pn hz hf => pss_ex fun e => hsu a oe cls d pn hz hf e) fun a oe cls d pn hz hf => pss_ex fun e => hsu2 a oe cls d pn hz hf e) (pss_ex fun n => pss_ex fun s => hr n s)).wk fun D σ H ⟨ok, g, e, f⟩ => by
    rw [hT] at e
    obtain ⟨o, eo, ko⟩ := bind_some e
    refine ⟨ok, o, eo, ?_⟩
    cases o with
    | nx s => exact fun n σ' H' fz ok' => ⟨n, s, ok', g, ko, N.mono f fz⟩
    | tm t =>
      cases t with
      | ok t =>
        have eg : ι t = g := Option.some.inj ko
        subst eg
        exact hI _ _ _ _ (hι _ _ D f)
      | error er =>
        intro cls d σ' H' fz hk nm hx
        have ko : (if m er = true then (TS er).bind (boK k2 ι) else if m2 er = true then (TS2 er).bind (boK k2 ι) else Ke er) = some g := ko
        have go : ∀ {j : Nat} {TSj : ε → Option (Bo S τ)} (a : Addr), Uns j Tf → (∀ n s, (C n s).1[j]? = some none) → (TSj er).bind (boK k2 ι) = some g → ∃ e, tS F (Γx.set j (some (pExc Kx a cls d e))) Δx (fBn F C Tf) (TSj e) (Ends.un { nx := fun σ H => ∃ n s, tS F (C n s).1 (C n s).2 N (k2 s) D σ H, rt := D.rt, bk := D.bk, ct := D.ct } j) (σ'.set j (some (.ref a))) H' := fun {j TSj} a hUj hCj kj => by
          obtain ⟨o2, eo2, ko2⟩ := bind_some kj
          refine ⟨er, (show Ok F Γx Δx σ' H' from ⟨hk, nm⟩).set (p := pExc Kx a cls d er) ⟨rfl, hx⟩, o2, eo2, ?_⟩
          cases o2 with
          | nx s => exact fun n σ2 H2 fz2 ok2 => ⟨n, s, ok2.unset (hCj n s), g, ko2, N.mono f (fz.trans fz2)⟩
          | tm t =>
            have eg : ι t = g := Option.some.inj ko2
            subst eg
            exact hUj _ _ _ (hI _ _ _ _ (hι _ _ D (N.mono f fz)))
        refine ⟨m er, hm er cls d H' hx, fun hmt a na => ?_, fun hmf => ⟨m2 er, hm2 er cls d H' hx, fun hmt a na => ?_, fun hmf2 => ?_⟩⟩
        · rw [if_pos hmt] at ko
          exact go a hU hCi ko
        · rw [hmf, if_neg Bool.false_ne_true, if_pos hmt] at ko
          exact go a hU2 hCi2 ko
        · rw [hmf, if_neg Bool.false_ne_true, hmf2, if_neg Bool.false_ne_true] at ko
          exact hE er g H D hmf hmf2 ko f cls d σ' H' fz hk nm hx
theorem ex_Bn {ε ν S τ : Type} {Kx : Xk ε} {Tf : Fn τ} {ιx : ε → τ} {C : ν → S → Cxt} {F : Fm} {Δx : Δs} {Nx : SS → Hp → Prop} {Wx : WX} (h : Ex Tf ιx Kx F Δx Nx Wx) : Ex (fBn F C Tf) (fun e => Bo.tm (ιx e)) Kx F Δx Nx Wx := fun H e D q => h H e D q
end
end L3
end
section
set_option maxHeartbeats 4000000
set_option synthInstance.maxSize 2000
noncomputable section
namespace My
open PySem PySem.Spec PyProof.Rows L2 L3
@[irreducible] def M_worth_of (a1 : List (Int × Str)) (a2 : List (Str × Int)) : Option (Int) :=
  (compM a1 () (fun x15 s17 => if true = true then (dget a2 (x15.2)).bind fun x19 => grd ((sm (x15.1) || sm x19) = true) (some (some ((x15.1) * x19), ())) else some (none, ()))).bind fun r20 => some ((r20.1).sum)
@[irreducible] def M_best_in (a1 : List (Int × Str)) (a2 : List (Str × List Int)) (a3 : Bool) : Option (Int) :=
  (some ((0 : Int) : Int)).bind fun x21 => (forS a1 (x21 : Int) fun x25 s24 => (dget a2 (x25.2)).bind fun x27 => (atI x27 (0 : Int)).bind fun x28 => (some (x28 : Int)).bind fun x29 => (if (decide ((decide ((0 : Int) < (x25.1))) = a3)) = true then (dget a2 (x25.2)).bind fun x35 => (atI x35 (-(1 : Int))).bind fun x36 => (some (x36 : Int)).bind fun x37 => some x37 else some x29).bind fun s32 => grd ((sm (x25.1) || sm s32) = true) ((some ((s24 + ((x25.1) * s32)) : Int)).bind fun x33 => some x33)).bind fun s26 => some s26
@[irreducible] def M_side_of (a1 : List Int) : Option (List Int) :=
  grd (a1.length + 1 < scanBound) (some (sideL a1))
@[irreducible] def M_room (a1 : List (Str × List Int)) : Option (Int) :=
  (some ((1 : Int) : Int)).bind fun x39 => (forS (a1.map Prod.fst) (x39 : Int) fun x43 s42 => (dget a1 x43).bind fun x45 => grd ((sm s42 || sm (x45.length : Int)) = true) ((some ((s42 * (x45.length : Int)) : Int)).bind fun x46 => some x46)).bind fun s44 => some s44
@[irreducible] def M_checked_domains (a1 : List (Str × List Int)) : Option (Except Er (List (Str × List Int))) :=
  (some (([] : List (Str × List Int)) : List (Str × List Int))).bind fun x48 => (forL a1 (x48 : (List (Str × List Int))) fun x54 s53 => if (dhas s53 (x54.1)) = true then inB (some ((fun e => Tm.rt ((Except.error) e)) (⟨"RepeatedName", [.str (x54.1)]⟩ : Er))) else (M_side_of (x54.2)).bind fun r64 => grd (s53.length < sizeLine) (some (Bo.nx (dput s53 (x54.1) r64)))).bind (boK (fun s55 => (compM (s55.map Prod.fst) () (fun x57 s59 => if true = true then (dget s55 x57).bind fun x61 => some (some (x57, x61), ()) else some (none, ()))).bind fun r62 => some (Except.ok (ε := Er) (r62.1))) id)
@[irreducible] def M_l_is_integer (a1 : Int) : Option (Bool) :=
  some (true && (!false))
@[irreducible] def M_l_stream (a1 : List Int) (a2 : Int) : Option (List Int) :=
  (some ((0 : Int) : Int)).bind fun x66 => (if (decide (a2 < (a1.length : Int))) = true then (atI a1 a2).bind fun x70 => (some (x70 : Int)).bind fun x71 => some x71 else some x66).bind fun s69 => grd ((sm s69 || sm (if (decide (((10 : Int) ^ (18 : Int).toNat) ≤ s69)) then 1 else 0 : Int)) = true) (some ([(s69 * (if (decide (((10 : Int) ^ (18 : Int).toNat) ≤ s69)) then 1 else 0 : Int)), (0 : Int), s69]))
@[irreducible] def M_l_next (a1 : List Int) (a2 : Int) : Option (Int × (List Int)) :=
  (atI a1 (1 : Int)).bind fun x73 => (ixN a1.length (1 : Int)).bind fun (_ : Nat) => (atI (a1.set ((ixN a1.length (1 : Int)).getD 0) (x73 + (1 : Int))) (0 : Int)).bind fun x75 => if (decide ((0 : Int) < x75)) = true then (atI (a1.set ((ixN a1.length (1 : Int)).getD 0) (x73 + (1 : Int))) (0 : Int)).bind fun x77 => grd (0 < a2) ((some ((x77 % a2) : Int)).bind fun x78 => (atI (a1.set ((ixN a1.length (1 : Int)).getD 0) (x73 + (1 : Int))) (0 : Int)).bind fun x80 => grd (dv a2 = true) ((ixN (a1.set ((ixN a1.length (1 : Int)).getD 0) (x73 + (1 : Int))).length (0 : Int)).bind fun (_ : Nat) => some (x78, ((a1.set ((ixN a1.length (1 : Int)).getD 0) (x73 + (1 : Int))).set ((ixN (a1.set ((ixN a1.length (1 : Int)).getD 0) (x73 + (1 : Int))).length (0 : Int)).getD 0) (x80 / a2))))) else (atI (a1.set ((ixN a1.length (1 : Int)).getD 0) (x73 + (1 : Int))) (2 : Int)).bind fun x82 => (atI (a1.set ((ixN a1.length (1 : Int)).getD 0) (x73 + (1 : Int))) (1 : Int)).bind fun x83 => grd ((sm (7919 : Int) || sm x83) = true) (grd (0 < (2147483647 : Int)) ((some ((((x82 + ((7919 : Int) * x83)) + (13 : Int)) % (2147483647 : Int)) : Int)).bind fun x84 => grd ((sm x84 || sm (x84 + (48271 : Int))) = true) (grd (0 < (2147483629 : Int)) ((some (((x84 * (x84 + (48271 : Int))) % (2147483629 : Int)) : Int)).bind fun x86 => grd ((sm x86 || sm (x86 + (69621 : Int))) = true) ((atI (a1.set ((ixN a1.length (1 : Int)).getD 0) (x73 + (1 : Int))) (1 : Int)).bind fun x88 => grd ((sm (31 : Int) || sm x88) = true) (grd (0 < (2147483647 : Int)) ((some ((((x86 * (x86 + (69621 : Int))) + ((31 : Int) * x88)) % (2147483647 : Int)) : Int)).bind fun x89 => grd (dv (9 : Int) = true) (grd (0 < a2) (some (((x89 / (9 : Int)) % a2), (a1.set ((ixN a1.length (1 : Int)).getD 0) (x73 + (1 : Int)))))))))))))
@[irreducible] def M_l_names (a1 : List Int) (a2 : Int) : Option ((List Str) × (List Int)) :=
  (M_l_next a1 (3 : Int)).bind fun r91 => if (decide ((r91.1) = (0 : Int))) = true then (M_l_next (r91.2) (8 : Int)).bind fun r93 => (some (r93.1 : Int)).bind fun x94 => (some ([("x" : Str), ("yard" : Str), ("z" : Str), ("u" : Str), ("wide_one" : Str), ("q" : Str), ("pp" : Str), ("t" : Str)] : List Str)).bind fun x96 => grd (rg a2 = true) ((compM (rngL 0 a2.toNat) () (fun x99 s101 => if true = true then grd ((sm x99 || sm (3 : Int)) = true) (grd (0 < (8 : Int)) ((atI x96 (((x99 * (3 : Int)) + x94) % (8 : Int))).bind fun x103 => some (some x103, ()))) else some (none, ()))).bind fun r104 => some (r104.1, r93.2)) else (some (("qwertyuiopasdfghjklzxcvbnm_zyx" : Str) : Str)).bind fun x105 => (some ([] : List Str)).bind fun x107 => grd (rg a2 = true) ((forS (rngL 0 a2.toNat) ((x107, r91.2) : (List Str) × (List Int)) fun x113 s112 => (M_l_next (s112.2) (26 : Int)).bind fun r116 => (some (r116.1 : Int)).bind fun x117 => (M_l_next (r116.2) (3 : Int)).bind fun r119 => (some (((1 : Int) + (r119.1)) : Int)).bind fun x120 => (M_l_next (r119.2) (3 : Int)).bind fun r122 => grd (x105.length ≤ sizeLine) ((some ((cutS x105 (some ((26 : Int) - (r122.1))) (some (26 : Int))) : Str)).bind fun x123 => grd (x105.length ≤ sizeLine) (grd (("7305186429" : Str).length ≤ sizeLine) ((atI ("7305186429" : Str).cps.toList x113).bind fun x125 => grd ((cutS x105 (some x117) (some (x117 + x120))).length + (⟨#[x125]⟩ : Str).length ≤ sizeLine) (grd (((cutS x105 (some x117) (some (x117 + x120))) ++ (⟨#[x125]⟩ : Str)).length + x123.length ≤ sizeLine) (grd ((s112.1).length < sizeLine) (some (((s112.1) ++ [(((cutS x105 (some x117) (some (x117 + x120))) ++ (⟨#[x125]⟩ : Str)) ++ x123)]), r122.2)))))))).bind fun s114 => some (s114.1, s114.2))
@[irreducible] def M_l_pool (a1 : List Int) (a2 : Int) : Option ((List Int) × (List Int)) :=
  (M_l_next a1 (9 : Int)).bind fun r127 => (some ([((r127.1) - (4 : Int))] : List Int)).bind fun x128 => grd (rg (a2 - (1 : Int)) = true) ((forS (rngL 0 (a2 - (1 : Int)).toNat) ((x128, r127.2) : (List Int) × (List Int)) fun x134 s133 => (atI (s133.1) x134).bind fun x145 => (M_l_next (s133.2) (4 : Int)).bind fun r146 => grd (dv (3 : Int) = true) (grd ((sm (2 : Int) || sm ((r146.1) / (3 : Int))) = true) (grd ((s133.1).length < sizeLine) (some (((s133.1) ++ [((x145 + (1 : Int)) + ((2 : Int) * ((r146.1) / (3 : Int))))]), r146.2))))).bind fun s135 => (M_l_next (s135.2) (8 : Int)).bind fun r136 => (atI ([(1 : Int), (1 : Int), (1 : Int), (1 : Int), (1 : Int), (1 : Int), (7 : Int), ((10 : Int) ^ (9 : Int).toNat)]) (r136.1)).bind fun x137 => (some (x137 : Int)).bind fun x138 => (compM (s135.1) () (fun x141 s142 => if true = true then grd ((sm x141 || sm x138) = true) (some (some (x141 * x138), ())) else some (none, ()))).bind fun r144 => some (r144.1, r136.2))
@[irreducible] def M_l_part (a1 : List Int) (a2 : List Int) : Option ((List Int) × (List Int)) :=
  (compM a2 a1 (fun x149 s151 => (M_l_next s151 (3 : Int)).bind fun r153 => if (decide ((0 : Int) < (r153.1))) = true then some (some x149, r153.2) else some (none, r153.2))).bind fun r154 => some (r154.1, r154.2)
@[irreducible] def M_l_scope (a1 : List Int) (a2 : List Str) (a3 : Int) : Option ((List Str) × (List Int)) :=
  (some (a2 : List Str)).bind fun x155 => grd (rg (a2.length : Int) = true) ((forS (rngL 0 (a2.length : Int).toNat) ((x155, a1) : (List Str) × (List Int)) fun x159 s158 => (M_l_next (s158.2) ((a2.length : Int) - x159)).bind fun r162 => (some ((x159 + (r162.1)) : Int)).bind fun x163 => (atI (s158.1) x163).bind fun x165 => grd ((cutL (s158.1) none (some x159)).length + ([x165]).length ≤ sizeLine) (grd (((cutL (s158.1) none (some x159)) ++ ([x165])).length + (cutL (s158.1) (some x159) (some x163)).length ≤ sizeLine) (grd ((((cutL (s158.1) none (some x159)) ++ ([x165])) ++ (cutL (s158.1) (some x159) (some x163))).length + (cutL (s158.1) (some (x163 + (1 : Int))) none).length ≤ sizeLine) ((some (((((cutL (s158.1) none (some x159)) ++ ([x165])) ++ (cutL (s158.1) (some x159) (some x163))) ++ (cutL (s158.1) (some (x163 + (1 : Int))) none)) : List Str)).bind fun x166 => some (x166, r162.2))))).bind fun s160 => (M_l_next (s160.2) (min a3 (a2.length : Int))).bind fun r161 => some ((cutL (s160.1) none (some ((1 : Int) + (r161.1)))), r161.2))
@[irreducible] def M_l_assignments (a1 : List Str) (a2 : List (Str × List Int)) : Option (List (List (Str × Int))) :=
  (some ([([] : List (Str × Int))] : List (List (Str × Int)))).bind fun x168 => (forS a1 (x168 : (List (List (Str × Int)))) fun x172 s171 => (some ([] : List (List (Str × Int)))).bind fun x174 => (forS s171 (x174 : (List (List (Str × Int)))) fun x180 s179 => (dget a2 x172).bind fun x184 => (forS x184 (s179 : (List (List (Str × Int)))) fun x187 s186 => (some (x180 : List (Str × Int))).bind fun x189 => grd (x189.length < sizeLine) (grd (s186.length < sizeLine) (some (s186 ++ [(dput x189 x172 x187)])))).bind fun s188 => some s188).bind fun s181 => (some (s181 : List (List (Str × Int)))).bind fun x182 => some x182).bind fun s173 => some s173
@[irreducible] def M_l_is_side (a1 : List Int) : Option (Bool) :=
  ((if (!true) = true then some (true, ()) else (compM a1 () (fun x204 s206 => if true = true then (M_l_is_integer x204).bind fun r208 => some (some r208, ()) else some (none, ()))).bind fun r209 => some ((!((r209.1).all id)), ()))).bind fun c210 => if c210.1 = true then some false else grd (rg ((a1.length : Int) - (1 : Int)) = true) ((compM (rngL 0 ((a1.length : Int) - (1 : Int)).toNat) () (fun x213 s216 => if true = true then (atI a1 x213).bind fun x218 => (atI a1 (x213 + (1 : Int))).bind fun x219 => some (some (decide (x218 < x219)), ()) else some (none, ()))).bind fun r220 => some ((r220.1).all id))
@[irreducible] def M_l_same_sides (a1 : List (Str × List Int)) (a2 : List (Str × List Int)) : Option (Bool) :=
  if ((!true) || (!decide ((a1.length : Int) = (a2.length : Int)))) = true then some false else (compM (a2.map Prod.fst) () (fun x223 s230 => ((if (dhas a1 x223) = true then (dget a1 x223).bind fun x235 => (M_l_is_side x235).bind fun r236 => some (r236, ()) else some (false, ()))).bind fun c237 => if c237.1 = true then some (some x223, ()) else some (none, ()))).bind fun r238 => (some (r238.1 : List Str)).bind fun x239 => ((if (decide ((x239.length : Int) = (a2.length : Int))) = true then (compM x239 () (fun x254 s257 => if true = true then (dget a1 x254).bind fun x259 => (dget a2 x254).bind fun x260 => some (some (decide (x259 = x260)), ()) else some (none, ()))).bind fun r261 => some (((r261.1).all id), ()) else some (false, ()))).bind fun c262 => some (c262.1)
@[irreducible] def M_l_copy (a1 : List (Str × List Int)) : Option (List (Str × List Int)) :=
  (some (([] : List (Str × List Int)) : List (Str × List Int))).bind fun x263 => (forS (a1.map Prod.fst) (x263 : (List (Str × List Int))) fun x269 s268 => (dget a1 x269).bind fun x272 => grd (s268.length < sizeLine) (some (dput s268 x269 x272))).bind fun s270 => some s270
@[irreducible] def M_l_weights (a1 : List Int) (a2 : List Str) : Option ((List (Int × Str)) × (List Int)) :=
  (some ([] : List (Int × Str))).bind fun x274 => (M_l_next a1 (8 : Int)).bind fun r278 => (atI ([(1 : Int), (1 : Int), (1 : Int), (1 : Int), (1 : Int), (1 : Int), (1 : Int), ((10 : Int) ^ (5 : Int).toNat)]) (r278.1)).bind fun x279 => (some (x279 : Int)).bind fun x280 => if (decide ((a2.length : Int) = (0 : Int))) = true then some (x274, r278.2) else (M_l_scope (r278.2) a2 (6 : Int)).bind fun r284 => (forS (r284.1) ((x274, r284.2) : (List (Int × Str)) × (List Int)) fun x287 s286 => (M_l_next (s286.2) (6 : Int)).bind fun r290 => (if (decide ((0 : Int) < (r290.1))) = true then (M_l_next (r290.2) (4 : Int)).bind fun r293 => (M_l_next (r293.2) (2 : Int)).bind fun r294 => (atI ([(1 : Int), (-(1 : Int))]) (r294.1)).bind fun x295 => grd ((sm (r293.1) || sm x295) = true) ((some (((r293.1) * x295) : Int)).bind fun x296 => grd ((sm x296 || sm x280) = true) (grd ((s286.1).length < sizeLine) (some (((s286.1) ++ [((x296 * x280), x287)]), r294.2)))) else some (s286.1, r290.2)).bind fun s292 => some (s292.1, s292.2)).bind fun s288 => some (s288.1, s288.2)
@[irreducible] def M_l_spoilt (a1 : List Int) (a2 : List (Int × Str)) (a3 : Str) : Option ((List (Int × Str)) × (List Int)) :=
  (some (a2 : List (Int × Str))).bind fun x299 => (M_l_next a1 (2 : Int)).bind fun r301 => grd (rg ((1 : Int) + (r301.1)) = true) ((forS (rngL 0 ((1 : Int) + (r301.1)).toNat) ((x299, r301.2) : (List (Int × Str)) × (List Int)) fun x304 s303 => (M_l_next (s303.2) (((s303.1).length : Int) + (1 : Int))).bind fun r306 => (some (r306.1 : Int)).bind fun x307 => (some (a3 : Str)).bind fun x309 => ((if (decide ((0 : Int) < ((s303.1).length : Int))) = true then (M_l_next (r306.2) (2 : Int)).bind fun r313 => some ((decide ((r313.1) = (0 : Int))), r313.2) else some (false, r306.2))).bind fun c314 => (if c314.1 = true then (M_l_next (c314.2) ((s303.1).length : Int)).bind fun r320 => (atI (s303.1) (r320.1)).bind fun x321 => (some (x321.2 : Str)).bind fun x322 => some (x322, r320.2) else some (x309, c314.2)).bind fun s316 => (M_l_next (s316.2) (7 : Int)).bind fun r317 => grd ((cutL (s303.1) none (some x307)).length + ([(((r317.1) - (3 : Int)), s316.1)]).length ≤ sizeLine) (grd (((cutL (s303.1) none (some x307)) ++ ([(((r317.1) - (3 : Int)), s316.1)])).length + (cutL (s303.1) (some x307) none).length ≤ sizeLine) ((some ((((cutL (s303.1) none (some x307)) ++ ([(((r317.1) - (3 : Int)), s316.1)])) ++ (cutL (s303.1) (some x307) none)) : List (Int × Str))).bind fun x318 => some (x318, r317.2)))).bind fun s305 => some (s305.1, s305.2))
@[irreducible] def M_l_fault (a1 : List Str) (a2 : List (Int × Str)) : Option (List Str) :=
  grd (rg (a2.length : Int) = true) ((forL (rngL 0 (a2.length : Int).toNat) (() : Unit) fun x326 s325 => (atI a2 x326).bind fun x328 => if (!decide ((x328.2) ∈ a1)) = true then inB ((atI a2 x326).bind fun x330 => some (Tm.rt ([("unknown" : Str), x330.2]))) else grd (rg x326 = true) ((forL (rngL 0 x326.toNat) (() : Unit) fun x333 s332 => (atI a2 x333).bind fun x335 => (atI a2 x326).bind fun x336 => if (decide ((x335.2) = (x336.2))) = true then inB ((atI a2 x326).bind fun x338 => some (Tm.rt ([("repeated" : Str), x338.2]))) else some (Bo.nx ())).bind (boK (fun s334 => some (Bo.nx ())) (fun r => Bo.tm (Tm.rt r))))).bind (boK (fun s327 => some ([])) id))
@[irreducible] def M_l_same_terms (a1 : List (Int × Str)) (a2 : List (Int × Str)) : Option (Bool) :=
  if ((!true) || (!decide ((a1.length : Int) = (a2.length : Int)))) = true then some false else grd (rg (a2.length : Int) = true) ((forL (rngL 0 (a2.length : Int).toNat) (() : Unit) fun x342 s341 => (atI a1 x342).bind fun x345 => ((if (!true) = true then some (true, ()) else (atI a1 x342).bind fun x350 => ((if (!decide ((2 : Int) = (2 : Int))) = true then some (true, ()) else (atI a1 x342).bind fun x354 => (M_l_is_integer (x354.1)).bind fun r355 => some ((!r355), ()))).bind fun c356 => some (c356.1, ()))).bind fun c357 => if c357.1 = true then inB (some (Tm.rt false)) else (atI a1 x342).bind fun x360 => ((if (!true) = true then some (true, ()) else (atI a1 x342).bind fun x364 => (atI a2 x342).bind fun x365 => grd (okG (dgT2 dgInt dgStr) x364 x365 = true) (some ((!decide (x364 = x365)), ())))).bind fun c366 => if c366.1 = true then inB (some (Tm.rt false)) else some (Bo.nx ())).bind (boK (fun s343 => some true) id))
@[irreducible] def M_l_totals (a1 : List (Int × Str)) (a2 : List Str) (a3 : List (Str × List Int)) (a4 : Str) : Option (List Int) :=
  (some ([] : List Int)).bind fun x387 => (M_l_assignments a2 a3).bind fun r391 => (forL r391 (x387 : (List Int)) fun x394 s393 => (some ((0 : Int) : Int)).bind fun x397 => (forS a1 (x397 : Int) fun x401 s400 => (dget x394 (x401.2)).bind fun x426 => grd ((sm (x401.1) || sm x426) = true) ((some ((s400 + ((x401.1) * x426)) : Int)).bind fun x427 => some x427)).bind fun s402 => (some (x394 : List (Str × Int))).bind fun x403 => (if (dhas a3 a4) = true then grd (x403.length < sizeLine) (some (dput x403 a4 (7 : Int))) else some x403).bind fun s408 => (some (a1 : List (Int × Str))).bind fun x409 => (some (s408 : List (Str × Int))).bind fun x411 => (M_worth_of x409 x411).bind fun r413 => (some (r413 : Int)).bind fun x414 => (M_l_is_integer x414).bind fun r416 => ((if (!r416) = true then some (true, ()) else ((if (!decide (x414 = s402)) = true then some (true, ()) else grd (okG (dgL (dgT2 dgInt dgStr)) x409 a1 = true) (((if (!decide (x409 = a1)) = true then some (true, ()) else some ((!deq x411 s408), ()))).bind fun c420 => some (c420.1, ())))).bind fun c421 => some (c421.1, ()))).bind fun c422 => if c422.1 = true then inB (some (Tm.rt ([]))) else grd (s393.length < sizeLine) (some (Bo.nx (s393 ++ [s402])))).bind (boK (fun s395 => some s395) id)
@[irreducible] def M_l_bounds (a1 : List (Int × Str)) (a2 : List (Str × List Int)) (a3 : Int) (a4 : Int) : Option (Bool) :=
  (some (a1 : List (Int × Str))).bind fun x429 => (M_l_copy a2).bind fun r431 => (some (r431 : List (Str × List Int))).bind fun x432 => grd (rg (2 : Int) = true) ((forL (rngL 0 (2 : Int).toNat) (() : Unit) fun x436 s435 => (M_best_in x429 x432 (false : Bool)).bind fun r438 => (some (r438 : Int)).bind fun x439 => (M_best_in x429 x432 false).bind fun r441 => (some (r441 : Int)).bind fun x442 => (M_best_in x429 x432 true).bind fun r444 => (some (r444 : Int)).bind fun x445 => (M_l_is_integer x439).bind fun r447 => ((if (!r447) = true then some (true, ()) else (M_l_is_integer x442).bind fun r451 => ((if (!r451) = true then some (true, ()) else (M_l_is_integer x445).bind fun r454 => some ((!r454), ()))).bind fun c455 => some (c455.1, ()))).bind fun c456 => if c456.1 = true then inB (some (Tm.rt false)) else if ((!decide (x439 = a3)) || ((!decide (x442 = a3)) || (!decide (x445 = a4)))) = true then inB (some (Tm.rt false)) else grd (okG (dgL (dgT2 dgInt dgStr)) x429 a1 = true) (((if (!decide (x429 = a1)) = true then some (true, ()) else (M_l_same_sides x432 a2).bind fun r461 => some ((!r461), ()))).bind fun c462 => if c462.1 = true then inB (some (Tm.rt false)) else some (Bo.nx ()))).bind (boK (fun s437 => some true) id))
@[irreducible] def M_Puzzle_inner_add (a1 : List Empty) : Option Unit :=
  (forS a1 () (fun (x : Empty) (_ : Unit) => (nomatch x : Option Unit))).bind fun (_ : Unit) => some ()
@[irreducible] def M_Puzzle___contains__ (a1 : ((List (Str × List Int)) × (List Str) × Int × (List (Str × Empty)) × (List Str))) (a2 : Str) : Option (Bool) :=
  some (dhas a1.1 a2)
@[irreducible] def M_checked_worth (a1 : ((List (Str × List Int)) × (List Str) × Int × (List (Str × Empty)) × (List Str))) (a2 : List (Int × Str)) : Option (Except Er (List (Int × Str))) :=
  (some ([] : List Str)).bind fun x539 => (some ([] : List (Int × Str))).bind fun x543 => (forL a2 ((x543, x539) : (List (Int × Str)) × (List Str)) fun x549 s548 => (M_Puzzle___contains__ a1 (x549.2)).bind fun r552 => if (!r552) = true then inB (some ((fun e => Tm.rt ((Except.error) e)) (⟨"UnknownName", [.str (x549.2)]⟩ : Er))) else if (decide ((x549.2) ∈ (s548.2))) = true then inB (some ((fun e => Tm.rt ((Except.error) e)) (⟨"RepeatedName", [.str (x549.2)]⟩ : Er))) else grd ((s548.2).length < sizeLine) (grd ((s548.1).length < sizeLine) (some (Bo.nx (((s548.1) ++ [(x549.1, x549.2)]), ((s548.2) ++ [x549.2])))))).bind (boK (fun s550 => some (Except.ok (ε := Er) (s550.1))) id)
@[irreducible] def M_l_checked (a1 : ((List (Str × List Int)) × (List Str) × Int × (List (Str × Empty)) × (List Str))) (a2 : List Str) (a3 : List (Int × Str)) : Option (Bool) :=
  (some ([] : List Str)).bind fun x557 => (some (a3 : List (Int × Str))).bind fun x559 => (some ([] : List (Int × Str))).bind fun x561 => ((M_checked_worth a1 x559).bind (xK (fun e => Bo.tm ((Except.error) e)) fun r576 => (some (r576 : List (Int × Str))).bind fun x577 => some (Bo.nx (x557, x577)))).bind (tryK2 (fun s565 => grd (okG (dgL (dgT2 dgInt dgStr)) x559 a3 = true) (((if (!decide (x559 = a3)) = true then some (true, ()) else (M_l_fault a2 a3).bind fun r569 => grd (okG (dgL dgStr) (s565.1) r569 = true) (some ((!decide ((s565.1) = r569)), ())))).bind fun c570 => if c570.1 = true then some false else if (decide ((0 : Int) < ((s565.1).length : Int))) = true then some true else (M_l_same_terms (s565.2) a3).bind fun r573 => if (!r573) = true then some false else grd (okG (dgL (dgT2 dgInt dgStr)) x559 a3 = true) (some (decide (x559 = a3))))) id (fun e => subC e.cn "UnknownName") (fun e580 => ((if (!(subC e580.cn "DeskError")) = true then some (true, ()) else ((if (!(subC e580.cn "ValueError")) = true then some (true, ()) else (erF e580 "name").bind fun y593 => (FV.str? y593).bind fun z594 => some ((!true), ()))).bind fun c595 => some (c595.1, ()))).bind fun c596 => if c596.1 = true then inB (some false) else if ((["RepeatedName", "UnknownValue", "RepeatedValue", "UnknownKey", "RepeatedKey", "EmptyRule", "BadRow"] : List Str).any (subC e580.cn)) = true then inB (some false) else if ((["BadBounds", "BadNumber", "BadStep", "NoMark", "NotStruck", "BadOrder", "NotBare", "NoClash", "HoldsAnswer"] : List Str).any (subC e580.cn)) = true then inB (some false) else if ((["BadLine", "UnknownLine", "BadText", "NothingToUndo", "NothingToRedo", "UnknownStep", "BadDeed"] : List Str).any (subC e580.cn)) = true then inB (some false) else (erF e580 "name").bind fun y601 => (FV.str? y601).bind fun z602 => (some ([("unknown" : Str), z602] : List Str)).bind fun x603 => some (Bo.nx (x603, x561))) (fun e => subC e.cn "RepeatedName") (fun e605 => ((if (!(subC e605.cn "DeskError")) = true then some (true, ()) else ((if (!(subC e605.cn "ValueError")) = true then some (true, ()) else (erF e605 "name").bind fun y618 => (FV.str? y618).bind fun z619 => some ((!true), ()))).bind fun c620 => some (c620.1, ()))).bind fun c621 => if c621.1 = true then inB (some false) else if ((["UnknownName", "UnknownValue", "RepeatedValue", "UnknownKey", "RepeatedKey", "EmptyRule", "BadRow"] : List Str).any (subC e605.cn)) = true then inB (some false) else if ((["BadBounds", "BadNumber", "BadStep", "NoMark", "NotStruck", "BadOrder", "NotBare", "NoClash"] : List Str).any (subC e605.cn)) = true then inB (some false) else if ((["HoldsAnswer", "BadLine", "UnknownLine", "BadText", "NothingToUndo", "NothingToRedo"] : List Str).any (subC e605.cn)) = true then inB (some false) else if ((["UnknownStep", "BadDeed"] : List Str).any (subC e605.cn)) = true then inB (some false) else (erF e605 "name").bind fun y627 => (FV.str? y627).bind fun z628 => (some ([("repeated" : Str), z628] : List Str)).bind fun x629 => some (Bo.nx (x629, x561))) (fun _ => none))
@[irreducible] def M_Puzzle___init__ (a1 : List (Str × List Int)) (a2 : List Empty) : Option (Except Er ((List (Str × List Int)) × (List Str) × Int × (List (Str × Empty)) × (List Str))) :=
  (M_checked_domains a1).bind (xK (Except.error) fun r700 => (M_room (dmk r700)).bind fun r703 => (M_Puzzle_inner_add a2).bind fun _ => some (Except.ok (ε := Er) ((dmk r700), ((dmk r700).map Prod.fst), r703, ([] : List (Str × Empty)), (([] : List (Str × Empty)).map Prod.fst))))
@[irreducible] def M_law_c18 (x722 : List Str) (x716 : Int) (x782 : List Int) (x763 : List (Int × Str)) (x779 : ((List (Str × List Int)) × (List Str) × Int × (List (Str × Empty)) × (List Str))) (x727 : List Str) : Option (Bool) :=
  (atI x722 x716).bind fun x786 => (M_l_spoilt x782 x763 x786).bind fun r787 => (some (r787.1 : List (Int × Str))).bind fun x788 => (atI x722 x716).bind fun x790 => (M_l_spoilt (r787.2) x763 x790).bind fun r791 => (some (r791.1 : List (Int × Str))).bind fun x792 => (forL ([x763, x788, x792, x763]) (() : Unit) fun x796 s795 => (M_l_checked x779 x727 x796).bind fun r798 => if (!r798) = true then inB (some (Tm.rt false)) else some (Bo.nx ())).bind (boK (fun s797 => some true) id)
@[irreducible] def M_law_c12 (s745 : (List (Str × List Int)) × (List Int)) (x725 : List Int) (x722 : List Str) (x716 : Int) (a1 : List Int) (x727 : List Str) (x753 : List (Str × List Int)) : Option (Bool) :=
  (M_l_next (s745.2) (2 : Int)).bind fun r757 => (if (decide ((r757.1) = (0 : Int))) = true then (M_l_part (r757.2) x725).bind fun r800 => (atI x722 (x716 + (1 : Int))).bind fun x801 => grd ((s745.1).length < sizeLine) (some ((dput (s745.1) x801 (r800.1)), r800.2)) else some (s745.1, r757.2)).bind fun s759 => (M_l_stream a1 (2 : Int)).bind fun r760 => (M_l_weights r760 x727).bind fun r762 => (some (r762.1 : List (Int × Str))).bind fun x763 => (atI x722 (x716 + (1 : Int))).bind fun x765 => (M_l_totals x763 x727 (s759.1) x765).bind fun r766 => (some (r766 : List Int)).bind fun x767 => ((if (decide ((x767.length : Int) = (0 : Int))) = true then some (true, ()) else (minI x767).bind fun m773 => (maxI x767).bind fun m774 => (M_l_bounds x763 (s759.1) m773 m774).bind fun r775 => some ((!r775), ()))).bind fun c776 => if c776.1 = true then some false else ((M_Puzzle___init__ x753 ([])).bind okx).bind fun r778 => (some (r778 : ((List (Str × List Int)) × (List Str) × Int × (List (Str × Empty)) × (List Str)))).bind fun x779 => (M_l_stream a1 (3 : Int)).bind fun r781 => (some (r781 : List Int)).bind fun x782 => M_law_c18 x722 x716 x782 x763 x779 x727
@[irreducible] def M_law_c6 (a1 : List Int) (x716 : Int) (x727 : List Str) (x725 : List Int) (x719 : Int) (x722 : List Str) : Option (Bool) :=
  (M_l_stream a1 (1 : Int)).bind fun r729 => (some (r729 : List Int)).bind fun x730 => (some ((4 : Int) : Int)).bind fun x734 => (if (decide (x716 = (6 : Int))) = true then (some ((2 : Int) : Int)).bind fun x813 => some x813 else some x734).bind fun s737 => (some (([] : List (Str × List Int)) : List (Str × List Int))).bind fun x738 => (forS x727 ((x738, x730) : (List (Str × List Int)) × (List Int)) fun x744 s743 => (M_l_part (s743.2) x725).bind fun r803 => (some ((cutL (r803.1) none (some s737)) : List Int)).bind fun x804 => (if (decide ((x804.length : Int) = (0 : Int))) = true then (M_l_next (r803.2) x719).bind fun r809 => (atI x725 (r809.1)).bind fun x810 => (some ([x810] : List Int)).bind fun x811 => some (x811, r809.2) else some (x804, r803.2)).bind fun s807 => grd ((s743.1).length < sizeLine) (some ((dput (s743.1) x744 (s807.1)), s807.2))).bind fun s745 => (compM x727 () (fun x747 s749 => if true = true then (dget (s745.1) x747).bind fun x751 => some (some (x747, x751), ()) else some (none, ()))).bind fun r752 => (some (r752.1 : List (Str × List Int))).bind fun x753 => M_law_c12 s745 x725 x722 x716 a1 x727 x753
@[irreducible] def M_law (a1 : List Int) : Option (Bool) :=
  (M_l_stream a1 (0 : Int)).bind fun r709 => (some (r709 : List Int)).bind fun x710 => (M_l_next x710 (10 : Int)).bind fun r714 => (atI ([(2 : Int), (3 : Int), (4 : Int), (4 : Int), (1 : Int), (2 : Int), (3 : Int), (1 : Int), (0 : Int), (6 : Int)]) (r714.1)).bind fun x715 => (some (x715 : Int)).bind fun x716 => (M_l_next (r714.2) (4 : Int)).bind fun r718 => (some (((2 : Int) + (r718.1)) : Int)).bind fun x719 => (M_l_names (r718.2) (x716 + (2 : Int))).bind fun r721 => (some (r721.1 : List Str)).bind fun x722 => (M_l_pool (r721.2) x719).bind fun r724 => (some (r724.1 : List Int)).bind fun x725 => (some ((cutL x722 none (some x716)) : List Str)).bind fun x727 => M_law_c6 a1 x716 x727 x725 x719 x722
end My
end
section
set_option maxHeartbeats 4000000
set_option synthInstance.maxSize 2000
namespace My
open PySem PySem.Spec PyProof.Rows L2 L3
abbrev FnP (K : PySem.W.Frag) (x : Str) (st : Stmt) (f : Addr) (fd : FuncData) : Prop := FunD K x x (defArgs st) (defBody st) (defScope st) [] [] f fd
abbrev I_Puzzle (mg : Str → Option Value) (z_ : ((List (Str × List Int)) × (List Str) × Int × (List (Str × Empty)) × (List Str))) : Pd := pI mg "Puzzle" ["inner_sides", "names", "room", "inner_rules", "rule_keys"] [(pM (κ := Str) (pL pInt)) z_.1, (pTN pStr) z_.2.1, pInt z_.2.2.1, (pM (κ := Str) pE0) z_.2.2.2.1, (pTN pStr) z_.2.2.2.2]
abbrev O_Puzzle (mg : Str → Option Value) (z_ : ((List (Str × List Int)) × (List Str) × Int × (List (Str × Empty)) × (List Str))) : Od := oI mg "Puzzle" ["inner_sides", "names", "room", "inner_rules", "rule_keys"] [(pM (κ := Str) (pL pInt)) z_.1, (pTN pStr) z_.2.1, pInt z_.2.2.1, (pM (κ := Str) pE0) z_.2.2.2.1, (pTN pStr) z_.2.2.2.2]
structure Ev (P : Program) (K : PySem.W.Frag) (mg : Str → Option Value) : Prop where
  xs : XsT P K mg rsL csL
  c_Puzzle : ∃ (C f : Addr) (fd : FuncData), mg "Puzzle" = some (.ref C) ∧ Cls K C ∧ Mk K C f ∧ FunD K "__init__" "Puzzle.__init__" (defArgs (mth 38 0)) (defBody (mth 38 0)) (defScope (mth 38 0)) [] [] f fd ∧ NoAttr K C "inner_sides" ∧ NoAttr K C "names" ∧ NoAttr K C "room" ∧ NoAttr K C "inner_rules" ∧ NoAttr K C "rule_keys"
  f__wall : ∃ (f : Addr) (fd : FuncData), FnP K "_wall" (top 0) f fd ∧ mg "_wall" = some (.ref f)
  f_checked_worth : ∃ (f : Addr) (fd : FuncData), FnP K "checked_worth" (top 28) f fd ∧ mg "checked_worth" = some (.ref f)
  f_worth_of : ∃ (f : Addr) (fd : FuncData), FnP K "worth_of" (top 29) f fd ∧ mg "worth_of" = some (.ref f)
  f_best_in : ∃ (f : Addr) (fd : FuncData), FunD K "best_in" "best_in" (defArgs (top 30)) (defBody (top 30)) (defScope (top 30)) [] [("greatest", .bl false)] f fd ∧ mg "best_in" = some (.ref f)
  f_side_of : ∃ (f : Addr) (fd : FuncData), FnP K "side_of" (top 32) f fd ∧ mg "side_of" = some (.ref f)
  f_copy_box : ∃ (f : Addr) (fd : FuncData), FnP K "copy_box" (top 34) f fd ∧ mg "copy_box" = some (.ref f)
  f_room : ∃ (f : Addr) (fd : FuncData), FnP K "room" (top 35) f fd ∧ mg "room" = some (.ref f)
  f_checked_domains : ∃ (f : Addr) (fd : FuncData), FnP K "checked_domains" (top 37) f fd ∧ mg "checked_domains" = some (.ref f)
  f_l_is_integer : ∃ (f : Addr) (fd : FuncData), FnP K "_law_is_integer" (top 40) f fd ∧ mg "_law_is_integer" = some (.ref f)
  f_l_stream : ∃ (f : Addr) (fd : FuncData), FnP K "_law_stream" (top 41) f fd ∧ mg "_law_stream" = some (.ref f)
  f_l_next : ∃ (f : Addr) (fd : FuncData), FnP K "_law_next" (top 42) f fd ∧ mg "_law_next" = some (.ref f)
  f_l_names : ∃ (f : Addr) (fd : FuncData), FnP K "_law_names" (top 43) f fd ∧ mg "_law_names" = some (.ref f)
  f_l_pool : ∃ (f : Addr) (fd : FuncData), FnP K "_law_pool" (top 44) f fd ∧ mg "_law_pool" = some (.ref f)
  f_l_part : ∃ (f : Addr) (fd : FuncData), FnP K "_law_part" (top 45) f fd ∧ mg "_law_part" = some (.ref f)
  f_l_scope : ∃ (f : Addr) (fd : FuncData), FnP K "_law_scope" (top 46) f fd ∧ mg "_law_scope" = some (.ref f)
  f_l_assignments : ∃ (f : Addr) (fd : FuncData), FnP K "_law_assignments" (top 47) f fd ∧ mg "_law_assignments" = some (.ref f)
  f_l_is_side : ∃ (f : Addr) (fd : FuncData), FnP K "_law_is_side" (top 48) f fd ∧ mg "_law_is_side" = some (.ref f)
  f_l_same_sides : ∃ (f : Addr) (fd : FuncData), FnP K "_law_same_sides" (top 49) f fd ∧ mg "_law_same_sides" = some (.ref f)
  f_l_copy : ∃ (f : Addr) (fd : FuncData), FnP K "_law_copy" (top 50) f fd ∧ mg "_law_copy" = some (.ref f)
  f_l_weights : ∃ (f : Addr) (fd : FuncData), FnP K "_law_weights" (top 51) f fd ∧ mg "_law_weights" = some (.ref f)
  f_l_spoilt : ∃ (f : Addr) (fd : FuncData), FnP K "_law_spoilt" (top 52) f fd ∧ mg "_law_spoilt" = some (.ref f)
  f_l_fault : ∃ (f : Addr) (fd : FuncData), FnP K "_law_fault" (top 53) f fd ∧ mg "_law_fault" = some (.ref f)
  f_l_same_terms : ∃ (f : Addr) (fd : FuncData), FnP K "_law_same_terms" (top 54) f fd ∧ mg "_law_same_terms" = some (.ref f)
  f_l_checked : ∃ (f : Addr) (fd : FuncData), FnP K "_law_checked" (top 55) f fd ∧ mg "_law_checked" = some (.ref f)
  f_l_totals : ∃ (f : Addr) (fd : FuncData), FnP K "_law_totals" (top 56) f fd ∧ mg "_law_totals" = some (.ref f)
  f_l_bounds : ∃ (f : Addr) (fd : FuncData), FnP K "_law_bounds" (top 57) f fd ∧ mg "_law_bounds" = some (.ref f)
  f_Puzzle_inner_add : ∃ (C f : Addr) (fd : FuncData), mg "Puzzle" = some (.ref C) ∧ Cls K C ∧ Meth K C "inner_add" f ∧ FunD K "inner_add" "Puzzle.inner_add" (defArgs (mth 38 1)) (defBody (mth 38 1)) (defScope (mth 38 1)) [] [] f fd
  f_Puzzle___contains__ : ∃ (C f : Addr) (fd : FuncData), mg "Puzzle" = some (.ref C) ∧ Cls K C ∧ Meth K C "__contains__" f ∧ FunD K "__contains__" "Puzzle.__contains__" (defArgs (mth 38 3)) (defBody (mth 38 3)) (defScope (mth 38 3)) [] [] f fd
  m_ValueError : mg "ValueError" = none
  m_all : mg "all" = none
  m_bool : mg "bool" = none
  m_dict : mg "dict" = none
  m_int : mg "int" = none
  m_isinstance : mg "isinstance" = none
  m_iter : mg "iter" = none
  m_len : mg "len" = none
  m_list : mg "list" = none
  m_max : mg "max" = none
  m_min : mg "min" = none
  m_range : mg "range" = none
  m_set : mg "set" = none
  m_sorted : mg "sorted" = none
  m_str : mg "str" = none
  m_sum : mg "sum" = none
  m_super : mg "super" = none
  m_tuple : mg "tuple" = none
end My
end
section
set_option maxHeartbeats 4000000
set_option synthInstance.maxSize 2000
namespace My
open PySem PySem.Spec PyProof.Rows L2 L3
section
variable {P : Program} {w : World} {K : PySem.W.Frag} {mg : Str → Option Value} {base : Heap}
theorem sc_worth_of : FnScope ["worth", "values", "coefficient", "name"] ["worth", "values"] (defScope (top 29)) := ⟨rfl, rfl, rfl, by decide +kernel, rfl, by decide +kernel, by decide +kernel⟩
theorem ok_worth_of {f : Addr} {fd : FuncData} (C : Ev P K mg) (FD : FnP K "worth_of" (top 29) f fd)   : FnOk P w K mg base CX0 1 f fd ["worth", "values"] (Sp_FF_f (pL (pT2 pInt pStr)) (pM (κ := Str) pInt) M_worth_of pInt) := by
  have m_sum := C.m_sum
  refine fn_FF_f FD sc_worth_of rfl fun cdv A outer s H E hr  a1 a2 => ?_
  exact s_is (s_T (T := (compM a1 () (fun x15 s17 => if true = true then (dget a2 (x15.2)).bind fun x19 => grd ((sm (x15.1) || sm x19) = true) (some (some ((x15.1) * x19), ())) else some (none, ()))).bind fun r20 => some ((r20.1).sum)) (s_ret (P := (fun _ => [])) (Rp := pInt) (ι := id) (rv := fun (b : (Unit × ((List Int) × Unit))) => ((b.2.1).sum)) (fun _ _ _ h => by exact h) (x_kd (x_kd (E := fun (b_ : (Unit × ((List Int) × Unit))) => pInt ((b_.2.1).sum)) (x_sum m_sum (x_kd (E := fun (b_ : (Unit × ((List Int) × Unit))) => (pL pInt) b_.2.1) (x_frz (o_kd (E := fun (b_ : (Unit × ((List Int) × Unit))) => (oL pInt) b_.2.1) (x_lc (own := [("coefficient", 2), ("name", 3)]) (C := fun (b_ : Unit) (s_ : Unit) => []) (s0 := fun (b_ : Unit) => ()) (s2 := fun (b_ : Unit) (x_ : (Int × Str)) (s_ : Unit) (c_ : Unit) => ()) (s3 := fun (b_ : Unit) (x_ : (Int × Str)) (s_ : Unit) (c_ : Unit) (d_ : (Unit × ((Unit × Unit) × Int))) => ()) (Ex := (pT2 pInt pStr)) (Ee := pInt) (δ := Int) (y := fun (b_ : Unit) (x_ : (Int × Str)) (s_ : Unit) (c_ : Unit) (d_ : (Unit × ((Unit × Unit) × Int))) => ((x_.1) * d_.2.2)) (T2 := fun (b_ : Unit) (x_ : (Int × Str)) (s_ : Unit) (c_ : Unit) => (dget a2 (x_.2)).bind fun x19 => grd ((sm (x_.1) || sm x19) = true) (some (some ((x_.1) * x19), ()))) (c := fun (b_ : Unit) (x_ : (Int × Str)) (s_ : Unit) (c_ : Unit) => true) (f := fun (b_ : Unit) (x_ : (Int × Str)) (s_ : Unit) => if true = true then (dget a2 (x_.2)).bind fun x19 => grd ((sm (x_.1) || sm x19) = true) (some (some ((x_.1) * x19), ())) else some (none, ())) sc_worth_of.nd (i_list (x_var (p := (pL (pT2 pInt pStr)) a1) 0)) (blkOk_by (own := [("coefficient", 2), ("name", 3)]) (N := ["worth", "values", "coefficient", "name"]) (sc := (defScope (top 29))) (by decide +kernel)) (fun _ _ _ _ _ => pg_tup rfl (pgs_cons (pg_name (i := 2) sc_worth_of.nd rfl (by first | exact .inl rfl | exact .inr rfl)) (pgs_cons (pg_name (i := 3) sc_worth_of.nd rfl (by first | exact .inl rfl | exact .inr rfl)) pgs_nil))) (tw_pair 2 3 (by decide)) (fun _ => rfl) (by exact fun q18 _ _ _ _ _ b14 x15 s17 => pts_T) (by exact fun q18 _ _ _ _ _ b14 x15 s17 _ => x_out (x_kd (E := fun (b_ : (Unit × ((Unit × Unit) × Int))) => pInt ((x15.1) * b_.2.2)) (x_mul (x_var (p := pInt x15.1) 2) (fun _ => x_kd (E := fun (b_ : ((Unit × Unit) × Int)) => pInt b_.2) (x_dget (κ := Str) (Ee := pInt) hr.units (x_var (p := (pM (κ := Str) pInt) a2) 1) (fun _ => x_var (p := pStr x15.2) 3) (fun _ _ => rdMF)))))))))) (fun _ => rdF)))) (fun _ => List.Sublist.refl _))) (by unfold M_worth_of; rfl)
end
end My
end
section
set_option maxHeartbeats 4000000
set_option synthInstance.maxSize 2000
namespace My
open PySem PySem.Spec PyProof.Rows L2 L3
section
variable {P : Program} {w : World} {K : PySem.W.Frag} {mg : Str → Option Value} {base : Heap}
theorem sc_best_in : FnScope ["worth", "box", "greatest", "total", "coefficient", "name", "value"] ["worth", "box", "greatest"] (defScope (top 30)) := ⟨rfl, rfl, rfl, by decide +kernel, rfl, by decide +kernel, by decide +kernel⟩
theorem ok_best_in {f : Addr} {fd : FuncData} (C : Ev P K mg) (FD : FunD K "best_in" "best_in" (defArgs (top 30)) (defBody (top 30)) (defScope (top 30)) [] [("greatest", .bl false)] f fd)   : FnOk P w K mg base CX0 1 f fd ["worth", "box", "greatest"] (Sp_FFF_f (pL (pT2 pInt pStr)) (pM (κ := Str) (pL pInt)) pBl M_best_in pInt) := by
  refine fn_FFF_f FD sc_best_in rfl fun cdv A outer s H E hr  a1 a2 a3 => ?_
  exact s_is (s_T (T := (some ((0 : Int) : Int)).bind fun x21 => (forS a1 (x21 : Int) fun x25 s24 => (dget a2 (x25.2)).bind fun x27 => (atI x27 (0 : Int)).bind fun x28 => (some (x28 : Int)).bind fun x29 => (if (decide ((decide ((0 : Int) < (x25.1))) = a3)) = true then (dget a2 (x25.2)).bind fun x35 => (atI x35 (-(1 : Int))).bind fun x36 => (some (x36 : Int)).bind fun x37 => some x37 else some x29).bind fun s32 => grd ((sm (x25.1) || sm s32) = true) ((some ((s24 + ((x25.1) * s32)) : Int)).bind fun x33 => some x33)).bind fun s26 => some s26) (s_let (i := 3) pInt sc_best_in.nd (x_int (i := 0)) fun (b22 : Unit) x21 => s_T (T := (forS a1 (x21 : Int) fun x25 s24 => (dget a2 (x25.2)).bind fun x27 => (atI x27 (0 : Int)).bind fun x28 => (some (x28 : Int)).bind fun x29 => (if (decide ((decide ((0 : Int) < (x25.1))) = a3)) = true then (dget a2 (x25.2)).bind fun x35 => (atI x35 (-(1 : Int))).bind fun x36 => (some (x36 : Int)).bind fun x37 => some x37 else some x29).bind fun s32 => grd ((sm (x25.1) || sm s32) = true) ((some ((s24 + ((x25.1) * s32)) : Int)).bind fun x33 => some x33)).bind fun s26 => some s26) (s_forS PassesOwn.never (fun (b_ : Unit) (s_ : Int) => ([some ((pL (pT2 pInt pStr)) a1), some ((pM (κ := Str) (pL pInt)) a2), some (pBl a3), some (pInt s_), none, none, none], [])) (fun (b_ : Unit) => x21) (i_list (x_var (p := (pL (pT2 pInt pStr)) a1) 0)) (pg_tup rfl (pgs_cons (pg_name (i := 4) sc_best_in.nd rfl (by first | exact .inl rfl | exact .inr rfl)) (pgs_cons (pg_name (i := 5) sc_best_in.nd rfl (by first | exact .inl rfl | exact .inr rfl)) pgs_nil))) (tg_pair 4 5) (fun _ => (by exact ⟨rfl, rfl, rfl, rfl, trivial⟩)) (fun _ => List.Sublist.refl _) (fun b23 x25 s24 => s_T (T := (dget a2 (x25.2)).bind fun x27 => (atI x27 (0 : Int)).bind fun x28 => (some (x28 : Int)).bind fun x29 => (if (decide ((decide ((0 : Int) < (x25.1))) = a3)) = true then (dget a2 (x25.2)).bind fun x35 => (atI x35 (-(1 : Int))).bind fun x36 => (some (x36 : Int)).bind fun x37 => some x37 else some x29).bind fun s32 => grd ((sm (x25.1) || sm s32) = true) ((some ((s24 + ((x25.1) * s32)) : Int)).bind fun x33 => some x33)) (s_let (i := 6) pInt sc_best_in.nd (x_kd (E := fun (b_ : ((((Unit × Unit) × (List Int)) × Unit) × Int)) => pInt b_.2) (x_ixL (Ee := pInt) (x_kd (E := fun (b_ : ((Unit × Unit) × (List Int))) => (pL pInt) b_.2) (x_dget (κ := Str) (Ee := (pL pInt)) hr.units (x_var (p := (pM (κ := Str) (pL pInt)) a2) 1) (fun _ => x_var (p := pStr x25.2) 5) (fun _ _ => rdMF))) (fun _ => x_int (i := 0)) (fun _ _ => rdF))) fun (b30 : ((((Unit × Unit) × (List Int)) × Unit) × Int)) x29 => s_T (T := (if (decide ((decide ((0 : Int) < (x25.1))) = a3)) = true then (dget a2 (x25.2)).bind fun x35 => (atI x35 (-(1 : Int))).bind fun x36 => (some (x36 : Int)).bind fun x37 => some x37 else some x29).bind fun s32 => grd ((sm (x25.1) || sm s32) = true) ((some ((s24 + ((x25.1) * s32)) : Int)).bind fun x33 => some x33)) (s_ifN (C := fun s_ : Int => ([some ((pL (pT2 pInt pStr)) a1), some ((pM (κ := Str) (pL pInt)) a2), some (pBl a3), some (pInt s24), some (pInt x25.1), some (pStr x25.2), some (pInt s_)], [])) (t_kd (c := fun (b_ : ((Unit × Unit) × Unit)) => (decide ((decide ((0 : Int) < (x25.1))) = a3))) (t_eqB (x_kd (E := fun (b_ : (Unit × Unit)) => pBl (decide ((0 : Int) < (x25.1)))) (x_gt (x_var (p := pInt x25.1) 4) (fun _ => x_int (i := 0)))) (fun _ => x_var (p := pBl a3) 2))) (fun (b31 : ((Unit × Unit) × Unit)) => s_T (T := (dget a2 (x25.2)).bind fun x35 => (atI x35 (-(1 : Int))).bind fun x36 => (some (x36 : Int)).bind fun x37 => some x37) (s_let (i := 6) pInt sc_best_in.nd (x_kd (E := fun (b_ : ((((Unit × Unit) × (List Int)) × Unit) × Int)) => pInt b_.2) (x_ixL (Ee := pInt) (x_kd (E := fun (b_ : ((Unit × Unit) × (List Int))) => (pL pInt) b_.2) (x_dget (κ := Str) (Ee := (pL pInt)) hr.units (x_var (p := (pM (κ := Str) (pL pInt)) a2) 1) (fun _ => x_var (p := pStr x25.2) 5) (fun _ _ => rdMF))) (fun _ => x_kd (E := fun (b_ : Unit) => pInt (-(1 : Int))) (x_neg (x_int (i := 1)))) (fun _ _ => rdF))) fun (b38 : ((((Unit × Unit) × (List Int)) × Unit) × Int)) x37 => s_end x37 rfl (by exact ⟨rfl, rfl, rfl, rfl, rfl, rfl, rfl, trivial⟩) (List.Sublist.refl _))) (fun (b31 : ((Unit × Unit) × Unit)) => s_end x29 rfl (by exact ⟨rfl, rfl, rfl, rfl, rfl, rfl, rfl, trivial⟩) (List.Sublist.refl _)) fun (b31 : ((Unit × Unit) × Unit)) s32 => s_T (T := grd ((sm (x25.1) || sm s32) = true) ((some ((s24 + ((x25.1) * s32)) : Int)).bind fun x33 => some x33)) (s_let (i := 3) pInt sc_best_in.nd (x_kd (E := fun (b_ : (Unit × (Unit × Unit))) => pInt (s24 + ((x25.1) * s32))) (x_add (x_var (p := pInt s24) 3) (fun _ => x_kd (E := fun (b_ : (Unit × Unit)) => pInt ((x25.1) * s32)) (x_mul (x_var (p := pInt x25.1) 4) (fun _ => x_var (p := pInt s32) 6))))) fun (b34 : (Unit × (Unit × Unit))) x33 => s_end x33 rfl (by exact ⟨rfl, rfl, rfl, rfl, trivial⟩) (List.Sublist.refl _))))) fun b23 s26 => s_T (T := some s26) (s_ret (P := (fun _ => [])) (Rp := pInt) (ι := id) (rv := fun (b : Unit) => s26) (fun _ _ _ h => by exact h) (x_var (p := pInt s26) 3) (fun _ => List.Sublist.refl _))))) (by unfold M_best_in; rfl)
end
end My
end
section
set_option maxHeartbeats 4000000
set_option synthInstance.maxSize 2000
namespace My
open PySem PySem.Spec PyProof.Rows L2 L3
section
variable {P : Program} {w : World} {K : PySem.W.Frag} {mg : Str → Option Value} {base : Heap}
theorem sc_side_of : FnScope ["values"] ["values"] (defScope (top 32)) := ⟨rfl, rfl, rfl, by decide +kernel, rfl, by decide +kernel, by decide +kernel⟩
theorem ok_side_of {f : Addr} {fd : FuncData} (C : Ev P K mg) (FD : FnP K "side_of" (top 32) f fd)   : FnOk P w K mg base CX0 1 f fd ["values"] (Sp_F_o (pL pInt) M_side_of (oL pInt)) := by
  have m_set := C.m_set
  have m_sorted := C.m_sorted
  refine fn_F_o FD sc_side_of rfl fun cdv A outer s H E hr  a1 => ?_
  exact s_is (s_T (T := grd (a1.length + 1 < scanBound) (some (sideL a1))) (s_retO (P := (fun _ => [])) (Ro := (oL pInt)) (ι := id) (rv := fun (b : Unit) => (sideL a1)) (fun _ _ _ h => by exact h) (o_kd (E := fun (b_ : Unit) => (oL pInt) (sideL a1)) (x_sortedSet m_sorted (x_set m_set (x_var (p := (pL pInt) a1) 0) (fun _ => rdF)))) (fun _ => List.Sublist.refl _))) (by unfold M_side_of; rfl)
end
end My
end
section
set_option maxHeartbeats 4000000
set_option synthInstance.maxSize 2000
namespace My
open PySem PySem.Spec PyProof.Rows L2 L3
section
variable {P : Program} {w : World} {K : PySem.W.Frag} {mg : Str → Option Value} {base : Heap}
theorem sc_room : FnScope ["box", "number", "name"] ["box"] (defScope (top 35)) := ⟨rfl, rfl, rfl, by decide +kernel, rfl, by decide +kernel, by decide +kernel⟩
theorem ok_room {f : Addr} {fd : FuncData} (C : Ev P K mg) (FD : FnP K "room" (top 35) f fd)   : FnOk P w K mg base CX0 1 f fd ["box"] (Sp_F_f (pM (κ := Str) (pL pInt)) M_room pInt) := by
  have m_len := C.m_len
  refine fn_F_f FD sc_room rfl fun cdv A outer s H E hr  a1 => ?_
  exact s_is (s_T (T := (some ((1 : Int) : Int)).bind fun x39 => (forS (a1.map Prod.fst) (x39 : Int) fun x43 s42 => (dget a1 x43).bind fun x45 => grd ((sm s42 || sm (x45.length : Int)) = true) ((some ((s42 * (x45.length : Int)) : Int)).bind fun x46 => some x46)).bind fun s44 => some s44) (s_let (i := 1) pInt sc_room.nd (x_int (i := 1)) fun (b40 : Unit) x39 => s_T (T := (forS (a1.map Prod.fst) (x39 : Int) fun x43 s42 => (dget a1 x43).bind fun x45 => grd ((sm s42 || sm (x45.length : Int)) = true) ((some ((s42 * (x45.length : Int)) : Int)).bind fun x46 => some x46)).bind fun s44 => some s44) (s_forS PassesOwn.never (fun (b_ : Unit) (s_ : Int) => ([some ((pM (κ := Str) (pL pInt)) a1), some (pInt s_), none], [])) (fun (b_ : Unit) => x39) (i_mkeys (κ := Str) (x_var (p := (pM (κ := Str) (pL pInt)) a1) 0)) (pg_name (i := 2) sc_room.nd rfl (by first | exact .inl rfl | exact .inr rfl)) (tg_name 2) (fun _ => (by exact ⟨rfl, rfl, trivial⟩)) (fun _ => List.Sublist.refl _) (fun b41 x43 s42 => s_T (T := (dget a1 x43).bind fun x45 => grd ((sm s42 || sm (x45.length : Int)) = true) ((some ((s42 * (x45.length : Int)) : Int)).bind fun x46 => some x46)) (s_let (i := 1) pInt sc_room.nd (x_kd (E := fun (b_ : (Unit × ((Unit × Unit) × (List Int)))) => pInt (s42 * (b_.2.2.length : Int))) (x_mul (x_var (p := pInt s42) 1) (fun _ => x_kd (E := fun (b_ : ((Unit × Unit) × (List Int))) => pInt (b_.2.length : Int)) (x_lenL (Ee := pInt) m_len (x_kd (E := fun (b_ : ((Unit × Unit) × (List Int))) => (pL pInt) b_.2) (x_dget (κ := Str) (Ee := (pL pInt)) hr.units (x_var (p := (pM (κ := Str) (pL pInt)) a1) 0) (fun _ => x_var (p := pStr x43) 2) (fun _ _ => rdMF))) (fun _ => rdF))))) fun (b47 : (Unit × ((Unit × Unit) × (List Int)))) x46 => s_end x46 rfl (by exact ⟨rfl, rfl, trivial⟩) (List.Sublist.refl _))) fun b41 s44 => s_T (T := some s44) (s_ret (P := (fun _ => [])) (Rp := pInt) (ι := id) (rv := fun (b : Unit) => s44) (fun _ _ _ h => by exact h) (x_var (p := pInt s44) 1) (fun _ => List.Sublist.refl _))))) (by unfold M_room; rfl)
end
end My
end
section
set_option maxHeartbeats 4000000
set_option synthInstance.maxSize 2000
namespace My
open PySem PySem.Spec PyProof.Rows L2 L3
section
variable {P : Program} {w : World} {K : PySem.W.Frag} {mg : Str → Option Value} {base : Heap}
theorem sc_checked_domains : FnScope ["domains", "sides", "name", "values"] ["domains"] (defScope (top 37)) := ⟨rfl, rfl, rfl, by decide +kernel, rfl, by decide +kernel, by decide +kernel⟩
theorem ok_checked_domains {f : Addr} {fd : FuncData} (C : Ev P K mg) (FD : FnP K "checked_domains" (top 37) f fd)   : FnOk P w K mg base (L2.CX P w) 2 f fd ["domains"] (SpXo (fun (a : (List (Str × List Int))) => ([(pL (pT2 pStr (pL pInt))) a] : List Pd)) (fun (a : (List (Str × List Int))) => M_checked_domains a) (oL (pT2 pStr (pL pInt))) (erX mg rsL)) := by
  obtain ⟨fI_RepeatedName, tx_RepeatedName⟩ := (C.xs.x "RepeatedName" (by decide +kernel)).tx
  obtain ⟨f_side_of, fd_side_of, F_side_of, g_side_of⟩ := C.f_side_of
  have k_side_of := ok_side_of (P := P) (w := w) (base := base) C F_side_of
  have b_side_of : Binds K fd_side_of ["values"] [] := F_side_of.bindsN fun _ _ _ _ _ _ us hl => match us, hl with | [_], _ => rfl
  refine fn_Xo (A := (fun (a : (List (Str × List Int))) => ([(pL (pT2 pStr (pL pInt))) a] : List Pd))) (Mf := (fun (a : (List (Str × List Int))) => M_checked_domains a)) FD sc_checked_domains (fun _ => rfl) rfl fun cdv A outer s H E hr a1 tk => ?_
  exact s_is (s_T (T := (some (([] : List (Str × List Int)) : List (Str × List Int))).bind fun x48 => (forL a1 (x48 : (List (Str × List Int))) fun x54 s53 => if (dhas s53 (x54.1)) = true then inB (some ((fun e => Tm.rt ((Except.error) e)) (⟨"RepeatedName", [.str (x54.1)]⟩ : Er))) else (M_side_of (x54.2)).bind fun r64 => grd (s53.length < sizeLine) (some (Bo.nx (dput s53 (x54.1) r64)))).bind (boK (fun s55 => (compM (s55.map Prod.fst) () (fun x57 s59 => if true = true then (dget s55 x57).bind fun x61 => some (some (x57, x61), ()) else some (none, ()))).bind fun r62 => some (Except.ok (ε := Er) (r62.1))) id)) (s_letO (i := 1) (oM (κ := Str) (pL pInt)) sc_checked_domains.nd (o_kd (E := fun (b_ : Unit) => (oM (κ := Str) (pL pInt)) ([] : List (Str × List Int))) (x_dict0 (κ := Str) (pL pInt))) fun (b49 : Unit) x48 v51 => s_T (T := (forL a1 (x48 : (List (Str × List Int))) fun x54 s53 => if (dhas s53 (x54.1)) = true then inB (some ((fun e => Tm.rt ((Except.error) e)) (⟨"RepeatedName", [.str (x54.1)]⟩ : Er))) else (M_side_of (x54.2)).bind fun r64 => grd (s53.length < sizeLine) (some (Bo.nx (dput s53 (x54.1) r64)))).bind (boK (fun s55 => (compM (s55.map Prod.fst) () (fun x57 s59 => if true = true then (dget s55 x57).bind fun x61 => some (some (x57, x61), ()) else some (none, ()))).bind fun r62 => some (Except.ok (ε := Er) (r62.1))) id)) (s_forX (passes_of rfl) (fun (b_ : Unit) (s_ : (List (Str × List Int))) => ([some ((pL (pT2 pStr (pL pInt))) a1), some (pV v51), none, none], [⟨v51, (oM (κ := Str) (pL pInt)) s_, none⟩])) (fun (b_ : Unit) => x48) (ι := id) (Tf := (fX (erX mg rsL) (fF (RO ⟨H, []⟩ (fun _ => []) (oL (pT2 pStr (pL pInt))))) ⟨H, []⟩ [] (fun _ _ => True) (wE E))) (i_list (x_var (p := (pL (pT2 pStr (pL pInt))) a1) 0)) (pg_tup rfl (pgs_cons (pg_name (i := 2) sc_checked_domains.nd rfl (by first | exact .inl rfl | exact .inr rfl)) (pgs_cons (pg_name (i := 3) sc_checked_domains.nd rfl (by first | exact .inl rfl | exact .inr rfl)) pgs_nil))) (tg_pair 2 3) (fun _ => by exact (by exact ⟨rfl, rfl, trivial⟩)) (fun _ => List.Sublist.refl _) (fun b52 x54 s53 => s_T (T := if (dhas s53 (x54.1)) = true then inB (some ((fun e => Tm.rt ((Except.error) e)) (⟨"RepeatedName", [.str (x54.1)]⟩ : Er))) else (M_side_of (x54.2)).bind fun r64 => grd (s53.length < sizeLine) (some (Bo.nx (dput s53 (x54.1) r64)))) (s_ifB (ins_Tg (insT_X (insT_F _))) (t_kd (c := fun (b_ : (Unit × Unit)) => (dhas s53 (x54.1))) (t_din (κ := Str) (Ee := (pL pInt)) hr.units (x_var (p := pStr x54.1) 2) (fun _ => x_var (p := pV v51) 1) (fun _ _ => rdMO 0))) (fun (b63 : (Unit × Unit)) => s_T (T := some ((fun e => Tm.rt ((Except.error) e)) (⟨"RepeatedName", [.str (x54.1)]⟩ : Er))) (s_raise (er := fun (b : (Unit × Unit)) => (⟨"RepeatedName", [.str x54.1]⟩ : Er)) tk (ex_T ex_X) tx_RepeatedName (C.xs.x "RepeatedName" (by decide +kernel)).g C.xs.sup hr (a_cons (x_var (p := pStr x54.1) 2) (fun _ => a_nil)) (fun _ _ _ _ h => by exact ⟨(show ("RepeatedName" : Str) ∈ rsL from by decide +kernel), h⟩) (fun _ => (by decide +kernel : 1 = (fieldsOf "RepeatedName").length)) (by decide +kernel) (fun _ => (List.nil_sublist _)) (fun _ _ _ => trivial))) fun (b63 : (Unit × Unit)) => s_T (T := (M_side_of (x54.2)).bind fun r64 => grd (s53.length < sizeLine) (some (Bo.nx (dput s53 (x54.1) r64)))) (s_dput (κ := Str) (Ee := (pL pInt)) 0 hr.units (x_kd (E := fun (b_ : (Unit × (List Int))) => (pL pInt) b_.2) (x_frz (o_kd (E := fun (b_ : (Unit × (List Int))) => (oL pInt) b_.2) (x_F_o (kk := 1) (E1 := (pL pInt)) k_side_of (hr.mono (by decide)) g_side_of F_side_of.kp b_side_of (x_var (p := (pL pInt) x54.2) 3))))) (fun _ => x_var (p := pV v51) 1) (fun _ _ => x_var (p := pStr x54.1) 2) (fun _ _ _ => rfl) fun (b65 : (((Unit × (List Int)) × Unit) × Unit)) => s_endB (dput s53 (x54.1) b65.1.1.2) (by exact ⟨rfl, rfl, trivial⟩) (List.Sublist.refl _)))) (fun b52 s55 => s_frz (i := 1) (c := ⟨v51, (oM (κ := Str) (pL pInt)) s55, none⟩) 0 (s_T (T := (compM (s55.map Prod.fst) () (fun x57 s59 => if true = true then (dget s55 x57).bind fun x61 => some (some (x57, x61), ()) else some (none, ()))).bind fun r62 => some (Except.ok (ε := Er) (r62.1))) (s_retO (P := (fun _ => [])) (Ro := (oL (pT2 pStr (pL pInt)))) (ι := (Except.ok (ε := Er))) (rv := fun (b : (Unit × ((List (Str × List Int)) × Unit))) => b.2.1) (fun _ _ _ h => by exact h) (o_kd (o_kd (E := fun (b_ : (Unit × ((List (Str × List Int)) × Unit))) => (oL (pT2 pStr (pL pInt))) b_.2.1) (x_lc (own := [("name", 2)]) (C := fun (b_ : Unit) (s_ : Unit) => []) (s0 := fun (b_ : Unit) => ()) (s2 := fun (b_ : Unit) (x_ : Str) (s_ : Unit) (c_ : Unit) => ()) (s3 := fun (b_ : Unit) (x_ : Str) (s_ : Unit) (c_ : Unit) (d_ : (Unit × (((Unit × Unit) × (List Int)) × Unit))) => ()) (Ex := pStr) (Ee := (pT2 pStr (pL pInt))) (δ := (Str × List Int)) (y := fun (b_ : Unit) (x_ : Str) (s_ : Unit) (c_ : Unit) (d_ : (Unit × (((Unit × Unit) × (List Int)) × Unit))) => (x_, d_.2.1.2)) (T2 := fun (b_ : Unit) (x_ : Str) (s_ : Unit) (c_ : Unit) => (dget s55 x_).bind fun x61 => some (some (x_, x61), ())) (c := fun (b_ : Unit) (x_ : Str) (s_ : Unit) (c_ : Unit) => true) (f := fun (b_ : Unit) (x_ : Str) (s_ : Unit) => if true = true then (dget s55 x_).bind fun x61 => some (some (x_, x61), ()) else some (none, ())) sc_checked_domains.nd (i_mkeys (κ := Str) (x_var (p := (pM (κ := Str) (pL pInt)) s55) 1)) (blkOk_by (own := [("name", 2)]) (N := ["domains", "sides", "name", "values"]) (sc := (defScope (top 37))) (by decide +kernel)) (fun _ _ _ _ _ => pg_name (i := 2) sc_checked_domains.nd rfl (by first | exact .inl rfl | exact .inr rfl)) (tw_name 2) (fun _ => rfl) (by exact fun q60 _ _ _ _ _ b56 x57 s59 => pts_T) (by exact fun q60 _ _ _ _ _ b56 x57 s59 _ => x_out (x_kd (E := fun (b_ : (Unit × (((Unit × Unit) × (List Int)) × Unit))) => (pT2 pStr (pL pInt)) (x57, b_.2.1.2)) (x_tup2 (a_cons (x_var (p := pStr x57) 2) (fun _ => a_cons (x_kd (E := fun (b_ : ((Unit × Unit) × (List Int))) => (pL pInt) b_.2) (x_dget (κ := Str) (Ee := (pL pInt)) hr.units (x_var (p := (pM (κ := Str) (pL pInt)) s55) 1) (fun _ => x_var (p := pStr x57) 2) (fun _ _ => rdMF))) (fun _ => a_nil))) pStr (pL pInt) (fun (b : (Unit × (((Unit × Unit) × (List Int)) × Unit))) => x57) (fun (b : (Unit × (((Unit × Unit) × (List Int)) × Unit))) => b.2.1.2))))))) (fun _ => List.Sublist.refl _)))) (fun _ _ _ h => by exact h) (insT_X (insT_F _))))) (by unfold M_checked_domains; rfl)
end
end My
end
section
set_option maxHeartbeats 4000000
set_option synthInstance.maxSize 2000
namespace My
open PySem PySem.Spec PyProof.Rows L2 L3
section
variable {P : Program} {w : World} {K : PySem.W.Frag} {mg : Str → Option Value} {base : Heap}
theorem sc_l_is_integer : FnScope ["_law_actual"] ["_law_actual"] (defScope (top 40)) := ⟨rfl, rfl, rfl, by decide +kernel, rfl, by decide +kernel, by decide +kernel⟩
theorem ok_l_is_integer {f : Addr} {fd : FuncData} (C : Ev P K mg) (FD : FnP K "_law_is_integer" (top 40) f fd)   : FnOk P w K mg base CX0 1 f fd ["_law_actual"] (Sp_F_f pInt M_l_is_integer pBl) := by
  have m_bool := C.m_bool
  have m_int := C.m_int
  have m_isinstance := C.m_isinstance
  refine fn_F_f FD sc_l_is_integer rfl fun cdv A outer s H E hr  a1 => ?_
  exact s_is (s_T (T := some (true && (!false))) (s_ret (P := (fun _ => [])) (Rp := pBl) (ι := id) (rv := fun (b : Unit) => (true && (!false))) (fun _ _ _ h => by exact h) (x_kd (E := fun (b_ : Unit) => pBl (true && (!false))) (v_and (x_totV (pBl true) () (fun _ => rfl) (by exact (x_kd (E := fun (b_ : Unit) => pBl true) (x_isi (cn := "int") (fun _ => "int") (fun _ => true) m_isinstance m_int (y_var (p := pInt a1) 0) (fun _ => tyInt) (fun _ => by decide +kernel) (by decide +kernel))))) (v_one (x_totV (pBl (!false)) () (fun _ => rfl) (by exact (x_kd (E := fun (b_ : Unit) => pBl (!false)) (x_not (x_kd (E := fun (b_ : Unit) => pBl false) (x_isi (cn := "bool") (fun _ => "int") (fun _ => false) m_isinstance m_bool (y_var (p := pInt a1) 0) (fun _ => tyInt) (fun _ => by decide +kernel) (by decide +kernel)))))))))) (fun _ => List.Sublist.refl _))) (by unfold M_l_is_integer; rfl)
end
end My
end
section
set_option maxHeartbeats 4000000
set_option synthInstance.maxSize 2000
namespace My
open PySem PySem.Spec PyProof.Rows L2 L3
section
variable {P : Program} {w : World} {K : PySem.W.Frag} {mg : Str → Option Value} {base : Heap}
theorem sc_l_stream : FnScope ["_law_script", "_law_k", "_law_cell"] ["_law_script", "_law_k"] (defScope (top 41)) := ⟨rfl, rfl, rfl, by decide +kernel, rfl, by decide +kernel, by decide +kernel⟩
theorem ok_l_stream {f : Addr} {fd : FuncData} (C : Ev P K mg) (FD : FnP K "_law_stream" (top 41) f fd)   : FnOk P w K mg base CX0 1 f fd ["_law_script", "_law_k"] (Sp_FF_o (pS K) pInt M_l_stream (oL pInt)) := by
  have m_int := C.m_int
  have m_len := C.m_len
  refine fn_FF_o FD sc_l_stream rfl fun cdv A outer s H E hr  a1 a2 => ?_
  exact s_is (s_T (T := (some ((0 : Int) : Int)).bind fun x66 => (if (decide (a2 < (a1.length : Int))) = true then (atI a1 a2).bind fun x70 => (some (x70 : Int)).bind fun x71 => some x71 else some x66).bind fun s69 => grd ((sm s69 || sm (if (decide (((10 : Int) ^ (18 : Int).toNat) ≤ s69)) then 1 else 0 : Int)) = true) (some ([(s69 * (if (decide (((10 : Int) ^ (18 : Int).toNat) ≤ s69)) then 1 else 0 : Int)), (0 : Int), s69]))) (s_let (i := 2) pInt sc_l_stream.nd (x_int (i := 0)) fun (b67 : Unit) x66 => s_T (T := (if (decide (a2 < (a1.length : Int))) = true then (atI a1 a2).bind fun x70 => (some (x70 : Int)).bind fun x71 => some x71 else some x66).bind fun s69 => grd ((sm s69 || sm (if (decide (((10 : Int) ^ (18 : Int).toNat) ≤ s69)) then 1 else 0 : Int)) = true) (some ([(s69 * (if (decide (((10 : Int) ^ (18 : Int).toNat) ≤ s69)) then 1 else 0 : Int)), (0 : Int), s69]))) (s_ifN (C := fun s_ : Int => ([some ((pS K) a1), some (pInt a2), some (pInt s_)], [])) (t_kd (c := fun (b_ : (Unit × Unit)) => (decide (a2 < (a1.length : Int)))) (t_lt (x_var (p := pInt a2) 1) (fun _ => x_kd (E := fun (b_ : Unit) => pInt (a1.length : Int)) (x_lenS m_len (x_var (p := (pS K) a1) 0))))) (fun (b68 : (Unit × Unit)) => s_T (T := (atI a1 a2).bind fun x70 => (some (x70 : Int)).bind fun x71 => some x71) (s_let (i := 2) pInt sc_l_stream.nd (x_kd (E := fun (b_ : ((Unit × Unit) × Int)) => pInt b_.2) (x_ixS (x_var (p := (pS K) a1) 0) (fun _ => x_var (p := pInt a2) 1))) fun (b72 : ((Unit × Unit) × Int)) x71 => s_end x71 rfl (by exact ⟨rfl, rfl, rfl, trivial⟩) (List.Sublist.refl _))) (fun (b68 : (Unit × Unit)) => s_end x66 rfl (by exact ⟨rfl, rfl, rfl, trivial⟩) (List.Sublist.refl _)) fun (b68 : (Unit × Unit)) s69 => s_T (T := grd ((sm s69 || sm (if (decide (((10 : Int) ^ (18 : Int).toNat) ≤ s69)) then 1 else 0 : Int)) = true) (some ([(s69 * (if (decide (((10 : Int) ^ (18 : Int).toNat) ≤ s69)) then 1 else 0 : Int)), (0 : Int), s69]))) (s_retO (P := (fun _ => [])) (Ro := (oL pInt)) (ι := id) (rv := fun (b : ((Unit × (Unit × (Unit × Unit))) × (Unit × (Unit × Unit)))) => [(s69 * (if (decide (((10 : Int) ^ (18 : Int).toNat) ≤ s69)) then 1 else 0 : Int)), (0 : Int), s69]) (fun _ _ _ h => by exact h) (o_kd (o_kd (E := fun (b_ : ((Unit × (Unit × (Unit × Unit))) × (Unit × (Unit × Unit)))) => (oL pInt) ([(s69 * (if (decide (((10 : Int) ^ (18 : Int).toNat) ≤ s69)) then 1 else 0 : Int)), (0 : Int), s69])) (x_disp pInt (fun _ => [_, _, _]) (a_cons (x_kd (E := fun (b_ : (Unit × (Unit × (Unit × Unit)))) => pInt (s69 * (if (decide (((10 : Int) ^ (18 : Int).toNat) ≤ s69)) then 1 else 0 : Int))) (x_mul (x_var (p := pInt s69) 2) (fun _ => x_kd (E := fun (b_ : (Unit × (Unit × Unit))) => pInt (if (decide (((10 : Int) ^ (18 : Int).toNat) ≤ s69)) then 1 else 0 : Int)) (x_intB m_int (x_kd (E := fun (b_ : (Unit × (Unit × Unit))) => pBl (decide (((10 : Int) ^ (18 : Int).toNat) ≤ s69))) (x_ge (x_var (p := pInt s69) 2) (fun _ => x_kd (E := fun (b_ : (Unit × Unit)) => pInt ((10 : Int) ^ (18 : Int).toNat)) (x_pow (x_int (i := 10)) (fun _ => x_int (i := 18)) (fun _ _ => by decide))))))))) (fun _ => a_cons (x_int (i := 0)) (fun _ => a_cons (x_var (p := pInt s69) 2) (fun _ => a_nil)))) (fun _ => rfl) (fun _ => by simp)))) (fun _ => List.Sublist.refl _))))) (by unfold M_l_stream; rfl)
end
end My
end
section
set_option maxHeartbeats 4000000
set_option synthInstance.maxSize 2000
namespace My
open PySem PySem.Spec PyProof.Rows L2 L3
section
variable {P : Program} {w : World} {K : PySem.W.Frag} {mg : Str → Option Value} {base : Heap}
theorem sc_l_next : FnScope ["_law_stream_here", "_law_size", "_law_mixed", "_law_digit"] ["_law_stream_here", "_law_size"] (defScope (top 42)) := ⟨rfl, rfl, rfl, by decide +kernel, rfl, by decide +kernel, by decide +kernel⟩
theorem ok_l_next {f : Addr} {fd : FuncData} (C : Ev P K mg) (FD : FnP K "_law_next" (top 42) f fd)   : FnOk P w K mg base CX0 1 f fd ["_law_stream_here", "_law_size"] (Sp_OF_f (oL pInt) pInt M_l_next pInt) := by
  have m_int := C.m_int
  refine fn_OF_f FD sc_l_next rfl fun cdv A outer s H E hr v1 G1 a1 a2 => ?_
  exact s_is (s_T (T := (atI a1 (1 : Int)).bind fun x73 => (ixN a1.length (1 : Int)).bind fun (_ : Nat) => (atI (a1.set ((ixN a1.length (1 : Int)).getD 0) (x73 + (1 : Int))) (0 : Int)).bind fun x75 => if (decide ((0 : Int) < x75)) = true then (atI (a1.set ((ixN a1.length (1 : Int)).getD 0) (x73 + (1 : Int))) (0 : Int)).bind fun x77 => grd (0 < a2) ((some ((x77 % a2) : Int)).bind fun x78 => (atI (a1.set ((ixN a1.length (1 : Int)).getD 0) (x73 + (1 : Int))) (0 : Int)).bind fun x80 => grd (dv a2 = true) ((ixN (a1.set ((ixN a1.length (1 : Int)).getD 0) (x73 + (1 : Int))).length (0 : Int)).bind fun (_ : Nat) => some (x78, ((a1.set ((ixN a1.length (1 : Int)).getD 0) (x73 + (1 : Int))).set ((ixN (a1.set ((ixN a1.length (1 : Int)).getD 0) (x73 + (1 : Int))).length (0 : Int)).getD 0) (x80 / a2))))) else (atI (a1.set ((ixN a1.length (1 : Int)).getD 0) (x73 + (1 : Int))) (2 : Int)).bind fun x82 => (atI (a1.set ((ixN a1.length (1 : Int)).getD 0) (x73 + (1 : Int))) (1 : Int)).bind fun x83 => grd ((sm (7919 : Int) || sm x83) = true) (grd (0 < (2147483647 : Int)) ((some ((((x82 + ((7919 : Int) * x83)) + (13 : Int)) % (2147483647 : Int)) : Int)).bind fun x84 => grd ((sm x84 || sm (x84 + (48271 : Int))) = true) (grd (0 < (2147483629 : Int)) ((some (((x84 * (x84 + (48271 : Int))) % (2147483629 : Int)) : Int)).bind fun x86 => grd ((sm x86 || sm (x86 + (69621 : Int))) = true) ((atI (a1.set ((ixN a1.length (1 : Int)).getD 0) (x73 + (1 : Int))) (1 : Int)).bind fun x88 => grd ((sm (31 : Int) || sm x88) = true) (grd (0 < (2147483647 : Int)) ((some ((((x86 * (x86 + (69621 : Int))) + ((31 : Int) * x88)) % (2147483647 : Int)) : Int)).bind fun x89 => grd (dv (9 : Int) = true) (grd (0 < a2) (some (((x89 / (9 : Int)) % a2), (a1.set ((ixN a1.length (1 : Int)).getD 0) (x73 + (1 : Int)))))))))))))) (s_setL 0 (x_kd (E := fun (b_ : (((Unit × Unit) × Int) × Unit)) => pInt (b_.1.2 + (1 : Int))) (x_add (x_kd (E := fun (b_ : ((Unit × Unit) × Int)) => pInt b_.2) (x_ixL (Ee := pInt) (x_var (p := pV v1) 0) (fun _ => x_int (i := 1)) (fun _ _ => rdO 0))) (fun _ => x_int (i := 1)))) (fun _ => x_var (p := pV v1) 0) (fun _ _ => x_int (i := 1)) (fun _ _ _ => rfl) fun (b74 : (((((Unit × Unit) × Int) × Unit) × Unit) × Unit)) => s_T (T := (atI (a1.set ((ixN a1.length (1 : Int)).getD 0) (b74.1.1.1.2 + (1 : Int))) (0 : Int)).bind fun x75 => if (decide ((0 : Int) < x75)) = true then (atI (a1.set ((ixN a1.length (1 : Int)).getD 0) (b74.1.1.1.2 + (1 : Int))) (0 : Int)).bind fun x77 => grd (0 < a2) ((some ((x77 % a2) : Int)).bind fun x78 => (atI (a1.set ((ixN a1.length (1 : Int)).getD 0) (b74.1.1.1.2 + (1 : Int))) (0 : Int)).bind fun x80 => grd (dv a2 = true) ((ixN (a1.set ((ixN a1.length (1 : Int)).getD 0) (b74.1.1.1.2 + (1 : Int))).length (0 : Int)).bind fun (_ : Nat) => some (x78, ((a1.set ((ixN a1.length (1 : Int)).getD 0) (b74.1.1.1.2 + (1 : Int))).set ((ixN (a1.set ((ixN a1.length (1 : Int)).getD 0) (b74.1.1.1.2 + (1 : Int))).length (0 : Int)).getD 0) (x80 / a2))))) else (atI (a1.set ((ixN a1.length (1 : Int)).getD 0) (b74.1.1.1.2 + (1 : Int))) (2 : Int)).bind fun x82 => (atI (a1.set ((ixN a1.length (1 : Int)).getD 0) (b74.1.1.1.2 + (1 : Int))) (1 : Int)).bind fun x83 => grd ((sm (7919 : Int) || sm x83) = true) (grd (0 < (2147483647 : Int)) ((some ((((x82 + ((7919 : Int) * x83)) + (13 : Int)) % (2147483647 : Int)) : Int)).bind fun x84 => grd ((sm x84 || sm (x84 + (48271 : Int))) = true) (grd (0 < (2147483629 : Int)) ((some (((x84 * (x84 + (48271 : Int))) % (2147483629 : Int)) : Int)).bind fun x86 => grd ((sm x86 || sm (x86 + (69621 : Int))) = true) ((atI (a1.set ((ixN a1.length (1 : Int)).getD 0) (b74.1.1.1.2 + (1 : Int))) (1 : Int)).bind fun x88 => grd ((sm (31 : Int) || sm x88) = true) (grd (0 < (2147483647 : Int)) ((some ((((x86 * (x86 + (69621 : Int))) + ((31 : Int) * x88)) % (2147483647 : Int)) : Int)).bind fun x89 => grd (dv (9 : Int) = true) (grd (0 < a2) (some (((x89 / (9 : Int)) % a2), (a1.set ((ixN a1.length (1 : Int)).getD 0) (b74.1.1.1.2 + (1 : Int)))))))))))))) (s_ifT (ins_F _) (t_kd (c := fun (b_ : (((Unit × Unit) × Int) × Unit)) => (decide ((0 : Int) < b_.1.2))) (t_gt (x_kd (E := fun (b_ : ((Unit × Unit) × Int)) => pInt b_.2) (x_ixL (Ee := pInt) (x_var (p := pV v1) 0) (fun _ => x_int (i := 0)) (fun _ _ => rdO 0))) (fun _ => x_int (i := 0)))) (fun (b76 : (((Unit × Unit) × Int) × Unit)) => s_T (T := (atI (a1.set ((ixN a1.length (1 : Int)).getD 0) (b74.1.1.1.2 + (1 : Int))) (0 : Int)).bind fun x77 => grd (0 < a2) ((some ((x77 % a2) : Int)).bind fun x78 => (atI (a1.set ((ixN a1.length (1 : Int)).getD 0) (b74.1.1.1.2 + (1 : Int))) (0 : Int)).bind fun x80 => grd (dv a2 = true) ((ixN (a1.set ((ixN a1.length (1 : Int)).getD 0) (b74.1.1.1.2 + (1 : Int))).length (0 : Int)).bind fun (_ : Nat) => some (x78, ((a1.set ((ixN a1.length (1 : Int)).getD 0) (b74.1.1.1.2 + (1 : Int))).set ((ixN (a1.set ((ixN a1.length (1 : Int)).getD 0) (b74.1.1.1.2 + (1 : Int))).length (0 : Int)).getD 0) (x80 / a2)))))) (s_let (i := 3) pInt sc_l_next.nd (x_kd (E := fun (b_ : (((Unit × Unit) × Int) × Unit)) => pInt (b_.1.2 % a2)) (x_mod (x_kd (E := fun (b_ : ((Unit × Unit) × Int)) => pInt b_.2) (x_intI m_int (x_kd (E := fun (b_ : ((Unit × Unit) × Int)) => pInt b_.2) (x_ixL (Ee := pInt) (x_var (p := pV v1) 0) (fun _ => x_int (i := 0)) (fun _ _ => rdO 0))))) (fun _ => x_var (p := pInt a2) 1))) fun (b79 : (((Unit × Unit) × Int) × Unit)) x78 => s_T (T := (atI (a1.set ((ixN a1.length (1 : Int)).getD 0) (b74.1.1.1.2 + (1 : Int))) (0 : Int)).bind fun x80 => grd (dv a2 = true) ((ixN (a1.set ((ixN a1.length (1 : Int)).getD 0) (b74.1.1.1.2 + (1 : Int))).length (0 : Int)).bind fun (_ : Nat) => some (x78, ((a1.set ((ixN a1.length (1 : Int)).getD 0) (b74.1.1.1.2 + (1 : Int))).set ((ixN (a1.set ((ixN a1.length (1 : Int)).getD 0) (b74.1.1.1.2 + (1 : Int))).length (0 : Int)).getD 0) (x80 / a2))))) (s_setL 0 (x_kd (E := fun (b_ : (((Unit × Unit) × Int) × Unit)) => pInt (b_.1.2 / a2)) (x_fdiv (x_kd (E := fun (b_ : ((Unit × Unit) × Int)) => pInt b_.2) (x_ixL (Ee := pInt) (x_var (p := pV v1) 0) (fun _ => x_int (i := 0)) (fun _ _ => rdO 0))) (fun _ => x_var (p := pInt a2) 1))) (fun _ => x_var (p := pV v1) 0) (fun _ _ => x_int (i := 0)) (fun _ _ _ => rfl) fun (b81 : (((((Unit × Unit) × Int) × Unit) × Unit) × Unit)) => s_T (T := some (x78, ((a1.set ((ixN a1.length (1 : Int)).getD 0) (b74.1.1.1.2 + (1 : Int))).set ((ixN (a1.set ((ixN a1.length (1 : Int)).getD 0) (b74.1.1.1.2 + (1 : Int))).length (0 : Int)).getD 0) (b81.1.1.1.2 / a2)))) (s_ret (P := (fun (r : Int × (List Int)) => [⟨v1, (oL pInt) r.2, some 0⟩])) (Rp := (fun (r : Int × (List Int)) => pInt r.1)) (ι := id) (rv := fun (b : Unit) => (x78, ((a1.set ((ixN a1.length (1 : Int)).getD 0) (b74.1.1.1.2 + (1 : Int))).set ((ixN (a1.set ((ixN a1.length (1 : Int)).getD 0) (b74.1.1.1.2 + (1 : Int))).length (0 : Int)).getD 0) (b81.1.1.1.2 / a2)))) (fun _ _ _ h => by exact h) (x_var (p := pInt x78) 3) (fun _ => List.Sublist.refl _))))) fun (b76 : (((Unit × Unit) × Int) × Unit)) => s_T (T := (atI (a1.set ((ixN a1.length (1 : Int)).getD 0) (b74.1.1.1.2 + (1 : Int))) (2 : Int)).bind fun x82 => (atI (a1.set ((ixN a1.length (1 : Int)).getD 0) (b74.1.1.1.2 + (1 : Int))) (1 : Int)).bind fun x83 => grd ((sm (7919 : Int) || sm x83) = true) (grd (0 < (2147483647 : Int)) ((some ((((x82 + ((7919 : Int) * x83)) + (13 : Int)) % (2147483647 : Int)) : Int)).bind fun x84 => grd ((sm x84 || sm (x84 + (48271 : Int))) = true) (grd (0 < (2147483629 : Int)) ((some (((x84 * (x84 + (48271 : Int))) % (2147483629 : Int)) : Int)).bind fun x86 => grd ((sm x86 || sm (x86 + (69621 : Int))) = true) ((atI (a1.set ((ixN a1.length (1 : Int)).getD 0) (b74.1.1.1.2 + (1 : Int))) (1 : Int)).bind fun x88 => grd ((sm (31 : Int) || sm x88) = true) (grd (0 < (2147483647 : Int)) ((some ((((x86 * (x86 + (69621 : Int))) + ((31 : Int) * x88)) % (2147483647 : Int)) : Int)).bind fun x89 => grd (dv (9 : Int) = true) (grd (0 < a2) (some (((x89 / (9 : Int)) % a2), (a1.set ((ixN a1.length (1 : Int)).getD 0) (b74.1.1.1.2 + (1 : Int)))))))))))))) (s_let (i := 2) pInt sc_l_next.nd (x_kd (E := fun (b_ : (((((Unit × Unit) × Int) × (Unit × ((Unit × Unit) × Int))) × Unit) × Unit)) => pInt (((b_.1.1.1.2 + ((7919 : Int) * b_.1.1.2.2.2)) + (13 : Int)) % (2147483647 : Int))) (x_mod (x_kd (E := fun (b_ : ((((Unit × Unit) × Int) × (Unit × ((Unit × Unit) × Int))) × Unit)) => pInt ((b_.1.1.2 + ((7919 : Int) * b_.1.2.2.2)) + (13 : Int))) (x_intI m_int (x_kd (E := fun (b_ : ((((Unit × Unit) × Int) × (Unit × ((Unit × Unit) × Int))) × Unit)) => pInt ((b_.1.1.2 + ((7919 : Int) * b_.1.2.2.2)) + (13 : Int))) (x_add (x_kd (E := fun (b_ : (((Unit × Unit) × Int) × (Unit × ((Unit × Unit) × Int)))) => pInt (b_.1.2 + ((7919 : Int) * b_.2.2.2))) (x_add (x_kd (E := fun (b_ : ((Unit × Unit) × Int)) => pInt b_.2) (x_ixL (Ee := pInt) (x_var (p := pV v1) 0) (fun _ => x_int (i := 2)) (fun _ _ => rdO 0))) (fun _ => x_kd (E := fun (b_ : (Unit × ((Unit × Unit) × Int))) => pInt ((7919 : Int) * b_.2.2)) (x_mul (x_int (i := 7919)) (fun _ => x_kd (E := fun (b_ : ((Unit × Unit) × Int)) => pInt b_.2) (x_ixL (Ee := pInt) (x_var (p := pV v1) 0) (fun _ => x_int (i := 1)) (fun _ _ => rdO 0))))))) (fun _ => x_int (i := 13)))))) (fun _ => x_int (i := 2147483647)))) fun (b85 : (((((Unit × Unit) × Int) × (Unit × ((Unit × Unit) × Int))) × Unit) × Unit)) x84 => s_T (T := grd ((sm x84 || sm (x84 + (48271 : Int))) = true) (grd (0 < (2147483629 : Int)) ((some (((x84 * (x84 + (48271 : Int))) % (2147483629 : Int)) : Int)).bind fun x86 => grd ((sm x86 || sm (x86 + (69621 : Int))) = true) ((atI (a1.set ((ixN a1.length (1 : Int)).getD 0) (b74.1.1.1.2 + (1 : Int))) (1 : Int)).bind fun x88 => grd ((sm (31 : Int) || sm x88) = true) (grd (0 < (2147483647 : Int)) ((some ((((x86 * (x86 + (69621 : Int))) + ((31 : Int) * x88)) % (2147483647 : Int)) : Int)).bind fun x89 => grd (dv (9 : Int) = true) (grd (0 < a2) (some (((x89 / (9 : Int)) % a2), (a1.set ((ixN a1.length (1 : Int)).getD 0) (b74.1.1.1.2 + (1 : Int)))))))))))) (s_let (i := 2) pInt sc_l_next.nd (x_kd (E := fun (b_ : ((Unit × (Unit × Unit)) × Unit)) => pInt ((x84 * (x84 + (48271 : Int))) % (2147483629 : Int))) (x_mod (x_kd (E := fun (b_ : (Unit × (Unit × Unit))) => pInt (x84 * (x84 + (48271 : Int)))) (x_intI m_int (x_kd (E := fun (b_ : (Unit × (Unit × Unit))) => pInt (x84 * (x84 + (48271 : Int)))) (x_mul (x_var (p := pInt x84) 2) (fun _ => x_kd (E := fun (b_ : (Unit × Unit)) => pInt (x84 + (48271 : Int))) (x_add (x_var (p := pInt x84) 2) (fun _ => x_int (i := 48271)))))))) (fun _ => x_int (i := 2147483629)))) fun (b87 : ((Unit × (Unit × Unit)) × Unit)) x86 => s_T (T := grd ((sm x86 || sm (x86 + (69621 : Int))) = true) ((atI (a1.set ((ixN a1.length (1 : Int)).getD 0) (b74.1.1.1.2 + (1 : Int))) (1 : Int)).bind fun x88 => grd ((sm (31 : Int) || sm x88) = true) (grd (0 < (2147483647 : Int)) ((some ((((x86 * (x86 + (69621 : Int))) + ((31 : Int) * x88)) % (2147483647 : Int)) : Int)).bind fun x89 => grd (dv (9 : Int) = true) (grd (0 < a2) (some (((x89 / (9 : Int)) % a2), (a1.set ((ixN a1.length (1 : Int)).getD 0) (b74.1.1.1.2 + (1 : Int)))))))))) (s_let (i := 2) pInt sc_l_next.nd (x_kd (E := fun (b_ : (((Unit × (Unit × Unit)) × (Unit × ((Unit × Unit) × Int))) × Unit)) => pInt (((x86 * (x86 + (69621 : Int))) + ((31 : Int) * b_.1.2.2.2)) % (2147483647 : Int))) (x_mod (x_kd (E := fun (b_ : ((Unit × (Unit × Unit)) × (Unit × ((Unit × Unit) × Int)))) => pInt ((x86 * (x86 + (69621 : Int))) + ((31 : Int) * b_.2.2.2))) (x_intI m_int (x_kd (E := fun (b_ : ((Unit × (Unit × Unit)) × (Unit × ((Unit × Unit) × Int)))) => pInt ((x86 * (x86 + (69621 : Int))) + ((31 : Int) * b_.2.2.2))) (x_add (x_kd (E := fun (b_ : (Unit × (Unit × Unit))) => pInt (x86 * (x86 + (69621 : Int)))) (x_mul (x_var (p := pInt x86) 2) (fun _ => x_kd (E := fun (b_ : (Unit × Unit)) => pInt (x86 + (69621 : Int))) (x_add (x_var (p := pInt x86) 2) (fun _ => x_int (i := 69621)))))) (fun _ => x_kd (E := fun (b_ : (Unit × ((Unit × Unit) × Int))) => pInt ((31 : Int) * b_.2.2)) (x_mul (x_int (i := 31)) (fun _ => x_kd (E := fun (b_ : ((Unit × Unit) × Int)) => pInt b_.2) (x_ixL (Ee := pInt) (x_var (p := pV v1) 0) (fun _ => x_int (i := 1)) (fun _ _ => rdO 0))))))))) (fun _ => x_int (i := 2147483647)))) fun (b90 : (((Unit × (Unit × Unit)) × (Unit × ((Unit × Unit) × Int))) × Unit)) x89 => s_T (T := grd (dv (9 : Int) = true) (grd (0 < a2) (some (((x89 / (9 : Int)) % a2), (a1.set ((ixN a1.length (1 : Int)).getD 0) (b74.1.1.1.2 + (1 : Int))))))) (s_ret (P := (fun (r : Int × (List Int)) => [⟨v1, (oL pInt) r.2, some 0⟩])) (Rp := (fun (r : Int × (List Int)) => pInt r.1)) (ι := id) (rv := fun (b : ((Unit × Unit) × Unit)) => (((x89 / (9 : Int)) % a2), (a1.set ((ixN a1.length (1 : Int)).getD 0) (b74.1.1.1.2 + (1 : Int))))) (fun _ _ _ h => by exact h) (x_kd (x_kd (E := fun (b_ : ((Unit × Unit) × Unit)) => pInt ((x89 / (9 : Int)) % a2)) (x_mod (x_kd (E := fun (b_ : (Unit × Unit)) => pInt (x89 / (9 : Int))) (x_intI m_int (x_kd (E := fun (b_ : (Unit × Unit)) => pInt (x89 / (9 : Int))) (x_fdiv (x_var (p := pInt x89) 2) (fun _ => x_int (i := 9)))))) (fun _ => x_var (p := pInt a2) 1)))) (fun _ => List.Sublist.refl _)))))))) (by unfold M_l_next; rfl)
end
end My
end
section
set_option maxHeartbeats 4000000
set_option synthInstance.maxSize 2000
namespace My
open PySem PySem.Spec PyProof.Rows L2 L3
section
variable {P : Program} {w : World} {K : PySem.W.Frag} {mg : Str → Option Value} {base : Heap}
theorem sc_l_names : FnScope ["_law_stream_here", "_law_count", "_law_letters", "_law_names_here", "_law_k", "_law_shift", "_law_plain", "_law_at", "_law_size", "_law_tail"] ["_law_stream_here", "_law_count"] (defScope (top 43)) := ⟨rfl, rfl, rfl, by decide +kernel, rfl, by decide +kernel, by decide +kernel⟩
theorem ok_l_names {f : Addr} {fd : FuncData} (C : Ev P K mg) (FD : FnP K "_law_names" (top 43) f fd)   : FnOk P w K mg base CX0 2 f fd ["_law_stream_here", "_law_count"] (Sp_OF_o (oL pInt) pInt M_l_names (oL pStr)) := by
  have m_int := C.m_int
  have m_range := C.m_range
  obtain ⟨f_l_next, fd_l_next, F_l_next, g_l_next⟩ := C.f_l_next
  have k_l_next := ok_l_next (P := P) (w := w) (base := base) C F_l_next
  have b_l_next : Binds K fd_l_next ["_law_stream_here", "_law_size"] [] := F_l_next.bindsN fun _ _ _ _ _ _ us hl => match us, hl with | [_, _], _ => rfl
  refine fn_OF_o FD sc_l_names rfl fun cdv A outer s H E hr v1 G1 a1 a2 => ?_
  exact s_is (s_T (T := (M_l_next a1 (3 : Int)).bind fun r91 => if (decide ((r91.1) = (0 : Int))) = true then (M_l_next (r91.2) (8 : Int)).bind fun r93 => (some (r93.1 : Int)).bind fun x94 => (some ([("x" : Str), ("yard" : Str), ("z" : Str), ("u" : Str), ("wide_one" : Str), ("q" : Str), ("pp" : Str), ("t" : Str)] : List Str)).bind fun x96 => grd (rg a2 = true) ((compM (rngL 0 a2.toNat) () (fun x99 s101 => if true = true then grd ((sm x99 || sm (3 : Int)) = true) (grd (0 < (8 : Int)) ((atI x96 (((x99 * (3 : Int)) + x94) % (8 : Int))).bind fun x103 => some (some x103, ()))) else some (none, ()))).bind fun r104 => some (r104.1, r93.2)) else (some (("qwertyuiopasdfghjklzxcvbnm_zyx" : Str) : Str)).bind fun x105 => (some ([] : List Str)).bind fun x107 => grd (rg a2 = true) ((forS (rngL 0 a2.toNat) ((x107, r91.2) : (List Str) × (List Int)) fun x113 s112 => (M_l_next (s112.2) (26 : Int)).bind fun r116 => (some (r116.1 : Int)).bind fun x117 => (M_l_next (r116.2) (3 : Int)).bind fun r119 => (some (((1 : Int) + (r119.1)) : Int)).bind fun x120 => (M_l_next (r119.2) (3 : Int)).bind fun r122 => grd (x105.length ≤ sizeLine) ((some ((cutS x105 (some ((26 : Int) - (r122.1))) (some (26 : Int))) : Str)).bind fun x123 => grd (x105.length ≤ sizeLine) (grd (("7305186429" : Str).length ≤ sizeLine) ((atI ("7305186429" : Str).cps.toList x113).bind fun x125 => grd ((cutS x105 (some x117) (some (x117 + x120))).length + (⟨#[x125]⟩ : Str).length ≤ sizeLine) (grd (((cutS x105 (some x117) (some (x117 + x120))) ++ (⟨#[x125]⟩ : Str)).length + x123.length ≤ sizeLine) (grd ((s112.1).length < sizeLine) (some (((s112.1) ++ [(((cutS x105 (some x117) (some (x117 + x120))) ++ (⟨#[x125]⟩ : Str)) ++ x123)]), r122.2)))))))).bind fun s114 => some (s114.1, s114.2))) (s_ifT (ins_F _) (t_kd (c := fun (b_ : (((Unit × Unit) × (Int × (List Int))) × Unit)) => (decide ((b_.1.2.1) = (0 : Int)))) (t_eqI (x_kd (E := fun (b_ : ((Unit × Unit) × (Int × (List Int)))) => pInt b_.2.1) (x_OF_f (kk := 1) (E1 := (oL pInt)) (E2 := pInt) (s1 := fun (_ : Unit) (_ : Unit) => a1) (v1 := v1) k_l_next (hr.mono (by decide)) g_l_next F_l_next.kp b_l_next 0 (x_var (p := pV v1) 0) (fun _ => x_int (i := 3)) (fun _ _ => rfl))) (fun _ => x_int (i := 0)))) (fun (b92 : (((Unit × Unit) × (Int × (List Int))) × Unit)) => s_T (T := (M_l_next (b92.1.2.2) (8 : Int)).bind fun r93 => (some (r93.1 : Int)).bind fun x94 => (some ([("x" : Str), ("yard" : Str), ("z" : Str), ("u" : Str), ("wide_one" : Str), ("q" : Str), ("pp" : Str), ("t" : Str)] : List Str)).bind fun x96 => grd (rg a2 = true) ((compM (rngL 0 a2.toNat) () (fun x99 s101 => if true = true then grd ((sm x99 || sm (3 : Int)) = true) (grd (0 < (8 : Int)) ((atI x96 (((x99 * (3 : Int)) + x94) % (8 : Int))).bind fun x103 => some (some x103, ()))) else some (none, ()))).bind fun r104 => some (r104.1, r93.2))) (s_let (i := 5) pInt sc_l_names.nd (x_kd (E := fun (b_ : ((Unit × Unit) × (Int × (List Int)))) => pInt b_.2.1) (x_OF_f (kk := 1) (E1 := (oL pInt)) (E2 := pInt) (s1 := fun (_ : Unit) (_ : Unit) => b92.1.2.2) (v1 := v1) k_l_next (hr.mono (by decide)) g_l_next F_l_next.kp b_l_next 0 (x_var (p := pV v1) 0) (fun _ => x_int (i := 8)) (fun _ _ => rfl))) fun (b95 : ((Unit × Unit) × (Int × (List Int)))) x94 => s_T (T := (some ([("x" : Str), ("yard" : Str), ("z" : Str), ("u" : Str), ("wide_one" : Str), ("q" : Str), ("pp" : Str), ("t" : Str)] : List Str)).bind fun x96 => grd (rg a2 = true) ((compM (rngL 0 a2.toNat) () (fun x99 s101 => if true = true then grd ((sm x99 || sm (3 : Int)) = true) (grd (0 < (8 : Int)) ((atI x96 (((x99 * (3 : Int)) + x94) % (8 : Int))).bind fun x103 => some (some x103, ()))) else some (none, ()))).bind fun r104 => some (r104.1, b95.2.2))) (s_let (i := 6) (pL pStr) sc_l_names.nd (x_kd (E := fun (b_ : (Unit × (Unit × (Unit × (Unit × (Unit × (Unit × (Unit × (Unit × Unit))))))))) => (pL pStr) ([("x" : Str), ("yard" : Str), ("z" : Str), ("u" : Str), ("wide_one" : Str), ("q" : Str), ("pp" : Str), ("t" : Str)])) (x_frz (o_kd (E := fun (b_ : (Unit × (Unit × (Unit × (Unit × (Unit × (Unit × (Unit × (Unit × Unit))))))))) => (oL pStr) ([("x" : Str), ("yard" : Str), ("z" : Str), ("u" : Str), ("wide_one" : Str), ("q" : Str), ("pp" : Str), ("t" : Str)])) (x_disp pStr (fun _ => [_, _, _, _, _, _, _, _]) (a_cons x_str (fun _ => a_cons x_str (fun _ => a_cons x_str (fun _ => a_cons x_str (fun _ => a_cons x_str (fun _ => a_cons x_str (fun _ => a_cons x_str (fun _ => a_cons x_str (fun _ => a_nil))))))))) (fun _ => rfl) (fun _ => by simp))))) fun (b97 : (Unit × (Unit × (Unit × (Unit × (Unit × (Unit × (Unit × (Unit × Unit))))))))) x96 => s_T (T := grd (rg a2 = true) ((compM (rngL 0 a2.toNat) () (fun x99 s101 => if true = true then grd ((sm x99 || sm (3 : Int)) = true) (grd (0 < (8 : Int)) ((atI x96 (((x99 * (3 : Int)) + x94) % (8 : Int))).bind fun x103 => some (some x103, ()))) else some (none, ()))).bind fun r104 => some (r104.1, b95.2.2))) (s_retO (P := (fun (r : (List Str) × (List Int)) => [⟨v1, (oL pInt) r.2, some 0⟩])) (Ro := (fun (r : (List Str) × (List Int)) => (oL pStr) r.1)) (ι := id) (rv := fun (b : (Unit × ((List Str) × Unit))) => (b.2.1, b95.2.2)) (fun _ _ _ h => by exact h) (o_kd (o_kd (E := fun (b_ : (Unit × ((List Str) × Unit))) => (oL pStr) b_.2.1) (x_lc (own := [("_law_k", 4)]) (C := fun (b_ : Unit) (s_ : Unit) => [⟨v1, (oL pInt) b95.2.2, some 0⟩]) (s0 := fun (b_ : Unit) => ()) (s2 := fun (b_ : Unit) (x_ : Int) (s_ : Unit) (c_ : Unit) => ()) (s3 := fun (b_ : Unit) (x_ : Int) (s_ : Unit) (c_ : Unit) (d_ : ((Unit × (((Unit × Unit) × Unit) × Unit)) × Str)) => ()) (Ex := pInt) (Ee := pStr) (δ := Str) (y := fun (b_ : Unit) (x_ : Int) (s_ : Unit) (c_ : Unit) (d_ : ((Unit × (((Unit × Unit) × Unit) × Unit)) × Str)) => d_.2) (T2 := fun (b_ : Unit) (x_ : Int) (s_ : Unit) (c_ : Unit) => grd ((sm x_ || sm (3 : Int)) = true) (grd (0 < (8 : Int)) ((atI x96 (((x_ * (3 : Int)) + x94) % (8 : Int))).bind fun x103 => some (some x103, ())))) (c := fun (b_ : Unit) (x_ : Int) (s_ : Unit) (c_ : Unit) => true) (f := fun (b_ : Unit) (x_ : Int) (s_ : Unit) => if true = true then grd ((sm x_ || sm (3 : Int)) = true) (grd (0 < (8 : Int)) ((atI x96 (((x_ * (3 : Int)) + x94) % (8 : Int))).bind fun x103 => some (some x103, ()))) else some (none, ())) sc_l_names.nd (i_rng1 m_range (x_var (p := pInt a2) 1)) (blkOk_by (own := [("_law_k", 4)]) (N := ["_law_stream_here", "_law_count", "_law_letters", "_law_names_here", "_law_k", "_law_shift", "_law_plain", "_law_at", "_law_size", "_law_tail"]) (sc := (defScope (top 43))) (by decide +kernel)) (fun _ _ _ _ _ => pg_name (i := 4) sc_l_names.nd rfl (by first | exact .inl rfl | exact .inr rfl)) (tw_name 4) (fun _ => rfl) (by exact fun q102 _ _ _ _ _ b98 x99 s101 => pts_T) (by exact fun q102 _ _ _ _ _ b98 x99 s101 _ => x_out (x_kd (E := fun (b_ : ((Unit × (((Unit × Unit) × Unit) × Unit)) × Str)) => pStr b_.2) (x_ixL (Ee := pStr) (x_var (p := (pL pStr) x96) 6) (fun _ => x_kd (E := fun (b_ : (((Unit × Unit) × Unit) × Unit)) => pInt (((x99 * (3 : Int)) + x94) % (8 : Int))) (x_mod (x_kd (E := fun (b_ : ((Unit × Unit) × Unit)) => pInt ((x99 * (3 : Int)) + x94)) (x_intI m_int (x_kd (E := fun (b_ : ((Unit × Unit) × Unit)) => pInt ((x99 * (3 : Int)) + x94)) (x_add (x_kd (E := fun (b_ : (Unit × Unit)) => pInt (x99 * (3 : Int))) (x_mul (x_var (p := pInt x99) 4) (fun _ => x_int (i := 3)))) (fun _ => x_var (p := pInt x94) 5))))) (fun _ => x_int (i := 8)))) (fun _ _ => rdF))))))) (fun _ => List.Sublist.refl _))))) fun (b92 : (((Unit × Unit) × (Int × (List Int))) × Unit)) => s_T (T := (some (("qwertyuiopasdfghjklzxcvbnm_zyx" : Str) : Str)).bind fun x105 => (some ([] : List Str)).bind fun x107 => grd (rg a2 = true) ((forS (rngL 0 a2.toNat) ((x107, b92.1.2.2) : (List Str) × (List Int)) fun x113 s112 => (M_l_next (s112.2) (26 : Int)).bind fun r116 => (some (r116.1 : Int)).bind fun x117 => (M_l_next (r116.2) (3 : Int)).bind fun r119 => (some (((1 : Int) + (r119.1)) : Int)).bind fun x120 => (M_l_next (r119.2) (3 : Int)).bind fun r122 => grd (x105.length ≤ sizeLine) ((some ((cutS x105 (some ((26 : Int) - (r122.1))) (some (26 : Int))) : Str)).bind fun x123 => grd (x105.length ≤ sizeLine) (grd (("7305186429" : Str).length ≤ sizeLine) ((atI ("7305186429" : Str).cps.toList x113).bind fun x125 => grd ((cutS x105 (some x117) (some (x117 + x120))).length + (⟨#[x125]⟩ : Str).length ≤ sizeLine) (grd (((cutS x105 (some x117) (some (x117 + x120))) ++ (⟨#[x125]⟩ : Str)).length + x123.length ≤ sizeLine) (grd ((s112.1).length < sizeLine) (some (((s112.1) ++ [(((cutS x105 (some x117) (some (x117 + x120))) ++ (⟨#[x125]⟩ : Str)) ++ x123)]), r122.2)))))))).bind fun s114 => some (s114.1, s114.2))) (s_let (i := 2) pStr sc_l_names.nd x_str fun (b106 : Unit) x105 => s_T (T := (some ([] : List Str)).bind fun x107 => grd (rg a2 = true) ((forS (rngL 0 a2.toNat) ((x107, b92.1.2.2) : (List Str) × (List Int)) fun x113 s112 => (M_l_next (s112.2) (26 : Int)).bind fun r116 => (some (r116.1 : Int)).bind fun x117 => (M_l_next (r116.2) (3 : Int)).bind fun r119 => (some (((1 : Int) + (r119.1)) : Int)).bind fun x120 => (M_l_next (r119.2) (3 : Int)).bind fun r122 => grd (x105.length ≤ sizeLine) ((some ((cutS x105 (some ((26 : Int) - (r122.1))) (some (26 : Int))) : Str)).bind fun x123 => grd (x105.length ≤ sizeLine) (grd (("7305186429" : Str).length ≤ sizeLine) ((atI ("7305186429" : Str).cps.toList x113).bind fun x125 => grd ((cutS x105 (some x117) (some (x117 + x120))).length + (⟨#[x125]⟩ : Str).length ≤ sizeLine) (grd (((cutS x105 (some x117) (some (x117 + x120))) ++ (⟨#[x125]⟩ : Str)).length + x123.length ≤ sizeLine) (grd ((s112.1).length < sizeLine) (some (((s112.1) ++ [(((cutS x105 (some x117) (some (x117 + x120))) ++ (⟨#[x125]⟩ : Str)) ++ x123)]), r122.2)))))))).bind fun s114 => some (s114.1, s114.2))) (s_letO (i := 3) (oL pStr) sc_l_names.nd (o_kd (E := fun (b_ : Unit) => (oL pStr) ([])) (x_nil pStr)) fun (b108 : Unit) x107 v110 => s_T (T := grd (rg a2 = true) ((forS (rngL 0 a2.toNat) ((x107, b92.1.2.2) : (List Str) × (List Int)) fun x113 s112 => (M_l_next (s112.2) (26 : Int)).bind fun r116 => (some (r116.1 : Int)).bind fun x117 => (M_l_next (r116.2) (3 : Int)).bind fun r119 => (some (((1 : Int) + (r119.1)) : Int)).bind fun x120 => (M_l_next (r119.2) (3 : Int)).bind fun r122 => grd (x105.length ≤ sizeLine) ((some ((cutS x105 (some ((26 : Int) - (r122.1))) (some (26 : Int))) : Str)).bind fun x123 => grd (x105.length ≤ sizeLine) (grd (("7305186429" : Str).length ≤ sizeLine) ((atI ("7305186429" : Str).cps.toList x113).bind fun x125 => grd ((cutS x105 (some x117) (some (x117 + x120))).length + (⟨#[x125]⟩ : Str).length ≤ sizeLine) (grd (((cutS x105 (some x117) (some (x117 + x120))) ++ (⟨#[x125]⟩ : Str)).length + x123.length ≤ sizeLine) (grd ((s112.1).length < sizeLine) (some (((s112.1) ++ [(((cutS x105 (some x117) (some (x117 + x120))) ++ (⟨#[x125]⟩ : Str)) ++ x123)]), r122.2)))))))).bind fun s114 => some (s114.1, s114.2))) (s_forS PassesOwn.never (fun (b_ : Unit) (s_ : (List Str) × (List Int)) => ([some (pV v1), some (pInt a2), some (pStr x105), some (pV v110), none, none, none, none, none, none], [⟨v110, (oL pStr) s_.1, none⟩, ⟨v1, (oL pInt) s_.2, some 0⟩])) (fun (b_ : Unit) => (x107, b92.1.2.2)) (i_rng1 m_range (x_var (p := pInt a2) 1)) (pg_name (i := 4) sc_l_names.nd rfl (by first | exact .inl rfl | exact .inr rfl)) (tg_name 4) (fun _ => (by exact ⟨rfl, rfl, rfl, rfl, trivial⟩)) (fun _ => List.Sublist.refl _) (fun b111 x113 s112 => s_T (T := (M_l_next (s112.2) (26 : Int)).bind fun r116 => (some (r116.1 : Int)).bind fun x117 => (M_l_next (r116.2) (3 : Int)).bind fun r119 => (some (((1 : Int) + (r119.1)) : Int)).bind fun x120 => (M_l_next (r119.2) (3 : Int)).bind fun r122 => grd (x105.length ≤ sizeLine) ((some ((cutS x105 (some ((26 : Int) - (r122.1))) (some (26 : Int))) : Str)).bind fun x123 => grd (x105.length ≤ sizeLine) (grd (("7305186429" : Str).length ≤ sizeLine) ((atI ("7305186429" : Str).cps.toList x113).bind fun x125 => grd ((cutS x105 (some x117) (some (x117 + x120))).length + (⟨#[x125]⟩ : Str).length ≤ sizeLine) (grd (((cutS x105 (some x117) (some (x117 + x120))) ++ (⟨#[x125]⟩ : Str)).length + x123.length ≤ sizeLine) (grd ((s112.1).length < sizeLine) (some (((s112.1) ++ [(((cutS x105 (some x117) (some (x117 + x120))) ++ (⟨#[x125]⟩ : Str)) ++ x123)]), r122.2)))))))) (s_let (i := 7) pInt sc_l_names.nd (x_kd (E := fun (b_ : ((Unit × Unit) × (Int × (List Int)))) => pInt b_.2.1) (x_OF_f (kk := 1) (E1 := (oL pInt)) (E2 := pInt) (s1 := fun (_ : Unit) (_ : Unit) => s112.2) (v1 := v1) k_l_next (hr.mono (by decide)) g_l_next F_l_next.kp b_l_next 1 (x_var (p := pV v1) 0) (fun _ => x_int (i := 26)) (fun _ _ => rfl))) fun (b118 : ((Unit × Unit) × (Int × (List Int)))) x117 => s_T (T := (M_l_next (b118.2.2) (3 : Int)).bind fun r119 => (some (((1 : Int) + (r119.1)) : Int)).bind fun x120 => (M_l_next (r119.2) (3 : Int)).bind fun r122 => grd (x105.length ≤ sizeLine) ((some ((cutS x105 (some ((26 : Int) - (r122.1))) (some (26 : Int))) : Str)).bind fun x123 => grd (x105.length ≤ sizeLine) (grd (("7305186429" : Str).length ≤ sizeLine) ((atI ("7305186429" : Str).cps.toList x113).bind fun x125 => grd ((cutS x105 (some x117) (some (x117 + x120))).length + (⟨#[x125]⟩ : Str).length ≤ sizeLine) (grd (((cutS x105 (some x117) (some (x117 + x120))) ++ (⟨#[x125]⟩ : Str)).length + x123.length ≤ sizeLine) (grd ((s112.1).length < sizeLine) (some (((s112.1) ++ [(((cutS x105 (some x117) (some (x117 + x120))) ++ (⟨#[x125]⟩ : Str)) ++ x123)]), r122.2)))))))) (s_let (i := 8) pInt sc_l_names.nd (x_kd (E := fun (b_ : (Unit × ((Unit × Unit) × (Int × (List Int))))) => pInt ((1 : Int) + (b_.2.2.1))) (x_add (x_int (i := 1)) (fun _ => x_kd (E := fun (b_ : ((Unit × Unit) × (Int × (List Int)))) => pInt b_.2.1) (x_OF_f (kk := 1) (E1 := (oL pInt)) (E2 := pInt) (s1 := fun (_ : Unit) (_ : Unit) => b118.2.2) (v1 := v1) k_l_next (hr.mono (by decide)) g_l_next F_l_next.kp b_l_next 1 (x_var (p := pV v1) 0) (fun _ => x_int (i := 3)) (fun _ _ => rfl))))) fun (b121 : (Unit × ((Unit × Unit) × (Int × (List Int))))) x120 => s_T (T := (M_l_next (b121.2.2.2) (3 : Int)).bind fun r122 => grd (x105.length ≤ sizeLine) ((some ((cutS x105 (some ((26 : Int) - (r122.1))) (some (26 : Int))) : Str)).bind fun x123 => grd (x105.length ≤ sizeLine) (grd (("7305186429" : Str).length ≤ sizeLine) ((atI ("7305186429" : Str).cps.toList x113).bind fun x125 => grd ((cutS x105 (some x117) (some (x117 + x120))).length + (⟨#[x125]⟩ : Str).length ≤ sizeLine) (grd (((cutS x105 (some x117) (some (x117 + x120))) ++ (⟨#[x125]⟩ : Str)).length + x123.length ≤ sizeLine) (grd ((s112.1).length < sizeLine) (some (((s112.1) ++ [(((cutS x105 (some x117) (some (x117 + x120))) ++ (⟨#[x125]⟩ : Str)) ++ x123)]), r122.2)))))))) (s_let (i := 9) pStr sc_l_names.nd (x_kd (E := fun (b_ : (Unit × ((Unit × ((Unit × Unit) × (Int × (List Int)))) × Unit))) => pStr (cutS x105 (some ((26 : Int) - (b_.2.1.2.2.1))) (some (26 : Int)))) (x_slS (x_var (p := pStr x105) 2) (fun _ => p_some (i := fun (b_ : (Unit × ((Unit × Unit) × (Int × (List Int))))) => ((26 : Int) - (b_.2.2.1))) (x_kd (E := fun (b_ : (Unit × ((Unit × Unit) × (Int × (List Int))))) => pInt ((26 : Int) - (b_.2.2.1))) (x_sub (x_int (i := 26)) (fun _ => x_kd (E := fun (b_ : ((Unit × Unit) × (Int × (List Int)))) => pInt b_.2.1) (x_OF_f (kk := 1) (E1 := (oL pInt)) (E2 := pInt) (s1 := fun (_ : Unit) (_ : Unit) => b121.2.2.2) (v1 := v1) k_l_next (hr.mono (by decide)) g_l_next F_l_next.kp b_l_next 1 (x_var (p := pV v1) 0) (fun _ => x_int (i := 3)) (fun _ _ => rfl)))))) (fun _ _ => p_some (i := fun (b_ : Unit) => (26 : Int)) (x_int (i := 26))))) fun (b124 : (Unit × ((Unit × ((Unit × Unit) × (Int × (List Int)))) × Unit))) x123 => s_T (T := grd (x105.length ≤ sizeLine) (grd (("7305186429" : Str).length ≤ sizeLine) ((atI ("7305186429" : Str).cps.toList x113).bind fun x125 => grd ((cutS x105 (some x117) (some (x117 + x120))).length + (⟨#[x125]⟩ : Str).length ≤ sizeLine) (grd (((cutS x105 (some x117) (some (x117 + x120))) ++ (⟨#[x125]⟩ : Str)).length + x123.length ≤ sizeLine) (grd ((s112.1).length < sizeLine) (some (((s112.1) ++ [(((cutS x105 (some x117) (some (x117 + x120))) ++ (⟨#[x125]⟩ : Str)) ++ x123)]), b124.2.1.2.2.2))))))) (s_expr (x_app 0 (x_var (p := pV v110) 3) (fun _ => x_kd (E := fun (b_ : (((Unit × (Unit × (Unit × Unit))) × ((Unit × Unit) × Nat)) × Unit)) => pStr (((cutS x105 (some x117) (some (x117 + x120))) ++ (⟨#[b_.1.2.2]⟩ : Str)) ++ x123)) (x_addS (x_kd (E := fun (b_ : ((Unit × (Unit × (Unit × Unit))) × ((Unit × Unit) × Nat))) => pStr ((cutS x105 (some x117) (some (x117 + x120))) ++ (⟨#[b_.2.2]⟩ : Str))) (x_addS (x_kd (E := fun (b_ : (Unit × (Unit × (Unit × Unit)))) => pStr (cutS x105 (some x117) (some (x117 + x120)))) (x_slS (x_var (p := pStr x105) 2) (fun _ => p_some (i := fun (b_ : Unit) => x117) (x_var (p := pInt x117) 7)) (fun _ _ => p_some (i := fun (b_ : (Unit × Unit)) => (x117 + x120)) (x_kd (E := fun (b_ : (Unit × Unit)) => pInt (x117 + x120)) (x_add (x_var (p := pInt x117) 7) (fun _ => x_var (p := pInt x120) 8)))))) (fun _ => x_kd (E := fun (b_ : ((Unit × Unit) × Nat)) => pStr (⟨#[b_.2]⟩ : Str)) (x_ixC x_str (fun _ => x_var (p := pInt x113) 4))))) (fun _ => x_var (p := pStr x123) 9))) (fun _ => rfl) (fun _ _ => rfl)) fun (b126 : (Unit × (((Unit × (Unit × (Unit × Unit))) × ((Unit × Unit) × Nat)) × Unit))) => s_end (((s112.1) ++ [(((cutS x105 (some x117) (some (x117 + x120))) ++ (⟨#[b126.2.1.2.2]⟩ : Str)) ++ x123)]), b124.2.1.2.2.2) rfl (by exact ⟨rfl, rfl, rfl, rfl, trivial⟩) (List.Sublist.refl _)))))) fun b111 s114 => s_T (T := some (s114.1, s114.2)) (s_retV 0 (P := (fun (r : (List Str) × (List Int)) => [⟨v1, (oL pInt) r.2, some 0⟩])) (Ro := (fun (r : (List Str) × (List Int)) => (oL pStr) r.1)) (ι := id) (rv := fun _ => (s114.1, s114.2)) (fun _ _ _ h => by exact h) (x_var (p := pV v110) 3) (fun _ => rfl) (fun _ => List.Sublist.refl _))))))) (by unfold M_l_names; rfl)
end
end My
end
section
set_option maxHeartbeats 4000000
set_option synthInstance.maxSize 2000
namespace My
open PySem PySem.Spec PyProof.Rows L2 L3
section
variable {P : Program} {w : World} {K : PySem.W.Frag} {mg : Str → Option Value} {base : Heap}
theorem sc_l_pool : FnScope ["_law_stream_here", "_law_count", "_law_pool_here", "_law_k", "_law_scale", "_law_value"] ["_law_stream_here", "_law_count"] (defScope (top 44)) := ⟨rfl, rfl, rfl, by decide +kernel, rfl, by decide +kernel, by decide +kernel⟩
theorem ok_l_pool {f : Addr} {fd : FuncData} (C : Ev P K mg) (FD : FnP K "_law_pool" (top 44) f fd)   : FnOk P w K mg base CX0 2 f fd ["_law_stream_here", "_law_count"] (Sp_OF_o (oL pInt) pInt M_l_pool (oL pInt)) := by
  have m_range := C.m_range
  obtain ⟨f_l_next, fd_l_next, F_l_next, g_l_next⟩ := C.f_l_next
  have k_l_next := ok_l_next (P := P) (w := w) (base := base) C F_l_next
  have b_l_next : Binds K fd_l_next ["_law_stream_here", "_law_size"] [] := F_l_next.bindsN fun _ _ _ _ _ _ us hl => match us, hl with | [_, _], _ => rfl
  refine fn_OF_o FD sc_l_pool rfl fun cdv A outer s H E hr v1 G1 a1 a2 => ?_
  exact s_is (s_T (T := (M_l_next a1 (9 : Int)).bind fun r127 => (some ([((r127.1) - (4 : Int))] : List Int)).bind fun x128 => grd (rg (a2 - (1 : Int)) = true) ((forS (rngL 0 (a2 - (1 : Int)).toNat) ((x128, r127.2) : (List Int) × (List Int)) fun x134 s133 => (atI (s133.1) x134).bind fun x145 => (M_l_next (s133.2) (4 : Int)).bind fun r146 => grd (dv (3 : Int) = true) (grd ((sm (2 : Int) || sm ((r146.1) / (3 : Int))) = true) (grd ((s133.1).length < sizeLine) (some (((s133.1) ++ [((x145 + (1 : Int)) + ((2 : Int) * ((r146.1) / (3 : Int))))]), r146.2))))).bind fun s135 => (M_l_next (s135.2) (8 : Int)).bind fun r136 => (atI ([(1 : Int), (1 : Int), (1 : Int), (1 : Int), (1 : Int), (1 : Int), (7 : Int), ((10 : Int) ^ (9 : Int).toNat)]) (r136.1)).bind fun x137 => (some (x137 : Int)).bind fun x138 => (compM (s135.1) () (fun x141 s142 => if true = true then grd ((sm x141 || sm x138) = true) (some (some (x141 * x138), ())) else some (none, ()))).bind fun r144 => some (r144.1, r136.2))) (s_letO (i := 2) (oL pInt) sc_l_pool.nd (o_kd (E := fun (b_ : ((((Unit × Unit) × (Int × (List Int))) × Unit) × Unit)) => (oL pInt) ([((b_.1.1.2.1) - (4 : Int))])) (x_disp pInt (fun _ => [_]) (a_cons (x_kd (E := fun (b_ : (((Unit × Unit) × (Int × (List Int))) × Unit)) => pInt ((b_.1.2.1) - (4 : Int))) (x_sub (x_kd (E := fun (b_ : ((Unit × Unit) × (Int × (List Int)))) => pInt b_.2.1) (x_OF_f (kk := 1) (E1 := (oL pInt)) (E2 := pInt) (s1 := fun (_ : Unit) (_ : Unit) => a1) (v1 := v1) k_l_next (hr.mono (by decide)) g_l_next F_l_next.kp b_l_next 0 (x_var (p := pV v1) 0) (fun _ => x_int (i := 9)) (fun _ _ => rfl))) (fun _ => x_int (i := 4)))) (fun _ => a_nil)) (fun _ => rfl) (fun _ => by simp))) fun (b129 : ((((Unit × Unit) × (Int × (List Int))) × Unit) × Unit)) x128 v131 => s_T (T := grd (rg (a2 - (1 : Int)) = true) ((forS (rngL 0 (a2 - (1 : Int)).toNat) ((x128, b129.1.1.2.2) : (List Int) × (List Int)) fun x134 s133 => (atI (s133.1) x134).bind fun x145 => (M_l_next (s133.2) (4 : Int)).bind fun r146 => grd (dv (3 : Int) = true) (grd ((sm (2 : Int) || sm ((r146.1) / (3 : Int))) = true) (grd ((s133.1).length < sizeLine) (some (((s133.1) ++ [((x145 + (1 : Int)) + ((2 : Int) * ((r146.1) / (3 : Int))))]), r146.2))))).bind fun s135 => (M_l_next (s135.2) (8 : Int)).bind fun r136 => (atI ([(1 : Int), (1 : Int), (1 : Int), (1 : Int), (1 : Int), (1 : Int), (7 : Int), ((10 : Int) ^ (9 : Int).toNat)]) (r136.1)).bind fun x137 => (some (x137 : Int)).bind fun x138 => (compM (s135.1) () (fun x141 s142 => if true = true then grd ((sm x141 || sm x138) = true) (some (some (x141 * x138), ())) else some (none, ()))).bind fun r144 => some (r144.1, r136.2))) (s_forS PassesOwn.never (fun (b_ : (Unit × Unit)) (s_ : (List Int) × (List Int)) => ([some (pV v1), some (pInt a2), some (pV v131), none, none, none], [⟨v131, (oL pInt) s_.1, none⟩, ⟨v1, (oL pInt) s_.2, some 0⟩])) (fun (b_ : (Unit × Unit)) => (x128, b129.1.1.2.2)) (i_rng1 m_range (x_kd (E := fun (b_ : (Unit × Unit)) => pInt (a2 - (1 : Int))) (x_sub (x_var (p := pInt a2) 1) (fun _ => x_int (i := 1))))) (pg_name (i := 3) sc_l_pool.nd rfl (by first | exact .inl rfl | exact .inr rfl)) (tg_name 3) (fun _ => (by exact ⟨rfl, rfl, rfl, trivial⟩)) (fun _ => List.Sublist.refl _) (fun b132 x134 s133 => s_T (T := (atI (s133.1) x134).bind fun x145 => (M_l_next (s133.2) (4 : Int)).bind fun r146 => grd (dv (3 : Int) = true) (grd ((sm (2 : Int) || sm ((r146.1) / (3 : Int))) = true) (grd ((s133.1).length < sizeLine) (some (((s133.1) ++ [((x145 + (1 : Int)) + ((2 : Int) * ((r146.1) / (3 : Int))))]), r146.2))))) (s_expr (x_app 0 (x_var (p := pV v131) 2) (fun _ => x_kd (E := fun (b_ : ((((Unit × Unit) × Int) × Unit) × (Unit × (((Unit × Unit) × (Int × (List Int))) × Unit)))) => pInt ((b_.1.1.2 + (1 : Int)) + ((2 : Int) * ((b_.2.2.1.2.1) / (3 : Int))))) (x_add (x_kd (E := fun (b_ : (((Unit × Unit) × Int) × Unit)) => pInt (b_.1.2 + (1 : Int))) (x_add (x_kd (E := fun (b_ : ((Unit × Unit) × Int)) => pInt b_.2) (x_ixL (Ee := pInt) (x_var (p := pV v131) 2) (fun _ => x_var (p := pInt x134) 3) (fun _ _ => rdO 0))) (fun _ => x_int (i := 1)))) (fun _ => x_kd (E := fun (b_ : (Unit × (((Unit × Unit) × (Int × (List Int))) × Unit))) => pInt ((2 : Int) * ((b_.2.1.2.1) / (3 : Int)))) (x_mul (x_int (i := 2)) (fun _ => x_kd (E := fun (b_ : (((Unit × Unit) × (Int × (List Int))) × Unit)) => pInt ((b_.1.2.1) / (3 : Int))) (x_fdiv (x_kd (E := fun (b_ : ((Unit × Unit) × (Int × (List Int)))) => pInt b_.2.1) (x_OF_f (kk := 1) (E1 := (oL pInt)) (E2 := pInt) (s1 := fun (_ : Unit) (_ : Unit) => s133.2) (v1 := v1) k_l_next (hr.mono (by decide)) g_l_next F_l_next.kp b_l_next 1 (x_var (p := pV v1) 0) (fun _ => x_int (i := 4)) (fun _ _ => rfl))) (fun _ => x_int (i := 3)))))))) (fun _ => rfl) (fun _ _ => rfl)) fun (b147 : (Unit × ((((Unit × Unit) × Int) × Unit) × (Unit × (((Unit × Unit) × (Int × (List Int))) × Unit))))) => s_end (((s133.1) ++ [((b147.2.1.1.2 + (1 : Int)) + ((2 : Int) * ((b147.2.2.2.1.2.1) / (3 : Int))))]), b147.2.2.2.1.2.2) rfl (by exact ⟨rfl, rfl, rfl, trivial⟩) (List.Sublist.refl _))) fun b132 s135 => s_frz (i := 2) (c := ⟨v131, (oL pInt) s135.1, none⟩) 0 (s_T (T := (M_l_next (s135.2) (8 : Int)).bind fun r136 => (atI ([(1 : Int), (1 : Int), (1 : Int), (1 : Int), (1 : Int), (1 : Int), (7 : Int), ((10 : Int) ^ (9 : Int).toNat)]) (r136.1)).bind fun x137 => (some (x137 : Int)).bind fun x138 => (compM (s135.1) () (fun x141 s142 => if true = true then grd ((sm x141 || sm x138) = true) (some (some (x141 * x138), ())) else some (none, ()))).bind fun r144 => some (r144.1, r136.2)) (s_let (i := 4) pInt sc_l_pool.nd (x_kd (E := fun (b_ : (((Unit × (Unit × (Unit × (Unit × (Unit × (Unit × (Unit × ((Unit × Unit) × Unit)))))))) × ((Unit × Unit) × (Int × (List Int)))) × Int)) => pInt b_.2) (x_ixL (Ee := pInt) (x_kd (E := fun (b_ : (Unit × (Unit × (Unit × (Unit × (Unit × (Unit × (Unit × ((Unit × Unit) × Unit))))))))) => (pL pInt) ([(1 : Int), (1 : Int), (1 : Int), (1 : Int), (1 : Int), (1 : Int), (7 : Int), ((10 : Int) ^ (9 : Int).toNat)])) (x_frz (o_kd (E := fun (b_ : (Unit × (Unit × (Unit × (Unit × (Unit × (Unit × (Unit × ((Unit × Unit) × Unit))))))))) => (oL pInt) ([(1 : Int), (1 : Int), (1 : Int), (1 : Int), (1 : Int), (1 : Int), (7 : Int), ((10 : Int) ^ (9 : Int).toNat)])) (x_disp pInt (fun _ => [_, _, _, _, _, _, _, _]) (a_cons (x_int (i := 1)) (fun _ => a_cons (x_int (i := 1)) (fun _ => a_cons (x_int (i := 1)) (fun _ => a_cons (x_int (i := 1)) (fun _ => a_cons (x_int (i := 1)) (fun _ => a_cons (x_int (i := 1)) (fun _ => a_cons (x_int (i := 7)) (fun _ => a_cons (x_kd (E := fun (b_ : (Unit × Unit)) => pInt ((10 : Int) ^ (9 : Int).toNat)) (x_pow (x_int (i := 10)) (fun _ => x_int (i := 9)) (fun _ _ => by decide))) (fun _ => a_nil))))))))) (fun _ => rfl) (fun _ => by simp))))) (fun _ => x_kd (E := fun (b_ : ((Unit × Unit) × (Int × (List Int)))) => pInt b_.2.1) (x_OF_f (kk := 1) (E1 := (oL pInt)) (E2 := pInt) (s1 := fun (_ : Unit) (_ : Unit) => s135.2) (v1 := v1) k_l_next (hr.mono (by decide)) g_l_next F_l_next.kp b_l_next 0 (x_var (p := pV v1) 0) (fun _ => x_int (i := 8)) (fun _ _ => rfl))) (fun _ _ => rdF))) fun (b139 : (((Unit × (Unit × (Unit × (Unit × (Unit × (Unit × (Unit × ((Unit × Unit) × Unit)))))))) × ((Unit × Unit) × (Int × (List Int)))) × Int)) x138 => s_T (T := (compM (s135.1) () (fun x141 s142 => if true = true then grd ((sm x141 || sm x138) = true) (some (some (x141 * x138), ())) else some (none, ()))).bind fun r144 => some (r144.1, b139.1.2.2.2)) (s_retO (P := (fun (r : (List Int) × (List Int)) => [⟨v1, (oL pInt) r.2, some 0⟩])) (Ro := (fun (r : (List Int) × (List Int)) => (oL pInt) r.1)) (ι := id) (rv := fun (b : (Unit × ((List Int) × Unit))) => (b.2.1, b139.1.2.2.2)) (fun _ _ _ h => by exact h) (o_kd (o_kd (E := fun (b_ : (Unit × ((List Int) × Unit))) => (oL pInt) b_.2.1) (x_lc (own := [("_law_value", 5)]) (C := fun (b_ : Unit) (s_ : Unit) => [⟨v1, (oL pInt) b139.1.2.2.2, some 0⟩]) (s0 := fun (b_ : Unit) => ()) (s2 := fun (b_ : Unit) (x_ : Int) (s_ : Unit) (c_ : Unit) => ()) (s3 := fun (b_ : Unit) (x_ : Int) (s_ : Unit) (c_ : Unit) (d_ : (Unit × Unit)) => ()) (Ex := pInt) (Ee := pInt) (δ := Int) (y := fun (b_ : Unit) (x_ : Int) (s_ : Unit) (c_ : Unit) (d_ : (Unit × Unit)) => (x_ * x138)) (T2 := fun (b_ : Unit) (x_ : Int) (s_ : Unit) (c_ : Unit) => grd ((sm x_ || sm x138) = true) (some (some (x_ * x138), ()))) (c := fun (b_ : Unit) (x_ : Int) (s_ : Unit) (c_ : Unit) => true) (f := fun (b_ : Unit) (x_ : Int) (s_ : Unit) => if true = true then grd ((sm x_ || sm x138) = true) (some (some (x_ * x138), ())) else some (none, ())) sc_l_pool.nd (i_list (x_var (p := (pL pInt) s135.1) 2)) (blkOk_by (own := [("_law_value", 5)]) (N := ["_law_stream_here", "_law_count", "_law_pool_here", "_law_k", "_law_scale", "_law_value"]) (sc := (defScope (top 44))) (by decide +kernel)) (fun _ _ _ _ _ => pg_name (i := 5) sc_l_pool.nd rfl (by first | exact .inl rfl | exact .inr rfl)) (tw_name 5) (fun _ => rfl) (by exact fun q143 _ _ _ _ _ b140 x141 s142 => pts_T) (by exact fun q143 _ _ _ _ _ b140 x141 s142 _ => x_out (x_kd (E := fun (b_ : (Unit × Unit)) => pInt (x141 * x138)) (x_mul (x_var (p := pInt x141) 5) (fun _ => x_var (p := pInt x138) 4))))))) (fun _ => List.Sublist.refl _))))))) (by unfold M_l_pool; rfl)
end
end My
end
section
set_option maxHeartbeats 4000000
set_option synthInstance.maxSize 2000
namespace My
open PySem PySem.Spec PyProof.Rows L2 L3
section
variable {P : Program} {w : World} {K : PySem.W.Frag} {mg : Str → Option Value} {base : Heap}
theorem sc_l_part : FnScope ["_law_stream_here", "_law_side", "_law_value"] ["_law_stream_here", "_law_side"] (defScope (top 45)) := ⟨rfl, rfl, rfl, by decide +kernel, rfl, by decide +kernel, by decide +kernel⟩
theorem ok_l_part {f : Addr} {fd : FuncData} (C : Ev P K mg) (FD : FnP K "_law_part" (top 45) f fd)   : FnOk P w K mg base CX0 2 f fd ["_law_stream_here", "_law_side"] (Sp_OF_o (oL pInt) (pL pInt) M_l_part (oL pInt)) := by
  obtain ⟨f_l_next, fd_l_next, F_l_next, g_l_next⟩ := C.f_l_next
  have k_l_next := ok_l_next (P := P) (w := w) (base := base) C F_l_next
  have b_l_next : Binds K fd_l_next ["_law_stream_here", "_law_size"] [] := F_l_next.bindsN fun _ _ _ _ _ _ us hl => match us, hl with | [_, _], _ => rfl
  refine fn_OF_o FD sc_l_part rfl fun cdv A outer s H E hr v1 G1 a1 a2 => ?_
  exact s_is (s_T (T := (compM a2 a1 (fun x149 s151 => (M_l_next s151 (3 : Int)).bind fun r153 => if (decide ((0 : Int) < (r153.1))) = true then some (some x149, r153.2) else some (none, r153.2))).bind fun r154 => some (r154.1, r154.2)) (s_retO (P := (fun (r : (List Int) × (List Int)) => [⟨v1, (oL pInt) r.2, some 0⟩])) (Ro := (fun (r : (List Int) × (List Int)) => (oL pInt) r.1)) (ι := id) (rv := fun (b : (Unit × ((List Int) × (List Int)))) => (b.2.1, b.2.2)) (fun _ _ _ h => by exact h) (o_kd (o_kd (E := fun (b_ : (Unit × ((List Int) × (List Int)))) => (oL pInt) b_.2.1) (x_lc (own := [("_law_value", 2)]) (C := fun (b_ : Unit) (s_ : (List Int)) => [⟨v1, (oL pInt) s_, some 0⟩]) (s0 := fun (b_ : Unit) => a1) (s2 := fun (b_ : Unit) (x_ : Int) (s_ : (List Int)) (c_ : (((Unit × Unit) × (Int × (List Int))) × Unit)) => c_.1.2.2) (s3 := fun (b_ : Unit) (x_ : Int) (s_ : (List Int)) (c_ : (((Unit × Unit) × (Int × (List Int))) × Unit)) (d_ : Unit) => c_.1.2.2) (Ex := pInt) (Ee := pInt) (δ := Int) (y := fun (b_ : Unit) (x_ : Int) (s_ : (List Int)) (c_ : (((Unit × Unit) × (Int × (List Int))) × Unit)) (d_ : Unit) => x_) (T2 := fun (b_ : Unit) (x_ : Int) (s_ : (List Int)) (c_ : (((Unit × Unit) × (Int × (List Int))) × Unit)) => some (some x_, c_.1.2.2)) (c := fun (b_ : Unit) (x_ : Int) (s_ : (List Int)) (c_ : (((Unit × Unit) × (Int × (List Int))) × Unit)) => (decide ((0 : Int) < (c_.1.2.1)))) (f := fun (b_ : Unit) (x_ : Int) (s_ : (List Int)) => (M_l_next s_ (3 : Int)).bind fun r153 => if (decide ((0 : Int) < (r153.1))) = true then some (some x_, r153.2) else some (none, r153.2)) sc_l_part.nd (i_list (x_var (p := (pL pInt) a2) 1)) (blkOk_by (own := [("_law_value", 2)]) (N := ["_law_stream_here", "_law_side", "_law_value"]) (sc := (defScope (top 45))) (by decide +kernel)) (fun _ _ _ _ _ => pg_name (i := 2) sc_l_part.nd rfl (by first | exact .inl rfl | exact .inr rfl)) (tw_name 2) (fun _ => rfl) (by exact fun q152 _ _ _ _ _ b148 x149 s151 => t_out (pts_one (t_kd (c := fun (b_ : (((Unit × Unit) × (Int × (List Int))) × Unit)) => (decide ((0 : Int) < (b_.1.2.1)))) (t_gt (x_kd (E := fun (b_ : ((Unit × Unit) × (Int × (List Int)))) => pInt b_.2.1) (x_OF_f (kk := 1) (E1 := (oL pInt)) (E2 := pInt) (s1 := fun (_ : Unit) (_ : Unit) => s151) (v1 := v1) k_l_next (hr.mono (by decide)) g_l_next F_l_next.kp b_l_next 0 (x_var (p := pV v1) 0) (fun _ => x_int (i := 3)) (fun _ _ => rfl))) (fun _ => x_int (i := 0)))))) (by exact fun q152 _ _ _ _ _ b148 x149 s151 _ => x_out (x_var (p := pInt x149) 2))))) (fun _ => List.Sublist.refl _))) (by unfold M_l_part; rfl)
end
end My
end
section
set_option maxHeartbeats 4000000
set_option synthInstance.maxSize 2000
namespace My
open PySem PySem.Spec PyProof.Rows L2 L3
section
variable {P : Program} {w : World} {K : PySem.W.Frag} {mg : Str → Option Value} {base : Heap}
theorem sc_l_scope : FnScope ["_law_stream_here", "_law_names_here", "_law_most", "_law_rest", "_law_k", "_law_at"] ["_law_stream_here", "_law_names_here", "_law_most"] (defScope (top 46)) := ⟨rfl, rfl, rfl, by decide +kernel, rfl, by decide +kernel, by decide +kernel⟩
theorem ok_l_scope {f : Addr} {fd : FuncData} (C : Ev P K mg) (FD : FnP K "_law_scope" (top 46) f fd)   : FnOk P w K mg base CX0 2 f fd ["_law_stream_here", "_law_names_here", "_law_most"] (Sp_OFF_o (oL pInt) (pL pStr) pInt M_l_scope (oL pStr)) := by
  have m_len := C.m_len
  have m_list := C.m_list
  have m_min := C.m_min
  have m_range := C.m_range
  obtain ⟨f_l_next, fd_l_next, F_l_next, g_l_next⟩ := C.f_l_next
  have k_l_next := ok_l_next (P := P) (w := w) (base := base) C F_l_next
  have b_l_next : Binds K fd_l_next ["_law_stream_here", "_law_size"] [] := F_l_next.bindsN fun _ _ _ _ _ _ us hl => match us, hl with | [_, _], _ => rfl
  refine fn_OFF_o FD sc_l_scope rfl fun cdv A outer s H E hr v1 G1 a1 a2 a3 => ?_
  exact s_is (s_T (T := (some (a2 : List Str)).bind fun x155 => grd (rg (a2.length : Int) = true) ((forS (rngL 0 (a2.length : Int).toNat) ((x155, a1) : (List Str) × (List Int)) fun x159 s158 => (M_l_next (s158.2) ((a2.length : Int) - x159)).bind fun r162 => (some ((x159 + (r162.1)) : Int)).bind fun x163 => (atI (s158.1) x163).bind fun x165 => grd ((cutL (s158.1) none (some x159)).length + ([x165]).length ≤ sizeLine) (grd (((cutL (s158.1) none (some x159)) ++ ([x165])).length + (cutL (s158.1) (some x159) (some x163)).length ≤ sizeLine) (grd ((((cutL (s158.1) none (some x159)) ++ ([x165])) ++ (cutL (s158.1) (some x159) (some x163))).length + (cutL (s158.1) (some (x163 + (1 : Int))) none).length ≤ sizeLine) ((some (((((cutL (s158.1) none (some x159)) ++ ([x165])) ++ (cutL (s158.1) (some x159) (some x163))) ++ (cutL (s158.1) (some (x163 + (1 : Int))) none)) : List Str)).bind fun x166 => some (x166, r162.2))))).bind fun s160 => (M_l_next (s160.2) (min a3 (a2.length : Int))).bind fun r161 => some ((cutL (s160.1) none (some ((1 : Int) + (r161.1)))), r161.2))) (s_let (i := 3) (pL pStr) sc_l_scope.nd (x_kd (E := fun (b_ : Unit) => (pL pStr) a2) (x_frz (o_kd (E := fun (b_ : Unit) => (oL pStr) a2) (x_listL (Ee := pStr) m_list (x_var (p := (pL pStr) a2) 1) (fun _ => rdF))))) fun (b156 : Unit) x155 => s_T (T := grd (rg (a2.length : Int) = true) ((forS (rngL 0 (a2.length : Int).toNat) ((x155, a1) : (List Str) × (List Int)) fun x159 s158 => (M_l_next (s158.2) ((a2.length : Int) - x159)).bind fun r162 => (some ((x159 + (r162.1)) : Int)).bind fun x163 => (atI (s158.1) x163).bind fun x165 => grd ((cutL (s158.1) none (some x159)).length + ([x165]).length ≤ sizeLine) (grd (((cutL (s158.1) none (some x159)) ++ ([x165])).length + (cutL (s158.1) (some x159) (some x163)).length ≤ sizeLine) (grd ((((cutL (s158.1) none (some x159)) ++ ([x165])) ++ (cutL (s158.1) (some x159) (some x163))).length + (cutL (s158.1) (some (x163 + (1 : Int))) none).length ≤ sizeLine) ((some (((((cutL (s158.1) none (some x159)) ++ ([x165])) ++ (cutL (s158.1) (some x159) (some x163))) ++ (cutL (s158.1) (some (x163 + (1 : Int))) none)) : List Str)).bind fun x166 => some (x166, r162.2))))).bind fun s160 => (M_l_next (s160.2) (min a3 (a2.length : Int))).bind fun r161 => some ((cutL (s160.1) none (some ((1 : Int) + (r161.1)))), r161.2))) (s_forS PassesOwn.never (fun (b_ : Unit) (s_ : (List Str) × (List Int)) => ([some (pV v1), some ((pL pStr) a2), some (pInt a3), some ((pL pStr) s_.1), none, none], [⟨v1, (oL pInt) s_.2, some 0⟩])) (fun (b_ : Unit) => (x155, a1)) (i_rng1 m_range (x_kd (E := fun (b_ : Unit) => pInt (a2.length : Int)) (x_lenL (Ee := pStr) m_len (x_var (p := (pL pStr) a2) 1) (fun _ => rdF)))) (pg_name (i := 4) sc_l_scope.nd rfl (by first | exact .inl rfl | exact .inr rfl)) (tg_name 4) (fun _ => (by exact ⟨rfl, rfl, rfl, rfl, trivial⟩)) (fun _ => List.Sublist.refl _) (fun b157 x159 s158 => s_T (T := (M_l_next (s158.2) ((a2.length : Int) - x159)).bind fun r162 => (some ((x159 + (r162.1)) : Int)).bind fun x163 => (atI (s158.1) x163).bind fun x165 => grd ((cutL (s158.1) none (some x159)).length + ([x165]).length ≤ sizeLine) (grd (((cutL (s158.1) none (some x159)) ++ ([x165])).length + (cutL (s158.1) (some x159) (some x163)).length ≤ sizeLine) (grd ((((cutL (s158.1) none (some x159)) ++ ([x165])) ++ (cutL (s158.1) (some x159) (some x163))).length + (cutL (s158.1) (some (x163 + (1 : Int))) none).length ≤ sizeLine) ((some (((((cutL (s158.1) none (some x159)) ++ ([x165])) ++ (cutL (s158.1) (some x159) (some x163))) ++ (cutL (s158.1) (some (x163 + (1 : Int))) none)) : List Str)).bind fun x166 => some (x166, r162.2))))) (s_let (i := 5) pInt sc_l_scope.nd (x_kd (E := fun (b_ : (Unit × ((Unit × (Unit × Unit)) × (Int × (List Int))))) => pInt (x159 + (b_.2.2.1))) (x_add (x_var (p := pInt x159) 4) (fun _ => x_kd (E := fun (b_ : ((Unit × (Unit × Unit)) × (Int × (List Int)))) => pInt b_.2.1) (x_OF_f (kk := 1) (E1 := (oL pInt)) (E2 := pInt) (s1 := fun (_ : Unit) (_ : (Unit × Unit)) => s158.2) (v1 := v1) k_l_next (hr.mono (by decide)) g_l_next F_l_next.kp b_l_next 0 (x_var (p := pV v1) 0) (fun _ => x_kd (E := fun (b_ : (Unit × Unit)) => pInt ((a2.length : Int) - x159)) (x_sub (x_kd (E := fun (b_ : Unit) => pInt (a2.length : Int)) (x_lenL (Ee := pStr) m_len (x_var (p := (pL pStr) a2) 1) (fun _ => rdF))) (fun _ => x_var (p := pInt x159) 4))) (fun _ _ => rfl))))) fun (b164 : (Unit × ((Unit × (Unit × Unit)) × (Int × (List Int))))) x163 => s_T (T := (atI (s158.1) x163).bind fun x165 => grd ((cutL (s158.1) none (some x159)).length + ([x165]).length ≤ sizeLine) (grd (((cutL (s158.1) none (some x159)) ++ ([x165])).length + (cutL (s158.1) (some x159) (some x163)).length ≤ sizeLine) (grd ((((cutL (s158.1) none (some x159)) ++ ([x165])) ++ (cutL (s158.1) (some x159) (some x163))).length + (cutL (s158.1) (some (x163 + (1 : Int))) none).length ≤ sizeLine) ((some (((((cutL (s158.1) none (some x159)) ++ ([x165])) ++ (cutL (s158.1) (some x159) (some x163))) ++ (cutL (s158.1) (some (x163 + (1 : Int))) none)) : List Str)).bind fun x166 => some (x166, b164.2.2.2))))) (s_let (i := 3) (pL pStr) sc_l_scope.nd (x_kd (E := fun (b_ : ((((Unit × (Unit × Unit)) × (((Unit × Unit) × Str) × Unit)) × (Unit × (Unit × Unit))) × (Unit × ((Unit × Unit) × Unit)))) => (pL pStr) ((((cutL (s158.1) none (some x159)) ++ ([b_.1.1.2.1.2])) ++ (cutL (s158.1) (some x159) (some x163))) ++ (cutL (s158.1) (some (x163 + (1 : Int))) none))) (x_frz (o_kd (E := fun (b_ : ((((Unit × (Unit × Unit)) × (((Unit × Unit) × Str) × Unit)) × (Unit × (Unit × Unit))) × (Unit × ((Unit × Unit) × Unit)))) => (oL pStr) ((((cutL (s158.1) none (some x159)) ++ ([b_.1.1.2.1.2])) ++ (cutL (s158.1) (some x159) (some x163))) ++ (cutL (s158.1) (some (x163 + (1 : Int))) none))) (x_cat (Ee := pStr) (x_kd (E := fun (b_ : (((Unit × (Unit × Unit)) × (((Unit × Unit) × Str) × Unit)) × (Unit × (Unit × Unit)))) => (pL pStr) (((cutL (s158.1) none (some x159)) ++ ([b_.1.2.1.2])) ++ (cutL (s158.1) (some x159) (some x163)))) (x_frz (o_kd (E := fun (b_ : (((Unit × (Unit × Unit)) × (((Unit × Unit) × Str) × Unit)) × (Unit × (Unit × Unit)))) => (oL pStr) (((cutL (s158.1) none (some x159)) ++ ([b_.1.2.1.2])) ++ (cutL (s158.1) (some x159) (some x163)))) (x_cat (Ee := pStr) (x_kd (E := fun (b_ : ((Unit × (Unit × Unit)) × (((Unit × Unit) × Str) × Unit))) => (pL pStr) ((cutL (s158.1) none (some x159)) ++ ([b_.2.1.2]))) (x_frz (o_kd (E := fun (b_ : ((Unit × (Unit × Unit)) × (((Unit × Unit) × Str) × Unit))) => (oL pStr) ((cutL (s158.1) none (some x159)) ++ ([b_.2.1.2]))) (x_cat (Ee := pStr) (x_kd (E := fun (b_ : (Unit × (Unit × Unit))) => (pL pStr) (cutL (s158.1) none (some x159))) (x_frz (o_kd (E := fun (b_ : (Unit × (Unit × Unit))) => (oL pStr) (cutL (s158.1) none (some x159))) (x_slL (Ee := pStr) (x_var (p := (pL pStr) s158.1) 3) (fun _ => p_none) (fun _ _ => p_some (i := fun (b_ : Unit) => x159) (x_var (p := pInt x159) 4)) (fun _ _ _ => rdF))))) (fun _ => x_kd (E := fun (b_ : (((Unit × Unit) × Str) × Unit)) => (pL pStr) ([b_.1.2])) (x_frz (o_kd (E := fun (b_ : (((Unit × Unit) × Str) × Unit)) => (oL pStr) ([b_.1.2])) (x_disp pStr (fun _ => [_]) (a_cons (x_kd (E := fun (b_ : ((Unit × Unit) × Str)) => pStr b_.2) (x_ixL (Ee := pStr) (x_var (p := (pL pStr) s158.1) 3) (fun _ => x_var (p := pInt x163) 5) (fun _ _ => rdF))) (fun _ => a_nil)) (fun _ => rfl) (fun _ => by simp))))) (fun _ _ => rdF) (fun _ _ => rdF))))) (fun _ => x_kd (E := fun (b_ : (Unit × (Unit × Unit))) => (pL pStr) (cutL (s158.1) (some x159) (some x163))) (x_frz (o_kd (E := fun (b_ : (Unit × (Unit × Unit))) => (oL pStr) (cutL (s158.1) (some x159) (some x163))) (x_slL (Ee := pStr) (x_var (p := (pL pStr) s158.1) 3) (fun _ => p_some (i := fun (b_ : Unit) => x159) (x_var (p := pInt x159) 4)) (fun _ _ => p_some (i := fun (b_ : Unit) => x163) (x_var (p := pInt x163) 5)) (fun _ _ _ => rdF))))) (fun _ _ => rdF) (fun _ _ => rdF))))) (fun _ => x_kd (E := fun (b_ : (Unit × ((Unit × Unit) × Unit))) => (pL pStr) (cutL (s158.1) (some (x163 + (1 : Int))) none)) (x_frz (o_kd (E := fun (b_ : (Unit × ((Unit × Unit) × Unit))) => (oL pStr) (cutL (s158.1) (some (x163 + (1 : Int))) none)) (x_slL (Ee := pStr) (x_var (p := (pL pStr) s158.1) 3) (fun _ => p_some (i := fun (b_ : (Unit × Unit)) => (x163 + (1 : Int))) (x_kd (E := fun (b_ : (Unit × Unit)) => pInt (x163 + (1 : Int))) (x_add (x_var (p := pInt x163) 5) (fun _ => x_int (i := 1))))) (fun _ _ => p_none) (fun _ _ _ => rdF))))) (fun _ _ => rdF) (fun _ _ => rdF))))) fun (b167 : ((((Unit × (Unit × Unit)) × (((Unit × Unit) × Str) × Unit)) × (Unit × (Unit × Unit))) × (Unit × ((Unit × Unit) × Unit)))) x166 => s_end (x166, b164.2.2.2) rfl (by exact ⟨rfl, rfl, rfl, rfl, trivial⟩) (List.Sublist.refl _)))) fun b157 s160 => s_T (T := (M_l_next (s160.2) (min a3 (a2.length : Int))).bind fun r161 => some ((cutL (s160.1) none (some ((1 : Int) + (r161.1)))), r161.2)) (s_retO (P := (fun (r : (List Str) × (List Int)) => [⟨v1, (oL pInt) r.2, some 0⟩])) (Ro := (fun (r : (List Str) × (List Int)) => (oL pStr) r.1)) (ι := id) (rv := fun (b : (Unit × (Unit × (Unit × ((Unit × (Unit × Unit)) × (Int × (List Int))))))) => ((cutL (s160.1) none (some ((1 : Int) + (b.2.2.2.2.1)))), b.2.2.2.2.2)) (fun _ _ _ h => by exact h) (o_kd (o_kd (E := fun (b_ : (Unit × (Unit × (Unit × ((Unit × (Unit × Unit)) × (Int × (List Int))))))) => (oL pStr) (cutL (s160.1) none (some ((1 : Int) + (b_.2.2.2.2.1))))) (x_slL (Ee := pStr) (x_var (p := (pL pStr) s160.1) 3) (fun _ => p_none) (fun _ _ => p_some (i := fun (b_ : (Unit × ((Unit × (Unit × Unit)) × (Int × (List Int))))) => ((1 : Int) + (b_.2.2.1))) (x_kd (E := fun (b_ : (Unit × ((Unit × (Unit × Unit)) × (Int × (List Int))))) => pInt ((1 : Int) + (b_.2.2.1))) (x_add (x_int (i := 1)) (fun _ => x_kd (E := fun (b_ : ((Unit × (Unit × Unit)) × (Int × (List Int)))) => pInt b_.2.1) (x_OF_f (kk := 1) (E1 := (oL pInt)) (E2 := pInt) (s1 := fun (_ : Unit) (_ : (Unit × Unit)) => s160.2) (v1 := v1) k_l_next (hr.mono (by decide)) g_l_next F_l_next.kp b_l_next 0 (x_var (p := pV v1) 0) (fun _ => x_kd (E := fun (b_ : (Unit × Unit)) => pInt (min a3 (a2.length : Int))) (x_min2 m_min (x_var (p := pInt a3) 2) (fun _ => x_kd (E := fun (b_ : Unit) => pInt (a2.length : Int)) (x_lenL (Ee := pStr) m_len (x_var (p := (pL pStr) a2) 1) (fun _ => rdF))))) (fun _ _ => rfl)))))) (fun _ _ _ => rdF)))) (fun _ => List.Sublist.refl _))))) (by unfold M_l_scope; rfl)
end
end My
end
section
set_option maxHeartbeats 4000000
set_option synthInstance.maxSize 2000
namespace My
open PySem PySem.Spec PyProof.Rows L2 L3
section
variable {P : Program} {w : World} {K : PySem.W.Frag} {mg : Str → Option Value} {base : Heap}
theorem sc_l_assignments : FnScope ["_law_names_here", "_law_sides", "_law_found", "_law_name", "_law_grown", "_law_values", "_law_value", "_law_more"] ["_law_names_here", "_law_sides"] (defScope (top 47)) := ⟨rfl, rfl, rfl, by decide +kernel, rfl, by decide +kernel, by decide +kernel⟩
theorem ok_l_assignments {f : Addr} {fd : FuncData} (C : Ev P K mg) (FD : FnP K "_law_assignments" (top 47) f fd)   : FnOk P w K mg base CX0 1 f fd ["_law_names_here", "_law_sides"] (Sp_FF_f (pL pStr) (pM (κ := Str) (pL pInt)) M_l_assignments (pL (pM (κ := Str) pInt))) := by
  have m_dict := C.m_dict
  have m_list := C.m_list
  refine fn_FF_f FD sc_l_assignments rfl fun cdv A outer s H E hr  a1 a2 => ?_
  exact s_is (s_T (T := (some ([([] : List (Str × Int))] : List (List (Str × Int)))).bind fun x168 => (forS a1 (x168 : (List (List (Str × Int)))) fun x172 s171 => (some ([] : List (List (Str × Int)))).bind fun x174 => (forS s171 (x174 : (List (List (Str × Int)))) fun x180 s179 => (dget a2 x172).bind fun x184 => (forS x184 (s179 : (List (List (Str × Int)))) fun x187 s186 => (some (x180 : List (Str × Int))).bind fun x189 => grd (x189.length < sizeLine) (grd (s186.length < sizeLine) (some (s186 ++ [(dput x189 x172 x187)])))).bind fun s188 => some s188).bind fun s181 => (some (s181 : List (List (Str × Int)))).bind fun x182 => some x182).bind fun s173 => some s173) (s_let (i := 2) (pL (pM (κ := Str) pInt)) sc_l_assignments.nd (x_kd (E := fun (b_ : (Unit × Unit)) => (pL (pM (κ := Str) pInt)) ([([] : List (Str × Int))])) (x_frz (o_kd (E := fun (b_ : (Unit × Unit)) => (oL (pM (κ := Str) pInt)) ([([] : List (Str × Int))])) (x_disp (pM (κ := Str) pInt) (fun _ => [_]) (a_cons (x_kd (E := fun (b_ : Unit) => (pM (κ := Str) pInt) ([] : List (Str × Int))) (x_frz (o_kd (E := fun (b_ : Unit) => (oM (κ := Str) pInt) ([] : List (Str × Int))) (x_dict0 (κ := Str) pInt)))) (fun _ => a_nil)) (fun _ => rfl) (fun _ => by simp))))) fun (b169 : (Unit × Unit)) x168 => s_T (T := (forS a1 (x168 : (List (List (Str × Int)))) fun x172 s171 => (some ([] : List (List (Str × Int)))).bind fun x174 => (forS s171 (x174 : (List (List (Str × Int)))) fun x180 s179 => (dget a2 x172).bind fun x184 => (forS x184 (s179 : (List (List (Str × Int)))) fun x187 s186 => (some (x180 : List (Str × Int))).bind fun x189 => grd (x189.length < sizeLine) (grd (s186.length < sizeLine) (some (s186 ++ [(dput x189 x172 x187)])))).bind fun s188 => some s188).bind fun s181 => (some (s181 : List (List (Str × Int)))).bind fun x182 => some x182).bind fun s173 => some s173) (s_forS PassesOwn.never (fun (b_ : Unit) (s_ : (List (List (Str × Int)))) => ([some ((pL pStr) a1), some ((pM (κ := Str) (pL pInt)) a2), some ((pL (pM (κ := Str) pInt)) s_), none, none, none, none, none], [])) (fun (b_ : Unit) => x168) (i_list (x_var (p := (pL pStr) a1) 0)) (pg_name (i := 3) sc_l_assignments.nd rfl (by first | exact .inl rfl | exact .inr rfl)) (tg_name 3) (fun _ => (by exact ⟨rfl, rfl, rfl, trivial⟩)) (fun _ => List.Sublist.refl _) (fun b170 x172 s171 => s_T (T := (some ([] : List (List (Str × Int)))).bind fun x174 => (forS s171 (x174 : (List (List (Str × Int)))) fun x180 s179 => (dget a2 x172).bind fun x184 => (forS x184 (s179 : (List (List (Str × Int)))) fun x187 s186 => (some (x180 : List (Str × Int))).bind fun x189 => grd (x189.length < sizeLine) (grd (s186.length < sizeLine) (some (s186 ++ [(dput x189 x172 x187)])))).bind fun s188 => some s188).bind fun s181 => (some (s181 : List (List (Str × Int)))).bind fun x182 => some x182) (s_letO (i := 4) (oL (pM (κ := Str) pInt)) sc_l_assignments.nd (o_kd (E := fun (b_ : Unit) => (oL (pM (κ := Str) pInt)) ([])) (x_nil (pM (κ := Str) pInt))) fun (b175 : Unit) x174 v177 => s_T (T := (forS s171 (x174 : (List (List (Str × Int)))) fun x180 s179 => (dget a2 x172).bind fun x184 => (forS x184 (s179 : (List (List (Str × Int)))) fun x187 s186 => (some (x180 : List (Str × Int))).bind fun x189 => grd (x189.length < sizeLine) (grd (s186.length < sizeLine) (some (s186 ++ [(dput x189 x172 x187)])))).bind fun s188 => some s188).bind fun s181 => (some (s181 : List (List (Str × Int)))).bind fun x182 => some x182) (s_forS PassesOwn.never (fun (b_ : Unit) (s_ : (List (List (Str × Int)))) => ([some ((pL pStr) a1), some ((pM (κ := Str) (pL pInt)) a2), some ((pL (pM (κ := Str) pInt)) s171), some (pStr x172), some (pV v177), none, none, none], [⟨v177, (oL (pM (κ := Str) pInt)) s_, none⟩])) (fun (b_ : Unit) => x174) (i_list (x_kd (E := fun (b_ : Unit) => (pL (pM (κ := Str) pInt)) s171) (x_frz (o_kd (E := fun (b_ : Unit) => (oL (pM (κ := Str) pInt)) s171) (x_listL (Ee := (pM (κ := Str) pInt)) m_list (x_var (p := (pL (pM (κ := Str) pInt)) s171) 2) (fun _ => rdF)))))) (pg_name (i := 5) sc_l_assignments.nd rfl (by first | exact .inl rfl | exact .inr rfl)) (tg_name 5) (fun _ => (by exact ⟨rfl, rfl, rfl, rfl, rfl, trivial⟩)) (fun _ => List.Sublist.refl _) (fun b178 x180 s179 => s_T (T := (dget a2 x172).bind fun x184 => (forS x184 (s179 : (List (List (Str × Int)))) fun x187 s186 => (some (x180 : List (Str × Int))).bind fun x189 => grd (x189.length < sizeLine) (grd (s186.length < sizeLine) (some (s186 ++ [(dput x189 x172 x187)])))).bind fun s188 => some s188) (s_forS PassesOwn.never (fun (b_ : ((Unit × Unit) × (List Int))) (s_ : (List (List (Str × Int)))) => ([some ((pL pStr) a1), some ((pM (κ := Str) (pL pInt)) a2), some ((pL (pM (κ := Str) pInt)) s171), some (pStr x172), some (pV v177), some ((pM (κ := Str) pInt) x180), none, none], [⟨v177, (oL (pM (κ := Str) pInt)) s_, none⟩])) (fun (b_ : ((Unit × Unit) × (List Int))) => s179) (i_list (x_kd (E := fun (b_ : ((Unit × Unit) × (List Int))) => (pL pInt) b_.2) (x_dget (κ := Str) (Ee := (pL pInt)) hr.units (x_var (p := (pM (κ := Str) (pL pInt)) a2) 1) (fun _ => x_var (p := pStr x172) 3) (fun _ _ => rdMF)))) (pg_name (i := 6) sc_l_assignments.nd rfl (by first | exact .inl rfl | exact .inr rfl)) (tg_name 6) (fun _ => (by exact ⟨rfl, rfl, rfl, rfl, rfl, rfl, trivial⟩)) (fun _ => List.Sublist.refl _) (fun b185 x187 s186 => s_T (T := (some (x180 : List (Str × Int))).bind fun x189 => grd (x189.length < sizeLine) (grd (s186.length < sizeLine) (some (s186 ++ [(dput x189 x172 x187)])))) (s_letO (i := 7) (oM (κ := Str) pInt) sc_l_assignments.nd (o_kd (E := fun (b_ : Unit) => (oM (κ := Str) pInt) x180) (x_dictD (κ := Str) (Ee := pInt) m_dict (x_var (p := (pM (κ := Str) pInt) x180) 5) (fun _ => rdMF))) fun (b190 : Unit) x189 v192 => s_T (T := grd (x189.length < sizeLine) (grd (s186.length < sizeLine) (some (s186 ++ [(dput x189 x172 x187)])))) (s_dput (κ := Str) (Ee := pInt) 0 hr.units (x_var (p := pInt x187) 6) (fun _ => x_var (p := pV v192) 7) (fun _ _ => x_var (p := pStr x172) 3) (fun _ _ _ => rfl) fun (b193 : ((Unit × Unit) × Unit)) => s_frz (i := 7) (c := ⟨v192, (oM (κ := Str) pInt) (dput x189 x172 x187), none⟩) 0 (s_T (T := grd (s186.length < sizeLine) (some (s186 ++ [(dput x189 x172 x187)]))) (s_expr (x_app 0 (x_var (p := pV v177) 4) (fun _ => x_var (p := (pM (κ := Str) pInt) (dput x189 x172 x187)) 7) (fun _ => rfl) (fun _ _ => rfl)) fun (b194 : (Unit × Unit)) => s_end (s186 ++ [(dput x189 x172 x187)]) rfl (by exact ⟨rfl, rfl, rfl, rfl, rfl, rfl, trivial⟩) (List.Sublist.refl _)))))) fun b185 s188 => s_end s188 rfl (by exact ⟨rfl, rfl, rfl, rfl, rfl, trivial⟩) (List.Sublist.refl _))) fun b178 s181 => s_frz (i := 4) (c := ⟨v177, (oL (pM (κ := Str) pInt)) s181, none⟩) 0 (s_T (T := (some (s181 : List (List (Str × Int)))).bind fun x182 => some x182) (s_let (i := 2) (pL (pM (κ := Str) pInt)) sc_l_assignments.nd (x_var (p := (pL (pM (κ := Str) pInt)) s181) 4) fun (b183 : Unit) x182 => s_end x182 rfl (by exact ⟨rfl, rfl, rfl, trivial⟩) (List.Sublist.refl _)))))) fun b170 s173 => s_T (T := some s173) (s_ret (P := (fun _ => [])) (Rp := (pL (pM (κ := Str) pInt))) (ι := id) (rv := fun (b : Unit) => s173) (fun _ _ _ h => by exact h) (x_var (p := (pL (pM (κ := Str) pInt)) s173) 2) (fun _ => List.Sublist.refl _))))) (by unfold M_l_assignments; rfl)
end
end My
end
section
set_option maxHeartbeats 4000000
set_option synthInstance.maxSize 2000
namespace My
open PySem PySem.Spec PyProof.Rows L2 L3
section
variable {P : Program} {w : World} {K : PySem.W.Frag} {mg : Str → Option Value} {base : Heap}
theorem sc_l_is_side : FnScope ["_law_actual", "_law_k", "_law_value"] ["_law_actual"] (defScope (top 48)) := ⟨rfl, rfl, rfl, by decide +kernel, rfl, by decide +kernel, by decide +kernel⟩
theorem ok_l_is_side {f : Addr} {fd : FuncData} (C : Ev P K mg) (FD : FnP K "_law_is_side" (top 48) f fd)   : FnOk P w K mg base CX0 2 f fd ["_law_actual"] (Sp_F_f (pL pInt) M_l_is_side pBl) := by
  have m_all := C.m_all
  have m_isinstance := C.m_isinstance
  have m_len := C.m_len
  have m_list := C.m_list
  have m_range := C.m_range
  obtain ⟨f_l_is_integer, fd_l_is_integer, F_l_is_integer, g_l_is_integer⟩ := C.f_l_is_integer
  have k_l_is_integer := ok_l_is_integer (P := P) (w := w) (base := base) C F_l_is_integer
  have b_l_is_integer : Binds K fd_l_is_integer ["_law_actual"] [] := F_l_is_integer.bindsN fun _ _ _ _ _ _ us hl => match us, hl with | [_], _ => rfl
  refine fn_F_f FD sc_l_is_side rfl fun cdv A outer s H E hr  a1 => ?_
  exact s_is (s_T (T := ((if (!true) = true then some (true, ()) else (compM a1 () (fun x204 s206 => if true = true then (M_l_is_integer x204).bind fun r208 => some (some r208, ()) else some (none, ()))).bind fun r209 => some ((!((r209.1).all id)), ()))).bind fun c210 => if c210.1 = true then some false else grd (rg ((a1.length : Int) - (1 : Int)) = true) ((compM (rngL 0 ((a1.length : Int) - (1 : Int)).toNat) () (fun x213 s216 => if true = true then (atI a1 x213).bind fun x218 => (atI a1 (x213 + (1 : Int))).bind fun x219 => some (some (decide (x218 < x219)), ()) else some (none, ()))).bind fun r220 => some ((r220.1).all id))) (s_ifT (ins_F _) (t_kd (c := fun (b_ : (Unit × (Bool × Unit))) => b_.2.1) (PW.pt (w_orM (ΔS := fun (b_ : Unit) (s_ : Unit) => []) (s1 := fun (b_ : Unit) => ()) (s2 := fun (b_ : Unit) (c_ : (Unit × ((List Bool) × Unit))) => ()) (t_kd (c := fun (b_ : Unit) => (!true)) (t_not (t_kd (c := fun (b_ : Unit) => true) (t_val (x_kd (E := fun (b_ : Unit) => pBl true) (x_isi (cn := "list") (fun _ => "list") (fun _ => true) m_isinstance m_list (x_var (p := (pL pInt) a1) 0) (fun _ => tyL) (fun _ => by decide +kernel) (by decide +kernel))))))) (fun (b202 : Unit) => w_or1 (t_kd (c := fun (b_ : (Unit × ((List Bool) × Unit))) => (!((b_.2.1).all id))) (t_not (t_kd (c := fun (b_ : (Unit × ((List Bool) × Unit))) => ((b_.2.1).all id)) (t_val (x_kd (E := fun (b_ : (Unit × ((List Bool) × Unit))) => pBl ((b_.2.1).all id)) (x_all m_all (x_kd (E := fun (b_ : (Unit × ((List Bool) × Unit))) => (pL pBl) b_.2.1) (x_frz (o_kd (E := fun (b_ : (Unit × ((List Bool) × Unit))) => (oL pBl) b_.2.1) (x_lc (own := [("_law_value", 2)]) (C := fun (b_ : Unit) (s_ : Unit) => []) (s0 := fun (b_ : Unit) => ()) (s2 := fun (b_ : Unit) (x_ : Int) (s_ : Unit) (c_ : Unit) => ()) (s3 := fun (b_ : Unit) (x_ : Int) (s_ : Unit) (c_ : Unit) (d_ : (Unit × Bool)) => ()) (Ex := pInt) (Ee := pBl) (δ := Bool) (y := fun (b_ : Unit) (x_ : Int) (s_ : Unit) (c_ : Unit) (d_ : (Unit × Bool)) => d_.2) (T2 := fun (b_ : Unit) (x_ : Int) (s_ : Unit) (c_ : Unit) => (M_l_is_integer x_).bind fun r208 => some (some r208, ())) (c := fun (b_ : Unit) (x_ : Int) (s_ : Unit) (c_ : Unit) => true) (f := fun (b_ : Unit) (x_ : Int) (s_ : Unit) => if true = true then (M_l_is_integer x_).bind fun r208 => some (some r208, ()) else some (none, ())) sc_l_is_side.nd (i_list (x_var (p := (pL pInt) a1) 0)) (blkOk_by (own := [("_law_value", 2)]) (N := ["_law_actual", "_law_k", "_law_value"]) (sc := (defScope (top 48))) (by decide +kernel)) (fun _ _ _ _ _ => pg_name (i := 2) sc_l_is_side.nd rfl (by first | exact .inl rfl | exact .inr rfl)) (tw_name 2) (fun _ => rfl) (by exact fun q207 _ _ _ _ _ b203 x204 s206 => pts_T) (by exact fun q207 _ _ _ _ _ b203 x204 s206 _ => x_out (x_kd (E := fun (b_ : (Unit × Bool)) => pBl b_.2) (x_F_f (kk := 1) (E1 := pInt) k_l_is_integer (hr.mono (by decide)) g_l_is_integer F_l_is_integer.kp b_l_is_integer (x_var (p := pInt x204) 2)))))))) (fun _ => rdF)))))))) (fun _ => rfl) (fun _ _ => rfl)))) (fun (b211 : (Unit × (Bool × Unit))) => s_T (T := some false) (s_ret (P := (fun _ => [])) (Rp := pBl) (ι := id) (rv := fun (b : Unit) => false) (fun _ _ _ h => by exact h) x_bl (fun _ => List.Sublist.refl _))) fun (b211 : (Unit × (Bool × Unit))) => s_T (T := grd (rg ((a1.length : Int) - (1 : Int)) = true) ((compM (rngL 0 ((a1.length : Int) - (1 : Int)).toNat) () (fun x213 s216 => if true = true then (atI a1 x213).bind fun x218 => (atI a1 (x213 + (1 : Int))).bind fun x219 => some (some (decide (x218 < x219)), ()) else some (none, ()))).bind fun r220 => some ((r220.1).all id))) (s_ret (P := (fun _ => [])) (Rp := pBl) (ι := id) (rv := fun (b : ((Unit × Unit) × ((List Bool) × Unit))) => ((b.2.1).all id)) (fun _ _ _ h => by exact h) (x_kd (x_kd (E := fun (b_ : ((Unit × Unit) × ((List Bool) × Unit))) => pBl ((b_.2.1).all id)) (x_all m_all (x_kd (E := fun (b_ : ((Unit × Unit) × ((List Bool) × Unit))) => (pL pBl) b_.2.1) (x_frz (o_kd (E := fun (b_ : ((Unit × Unit) × ((List Bool) × Unit))) => (oL pBl) b_.2.1) (x_lc (own := [("_law_k", 1)]) (C := fun (b_ : (Unit × Unit)) (s_ : Unit) => []) (s0 := fun (b_ : (Unit × Unit)) => ()) (s2 := fun (b_ : (Unit × Unit)) (x_ : Int) (s_ : Unit) (c_ : Unit) => ()) (s3 := fun (b_ : (Unit × Unit)) (x_ : Int) (s_ : Unit) (c_ : Unit) (d_ : (((Unit × Unit) × Int) × ((Unit × (Unit × Unit)) × Int))) => ()) (Ex := pInt) (Ee := pBl) (δ := Bool) (y := fun (b_ : (Unit × Unit)) (x_ : Int) (s_ : Unit) (c_ : Unit) (d_ : (((Unit × Unit) × Int) × ((Unit × (Unit × Unit)) × Int))) => (decide (d_.1.2 < d_.2.2))) (T2 := fun (b_ : (Unit × Unit)) (x_ : Int) (s_ : Unit) (c_ : Unit) => (atI a1 x_).bind fun x218 => (atI a1 (x_ + (1 : Int))).bind fun x219 => some (some (decide (x218 < x219)), ())) (c := fun (b_ : (Unit × Unit)) (x_ : Int) (s_ : Unit) (c_ : Unit) => true) (f := fun (b_ : (Unit × Unit)) (x_ : Int) (s_ : Unit) => if true = true then (atI a1 x_).bind fun x218 => (atI a1 (x_ + (1 : Int))).bind fun x219 => some (some (decide (x218 < x219)), ()) else some (none, ())) sc_l_is_side.nd (i_rng1 m_range (x_kd (E := fun (b_ : (Unit × Unit)) => pInt ((a1.length : Int) - (1 : Int))) (x_sub (x_kd (E := fun (b_ : Unit) => pInt (a1.length : Int)) (x_lenL (Ee := pInt) m_len (x_var (p := (pL pInt) a1) 0) (fun _ => rdF))) (fun _ => x_int (i := 1))))) (blkOk_by (own := [("_law_k", 1)]) (N := ["_law_actual", "_law_k", "_law_value"]) (sc := (defScope (top 48))) (by decide +kernel)) (fun _ _ _ _ _ => pg_name (i := 1) sc_l_is_side.nd rfl (by first | exact .inl rfl | exact .inr rfl)) (tw_name 1) (fun _ => rfl) (by exact fun q217 _ _ _ _ _ b212 x213 s216 => pts_T) (by exact fun q217 _ _ _ _ _ b212 x213 s216 _ => x_out (x_kd (E := fun (b_ : (((Unit × Unit) × Int) × ((Unit × (Unit × Unit)) × Int))) => pBl (decide (b_.1.2 < b_.2.2))) (x_lt (x_kd (E := fun (b_ : ((Unit × Unit) × Int)) => pInt b_.2) (x_ixL (Ee := pInt) (x_var (p := (pL pInt) a1) 0) (fun _ => x_var (p := pInt x213) 1) (fun _ _ => rdF))) (fun _ => x_kd (E := fun (b_ : ((Unit × (Unit × Unit)) × Int)) => pInt b_.2) (x_ixL (Ee := pInt) (x_var (p := (pL pInt) a1) 0) (fun _ => x_kd (E := fun (b_ : (Unit × Unit)) => pInt (x213 + (1 : Int))) (x_add (x_var (p := pInt x213) 1) (fun _ => x_int (i := 1)))) (fun _ _ => rdF)))))))))) (fun _ => rdF)))) (fun _ => List.Sublist.refl _)))) (by unfold M_l_is_side; rfl)
end
end My
end
section
set_option maxHeartbeats 4000000
set_option synthInstance.maxSize 2000
namespace My
open PySem PySem.Spec PyProof.Rows L2 L3
section
variable {P : Program} {w : World} {K : PySem.W.Frag} {mg : Str → Option Value} {base : Heap}
theorem sc_l_same_sides : FnScope ["_law_actual", "_law_expected", "_law_found", "_law_name"] ["_law_actual", "_law_expected"] (defScope (top 49)) := ⟨rfl, rfl, rfl, by decide +kernel, rfl, by decide +kernel, by decide +kernel⟩
theorem ok_l_same_sides {f : Addr} {fd : FuncData} (C : Ev P K mg) (FD : FnP K "_law_same_sides" (top 49) f fd)   : FnOk P w K mg base CX0 3 f fd ["_law_actual", "_law_expected"] (Sp_FF_f (pM (κ := Str) (pL pInt)) (pM (κ := Str) (pL pInt)) M_l_same_sides pBl) := by
  have m_all := C.m_all
  have m_dict := C.m_dict
  have m_isinstance := C.m_isinstance
  have m_len := C.m_len
  obtain ⟨f_l_is_side, fd_l_is_side, F_l_is_side, g_l_is_side⟩ := C.f_l_is_side
  have k_l_is_side := ok_l_is_side (P := P) (w := w) (base := base) C F_l_is_side
  have b_l_is_side : Binds K fd_l_is_side ["_law_actual"] [] := F_l_is_side.bindsN fun _ _ _ _ _ _ us hl => match us, hl with | [_], _ => rfl
  refine fn_FF_f FD sc_l_same_sides rfl fun cdv A outer s H E hr  a1 a2 => ?_
  exact s_is (s_T (T := if ((!true) || (!decide ((a1.length : Int) = (a2.length : Int)))) = true then some false else (compM (a2.map Prod.fst) () (fun x223 s230 => ((if (dhas a1 x223) = true then (dget a1 x223).bind fun x235 => (M_l_is_side x235).bind fun r236 => some (r236, ()) else some (false, ()))).bind fun c237 => if c237.1 = true then some (some x223, ()) else some (none, ()))).bind fun r238 => (some (r238.1 : List Str)).bind fun x239 => ((if (decide ((x239.length : Int) = (a2.length : Int))) = true then (compM x239 () (fun x254 s257 => if true = true then (dget a1 x254).bind fun x259 => (dget a2 x254).bind fun x260 => some (some (decide (x259 = x260)), ()) else some (none, ()))).bind fun r261 => some (((r261.1).all id), ()) else some (false, ()))).bind fun c262 => some (c262.1)) (s_ifT (ins_F _) (t_kd (c := fun (b_ : Unit) => ((!true) || (!decide ((a1.length : Int) = (a2.length : Int))))) (PW.pt (w_or (t_totV (!true) () (fun _ => rfl) (by exact (t_kd (c := fun (b_ : Unit) => (!true)) (t_not (t_kd (c := fun (b_ : Unit) => true) (t_val (x_kd (E := fun (b_ : Unit) => pBl true) (x_isi (cn := "dict") (fun _ => "dict") (fun _ => true) m_isinstance m_dict (y_var (p := (pM (κ := Str) (pL pInt)) a1) 0) (fun _ => tyM) (fun _ => by decide +kernel) (by decide +kernel))))))))) (w_or1 (t_totV (!decide ((a1.length : Int) = (a2.length : Int))) ((), ()) (fun _ => rfl) (by exact (t_kd (c := fun (b_ : (Unit × Unit)) => (!decide ((a1.length : Int) = (a2.length : Int)))) (t_neI (x_kd (E := fun (b_ : Unit) => pInt (a1.length : Int)) (x_lenM (κ := Str) (Ee := (pL pInt)) m_len (y_var (p := (pM (κ := Str) (pL pInt)) a1) 0) (fun _ => rdMF))) (fun _ => x_kd (E := fun (b_ : Unit) => pInt (a2.length : Int)) (x_lenM (κ := Str) (Ee := (pL pInt)) m_len (y_var (p := (pM (κ := Str) (pL pInt)) a2) 1) (fun _ => rdMF))))))))))) (fun (b221 : Unit) => s_T (T := some false) (s_ret (P := (fun _ => [])) (Rp := pBl) (ι := id) (rv := fun (b : Unit) => false) (fun _ _ _ h => by exact h) x_bl (fun _ => List.Sublist.refl _))) fun (b221 : Unit) => s_T (T := (compM (a2.map Prod.fst) () (fun x223 s230 => ((if (dhas a1 x223) = true then (dget a1 x223).bind fun x235 => (M_l_is_side x235).bind fun r236 => some (r236, ()) else some (false, ()))).bind fun c237 => if c237.1 = true then some (some x223, ()) else some (none, ()))).bind fun r238 => (some (r238.1 : List Str)).bind fun x239 => ((if (decide ((x239.length : Int) = (a2.length : Int))) = true then (compM x239 () (fun x254 s257 => if true = true then (dget a1 x254).bind fun x259 => (dget a2 x254).bind fun x260 => some (some (decide (x259 = x260)), ()) else some (none, ()))).bind fun r261 => some (((r261.1).all id), ()) else some (false, ()))).bind fun c262 => some (c262.1)) (s_letOA (i := 2) (oL pStr) (a_lc (i := 2) (own := [("_law_name", 3)]) (C := fun (b_ : Unit) (s_ : Unit) => []) (s0 := fun (b_ : Unit) => ()) (s2 := fun (b_ : Unit) (x_ : Str) (s_ : Unit) (c_ : ((Unit × Unit) × (Bool × Unit))) => ()) (s3 := fun (b_ : Unit) (x_ : Str) (s_ : Unit) (c_ : ((Unit × Unit) × (Bool × Unit))) (d_ : Unit) => ()) (Ex := pStr) (Ee := pStr) (δ := Str) (y := fun (b_ : Unit) (x_ : Str) (s_ : Unit) (c_ : ((Unit × Unit) × (Bool × Unit))) (d_ : Unit) => x_) (T2 := fun (b_ : Unit) (x_ : Str) (s_ : Unit) (c_ : ((Unit × Unit) × (Bool × Unit))) => some (some x_, ())) (c := fun (b_ : Unit) (x_ : Str) (s_ : Unit) (c_ : ((Unit × Unit) × (Bool × Unit))) => c_.2.1) (f := fun (b_ : Unit) (x_ : Str) (s_ : Unit) => ((if (dhas a1 x_) = true then (dget a1 x_).bind fun x235 => (M_l_is_side x235).bind fun r236 => some (r236, ()) else some (false, ()))).bind fun c237 => if c237.1 = true then some (some x_, ()) else some (none, ())) sc_l_same_sides.nd (i_mkeys (κ := Str) (x_var (p := (pM (κ := Str) (pL pInt)) a2) 1)) (blkOk_by (own := [("_law_name", 3)]) (N := ["_law_actual", "_law_expected", "_law_found", "_law_name"]) (sc := (defScope (top 49))) (by decide +kernel)) (fun _ _ _ _ _ => pg_name (i := 3) sc_l_same_sides.nd rfl (by first | exact .inl rfl | exact .inr rfl)) (tw_name 3) (fun _ => rfl) (by exact fun q231 _ _ _ _ _ b222 x223 s230 => t_out (pts_one (t_kd (c := fun (b_ : ((Unit × Unit) × (Bool × Unit))) => b_.2.1) (PW.pt (w_andM (ΔS := fun (b_ : (Unit × Unit)) (s_ : Unit) => [] ++ [q231]) (s1 := fun (b_ : (Unit × Unit)) => ()) (s2 := fun (b_ : (Unit × Unit)) (c_ : (((Unit × Unit) × (List Int)) × Bool)) => ()) (t_kd (c := fun (b_ : (Unit × Unit)) => (dhas a1 x223)) (t_din (κ := Str) (Ee := (pL pInt)) hr.units (x_var (p := pStr x223) 3) (fun _ => x_var (p := (pM (κ := Str) (pL pInt)) a1) 0) (fun _ _ => rdMF))) (fun (b234 : (Unit × Unit)) => w_and1 (t_kd (c := fun (b_ : (((Unit × Unit) × (List Int)) × Bool)) => b_.2) (t_val (x_kd (E := fun (b_ : (((Unit × Unit) × (List Int)) × Bool)) => pBl b_.2) (x_F_f (kk := 2) (E1 := (pL pInt)) k_l_is_side (hr.mono (by decide)) g_l_is_side F_l_is_side.kp b_l_is_side (x_kd (E := fun (b_ : ((Unit × Unit) × (List Int))) => (pL pInt) b_.2) (x_dget (κ := Str) (Ee := (pL pInt)) hr.units (x_var (p := (pM (κ := Str) (pL pInt)) a1) 0) (fun _ => x_var (p := pStr x223) 3) (fun _ _ => rdMF)))))))) (fun _ => rfl) (fun _ _ => rfl)))))) (by exact fun q231 _ _ _ _ _ b222 x223 s230 _ => x_out (x_var (p := pStr x223) 3)) (sw_true rfl rfl rfl (by decide +kernel))) fun (b240 : (Unit × ((List Str) × Unit))) x239 v242 => s_frz (i := 2) (c := ⟨v242, (oL pStr) x239, none⟩) 0 (s_T (T := ((if (decide ((x239.length : Int) = (a2.length : Int))) = true then (compM x239 () (fun x254 s257 => if true = true then (dget a1 x254).bind fun x259 => (dget a2 x254).bind fun x260 => some (some (decide (x259 = x260)), ()) else some (none, ()))).bind fun r261 => some (((r261.1).all id), ()) else some (false, ()))).bind fun c262 => some (c262.1)) (s_ret (P := (fun _ => [])) (Rp := pBl) (ι := id) (rv := fun (b : ((Unit × Unit) × (Bool × Unit))) => b.2.1) (fun _ _ _ h => by exact h) (x_kd (x_kd (E := fun (b_ : ((Unit × Unit) × (Bool × Unit))) => pBl b_.2.1) (v_andM (ΔS := fun (b_ : (Unit × Unit)) (s_ : Unit) => []) (s1 := fun (b_ : (Unit × Unit)) => ()) (s2 := fun (b_ : (Unit × Unit)) (c_ : (Unit × ((List Bool) × Unit))) => ()) (x_kd (E := fun (b_ : (Unit × Unit)) => pBl (decide ((x239.length : Int) = (a2.length : Int)))) (x_eqI (x_kd (E := fun (b_ : Unit) => pInt (x239.length : Int)) (x_lenL (Ee := pStr) m_len (x_var (p := (pL pStr) x239) 2) (fun _ => rdF))) (fun _ => x_kd (E := fun (b_ : Unit) => pInt (a2.length : Int)) (x_lenM (κ := Str) (Ee := (pL pInt)) m_len (x_var (p := (pM (κ := Str) (pL pInt)) a2) 1) (fun _ => rdMF))))) (fun (b252 : (Unit × Unit)) => v_one (x_kd (E := fun (b_ : (Unit × ((List Bool) × Unit))) => pBl ((b_.2.1).all id)) (x_all m_all (x_kd (E := fun (b_ : (Unit × ((List Bool) × Unit))) => (pL pBl) b_.2.1) (x_frz (o_kd (E := fun (b_ : (Unit × ((List Bool) × Unit))) => (oL pBl) b_.2.1) (x_lc (own := [("_law_name", 3)]) (C := fun (b_ : Unit) (s_ : Unit) => []) (s0 := fun (b_ : Unit) => ()) (s2 := fun (b_ : Unit) (x_ : Str) (s_ : Unit) (c_ : Unit) => ()) (s3 := fun (b_ : Unit) (x_ : Str) (s_ : Unit) (c_ : Unit) (d_ : (((Unit × Unit) × (List Int)) × ((Unit × Unit) × (List Int)))) => ()) (Ex := pStr) (Ee := pBl) (δ := Bool) (y := fun (b_ : Unit) (x_ : Str) (s_ : Unit) (c_ : Unit) (d_ : (((Unit × Unit) × (List Int)) × ((Unit × Unit) × (List Int)))) => (decide (d_.1.2 = d_.2.2))) (T2 := fun (b_ : Unit) (x_ : Str) (s_ : Unit) (c_ : Unit) => (dget a1 x_).bind fun x259 => (dget a2 x_).bind fun x260 => some (some (decide (x259 = x260)), ())) (c := fun (b_ : Unit) (x_ : Str) (s_ : Unit) (c_ : Unit) => true) (f := fun (b_ : Unit) (x_ : Str) (s_ : Unit) => if true = true then (dget a1 x_).bind fun x259 => (dget a2 x_).bind fun x260 => some (some (decide (x259 = x260)), ()) else some (none, ())) sc_l_same_sides.nd (i_list (x_var (p := (pL pStr) x239) 2)) (blkOk_by (own := [("_law_name", 3)]) (N := ["_law_actual", "_law_expected", "_law_found", "_law_name"]) (sc := (defScope (top 49))) (by decide +kernel)) (fun _ _ _ _ _ => pg_name (i := 3) sc_l_same_sides.nd rfl (by first | exact .inl rfl | exact .inr rfl)) (tw_name 3) (fun _ => rfl) (by exact fun q258 _ _ _ _ _ b253 x254 s257 => pts_T) (by exact fun q258 _ _ _ _ _ b253 x254 s257 _ => x_out (x_kd (E := fun (b_ : (((Unit × Unit) × (List Int)) × ((Unit × Unit) × (List Int)))) => pBl (decide (b_.1.2 = b_.2.2))) (x_eqL hr.units dtInt (x_kd (E := fun (b_ : ((Unit × Unit) × (List Int))) => (pL pInt) b_.2) (x_dget (κ := Str) (Ee := (pL pInt)) hr.units (x_var (p := (pM (κ := Str) (pL pInt)) a1) 0) (fun _ => x_var (p := pStr x254) 3) (fun _ _ => rdMF))) (fun _ => x_kd (E := fun (b_ : ((Unit × Unit) × (List Int))) => (pL pInt) b_.2) (x_dget (κ := Str) (Ee := (pL pInt)) hr.units (x_var (p := (pM (κ := Str) (pL pInt)) a2) 1) (fun _ => x_var (p := pStr x254) 3) (fun _ _ => rdMF))) (fun _ _ => rdF) (fun _ _ => rdF)))))))) (fun _ => rdF)))) (fun _ => rfl) (fun _ _ => rfl)))) (fun _ => List.Sublist.refl _)))))) (by unfold M_l_same_sides; rfl)
end
end My
end
section
set_option maxHeartbeats 4000000
set_option synthInstance.maxSize 2000
namespace My
open PySem PySem.Spec PyProof.Rows L2 L3
section
variable {P : Program} {w : World} {K : PySem.W.Frag} {mg : Str → Option Value} {base : Heap}
theorem sc_l_copy : FnScope ["_law_sides", "_law_copied", "_law_name"] ["_law_sides"] (defScope (top 50)) := ⟨rfl, rfl, rfl, by decide +kernel, rfl, by decide +kernel, by decide +kernel⟩
theorem ok_l_copy {f : Addr} {fd : FuncData} (C : Ev P K mg) (FD : FnP K "_law_copy" (top 50) f fd)   : FnOk P w K mg base CX0 1 f fd ["_law_sides"] (Sp_F_o (pM (κ := Str) (pL pInt)) M_l_copy (oM (κ := Str) (pL pInt))) := by
  have m_list := C.m_list
  refine fn_F_o FD sc_l_copy rfl fun cdv A outer s H E hr  a1 => ?_
  exact s_is (s_T (T := (some (([] : List (Str × List Int)) : List (Str × List Int))).bind fun x263 => (forS (a1.map Prod.fst) (x263 : (List (Str × List Int))) fun x269 s268 => (dget a1 x269).bind fun x272 => grd (s268.length < sizeLine) (some (dput s268 x269 x272))).bind fun s270 => some s270) (s_letO (i := 1) (oM (κ := Str) (pL pInt)) sc_l_copy.nd (o_kd (E := fun (b_ : Unit) => (oM (κ := Str) (pL pInt)) ([] : List (Str × List Int))) (x_dict0 (κ := Str) (pL pInt))) fun (b264 : Unit) x263 v266 => s_T (T := (forS (a1.map Prod.fst) (x263 : (List (Str × List Int))) fun x269 s268 => (dget a1 x269).bind fun x272 => grd (s268.length < sizeLine) (some (dput s268 x269 x272))).bind fun s270 => some s270) (s_forS PassesOwn.never (fun (b_ : Unit) (s_ : (List (Str × List Int))) => ([some ((pM (κ := Str) (pL pInt)) a1), some (pV v266), none], [⟨v266, (oM (κ := Str) (pL pInt)) s_, none⟩])) (fun (b_ : Unit) => x263) (i_mkeys (κ := Str) (x_var (p := (pM (κ := Str) (pL pInt)) a1) 0)) (pg_name (i := 2) sc_l_copy.nd rfl (by first | exact .inl rfl | exact .inr rfl)) (tg_name 2) (fun _ => (by exact ⟨rfl, rfl, trivial⟩)) (fun _ => List.Sublist.refl _) (fun b267 x269 s268 => s_T (T := (dget a1 x269).bind fun x272 => grd (s268.length < sizeLine) (some (dput s268 x269 x272))) (s_dput (κ := Str) (Ee := (pL pInt)) 0 hr.units (x_kd (E := fun (b_ : ((Unit × Unit) × (List Int))) => (pL pInt) b_.2) (x_frz (o_kd (E := fun (b_ : ((Unit × Unit) × (List Int))) => (oL pInt) b_.2) (x_listL (Ee := pInt) m_list (x_kd (E := fun (b_ : ((Unit × Unit) × (List Int))) => (pL pInt) b_.2) (x_dget (κ := Str) (Ee := (pL pInt)) hr.units (x_var (p := (pM (κ := Str) (pL pInt)) a1) 0) (fun _ => x_var (p := pStr x269) 2) (fun _ _ => rdMF))) (fun _ => rdF))))) (fun _ => x_var (p := pV v266) 1) (fun _ _ => x_var (p := pStr x269) 2) (fun _ _ _ => rfl) fun (b273 : ((((Unit × Unit) × (List Int)) × Unit) × Unit)) => s_end (dput s268 x269 b273.1.1.2) rfl (by exact ⟨rfl, rfl, trivial⟩) (List.Sublist.refl _))) fun b267 s270 => s_T (T := some s270) (s_retV 0 (P := (fun _ => [])) (Ro := (oM (κ := Str) (pL pInt))) (ι := id) (rv := fun _ => s270) (fun _ _ _ h => by exact h) (x_var (p := pV v266) 1) (fun _ => rfl) (fun _ => List.Sublist.refl _))))) (by unfold M_l_copy; rfl)
end
end My
end
section
set_option maxHeartbeats 4000000
set_option synthInstance.maxSize 2000
namespace My
open PySem PySem.Spec PyProof.Rows L2 L3
section
variable {P : Program} {w : World} {K : PySem.W.Frag} {mg : Str → Option Value} {base : Heap}
theorem sc_l_weights : FnScope ["_law_stream_here", "_law_known", "_law_weights_here", "_law_scale", "_law_name", "_law_coefficient"] ["_law_stream_here", "_law_known"] (defScope (top 51)) := ⟨rfl, rfl, rfl, by decide +kernel, rfl, by decide +kernel, by decide +kernel⟩
theorem ok_l_weights {f : Addr} {fd : FuncData} (C : Ev P K mg) (FD : FnP K "_law_weights" (top 51) f fd)   : FnOk P w K mg base CX0 3 f fd ["_law_stream_here", "_law_known"] (Sp_OF_o (oL pInt) (pL pStr) M_l_weights (oL (pT2 pInt pStr))) := by
  have m_len := C.m_len
  obtain ⟨f_l_next, fd_l_next, F_l_next, g_l_next⟩ := C.f_l_next
  have k_l_next := ok_l_next (P := P) (w := w) (base := base) C F_l_next
  have b_l_next : Binds K fd_l_next ["_law_stream_here", "_law_size"] [] := F_l_next.bindsN fun _ _ _ _ _ _ us hl => match us, hl with | [_, _], _ => rfl
  obtain ⟨f_l_scope, fd_l_scope, F_l_scope, g_l_scope⟩ := C.f_l_scope
  have k_l_scope := ok_l_scope (P := P) (w := w) (base := base) C F_l_scope
  have b_l_scope : Binds K fd_l_scope ["_law_stream_here", "_law_names_here", "_law_most"] [] := F_l_scope.bindsN fun _ _ _ _ _ _ us hl => match us, hl with | [_, _, _], _ => rfl
  refine fn_OF_o FD sc_l_weights rfl fun cdv A outer s H E hr v1 G1 a1 a2 => ?_
  exact s_is (s_T (T := (some ([] : List (Int × Str))).bind fun x274 => (M_l_next a1 (8 : Int)).bind fun r278 => (atI ([(1 : Int), (1 : Int), (1 : Int), (1 : Int), (1 : Int), (1 : Int), (1 : Int), ((10 : Int) ^ (5 : Int).toNat)]) (r278.1)).bind fun x279 => (some (x279 : Int)).bind fun x280 => if (decide ((a2.length : Int) = (0 : Int))) = true then some (x274, r278.2) else (M_l_scope (r278.2) a2 (6 : Int)).bind fun r284 => (forS (r284.1) ((x274, r284.2) : (List (Int × Str)) × (List Int)) fun x287 s286 => (M_l_next (s286.2) (6 : Int)).bind fun r290 => (if (decide ((0 : Int) < (r290.1))) = true then (M_l_next (r290.2) (4 : Int)).bind fun r293 => (M_l_next (r293.2) (2 : Int)).bind fun r294 => (atI ([(1 : Int), (-(1 : Int))]) (r294.1)).bind fun x295 => grd ((sm (r293.1) || sm x295) = true) ((some (((r293.1) * x295) : Int)).bind fun x296 => grd ((sm x296 || sm x280) = true) (grd ((s286.1).length < sizeLine) (some (((s286.1) ++ [((x296 * x280), x287)]), r294.2)))) else some (s286.1, r290.2)).bind fun s292 => some (s292.1, s292.2)).bind fun s288 => some (s288.1, s288.2)) (s_letO (i := 2) (oL (pT2 pInt pStr)) sc_l_weights.nd (o_kd (E := fun (b_ : Unit) => (oL (pT2 pInt pStr)) ([])) (x_nil (pT2 pInt pStr))) fun (b275 : Unit) x274 v277 => s_T (T := (M_l_next a1 (8 : Int)).bind fun r278 => (atI ([(1 : Int), (1 : Int), (1 : Int), (1 : Int), (1 : Int), (1 : Int), (1 : Int), ((10 : Int) ^ (5 : Int).toNat)]) (r278.1)).bind fun x279 => (some (x279 : Int)).bind fun x280 => if (decide ((a2.length : Int) = (0 : Int))) = true then some (x274, r278.2) else (M_l_scope (r278.2) a2 (6 : Int)).bind fun r284 => (forS (r284.1) ((x274, r284.2) : (List (Int × Str)) × (List Int)) fun x287 s286 => (M_l_next (s286.2) (6 : Int)).bind fun r290 => (if (decide ((0 : Int) < (r290.1))) = true then (M_l_next (r290.2) (4 : Int)).bind fun r293 => (M_l_next (r293.2) (2 : Int)).bind fun r294 => (atI ([(1 : Int), (-(1 : Int))]) (r294.1)).bind fun x295 => grd ((sm (r293.1) || sm x295) = true) ((some (((r293.1) * x295) : Int)).bind fun x296 => grd ((sm x296 || sm x280) = true) (grd ((s286.1).length < sizeLine) (some (((s286.1) ++ [((x296 * x280), x287)]), r294.2)))) else some (s286.1, r290.2)).bind fun s292 => some (s292.1, s292.2)).bind fun s288 => some (s288.1, s288.2)) (s_let (i := 3) pInt sc_l_weights.nd (x_kd (E := fun (b_ : (((Unit × (Unit × (Unit × (Unit × (Unit × (Unit × (Unit × ((Unit × Unit) × Unit)))))))) × ((Unit × Unit) × (Int × (List Int)))) × Int)) => pInt b_.2) (x_ixL (Ee := pInt) (x_kd (E := fun (b_ : (Unit × (Unit × (Unit × (Unit × (Unit × (Unit × (Unit × ((Unit × Unit) × Unit))))))))) => (pL pInt) ([(1 : Int), (1 : Int), (1 : Int), (1 : Int), (1 : Int), (1 : Int), (1 : Int), ((10 : Int) ^ (5 : Int).toNat)])) (x_frz (o_kd (E := fun (b_ : (Unit × (Unit × (Unit × (Unit × (Unit × (Unit × (Unit × ((Unit × Unit) × Unit))))))))) => (oL pInt) ([(1 : Int), (1 : Int), (1 : Int), (1 : Int), (1 : Int), (1 : Int), (1 : Int), ((10 : Int) ^ (5 : Int).toNat)])) (x_disp pInt (fun _ => [_, _, _, _, _, _, _, _]) (a_cons (x_int (i := 1)) (fun _ => a_cons (x_int (i := 1)) (fun _ => a_cons (x_int (i := 1)) (fun _ => a_cons (x_int (i := 1)) (fun _ => a_cons (x_int (i := 1)) (fun _ => a_cons (x_int (i := 1)) (fun _ => a_cons (x_int (i := 1)) (fun _ => a_cons (x_kd (E := fun (b_ : (Unit × Unit)) => pInt ((10 : Int) ^ (5 : Int).toNat)) (x_pow (x_int (i := 10)) (fun _ => x_int (i := 5)) (fun _ _ => by decide))) (fun _ => a_nil))))))))) (fun _ => rfl) (fun _ => by simp))))) (fun _ => x_kd (E := fun (b_ : ((Unit × Unit) × (Int × (List Int)))) => pInt b_.2.1) (x_OF_f (kk := 1) (E1 := (oL pInt)) (E2 := pInt) (s1 := fun (_ : Unit) (_ : Unit) => a1) (v1 := v1) k_l_next (hr.mono (by decide)) g_l_next F_l_next.kp b_l_next 1 (x_var (p := pV v1) 0) (fun _ => x_int (i := 8)) (fun _ _ => rfl))) (fun _ _ => rdF))) fun (b281 : (((Unit × (Unit × (Unit × (Unit × (Unit × (Unit × (Unit × ((Unit × Unit) × Unit)))))))) × ((Unit × Unit) × (Int × (List Int)))) × Int)) x280 => s_T (T := if (decide ((a2.length : Int) = (0 : Int))) = true then some (x274, b281.1.2.2.2) else (M_l_scope (b281.1.2.2.2) a2 (6 : Int)).bind fun r284 => (forS (r284.1) ((x274, r284.2) : (List (Int × Str)) × (List Int)) fun x287 s286 => (M_l_next (s286.2) (6 : Int)).bind fun r290 => (if (decide ((0 : Int) < (r290.1))) = true then (M_l_next (r290.2) (4 : Int)).bind fun r293 => (M_l_next (r293.2) (2 : Int)).bind fun r294 => (atI ([(1 : Int), (-(1 : Int))]) (r294.1)).bind fun x295 => grd ((sm (r293.1) || sm x295) = true) ((some (((r293.1) * x295) : Int)).bind fun x296 => grd ((sm x296 || sm x280) = true) (grd ((s286.1).length < sizeLine) (some (((s286.1) ++ [((x296 * x280), x287)]), r294.2)))) else some (s286.1, r290.2)).bind fun s292 => some (s292.1, s292.2)).bind fun s288 => some (s288.1, s288.2)) (s_ifT (ins_F _) (t_kd (c := fun (b_ : (Unit × Unit)) => (decide ((a2.length : Int) = (0 : Int)))) (t_eqI (x_kd (E := fun (b_ : Unit) => pInt (a2.length : Int)) (x_lenL (Ee := pStr) m_len (x_var (p := (pL pStr) a2) 1) (fun _ => rdF))) (fun _ => x_int (i := 0)))) (fun (b282 : (Unit × Unit)) => s_T (T := some (x274, b281.1.2.2.2)) (s_retV 0 (P := (fun (r : (List (Int × Str)) × (List Int)) => [⟨v1, (oL pInt) r.2, some 0⟩])) (Ro := (fun (r : (List (Int × Str)) × (List Int)) => (oL (pT2 pInt pStr)) r.1)) (ι := id) (rv := fun _ => (x274, b281.1.2.2.2)) (fun _ _ _ h => by exact h) (x_var (p := pV v277) 2) (fun _ => rfl) (fun _ => List.Sublist.refl _))) fun (b282 : (Unit × Unit)) => s_T (T := (M_l_scope (b281.1.2.2.2) a2 (6 : Int)).bind fun r284 => (forS (r284.1) ((x274, r284.2) : (List (Int × Str)) × (List Int)) fun x287 s286 => (M_l_next (s286.2) (6 : Int)).bind fun r290 => (if (decide ((0 : Int) < (r290.1))) = true then (M_l_next (r290.2) (4 : Int)).bind fun r293 => (M_l_next (r293.2) (2 : Int)).bind fun r294 => (atI ([(1 : Int), (-(1 : Int))]) (r294.1)).bind fun x295 => grd ((sm (r293.1) || sm x295) = true) ((some (((r293.1) * x295) : Int)).bind fun x296 => grd ((sm x296 || sm x280) = true) (grd ((s286.1).length < sizeLine) (some (((s286.1) ++ [((x296 * x280), x287)]), r294.2)))) else some (s286.1, r290.2)).bind fun s292 => some (s292.1, s292.2)).bind fun s288 => some (s288.1, s288.2)) (s_forS PassesOwn.never (fun (b_ : ((Unit × (Unit × Unit)) × ((List Str) × (List Int)))) (s_ : (List (Int × Str)) × (List Int)) => ([some (pV v1), some ((pL pStr) a2), some (pV v277), some (pInt x280), none, none], [⟨v277, (oL (pT2 pInt pStr)) s_.1, none⟩, ⟨v1, (oL pInt) s_.2, some 0⟩])) (fun (b_ : ((Unit × (Unit × Unit)) × ((List Str) × (List Int)))) => (x274, b_.2.2)) (i_list (x_kd (E := fun (b_ : ((Unit × (Unit × Unit)) × ((List Str) × (List Int)))) => (pL pStr) b_.2.1) (x_frz (o_kd (E := fun (b_ : ((Unit × (Unit × Unit)) × ((List Str) × (List Int)))) => (oL pStr) b_.2.1) (x_OFF_o (kk := 2) (E1 := (oL pInt)) (E2 := (pL pStr)) (E3 := pInt) (s1 := fun (_ : Unit) (_ : Unit) (_ : Unit) => b281.1.2.2.2) (v1 := v1) k_l_scope (hr.mono (by decide)) g_l_scope F_l_scope.kp b_l_scope 1 (x_var (p := pV v1) 0) (fun _ => x_var (p := (pL pStr) a2) 1) (fun _ _ => x_int (i := 6)) (fun _ _ _ => rfl)))))) (pg_name (i := 4) sc_l_weights.nd rfl (by first | exact .inl rfl | exact .inr rfl)) (tg_name 4) (fun _ => (by exact ⟨rfl, rfl, rfl, rfl, trivial⟩)) (fun _ => List.Sublist.refl _) (fun b285 x287 s286 => s_T (T := (M_l_next (s286.2) (6 : Int)).bind fun r290 => (if (decide ((0 : Int) < (r290.1))) = true then (M_l_next (r290.2) (4 : Int)).bind fun r293 => (M_l_next (r293.2) (2 : Int)).bind fun r294 => (atI ([(1 : Int), (-(1 : Int))]) (r294.1)).bind fun x295 => grd ((sm (r293.1) || sm x295) = true) ((some (((r293.1) * x295) : Int)).bind fun x296 => grd ((sm x296 || sm x280) = true) (grd ((s286.1).length < sizeLine) (some (((s286.1) ++ [((x296 * x280), x287)]), r294.2)))) else some (s286.1, r290.2)).bind fun s292 => some (s292.1, s292.2)) (s_ifN (C := fun s_ : (List (Int × Str)) × (List Int) => ([some (pV v1), some ((pL pStr) a2), some (pV v277), some (pInt x280), some (pStr x287), none], [⟨v277, (oL (pT2 pInt pStr)) s_.1, none⟩, ⟨v1, (oL pInt) s_.2, some 0⟩])) (t_kd (c := fun (b_ : (((Unit × Unit) × (Int × (List Int))) × Unit)) => (decide ((0 : Int) < (b_.1.2.1)))) (t_gt (x_kd (E := fun (b_ : ((Unit × Unit) × (Int × (List Int)))) => pInt b_.2.1) (x_OF_f (kk := 1) (E1 := (oL pInt)) (E2 := pInt) (s1 := fun (_ : Unit) (_ : Unit) => s286.2) (v1 := v1) k_l_next (hr.mono (by decide)) g_l_next F_l_next.kp b_l_next 1 (x_var (p := pV v1) 0) (fun _ => x_int (i := 6)) (fun _ _ => rfl))) (fun _ => x_int (i := 0)))) (fun (b291 : (((Unit × Unit) × (Int × (List Int))) × Unit)) => s_T (T := (M_l_next (b291.1.2.2) (4 : Int)).bind fun r293 => (M_l_next (r293.2) (2 : Int)).bind fun r294 => (atI ([(1 : Int), (-(1 : Int))]) (r294.1)).bind fun x295 => grd ((sm (r293.1) || sm x295) = true) ((some (((r293.1) * x295) : Int)).bind fun x296 => grd ((sm x296 || sm x280) = true) (grd ((s286.1).length < sizeLine) (some (((s286.1) ++ [((x296 * x280), x287)]), r294.2))))) (s_let (i := 5) pInt sc_l_weights.nd (x_kd (E := fun (b_ : (((Unit × Unit) × (Int × (List Int))) × (((Unit × (Unit × Unit)) × ((Unit × Unit) × (Int × (List Int)))) × Int))) => pInt ((b_.1.2.1) * b_.2.2)) (x_mul (x_kd (E := fun (b_ : ((Unit × Unit) × (Int × (List Int)))) => pInt b_.2.1) (x_OF_f (kk := 1) (E1 := (oL pInt)) (E2 := pInt) (s1 := fun (_ : Unit) (_ : Unit) => b291.1.2.2) (v1 := v1) k_l_next (hr.mono (by decide)) g_l_next F_l_next.kp b_l_next 1 (x_var (p := pV v1) 0) (fun _ => x_int (i := 4)) (fun _ _ => rfl))) (fun _ => x_kd (E := fun (b_ : (((Unit × (Unit × Unit)) × ((Unit × Unit) × (Int × (List Int)))) × Int)) => pInt b_.2) (x_ixL (Ee := pInt) (x_kd (E := fun (b_ : (Unit × (Unit × Unit))) => (pL pInt) ([(1 : Int), (-(1 : Int))])) (x_frz (o_kd (E := fun (b_ : (Unit × (Unit × Unit))) => (oL pInt) ([(1 : Int), (-(1 : Int))])) (x_disp pInt (fun _ => [_, _]) (a_cons (x_int (i := 1)) (fun _ => a_cons (x_kd (E := fun (b_ : Unit) => pInt (-(1 : Int))) (x_neg (x_int (i := 1)))) (fun _ => a_nil))) (fun _ => rfl) (fun _ => by simp))))) (fun _ => x_kd (E := fun (b_ : ((Unit × Unit) × (Int × (List Int)))) => pInt b_.2.1) (x_OF_f (kk := 1) (E1 := (oL pInt)) (E2 := pInt) (v1 := v1) k_l_next (hr.mono (by decide)) g_l_next F_l_next.kp b_l_next 1 (x_var (p := pV v1) 0) (fun _ => x_int (i := 2)) (fun _ _ => rfl))) (fun _ _ => rdF))))) fun (b297 : (((Unit × Unit) × (Int × (List Int))) × (((Unit × (Unit × Unit)) × ((Unit × Unit) × (Int × (List Int)))) × Int))) x296 => s_T (T := grd ((sm x296 || sm x280) = true) (grd ((s286.1).length < sizeLine) (some (((s286.1) ++ [((x296 * x280), x287)]), b297.2.1.2.2.2)))) (s_expr (x_app 0 (x_var (p := pV v277) 2) (fun _ => x_kd (E := fun (b_ : ((Unit × Unit) × (Unit × Unit))) => (pT2 pInt pStr) ((x296 * x280), x287)) (x_tup2 (a_cons (x_kd (E := fun (b_ : (Unit × Unit)) => pInt (x296 * x280)) (x_mul (x_var (p := pInt x296) 5) (fun _ => x_var (p := pInt x280) 3))) (fun _ => a_cons (x_var (p := pStr x287) 4) (fun _ => a_nil))) pInt pStr (fun (b : ((Unit × Unit) × (Unit × Unit))) => (x296 * x280)) (fun (b : ((Unit × Unit) × (Unit × Unit))) => x287))) (fun _ => rfl) (fun _ _ => rfl)) fun (b298 : (Unit × ((Unit × Unit) × (Unit × Unit)))) => s_end (((s286.1) ++ [((x296 * x280), x287)]), b297.2.1.2.2.2) rfl (by exact ⟨rfl, rfl, rfl, rfl, rfl, trivial⟩) (List.Sublist.refl _)))) (fun (b291 : (((Unit × Unit) × (Int × (List Int))) × Unit)) => s_end (s286.1, b291.1.2.2) rfl (by exact ⟨rfl, rfl, rfl, rfl, rfl, trivial⟩) (List.Sublist.refl _)) fun (b291 : (((Unit × Unit) × (Int × (List Int))) × Unit)) s292 => s_end (s292.1, s292.2) rfl (by exact ⟨rfl, rfl, rfl, rfl, trivial⟩) (List.Sublist.refl _))) fun b285 s288 => s_T (T := some (s288.1, s288.2)) (s_retV 0 (P := (fun (r : (List (Int × Str)) × (List Int)) => [⟨v1, (oL pInt) r.2, some 0⟩])) (Ro := (fun (r : (List (Int × Str)) × (List Int)) => (oL (pT2 pInt pStr)) r.1)) (ι := id) (rv := fun _ => (s288.1, s288.2)) (fun _ _ _ h => by exact h) (x_var (p := pV v277) 2) (fun _ => rfl) (fun _ => List.Sublist.refl _))))))) (by unfold M_l_weights; rfl)
end
end My
end
section
set_option maxHeartbeats 4000000
set_option synthInstance.maxSize 2000
namespace My
open PySem PySem.Spec PyProof.Rows L2 L3
section
variable {P : Program} {w : World} {K : PySem.W.Frag} {mg : Str → Option Value} {base : Heap}
theorem sc_l_spoilt : FnScope ["_law_stream_here", "_law_weights_here", "_law_unknown", "_law_entries", "_law_turn", "_law_at", "_law_name"] ["_law_stream_here", "_law_weights_here", "_law_unknown"] (defScope (top 52)) := ⟨rfl, rfl, rfl, by decide +kernel, rfl, by decide +kernel, by decide +kernel⟩
theorem ok_l_spoilt {f : Addr} {fd : FuncData} (C : Ev P K mg) (FD : FnP K "_law_spoilt" (top 52) f fd)   : FnOk P w K mg base CX0 2 f fd ["_law_stream_here", "_law_weights_here", "_law_unknown"] (Sp_OFF_f (oL pInt) (pL (pT2 pInt pStr)) pStr M_l_spoilt (pL (pT2 pInt pStr))) := by
  have m_len := C.m_len
  have m_list := C.m_list
  have m_range := C.m_range
  obtain ⟨f_l_next, fd_l_next, F_l_next, g_l_next⟩ := C.f_l_next
  have k_l_next := ok_l_next (P := P) (w := w) (base := base) C F_l_next
  have b_l_next : Binds K fd_l_next ["_law_stream_here", "_law_size"] [] := F_l_next.bindsN fun _ _ _ _ _ _ us hl => match us, hl with | [_, _], _ => rfl
  refine fn_OFF_f FD sc_l_spoilt rfl fun cdv A outer s H E hr v1 G1 a1 a2 a3 => ?_
  exact s_is (s_T (T := (some (a2 : List (Int × Str))).bind fun x299 => (M_l_next a1 (2 : Int)).bind fun r301 => grd (rg ((1 : Int) + (r301.1)) = true) ((forS (rngL 0 ((1 : Int) + (r301.1)).toNat) ((x299, r301.2) : (List (Int × Str)) × (List Int)) fun x304 s303 => (M_l_next (s303.2) (((s303.1).length : Int) + (1 : Int))).bind fun r306 => (some (r306.1 : Int)).bind fun x307 => (some (a3 : Str)).bind fun x309 => ((if (decide ((0 : Int) < ((s303.1).length : Int))) = true then (M_l_next (r306.2) (2 : Int)).bind fun r313 => some ((decide ((r313.1) = (0 : Int))), r313.2) else some (false, r306.2))).bind fun c314 => (if c314.1 = true then (M_l_next (c314.2) ((s303.1).length : Int)).bind fun r320 => (atI (s303.1) (r320.1)).bind fun x321 => (some (x321.2 : Str)).bind fun x322 => some (x322, r320.2) else some (x309, c314.2)).bind fun s316 => (M_l_next (s316.2) (7 : Int)).bind fun r317 => grd ((cutL (s303.1) none (some x307)).length + ([(((r317.1) - (3 : Int)), s316.1)]).length ≤ sizeLine) (grd (((cutL (s303.1) none (some x307)) ++ ([(((r317.1) - (3 : Int)), s316.1)])).length + (cutL (s303.1) (some x307) none).length ≤ sizeLine) ((some ((((cutL (s303.1) none (some x307)) ++ ([(((r317.1) - (3 : Int)), s316.1)])) ++ (cutL (s303.1) (some x307) none)) : List (Int × Str))).bind fun x318 => some (x318, r317.2)))).bind fun s305 => some (s305.1, s305.2))) (s_let (i := 3) (pL (pT2 pInt pStr)) sc_l_spoilt.nd (x_kd (E := fun (b_ : Unit) => (pL (pT2 pInt pStr)) a2) (x_frz (o_kd (E := fun (b_ : Unit) => (oL (pT2 pInt pStr)) a2) (x_listL (Ee := (pT2 pInt pStr)) m_list (x_var (p := (pL (pT2 pInt pStr)) a2) 1) (fun _ => rdF))))) fun (b300 : Unit) x299 => s_T (T := (M_l_next a1 (2 : Int)).bind fun r301 => grd (rg ((1 : Int) + (r301.1)) = true) ((forS (rngL 0 ((1 : Int) + (r301.1)).toNat) ((x299, r301.2) : (List (Int × Str)) × (List Int)) fun x304 s303 => (M_l_next (s303.2) (((s303.1).length : Int) + (1 : Int))).bind fun r306 => (some (r306.1 : Int)).bind fun x307 => (some (a3 : Str)).bind fun x309 => ((if (decide ((0 : Int) < ((s303.1).length : Int))) = true then (M_l_next (r306.2) (2 : Int)).bind fun r313 => some ((decide ((r313.1) = (0 : Int))), r313.2) else some (false, r306.2))).bind fun c314 => (if c314.1 = true then (M_l_next (c314.2) ((s303.1).length : Int)).bind fun r320 => (atI (s303.1) (r320.1)).bind fun x321 => (some (x321.2 : Str)).bind fun x322 => some (x322, r320.2) else some (x309, c314.2)).bind fun s316 => (M_l_next (s316.2) (7 : Int)).bind fun r317 => grd ((cutL (s303.1) none (some x307)).length + ([(((r317.1) - (3 : Int)), s316.1)]).length ≤ sizeLine) (grd (((cutL (s303.1) none (some x307)) ++ ([(((r317.1) - (3 : Int)), s316.1)])).length + (cutL (s303.1) (some x307) none).length ≤ sizeLine) ((some ((((cutL (s303.1) none (some x307)) ++ ([(((r317.1) - (3 : Int)), s316.1)])) ++ (cutL (s303.1) (some x307) none)) : List (Int × Str))).bind fun x318 => some (x318, r317.2)))).bind fun s305 => some (s305.1, s305.2))) (s_forS PassesOwn.never (fun (b_ : (Unit × ((Unit × Unit) × (Int × (List Int))))) (s_ : (List (Int × Str)) × (List Int)) => ([some (pV v1), some ((pL (pT2 pInt pStr)) a2), some (pStr a3), some ((pL (pT2 pInt pStr)) s_.1), none, none, none], [⟨v1, (oL pInt) s_.2, some 0⟩])) (fun (b_ : (Unit × ((Unit × Unit) × (Int × (List Int))))) => (x299, b_.2.2.2)) (i_rng1 m_range (x_kd (E := fun (b_ : (Unit × ((Unit × Unit) × (Int × (List Int))))) => pInt ((1 : Int) + (b_.2.2.1))) (x_add (x_int (i := 1)) (fun _ => x_kd (E := fun (b_ : ((Unit × Unit) × (Int × (List Int)))) => pInt b_.2.1) (x_OF_f (kk := 1) (E1 := (oL pInt)) (E2 := pInt) (s1 := fun (_ : Unit) (_ : Unit) => a1) (v1 := v1) k_l_next (hr.mono (by decide)) g_l_next F_l_next.kp b_l_next 0 (x_var (p := pV v1) 0) (fun _ => x_int (i := 2)) (fun _ _ => rfl)))))) (pg_name (i := 4) sc_l_spoilt.nd rfl (by first | exact .inl rfl | exact .inr rfl)) (tg_name 4) (fun _ => (by exact ⟨rfl, rfl, rfl, rfl, trivial⟩)) (fun _ => List.Sublist.refl _) (fun b302 x304 s303 => s_T (T := (M_l_next (s303.2) (((s303.1).length : Int) + (1 : Int))).bind fun r306 => (some (r306.1 : Int)).bind fun x307 => (some (a3 : Str)).bind fun x309 => ((if (decide ((0 : Int) < ((s303.1).length : Int))) = true then (M_l_next (r306.2) (2 : Int)).bind fun r313 => some ((decide ((r313.1) = (0 : Int))), r313.2) else some (false, r306.2))).bind fun c314 => (if c314.1 = true then (M_l_next (c314.2) ((s303.1).length : Int)).bind fun r320 => (atI (s303.1) (r320.1)).bind fun x321 => (some (x321.2 : Str)).bind fun x322 => some (x322, r320.2) else some (x309, c314.2)).bind fun s316 => (M_l_next (s316.2) (7 : Int)).bind fun r317 => grd ((cutL (s303.1) none (some x307)).length + ([(((r317.1) - (3 : Int)), s316.1)]).length ≤ sizeLine) (grd (((cutL (s303.1) none (some x307)) ++ ([(((r317.1) - (3 : Int)), s316.1)])).length + (cutL (s303.1) (some x307) none).length ≤ sizeLine) ((some ((((cutL (s303.1) none (some x307)) ++ ([(((r317.1) - (3 : Int)), s316.1)])) ++ (cutL (s303.1) (some x307) none)) : List (Int × Str))).bind fun x318 => some (x318, r317.2)))) (s_let (i := 5) pInt sc_l_spoilt.nd (x_kd (E := fun (b_ : ((Unit × (Unit × Unit)) × (Int × (List Int)))) => pInt b_.2.1) (x_OF_f (kk := 1) (E1 := (oL pInt)) (E2 := pInt) (s1 := fun (_ : Unit) (_ : (Unit × Unit)) => s303.2) (v1 := v1) k_l_next (hr.mono (by decide)) g_l_next F_l_next.kp b_l_next 0 (x_var (p := pV v1) 0) (fun _ => x_kd (E := fun (b_ : (Unit × Unit)) => pInt (((s303.1).length : Int) + (1 : Int))) (x_add (x_kd (E := fun (b_ : Unit) => pInt ((s303.1).length : Int)) (x_lenL (Ee := (pT2 pInt pStr)) m_len (x_var (p := (pL (pT2 pInt pStr)) s303.1) 3) (fun _ => rdF))) (fun _ => x_int (i := 1)))) (fun _ _ => rfl))) fun (b308 : ((Unit × (Unit × Unit)) × (Int × (List Int)))) x307 => s_T (T := (some (a3 : Str)).bind fun x309 => ((if (decide ((0 : Int) < ((s303.1).length : Int))) = true then (M_l_next (b308.2.2) (2 : Int)).bind fun r313 => some ((decide ((r313.1) = (0 : Int))), r313.2) else some (false, b308.2.2))).bind fun c314 => (if c314.1 = true then (M_l_next (c314.2) ((s303.1).length : Int)).bind fun r320 => (atI (s303.1) (r320.1)).bind fun x321 => (some (x321.2 : Str)).bind fun x322 => some (x322, r320.2) else some (x309, c314.2)).bind fun s316 => (M_l_next (s316.2) (7 : Int)).bind fun r317 => grd ((cutL (s303.1) none (some x307)).length + ([(((r317.1) - (3 : Int)), s316.1)]).length ≤ sizeLine) (grd (((cutL (s303.1) none (some x307)) ++ ([(((r317.1) - (3 : Int)), s316.1)])).length + (cutL (s303.1) (some x307) none).length ≤ sizeLine) ((some ((((cutL (s303.1) none (some x307)) ++ ([(((r317.1) - (3 : Int)), s316.1)])) ++ (cutL (s303.1) (some x307) none)) : List (Int × Str))).bind fun x318 => some (x318, r317.2)))) (s_let (i := 6) pStr sc_l_spoilt.nd (x_var (p := pStr a3) 2) fun (b310 : Unit) x309 => s_T (T := ((if (decide ((0 : Int) < ((s303.1).length : Int))) = true then (M_l_next (b308.2.2) (2 : Int)).bind fun r313 => some ((decide ((r313.1) = (0 : Int))), r313.2) else some (false, b308.2.2))).bind fun c314 => (if c314.1 = true then (M_l_next (c314.2) ((s303.1).length : Int)).bind fun r320 => (atI (s303.1) (r320.1)).bind fun x321 => (some (x321.2 : Str)).bind fun x322 => some (x322, r320.2) else some (x309, c314.2)).bind fun s316 => (M_l_next (s316.2) (7 : Int)).bind fun r317 => grd ((cutL (s303.1) none (some x307)).length + ([(((r317.1) - (3 : Int)), s316.1)]).length ≤ sizeLine) (grd (((cutL (s303.1) none (some x307)) ++ ([(((r317.1) - (3 : Int)), s316.1)])).length + (cutL (s303.1) (some x307) none).length ≤ sizeLine) ((some ((((cutL (s303.1) none (some x307)) ++ ([(((r317.1) - (3 : Int)), s316.1)])) ++ (cutL (s303.1) (some x307) none)) : List (Int × Str))).bind fun x318 => some (x318, r317.2)))) (s_ifN (C := fun s_ : Str × (List Int) => ([some (pV v1), some ((pL (pT2 pInt pStr)) a2), some (pStr a3), some ((pL (pT2 pInt pStr)) s303.1), some (pInt x304), some (pInt x307), some (pStr s_.1)], [⟨v1, (oL pInt) s_.2, some 0⟩])) (t_kd (c := fun (b_ : ((Unit × Unit) × (Bool × (List Int)))) => b_.2.1) (PW.pt (w_andM (ΔS := fun (b_ : (Unit × Unit)) (s_ : (List Int)) => [⟨v1, (oL pInt) s_, some 0⟩]) (s1 := fun (b_ : (Unit × Unit)) => b308.2.2) (s2 := fun (b_ : (Unit × Unit)) (c_ : (((Unit × Unit) × (Int × (List Int))) × Unit)) => c_.1.2.2) (t_kd (c := fun (b_ : (Unit × Unit)) => (decide ((0 : Int) < ((s303.1).length : Int)))) (t_gt (x_kd (E := fun (b_ : Unit) => pInt ((s303.1).length : Int)) (x_lenL (Ee := (pT2 pInt pStr)) m_len (x_var (p := (pL (pT2 pInt pStr)) s303.1) 3) (fun _ => rdF))) (fun _ => x_int (i := 0)))) (fun (b312 : (Unit × Unit)) => w_and1 (t_kd (c := fun (b_ : (((Unit × Unit) × (Int × (List Int))) × Unit)) => (decide ((b_.1.2.1) = (0 : Int)))) (t_eqI (x_kd (E := fun (b_ : ((Unit × Unit) × (Int × (List Int)))) => pInt b_.2.1) (x_OF_f (kk := 1) (E1 := (oL pInt)) (E2 := pInt) (s1 := fun (_ : Unit) (_ : Unit) => b308.2.2) (v1 := v1) k_l_next (hr.mono (by decide)) g_l_next F_l_next.kp b_l_next 0 (x_var (p := pV v1) 0) (fun _ => x_int (i := 2)) (fun _ _ => rfl))) (fun _ => x_int (i := 0))))) (fun _ => rfl) (fun _ _ => rfl)))) (fun (b315 : ((Unit × Unit) × (Bool × (List Int)))) => s_T (T := (M_l_next (b315.2.2) ((s303.1).length : Int)).bind fun r320 => (atI (s303.1) (r320.1)).bind fun x321 => (some (x321.2 : Str)).bind fun x322 => some (x322, r320.2)) (s_let (i := 6) pStr sc_l_spoilt.nd (x_kd (E := fun (b_ : ((Unit × ((Unit × Unit) × (Int × (List Int)))) × (Int × Str))) => pStr b_.2.2) (x_snd (x_kd (E := fun (b_ : ((Unit × ((Unit × Unit) × (Int × (List Int)))) × (Int × Str))) => (pT2 pInt pStr) b_.2) (x_ixL (Ee := (pT2 pInt pStr)) (x_var (p := (pL (pT2 pInt pStr)) s303.1) 3) (fun _ => x_kd (E := fun (b_ : ((Unit × Unit) × (Int × (List Int)))) => pInt b_.2.1) (x_OF_f (kk := 1) (E1 := (oL pInt)) (E2 := pInt) (s1 := fun (_ : Unit) (_ : Unit) => b315.2.2) (v1 := v1) k_l_next (hr.mono (by decide)) g_l_next F_l_next.kp b_l_next 0 (x_var (p := pV v1) 0) (fun _ => x_kd (E := fun (b_ : Unit) => pInt ((s303.1).length : Int)) (x_lenL (Ee := (pT2 pInt pStr)) m_len (x_var (p := (pL (pT2 pInt pStr)) s303.1) 3) (fun _ => rdF))) (fun _ _ => rfl))) (fun _ _ => rdF))))) fun (b323 : ((Unit × ((Unit × Unit) × (Int × (List Int)))) × (Int × Str))) x322 => s_end (x322, b323.1.2.2.2) rfl (by exact ⟨rfl, rfl, rfl, rfl, rfl, rfl, rfl, trivial⟩) (List.Sublist.refl _))) (fun (b315 : ((Unit × Unit) × (Bool × (List Int)))) => s_end (x309, b315.2.2) rfl (by exact ⟨rfl, rfl, rfl, rfl, rfl, rfl, rfl, trivial⟩) (List.Sublist.refl _)) fun (b315 : ((Unit × Unit) × (Bool × (List Int)))) s316 => s_T (T := (M_l_next (s316.2) (7 : Int)).bind fun r317 => grd ((cutL (s303.1) none (some x307)).length + ([(((r317.1) - (3 : Int)), s316.1)]).length ≤ sizeLine) (grd (((cutL (s303.1) none (some x307)) ++ ([(((r317.1) - (3 : Int)), s316.1)])).length + (cutL (s303.1) (some x307) none).length ≤ sizeLine) ((some ((((cutL (s303.1) none (some x307)) ++ ([(((r317.1) - (3 : Int)), s316.1)])) ++ (cutL (s303.1) (some x307) none)) : List (Int × Str))).bind fun x318 => some (x318, r317.2)))) (s_let (i := 3) (pL (pT2 pInt pStr)) sc_l_spoilt.nd (x_kd (E := fun (b_ : (((Unit × (Unit × Unit)) × (((((Unit × Unit) × (Int × (List Int))) × Unit) × (Unit × Unit)) × Unit)) × (Unit × (Unit × Unit)))) => (pL (pT2 pInt pStr)) (((cutL (s303.1) none (some x307)) ++ ([(((b_.1.2.1.1.1.2.1) - (3 : Int)), s316.1)])) ++ (cutL (s303.1) (some x307) none))) (x_frz (o_kd (E := fun (b_ : (((Unit × (Unit × Unit)) × (((((Unit × Unit) × (Int × (List Int))) × Unit) × (Unit × Unit)) × Unit)) × (Unit × (Unit × Unit)))) => (oL (pT2 pInt pStr)) (((cutL (s303.1) none (some x307)) ++ ([(((b_.1.2.1.1.1.2.1) - (3 : Int)), s316.1)])) ++ (cutL (s303.1) (some x307) none))) (x_cat (Ee := (pT2 pInt pStr)) (x_kd (E := fun (b_ : ((Unit × (Unit × Unit)) × (((((Unit × Unit) × (Int × (List Int))) × Unit) × (Unit × Unit)) × Unit))) => (pL (pT2 pInt pStr)) ((cutL (s303.1) none (some x307)) ++ ([(((b_.2.1.1.1.2.1) - (3 : Int)), s316.1)]))) (x_frz (o_kd (E := fun (b_ : ((Unit × (Unit × Unit)) × (((((Unit × Unit) × (Int × (List Int))) × Unit) × (Unit × Unit)) × Unit))) => (oL (pT2 pInt pStr)) ((cutL (s303.1) none (some x307)) ++ ([(((b_.2.1.1.1.2.1) - (3 : Int)), s316.1)]))) (x_cat (Ee := (pT2 pInt pStr)) (x_kd (E := fun (b_ : (Unit × (Unit × Unit))) => (pL (pT2 pInt pStr)) (cutL (s303.1) none (some x307))) (x_frz (o_kd (E := fun (b_ : (Unit × (Unit × Unit))) => (oL (pT2 pInt pStr)) (cutL (s303.1) none (some x307))) (x_slL (Ee := (pT2 pInt pStr)) (x_var (p := (pL (pT2 pInt pStr)) s303.1) 3) (fun _ => p_none) (fun _ _ => p_some (i := fun (b_ : Unit) => x307) (x_var (p := pInt x307) 5)) (fun _ _ _ => rdF))))) (fun _ => x_kd (E := fun (b_ : (((((Unit × Unit) × (Int × (List Int))) × Unit) × (Unit × Unit)) × Unit)) => (pL (pT2 pInt pStr)) ([(((b_.1.1.1.2.1) - (3 : Int)), s316.1)])) (x_frz (o_kd (E := fun (b_ : (((((Unit × Unit) × (Int × (List Int))) × Unit) × (Unit × Unit)) × Unit)) => (oL (pT2 pInt pStr)) ([(((b_.1.1.1.2.1) - (3 : Int)), s316.1)])) (x_disp (pT2 pInt pStr) (fun _ => [_]) (a_cons (x_kd (E := fun (b_ : ((((Unit × Unit) × (Int × (List Int))) × Unit) × (Unit × Unit))) => (pT2 pInt pStr) (((b_.1.1.2.1) - (3 : Int)), s316.1)) (x_tup2 (a_cons (x_kd (E := fun (b_ : (((Unit × Unit) × (Int × (List Int))) × Unit)) => pInt ((b_.1.2.1) - (3 : Int))) (x_sub (x_kd (E := fun (b_ : ((Unit × Unit) × (Int × (List Int)))) => pInt b_.2.1) (x_OF_f (kk := 1) (E1 := (oL pInt)) (E2 := pInt) (s1 := fun (_ : Unit) (_ : Unit) => s316.2) (v1 := v1) k_l_next (hr.mono (by decide)) g_l_next F_l_next.kp b_l_next 0 (x_var (p := pV v1) 0) (fun _ => x_int (i := 7)) (fun _ _ => rfl))) (fun _ => x_int (i := 3)))) (fun _ => a_cons (x_var (p := pStr s316.1) 6) (fun _ => a_nil))) pInt pStr (fun (b : ((((Unit × Unit) × (Int × (List Int))) × Unit) × (Unit × Unit))) => ((b.1.1.2.1) - (3 : Int))) (fun (b : ((((Unit × Unit) × (Int × (List Int))) × Unit) × (Unit × Unit))) => s316.1))) (fun _ => a_nil)) (fun _ => rfl) (fun _ => by simp))))) (fun _ _ => rdF) (fun _ _ => rdF))))) (fun _ => x_kd (E := fun (b_ : (Unit × (Unit × Unit))) => (pL (pT2 pInt pStr)) (cutL (s303.1) (some x307) none)) (x_frz (o_kd (E := fun (b_ : (Unit × (Unit × Unit))) => (oL (pT2 pInt pStr)) (cutL (s303.1) (some x307) none)) (x_slL (Ee := (pT2 pInt pStr)) (x_var (p := (pL (pT2 pInt pStr)) s303.1) 3) (fun _ => p_some (i := fun (b_ : Unit) => x307) (x_var (p := pInt x307) 5)) (fun _ _ => p_none) (fun _ _ _ => rdF))))) (fun _ _ => rdF) (fun _ _ => rdF))))) fun (b319 : (((Unit × (Unit × Unit)) × (((((Unit × Unit) × (Int × (List Int))) × Unit) × (Unit × Unit)) × Unit)) × (Unit × (Unit × Unit)))) x318 => s_end (x318, b319.1.2.1.1.1.2.2) rfl (by exact ⟨rfl, rfl, rfl, rfl, trivial⟩) (List.Sublist.refl _)))))) fun b302 s305 => s_T (T := some (s305.1, s305.2)) (s_ret (P := (fun (r : (List (Int × Str)) × (List Int)) => [⟨v1, (oL pInt) r.2, some 0⟩])) (Rp := (fun (r : (List (Int × Str)) × (List Int)) => (pL (pT2 pInt pStr)) r.1)) (ι := id) (rv := fun (b : Unit) => (s305.1, s305.2)) (fun _ _ _ h => by exact h) (x_var (p := (pL (pT2 pInt pStr)) s305.1) 3) (fun _ => List.Sublist.refl _))))) (by unfold M_l_spoilt; rfl)
end
end My
end
section
set_option maxHeartbeats 4000000
set_option synthInstance.maxSize 2000
namespace My
open PySem PySem.Spec PyProof.Rows L2 L3
section
variable {P : Program} {w : World} {K : PySem.W.Frag} {mg : Str → Option Value} {base : Heap}
theorem sc_l_fault : FnScope ["_law_known", "_law_entries", "_law_k", "_law_j"] ["_law_known", "_law_entries"] (defScope (top 53)) := ⟨rfl, rfl, rfl, by decide +kernel, rfl, by decide +kernel, by decide +kernel⟩
theorem ok_l_fault {f : Addr} {fd : FuncData} (C : Ev P K mg) (FD : FnP K "_law_fault" (top 53) f fd)   : FnOk P w K mg base CX0 1 f fd ["_law_known", "_law_entries"] (Sp_FF_o (pL pStr) (pL (pT2 pInt pStr)) M_l_fault (oL pStr)) := by
  have m_len := C.m_len
  have m_range := C.m_range
  refine fn_FF_o FD sc_l_fault rfl fun cdv A outer s H E hr  a1 a2 => ?_
  exact s_is (s_T (T := grd (rg (a2.length : Int) = true) ((forL (rngL 0 (a2.length : Int).toNat) (() : Unit) fun x326 s325 => (atI a2 x326).bind fun x328 => if (!decide ((x328.2) ∈ a1)) = true then inB ((atI a2 x326).bind fun x330 => some (Tm.rt ([("unknown" : Str), x330.2]))) else grd (rg x326 = true) ((forL (rngL 0 x326.toNat) (() : Unit) fun x333 s332 => (atI a2 x333).bind fun x335 => (atI a2 x326).bind fun x336 => if (decide ((x335.2) = (x336.2))) = true then inB ((atI a2 x326).bind fun x338 => some (Tm.rt ([("repeated" : Str), x338.2]))) else some (Bo.nx ())).bind (boK (fun s334 => some (Bo.nx ())) (fun r => Bo.tm (Tm.rt r))))).bind (boK (fun s327 => some ([])) id))) (s_for PassesOwn.never (fun (b_ : Unit) (s_ : Unit) => ([some ((pL pStr) a1), some ((pL (pT2 pInt pStr)) a2), none, none], [])) (fun (b_ : Unit) => ()) (ι := id) (R := (RO ⟨H, []⟩ (fun _ => []) (oL pStr))) (i_rng1 m_range (x_kd (E := fun (b_ : Unit) => pInt (a2.length : Int)) (x_lenL (Ee := (pT2 pInt pStr)) m_len (x_var (p := (pL (pT2 pInt pStr)) a2) 1) (fun _ => rdF)))) (pg_name (i := 2) sc_l_fault.nd rfl (by first | exact .inl rfl | exact .inr rfl)) (tg_name 2) (fun _ => (by exact ⟨rfl, rfl, trivial⟩)) (fun _ => List.Sublist.refl _) (fun b324 x326 s325 => s_T (T := (atI a2 x326).bind fun x328 => if (!decide ((x328.2) ∈ a1)) = true then inB ((atI a2 x326).bind fun x330 => some (Tm.rt ([("unknown" : Str), x330.2]))) else grd (rg x326 = true) ((forL (rngL 0 x326.toNat) (() : Unit) fun x333 s332 => (atI a2 x333).bind fun x335 => (atI a2 x326).bind fun x336 => if (decide ((x335.2) = (x336.2))) = true then inB ((atI a2 x326).bind fun x338 => some (Tm.rt ([("repeated" : Str), x338.2]))) else some (Bo.nx ())).bind (boK (fun s334 => some (Bo.nx ())) (fun r => Bo.tm (Tm.rt r))))) (s_ifB ins_T (t_kd (c := fun (b_ : (((Unit × Unit) × (Int × Str)) × Unit)) => (!decide ((b_.1.2.2) ∈ a1))) (t_ninL flStr (x_kd (E := fun (b_ : ((Unit × Unit) × (Int × Str))) => pStr b_.2.2) (x_snd (x_kd (E := fun (b_ : ((Unit × Unit) × (Int × Str))) => (pT2 pInt pStr) b_.2) (x_ixL (Ee := (pT2 pInt pStr)) (x_var (p := (pL (pT2 pInt pStr)) a2) 1) (fun _ => x_var (p := pInt x326) 2) (fun _ _ => rdF))))) (fun _ => x_var (p := (pL pStr) a1) 0) (fun _ _ => rdF))) (fun (b329 : (((Unit × Unit) × (Int × Str)) × Unit)) => s_T (T := (atI a2 x326).bind fun x330 => some (Tm.rt ([("unknown" : Str), x330.2]))) (s_retO (P := (fun _ => [])) (Ro := (oL pStr)) (ι := Tm.rt) (rv := fun (b : (Unit × (((Unit × Unit) × (Int × Str)) × Unit))) => [("unknown" : Str), b.2.1.2.2]) (fun _ _ _ h => by exact h) (o_kd (o_kd (E := fun (b_ : (Unit × (((Unit × Unit) × (Int × Str)) × Unit))) => (oL pStr) ([("unknown" : Str), b_.2.1.2.2])) (x_disp pStr (fun _ => [_, _]) (a_cons x_str (fun _ => a_cons (x_kd (E := fun (b_ : ((Unit × Unit) × (Int × Str))) => pStr b_.2.2) (x_snd (x_kd (E := fun (b_ : ((Unit × Unit) × (Int × Str))) => (pT2 pInt pStr) b_.2) (x_ixL (Ee := (pT2 pInt pStr)) (x_var (p := (pL (pT2 pInt pStr)) a2) 1) (fun _ => x_var (p := pInt x326) 2) (fun _ _ => rdF))))) (fun _ => a_nil))) (fun _ => rfl) (fun _ => by simp)))) (fun _ => List.Sublist.refl _))) fun (b329 : (((Unit × Unit) × (Int × Str)) × Unit)) => s_T (T := grd (rg x326 = true) ((forL (rngL 0 x326.toNat) (() : Unit) fun x333 s332 => (atI a2 x333).bind fun x335 => (atI a2 x326).bind fun x336 => if (decide ((x335.2) = (x336.2))) = true then inB ((atI a2 x326).bind fun x338 => some (Tm.rt ([("repeated" : Str), x338.2]))) else some (Bo.nx ())).bind (boK (fun s334 => some (Bo.nx ())) (fun r => Bo.tm (Tm.rt r))))) (s_for PassesOwn.never (fun (b_ : Unit) (s_ : Unit) => ([some ((pL pStr) a1), some ((pL (pT2 pInt pStr)) a2), some (pInt x326), none], [])) (fun (b_ : Unit) => ()) (ι := (fun r => Bo.tm (Tm.rt r))) (R := (RO ⟨H, []⟩ (fun _ => []) (oL pStr))) (i_rng1 m_range (x_var (p := pInt x326) 2)) (pg_name (i := 3) sc_l_fault.nd rfl (by first | exact .inl rfl | exact .inr rfl)) (tg_name 3) (fun _ => (by exact ⟨rfl, rfl, rfl, trivial⟩)) (fun _ => List.Sublist.refl _) (fun b331 x333 s332 => s_T (T := (atI a2 x333).bind fun x335 => (atI a2 x326).bind fun x336 => if (decide ((x335.2) = (x336.2))) = true then inB ((atI a2 x326).bind fun x338 => some (Tm.rt ([("repeated" : Str), x338.2]))) else some (Bo.nx ())) (s_ifB ins_T (t_kd (c := fun (b_ : (((Unit × Unit) × (Int × Str)) × ((Unit × Unit) × (Int × Str)))) => (decide ((b_.1.2.2) = (b_.2.2.2)))) (t_eqS (x_kd (E := fun (b_ : ((Unit × Unit) × (Int × Str))) => pStr b_.2.2) (x_snd (x_kd (E := fun (b_ : ((Unit × Unit) × (Int × Str))) => (pT2 pInt pStr) b_.2) (x_ixL (Ee := (pT2 pInt pStr)) (x_var (p := (pL (pT2 pInt pStr)) a2) 1) (fun _ => x_var (p := pInt x333) 3) (fun _ _ => rdF))))) (fun _ => x_kd (E := fun (b_ : ((Unit × Unit) × (Int × Str))) => pStr b_.2.2) (x_snd (x_kd (E := fun (b_ : ((Unit × Unit) × (Int × Str))) => (pT2 pInt pStr) b_.2) (x_ixL (Ee := (pT2 pInt pStr)) (x_var (p := (pL (pT2 pInt pStr)) a2) 1) (fun _ => x_var (p := pInt x326) 2) (fun _ _ => rdF))))))) (fun (b337 : (((Unit × Unit) × (Int × Str)) × ((Unit × Unit) × (Int × Str)))) => s_T (T := (atI a2 x326).bind fun x338 => some (Tm.rt ([("repeated" : Str), x338.2]))) (s_retO (P := (fun _ => [])) (Ro := (oL pStr)) (ι := Tm.rt) (rv := fun (b : (Unit × (((Unit × Unit) × (Int × Str)) × Unit))) => [("repeated" : Str), b.2.1.2.2]) (fun _ _ _ h => by exact h) (o_kd (o_kd (E := fun (b_ : (Unit × (((Unit × Unit) × (Int × Str)) × Unit))) => (oL pStr) ([("repeated" : Str), b_.2.1.2.2])) (x_disp pStr (fun _ => [_, _]) (a_cons x_str (fun _ => a_cons (x_kd (E := fun (b_ : ((Unit × Unit) × (Int × Str))) => pStr b_.2.2) (x_snd (x_kd (E := fun (b_ : ((Unit × Unit) × (Int × Str))) => (pT2 pInt pStr) b_.2) (x_ixL (Ee := (pT2 pInt pStr)) (x_var (p := (pL (pT2 pInt pStr)) a2) 1) (fun _ => x_var (p := pInt x326) 2) (fun _ _ => rdF))))) (fun _ => a_nil))) (fun _ => rfl) (fun _ => by simp)))) (fun _ => List.Sublist.refl _))) fun (b337 : (((Unit × Unit) × (Int × Str)) × ((Unit × Unit) × (Int × Str)))) => s_endB () (by exact ⟨rfl, rfl, rfl, trivial⟩) (List.Sublist.refl _))) (fun b331 s334 => s_endB () (by exact ⟨rfl, rfl, trivial⟩) (List.Sublist.refl _)) (fun _ _ _ h => by exact h)))) (fun b324 s327 => s_T (T := some ([])) (s_retO (P := (fun _ => [])) (Ro := (oL pStr)) (ι := id) (rv := fun (b : Unit) => []) (fun _ _ _ h => by exact h) (o_kd (E := fun (b_ : Unit) => (oL pStr) ([])) (x_nil pStr)) (fun _ => List.Sublist.refl _))) (fun _ _ _ h => by exact h))) (by unfold M_l_fault; rfl)
end
end My
end
section
set_option maxHeartbeats 4000000
set_option synthInstance.maxSize 2000
namespace My
open PySem PySem.Spec PyProof.Rows L2 L3
section
variable {P : Program} {w : World} {K : PySem.W.Frag} {mg : Str → Option Value} {base : Heap}
theorem sc_l_same_terms : FnScope ["_law_actual", "_law_entries", "_law_k"] ["_law_actual", "_law_entries"] (defScope (top 54)) := ⟨rfl, rfl, rfl, by decide +kernel, rfl, by decide +kernel, by decide +kernel⟩
theorem ok_l_same_terms {f : Addr} {fd : FuncData} (C : Ev P K mg) (FD : FnP K "_law_same_terms" (top 54) f fd)   : FnOk P w K mg base CX0 2 f fd ["_law_actual", "_law_entries"] (Sp_FF_f (pL (pT2 pInt pStr)) (pL (pT2 pInt pStr)) M_l_same_terms pBl) := by
  have m_isinstance := C.m_isinstance
  have m_len := C.m_len
  have m_list := C.m_list
  have m_range := C.m_range
  have m_str := C.m_str
  have m_tuple := C.m_tuple
  obtain ⟨f_l_is_integer, fd_l_is_integer, F_l_is_integer, g_l_is_integer⟩ := C.f_l_is_integer
  have k_l_is_integer := ok_l_is_integer (P := P) (w := w) (base := base) C F_l_is_integer
  have b_l_is_integer : Binds K fd_l_is_integer ["_law_actual"] [] := F_l_is_integer.bindsN fun _ _ _ _ _ _ us hl => match us, hl with | [_], _ => rfl
  refine fn_FF_f FD sc_l_same_terms rfl fun cdv A outer s H E hr  a1 a2 => ?_
  exact s_is (s_T (T := if ((!true) || (!decide ((a1.length : Int) = (a2.length : Int)))) = true then some false else grd (rg (a2.length : Int) = true) ((forL (rngL 0 (a2.length : Int).toNat) (() : Unit) fun x342 s341 => (atI a1 x342).bind fun x345 => ((if (!true) = true then some (true, ()) else (atI a1 x342).bind fun x350 => ((if (!decide ((2 : Int) = (2 : Int))) = true then some (true, ()) else (atI a1 x342).bind fun x354 => (M_l_is_integer (x354.1)).bind fun r355 => some ((!r355), ()))).bind fun c356 => some (c356.1, ()))).bind fun c357 => if c357.1 = true then inB (some (Tm.rt false)) else (atI a1 x342).bind fun x360 => ((if (!true) = true then some (true, ()) else (atI a1 x342).bind fun x364 => (atI a2 x342).bind fun x365 => grd (okG (dgT2 dgInt dgStr) x364 x365 = true) (some ((!decide (x364 = x365)), ())))).bind fun c366 => if c366.1 = true then inB (some (Tm.rt false)) else some (Bo.nx ())).bind (boK (fun s343 => some true) id))) (s_ifT (ins_F _) (t_kd (c := fun (b_ : Unit) => ((!true) || (!decide ((a1.length : Int) = (a2.length : Int))))) (PW.pt (w_or (t_totV (!true) () (fun _ => rfl) (by exact (t_kd (c := fun (b_ : Unit) => (!true)) (t_not (t_kd (c := fun (b_ : Unit) => true) (t_val (x_kd (E := fun (b_ : Unit) => pBl true) (x_isi (cn := "list") (fun _ => "list") (fun _ => true) m_isinstance m_list (y_var (p := (pL (pT2 pInt pStr)) a1) 0) (fun _ => tyL) (fun _ => by decide +kernel) (by decide +kernel))))))))) (w_or1 (t_totV (!decide ((a1.length : Int) = (a2.length : Int))) ((), ()) (fun _ => rfl) (by exact (t_kd (c := fun (b_ : (Unit × Unit)) => (!decide ((a1.length : Int) = (a2.length : Int)))) (t_neI (x_kd (E := fun (b_ : Unit) => pInt (a1.length : Int)) (x_lenL (Ee := (pT2 pInt pStr)) m_len (y_var (p := (pL (pT2 pInt pStr)) a1) 0) (fun _ => rdF))) (fun _ => x_kd (E := fun (b_ : Unit) => pInt (a2.length : Int)) (x_lenL (Ee := (pT2 pInt pStr)) m_len (y_var (p := (pL (pT2 pInt pStr)) a2) 1) (fun _ => rdF))))))))))) (fun (b339 : Unit) => s_T (T := some false) (s_ret (P := (fun _ => [])) (Rp := pBl) (ι := id) (rv := fun (b : Unit) => false) (fun _ _ _ h => by exact h) x_bl (fun _ => List.Sublist.refl _))) fun (b339 : Unit) => s_T (T := grd (rg (a2.length : Int) = true) ((forL (rngL 0 (a2.length : Int).toNat) (() : Unit) fun x342 s341 => (atI a1 x342).bind fun x345 => ((if (!true) = true then some (true, ()) else (atI a1 x342).bind fun x350 => ((if (!decide ((2 : Int) = (2 : Int))) = true then some (true, ()) else (atI a1 x342).bind fun x354 => (M_l_is_integer (x354.1)).bind fun r355 => some ((!r355), ()))).bind fun c356 => some (c356.1, ()))).bind fun c357 => if c357.1 = true then inB (some (Tm.rt false)) else (atI a1 x342).bind fun x360 => ((if (!true) = true then some (true, ()) else (atI a1 x342).bind fun x364 => (atI a2 x342).bind fun x365 => grd (okG (dgT2 dgInt dgStr) x364 x365 = true) (some ((!decide (x364 = x365)), ())))).bind fun c366 => if c366.1 = true then inB (some (Tm.rt false)) else some (Bo.nx ())).bind (boK (fun s343 => some true) id))) (s_for PassesOwn.never (fun (b_ : Unit) (s_ : Unit) => ([some ((pL (pT2 pInt pStr)) a1), some ((pL (pT2 pInt pStr)) a2), none], [])) (fun (b_ : Unit) => ()) (ι := id) (R := (RF ⟨H, []⟩ (fun _ => []) pBl)) (i_rng1 m_range (x_kd (E := fun (b_ : Unit) => pInt (a2.length : Int)) (x_lenL (Ee := (pT2 pInt pStr)) m_len (x_var (p := (pL (pT2 pInt pStr)) a2) 1) (fun _ => rdF)))) (pg_name (i := 2) sc_l_same_terms.nd rfl (by first | exact .inl rfl | exact .inr rfl)) (tg_name 2) (fun _ => (by exact ⟨rfl, rfl, trivial⟩)) (fun _ => List.Sublist.refl _) (fun b340 x342 s341 => s_T (T := (atI a1 x342).bind fun x345 => ((if (!true) = true then some (true, ()) else (atI a1 x342).bind fun x350 => ((if (!decide ((2 : Int) = (2 : Int))) = true then some (true, ()) else (atI a1 x342).bind fun x354 => (M_l_is_integer (x354.1)).bind fun r355 => some ((!r355), ()))).bind fun c356 => some (c356.1, ()))).bind fun c357 => if c357.1 = true then inB (some (Tm.rt false)) else (atI a1 x342).bind fun x360 => ((if (!true) = true then some (true, ()) else (atI a1 x342).bind fun x364 => (atI a2 x342).bind fun x365 => grd (okG (dgT2 dgInt dgStr) x364 x365 = true) (some ((!decide (x364 = x365)), ())))).bind fun c366 => if c366.1 = true then inB (some (Tm.rt false)) else some (Bo.nx ())) (s_ifB ins_T (t_kd (c := fun (b_ : (((Unit × Unit) × (Int × Str)) × (Bool × Unit))) => b_.2.1) (PW.pt (w_orM (ΔS := fun (b_ : ((Unit × Unit) × (Int × Str))) (s_ : Unit) => []) (s1 := fun (b_ : ((Unit × Unit) × (Int × Str))) => ()) (s2 := fun (b_ : ((Unit × Unit) × (Int × Str))) (c_ : ((((Unit × Unit) × (Int × Str)) × Unit) × (Bool × Unit))) => ()) (t_kd (c := fun (b_ : ((Unit × Unit) × (Int × Str))) => (!true)) (t_not (t_kd (c := fun (b_ : ((Unit × Unit) × (Int × Str))) => true) (t_val (x_kd (E := fun (b_ : ((Unit × Unit) × (Int × Str))) => pBl true) (x_isi (cn := "tuple") (fun _ => "tuple") (fun _ => true) m_isinstance m_tuple (x_kd (E := fun (b_ : ((Unit × Unit) × (Int × Str))) => (pT2 pInt pStr) b_.2) (x_ixL (Ee := (pT2 pInt pStr)) (x_var (p := (pL (pT2 pInt pStr)) a1) 0) (fun _ => x_var (p := pInt x342) 2) (fun _ _ => rdF))) (fun _ => tyT2) (fun _ => by decide +kernel) (by decide +kernel))))))) (fun (b349 : ((Unit × Unit) × (Int × Str))) => w_orM (ΔS := fun (b_ : (((Unit × Unit) × (Int × Str)) × Unit)) (s_ : Unit) => []) (s1 := fun (b_ : (((Unit × Unit) × (Int × Str)) × Unit)) => ()) (s2 := fun (b_ : (((Unit × Unit) × (Int × Str)) × Unit)) (c_ : (((Unit × Unit) × (Int × Str)) × Bool)) => ()) (t_kd (c := fun (b_ : (((Unit × Unit) × (Int × Str)) × Unit)) => (!decide ((2 : Int) = (2 : Int)))) (t_neI (x_kd (E := fun (b_ : ((Unit × Unit) × (Int × Str))) => pInt (2 : Int)) (x_lenT2 m_len (x_kd (E := fun (b_ : ((Unit × Unit) × (Int × Str))) => (pT2 pInt pStr) b_.2) (x_ixL (Ee := (pT2 pInt pStr)) (x_var (p := (pL (pT2 pInt pStr)) a1) 0) (fun _ => x_var (p := pInt x342) 2) (fun _ _ => rdF))))) (fun _ => x_int (i := 2)))) (fun (b353 : (((Unit × Unit) × (Int × Str)) × Unit)) => w_or1 (t_kd (c := fun (b_ : (((Unit × Unit) × (Int × Str)) × Bool)) => (!b_.2)) (t_not (t_kd (c := fun (b_ : (((Unit × Unit) × (Int × Str)) × Bool)) => b_.2) (t_val (x_kd (E := fun (b_ : (((Unit × Unit) × (Int × Str)) × Bool)) => pBl b_.2) (x_F_f (kk := 1) (E1 := pInt) k_l_is_integer (hr.mono (by decide)) g_l_is_integer F_l_is_integer.kp b_l_is_integer (x_kd (E := fun (b_ : ((Unit × Unit) × (Int × Str))) => pInt b_.2.1) (x_fst (x_kd (E := fun (b_ : ((Unit × Unit) × (Int × Str))) => (pT2 pInt pStr) b_.2) (x_ixL (Ee := (pT2 pInt pStr)) (x_var (p := (pL (pT2 pInt pStr)) a1) 0) (fun _ => x_var (p := pInt x342) 2) (fun _ _ => rdF)))))))))))) (fun _ => rfl) (fun _ _ => rfl)) (fun _ => rfl) (fun _ _ => rfl)))) (fun (b358 : (((Unit × Unit) × (Int × Str)) × (Bool × Unit))) => s_T (T := some (Tm.rt false)) (s_ret (P := (fun _ => [])) (Rp := pBl) (ι := Tm.rt) (rv := fun (b : Unit) => false) (fun _ _ _ h => by exact h) x_bl (fun _ => List.Sublist.refl _))) fun (b358 : (((Unit × Unit) × (Int × Str)) × (Bool × Unit))) => s_T (T := (atI a1 x342).bind fun x360 => ((if (!true) = true then some (true, ()) else (atI a1 x342).bind fun x364 => (atI a2 x342).bind fun x365 => grd (okG (dgT2 dgInt dgStr) x364 x365 = true) (some ((!decide (x364 = x365)), ())))).bind fun c366 => if c366.1 = true then inB (some (Tm.rt false)) else some (Bo.nx ())) (s_ifB ins_T (t_kd (c := fun (b_ : (((Unit × Unit) × (Int × Str)) × (Bool × Unit))) => b_.2.1) (PW.pt (w_orM (ΔS := fun (b_ : ((Unit × Unit) × (Int × Str))) (s_ : Unit) => []) (s1 := fun (b_ : ((Unit × Unit) × (Int × Str))) => ()) (s2 := fun (b_ : ((Unit × Unit) × (Int × Str))) (c_ : (((Unit × Unit) × (Int × Str)) × ((Unit × Unit) × (Int × Str)))) => ()) (t_kd (c := fun (b_ : ((Unit × Unit) × (Int × Str))) => (!true)) (t_not (t_kd (c := fun (b_ : ((Unit × Unit) × (Int × Str))) => true) (t_val (x_kd (E := fun (b_ : ((Unit × Unit) × (Int × Str))) => pBl true) (x_isi (cn := "str") (fun _ => "str") (fun _ => true) m_isinstance m_str (x_kd (E := fun (b_ : ((Unit × Unit) × (Int × Str))) => pStr b_.2.2) (x_snd (x_kd (E := fun (b_ : ((Unit × Unit) × (Int × Str))) => (pT2 pInt pStr) b_.2) (x_ixL (Ee := (pT2 pInt pStr)) (x_var (p := (pL (pT2 pInt pStr)) a1) 0) (fun _ => x_var (p := pInt x342) 2) (fun _ _ => rdF))))) (fun _ => tyStr) (fun _ => by decide +kernel) (by decide +kernel))))))) (fun (b363 : ((Unit × Unit) × (Int × Str))) => w_or1 (t_kd (c := fun (b_ : (((Unit × Unit) × (Int × Str)) × ((Unit × Unit) × (Int × Str)))) => (!decide (b_.1.2 = b_.2.2))) (t_neG (dgT2 dgInt dgStr) hr.units (x_kd (E := fun (b_ : ((Unit × Unit) × (Int × Str))) => (pT2 pInt pStr) b_.2) (x_ixL (Ee := (pT2 pInt pStr)) (x_var (p := (pL (pT2 pInt pStr)) a1) 0) (fun _ => x_var (p := pInt x342) 2) (fun _ _ => rdF))) (fun _ => x_kd (E := fun (b_ : ((Unit × Unit) × (Int × Str))) => (pT2 pInt pStr) b_.2) (x_ixL (Ee := (pT2 pInt pStr)) (x_var (p := (pL (pT2 pInt pStr)) a2) 1) (fun _ => x_var (p := pInt x342) 2) (fun _ _ => rdF)))))) (fun _ => rfl) (fun _ _ => rfl)))) (fun (b367 : (((Unit × Unit) × (Int × Str)) × (Bool × Unit))) => s_T (T := some (Tm.rt false)) (s_ret (P := (fun _ => [])) (Rp := pBl) (ι := Tm.rt) (rv := fun (b : Unit) => false) (fun _ _ _ h => by exact h) x_bl (fun _ => List.Sublist.refl _))) fun (b367 : (((Unit × Unit) × (Int × Str)) × (Bool × Unit))) => s_endB () (by exact ⟨rfl, rfl, trivial⟩) (List.Sublist.refl _)))) (fun b340 s343 => s_T (T := some true) (s_ret (P := (fun _ => [])) (Rp := pBl) (ι := id) (rv := fun (b : Unit) => true) (fun _ _ _ h => by exact h) x_bl (fun _ => List.Sublist.refl _))) (fun _ _ _ h => by exact h)))) (by unfold M_l_same_terms; rfl)
end
end My
end
section
set_option maxHeartbeats 4000000
set_option synthInstance.maxSize 2000
namespace My
open PySem PySem.Spec PyProof.Rows L2 L3
section
variable {P : Program} {w : World} {K : PySem.W.Frag} {mg : Str → Option Value} {base : Heap}
theorem sc_l_totals : FnScope ["_law_weights_here", "_law_known", "_law_sides", "_law_further", "_law_totals_here", "_law_values", "_law_total", "_law_term", "_law_shown", "_law_handed", "_law_lent", "_law_actual"] ["_law_weights_here", "_law_known", "_law_sides", "_law_further"] (defScope (top 56)) := ⟨rfl, rfl, rfl, by decide +kernel, rfl, by decide +kernel, by decide +kernel⟩
theorem ok_l_totals {f : Addr} {fd : FuncData} (C : Ev P K mg) (FD : FnP K "_law_totals" (top 56) f fd)   : FnOk P w K mg base CX0 2 f fd ["_law_weights_here", "_law_known", "_law_sides", "_law_further"] (Sp_FFFF_o (pL (pT2 pInt pStr)) (pL pStr) (pM (κ := Str) (pL pInt)) pStr M_l_totals (oL pInt)) := by
  have m_dict := C.m_dict
  have m_list := C.m_list
  obtain ⟨f_l_assignments, fd_l_assignments, F_l_assignments, g_l_assignments⟩ := C.f_l_assignments
  have k_l_assignments := ok_l_assignments (P := P) (w := w) (base := base) C F_l_assignments
  have b_l_assignments : Binds K fd_l_assignments ["_law_names_here", "_law_sides"] [] := F_l_assignments.bindsN fun _ _ _ _ _ _ us hl => match us, hl with | [_, _], _ => rfl
  obtain ⟨f_worth_of, fd_worth_of, F_worth_of, g_worth_of⟩ := C.f_worth_of
  have k_worth_of := ok_worth_of (P := P) (w := w) (base := base) C F_worth_of
  have b_worth_of : Binds K fd_worth_of ["worth", "values"] [] := F_worth_of.bindsN fun _ _ _ _ _ _ us hl => match us, hl with | [_, _], _ => rfl
  obtain ⟨f_l_is_integer, fd_l_is_integer, F_l_is_integer, g_l_is_integer⟩ := C.f_l_is_integer
  have k_l_is_integer := ok_l_is_integer (P := P) (w := w) (base := base) C F_l_is_integer
  have b_l_is_integer : Binds K fd_l_is_integer ["_law_actual"] [] := F_l_is_integer.bindsN fun _ _ _ _ _ _ us hl => match us, hl with | [_], _ => rfl
  refine fn_FFFF_o FD sc_l_totals rfl fun cdv A outer s H E hr  a1 a2 a3 a4 => ?_
  exact s_is (s_T (T := (some ([] : List Int)).bind fun x387 => (M_l_assignments a2 a3).bind fun r391 => (forL r391 (x387 : (List Int)) fun x394 s393 => (some ((0 : Int) : Int)).bind fun x397 => (forS a1 (x397 : Int) fun x401 s400 => (dget x394 (x401.2)).bind fun x426 => grd ((sm (x401.1) || sm x426) = true) ((some ((s400 + ((x401.1) * x426)) : Int)).bind fun x427 => some x427)).bind fun s402 => (some (x394 : List (Str × Int))).bind fun x403 => (if (dhas a3 a4) = true then grd (x403.length < sizeLine) (some (dput x403 a4 (7 : Int))) else some x403).bind fun s408 => (some (a1 : List (Int × Str))).bind fun x409 => (some (s408 : List (Str × Int))).bind fun x411 => (M_worth_of x409 x411).bind fun r413 => (some (r413 : Int)).bind fun x414 => (M_l_is_integer x414).bind fun r416 => ((if (!r416) = true then some (true, ()) else ((if (!decide (x414 = s402)) = true then some (true, ()) else grd (okG (dgL (dgT2 dgInt dgStr)) x409 a1 = true) (((if (!decide (x409 = a1)) = true then some (true, ()) else some ((!deq x411 s408), ()))).bind fun c420 => some (c420.1, ())))).bind fun c421 => some (c421.1, ()))).bind fun c422 => if c422.1 = true then inB (some (Tm.rt ([]))) else grd (s393.length < sizeLine) (some (Bo.nx (s393 ++ [s402])))).bind (boK (fun s395 => some s395) id)) (s_letO (i := 4) (oL pInt) sc_l_totals.nd (o_kd (E := fun (b_ : Unit) => (oL pInt) ([])) (x_nil pInt)) fun (b388 : Unit) x387 v390 => s_T (T := (M_l_assignments a2 a3).bind fun r391 => (forL r391 (x387 : (List Int)) fun x394 s393 => (some ((0 : Int) : Int)).bind fun x397 => (forS a1 (x397 : Int) fun x401 s400 => (dget x394 (x401.2)).bind fun x426 => grd ((sm (x401.1) || sm x426) = true) ((some ((s400 + ((x401.1) * x426)) : Int)).bind fun x427 => some x427)).bind fun s402 => (some (x394 : List (Str × Int))).bind fun x403 => (if (dhas a3 a4) = true then grd (x403.length < sizeLine) (some (dput x403 a4 (7 : Int))) else some x403).bind fun s408 => (some (a1 : List (Int × Str))).bind fun x409 => (some (s408 : List (Str × Int))).bind fun x411 => (M_worth_of x409 x411).bind fun r413 => (some (r413 : Int)).bind fun x414 => (M_l_is_integer x414).bind fun r416 => ((if (!r416) = true then some (true, ()) else ((if (!decide (x414 = s402)) = true then some (true, ()) else grd (okG (dgL (dgT2 dgInt dgStr)) x409 a1 = true) (((if (!decide (x409 = a1)) = true then some (true, ()) else some ((!deq x411 s408), ()))).bind fun c420 => some (c420.1, ())))).bind fun c421 => some (c421.1, ()))).bind fun c422 => if c422.1 = true then inB (some (Tm.rt ([]))) else grd (s393.length < sizeLine) (some (Bo.nx (s393 ++ [s402])))).bind (boK (fun s395 => some s395) id)) (s_for PassesOwn.never (fun (b_ : ((Unit × Unit) × (List (List (Str × Int))))) (s_ : (List Int)) => ([some ((pL (pT2 pInt pStr)) a1), some ((pL pStr) a2), some ((pM (κ := Str) (pL pInt)) a3), some (pStr a4), some (pV v390), none, none, none, none, none, none, none], [⟨v390, (oL pInt) s_, none⟩])) (fun (b_ : ((Unit × Unit) × (List (List (Str × Int))))) => x387) (ι := id) (R := (RO ⟨H, []⟩ (fun _ => []) (oL pInt))) (i_list (x_kd (E := fun (b_ : ((Unit × Unit) × (List (List (Str × Int))))) => (pL (pM (κ := Str) pInt)) b_.2) (x_FF_f (kk := 1) (E1 := (pL pStr)) (E2 := (pM (κ := Str) (pL pInt))) k_l_assignments (hr.mono (by decide)) g_l_assignments F_l_assignments.kp b_l_assignments (x_var (p := (pL pStr) a2) 1) (fun _ => x_var (p := (pM (κ := Str) (pL pInt)) a3) 2)))) (pg_name (i := 5) sc_l_totals.nd rfl (by first | exact .inl rfl | exact .inr rfl)) (tg_name 5) (fun _ => (by exact ⟨rfl, rfl, rfl, rfl, rfl, trivial⟩)) (fun _ => List.Sublist.refl _) (fun b392 x394 s393 => s_T (T := (some ((0 : Int) : Int)).bind fun x397 => (forS a1 (x397 : Int) fun x401 s400 => (dget x394 (x401.2)).bind fun x426 => grd ((sm (x401.1) || sm x426) = true) ((some ((s400 + ((x401.1) * x426)) : Int)).bind fun x427 => some x427)).bind fun s402 => (some (x394 : List (Str × Int))).bind fun x403 => (if (dhas a3 a4) = true then grd (x403.length < sizeLine) (some (dput x403 a4 (7 : Int))) else some x403).bind fun s408 => (some (a1 : List (Int × Str))).bind fun x409 => (some (s408 : List (Str × Int))).bind fun x411 => (M_worth_of x409 x411).bind fun r413 => (some (r413 : Int)).bind fun x414 => (M_l_is_integer x414).bind fun r416 => ((if (!r416) = true then some (true, ()) else ((if (!decide (x414 = s402)) = true then some (true, ()) else grd (okG (dgL (dgT2 dgInt dgStr)) x409 a1 = true) (((if (!decide (x409 = a1)) = true then some (true, ()) else some ((!deq x411 s408), ()))).bind fun c420 => some (c420.1, ())))).bind fun c421 => some (c421.1, ()))).bind fun c422 => if c422.1 = true then inB (some (Tm.rt ([]))) else grd (s393.length < sizeLine) (some (Bo.nx (s393 ++ [s402])))) (s_let (i := 6) pInt sc_l_totals.nd (x_int (i := 0)) fun (b398 : Unit) x397 => s_T (T := (forS a1 (x397 : Int) fun x401 s400 => (dget x394 (x401.2)).bind fun x426 => grd ((sm (x401.1) || sm x426) = true) ((some ((s400 + ((x401.1) * x426)) : Int)).bind fun x427 => some x427)).bind fun s402 => (some (x394 : List (Str × Int))).bind fun x403 => (if (dhas a3 a4) = true then grd (x403.length < sizeLine) (some (dput x403 a4 (7 : Int))) else some x403).bind fun s408 => (some (a1 : List (Int × Str))).bind fun x409 => (some (s408 : List (Str × Int))).bind fun x411 => (M_worth_of x409 x411).bind fun r413 => (some (r413 : Int)).bind fun x414 => (M_l_is_integer x414).bind fun r416 => ((if (!r416) = true then some (true, ()) else ((if (!decide (x414 = s402)) = true then some (true, ()) else grd (okG (dgL (dgT2 dgInt dgStr)) x409 a1 = true) (((if (!decide (x409 = a1)) = true then some (true, ()) else some ((!deq x411 s408), ()))).bind fun c420 => some (c420.1, ())))).bind fun c421 => some (c421.1, ()))).bind fun c422 => if c422.1 = true then inB (some (Tm.rt ([]))) else grd (s393.length < sizeLine) (some (Bo.nx (s393 ++ [s402])))) (s_forS PassesOwn.never (fun (b_ : Unit) (s_ : Int) => ([some ((pL (pT2 pInt pStr)) a1), some ((pL pStr) a2), some ((pM (κ := Str) (pL pInt)) a3), some (pStr a4), some (pV v390), some ((pM (κ := Str) pInt) x394), some (pInt s_), none, none, none, none, none], [⟨v390, (oL pInt) s393, none⟩])) (fun (b_ : Unit) => x397) (i_list (x_var (p := (pL (pT2 pInt pStr)) a1) 0)) (pg_name (i := 7) sc_l_totals.nd rfl (by first | exact .inl rfl | exact .inr rfl)) (tg_name 7) (fun _ => (by exact ⟨rfl, rfl, rfl, rfl, rfl, rfl, rfl, trivial⟩)) (fun _ => List.Sublist.refl _) (fun b399 x401 s400 => s_T (T := (dget x394 (x401.2)).bind fun x426 => grd ((sm (x401.1) || sm x426) = true) ((some ((s400 + ((x401.1) * x426)) : Int)).bind fun x427 => some x427)) (s_let (i := 6) pInt sc_l_totals.nd (x_kd (E := fun (b_ : (Unit × (Unit × ((Unit × Unit) × Int)))) => pInt (s400 + ((x401.1) * b_.2.2.2))) (x_add (x_var (p := pInt s400) 6) (fun _ => x_kd (E := fun (b_ : (Unit × ((Unit × Unit) × Int))) => pInt ((x401.1) * b_.2.2)) (x_mul (x_kd (E := fun (b_ : Unit) => pInt x401.1) (x_fst (x_var (p := (pT2 pInt pStr) x401) 7))) (fun _ => x_kd (E := fun (b_ : ((Unit × Unit) × Int)) => pInt b_.2) (x_dget (κ := Str) (Ee := pInt) hr.units (x_var (p := (pM (κ := Str) pInt) x394) 5) (fun _ => x_kd (E := fun (b_ : Unit) => pStr x401.2) (x_snd (x_var (p := (pT2 pInt pStr) x401) 7))) (fun _ _ => rdMF))))))) fun (b428 : (Unit × (Unit × ((Unit × Unit) × Int)))) x427 => s_end x427 rfl (by exact ⟨rfl, rfl, rfl, rfl, rfl, rfl, rfl, trivial⟩) (List.Sublist.refl _))) fun b399 s402 => s_T (T := (some (x394 : List (Str × Int))).bind fun x403 => (if (dhas a3 a4) = true then grd (x403.length < sizeLine) (some (dput x403 a4 (7 : Int))) else some x403).bind fun s408 => (some (a1 : List (Int × Str))).bind fun x409 => (some (s408 : List (Str × Int))).bind fun x411 => (M_worth_of x409 x411).bind fun r413 => (some (r413 : Int)).bind fun x414 => (M_l_is_integer x414).bind fun r416 => ((if (!r416) = true then some (true, ()) else ((if (!decide (x414 = s402)) = true then some (true, ()) else grd (okG (dgL (dgT2 dgInt dgStr)) x409 a1 = true) (((if (!decide (x409 = a1)) = true then some (true, ()) else some ((!deq x411 s408), ()))).bind fun c420 => some (c420.1, ())))).bind fun c421 => some (c421.1, ()))).bind fun c422 => if c422.1 = true then inB (some (Tm.rt ([]))) else grd (s393.length < sizeLine) (some (Bo.nx (s393 ++ [s402])))) (s_letO (i := 8) (oM (κ := Str) pInt) sc_l_totals.nd (o_kd (E := fun (b_ : Unit) => (oM (κ := Str) pInt) x394) (x_dictD (κ := Str) (Ee := pInt) m_dict (x_var (p := (pM (κ := Str) pInt) x394) 5) (fun _ => rdMF))) fun (b404 : Unit) x403 v406 => s_T (T := (if (dhas a3 a4) = true then grd (x403.length < sizeLine) (some (dput x403 a4 (7 : Int))) else some x403).bind fun s408 => (some (a1 : List (Int × Str))).bind fun x409 => (some (s408 : List (Str × Int))).bind fun x411 => (M_worth_of x409 x411).bind fun r413 => (some (r413 : Int)).bind fun x414 => (M_l_is_integer x414).bind fun r416 => ((if (!r416) = true then some (true, ()) else ((if (!decide (x414 = s402)) = true then some (true, ()) else grd (okG (dgL (dgT2 dgInt dgStr)) x409 a1 = true) (((if (!decide (x409 = a1)) = true then some (true, ()) else some ((!deq x411 s408), ()))).bind fun c420 => some (c420.1, ())))).bind fun c421 => some (c421.1, ()))).bind fun c422 => if c422.1 = true then inB (some (Tm.rt ([]))) else grd (s393.length < sizeLine) (some (Bo.nx (s393 ++ [s402])))) (s_ifN (C := fun s_ : (List (Str × Int)) => ([some ((pL (pT2 pInt pStr)) a1), some ((pL pStr) a2), some ((pM (κ := Str) (pL pInt)) a3), some (pStr a4), some (pV v390), some ((pM (κ := Str) pInt) x394), some (pInt s402), none, some (pV v406), none, none, none], [⟨v406, (oM (κ := Str) pInt) s_, none⟩, ⟨v390, (oL pInt) s393, none⟩])) (t_kd (c := fun (b_ : (Unit × Unit)) => (dhas a3 a4)) (t_din (κ := Str) (Ee := (pL pInt)) hr.units (x_var (p := pStr a4) 3) (fun _ => x_var (p := (pM (κ := Str) (pL pInt)) a3) 2) (fun _ _ => rdMF))) (fun (b407 : (Unit × Unit)) => s_T (T := grd (x403.length < sizeLine) (some (dput x403 a4 (7 : Int)))) (s_dput (κ := Str) (Ee := pInt) 0 hr.units (x_int (i := 7)) (fun _ => x_var (p := pV v406) 8) (fun _ _ => x_var (p := pStr a4) 3) (fun _ _ _ => rfl) fun (b425 : ((Unit × Unit) × Unit)) => s_end (dput x403 a4 (7 : Int)) rfl (by exact ⟨rfl, rfl, rfl, rfl, rfl, rfl, rfl, rfl, trivial⟩) (List.Sublist.refl _))) (fun (b407 : (Unit × Unit)) => s_end x403 rfl (by exact ⟨rfl, rfl, rfl, rfl, rfl, rfl, rfl, rfl, trivial⟩) (List.Sublist.refl _)) fun (b407 : (Unit × Unit)) s408 => s_frz (i := 8) (c := ⟨v406, (oM (κ := Str) pInt) s408, none⟩) 0 (s_T (T := (some (a1 : List (Int × Str))).bind fun x409 => (some (s408 : List (Str × Int))).bind fun x411 => (M_worth_of x409 x411).bind fun r413 => (some (r413 : Int)).bind fun x414 => (M_l_is_integer x414).bind fun r416 => ((if (!r416) = true then some (true, ()) else ((if (!decide (x414 = s402)) = true then some (true, ()) else grd (okG (dgL (dgT2 dgInt dgStr)) x409 a1 = true) (((if (!decide (x409 = a1)) = true then some (true, ()) else some ((!deq x411 s408), ()))).bind fun c420 => some (c420.1, ())))).bind fun c421 => some (c421.1, ()))).bind fun c422 => if c422.1 = true then inB (some (Tm.rt ([]))) else grd (s393.length < sizeLine) (some (Bo.nx (s393 ++ [s402])))) (s_let (i := 9) (pL (pT2 pInt pStr)) sc_l_totals.nd (x_kd (E := fun (b_ : Unit) => (pL (pT2 pInt pStr)) a1) (x_frz (o_kd (E := fun (b_ : Unit) => (oL (pT2 pInt pStr)) a1) (x_listL (Ee := (pT2 pInt pStr)) m_list (x_var (p := (pL (pT2 pInt pStr)) a1) 0) (fun _ => rdF))))) fun (b410 : Unit) x409 => s_T (T := (some (s408 : List (Str × Int))).bind fun x411 => (M_worth_of x409 x411).bind fun r413 => (some (r413 : Int)).bind fun x414 => (M_l_is_integer x414).bind fun r416 => ((if (!r416) = true then some (true, ()) else ((if (!decide (x414 = s402)) = true then some (true, ()) else grd (okG (dgL (dgT2 dgInt dgStr)) x409 a1 = true) (((if (!decide (x409 = a1)) = true then some (true, ()) else some ((!deq x411 s408), ()))).bind fun c420 => some (c420.1, ())))).bind fun c421 => some (c421.1, ()))).bind fun c422 => if c422.1 = true then inB (some (Tm.rt ([]))) else grd (s393.length < sizeLine) (some (Bo.nx (s393 ++ [s402])))) (s_let (i := 10) (pM (κ := Str) pInt) sc_l_totals.nd (x_kd (E := fun (b_ : Unit) => (pM (κ := Str) pInt) s408) (x_frz (o_kd (E := fun (b_ : Unit) => (oM (κ := Str) pInt) s408) (x_dictD (κ := Str) (Ee := pInt) m_dict (x_var (p := (pM (κ := Str) pInt) s408) 8) (fun _ => rdMF))))) fun (b412 : Unit) x411 => s_T (T := (M_worth_of x409 x411).bind fun r413 => (some (r413 : Int)).bind fun x414 => (M_l_is_integer x414).bind fun r416 => ((if (!r416) = true then some (true, ()) else ((if (!decide (x414 = s402)) = true then some (true, ()) else grd (okG (dgL (dgT2 dgInt dgStr)) x409 a1 = true) (((if (!decide (x409 = a1)) = true then some (true, ()) else some ((!deq x411 s408), ()))).bind fun c420 => some (c420.1, ())))).bind fun c421 => some (c421.1, ()))).bind fun c422 => if c422.1 = true then inB (some (Tm.rt ([]))) else grd (s393.length < sizeLine) (some (Bo.nx (s393 ++ [s402])))) (s_let (i := 11) pInt sc_l_totals.nd (x_kd (E := fun (b_ : ((Unit × Unit) × Int)) => pInt b_.2) (x_FF_f (kk := 1) (E1 := (pL (pT2 pInt pStr))) (E2 := (pM (κ := Str) pInt)) k_worth_of (hr.mono (by decide)) g_worth_of F_worth_of.kp b_worth_of (x_var (p := (pL (pT2 pInt pStr)) x409) 9) (fun _ => x_var (p := (pM (κ := Str) pInt) x411) 10))) fun (b415 : ((Unit × Unit) × Int)) x414 => s_T (T := (M_l_is_integer x414).bind fun r416 => ((if (!r416) = true then some (true, ()) else ((if (!decide (x414 = s402)) = true then some (true, ()) else grd (okG (dgL (dgT2 dgInt dgStr)) x409 a1 = true) (((if (!decide (x409 = a1)) = true then some (true, ()) else some ((!deq x411 s408), ()))).bind fun c420 => some (c420.1, ())))).bind fun c421 => some (c421.1, ()))).bind fun c422 => if c422.1 = true then inB (some (Tm.rt ([]))) else grd (s393.length < sizeLine) (some (Bo.nx (s393 ++ [s402])))) (s_ifB ins_T (t_kd (c := fun (b_ : ((Unit × Bool) × (Bool × Unit))) => b_.2.1) (PW.pt (w_orM (ΔS := fun (b_ : (Unit × Bool)) (s_ : Unit) => [⟨v390, (oL pInt) s393, none⟩]) (s1 := fun (b_ : (Unit × Bool)) => ()) (s2 := fun (b_ : (Unit × Bool)) (c_ : ((Unit × Unit) × (Bool × Unit))) => ()) (t_kd (c := fun (b_ : (Unit × Bool)) => (!b_.2)) (t_not (t_kd (c := fun (b_ : (Unit × Bool)) => b_.2) (t_val (x_kd (E := fun (b_ : (Unit × Bool)) => pBl b_.2) (x_F_f (kk := 1) (E1 := pInt) k_l_is_integer (hr.mono (by decide)) g_l_is_integer F_l_is_integer.kp b_l_is_integer (x_var (p := pInt x414) 11))))))) (fun (b417 : (Unit × Bool)) => w_orM (ΔS := fun (b_ : (Unit × Unit)) (s_ : Unit) => [⟨v390, (oL pInt) s393, none⟩]) (s1 := fun (b_ : (Unit × Unit)) => ()) (s2 := fun (b_ : (Unit × Unit)) (c_ : ((Unit × Unit) × (Bool × Unit))) => ()) (t_kd (c := fun (b_ : (Unit × Unit)) => (!decide (x414 = s402))) (t_neI (x_var (p := pInt x414) 11) (fun _ => x_var (p := pInt s402) 6))) (fun (b418 : (Unit × Unit)) => w_orM (ΔS := fun (b_ : (Unit × Unit)) (s_ : Unit) => [⟨v390, (oL pInt) s393, none⟩]) (s1 := fun (b_ : (Unit × Unit)) => ()) (s2 := fun (b_ : (Unit × Unit)) (c_ : (Unit × Unit)) => ()) (t_kd (c := fun (b_ : (Unit × Unit)) => (!decide (x409 = a1))) (t_neG (dgL (dgT2 dgInt dgStr)) hr.units (x_var (p := (pL (pT2 pInt pStr)) x409) 9) (fun _ => x_var (p := (pL (pT2 pInt pStr)) a1) 0))) (fun (b419 : (Unit × Unit)) => w_or1 (t_kd (c := fun (b_ : (Unit × Unit)) => (!deq x411 s408)) (t_neM (κ := Str) (room66 hr) dtInt (x_var (p := (pM (κ := Str) pInt) x411) 10) (fun _ => x_var (p := (pM (κ := Str) pInt) s408) 8) (fun _ _ => rdMF) (fun _ _ => rdMF)))) (fun _ => rfl) (fun _ _ => rfl)) (fun _ => rfl) (fun _ _ => rfl)) (fun _ => rfl) (fun _ _ => rfl)))) (fun (b423 : ((Unit × Bool) × (Bool × Unit))) => s_T (T := some (Tm.rt ([]))) (s_retO (P := (fun _ => [])) (Ro := (oL pInt)) (ι := Tm.rt) (rv := fun (b : Unit) => []) (fun _ _ _ h => by exact h) (o_kd (E := fun (b_ : Unit) => (oL pInt) ([])) (x_nil pInt)) (fun _ => .cons _ (.slnil)))) fun (b423 : ((Unit × Bool) × (Bool × Unit))) => s_T (T := grd (s393.length < sizeLine) (some (Bo.nx (s393 ++ [s402])))) (s_expr (x_app 0 (x_var (p := pV v390) 4) (fun _ => x_var (p := pInt s402) 6) (fun _ => rfl) (fun _ _ => rfl)) fun (b424 : (Unit × Unit)) => s_endB (s393 ++ [s402]) (by exact ⟨rfl, rfl, rfl, rfl, rfl, trivial⟩) (List.Sublist.refl _)))))))))))) (fun b392 s395 => s_T (T := some s395) (s_retV 0 (P := (fun _ => [])) (Ro := (oL pInt)) (ι := id) (rv := fun _ => s395) (fun _ _ _ h => by exact h) (x_var (p := pV v390) 4) (fun _ => rfl) (fun _ => List.Sublist.refl _))) (fun _ _ _ h => by exact h)))) (by unfold M_l_totals; rfl)
end
end My
end
section
set_option maxHeartbeats 4000000
set_option synthInstance.maxSize 2000
namespace My
open PySem PySem.Spec PyProof.Rows L2 L3
section
variable {P : Program} {w : World} {K : PySem.W.Frag} {mg : Str → Option Value} {base : Heap}
theorem sc_l_bounds : FnScope ["_law_weights_here", "_law_sides", "_law_least", "_law_most", "_law_handed", "_law_lent", "_law_turn", "_law_first", "_law_second", "_law_third"] ["_law_weights_here", "_law_sides", "_law_least", "_law_most"] (defScope (top 57)) := ⟨rfl, rfl, rfl, by decide +kernel, rfl, by decide +kernel, by decide +kernel⟩
theorem ok_l_bounds {f : Addr} {fd : FuncData} (C : Ev P K mg) (FD : FnP K "_law_bounds" (top 57) f fd)   : FnOk P w K mg base CX0 4 f fd ["_law_weights_here", "_law_sides", "_law_least", "_law_most"] (Sp_FFFF_f (pL (pT2 pInt pStr)) (pM (κ := Str) (pL pInt)) pInt pInt M_l_bounds pBl) := by
  have m_list := C.m_list
  have m_range := C.m_range
  obtain ⟨f_l_copy, fd_l_copy, F_l_copy, g_l_copy⟩ := C.f_l_copy
  have k_l_copy := ok_l_copy (P := P) (w := w) (base := base) C F_l_copy
  have b_l_copy : Binds K fd_l_copy ["_law_sides"] [] := F_l_copy.bindsN fun _ _ _ _ _ _ us hl => match us, hl with | [_], _ => rfl
  obtain ⟨f_best_in, fd_best_in, F_best_in, g_best_in⟩ := C.f_best_in
  have k_best_in := ok_best_in (P := P) (w := w) (base := base) C F_best_in
  obtain ⟨f_l_is_integer, fd_l_is_integer, F_l_is_integer, g_l_is_integer⟩ := C.f_l_is_integer
  have k_l_is_integer := ok_l_is_integer (P := P) (w := w) (base := base) C F_l_is_integer
  have b_l_is_integer : Binds K fd_l_is_integer ["_law_actual"] [] := F_l_is_integer.bindsN fun _ _ _ _ _ _ us hl => match us, hl with | [_], _ => rfl
  obtain ⟨f_l_same_sides, fd_l_same_sides, F_l_same_sides, g_l_same_sides⟩ := C.f_l_same_sides
  have k_l_same_sides := ok_l_same_sides (P := P) (w := w) (base := base) C F_l_same_sides
  have b_l_same_sides : Binds K fd_l_same_sides ["_law_actual", "_law_expected"] [] := F_l_same_sides.bindsN fun _ _ _ _ _ _ us hl => match us, hl with | [_, _], _ => rfl
  obtain ⟨ds_b_best_in_2_, v_b_best_in_2_, b_best_in_2_⟩ := FunD.binds0 (ps := ["worth", "box", "greatest"]) F_best_in 2 (by decide) (by decide) (fun D doc pm an cdv ct us ks h1 h2 => match us, ks, h1, h2 with | [_, _], [_], _, _ => ⟨_, _, _, _, _, _, rfl, rfl, rfl⟩)
  obtain ⟨mv_b_best_in_2_3, b_best_in_2_3⟩ := FunD.kbinds0 (ps := ["worth", "box", "greatest"]) F_best_in 2 ["greatest"] [] (fun vs mz zs => vs ++ (zs.drop 0).take 1) (by decide) (by simp) (fun r1 r2 r3 => paired_app (r1) (paired_take 1 (paired_drop 0 r3))) (fun D doc pm an cdv ct us mv ws h1 h2 h3 => match us, mv, ws, h1, h2, h3 with | [_, _], [], [_], _, _, _ => rfl)
  refine fn_FFFF_f FD sc_l_bounds rfl fun cdv A outer s H E hr  a1 a2 a3 a4 => ?_
  exact s_is (s_T (T := (some (a1 : List (Int × Str))).bind fun x429 => (M_l_copy a2).bind fun r431 => (some (r431 : List (Str × List Int))).bind fun x432 => grd (rg (2 : Int) = true) ((forL (rngL 0 (2 : Int).toNat) (() : Unit) fun x436 s435 => (M_best_in x429 x432 (false : Bool)).bind fun r438 => (some (r438 : Int)).bind fun x439 => (M_best_in x429 x432 false).bind fun r441 => (some (r441 : Int)).bind fun x442 => (M_best_in x429 x432 true).bind fun r444 => (some (r444 : Int)).bind fun x445 => (M_l_is_integer x439).bind fun r447 => ((if (!r447) = true then some (true, ()) else (M_l_is_integer x442).bind fun r451 => ((if (!r451) = true then some (true, ()) else (M_l_is_integer x445).bind fun r454 => some ((!r454), ()))).bind fun c455 => some (c455.1, ()))).bind fun c456 => if c456.1 = true then inB (some (Tm.rt false)) else if ((!decide (x439 = a3)) || ((!decide (x442 = a3)) || (!decide (x445 = a4)))) = true then inB (some (Tm.rt false)) else grd (okG (dgL (dgT2 dgInt dgStr)) x429 a1 = true) (((if (!decide (x429 = a1)) = true then some (true, ()) else (M_l_same_sides x432 a2).bind fun r461 => some ((!r461), ()))).bind fun c462 => if c462.1 = true then inB (some (Tm.rt false)) else some (Bo.nx ()))).bind (boK (fun s437 => some true) id))) (s_let (i := 4) (pL (pT2 pInt pStr)) sc_l_bounds.nd (x_kd (E := fun (b_ : Unit) => (pL (pT2 pInt pStr)) a1) (x_frz (o_kd (E := fun (b_ : Unit) => (oL (pT2 pInt pStr)) a1) (x_listL (Ee := (pT2 pInt pStr)) m_list (x_var (p := (pL (pT2 pInt pStr)) a1) 0) (fun _ => rdF))))) fun (b430 : Unit) x429 => s_T (T := (M_l_copy a2).bind fun r431 => (some (r431 : List (Str × List Int))).bind fun x432 => grd (rg (2 : Int) = true) ((forL (rngL 0 (2 : Int).toNat) (() : Unit) fun x436 s435 => (M_best_in x429 x432 (false : Bool)).bind fun r438 => (some (r438 : Int)).bind fun x439 => (M_best_in x429 x432 false).bind fun r441 => (some (r441 : Int)).bind fun x442 => (M_best_in x429 x432 true).bind fun r444 => (some (r444 : Int)).bind fun x445 => (M_l_is_integer x439).bind fun r447 => ((if (!r447) = true then some (true, ()) else (M_l_is_integer x442).bind fun r451 => ((if (!r451) = true then some (true, ()) else (M_l_is_integer x445).bind fun r454 => some ((!r454), ()))).bind fun c455 => some (c455.1, ()))).bind fun c456 => if c456.1 = true then inB (some (Tm.rt false)) else if ((!decide (x439 = a3)) || ((!decide (x442 = a3)) || (!decide (x445 = a4)))) = true then inB (some (Tm.rt false)) else grd (okG (dgL (dgT2 dgInt dgStr)) x429 a1 = true) (((if (!decide (x429 = a1)) = true then some (true, ()) else (M_l_same_sides x432 a2).bind fun r461 => some ((!r461), ()))).bind fun c462 => if c462.1 = true then inB (some (Tm.rt false)) else some (Bo.nx ()))).bind (boK (fun s437 => some true) id))) (s_let (i := 5) (pM (κ := Str) (pL pInt)) sc_l_bounds.nd (x_kd (E := fun (b_ : (Unit × (List (Str × List Int)))) => (pM (κ := Str) (pL pInt)) b_.2) (x_frz (o_kd (E := fun (b_ : (Unit × (List (Str × List Int)))) => (oM (κ := Str) (pL pInt)) b_.2) (x_F_o (kk := 1) (E1 := (pM (κ := Str) (pL pInt))) k_l_copy (hr.mono (by decide)) g_l_copy F_l_copy.kp b_l_copy (x_var (p := (pM (κ := Str) (pL pInt)) a2) 1))))) fun (b433 : (Unit × (List (Str × List Int)))) x432 => s_T (T := grd (rg (2 : Int) = true) ((forL (rngL 0 (2 : Int).toNat) (() : Unit) fun x436 s435 => (M_best_in x429 x432 (false : Bool)).bind fun r438 => (some (r438 : Int)).bind fun x439 => (M_best_in x429 x432 false).bind fun r441 => (some (r441 : Int)).bind fun x442 => (M_best_in x429 x432 true).bind fun r444 => (some (r444 : Int)).bind fun x445 => (M_l_is_integer x439).bind fun r447 => ((if (!r447) = true then some (true, ()) else (M_l_is_integer x442).bind fun r451 => ((if (!r451) = true then some (true, ()) else (M_l_is_integer x445).bind fun r454 => some ((!r454), ()))).bind fun c455 => some (c455.1, ()))).bind fun c456 => if c456.1 = true then inB (some (Tm.rt false)) else if ((!decide (x439 = a3)) || ((!decide (x442 = a3)) || (!decide (x445 = a4)))) = true then inB (some (Tm.rt false)) else grd (okG (dgL (dgT2 dgInt dgStr)) x429 a1 = true) (((if (!decide (x429 = a1)) = true then some (true, ()) else (M_l_same_sides x432 a2).bind fun r461 => some ((!r461), ()))).bind fun c462 => if c462.1 = true then inB (some (Tm.rt false)) else some (Bo.nx ()))).bind (boK (fun s437 => some true) id))) (s_for PassesOwn.never (fun (b_ : Unit) (s_ : Unit) => ([some ((pL (pT2 pInt pStr)) a1), some ((pM (κ := Str) (pL pInt)) a2), some (pInt a3), some (pInt a4), some ((pL (pT2 pInt pStr)) x429), some ((pM (κ := Str) (pL pInt)) x432), none, none, none, none], [])) (fun (b_ : Unit) => ()) (ι := id) (R := (RF ⟨H, []⟩ (fun _ => []) pBl)) (i_rng1 m_range (x_int (i := 2))) (pg_name (i := 6) sc_l_bounds.nd rfl (by first | exact .inl rfl | exact .inr rfl)) (tg_name 6) (fun _ => (by exact ⟨rfl, rfl, rfl, rfl, rfl, rfl, trivial⟩)) (fun _ => List.Sublist.refl _) (fun b434 x436 s435 => s_T (T := (M_best_in x429 x432 (false : Bool)).bind fun r438 => (some (r438 : Int)).bind fun x439 => (M_best_in x429 x432 false).bind fun r441 => (some (r441 : Int)).bind fun x442 => (M_best_in x429 x432 true).bind fun r444 => (some (r444 : Int)).bind fun x445 => (M_l_is_integer x439).bind fun r447 => ((if (!r447) = true then some (true, ()) else (M_l_is_integer x442).bind fun r451 => ((if (!r451) = true then some (true, ()) else (M_l_is_integer x445).bind fun r454 => some ((!r454), ()))).bind fun c455 => some (c455.1, ()))).bind fun c456 => if c456.1 = true then inB (some (Tm.rt false)) else if ((!decide (x439 = a3)) || ((!decide (x442 = a3)) || (!decide (x445 = a4)))) = true then inB (some (Tm.rt false)) else grd (okG (dgL (dgT2 dgInt dgStr)) x429 a1 = true) (((if (!decide (x429 = a1)) = true then some (true, ()) else (M_l_same_sides x432 a2).bind fun r461 => some ((!r461), ()))).bind fun c462 => if c462.1 = true then inB (some (Tm.rt false)) else some (Bo.nx ()))) (s_let (i := 7) pInt sc_l_bounds.nd (x_kd (E := fun (b_ : ((Unit × Unit) × Int)) => pInt b_.2) (x_KFFF_f_2_ (kk := 1) (E1 := (pL (pT2 pInt pStr))) (E2 := (pM (κ := Str) (pL pInt))) (E3 := pBl) k_best_in (hr.mono (by decide)) g_best_in F_best_in.kp b_best_in_2_ v_b_best_in_2_ false (fun _ => rfl) (x_var (p := (pL (pT2 pInt pStr)) x429) 4) (fun _ => x_var (p := (pM (κ := Str) (pL pInt)) x432) 5))) fun (b440 : ((Unit × Unit) × Int)) x439 => s_T (T := (M_best_in x429 x432 false).bind fun r441 => (some (r441 : Int)).bind fun x442 => (M_best_in x429 x432 true).bind fun r444 => (some (r444 : Int)).bind fun x445 => (M_l_is_integer x439).bind fun r447 => ((if (!r447) = true then some (true, ()) else (M_l_is_integer x442).bind fun r451 => ((if (!r451) = true then some (true, ()) else (M_l_is_integer x445).bind fun r454 => some ((!r454), ()))).bind fun c455 => some (c455.1, ()))).bind fun c456 => if c456.1 = true then inB (some (Tm.rt false)) else if ((!decide (x439 = a3)) || ((!decide (x442 = a3)) || (!decide (x445 = a4)))) = true then inB (some (Tm.rt false)) else grd (okG (dgL (dgT2 dgInt dgStr)) x429 a1 = true) (((if (!decide (x429 = a1)) = true then some (true, ()) else (M_l_same_sides x432 a2).bind fun r461 => some ((!r461), ()))).bind fun c462 => if c462.1 = true then inB (some (Tm.rt false)) else some (Bo.nx ()))) (s_let (i := 8) pInt sc_l_bounds.nd (x_kd (E := fun (b_ : ((Unit × (Unit × Unit)) × Int)) => pInt b_.2) (x_KFFF_f_2_3 (kk := 1) (E1 := (pL (pT2 pInt pStr))) (E2 := (pM (κ := Str) (pL pInt))) (E3 := pBl) k_best_in (hr.mono (by decide)) g_best_in F_best_in.kp b_best_in_2_3  (x_var (p := (pL (pT2 pInt pStr)) x429) 4) (fun _ => x_var (p := (pM (κ := Str) (pL pInt)) x432) 5) (fun _ _ => x_bl))) fun (b443 : ((Unit × (Unit × Unit)) × Int)) x442 => s_T (T := (M_best_in x429 x432 true).bind fun r444 => (some (r444 : Int)).bind fun x445 => (M_l_is_integer x439).bind fun r447 => ((if (!r447) = true then some (true, ()) else (M_l_is_integer x442).bind fun r451 => ((if (!r451) = true then some (true, ()) else (M_l_is_integer x445).bind fun r454 => some ((!r454), ()))).bind fun c455 => some (c455.1, ()))).bind fun c456 => if c456.1 = true then inB (some (Tm.rt false)) else if ((!decide (x439 = a3)) || ((!decide (x442 = a3)) || (!decide (x445 = a4)))) = true then inB (some (Tm.rt false)) else grd (okG (dgL (dgT2 dgInt dgStr)) x429 a1 = true) (((if (!decide (x429 = a1)) = true then some (true, ()) else (M_l_same_sides x432 a2).bind fun r461 => some ((!r461), ()))).bind fun c462 => if c462.1 = true then inB (some (Tm.rt false)) else some (Bo.nx ()))) (s_let (i := 9) pInt sc_l_bounds.nd (x_kd (E := fun (b_ : ((Unit × (Unit × Unit)) × Int)) => pInt b_.2) (x_KFFF_f_2_3 (kk := 1) (E1 := (pL (pT2 pInt pStr))) (E2 := (pM (κ := Str) (pL pInt))) (E3 := pBl) k_best_in (hr.mono (by decide)) g_best_in F_best_in.kp b_best_in_2_3  (x_var (p := (pL (pT2 pInt pStr)) x429) 4) (fun _ => x_var (p := (pM (κ := Str) (pL pInt)) x432) 5) (fun _ _ => x_bl))) fun (b446 : ((Unit × (Unit × Unit)) × Int)) x445 => s_T (T := (M_l_is_integer x439).bind fun r447 => ((if (!r447) = true then some (true, ()) else (M_l_is_integer x442).bind fun r451 => ((if (!r451) = true then some (true, ()) else (M_l_is_integer x445).bind fun r454 => some ((!r454), ()))).bind fun c455 => some (c455.1, ()))).bind fun c456 => if c456.1 = true then inB (some (Tm.rt false)) else if ((!decide (x439 = a3)) || ((!decide (x442 = a3)) || (!decide (x445 = a4)))) = true then inB (some (Tm.rt false)) else grd (okG (dgL (dgT2 dgInt dgStr)) x429 a1 = true) (((if (!decide (x429 = a1)) = true then some (true, ()) else (M_l_same_sides x432 a2).bind fun r461 => some ((!r461), ()))).bind fun c462 => if c462.1 = true then inB (some (Tm.rt false)) else some (Bo.nx ()))) (s_ifB ins_T (t_kd (c := fun (b_ : ((Unit × Bool) × (Bool × Unit))) => b_.2.1) (PW.pt (w_orM (ΔS := fun (b_ : (Unit × Bool)) (s_ : Unit) => []) (s1 := fun (b_ : (Unit × Bool)) => ()) (s2 := fun (b_ : (Unit × Bool)) (c_ : ((Unit × Bool) × (Bool × Unit))) => ()) (t_kd (c := fun (b_ : (Unit × Bool)) => (!b_.2)) (t_not (t_kd (c := fun (b_ : (Unit × Bool)) => b_.2) (t_val (x_kd (E := fun (b_ : (Unit × Bool)) => pBl b_.2) (x_F_f (kk := 1) (E1 := pInt) k_l_is_integer (hr.mono (by decide)) g_l_is_integer F_l_is_integer.kp b_l_is_integer (x_var (p := pInt x439) 7))))))) (fun (b450 : (Unit × Bool)) => w_orM (ΔS := fun (b_ : (Unit × Bool)) (s_ : Unit) => []) (s1 := fun (b_ : (Unit × Bool)) => ()) (s2 := fun (b_ : (Unit × Bool)) (c_ : (Unit × Bool)) => ()) (t_kd (c := fun (b_ : (Unit × Bool)) => (!b_.2)) (t_not (t_kd (c := fun (b_ : (Unit × Bool)) => b_.2) (t_val (x_kd (E := fun (b_ : (Unit × Bool)) => pBl b_.2) (x_F_f (kk := 1) (E1 := pInt) k_l_is_integer (hr.mono (by decide)) g_l_is_integer F_l_is_integer.kp b_l_is_integer (x_var (p := pInt x442) 8))))))) (fun (b453 : (Unit × Bool)) => w_or1 (t_kd (c := fun (b_ : (Unit × Bool)) => (!b_.2)) (t_not (t_kd (c := fun (b_ : (Unit × Bool)) => b_.2) (t_val (x_kd (E := fun (b_ : (Unit × Bool)) => pBl b_.2) (x_F_f (kk := 1) (E1 := pInt) k_l_is_integer (hr.mono (by decide)) g_l_is_integer F_l_is_integer.kp b_l_is_integer (x_var (p := pInt x445) 9)))))))) (fun _ => rfl) (fun _ _ => rfl)) (fun _ => rfl) (fun _ _ => rfl)))) (fun (b457 : ((Unit × Bool) × (Bool × Unit))) => s_T (T := some (Tm.rt false)) (s_ret (P := (fun _ => [])) (Rp := pBl) (ι := Tm.rt) (rv := fun (b : Unit) => false) (fun _ _ _ h => by exact h) x_bl (fun _ => List.Sublist.refl _))) fun (b457 : ((Unit × Bool) × (Bool × Unit))) => s_T (T := if ((!decide (x439 = a3)) || ((!decide (x442 = a3)) || (!decide (x445 = a4)))) = true then inB (some (Tm.rt false)) else grd (okG (dgL (dgT2 dgInt dgStr)) x429 a1 = true) (((if (!decide (x429 = a1)) = true then some (true, ()) else (M_l_same_sides x432 a2).bind fun r461 => some ((!r461), ()))).bind fun c462 => if c462.1 = true then inB (some (Tm.rt false)) else some (Bo.nx ()))) (s_ifB ins_T (t_kd (c := fun (b_ : Unit) => ((!decide (x439 = a3)) || ((!decide (x442 = a3)) || (!decide (x445 = a4))))) (PW.pt (w_or (t_totV (!decide (x439 = a3)) ((), ()) (fun _ => rfl) (by exact (t_kd (c := fun (b_ : (Unit × Unit)) => (!decide (x439 = a3))) (t_neI (y_var (p := pInt x439) 7) (fun _ => y_var (p := pInt a3) 2))))) (w_or (t_totV (!decide (x442 = a3)) ((), ()) (fun _ => rfl) (by exact (t_kd (c := fun (b_ : (Unit × Unit)) => (!decide (x442 = a3))) (t_neI (y_var (p := pInt x442) 8) (fun _ => y_var (p := pInt a3) 2))))) (w_or1 (t_totV (!decide (x445 = a4)) ((), ()) (fun _ => rfl) (by exact (t_kd (c := fun (b_ : (Unit × Unit)) => (!decide (x445 = a4))) (t_neI (y_var (p := pInt x445) 9) (fun _ => y_var (p := pInt a4) 3)))))))))) (fun (b458 : Unit) => s_T (T := some (Tm.rt false)) (s_ret (P := (fun _ => [])) (Rp := pBl) (ι := Tm.rt) (rv := fun (b : Unit) => false) (fun _ _ _ h => by exact h) x_bl (fun _ => List.Sublist.refl _))) fun (b458 : Unit) => s_T (T := grd (okG (dgL (dgT2 dgInt dgStr)) x429 a1 = true) (((if (!decide (x429 = a1)) = true then some (true, ()) else (M_l_same_sides x432 a2).bind fun r461 => some ((!r461), ()))).bind fun c462 => if c462.1 = true then inB (some (Tm.rt false)) else some (Bo.nx ()))) (s_ifB ins_T (t_kd (c := fun (b_ : ((Unit × Unit) × (Bool × Unit))) => b_.2.1) (PW.pt (w_orM (ΔS := fun (b_ : (Unit × Unit)) (s_ : Unit) => []) (s1 := fun (b_ : (Unit × Unit)) => ()) (s2 := fun (b_ : (Unit × Unit)) (c_ : ((Unit × Unit) × Bool)) => ()) (t_kd (c := fun (b_ : (Unit × Unit)) => (!decide (x429 = a1))) (t_neG (dgL (dgT2 dgInt dgStr)) hr.units (x_var (p := (pL (pT2 pInt pStr)) x429) 4) (fun _ => x_var (p := (pL (pT2 pInt pStr)) a1) 0))) (fun (b460 : (Unit × Unit)) => w_or1 (t_kd (c := fun (b_ : ((Unit × Unit) × Bool)) => (!b_.2)) (t_not (t_kd (c := fun (b_ : ((Unit × Unit) × Bool)) => b_.2) (t_val (x_kd (E := fun (b_ : ((Unit × Unit) × Bool)) => pBl b_.2) (x_FF_f (kk := 3) (E1 := (pM (κ := Str) (pL pInt))) (E2 := (pM (κ := Str) (pL pInt))) k_l_same_sides (hr.mono (by decide)) g_l_same_sides F_l_same_sides.kp b_l_same_sides (x_var (p := (pM (κ := Str) (pL pInt)) x432) 5) (fun _ => x_var (p := (pM (κ := Str) (pL pInt)) a2) 1)))))))) (fun _ => rfl) (fun _ _ => rfl)))) (fun (b463 : ((Unit × Unit) × (Bool × Unit))) => s_T (T := some (Tm.rt false)) (s_ret (P := (fun _ => [])) (Rp := pBl) (ι := Tm.rt) (rv := fun (b : Unit) => false) (fun _ _ _ h => by exact h) x_bl (fun _ => List.Sublist.refl _))) fun (b463 : ((Unit × Unit) × (Bool × Unit))) => s_endB () (by exact ⟨rfl, rfl, rfl, rfl, rfl, rfl, trivial⟩) (List.Sublist.refl _)))))))) (fun b434 s437 => s_T (T := some true) (s_ret (P := (fun _ => [])) (Rp := pBl) (ι := id) (rv := fun (b : Unit) => true) (fun _ _ _ h => by exact h) x_bl (fun _ => List.Sublist.refl _))) (fun _ _ _ h => by exact h))))) (by unfold M_l_bounds; rfl)
end
end My
end
section
set_option maxHeartbeats 4000000
set_option synthInstance.maxSize 2000
namespace My
open PySem PySem.Spec PyProof.Rows L2 L3
section
variable {P : Program} {w : World} {K : PySem.W.Frag} {mg : Str → Option Value} {base : Heap}
theorem sc_Puzzle_inner_add : FnScope ["self", "rules", "key", "rule", "name"] ["self", "rules"] (defScope (mth 38 1)) := ⟨rfl, rfl, rfl, by decide +kernel, rfl, by decide +kernel, by decide +kernel⟩
theorem ok_Puzzle_inner_add {f : Addr} {fd : FuncData} (C : Ev P K mg) (FD : FunD K "inner_add" "Puzzle.inner_add" (defArgs (mth 38 1)) (defBody (mth 38 1)) (defScope (mth 38 1)) [] [] f fd) : FnOk P w K mg base CX0 1 f fd ["self", "rules"] (SpU (fun (a : V × List Empty) => [pV a.1, pL pE0 a.2]) fun a => M_Puzzle_inner_add a.2) := by
  refine fn_U FD sc_Puzzle_inner_add (fun _ => rfl) rfl fun cdv A outer s H E hr a => ?_
  exact s_is (s_T (T := (forS a.2 () (fun (x : Empty) (_ : Unit) => (nomatch x : Option Unit))).bind fun (_ : Unit) => some ()) (s_forS (Ex := pE0) (bd := fun G_ _ => G_) (f := fun (_ : Unit) (x : Empty) (_ : Unit) => (nomatch x : Option Unit)) (k2 := fun (_ : Unit) (_ : Unit) => some ()) PassesOwn.never (fun (_ : Unit) (_ : Unit) => ([some (pV a.1), some (pL pE0 a.2), none, none, none], [])) (fun (_ : Unit) => ()) (i_list (x_var (p := pL pE0 a.2) 1)) (pg_tup rfl (pgs_cons (pg_name (i := 2) sc_Puzzle_inner_add.nd rfl (by first | exact .inl rfl | exact .inr rfl)) (pgs_cons (pg_name (i := 3) sc_Puzzle_inner_add.nd rfl (by first | exact .inl rfl | exact .inr rfl)) pgs_nil))) (fun _ _ _ _ _ x => nomatch x) (fun _ => (by exact ⟨rfl, rfl, trivial⟩)) (fun _ => List.Sublist.refl _) (fun _ x _ => nomatch x) fun _ _ => s_endI () (List.Sublist.refl _))) (by unfold M_Puzzle_inner_add; rfl)
end
end My
end
section
set_option maxHeartbeats 4000000
set_option synthInstance.maxSize 2000
namespace My
open PySem PySem.Spec PyProof.Rows L2 L3
section
variable {P : Program} {w : World} {K : PySem.W.Frag} {mg : Str → Option Value} {base : Heap}
theorem sc_Puzzle___contains__ : FnScope ["self", "name"] ["self", "name"] (defScope (mth 38 3)) := ⟨rfl, rfl, rfl, by decide +kernel, rfl, by decide +kernel, by decide +kernel⟩
theorem ok_Puzzle___contains__ {f : Addr} {fd : FuncData} (C : Ev P K mg) (FD : FunD K "__contains__" "Puzzle.__contains__" (defArgs (mth 38 3)) (defBody (mth 38 3)) (defScope (mth 38 3)) [] [] f fd)   : FnOk P w K mg base CX0 1 f fd ["self", "name"] (Sp_FF_f (I_Puzzle mg) pStr M_Puzzle___contains__ pBl) := by
  obtain ⟨C_Puzzle, fI_Puzzle, fdI_Puzzle, gC_Puzzle, hC_Puzzle, hK_Puzzle, FI_Puzzle, n_Puzzle_inner_sides, n_Puzzle_names, n_Puzzle_room, n_Puzzle_inner_rules, n_Puzzle_rule_keys⟩ := C.c_Puzzle
  refine fn_FF_f FD sc_Puzzle___contains__ rfl fun cdv A outer s H E hr  a1 a2 => ?_
  exact s_is (s_T (T := some (dhas a1.1 a2)) (s_ret (P := (fun _ => [])) (Rp := pBl) (ι := id) (rv := fun (b : (Unit × Unit)) => (dhas a1.1 a2)) (fun _ _ _ h => by exact h) (x_kd (x_kd (E := fun (b_ : (Unit × Unit)) => pBl (dhas a1.1 a2)) (x_din (κ := Str) (Ee := (pL pInt)) hr.units (x_var (p := pStr a2) 1) (fun _ => x_kd (E := fun (b_ : Unit) => (pM (κ := Str) (pL pInt)) a1.1) (x_fld (cn := "Puzzle") (f := "inner_sides") (pM (κ := Str) (pL pInt)) 0 gC_Puzzle hC_Puzzle n_Puzzle_inner_sides (by decide +kernel) (x_var (p := (I_Puzzle mg) a1) 0))) (fun _ _ => rdMF)))) (fun _ => List.Sublist.refl _))) (by unfold M_Puzzle___contains__; rfl)
end
end My
end
section
set_option maxHeartbeats 4000000
set_option synthInstance.maxSize 2000
namespace My
open PySem PySem.Spec PyProof.Rows L2 L3
section
variable {P : Program} {w : World} {K : PySem.W.Frag} {mg : Str → Option Value} {base : Heap}
theorem sc_checked_worth : FnScope ["puzzle", "worth", "seen", "result", "coefficient", "name"] ["puzzle", "worth"] (defScope (top 28)) := ⟨rfl, rfl, rfl, by decide +kernel, rfl, by decide +kernel, by decide +kernel⟩
theorem ok_checked_worth {f : Addr} {fd : FuncData} (C : Ev P K mg) (FD : FnP K "checked_worth" (top 28) f fd)   : FnOk P w K mg base (L2.CX P w) 2 f fd ["puzzle", "worth"] (SpXo (fun (a : ((List (Str × List Int)) × (List Str) × Int × (List (Str × Empty)) × (List Str)) × (List (Int × Str))) => ([(I_Puzzle mg) a.1, (pL (pT2 pInt pStr)) a.2] : List Pd)) (fun (a : ((List (Str × List Int)) × (List Str) × Int × (List (Str × Empty)) × (List Str)) × (List (Int × Str))) => M_checked_worth a.1 a.2) (oL (pT2 pInt pStr)) (erX mg rsL)) := by
  obtain ⟨fI_RepeatedName, tx_RepeatedName⟩ := (C.xs.x "RepeatedName" (by decide +kernel)).tx
  obtain ⟨fI_UnknownName, tx_UnknownName⟩ := (C.xs.x "UnknownName" (by decide +kernel)).tx
  obtain ⟨c_Puzzle___contains__, f_Puzzle___contains__, fd_Puzzle___contains__, gc_Puzzle___contains__, hc_Puzzle___contains__, hm_Puzzle___contains__, F_Puzzle___contains__⟩ := C.f_Puzzle___contains__
  have k_Puzzle___contains__ := ok_Puzzle___contains__ (P := P) (w := w) (base := base) C F_Puzzle___contains__
  have b_Puzzle___contains__ : Binds K fd_Puzzle___contains__ ["self", "name"] [] := F_Puzzle___contains__.bindsN fun _ _ _ _ _ _ us hl => match us, hl with | [_, _], _ => rfl
  refine fn_Xo (A := (fun (a : ((List (Str × List Int)) × (List Str) × Int × (List (Str × Empty)) × (List Str)) × (List (Int × Str))) => ([(I_Puzzle mg) a.1, (pL (pT2 pInt pStr)) a.2] : List Pd))) (Mf := (fun (a : ((List (Str × List Int)) × (List Str) × Int × (List (Str × Empty)) × (List Str)) × (List (Int × Str))) => M_checked_worth a.1 a.2)) FD sc_checked_worth (fun _ => rfl) rfl fun cdv A outer s H E hr ⟨a1, a2⟩ tk => ?_
  exact s_is (s_T (T := (some ([] : List Str)).bind fun x539 => (some ([] : List (Int × Str))).bind fun x543 => (forL a2 ((x543, x539) : (List (Int × Str)) × (List Str)) fun x549 s548 => (M_Puzzle___contains__ a1 (x549.2)).bind fun r552 => if (!r552) = true then inB (some ((fun e => Tm.rt ((Except.error) e)) (⟨"UnknownName", [.str (x549.2)]⟩ : Er))) else if (decide ((x549.2) ∈ (s548.2))) = true then inB (some ((fun e => Tm.rt ((Except.error) e)) (⟨"RepeatedName", [.str (x549.2)]⟩ : Er))) else grd ((s548.2).length < sizeLine) (grd ((s548.1).length < sizeLine) (some (Bo.nx (((s548.1) ++ [(x549.1, x549.2)]), ((s548.2) ++ [x549.2])))))).bind (boK (fun s550 => some (Except.ok (ε := Er) (s550.1))) id)) (s_letO (i := 2) (oL pStr) sc_checked_worth.nd (o_kd (E := fun (b_ : Unit) => (oL pStr) ([])) (x_nil pStr)) fun (b540 : Unit) x539 v542 => s_T (T := (some ([] : List (Int × Str))).bind fun x543 => (forL a2 ((x543, x539) : (List (Int × Str)) × (List Str)) fun x549 s548 => (M_Puzzle___contains__ a1 (x549.2)).bind fun r552 => if (!r552) = true then inB (some ((fun e => Tm.rt ((Except.error) e)) (⟨"UnknownName", [.str (x549.2)]⟩ : Er))) else if (decide ((x549.2) ∈ (s548.2))) = true then inB (some ((fun e => Tm.rt ((Except.error) e)) (⟨"RepeatedName", [.str (x549.2)]⟩ : Er))) else grd ((s548.2).length < sizeLine) (grd ((s548.1).length < sizeLine) (some (Bo.nx (((s548.1) ++ [(x549.1, x549.2)]), ((s548.2) ++ [x549.2])))))).bind (boK (fun s550 => some (Except.ok (ε := Er) (s550.1))) id)) (s_letO (i := 3) (oL (pT2 pInt pStr)) sc_checked_worth.nd (o_kd (E := fun (b_ : Unit) => (oL (pT2 pInt pStr)) ([])) (x_nil (pT2 pInt pStr))) fun (b544 : Unit) x543 v546 => s_T (T := (forL a2 ((x543, x539) : (List (Int × Str)) × (List Str)) fun x549 s548 => (M_Puzzle___contains__ a1 (x549.2)).bind fun r552 => if (!r552) = true then inB (some ((fun e => Tm.rt ((Except.error) e)) (⟨"UnknownName", [.str (x549.2)]⟩ : Er))) else if (decide ((x549.2) ∈ (s548.2))) = true then inB (some ((fun e => Tm.rt ((Except.error) e)) (⟨"RepeatedName", [.str (x549.2)]⟩ : Er))) else grd ((s548.2).length < sizeLine) (grd ((s548.1).length < sizeLine) (some (Bo.nx (((s548.1) ++ [(x549.1, x549.2)]), ((s548.2) ++ [x549.2])))))).bind (boK (fun s550 => some (Except.ok (ε := Er) (s550.1))) id)) (s_forX (passes_of rfl) (fun (b_ : Unit) (s_ : (List (Int × Str)) × (List Str)) => ([some ((I_Puzzle mg) a1), some ((pL (pT2 pInt pStr)) a2), some (pV v542), some (pV v546), none, none], [⟨v546, (oL (pT2 pInt pStr)) s_.1, none⟩, ⟨v542, (oL pStr) s_.2, none⟩])) (fun (b_ : Unit) => (x543, x539)) (ι := id) (Tf := (fX (erX mg rsL) (fF (RO ⟨H, []⟩ (fun _ => []) (oL (pT2 pInt pStr)))) ⟨H, []⟩ [] (fun _ _ => True) (wE E))) (i_list (x_var (p := (pL (pT2 pInt pStr)) a2) 1)) (pg_tup rfl (pgs_cons (pg_name (i := 4) sc_checked_worth.nd rfl (by first | exact .inl rfl | exact .inr rfl)) (pgs_cons (pg_name (i := 5) sc_checked_worth.nd rfl (by first | exact .inl rfl | exact .inr rfl)) pgs_nil))) (tg_pair 4 5) (fun _ => by exact (by exact ⟨rfl, rfl, rfl, rfl, trivial⟩)) (fun _ => List.Sublist.refl _) (fun b547 x549 s548 => s_T (T := (M_Puzzle___contains__ a1 (x549.2)).bind fun r552 => if (!r552) = true then inB (some ((fun e => Tm.rt ((Except.error) e)) (⟨"UnknownName", [.str (x549.2)]⟩ : Er))) else if (decide ((x549.2) ∈ (s548.2))) = true then inB (some ((fun e => Tm.rt ((Except.error) e)) (⟨"RepeatedName", [.str (x549.2)]⟩ : Er))) else grd ((s548.2).length < sizeLine) (grd ((s548.1).length < sizeLine) (some (Bo.nx (((s548.1) ++ [(x549.1, x549.2)]), ((s548.2) ++ [x549.2])))))) (s_ifB (ins_Tg (insT_X (insT_F _))) (t_kd (c := fun (b_ : ((Unit × Unit) × Bool)) => (!b_.2)) (t_ninI (kk := 1) (Es := (I_Puzzle mg)) (Ex := pStr) (Mf := M_Puzzle___contains__) k_Puzzle___contains__ (hr.mono (by decide)) b_Puzzle___contains__ pass0 (fun _ => pI_isM gc_Puzzle___contains__ hc_Puzzle___contains__ hm_Puzzle___contains__ (by decide +kernel)) (fun o x v1 v2 H Q h1 h2 r e q => ⟨v1, v2, o, x, rfl, h1, h2, r, e, fun v H2 hk hv => by rw [show v = .bl r from hv]; exact q H2 hk⟩) (x_var (p := pStr x549.2) 5) (fun _ => x_var (p := (I_Puzzle mg) a1) 0))) (fun (b553 : ((Unit × Unit) × Bool)) => s_T (T := some ((fun e => Tm.rt ((Except.error) e)) (⟨"UnknownName", [.str (x549.2)]⟩ : Er))) (s_raise (er := fun (b : (Unit × Unit)) => (⟨"UnknownName", [.str x549.2]⟩ : Er)) tk (ex_T ex_X) tx_UnknownName (C.xs.x "UnknownName" (by decide +kernel)).g C.xs.sup hr (a_cons (x_var (p := pStr x549.2) 5) (fun _ => a_nil)) (fun _ _ _ _ h => by exact ⟨(show ("UnknownName" : Str) ∈ rsL from by decide +kernel), h⟩) (fun _ => (by decide +kernel : 1 = (fieldsOf "UnknownName").length)) (by decide +kernel) (fun _ => (List.nil_sublist _)) (fun _ _ _ => trivial))) fun (b553 : ((Unit × Unit) × Bool)) => s_T (T := if (decide ((x549.2) ∈ (s548.2))) = true then inB (some ((fun e => Tm.rt ((Except.error) e)) (⟨"RepeatedName", [.str (x549.2)]⟩ : Er))) else grd ((s548.2).length < sizeLine) (grd ((s548.1).length < sizeLine) (some (Bo.nx (((s548.1) ++ [(x549.1, x549.2)]), ((s548.2) ++ [x549.2])))))) (s_ifB (ins_Tg (insT_X (insT_F _))) (t_kd (c := fun (b_ : (Unit × Unit)) => (decide ((x549.2) ∈ (s548.2)))) (t_inL flStr (x_var (p := pStr x549.2) 5) (fun _ => x_var (p := pV v542) 2) (fun _ _ => rdO 1))) (fun (b554 : (Unit × Unit)) => s_T (T := some ((fun e => Tm.rt ((Except.error) e)) (⟨"RepeatedName", [.str (x549.2)]⟩ : Er))) (s_raise (er := fun (b : (Unit × Unit)) => (⟨"RepeatedName", [.str x549.2]⟩ : Er)) tk (ex_T ex_X) tx_RepeatedName (C.xs.x "RepeatedName" (by decide +kernel)).g C.xs.sup hr (a_cons (x_var (p := pStr x549.2) 5) (fun _ => a_nil)) (fun _ _ _ _ h => by exact ⟨(show ("RepeatedName" : Str) ∈ rsL from by decide +kernel), h⟩) (fun _ => (by decide +kernel : 1 = (fieldsOf "RepeatedName").length)) (by decide +kernel) (fun _ => (List.nil_sublist _)) (fun _ _ _ => trivial))) fun (b554 : (Unit × Unit)) => s_T (T := grd ((s548.2).length < sizeLine) (grd ((s548.1).length < sizeLine) (some (Bo.nx (((s548.1) ++ [(x549.1, x549.2)]), ((s548.2) ++ [x549.2])))))) (s_expr (x_app 1 (x_var (p := pV v542) 2) (fun _ => x_var (p := pStr x549.2) 5) (fun _ => rfl) (fun _ _ => rfl)) fun (b555 : (Unit × Unit)) => s_T (T := grd ((s548.1).length < sizeLine) (some (Bo.nx (((s548.1) ++ [(x549.1, x549.2)]), ((s548.2) ++ [x549.2]))))) (s_expr (x_app 0 (x_var (p := pV v546) 3) (fun _ => x_kd (E := fun (b_ : (Unit × (Unit × Unit))) => (pT2 pInt pStr) (x549.1, x549.2)) (x_tup2 (a_cons (x_var (p := pInt x549.1) 4) (fun _ => a_cons (x_var (p := pStr x549.2) 5) (fun _ => a_nil))) pInt pStr (fun (b : (Unit × (Unit × Unit))) => x549.1) (fun (b : (Unit × (Unit × Unit))) => x549.2))) (fun _ => rfl) (fun _ _ => rfl)) fun (b556 : (Unit × (Unit × (Unit × Unit)))) => s_endB (((s548.1) ++ [(x549.1, x549.2)]), ((s548.2) ++ [x549.2])) (by exact ⟨rfl, rfl, rfl, rfl, trivial⟩) (List.Sublist.refl _)))))) (fun b547 s550 => s_T (T := some (Except.ok (ε := Er) (s550.1))) (s_retV 0 (P := (fun _ => [])) (Ro := (oL (pT2 pInt pStr))) (ι := (Except.ok (ε := Er))) (rv := fun _ => s550.1) (fun _ _ _ h => by exact h) (x_var (p := pV v546) 3) (fun _ => rfl) (fun _ => .cons _ (.slnil)))) (fun _ _ _ h => by exact h) (insT_X (insT_F _)))))) (by unfold M_checked_worth; rfl)
end
end My
end
section
set_option maxHeartbeats 4000000
set_option synthInstance.maxSize 2000
namespace My
open PySem PySem.Spec PyProof.Rows L2 L3
section
variable {P : Program} {w : World} {K : PySem.W.Frag} {mg : Str → Option Value} {base : Heap}
theorem sc_l_checked : FnScope ["_law_puzzle", "_law_known", "_law_entries", "_law_fault_here", "_law_handed", "_law_actual", "e", "twice"] ["_law_puzzle", "_law_known", "_law_entries"] (defScope (top 55)) := ⟨rfl, rfl, rfl, by decide +kernel, rfl, by decide +kernel, by decide +kernel⟩
theorem ok_l_checked {f : Addr} {fd : FuncData} (C : Ev P K mg) (FD : FnP K "_law_checked" (top 55) f fd)   : FnOk P w K mg base CX0 3 f fd ["_law_puzzle", "_law_known", "_law_entries"] (Sp_FFF_f (I_Puzzle mg) (pL pStr) (pL (pT2 pInt pStr)) M_l_checked pBl) := by
  have m_isinstance := C.m_isinstance
  have m_len := C.m_len
  have m_list := C.m_list
  have m_str := C.m_str
  obtain ⟨f_l_fault, fd_l_fault, F_l_fault, g_l_fault⟩ := C.f_l_fault
  have k_l_fault := ok_l_fault (P := P) (w := w) (base := base) C F_l_fault
  have b_l_fault : Binds K fd_l_fault ["_law_known", "_law_entries"] [] := F_l_fault.bindsN fun _ _ _ _ _ _ us hl => match us, hl with | [_, _], _ => rfl
  obtain ⟨f_l_same_terms, fd_l_same_terms, F_l_same_terms, g_l_same_terms⟩ := C.f_l_same_terms
  have k_l_same_terms := ok_l_same_terms (P := P) (w := w) (base := base) C F_l_same_terms
  have b_l_same_terms : Binds K fd_l_same_terms ["_law_actual", "_law_entries"] [] := F_l_same_terms.bindsN fun _ _ _ _ _ _ us hl => match us, hl with | [_, _], _ => rfl
  obtain ⟨f_checked_worth, fd_checked_worth, F_checked_worth, g_checked_worth⟩ := C.f_checked_worth
  have k_checked_worth := ok_checked_worth (P := P) (w := w) (base := base) C F_checked_worth
  have b_checked_worth : Binds K fd_checked_worth ["puzzle", "worth"] [] := F_checked_worth.bindsN fun _ _ _ _ _ _ us hl => match us, hl with | [_, _], _ => rfl
  refine fn_FFF_f FD sc_l_checked rfl fun cdv A outer s H E hr  a1 a2 a3 => ?_
  exact s_is (s_T (T := (some ([] : List Str)).bind fun x557 => (some (a3 : List (Int × Str))).bind fun x559 => (some ([] : List (Int × Str))).bind fun x561 => ((M_checked_worth a1 x559).bind (xK (fun e => Bo.tm ((Except.error) e)) fun r576 => (some (r576 : List (Int × Str))).bind fun x577 => some (Bo.nx (x557, x577)))).bind (tryK2 (fun s565 => grd (okG (dgL (dgT2 dgInt dgStr)) x559 a3 = true) (((if (!decide (x559 = a3)) = true then some (true, ()) else (M_l_fault a2 a3).bind fun r569 => grd (okG (dgL dgStr) (s565.1) r569 = true) (some ((!decide ((s565.1) = r569)), ())))).bind fun c570 => if c570.1 = true then some false else if (decide ((0 : Int) < ((s565.1).length : Int))) = true then some true else (M_l_same_terms (s565.2) a3).bind fun r573 => if (!r573) = true then some false else grd (okG (dgL (dgT2 dgInt dgStr)) x559 a3 = true) (some (decide (x559 = a3))))) id (fun e => subC e.cn "UnknownName") (fun e580 => ((if (!(subC e580.cn "DeskError")) = true then some (true, ()) else ((if (!(subC e580.cn "ValueError")) = true then some (true, ()) else (erF e580 "name").bind fun y593 => (FV.str? y593).bind fun z594 => some ((!true), ()))).bind fun c595 => some (c595.1, ()))).bind fun c596 => if c596.1 = true then inB (some false) else if ((["RepeatedName", "UnknownValue", "RepeatedValue", "UnknownKey", "RepeatedKey", "EmptyRule", "BadRow"] : List Str).any (subC e580.cn)) = true then inB (some false) else if ((["BadBounds", "BadNumber", "BadStep", "NoMark", "NotStruck", "BadOrder", "NotBare", "NoClash", "HoldsAnswer"] : List Str).any (subC e580.cn)) = true then inB (some false) else if ((["BadLine", "UnknownLine", "BadText", "NothingToUndo", "NothingToRedo", "UnknownStep", "BadDeed"] : List Str).any (subC e580.cn)) = true then inB (some false) else (erF e580 "name").bind fun y601 => (FV.str? y601).bind fun z602 => (some ([("unknown" : Str), z602] : List Str)).bind fun x603 => some (Bo.nx (x603, x561))) (fun e => subC e.cn "RepeatedName") (fun e605 => ((if (!(subC e605.cn "DeskError")) = true then some (true, ()) else ((if (!(subC e605.cn "ValueError")) = true then some (true, ()) else (erF e605 "name").bind fun y618 => (FV.str? y618).bind fun z619 => some ((!true), ()))).bind fun c620 => some (c620.1, ()))).bind fun c621 => if c621.1 = true then inB (some false) else if ((["UnknownName", "UnknownValue", "RepeatedValue", "UnknownKey", "RepeatedKey", "EmptyRule", "BadRow"] : List Str).any (subC e605.cn)) = true then inB (some false) else if ((["BadBounds", "BadNumber", "BadStep", "NoMark", "NotStruck", "BadOrder", "NotBare", "NoClash"] : List Str).any (subC e605.cn)) = true then inB (some false) else if ((["HoldsAnswer", "BadLine", "UnknownLine", "BadText", "NothingToUndo", "NothingToRedo"] : List Str).any (subC e605.cn)) = true then inB (some false) else if ((["UnknownStep", "BadDeed"] : List Str).any (subC e605.cn)) = true then inB (some false) else (erF e605 "name").bind fun y627 => (FV.str? y627).bind fun z628 => (some ([("repeated" : Str), z628] : List Str)).bind fun x629 => some (Bo.nx (x629, x561))) (fun _ => none))) (s_let (i := 3) (pL pStr) sc_l_checked.nd (x_kd (E := fun (b_ : Unit) => (pL pStr) ([])) (x_frz (o_kd (E := fun (b_ : Unit) => (oL pStr) ([])) (x_nil pStr)))) fun (b558 : Unit) x557 => s_T (T := (some (a3 : List (Int × Str))).bind fun x559 => (some ([] : List (Int × Str))).bind fun x561 => ((M_checked_worth a1 x559).bind (xK (fun e => Bo.tm ((Except.error) e)) fun r576 => (some (r576 : List (Int × Str))).bind fun x577 => some (Bo.nx (x557, x577)))).bind (tryK2 (fun s565 => grd (okG (dgL (dgT2 dgInt dgStr)) x559 a3 = true) (((if (!decide (x559 = a3)) = true then some (true, ()) else (M_l_fault a2 a3).bind fun r569 => grd (okG (dgL dgStr) (s565.1) r569 = true) (some ((!decide ((s565.1) = r569)), ())))).bind fun c570 => if c570.1 = true then some false else if (decide ((0 : Int) < ((s565.1).length : Int))) = true then some true else (M_l_same_terms (s565.2) a3).bind fun r573 => if (!r573) = true then some false else grd (okG (dgL (dgT2 dgInt dgStr)) x559 a3 = true) (some (decide (x559 = a3))))) id (fun e => subC e.cn "UnknownName") (fun e580 => ((if (!(subC e580.cn "DeskError")) = true then some (true, ()) else ((if (!(subC e580.cn "ValueError")) = true then some (true, ()) else (erF e580 "name").bind fun y593 => (FV.str? y593).bind fun z594 => some ((!true), ()))).bind fun c595 => some (c595.1, ()))).bind fun c596 => if c596.1 = true then inB (some false) else if ((["RepeatedName", "UnknownValue", "RepeatedValue", "UnknownKey", "RepeatedKey", "EmptyRule", "BadRow"] : List Str).any (subC e580.cn)) = true then inB (some false) else if ((["BadBounds", "BadNumber", "BadStep", "NoMark", "NotStruck", "BadOrder", "NotBare", "NoClash", "HoldsAnswer"] : List Str).any (subC e580.cn)) = true then inB (some false) else if ((["BadLine", "UnknownLine", "BadText", "NothingToUndo", "NothingToRedo", "UnknownStep", "BadDeed"] : List Str).any (subC e580.cn)) = true then inB (some false) else (erF e580 "name").bind fun y601 => (FV.str? y601).bind fun z602 => (some ([("unknown" : Str), z602] : List Str)).bind fun x603 => some (Bo.nx (x603, x561))) (fun e => subC e.cn "RepeatedName") (fun e605 => ((if (!(subC e605.cn "DeskError")) = true then some (true, ()) else ((if (!(subC e605.cn "ValueError")) = true then some (true, ()) else (erF e605 "name").bind fun y618 => (FV.str? y618).bind fun z619 => some ((!true), ()))).bind fun c620 => some (c620.1, ()))).bind fun c621 => if c621.1 = true then inB (some false) else if ((["UnknownName", "UnknownValue", "RepeatedValue", "UnknownKey", "RepeatedKey", "EmptyRule", "BadRow"] : List Str).any (subC e605.cn)) = true then inB (some false) else if ((["BadBounds", "BadNumber", "BadStep", "NoMark", "NotStruck", "BadOrder", "NotBare", "NoClash"] : List Str).any (subC e605.cn)) = true then inB (some false) else if ((["HoldsAnswer", "BadLine", "UnknownLine", "BadText", "NothingToUndo", "NothingToRedo"] : List Str).any (subC e605.cn)) = true then inB (some false) else if ((["UnknownStep", "BadDeed"] : List Str).any (subC e605.cn)) = true then inB (some false) else (erF e605 "name").bind fun y627 => (FV.str? y627).bind fun z628 => (some ([("repeated" : Str), z628] : List Str)).bind fun x629 => some (Bo.nx (x629, x561))) (fun _ => none))) (s_let (i := 4) (pL (pT2 pInt pStr)) sc_l_checked.nd (x_kd (E := fun (b_ : Unit) => (pL (pT2 pInt pStr)) a3) (x_frz (o_kd (E := fun (b_ : Unit) => (oL (pT2 pInt pStr)) a3) (x_listL (Ee := (pT2 pInt pStr)) m_list (x_var (p := (pL (pT2 pInt pStr)) a3) 2) (fun _ => rdF))))) fun (b560 : Unit) x559 => s_T (T := (some ([] : List (Int × Str))).bind fun x561 => ((M_checked_worth a1 x559).bind (xK (fun e => Bo.tm ((Except.error) e)) fun r576 => (some (r576 : List (Int × Str))).bind fun x577 => some (Bo.nx (x557, x577)))).bind (tryK2 (fun s565 => grd (okG (dgL (dgT2 dgInt dgStr)) x559 a3 = true) (((if (!decide (x559 = a3)) = true then some (true, ()) else (M_l_fault a2 a3).bind fun r569 => grd (okG (dgL dgStr) (s565.1) r569 = true) (some ((!decide ((s565.1) = r569)), ())))).bind fun c570 => if c570.1 = true then some false else if (decide ((0 : Int) < ((s565.1).length : Int))) = true then some true else (M_l_same_terms (s565.2) a3).bind fun r573 => if (!r573) = true then some false else grd (okG (dgL (dgT2 dgInt dgStr)) x559 a3 = true) (some (decide (x559 = a3))))) id (fun e => subC e.cn "UnknownName") (fun e580 => ((if (!(subC e580.cn "DeskError")) = true then some (true, ()) else ((if (!(subC e580.cn "ValueError")) = true then some (true, ()) else (erF e580 "name").bind fun y593 => (FV.str? y593).bind fun z594 => some ((!true), ()))).bind fun c595 => some (c595.1, ()))).bind fun c596 => if c596.1 = true then inB (some false) else if ((["RepeatedName", "UnknownValue", "RepeatedValue", "UnknownKey", "RepeatedKey", "EmptyRule", "BadRow"] : List Str).any (subC e580.cn)) = true then inB (some false) else if ((["BadBounds", "BadNumber", "BadStep", "NoMark", "NotStruck", "BadOrder", "NotBare", "NoClash", "HoldsAnswer"] : List Str).any (subC e580.cn)) = true then inB (some false) else if ((["BadLine", "UnknownLine", "BadText", "NothingToUndo", "NothingToRedo", "UnknownStep", "BadDeed"] : List Str).any (subC e580.cn)) = true then inB (some false) else (erF e580 "name").bind fun y601 => (FV.str? y601).bind fun z602 => (some ([("unknown" : Str), z602] : List Str)).bind fun x603 => some (Bo.nx (x603, x561))) (fun e => subC e.cn "RepeatedName") (fun e605 => ((if (!(subC e605.cn "DeskError")) = true then some (true, ()) else ((if (!(subC e605.cn "ValueError")) = true then some (true, ()) else (erF e605 "name").bind fun y618 => (FV.str? y618).bind fun z619 => some ((!true), ()))).bind fun c620 => some (c620.1, ()))).bind fun c621 => if c621.1 = true then inB (some false) else if ((["UnknownName", "UnknownValue", "RepeatedValue", "UnknownKey", "RepeatedKey", "EmptyRule", "BadRow"] : List Str).any (subC e605.cn)) = true then inB (some false) else if ((["BadBounds", "BadNumber", "BadStep", "NoMark", "NotStruck", "BadOrder", "NotBare", "NoClash"] : List Str).any (subC e605.cn)) = true then inB (some false) else if ((["HoldsAnswer", "BadLine", "UnknownLine", "BadText", "NothingToUndo", "NothingToRedo"] : List Str).any (subC e605.cn)) = true then inB (some false) else if ((["UnknownStep", "BadDeed"] : List Str).any (subC e605.cn)) = true then inB (some false) else (erF e605 "name").bind fun y627 => (FV.str? y627).bind fun z628 => (some ([("repeated" : Str), z628] : List Str)).bind fun x629 => some (Bo.nx (x629, x561))) (fun _ => none))) (s_letO (i := 5) (oL (pT2 pInt pStr)) sc_l_checked.nd (o_kd (E := fun (b_ : Unit) => (oL (pT2 pInt pStr)) ([])) (x_nil (pT2 pInt pStr))) fun (b562 : Unit) x561 v564 => s_T (T := ((M_checked_worth a1 x559).bind (xK (fun e => Bo.tm ((Except.error) e)) fun r576 => (some (r576 : List (Int × Str))).bind fun x577 => some (Bo.nx (x557, x577)))).bind (tryK2 (fun s565 => grd (okG (dgL (dgT2 dgInt dgStr)) x559 a3 = true) (((if (!decide (x559 = a3)) = true then some (true, ()) else (M_l_fault a2 a3).bind fun r569 => grd (okG (dgL dgStr) (s565.1) r569 = true) (some ((!decide ((s565.1) = r569)), ())))).bind fun c570 => if c570.1 = true then some false else if (decide ((0 : Int) < ((s565.1).length : Int))) = true then some true else (M_l_same_terms (s565.2) a3).bind fun r573 => if (!r573) = true then some false else grd (okG (dgL (dgT2 dgInt dgStr)) x559 a3 = true) (some (decide (x559 = a3))))) id (fun e => subC e.cn "UnknownName") (fun e580 => ((if (!(subC e580.cn "DeskError")) = true then some (true, ()) else ((if (!(subC e580.cn "ValueError")) = true then some (true, ()) else (erF e580 "name").bind fun y593 => (FV.str? y593).bind fun z594 => some ((!true), ()))).bind fun c595 => some (c595.1, ()))).bind fun c596 => if c596.1 = true then inB (some false) else if ((["RepeatedName", "UnknownValue", "RepeatedValue", "UnknownKey", "RepeatedKey", "EmptyRule", "BadRow"] : List Str).any (subC e580.cn)) = true then inB (some false) else if ((["BadBounds", "BadNumber", "BadStep", "NoMark", "NotStruck", "BadOrder", "NotBare", "NoClash", "HoldsAnswer"] : List Str).any (subC e580.cn)) = true then inB (some false) else if ((["BadLine", "UnknownLine", "BadText", "NothingToUndo", "NothingToRedo", "UnknownStep", "BadDeed"] : List Str).any (subC e580.cn)) = true then inB (some false) else (erF e580 "name").bind fun y601 => (FV.str? y601).bind fun z602 => (some ([("unknown" : Str), z602] : List Str)).bind fun x603 => some (Bo.nx (x603, x561))) (fun e => subC e.cn "RepeatedName") (fun e605 => ((if (!(subC e605.cn "DeskError")) = true then some (true, ()) else ((if (!(subC e605.cn "ValueError")) = true then some (true, ()) else (erF e605 "name").bind fun y618 => (FV.str? y618).bind fun z619 => some ((!true), ()))).bind fun c620 => some (c620.1, ()))).bind fun c621 => if c621.1 = true then inB (some false) else if ((["UnknownName", "UnknownValue", "RepeatedValue", "UnknownKey", "RepeatedKey", "EmptyRule", "BadRow"] : List Str).any (subC e605.cn)) = true then inB (some false) else if ((["BadBounds", "BadNumber", "BadStep", "NoMark", "NotStruck", "BadOrder", "NotBare", "NoClash"] : List Str).any (subC e605.cn)) = true then inB (some false) else if ((["HoldsAnswer", "BadLine", "UnknownLine", "BadText", "NothingToUndo", "NothingToRedo"] : List Str).any (subC e605.cn)) = true then inB (some false) else if ((["UnknownStep", "BadDeed"] : List Str).any (subC e605.cn)) = true then inB (some false) else (erF e605 "name").bind fun y627 => (FV.str? y627).bind fun z628 => (some ([("repeated" : Str), z628] : List Str)).bind fun x629 => some (Bo.nx (x629, x561))) (fun _ => none))) (s_try_as2n (Tf := (fF (RF ⟨H, []⟩ (fun _ => []) pBl))) (Ke := fun _ => none) (ι := id) (i := 6) (i2 := 7) (m := fun e => subC e.cn "UnknownName") (m2 := fun e => subC e.cn "RepeatedName") (Kx := erX mg rsL) (fun (v_ : V) (s_ : (List Str) × (List (Int × Str))) => ([some ((I_Puzzle mg) a1), some ((pL pStr) a2), some ((pL (pT2 pInt pStr)) a3), some ((pL pStr) s_.1), some ((pL (pT2 pInt pStr)) x559), some (pV v_), none, none], [⟨v_, (oL (pT2 pInt pStr)) s_.2, none⟩])) ([some ((I_Puzzle mg) a1), some ((pL pStr) a2), some ((pL (pT2 pInt pStr)) a3), some ((pL pStr) x557), some ((pL (pT2 pInt pStr)) x559), some (pV v564), none, none]) ([⟨v564, (oL (pT2 pInt pStr)) x561, none⟩]) sc_l_checked.nd (C.xs.names (by decide +kernel)) (C.xs.names (by decide +kernel)) takes_no (C.xs.exms (by decide +kernel)) (C.xs.exms (by decide +kernel)) (by rfl) (fun W pn xe tkW po => s_T (T := (M_checked_worth a1 x559).bind (xK (fun e => Bo.tm ((Except.error) e)) fun r576 => (some (r576 : List (Int × Str))).bind fun x577 => some (Bo.nx (x557, x577)))) (s_letOX (i := 5) (oL (pT2 pInt pStr)) sc_l_checked.nd (x_Xo (kk := 2) (xs := fun (b : (Unit × (Unit × Unit))) => (a1, x559)) k_checked_worth tkW (hr.mono (by decide)) g_checked_worth F_checked_worth.kp b_checked_worth (a_cons (x_var (p := (I_Puzzle mg) a1) 0) (fun _ => a_cons (x_var (p := (pL (pT2 pInt pStr)) x559) 4) (fun _ => a_nil)))) (ex_Bn ex_X) (List.Sublist.refl _) (fun _ _ h => nm_wk h (by exact ⟨rfl, rfl, rfl, rfl, rfl, rfl, trivial⟩)) fun (b578 : ((Unit × (Unit × Unit)) × (List (Int × Str)))) x577 v579 => s_endBn v579 (x557, x577) (by exact ⟨rfl, rfl, rfl, rfl, rfl, rfl, trivial⟩) (.cons₂ _ (.cons _ (.slnil))))) (fun a oe cls d pn hz hf e580 => s_T (T := ((if (!(subC e580.cn "DeskError")) = true then some (true, ()) else ((if (!(subC e580.cn "ValueError")) = true then some (true, ()) else (erF e580 "name").bind fun y593 => (FV.str? y593).bind fun z594 => some ((!true), ()))).bind fun c595 => some (c595.1, ()))).bind fun c596 => if c596.1 = true then inB (some false) else if ((["RepeatedName", "UnknownValue", "RepeatedValue", "UnknownKey", "RepeatedKey", "EmptyRule", "BadRow"] : List Str).any (subC e580.cn)) = true then inB (some false) else if ((["BadBounds", "BadNumber", "BadStep", "NoMark", "NotStruck", "BadOrder", "NotBare", "NoClash", "HoldsAnswer"] : List Str).any (subC e580.cn)) = true then inB (some false) else if ((["BadLine", "UnknownLine", "BadText", "NothingToUndo", "NothingToRedo", "UnknownStep", "BadDeed"] : List Str).any (subC e580.cn)) = true then inB (some false) else (erF e580 "name").bind fun y601 => (FV.str? y601).bind fun z602 => (some ([("unknown" : Str), z602] : List Str)).bind fun x603 => some (Bo.nx (x603, x561))) (s_ifBn (ins_F _) (t_kd (c := fun (b_ : (Unit × (Bool × Unit))) => b_.2.1) (PW.pt (w_orM (ΔS := fun (b_ : Unit) (s_ : Unit) => [⟨v564, (oL (pT2 pInt pStr)) x561, none⟩]) (s1 := fun (b_ : Unit) => ()) (s2 := fun (b_ : Unit) (c_ : (Unit × (Bool × Unit))) => ()) (t_kd (c := fun (b_ : Unit) => (!(subC e580.cn "DeskError"))) (t_not (t_kd (c := fun (b_ : Unit) => (subC e580.cn "DeskError")) (t_val (x_kd (E := fun (b_ : Unit) => pBl (subC e580.cn "DeskError")) (x_isE1 (y := "DeskError") hz hf C.xs (by decide +kernel) m_isinstance (x_var (p := pExc (erX mg rsL) a cls d e580) 6))))))) (fun (b585 : Unit) => w_orM (ΔS := fun (b_ : Unit) (s_ : Unit) => [⟨v564, (oL (pT2 pInt pStr)) x561, none⟩]) (s1 := fun (b_ : Unit) => ()) (s2 := fun (b_ : Unit) (c_ : ((Unit × FV) × Str)) => ()) (t_kd (c := fun (b_ : Unit) => (!(subC e580.cn "ValueError"))) (t_not (t_kd (c := fun (b_ : Unit) => (subC e580.cn "ValueError")) (t_val (x_kd (E := fun (b_ : Unit) => pBl (subC e580.cn "ValueError")) (x_isE1 (y := "ValueError") hz hf C.xs (by decide +kernel) m_isinstance (x_var (p := pExc (erX mg rsL) a cls d e580) 6))))))) (fun (b590 : Unit) => w_or1 (t_kd (c := fun (b_ : ((Unit × FV) × Str)) => (!true)) (t_not (t_kd (c := fun (b_ : ((Unit × FV) × Str)) => true) (t_val (x_kd (E := fun (b_ : ((Unit × FV) × Str)) => pBl true) (x_isi (cn := "str") (fun _ => "str") (fun _ => true) m_isinstance m_str (x_kd (E := fun (b_ : ((Unit × FV) × Str)) => pStr b_.2) (x_fv (Ee := pStr) FV.str? fv_str (x_erF (f := "name") hz hf C.xs (x_var (p := pExc (erX mg rsL) a cls d e580) 6)))) (fun _ => tyStr) (fun _ => by decide +kernel) (by decide +kernel)))))))) (fun _ => rfl) (fun _ _ => rfl)) (fun _ => rfl) (fun _ _ => rfl)))) (fun (b597 : (Unit × (Bool × Unit))) => s_T (T := some false) (s_ret (P := (fun _ => [])) (Rp := pBl) (ι := id) (rv := fun (b : Unit) => false) (fun _ _ _ h => by exact h) x_bl (fun _ => .cons _ (.slnil)))) fun (b597 : (Unit × (Bool × Unit))) => s_T (T := if ((["RepeatedName", "UnknownValue", "RepeatedValue", "UnknownKey", "RepeatedKey", "EmptyRule", "BadRow"] : List Str).any (subC e580.cn)) = true then inB (some false) else if ((["BadBounds", "BadNumber", "BadStep", "NoMark", "NotStruck", "BadOrder", "NotBare", "NoClash", "HoldsAnswer"] : List Str).any (subC e580.cn)) = true then inB (some false) else if ((["BadLine", "UnknownLine", "BadText", "NothingToUndo", "NothingToRedo", "UnknownStep", "BadDeed"] : List Str).any (subC e580.cn)) = true then inB (some false) else (erF e580 "name").bind fun y601 => (FV.str? y601).bind fun z602 => (some ([("unknown" : Str), z602] : List Str)).bind fun x603 => some (Bo.nx (x603, x561))) (s_ifBn (ins_F _) (t_kd (c := fun (b_ : Unit) => ((["RepeatedName", "UnknownValue", "RepeatedValue", "UnknownKey", "RepeatedKey", "EmptyRule", "BadRow"] : List Str).any (subC e580.cn))) (t_val (x_kd (E := fun (b_ : Unit) => pBl ((["RepeatedName", "UnknownValue", "RepeatedValue", "UnknownKey", "RepeatedKey", "EmptyRule", "BadRow"] : List Str).any (subC e580.cn))) (x_isEC ["RepeatedName", "UnknownValue", "RepeatedValue", "UnknownKey", "RepeatedKey", "EmptyRule", "BadRow"] hz hf C.xs (by decide +kernel) (by decide) m_isinstance (x_var (p := pExc (erX mg rsL) a cls d e580) 6) (fun _ => (c_cons C.xs (by decide +kernel) (c_cons C.xs (by decide +kernel) (c_cons C.xs (by decide +kernel) (c_cons C.xs (by decide +kernel) (c_cons C.xs (by decide +kernel) (c_cons C.xs (by decide +kernel) (c_cons C.xs (by decide +kernel) c_nil)))))))))))) (fun (b598 : Unit) => s_T (T := some false) (s_ret (P := (fun _ => [])) (Rp := pBl) (ι := id) (rv := fun (b : Unit) => false) (fun _ _ _ h => by exact h) x_bl (fun _ => .cons _ (.slnil)))) fun (b598 : Unit) => s_T (T := if ((["BadBounds", "BadNumber", "BadStep", "NoMark", "NotStruck", "BadOrder", "NotBare", "NoClash", "HoldsAnswer"] : List Str).any (subC e580.cn)) = true then inB (some false) else if ((["BadLine", "UnknownLine", "BadText", "NothingToUndo", "NothingToRedo", "UnknownStep", "BadDeed"] : List Str).any (subC e580.cn)) = true then inB (some false) else (erF e580 "name").bind fun y601 => (FV.str? y601).bind fun z602 => (some ([("unknown" : Str), z602] : List Str)).bind fun x603 => some (Bo.nx (x603, x561))) (s_ifBn (ins_F _) (t_kd (c := fun (b_ : Unit) => ((["BadBounds", "BadNumber", "BadStep", "NoMark", "NotStruck", "BadOrder", "NotBare", "NoClash", "HoldsAnswer"] : List Str).any (subC e580.cn))) (t_val (x_kd (E := fun (b_ : Unit) => pBl ((["BadBounds", "BadNumber", "BadStep", "NoMark", "NotStruck", "BadOrder", "NotBare", "NoClash", "HoldsAnswer"] : List Str).any (subC e580.cn))) (x_isEC ["BadBounds", "BadNumber", "BadStep", "NoMark", "NotStruck", "BadOrder", "NotBare", "NoClash", "HoldsAnswer"] hz hf C.xs (by decide +kernel) (by decide) m_isinstance (x_var (p := pExc (erX mg rsL) a cls d e580) 6) (fun _ => (c_cons C.xs (by decide +kernel) (c_cons C.xs (by decide +kernel) (c_cons C.xs (by decide +kernel) (c_cons C.xs (by decide +kernel) (c_cons C.xs (by decide +kernel) (c_cons C.xs (by decide +kernel) (c_cons C.xs (by decide +kernel) (c_cons C.xs (by decide +kernel) (c_cons C.xs (by decide +kernel) c_nil)))))))))))))) (fun (b599 : Unit) => s_T (T := some false) (s_ret (P := (fun _ => [])) (Rp := pBl) (ι := id) (rv := fun (b : Unit) => false) (fun _ _ _ h => by exact h) x_bl (fun _ => .cons _ (.slnil)))) fun (b599 : Unit) => s_T (T := if ((["BadLine", "UnknownLine", "BadText", "NothingToUndo", "NothingToRedo", "UnknownStep", "BadDeed"] : List Str).any (subC e580.cn)) = true then inB (some false) else (erF e580 "name").bind fun y601 => (FV.str? y601).bind fun z602 => (some ([("unknown" : Str), z602] : List Str)).bind fun x603 => some (Bo.nx (x603, x561))) (s_ifBn (ins_F _) (t_kd (c := fun (b_ : Unit) => ((["BadLine", "UnknownLine", "BadText", "NothingToUndo", "NothingToRedo", "UnknownStep", "BadDeed"] : List Str).any (subC e580.cn))) (t_val (x_kd (E := fun (b_ : Unit) => pBl ((["BadLine", "UnknownLine", "BadText", "NothingToUndo", "NothingToRedo", "UnknownStep", "BadDeed"] : List Str).any (subC e580.cn))) (x_isEC ["BadLine", "UnknownLine", "BadText", "NothingToUndo", "NothingToRedo", "UnknownStep", "BadDeed"] hz hf C.xs (by decide +kernel) (by decide) m_isinstance (x_var (p := pExc (erX mg rsL) a cls d e580) 6) (fun _ => (c_cons C.xs (by decide +kernel) (c_cons C.xs (by decide +kernel) (c_cons C.xs (by decide +kernel) (c_cons C.xs (by decide +kernel) (c_cons C.xs (by decide +kernel) (c_cons C.xs (by decide +kernel) (c_cons C.xs (by decide +kernel) c_nil)))))))))))) (fun (b600 : Unit) => s_T (T := some false) (s_ret (P := (fun _ => [])) (Rp := pBl) (ι := id) (rv := fun (b : Unit) => false) (fun _ _ _ h => by exact h) x_bl (fun _ => .cons _ (.slnil)))) fun (b600 : Unit) => s_T (T := (erF e580 "name").bind fun y601 => (FV.str? y601).bind fun z602 => (some ([("unknown" : Str), z602] : List Str)).bind fun x603 => some (Bo.nx (x603, x561))) (s_let (i := 3) (pL pStr) sc_l_checked.nd (x_kd (E := fun (b_ : (Unit × (((Unit × FV) × Str) × Unit))) => (pL pStr) ([("unknown" : Str), b_.2.1.2])) (x_frz (o_kd (E := fun (b_ : (Unit × (((Unit × FV) × Str) × Unit))) => (oL pStr) ([("unknown" : Str), b_.2.1.2])) (x_disp pStr (fun _ => [_, _]) (a_cons x_str (fun _ => a_cons (x_kd (E := fun (b_ : ((Unit × FV) × Str)) => pStr b_.2) (x_fv (Ee := pStr) FV.str? fv_str (x_erF (f := "name") hz hf C.xs (x_var (p := pExc (erX mg rsL) a cls d e580) 6)))) (fun _ => a_nil))) (fun _ => rfl) (fun _ => by simp))))) fun (b604 : (Unit × (((Unit × FV) × Str) × Unit))) x603 => s_endBn v564 (x603, x561) (by exact ⟨rfl, rfl, rfl, rfl, rfl, rfl, trivial⟩) (List.Sublist.refl _))))))) (fun a oe cls d pn hz hf e605 => s_T (T := ((if (!(subC e605.cn "DeskError")) = true then some (true, ()) else ((if (!(subC e605.cn "ValueError")) = true then some (true, ()) else (erF e605 "name").bind fun y618 => (FV.str? y618).bind fun z619 => some ((!true), ()))).bind fun c620 => some (c620.1, ()))).bind fun c621 => if c621.1 = true then inB (some false) else if ((["UnknownName", "UnknownValue", "RepeatedValue", "UnknownKey", "RepeatedKey", "EmptyRule", "BadRow"] : List Str).any (subC e605.cn)) = true then inB (some false) else if ((["BadBounds", "BadNumber", "BadStep", "NoMark", "NotStruck", "BadOrder", "NotBare", "NoClash"] : List Str).any (subC e605.cn)) = true then inB (some false) else if ((["HoldsAnswer", "BadLine", "UnknownLine", "BadText", "NothingToUndo", "NothingToRedo"] : List Str).any (subC e605.cn)) = true then inB (some false) else if ((["UnknownStep", "BadDeed"] : List Str).any (subC e605.cn)) = true then inB (some false) else (erF e605 "name").bind fun y627 => (FV.str? y627).bind fun z628 => (some ([("repeated" : Str), z628] : List Str)).bind fun x629 => some (Bo.nx (x629, x561))) (s_ifBn (ins_F _) (t_kd (c := fun (b_ : (Unit × (Bool × Unit))) => b_.2.1) (PW.pt (w_orM (ΔS := fun (b_ : Unit) (s_ : Unit) => [⟨v564, (oL (pT2 pInt pStr)) x561, none⟩]) (s1 := fun (b_ : Unit) => ()) (s2 := fun (b_ : Unit) (c_ : (Unit × (Bool × Unit))) => ()) (t_kd (c := fun (b_ : Unit) => (!(subC e605.cn "DeskError"))) (t_not (t_kd (c := fun (b_ : Unit) => (subC e605.cn "DeskError")) (t_val (x_kd (E := fun (b_ : Unit) => pBl (subC e605.cn "DeskError")) (x_isE1 (y := "DeskError") hz hf C.xs (by decide +kernel) m_isinstance (x_var (p := pExc (erX mg rsL) a cls d e605) 7))))))) (fun (b610 : Unit) => w_orM (ΔS := fun (b_ : Unit) (s_ : Unit) => [⟨v564, (oL (pT2 pInt pStr)) x561, none⟩]) (s1 := fun (b_ : Unit) => ()) (s2 := fun (b_ : Unit) (c_ : ((Unit × FV) × Str)) => ()) (t_kd (c := fun (b_ : Unit) => (!(subC e605.cn "ValueError"))) (t_not (t_kd (c := fun (b_ : Unit) => (subC e605.cn "ValueError")) (t_val (x_kd (E := fun (b_ : Unit) => pBl (subC e605.cn "ValueError")) (x_isE1 (y := "ValueError") hz hf C.xs (by decide +kernel) m_isinstance (x_var (p := pExc (erX mg rsL) a cls d e605) 7))))))) (fun (b615 : Unit) => w_or1 (t_kd (c := fun (b_ : ((Unit × FV) × Str)) => (!true)) (t_not (t_kd (c := fun (b_ : ((Unit × FV) × Str)) => true) (t_val (x_kd (E := fun (b_ : ((Unit × FV) × Str)) => pBl true) (x_isi (cn := "str") (fun _ => "str") (fun _ => true) m_isinstance m_str (x_kd (E := fun (b_ : ((Unit × FV) × Str)) => pStr b_.2) (x_fv (Ee := pStr) FV.str? fv_str (x_erF (f := "name") hz hf C.xs (x_var (p := pExc (erX mg rsL) a cls d e605) 7)))) (fun _ => tyStr) (fun _ => by decide +kernel) (by decide +kernel)))))))) (fun _ => rfl) (fun _ _ => rfl)) (fun _ => rfl) (fun _ _ => rfl)))) (fun (b622 : (Unit × (Bool × Unit))) => s_T (T := some false) (s_ret (P := (fun _ => [])) (Rp := pBl) (ι := id) (rv := fun (b : Unit) => false) (fun _ _ _ h => by exact h) x_bl (fun _ => .cons _ (.slnil)))) fun (b622 : (Unit × (Bool × Unit))) => s_T (T := if ((["UnknownName", "UnknownValue", "RepeatedValue", "UnknownKey", "RepeatedKey", "EmptyRule", "BadRow"] : List Str).any (subC e605.cn)) = true then inB (some false) else if ((["BadBounds", "BadNumber", "BadStep", "NoMark", "NotStruck", "BadOrder", "NotBare", "NoClash"] : List Str).any (subC e605.cn)) = true then inB (some false) else if ((["HoldsAnswer", "BadLine", "UnknownLine", "BadText", "NothingToUndo", "NothingToRedo"] : List Str).any (subC e605.cn)) = true then inB (some false) else if ((["UnknownStep", "BadDeed"] : List Str).any (subC e605.cn)) = true then inB (some false) else (erF e605 "name").bind fun y627 => (FV.str? y627).bind fun z628 => (some ([("repeated" : Str), z628] : List Str)).bind fun x629 => some (Bo.nx (x629, x561))) (s_ifBn (ins_F _) (t_kd (c := fun (b_ : Unit) => ((["UnknownName", "UnknownValue", "RepeatedValue", "UnknownKey", "RepeatedKey", "EmptyRule", "BadRow"] : List Str).any (subC e605.cn))) (t_val (x_kd (E := fun (b_ : Unit) => pBl ((["UnknownName", "UnknownValue", "RepeatedValue", "UnknownKey", "RepeatedKey", "EmptyRule", "BadRow"] : List Str).any (subC e605.cn))) (x_isEC ["UnknownName", "UnknownValue", "RepeatedValue", "UnknownKey", "RepeatedKey", "EmptyRule", "BadRow"] hz hf C.xs (by decide +kernel) (by decide) m_isinstance (x_var (p := pExc (erX mg rsL) a cls d e605) 7) (fun _ => (c_cons C.xs (by decide +kernel) (c_cons C.xs (by decide +kernel) (c_cons C.xs (by decide +kernel) (c_cons C.xs (by decide +kernel) (c_cons C.xs (by decide +kernel) (c_cons C.xs (by decide +kernel) (c_cons C.xs (by decide +kernel) c_nil)))))))))))) (fun (b623 : Unit) => s_T (T := some false) (s_ret (P := (fun _ => [])) (Rp := pBl) (ι := id) (rv := fun (b : Unit) => false) (fun _ _ _ h => by exact h) x_bl (fun _ => .cons _ (.slnil)))) fun (b623 : Unit) => s_T (T := if ((["BadBounds", "BadNumber", "BadStep", "NoMark", "NotStruck", "BadOrder", "NotBare", "NoClash"] : List Str).any (subC e605.cn)) = true then inB (some false) else if ((["HoldsAnswer", "BadLine", "UnknownLine", "BadText", "NothingToUndo", "NothingToRedo"] : List Str).any (subC e605.cn)) = true then inB (some false) else if ((["UnknownStep", "BadDeed"] : List Str).any (subC e605.cn)) = true then inB (some false) else (erF e605 "name").bind fun y627 => (FV.str? y627).bind fun z628 => (some ([("repeated" : Str), z628] : List Str)).bind fun x629 => some (Bo.nx (x629, x561))) (s_ifBn (ins_F _) (t_kd (c := fun (b_ : Unit) => ((["BadBounds", "BadNumber", "BadStep", "NoMark", "NotStruck", "BadOrder", "NotBare", "NoClash"] : List Str).any (subC e605.cn))) (t_val (x_kd (E := fun (b_ : Unit) => pBl ((["BadBounds", "BadNumber", "BadStep", "NoMark", "NotStruck", "BadOrder", "NotBare", "NoClash"] : List Str).any (subC e605.cn))) (x_isEC ["BadBounds", "BadNumber", "BadStep", "NoMark", "NotStruck", "BadOrder", "NotBare", "NoClash"] hz hf C.xs (by decide +kernel) (by decide) m_isinstance (x_var (p := pExc (erX mg rsL) a cls d e605) 7) (fun _ => (c_cons C.xs (by decide +kernel) (c_cons C.xs (by decide +kernel) (c_cons C.xs (by decide +kernel) (c_cons C.xs (by decide +kernel) (c_cons C.xs (by decide +kernel) (c_cons C.xs (by decide +kernel) (c_cons C.xs (by decide +kernel) (c_cons C.xs (by decide +kernel) c_nil))))))))))))) (fun (b624 : Unit) => s_T (T := some false) (s_ret (P := (fun _ => [])) (Rp := pBl) (ι := id) (rv := fun (b : Unit) => false) (fun _ _ _ h => by exact h) x_bl (fun _ => .cons _ (.slnil)))) fun (b624 : Unit) => s_T (T := if ((["HoldsAnswer", "BadLine", "UnknownLine", "BadText", "NothingToUndo", "NothingToRedo"] : List Str).any (subC e605.cn)) = true then inB (some false) else if ((["UnknownStep", "BadDeed"] : List Str).any (subC e605.cn)) = true then inB (some false) else (erF e605 "name").bind fun y627 => (FV.str? y627).bind fun z628 => (some ([("repeated" : Str), z628] : List Str)).bind fun x629 => some (Bo.nx (x629, x561))) (s_ifBn (ins_F _) (t_kd (c := fun (b_ : Unit) => ((["HoldsAnswer", "BadLine", "UnknownLine", "BadText", "NothingToUndo", "NothingToRedo"] : List Str).any (subC e605.cn))) (t_val (x_kd (E := fun (b_ : Unit) => pBl ((["HoldsAnswer", "BadLine", "UnknownLine", "BadText", "NothingToUndo", "NothingToRedo"] : List Str).any (subC e605.cn))) (x_isEC ["HoldsAnswer", "BadLine", "UnknownLine", "BadText", "NothingToUndo", "NothingToRedo"] hz hf C.xs (by decide +kernel) (by decide) m_isinstance (x_var (p := pExc (erX mg rsL) a cls d e605) 7) (fun _ => (c_cons C.xs (by decide +kernel) (c_cons C.xs (by decide +kernel) (c_cons C.xs (by decide +kernel) (c_cons C.xs (by decide +kernel) (c_cons C.xs (by decide +kernel) (c_cons C.xs (by decide +kernel) c_nil))))))))))) (fun (b625 : Unit) => s_T (T := some false) (s_ret (P := (fun _ => [])) (Rp := pBl) (ι := id) (rv := fun (b : Unit) => false) (fun _ _ _ h => by exact h) x_bl (fun _ => .cons _ (.slnil)))) fun (b625 : Unit) => s_T (T := if ((["UnknownStep", "BadDeed"] : List Str).any (subC e605.cn)) = true then inB (some false) else (erF e605 "name").bind fun y627 => (FV.str? y627).bind fun z628 => (some ([("repeated" : Str), z628] : List Str)).bind fun x629 => some (Bo.nx (x629, x561))) (s_ifBn (ins_F _) (t_kd (c := fun (b_ : Unit) => ((["UnknownStep", "BadDeed"] : List Str).any (subC e605.cn))) (t_val (x_kd (E := fun (b_ : Unit) => pBl ((["UnknownStep", "BadDeed"] : List Str).any (subC e605.cn))) (x_isEC ["UnknownStep", "BadDeed"] hz hf C.xs (by decide +kernel) (by decide) m_isinstance (x_var (p := pExc (erX mg rsL) a cls d e605) 7) (fun _ => (c_cons C.xs (by decide +kernel) (c_cons C.xs (by decide +kernel) c_nil))))))) (fun (b626 : Unit) => s_T (T := some false) (s_ret (P := (fun _ => [])) (Rp := pBl) (ι := id) (rv := fun (b : Unit) => false) (fun _ _ _ h => by exact h) x_bl (fun _ => .cons _ (.slnil)))) fun (b626 : Unit) => s_T (T := (erF e605 "name").bind fun y627 => (FV.str? y627).bind fun z628 => (some ([("repeated" : Str), z628] : List Str)).bind fun x629 => some (Bo.nx (x629, x561))) (s_let (i := 3) (pL pStr) sc_l_checked.nd (x_kd (E := fun (b_ : (Unit × (((Unit × FV) × Str) × Unit))) => (pL pStr) ([("repeated" : Str), b_.2.1.2])) (x_frz (o_kd (E := fun (b_ : (Unit × (((Unit × FV) × Str) × Unit))) => (oL pStr) ([("repeated" : Str), b_.2.1.2])) (x_disp pStr (fun _ => [_, _]) (a_cons x_str (fun _ => a_cons (x_kd (E := fun (b_ : ((Unit × FV) × Str)) => pStr b_.2) (x_fv (Ee := pStr) FV.str? fv_str (x_erF (f := "name") hz hf C.xs (x_var (p := pExc (erX mg rsL) a cls d e605) 7)))) (fun _ => a_nil))) (fun _ => rfl) (fun _ => by simp))))) fun (b630 : (Unit × (((Unit × FV) × Str) × Unit))) x629 => s_endBn v564 (x629, x561) (by exact ⟨rfl, rfl, rfl, rfl, rfl, rfl, trivial⟩) (List.Sublist.refl _)))))))) (fun v566 s565 => s_T (T := grd (okG (dgL (dgT2 dgInt dgStr)) x559 a3 = true) (((if (!decide (x559 = a3)) = true then some (true, ()) else (M_l_fault a2 a3).bind fun r569 => grd (okG (dgL dgStr) (s565.1) r569 = true) (some ((!decide ((s565.1) = r569)), ())))).bind fun c570 => if c570.1 = true then some false else if (decide ((0 : Int) < ((s565.1).length : Int))) = true then some true else (M_l_same_terms (s565.2) a3).bind fun r573 => if (!r573) = true then some false else grd (okG (dgL (dgT2 dgInt dgStr)) x559 a3 = true) (some (decide (x559 = a3))))) (s_ifT (ins_F _) (t_kd (c := fun (b_ : ((Unit × Unit) × (Bool × Unit))) => b_.2.1) (PW.pt (w_orM (ΔS := fun (b_ : (Unit × Unit)) (s_ : Unit) => [⟨v566, (oL (pT2 pInt pStr)) s565.2, none⟩]) (s1 := fun (b_ : (Unit × Unit)) => ()) (s2 := fun (b_ : (Unit × Unit)) (c_ : (Unit × ((Unit × Unit) × (List Str)))) => ()) (t_kd (c := fun (b_ : (Unit × Unit)) => (!decide (x559 = a3))) (t_neG (dgL (dgT2 dgInt dgStr)) hr.units (x_var (p := (pL (pT2 pInt pStr)) x559) 4) (fun _ => x_var (p := (pL (pT2 pInt pStr)) a3) 2))) (fun (b568 : (Unit × Unit)) => w_or1 (t_kd (c := fun (b_ : (Unit × ((Unit × Unit) × (List Str)))) => (!decide ((s565.1) = b_.2.2))) (t_neG (dgL dgStr) hr.units (x_var (p := (pL pStr) s565.1) 3) (fun _ => x_kd (E := fun (b_ : ((Unit × Unit) × (List Str))) => (pL pStr) b_.2) (x_frz (o_kd (E := fun (b_ : ((Unit × Unit) × (List Str))) => (oL pStr) b_.2) (x_FF_o (kk := 1) (E1 := (pL pStr)) (E2 := (pL (pT2 pInt pStr))) k_l_fault (hr.mono (by decide)) g_l_fault F_l_fault.kp b_l_fault (x_var (p := (pL pStr) a2) 1) (fun _ => x_var (p := (pL (pT2 pInt pStr)) a3) 2)))))))) (fun _ => rfl) (fun _ _ => rfl)))) (fun (b571 : ((Unit × Unit) × (Bool × Unit))) => s_T (T := some false) (s_ret (P := (fun _ => [])) (Rp := pBl) (ι := id) (rv := fun (b : Unit) => false) (fun _ _ _ h => by exact h) x_bl (fun _ => .cons _ (.slnil)))) fun (b571 : ((Unit × Unit) × (Bool × Unit))) => s_T (T := if (decide ((0 : Int) < ((s565.1).length : Int))) = true then some true else (M_l_same_terms (s565.2) a3).bind fun r573 => if (!r573) = true then some false else grd (okG (dgL (dgT2 dgInt dgStr)) x559 a3 = true) (some (decide (x559 = a3)))) (s_ifT (ins_F _) (t_kd (c := fun (b_ : (Unit × Unit)) => (decide ((0 : Int) < ((s565.1).length : Int)))) (t_gt (x_kd (E := fun (b_ : Unit) => pInt ((s565.1).length : Int)) (x_lenL (Ee := pStr) m_len (x_var (p := (pL pStr) s565.1) 3) (fun _ => rdF))) (fun _ => x_int (i := 0)))) (fun (b572 : (Unit × Unit)) => s_T (T := some true) (s_ret (P := (fun _ => [])) (Rp := pBl) (ι := id) (rv := fun (b : Unit) => true) (fun _ _ _ h => by exact h) x_bl (fun _ => .cons _ (.slnil)))) fun (b572 : (Unit × Unit)) => s_T (T := (M_l_same_terms (s565.2) a3).bind fun r573 => if (!r573) = true then some false else grd (okG (dgL (dgT2 dgInt dgStr)) x559 a3 = true) (some (decide (x559 = a3)))) (s_ifT (ins_F _) (t_kd (c := fun (b_ : ((Unit × Unit) × Bool)) => (!b_.2)) (t_not (t_kd (c := fun (b_ : ((Unit × Unit) × Bool)) => b_.2) (t_val (x_kd (E := fun (b_ : ((Unit × Unit) × Bool)) => pBl b_.2) (x_lockG (d := (oL (pT2 pInt pStr)) s565.2) 0 5 feBl (x_FF_f (kk := 2) (E1 := (pL (pT2 pInt pStr))) (E2 := (pL (pT2 pInt pStr))) k_l_same_terms (hr.mono (by decide)) g_l_same_terms F_l_same_terms.kp b_l_same_terms (x_var (p := (pL (pT2 pInt pStr)) s565.2) 5) (fun _ => x_var (p := (pL (pT2 pInt pStr)) a3) 2)))))))) (fun (b574 : ((Unit × Unit) × Bool)) => s_T (T := some false) (s_ret (P := (fun _ => [])) (Rp := pBl) (ι := id) (rv := fun (b : Unit) => false) (fun _ _ _ h => by exact h) x_bl (fun _ => .cons _ (.slnil)))) fun (b574 : ((Unit × Unit) × Bool)) => s_T (T := grd (okG (dgL (dgT2 dgInt dgStr)) x559 a3 = true) (some (decide (x559 = a3)))) (s_expr (x_lclear (E := (pT2 pInt pStr)) 0 (x_var (p := pV v566) 5) (fun _ => rfl)) fun (b575 : Unit) => s_T (T := grd (okG (dgL (dgT2 dgInt dgStr)) x559 a3 = true) (some (decide (x559 = a3)))) (s_ret (P := (fun _ => [])) (Rp := pBl) (ι := id) (rv := fun (b : (Unit × Unit)) => (decide (x559 = a3))) (fun _ _ _ h => by exact h) (x_kd (x_kd (E := fun (b_ : (Unit × Unit)) => pBl (decide (x559 = a3))) (x_eqG (dgL (dgT2 dgInt dgStr)) hr.units (x_var (p := (pL (pT2 pInt pStr)) x559) 4) (fun _ => x_var (p := (pL (pT2 pInt pStr)) a3) 2)))) (fun _ => .cons _ (.slnil)))))))) (fun _ _ _ h => by exact h) (ins_F _) (uns_F _) (uns_F _) (fun _ _ => rfl) (fun _ _ => rfl) (fun _ _ _ _ _ _ h => nomatch h)))))) (by unfold M_l_checked; rfl)
end
end My
end
section
set_option maxHeartbeats 4000000
set_option synthInstance.maxSize 2000
namespace My
open PySem PySem.Spec PyProof.Rows L2 L3
section
variable {P : Program} {w : World} {K : PySem.W.Frag} {mg : Str → Option Value} {base : Heap}
theorem sc_Puzzle___init__ : FnScope ["self", "domains", "rules"] ["self", "domains", "rules"] (defScope (mth 38 0)) := ⟨rfl, rfl, rfl, by decide +kernel, rfl, by decide +kernel, by decide +kernel⟩
theorem ok_Puzzle___init__ {f : Addr} {fd : FuncData} (C : Ev P K mg) (FD : FunD K "__init__" "Puzzle.__init__" (defArgs (mth 38 0)) (defBody (mth 38 0)) (defScope (mth 38 0)) [] [] f fd) : FnOk P w K mg base (L2.CX P w) 3 f fd ["self", "domains", "rules"] (Sp_XI mg "Puzzle" (fun (a : (List (Str × List Int)) × (List Empty)) => ([(pL (pT2 pStr (pL pInt))) a.1, (pL pE0) a.2] : List Pd)) (fun (a : (List (Str × List Int)) × (List Empty)) => M_Puzzle___init__ a.1 a.2) ["inner_sides", "names", "room", "inner_rules", "rule_keys"] (fun (z_ : ((List (Str × List Int)) × (List Str) × Int × (List (Str × Empty)) × (List Str))) => [(pM (κ := Str) (pL pInt)) z_.1, (pTN pStr) z_.2.1, pInt z_.2.2.1, (pM (κ := Str) pE0) z_.2.2.2.1, (pTN pStr) z_.2.2.2.2]) (erX mg rsL)) := by
  obtain ⟨C_Puzzle, fI_Puzzle, fdI_Puzzle, gC_Puzzle, hC_Puzzle, hK_Puzzle, FI_Puzzle, n_Puzzle_inner_sides, n_Puzzle_names, n_Puzzle_room, n_Puzzle_inner_rules, n_Puzzle_rule_keys⟩ := C.c_Puzzle
  have m_dict := C.m_dict
  have m_tuple := C.m_tuple
  obtain ⟨f_checked_domains, fd_checked_domains, F_checked_domains, g_checked_domains⟩ := C.f_checked_domains
  have k_checked_domains := ok_checked_domains (P := P) (w := w) (base := base) C F_checked_domains
  have b_checked_domains : Binds K fd_checked_domains ["domains"] [] := F_checked_domains.bindsN fun _ _ _ _ _ _ us hl => match us, hl with | [_], _ => rfl
  obtain ⟨f_room, fd_room, F_room, g_room⟩ := C.f_room
  have k_room := ok_room (P := P) (w := w) (base := base) C F_room
  have b_room : Binds K fd_room ["box"] [] := F_room.bindsN fun _ _ _ _ _ _ us hl => match us, hl with | [_], _ => rfl
  obtain ⟨c_Puzzle_inner_add, f_Puzzle_inner_add, fd_Puzzle_inner_add, gc_Puzzle_inner_add, hc_Puzzle_inner_add, hm_Puzzle_inner_add, F_Puzzle_inner_add⟩ := C.f_Puzzle_inner_add
  have k_Puzzle_inner_add := ok_Puzzle_inner_add (P := P) (w := w) (base := base) C F_Puzzle_inner_add
  have b_Puzzle_inner_add : Binds K fd_Puzzle_inner_add ["self", "rules"] [] := F_Puzzle_inner_add.bindsN fun _ _ _ _ _ _ us hl => match us, hl with | [_, _], _ => rfl
  refine fn_XI (A := (fun (a : (List (Str × List Int)) × (List Empty)) => ([(pL (pT2 pStr (pL pInt))) a.1, (pL pE0) a.2] : List Pd))) (Mf := (fun (a : (List (Str × List Int)) × (List Empty)) => M_Puzzle___init__ a.1 a.2)) (ns := ["inner_sides", "names", "room", "inner_rules", "rule_keys"]) (R := (fun (z_ : ((List (Str × List Int)) × (List Str) × Int × (List (Str × Empty)) × (List Str))) => [(pM (κ := Str) (pL pInt)) z_.1, (pTN pStr) z_.2.1, pInt z_.2.2.1, (pM (κ := Str) pE0) z_.2.2.2.1, (pTN pStr) z_.2.2.2.2])) FD sc_Puzzle___init__ (fun _ => rfl) rfl fun cdv A outer s H E hr x0 ⟨a1, a2⟩ tk => ?_
  exact s_is (s_T (T := (M_checked_domains a1).bind (xK (Except.error) fun r700 => (M_room (dmk r700)).bind fun r703 => (M_Puzzle_inner_add a2).bind fun _ => some (Except.ok (ε := Er) ((dmk r700), ((dmk r700).map Prod.fst), r703, ([] : List (Str × Empty)), (([] : List (Str × Empty)).map Prod.fst))))) (s_fldX (cn := "Puzzle") (ns := []) (ps := fun _ _ => []) 0 gC_Puzzle hC_Puzzle n_Puzzle_inner_sides (by decide +kernel) (by decide) (x_frzX (x_dictPX (κ := Str) (Ee := (pL pInt)) m_dict (x_frzX (x_Xo (kk := 2) (xs := fun (b : (Unit × Unit)) => a1) k_checked_domains tk (hr.mono (by decide)) g_checked_domains F_checked_domains.kp b_checked_domains (a_cons (x_var (p := (pL (pT2 pStr (pL pInt))) a1) 1) (fun _ => a_nil)))) (fun _ => rdF))) ex_X (List.nil_sublist _) (fun _ _ _ => trivial) (fun _ => x_var (p := pV (.ref x0)) 0) (fun _ _ => rfl) (fun _ _ => rfl) fun (b701 : ((Unit × Unit) × (List (Str × List Int)))) _ => s_T (T := (M_room (dmk b701.2)).bind fun r703 => (M_Puzzle_inner_add a2).bind fun _ => some (Except.ok (ε := Er) ((dmk b701.2), ((dmk b701.2).map Prod.fst), r703, ([] : List (Str × Empty)), (([] : List (Str × Empty)).map Prod.fst)))) (s_fld (cn := "Puzzle") (ns := ["inner_sides"]) (ps := fun _ _ => [(pM (κ := Str) (pL pInt)) (dmk b701.2)]) 0 gC_Puzzle hC_Puzzle n_Puzzle_names (by decide +kernel) (by decide) (x_kd (E := fun (b_ : Unit) => (pTN pStr) ((dmk b701.2).map Prod.fst)) (x_tupM (κ := Str) (Ee := (pL pInt)) m_tuple (x_kd (E := fun (b_ : Unit) => (pM (κ := Str) (pL pInt)) (dmk b701.2)) (x_fldV (cn := "Puzzle") (f := "inner_sides") (ns := ["inner_sides"]) (ps := fun _ => [(pM (κ := Str) (pL pInt)) (dmk b701.2)]) (pM (κ := Str) (pL pInt)) 0 0 gC_Puzzle hC_Puzzle n_Puzzle_inner_sides (by decide +kernel) (x_var (p := pV (.ref x0)) 0))) (fun _ => rdMF))) (fun _ => x_var (p := pV (.ref x0)) 0) (fun _ _ => rfl) (fun _ _ => rfl) fun (b702 : Unit) _ => s_T (T := (M_room (dmk b701.2)).bind fun r703 => (M_Puzzle_inner_add a2).bind fun _ => some (Except.ok (ε := Er) ((dmk b701.2), ((dmk b701.2).map Prod.fst), r703, ([] : List (Str × Empty)), (([] : List (Str × Empty)).map Prod.fst)))) (s_fld (cn := "Puzzle") (ns := ["inner_sides", "names"]) (ps := fun _ _ => [(pM (κ := Str) (pL pInt)) (dmk b701.2), (pTN pStr) ((dmk b701.2).map Prod.fst)]) 0 gC_Puzzle hC_Puzzle n_Puzzle_room (by decide +kernel) (by decide) (x_kd (E := fun (b_ : (Unit × Int)) => pInt b_.2) (x_F_f (kk := 1) (E1 := (pM (κ := Str) (pL pInt))) k_room (hr.mono (by decide)) g_room F_room.kp b_room (x_kd (E := fun (b_ : Unit) => (pM (κ := Str) (pL pInt)) (dmk b701.2)) (x_fldV (cn := "Puzzle") (f := "inner_sides") (ns := ["inner_sides", "names"]) (ps := fun _ => [(pM (κ := Str) (pL pInt)) (dmk b701.2), (pTN pStr) ((dmk b701.2).map Prod.fst)]) (pM (κ := Str) (pL pInt)) 0 0 gC_Puzzle hC_Puzzle n_Puzzle_inner_sides (by decide +kernel) (x_var (p := pV (.ref x0)) 0))))) (fun _ => x_var (p := pV (.ref x0)) 0) (fun _ _ => rfl) (fun _ _ => rfl) fun (b704 : (Unit × Int)) _ => s_T (T := (M_Puzzle_inner_add a2).bind fun _ => some (Except.ok (ε := Er) ((dmk b701.2), ((dmk b701.2).map Prod.fst), b704.2, ([] : List (Str × Empty)), (([] : List (Str × Empty)).map Prod.fst)))) (s_fld (cn := "Puzzle") (ns := ["inner_sides", "names", "room"]) (ps := fun _ _ => [(pM (κ := Str) (pL pInt)) (dmk b701.2), (pTN pStr) ((dmk b701.2).map Prod.fst), pInt b704.2]) 0 gC_Puzzle hC_Puzzle n_Puzzle_inner_rules (by decide +kernel) (by decide) (x_kd (E := fun (b_ : Unit) => (pM (κ := Str) pE0) ([] : List (Str × Empty))) (x_frz (o_kd (E := fun (b_ : Unit) => (oM (κ := Str) pE0) ([] : List (Str × Empty))) (x_dict0 (κ := Str) pE0)))) (fun _ => x_var (p := pV (.ref x0)) 0) (fun _ _ => rfl) (fun _ _ => rfl) fun (b705 : Unit) _ => s_T (T := (M_Puzzle_inner_add a2).bind fun _ => some (Except.ok (ε := Er) ((dmk b701.2), ((dmk b701.2).map Prod.fst), b704.2, ([] : List (Str × Empty)), (([] : List (Str × Empty)).map Prod.fst)))) (s_expr (x_callU (cn := "Puzzle") (ns := ["inner_sides", "names", "room", "inner_rules"]) (pds := fun _ => [(pM (κ := Str) (pL pInt)) (dmk b701.2), (pTN pStr) ((dmk b701.2).map Prod.fst), pInt b704.2, (pM (κ := Str) pE0) ([] : List (Str × Empty))]) (kk := 1) (E1 := (pL pE0)) (Mf := M_Puzzle_inner_add) gc_Puzzle_inner_add hc_Puzzle_inner_add hm_Puzzle_inner_add (by decide +kernel) k_Puzzle_inner_add (hr.mono (by decide)) b_Puzzle_inner_add 0 (x_var (p := pV (.ref x0)) 0) (fun _ => rfl) (fun _ => x_var (p := (pL pE0) a2) 2)) fun _ => s_T (T := some (Except.ok (ε := Er) ((dmk b701.2), ((dmk b701.2).map Prod.fst), b704.2, ([] : List (Str × Empty)), (([] : List (Str × Empty)).map Prod.fst)))) (s_fld (cn := "Puzzle") (ns := ["inner_sides", "names", "room", "inner_rules"]) (ps := fun _ _ => [(pM (κ := Str) (pL pInt)) (dmk b701.2), (pTN pStr) ((dmk b701.2).map Prod.fst), pInt b704.2, (pM (κ := Str) pE0) ([] : List (Str × Empty))]) 0 gC_Puzzle hC_Puzzle n_Puzzle_rule_keys (by decide +kernel) (by decide) (x_kd (E := fun (b_ : Unit) => (pTN pStr) (([] : List (Str × Empty)).map Prod.fst)) (x_tupM (κ := Str) (Ee := pE0) m_tuple (x_kd (E := fun (b_ : Unit) => (pM (κ := Str) pE0) ([] : List (Str × Empty))) (x_fldV (cn := "Puzzle") (f := "inner_rules") (ns := ["inner_sides", "names", "room", "inner_rules"]) (ps := fun _ => [(pM (κ := Str) (pL pInt)) (dmk b701.2), (pTN pStr) ((dmk b701.2).map Prod.fst), pInt b704.2, (pM (κ := Str) pE0) ([] : List (Str × Empty))]) (pM (κ := Str) pE0) 3 0 gC_Puzzle hC_Puzzle n_Puzzle_inner_rules (by decide +kernel) (x_var (p := pV (.ref x0)) 0))) (fun _ => rdMF))) (fun _ => x_var (p := pV (.ref x0)) 0) (fun _ _ => rfl) (fun _ _ => rfl) fun (b707 : Unit) _ => s_endXI ((dmk b701.2), ((dmk b701.2).map Prod.fst), b704.2, ([] : List (Str × Empty)), (([] : List (Str × Empty)).map Prod.fst)) (List.Sublist.refl _)))))))) (by unfold M_Puzzle___init__; rfl)
end
end My
end
section
set_option maxHeartbeats 4000000
set_option synthInstance.maxSize 2000
namespace My
open PySem PySem.Spec PyProof.Rows L2 L3
section
variable {P : Program} {w : World} {K : PySem.W.Frag} {mg : Str → Option Value} {base : Heap}
theorem sc_law : FnScope ["_law_script", "_law_stream_here", "_law_count", "_law_size", "_law_names_here", "_law_pool_here", "_law_known", "_law_second", "_law_most", "_law_sides", "_law_name", "_law_domains", "_law_weights_here", "_law_totals_here", "_law_puzzle", "_law_fourth", "_law_first", "_law_last", "_law_entries", "_law_side"] ["_law_script"] (defScope (top 58)) := ⟨rfl, rfl, rfl, by decide +kernel, rfl, by decide +kernel, by decide +kernel⟩
theorem ok_law {f : Addr} {fd : FuncData} (C : Ev P K mg) (FD : FnP K "law" (top 58) f fd)   : FnOk P w K mg base CX0 5 f fd ["_law_script"] (Sp_S K M_law) := by
  obtain ⟨C_Puzzle, fI_Puzzle, fdI_Puzzle, gC_Puzzle, hC_Puzzle, hK_Puzzle, FI_Puzzle, n_Puzzle_inner_sides, n_Puzzle_names, n_Puzzle_room, n_Puzzle_inner_rules, n_Puzzle_rule_keys⟩ := C.c_Puzzle
  have m_len := C.m_len
  have m_list := C.m_list
  have m_max := C.m_max
  have m_min := C.m_min
  obtain ⟨f_l_stream, fd_l_stream, F_l_stream, g_l_stream⟩ := C.f_l_stream
  have k_l_stream := ok_l_stream (P := P) (w := w) (base := base) C F_l_stream
  have b_l_stream : Binds K fd_l_stream ["_law_script", "_law_k"] [] := F_l_stream.bindsN fun _ _ _ _ _ _ us hl => match us, hl with | [_, _], _ => rfl
  obtain ⟨f_l_next, fd_l_next, F_l_next, g_l_next⟩ := C.f_l_next
  have k_l_next := ok_l_next (P := P) (w := w) (base := base) C F_l_next
  have b_l_next : Binds K fd_l_next ["_law_stream_here", "_law_size"] [] := F_l_next.bindsN fun _ _ _ _ _ _ us hl => match us, hl with | [_, _], _ => rfl
  obtain ⟨f_l_names, fd_l_names, F_l_names, g_l_names⟩ := C.f_l_names
  have k_l_names := ok_l_names (P := P) (w := w) (base := base) C F_l_names
  have b_l_names : Binds K fd_l_names ["_law_stream_here", "_law_count"] [] := F_l_names.bindsN fun _ _ _ _ _ _ us hl => match us, hl with | [_, _], _ => rfl
  obtain ⟨f_l_pool, fd_l_pool, F_l_pool, g_l_pool⟩ := C.f_l_pool
  have k_l_pool := ok_l_pool (P := P) (w := w) (base := base) C F_l_pool
  have b_l_pool : Binds K fd_l_pool ["_law_stream_here", "_law_count"] [] := F_l_pool.bindsN fun _ _ _ _ _ _ us hl => match us, hl with | [_, _], _ => rfl
  obtain ⟨f_l_weights, fd_l_weights, F_l_weights, g_l_weights⟩ := C.f_l_weights
  have k_l_weights := ok_l_weights (P := P) (w := w) (base := base) C F_l_weights
  have b_l_weights : Binds K fd_l_weights ["_law_stream_here", "_law_known"] [] := F_l_weights.bindsN fun _ _ _ _ _ _ us hl => match us, hl with | [_, _], _ => rfl
  obtain ⟨f_l_totals, fd_l_totals, F_l_totals, g_l_totals⟩ := C.f_l_totals
  have k_l_totals := ok_l_totals (P := P) (w := w) (base := base) C F_l_totals
  have b_l_totals : Binds K fd_l_totals ["_law_weights_here", "_law_known", "_law_sides", "_law_further"] [] := F_l_totals.bindsN fun _ _ _ _ _ _ us hl => match us, hl with | [_, _, _, _], _ => rfl
  obtain ⟨f_l_bounds, fd_l_bounds, F_l_bounds, g_l_bounds⟩ := C.f_l_bounds
  have k_l_bounds := ok_l_bounds (P := P) (w := w) (base := base) C F_l_bounds
  have b_l_bounds : Binds K fd_l_bounds ["_law_weights_here", "_law_sides", "_law_least", "_law_most"] [] := F_l_bounds.bindsN fun _ _ _ _ _ _ us hl => match us, hl with | [_, _, _, _], _ => rfl
  have k_Puzzle___init__ := ok_Puzzle___init__ (P := P) (w := w) (base := base) C FI_Puzzle
  have b_Puzzle___init__ : Binds K fdI_Puzzle ["self", "domains", "rules"] [] := FI_Puzzle.bindsN fun _ _ _ _ _ _ us hl => match us, hl with | [_, _, _], _ => rfl
  obtain ⟨f_l_spoilt, fd_l_spoilt, F_l_spoilt, g_l_spoilt⟩ := C.f_l_spoilt
  have k_l_spoilt := ok_l_spoilt (P := P) (w := w) (base := base) C F_l_spoilt
  have b_l_spoilt : Binds K fd_l_spoilt ["_law_stream_here", "_law_weights_here", "_law_unknown"] [] := F_l_spoilt.bindsN fun _ _ _ _ _ _ us hl => match us, hl with | [_, _, _], _ => rfl
  obtain ⟨f_l_checked, fd_l_checked, F_l_checked, g_l_checked⟩ := C.f_l_checked
  have k_l_checked := ok_l_checked (P := P) (w := w) (base := base) C F_l_checked
  have b_l_checked : Binds K fd_l_checked ["_law_puzzle", "_law_known", "_law_entries"] [] := F_l_checked.bindsN fun _ _ _ _ _ _ us hl => match us, hl with | [_, _, _], _ => rfl
  obtain ⟨f_l_part, fd_l_part, F_l_part, g_l_part⟩ := C.f_l_part
  have k_l_part := ok_l_part (P := P) (w := w) (base := base) C F_l_part
  have b_l_part : Binds K fd_l_part ["_law_stream_here", "_law_side"] [] := F_l_part.bindsN fun _ _ _ _ _ _ us hl => match us, hl with | [_, _], _ => rfl
  refine fn_S FD sc_law rfl fun cdv A outer s H E hr Mq a1 => ?_
  exact s_is (s_T (T := (M_l_stream a1 (0 : Int)).bind fun r709 => (some (r709 : List Int)).bind fun x710 => (M_l_next x710 (10 : Int)).bind fun r714 => (atI ([(2 : Int), (3 : Int), (4 : Int), (4 : Int), (1 : Int), (2 : Int), (3 : Int), (1 : Int), (0 : Int), (6 : Int)]) (r714.1)).bind fun x715 => (some (x715 : Int)).bind fun x716 => (M_l_next (r714.2) (4 : Int)).bind fun r718 => (some (((2 : Int) + (r718.1)) : Int)).bind fun x719 => (M_l_names (r718.2) (x716 + (2 : Int))).bind fun r721 => (some (r721.1 : List Str)).bind fun x722 => (M_l_pool (r721.2) x719).bind fun r724 => (some (r724.1 : List Int)).bind fun x725 => (some ((cutL x722 none (some x716)) : List Str)).bind fun x727 => M_law_c6 a1 x716 x727 x725 x719 x722) (s_letO (i := 1) (oL pInt) sc_law.nd (o_kd (E := fun (b_ : ((Unit × Unit) × (List Int))) => (oL pInt) b_.2) (x_FF_o (kk := 1) (E1 := (pS K)) (E2 := pInt) k_l_stream (hr.mono (by decide)) g_l_stream F_l_stream.kp b_l_stream (x_var (p := (pS K) a1) 0) (fun _ => x_int (i := 0)))) fun (b711 : ((Unit × Unit) × (List Int))) x710 v713 => s_T (T := (M_l_next x710 (10 : Int)).bind fun r714 => (atI ([(2 : Int), (3 : Int), (4 : Int), (4 : Int), (1 : Int), (2 : Int), (3 : Int), (1 : Int), (0 : Int), (6 : Int)]) (r714.1)).bind fun x715 => (some (x715 : Int)).bind fun x716 => (M_l_next (r714.2) (4 : Int)).bind fun r718 => (some (((2 : Int) + (r718.1)) : Int)).bind fun x719 => (M_l_names (r718.2) (x716 + (2 : Int))).bind fun r721 => (some (r721.1 : List Str)).bind fun x722 => (M_l_pool (r721.2) x719).bind fun r724 => (some (r724.1 : List Int)).bind fun x725 => (some ((cutL x722 none (some x716)) : List Str)).bind fun x727 => M_law_c6 a1 x716 x727 x725 x719 x722) (s_let (i := 2) pInt sc_law.nd (x_kd (E := fun (b_ : (((Unit × (Unit × (Unit × (Unit × (Unit × (Unit × (Unit × (Unit × (Unit × (Unit × Unit)))))))))) × ((Unit × Unit) × (Int × (List Int)))) × Int)) => pInt b_.2) (x_ixL (Ee := pInt) (x_kd (E := fun (b_ : (Unit × (Unit × (Unit × (Unit × (Unit × (Unit × (Unit × (Unit × (Unit × (Unit × Unit))))))))))) => (pL pInt) ([(2 : Int), (3 : Int), (4 : Int), (4 : Int), (1 : Int), (2 : Int), (3 : Int), (1 : Int), (0 : Int), (6 : Int)])) (x_frz (o_kd (E := fun (b_ : (Unit × (Unit × (Unit × (Unit × (Unit × (Unit × (Unit × (Unit × (Unit × (Unit × Unit))))))))))) => (oL pInt) ([(2 : Int), (3 : Int), (4 : Int), (4 : Int), (1 : Int), (2 : Int), (3 : Int), (1 : Int), (0 : Int), (6 : Int)])) (x_disp pInt (fun _ => [_, _, _, _, _, _, _, _, _, _]) (a_cons (x_int (i := 2)) (fun _ => a_cons (x_int (i := 3)) (fun _ => a_cons (x_int (i := 4)) (fun _ => a_cons (x_int (i := 4)) (fun _ => a_cons (x_int (i := 1)) (fun _ => a_cons (x_int (i := 2)) (fun _ => a_cons (x_int (i := 3)) (fun _ => a_cons (x_int (i := 1)) (fun _ => a_cons (x_int (i := 0)) (fun _ => a_cons (x_int (i := 6)) (fun _ => a_nil))))))))))) (fun _ => rfl) (fun _ => by simp))))) (fun _ => x_kd (E := fun (b_ : ((Unit × Unit) × (Int × (List Int)))) => pInt b_.2.1) (x_OF_f (kk := 1) (E1 := (oL pInt)) (E2 := pInt) (s1 := fun (_ : Unit) (_ : Unit) => x710) (v1 := v713) k_l_next (hr.mono (by decide)) g_l_next F_l_next.kp b_l_next 0 (x_var (p := pV v713) 1) (fun _ => x_int (i := 10)) (fun _ _ => rfl))) (fun _ _ => rdF))) fun (b717 : (((Unit × (Unit × (Unit × (Unit × (Unit × (Unit × (Unit × (Unit × (Unit × (Unit × Unit)))))))))) × ((Unit × Unit) × (Int × (List Int)))) × Int)) x716 => s_T (T := (M_l_next (b717.1.2.2.2) (4 : Int)).bind fun r718 => (some (((2 : Int) + (r718.1)) : Int)).bind fun x719 => (M_l_names (r718.2) (x716 + (2 : Int))).bind fun r721 => (some (r721.1 : List Str)).bind fun x722 => (M_l_pool (r721.2) x719).bind fun r724 => (some (r724.1 : List Int)).bind fun x725 => (some ((cutL x722 none (some x716)) : List Str)).bind fun x727 => M_law_c6 a1 x716 x727 x725 x719 x722) (s_let (i := 3) pInt sc_law.nd (x_kd (E := fun (b_ : (Unit × ((Unit × Unit) × (Int × (List Int))))) => pInt ((2 : Int) + (b_.2.2.1))) (x_add (x_int (i := 2)) (fun _ => x_kd (E := fun (b_ : ((Unit × Unit) × (Int × (List Int)))) => pInt b_.2.1) (x_OF_f (kk := 1) (E1 := (oL pInt)) (E2 := pInt) (s1 := fun (_ : Unit) (_ : Unit) => b717.1.2.2.2) (v1 := v713) k_l_next (hr.mono (by decide)) g_l_next F_l_next.kp b_l_next 0 (x_var (p := pV v713) 1) (fun _ => x_int (i := 4)) (fun _ _ => rfl))))) fun (b720 : (Unit × ((Unit × Unit) × (Int × (List Int))))) x719 => s_T (T := (M_l_names (b720.2.2.2) (x716 + (2 : Int))).bind fun r721 => (some (r721.1 : List Str)).bind fun x722 => (M_l_pool (r721.2) x719).bind fun r724 => (some (r724.1 : List Int)).bind fun x725 => (some ((cutL x722 none (some x716)) : List Str)).bind fun x727 => M_law_c6 a1 x716 x727 x725 x719 x722) (s_let (i := 4) (pL pStr) sc_law.nd (x_kd (E := fun (b_ : ((Unit × (Unit × Unit)) × ((List Str) × (List Int)))) => (pL pStr) b_.2.1) (x_frz (o_kd (E := fun (b_ : ((Unit × (Unit × Unit)) × ((List Str) × (List Int)))) => (oL pStr) b_.2.1) (x_OF_o (kk := 2) (E1 := (oL pInt)) (E2 := pInt) (s1 := fun (_ : Unit) (_ : (Unit × Unit)) => b720.2.2.2) (v1 := v713) k_l_names (hr.mono (by decide)) g_l_names F_l_names.kp b_l_names 0 (x_var (p := pV v713) 1) (fun _ => x_kd (E := fun (b_ : (Unit × Unit)) => pInt (x716 + (2 : Int))) (x_add (x_var (p := pInt x716) 2) (fun _ => x_int (i := 2)))) (fun _ _ => rfl))))) fun (b723 : ((Unit × (Unit × Unit)) × ((List Str) × (List Int)))) x722 => s_T (T := (M_l_pool (b723.2.2) x719).bind fun r724 => (some (r724.1 : List Int)).bind fun x725 => (some ((cutL x722 none (some x716)) : List Str)).bind fun x727 => M_law_c6 a1 x716 x727 x725 x719 x722) (s_let (i := 5) (pL pInt) sc_law.nd (x_kd (E := fun (b_ : ((Unit × Unit) × ((List Int) × (List Int)))) => (pL pInt) b_.2.1) (x_frz (o_kd (E := fun (b_ : ((Unit × Unit) × ((List Int) × (List Int)))) => (oL pInt) b_.2.1) (x_OF_o (kk := 2) (E1 := (oL pInt)) (E2 := pInt) (s1 := fun (_ : Unit) (_ : Unit) => b723.2.2) (v1 := v713) k_l_pool (hr.mono (by decide)) g_l_pool F_l_pool.kp b_l_pool 0 (x_var (p := pV v713) 1) (fun _ => x_var (p := pInt x719) 3) (fun _ _ => rfl))))) fun (b726 : ((Unit × Unit) × ((List Int) × (List Int)))) x725 => s_T (T := (some ((cutL x722 none (some x716)) : List Str)).bind fun x727 => M_law_c6 a1 x716 x727 x725 x719 x722) (s_let (i := 6) (pL pStr) sc_law.nd (x_kd (E := fun (b_ : (Unit × (Unit × Unit))) => (pL pStr) (cutL x722 none (some x716))) (x_frz (o_kd (E := fun (b_ : (Unit × (Unit × Unit))) => (oL pStr) (cutL x722 none (some x716))) (x_slL (Ee := pStr) (x_var (p := (pL pStr) x722) 4) (fun _ => p_none) (fun _ _ => p_some (i := fun (b_ : Unit) => x716) (x_var (p := pInt x716) 2)) (fun _ _ _ => rdF))))) fun (b728 : (Unit × (Unit × Unit))) x727 => s_is (T := M_law_c6 a1 x716 x727 x725 x719 x722) (s_T (T := (M_l_stream a1 (1 : Int)).bind fun r729 => (some (r729 : List Int)).bind fun x730 => (some ((4 : Int) : Int)).bind fun x734 => (if (decide (x716 = (6 : Int))) = true then (some ((2 : Int) : Int)).bind fun x813 => some x813 else some x734).bind fun s737 => (some (([] : List (Str × List Int)) : List (Str × List Int))).bind fun x738 => (forS x727 ((x738, x730) : (List (Str × List Int)) × (List Int)) fun x744 s743 => (M_l_part (s743.2) x725).bind fun r803 => (some ((cutL (r803.1) none (some s737)) : List Int)).bind fun x804 => (if (decide ((x804.length : Int) = (0 : Int))) = true then (M_l_next (r803.2) x719).bind fun r809 => (atI x725 (r809.1)).bind fun x810 => (some ([x810] : List Int)).bind fun x811 => some (x811, r809.2) else some (x804, r803.2)).bind fun s807 => grd ((s743.1).length < sizeLine) (some ((dput (s743.1) x744 (s807.1)), s807.2))).bind fun s745 => (compM x727 () (fun x747 s749 => if true = true then (dget (s745.1) x747).bind fun x751 => some (some (x747, x751), ()) else some (none, ()))).bind fun r752 => (some (r752.1 : List (Str × List Int))).bind fun x753 => M_law_c12 s745 x725 x722 x716 a1 x727 x753) (s_letO (i := 7) (oL pInt) sc_law.nd (o_kd (E := fun (b_ : ((Unit × Unit) × (List Int))) => (oL pInt) b_.2) (x_FF_o (kk := 1) (E1 := (pS K)) (E2 := pInt) k_l_stream (hr.mono (by decide)) g_l_stream F_l_stream.kp b_l_stream (x_var (p := (pS K) a1) 0) (fun _ => x_int (i := 1)))) fun (b731 : ((Unit × Unit) × (List Int))) x730 v733 => s_T (T := (some ((4 : Int) : Int)).bind fun x734 => (if (decide (x716 = (6 : Int))) = true then (some ((2 : Int) : Int)).bind fun x813 => some x813 else some x734).bind fun s737 => (some (([] : List (Str × List Int)) : List (Str × List Int))).bind fun x738 => (forS x727 ((x738, x730) : (List (Str × List Int)) × (List Int)) fun x744 s743 => (M_l_part (s743.2) x725).bind fun r803 => (some ((cutL (r803.1) none (some s737)) : List Int)).bind fun x804 => (if (decide ((x804.length : Int) = (0 : Int))) = true then (M_l_next (r803.2) x719).bind fun r809 => (atI x725 (r809.1)).bind fun x810 => (some ([x810] : List Int)).bind fun x811 => some (x811, r809.2) else some (x804, r803.2)).bind fun s807 => grd ((s743.1).length < sizeLine) (some ((dput (s743.1) x744 (s807.1)), s807.2))).bind fun s745 => (compM x727 () (fun x747 s749 => if true = true then (dget (s745.1) x747).bind fun x751 => some (some (x747, x751), ()) else some (none, ()))).bind fun r752 => (some (r752.1 : List (Str × List Int))).bind fun x753 => M_law_c12 s745 x725 x722 x716 a1 x727 x753) (s_let (i := 8) pInt sc_law.nd (x_int (i := 4)) fun (b735 : Unit) x734 => s_T (T := (if (decide (x716 = (6 : Int))) = true then (some ((2 : Int) : Int)).bind fun x813 => some x813 else some x734).bind fun s737 => (some (([] : List (Str × List Int)) : List (Str × List Int))).bind fun x738 => (forS x727 ((x738, x730) : (List (Str × List Int)) × (List Int)) fun x744 s743 => (M_l_part (s743.2) x725).bind fun r803 => (some ((cutL (r803.1) none (some s737)) : List Int)).bind fun x804 => (if (decide ((x804.length : Int) = (0 : Int))) = true then (M_l_next (r803.2) x719).bind fun r809 => (atI x725 (r809.1)).bind fun x810 => (some ([x810] : List Int)).bind fun x811 => some (x811, r809.2) else some (x804, r803.2)).bind fun s807 => grd ((s743.1).length < sizeLine) (some ((dput (s743.1) x744 (s807.1)), s807.2))).bind fun s745 => (compM x727 () (fun x747 s749 => if true = true then (dget (s745.1) x747).bind fun x751 => some (some (x747, x751), ()) else some (none, ()))).bind fun r752 => (some (r752.1 : List (Str × List Int))).bind fun x753 => M_law_c12 s745 x725 x722 x716 a1 x727 x753) (s_ifN (C := fun s_ : Int => ([some ((pS K) a1), some (pV v713), some (pInt x716), some (pInt x719), some ((pL pStr) x722), some ((pL pInt) x725), some ((pL pStr) x727), some (pV v733), some (pInt s_), none, none, none, none, none, none, none, none, none, none, none], [⟨v733, (oL pInt) x730, none⟩, ⟨v713, (oL pInt) b726.2.2, none⟩])) (t_kd (c := fun (b_ : (Unit × Unit)) => (decide (x716 = (6 : Int)))) (t_eqI (x_var (p := pInt x716) 2) (fun _ => x_int (i := 6)))) (fun (b736 : (Unit × Unit)) => s_T (T := (some ((2 : Int) : Int)).bind fun x813 => some x813) (s_let (i := 8) pInt sc_law.nd (x_int (i := 2)) fun (b814 : Unit) x813 => s_end x813 rfl (by exact ⟨rfl, rfl, rfl, rfl, rfl, rfl, rfl, rfl, rfl, trivial⟩) (List.Sublist.refl _))) (fun (b736 : (Unit × Unit)) => s_end x734 rfl (by exact ⟨rfl, rfl, rfl, rfl, rfl, rfl, rfl, rfl, rfl, trivial⟩) (List.Sublist.refl _)) fun (b736 : (Unit × Unit)) s737 => s_T (T := (some (([] : List (Str × List Int)) : List (Str × List Int))).bind fun x738 => (forS x727 ((x738, x730) : (List (Str × List Int)) × (List Int)) fun x744 s743 => (M_l_part (s743.2) x725).bind fun r803 => (some ((cutL (r803.1) none (some s737)) : List Int)).bind fun x804 => (if (decide ((x804.length : Int) = (0 : Int))) = true then (M_l_next (r803.2) x719).bind fun r809 => (atI x725 (r809.1)).bind fun x810 => (some ([x810] : List Int)).bind fun x811 => some (x811, r809.2) else some (x804, r803.2)).bind fun s807 => grd ((s743.1).length < sizeLine) (some ((dput (s743.1) x744 (s807.1)), s807.2))).bind fun s745 => (compM x727 () (fun x747 s749 => if true = true then (dget (s745.1) x747).bind fun x751 => some (some (x747, x751), ()) else some (none, ()))).bind fun r752 => (some (r752.1 : List (Str × List Int))).bind fun x753 => M_law_c12 s745 x725 x722 x716 a1 x727 x753) (s_letO (i := 9) (oM (κ := Str) (pL pInt)) sc_law.nd (o_kd (E := fun (b_ : Unit) => (oM (κ := Str) (pL pInt)) ([] : List (Str × List Int))) (x_dict0 (κ := Str) (pL pInt))) fun (b739 : Unit) x738 v741 => s_T (T := (forS x727 ((x738, x730) : (List (Str × List Int)) × (List Int)) fun x744 s743 => (M_l_part (s743.2) x725).bind fun r803 => (some ((cutL (r803.1) none (some s737)) : List Int)).bind fun x804 => (if (decide ((x804.length : Int) = (0 : Int))) = true then (M_l_next (r803.2) x719).bind fun r809 => (atI x725 (r809.1)).bind fun x810 => (some ([x810] : List Int)).bind fun x811 => some (x811, r809.2) else some (x804, r803.2)).bind fun s807 => grd ((s743.1).length < sizeLine) (some ((dput (s743.1) x744 (s807.1)), s807.2))).bind fun s745 => (compM x727 () (fun x747 s749 => if true = true then (dget (s745.1) x747).bind fun x751 => some (some (x747, x751), ()) else some (none, ()))).bind fun r752 => (some (r752.1 : List (Str × List Int))).bind fun x753 => M_law_c12 s745 x725 x722 x716 a1 x727 x753) (s_forS PassesOwn.never (fun (b_ : Unit) (s_ : (List (Str × List Int)) × (List Int)) => ([some ((pS K) a1), some (pV v713), some (pInt x716), some (pInt x719), some ((pL pStr) x722), some ((pL pInt) x725), some ((pL pStr) x727), some (pV v733), some (pInt s737), some (pV v741), none, none, none, none, none, none, none, none, none, none], [⟨v741, (oM (κ := Str) (pL pInt)) s_.1, none⟩, ⟨v733, (oL pInt) s_.2, none⟩, ⟨v713, (oL pInt) b726.2.2, none⟩])) (fun (b_ : Unit) => (x738, x730)) (i_list (x_var (p := (pL pStr) x727) 6)) (pg_name (i := 10) sc_law.nd rfl (by first | exact .inl rfl | exact .inr rfl)) (tg_name 10) (fun _ => (by exact ⟨rfl, rfl, rfl, rfl, rfl, rfl, rfl, rfl, rfl, rfl, trivial⟩)) (fun _ => List.Sublist.refl _) (fun b742 x744 s743 => s_T (T := (M_l_part (s743.2) x725).bind fun r803 => (some ((cutL (r803.1) none (some s737)) : List Int)).bind fun x804 => (if (decide ((x804.length : Int) = (0 : Int))) = true then (M_l_next (r803.2) x719).bind fun r809 => (atI x725 (r809.1)).bind fun x810 => (some ([x810] : List Int)).bind fun x811 => some (x811, r809.2) else some (x804, r803.2)).bind fun s807 => grd ((s743.1).length < sizeLine) (some ((dput (s743.1) x744 (s807.1)), s807.2))) (s_let (i := 19) (pL pInt) sc_law.nd (x_kd (E := fun (b_ : (((Unit × Unit) × ((List Int) × (List Int))) × (Unit × Unit))) => (pL pInt) (cutL (b_.1.2.1) none (some s737))) (x_frz (o_kd (E := fun (b_ : (((Unit × Unit) × ((List Int) × (List Int))) × (Unit × Unit))) => (oL pInt) (cutL (b_.1.2.1) none (some s737))) (x_slL (Ee := pInt) (x_kd (E := fun (b_ : ((Unit × Unit) × ((List Int) × (List Int)))) => (pL pInt) b_.2.1) (x_frz (o_kd (E := fun (b_ : ((Unit × Unit) × ((List Int) × (List Int)))) => (oL pInt) b_.2.1) (x_OF_o (kk := 2) (E1 := (oL pInt)) (E2 := (pL pInt)) (s1 := fun (_ : Unit) (_ : Unit) => s743.2) (v1 := v733) k_l_part (hr.mono (by decide)) g_l_part F_l_part.kp b_l_part 1 (x_var (p := pV v733) 7) (fun _ => x_var (p := (pL pInt) x725) 5) (fun _ _ => rfl))))) (fun _ => p_none) (fun _ _ => p_some (i := fun (b_ : Unit) => s737) (x_var (p := pInt s737) 8)) (fun _ _ _ => rdF))))) fun (b805 : (((Unit × Unit) × ((List Int) × (List Int))) × (Unit × Unit))) x804 => s_T (T := (if (decide ((x804.length : Int) = (0 : Int))) = true then (M_l_next (b805.1.2.2) x719).bind fun r809 => (atI x725 (r809.1)).bind fun x810 => (some ([x810] : List Int)).bind fun x811 => some (x811, r809.2) else some (x804, b805.1.2.2)).bind fun s807 => grd ((s743.1).length < sizeLine) (some ((dput (s743.1) x744 (s807.1)), s807.2))) (s_ifN (C := fun s_ : (List Int) × (List Int) => ([some ((pS K) a1), some (pV v713), some (pInt x716), some (pInt x719), some ((pL pStr) x722), some ((pL pInt) x725), some ((pL pStr) x727), some (pV v733), some (pInt s737), some (pV v741), some (pStr x744), none, none, none, none, none, none, none, none, some ((pL pInt) s_.1)], [⟨v741, (oM (κ := Str) (pL pInt)) s743.1, none⟩, ⟨v733, (oL pInt) s_.2, none⟩, ⟨v713, (oL pInt) b726.2.2, none⟩])) (t_kd (c := fun (b_ : (Unit × Unit)) => (decide ((x804.length : Int) = (0 : Int)))) (t_eqI (x_kd (E := fun (b_ : Unit) => pInt (x804.length : Int)) (x_lenL (Ee := pInt) m_len (x_var (p := (pL pInt) x804) 19) (fun _ => rdF))) (fun _ => x_int (i := 0)))) (fun (b806 : (Unit × Unit)) => s_T (T := (M_l_next (b805.1.2.2) x719).bind fun r809 => (atI x725 (r809.1)).bind fun x810 => (some ([x810] : List Int)).bind fun x811 => some (x811, r809.2)) (s_let (i := 19) (pL pInt) sc_law.nd (x_kd (E := fun (b_ : (((Unit × ((Unit × Unit) × (Int × (List Int)))) × Int) × Unit)) => (pL pInt) ([b_.1.2])) (x_frz (o_kd (E := fun (b_ : (((Unit × ((Unit × Unit) × (Int × (List Int)))) × Int) × Unit)) => (oL pInt) ([b_.1.2])) (x_disp pInt (fun _ => [_]) (a_cons (x_kd (E := fun (b_ : ((Unit × ((Unit × Unit) × (Int × (List Int)))) × Int)) => pInt b_.2) (x_ixL (Ee := pInt) (x_var (p := (pL pInt) x725) 5) (fun _ => x_kd (E := fun (b_ : ((Unit × Unit) × (Int × (List Int)))) => pInt b_.2.1) (x_OF_f (kk := 1) (E1 := (oL pInt)) (E2 := pInt) (s1 := fun (_ : Unit) (_ : Unit) => b805.1.2.2) (v1 := v733) k_l_next (hr.mono (by decide)) g_l_next F_l_next.kp b_l_next 1 (x_var (p := pV v733) 7) (fun _ => x_var (p := pInt x719) 3) (fun _ _ => rfl))) (fun _ _ => rdF))) (fun _ => a_nil)) (fun _ => rfl) (fun _ => by simp))))) fun (b812 : (((Unit × ((Unit × Unit) × (Int × (List Int)))) × Int) × Unit)) x811 => s_end (x811, b812.1.1.2.2.2) rfl (by exact ⟨rfl, rfl, rfl, rfl, rfl, rfl, rfl, rfl, rfl, rfl, rfl, rfl, trivial⟩) (List.Sublist.refl _))) (fun (b806 : (Unit × Unit)) => s_end (x804, b805.1.2.2) rfl (by exact ⟨rfl, rfl, rfl, rfl, rfl, rfl, rfl, rfl, rfl, rfl, rfl, rfl, trivial⟩) (List.Sublist.refl _)) fun (b806 : (Unit × Unit)) s807 => s_T (T := grd ((s743.1).length < sizeLine) (some ((dput (s743.1) x744 (s807.1)), s807.2))) (s_dput (κ := Str) (Ee := (pL pInt)) 0 hr.units (x_var (p := (pL pInt) s807.1) 19) (fun _ => x_var (p := pV v741) 9) (fun _ _ => x_var (p := pStr x744) 10) (fun _ _ _ => rfl) fun (b808 : ((Unit × Unit) × Unit)) => s_end ((dput (s743.1) x744 (s807.1)), s807.2) rfl (by exact ⟨rfl, rfl, rfl, rfl, rfl, rfl, rfl, rfl, rfl, rfl, trivial⟩) (List.Sublist.refl _))))) fun b742 s745 => s_T (T := (compM x727 () (fun x747 s749 => if true = true then (dget (s745.1) x747).bind fun x751 => some (some (x747, x751), ()) else some (none, ()))).bind fun r752 => (some (r752.1 : List (Str × List Int))).bind fun x753 => M_law_c12 s745 x725 x722 x716 a1 x727 x753) (s_letOA (i := 11) (oL (pT2 pStr (pL pInt))) (a_lc (i := 11) (own := [("_law_name", 10)]) (C := fun (b_ : Unit) (s_ : Unit) => [⟨v741, (oM (κ := Str) (pL pInt)) s745.1, none⟩, ⟨v733, (oL pInt) s745.2, none⟩, ⟨v713, (oL pInt) b726.2.2, none⟩]) (s0 := fun (b_ : Unit) => ()) (s2 := fun (b_ : Unit) (x_ : Str) (s_ : Unit) (c_ : Unit) => ()) (s3 := fun (b_ : Unit) (x_ : Str) (s_ : Unit) (c_ : Unit) (d_ : (Unit × (((Unit × Unit) × (List Int)) × Unit))) => ()) (Ex := pStr) (Ee := (pT2 pStr (pL pInt))) (δ := (Str × List Int)) (y := fun (b_ : Unit) (x_ : Str) (s_ : Unit) (c_ : Unit) (d_ : (Unit × (((Unit × Unit) × (List Int)) × Unit))) => (x_, d_.2.1.2)) (T2 := fun (b_ : Unit) (x_ : Str) (s_ : Unit) (c_ : Unit) => (dget (s745.1) x_).bind fun x751 => some (some (x_, x751), ())) (c := fun (b_ : Unit) (x_ : Str) (s_ : Unit) (c_ : Unit) => true) (f := fun (b_ : Unit) (x_ : Str) (s_ : Unit) => if true = true then (dget (s745.1) x_).bind fun x751 => some (some (x_, x751), ()) else some (none, ())) sc_law.nd (i_list (x_var (p := (pL pStr) x727) 6)) (blkOk_by (own := [("_law_name", 10)]) (N := ["_law_script", "_law_stream_here", "_law_count", "_law_size", "_law_names_here", "_law_pool_here", "_law_known", "_law_second", "_law_most", "_law_sides", "_law_name", "_law_domains", "_law_weights_here", "_law_totals_here", "_law_puzzle", "_law_fourth", "_law_first", "_law_last", "_law_entries", "_law_side"]) (sc := (defScope (top 58))) (by decide +kernel)) (fun _ _ _ _ _ => pg_name (i := 10) sc_law.nd rfl (by first | exact .inl rfl | exact .inr rfl)) (tw_name 10) (fun _ => rfl) (by exact fun q750 _ _ _ _ _ b746 x747 s749 => pts_T) (by exact fun q750 _ _ _ _ _ b746 x747 s749 _ => x_out (x_kd (E := fun (b_ : (Unit × (((Unit × Unit) × (List Int)) × Unit))) => (pT2 pStr (pL pInt)) (x747, b_.2.1.2)) (x_tup2 (a_cons (x_var (p := pStr x747) 10) (fun _ => a_cons (x_kd (E := fun (b_ : ((Unit × Unit) × (List Int))) => (pL pInt) b_.2) (x_frz (o_kd (E := fun (b_ : ((Unit × Unit) × (List Int))) => (oL pInt) b_.2) (x_listL (Ee := pInt) m_list (x_kd (E := fun (b_ : ((Unit × Unit) × (List Int))) => (pL pInt) b_.2) (x_dget (κ := Str) (Ee := (pL pInt)) hr.units (x_var (p := pV v741) 9) (fun _ => x_var (p := pStr x747) 10) (fun _ _ => rdMO 0))) (fun _ => rdF))))) (fun _ => a_nil))) pStr (pL pInt) (fun (b : (Unit × (((Unit × Unit) × (List Int)) × Unit))) => x747) (fun (b : (Unit × (((Unit × Unit) × (List Int)) × Unit))) => b.2.1.2)))) (sw_true rfl rfl rfl (by decide +kernel))) fun (b754 : (Unit × ((List (Str × List Int)) × Unit))) x753 v756 => s_frz (i := 11) (c := ⟨v756, (oL (pT2 pStr (pL pInt))) x753, none⟩) 0 (s_is (T := M_law_c12 s745 x725 x722 x716 a1 x727 x753) (s_T (T := (M_l_next (s745.2) (2 : Int)).bind fun r757 => (if (decide ((r757.1) = (0 : Int))) = true then (M_l_part (r757.2) x725).bind fun r800 => (atI x722 (x716 + (1 : Int))).bind fun x801 => grd ((s745.1).length < sizeLine) (some ((dput (s745.1) x801 (r800.1)), r800.2)) else some (s745.1, r757.2)).bind fun s759 => (M_l_stream a1 (2 : Int)).bind fun r760 => (M_l_weights r760 x727).bind fun r762 => (some (r762.1 : List (Int × Str))).bind fun x763 => (atI x722 (x716 + (1 : Int))).bind fun x765 => (M_l_totals x763 x727 (s759.1) x765).bind fun r766 => (some (r766 : List Int)).bind fun x767 => ((if (decide ((x767.length : Int) = (0 : Int))) = true then some (true, ()) else (minI x767).bind fun m773 => (maxI x767).bind fun m774 => (M_l_bounds x763 (s759.1) m773 m774).bind fun r775 => some ((!r775), ()))).bind fun c776 => if c776.1 = true then some false else ((M_Puzzle___init__ x753 ([])).bind okx).bind fun r778 => (some (r778 : ((List (Str × List Int)) × (List Str) × Int × (List (Str × Empty)) × (List Str)))).bind fun x779 => (M_l_stream a1 (3 : Int)).bind fun r781 => (some (r781 : List Int)).bind fun x782 => M_law_c18 x722 x716 x782 x763 x779 x727) (s_ifN (C := fun s_ : (List (Str × List Int)) × (List Int) => ([some ((pS K) a1), some (pV v713), some (pInt x716), some (pInt x719), some ((pL pStr) x722), some ((pL pInt) x725), some ((pL pStr) x727), some (pV v733), some (pInt s737), some (pV v741), none, some ((pL (pT2 pStr (pL pInt))) x753), none, none, none, none, none, none, none, none], [⟨v741, (oM (κ := Str) (pL pInt)) s_.1, none⟩, ⟨v733, (oL pInt) s_.2, none⟩, ⟨v713, (oL pInt) b726.2.2, none⟩])) (t_kd (c := fun (b_ : (((Unit × Unit) × (Int × (List Int))) × Unit)) => (decide ((b_.1.2.1) = (0 : Int)))) (t_eqI (x_kd (E := fun (b_ : ((Unit × Unit) × (Int × (List Int)))) => pInt b_.2.1) (x_OF_f (kk := 1) (E1 := (oL pInt)) (E2 := pInt) (s1 := fun (_ : Unit) (_ : Unit) => s745.2) (v1 := v733) k_l_next (hr.mono (by decide)) g_l_next F_l_next.kp b_l_next 1 (x_var (p := pV v733) 7) (fun _ => x_int (i := 2)) (fun _ _ => rfl))) (fun _ => x_int (i := 0)))) (fun (b758 : (((Unit × Unit) × (Int × (List Int))) × Unit)) => s_T (T := (M_l_part (b758.1.2.2) x725).bind fun r800 => (atI x722 (x716 + (1 : Int))).bind fun x801 => grd ((s745.1).length < sizeLine) (some ((dput (s745.1) x801 (r800.1)), r800.2))) (s_dput (κ := Str) (Ee := (pL pInt)) 0 hr.units (x_kd (E := fun (b_ : ((Unit × Unit) × ((List Int) × (List Int)))) => (pL pInt) b_.2.1) (x_frz (o_kd (E := fun (b_ : ((Unit × Unit) × ((List Int) × (List Int)))) => (oL pInt) b_.2.1) (x_OF_o (kk := 2) (E1 := (oL pInt)) (E2 := (pL pInt)) (s1 := fun (_ : Unit) (_ : Unit) => b758.1.2.2) (v1 := v733) k_l_part (hr.mono (by decide)) g_l_part F_l_part.kp b_l_part 1 (x_var (p := pV v733) 7) (fun _ => x_var (p := (pL pInt) x725) 5) (fun _ _ => rfl))))) (fun _ => x_var (p := pV v741) 9) (fun _ _ => x_kd (E := fun (b_ : ((Unit × (Unit × Unit)) × Str)) => pStr b_.2) (x_ixL (Ee := pStr) (x_var (p := (pL pStr) x722) 4) (fun _ => x_kd (E := fun (b_ : (Unit × Unit)) => pInt (x716 + (1 : Int))) (x_add (x_var (p := pInt x716) 2) (fun _ => x_int (i := 1)))) (fun _ _ => rdF))) (fun _ _ _ => rfl) fun (b802 : ((((Unit × Unit) × ((List Int) × (List Int))) × Unit) × ((Unit × (Unit × Unit)) × Str))) => s_end ((dput (s745.1) b802.2.2 (b802.1.1.2.1)), b802.1.1.2.2) rfl (by exact ⟨rfl, rfl, rfl, rfl, rfl, rfl, rfl, rfl, rfl, rfl, rfl, trivial⟩) (List.Sublist.refl _))) (fun (b758 : (((Unit × Unit) × (Int × (List Int))) × Unit)) => s_end (s745.1, b758.1.2.2) rfl (by exact ⟨rfl, rfl, rfl, rfl, rfl, rfl, rfl, rfl, rfl, rfl, rfl, trivial⟩) (List.Sublist.refl _)) fun (b758 : (((Unit × Unit) × (Int × (List Int))) × Unit)) s759 => s_frz (i := 9) (c := ⟨v741, (oM (κ := Str) (pL pInt)) s759.1, none⟩) 0 (s_T (T := (M_l_stream a1 (2 : Int)).bind fun r760 => (M_l_weights r760 x727).bind fun r762 => (some (r762.1 : List (Int × Str))).bind fun x763 => (atI x722 (x716 + (1 : Int))).bind fun x765 => (M_l_totals x763 x727 (s759.1) x765).bind fun r766 => (some (r766 : List Int)).bind fun x767 => ((if (decide ((x767.length : Int) = (0 : Int))) = true then some (true, ()) else (minI x767).bind fun m773 => (maxI x767).bind fun m774 => (M_l_bounds x763 (s759.1) m773 m774).bind fun r775 => some ((!r775), ()))).bind fun c776 => if c776.1 = true then some false else ((M_Puzzle___init__ x753 ([])).bind okx).bind fun r778 => (some (r778 : ((List (Str × List Int)) × (List Str) × Int × (List (Str × Empty)) × (List Str)))).bind fun x779 => (M_l_stream a1 (3 : Int)).bind fun r781 => (some (r781 : List Int)).bind fun x782 => M_law_c18 x722 x716 x782 x763 x779 x727) (s_let (i := 12) (pL (pT2 pInt pStr)) sc_law.nd (x_kd (E := fun (b_ : ((((Unit × Unit) × (List Int)) × Unit) × ((List (Int × Str)) × (List Int)))) => (pL (pT2 pInt pStr)) b_.2.1) (x_frz (o_kd (E := fun (b_ : ((((Unit × Unit) × (List Int)) × Unit) × ((List (Int × Str)) × (List Int)))) => (oL (pT2 pInt pStr)) b_.2.1) (x_TF_o (kk := 3) (E1 := (oL pInt)) (E2 := (pL pStr)) k_l_weights (hr.mono (by decide)) g_l_weights F_l_weights.kp b_l_weights (o_kd (E := fun (b_ : ((Unit × Unit) × (List Int))) => (oL pInt) b_.2) (x_FF_o (kk := 1) (E1 := (pS K)) (E2 := pInt) k_l_stream (hr.mono (by decide)) g_l_stream F_l_stream.kp b_l_stream (x_var (p := (pS K) a1) 0) (fun _ => x_int (i := 2)))) (fun bt_ vt_  => x_var (p := (pL pStr) x727) 6))))) fun (b764 : ((((Unit × Unit) × (List Int)) × Unit) × ((List (Int × Str)) × (List Int)))) x763 => s_T (T := (atI x722 (x716 + (1 : Int))).bind fun x765 => (M_l_totals x763 x727 (s759.1) x765).bind fun r766 => (some (r766 : List Int)).bind fun x767 => ((if (decide ((x767.length : Int) = (0 : Int))) = true then some (true, ()) else (minI x767).bind fun m773 => (maxI x767).bind fun m774 => (M_l_bounds x763 (s759.1) m773 m774).bind fun r775 => some ((!r775), ()))).bind fun c776 => if c776.1 = true then some false else ((M_Puzzle___init__ x753 ([])).bind okx).bind fun r778 => (some (r778 : ((List (Str × List Int)) × (List Str) × Int × (List (Str × Empty)) × (List Str)))).bind fun x779 => (M_l_stream a1 (3 : Int)).bind fun r781 => (some (r781 : List Int)).bind fun x782 => M_law_c18 x722 x716 x782 x763 x779 x727) (s_let (i := 13) (pL pInt) sc_law.nd (x_kd (E := fun (b_ : ((Unit × (Unit × (Unit × ((Unit × (Unit × Unit)) × Str)))) × (List Int))) => (pL pInt) b_.2) (x_frz (o_kd (E := fun (b_ : ((Unit × (Unit × (Unit × ((Unit × (Unit × Unit)) × Str)))) × (List Int))) => (oL pInt) b_.2) (x_FFFF_o (kk := 2) (E1 := (pL (pT2 pInt pStr))) (E2 := (pL pStr)) (E3 := (pM (κ := Str) (pL pInt))) (E4 := pStr) k_l_totals (hr.mono (by decide)) g_l_totals F_l_totals.kp b_l_totals (x_var (p := (pL (pT2 pInt pStr)) x763) 12) (fun _ => x_var (p := (pL pStr) x727) 6) (fun _ _ => x_var (p := (pM (κ := Str) (pL pInt)) s759.1) 9) (fun _ _ _ => x_kd (E := fun (b_ : ((Unit × (Unit × Unit)) × Str)) => pStr b_.2) (x_ixL (Ee := pStr) (x_var (p := (pL pStr) x722) 4) (fun _ => x_kd (E := fun (b_ : (Unit × Unit)) => pInt (x716 + (1 : Int))) (x_add (x_var (p := pInt x716) 2) (fun _ => x_int (i := 1)))) (fun _ _ => rdF))))))) fun (b768 : ((Unit × (Unit × (Unit × ((Unit × (Unit × Unit)) × Str)))) × (List Int))) x767 => s_T (T := ((if (decide ((x767.length : Int) = (0 : Int))) = true then some (true, ()) else (minI x767).bind fun m773 => (maxI x767).bind fun m774 => (M_l_bounds x763 (s759.1) m773 m774).bind fun r775 => some ((!r775), ()))).bind fun c776 => if c776.1 = true then some false else ((M_Puzzle___init__ x753 ([])).bind okx).bind fun r778 => (some (r778 : ((List (Str × List Int)) × (List Str) × Int × (List (Str × Empty)) × (List Str)))).bind fun x779 => (M_l_stream a1 (3 : Int)).bind fun r781 => (some (r781 : List Int)).bind fun x782 => M_law_c18 x722 x716 x782 x763 x779 x727) (s_ifT (ins_F _) (t_kd (c := fun (b_ : ((Unit × Unit) × (Bool × Unit))) => b_.2.1) (PW.pt (w_orM (ΔS := fun (b_ : (Unit × Unit)) (s_ : Unit) => [⟨v733, (oL pInt) s759.2, none⟩, ⟨v713, (oL pInt) b726.2.2, none⟩]) (s1 := fun (b_ : (Unit × Unit)) => ()) (s2 := fun (b_ : (Unit × Unit)) (c_ : ((Unit × (Unit × ((Unit × Int) × (Unit × Int)))) × Bool)) => ()) (t_kd (c := fun (b_ : (Unit × Unit)) => (decide ((x767.length : Int) = (0 : Int)))) (t_eqI (x_kd (E := fun (b_ : Unit) => pInt (x767.length : Int)) (x_lenL (Ee := pInt) m_len (x_var (p := (pL pInt) x767) 13) (fun _ => rdF))) (fun _ => x_int (i := 0)))) (fun (b772 : (Unit × Unit)) => w_or1 (t_kd (c := fun (b_ : ((Unit × (Unit × ((Unit × Int) × (Unit × Int)))) × Bool)) => (!b_.2)) (t_not (t_kd (c := fun (b_ : ((Unit × (Unit × ((Unit × Int) × (Unit × Int)))) × Bool)) => b_.2) (t_val (x_kd (E := fun (b_ : ((Unit × (Unit × ((Unit × Int) × (Unit × Int)))) × Bool)) => pBl b_.2) (x_FFFF_f (kk := 4) (E1 := (pL (pT2 pInt pStr))) (E2 := (pM (κ := Str) (pL pInt))) (E3 := pInt) (E4 := pInt) k_l_bounds (hr.mono (by decide)) g_l_bounds F_l_bounds.kp b_l_bounds (x_var (p := (pL (pT2 pInt pStr)) x763) 12) (fun _ => x_var (p := (pM (κ := Str) (pL pInt)) s759.1) 9) (fun _ _ => x_kd (E := fun (b_ : (Unit × Int)) => pInt b_.2) (x_minL m_min (x_var (p := (pL pInt) x767) 13) (fun _ => rdF))) (fun _ _ _ => x_kd (E := fun (b_ : (Unit × Int)) => pInt b_.2) (x_maxL m_max (x_var (p := (pL pInt) x767) 13) (fun _ => rdF)))))))))) (fun _ => rfl) (fun _ _ => rfl)))) (fun (b777 : ((Unit × Unit) × (Bool × Unit))) => s_T (T := some false) (s_ret (P := (fun _ => [])) (Rp := pBl) (ι := id) (rv := fun (b : Unit) => false) (fun _ _ _ h => by exact h) x_bl (fun _ => .cons _ (.cons _ (.slnil))))) fun (b777 : ((Unit × Unit) × (Bool × Unit))) => s_T (T := ((M_Puzzle___init__ x753 ([])).bind okx).bind fun r778 => (some (r778 : ((List (Str × List Int)) × (List Str) × Int × (List (Str × Empty)) × (List Str)))).bind fun x779 => (M_l_stream a1 (3 : Int)).bind fun r781 => (some (r781 : List Int)).bind fun x782 => M_law_c18 x722 x716 x782 x763 x779 x727) (s_let (i := 14) (I_Puzzle mg) sc_law.nd (x_kd (E := fun (b_ : ((Unit × (Unit × Unit)) × ((List (Str × List Int)) × (List Str) × Int × (List (Str × Empty)) × (List Str)))) => (I_Puzzle mg) b_.2) (x_frz (o_kd (E := fun (b_ : ((Unit × (Unit × Unit)) × ((List (Str × List Int)) × (List Str) × Int × (List (Str × Empty)) × (List Str)))) => (O_Puzzle mg) b_.2) (x_makeZ (kk := 3) (cn := "Puzzle") (xs := fun (b : (Unit × (Unit × Unit))) => (x753, [])) (D := fun b => O_Puzzle mg b.2) hK_Puzzle k_Puzzle___init__ (hr.mono (by decide)) gC_Puzzle b_Puzzle___init__ (a_cons (x_var (p := (pL (pT2 pStr (pL pInt))) x753) 11) (fun _ => a_cons (x_kd (E := fun (b_ : Unit) => (pL pE0) ([])) (x_frz (o_kd (E := fun (b_ : Unit) => (oL pE0) ([])) (x_nil pE0)))) (fun _ => a_nil))))))) fun (b780 : ((Unit × (Unit × Unit)) × ((List (Str × List Int)) × (List Str) × Int × (List (Str × Empty)) × (List Str)))) x779 => s_T (T := (M_l_stream a1 (3 : Int)).bind fun r781 => (some (r781 : List Int)).bind fun x782 => M_law_c18 x722 x716 x782 x763 x779 x727) (s_letO (i := 15) (oL pInt) sc_law.nd (o_kd (E := fun (b_ : ((Unit × Unit) × (List Int))) => (oL pInt) b_.2) (x_FF_o (kk := 1) (E1 := (pS K)) (E2 := pInt) k_l_stream (hr.mono (by decide)) g_l_stream F_l_stream.kp b_l_stream (x_var (p := (pS K) a1) 0) (fun _ => x_int (i := 3)))) fun (b783 : ((Unit × Unit) × (List Int))) x782 v785 => s_is (T := M_law_c18 x722 x716 x782 x763 x779 x727) (s_T (T := (atI x722 x716).bind fun x786 => (M_l_spoilt x782 x763 x786).bind fun r787 => (some (r787.1 : List (Int × Str))).bind fun x788 => (atI x722 x716).bind fun x790 => (M_l_spoilt (r787.2) x763 x790).bind fun r791 => (some (r791.1 : List (Int × Str))).bind fun x792 => (forL ([x763, x788, x792, x763]) (() : Unit) fun x796 s795 => (M_l_checked x779 x727 x796).bind fun r798 => if (!r798) = true then inB (some (Tm.rt false)) else some (Bo.nx ())).bind (boK (fun s797 => some true) id)) (s_let (i := 16) (pL (pT2 pInt pStr)) sc_law.nd (x_kd (E := fun (b_ : ((Unit × (Unit × ((Unit × Unit) × Str))) × ((List (Int × Str)) × (List Int)))) => (pL (pT2 pInt pStr)) b_.2.1) (x_OFF_f (kk := 2) (E1 := (oL pInt)) (E2 := (pL (pT2 pInt pStr))) (E3 := pStr) (s1 := fun (_ : Unit) (_ : Unit) (_ : ((Unit × Unit) × Str)) => x782) (v1 := v785) k_l_spoilt (hr.mono (by decide)) g_l_spoilt F_l_spoilt.kp b_l_spoilt 0 (x_var (p := pV v785) 15) (fun _ => x_var (p := (pL (pT2 pInt pStr)) x763) 12) (fun _ _ => x_kd (E := fun (b_ : ((Unit × Unit) × Str)) => pStr b_.2) (x_ixL (Ee := pStr) (x_var (p := (pL pStr) x722) 4) (fun _ => x_var (p := pInt x716) 2) (fun _ _ => rdF))) (fun _ _ _ => rfl))) fun (b789 : ((Unit × (Unit × ((Unit × Unit) × Str))) × ((List (Int × Str)) × (List Int)))) x788 => s_T (T := (atI x722 x716).bind fun x790 => (M_l_spoilt (b789.2.2) x763 x790).bind fun r791 => (some (r791.1 : List (Int × Str))).bind fun x792 => (forL ([x763, x788, x792, x763]) (() : Unit) fun x796 s795 => (M_l_checked x779 x727 x796).bind fun r798 => if (!r798) = true then inB (some (Tm.rt false)) else some (Bo.nx ())).bind (boK (fun s797 => some true) id)) (s_let (i := 17) (pL (pT2 pInt pStr)) sc_law.nd (x_kd (E := fun (b_ : ((Unit × (Unit × ((Unit × Unit) × Str))) × ((List (Int × Str)) × (List Int)))) => (pL (pT2 pInt pStr)) b_.2.1) (x_OFF_f (kk := 2) (E1 := (oL pInt)) (E2 := (pL (pT2 pInt pStr))) (E3 := pStr) (s1 := fun (_ : Unit) (_ : Unit) (_ : ((Unit × Unit) × Str)) => b789.2.2) (v1 := v785) k_l_spoilt (hr.mono (by decide)) g_l_spoilt F_l_spoilt.kp b_l_spoilt 0 (x_var (p := pV v785) 15) (fun _ => x_var (p := (pL (pT2 pInt pStr)) x763) 12) (fun _ _ => x_kd (E := fun (b_ : ((Unit × Unit) × Str)) => pStr b_.2) (x_ixL (Ee := pStr) (x_var (p := (pL pStr) x722) 4) (fun _ => x_var (p := pInt x716) 2) (fun _ _ => rdF))) (fun _ _ _ => rfl))) fun (b793 : ((Unit × (Unit × ((Unit × Unit) × Str))) × ((List (Int × Str)) × (List Int)))) x792 => s_T (T := (forL ([x763, x788, x792, x763]) (() : Unit) fun x796 s795 => (M_l_checked x779 x727 x796).bind fun r798 => if (!r798) = true then inB (some (Tm.rt false)) else some (Bo.nx ())).bind (boK (fun s797 => some true) id)) (s_for PassesOwn.never (fun (b_ : (Unit × (Unit × (Unit × (Unit × Unit))))) (s_ : Unit) => ([some ((pS K) a1), some (pV v713), some (pInt x716), some (pInt x719), some ((pL pStr) x722), some ((pL pInt) x725), some ((pL pStr) x727), some (pV v733), some (pInt s737), some ((pM (κ := Str) (pL pInt)) s759.1), none, some ((pL (pT2 pStr (pL pInt))) x753), some ((pL (pT2 pInt pStr)) x763), some ((pL pInt) x767), some ((I_Puzzle mg) x779), some (pV v785), some ((pL (pT2 pInt pStr)) x788), some ((pL (pT2 pInt pStr)) x792), none, none], [⟨v785, (oL pInt) b793.2.2, none⟩, ⟨v733, (oL pInt) s759.2, none⟩, ⟨v713, (oL pInt) b726.2.2, none⟩])) (fun (b_ : (Unit × (Unit × (Unit × (Unit × Unit))))) => ()) (ι := id) (R := (RF ⟨H, Mq⟩ (fun _ => []) pBl)) (i_list (x_kd (E := fun (b_ : (Unit × (Unit × (Unit × (Unit × Unit))))) => (pL (pL (pT2 pInt pStr))) ([x763, x788, x792, x763])) (x_frz (o_kd (E := fun (b_ : (Unit × (Unit × (Unit × (Unit × Unit))))) => (oL (pL (pT2 pInt pStr))) ([x763, x788, x792, x763])) (x_disp (pL (pT2 pInt pStr)) (fun _ => [_, _, _, _]) (a_cons (x_var (p := (pL (pT2 pInt pStr)) x763) 12) (fun _ => a_cons (x_var (p := (pL (pT2 pInt pStr)) x788) 16) (fun _ => a_cons (x_var (p := (pL (pT2 pInt pStr)) x792) 17) (fun _ => a_cons (x_var (p := (pL (pT2 pInt pStr)) x763) 12) (fun _ => a_nil))))) (fun _ => rfl) (fun _ => by simp)))))) (pg_name (i := 18) sc_law.nd rfl (by first | exact .inl rfl | exact .inr rfl)) (tg_name 18) (fun _ => (by exact ⟨rfl, rfl, rfl, rfl, rfl, rfl, rfl, rfl, rfl, rfl, rfl, rfl, rfl, rfl, rfl, rfl, rfl, trivial⟩)) (fun _ => List.Sublist.refl _) (fun b794 x796 s795 => s_T (T := (M_l_checked x779 x727 x796).bind fun r798 => if (!r798) = true then inB (some (Tm.rt false)) else some (Bo.nx ())) (s_ifB ins_T (t_kd (c := fun (b_ : ((Unit × (Unit × Unit)) × Bool)) => (!b_.2)) (t_not (t_kd (c := fun (b_ : ((Unit × (Unit × Unit)) × Bool)) => b_.2) (t_val (x_kd (E := fun (b_ : ((Unit × (Unit × Unit)) × Bool)) => pBl b_.2) (x_FFF_f (kk := 3) (E1 := (I_Puzzle mg)) (E2 := (pL pStr)) (E3 := (pL (pT2 pInt pStr))) k_l_checked (hr.mono (by decide)) g_l_checked F_l_checked.kp b_l_checked (x_var (p := (I_Puzzle mg) x779) 14) (fun _ => x_var (p := (pL pStr) x727) 6) (fun _ _ => x_var (p := (pL (pT2 pInt pStr)) x796) 18))))))) (fun (b799 : ((Unit × (Unit × Unit)) × Bool)) => s_T (T := some (Tm.rt false)) (s_ret (P := (fun _ => [])) (Rp := pBl) (ι := Tm.rt) (rv := fun (b : Unit) => false) (fun _ _ _ h => by exact h) x_bl (fun _ => .cons _ (.cons _ (.cons _ (.slnil)))))) fun (b799 : ((Unit × (Unit × Unit)) × Bool)) => s_endB () (by exact ⟨rfl, rfl, rfl, rfl, rfl, rfl, rfl, rfl, rfl, rfl, rfl, rfl, rfl, rfl, rfl, rfl, rfl, trivial⟩) (List.Sublist.refl _))) (fun b794 s797 => s_T (T := some true) (s_ret (P := (fun _ => [])) (Rp := pBl) (ι := id) (rv := fun (b : Unit) => true) (fun _ _ _ h => by exact h) x_bl (fun _ => .cons _ (.cons _ (.cons _ (.slnil)))))) (fun _ _ _ h => by exact h))))) (by unfold M_law_c18; rfl))))))))) (by unfold M_law_c12; rfl))))))))) (by unfold M_law_c6; rfl)))))))) (by unfold M_law; rfl)
end
end My
end
section
namespace My
open PySem PySem.Spec PyProof.Rows L2 L3
def Wp {α : Type} (m : Option α) (Q : α → Prop) : Prop := ∃ a, m = some a ∧ Q a
section
variable {α β γ S ρ δ : Type}
theorem wp_some {a : α} {Q : α → Prop} (h : Q a) : Wp (some a) Q := ⟨a, rfl, h⟩
theorem wp_bind {m : Option α} {k : α → Option β} {Q : β → Prop} (h : Wp m fun a => Wp (k a) Q) : Wp (m.bind k) Q := by
  obtain ⟨a, e, b, e2, q⟩ := h
  exact ⟨b, by rw [e]; exact e2, q⟩
theorem wp_mono {m : Option α} {Q R : α → Prop} (h : Wp m Q) (f : ∀ a, Q a → R a) : Wp m R := by
  obtain ⟨a, e, q⟩ := h
  exact ⟨a, e, f a q⟩
theorem wp_then {m : Option α} {k : α → Option β} {P : α → Prop} {Q : β → Prop} (h : Wp m P) (f : ∀ a, P a → Wp (k a) Q) : Wp (m.bind k) Q := wp_bind (wp_mono h f)
theorem wp_eq {m : Option α} {k : α → Option β} {a : α} {Q : β → Prop} (h : m = some a) (f : Wp (k a) Q) : Wp (m.bind k) Q := wp_bind ⟨a, h, f⟩
theorem wp_grd {c : Prop} [Decidable c] {m : Option α} {Q : α → Prop} (h : c) (f : Wp m Q) : Wp (grd c m) Q := by
  unfold grd
  rw [if_pos h]
  exact f
theorem wp_ite {c : Prop} [Decidable c] {m n : Option α} {Q : α → Prop} (h : c → Wp m Q) (f : ¬ c → Wp n Q) : Wp (if c then m else n) Q := by
  by_cases x : c
  · rw [if_pos x]; exact h x
  · rw [if_neg x]; exact f x
theorem wp_is {m : Option α} {a : α} (h : Wp m fun x => x = a) : m = some a := by
  obtain ⟨b, e, q⟩ := h
  rw [e, q]
theorem wp_of {m : Option α} {a : α} {Q : α → Prop} (h : m = some a) (q : Q a) : Wp m Q := ⟨a, h, q⟩
theorem gp {γ : Type} {c : Prop} [Decidable c] {x : Option γ} (h : c) : grd c x = x := if_pos h
theorem wp_forS {f : α → S → Option S} {Q : S → Prop} (I : List α → S → Prop) : ∀ {xs : List α} {pre : List α} {s : S}, I pre s → (∀ p x t s, pre ++ xs = p ++ x :: t → I p s → Wp (f x s) (I (p ++ [x]))) → (∀ s, I (pre ++ xs) s → Q s) → Wp (forS xs s f) Q
  | [], pre, s, h0, _, hq => ⟨s, rfl, hq s (by simpa using h0)⟩
  | x :: xs, pre, s, h0, hs, hq => by
    obtain ⟨s1, e1, i1⟩ := hs pre x xs s rfl h0
    have ih := wp_forS (f := f) (Q := Q) I (xs := xs) (pre := pre ++ [x]) (s := s1) i1 (fun p y t s e => hs p y t s (by rw [← e]; simp)) (fun s hi => hq s (by simpa using hi))
    show Wp ((f x s).bind fun s' => forS xs s' f) Q
    exact wp_eq e1 ih
theorem wp_for {f : α → S → Option S} {Q : S → Prop} {xs : List α} {s : S} (I : List α → S → Prop) (h0 : I [] s) (hs : ∀ p x t s, xs = p ++ x :: t → I p s → Wp (f x s) (I (p ++ [x]))) (hq : ∀ s, I xs s → Q s) : Wp (forS xs s f) Q :=
  wp_forS (pre := []) I h0 (fun p x t s e => hs p x t s e) (fun s h => hq s h)
theorem wp_forLG {f : α → S → Option (Bo S (Tm S ρ))} {Q : Bo S ρ → Prop} (I : List α → S → Prop) : ∀ {xs : List α} {pre : List α} {s : S}, I pre s →
    (∀ p x t s, pre ++ xs = p ++ x :: t → I p s → Wp (f x s) fun o => match o with | .nx s' => I (p ++ [x]) s' | .tm (.ct s') => I (p ++ [x]) s' | .tm (.bk s') => Q (.nx s') | .tm (.rt r) => Q (.tm r)) → (∀ s, I (pre ++ xs) s → Q (.nx s)) → Wp (forL xs s f) Q
  | [], pre, s, h0, _, hq => ⟨.nx s, rfl, hq s (by simpa using h0)⟩
  | x :: xs, pre, s, h0, hs, hq => by
    obtain ⟨o, e1, i1⟩ := hs pre x xs s rfl h0
    have go : ∀ s1, I (pre ++ [x]) s1 → Wp (forL xs s1 f) Q := fun s1 i1 => wp_forLG I (xs := xs) (pre := pre ++ [x]) (s := s1) i1 (fun p y t s e => hs p y t s (by rw [← e]; simp)) (fun s hi => hq s (by simpa using hi))
    show Wp ((f x s).bind _) Q
    refine wp_eq e1 ?_
    match o, i1 with
    | .nx s', i1 => exact go s' i1
    | .tm (.ct s'), i1 => exact go s' i1
    | .tm (.bk s'), i1 => exact ⟨_, rfl, i1⟩
    | .tm (.rt r), i1 => exact ⟨_, rfl, i1⟩
theorem wp_forL {f : α → S → Option (Bo S (Tm S ρ))} {Q : Bo S ρ → Prop} {xs : List α} {s : S} (I : List α → S → Prop) (h0 : I [] s)
    (hs : ∀ p x t s, xs = p ++ x :: t → I p s → Wp (f x s) fun o => match o with | .nx s' => I (p ++ [x]) s' | .tm (.ct s') => I (p ++ [x]) s' | .tm (.bk s') => Q (.nx s') | .tm (.rt r) => Q (.tm r)) (hq : ∀ s, I xs s → Q (.nx s)) : Wp (forL xs s f) Q :=
  wp_forLG (pre := []) I h0 (fun p x t s e => hs p x t s e) (fun s h => hq s h)
theorem compM_pure {f : α → S → Option (Option δ × S)} {g : α → Option δ} {s : S} : ∀ {xs : List α}, (∀ x ∈ xs, f x s = some (g x, s)) → compM xs s f = some (xs.filterMap g, s)
  | [], _ => rfl
  | x :: xs, h => by
    have ih := compM_pure (f := f) (g := g) (s := s) (xs := xs) fun y hy => h y (List.mem_cons_of_mem _ hy)
    unfold compM
    rw [h x List.mem_cons_self]
    simp only [Option.bind_some]
    rw [ih]
    simp only [Option.bind_some, List.filterMap_cons]
    cases g x <;> rfl
theorem filterMap_some {α δ : Type} {g : α → δ} : ∀ xs : List α, xs.filterMap (fun x => some (g x)) = xs.map g
  | [] => rfl
  | x :: xs => by rw [List.filterMap_cons]; simp [filterMap_some xs]
theorem wp_compM {f : α → S → Option (Option δ × S)} {Q : List δ × S → Prop} (I : List α → List δ → S → Prop) : ∀ {xs : List α} {pre : List α} {out : List δ} {s : S}, I pre out s → (∀ p x t o s, pre ++ xs = p ++ x :: t → I p o s → Wp (f x s) fun r => I (p ++ [x]) (o ++ r.1.toList) r.2) → (∀ r : List δ × S, I (pre ++ xs) (out ++ r.1) r.2 → Q r) → Wp (compM xs s f) Q
  | [], pre, out, s, h0, _, hq => ⟨([], s), rfl, hq ([], s) (by simpa using h0)⟩
  | x :: xs, pre, out, s, h0, hs, hq => by
    obtain ⟨⟨o1, s1⟩, e1, i1⟩ := hs pre x xs out s rfl h0
    obtain ⟨r, e2, q2⟩ := wp_compM (f := f) (Q := fun r => Q (o1.toList ++ r.1, r.2)) I (xs := xs) (pre := pre ++ [x]) (out := out ++ o1.toList) (s := s1) i1 (fun p y t o s e => hs p y t o s (by rw [← e]; simp)) (fun r hi => hq (o1.toList ++ r.1, r.2) (by simpa using hi))
    refine ⟨(o1.toList ++ r.1, r.2), ?_, q2⟩
    unfold compM
    rw [e1]
    simp only [Option.bind_some]
    rw [e2]
    cases o1 <;> rfl
end
theorem sz : sizeLine = 16777216 := rfl
theorem sb : scanBound = 4096 := rfl
theorem atI_get {α : Type} {xs : List α} {i : Int} (h0 : 0 ≤ i) (h : i.toNat < xs.length) : atI xs i = some (xs[i.toNat]'h) := by
  unfold atI ixN
  rw [if_pos h0, if_pos (by omega)]
  simp [List.getElem?_eq_getElem h]
theorem wp_at {α : Type} {xs : List α} {i : Int} {Q : α → Prop} (h0 : 0 ≤ i) (h : i < xs.length) (q : ∀ x, x ∈ xs → xs[i.toNat]? = some x → Q x) : Wp (atI xs i) Q :=
  ⟨_, atI_get h0 (by omega), q _ (List.getElem_mem _) (List.getElem?_eq_getElem (by omega))⟩
theorem atI_last {α : Type} {s : List α} {y : α} : atI (s ++ [y]) (-(1 : Int)) = some y := by
  unfold atI ixN
  rw [if_neg (by decide), if_pos (by rw [List.length_append]; simp only [List.length_singleton]; omega)]
  simp only [Option.bind_some]
  rw [List.length_append, List.length_singleton, show ((-1 : Int) + ((s.length + 1 : Nat) : Int)).toNat = s.length by omega]
  simp
theorem rngL_mem {lo : Int} {n : Nat} {x : Int} : x ∈ rngL lo n ↔ lo ≤ x ∧ x < lo + n := by
  unfold rngL
  simp only [List.mem_map, List.mem_range]
  constructor
  · rintro ⟨i, h, rfl⟩; omega
  · intro h; exact ⟨(x - lo).toNat, by omega, by omega⟩
theorem mem_split {α : Type} {xs p t : List α} {x : α} (h : xs = p ++ x :: t) : x ∈ xs := by rw [h]; simp
theorem rngL_split {lo : Int} {n : Nat} {p t : List Int} {x : Int} (h : rngL lo n = p ++ x :: t) : x = lo + p.length ∧ p.length < n := by
  have hl := congrArg List.length h
  rw [rngL_len, List.length_append, List.length_cons] at hl
  have e := congrArg (fun l => l[p.length]?) h
  simp only [List.getElem?_append_right (Nat.le_refl _), Nat.sub_self, List.getElem?_cons_zero] at e
  unfold rngL at e
  rw [List.getElem?_map, List.getElem?_range (by omega)] at e
  simp only [Option.map_some, Option.some.injEq] at e
  exact ⟨e.symm, by omega⟩
theorem sub_len {α : Type} [DecidableEq α] : ∀ {xs ys : List α}, xs.Nodup → (∀ x ∈ xs, x ∈ ys) → xs.length ≤ ys.length
  | [], _, _, _ => Nat.zero_le _
  | x :: xs, ys, nd, h => by
    rw [List.nodup_cons] at nd
    have hx := h x List.mem_cons_self
    have := sub_len (xs := xs) (ys := ys.erase x) nd.2 (fun y hy => (List.mem_erase_of_ne (fun e => nd.1 (by rw [← e]; exact hy))).mpr (h y (List.mem_cons_of_mem _ hy)))
    rw [List.length_erase_of_mem hx] at this
    have := List.length_pos_of_mem hx
    rw [List.length_cons]
    omega
end My
end
section
namespace My
open PySem PySem.Spec PyProof.Rows L2 L3
section
variable {κ α : Type} [DecidableEq κ]
abbrev keys (d : List (κ × α)) : List κ := d.map Prod.fst
theorem dget_nil {k : κ} : dget ([] : List (κ × α)) k = none := rfl
theorem dget_cons {p : κ × α} {d : List (κ × α)} {k : κ} : dget (p :: d) k = if p.1 = k then some p.2 else dget d k := by
  by_cases h : p.1 = k
  · rw [if_pos h, dget_pos h]
  · rw [if_neg h, dget_neg h]
theorem dget_none {k : κ} : ∀ {d : List (κ × α)}, dget d k = none ↔ k ∉ keys d
  | [] => by simp [dget_nil]
  | p :: d => by
    rw [dget_cons]
    show _ ↔ k ∉ p.1 :: keys d
    rw [List.mem_cons]
    by_cases h : p.1 = k
    · rw [if_pos h]; simp [h]
    · rw [if_neg h, dget_none]
      simp only [not_or]
      exact ⟨fun x => ⟨fun e => h e.symm, x⟩, fun x => x.2⟩
theorem dget_some {k : κ} {d : List (κ × α)} (h : k ∈ keys d) : ∃ v, dget d k = some v := by
  cases e : dget d k with
  | none => exact absurd h (dget_none.mp e)
  | some v => exact ⟨v, rfl⟩
theorem dget_mem {k : κ} {v : α} : ∀ {d : List (κ × α)}, dget d k = some v → (k, v) ∈ d
  | [], h => by rw [dget_nil] at h; cases h
  | p :: d, h => by
    rw [dget_cons] at h
    by_cases e : p.1 = k
    · rw [if_pos e] at h; cases h; subst e; exact List.mem_cons_self
    · rw [if_neg e] at h; exact List.mem_cons_of_mem _ (dget_mem h)
theorem mem_dget {k : κ} {v : α} : ∀ {d : List (κ × α)}, (keys d).Nodup → (k, v) ∈ d → dget d k = some v
  | [], _, h => nomatch h
  | p :: d, nd, h => by
    have nd : (p.1 :: keys d).Nodup := nd
    rw [List.nodup_cons] at nd
    rw [dget_cons]
    rcases List.mem_cons.mp h with e | h
    · subst e; rw [if_pos rfl]
    · rw [if_neg (fun e => nd.1 (by rw [e]; exact List.mem_map.mpr ⟨(k, v), h, rfl⟩))]
      exact mem_dget nd.2 h
theorem dhas_iff {k : κ} {d : List (κ × α)} : dhas d k = true ↔ k ∈ keys d := by
  unfold dhas
  rw [List.any_eq_true, List.mem_map]
  simp only [decide_eq_true_eq]
theorem dhas_not {k : κ} {d : List (κ × α)} : dhas d k = false ↔ k ∉ keys d := by
  rw [← dhas_iff]; simp
theorem dput_old {d : List (κ × α)} {k : κ} {v : α} (h : k ∈ keys d) : dput d k v = d.map (fun p => if p.1 = k then (p.1, v) else p) := by
  have := dhas_iff.mpr h
  unfold dhas at this
  unfold dput
  rw [if_pos this]
theorem dput_new {d : List (κ × α)} {k : κ} {v : α} (h : k ∉ keys d) : dput d k v = d ++ [(k, v)] := by
  have := dhas_not.mpr h
  unfold dhas at this
  unfold dput
  rw [if_neg (by rw [this]; decide)]
theorem keys_put_old {d : List (κ × α)} {k : κ} {v : α} (h : k ∈ keys d) : keys (dput d k v) = keys d := by
  rw [dput_old h]
  unfold keys
  rw [List.map_map]
  apply List.map_congr_left
  intro p _
  simp only [Function.comp]
  split <;> rfl
theorem keys_put_new {d : List (κ × α)} {k : κ} {v : α} (h : k ∉ keys d) : keys (dput d k v) = keys d ++ [k] := by
  rw [dput_new h]; unfold keys; rw [List.map_append]; rfl
theorem mem_keys_put {d : List (κ × α)} {k j : κ} {v : α} : j ∈ keys (dput d k v) ↔ j ∈ keys d ∨ j = k := by
  by_cases h : k ∈ keys d
  · rw [keys_put_old h]
    exact ⟨.inl, fun x => x.elim id fun e => by rw [e]; exact h⟩
  · rw [keys_put_new h, List.mem_append, List.mem_singleton]
theorem nodup_put {d : List (κ × α)} {k : κ} {v : α} (nd : (keys d).Nodup) : (keys (dput d k v)).Nodup := by
  by_cases h : k ∈ keys d
  · rw [keys_put_old h]; exact nd
  · rw [keys_put_new h]
    refine List.nodup_append.mpr ⟨nd, List.nodup_cons.mpr ⟨List.not_mem_nil, List.nodup_nil⟩, fun a ha b hb e => h ?_⟩
    rw [List.mem_singleton] at hb
    rw [← hb, ← e]; exact ha
theorem get_map_put {k j : κ} {v : α} : ∀ {d : List (κ × α)}, dget (d.map (fun p => if p.1 = k then (p.1, v) else p)) j = if j = k then (dget d j).map (fun _ => v) else dget d j
  | [] => by simp [dget_nil]
  | p :: d => by
    rw [List.map_cons, dget_cons, dget_cons, get_map_put (d := d)]
    by_cases h : p.1 = k
    · rw [if_pos h]
      by_cases h2 : j = k
      · rw [if_pos h2]; simp [h, h2]
      · rw [if_neg h2]; simp only [h]
        rw [if_neg (fun e => h2 e.symm)]
        rw [if_neg h2, if_neg (fun e => h2 e.symm)]
    · rw [if_neg h]
      by_cases h3 : p.1 = j
      · have h2 : ¬ j = k := fun e => h (by rw [h3, e])
        simp [h3, h2]
      · simp [h3]
theorem get_app {j : κ} {e : List (κ × α)} : ∀ {d : List (κ × α)}, dget (d ++ e) j = (dget d j).orElse fun _ => dget e j
  | [] => rfl
  | p :: d => by
    rw [List.cons_append, dget_cons, dget_cons, get_app (d := d)]
    split <;> rfl
theorem get_put_same {d : List (κ × α)} {k : κ} {v : α} : dget (dput d k v) k = some v := by
  by_cases h : k ∈ keys d
  · rw [dput_old h, get_map_put, if_pos rfl]
    obtain ⟨u, e⟩ := dget_some h
    rw [e]; rfl
  · rw [dput_new h, get_app, dget_none.mpr h]
    show dget [(k, v)] k = _
    rw [dget_cons, if_pos rfl]
theorem get_put_ne {d : List (κ × α)} {k j : κ} {v : α} (hj : j ≠ k) : dget (dput d k v) j = dget d j := by
  by_cases h : k ∈ keys d
  · rw [dput_old h, get_map_put, if_neg hj]
  · rw [dput_new h, get_app]
    cases e : dget d j with
    | some u => rfl
    | none =>
      show dget [(k, v)] j = none
      rw [dget_cons, if_neg (fun e => hj e.symm)]
      rfl
theorem get_put {d : List (κ × α)} {k j : κ} {v : α} : dget (dput d k v) j = if j = k then some v else dget d j := by
  by_cases h : j = k
  · rw [if_pos h, h, get_put_same]
  · rw [if_neg h, get_put_ne h]
theorem deq_self [DecidableEq α] {d : List (κ × α)} (nd : (keys d).Nodup) : deq d d = true := by
  unfold deq
  simp only [beq_self_eq_true, Bool.true_and, List.all_eq_true, decide_eq_true_eq]
  exact fun p hp => mem_dget nd hp
end
end My
end
section
namespace My
open PySem PySem.Spec PyProof.Rows L2 L3
def Stm (s : List Int) : Prop := ∃ a b c, s = [a, b, c]
theorem next_wp {s : List Int} {n : Int} (hs : Stm s) (h0 : 0 < n) (h1 : n < 1073741824) : Wp (M_l_next s n) fun r => 0 ≤ r.1 ∧ r.1 < n ∧ Stm r.2 := by
  obtain ⟨a, b, c, rfl⟩ := hs
  have e0 : atI [a, b, c] (1 : Int) = some b := rfl
  have e1 : ixN [a, b, c].length (1 : Int) = some 1 := rfl
  have hdv : dv n = true := by unfold dv; simp; omega
  unfold M_l_next
  rw [e0, e1]
  simp only [Option.bind_some, Option.getD_some, List.set]
  have e2 : atI [a, b + 1, c] (0 : Int) = some a := rfl
  have e3 : atI [a, b + 1, c] (2 : Int) = some c := rfl
  have e4 : atI [a, b + 1, c] (1 : Int) = some (b + 1) := rfl
  have e5 : ixN [a, b + 1, c].length (0 : Int) = some 0 := rfl
  rw [e2, e3, e4, e5]
  simp only [Option.bind_some, Option.getD_some, List.set]
  by_cases h : 0 < a
  · rw [if_pos (by simpa using h), gp h0, gp hdv]
    exact ⟨_, rfl, Int.emod_nonneg _ (by omega), Int.emod_lt_of_pos _ h0, ⟨_, _, _, rfl⟩⟩
  · rw [if_neg (by simpa using h)]
    rw [gp (by rfl), gp (by decide), gp, gp (by decide), gp, gp (by rfl), gp (by decide), gp (by rfl), gp h0]
    · exact ⟨_, rfl, Int.emod_nonneg _ (by omega), Int.emod_lt_of_pos _ h0, ⟨_, _, _, rfl⟩⟩
    · have := Int.emod_nonneg (((c + 7919 * (b + 1) + 13) % 2147483647) * ((c + 7919 * (b + 1) + 13) % 2147483647 + 48271)) (b := 2147483629) (by decide)
      have := Int.emod_lt_of_pos (((c + 7919 * (b + 1) + 13) % 2147483647) * ((c + 7919 * (b + 1) + 13) % 2147483647 + 48271)) (b := 2147483629) (by decide)
      unfold sm
      simp
      omega
    · have := Int.emod_nonneg (c + 7919 * (b + 1) + 13) (b := 2147483647) (by decide)
      have := Int.emod_lt_of_pos (c + 7919 * (b + 1) + 13) (b := 2147483647) (by decide)
      unfold sm
      simp
      omega
theorem stream_wp {xs : List Int} {k : Int} (hk : 0 ≤ k) : Wp (M_l_stream xs k) Stm := by
  unfold M_l_stream
  simp only [Option.bind_some]
  by_cases h : k < (xs.length : Int)
  · rw [if_pos (by simpa using h), atI_get hk (by omega)]
    simp only [Option.bind_some]
    rw [gp]
    · exact ⟨_, rfl, _, _, _, rfl⟩
    · rw [Bool.or_eq_true]
      right
      split <;> rfl
  · rw [if_neg (by simpa using h)]
    simp only [Option.bind_some]
    rw [gp]
    · exact ⟨_, rfl, _, _, _, rfl⟩
    · rfl
theorem wp_next {β : Type} {s : List Int} {n : Int} {k : Int × List Int → Option β} {Q : β → Prop} (hs : Stm s) (h0 : 0 < n) (h1 : n < 1073741824) (f : ∀ r t, 0 ≤ r → r < n → Stm t → Wp (k (r, t)) Q) : Wp ((M_l_next s n).bind k) Q :=
  wp_then (next_wp hs h0 h1) fun r h => f r.1 r.2 h.1 h.2.1 h.2.2
theorem wp_stream {β : Type} {xs : List Int} {i : Int} {k : List Int → Option β} {Q : β → Prop} (hk : 0 ≤ i) (f : ∀ t, Stm t → Wp (k t) Q) : Wp ((M_l_stream xs i).bind k) Q :=
  wp_then (stream_wp hk) f
theorem wp_let {α β : Type} {a : α} {k : α → Option β} {Q : β → Prop} (h : Wp (k a) Q) : Wp ((some a).bind k) Q := h
theorem sm_lt {i : Int} (h1 : -(2 ^ 64) < i) (h2 : i < 2 ^ 64) : sm i = true := by unfold sm; rw [Bool.and_eq_true]; exact ⟨decide_eq_true h1, decide_eq_true h2⟩
theorem rg_lt {i : Int} (h1 : -1000000 ≤ i) (h2 : i ≤ 16777216) : rg i = true := by unfold rg; rw [Bool.and_eq_true]; exact ⟨decide_eq_true (by omega), decide_eq_true h2⟩
theorem len_app (x y : Str) : (x ++ y).length = x.length + y.length := by
  show (x.cps ++ y.cps).size = x.cps.size + y.cps.size
  exact Array.size_append ..
end My
end
section
namespace My
open PySem PySem.Spec PyProof.Rows L2 L3
theorem cutS_len (z : Str) (lo hi : Option Int) : (cutS z lo hi).length ≤ z.length := by
  unfold cutS
  show (List.toArray _).size ≤ z.cps.size
  simp only [List.size_toArray, List.length_take, List.length_drop, Array.length_toList]
  omega
theorem cutS_mem {z : Str} {lo hi : Option Int} {c : Nat} (h : c ∈ (cutS z lo hi).cps.toList) : c ∈ z.cps.toList := by
  unfold cutS at h
  simp only [List.toList_toArray] at h
  exact List.mem_of_mem_drop (List.mem_of_mem_take h)
theorem len1 (c : Nat) : (⟨#[c]⟩ : Str).length = 1 := rfl
theorem cps_app (x y : Str) : (x ++ y).cps.toList = x.cps.toList ++ y.cps.toList := by
  show (x.cps ++ y.cps).toList = _
  exact Array.toList_append
theorem strOk_of {x : Str} (h : ∀ c ∈ x.cps.toList, c < 1000) : strOk x = true := by
  unfold strOk PyData.strOk
  rw [← Array.all_toList, List.all_eq_true]
  intro c hc
  have := h c hc
  exact decide_eq_true (by omega)
def isDg (c : Nat) : Bool := decide (48 ≤ c) && decide (c ≤ 57)
def dgOf (x : Str) : Option Nat := x.cps.toList.find? isDg
abbrev LET : Str := "qwertyuiopasdfghjklzxcvbnm_zyx"
abbrev DIG : Str := "7305186429"
theorem let_nodg : ∀ c ∈ LET.cps.toList, isDg c = false ∧ c < 1000 := by decide +kernel
theorem dig_dg : ∀ c ∈ DIG.cps.toList, isDg c = true ∧ c < 1000 := by decide +kernel
theorem dig_nd : DIG.cps.toList.Nodup := by decide +kernel
theorem dig_len : DIG.cps.toList.length = 10 := by decide +kernel
abbrev PN : List Str := ["x", "yard", "z", "u", "wide_one", "q", "pp", "t"]
theorem pn_nd : ∀ sh : Nat, sh < 8 → ∀ n : Nat, n < 9 → ((List.range n).map fun i => PN.getD ((i * 3 + sh) % 8) "").Nodup := by decide +kernel
theorem pn_ok : ∀ x ∈ PN, strOk x = true := by decide +kernel
theorem nodup_of_map {α β : Type} {f : α → β} : ∀ {l : List α}, (l.map f).Nodup → l.Nodup
  | [], _ => List.nodup_nil
  | x :: l, h => by
    rw [List.map_cons, List.nodup_cons] at h
    exact List.nodup_cons.mpr ⟨fun hx => h.1 (List.mem_map.mpr ⟨x, hx, rfl⟩), nodup_of_map h.2⟩
structure Nms (n : Int) (ns : List Str) : Prop where
  ln : (ns.length : Int) = n
  nd : ns.Nodup
  ok : ∀ x ∈ ns, strOk x = true
theorem names_wp {s : List Int} {n : Int} (hs : Stm s) (h0 : 0 ≤ n) (h1 : n ≤ 8) : Wp (M_l_names s n) fun r => Nms n r.1 ∧ Stm r.2 := by
  have hz := sz
  have hlen : (rngL 0 n.toNat).length = n.toNat := rngL_len _ _
  unfold M_l_names
  refine wp_next hs (by decide) (by decide) fun r t _ _ ht => wp_ite (fun _ => ?_) fun _ => ?_
  · refine wp_next ht (by decide) (by decide) fun r t hr0 hr1 ht => wp_let (wp_let (wp_grd (rg_lt (by omega) (by omega)) ?_))
    dsimp only
    have e : compM (rngL 0 n.toNat) () (fun x72 s74 => if true = true then grd ((sm x72 || sm (3 : Int)) = true) (grd (0 < (8 : Int)) ((atI PN (((x72 * (3 : Int)) + r) % (8 : Int))).bind fun x75 => some (some x75, ()))) else some ((none : Option Str), ())) = some ((rngL 0 n.toNat).filterMap (fun x => some (PN.getD ((x * 3 + r) % 8).toNat "")), ()) := compM_pure fun x _ => by
      rw [if_pos rfl, gp (by rw [show sm 3 = true from rfl, Bool.or_true]), gp (by decide)]
      have a0 := Int.emod_nonneg (x * 3 + r) (b := 8) (by decide)
      have a1 := Int.emod_lt_of_pos (x * 3 + r) (b := 8) (by decide)
      have hl : PN.length = 8 := rfl
      rw [atI_get a0 (by omega)]
      simp only [Option.bind_some]
      rw [List.getD_eq_getElem?_getD, List.getElem?_eq_getElem (by omega)]
      rfl
    have e2 : (rngL 0 n.toNat).filterMap (fun x => some (PN.getD ((x * 3 + r) % 8).toNat "")) = (List.range n.toNat).map fun i => PN.getD ((i * 3 + r.toNat) % 8) "" := by
      rw [filterMap_some]
      unfold rngL
      rw [List.map_map]
      apply List.map_congr_left
      intro i _
      show PN.getD (((0 + (i : Int)) * 3 + r) % 8).toNat "" = _
      congr 1
      omega
    rw [e2] at e
    refine wp_eq e (wp_some ⟨⟨?_, pn_nd r.toNat (by omega) n.toNat (by omega), fun x hx => ?_⟩, ht⟩)
    · show ((List.map _ _).length : Int) = n
      rw [List.length_map, List.length_range]
      omega
    · obtain ⟨i, _, rfl⟩ := List.mem_map.mp hx
      refine pn_ok _ ?_
      rw [List.getD_eq_getElem?_getD, List.getElem?_eq_getElem (by show _ < 8; omega)]
      exact List.getElem_mem _
  · refine wp_let (wp_let (wp_grd (rg_lt (by omega) (by omega)) (wp_bind (wp_for (fun p st => st.1.map dgOf = (DIG.cps.toList.take p.length).map some ∧ (∀ x ∈ st.1, strOk x = true) ∧ st.1.length = p.length ∧ Stm st.2) ⟨rfl, fun _ h => absurd h List.not_mem_nil, rfl, ht⟩ ?_ ?_))))
    · rintro p x q ⟨ys, st⟩ e ⟨hd, hok, hl, hst⟩
      have ex := rngL_split e
      have hl : ys.length = p.length := hl
      have hd : ys.map dgOf = (DIG.cps.toList.take p.length).map some := hd
      refine wp_next hst (by decide) (by decide) fun r2 t2 _ _ ht2 => wp_let (wp_next ht2 (by decide) (by decide) fun r3 t3 _ _ ht3 => wp_let (wp_next ht3 (by decide) (by decide) fun r4 t4 _ _ ht4 => ?_))
      dsimp only
      have c1 := cutS_len ("qwertyuiopasdfghjklzxcvbnm_zyx" : Str) (some (26 - r4)) (some 26)
      have c2 := cutS_len ("qwertyuiopasdfghjklzxcvbnm_zyx" : Str) (some r2) (some (r2 + (1 + r3)))
      have c3 : ("qwertyuiopasdfghjklzxcvbnm_zyx" : Str).length = 30 := by decide +kernel
      have hp10 : p.length < 8 := by omega
      refine wp_grd (by omega) (wp_let (wp_grd (by omega) (wp_grd (by decide +kernel) (wp_bind (wp_at (by omega) (by rw [dig_len]; omega) fun y hy ey => wp_grd ?_ (wp_grd ?_ (wp_grd ?_ (wp_some ⟨?_, ?_, ?_, ht4⟩))))))))
      · rw [len1]; omega
      · rw [len_app, len1]; omega
      · omega
      · show (ys ++ [_]).map dgOf = (DIG.cps.toList.take (p ++ [x]).length).map some
        rw [List.map_append, hd, List.length_append, List.length_singleton, List.take_succ, List.map_append]
        congr 1
        rw [show x.toNat = p.length by omega] at ey
        rw [ey]
        show [dgOf _] = [some y]
        congr 1
        unfold dgOf
        rw [cps_app, cps_app, List.find?_append, List.find?_append]
        have n1 : (cutS LET (some r2) (some (r2 + (1 + r3)))).cps.toList.find? isDg = none := by
          rw [List.find?_eq_none]
          intro c hc
          rw [(let_nodg c (cutS_mem hc)).1]
          decide
        rw [n1]
        show (([y] : List Nat).find? isDg).or _ = some y
        rw [List.find?_cons, (dig_dg y hy).1]
        rfl
      · intro z hz
        rcases List.mem_append.mp hz with h | h
        · exact hok z h
        · rw [List.mem_singleton.mp h]
          refine strOk_of fun c hc => ?_
          rw [cps_app, cps_app] at hc
          rcases List.mem_append.mp hc with h | h
          · rcases List.mem_append.mp h with h | h
            · exact (let_nodg c (cutS_mem h)).2
            · have h : c ∈ [y] := h
              rw [List.mem_singleton.mp h]
              exact (dig_dg y hy).2
          · exact (let_nodg c (cutS_mem h)).2
      · show (ys ++ [_]).length = (p ++ [x]).length
        simp only [List.length_append, List.length_singleton]; omega
    · rintro ⟨ys, st⟩ ⟨hd, hok, hl, hst⟩
      have hl : ys.length = (rngL 0 n.toNat).length := hl
      have hd : ys.map dgOf = (DIG.cps.toList.take (rngL 0 n.toNat).length).map some := hd
      refine wp_some ⟨⟨by show (ys.length : Int) = n; omega, nodup_of_map (f := dgOf) ?_, hok⟩, hst⟩
      show (ys.map dgOf).Nodup
      rw [hd]
      have : (DIG.cps.toList.take (rngL 0 n.toNat).length).Nodup := dig_nd.sublist (List.take_sublist _ _)
      exact this.map some fun a b h e => h (Option.some.inj e)
end My
end
section
namespace My
open PySem PySem.Spec PyProof.Rows L2 L3
section
variable {κ α : Type} [DecidableEq κ]
def putAll (s : List (κ × α)) (ks : List κ) (f : κ → α) : List (κ × α) := ks.foldl (fun s k => dput s k (f k)) s
theorem putAll_app {s : List (κ × α)} {ks js : List κ} {f : κ → α} : putAll s (ks ++ js) f = putAll (putAll s ks f) js f := List.foldl_append
theorem putAll_one {s : List (κ × α)} {ks : List κ} {k : κ} {f : κ → α} : putAll s (ks ++ [k]) f = dput (putAll s ks f) k (f k) := putAll_app
theorem len_putAll {f : κ → α} : ∀ {ks : List κ} {s : List (κ × α)}, (putAll s ks f).length ≤ s.length + ks.length
  | [], s => Nat.le_refl _
  | k :: ks, s => by
    have h := len_putAll (f := f) (ks := ks) (s := dput s k (f k))
    have h2 := dput_len s k (f k)
    show (putAll (dput s k (f k)) ks f).length ≤ _
    rw [List.length_cons]
    omega
theorem putAll_new {f : κ → α} : ∀ {ks : List κ} {s : List (κ × α)}, ks.Nodup → (∀ k ∈ ks, k ∉ keys s) → putAll s ks f = s ++ ks.map fun k => (k, f k)
  | [], s, _, _ => by simp [putAll]
  | k :: ks, s, nd, h => by
    rw [List.nodup_cons] at nd
    show putAll (dput s k (f k)) ks f = _
    rw [putAll_new nd.2 fun j hj => ?_, dput_new (h k List.mem_cons_self), List.append_assoc]
    · rfl
    · rw [mem_keys_put]
      exact fun z => z.elim (h j (List.mem_cons_of_mem _ hj)) fun e => nd.1 (by rw [← e]; exact hj)
theorem get_del {d : List (κ × α)} {k j : κ} : dget (ddel d k) j = if j = k then none else dget d j := by
  unfold ddel
  induction d with
  | nil => simp [dget_nil]
  | cons p d ih =>
    rw [List.filter_cons]
    by_cases h : p.1 = k
    · rw [if_neg (by simp [h]), ih, dget_cons]
      by_cases e : j = k
      · rw [if_pos e, if_pos e]
      · rw [if_neg e, if_neg e, if_neg (fun z => e (by rw [← z, h]))]
    · rw [if_pos (by simp [h]), dget_cons, dget_cons, ih]
      by_cases e : j = k
      · rw [if_pos e, if_pos e, if_neg (fun z => h (by rw [z, e]))]
      · rw [if_neg e, if_neg e]
theorem keys_del {d : List (κ × α)} {k : κ} : keys (ddel d k) = (keys d).filter fun j => decide (j ≠ k) := by
  unfold ddel keys
  rw [List.filter_map]
  rfl
theorem nodup_del {d : List (κ × α)} {k : κ} (nd : (keys d).Nodup) : (keys (ddel d k)).Nodup := by
  rw [keys_del]
  exact nd.sublist List.filter_sublist
end
section
variable {α S ρ δ : Type}
theorem forL_all {f : α → Unit → Option (Bo Unit (Tm Unit ρ))} {c : α → Bool} {r : ρ} : ∀ {xs : List α}, (∀ x ∈ xs, f x () = if c x = true then some (.nx ()) else some (.tm (.rt r))) → forL xs () f = some (if xs.all c = true then .nx () else .tm r)
  | [], _ => rfl
  | x :: xs, h => by
    show (f x ()).bind _ = _
    rw [h x List.mem_cons_self, List.all_cons]
    by_cases e : c x = true
    · rw [if_pos e, e, Bool.true_and]
      exact forL_all fun y hy => h y (List.mem_cons_of_mem _ hy)
    · rw [if_neg e, if_neg (by simp [e])]
      rfl
theorem forL_go {f : α → S → Option (Bo S (Tm S ρ))} {s : S} : ∀ {xs : List α}, (∀ x ∈ xs, f x s = some (.nx s)) → forL xs s f = some (.nx s)
  | [], _ => rfl
  | x :: xs, h => by
    show (f x s).bind _ = _
    rw [h x List.mem_cons_self]
    exact forL_go fun y hy => h y (List.mem_cons_of_mem _ hy)
theorem compM_filter {f : α → S → Option (Option α × S)} {s : S} {c : α → Bool} : ∀ {xs : List α}, (∀ x ∈ xs, f x s = if c x = true then some (some x, s) else some (none, s)) → compM xs s f = some (xs.filter c, s)
  | [], _ => rfl
  | x :: xs, h => by
    have ih := compM_filter (f := f) (s := s) (c := c) (xs := xs) fun y hy => h y (List.mem_cons_of_mem _ hy)
    unfold compM
    rw [h x List.mem_cons_self]
    by_cases e : c x = true
    · rw [if_pos e, List.filter_cons_of_pos e]
      simp only [Option.bind_some]
      rw [ih]
      rfl
    · rw [if_neg e, List.filter_cons_of_neg e]
      simp only [Option.bind_some]
      rw [ih]
      rfl
theorem compM_map {f : α → S → Option (Option δ × S)} {s : S} {g : α → δ} {xs : List α} (h : ∀ x ∈ xs, f x s = some (some (g x), s)) : compM xs s f = some (xs.map g, s) := by
  rw [compM_pure (g := fun x => some (g x)) h, filterMap_some]
end
theorem cut_take {α : Type} {xs : List α} {i : Int} (h0 : 0 ≤ i) : cutL xs none (some i) = xs.take i.toNat := by
  unfold cutL
  have e1 : HT.sIx xs.length xs.length (some i) = min i.toNat xs.length := by
    unfold HT.sIx; simp only; rw [if_neg (by omega)]
  have e3 : HT.sIx xs.length 0 none = 0 := rfl
  rw [e1, e3, List.drop_zero, Nat.sub_zero]
  by_cases h : i.toNat ≤ xs.length
  · rw [Nat.min_eq_left h]
  · rw [Nat.min_eq_right (by omega), List.take_length, List.take_of_length_le (by omega)]
theorem cut_drop {α : Type} {xs : List α} {i : Int} (h0 : 0 ≤ i) : cutL xs (some i) none = xs.drop i.toNat := by
  unfold cutL
  have e2 : HT.sIx xs.length 0 (some i) = min i.toNat xs.length := by
    unfold HT.sIx; simp only; rw [if_neg (by omega)]
  have e4 : HT.sIx xs.length xs.length none = xs.length := rfl
  rw [e2, e4]
  by_cases h : i.toNat ≤ xs.length
  · rw [Nat.min_eq_left h, List.take_of_length_le (by rw [List.length_drop]; omega)]
  · rw [Nat.min_eq_right (by omega), List.drop_length, List.drop_of_length_le (by omega), List.take_nil]
theorem okNs {ns : List Str} (h : ∀ p ∈ ns, strOk p = true) : okG (dgL dgStr) ns ns = true := by
  have : (ns.all fun x => strOk x) = true := by
    rw [List.all_eq_true]
    exact h
  show ((ns.all fun x => strOk x) && (ns.all fun x => strOk x)) = true
  rw [this]; rfl
theorem pool_lt {s : List Int} {n : Int} (hs : Stm s) (h0 : 1 ≤ n) (h1 : n < 1000) : Wp (M_l_pool s n) fun r => (r.1.length : Int) = n ∧ r.1.Pairwise (· < ·) ∧ Stm r.2 := by
  have hz := sz
  unfold M_l_pool
  refine wp_next hs (by decide) (by decide) fun r t _ _ ht => wp_let (wp_grd (rg_lt (by omega) (by omega)) (wp_bind (wp_for (fun p st => st.1.length = p.length + 1 ∧ st.1.Pairwise (· < ·) ∧ (∀ v ∈ st.1, ∀ l, st.1.getLast? = some l → v ≤ l) ∧ Stm st.2) ⟨rfl, List.pairwise_singleton _ _, fun v hv l hl => ?_, ht⟩ ?_ ?_)))
  · have hl : some (r - 4) = some l := hl
    cases hl
    have hv : v ∈ [r - 4] := hv
    rw [List.mem_singleton.mp hv]
    exact Int.le_refl _
  · rintro p x q ⟨ys, st⟩ e ⟨hl, hlt, hle, hst⟩
    have ex := rngL_split e
    have hl : ys.length = p.length + 1 := hl
    dsimp only at hlt hle
    have hlast : ys.getLast? = ys[x.toNat]? := by rw [List.getLast?_eq_getElem?]; congr 1; omega
    refine wp_bind (wp_at (by omega) (by show x < (ys.length : Int); omega) fun y _ ey => wp_next hst (by decide) (by decide) fun r2 t2 hr2 _ ht2 => wp_grd (by rfl) (wp_grd (by rfl) (wp_grd (by show ys.length < sizeLine; omega) (wp_some ⟨?_, ?_, ?_, ht2⟩))))
    · show (ys ++ _).length = (p ++ [x]).length + 1
      simp only [List.length_append, List.length_singleton]
      omega
    · show (ys ++ [_]).Pairwise (· < ·)
      refine List.pairwise_append.mpr ⟨hlt, List.pairwise_singleton _ _, fun v hv w hw => ?_⟩
      rw [List.mem_singleton.mp hw]
      have := hle v hv y (by rw [hlast]; exact ey)
      dsimp only
      omega
    · intro v hv l hl2
      have hl2 : (ys ++ [_]).getLast? = some l := hl2
      rw [List.getLast?_concat] at hl2
      cases hl2
      rcases List.mem_append.mp hv with h | h
      · have := hle v h y (by rw [hlast]; exact ey)
        dsimp only
        omega
      · rw [List.mem_singleton.mp h]
        exact Int.le_refl _
  · rintro ⟨ys, st⟩ ⟨hl, hlt, hle, hst⟩
    have hl : ys.length = (rngL 0 (n - 1).toNat).length + 1 := hl
    rw [rngL_len] at hl
    refine wp_next hst (by decide) (by decide) fun r2 t2 h20 h21 ht2 => wp_bind (wp_at h20 (by simpa using h21) fun sc hsc _ => wp_let ?_)
    have hsc2 : sm sc = true ∧ 0 < sc := by
      simp only [List.mem_cons, List.not_mem_nil, or_false] at hsc
      rcases hsc with h | h | h | h | h | h | h | h <;> subst h <;> exact ⟨rfl, by decide⟩
    have e : compM ys () (fun x113 s114 => if true = true then grd ((sm x113 || sm sc) = true) (some (some (x113 * sc), ())) else some ((none : Option Int), ())) = some (ys.filterMap (fun x => some (x * sc)), ()) := compM_pure fun x _ => by
      rw [if_pos rfl, gp (by rw [hsc2.1, Bool.or_true])]
    refine wp_eq e (wp_some ⟨?_, ?_, ht2⟩)
    · show ((ys.filterMap _).length : Int) = n
      rw [filterMap_some, List.length_map]
      omega
    · show (ys.filterMap _).Pairwise (· < ·)
      rw [filterMap_some, List.pairwise_map]
      exact hlt.imp fun h => Int.mul_lt_mul_of_pos_right h hsc2.2
theorem nd_split {α : Type} {xs p t : List α} {k : α} (nd : xs.Nodup) (e : xs = p ++ k :: t) : k ∉ p := fun z => by
  rw [e] at nd
  exact (List.nodup_append.mp nd).2.2 k z k List.mem_cons_self rfl
theorem len_split {α : Type} {xs p t : List α} {k : α} (e : xs = p ++ k :: t) : p.length < xs.length := by
  rw [e, List.length_append, List.length_cons]; omega
def getB (b : Box) (k : Str) : List Int := (dget b k).getD []
theorem dget_B {b : Box} {k : Str} (h : k ∈ keys b) : dget b k = some (getB b k) := by
  obtain ⟨v, e⟩ := dget_some h
  unfold getB
  rw [e]; rfl
theorem map_self {d : Box} (nd : (keys d).Nodup) : (keys d).map (fun k => (k, getB d k)) = d := by
  unfold keys
  rw [List.map_map]
  conv => rhs; rw [← List.map_id d]
  apply List.map_congr_left
  intro p hp
  show (p.1, getB d p.1) = p
  unfold getB
  rw [mem_dget nd (show (p.1, p.2) ∈ d from hp)]
  rfl
theorem copy_self {d : Box} (nd : (keys d).Nodup) : putAll [] (keys d) (getB d) = d := by
  rw [putAll_new nd fun k _ h => absurd h List.not_mem_nil, map_self nd, List.nil_append]
theorem keys_len {κ α : Type} (d : List (κ × α)) : (keys d).length = d.length := List.length_map _
structure Side (x : List Int) : Prop where
  lt : x.Pairwise (· < ·)
  ln : x.length ≤ 1000
theorem Side.nil : Side [] := ⟨List.Pairwise.nil, Nat.zero_le _⟩
theorem Side.sub {x y : List Int} (h : Side x) (s : y.Sublist x) : Side y := ⟨h.lt.sublist s, Nat.le_trans s.length_le h.ln⟩
theorem Side.filter {x : List Int} (h : Side x) (p : Int → Bool) : Side (x.filter p) := h.sub List.filter_sublist
structure BoxOk (b : Box) : Prop where
  nd : (keys b).Nodup
  sd : ∀ k x, dget b k = some x → Side x
theorem BoxOk.get {b : Box} (h : BoxOk b) (k : Str) : Side (getB b k) := by
  unfold getB
  cases e : dget b k with
  | none => exact Side.nil
  | some x => exact h.sd k x e
theorem BoxOk.nil : BoxOk [] := ⟨List.nodup_nil, fun k x h => by rw [dget_nil] at h; cases h⟩
theorem BoxOk.put {b : Box} (h : BoxOk b) {k : Str} {x : List Int} (s : Side x) : BoxOk (dput b k x) := ⟨nodup_put h.nd, fun j y e => by
  rw [get_put] at e
  split at e
  · cases e; exact s
  · exact h.sd j y e⟩
theorem BoxOk.putAll {f : Str → List Int} : ∀ {ks : List Str} {b : Box}, BoxOk b → (∀ k ∈ ks, Side (f k)) → BoxOk (putAll b ks f)
  | [], _, h, _ => h
  | k :: ks, b, h, s => BoxOk.putAll (ks := ks) (b := dput b k (f k)) (h.put (s k List.mem_cons_self)) fun j hj => s j (List.mem_cons_of_mem _ hj)
theorem BoxOk.del {b : Box} (h : BoxOk b) (k : Str) : BoxOk (ddel b k) := ⟨nodup_del h.nd, fun j y e => by
  rw [get_del] at e
  split at e
  · cases e
  · exact h.sd j y e⟩
theorem side_of_len (xs : List Int) : (sideL xs).length ≤ xs.length := by
  have nd : (sideL xs).Nodup := (sideL_lt xs).imp fun h => Int.ne_of_lt h
  exact sub_len nd fun y hy => (sideL_mem xs y).mp hy
end My
end
section
namespace My
open PySem PySem.Spec PyProof.Rows L2 L3
theorem part_wp {s xs : List Int} (hs : Stm s) : Wp (M_l_part s xs) fun r => r.1.Sublist xs ∧ Stm r.2 := by
  unfold M_l_part
  refine wp_bind (wp_compM (fun p o s => o.Sublist p ∧ Stm s) (pre := []) (out := []) ⟨List.Sublist.refl _, hs⟩ ?_ fun r h => wp_some h)
  rintro p x t o s e ⟨ho, hst⟩
  refine wp_next hst (by decide) (by decide) fun r t _ _ ht => wp_ite (fun _ => wp_some ⟨?_, ht⟩) fun _ => wp_some ⟨?_, ht⟩
  · exact ho.append (List.Sublist.refl _)
  · show (o ++ []).Sublist _
    exact ho.append (List.nil_sublist _)
theorem atI_of {α : Type} {xs : List α} {x : Int} {y : α} (h0 : 0 ≤ x) (h : xs[x.toNat]? = some y) : atI xs x = some y := by
  obtain ⟨hl, e⟩ := List.getElem?_eq_some_iff.mp h
  rw [atI_get h0 hl, e]
theorem copy_ok {d : Box} (nd : (keys d).Nodup) (hl : d.length < 1000) : M_l_copy d = some d := by
  have hz := sz
  apply wp_is
  unfold M_l_copy
  refine wp_let (wp_bind (wp_for (fun p s => s = putAll [] p (getB d)) rfl ?_ fun s hs => wp_some (by rw [hs, copy_self nd])))
  rintro p k t s e rfl
  have hl2 := congrArg List.length e
  rw [keys_len, List.length_append] at hl2
  have := len_putAll (s := []) (ks := p) (f := getB d)
  refine wp_eq (dget_B (mem_split e)) (wp_grd (by rw [List.length_nil] at this; omega) (wp_some ?_))
  rw [putAll_one]
theorem is_side_ok {xs : List Int} (h : xs.Pairwise (· < ·)) (hl : xs.length < 100000) : M_l_is_side xs = some true := by
  have e1 : compM xs () (fun x205 s207 => if true = true then (M_l_is_integer x205).bind fun r209 => some (some r209, ()) else some ((none : Option Bool), ())) = some (xs.filterMap (fun _ => some true), ()) := compM_pure fun x _ => by
    unfold M_l_is_integer
    rfl
  have e2 : compM (rngL 0 ((xs.length : Int) - (1 : Int)).toNat) () (fun x214 s217 => if true = true then (atI xs x214).bind fun x219 => (atI xs (x214 + (1 : Int))).bind fun x220 => some (some (decide (x219 < x220)), ()) else some ((none : Option Bool), ())) = some ((rngL 0 ((xs.length : Int) - (1 : Int)).toNat).filterMap (fun _ => some true), ()) := compM_pure fun x hx => by
    have hx := rngL_mem.mp hx
    rw [if_pos rfl, atI_get (by omega) (by omega), atI_get (by omega) (by omega)]
    simp only [Option.bind_some]
    rw [decide_eq_true]
    exact List.pairwise_iff_getElem.mp h _ _ _ _ (by omega)
  rw [filterMap_some] at e1 e2
  apply wp_is
  unfold M_l_is_side
  rw [if_neg (by decide)]
  refine wp_bind (wp_eq e1 (wp_some ?_))
  dsimp only
  rw [if_neg (by simp)]
  refine wp_grd (rg_lt (by omega) (by omega)) (wp_eq e2 (wp_some ?_))
  simp
theorem same_ok {x : Box} (hx : BoxOk x) : M_l_same_sides x x = some true := by
  have hk := keys_len x
  have e1 : ∀ k ∈ keys x, dget x k = some (getB x k) := fun k hk => dget_B hk
  have e2 : (keys x).filter (fun _ => true) = keys x := List.filter_eq_self.mpr fun _ _ => rfl
  apply wp_is
  unfold M_l_same_sides
  rw [if_neg (by simp)]
  refine wp_eq (compM_filter (c := fun _ => true) fun k hk => ?_) (wp_let ?_)
  · rw [if_pos (by rw [dhas_get, e1 k hk]; rfl), e1 k hk]
    simp only [Option.bind_some]
    rw [is_side_ok (hx.get k).lt (by have := (hx.get k).ln; omega)]
    rfl
  · dsimp only
    rw [e2, if_pos (by rw [hk]; simp)]
    refine wp_bind (wp_eq (compM_map (g := fun _ => true) fun k hk => ?_) (wp_some (wp_some ?_)))
    · rw [if_pos rfl, e1 k hk]
      simp
    · simp
theorem len_put {B : Box} {k : Str} {x : List Int} : (dput B k x).length ≤ B.length + 1 := by
  by_cases h : k ∈ keys B
  · rw [← keys_len, keys_put_old h, keys_len]; omega
  · rw [dput_new h, List.length_append, List.length_singleton]; omega
abbrev Row := List Int
def pr : List (List Int) → List Row
  | [] => [[]]
  | s :: ss => s.flatMap fun v => (pr ss).map (v :: ·)
theorem pr_snoc {s : List Int} : ∀ {ss : List (List Int)}, pr (ss ++ [s]) = (pr ss).flatMap fun r => s.map fun v => r ++ [v]
  | [] => by
    show (s.flatMap fun v => [[v]]) = ([[]] : List Row).flatMap fun r => s.map fun v => r ++ [v]
    rw [List.flatMap_cons, List.flatMap_nil, List.append_nil]
    induction s with
    | nil => rfl
    | cons a s ih => rw [List.flatMap_cons, List.map_cons, ih]; rfl
  | x :: ss => by
    show (x.flatMap fun v => (pr (ss ++ [s])).map (v :: ·)) = (x.flatMap fun v => (pr ss).map (v :: ·)).flatMap _
    rw [List.flatMap_assoc]
    congr 1
    funext v
    rw [pr_snoc, List.map_flatMap, List.flatMap_map]
    congr 1
    funext r
    rw [List.map_map]
    rfl
theorem pr_cons_len {s : List Int} {ss : List (List Int)} : (pr (s :: ss)).length = s.length * (pr ss).length := by
  show (s.flatMap fun v => (pr ss).map (v :: ·)).length = _
  induction s with
  | nil => simp
  | cons a s ih => rw [List.flatMap_cons, List.length_append, ih, List.length_map, List.length_cons, Nat.add_mul, Nat.one_mul, Nat.add_comm]
def insB (ns : List Str) (B : Box) (row : Row) : Bool := (ns.zip row).all fun p => decide (p.2 ∈ getB B p.1)
def PR (ns : List Str) (B : Box) : List Row := pr (ns.map (getB B))
theorem mem_PR {B : Box} : ∀ {ns : List Str} {r : Row}, r ∈ PR ns B ↔ r.length = ns.length ∧ insB ns B r = true
  | [], r => by
    unfold PR insB
    show r ∈ [[]] ↔ _
    rw [List.mem_singleton]
    constructor
    · intro h; rw [h]; exact ⟨rfl, rfl⟩
    · rintro ⟨h, _⟩; exact List.length_eq_zero_iff.mp h
  | n :: ns, r => by
    have ih := @mem_PR B ns
    unfold PR insB at ih ⊢
    show r ∈ ((getB B n).flatMap fun v => (pr (ns.map (getB B))).map (v :: ·)) ↔ _
    rw [List.mem_flatMap]
    constructor
    · rintro ⟨v, hv, h⟩
      obtain ⟨q, hq, e⟩ := List.mem_map.mp h
      obtain ⟨h1, h2⟩ := ih.mp hq
      rw [← e]
      refine ⟨by rw [List.length_cons, List.length_cons, h1], ?_⟩
      rw [List.zip_cons_cons, List.all_cons, h2, Bool.and_true]
      exact decide_eq_true hv
    · rintro ⟨h1, h2⟩
      cases r with
      | nil => simp at h1
      | cons v q =>
        rw [List.zip_cons_cons, List.all_cons, Bool.and_eq_true] at h2
        exact ⟨v, of_decide_eq_true h2.1, List.mem_map.mpr ⟨q, ih.mpr ⟨by simpa using h1, h2.2⟩, rfl⟩⟩
theorem len_le {c : Nat} : ∀ {ss : List (List Int)}, (∀ s ∈ ss, s.length ≤ c) → (pr ss).length ≤ c ^ ss.length
  | [], _ => Nat.le_refl _
  | s :: ss, h => by
    rw [pr_cons_len, List.length_cons, Nat.pow_succ, Nat.mul_comm]
    exact Nat.mul_le_mul (len_le fun t ht => h t (List.mem_cons_of_mem _ ht)) (h s List.mem_cons_self)
def vl (v : List (Str × Int)) (n : Str) : Int := (dget v n).getD 0
theorem vl_get {v : List (Str × Int)} {n : Str} (h : n ∈ keys v) : dget v n = some (vl v n) := by
  obtain ⟨x, e⟩ := dget_some h
  unfold vl
  rw [e]; rfl
theorem zip_keys {ns : List Str} {row : Row} (hl : row.length = ns.length) : (ns.zip row).map Prod.fst = ns := by
  rw [← List.unzip_fst, List.unzip_zip (by omega)]
theorem getB_put {B : Box} {k j : Str} {x : List Int} : getB (dput B k x) j = if j = k then x else getB B j := by
  unfold getB
  rw [get_put]
  split <;> rfl
theorem PR_len_le {c : Nat} {ns : List Str} {B : Box} (hb : ∀ k ∈ ns, (getB B k).length ≤ c) : (PR ns B).length ≤ c ^ ns.length := by
  have := len_le (c := c) (ss := ns.map (getB B)) fun s hs => by
    obtain ⟨k, hk, e⟩ := List.mem_map.mp hs
    rw [← e]; exact hb k hk
  rwa [List.length_map] at this
theorem vl_mem {v : List (Str × Int)} (nd : (keys v).Nodup) {p : Str × Int} (h : p ∈ v) : vl v p.1 = p.2 := by
  unfold vl
  rw [mem_dget nd h]; rfl
theorem flat_congr {α β : Type} {f g : α → List β} : ∀ {xs : List α}, (∀ x ∈ xs, f x = g x) → xs.flatMap f = xs.flatMap g
  | [], _ => rfl
  | x :: xs, h => by rw [List.flatMap_cons, List.flatMap_cons, h x List.mem_cons_self, flat_congr fun y hy => h y (List.mem_cons_of_mem _ hy)]
theorem flat_len {α β δ : Type} {s : List δ} {f : α → δ → β} : ∀ {xs : List α}, (xs.flatMap fun x => s.map (f x)).length = xs.length * s.length
  | [] => by simp
  | x :: xs => by rw [List.flatMap_cons, List.length_append, List.length_map, flat_len, List.length_cons, Nat.add_mul, Nat.one_mul, Nat.add_comm]
theorem PR_snoc {p : List Str} {k : Str} {B : Box} : PR (p ++ [k]) B = (PR p B).flatMap fun r => (getB B k).map fun v => r ++ [v] := by
  unfold PR
  rw [List.map_append, List.map_singleton, pr_snoc]
theorem asg_loop {ns : List Str} {B : Box} {c : Nat} (h : ∀ k ∈ ns, k ∈ keys B) (nd : ns.Nodup) (hb : ∀ k ∈ ns, (getB B k).length ≤ c) (hc : c ^ ns.length ≤ 100000) (c1 : 1 ≤ c) (hl : ns.length ≤ 20) : forS ns ([([] : List (Str × Int))] : List (List (Str × Int))) (fun x291 s290 => (some ([] : List (List (Str × Int)))).bind fun x293 => (forS s290 (x293 : (List (List (Str × Int)))) fun x299 s298 => (dget B x291).bind fun x303 => (forS x303 (s298 : (List (List (Str × Int)))) fun x306 s305 => (some (x299 : List (Str × Int))).bind fun x308 => grd (x308.length < sizeLine) (grd (s305.length < sizeLine) (some (s305 ++ [(dput x308 x291 x306)])))).bind fun s307 => some s307).bind fun s300 => (some (s300 : List (List (Str × Int)))).bind fun x301 => some x301) = some ((PR ns B).map fun q => ns.zip q) := by
  have hz := sz
  refine wp_is (wp_for (fun p s => s = (PR p B).map fun q => p.zip q) rfl ?_ fun s h => h)
  rintro p k t s e rfl
  have hkp : k ∉ p := nd_split nd e
  have hpl := len_split e
  have hsz : (PR (p ++ [k]) B).length ≤ 100000 := by
    have h1 := PR_len_le (c := c) (ns := p ++ [k]) (B := B) fun k hk => hb k (by rw [e]; simp at hk ⊢; rcases hk with h | h; exact .inl h; exact .inr (.inl h))
    have h2 : c ^ (p ++ [k]).length ≤ c ^ ns.length := Nat.pow_le_pow_right c1 (by rw [List.length_append, List.length_singleton]; omega)
    omega
  have hsl : (PR (p ++ [k]) B).length = (PR p B).length * (getB B k).length := by rw [PR_snoc]; exact flat_len
  refine wp_let (wp_bind (wp_for (fun q g => g = q.flatMap fun x => (getB B k).map fun v => dput x k v) rfl ?_ ?_))
  · rintro q x u g eq rfl
    obtain ⟨r, hr, ex⟩ := List.mem_map.mp (mem_split eq)
    have hrl : r.length = p.length := (mem_PR.mp hr).1
    have hxl : x.length = p.length := by rw [← ex, List.length_zip]; omega
    have hq := len_split eq
    rw [List.length_map] at hq
    refine wp_eq (dget_B (h k (mem_split e))) (wp_bind (wp_for (fun w g => g = (q.flatMap fun x => (getB B k).map fun v => dput x k v) ++ w.map fun v => dput x k v) (by simp) ?_ ?_))
    · rintro w v z g ew rfl
      have hw := len_split ew
      refine wp_let (wp_grd (by omega) (wp_grd ?_ (wp_some ?_)))
      · rw [List.length_append, flat_len, List.length_map]
        have h3 : (q.length + 1) * (getB B k).length ≤ (PR p B).length * (getB B k).length := Nat.mul_le_mul_right _ hq
        rw [Nat.add_mul, Nat.one_mul] at h3
        omega
      · rw [List.map_append, List.map_singleton, List.append_assoc]
    · rintro g rfl
      refine wp_some ?_
      rw [List.flatMap_append, List.flatMap_singleton]
  · rintro g rfl
    refine wp_let (wp_some ?_)
    rw [PR_snoc, List.map_flatMap, List.flatMap_map]
    refine flat_congr fun r hr => ?_
    have hrl : r.length = p.length := (mem_PR.mp hr).1
    rw [List.map_map]
    refine List.map_congr_left fun v _ => ?_
    show dput (p.zip r) k v = (p ++ [k]).zip (r ++ [v])
    rw [List.zip_append (by omega), dput_new fun z => hkp (by
      have z : k ∈ (p.zip r).map Prod.fst := z
      rwa [zip_keys hrl] at z)]
    rfl
theorem asg_ok {ns : List Str} {B : Box} {c : Nat} (h : ∀ k ∈ ns, k ∈ keys B) (nd : ns.Nodup) (hb : ∀ k ∈ ns, (getB B k).length ≤ c) (hc : c ^ ns.length ≤ 100000) (c1 : 1 ≤ c) (hl : ns.length ≤ 20) : M_l_assignments ns B = some ((PR ns B).map (fun q => ns.zip q)) := by
  apply wp_is
  unfold M_l_assignments
  exact wp_let (wp_eq (asg_loop h nd hb hc c1 hl) (wp_some rfl))
theorem cut_mid {α : Type} {xs : List α} {i j : Int} (h0 : 0 ≤ i) (h1 : i ≤ j) (h2 : j ≤ xs.length) : cutL xs (some i) (some j) = (xs.drop i.toNat).take (j.toNat - i.toNat) := by
  unfold cutL
  have e1 : HT.sIx xs.length 0 (some i) = min i.toNat xs.length := by
    unfold HT.sIx; simp only; rw [if_neg (by omega)]
  have e2 : HT.sIx xs.length xs.length (some j) = min j.toNat xs.length := by
    unfold HT.sIx; simp only; rw [if_neg (by omega)]
  rw [e1, e2, Nat.min_eq_left (by omega), Nat.min_eq_left (by omega)]
theorem perm_pull {α : Type} {xs : List α} {k a : Nat} {y : α} (h1 : k ≤ a) (hy : xs[a]? = some y) : (((xs.take k ++ [y]) ++ (xs.drop k).take (a - k)) ++ xs.drop (a + 1)).Perm xs := by
  obtain ⟨q1, q2⟩ := List.getElem?_eq_some_iff.mp hy
  have e1 : xs.drop k = (xs.drop k).take (a - k) ++ y :: xs.drop (a + 1) := by
    have e3 : (xs.drop k).drop (a - k) = y :: xs.drop (a + 1) := by
      rw [List.drop_drop, show k + (a - k) = a by omega, ← q2, ← List.drop_eq_getElem_cons q1]
    rw [← e3, List.take_append_drop]
  refine List.Perm.trans ?_ (List.Perm.of_eq (List.take_append_drop k xs))
  rw [List.append_assoc, List.append_assoc]
  refine List.Perm.append_left _ ?_
  refine List.Perm.trans ?_ (List.Perm.of_eq e1.symm)
  show (y :: ((xs.drop k).take (a - k) ++ xs.drop (a + 1))).Perm _
  exact List.perm_middle.symm
theorem scope_wp {s : List Int} {ns : List Str} {m : Int} (hs : Stm s) (h0 : 0 < ns.length) (hl : ns.length ≤ 20) (hm : 1 ≤ m) : Wp (M_l_scope s ns m) fun r => (∃ z : List Str, z.Perm ns ∧ ∃ i : Nat, 1 ≤ i ∧ (i : Int) ≤ m ∧ i ≤ ns.length ∧ r.1 = z.take i) ∧ Stm r.2 := by
  have hz := sz
  unfold M_l_scope
  refine wp_let (wp_grd (rg_lt (by omega) (by omega)) (wp_bind (wp_for (fun _ (st : List Str × List Int) => st.1.Perm ns ∧ Stm st.2) ⟨List.Perm.refl _, hs⟩ ?_ ?_)))
  · rintro p x t ⟨z, st⟩ e ⟨hp, hst⟩
    have ex := rngL_split e
    have hzl : z.length = ns.length := hp.length_eq
    have hx : p.length < ns.length := by omega
    refine wp_next hst (by omega) (by omega) fun a t a0 a1 ht => wp_let (wp_bind (wp_at (by omega) (by show x + a < z.length; omega) fun y hy hyi => ?_))
    dsimp only
    rw [cut_take (by omega), cut_mid (by omega) (by omega) (by omega), cut_drop (by omega)]
    have e1 : (x + a + 1).toNat = (x + a).toNat + 1 := by omega
    have hpm : (((z.take x.toNat ++ [y]) ++ (z.drop x.toNat).take ((x + a).toNat - x.toNat)) ++ z.drop ((x + a).toNat + 1)).Perm z := perm_pull (k := x.toNat) (a := (x + a).toNat) (by omega) hyi
    have hll := hpm.length_eq
    rw [e1]
    rw [List.length_append, List.length_append, List.length_append] at hll
    refine wp_grd (by omega) (wp_grd (by rw [List.length_append]; omega) (wp_grd (by rw [List.length_append, List.length_append]; omega) (wp_let (wp_some ⟨hpm.trans hp, ht⟩))))
  · rintro ⟨z, st⟩ ⟨hp, hst⟩
    refine wp_next hst (by omega) (by omega) fun a t a0 a1 ht => wp_some ⟨⟨z, hp, (1 + a).toNat, by omega, by omega, by omega, ?_⟩, ht⟩
    show cutL z none (some (1 + a)) = _
    rw [cut_take (by omega)]
end My
end
section
namespace My
open PySem PySem.Spec PyProof.Rows L2 L3
def valW (W : List Tw) (v : List (Str × Int)) : Int := (W.map fun t => t.1 * vl v t.2).sum
structure Wk (ns : List Str) (W : List Tw) : Prop where
  mem : ∀ t ∈ W, t.2 ∈ ns
  nd : (W.map Prod.snd).Nodup
  sm : ∀ t ∈ W, sm t.1 = true
  ln : W.length ≤ 6
theorem worth_ok {W : List Tw} {v : List (Str × Int)} (hk : ∀ t ∈ W, t.2 ∈ keys v) (hs : ∀ t ∈ W, sm t.1 = true) : M_worth_of W v = some (valW W v) := by
  apply wp_is
  unfold M_worth_of
  refine wp_eq (compM_map (g := fun t : Tw => t.1 * vl v t.2) fun x hx => ?_) (wp_some rfl)
  rw [if_pos rfl, vl_get (hk x hx)]
  simp only [Option.bind_some]
  rw [gp (by rw [hs x hx]; rfl)]
def lst (xs : List Int) : Int := (xs.getLast?).getD 0
def fst' (xs : List Int) : Int := xs.headD 0
theorem at_last {xs : List Int} (h : xs ≠ []) : atI xs (-(1 : Int)) = some (lst xs) := by
  have e := List.dropLast_concat_getLast h
  rw [← e, atI_last]
  unfold lst
  rw [List.getLast?_concat]; rfl
theorem at_first {xs : List Int} (h : xs ≠ []) : atI xs (0 : Int) = some (fst' xs) := by
  cases xs with
  | nil => exact absurd rfl h
  | cons a l => rw [atI_get (by decide) (by simp)]; rfl
theorem last_mem {xs : List Int} (h : xs ≠ []) : lst xs ∈ xs := by
  unfold lst
  rw [List.getLast?_eq_some_getLast h]
  exact List.getLast_mem h
theorem first_mem {xs : List Int} (h : xs ≠ []) : fst' xs ∈ xs := by
  cases xs with
  | nil => exact absurd rfl h
  | cons a l => exact List.mem_cons_self
theorem first_le {xs : List Int} (h : xs.Pairwise (· < ·)) {y : Int} (hy : y ∈ xs) : fst' xs ≤ y := by
  cases xs with
  | nil => cases hy
  | cons a l =>
    show a ≤ y
    rcases List.mem_cons.mp hy with e | hy
    · omega
    · have := (List.pairwise_cons.mp h).1 y hy; omega
theorem last_ge {xs : List Int} (h : xs.Pairwise (· < ·)) {y : Int} (hy : y ∈ xs) : y ≤ lst xs := by
  have hn : xs ≠ [] := fun z => by rw [z] at hy; cases hy
  have e := List.dropLast_concat_getLast hn
  have el : lst xs = xs.getLast hn := by unfold lst; rw [List.getLast?_eq_some_getLast hn]; rfl
  rw [el]
  rw [← e] at h hy
  rcases List.mem_append.mp hy with z | z
  · have := (List.pairwise_append.mp h).2.2 y z _ (List.mem_singleton.mpr rfl); omega
  · rw [List.mem_singleton.mp z]; exact Int.le_refl _
def endT (B : Box) (g : Bool) (t : Tw) : Int := if decide (0 < t.1) = g then lst (getB B t.2) else fst' (getB B t.2)
def bst (B : Box) (g : Bool) (W : List Tw) : Int := (W.map fun t => t.1 * endT B g t).sum
theorem sum_snoc {xs : List Int} {y : Int} : (xs ++ [y]).sum = xs.sum + y := by
  rw [List.sum_append]; simp
theorem best_ok {W : List Tw} {B : Box} {g : Bool} (hk : ∀ t ∈ W, t.2 ∈ keys B) (hn : ∀ t ∈ W, getB B t.2 ≠ []) (hs : ∀ t ∈ W, sm t.1 = true) : M_best_in W B g = some (bst B g W) := by
  apply wp_is
  unfold M_best_in
  refine wp_let (wp_bind (wp_for (fun p s => s = (p.map fun t => t.1 * endT B g t).sum) rfl ?_ fun s h => wp_some h))
  rintro p x t s e rfl
  have hx := mem_split e
  refine wp_eq (dget_B (hk x hx)) (wp_eq (at_first (hn x hx)) (wp_let (wp_eq (a := endT B g x) ?_ (wp_grd (by rw [hs x hx]; rfl) (wp_let (wp_some ?_))))))
  · unfold endT
    by_cases c : decide (0 < x.1) = g
    · rw [if_pos (decide_eq_true c), if_pos c, dget_B (hk x hx)]
      simp only [Option.bind_some]
      rw [at_last (hn x hx)]; rfl
    · rw [if_neg (by simpa using c), if_neg c]
  · rw [List.map_append, List.map_singleton, sum_snoc]
theorem sum_le2 {f g : Tw → Int} : ∀ {W : List Tw}, (∀ t ∈ W, f t ≤ g t) → (W.map f).sum ≤ (W.map g).sum
  | [], _ => Int.le_refl _
  | t :: W, h => by
    rw [List.map_cons, List.map_cons, List.sum_cons, List.sum_cons]
    have := h t List.mem_cons_self
    have := sum_le2 (W := W) fun u hu => h u (List.mem_cons_of_mem _ hu)
    omega
section
variable {W : List Tw} {B : Box} {v : List (Str × Int)}
theorem low_le (up : ∀ t ∈ W, (getB B t.2).Pairwise (· < ·)) (hv : ∀ t ∈ W, vl v t.2 ∈ getB B t.2) : bst B false W ≤ valW W v := by
  refine sum_le2 fun t ht => ?_
  unfold endT
  by_cases c : 0 < t.1
  · rw [if_neg (by simp [c])]
    exact Int.mul_le_mul_of_nonneg_left (first_le (up t ht) (hv t ht)) (by omega)
  · rw [if_pos (by simpa using c)]
    exact Int.mul_le_mul_of_nonpos_left (by omega) (last_ge (up t ht) (hv t ht))
theorem le_high (up : ∀ t ∈ W, (getB B t.2).Pairwise (· < ·)) (hv : ∀ t ∈ W, vl v t.2 ∈ getB B t.2) : valW W v ≤ bst B true W := by
  refine sum_le2 fun t ht => ?_
  unfold endT
  by_cases c : 0 < t.1
  · rw [if_pos (by simpa using c)]
    exact Int.mul_le_mul_of_nonneg_left (last_ge (up t ht) (hv t ht)) (by omega)
  · rw [if_neg (by simpa using c)]
    exact Int.mul_le_mul_of_nonpos_left (by omega) (first_le (up t ht) (hv t ht))
end
def evW (B : Box) (g : Bool) (W : List Tw) (n : Str) : Int := match W.find? (fun t => decide (t.2 = n)) with
  | some t => endT B g t
  | none => fst' (getB B n)
theorem end_mem {B : Box} {g : Bool} {t : Tw} (h : getB B t.2 ≠ []) : endT B g t ∈ getB B t.2 := by
  unfold endT
  split
  · exact last_mem h
  · exact first_mem h
theorem ev_mem {B : Box} {g : Bool} {W : List Tw} {n : Str} (h : getB B n ≠ []) : evW B g W n ∈ getB B n := by
  unfold evW
  split
  · rename_i t e
    have := List.find?_some e
    have this : t.2 = n := by simpa using this
    rw [← this] at h ⊢
    exact end_mem h
  · exact first_mem h
theorem ev_at {B : Box} {g : Bool} : ∀ {W : List Tw}, (W.map Prod.snd).Nodup → ∀ t ∈ W, evW B g W t.2 = endT B g t
  | [], _, _, h => nomatch h
  | u :: W, nd, t, h => by
    rw [List.map_cons, List.nodup_cons] at nd
    unfold evW
    by_cases c : u.2 = t.2
    · have : t = u := by
        rcases List.mem_cons.mp h with h | h
        · exact h
        · exact absurd (List.mem_map.mpr ⟨t, h, c.symm⟩) nd.1
      rw [this, List.find?_cons_of_pos (by simp)]
    · rw [List.find?_cons_of_neg (by simpa using c)]
      have ht : t ∈ W := by
        rcases List.mem_cons.mp h with h | h
        · rw [h] at c; exact absurd rfl c
        · exact h
      exact ev_at nd.2 t ht
def asg (ns : List Str) (B : Box) : List (List (Str × Int)) := (PR ns B).map fun q => ns.zip q
theorem asg_in {ns : List Str} {B : Box} (nd : ns.Nodup) {v : List (Str × Int)} (h : v ∈ asg ns B) : keys v = ns ∧ ∀ n ∈ ns, vl v n ∈ getB B n := by
  obtain ⟨q, hq, rfl⟩ := List.mem_map.mp h
  obtain ⟨h1, h2⟩ := mem_PR.mp hq
  refine ⟨zip_keys h1, fun n hn => ?_⟩
  obtain ⟨i, hi, e⟩ := List.getElem_of_mem hn
  have hm : (ns[i], q[i]'(by omega)) ∈ ns.zip q := List.mem_iff_getElem.mpr ⟨i, by rw [List.length_zip]; omega, List.getElem_zip⟩
  have hk : (keys (ns.zip q)).Nodup := by show ((ns.zip q).map Prod.fst).Nodup; rw [zip_keys h1]; exact nd
  have := vl_mem hk hm
  rw [← e, this]
  unfold insB at h2
  rw [List.all_eq_true] at h2
  exact of_decide_eq_true (h2 _ hm)
theorem asg_of {ns : List Str} {B : Box} {g : Str → Int} (hg : ∀ n ∈ ns, g n ∈ getB B n) : ns.zip (ns.map g) ∈ asg ns B := by
  refine List.mem_map.mpr ⟨_, mem_PR.mpr ⟨List.length_map _, ?_⟩, rfl⟩
  unfold insB
  rw [List.all_eq_true]
  intro p hp
  obtain ⟨i, hi, ep⟩ := List.getElem_of_mem hp
  rw [List.getElem_zip, List.getElem_map] at ep
  rw [← ep]
  exact decide_eq_true (hg _ (List.getElem_mem _))
theorem vl_zip {ns : List Str} {g : Str → Int} (nd : ns.Nodup) {n : Str} (hn : n ∈ ns) : vl (ns.zip (ns.map g)) n = g n := by
  have h1 : (ns.map g).length = ns.length := List.length_map _
  obtain ⟨i, hi, e⟩ := List.getElem_of_mem hn
  have hm : (ns[i], (ns.map g)[i]'(by omega)) ∈ ns.zip (ns.map g) := List.mem_iff_getElem.mpr ⟨i, by rw [List.length_zip]; omega, List.getElem_zip⟩
  have hk : (keys (ns.zip (ns.map g))).Nodup := by show ((ns.zip (ns.map g)).map Prod.fst).Nodup; rw [zip_keys h1]; exact nd
  have := vl_mem hk hm
  rw [List.getElem_map] at this
  rw [← e]
  exact this
structure Bk (ns : List Str) (B : Box) : Prop where
  ok : BoxOk B
  ks : ∀ k ∈ ns, k ∈ keys B
  ne : ∀ k ∈ ns, getB B k ≠ []
  ln : B.length ≤ 20
theorem tot_min {ns : List Str} {W : List Tw} {B : Box} (nd : ns.Nodup) (hW : Wk ns W) (hB : Bk ns B) : minI ((asg ns B).map (valW W)) = some (bst B false W) ∧ maxI ((asg ns B).map (valW W)) = some (bst B true W) := by
  have up : ∀ t ∈ W, (getB B t.2).Pairwise (· < ·) := fun t _ => (hB.ok.get t.2).lt
  have ach : ∀ g, bst B g W ∈ (asg ns B).map (valW W) := fun g => by
    refine List.mem_map.mpr ⟨_, asg_of (g := evW B g W) fun n hn => ev_mem (hB.ne n hn), ?_⟩
    unfold valW bst
    congr 1
    refine List.map_congr_left fun t ht => ?_
    rw [vl_zip nd (hW.mem t ht), ev_at hW.nd t ht]
  have lo : ∀ y ∈ (asg ns B).map (valW W), bst B false W ≤ y ∧ y ≤ bst B true W := fun y hy => by
    obtain ⟨v, hv, rfl⟩ := List.mem_map.mp hy
    have := (asg_in nd hv).2
    exact ⟨low_le up fun t ht => this _ (hW.mem t ht), le_high up fun t ht => this _ (hW.mem t ht)⟩
  generalize (asg ns B).map (valW W) = L at ach lo ⊢
  cases L with
  | nil => cases ach false
  | cons x xs =>
    obtain ⟨m1, m2⟩ := L3.fold_min xs x
    obtain ⟨k1, k2⟩ := L3.fold_max xs x
    refine ⟨congrArg some (Int.le_antisymm (m2 _ (ach false)) (lo _ m1).1), congrArg some (Int.le_antisymm (lo _ k1).2 (k2 _ (ach true)))⟩
end My
end
section
namespace My
open PySem PySem.Spec PyProof.Rows L2 L3
theorem okW {W : List Tw} (h : ∀ t ∈ W, strOk t.2 = true) : okG (dgL (dgT2 dgInt dgStr)) W W = true := by
  have : (W.all fun x => (true && strOk x.2)) = true := by
    rw [List.all_eq_true]
    intro x hx
    rw [h x hx]; rfl
  show ((W.all fun x => (true && strOk x.2)) && (W.all fun x => (true && strOk x.2))) = true
  rw [this]; rfl
theorem isi (j : Int) : M_l_is_integer j = some true := by unfold M_l_is_integer; rfl
theorem totals_ok {ns : List Str} {W : List Tw} {B : Box} {z : Str} {c : Nat} (nd : ns.Nodup) (hW : Wk ns W) (ho : ∀ t ∈ W, strOk t.2 = true) (hB : Bk ns B) (hb : ∀ k ∈ ns, (getB B k).length ≤ c) (hc : c ^ ns.length ≤ 100000) (c1 : 1 ≤ c) (hl : ns.length ≤ 20) (hz : z ∉ ns) : M_l_totals W ns B z = some ((asg ns B).map (valW W)) := by
  have hsz := sz
  apply wp_is
  unfold M_l_totals
  refine wp_let (wp_eq (asg_ok hB.ks nd hb hc c1 hl) (wp_bind (wp_forL (fun p s => s = p.map (valW W)) rfl ?_ fun s h => wp_some h)))
  have hal : (asg ns B).length ≤ 100000 := by
    unfold asg
    rw [List.length_map]
    exact Nat.le_trans (PR_len_le hb) hc
  rintro p v t s e rfl
  have hv : v ∈ asg ns B := mem_split e
  have hk := (asg_in nd hv).1
  have hpl := len_split e
  have hpl : p.length < (asg ns B).length := hpl
  have hvn : (keys v).Nodup := by rw [hk]; exact nd
  have hvl : v.length = ns.length := by rw [← keys_len, hk]
  have hm : ∀ t ∈ W, t.2 ∈ keys v := fun t ht => by rw [hk]; exact hW.mem t ht
  have e1 : forS W (0 : Int) (fun x401 s400 => (dget v (x401.2)).bind fun x426 => grd ((sm (x401.1) || sm x426) = true) ((some ((s400 + ((x401.1) * x426)) : Int)).bind fun x427 => some x427)) = some (valW W v) := by
    refine wp_is (wp_for (fun p s => s = (p.map fun t => t.1 * vl v t.2).sum) rfl ?_ fun s h => h)
    rintro p x t s e rfl
    have hx := mem_split e
    refine wp_eq (vl_get (hm x hx)) (wp_grd (by rw [hW.sm x hx]; rfl) (wp_let (wp_some ?_)))
    rw [List.map_append, List.map_singleton, sum_snoc]
  have hsh : ∃ u : List (Str × Int), (if (dhas B z) = true then grd (v.length < sizeLine) (some (dput v z (7 : Int))) else some v) = some u ∧ (keys u).Nodup ∧ (∀ t ∈ W, t.2 ∈ keys u) ∧ valW W u = valW W v := by
    by_cases c : dhas B z = true
    · refine ⟨_, by rw [if_pos c, gp (by omega)], nodup_put hvn, fun t ht => mem_keys_put.mpr (.inl (hm t ht)), ?_⟩
      unfold valW
      congr 1
      refine List.map_congr_left fun t ht => ?_
      unfold vl
      rw [get_put_ne fun e => hz (by rw [← e]; exact hW.mem t ht)]
    · exact ⟨v, by rw [if_neg c], hvn, hm, rfl⟩
  obtain ⟨u, u1, u2, u3, u4⟩ := hsh
  refine wp_let (wp_eq e1 (wp_let (wp_eq u1 (wp_let (wp_let (wp_eq (worth_ok u3 hW.sm) (wp_let (wp_eq (isi _) ?_))))))))
  rw [u4]
  refine wp_eq (a := (false, ())) ?_ ?_
  · rw [if_neg (by decide), if_neg (by simp), gp (okW ho), if_neg (by simp), deq_self u2]; rfl
  · rw [if_neg (by decide)]
    refine wp_grd (by rw [List.length_map]; omega) (wp_some ?_)
    show p.map (valW W) ++ [valW W v] = (p ++ [v]).map (valW W)
    rw [List.map_append]; rfl
theorem bounds_ok {ns : List Str} {W : List Tw} {B : Box} (hW : Wk ns W) (ho : ∀ t ∈ W, strOk t.2 = true) (hB : Bk ns B) : M_l_bounds W B (bst B false W) (bst B true W) = some true := by
  have hb : ∀ g, M_best_in W B g = some (bst B g W) := fun g => best_ok (fun t ht => hB.ks _ (hW.mem t ht)) (fun t ht => hB.ne _ (hW.mem t ht)) hW.sm
  have hs := same_ok hB.ok
  have hl := hB.ln
  unfold M_l_bounds
  rw [copy_ok hB.ok.nd (by omega)]
  simp only [Option.bind_some]
  rw [gp (by rfl), forL_go fun i _ => by
    rw [hb, hb]
    simp only [Option.bind_some]
    rw [isi, isi]
    simp only [Option.bind_some]
    rw [show (if (!true) = true then some (true, ()) else (if (!true) = true then some (true, ()) else some ((!true), ())).bind fun c455 => some (c455.1, ())) = some (false, ()) from rfl]
    simp only [Option.bind_some]
    rw [if_neg (by decide), if_neg (by simp), gp (okW ho), if_neg (by simp), hs]
    rfl]
  rfl
theorem weights_wp {s : List Int} {ns : List Str} (hs : Stm s) (nd : ns.Nodup) (hl : ns.length ≤ 20) : Wp (M_l_weights s ns) fun r => Wk ns r.1 ∧ Stm r.2 := by
  have hz := sz
  unfold M_l_weights
  refine wp_let (wp_next hs (by decide) (by decide) fun a t a0 a1 ht => wp_bind (wp_at a0 (by simpa using a1) fun sc hsc _ => wp_let ?_))
  have hsc2 : 0 < sc ∧ sc ≤ 100000 := by
    simp only [List.mem_cons, List.not_mem_nil, or_false] at hsc
    rcases hsc with h | h | h | h | h | h | h | h <;> subst h <;> exact ⟨by decide, by decide⟩
  refine wp_ite (fun _ => wp_some ⟨⟨(fun _ h => nomatch h), List.nodup_nil, (fun _ h => nomatch h), Nat.zero_le _⟩, ht⟩) fun hn => ?_
  have hn : 0 < ns.length := by simp at hn; exact List.length_pos_iff.mpr hn
  refine wp_then (scope_wp ht hn hl (by decide)) fun r ⟨⟨z, hp, i, i1, i2, i3, ez⟩, hr⟩ => ?_
  have hzn : z.Nodup := hp.nodup_iff.mpr nd
  have hsn : (r.1).Nodup := by rw [ez]; exact hzn.sublist (List.take_sublist _ _)
  have hsl : (r.1).length ≤ 6 := by rw [ez, List.length_take]; omega
  have hsm : ∀ x ∈ r.1, x ∈ ns := fun x hx => hp.mem_iff.mp (by rw [ez] at hx; exact List.mem_of_mem_take hx)
  refine wp_bind (wp_for (fun p (st : List Tw × List Int) => ((∀ t ∈ st.1, t.2 ∈ p) ∧ (st.1.map Prod.snd).Nodup ∧ (∀ t ∈ st.1, sm t.1 = true) ∧ st.1.length ≤ p.length) ∧ Stm st.2) ⟨⟨(fun _ h => nomatch h), List.nodup_nil, (fun _ h => nomatch h), Nat.le_refl _⟩, hr⟩ ?_ ?_)
  · rintro p x t ⟨W, st⟩ e ⟨⟨w1, w2, w3, w4⟩, hst⟩
    have hpl := len_split e
    have hxp := nd_split hsn e
    dsimp only at w1 w2 w3 w4
    refine wp_next hst (by decide) (by decide) fun b t b0 b1 ht => wp_bind (wp_ite (fun _ => ?_) fun _ => wp_some (wp_some ⟨⟨fun t ht => List.mem_append_left _ (w1 t ht), w2, w3, by show W.length ≤ (p ++ [x]).length; rw [List.length_append]; omega⟩, ht⟩))
    refine wp_next ht (by decide) (by decide) fun c t c0 c1 ht => wp_next ht (by decide) (by decide) fun d t d0 d1 ht => wp_bind (wp_at d0 (by simpa using d1) fun sg hsg _ => ?_)
    have hsg2 : sg = 1 ∨ sg = -1 := by
      simp only [List.mem_cons, List.not_mem_nil, or_false] at hsg
      exact hsg
    have hcs : -3 ≤ c * sg ∧ c * sg ≤ 3 := by rcases hsg2 with h | h <;> subst h <;> omega
    have hsc3 : sm (c * sg * sc) = true := by
      have a1 : c * sg * sc ≤ 3 * sc := Int.mul_le_mul_of_nonneg_right hcs.2 (by omega)
      have a2 : -3 * sc ≤ c * sg * sc := Int.mul_le_mul_of_nonneg_right hcs.1 (by omega)
      exact sm_lt (by omega) (by omega)
    refine wp_grd (by rw [sm_lt (by omega) (by omega)]; rfl) (wp_let (wp_grd (by rw [sm_lt (i := c * sg) (by omega) (by omega)]; rfl) (wp_grd (by show W.length < _; omega) (wp_some (wp_some ⟨⟨fun t ht => ?_, ?_, fun t ht => ?_, ?_⟩, ht⟩)))))
    · rcases List.mem_append.mp ht with h | h
      · exact List.mem_append_left _ (w1 t h)
      · rw [List.mem_singleton.mp h]; exact List.mem_append_right _ (List.mem_singleton.mpr rfl)
    · show ((W ++ [_]).map Prod.snd).Nodup
      rw [List.map_append, List.map_singleton]
      refine List.nodup_append.mpr ⟨w2, List.pairwise_singleton _ _, fun y hy k hk e => ?_⟩
      obtain ⟨t, ht, rfl⟩ := List.mem_map.mp hy
      rw [List.mem_singleton.mp hk] at e
      exact hxp (by rw [← show t.2 = x from e]; exact w1 t ht)
    · rcases List.mem_append.mp ht with h | h
      · exact w3 t h
      · rw [List.mem_singleton.mp h]; exact hsc3
    · show (W ++ [_]).length ≤ (p ++ [x]).length
      rw [List.length_append, List.length_append]
      show W.length + 1 ≤ p.length + 1
      omega
  · rintro ⟨W, st⟩ ⟨⟨w1, w2, w3, w4⟩, hst⟩
    exact wp_some ⟨⟨fun t ht => hsm _ (w1 t ht), w2, w3, Nat.le_trans w4 hsl⟩, hst⟩
theorem spoilt_wp {s : List Int} {W : List Tw} {z : Str} (hs : Stm s) (hl : W.length ≤ 6) (ho : ∀ t ∈ W, strOk t.2 = true) (hz2 : strOk z = true) : Wp (M_l_spoilt s W z) fun r => (r.1.length ≤ 8 ∧ ∀ t ∈ r.1, strOk t.2 = true) ∧ Stm r.2 := by
  have hz := sz
  unfold M_l_spoilt
  refine wp_let (wp_next hs (by decide) (by decide) fun a t a0 a1 ht => wp_grd (rg_lt (by omega) (by omega)) (wp_bind (wp_for (fun p (st : List Tw × List Int) => (st.1.length = W.length + p.length ∧ ∀ t ∈ st.1, strOk t.2 = true) ∧ Stm st.2) ⟨⟨rfl, ho⟩, ht⟩ ?_ ?_)))
  · rintro p x t ⟨V, st⟩ e ⟨⟨v1, v2⟩, hst⟩
    have hp := (rngL_split e).2
    have v1 : V.length = W.length + p.length := v1
    have v2 : ∀ t ∈ V, strOk t.2 = true := v2
    have hp2 : p.length < 2 := by dsimp only at hp; omega
    dsimp only
    refine wp_next hst (by omega) (by omega) fun b t b0 b1 ht => wp_let (wp_let ?_)
    have h1 : Wp (if (decide ((0 : Int) < (V.length : Int))) = true then (M_l_next t (2 : Int)).bind fun r313 => some ((decide ((r313.1) = (0 : Int))), r313.2) else some (false, t)) fun r => (r.1 = true → 0 < V.length) ∧ Stm r.2 := wp_ite (fun c => wp_next ht (by decide) (by decide) fun b t b0 b1 ht => wp_some ⟨fun _ => by simpa using c, ht⟩) fun _ => wp_some ⟨(fun h => nomatch h), ht⟩
    refine wp_then h1 fun r ⟨hr, hst⟩ => ?_
    have h2 : Wp (if r.1 = true then (M_l_next (r.2) (V.length : Int)).bind fun r320 => (atI V (r320.1)).bind fun x321 => (some (x321.2 : Str)).bind fun x322 => some (x322, r320.2) else some (z, r.2)) fun q => strOk q.1 = true ∧ Stm q.2 := wp_ite (fun c => by
      have := hr c
      exact wp_next hst (by omega) (by omega) fun b t b0 b1 ht => wp_bind (wp_at b0 b1 fun y hy _ => wp_let (wp_some ⟨v2 y hy, ht⟩))) fun _ => wp_some ⟨hz2, hst⟩
    refine wp_then h2 fun q ⟨hq, hst⟩ => wp_next hst (by decide) (by decide) fun b t b0 b1 ht => ?_
    rw [cut_take (by omega), cut_drop (by omega)]
    refine wp_grd ?_ (wp_grd ?_ (wp_let (wp_some ⟨⟨?_, fun y hy => ?_⟩, ht⟩)))
    · rw [List.length_take, List.length_singleton]; omega
    · rw [List.length_append, List.length_take, List.length_drop, List.length_singleton]; omega
    · show ((_ ++ [_]) ++ _).length = _ + (p ++ [x]).length
      rw [List.length_append, List.length_append, List.length_append, List.length_take, List.length_drop, List.length_singleton, List.length_singleton]; omega
    · rcases List.mem_append.mp hy with h | h
      · rcases List.mem_append.mp h with h | h
        · exact v2 y (List.mem_of_mem_take h)
        · rw [List.mem_singleton.mp h]; exact hq
      · exact v2 y (List.mem_of_mem_drop h)
  · rintro ⟨V, st⟩ ⟨⟨v1, v2⟩, hst⟩
    refine wp_some ⟨⟨?_, v2⟩, hst⟩
    rw [rngL_len] at v1
    have v1 : V.length = W.length + (1 + a).toNat := v1
    show V.length ≤ 8
    omega
end My
end
section
namespace My
open PySem PySem.Spec PyProof.Rows L2 L3
abbrev Pz := (List (Str × List Int)) × (List Str) × Int × (List (Str × Empty)) × (List Str)
theorem dmk_nd {xs : Box} (nd : (keys xs).Nodup) : dmk xs = xs := by
  have h : ∀ {xs d : Box}, (keys (d ++ xs)).Nodup → xs.foldl (fun d p => dput d p.1 p.2) d = d ++ xs := by
    intro xs
    induction xs with
    | nil => intro d _; rw [List.append_nil]; rfl
    | cons p xs ih =>
      intro d nd
      have hp : p.1 ∉ keys d := fun z => by
        unfold keys at nd z
        rw [List.map_append, List.map_cons, List.nodup_append] at nd
        exact nd.2.2 _ z _ List.mem_cons_self rfl
      rw [List.foldl_cons, dput_new hp, ih (by rw [List.append_assoc]; exact nd), List.append_assoc]
      rfl
  exact h (d := []) nd
theorem keys_map {α β : Type} {f : α → β} {D : List (Str × α)} : keys (D.map fun p => (p.1, f p.2)) = keys D := by
  unfold keys
  rw [List.map_map]; rfl
theorem domains_ok {D : Box} (nd : (keys D).Nodup) (hl : D.length ≤ 20) (hs : ∀ p ∈ D, p.2.length ≤ 1000) : M_checked_domains D = some (.ok (D.map fun p => (p.1, sideL p.2))) := by
  have hz := sz
  have hb := sb
  apply wp_is
  unfold M_checked_domains
  refine wp_let (wp_bind (wp_forL (Q := fun o => Wp (boK (fun s55 : Box => (compM (s55.map Prod.fst) () (fun x57 s59 => if true = true then (dget s55 x57).bind fun x61 => some (some (x57, x61), ()) else some (none, ()))).bind fun r62 => some (Except.ok (ε := Er) (r62.1))) id o) fun r => r = .ok (D.map fun p => (p.1, sideL p.2))) (fun p s => s = p.map fun p => (p.1, sideL p.2)) rfl ?_ ?_))
  · rintro p x t s e rfl
    have hx := mem_split e
    have hpl := len_split e
    have hxp : x.1 ∉ keys (p.map fun p => (p.1, sideL p.2)) := by
      rw [keys_map (f := sideL)]
      have nd2 := nd
      unfold keys at nd2 ⊢
      rw [e, List.map_append, List.map_cons, List.nodup_append] at nd2
      exact fun z => nd2.2.2 _ z _ List.mem_cons_self rfl
    rw [if_neg (by rw [dhas_not.mpr hxp]; decide)]
    refine wp_eq (a := sideL x.2) ?_ (wp_grd (by rw [List.length_map]; omega) (wp_some ?_))
    · unfold M_side_of
      have := hs x hx
      rw [gp (by omega)]
    · show dput _ _ _ = (p ++ [x]).map _
      rw [dput_new hxp, List.map_append]; rfl
  · rintro s rfl
    have nd2 : (keys (D.map fun p => (p.1, sideL p.2))).Nodup := by rw [keys_map (f := sideL)]; exact nd
    generalize D.map (fun p => (p.1, sideL p.2)) = s at nd2 ⊢
    unfold boK
    refine wp_eq (compM_map (g := fun x => (x, getB s x)) fun x hx => ?_) (wp_some ?_)
    · rw [if_pos rfl, dget_B hx]; rfl
    · show Except.ok ((keys s).map _) = _
      rw [map_self nd2]
theorem puzzle_wp {D : Box} (nd : (keys D).Nodup) (hl : D.length ≤ 20) (hs : ∀ p ∈ D, p.2.length ≤ 1000) : Wp ((M_Puzzle___init__ D []).bind okx) fun r : Pz => keys r.1 = keys D := by
  unfold M_Puzzle___init__
  rw [domains_ok nd hl hs, Option.bind_some]
  have nd2 : (keys (D.map fun p => (p.1, sideL p.2))).Nodup := by rw [keys_map (f := sideL)]; exact nd
  have hk : keys (D.map fun p => (p.1, sideL p.2)) = keys D := keys_map
  have hle : ∀ p ∈ (D.map fun p => (p.1, sideL p.2)), p.2.length ≤ 1000 := fun p hp => by
    obtain ⟨q, hq, rfl⟩ := List.mem_map.mp hp
    exact Nat.le_trans (side_of_len q.2) (hs q hq)
  generalize D.map (fun p => (p.1, sideL p.2)) = s at nd2 hk hle
  unfold xK
  dsimp only
  rw [dmk_nd nd2]
  have hr : ∃ n, M_room s = some n := by
    have : Wp (M_room s) fun _ => True := by
      unfold M_room
      refine wp_let (wp_bind (wp_for (fun _ _ => True) trivial ?_ fun s _ => wp_some trivial))
      rintro p x t a e _
      have hx : x ∈ keys s := mem_split e
      have hm := dget_mem (dget_B hx)
      have h2 := hle _ hm
      have h2 : (getB s x).length ≤ 1000 := h2
      exact wp_eq (dget_B hx) (wp_grd (by rw [sm_lt (i := ((getB s x).length : Int)) (by omega) (by omega), Bool.or_true]) (wp_let (wp_some trivial)))
    obtain ⟨n, h, _⟩ := this
    exact ⟨n, h⟩
  obtain ⟨n, hn⟩ := hr
  rw [hn]
  simp only [Option.bind_some]
  unfold M_Puzzle_inner_add
  exact ⟨_, rfl, hk⟩
theorem forL_step {α S ρ : Type} {f : α → S → Option (Bo S (Tm S ρ))} {x : α} {xs : List α} {s s' : S} (h : f x s = some (.nx s')) : forL (x :: xs) s f = forL xs s' f := by
  show (f x s).bind _ = _
  rw [h]; rfl
theorem forL_ret {α S ρ : Type} {f : α → S → Option (Bo S (Tm S ρ))} {x : α} {xs : List α} {s : S} {r : ρ} (h : f x s = some (.tm (.rt r))) : forL (x :: xs) s f = some (.tm r) := by
  show (f x s).bind _ = _
  rw [h]; rfl
def flt (ns : List Str) : List Str → List Tw → Option (Bool × Str)
  | _, [] => none
  | seen, t :: es => if t.2 ∉ ns then some (true, t.2) else if t.2 ∈ seen then some (false, t.2) else flt ns (seen ++ [t.2]) es
def erT : Bool × Str → Er
  | (true, n) => ⟨"UnknownName", [.str n]⟩
  | (false, n) => ⟨"RepeatedName", [.str n]⟩
def ltT : Option (Bool × Str) → List Str
  | none => []
  | some (true, n) => ["unknown", n]
  | some (false, n) => ["repeated", n]
theorem worth_chk {z : Pz} {ns : List Str} {es : List Tw} (hk : keys z.1 = ns) (hl : es.length ≤ 1000) : M_checked_worth z es = some (match flt ns [] es with | none => .ok es | some f => .error (erT f)) := by
  have hz := sz
  have hc : ∀ n, M_Puzzle___contains__ z n = some (decide (n ∈ ns)) := fun n => by
    unfold M_Puzzle___contains__
    congr 1
    by_cases c : n ∈ ns
    · rw [decide_eq_true c]; exact dhas_iff.mpr (by rw [hk]; exact c)
    · rw [decide_eq_false c]; exact dhas_not.mpr (by rw [hk]; exact c)
  have go : ∀ (suf pre : List Tw), (pre ++ suf).length ≤ 1000 → (forL suf ((pre, pre.map Prod.snd) : List (Int × Str) × List Str) fun x549 s548 => (M_Puzzle___contains__ z (x549.2)).bind fun r552 => if (!r552) = true then inB (some ((fun e => Tm.rt ((Except.error e : Except Er (List (Int × Str))))) (⟨"UnknownName", [.str (x549.2)]⟩ : Er))) else if (decide ((x549.2) ∈ (s548.2))) = true then inB (some ((fun e => Tm.rt ((Except.error e : Except Er (List (Int × Str))))) (⟨"RepeatedName", [.str (x549.2)]⟩ : Er))) else grd ((s548.2).length < sizeLine) (grd ((s548.1).length < sizeLine) (some (Bo.nx (((s548.1) ++ [(x549.1, x549.2)]), ((s548.2) ++ [x549.2])))))).bind (boK (fun s550 => some (Except.ok (ε := Er) (s550.1))) id) = some (match flt ns (pre.map Prod.snd) suf with | none => .ok (pre ++ suf) | some f => .error (erT f)) := by
    intro suf
    induction suf with
    | nil =>
      intro pre _
      rw [List.append_nil]; rfl
    | cons t suf ih =>
      intro pre hl
      have hpl : pre.length < 1000 := by rw [List.length_append, List.length_cons] at hl; omega
      unfold flt
      by_cases c : t.2 ∈ ns
      · rw [if_neg (by simpa using c)]
        by_cases d : t.2 ∈ pre.map Prod.snd
        · rw [if_pos d, forL_ret (r := Except.error (⟨"RepeatedName", [.str t.2]⟩ : Er)) (by
            dsimp only
            rw [hc, Option.bind_some, if_neg (by simpa using c), if_pos (decide_eq_true d)]; rfl)]
          rfl
        · rw [if_neg d, forL_step (s' := (pre ++ [t], pre.map Prod.snd ++ [t.2])) (by
            dsimp only
            rw [hc, Option.bind_some, if_neg (by simpa using c), if_neg (by simpa using d), gp (by rw [List.length_map]; omega), gp (by omega)])]
          have := ih (pre ++ [t]) (by rw [List.append_assoc]; exact hl)
          rw [List.map_append, List.append_assoc] at this
          exact this
      · rw [if_pos (by simpa using c), forL_ret (r := Except.error (⟨"UnknownName", [.str t.2]⟩ : Er)) (by
          dsimp only
          rw [hc, Option.bind_some, if_pos (by simpa using c)]; rfl)]
        rfl
  unfold M_checked_worth
  exact go es [] hl
def chk (pre : List Tw) (t : Tw) (j : Int) : Bool := match pre[j.toNat]? with
  | some u => !decide (u.2 = t.2)
  | none => true
theorem fault_ok {ns : List Str} {es : List Tw} (hl : es.length ≤ 1000) : M_l_fault ns es = some (ltT (flt ns [] es)) := by
  have at_ : ∀ {pre suf : List Tw} {t : Tw}, atI (pre ++ t :: suf) (pre.length : Int) = some t := fun {pre suf t} => atI_of (by omega) (by
    rw [Int.toNat_natCast, List.getElem?_append_right (Nat.le_refl _), Nat.sub_self]; rfl)
  have rng_cons : ∀ {lo : Int} {n : Nat}, rngL lo (n + 1) = lo :: rngL (lo + 1) n := fun {lo n} => by
    unfold rngL
    rw [List.range_succ_eq_map, List.map_cons, List.map_map]
    congr 1
    · show lo + ((0 : Nat) : Int) = lo
      omega
    · refine List.map_congr_left fun i _ => ?_
      show lo + ((i + 1 : Nat) : Int) = lo + 1 + i
      omega
  have inner : ∀ (pre suf : List Tw) (t : Tw), (∀ q ∈ pre, q.2 ∈ ns) → pre.length < 1000 → (forL (rngL 0 (pre.length : Int).toNat) (() : Unit) fun x333 s332 => (atI (pre ++ t :: suf) x333).bind fun x335 => (atI (pre ++ t :: suf) (pre.length : Int)).bind fun x336 => if (decide ((x335.2) = (x336.2))) = true then inB ((atI (pre ++ t :: suf) (pre.length : Int)).bind fun x338 => some (Tm.rt ([("repeated" : Str), x338.2]))) else some (Bo.nx ())) = (some (if t.2 ∈ pre.map Prod.snd then .tm [("repeated" : Str), t.2] else .nx ()) : Option (Bo Unit (List Str))) := by
    intro pre suf t _ _
    rw [forL_all (c := fun j : Int => chk pre t j) (r := [("repeated" : Str), t.2]) fun j hj => by
      have hj := rngL_mem.mp hj
      have hjl : j.toNat < pre.length := by omega
      have e1 : atI (pre ++ t :: suf) j = some (pre[j.toNat]'hjl) := atI_of hj.1 (by rw [List.getElem?_append_left hjl, List.getElem?_eq_getElem hjl])
      rw [e1, at_]
      simp only [Option.bind_some]
      have ec : chk pre t j = !decide ((pre[j.toNat]'hjl).2 = t.2) := by
        unfold chk
        rw [List.getElem?_eq_getElem hjl]
      rw [ec]
      by_cases c : (pre[j.toNat]'hjl).2 = t.2
      · rw [if_pos (decide_eq_true c), if_neg (by simp [c])]
        rfl
      · rw [if_neg (by simpa using c), if_pos (by simpa using c)]]
    congr 1
    by_cases d : t.2 ∈ pre.map Prod.snd
    · rw [if_pos d, if_neg fun h => by
        obtain ⟨u, hu, e⟩ := List.mem_map.mp d
        obtain ⟨i, hi, ei⟩ := List.getElem_of_mem hu
        rw [List.all_eq_true] at h
        have := h (i : Int) (rngL_mem.mpr ⟨by omega, by omega⟩)
        unfold chk at this
        rw [Int.toNat_natCast, List.getElem?_eq_getElem hi, ei] at this
        dsimp only at this
        rw [decide_eq_true e] at this
        cases this]
    · rw [if_neg d, if_pos (List.all_eq_true.mpr fun j hj => by
        unfold chk
        split
        · rename_i u hu
          rw [decide_eq_false fun e => d (List.mem_map.mpr ⟨u, List.mem_of_getElem? hu, e⟩)]; rfl
        · rfl)]
  have go : ∀ (suf pre : List Tw), (pre ++ suf).length ≤ 1000 → (∀ q ∈ pre, q.2 ∈ ns) → (forL (rngL (pre.length : Int) suf.length) (() : Unit) fun x326 s325 => (atI (pre ++ suf) x326).bind fun x328 => if (!decide ((x328.2) ∈ ns)) = true then inB ((atI (pre ++ suf) x326).bind fun x330 => some (Tm.rt ([("unknown" : Str), x330.2]))) else grd (rg x326 = true) ((forL (rngL 0 x326.toNat) (() : Unit) fun x333 s332 => (atI (pre ++ suf) x333).bind fun x335 => (atI (pre ++ suf) x326).bind fun x336 => if (decide ((x335.2) = (x336.2))) = true then inB ((atI (pre ++ suf) x326).bind fun x338 => some (Tm.rt ([("repeated" : Str), x338.2]))) else some (Bo.nx ())).bind (boK (fun s334 => some (Bo.nx ())) (fun r => Bo.tm (Tm.rt r))))).bind (boK (fun s327 => some ([])) id) = some (ltT (flt ns (pre.map Prod.snd) suf)) := by
    intro suf
    induction suf with
    | nil => intro pre _ _; rfl
    | cons t suf ih =>
      intro pre hl hp
      have hpl : pre.length < 1000 := by rw [List.length_append, List.length_cons] at hl; omega
      rw [List.length_cons, rng_cons]
      unfold flt
      by_cases c : t.2 ∈ ns
      · rw [if_neg (by simpa using c)]
        have hin := inner pre suf t hp hpl
        rw [at_] at hin
        by_cases d : t.2 ∈ pre.map Prod.snd
        · rw [if_pos d] at hin ⊢
          rw [forL_ret (r := [("repeated" : Str), t.2]) (by
            rw [at_, Option.bind_some, if_neg (by simpa using c), gp (rg_lt (by omega) (by omega)), hin]; rfl)]
          rfl
        · rw [if_neg d] at hin ⊢
          rw [forL_step (s' := ()) (by
            rw [at_, Option.bind_some, if_neg (by simpa using c), gp (rg_lt (by omega) (by omega)), hin]; rfl)]
          have := ih (pre ++ [t]) (by rw [List.append_assoc]; exact hl) fun q hq => by
            rcases List.mem_append.mp hq with h | h
            · exact hp q h
            · rw [List.mem_singleton.mp h]; exact c
          rw [List.map_append, List.append_assoc, List.length_append, List.length_singleton, Int.natCast_add] at this
          exact this
      · rw [if_pos (by simpa using c), forL_ret (r := [("unknown" : Str), t.2]) (by
          rw [at_, Option.bind_some, if_pos (by simpa using c)]; rfl)]
        rfl
  unfold M_l_fault
  rw [gp (rg_lt (by omega) (by omega))]
  exact go es [] hl fun _ h => nomatch h
end My
end
section
namespace My
open PySem PySem.Spec PyProof.Rows L2 L3
theorem erF_u {n : Str} : erF ⟨"UnknownName", [.str n]⟩ "name" = some (.str n) := by
  have h : fieldsOf "UnknownName" = [("name" : Str)] := by decide +kernel
  unfold erF
  dsimp only
  rw [h]
  show List.lookup _ [(("name" : Str), FV.str n)] = _
  rw [List.lookup_cons, show (("name" : Str) == "name") = true by decide +kernel]
theorem erF_r {n : Str} : erF ⟨"RepeatedName", [.str n]⟩ "name" = some (.str n) := by
  have h : fieldsOf "RepeatedName" = [("name" : Str)] := by decide +kernel
  unfold erF
  dsimp only
  rw [h]
  show List.lookup _ [(("name" : Str), FV.str n)] = _
  rw [List.lookup_cons, show (("name" : Str) == "name") = true by decide +kernel]
theorem terms_ok {es : List Tw} (hl : es.length ≤ 1000) (ho : ∀ t ∈ es, strOk t.2 = true) : M_l_same_terms es es = some true := by
  unfold M_l_same_terms
  rw [if_neg (by simp), gp (rg_lt (by omega) (by omega)), forL_go fun i hi => by
    have hi := rngL_mem.mp hi
    have hil : i.toNat < es.length := by omega
    have ea := atI_get (xs := es) hi.1 hil
    have hok : okG (dgT2 dgInt dgStr) (es[i.toNat]'hil) (es[i.toNat]'hil) = true := by
      have := ho _ (List.getElem_mem hil)
      show ((true && strOk (es[i.toNat]'hil).2) && (true && strOk (es[i.toNat]'hil).2)) = true
      rw [this]; rfl
    rw [ea]
    generalize es[i.toNat]'hil = t at hok
    simp only [Option.bind_some]
    rw [if_neg (by decide), if_neg (by decide), isi]
    simp only [Option.bind_some]
    rw [if_neg (by decide), if_neg (by decide), gp hok]
    simp only [Option.bind_some]
    rw [if_neg (by simp)]]
  rfl
theorem okL2 {a : List Str} (h : ∀ x ∈ a, strOk x = true) : okG (dgL dgStr) a a = true := okNs h
theorem flt_ok {ns : List Str} {f : Bool × Str} : ∀ {es : List Tw} {seen : List Str}, flt ns seen es = some f → ∃ t ∈ es, f.2 = t.2
  | [], _, h => nomatch h
  | t :: es, seen, h => by
    unfold flt at h
    split at h
    · cases h; exact ⟨t, List.mem_cons_self, rfl⟩
    · split at h
      · cases h; exact ⟨t, List.mem_cons_self, rfl⟩
      · obtain ⟨u, hu, e⟩ := flt_ok h
        exact ⟨u, List.mem_cons_of_mem _ hu, e⟩
theorem checked_ok {z : Pz} {ns : List Str} {es : List Tw} (hk : keys z.1 = ns) (hl : es.length ≤ 1000) (ho : ∀ t ∈ es, strOk t.2 = true) : M_l_checked z ns es = some true := by
  have hf := fault_ok (ns := ns) hl
  apply wp_is
  unfold M_l_checked
  refine wp_let (wp_let (wp_let ?_))
  rw [worth_chk hk hl]
  cases e : flt ns [] es with
  | none =>
    rw [e] at hf
    refine wp_eq (a := Bo.nx (([] : List Str), es)) rfl ?_
    unfold tryK2
    dsimp only
    refine wp_grd (okW ho) (wp_eq (a := (false, ())) ?_ ?_)
    · rw [if_neg (by simp), hf]; rfl
    · rw [if_neg (by decide), if_neg (by simp), terms_ok hl ho]
      refine wp_let ?_
      rw [if_neg (by decide)]
      exact wp_grd (okW ho) (wp_some (decide_eq_true rfl))
  | some f =>
    obtain ⟨t, ht, et⟩ := flt_ok e
    have hn := ho t ht
    rw [← et] at hn
    obtain ⟨b, n⟩ := f
    have hn : strOk n = true := hn
    cases b with
    | true =>
      rw [e] at hf
      have hf : M_l_fault ns es = some [("unknown" : Str), n] := hf
      refine wp_eq (a := Bo.tm (.error (⟨"UnknownName", [.str n]⟩ : Er))) rfl ?_
      unfold tryK2
      dsimp only
      rw [if_pos (by decide +kernel)]
      refine wp_eq (a := Bo.nx ([("unknown" : Str), n], ([] : List Tw))) ?_ ?_
      · rw [if_neg (by decide +kernel), if_neg (by decide +kernel), erF_u]
        simp only [Option.bind_some]
        unfold FV.str?
        simp only [Option.bind_some]
        rw [if_neg (by decide), if_neg (by decide +kernel), if_neg (by decide +kernel), if_neg (by decide +kernel)]
      · unfold boK
        dsimp only
        refine wp_grd (okW ho) (wp_eq (a := (false, ())) ?_ ?_)
        · rw [if_neg (by simp), hf, Option.bind_some, gp (okL2 fun x hx => by
            rcases List.mem_cons.mp hx with h | h
            · rw [h]; decide +kernel
            · rw [List.mem_singleton.mp h]; exact hn)]
          rw [decide_eq_true rfl]; rfl
        · rw [if_neg (by decide), if_pos (by simp)]
          exact wp_some rfl
    | false =>
      rw [e] at hf
      have hf : M_l_fault ns es = some [("repeated" : Str), n] := hf
      refine wp_eq (a := Bo.tm (.error (⟨"RepeatedName", [.str n]⟩ : Er))) rfl ?_
      unfold tryK2
      dsimp only
      rw [if_neg (by decide +kernel), if_pos (by decide +kernel)]
      refine wp_eq (a := Bo.nx ([("repeated" : Str), n], ([] : List Tw))) ?_ ?_
      · rw [if_neg (by decide +kernel), if_neg (by decide +kernel), erF_r]
        simp only [Option.bind_some]
        unfold FV.str?
        simp only [Option.bind_some]
        rw [if_neg (by decide), if_neg (by decide +kernel), if_neg (by decide +kernel), if_neg (by decide +kernel), if_neg (by decide +kernel)]
      · unfold boK
        dsimp only
        refine wp_grd (okW ho) (wp_eq (a := (false, ())) ?_ ?_)
        · rw [if_neg (by simp), hf, Option.bind_some, gp (okL2 fun x hx => by
            rcases List.mem_cons.mp hx with h | h
            · rw [h]; decide +kernel
            · rw [List.mem_singleton.mp h]; exact hn)]
          rw [decide_eq_true rfl]; rfl
        · rw [if_neg (by decide), if_pos (by simp)]
          exact wp_some rfl
end My
end
section
namespace My
open PySem PySem.Spec PyProof.Rows L2 L3
structure Dr (p : List Str) (c : Nat) (B : Box) : Prop where
  ok : BoxOk B
  ks : ∀ k, k ∈ keys B ↔ k ∈ p
  ne : ∀ k ∈ p, getB B k ≠ []
  bd : ∀ k, (getB B k).length ≤ c
theorem Dr.ln {p : List Str} {c : Nat} {B : Box} (h : Dr p c B) : B.length ≤ p.length := by
  rw [← keys_len]
  exact sub_len h.ok.nd fun k hk => (h.ks k).mp hk
theorem Dr.nil {c : Nat} : Dr [] c [] := ⟨BoxOk.nil, (fun _ => Iff.rfl), (fun _ h => nomatch h), fun _ => Nat.zero_le _⟩
theorem Dr.put {p : List Str} {c : Nat} {B : Box} (h : Dr p c B) {k : Str} {x : List Int} (hx : Side x) (hn : x ≠ []) (hl : x.length ≤ c) : Dr (p ++ [k]) c (dput B k x) := by
  refine ⟨h.ok.put hx, fun j => ?_, fun j hj => ?_, fun j => ?_⟩
  · rw [mem_keys_put, h.ks, List.mem_append, List.mem_singleton]
  · rw [getB_put]
    split
    · exact hn
    · rename_i e
      rcases List.mem_append.mp hj with z | z
      · exact h.ne j z
      · exact absurd (List.mem_singleton.mp z) e
  · rw [getB_put]
    split
    · exact hl
    · exact h.bd j
theorem c18_ok {N : List Str} {n : Int} {s : List Int} {W : List Tw} {z : Pz} {ns : List Str} (hs : Stm s) (n0 : 0 ≤ n) (n1 : n < N.length) (hN : ∀ x ∈ N, strOk x = true) (hW : W.length ≤ 6) (ho : ∀ t ∈ W, strOk t.2 = true) (hk : keys z.1 = ns) : M_law_c18 N n s W z ns = some true := by
  apply wp_is
  unfold M_law_c18
  refine wp_bind (wp_at n0 n1 fun u hu _ => wp_then (spoilt_wp hs hW ho (hN u hu)) fun r ⟨⟨r1, r2⟩, ht⟩ => wp_let (wp_bind (wp_at n0 n1 fun u hu _ => wp_then (spoilt_wp ht hW ho (hN u hu)) fun q ⟨⟨q1, q2⟩, _⟩ => wp_let ?_)))
  rw [forL_go fun V hV => by
    have hV2 : V.length ≤ 1000 ∧ ∀ t ∈ V, strOk t.2 = true := by
      simp only [List.mem_cons, List.not_mem_nil, or_false] at hV
      rcases hV with h | h | h | h <;> subst h
      · exact ⟨by omega, ho⟩
      · exact ⟨by omega, r2⟩
      · exact ⟨by omega, q2⟩
      · exact ⟨by omega, ho⟩
    rw [checked_ok hk hV2.1 hV2.2]
    simp only [Option.bind_some]
    rw [if_neg (by decide)]]
  exact wp_some rfl
theorem law_ok (xs : List Int) : M_law xs = some true := by
  have hz := sz
  apply wp_is
  unfold M_law
  refine wp_stream (by decide) fun s hs => wp_let (wp_next hs (by decide) (by decide) fun a t a0 a1 ht => wp_bind (wp_at a0 (by simpa using a1) fun n hn _ => wp_let (wp_next ht (by decide) (by decide) fun b t b0 b1 ht => wp_let ?_)))
  have hn2 : ∃ c : Nat, 0 ≤ n ∧ n ≤ 6 ∧ 1 ≤ c ∧ c ≤ 4 ∧ c ^ n.toNat ≤ 100000 ∧ (c : Int) = if decide (n = 6) = true then 2 else 4 := by
    simp only [List.mem_cons, List.not_mem_nil, or_false] at hn
    rcases hn with h | h | h | h | h | h | h | h | h | h <;> subst h
    · exact ⟨4, by decide, by decide, by decide, by decide, by decide, rfl⟩
    · exact ⟨4, by decide, by decide, by decide, by decide, by decide, rfl⟩
    · exact ⟨4, by decide, by decide, by decide, by decide, by decide, rfl⟩
    · exact ⟨4, by decide, by decide, by decide, by decide, by decide, rfl⟩
    · exact ⟨4, by decide, by decide, by decide, by decide, by decide, rfl⟩
    · exact ⟨4, by decide, by decide, by decide, by decide, by decide, rfl⟩
    · exact ⟨4, by decide, by decide, by decide, by decide, by decide, rfl⟩
    · exact ⟨4, by decide, by decide, by decide, by decide, by decide, rfl⟩
    · exact ⟨4, by decide, by decide, by decide, by decide, by decide, rfl⟩
    · exact ⟨2, by decide, by decide, by decide, by decide, by decide, rfl⟩
  obtain ⟨c, n0, n6, c1, c4, cp, ec⟩ := hn2
  refine wp_then (names_wp ht (by omega) (by omega)) fun r ⟨hN, ht⟩ => wp_let (wp_then (pool_lt ht (by omega) (by omega)) fun q ⟨q1, q2, _⟩ => wp_let (wp_let ?_))
  obtain ⟨N, t⟩ := r
  obtain ⟨P, t⟩ := q
  have hN : Nms (n + 2) N := hN
  have q1 : (P.length : Int) = 2 + b := q1
  have q2 : P.Pairwise (· < ·) := q2
  dsimp only
  have hNl := hN.ln
  rw [cut_take n0]
  have hkl : (N.take n.toNat).length = n.toNat := by rw [List.length_take]; omega
  have hkn : (N.take n.toNat).Nodup := hN.nd.sublist (List.take_sublist _ _)
  have hko : ∀ x ∈ N.take n.toNat, strOk x = true := fun x hx => hN.ok x (List.mem_of_mem_take hx)
  have hkz : ∀ z, N[(n + 1).toNat]? = some z → z ∉ N.take n.toNat := fun z hz hm => by
    obtain ⟨i, hi, e⟩ := List.getElem_of_mem hm
    rw [List.getElem_take] at e
    obtain ⟨h1, h2⟩ := List.getElem?_eq_some_iff.mp hz
    exact List.pairwise_iff_getElem.mp hN.nd i (n + 1).toNat (by omega) h1 (by omega) (e.trans h2.symm)
  generalize N.take n.toNat = ns at hkl hkn hko hkz
  unfold M_law_c6
  refine wp_stream (by decide) fun s hs => wp_let (wp_let (wp_eq (a := (c : Int)) ?_ (wp_let (wp_bind (wp_for (fun p (st : Box × List Int) => Dr p c st.1 ∧ Stm st.2) ⟨Dr.nil, hs⟩ ?_ ?_)))))
  · rw [ec]
    by_cases e : decide (n = 6) = true
    · rw [if_pos e, if_pos e]; rfl
    · rw [if_neg e, if_neg e]
  · rintro p k t ⟨B, st⟩ e ⟨hB, hst⟩
    have hB : Dr p c B := hB
    have hst : Stm st := hst
    have hpl := len_split e
    have hbl := hB.ln
    refine wp_then (part_wp hst) fun r ⟨hr, ht⟩ => wp_let ?_
    rw [cut_take (by omega)]
    have hsub : (r.1.take (c : Int).toNat).Sublist P := (List.take_sublist _ _).trans hr
    have hcl : (r.1.take (c : Int).toNat).length ≤ c := by rw [List.length_take]; omega
    generalize r.1.take (c : Int).toNat = x at hsub hcl
    have hPs : Side P := ⟨q2, by omega⟩
    have hx : Wp (if (decide ((x.length : Int) = (0 : Int))) = true then (M_l_next (r.2) (2 + b)).bind fun r809 => (atI P (r809.1)).bind fun x810 => (some ([x810] : List Int)).bind fun x811 => some (x811, r809.2) else some (x, r.2)) fun y => (Side y.1 ∧ y.1 ≠ [] ∧ y.1.length ≤ c) ∧ Stm y.2 := by
      refine wp_ite (fun _ => wp_next ht (by omega) (by omega) fun d t d0 d1 ht => wp_bind (wp_at d0 (by omega) fun v hv _ => wp_let (wp_some ⟨⟨⟨List.pairwise_singleton _ _, by show (1 : Nat) ≤ 1000; omega⟩, by simp, c1⟩, ht⟩))) fun h => wp_some ⟨⟨hPs.sub hsub, fun z => h ?_, hcl⟩, ht⟩
      rw [show x = [] from z]; rfl
    refine wp_then hx fun y ⟨⟨y1, y2, y3⟩, ht⟩ => wp_grd (by show B.length < _; omega) (wp_some ⟨hB.put y1 y2 y3, ht⟩)
  rintro ⟨B, st⟩ ⟨hB, hst⟩
  have hB : Dr ns c B := hB
  have hst : Stm st := hst
  have hbl := hB.ln
  dsimp only
  refine wp_eq (compM_map (g := fun x => (x, getB B x)) fun x hx => by
    rw [if_pos rfl, dget_B ((hB.ks x).mpr hx)]; rfl) (wp_let ?_)
  unfold M_law_c12
  dsimp only
  have hz0 : Wp (atI N (n + 1)) fun z => z ∉ ns ∧ strOk z = true := wp_mono (wp_at (Q := fun z => z ∉ ns ∧ strOk z = true) (by omega) (by omega) fun z hz e => ⟨hkz z e, hN.ok z hz⟩) fun _ h => h
  obtain ⟨z, ez, hzn, hzo⟩ := hz0
  have hU : Wp ((M_l_next st (2 : Int)).bind fun r757 => if (decide ((r757.1) = (0 : Int))) = true then (M_l_part (r757.2) P).bind fun r800 => (atI N (n + (1 : Int))).bind fun x801 => grd (B.length < sizeLine) (some ((dput B x801 (r800.1)), r800.2)) else some (B, r757.2)) fun r => BoxOk r.1 ∧ (∀ k ∈ ns, getB r.1 k = getB B k ∧ k ∈ keys r.1) ∧ r.1.length ≤ 20 := by
    refine wp_next hst (by decide) (by decide) fun d t d0 d1 ht => wp_ite (fun _ => wp_then (part_wp ht) fun r ⟨hr, _⟩ => wp_eq ez (wp_grd (by omega) (wp_some ⟨hB.ok.put ((show Side P from ⟨q2, by omega⟩).sub hr), fun k hk => ⟨?_, mem_keys_put.mpr (.inl ((hB.ks k).mpr hk))⟩, ?_⟩))) fun _ => wp_some ⟨hB.ok, fun k hk => ⟨rfl, (hB.ks k).mpr hk⟩, by show B.length ≤ 20; omega⟩
    · rw [getB_put, if_neg fun e => hzn (by rw [← e]; exact hk)]
    · have := len_put (B := B) (k := z) (x := r.1)
      show (dput B z r.1).length ≤ 20
      omega
  obtain ⟨U, eU, u1, u2, u3⟩ := hU
  obtain ⟨d, ed, eU⟩ := bind_some eU
  refine wp_eq ed (wp_eq eU (wp_stream (by decide) fun s hs => wp_then (weights_wp hs hkn (by omega)) fun r ⟨hW, _⟩ => wp_let (wp_eq ez ?_)))
  obtain ⟨W, t⟩ := r
  have hW : Wk ns W := hW
  dsimp only
  have ho : ∀ t ∈ W, strOk t.2 = true := fun t ht => hko _ (hW.mem t ht)
  have hk : Bk ns U.1 := ⟨u1, fun k hk => (u2 k hk).2, fun k hk => by rw [(u2 k hk).1]; exact hB.ne k hk, u3⟩
  obtain ⟨m1, m2⟩ := tot_min hkn hW hk
  refine wp_eq (totals_ok (c := c) hkn hW ho hk (fun k hk => by rw [(u2 k hk).1]; exact hB.bd k) (by rw [hkl]; exact cp) c1 (by omega) hzn) (wp_let ?_)
  refine wp_eq (a := (false, ())) ?_ ?_
  · rw [if_neg (by
      intro h
      have h : (((asg ns U.1).map (valW W)).length : Int) = 0 := of_decide_eq_true h
      have h : ((asg ns U.1).map (valW W)) = [] := List.eq_nil_of_length_eq_zero (by omega)
      rw [h] at m1; cases m1), m1, m2]
    simp only [Option.bind_some]
    rw [bounds_ok hW ho hk]; rfl
  rw [if_neg (by decide)]
  have hD : keys (ns.map fun x => (x, getB B x)) = ns := by
    unfold keys
    rw [List.map_map]; exact List.map_id' ns
  refine wp_then (puzzle_wp (by rw [hD]; exact hkn) (by rw [List.length_map]; omega) fun p hp => ?_) fun z hz => wp_let ?_
  · obtain ⟨x, _, rfl⟩ := List.mem_map.mp hp
    have := hB.bd x
    show (getB B x).length ≤ 1000
    omega
  rw [hD] at hz
  refine wp_stream (by decide) fun s hs => wp_let ?_
  exact wp_of (c18_ok hs n0 (by omega) hN.ok hW.ln ho hz) rfl
end My
end
section
set_option maxHeartbeats 0
namespace My
open PySem PySem.Spec PyProof.Rows L2 L3
theorem tx_UnknownName : XTx (PySem.Challenge.rw_curbdesk_k17_worths).prog x_UnknownName := ⟨by decide, by rfl, ⟨_, _, _, _, _, _, _, _, _, _, rfl, .cons (by decide) (.nil), rfl, rfl, rfl⟩, rfl, rfl, rfl, by decide +kernel, rfl, rfl, rfl, by decide +kernel, by decide, fun _ _ _ _ _ _ us hl => match us, hl with | [_, _], _ => rfl⟩
theorem tx_RepeatedName : XTx (PySem.Challenge.rw_curbdesk_k17_worths).prog x_RepeatedName := ⟨by decide, by rfl, ⟨_, _, _, _, _, _, _, _, _, _, rfl, .cons (by decide) (.nil), rfl, rfl, rfl⟩, rfl, rfl, rfl, by decide +kernel, rfl, rfl, rfl, by decide +kernel, by decide, fun _ _ _ _ _ _ us hl => match us, hl with | [_, _], _ => rfl⟩
theorem tx_RepeatedKey : XTx (PySem.Challenge.rw_curbdesk_k17_worths).prog x_RepeatedKey := ⟨by decide, by rfl, ⟨_, _, _, _, _, _, _, _, _, _, rfl, .cons (by decide) (.nil), rfl, rfl, rfl⟩, rfl, rfl, rfl, by decide +kernel, rfl, rfl, rfl, by decide +kernel, by decide, fun _ _ _ _ _ _ us hl => match us, hl with | [_, _], _ => rfl⟩
theorem facts {w : World} {K : PySem.W.Frag} {h : Heap} {mg : Str → Option Value} {f : Addr} (X : K.In h) (G : h.Ns mainGlobals mg) (hfa : mg ("law" : Str) = some (.ref f)) (cx : SaysX R.prog fa fn xs rsL csL K) :
    ∃ fd : FuncData, (∀ (s : Shared) (v : Value), BindsTo s fd ⟨[v], []⟩ [("_law_script", v)]) ∧ ∀ base : Heap, K.In base → base.Ns mainGlobals mg → FnOk R.prog w K mg base CX0 5 f fd ["_law_script"] (Sp_S K M_law) := by
  have c := cx.d
  obtain ⟨fd__wall, F__wall⟩ := c.def_ 0 (d := d__wall) rfl
  obtain ⟨fd_checked_worth, F_checked_worth⟩ := c.def_ 1 (d := d_checked_worth) rfl
  obtain ⟨fd_worth_of, F_worth_of⟩ := c.def_ 2 (d := d_worth_of) rfl
  obtain ⟨fd_best_in, F_best_in⟩ := c.def_ 3 (d := d_best_in) rfl
  obtain ⟨fd_side_of, F_side_of⟩ := c.def_ 4 (d := d_side_of) rfl
  obtain ⟨fd_copy_box, F_copy_box⟩ := c.def_ 5 (d := d_copy_box) rfl
  obtain ⟨fd_room, F_room⟩ := c.def_ 6 (d := d_room) rfl
  obtain ⟨fd_checked_domains, F_checked_domains⟩ := c.def_ 7 (d := d_checked_domains) rfl
  obtain ⟨fd__law_is_integer, F__law_is_integer⟩ := c.def_ 8 (d := d__law_is_integer) rfl
  obtain ⟨fd__law_stream, F__law_stream⟩ := c.def_ 9 (d := d__law_stream) rfl
  obtain ⟨fd__law_next, F__law_next⟩ := c.def_ 10 (d := d__law_next) rfl
  obtain ⟨fd__law_names, F__law_names⟩ := c.def_ 11 (d := d__law_names) rfl
  obtain ⟨fd__law_pool, F__law_pool⟩ := c.def_ 12 (d := d__law_pool) rfl
  obtain ⟨fd__law_part, F__law_part⟩ := c.def_ 13 (d := d__law_part) rfl
  obtain ⟨fd__law_scope, F__law_scope⟩ := c.def_ 14 (d := d__law_scope) rfl
  obtain ⟨fd__law_assignments, F__law_assignments⟩ := c.def_ 15 (d := d__law_assignments) rfl
  obtain ⟨fd__law_is_side, F__law_is_side⟩ := c.def_ 16 (d := d__law_is_side) rfl
  obtain ⟨fd__law_same_sides, F__law_same_sides⟩ := c.def_ 17 (d := d__law_same_sides) rfl
  obtain ⟨fd__law_copy, F__law_copy⟩ := c.def_ 18 (d := d__law_copy) rfl
  obtain ⟨fd__law_weights, F__law_weights⟩ := c.def_ 19 (d := d__law_weights) rfl
  obtain ⟨fd__law_spoilt, F__law_spoilt⟩ := c.def_ 20 (d := d__law_spoilt) rfl
  obtain ⟨fd__law_fault, F__law_fault⟩ := c.def_ 21 (d := d__law_fault) rfl
  obtain ⟨fd__law_same_terms, F__law_same_terms⟩ := c.def_ 22 (d := d__law_same_terms) rfl
  obtain ⟨fd__law_checked, F__law_checked⟩ := c.def_ 23 (d := d__law_checked) rfl
  obtain ⟨fd__law_totals, F__law_totals⟩ := c.def_ 24 (d := d__law_totals) rfl
  obtain ⟨fd__law_bounds, F__law_bounds⟩ := c.def_ 25 (d := d__law_bounds) rfl
  obtain ⟨fd_law, F_law⟩ := c.def_ 26 (d := d_law) rfl
  obtain ⟨fd_Puzzle___init__, F_Puzzle___init__⟩ := c.def_ 27 (d := d_Puzzle___init__) rfl
  obtain ⟨fd_Puzzle_inner_add, F_Puzzle_inner_add⟩ := c.def_ 28 (d := d_Puzzle_inner_add) rfl
  obtain ⟨fd_Puzzle___contains__, F_Puzzle___contains__⟩ := c.def_ 29 (d := d_Puzzle___contains__) rfl
  have e := hfa.symm.trans (He.glo_ok X G (c.fact 26 (f := .glo "law") rfl))
  cases e
  have b := FunD.bindsA (ps := ["_law_script"]) F_law fun _ _ _ _ _ _ us hl => match us, hl with | [_], _ => rfl
  have gl : ∀ x ∈ rsL, mg x = some (.ref (He.ga K x)) := by
    intro x hx
    simp only [rsL, List.mem_cons, List.not_mem_nil, or_false] at hx
    rcases hx with rfl | rfl | rfl
    · exact He.glo_ok X G (c.fact 27 (f := .glo "UnknownName") rfl)
    · exact He.glo_ok X G (c.fact 28 (f := .glo "RepeatedName") rfl)
    · exact He.glo_ok X G (c.fact 29 (f := .glo "RepeatedKey") rfl)
  have xc : ∀ x ∈ rsL, XcT R.prog K mg x := by
    intro x hx
    simp only [rsL, List.mem_cons, List.not_mem_nil, or_false] at hx
    rcases hx with rfl | rfl | rfl
    · exact cx.xc 0 (d := x_UnknownName) rfl tx_UnknownName (gl _ (by decide +kernel)) rfl
    · exact cx.xc 1 (d := x_RepeatedName) rfl tx_RepeatedName (gl _ (by decide +kernel)) rfl
    · exact cx.xc 2 (d := x_RepeatedKey) rfl tx_RepeatedKey (gl _ (by decide +kernel)) rfl
  have gc : ∀ y ∈ csL, y = "ValueError" ∧ mg y = none ∨ y ≠ "ValueError" ∧ mg y = some (.ref (He.ga K y)) := by
    intro y hy
    simp only [csL, List.mem_cons, List.not_mem_nil, or_false] at hy
    rcases hy with rfl | rfl | rfl | rfl | rfl | rfl | rfl | rfl | rfl | rfl | rfl | rfl | rfl | rfl | rfl | rfl | rfl | rfl | rfl | rfl | rfl | rfl | rfl | rfl | rfl | rfl
    · exact .inr ⟨by decide, He.glo_ok X G (c.fact 27 (f := .glo "UnknownName") rfl)⟩
    · exact .inr ⟨by decide, He.glo_ok X G (c.fact 28 (f := .glo "RepeatedName") rfl)⟩
    · exact .inr ⟨by decide, He.glo_ok X G (c.fact 30 (f := .glo "UnknownValue") rfl)⟩
    · exact .inr ⟨by decide, He.glo_ok X G (c.fact 31 (f := .glo "RepeatedValue") rfl)⟩
    · exact .inr ⟨by decide, He.glo_ok X G (c.fact 32 (f := .glo "UnknownKey") rfl)⟩
    · exact .inr ⟨by decide, He.glo_ok X G (c.fact 29 (f := .glo "RepeatedKey") rfl)⟩
    · exact .inr ⟨by decide, He.glo_ok X G (c.fact 33 (f := .glo "EmptyRule") rfl)⟩
    · exact .inr ⟨by decide, He.glo_ok X G (c.fact 34 (f := .glo "BadRow") rfl)⟩
    · exact .inr ⟨by decide, He.glo_ok X G (c.fact 35 (f := .glo "BadBounds") rfl)⟩
    · exact .inr ⟨by decide, He.glo_ok X G (c.fact 36 (f := .glo "BadNumber") rfl)⟩
    · exact .inr ⟨by decide, He.glo_ok X G (c.fact 37 (f := .glo "BadStep") rfl)⟩
    · exact .inr ⟨by decide, He.glo_ok X G (c.fact 38 (f := .glo "NoMark") rfl)⟩
    · exact .inr ⟨by decide, He.glo_ok X G (c.fact 39 (f := .glo "NotStruck") rfl)⟩
    · exact .inr ⟨by decide, He.glo_ok X G (c.fact 40 (f := .glo "BadOrder") rfl)⟩
    · exact .inr ⟨by decide, He.glo_ok X G (c.fact 41 (f := .glo "NotBare") rfl)⟩
    · exact .inr ⟨by decide, He.glo_ok X G (c.fact 42 (f := .glo "NoClash") rfl)⟩
    · exact .inr ⟨by decide, He.glo_ok X G (c.fact 43 (f := .glo "HoldsAnswer") rfl)⟩
    · exact .inr ⟨by decide, He.glo_ok X G (c.fact 44 (f := .glo "BadLine") rfl)⟩
    · exact .inr ⟨by decide, He.glo_ok X G (c.fact 45 (f := .glo "UnknownLine") rfl)⟩
    · exact .inr ⟨by decide, He.glo_ok X G (c.fact 46 (f := .glo "BadText") rfl)⟩
    · exact .inr ⟨by decide, He.glo_ok X G (c.fact 47 (f := .glo "NothingToUndo") rfl)⟩
    · exact .inr ⟨by decide, He.glo_ok X G (c.fact 48 (f := .glo "NothingToRedo") rfl)⟩
    · exact .inr ⟨by decide, He.glo_ok X G (c.fact 49 (f := .glo "UnknownStep") rfl)⟩
    · exact .inr ⟨by decide, He.glo_ok X G (c.fact 50 (f := .glo "BadDeed") rfl)⟩
    · exact .inr ⟨by decide, He.glo_ok X G (c.fact 51 (f := .glo "DeskError") rfl)⟩
    · exact .inl ⟨rfl, He.free_ok X G (c.fact 53 (f := .free "ValueError") rfl)⟩
  have xt : XsT R.prog K mg rsL csL := cx.xst (He.free_ok X G (c.fact 69 (f := .free "super") rfl)) xc gl gc
  have C : Ev R.prog K mg := ⟨xt, ⟨_, _, fd_Puzzle___init__, He.glo_ok X G (c.fact 52 (f := .glo "Puzzle") rfl), He.cls_ok (c.fact 71 (f := .cls "Puzzle") rfl), He.mkr_ok (c.fact 72 (f := .mkr "Puzzle") rfl), F_Puzzle___init__, He.eqO_ok (c.fact 73 (f := .noat "Puzzle" "inner_sides") rfl), He.eqO_ok (c.fact 74 (f := .noat "Puzzle" "names") rfl), He.eqO_ok (c.fact 75 (f := .noat "Puzzle" "room") rfl), He.eqO_ok (c.fact 76 (f := .noat "Puzzle" "inner_rules") rfl), He.eqO_ok (c.fact 77 (f := .noat "Puzzle" "rule_keys") rfl)⟩, ⟨_, fd__wall, F__wall, He.glo_ok X G (c.fact 0 (f := .glo "_wall") rfl)⟩, ⟨_, fd_checked_worth, F_checked_worth, He.glo_ok X G (c.fact 1 (f := .glo "checked_worth") rfl)⟩, ⟨_, fd_worth_of, F_worth_of, He.glo_ok X G (c.fact 2 (f := .glo "worth_of") rfl)⟩, ⟨_, fd_best_in, F_best_in, He.glo_ok X G (c.fact 3 (f := .glo "best_in") rfl)⟩, ⟨_, fd_side_of, F_side_of, He.glo_ok X G (c.fact 4 (f := .glo "side_of") rfl)⟩, ⟨_, fd_copy_box, F_copy_box, He.glo_ok X G (c.fact 5 (f := .glo "copy_box") rfl)⟩, ⟨_, fd_room, F_room, He.glo_ok X G (c.fact 6 (f := .glo "room") rfl)⟩, ⟨_, fd_checked_domains, F_checked_domains, He.glo_ok X G (c.fact 7 (f := .glo "checked_domains") rfl)⟩, ⟨_, fd__law_is_integer, F__law_is_integer, He.glo_ok X G (c.fact 8 (f := .glo "_law_is_integer") rfl)⟩, ⟨_, fd__law_stream, F__law_stream, He.glo_ok X G (c.fact 9 (f := .glo "_law_stream") rfl)⟩, ⟨_, fd__law_next, F__law_next, He.glo_ok X G (c.fact 10 (f := .glo "_law_next") rfl)⟩, ⟨_, fd__law_names, F__law_names, He.glo_ok X G (c.fact 11 (f := .glo "_law_names") rfl)⟩, ⟨_, fd__law_pool, F__law_pool, He.glo_ok X G (c.fact 12 (f := .glo "_law_pool") rfl)⟩, ⟨_, fd__law_part, F__law_part, He.glo_ok X G (c.fact 13 (f := .glo "_law_part") rfl)⟩, ⟨_, fd__law_scope, F__law_scope, He.glo_ok X G (c.fact 14 (f := .glo "_law_scope") rfl)⟩, ⟨_, fd__law_assignments, F__law_assignments, He.glo_ok X G (c.fact 15 (f := .glo "_law_assignments") rfl)⟩, ⟨_, fd__law_is_side, F__law_is_side, He.glo_ok X G (c.fact 16 (f := .glo "_law_is_side") rfl)⟩, ⟨_, fd__law_same_sides, F__law_same_sides, He.glo_ok X G (c.fact 17 (f := .glo "_law_same_sides") rfl)⟩, ⟨_, fd__law_copy, F__law_copy, He.glo_ok X G (c.fact 18 (f := .glo "_law_copy") rfl)⟩, ⟨_, fd__law_weights, F__law_weights, He.glo_ok X G (c.fact 19 (f := .glo "_law_weights") rfl)⟩, ⟨_, fd__law_spoilt, F__law_spoilt, He.glo_ok X G (c.fact 20 (f := .glo "_law_spoilt") rfl)⟩, ⟨_, fd__law_fault, F__law_fault, He.glo_ok X G (c.fact 21 (f := .glo "_law_fault") rfl)⟩, ⟨_, fd__law_same_terms, F__law_same_terms, He.glo_ok X G (c.fact 22 (f := .glo "_law_same_terms") rfl)⟩, ⟨_, fd__law_checked, F__law_checked, He.glo_ok X G (c.fact 23 (f := .glo "_law_checked") rfl)⟩, ⟨_, fd__law_totals, F__law_totals, He.glo_ok X G (c.fact 24 (f := .glo "_law_totals") rfl)⟩, ⟨_, fd__law_bounds, F__law_bounds, He.glo_ok X G (c.fact 25 (f := .glo "_law_bounds") rfl)⟩, ⟨_, _, fd_Puzzle_inner_add, He.glo_ok X G (c.fact 52 (f := .glo "Puzzle") rfl), He.cls_ok (c.fact 71 (f := .cls "Puzzle") rfl), He.meth_ok (c.fact 78 (f := .meth "Puzzle" "inner_add") rfl), F_Puzzle_inner_add⟩, ⟨_, _, fd_Puzzle___contains__, He.glo_ok X G (c.fact 52 (f := .glo "Puzzle") rfl), He.cls_ok (c.fact 71 (f := .cls "Puzzle") rfl), He.meth_ok (c.fact 79 (f := .meth "Puzzle" "__contains__") rfl), F_Puzzle___contains__⟩, He.free_ok X G (c.fact 53 (f := .free "ValueError") rfl), He.free_ok X G (c.fact 54 (f := .free "all") rfl), He.free_ok X G (c.fact 55 (f := .free "bool") rfl), He.free_ok X G (c.fact 56 (f := .free "dict") rfl), He.free_ok X G (c.fact 57 (f := .free "int") rfl), He.free_ok X G (c.fact 58 (f := .free "isinstance") rfl), He.free_ok X G (c.fact 59 (f := .free "iter") rfl), He.free_ok X G (c.fact 60 (f := .free "len") rfl), He.free_ok X G (c.fact 61 (f := .free "list") rfl), He.free_ok X G (c.fact 62 (f := .free "max") rfl), He.free_ok X G (c.fact 63 (f := .free "min") rfl), He.free_ok X G (c.fact 64 (f := .free "range") rfl), He.free_ok X G (c.fact 65 (f := .free "set") rfl), He.free_ok X G (c.fact 66 (f := .free "sorted") rfl), He.free_ok X G (c.fact 67 (f := .free "str") rfl), He.free_ok X G (c.fact 68 (f := .free "sum") rfl), He.free_ok X G (c.fact 69 (f := .free "super") rfl), He.free_ok X G (c.fact 70 (f := .free "tuple") rfl)⟩
  exact ⟨fd_law, fun s v => b s [v] rfl, fun base _ _ => ok_law C F_law⟩
end My
end
set_option maxHeartbeats 0
open PySem PySem.W PySem.Calls PyProof.Rows
theorem PySem.Challenge.cw_curbdesk_k17_worths_holds : PySem.Challenge.rw_curbdesk_k17_worths.Holds := by
  w_on; o_law
  refine HandSHeadRun.head_any (r := OpenLaw.row PySem.Challenge.rw_curbdesk_k17_worths) (q := view (OpenLaw.row PySem.Challenge.rw_curbdesk_k17_worths).prog [58]) (H := My.hk) (ob := My.ob) (M := 30000) (loose := My.loose) (d := HandSHeadRun.topDef (OpenLaw.row PySem.Challenge.rw_curbdesk_k17_worths).prog 58) (kwd := []) My.ob_eq
    (by kernel_rfl) (fun s => by kernel_rfl) My.run (by kernel_rfl) (by kernel_rfl) (by kernel_rfl) (by rfl) (by first | assumption | decide +kernel) (by decide +kernel) ⟨rfl, rfl, rfl, rfl, rfl, by decide +kernel⟩ ?hw ?hc
  case hw => w_witness2
  case hc =>
    refine L2.walk_ofE (l := PySem.Challenge.rw_curbdesk_k17_worths) (n := 63) (k := 5) (x := "_law_script") (CX := L2.CX0) rfl (by decide) (by kernel_rfl) ⟨rfl, by decide, by decide⟩ ?F (fun _ _ _ _ z => z)
    intro w mg fa h Y G hmg0
    obtain ⟨K, KX, c⟩ := Y
    have hmg : mg ("law" : PySem.Str) = some (.ref fa) := by
      have e : (HandSHeadRun.topDef (OpenLaw.row PySem.Challenge.rw_curbdesk_k17_worths).prog 58).name = ("law" : PySem.Str) := by kernel_rfl
      rw [← e]
      exact hmg0
    obtain ⟨fd, hb, hF⟩ := My.facts (w := w) KX G hmg c
    exact ⟨K, fd, L3.Sp_S K My.M_law, KX, hb, fun H a ns hl _ hS => ⟨a, ns, rfl, Nat.le_trans hl (by decide), hS, true, My.law_ok ns, fun _ => rfl⟩, hF⟩
