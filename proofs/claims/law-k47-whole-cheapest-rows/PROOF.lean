import PyProof.Rows.All
import Wide.All
import OpenK.AllK
import Wide.FinOn
import PySem.Challenge.RW_movedchest_k47_whole_cheapest_rows
import HandS.ForExc
import HandS.Comp
import HandS.Iter
import HandS.Zip
import HandS.Deep
import HandS.IsInst
import HandS.TupAny
import HandS.Style
import HandS.Strs
import HandS.SetFor
import HandS.TupSets
import HandS.Flow
import HandS.Wide
import KE.DataMinMax
import KE.SortData
import KE.KTupSum
import KE.GoesMore
import KE.GoesZip
import KE.GoesEnum
import KE.KDictKeyed
import HandS.Dict
import PyProof.Rows.TupDisplay
import KE.KDictDisplayH
set_option Elab.async false
set_option linter.all false
set_option maxRecDepth 100000
set_option maxHeartbeats 4000000
/-! DL1: a data layer over HandS: values as PyData, views of the heap, canonical readings of expressions. -/
namespace DL
open PySem PySem.Spec PyProof.Rows L2

abbrev D := PyData

/-! ### data in a heap -/
mutual
inductive Dq (K : PySem.W.Frag) (H : Hp) : V → PyData → Prop
  | non : Dq K H .non .none
  | bl (b : Bool) : Dq K H (.bl b) (.bool b)
  | int (i : Int) : Dq K H (.int i) (.int i)
  | str (x : Str) : Dq K H (.str x) (.str x)
  | lst {a : Addr} {xs : List V} {ds : List PyData} : H a = some (.lst xs) → DqAll K H xs ds → Dq K H (.ref a) (.list ds)
  | tup {a : Addr} {xs : List V} {ds : List PyData} : SqT K H a xs → DqAll K H xs ds → Dq K H (.ref a) (.tuple ds)
inductive DqAll (K : PySem.W.Frag) (H : Hp) : List V → List PyData → Prop
  | nil : DqAll K H [] []
  | cons {v : V} {vs : List V} {d : PyData} {ds : List PyData} : Dq K H v d → DqAll K H vs ds → DqAll K H (v :: vs) (d :: ds)
end
section
variable {K : PySem.W.Frag} {H H' : Hp}
theorem same_sqT {a : Addr} {xs : List V} (e : Same H H') (h : SqT K H a xs) : SqT K H' a xs := by
  rcases h with (h | ⟨o, h⟩) | h
  · exact .inl (.inl (e _ _ h))
  · exact .inl (.inr ⟨o, e _ _ h⟩)
  · exact .inr h
mutual
theorem Dq.dp : ∀ (d : PyData) (v : V), Dq K H v d → Dp K H v d
  | .none, _, h => by cases h; exact .non
  | .bool b, _, h => by cases h; exact .bl b
  | .int i, _, h => by cases h; exact .int i
  | .str x, _, h => by cases h; exact .str x
  | .list ds, _, h => by
    cases h with
    | lst hs ha => exact .lst (SqL.of hs) (DqAll.dp ds _ ha)
  | .tuple ds, _, h => by
    cases h with
    | tup hs ha => exact .tup hs (DqAll.dp ds _ ha)
  | .dict _, _, h => by cases h
theorem DqAll.dp : ∀ (ds : List PyData) (vs : List V), DqAll K H vs ds → DpAll K H vs ds
  | [], _, h => by cases h; exact .nil
  | d :: ds, _, h => by
    cases h with
    | cons h1 h2 => exact .cons (Dq.dp d _ h1) (DqAll.dp ds _ h2)
end
mutual
theorem Dq.mono (e : Same H H') : ∀ (d : PyData) (v : V), Dq K H v d → Dq K H' v d
  | .none, _, h => by cases h; exact .non
  | .bool b, _, h => by cases h; exact .bl b
  | .int i, _, h => by cases h; exact .int i
  | .str x, _, h => by cases h; exact .str x
  | .list ds, _, h => by
    cases h with
    | lst hs ha => exact .lst (e _ _ hs) (DqAll.mono e ds _ ha)
  | .tuple ds, _, h => by
    cases h with
    | tup hs ha => exact .tup (same_sqT e hs) (DqAll.mono e ds _ ha)
  | .dict _, _, h => by cases h
theorem DqAll.mono (e : Same H H') : ∀ (ds : List PyData) (vs : List V), DqAll K H vs ds → DqAll K H' vs ds
  | [], _, h => by cases h; exact .nil
  | d :: ds, _, h => by
    cases h with
    | cons h1 h2 => exact .cons (Dq.mono e d _ h1) (DqAll.mono e ds _ h2)
end
theorem Dq.to {v : V} {d : PyData} (h : Dq K H v d) (e : Same H H') : Dq K H' v d := Dq.mono e d v h
theorem DqAll.to {vs : List V} {ds : List PyData} (h : DqAll K H vs ds) (e : Same H H') : DqAll K H' vs ds := DqAll.mono e ds vs h
theorem DqAll.length : ∀ {vs : List V} {ds : List PyData}, DqAll K H vs ds → vs.length = ds.length
  | _, [], h => by cases h; rfl
  | _, d :: ds, h => by
    cases h with
    | cons h1 h2 => rw [List.length_cons, List.length_cons, DqAll.length h2]
theorem DqAll.get : ∀ {vs : List V} {ds : List PyData} {i : Nat} {v : V}, DqAll K H vs ds → vs[i]? = some v → ∃ d, ds[i]? = some d ∧ Dq K H v d
  | _, [], _, _, h, e => by cases h; simp at e
  | _, d :: ds, i, v, h, e => by
    cases h with
    | cons h1 h2 =>
      cases i with
      | zero =>
        have e' := Option.some.inj (show some _ = some v from e)
        subst e'
        exact ⟨d, rfl, h1⟩
      | succ i =>
        obtain ⟨d', q1, q2⟩ := DqAll.get (i := i) h2 (by simpa using e)
        exact ⟨d', by simpa using q1, q2⟩
theorem DqAll.at_ : ∀ {vs : List V} {ds : List PyData} {i : Nat} {d : PyData}, DqAll K H vs ds → ds[i]? = some d → ∃ v, vs[i]? = some v ∧ Dq K H v d
  | _, [], _, _, h, e => by simp at e
  | _, d :: ds, i, d', h, e => by
    cases h with
    | cons h1 h2 =>
      cases i with
      | zero =>
        have e' := Option.some.inj (show some _ = some d' from e)
        subst e'
        exact ⟨_, rfl, h1⟩
      | succ i =>
        obtain ⟨v, q1, q2⟩ := DqAll.at_ (i := i) h2 (by simpa using e)
        exact ⟨v, by simpa using q1, q2⟩
theorem DqAll.append : ∀ {vs ws : List V} {ds es : List PyData}, DqAll K H vs ds → DqAll K H ws es → DqAll K H (vs ++ ws) (ds ++ es)
  | _, _, [], _, h, g => by cases h; exact g
  | _, _, d :: ds, _, h, g => by
    cases h with
    | cons h1 h2 => exact .cons h1 (DqAll.append h2 g)
theorem DqAll.take : ∀ {vs : List V} {ds : List PyData} (n : Nat), DqAll K H vs ds → DqAll K H (vs.take n) (ds.take n)
  | _, _, 0, _ => .nil
  | _, [], n + 1, h => by cases h; exact .nil
  | _, d :: ds, n + 1, h => by
    cases h with
    | cons h1 h2 => exact .cons h1 (DqAll.take n h2)
theorem DqAll.drop : ∀ {vs : List V} {ds : List PyData} (n : Nat), DqAll K H vs ds → DqAll K H (vs.drop n) (ds.drop n)
  | _, _, 0, h => h
  | _, [], n + 1, h => by cases h; exact .nil
  | _, d :: ds, n + 1, h => by
    cases h with
    | cons h1 h2 => exact DqAll.drop n h2
theorem DqAll.set {v : V} {d : PyData} (g : Dq K H v d) : ∀ {vs : List V} {ds : List PyData} (n : Nat), DqAll K H vs ds → DqAll K H (vs.set n v) (ds.set n d)
  | _, [], _, h => by cases h; exact .nil
  | _, e :: ds, n, h => by
    cases h with
    | cons h1 h2 =>
      cases n with
      | zero => exact .cons g h2
      | succ n => exact .cons h1 (DqAll.set g n h2)
theorem DqAll.rep {vs : List V} {ds : List PyData} (h : DqAll K H vs ds) : ∀ n : Nat, DqAll K H (List.replicate n vs).flatten (List.replicate n ds).flatten
  | 0 => .nil
  | n + 1 => by
    rw [List.replicate_succ, List.replicate_succ, List.flatten_cons, List.flatten_cons]
    exact h.append (DqAll.rep h n)
theorem DqAll.ints : ∀ {ns : List Int}, DqAll K H (ns.map V.int) (ns.map PyData.int)
  | [] => .nil
  | n :: ns => .cons (.int n) DqAll.ints
theorem DqAll.of_ints : ∀ {vs : List V} {ns : List Int}, DqAll K H vs (ns.map PyData.int) → vs = ns.map V.int
  | _, [], h => by cases h; rfl
  | _, n :: ns, h => by
    cases h with
    | cons h1 h2 =>
      cases h1
      rw [DqAll.of_ints h2, List.map_cons]
theorem DqAll.of_bls : ∀ {vs : List V} {ns : List Bool}, DqAll K H vs (ns.map PyData.bool) → vs = ns.map V.bl
  | _, [], h => by cases h; rfl
  | _, n :: ns, h => by
    cases h with
    | cons h1 h2 =>
      cases h1
      rw [DqAll.of_bls h2, List.map_cons]
theorem DqAll.nil_iff {vs : List V} {ds : List PyData} (h : DqAll K H vs ds) : vs = [] ↔ ds = [] := by
  have e := h.length
  constructor
  · intro z; subst z; exact List.length_eq_zero_iff.mp e.symm
  · intro z; subst z; exact List.length_eq_zero_iff.mp e
end

/-! ### views: G the part of the heap H that stays -/
structure Stp (G H G' H' : Hp) : Prop where
  g : Same G G'
  h : Same H H'
  gh : Same G' H'
  nw : ∀ p o, H p = some o → G p = none → G' p = none
theorem Stp.refl {G H : Hp} (s : Same G H) : Stp G H G H := ⟨Same.refl _, Same.refl _, s, fun _ _ _ n => n⟩
theorem Stp.trans {G H G1 H1 G2 H2 : Hp} (a : Stp G H G1 H1) (b : Stp G1 H1 G2 H2) : Stp G H G2 H2 :=
  ⟨a.g.trans b.g, a.h.trans b.h, b.gh, fun p o e n => b.nw p o (a.h p o e) (a.nw p o e n)⟩
theorem same_upd {H : Hp} {p : Addr} {o : HO} (h : H p = none) : Same H (upd H p o) := fun b x e => by
  rw [upd_ne (ne_of_none e h)]
  exact e
theorem same_upd2 {G H : Hp} {p : Addr} {o : HO} (h : Same G H) : Same (upd G p o) (upd H p o) := fun b x e => by
  by_cases hb : b = p
  · subst hb; rw [upd_same] at e ⊢; exact e
  · rw [upd_ne hb] at e ⊢; exact h b x e
theorem Stp.new {G H : Hp} {p : Addr} {o : HO} (s : Same G H) (n : H p = none) : Stp G H (upd G p o) (upd H p o) :=
  ⟨same_upd (s.free n), same_upd n, same_upd2 s, fun q u e z => by rw [upd_ne (ne_of_none e n)]; exact z⟩
/-- new in H alone -/
theorem Stp.newH {G H : Hp} {p : Addr} {o : HO} (s : Same G H) (n : H p = none) : Stp G H G (upd H p o) :=
  ⟨Same.refl _, same_upd n, s.trans (same_upd n), fun _ _ _ z => z⟩
/-- the whole heap as the view -/
theorem Stp.grow {G H H' : Hp} (s : Same G H) (h : Same H H') : Stp G H G H' := ⟨Same.refl _, h, s.trans h, fun _ _ _ z => z⟩

/-! ### environments -/
abbrev Rp := List (Option D)
structure EnvP (K : PySem.W.Frag) (G : Hp) (σ : L2.St) (ρ : Rp) : Prop where
  len : σ.length = ρ.length
  at_ : ∀ (i : Nat) (d : D), ρ[i]? = some (some d) → ∃ v, σ[i]? = some (some v) ∧ Dq K G v d
structure At (K : PySem.W.Frag) (G H : Hp) (σ : L2.St) (ρ : Rp) : Prop where
  s : Same G H
  e : EnvP K G σ ρ
section
variable {K : PySem.W.Frag} {G H G' H' : Hp} {σ : L2.St} {ρ : Rp}
theorem EnvP.to (h : EnvP K G σ ρ) (e : Same G G') : EnvP K G' σ ρ := ⟨h.len, fun i d q => let ⟨v, a, b⟩ := h.at_ i d q; ⟨v, a, b.to e⟩⟩
theorem At.stp (h : At K G H σ ρ) (s : Stp G H G' H') : At K G' H' σ ρ := ⟨s.gh, h.e.to s.g⟩
theorem EnvP.set {v : V} {d : D} (h : EnvP K G σ ρ) (i : Nat) (g : Dq K G v d) : EnvP K G (σ.set i (some v)) (ρ.set i (some d)) := by
  refine ⟨by rw [List.length_set, List.length_set]; exact h.len, fun j d' q => ?_⟩
  by_cases hj : i = j
  · subst hj
    by_cases hl : i < ρ.length
    · rw [List.getElem?_set_self hl] at q
      have q' := Option.some.inj (Option.some.inj q)
      subst q'
      exact ⟨v, List.getElem?_set_self (by rw [h.len]; exact hl), g⟩
    · rw [List.getElem?_eq_none (by rw [List.length_set]; omega)] at q
      cases q
  · rw [List.getElem?_set_ne hj] at q ⊢
    exact h.at_ j d' q
theorem EnvP.unset (h : EnvP K G σ ρ) (i : Nat) : EnvP K G (σ.set i none) (ρ.set i none) := by
  refine ⟨by rw [List.length_set, List.length_set]; exact h.len, fun j d' q => ?_⟩
  by_cases hj : i = j
  · subst hj
    by_cases hl : i < ρ.length
    · rw [List.getElem?_set_self hl] at q
      cases q
    · rw [List.getElem?_eq_none (by rw [List.length_set]; omega)] at q
      cases q
  · rw [List.getElem?_set_ne hj] at q ⊢
    exact h.at_ j d' q
def wipeR (ρ : Rp) : List Nat → Rp
  | [] => ρ
  | v :: vs => (wipeR ρ vs).set v none
theorem EnvP.wipe (h : EnvP K G σ ρ) : ∀ vs : List Nat, EnvP K G (L2.wipe σ vs) (wipeR ρ vs)
  | [] => h
  | v :: vs => (EnvP.wipe h vs).unset v
theorem At.mk' (s : Same G H) (e : EnvP K G σ ρ) : At K G H σ ρ := ⟨s, e⟩
end

/-! ### canonical readings -/
/-- what follows an expression of the value d -/
def Post (K : PySem.W.Frag) (G H : Hp) (d : D) (Q : VK) : Prop := ∀ v G' H', Stp G H G' H' → Dq K G' v d → Q v H'
def tD (K : PySem.W.Frag) (f : Rp → Option D) : TE := fun σ H Q => ∃ G ρ d, At K G H σ ρ ∧ f ρ = some d ∧ Post K G H d Q
def tDT (K : PySem.W.Frag) (f : Rp → Option Bool) : TT := fun σ H Q => ∃ G ρ b, At K G H σ ρ ∧ f ρ = some b ∧ ∀ G' H', Stp G H G' H' → Q b H'
def tDA (K : PySem.W.Frag) (f : Rp → Option (List D)) : TA := fun σ H Q => ∃ G ρ ds, At K G H σ ρ ∧ f ρ = some ds ∧ ∀ vs G' H', Stp G H G' H' → DqAll K G' vs ds → Q vs H'
theorem _root_.L2.PE.imp {X : Cx} {e : Expr} {t t' : TE} (h : PE X e t) (hi : ∀ σ H Q, t' σ H Q → t σ H Q) : PE X e t' := ⟨fun pins s σ H Q I w => h.run pins s σ H Q I (hi σ H Q w)⟩
theorem _root_.L2.PT.imp {X : Cx} {e : Expr} {t t' : TT} (h : PT X e t) (hi : ∀ σ H Q, t' σ H Q → t σ H Q) : PT X e t' := ⟨fun pins s σ H Q I w => h.run pins s σ H Q I (hi σ H Q w)⟩
theorem _root_.L2.PW.imp {X : Cx} {e : Expr} {t t' : TT} (h : PW X e t) (hi : ∀ σ H Q, t' σ H Q → t σ H Q) : PW X e t' := ⟨fun wh pins s σ H Q I w => h.run wh pins s σ H Q I (hi σ H Q w)⟩
theorem _root_.L2.PA.imp {X : Cx} {es : List Expr} {t t' : TA} (h : PA X es t) (hi : ∀ σ H Q, t' σ H Q → t σ H Q) : PA X es t' := ⟨fun pos pins s σ H Q I w => h.run pos pins s σ H Q I (hi σ H Q w)⟩
theorem _root_.L2.PTs.imp {X : Cx} {es : List Expr} {t t' : TT} (h : PTs X es t) (hi : ∀ σ H Q, t' σ H Q → t σ H Q) : PTs X es t' := ⟨fun pins s σ H Q I w => h.run pins s σ H Q I (hi σ H Q w)⟩
abbrev DE (X : Cx) (e : Expr) (f : Rp → Option D) : Prop := PE X e (tD X.K f)
abbrev DT (X : Cx) (e : Expr) (f : Rp → Option Bool) : Prop := PT X e (tDT X.K f)
abbrev DW (X : Cx) (e : Expr) (f : Rp → Option Bool) : Prop := PW X e (tDT X.K f)
abbrev DA (X : Cx) (es : List Expr) (f : Rp → Option (List D)) : Prop := PA X es (tDA X.K f)
/-- on values: two-place operations, calls -/
def R2D (K : PySem.W.Frag) (r : R2) (g : D → D → Option D) : Prop := ∀ v u G H x y z, Same G H → Dq K G v x → Dq K G u y → g x y = some z → ∀ Q : VK, Post K G H z Q → r v u H Q
def RUD (K : PySem.W.Frag) (r : V → Hp → VK → Prop) (g : D → Option D) : Prop := ∀ v G H x z, Same G H → Dq K G v x → g x = some z → ∀ Q : VK, Post K G H z Q → r v H Q
def RCD (K : PySem.W.Frag) (r : List V → Hp → VK → Prop) (g : List D → Option D) : Prop := ∀ vs G H ds z, Same G H → DqAll K G vs ds → g ds = some z → ∀ Q : VK, Post K G H z Q → r vs H Q

section
variable {K : PySem.W.Frag} {G H G1 H1 : Hp} {σ : L2.St} {ρ : Rp} {d : D} {Q : VK}
/-- a value without objects -/
theorem Post.flat {v : V} (p : Post K G H d Q) (s : Same G H) (h : ∀ G', Dq K G' v d) : Q v H := p v G H (.refl s) (h G)
theorem Post.int {i : Int} (p : Post K G H (.int i) Q) (s : Same G H) : Q (.int i) H := p.flat s fun _ => .int i
theorem Post.bl {b : Bool} (p : Post K G H (.bool b) Q) (s : Same G H) : Q (.bl b) H := p.flat s fun _ => .bl b
theorem Post.old {v : V} (p : Post K G H d Q) (s : Same G H) (h : Dq K G v d) : Q v H := p v G H (.refl s) h
theorem Post.stp (p : Post K G H d Q) (s : Stp G H G1 H1) : Post K G1 H1 d Q := fun v G' H' s' h => p v G' H' (s.trans s') h
theorem Post.newT {vs : List V} {ds : List D} (p : Post K G H (.tuple ds) Q) (s : Same G H) (h : DqAll K G vs ds) : ∀ a, H a = none → Q (.ref a) (upd H a (.tup vs)) := fun a n =>
  p _ _ _ (.new s n) (.tup (.inl (.inl upd_same)) (h.to (Stp.new s n).g))
theorem Post.newL {vs : List V} {ds : List D} (p : Post K G H (.list ds) Q) (s : Same G H) (h : DqAll K G vs ds) : ∀ a, H a = none → Q (.ref a) (upd H a (.lst vs)) := fun a n =>
  p _ _ _ (.new s n) (.lst upd_same (h.to (Stp.new s n).g))
end

theorem dpos {n : Nat} (h : n ≤ 100000) : n ≤ sizeLine := Nat.le_trans h (by decide)

section
variable {X : Cx} {a b c e : Expr} {fa fb fc : Rp → Option D} {pos : Pos}
/-! ### names, constants, displays -/
def dVar (i : Nat) : Rp → Option D := fun ρ => match ρ[i]? with
  | some (some d) => some d
  | _ => none
theorem de_var (i : Nat) {x : Str} (hN : X.N[i]? = some x := by rfl) (hv : Vis X.env.scope x := by first | exact Or.inl rfl | exact Or.inr (Or.inl rfl) | exact Or.inr (Or.inr rfl)) (hd : (x == ("__debug__" : Str)) = false := by decide)
    (hcd : (x == ("__classdict__" : Str)) = false := by decide) : DE X (.Name x pos) (dVar i) := (pe_var (i := i) hN hv hd hcd).imp fun σ H Q ⟨G, ρ, d, at_, e, p⟩ => by
  unfold dVar at e
  split at e
  · rename_i d' h
    cases e
    obtain ⟨v, e1, e2⟩ := at_.e.at_ i _ h
    exact ⟨v, e1, p.old at_.s e2⟩
  · cases e
def dC (d : D) : Rp → Option D := fun _ => some d
theorem de_C {v : V} {d : D} (h : PE X e (tC v)) (hd : ∀ G, Dq X.K G v d) : DE X e (dC d) := h.imp fun σ H Q ⟨G, ρ, d', at_, e, p⟩ => by
  cases e
  exact p.flat at_.s hd
theorem de_int {i j} : DE X (.Constant (.int i) j pos) (dC (.int i)) := de_C pe_int fun _ => .int i
theorem de_bl {b j} : DE X (.Constant (.bool b) j pos) (dC (.bool b)) := de_C pe_bl fun _ => .bl b
theorem de_non {j} : DE X (.Constant .none j pos) (dC .none) := de_C pe_non fun _ => .non
theorem de_str {x j} : DE X (.Constant (.str x) j pos) (dC (.str x)) := de_C pe_str fun _ => .str x
/-- a module's constant -/
theorem de_glob {x : Str} {v : V} {u : Value} {d : D} (hg : Gl X x) (hm : X.mg x = some u) (r : RelV v u) (hq : ∀ G, Dq X.K G v d) (hd : (x == ("__debug__" : Str)) = false := by decide) : DE X (.Name x pos) (dC d) := de_C (pe_glob hg hm r hd) hq
/-! argument lists -/
def dNil : Rp → Option (List D) := fun _ => some []
def dCons (f : Rp → Option D) (g : Rp → Option (List D)) : Rp → Option (List D) := fun ρ => (f ρ).bind fun d => (g ρ).bind fun ds => some (d :: ds)
theorem da_nil : DA X [] dNil := (pa_nil (X := X)).imp fun σ H Q ⟨G, ρ, ds, at_, e, p⟩ => by
  cases e
  exact p [] G H (.refl at_.s) .nil
theorem da_cons {es : List Expr} {g : Rp → Option (List D)} (ha : DE X e fa) (hr : DA X es g) (hs : starEach (e :: es) X.env = (false, eval e X.env) :: starEach es X.env := by rfl) : DA X (e :: es) (dCons fa g) := (pa_cons ha hr hs).imp fun σ H Q ⟨G, ρ, ds, at_, e, p⟩ => by
  unfold dCons at e
  obtain ⟨d, e1, e⟩ := Option.bind_eq_some_iff.mp e
  obtain ⟨ds', e2, e⟩ := Option.bind_eq_some_iff.mp e
  cases e
  refine ⟨G, ρ, d, at_, e1, fun v G1 H1 s1 h1 => ?_⟩
  refine ⟨G1, ρ, ds', at_.stp s1, e2, fun vs G2 H2 s2 h2 => ?_⟩
  exact p _ G2 H2 (s1.trans s2) (.cons (h1.to s2.g) h2)
def dTup (f : Rp → Option (List D)) : Rp → Option D := fun ρ => (f ρ).bind fun ds => if ds.length ≤ 100000 then some (.tuple ds) else none
def dLst (f : Rp → Option (List D)) : Rp → Option D := fun ρ => (f ρ).bind fun ds => if ds.length ≤ 100000 then some (.list ds) else none
theorem de_tup {es : List Expr} {g : Rp → Option (List D)} {x1} (h : DA X es g) : DE X (.Tuple es x1 pos) (dTup g) := (pe_tup h).imp fun σ H Q ⟨G, ρ, d, at_, e, p⟩ => by
  unfold dTup at e
  obtain ⟨ds, e1, e⟩ := Option.bind_eq_some_iff.mp e
  split at e
  · rename_i hz
    cases e
    refine ⟨G, ρ, ds, at_, e1, fun vs G1 H1 s1 h1 => ?_⟩
    exact ⟨dpos (by rw [h1.length]; exact hz), (p.stp s1).newT s1.gh h1⟩
  · cases e
theorem de_lst {es : List Expr} {g : Rp → Option (List D)} (h : DA X es g) : DE X (.List es pos) (dLst g) := (pe_lst h).imp fun σ H Q ⟨G, ρ, d, at_, e, p⟩ => by
  unfold dLst at e
  obtain ⟨ds, e1, e⟩ := Option.bind_eq_some_iff.mp e
  split at e
  · rename_i hz
    cases e
    refine ⟨G, ρ, ds, at_, e1, fun vs G1 H1 s1 h1 => ?_⟩
    exact ⟨dpos (by rw [h1.length]; exact hz), (p.stp s1).newL s1.gh h1⟩
  · cases e

/-! ### operators -/
def d2 (g : D → D → Option D) (fa fb : Rp → Option D) : Rp → Option D := fun ρ => (fa ρ).bind fun x => (fb ρ).bind fun y => g x y
def d1 (g : D → Option D) (fa : Rp → Option D) : Rp → Option D := fun ρ => (fa ρ).bind g
theorem tOp_D {K : PySem.W.Frag} {r : R2} {g : D → D → Option D} (hr : R2D K r g) : ∀ σ H Q, tD K (d2 g fa fb) σ H Q → tOp r (tD K fa) (tD K fb) σ H Q := fun σ H Q ⟨G, ρ, d, at_, e, p⟩ => by
  unfold d2 at e
  obtain ⟨x, e1, e⟩ := Option.bind_eq_some_iff.mp e
  obtain ⟨y, e2, e⟩ := Option.bind_eq_some_iff.mp e
  refine ⟨G, ρ, x, at_, e1, fun v G1 H1 s1 h1 => ?_⟩
  refine ⟨G1, ρ, y, at_.stp s1, e2, fun u G2 H2 s2 h2 => ?_⟩
  exact hr v u G2 H2 x y d s2.gh (h1.to s2.g) h2 e Q (p.stp (s1.trans s2))
theorem de_op {op : Operator} {r : R2} {g : D → D → Option D} (hr : R2D X.K r g) (ho : OpR X (binaryOp op) r) (ha : DE X a fa) (hb : DE X b fb) : DE X (.BinOp a op b pos) (d2 g fa fb) := (pe_op ho ha hb).imp (tOp_D hr)
theorem de_cmp {op : CmpOp} {r : R2} {g : D → D → Option D} (hr : R2D X.K r g) (ho : OpR X (compareOp op) r) (ha : DE X a fa) (hb : DE X b fb) (hm : behindInMarks op b = false := by rfl) : DE X (.Compare a [op] [b] pos) (d2 g fa fb) := (pe_cmpR ho ha hb hm).imp (tOp_D hr)
theorem de_ix0 {r : R2} {g : D → D → Option D} (hr : R2D X.K r g) (ho : IxR X r) (ha : DE X a fa) (hb : DE X b fb) (hs : PlainIx b) : DE X (.Subscript a b pos) (d2 g fa fb) := (pe_ix ho ha hb hs).imp (tOp_D hr)
theorem de_un {op : UnaryOp} {r : V → Hp → VK → Prop} {g : D → Option D} (hr : RUD X.K r g) (ho : UnR X (unaryOp op) r) (ha : DE X a fa) : DE X (.UnaryOp op a pos) (d1 g fa) := (pe_un ho ha).imp fun σ H Q ⟨G, ρ, d, at_, e, p⟩ => by
  unfold d1 at e
  obtain ⟨x, e1, e⟩ := Option.bind_eq_some_iff.mp e
  refine ⟨G, ρ, x, at_, e1, fun v G1 H1 s1 h1 => ?_⟩
  exact hr v G1 H1 x d s1.gh h1 e Q (p.stp s1)

/-! ### tests -/
def asB : D → Option Bool
  | .bool b => some b
  | _ => none
def tB_ (f : Rp → Option D) : Rp → Option Bool := fun ρ => (f ρ).bind asB
theorem tTest_D {K : PySem.W.Frag} {t : TE} {f : Rp → Option D} (h : ∀ σ H Q, tD K f σ H Q → t σ H Q) : ∀ σ H Q, tDT K (tB_ f) σ H Q → t σ H fun x H' => ∃ k, x = .bl k ∧ Q k H' := fun σ H Q ⟨G, ρ, b, at_, e, p⟩ => by
  unfold tB_ at e
  obtain ⟨d, e1, e⟩ := Option.bind_eq_some_iff.mp e
  refine h σ H _ ⟨G, ρ, d, at_, e1, fun v G1 H1 s1 h1 => ?_⟩
  cases d with
  | bool b' =>
    cases e
    cases h1
    exact ⟨b, rfl, p G1 H1 s1⟩
  | none => cases e
  | int _ => cases e
  | str _ => cases e
  | list _ => cases e
  | tuple _ => cases e
  | dict _ => cases e
theorem dt_cmp {op : CmpOp} {r : R2} {g : D → D → Option D} (hr : R2D X.K r g) (ho : OpR X (compareOp op) r) (ha : DE X a fa) (hb : DE X b fb) (hm : behindInMarks op b = false := by rfl) : DT X (.Compare a [op] [b] pos) (tB_ (d2 g fa fb)) :=
  (pt_cmpR ho ha hb hm).imp (tTest_D (tOp_D hr))
theorem dt_val {f : Rp → Option D} (h : DE X e f) (he : ∀ whole, isTrue e X.env whole = (do let v ← whole; standAt e.pos; holding [v] (truthy v)) := by intro _; rfl) : DT X e (tB_ f) := (pt_val h he).imp (tTest_D fun _ _ _ z => z)
def tAnd_ (p q : Rp → Option Bool) : Rp → Option Bool := fun ρ => (p ρ).bind fun c => if c = true then q ρ else some false
def tOr_ (p q : Rp → Option Bool) : Rp → Option Bool := fun ρ => (p ρ).bind fun c => if c = true then some true else q ρ
def tNot_ (p : Rp → Option Bool) : Rp → Option Bool := fun ρ => (p ρ).map fun c => !c
variable {p q : Rp → Option Bool} {rest : List Expr}
theorem dw_and1 (ha : DT X a p) : DW X (.BoolOp .And [a] pos) p := pw_and1 ha
theorem dw_or1 (ha : DT X a p) : DW X (.BoolOp .Or [a] pos) p := pw_or1 ha
theorem dw_and (ha : DT X a p) (hb : DW X (.BoolOp .And (b :: rest) pos) q) : DW X (.BoolOp .And (a :: b :: rest) pos) (tAnd_ p q) := (pw_and ha hb).imp fun σ H Q ⟨G, ρ, d, at_, e, w⟩ => by
  unfold tAnd_ at e
  obtain ⟨c, e1, e⟩ := Option.bind_eq_some_iff.mp e
  refine ⟨G, ρ, c, at_, e1, fun G1 H1 s1 => ?_⟩
  cases c with
  | true => exact ⟨G1, ρ, d, at_.stp s1, e, fun G2 H2 s2 => w G2 H2 (s1.trans s2)⟩
  | false =>
    cases e
    exact w G1 H1 s1
theorem dw_or (ha : DT X a p) (hb : DW X (.BoolOp .Or (b :: rest) pos) q) : DW X (.BoolOp .Or (a :: b :: rest) pos) (tOr_ p q) := (pw_or ha hb).imp fun σ H Q ⟨G, ρ, d, at_, e, w⟩ => by
  unfold tOr_ at e
  obtain ⟨c, e1, e⟩ := Option.bind_eq_some_iff.mp e
  refine ⟨G, ρ, c, at_, e1, fun G1 H1 s1 => ?_⟩
  cases c with
  | false => exact ⟨G1, ρ, d, at_.stp s1, e, fun G2 H2 s2 => w G2 H2 (s1.trans s2)⟩
  | true =>
    cases e
    exact w G1 H1 s1
theorem DW.dt (h : DW X e p) : DT X e p := h.pt
theorem dt_not (ha : DT X a p) : DT X (.UnaryOp .Not a pos) (tNot_ p) := (pt_not ha).imp fun σ H Q ⟨G, ρ, d, at_, e, w⟩ => by
  unfold tNot_ at e
  obtain ⟨c, e1, e⟩ := Option.map_eq_some_iff.mp e
  subst e
  exact ⟨G, ρ, c, at_, e1, fun G1 H1 s1 => w G1 H1 s1⟩
/-- .. as values -/
def vAnd (f g : Rp → Option D) : Rp → Option D := fun ρ => (f ρ).bind fun x => (asB x).bind fun c => if c = true then g ρ else some (.bool false)
def vOr (f g : Rp → Option D) : Rp → Option D := fun ρ => (f ρ).bind fun x => (asB x).bind fun c => if c = true then some (.bool true) else g ρ
def vNot (f : Rp → Option D) : Rp → Option D := fun ρ => (f ρ).bind fun x => (asB x).bind fun c => some (.bool (!c))
theorem asB_some {d : D} {b : Bool} (h : asB d = some b) : d = .bool b := by
  cases d <;> first | (cases h; rfl) | cases h
theorem de_one {op} (h : DE X a fa) : DE X (.BoolOp op [a] pos) fa := pe_one h
theorem de_and (ha : DE X a fa) (hb : DE X (.BoolOp .And (b :: rest) pos) fb) : DE X (.BoolOp .And (a :: b :: rest) pos) (vAnd fa fb) := (pe_and ha hb).imp fun σ H Q ⟨G, ρ, d, at_, e, w⟩ => by
  unfold vAnd at e
  obtain ⟨x, e1, e⟩ := Option.bind_eq_some_iff.mp e
  obtain ⟨c, e2, e⟩ := Option.bind_eq_some_iff.mp e
  have e3 := asB_some e2
  subst e3
  refine ⟨G, ρ, _, at_, e1, fun v G1 H1 s1 h1 => ?_⟩
  cases h1
  refine ⟨c, rfl, ?_⟩
  cases c with
  | true => exact ⟨G1, ρ, d, at_.stp s1, e, w.stp s1⟩
  | false =>
    cases e
    exact (w.stp s1).bl s1.gh
theorem de_or (ha : DE X a fa) (hb : DE X (.BoolOp .Or (b :: rest) pos) fb) : DE X (.BoolOp .Or (a :: b :: rest) pos) (vOr fa fb) := (pe_or ha hb).imp fun σ H Q ⟨G, ρ, d, at_, e, w⟩ => by
  unfold vOr at e
  obtain ⟨x, e1, e⟩ := Option.bind_eq_some_iff.mp e
  obtain ⟨c, e2, e⟩ := Option.bind_eq_some_iff.mp e
  have e3 := asB_some e2
  subst e3
  refine ⟨G, ρ, _, at_, e1, fun v G1 H1 s1 h1 => ?_⟩
  cases h1
  refine ⟨c, rfl, ?_⟩
  cases c with
  | false => exact ⟨G1, ρ, d, at_.stp s1, e, w.stp s1⟩
  | true =>
    cases e
    exact (w.stp s1).bl s1.gh
theorem de_not (ha : DE X a fa) : DE X (.UnaryOp .Not a pos) (vNot fa) := (pe_not ha).imp fun σ H Q ⟨G, ρ, d, at_, e, w⟩ => by
  unfold vNot at e
  obtain ⟨x, e1, e⟩ := Option.bind_eq_some_iff.mp e
  obtain ⟨c, e2, e⟩ := Option.bind_eq_some_iff.mp e
  have e3 := asB_some e2
  subst e3
  cases e
  refine ⟨G, ρ, _, at_, e1, fun v G1 H1 s1 h1 => ?_⟩
  cases h1
  exact ⟨c, rfl, (w.stp s1).bl s1.gh⟩
def dIf (p : Rp → Option Bool) (f g : Rp → Option D) : Rp → Option D := fun ρ => (p ρ).bind fun c => if c = true then f ρ else g ρ
theorem de_if (hc : DT X c p) (ha : DE X a fa) (hb : DE X b fb) : DE X (.IfExp c a b pos) (dIf p fa fb) := (pe_ifExp hc ha hb).imp fun σ H Q ⟨G, ρ, d, at_, e, w⟩ => by
  unfold dIf at e
  obtain ⟨k, e1, e⟩ := Option.bind_eq_some_iff.mp e
  refine ⟨G, ρ, k, at_, e1, fun G1 H1 s1 => ?_⟩
  cases k with
  | true => exact ⟨G1, ρ, d, at_.stp s1, e, w.stp s1⟩
  | false => exact ⟨G1, ρ, d, at_.stp s1, e, w.stp s1⟩
/-! ### calls -/
def dCall (F : List D → Option D) (g : Rp → Option (List D)) : Rp → Option D := fun ρ => (g ρ).bind F
theorem tCB_D {K : PySem.W.Frag} {r : List V → Hp → VK → Prop} {F : List D → Option D} {g : Rp → Option (List D)} (hr : RCD K r F) : ∀ σ H Q, tD K (dCall F g) σ H Q → tCB r (tDA K g) σ H Q := fun σ H Q ⟨G, ρ, d, at_, e, p⟩ => by
  unfold dCall at e
  obtain ⟨ds, e1, e⟩ := Option.bind_eq_some_iff.mp e
  exact ⟨G, ρ, ds, at_, e1, fun vs G1 H1 s1 h1 => hr vs G1 H1 ds d s1.gh h1 e Q (p.stp s1)⟩
variable {es : List Expr} {g : Rp → Option (List D)} {F : List D → Option D} {x : Str} {id T : String} {r : List V → Hp → VK → Prop} {pp : Pos}
theorem de_callB (hr : RCD X.K r F) (hc : CallR X (.builtin id) r) (hg : Gl X x) (hm : X.mg x = none) (hv : bootBuiltins x = some (.builtin id)) (ha : DA X (e :: es) g) (hn : x ≠ "__name__" := by decide) (hdb : (x == ("__debug__" : Str)) = false := by decide)
    (he : starEach (e :: es) X.env = (false, eval e X.env) :: starEach es X.env := by rfl) (hpl : (backTo pos (starEach es X.env)).any (·.1) = false := by rfl) :
    DE X (.Call (.Name x pp) (e :: es) [] pos) (dCall F g) := by
  refine L2.PE.imp (pe_callB hc hg hm hv ha hn hdb ?_ ?_) (tCB_D hr) <;> assumption
theorem de_callTy (hr : RCD X.K r F) (hc : CallR X (.type T) r) (hg : Gl X x) (hm : X.mg x = none) (hv : bootBuiltins x = some (.type T)) (ha : DA X (e :: es) g) (hn : x ≠ "__name__" := by decide) (hdb : (x == ("__debug__" : Str)) = false := by decide)
    (he : starEach (e :: es) X.env = (false, eval e X.env) :: starEach es X.env := by rfl) (hpl : (backTo pos (starEach es X.env)).any (·.1) = false := by rfl) :
    DE X (.Call (.Name x pp) (e :: es) [] pos) (dCall F g) := by
  refine L2.PE.imp (pe_callTy hc hg hm hv ha hn hdb ?_ ?_) (tCB_D hr) <;> assumption
end
/-- the promise of a def on data -/
def spD (K : PySem.W.Frag) (n : Nat) (F : List D → Option D) : Sp := fun vs H Q _ => vs.length = n ∧ ∃ G ds d, Same G H ∧ DqAll K G vs ds ∧ F ds = some d ∧ Post K G H d Q
/-- a def that stands in the module under the name x, and its promise -/
structure Callee (P : Program) (w : World) (K : PySem.W.Frag) (mg : Str → Option Value) (base : Heap) (k : Nat) (x : Str) (n : Nat) (F : List D → Option D) : Prop where
  ex : ∃ (f : Addr) (fd : FuncData) (ps : List Str), FnOk P w K mg base CX0 k f fd ps (spD K n F) ∧ mg x = some (.ref f) ∧ PySem.W.keepIn K (.ref f) = true ∧ Binds K fd ps []
section
variable {X : Cx} {e : Expr} {es : List Expr} {g : Rp → Option (List D)} {F : List D → Option D} {x : Str} {pp pos : Pos} {k n : Nat}
theorem de_call (C : Callee X.prog X.w X.K X.mg X.base k x n F) (hr : Room k X.A) (hg : Gl X x) (ha : DA X (e :: es) g) (hn : es.length + 1 = n) (hl : ∀ ρ ds, g ρ = some ds → ds.length = n) (hdb : (x == ("__debug__" : Str)) = false := by decide)
    (he : starEach (e :: es) X.env = (false, eval e X.env) :: starEach es X.env := by rfl) (hpl : (backTo pos (starEach es X.env)).any (·.1) = false := by rfl) :
    DE X (.Call (.Name x pp) (e :: es) [] pos) (dCall F g) := by
  obtain ⟨f, fd, ps, F0, hm, hk, hb⟩ := C.ex
  refine L2.PE.imp (pe_call F0 hr hg hm hk hb .nil pass0 ha hdb he hpl) fun σ H Q ⟨G, ρ, d, at_, e, p⟩ => ?_
  unfold dCall at e
  obtain ⟨ds, e1, e⟩ := Option.bind_eq_some_iff.mp e
  refine ⟨G, ρ, ds, at_, e1, fun vs G1 H1 s1 h1 => ?_⟩
  have key : spD X.K n F (vs ++ []) H1 Q E0 := by
    rw [List.append_nil]
    exact ⟨by rw [h1.length]; exact hl ρ ds e1, G1, ds, d, s1.gh, h1, e, p.stp s1⟩
  exact key
theorem de_call0 (C : Callee X.prog X.w X.K X.mg X.base k x 0 F) (hr : Room k X.A) (hg : Gl X x) (hdb : (x == ("__debug__" : Str)) = false := by decide) : DE X (.Call (.Name x pp) [] [] pos) (dCall F dNil) := by
  obtain ⟨f, fd, ps, F0, hm, hk, hb⟩ := C.ex
  refine L2.PE.imp (pe_call0 F0 hr hg hm hk hb .nil pass0 hdb) fun σ H Q ⟨G, ρ, d, at_, e, p⟩ => ?_
  unfold dCall dNil at e
  exact ⟨rfl, G, [], d, at_.s, .nil, e, p⟩
theorem len_nil : ∀ (ρ : Rp) (ds : List D), dNil ρ = some ds → ds.length = 0 := fun ρ ds e => by cases e; rfl
theorem len_cons {f : Rp → Option D} {g : Rp → Option (List D)} {n : Nat} (h : ∀ (ρ : Rp) (ds : List D), g ρ = some ds → ds.length = n) : ∀ (ρ : Rp) (ds : List D), dCons f g ρ = some ds → ds.length = n + 1 := fun ρ ds e => by
  unfold dCons at e
  obtain ⟨d, e1, e⟩ := Option.bind_eq_some_iff.mp e
  obtain ⟨ds', e2, e⟩ := Option.bind_eq_some_iff.mp e
  cases e
  rw [List.length_cons, h ρ ds' e2]
end
end DL

/-! DL2: operators, comparisons, subscripts, built-ins on data. -/
namespace DL
open PySem PySem.Spec PyProof.Rows L2

/-! ### joining -/
def orD (g g' : D → D → Option D) : D → D → Option D := fun x y => match g x y with
  | some z => some z
  | none => g' x y
theorem R2D.or {K : PySem.W.Frag} {r r' : R2} {g g' : D → D → Option D} (h : R2D K r g) (h' : R2D K r' g') : R2D K (fun x y H Q => r x y H Q ∨ r' x y H Q) (orD g g') := fun v u G H x y z s hx hy e Q p => by
  unfold orD at e
  split at e
  · rename_i z' e'
    cases e
    exact .inl (h v u G H x y _ s hx hy e' Q p)
  · exact .inr (h' v u G H x y z s hx hy e Q p)
def orC (g g' : List D → Option D) : List D → Option D := fun x => match g x with
  | some z => some z
  | none => g' x
theorem RCD.or {K : PySem.W.Frag} {r r' : List V → Hp → VK → Prop} {g g' : List D → Option D} (h : RCD K r g) (h' : RCD K r' g') : RCD K (fun x H Q => r x H Q ∨ r' x H Q) (orC g g') := fun vs G H ds z s hx e Q p => by
  unfold orC at e
  split at e
  · rename_i z' e'
    cases e
    exact .inl (h vs G H ds _ s hx e' Q p)
  · exact .inr (h' vs G H ds z s hx e Q p)

/-! ### ints -/
def intOp (g : Int → Int → Option D) : D → D → Option D
  | .int i, .int j => g i j
  | _, _ => none
theorem intOp_some {g : Int → Int → Option D} {x y z : D} (e : intOp g x y = some z) : ∃ i j, x = .int i ∧ y = .int j ∧ g i j = some z := by
  cases x <;> first | (cases e; done) | skip
  cases y <;> first | (cases e; done) | skip
  exact ⟨_, _, rfl, rfl, e⟩
theorem r2_I0 {K : PySem.W.Frag} {h : Int → Int → V} {g : Int → Int → D} (hg : ∀ G i j, Dq K G (h i j) (g i j)) : R2D K (rI0 h) (intOp fun i j => some (g i j)) := fun v u G H x y z s hx hy e Q p => by
  obtain ⟨i, j, rfl, rfl, e⟩ := intOp_some e
  cases e
  cases hx
  cases hy
  exact ⟨i, j, rfl, rfl, p.flat s fun G => hg G i j⟩
theorem r2_I {K : PySem.W.Frag} {C : Int → Int → Prop} {h : Int → Int → V} {g : Int → Int → Option D} (hg : ∀ i j z, g i j = some z → C i j ∧ ∀ G, Dq K G (h i j) z) : R2D K (rI C h) (intOp g) := fun v u G H x y z s hx hy e Q p => by
  obtain ⟨i, j, rfl, rfl, e⟩ := intOp_some e
  cases hx
  cases hy
  obtain ⟨c, q⟩ := hg i j z e
  exact ⟨i, j, rfl, rfl, c, p.flat s q⟩
def addI : D → D → Option D := intOp fun i j => some (.int (i + j))
def subD : D → D → Option D := intOp fun i j => some (.int (i - j))
def mulI : D → D → Option D := intOp fun i j => if (-(2 ^ 64) < i ∧ i < 2 ^ 64) ∨ (-(2 ^ 64) < j ∧ j < 2 ^ 64) then some (.int (i * j)) else none
def fdivD : D → D → Option D := intOp fun i j => if 0 < j ∧ j < 1073741824 then some (.int (i / j)) else none
def modD : D → D → Option D := intOp fun i j => if 0 < j then some (.int (i % j)) else none
def powD : D → D → Option D := intOp fun i j => if 0 ≤ j ∧ j ≤ 1000000 ∧ i.natAbs < 2 ^ 64 then some (.int (i ^ j.toNat)) else none
def ltD : D → D → Option D := intOp fun i j => some (.bool (decide (i < j)))
def leD : D → D → Option D := intOp fun i j => some (.bool (decide (i ≤ j)))
def gtD : D → D → Option D := intOp fun i j => some (.bool (decide (j < i)))
def geD : D → D → Option D := intOp fun i j => some (.bool (decide (j ≤ i)))
def negD : D → Option D
  | .int i => some (.int (-i))
  | _ => none

section
variable {K : PySem.W.Frag}
theorem if_some {c : Prop} [Decidable c] {α : Type} {a z : α} (h : (if c then some a else none) = some z) : c ∧ a = z := by
  split at h
  · exact ⟨by assumption, Option.some.inj h⟩
  · cases h
theorem r_addI : R2D K (rI0 fun i j => .int (i + j)) addI := r2_I0 fun _ _ _ => .int _
theorem r_sub : R2D K (rI0 fun i j => .int (i - j)) subD := r2_I0 fun _ _ _ => .int _
theorem r_mulI : R2D K (rI CMul fun i j => .int (i * j)) mulI := r2_I fun i j z e => by
  obtain ⟨c, rfl⟩ := if_some e
  exact ⟨c, fun _ => .int _⟩
theorem r_fdiv : R2D K (rI CDiv fun i j => .int (i / j)) fdivD := r2_I fun i j z e => by
  obtain ⟨c, rfl⟩ := if_some e
  exact ⟨c, fun _ => .int _⟩
theorem r_mod : R2D K (rI (fun _ j => 0 < j) fun i j => .int (i % j)) modD := r2_I fun i j z e => by
  obtain ⟨c, rfl⟩ := if_some e
  exact ⟨c, fun _ => .int _⟩
theorem r_pow : R2D K (rI CPow fun i j => .int (i ^ j.toNat)) powD := r2_I fun i j z e => by
  obtain ⟨c, rfl⟩ := if_some e
  exact ⟨c, fun _ => .int _⟩
theorem r_lt : R2D K (rI0 fun i j => .bl (decide (i < j))) ltD := r2_I0 fun _ _ _ => .bl _
theorem r_le : R2D K (rI0 fun i j => .bl (decide (i ≤ j))) leD := r2_I0 fun _ _ _ => .bl _
theorem r_gt : R2D K (rI0 fun i j => .bl (decide (j < i))) gtD := r2_I0 fun _ _ _ => .bl _
theorem r_ge : R2D K (rI0 fun i j => .bl (decide (j ≤ i))) geD := r2_I0 fun _ _ _ => .bl _
theorem r_neg : RUD K (rU fun i => .int (-i)) negD := fun v G H x z s hx e Q p => by
  cases x <;> first | (cases e; done) | skip
  cases e
  cases hx
  exact ⟨_, rfl, p.int s⟩

/-! ### tuples and lists -/
def addT : D → D → Option D
  | .tuple xs, .tuple ys => if xs.length + ys.length ≤ 100000 then some (.tuple (xs ++ ys)) else none
  | _, _ => none
def addL : D → D → Option D
  | .list xs, .list ys => if xs.length + ys.length ≤ 100000 then some (.list (xs ++ ys)) else none
  | _, _ => none
theorem r_addT : R2D K (rCatA K) addT := fun v u G H x y z s hx hy e Q p => by
  cases x <;> first | (cases e; done) | skip
  cases y <;> first | (cases e; done) | skip
  rename_i xs ys
  obtain ⟨c, rfl⟩ := if_some e
  cases hx with
  | tup hs ha =>
    cases hy with
    | tup ht hb =>
      refine ⟨_, _, _, _, rfl, rfl, same_sqT s hs, same_sqT s ht, dpos (by rw [ha.length, hb.length]; exact c), fun z => ?_, fun z1 z2 => ?_, fun _ _ => p.newT s (ha.append hb)⟩
      · have z' := ha.nil_iff.mp z
        subst z'
        exact p.old s (.tup ht hb)
      · have z' := hb.nil_iff.mp z2
        subst z'
        rw [List.append_nil] at p
        exact p.old s (.tup hs ha)
theorem r_addL : R2D K rCat addL := fun v u G H x y z s hx hy e Q p => by
  cases x <;> first | (cases e; done) | skip
  cases y <;> first | (cases e; done) | skip
  obtain ⟨c, rfl⟩ := if_some e
  cases hx with
  | lst hs ha =>
    cases hy with
    | lst ht hb => exact ⟨_, _, _, _, rfl, rfl, s _ _ hs, s _ _ ht, dpos (by rw [ha.length, hb.length]; exact c), p.newL s (ha.append hb)⟩
def addD : D → D → Option D := orD addI (orD addT addL)
def mulL : D → D → Option D
  | .list xs, .int k => if 0 ≤ k ∧ k ≤ 100 ∧ xs.length ≤ 100 then some (.list (List.replicate k.toNat xs).flatten) else none
  | _, _ => none
theorem r_mulL : R2D K rRep mulL := fun v u G H x y z s hx hy e Q p => by
  cases x <;> first | (cases e; done) | skip
  cases y <;> first | (cases e; done) | skip
  obtain ⟨⟨c1, c2, c3⟩, rfl⟩ := if_some e
  cases hy
  cases hx with
  | lst hs ha =>
    refine ⟨_, _, _, rfl, rfl, s _ _ hs, by omega, by omega, dpos ?_, p.newL s (ha.rep _)⟩
    rw [ha.length]
    exact Nat.le_trans (Nat.mul_le_mul c3 (show Int.toNat _ ≤ 100 by omega)) (by decide)
def mulD : D → D → Option D := orD mulI mulL

/-! ### == and in -/
def eqD : D → D → Option D := fun x y => if (SeqAt.shaped x && SeqAt.shaped y) = true then some (.bool (PyData.eqv x y)) else none
def neD : D → D → Option D := fun x y => if (SeqAt.shaped x && SeqAt.shaped y) = true then some (.bool (!PyData.eqv x y)) else none
theorem r_eq : R2D K (rEqD K) eqD := fun v u G H x y z s hx hy e Q p => by
  obtain ⟨c, rfl⟩ := if_some e
  obtain ⟨c1, c2⟩ := (Bool.and_eq_true _ _).mp c
  exact ⟨x, y, Dq.dp _ _ (hx.to s), Dq.dp _ _ (hy.to s), c1, c2, p.bl s⟩
theorem r_ne : R2D K (rNeD K) neD := fun v u G H x y z s hx hy e Q p => by
  obtain ⟨c, rfl⟩ := if_some e
  obtain ⟨c1, c2⟩ := (Bool.and_eq_true _ _).mp c
  exact ⟨x, y, Dq.dp _ _ (hx.to s), Dq.dp _ _ (hy.to s), c1, c2, p.bl s⟩
def itemsD : D → Option (List D)
  | .list xs => some xs
  | .tuple xs => some xs
  | _ => none
def inD : D → D → Option D := fun x y => (itemsD y).bind fun ds => if (SeqAt.shaped x && SeqAt.shaped y) = true then some (.bool (ds.any fun z => PyData.eqv z x)) else none
def niD : D → D → Option D := fun x y => (itemsD y).bind fun ds => if (SeqAt.shaped x && SeqAt.shaped y) = true then some (.bool (!ds.any fun z => PyData.eqv z x)) else none
def rInT (K : PySem.W.Frag) : R2 := fun x y H Q => ∃ d ds, Dp K H x d ∧ Dp K H y (.tuple ds) ∧ SeqAt.shaped d = true ∧ SeqAt.shaped (.tuple ds) = true ∧ Q (.bl (ds.any fun z => PyData.eqv z d)) H
def rNotInT (K : PySem.W.Frag) : R2 := fun x y H Q => ∃ d ds, Dp K H x d ∧ Dp K H y (.tuple ds) ∧ SeqAt.shaped d = true ∧ SeqAt.shaped (.tuple ds) = true ∧ Q (.bl (!ds.any fun z => PyData.eqv z d)) H
theorem op_inT {X : Cx} (hu : X.A.units + 65 < cLine) : OpR X (compareOp .In) (rInT X.K) := by
  intro pins s σ H x y v u Q I rx ry h
  obtain ⟨d, ds, hd, he, sd, se, q⟩ := h
  obtain ⟨as, r1⟩ := Dp.reads I d x v hd rx
  obtain ⟨bs, r2⟩ := Dp.reads I (.tuple ds) y u he ry
  exact SeqAt.in_tuple_reads r2 r1 (SeqAt.canLay_of_shaped se) (SeqAt.canLay_of_shaped sd) (room_in_shaped sd hu) ⟨.bl _, H, I, rfl, q⟩
theorem op_notInT {X : Cx} (hu : X.A.units + 65 < cLine) : OpR X (compareOp .NotIn) (rNotInT X.K) := by
  intro pins s σ H x y v u Q I rx ry h
  obtain ⟨d, ds, hd, he, sd, se, q⟩ := h
  obtain ⟨as, r1⟩ := Dp.reads I d x v hd rx
  obtain ⟨bs, r2⟩ := Dp.reads I (.tuple ds) y u he ry
  exact SeqAt.notIn_tuple_reads r2 r1 (SeqAt.canLay_of_shaped se) (SeqAt.canLay_of_shaped sd) (room_in_shaped sd hu) ⟨.bl _, H, I, rfl, q⟩
theorem r_in : R2D K (fun x y H Q => rInD K x y H Q ∨ rInT K x y H Q) inD := fun v u G H x y z s hx hy e Q p => by
  unfold inD at e
  obtain ⟨ds, e1, e⟩ := Option.bind_eq_some_iff.mp e
  obtain ⟨c, rfl⟩ := if_some e
  obtain ⟨c1, c2⟩ := (Bool.and_eq_true _ _).mp c
  cases y <;> first | (cases e1; done) | skip
  · cases e1
    exact .inl ⟨x, ds, Dq.dp _ _ (hx.to s), Dq.dp _ _ (hy.to s), c1, c2, p.bl s⟩
  · cases e1
    exact .inr ⟨x, ds, Dq.dp _ _ (hx.to s), Dq.dp _ _ (hy.to s), c1, c2, p.bl s⟩
theorem r_ni : R2D K (fun x y H Q => rNotInD K x y H Q ∨ rNotInT K x y H Q) niD := fun v u G H x y z s hx hy e Q p => by
  unfold niD at e
  obtain ⟨ds, e1, e⟩ := Option.bind_eq_some_iff.mp e
  obtain ⟨c, rfl⟩ := if_some e
  obtain ⟨c1, c2⟩ := (Bool.and_eq_true _ _).mp c
  cases y <;> first | (cases e1; done) | skip
  · cases e1
    exact .inl ⟨x, ds, Dq.dp _ _ (hx.to s), Dq.dp _ _ (hy.to s), c1, c2, p.bl s⟩
  · cases e1
    exact .inr ⟨x, ds, Dq.dp _ _ (hx.to s), Dq.dp _ _ (hy.to s), c1, c2, p.bl s⟩
def isNone : D → Bool
  | .none => true
  | _ => false
def isD : D → D → Option D := fun x y => if isNone y = true then some (.bool (isNone x)) else none
def isntD : D → D → Option D := fun x y => if isNone y = true then some (.bool (!isNone x)) else none
theorem non_dec {G : Hp} {v : V} {x : D} (h : Dq K G v x) : decide (v = .non) = isNone x := by
  cases h <;> rfl
theorem isNone_eq {y : D} (h : isNone y = true) : y = .none := by
  cases y <;> first | rfl | cases h
theorem r_is : R2D K (fun x y H Q => y = .non ∧ Q (.bl (decide (x = .non))) H) isD := fun v u G H x y z s hx hy e Q p => by
  obtain ⟨c, rfl⟩ := if_some e
  have c' := isNone_eq c
  subst c'
  cases hy
  exact ⟨rfl, by rw [non_dec hx]; exact p.bl s⟩
theorem r_isnt : R2D K (fun x y H Q => y = .non ∧ Q (.bl (!decide (x = .non))) H) isntD := fun v u G H x y z s hx hy e Q p => by
  obtain ⟨c, rfl⟩ := if_some e
  have c' := isNone_eq c
  subst c'
  cases hy
  exact ⟨rfl, by rw [non_dec hx]; exact p.bl s⟩

/-! ### items, slices -/
def getD_ : D → D → Option D
  | .list ds, .int i => atI ds i
  | .tuple ds, .int i => atI ds i
  | _, _ => none
theorem atI_D {G : Hp} {vs : List V} {ds : List D} {i : Int} {d : D} (h : DqAll K G vs ds) (e : atI ds i = some d) : ∃ v, atI vs i = some v ∧ Dq K G v d := by
  unfold atI at e ⊢
  rw [h.length]
  obtain ⟨j, e1, e2⟩ := Option.bind_eq_some_iff.mp e
  rw [e1]
  exact h.at_ e2
theorem r_ix : R2D K (fun x y H Q => rIxL K x y H Q ∨ rIxT K x y H Q) getD_ := fun v u G H x y z s hx hy e Q p => by
  cases x <;> first | (cases e; done) | skip
  · cases y <;> first | (cases e; done) | skip
    cases hy
    cases hx with
    | lst hs ha =>
      obtain ⟨w, e1, e2⟩ := atI_D ha (show atI _ _ = some z from e)
      exact .inl ⟨_, _, _, w, rfl, rfl, SqL.of (s _ _ hs), e1, p.old s e2⟩
  · cases y <;> first | (cases e; done) | skip
    cases hy
    cases hx with
    | tup hs ha =>
      obtain ⟨w, e1, e2⟩ := atI_D ha (show atI _ _ = some z from e)
      exact .inr ⟨_, _, _, w, rfl, rfl, same_sqT s hs, e1, p.old s e2⟩
def cutG {α : Type} (xs : List α) (lo hi : Option Int) : List α := (xs.drop (HT.sIx xs.length 0 lo)).take (HT.sIx xs.length xs.length hi - HT.sIx xs.length 0 lo)
theorem cut_D {G : Hp} {vs : List V} {ds : List D} (h : DqAll K G vs ds) (lo hi : Option Int) : DqAll K G (cutV vs lo hi) (cutG ds lo hi) := by
  unfold cutV cutG
  rw [h.length]
  exact (h.drop _).take _
theorem cut_whole {α : Type} {ds : List α} {i j : Option Int} (z1 : HT.sIx ds.length 0 i = 0) (z2 : HT.sIx ds.length ds.length j = ds.length) : cutG ds i j = ds := by
  unfold cutG
  rw [z1, z2]
  simp
def slD (x : D) (lo hi : Option Int) : Option D := match x with
  | .list ds => some (.list (cutG ds lo hi))
  | .tuple ds => some (.tuple (cutG ds lo hi))
  | _ => none
def tPO (K : PySem.W.Frag) (f : Rp → Option (Option Int)) : TO := fun σ H Q => ∃ G ρ o, At K G H σ ρ ∧ f ρ = some o ∧ ∀ G' H', Stp G H G' H' → Q o H'
end

section
variable {X : Cx} {a b c e : Expr} {fa fb fc : Rp → Option D} {pos : Pos}
theorem units_of {k : Nat} {A : Around} (hr : Room k A) : A.units + 64 < cLine := hr.units
theorem de_add (ha : DE X a fa) (hb : DE X b fb) : DE X (.BinOp a .Add b pos) (d2 addD fa fb) := de_op (r_addI.or (r_addT.or r_addL)) (op_add.or (op_catA.or op_cat)) ha hb
theorem de_sub (ha : DE X a fa) (hb : DE X b fb) : DE X (.BinOp a .Sub b pos) (d2 subD fa fb) := de_op r_sub op_sub ha hb
theorem de_mul (ha : DE X a fa) (hb : DE X b fb) : DE X (.BinOp a .Mult b pos) (d2 mulD fa fb) := de_op (r_mulI.or r_mulL) (op_mul.or op_rep) ha hb
theorem de_fdiv (ha : DE X a fa) (hb : DE X b fb) : DE X (.BinOp a .FloorDiv b pos) (d2 fdivD fa fb) := de_op r_fdiv op_fdiv ha hb
theorem de_mod (ha : DE X a fa) (hb : DE X b fb) : DE X (.BinOp a .Mod b pos) (d2 modD fa fb) := de_op r_mod op_mod ha hb
theorem de_pow (ha : DE X a fa) (hb : DE X b fb) : DE X (.BinOp a .Pow b pos) (d2 powD fa fb) := de_op r_pow op_pow ha hb
theorem de_neg (ha : DE X a fa) : DE X (.UnaryOp .USub a pos) (d1 negD fa) := de_un r_neg un_neg ha
/-! comparisons: values, tests -/
theorem de_lt (ha : DE X a fa) (hb : DE X b fb) : DE X (.Compare a [.Lt] [b] pos) (d2 ltD fa fb) := de_cmp r_lt op_lt ha hb (nomark _)
theorem de_le (ha : DE X a fa) (hb : DE X b fb) : DE X (.Compare a [.LtE] [b] pos) (d2 leD fa fb) := de_cmp r_le op_le ha hb (nomark _)
theorem de_gt (ha : DE X a fa) (hb : DE X b fb) : DE X (.Compare a [.Gt] [b] pos) (d2 gtD fa fb) := de_cmp r_gt op_gt ha hb (nomark _)
theorem de_ge (ha : DE X a fa) (hb : DE X b fb) : DE X (.Compare a [.GtE] [b] pos) (d2 geD fa fb) := de_cmp r_ge op_ge ha hb (nomark _)
theorem dt_lt (ha : DE X a fa) (hb : DE X b fb) : DT X (.Compare a [.Lt] [b] pos) (tB_ (d2 ltD fa fb)) := dt_cmp r_lt op_lt ha hb (nomark _)
theorem dt_le (ha : DE X a fa) (hb : DE X b fb) : DT X (.Compare a [.LtE] [b] pos) (tB_ (d2 leD fa fb)) := dt_cmp r_le op_le ha hb (nomark _)
theorem dt_gt (ha : DE X a fa) (hb : DE X b fb) : DT X (.Compare a [.Gt] [b] pos) (tB_ (d2 gtD fa fb)) := dt_cmp r_gt op_gt ha hb (nomark _)
theorem dt_ge (ha : DE X a fa) (hb : DE X b fb) : DT X (.Compare a [.GtE] [b] pos) (tB_ (d2 geD fa fb)) := dt_cmp r_ge op_ge ha hb (nomark _)
theorem de_eq {k : Nat} (hr : Room k X.A) (ha : DE X a fa) (hb : DE X b fb) : DE X (.Compare a [.Eq] [b] pos) (d2 eqD fa fb) := de_cmp r_eq (op_eqD hr.units) ha hb (nomark _)
theorem de_ne {k : Nat} (hr : Room k X.A) (ha : DE X a fa) (hb : DE X b fb) : DE X (.Compare a [.NotEq] [b] pos) (d2 neD fa fb) := de_cmp r_ne (op_neD hr.units) ha hb (nomark _)
theorem dt_eq {k : Nat} (hr : Room k X.A) (ha : DE X a fa) (hb : DE X b fb) : DT X (.Compare a [.Eq] [b] pos) (tB_ (d2 eqD fa fb)) := dt_cmp r_eq (op_eqD hr.units) ha hb (nomark _)
theorem dt_ne {k : Nat} (hr : Room k X.A) (ha : DE X a fa) (hb : DE X b fb) : DT X (.Compare a [.NotEq] [b] pos) (tB_ (d2 neD fa fb)) := dt_cmp r_ne (op_neD hr.units) ha hb (nomark _)
theorem u65 {k : Nat} {A : Around} (hr : Room (k + 1) A) : A.units + 65 < cLine := by
  have h := hr.un
  omega
theorem de_in {k : Nat} (hr : Room (k + 1) X.A) (ha : DE X a fa) (hb : DE X b fb) (hm : behindInMarks .In b = false := by rfl) : DE X (.Compare a [.In] [b] pos) (d2 inD fa fb) := de_cmp r_in ((op_inD (u65 hr)).or (op_inT (u65 hr))) ha hb hm
theorem de_ni {k : Nat} (hr : Room (k + 1) X.A) (ha : DE X a fa) (hb : DE X b fb) (hm : behindInMarks .NotIn b = false := by rfl) : DE X (.Compare a [.NotIn] [b] pos) (d2 niD fa fb) := de_cmp r_ni ((op_notInD (u65 hr)).or (op_notInT (u65 hr))) ha hb hm
theorem dt_in {k : Nat} (hr : Room (k + 1) X.A) (ha : DE X a fa) (hb : DE X b fb) (hm : behindInMarks .In b = false := by rfl) : DT X (.Compare a [.In] [b] pos) (tB_ (d2 inD fa fb)) := dt_cmp r_in ((op_inD (u65 hr)).or (op_inT (u65 hr))) ha hb hm
theorem dt_ni {k : Nat} (hr : Room (k + 1) X.A) (ha : DE X a fa) (hb : DE X b fb) (hm : behindInMarks .NotIn b = false := by rfl) : DT X (.Compare a [.NotIn] [b] pos) (tB_ (d2 niD fa fb)) := dt_cmp r_ni ((op_notInD (u65 hr)).or (op_notInT (u65 hr))) ha hb hm
theorem de_is (ha : DE X a fa) (hb : DE X b fb) : DE X (.Compare a [.Is] [b] pos) (d2 isD fa fb) := de_cmp r_is op_isN ha hb (nomark _)
theorem de_isnt (ha : DE X a fa) (hb : DE X b fb) : DE X (.Compare a [.IsNot] [b] pos) (d2 isntD fa fb) := de_cmp r_isnt op_notN ha hb (nomark _)
theorem dt_is (ha : DE X a fa) (hb : DE X b fb) : DT X (.Compare a [.Is] [b] pos) (tB_ (d2 isD fa fb)) := dt_cmp r_is op_isN ha hb (nomark _)
theorem dt_isnt (ha : DE X a fa) (hb : DE X b fb) : DT X (.Compare a [.IsNot] [b] pos) (tB_ (d2 isntD fa fb)) := dt_cmp r_isnt op_notN ha hb (nomark _)
/-- a <= b <= c -/
def dChain (fa fb fc : Rp → Option D) : Rp → Option D := fun ρ => (fa ρ).bind fun x => (fb ρ).bind fun y => (leD x y).bind fun z => (asB z).bind fun k => if k = true then (fc ρ).bind fun w => leD y w else some (.bool false)
theorem de_chain (ha : DE X a fa) (hb : DE X b fb) (hc : DE X c fc) (hm : lastMarks [.LtE, .LtE] [b, c] = false := by with_unfolding_all rfl) : DE X (.Compare a [.LtE, .LtE] [b, c] pos) (dChain fa fb fc) := (pe_chain op_le op_le ha hb hc hm).imp fun σ H Q ⟨G, ρ, d, at_, e, p⟩ => by
  unfold dChain at e
  obtain ⟨x, e1, e⟩ := Option.bind_eq_some_iff.mp e
  obtain ⟨y, e2, e⟩ := Option.bind_eq_some_iff.mp e
  obtain ⟨z, e3, e⟩ := Option.bind_eq_some_iff.mp e
  obtain ⟨k, e4, e⟩ := Option.bind_eq_some_iff.mp e
  refine ⟨G, ρ, x, at_, e1, fun v G1 H1 s1 h1 => ?_⟩
  refine ⟨G1, ρ, y, at_.stp s1, e2, fun u G2 H2 s2 h2 => ?_⟩
  refine r_le v u G2 H2 x y z s2.gh (h1.to s2.g) h2 e3 _ fun zv G3 H3 s3 h3 => ?_
  have e5 := asB_some e4
  subst e5
  cases h3
  refine ⟨k, rfl, ?_⟩
  cases k with
  | true =>
    obtain ⟨w, e6, e⟩ := Option.bind_eq_some_iff.mp (show (fc ρ).bind (fun w => leD y w) = some d from e)
    refine iteT ⟨G3, ρ, w, ((at_.stp s1).stp s2).stp s3, e6, fun wv G4 H4 s4 h4 => ?_⟩
    exact r_le u wv G4 H4 y w d s4.gh ((h2.to s3.g).to s4.g) h4 e Q (p.stp (((s1.trans s2).trans s3).trans s4))
  | false =>
    cases e
    exact iteF ((p.stp ((s1.trans s2).trans s3)).bl s3.gh)
/-! items, slices -/
theorem de_ix (ha : DE X a fa) (hb : DE X b fb) (hs : PlainIx b := by exact fun _ _ => rfl) : DE X (.Subscript a b pos) (d2 getD_ fa fb) := de_ix0 r_ix (ix_list.or ix_tup) ha hb hs
def pNo : Rp → Option (Option Int) := fun _ => some none
def asI : D → Option Int
  | .int i => some i
  | _ => none
theorem asI_some {d : D} {i : Int} (h : asI d = some i) : d = .int i := by
  cases d <;> first | (cases h; rfl) | cases h
def pSo (f : Rp → Option D) : Rp → Option (Option Int) := fun ρ => (f ρ).bind fun d => (asI d).map some
theorem do_no : PO X none (tPO X.K pNo) := ⟨fun pins s σ H Q I h => by
  obtain ⟨G, ρ, o, at_, e, p⟩ := h
  cases e
  exact po_none.run pins s σ H Q I (p G H (.refl at_.s))⟩
theorem do_so (h : DE X e fa) : PO X (some e) (tPO X.K (pSo fa)) := ⟨fun pins s σ H Q I w => by
  obtain ⟨G, ρ, o, at_, e1, p⟩ := w
  unfold pSo at e1
  obtain ⟨d, e2, e1⟩ := Option.bind_eq_some_iff.mp e1
  obtain ⟨i, e3, e5⟩ := Option.map_eq_some_iff.mp e1
  have e4 := asI_some e3
  subst e4
  subst e5
  refine (po_some h).run pins s σ H Q I ⟨G, ρ, _, at_, e2, fun v G1 H1 s1 h1 => ?_⟩
  cases h1
  exact ⟨i, rfl, p G1 H1 s1⟩⟩
def dSl (f : Rp → Option D) (l h : Rp → Option (Option Int)) : Rp → Option D := fun ρ => (f ρ).bind fun x => (l ρ).bind fun lo => (h ρ).bind fun hi => slD x lo hi
theorem de_sl {lo hi : Option Expr} {l h : Rp → Option (Option Int)} {p2 : Pos} (ha : DE X a fa) (hl : PO X lo (tPO X.K l)) (hh : PO X hi (tPO X.K h)) : DE X (.Subscript a (.Slice lo hi none p2) pos) (dSl fa l h) := (pe_slice (sl_list.or sl_tupA) ha hl hh).imp fun σ H Q ⟨G, ρ, d, at_, e, p⟩ => by
  unfold dSl at e
  obtain ⟨x, e1, e⟩ := Option.bind_eq_some_iff.mp e
  obtain ⟨i, e2, e⟩ := Option.bind_eq_some_iff.mp e
  obtain ⟨j, e3, e⟩ := Option.bind_eq_some_iff.mp e
  refine ⟨G, ρ, x, at_, e1, fun v G1 H1 s1 h1 => ?_⟩
  refine ⟨G1, ρ, i, at_.stp s1, e2, fun G2 H2 s2 => ?_⟩
  refine ⟨G2, ρ, j, (at_.stp s1).stp s2, e3, fun G3 H3 s3 => ?_⟩
  have h3 := (h1.to s2.g).to s3.g
  have p3 := p.stp ((s1.trans s2).trans s3)
  cases x <;> first | (cases e; done) | skip
  · cases e
    cases h3 with
    | lst hs ha => exact .inl ⟨_, _, rfl, SqL.of (s3.gh _ _ hs), p3.newL s3.gh (cut_D ha i j)⟩
  · cases e
    cases h3 with
    | @tup a' xs ds hs ha =>
      refine .inr ⟨_, _, rfl, same_sqT s3.gh hs, fun ⟨z1, z2⟩ => ?_, fun _ => p3.newT s3.gh (cut_D ha i j)⟩
      rw [ha.length] at z1 z2
      rw [cut_whole z1 z2] at p3
      exact p3.old s3.gh (.tup hs ha)
end
end DL

/-! DL3: built-ins on data: len, tuple, list, sum, any, all, abs, int, min, max, sorted, set, index, isinstance. -/
namespace DL
open PySem PySem.Spec PyProof.Rows L2

/-! ### lists of ints, of bools -/
def intsOf : List D → Option (List Int)
  | [] => some []
  | .int i :: r => (intsOf r).map (i :: ·)
  | _ :: _ => none
theorem intsOf_some : ∀ {ds : List D} {ns : List Int}, intsOf ds = some ns → ds = ns.map .int
  | [], ns, h => by cases h; rfl
  | d :: r, ns, h => by
    cases d <;> first | (cases h; done) | skip
    obtain ⟨ms, e1, e2⟩ := Option.map_eq_some_iff.mp (show (intsOf r).map _ = some ns from h)
    subst e2
    rw [List.map_cons, intsOf_some e1]
theorem intsOf_map (ns : List Int) : intsOf (ns.map .int) = some ns := by
  induction ns with
  | nil => rfl
  | cons n r ih =>
    show (intsOf (r.map .int)).map (n :: ·) = _
    rw [ih]
    rfl
def blsOf : List D → Option (List Bool)
  | [] => some []
  | .bool i :: r => (blsOf r).map (i :: ·)
  | _ :: _ => none
theorem blsOf_some : ∀ {ds : List D} {ns : List Bool}, blsOf ds = some ns → ds = ns.map .bool
  | [], ns, h => by cases h; rfl
  | d :: r, ns, h => by
    cases d <;> first | (cases h; done) | skip
    obtain ⟨ms, e1, e2⟩ := Option.map_eq_some_iff.mp (show (blsOf r).map _ = some ns from h)
    subst e2
    rw [List.map_cons, blsOf_some e1]
theorem blsOf_map (ns : List Bool) : blsOf (ns.map .bool) = some ns := by
  induction ns with
  | nil => rfl
  | cons n r ih =>
    show (blsOf (r.map .bool)).map (n :: ·) = _
    rw [ih]
    rfl
section
variable {K : PySem.W.Frag}
theorem ints_at {G : Hp} {a : V} {ds : List D} {ns : List Int} (h : Dq K G a (.list ds)) (e : intsOf ds = some ns) : ∃ p, a = .ref p ∧ G p = some (.lst (ns.map V.int)) := by
  have e' := intsOf_some e
  subst e'
  cases h with
  | lst hs ha =>
    rw [ha.of_ints] at hs
    exact ⟨_, rfl, hs⟩
theorem bls_at {G : Hp} {a : V} {ds : List D} {ns : List Bool} (h : Dq K G a (.list ds)) (e : blsOf ds = some ns) : ∃ p, a = .ref p ∧ G p = some (.lst (ns.map V.bl)) := by
  have e' := blsOf_some e
  subst e'
  cases h with
  | lst hs ha =>
    rw [ha.of_bls] at hs
    exact ⟨_, rfl, hs⟩
/-- one argument -/
def c1 (g : D → Option D) : List D → Option D
  | [x] => g x
  | _ => none
theorem c1_some {g : D → Option D} {ds : List D} {z : D} (e : c1 g ds = some z) : ∃ x, ds = [x] ∧ g x = some z := by
  match ds, e with
  | [x], e => exact ⟨x, rfl, e⟩
theorem one_D {G : Hp} {vs : List V} {x : D} (h : DqAll K G vs [x]) : ∃ v, vs = [v] ∧ Dq K G v x := by
  cases h with
  | cons h1 h2 =>
    cases h2
    exact ⟨_, rfl, h1⟩
theorem two_D {G : Hp} {vs : List V} {x y : D} (h : DqAll K G vs [x, y]) : ∃ v u, vs = [v, u] ∧ Dq K G v x ∧ Dq K G u y := by
  cases h with
  | cons h1 h2 =>
    obtain ⟨u, rfl, h3⟩ := one_D h2
    exact ⟨_, _, rfl, h1, h3⟩
def lenD : List D → Option D := c1 fun x => (itemsD x).map fun ds => .int ds.length
theorem r_len : RCD K (fun xs H Q => ∃ p ys, xs = [.ref p] ∧ (SqL K H p ys ∨ SqT K H p ys) ∧ Q (.int ys.length) H) lenD := fun vs G H ds z s hv e Q p => by
  obtain ⟨x, rfl, e⟩ := c1_some e
  obtain ⟨v, rfl, hx⟩ := one_D hv
  obtain ⟨es, e1, rfl⟩ := Option.map_eq_some_iff.mp e
  cases x <;> first | (cases e1; done) | skip
  · cases e1
    cases hx with
    | lst hs ha =>
      refine ⟨_, _, rfl, .inl (SqL.of (s _ _ hs)), ?_⟩
      rw [ha.length]
      exact p.int s
  · cases e1
    cases hx with
    | tup hs ha =>
      refine ⟨_, _, rfl, .inr (same_sqT s hs), ?_⟩
      rw [ha.length]
      exact p.int s
def tupleD : List D → Option D := c1 fun x => (itemsD x).map .tuple
theorem r_tuple : RCD K (fun xs H Q => ∃ p ys, xs = [.ref p] ∧ ((SqL K H p ys ∧ ∀ l, H l = none → Q (.ref l) (upd H l (.tup ys))) ∨ (SqT K H p ys ∧ Q (.ref p) H))) tupleD := fun vs G H ds z s hv e Q p => by
  obtain ⟨x, rfl, e⟩ := c1_some e
  obtain ⟨v, rfl, hx⟩ := one_D hv
  obtain ⟨es, e1, rfl⟩ := Option.map_eq_some_iff.mp e
  cases x <;> first | (cases e1; done) | skip
  · cases e1
    cases hx with
    | lst hs ha => exact ⟨_, _, rfl, .inl ⟨SqL.of (s _ _ hs), p.newT s ha⟩⟩
  · cases e1
    cases hx with
    | tup hs ha => exact ⟨_, _, rfl, .inr ⟨same_sqT s hs, p.old s (.tup hs ha)⟩⟩
def listD : List D → Option D := c1 fun x => (itemsD x).map .list
theorem r_list : RCD K (fun xs H Q => ∃ p ys, xs = [.ref p] ∧ (SqL K H p ys ∨ SqT K H p ys) ∧ ∀ l, H l = none → Q (.ref l) (upd H l (.lst ys))) listD := fun vs G H ds z s hv e Q p => by
  obtain ⟨x, rfl, e⟩ := c1_some e
  obtain ⟨v, rfl, hx⟩ := one_D hv
  obtain ⟨es, e1, rfl⟩ := Option.map_eq_some_iff.mp e
  cases x <;> first | (cases e1; done) | skip
  · cases e1
    cases hx with
    | lst hs ha => exact ⟨_, _, rfl, .inl (SqL.of (s _ _ hs)), p.newL s ha⟩
  · cases e1
    cases hx with
    | tup hs ha => exact ⟨_, _, rfl, .inr (same_sqT s hs), p.newL s ha⟩
def listItems : D → Option (List D)
  | .list ds => some ds
  | _ => none
theorem listItems_some {x : D} {ds : List D} (e : listItems x = some ds) : x = .list ds := by
  cases x <;> first | (cases e; rfl) | cases e
def sumD : List D → Option D := c1 fun x => (itemsD x).bind fun ds => (intsOf ds).map fun ns => .int ns.sum
def rSumTup (K : PySem.W.Frag) : List V → Hp → VK → Prop := fun vs H Q => ∃ (a : Addr) (ns : List Int), vs = [V.ref a] ∧ SqT K H a (ns.map V.int) ∧ Q (.int ns.sum) H
theorem sum_rawT {prog : Program} {w : World} {A : Around} {E : Value → Shared → Prop} {s : Shared} {l : Addr} {its : List Value} {ns : List Int} {Q : Value → Shared → Prop} (hh : A.handled = none) (hl : s.heap.IsTuple l its.toArray) (hi : IntsAre its ns)
    (h : ∀ h' tk t', (∀ b o, s.heap.get? b = some o → h'.get? b = some o) → Q (.int ns.sum t') { s with heap := h', toks := tk }) : wpAny (model prog w) A (call (.builtin "sum") [.ref l]) Q E s := by
  obtain ⟨xs, e⟩ := hi.allInts.items
  have hn : numsOf (intItems xs).toList = ns := by rw [← e]; exact hi.numsOf
  rw [nums_intItems] at hn
  rw [e] at hl
  refine PySem.W.ktm_sumG hh hl fun h' tk t' hk => ?_
  have := h h' tk t' hk
  rw [preSum_eq, List.take_of_length_le (by simp), hn]; exact this
theorem cr_sumT {X : Cx} (hc : X.calm = true) : CallR X (.builtin "sum") (rSumTup X.K) := by
  intro pins s σ H vs us Q I r h
  obtain ⟨a, ns, rfl, hs, q⟩ := h
  obtain ⟨its, rv, hl, _⟩ := I.tuple hs
  rw [Vals.ref1 r]
  exact sum_rawT (I.ok.hd hc) hl rv.ints fun h' tk t' hk => ⟨.int _, H, I.kept hk, ⟨_, rfl⟩, q⟩
theorem r_sum : RCD K (fun vs H Q => rSum K vs H Q ∨ rSumTup K vs H Q) sumD := fun vs G H ds z s hv e Q p => by
  obtain ⟨x, rfl, e⟩ := c1_some e
  obtain ⟨v, rfl, hx⟩ := one_D hv
  obtain ⟨es, e1, e⟩ := Option.bind_eq_some_iff.mp e
  obtain ⟨ns, e2, rfl⟩ := Option.map_eq_some_iff.mp e
  cases x <;> first | (cases e1; done) | skip
  · cases e1
    obtain ⟨q, rfl, hq⟩ := ints_at hx e2
    exact .inl ⟨q, ns, rfl, SqL.of (s _ _ hq), p.int s⟩
  · cases e1
    have e' := intsOf_some e2
    subst e'
    cases hx with
    | tup hs ha =>
      rw [ha.of_ints] at hs
      exact .inr ⟨_, ns, rfl, same_sqT s hs, p.int s⟩
def anyD : List D → Option D := c1 fun x => (listItems x).bind fun ds => (blsOf ds).map fun ns => .bool (ns.any id)
def allD : List D → Option D := c1 fun x => (listItems x).bind fun ds => (blsOf ds).map fun ns => .bool (ns.all id)
theorem r_any : RCD K (rAny K) anyD := fun vs G H ds z s hv e Q p => by
  obtain ⟨x, rfl, e⟩ := c1_some e
  obtain ⟨v, rfl, hx⟩ := one_D hv
  obtain ⟨es, e1, e⟩ := Option.bind_eq_some_iff.mp e
  obtain ⟨ns, e2, rfl⟩ := Option.map_eq_some_iff.mp e
  have e3 := listItems_some e1
  subst e3
  obtain ⟨q, rfl, hq⟩ := bls_at hx e2
  exact ⟨q, ns, rfl, SqL.of (s _ _ hq), p.bl s⟩
theorem r_all : RCD K (rAll K) allD := fun vs G H ds z s hv e Q p => by
  obtain ⟨x, rfl, e⟩ := c1_some e
  obtain ⟨v, rfl, hx⟩ := one_D hv
  obtain ⟨es, e1, e⟩ := Option.bind_eq_some_iff.mp e
  obtain ⟨ns, e2, rfl⟩ := Option.map_eq_some_iff.mp e
  have e3 := listItems_some e1
  subst e3
  obtain ⟨q, rfl, hq⟩ := bls_at hx e2
  exact ⟨q, ns, rfl, SqL.of (s _ _ hq), p.bl s⟩
def absD : List D → Option D := c1 fun
  | .int i => some (.int (if i < 0 then -i else i))
  | _ => none
theorem r_abs : RCD K (fun xs H Q => ∃ i, xs = [.int i] ∧ Q (.int (if i < 0 then -i else i)) H) absD := fun vs G H ds z s hv e Q p => by
  obtain ⟨x, rfl, e⟩ := c1_some e
  obtain ⟨v, rfl, hx⟩ := one_D hv
  cases x <;> first | (cases e; done) | skip
  cases e
  cases hx
  exact ⟨_, rfl, p.int s⟩
def intD : List D → Option D := c1 fun
  | .int i => some (.int i)
  | .bool k => some (.int (if k then 1 else 0))
  | _ => none
theorem r_int : RCD K (fun xs H Q => (∃ i, xs = [.int i] ∧ Q (.int i) H) ∨ ∃ k, xs = [.bl k] ∧ Q (.int (if k then 1 else 0)) H) intD := fun vs G H ds z s hv e Q p => by
  obtain ⟨x, rfl, e⟩ := c1_some e
  obtain ⟨v, rfl, hx⟩ := one_D hv
  cases x <;> first | (cases e; done) | skip
  · cases e
    cases hx
    exact .inr ⟨_, rfl, p.int s⟩
  · cases e
    cases hx
    exact .inl ⟨_, rfl, p.int s⟩
def c2 (g : Int → Int → Int) : List D → Option D
  | [.int i, .int j] => some (.int (g i j))
  | _ => none
theorem c2_some {g : Int → Int → Int} {ds : List D} {z : D} (e : c2 g ds = some z) : ∃ i j, ds = [.int i, .int j] ∧ z = .int (g i j) := by
  unfold c2 at e
  split at e
  · cases e
    exact ⟨_, _, rfl, rfl⟩
  · cases e
def max2D : List D → Option D := c2 fun i j => if j > i then j else i
def min2D : List D → Option D := c2 fun i j => if j < i then j else i
theorem r_max2 : RCD K (fun xs H Q => ∃ i j, xs = [.int i, .int j] ∧ Q (.int (if j > i then j else i)) H) max2D := fun vs G H ds z s hv e Q p => by
  obtain ⟨i, j, rfl, rfl⟩ := c2_some e
  obtain ⟨v, u, rfl, h1, h2⟩ := two_D hv
  cases h1
  cases h2
  exact ⟨i, j, rfl, p.int s⟩
theorem r_min2 : RCD K (fun xs H Q => ∃ i j, xs = [.int i, .int j] ∧ Q (.int (if j < i then j else i)) H) min2D := fun vs G H ds z s hv e Q p => by
  obtain ⟨i, j, rfl, rfl⟩ := c2_some e
  obtain ⟨v, u, rfl, h1, h2⟩ := two_D hv
  cases h1
  cases h2
  exact ⟨i, j, rfl, p.int s⟩

/-! ### min of a list of data -/
def alikeB (ds : List D) : Bool := ds.all (fun x => ds.all fun y => PySem.W.alike x y) && ds.all fun x => !isNone x
theorem alikeB_ok {ds : List D} (h : alikeB ds = true) : PySem.W.AlikeAll ds := by
  unfold alikeB at h
  obtain ⟨h1, h2⟩ := (Bool.and_eq_true _ _).mp h
  refine ⟨fun x hx y hy => List.all_eq_true.mp (List.all_eq_true.mp h1 x hx) y hy, fun x hx e => ?_⟩
  have := List.all_eq_true.mp h2 x hx
  subst e
  cases this
def minOfD : D → Option D
  | .list (x :: xs) => if alikeB (x :: xs) = true ∧ PyData.depthAll (x :: xs) ≤ 50 then some (PySem.W.minD x xs) else none
  | _ => none
def minLD : List D → Option D := c1 minOfD
def rMinL (K : PySem.W.Frag) : List V → Hp → VK → Prop := fun vs H Q => ∃ (a : Addr) (xs : List V) (d : D) (ds : List D), vs = [.ref a] ∧ H a = some (.lst xs) ∧ DqAll K H xs (d :: ds) ∧ alikeB (d :: ds) = true ∧ PyData.depthAll (d :: ds) ≤ 50 ∧
  ∀ (i : Nat) (v : V), xs[i]? = some v → (d :: ds)[i]? = some (PySem.W.minD d ds) → Q v H
theorem cr_minL {X : Cx} (hc : X.calm = true) (hu : X.A.units + 64 < cLine) : CallR X (.builtin "min") (rMinL X.K) := by
  intro pins s σ H vs us Q I r h
  obtain ⟨a, xs, d, ds, rfl, hH, hD, ha, hd, q⟩ := h
  obtain ⟨its, rv, pl, hz⟩ := I.list (SqL.of hH)
  rw [Vals.ref1 r]
  obtain ⟨as, hr⟩ := Dp.readsAll I (d :: ds) xs its (DqAll.dp _ _ hD) rv
  refine PySem.W.min_list_data (I.ok.hd hc) pl.isList (by simpa using hr) (alikeB_ok ha) (by omega) fun i v h' tk bs hv rm hk => ?_
  have hv' : its[i]? = some v := by simpa using hv
  have hlt : i < xs.length := by
    have := (List.getElem?_eq_some_iff.mp hv').1
    rw [rv.length]
    exact this
  obtain ⟨u, hu1, hu2⟩ := rv.get (List.getElem?_eq_getElem hlt)
  rw [hv'] at hu1
  cases hu1
  have I1 : Inv X pins σ H { s with heap := h', toks := tk } := I.kept hk
  obtain ⟨e, he1, he2⟩ := hD.get (List.getElem?_eq_getElem hlt)
  obtain ⟨cs, r2⟩ := Dp.reads I1 e _ v (Dq.dp _ _ he2) hu2
  have e3 := (PySem.Reads.unique r2 _ _ rm).1
  exact ⟨_, H, I1, hu2, q i _ (List.getElem?_eq_getElem hlt) (by rw [he1, e3])⟩
theorem r_minL : RCD K (rMinL K) minLD := fun vs G H ds z s hv e Q p => by
  obtain ⟨x, rfl, e⟩ := c1_some e
  obtain ⟨v, rfl, hx⟩ := one_D hv
  have e : minOfD x = some z := e
  unfold minOfD at e
  split at e
  · obtain ⟨⟨c1, c2⟩, rfl⟩ := if_some e
    cases hx with
    | lst hs ha =>
      refine ⟨_, _, _, _, rfl, s _ _ hs, ha.to s, c1, c2, fun i w h1 h2 => ?_⟩
      obtain ⟨d', h3, h4⟩ := ha.get h1
      rw [h2] at h3
      cases h3
      exact p.old s h4
  · cases e

/-! ### sorted -/
def insI (k : Int) : List Int → List Int
  | [] => [k]
  | x :: r => if k ≤ x then k :: x :: r else x :: insI k r
def isort : List Int → List Int
  | [] => []
  | x :: r => insI x (isort r)
theorem insI_perm (k : Int) : ∀ l, (insI k l).Perm (k :: l)
  | [] => .refl _
  | x :: r => by
    unfold insI
    split
    · exact .refl _
    · exact ((insI_perm k r).cons x).trans (.swap k x r)
theorem isort_perm : ∀ l, (isort l).Perm l
  | [] => .refl _
  | x :: r => (insI_perm x (isort r)).trans ((isort_perm r).cons x)
theorem insI_mem {k y : Int} {l : List Int} (h : y ∈ insI k l) : y = k ∨ y ∈ l := by
  have := (insI_perm k l).mem_iff.mp h
  simpa using this
theorem insI_sorted (k : Int) : ∀ l : List Int, l.Pairwise (· ≤ ·) → (insI k l).Pairwise (· ≤ ·)
  | [], _ => by simp [insI]
  | x :: r, h => by
    unfold insI
    rw [List.pairwise_cons] at h
    split
    · rename_i hk
      refine List.pairwise_cons.mpr ⟨fun y hy => ?_, List.pairwise_cons.mpr h⟩
      rcases List.mem_cons.mp hy with rfl | hy
      · exact hk
      · exact Int.le_trans hk (h.1 y hy)
    · rename_i hk
      refine List.pairwise_cons.mpr ⟨fun y hy => ?_, insI_sorted k r h.2⟩
      rcases insI_mem hy with rfl | hy
      · omega
      · exact h.1 y hy
theorem isort_sorted : ∀ l, (isort l).Pairwise (· ≤ ·)
  | [] => .nil
  | x :: r => insI_sorted x _ (isort_sorted r)
theorem sorted_eq {l m : List Int} (p : l.Perm m) (hl : l.Pairwise (· ≤ ·)) (hm : m.Pairwise (· ≤ ·)) : l = m :=
  List.Perm.eq_of_pairwise (le := fun a b : Int => a ≤ b) (fun a b _ _ h1 h2 => Int.le_antisymm h1 h2) hl hm p
def sortI : D → Option D
  | .list ds => (intsOf ds).bind fun ns => if ns.length < 64 then some (.list ((isort ns).map .int)) else none
  | _ => none
theorem r_sortI : RCD K (rSorted K) (c1 sortI) := fun vs G H ds z s hv e Q p => by
  obtain ⟨x, rfl, e⟩ := c1_some e
  obtain ⟨v, rfl, hx⟩ := one_D hv
  cases x <;> first | (cases e; done) | skip
  obtain ⟨ns, e2, e⟩ := Option.bind_eq_some_iff.mp (show (intsOf _).bind _ = some z from e)
  obtain ⟨c, rfl⟩ := if_some e
  obtain ⟨q, rfl, hq⟩ := ints_at hx e2
  refine ⟨q, ns, rfl, SqL.of (s _ _ hq), c, fun ns' a hp hs n => ?_⟩
  have e5 : ns' = isort ns := sorted_eq (hp.trans (isort_perm ns).symm) hs (isort_sorted ns)
  subst e5
  exact p.newL s DqAll.ints a n
/-- tuples that stand in order already -/
def pwB : List D → Bool
  | [] => true
  | x :: r => (r.all fun y => PySem.W.dataLe false id x y) && pwB r
theorem pwB_ok : ∀ {ds : List D}, pwB ds = true → ds.Pairwise fun x y => PySem.W.dataLe false id x y = true
  | [], _ => .nil
  | x :: r, h => by
    unfold pwB at h
    obtain ⟨h1, h2⟩ := (Bool.and_eq_true _ _).mp h
    exact List.pairwise_cons.mpr ⟨fun y hy => List.all_eq_true.mp h1 y hy, pwB_ok h2⟩
def tupNE : D → Bool
  | .tuple (_ :: _) => true
  | _ => false
def sortT : D → Option D
  | .list ds => if alikeB ds = true ∧ ds.all tupNE = true ∧ pwB ds = true ∧ PyData.depthAll ds ≤ 50 ∧ ds.length ≤ 1000 then some (.list ds) else none
  | _ => none
def rSortT (K : PySem.W.Frag) : List V → Hp → VK → Prop := fun vs H Q => ∃ (a : Addr) (xs : List V) (ds : List D), vs = [.ref a] ∧ H a = some (.lst xs) ∧ DqAll K H xs ds ∧ alikeB ds = true ∧ ds.all tupNE = true ∧ pwB ds = true ∧ PyData.depthAll ds ≤ 50 ∧ ds.length ≤ 1000 ∧
  ∀ p, H p = none → Q (.ref p) (upd H p (.lst xs))
theorem depth_mem {d : D} : ∀ {ds : List D}, d ∈ ds → d.depth ≤ PyData.depthAll ds
  | [], h => by cases h
  | x :: r, h => by
    rw [PyData.depthAll]
    rcases List.mem_cons.mp h with rfl | h
    · exact Nat.le_max_left _ _
    · exact Nat.le_trans (depth_mem h) (Nat.le_max_right _ _)
theorem zip_fst : ∀ {xs : List V} {ds : List D}, xs.length = ds.length → (xs.zip ds).map Prod.fst = xs
  | [], [], _ => rfl
  | x :: xs, d :: ds, h => by
    rw [List.zip_cons_cons, List.map_cons, zip_fst (by simpa using h)]
theorem zip_snd : ∀ {xs : List V} {ds : List D}, xs.length = ds.length → (xs.zip ds).map Prod.snd = ds
  | [], [], _ => rfl
  | x :: xs, d :: ds, h => by
    rw [List.zip_cons_cons, List.map_cons, zip_snd (by simpa using h)]
theorem each_of {R : Value → V × D → Prop} : ∀ {its : List Value} {xs : List V} {ds : List D}, Vals xs its → xs.length = ds.length → (∀ (i : Nat) u v d, its[i]? = some u → xs[i]? = some v → ds[i]? = some d → RelV v u → R u (v, d)) → PySem.W.EachIs R its (xs.zip ds)
  | _, _, [], .nil, _, _ => .nil
  | _, _, d :: ds, .cons r t, hl, h => .cons (h 0 _ _ _ rfl rfl rfl r) (each_of t (by simpa using hl) fun i u v d h1 h2 h3 hr => h (i + 1) u v d (by simpa using h1) (by simpa using h2) (by simpa using h3) hr)
theorem vals_each : ∀ {its : List Value} {bs : List (V × D)}, PySem.W.EachIs (fun u b => RelV b.1 u) its bs → Vals (bs.map Prod.fst) its
  | _, _, .nil => .nil
  | _, _, .cons r t => .cons r (vals_each t)
theorem cr_sortTup {X : Cx} (hu : X.A.units + 64 < cLine) : CallR X (.builtin "sorted") (rSortT X.K) := by
  intro pins s σ H vs us Q I r h
  obtain ⟨a, xs, ds, rfl, hH, hD, hal, hne, hpw, hdp, hln, q⟩ := h
  obtain ⟨its, rv, pl, hz⟩ := I.list (SqL.of hH)
  rw [Vals.ref1 r]
  have hl := hD.length
  have A1 := alikeB_ok hal
  have emap : (xs.zip ds).map Prod.snd = ds := zip_snd hl
  have hsort : (xs.zip ds).mergeSort (PySem.W.dataLe false Prod.snd) = xs.zip ds := by
    refine List.mergeSort_of_pairwise ?_
    have h1 := pwB_ok hpw
    rw [← emap, List.pairwise_map] at h1
    exact h1
  refine PySem.W.sorted_data (bs := xs.zip ds) (enc := Prod.snd) (R := fun u b => RelV b.1 u) pl.isList (each_of rv hl fun _ _ _ _ _ _ _ hr => hr)
    (each_of rv hl fun i u v d h1 h2 h3 hr => ?_) ?_ ?_ ?_ ?_ fun out ho he => ?_
  · obtain ⟨d', h4, h5⟩ := hD.get h2
    rw [h3] at h4
    cases h4
    exact Dp.reads I d v u (Dq.dp _ _ h5) hr
  · rw [emap]
    exact fun d hd d' hd' => A1.1 d hd d' hd'
  · rw [emap]
    refine .inl fun d hd => ?_
    have := List.all_eq_true.mp hne d hd
    unfold tupNE at this
    split at this
    · exact ⟨_, _, rfl⟩
    · cases this
  · rw [List.length_zip, hl, Nat.min_self]
    exact dpos (by omega)
  · intro b hb
    have hb2 : b.2 ∈ ds := by
      rw [← emap]
      exact List.mem_map_of_mem hb
    have := depth_mem hb2
    omega
  · rw [hsort] at he
    have hv := vals_each he
    rw [zip_fst hl] at hv
    obtain ⟨ep, he'⟩ := PyProof.Rows.sortedAll_at s.heap its out.toArray
    exact ⟨.ref _, upd H (s.heap.objs.size + 1) (.lst xs), I.laid (t' := s.toks) (fun _ _ => PyProof.Rows.sortedAll_old) (Nat.le_succ _) ⟨hz, out, ep, hv, he'⟩, rfl, q _ (I.hok.fresh (Nat.le_succ _))⟩
theorem r_sortT : RCD K (rSortT K) (c1 sortT) := fun vs G H ds z s hv e Q p => by
  obtain ⟨x, rfl, e⟩ := c1_some e
  obtain ⟨v, rfl, hx⟩ := one_D hv
  cases x <;> first | (cases e; done) | skip
  obtain ⟨⟨c1, c2, c3, c4, c5⟩, rfl⟩ := if_some (show (if _ then _ else _) = some z from e)
  cases hx with
  | lst hs ha => exact ⟨_, _, _, rfl, s _ _ hs, ha.to s, c1, c2, c3, c4, c5, p.newL s ha⟩
def sortD : List D → Option D := orC (c1 sortI) (c1 sortT)

/-! ### set(t), sorted -/
def rSetT (K : PySem.W.Frag) (w : World) : List V → Hp → VK → Prop := fun xs H Q => ∃ (p : Addr) (ns : List Int), xs = [.ref p] ∧ SqT K H p (ns.map V.int) ∧ ns.length ≤ 1000 ∧ ∀ q c, H q = none → c ≤ ns.length → Q (.ref q) (upd H q (SetO w q (fun j => decide (j ∈ ns)) c))
theorem cr_setT {X : Cx} (hc : X.calm = true) : CallR X (.type "set") (rSetT X.K X.w) := by
  intro pins s σ H xs us Q I r h
  obtain ⟨p0, ns, rfl, hq, hl, q⟩ := h
  rw [Vals.ref1 r]
  obtain ⟨its, rv, pt, hz⟩ := I.tuple hq
  have hi : IntsAre its.toArray.toList ns := ints_of_vals rv
  refine call_set_tupI ns (I.ok.hd hc) (show s.heap.IsTuple p0 its.toArray from pt) hi (by unfold scanBound; omega) fun h' tk c R1 hcn k => ?_
  exact ⟨.ref _, upd H s.heap.objs.size (SetO X.w s.heap.objs.size (fun j => decide (j ∈ ns)) c), I.laid (t' := tk) k (Nat.le_refl _) (setO_new R1), rfl, q _ c (I.hok.fresh (Nat.le_refl _)) hcn⟩
def insU (k : Int) : List Int → List Int
  | [] => [k]
  | x :: r => if k < x then k :: x :: r else if k = x then x :: r else x :: insU k r
def usort : List Int → List Int
  | [] => []
  | x :: r => insU x (usort r)
theorem insU_mem {k y : Int} : ∀ {l : List Int}, y ∈ insU k l ↔ y = k ∨ y ∈ l
  | [] => by simp [insU]
  | x :: r => by
    unfold insU
    split
    · simp
    · split
      · rename_i e
        subst e
        simp
      · rw [List.mem_cons, insU_mem, List.mem_cons]
        constructor
        · rintro (h | h | h)
          · exact .inr (.inl h)
          · exact .inl h
          · exact .inr (.inr h)
        · rintro (h | h | h)
          · exact .inr (.inl h)
          · exact .inl h
          · exact .inr (.inr h)
theorem insU_sorted (k : Int) : ∀ l : List Int, l.Pairwise (· < ·) → (insU k l).Pairwise (· < ·)
  | [], _ => by simp [insU]
  | x :: r, h => by
    unfold insU
    have h' := List.pairwise_cons.mp h
    split
    · rename_i hk
      refine List.pairwise_cons.mpr ⟨fun y hy => ?_, h⟩
      rcases List.mem_cons.mp hy with rfl | hy
      · exact hk
      · exact Int.lt_trans hk (h'.1 y hy)
    · split
      · exact h
      · refine List.pairwise_cons.mpr ⟨fun y hy => ?_, insU_sorted k r h'.2⟩
        rcases insU_mem.mp hy with rfl | hy
        · omega
        · exact h'.1 y hy
theorem usort_mem {y : Int} : ∀ {l : List Int}, y ∈ usort l ↔ y ∈ l
  | [] => Iff.rfl
  | x :: r => by
    rw [usort, insU_mem, usort_mem, List.mem_cons]
theorem usort_sorted : ∀ l, (usort l).Pairwise (· < ·)
  | [] => .nil
  | x :: r => insU_sorted x _ (usort_sorted r)
theorem strict_eq : ∀ {l m : List Int}, l.Pairwise (· < ·) → m.Pairwise (· < ·) → (∀ k, k ∈ l ↔ k ∈ m) → l = m
  | [], [], _, _, _ => rfl
  | [], y :: m, _, _, h => by have := (h y).mpr List.mem_cons_self; cases this
  | x :: l, [], _, _, h => by have := (h x).mp List.mem_cons_self; cases this
  | x :: l, y :: m, h1, h2, h => by
    rw [List.pairwise_cons] at h1 h2
    have e : x = y := by
      have a := (h x).mp List.mem_cons_self
      have b := (h y).mpr List.mem_cons_self
      rcases List.mem_cons.mp a with e | a
      · exact e
      · rcases List.mem_cons.mp b with e | b
        · exact e.symm
        · have := h1.1 y b
          have := h2.1 x a
          omega
    subst e
    rw [strict_eq h1.2 h2.2 fun k => ?_]
    constructor
    · intro hk
      rcases List.mem_cons.mp ((h k).mp (List.mem_cons_of_mem _ hk)) with e | z
      · have := h1.1 k hk
        omega
      · exact z
    · intro hk
      rcases List.mem_cons.mp ((h k).mpr (List.mem_cons_of_mem _ hk)) with e | z
      · have := h2.1 k hk
        omega
      · exact z
def sortSetD : D → Option D
  | .tuple ds => (intsOf ds).bind fun ns => if ns.length < 64 then some (.list ((usort ns).map .int)) else none
  | _ => none
end
section
variable {X : Cx} {a b c e : Expr} {fa fb fc : Rp → Option D} {pos : Pos} {es : List Expr} {g : Rp → Option (List D)} {pp p2 p3 : Pos}
/-- sorted(set(t)) -/
theorem de_sortSet (hc : X.calm = true) (hg : Gl X "sorted") (hm : X.mg "sorted" = none) (hg2 : Gl X "set") (hm2 : X.mg "set" = none) (ha : DE X a fa)
    (he : starEach [a] X.env = [(false, eval a X.env)] := by rfl) (he2 : starEach [Expr.Call (.Name "set" p2) [a] [] p3] X.env = [(false, eval (Expr.Call (.Name "set" p2) [a] [] p3) X.env)] := by rfl) :
    DE X (.Call (.Name "sorted" pp) [.Call (.Name "set" p2) [a] [] p3] [] pos) (d1 sortSetD fa) := by
  have h1 : PE X (.Call (.Name "set" p2) [a] [] p3) _ := pe_callTy (cr_setT hc) hg2 hm2 PyProof.Rows.boot_set (pa_cons ha pa_nil he) (by decide) (by decide) he rfl
  refine L2.PE.imp (pe_callB (cr_sortedSet hc) hg hm (by decide +kernel) (pa_cons h1 pa_nil he2) (by decide) (by decide) he2 rfl) fun σ H Q ⟨G, ρ, d, at_, e, p⟩ => ?_
  unfold d1 at e
  obtain ⟨x, e1, e⟩ := Option.bind_eq_some_iff.mp e
  refine ⟨G, ρ, x, at_, e1, fun v G1 H1 s1 h1 => ?_⟩
  cases x <;> first | (cases e; done) | skip
  obtain ⟨ns, e2, e⟩ := Option.bind_eq_some_iff.mp (show (intsOf _).bind _ = some d from e)
  obtain ⟨c, rfl⟩ := if_some e
  have e3 := intsOf_some e2
  subst e3
  cases h1 with
  | tup hs ha =>
    have e4 := ha.of_ints
    subst e4
    refine ⟨_, ns, rfl, same_sqT s1.gh hs, by omega, fun q k hq hk => ?_⟩
    refine ⟨q, _, k, rfl, upd_same, by omega, fun ms r hs2 hm3 hl n => ?_⟩
    have e5 : ms = usort ns := strict_eq hs2 (usort_sorted ns) fun z => by
      rw [hm3 z, decide_eq_true_eq, usort_mem]
    subst e5
    have s2 : Stp G1 H1 G1 (upd H1 q (SetO X.w q (fun j => decide (j ∈ ns)) k)) := .newH s1.gh hq
    exact (p.stp (s1.trans s2)).newL s2.gh DqAll.ints r n
/-! the built-ins by name -/
theorem boot_any' : bootBuiltins "any" = some (.builtin "any") := by decide +kernel
theorem boot_all' : bootBuiltins "all" = some (.builtin "all") := by decide +kernel
theorem boot_sum' : bootBuiltins "sum" = some (.builtin "sum") := by decide +kernel
theorem boot_abs' : bootBuiltins "abs" = some (.builtin "abs") := by decide +kernel
theorem boot_len' : bootBuiltins "len" = some (.builtin "len") := by decide +kernel
theorem boot_min' : bootBuiltins "min" = some (.builtin "min") := by decide +kernel
theorem boot_max' : bootBuiltins "max" = some (.builtin "max") := by decide +kernel
theorem boot_sorted' : bootBuiltins "sorted" = some (.builtin "sorted") := by decide +kernel
theorem boot_isinstance' : bootBuiltins "isinstance" = some (.builtin "isinstance") := by decide +kernel
theorem boot_tuple' : bootBuiltins "tuple" = some (.type "tuple") := by decide +kernel
theorem boot_list' : bootBuiltins "list" = some (.type "list") := by decide +kernel
theorem boot_int' : bootBuiltins "int" = some (.type "int") := by decide +kernel
theorem boot_bool' : bootBuiltins "bool" = some (.type "bool") := by decide +kernel
theorem boot_str' : bootBuiltins "str" = some (.type "str") := by decide +kernel
section
variable (hs : starEach [a] X.env = [(false, eval a X.env)])
theorem da1 (ha : DE X a fa) (he : starEach [a] X.env = [(false, eval a X.env)] := by rfl) : DA X [a] (dCons fa dNil) := da_cons ha da_nil he
end
theorem de_len (hg : Gl X "len") (hm : X.mg "len" = none) (ha : DA X [a] g) (he : starEach [a] X.env = [(false, eval a X.env)] := by rfl) : DE X (.Call (.Name "len" pp) [a] [] pos) (dCall lenD g) := de_callB r_len call_len_seq hg hm boot_len' ha (by decide) (by decide) he rfl
theorem de_sum (hc : X.calm = true) (hg : Gl X "sum") (hm : X.mg "sum" = none) (ha : DA X [a] g) (he : starEach [a] X.env = [(false, eval a X.env)] := by rfl) : DE X (.Call (.Name "sum" pp) [a] [] pos) (dCall sumD g) := de_callB r_sum ((cr_sum hc).or (cr_sumT hc)) hg hm boot_sum' ha (by decide) (by decide) he rfl
theorem de_any (hc : X.calm = true) (hg : Gl X "any") (hm : X.mg "any" = none) (ha : DA X [a] g) (he : starEach [a] X.env = [(false, eval a X.env)] := by rfl) : DE X (.Call (.Name "any" pp) [a] [] pos) (dCall anyD g) := de_callB r_any (cr_any hc) hg hm boot_any' ha (by decide) (by decide) he rfl
theorem de_all (hc : X.calm = true) (hg : Gl X "all") (hm : X.mg "all" = none) (ha : DA X [a] g) (he : starEach [a] X.env = [(false, eval a X.env)] := by rfl) : DE X (.Call (.Name "all" pp) [a] [] pos) (dCall allD g) := de_callB r_all (cr_all hc) hg hm boot_all' ha (by decide) (by decide) he rfl
theorem de_abs (hg : Gl X "abs") (hm : X.mg "abs" = none) (ha : DA X [a] g) (he : starEach [a] X.env = [(false, eval a X.env)] := by rfl) : DE X (.Call (.Name "abs" pp) [a] [] pos) (dCall absD g) := de_callB r_abs call_abs hg hm boot_abs' ha (by decide) (by decide) he rfl
theorem de_min {k : Nat} (hr : Room k X.A) (hc : X.calm = true) (hg : Gl X "min") (hm : X.mg "min" = none) (ha : DA X [a] g) (he : starEach [a] X.env = [(false, eval a X.env)] := by rfl) : DE X (.Call (.Name "min" pp) [a] [] pos) (dCall minLD g) := de_callB r_minL (cr_minL hc hr.units) hg hm boot_min' ha (by decide) (by decide) he rfl
theorem de_sorted {k : Nat} (hr : Room k X.A) (hg : Gl X "sorted") (hm : X.mg "sorted" = none) (ha : DA X [a] g) (he : starEach [a] X.env = [(false, eval a X.env)] := by rfl) : DE X (.Call (.Name "sorted" pp) [a] [] pos) (dCall sortD g) := de_callB (r_sortI.or r_sortT) (cr_sorted.or (cr_sortTup hr.units)) hg hm boot_sorted' ha (by decide) (by decide) he rfl
theorem de_tuple (hg : Gl X "tuple") (hm : X.mg "tuple" = none) (ha : DA X [a] g) (he : starEach [a] X.env = [(false, eval a X.env)] := by rfl) : DE X (.Call (.Name "tuple" pp) [a] [] pos) (dCall tupleD g) := de_callTy r_tuple call_tuple_of hg hm boot_tuple' ha (by decide) (by decide) he rfl
theorem de_list (hg : Gl X "list") (hm : X.mg "list" = none) (ha : DA X [a] g) (he : starEach [a] X.env = [(false, eval a X.env)] := by rfl) : DE X (.Call (.Name "list" pp) [a] [] pos) (dCall listD g) := de_callTy r_list call_list_of hg hm boot_list' ha (by decide) (by decide) he rfl
theorem de_intf (hg : Gl X "int") (hm : X.mg "int" = none) (ha : DA X [a] g) (he : starEach [a] X.env = [(false, eval a X.env)] := by rfl) : DE X (.Call (.Name "int" pp) [a] [] pos) (dCall intD g) := de_callTy r_int call_int1 hg hm boot_int' ha (by decide) (by decide) he rfl

/-! ### index -/
def firstEq (d : D) : List D → Option Nat
  | [] => none
  | x :: r => if PyData.eqv x d = true then some 0 else (firstEq d r).map (· + 1)
theorem firstEq_some {d : D} : ∀ {ds : List D} {j : Nat}, firstEq d ds = some j → (∃ z, ds[j]? = some z ∧ PyData.eqv z d = true) ∧ ∀ m z, m < j → ds[m]? = some z → PyData.eqv z d = false
  | x :: r, j, h => by
    unfold firstEq at h
    split at h
    · rename_i hx
      cases h
      exact ⟨⟨x, rfl, hx⟩, fun m z hm => by omega⟩
    · rename_i hx
      obtain ⟨i, e1, rfl⟩ := Option.map_eq_some_iff.mp h
      obtain ⟨⟨z, e2, e3⟩, e4⟩ := firstEq_some e1
      refine ⟨⟨z, by simpa using e2, e3⟩, fun m z' hm hz => ?_⟩
      cases m with
      | zero =>
        cases hz
        simpa using hx
      | succ m => exact e4 m z' (by omega) (by simpa using hz)
def indexL : D → D → Option D
  | .list ds, y => if (SeqAt.shaped (.list ds) && SeqAt.shaped y) = true then (firstEq y ds).map fun j => .int (j : Nat) else none
  | _, _ => none
theorem indexL_some {x y d : D} (e : indexL x y = some d) : ∃ ds j, x = .list ds ∧ SeqAt.shaped (.list ds) = true ∧ SeqAt.shaped y = true ∧ firstEq y ds = some j ∧ d = .int (j : Nat) := by
  unfold indexL at e
  split at e
  · split at e
    · rename_i c
      obtain ⟨c1, c2⟩ := (Bool.and_eq_true _ _).mp c
      obtain ⟨j, e4, rfl⟩ := Option.map_eq_some_iff.mp e
      exact ⟨_, j, rfl, c1, c2, e4, rfl⟩
    · cases e
  · cases e
def indexT (ds : List D) (y : D) : Option D := if (SeqAt.shaped (.list ds) && SeqAt.shaped y) = true then (firstEq y ds).map fun j => .int (j : Nat) else none
def rIndexT (K : PySem.W.Frag) : V → List V → Hp → VK → Prop := fun x xs H Q => ∃ (a : Addr) (y : V) (d : PyData) (ds : List PyData) (j : Nat) (z : PyData), x = V.ref a ∧ xs = [y] ∧ Dp K H (V.ref a) (.tuple ds) ∧ Dp K H y d ∧
  SeqAt.shaped (.list ds) = true ∧ SeqAt.shaped d = true ∧ ds[j]? = some z ∧ PyData.eqv z d = true ∧ (∀ (m : Nat) (z' : PyData), m < j → ds[m]? = some z' → PyData.eqv z' d = false) ∧ Q (.int (j : Nat)) H
theorem mt_indexT {X : Cx} (hu : X.A.units + 65 < cLine) : MtR X "tuple.index" (rIndexT X.K) := by
  intro pins s σ H x xs v us Q I rx rxs h
  obtain ⟨a, y, d, ds, j, z, rfl, rfl, hl, hy, sl, sd, hz, hzj, hno, q⟩ := h
  cases rx
  cases rxs with
  | cons ry rt =>
    rename_i uy ut
    cases rt
    obtain ⟨bs, r1⟩ := Dp.reads I d y uy hy ry
    have hxs : PyData.canLayAll0 ds = true := SeqAt.canLay_of_shaped sl
    have hroom : X.A.units + 1 + min (PyData.depthAll ds) d.depth < cLine := room_in_shaped sd hu
    cases hl with
    | tup hs ha =>
      obtain ⟨its, rv, ⟨⟨cls, dd, data, sls⟩, ho, hc, n, hdt⟩, hlen⟩ := I.tuple hs
      simp only at hc hdt
      subst hc hdt
      obtain ⟨as, h4⟩ := Dp.readsAll I ds _ its ha rv
      have hn : its.length = ds.length := SeqAt.ReadsAll.length ds its as h4
      have hmap : its.map (SeqAt.readOf s.heap) = ds := SeqAt.readsAll_map ds its as hxs h4
      have hvl := rv.length
      obtain ⟨hjd, _⟩ := List.getElem?_eq_some_iff.mp hz
      have hjl : j < its.length := by omega
      have hj : j < its.toArray.size := by simpa using hjl
      have at_ : ∀ (m : Nat) (hm : m < its.toArray.size) (z' : PyData), ds[m]? = some z' → SeqAt.readOf s.heap its.toArray[m] = z' := by
        intro m hm z' hz'
        have hml : m < its.length := by simpa using hm
        rw [← hmap, List.getElem?_map, List.getElem?_eq_getElem hml] at hz'
        have e1 : SeqAt.readOf s.heap its[m] = z' := Option.some.inj (show some (SeqAt.readOf s.heap its[m]) = some z' from hz')
        simpa using e1
      refine call_meets PySem.F.slot_tuple_index ⟨_, ho, rfl⟩ PySem.F.entry_tuple_index (PySem.F.args_tuple_index_2 _ _)
        (TI.tuple_indexAt a its.toArray n dd sls uy (fun u => PyData.eqv (SeqAt.readOf s.heap u) d) j hj ?_ ?_) ⟨ho, SeqAt.items_eqAt (vs := its.toArray) (show ReadsAll s.heap its.toArray.toList ds as from h4) r1 hxs (SeqAt.canLay_of_shaped sd) hroom, ?_⟩
      · show PyData.eqv (SeqAt.readOf s.heap its.toArray[j]) d = true
        rw [at_ j hj z hz]
        exact hzj
      · intro m hm hmj
        have hmd : m < ds.length := by omega
        have hz' : ds[m]? = some ds[m] := List.getElem?_eq_getElem hmd
        show PyData.eqv (SeqAt.readOf s.heap its.toArray[m]) d = false
        rw [at_ m hm _ hz']
        exact hno m _ hmj hz'
      · exact ⟨.int (j : Nat), H, I.tok _, ⟨_, rfl⟩, q⟩
/-- l.index(x), l a list of data -/
theorem de_indexL {k : Nat} (hr : Room (k + 1) X.A) {apos : Pos} (ha : DE X a fa) (hb : DE X b fb) (hbase : attributeBase a "index" X.env (eval a X.env) = eval a X.env := by rfl) (hline : (apos.endLine == pos.line) = true := by rfl)
    (hfew : ((backTo pos (starEach [b] X.env)).all (fun x => !x.1) && (backToKw pos (keywordEach [] X.env)).all (fun x => x.1.isSome) && decide ([b].length + ([] : List Keyword).length + (if ([] : List Keyword).isEmpty then 0 else 1) < 30)) = true := by rfl)
    (he : starEach [b] X.env = [(false, eval b X.env)] := by rfl) (hplain : (backTo pos (starEach [] X.env)).any (·.1) = false := by rfl) :
    DE X (.Call (.Attribute a "index" apos) [b] [] pos) (d2 indexL fa fb) := by
  refine L2.PE.imp (pe_bm PySem.F.plainAttrs_list PySem.F.slot_list_index PySem.F.type_list_index (mt_indexD (u65 hr)) ha (pa_cons hb pa_nil he) hbase hfew hline he hplain) fun σ H Q ⟨G, ρ, d, at_, e, p⟩ => ?_
  unfold d2 at e
  obtain ⟨x, e1, e⟩ := Option.bind_eq_some_iff.mp e
  obtain ⟨y, e2, e⟩ := Option.bind_eq_some_iff.mp e
  refine ⟨G, ρ, x, at_, e1, fun v G1 H1 s1 h1 => ?_⟩
  cases x <;> first | (cases e; done) | skip
  obtain ⟨ds, j, e3, c1, c2, e4, rfl⟩ := indexL_some e
  cases e3
  obtain ⟨⟨z, e5, e6⟩, e7⟩ := firstEq_some e4
  cases h1 with
  | lst hs hd =>
    refine ⟨.inl ⟨rfl, _, SqL.of (s1.gh _ _ hs)⟩, G1, ρ, y, at_.stp s1, e2, fun u G2 H2 s2 h2 => ?_⟩
    exact ⟨_, u, y, _, j, z, rfl, rfl, .lst (SqL.of (s2.gh _ _ (s2.g _ _ hs))) (DqAll.dp _ _ (hd.to (s2.g.trans s2.gh))), Dq.dp _ _ (h2.to s2.gh), c1, c2, e5, e6, e7, (p.stp (s1.trans s2)).int s2.gh⟩
/-- R.index(x), R a written tuple of the module -/
theorem de_indexT {k : Nat} (hr : Room (k + 1) X.A) {apos : Pos} {R : Addr} {ds : List D} (ha : PE X a (tC (.ref R))) (hR : ∃ o, X.K.lookup R = some o ∧ o.cls = .type "tuple" ∧ o.dict = none) (hD : ∀ G, Dq X.K G (.ref R) (.tuple ds)) (hb : DE X b fb)
    (hbase : attributeBase a "index" X.env (eval a X.env) = eval a X.env := by rfl) (hline : (apos.endLine == pos.line) = true := by rfl)
    (hfew : ((backTo pos (starEach [b] X.env)).all (fun x => !x.1) && (backToKw pos (keywordEach [] X.env)).all (fun x => x.1.isSome) && decide ([b].length + ([] : List Keyword).length + (if ([] : List Keyword).isEmpty then 0 else 1) < 30)) = true := by rfl)
    (he : starEach [b] X.env = [(false, eval b X.env)] := by rfl) (hplain : (backTo pos (starEach [] X.env)).any (·.1) = false := by rfl) :
    DE X (.Call (.Attribute a "index" apos) [b] [] pos) (d1 (indexT ds) fb) := by
  refine L2.PE.imp (pe_bm PySem.F.plainAttrs_tuple PySem.F.slot_tuple_index PySem.F.type_tuple_index (mt_indexT (u65 hr)) ha (pa_cons hb pa_nil he) hbase hfew hline he hplain) fun σ H Q ⟨G, ρ, d, at_, e, p⟩ => ?_
  unfold d1 at e
  obtain ⟨y, e2, e⟩ := Option.bind_eq_some_iff.mp e
  unfold indexT at e
  by_cases c : (SeqAt.shaped (.list ds) && SeqAt.shaped y) = true
  · rw [if_pos c] at e
    obtain ⟨j, e4, rfl⟩ := Option.map_eq_some_iff.mp e
    obtain ⟨⟨z, e5, e6⟩, e7⟩ := firstEq_some e4
    obtain ⟨c1, c2⟩ := (Bool.and_eq_true _ _).mp c
    refine ⟨.inr (.inl ⟨rfl, hR⟩), G, ρ, y, at_, e2, fun u G2 H2 s2 h2 => ?_⟩
    exact ⟨_, u, y, _, j, z, rfl, rfl, Dq.dp _ _ (hD H2), Dq.dp _ _ (h2.to s2.gh), c1, c2, e5, e6, e7, (p.stp s2).int s2.gh⟩
  · rw [if_neg c] at e
    cases e
/-! ### isinstance -/
def tyName : D → String
  | .none => "NoneType"
  | .bool _ => "bool"
  | .int _ => "int"
  | .str _ => "str"
  | .list _ => "list"
  | .tuple _ => "tuple"
  | .dict _ => "dict"
def isaD (T : String) (d : D) : Bool := tyName d == T || (T == "int" && tyName d == "bool")
theorem tyx_D {K : PySem.W.Frag} {H : Hp} {v : V} {d : D} (h : Dq K H v d) : TyX K H v (.type (tyName d)) := by
  cases h with
  | non => exact .base .non
  | bl b => exact .base (.bl b)
  | int i => exact .base (.int i)
  | str x => exact .base (.str x)
  | lst hs _ => exact .base (.lst hs)
  | tup hs _ =>
    rcases hs with (h | ⟨o, h⟩) | ⟨o, its, n, h1, h2, _⟩
    · exact .base (.tup h)
    · exact .fTuple h
    · exact .kTuple h1 h2
theorem kit_all : ∀ t ∈ ["NoneType", "bool", "int", "str", "list", "tuple"], ∀ T ∈ ["bool", "int", "str", "list", "tuple"], kitB t T = some (t == T || (T == "int" && t == "bool")) := by decide +kernel
theorem kit_D {K : PySem.W.Frag} {H : Hp} {v : V} {d : D} {T : String} (h : Dq K H v d) (hT : T ∈ ["bool", "int", "str", "list", "tuple"]) : PySem.W.kitOne K (.type (tyName d)) (.type T) = some (isaD T d) := by
  refine kit_ty (kit_all _ ?_ _ hT)
  cases h <;> simp [tyName]
theorem isa_mono {K : PySem.W.Frag} {G H : Hp} {v : V} {d : D} (h : Dq K G v d) (s : Same G H) : Dq K H v d := h.to s
theorem de_isa {T : String} (hg : Gl X "isinstance") (hm : X.mg "isinstance" = none) (hT : T ∈ ["bool", "int", "str", "list", "tuple"]) (hgT : Gl X T) (hmT : X.mg T = none) (hbT : bootBuiltins T = some (.type T)) (hnT : (T : Str) ≠ "__name__") (hdT : ((T : Str) == ("__debug__" : Str)) = false) (ha : DE X a fa)
    (he : starEach [a, Expr.Name T p2] X.env = [(false, eval a X.env), (false, eval (Expr.Name T p2) X.env)] := by rfl) (he2 : starEach [Expr.Name T p2] X.env = [(false, eval (Expr.Name T p2) X.env)] := by rfl) :
    DE X (.Call (.Name "isinstance" pp) [a, .Name T p2] [] pos) (d1 (fun d => some (.bool (isaD T d))) fa) := by
  refine L2.PE.imp (pe_callB call_isi hg hm boot_isinstance' (pa_cons ha (pa_cons (pe_bltn (v := .ty T) hgT hmT hbT rfl hnT hdT) pa_nil he2) (by rw [he, he2])) (by decide) (by decide) (by rw [he, he2]) (by rw [he2]; rfl)) fun σ H Q ⟨G, ρ, d, at_, e, p⟩ => ?_
  unfold d1 at e
  obtain ⟨y, e2, e⟩ := Option.bind_eq_some_iff.mp e
  cases e
  refine ⟨G, ρ, y, at_, e2, fun v G1 H1 s1 h1 => ?_⟩
  have h2 := h1.to s1.gh
  exact ⟨v, .ty T, _, _, _, rfl, .ty T, tyx_D h2, kit_D h2 hT, (p.stp s1).bl s1.gh⟩
theorem de_isa2 {T U : String} (hg : Gl X "isinstance") (hm : X.mg "isinstance" = none) (hT : T ∈ ["bool", "int", "str", "list", "tuple"]) (hU : U ∈ ["bool", "int", "str", "list", "tuple"]) (hgT : Gl X T) (hmT : X.mg T = none) (hbT : bootBuiltins T = some (.type T)) (hnT : (T : Str) ≠ "__name__") (hdT : ((T : Str) == ("__debug__" : Str)) = false)
    (hgU : Gl X U) (hmU : X.mg U = none) (hbU : bootBuiltins U = some (.type U)) (hnU : (U : Str) ≠ "__name__") (hdU : ((U : Str) == ("__debug__" : Str)) = false) {kk : Nat} {p4 : Pos} (ha : DE X a fa)
    (he0 : starEach [Expr.Name T p2, Expr.Name U p3] X.env = [(false, eval (Expr.Name T p2) X.env), (false, eval (Expr.Name U p3) X.env)] := by rfl) (he1 : starEach [Expr.Name U p3] X.env = [(false, eval (Expr.Name U p3) X.env)] := by rfl)
    (he : starEach [a, Expr.Tuple [.Name T p2, .Name U p3] kk p4] X.env = [(false, eval a X.env), (false, eval (Expr.Tuple [.Name T p2, .Name U p3] kk p4) X.env)] := by rfl) (he2 : starEach [Expr.Tuple [.Name T p2, .Name U p3] kk p4] X.env = [(false, eval (Expr.Tuple [.Name T p2, .Name U p3] kk p4) X.env)] := by rfl) :
    DE X (.Call (.Name "isinstance" pp) [a, .Tuple [.Name T p2, .Name U p3] kk p4] [] pos) (d1 (fun d => some (.bool (isaD T d || isaD U d))) fa) := by
  refine L2.PE.imp (pe_callB call_isiT hg hm boot_isinstance' (pa_cons ha (pa_cons (pe_tup (pa_cons (pe_bltn (v := .ty T) hgT hmT hbT rfl hnT hdT) (pa_cons (pe_bltn (v := .ty U) hgU hmU hbU rfl hnU hdU) pa_nil he1) (by rw [he0, he1]))) pa_nil he2) (by rw [he, he2])) (by decide) (by decide) (by rw [he, he2]) (by rw [he2]; rfl)) fun σ H Q ⟨G, ρ, d, at_, e, p⟩ => ?_
  unfold d1 at e
  obtain ⟨y, e2, e⟩ := Option.bind_eq_some_iff.mp e
  cases e
  refine ⟨G, ρ, y, at_, e2, fun v G1 H1 s1 h1 => ?_⟩
  refine ⟨by show 2 ≤ sizeLine; decide, fun q hq => ?_⟩
  have s2 : Stp G1 H1 G1 (upd H1 q (.tup [.ty T, .ty U])) := .newH s1.gh hq
  have h2 := (h1.to s2.g).to s2.gh
  refine ⟨v, q, _, _, _, _, rfl, upd_same, .cons (.ty T) (.cons (.ty U) .nil), tyx_D h2, ?_, (p.stp (s1.trans s2)).bl s2.gh⟩
  refine kitAny_cons (kit_D h2 hT) (fun e => ?_) fun e => by rw [e, Bool.true_or]
  refine kitAny_cons (kit_D h2 hU) (fun e2 => ?_) fun e2 => by rw [e2, Bool.or_true]
  rw [e, e2]
  exact kitAny_nil
end
end DL

/-! DL4: what is walked; comprehensions. -/
namespace DL
open PySem PySem.Spec PyProof.Rows L2

theorem _root_.L2.PI.imp {X : Cx} {tg e : Expr} {t t' : TI} (h : PI X tg e t) (hi : ∀ σ H R, t' σ H R → t σ H R) : PI X tg e t' := ⟨fun pins s σ H R I w => h.run pins s σ H R I (hi σ H R w)⟩
/-- an iterator that gives the data ds while the view G stands -/
def ItD (K : PySem.W.Frag) (G : Hp) (J : It) (ds : List D) : Prop := ∀ (i : Nat) (G' H' : Hp), Same G G' → Same G' H' →
  (∀ d, ds[i]? = some d → J.go i H' ∧ ∀ x H'', J.yld i H' x H'' → ∃ G'', Stp G' H' G'' H'' ∧ Dq K G'' x d) ∧ (ds.length = i → J.stop i H')
theorem ItD.to {K : PySem.W.Frag} {G G1 : Hp} {J : It} {ds : List D} (h : ItD K G J ds) (s : Same G G1) : ItD K G1 J ds := fun i G' H' s1 s2 => h i G' H' (s.trans s1) s2
def tDI (K : PySem.W.Frag) (f : Rp → Option (List D)) : TI := fun σ H R => ∃ G ρ ds, At K G H σ ρ ∧ f ρ = some ds ∧ ∀ J G' H', Stp G H G' H' → ItD K G' J ds → R J H'
abbrev DI (X : Cx) (tg e : Expr) (f : Rp → Option (List D)) : Prop := PI X tg e (tDI X.K f)

section
variable {X : Cx} {tg e l : Expr} {fa : Rp → Option D}
/-- a list or a tuple -/
theorem pi_seq {tl : TE} (hl : PE X l tl) : PI X tg l (fun σ H R => tl σ H fun x H1 => ∃ a, x = .ref a ∧ (((∃ xs, SqL X.K H1 a xs) ∧ R (Itl X.K a) H1) ∨ ((∃ xs, SqT X.K H1 a xs) ∧ R (Itt X.K a) H1))) := by
  refine ⟨fun pins s σ H R I h => ?_⟩
  refine thn (hl.run pins s σ H _ I h) fun v s1 ⟨x, H1, I1, r1, q1⟩ => ?_
  obtain ⟨a, e, q⟩ := q1
  subst e
  cases r1
  rcases q with ⟨⟨xs, hq⟩, q⟩ | ⟨⟨xs, hq⟩, q⟩
  · obtain ⟨its, rv, p, hz⟩ := I1.list hq
    refine wpAny_pyIter_list p.isList ?_
    refine ⟨s1.heap.objs.size, [s1.heap.objs.size], _, _, H1, rfl, I1.kept (t' := s1.toks) fun b o e => Heap.get?_push_of_some _ e, turn_list a _, ⟨_, Heap.get?_push_size _ rfl, rfl, rfl⟩, fun b hb => ?_, q⟩
    have e : b = s1.heap.objs.size := by simpa using hb
    subst e
    exact I1.fpOk (Nat.le_refl _) (I1.hok.fresh (Nat.le_refl _))
  · obtain ⟨its, rv, p, hz⟩ := I1.tuple hq
    refine wpAny_pyIter_tuple (show s1.heap.IsTuple a its.toArray from p) ?_
    refine ⟨s1.heap.objs.size, [s1.heap.objs.size], _, _, H1, rfl, I1.kept (t' := s1.toks) fun b o e => Heap.get?_push_of_some _ e, turn_tuple a _, ⟨_, Heap.get?_push_size _ rfl, rfl, rfl⟩, fun b hb => ?_, q⟩
    have e : b = s1.heap.objs.size := by simpa using hb
    subst e
    exact I1.fpOk (Nat.le_refl _) (I1.hok.fresh (Nat.le_refl _))
theorem itd_list {K : PySem.W.Frag} {G : Hp} {a : Addr} {xs : List V} {ds : List D} (h : G a = some (.lst xs)) (hd : DqAll K G xs ds) : ItD K G (Itl K a) ds := fun i G' H' s1 s2 => by
  have hL : SqL K H' a xs := SqL.of (s2 _ _ (s1 _ _ h))
  refine ⟨fun d e => ?_, fun hi => ⟨xs, hL, by rw [hd.length]; exact Nat.le_of_eq hi⟩⟩
  obtain ⟨v, e1, e2⟩ := hd.at_ e
  refine ⟨⟨xs, v, hL, e1⟩, fun x H'' ⟨z, y⟩ => ?_⟩
  subst z
  have e3 := y xs hL
  rw [e1] at e3
  cases e3
  exact ⟨G', .refl s2, e2.to s1⟩
theorem itd_tup {K : PySem.W.Frag} {G : Hp} {a : Addr} {xs : List V} {ds : List D} (h : SqT K G a xs) (hd : DqAll K G xs ds) : ItD K G (Itt K a) ds := fun i G' H' s1 s2 => by
  have hL : SqT K H' a xs := same_sqT s2 (same_sqT s1 h)
  refine ⟨fun d e => ?_, fun hi => ⟨xs, hL, by rw [hd.length]; exact Nat.le_of_eq hi⟩⟩
  obtain ⟨v, e1, e2⟩ := hd.at_ e
  refine ⟨⟨xs, v, hL, e1⟩, fun x H'' ⟨z, y⟩ => ?_⟩
  subst z
  have e3 := y xs hL
  rw [e1] at e3
  cases e3
  exact ⟨G', .refl s2, e2.to s1⟩
def iSeq (f : Rp → Option D) : Rp → Option (List D) := fun ρ => (f ρ).bind itemsD
theorem di_seq (h : DE X l fa) : DI X tg l (iSeq fa) := (pi_seq h).imp fun σ H R ⟨G, ρ, ds, at_, e, p⟩ => by
  unfold iSeq at e
  obtain ⟨x, e1, e2⟩ := Option.bind_eq_some_iff.mp e
  refine ⟨G, ρ, x, at_, e1, fun v G1 H1 s1 h1 => ?_⟩
  cases x <;> first | (cases e2; done) | skip
  · cases e2
    cases h1 with
    | lst hs hd => exact ⟨_, rfl, .inl ⟨⟨_, SqL.of (s1.gh _ _ hs)⟩, p _ G1 H1 s1 (itd_list hs hd)⟩⟩
  · cases e2
    cases h1 with
    | tup hs hd => exact ⟨_, rfl, .inr ⟨⟨_, same_sqT s1.gh hs⟩, p _ G1 H1 s1 (itd_tup hs hd)⟩⟩
/-- range(n) -/
def rangeD (n : Nat) : List D := (List.range n).map fun i => .int (i : Nat)
theorem rangeD_get {n i : Nat} {d : D} (e : (rangeD n)[i]? = some d) : i < n ∧ d = .int (i : Nat) := by
  by_cases h : i < n
  · unfold rangeD at e
    rw [List.getElem?_map, List.getElem?_range h] at e
    cases e
    exact ⟨h, rfl⟩
  · unfold rangeD at e
    rw [List.getElem?_eq_none (by rw [List.length_map, List.length_range]; omega)] at e
    cases e
theorem itd_range {K : PySem.W.Frag} {G : Hp} {n : Nat} : ItD K G (Itr 0 n) (rangeD n) := fun i G' H' s1 s2 => by
  refine ⟨fun d e => ?_, fun hi => by unfold rangeD at hi; rw [List.length_map, List.length_range] at hi; exact Nat.le_of_eq hi⟩
  obtain ⟨h1, rfl⟩ := rangeD_get e
  refine ⟨h1, fun x H'' ⟨z, y⟩ => ?_⟩
  subst z y
  have e0 : (0 : Int) + (i : Nat) = (i : Nat) := Int.zero_add _
  rw [e0]
  exact ⟨G', .refl s2, .int _⟩
def iRange (f : Rp → Option D) : Rp → Option (List D) := fun ρ => (f ρ).bind fun d => (asI d).bind fun n => if 0 ≤ n ∧ n ≤ 100000 then some (rangeD n.toNat) else none
theorem di_range {a : Expr} {p pos : Pos} (hg : Gl X "range") (hm : X.mg "range" = none) (ha : DE X a fa) (hs : starEach [a] X.env = [(false, eval a X.env)] := by rfl) : DI X tg (.Call (.Name "range" p) [a] [] pos) (iRange fa) :=
  (pi_range1 hg hm (pa_cons ha pa_nil hs) hs).imp fun σ H R ⟨G, ρ, ds, at_, e, p⟩ => by
    unfold iRange at e
    obtain ⟨x, e1, e2⟩ := Option.bind_eq_some_iff.mp e
    obtain ⟨n, e3, e4⟩ := Option.bind_eq_some_iff.mp e2
    obtain ⟨⟨c1, c2⟩, rfl⟩ := if_some e4
    have e5 := asI_some e3
    subst e5
    refine ⟨G, ρ, _, at_, e1, fun v G1 H1 s1 h1 => ?_⟩
    cases h1
    exact ⟨n, rfl, by omega, by omega, p _ G1 H1 s1 itd_range⟩
/-- zip of two lists, of two tuples -/
def zipD : List D → List D → List D
  | x :: xs, y :: ys => .tuple [x, y] :: zipD xs ys
  | _, _ => []
theorem zipD_get : ∀ {xs ys : List D} {i : Nat} {d : D}, (zipD xs ys)[i]? = some d → ∃ x y, xs[i]? = some x ∧ ys[i]? = some y ∧ d = .tuple [x, y]
  | x :: xs, y :: ys, 0, d, e => by cases e; exact ⟨x, y, rfl, rfl, rfl⟩
  | x :: xs, y :: ys, i + 1, d, e => by
    obtain ⟨a, b, h1, h2, h3⟩ := zipD_get (xs := xs) (ys := ys) (i := i) (d := d) (by simpa [zipD] using e)
    exact ⟨a, b, by simpa using h1, by simpa using h2, h3⟩
  | [], ys, i, d, e => by simp [zipD] at e
  | x :: xs, [], i, d, e => by simp [zipD] at e
theorem zipD_len : ∀ {xs ys : List D} {i : Nat}, (zipD xs ys).length ≤ i → xs.length ≤ i ∨ ys.length ≤ i
  | x :: xs, y :: ys, 0, h => by simp [zipD] at h
  | x :: xs, y :: ys, i + 1, h => by
    rcases zipD_len (xs := xs) (ys := ys) (i := i) (by simpa [zipD] using h) with h | h
    · exact .inl (by simpa using h)
    · exact .inr (by simpa using h)
  | [], ys, i, h => .inl (Nat.zero_le _)
  | x :: xs, [], i, h => .inr (Nat.zero_le _)
theorem new2 {K : PySem.W.Frag} {G H : Hp} {v u : V} {x y : D} {T : Addr} (s : Same G H) (n : H T = none) (h1 : Dq K G v x) (h2 : Dq K G u y) : Stp G H (upd G T (.tup [v, u])) (upd H T (.tup [v, u])) ∧ Dq K (upd G T (.tup [v, u])) (.ref T) (.tuple [x, y]) := by
  have z := Stp.new (o := .tup [v, u]) s n
  exact ⟨z, .tup (.inl (.inl upd_same)) (.cons (h1.to z.g) (.cons (h2.to z.g) .nil))⟩
def zipF (x y : D) : Option (List D) := match x, y with
  | .list xs, .list ys => some (zipD xs ys)
  | .tuple xs, .tuple ys => some (zipD xs ys)
  | _, _ => none
def iZipD (fa fb : Rp → Option D) : Rp → Option (List D) := fun ρ => (fa ρ).bind fun x => (fb ρ).bind fun y => zipF x y
theorem itd_zipL {K : PySem.W.Frag} {G : Hp} {a b : Addr} {xs ys : List V} {ds es : List D} (h : G a = some (.lst xs)) (hd : DqAll K G xs ds) (h' : G b = some (.lst ys)) (he : DqAll K G ys es) : ItD K G (Itz K a b) (zipD ds es) := fun i G' H' s1 s2 => by
  have hL : SqL K H' a xs := SqL.of (s2 _ _ (s1 _ _ h))
  have hM : SqL K H' b ys := SqL.of (s2 _ _ (s1 _ _ h'))
  refine ⟨fun d e => ?_, fun hi => ⟨xs, ys, hL, hM, by rw [hd.length, he.length]; exact zipD_len (Nat.le_of_eq hi)⟩⟩
  obtain ⟨p, q, e1, e2, rfl⟩ := zipD_get e
  obtain ⟨v, e3, e4⟩ := hd.at_ e1
  obtain ⟨u, e5, e6⟩ := he.at_ e2
  refine ⟨⟨xs, ys, v, u, hL, hM, e3, e5⟩, fun x H'' hy => ?_⟩
  obtain ⟨T, x1, y1, rfl, nT, rfl, f1, f2⟩ := hy
  have g1 := f1 xs hL
  have g2 := f2 ys hM
  rw [e3] at g1
  rw [e5] at g2
  cases g1
  cases g2
  exact ⟨_, new2 s2 nT (e4.to s1) (e6.to s1)⟩
theorem itd_zipT {K : PySem.W.Frag} {G : Hp} {a b : Addr} {xs ys : List V} {ds es : List D} (h : SqT K G a xs) (hd : DqAll K G xs ds) (h' : SqT K G b ys) (he : DqAll K G ys es) : ItD K G (RZ.ItzT K a b) (zipD ds es) := fun i G' H' s1 s2 => by
  have hL : SqT K H' a xs := same_sqT s2 (same_sqT s1 h)
  have hM : SqT K H' b ys := same_sqT s2 (same_sqT s1 h')
  refine ⟨fun d e => ?_, fun hi => ⟨xs, ys, hL, hM, by rw [hd.length, he.length]; exact zipD_len (Nat.le_of_eq hi)⟩⟩
  obtain ⟨p, q, e1, e2, rfl⟩ := zipD_get e
  obtain ⟨v, e3, e4⟩ := hd.at_ e1
  obtain ⟨u, e5, e6⟩ := he.at_ e2
  refine ⟨⟨xs, ys, v, u, hL, hM, e3, e5⟩, fun x H'' hy => ?_⟩
  obtain ⟨T, x1, y1, rfl, nT, rfl, f1, f2⟩ := hy
  have g1 := f1 xs hL
  have g2 := f2 ys hM
  rw [e3] at g1
  rw [e5] at g2
  cases g1
  cases g2
  exact ⟨_, new2 s2 nT (e4.to s1) (e6.to s1)⟩
theorem di_zip {a b : Expr} {fb : Rp → Option D} {p pos tpos : Pos} {elts : List Expr} {kk : Nat} (hg : Gl X "zip") (hm : X.mg "zip" = none) (ha : DE X a fa) (hb : DE X b fb)
    (hs : starEach [a, b] X.env = (false, eval a X.env) :: starEach [b] X.env := by rfl) (hs2 : starEach [b] X.env = [(false, eval b X.env)] := by rfl) (hpl : (backTo pos (starEach [b] X.env)).any (·.1) = false := by rfl) :
    DI X (.Tuple elts kk tpos) (.Call (.Name "zip" p) [a, b] [] pos) (iZipD fa fb) := (RZ.pi_zipA hg hm (pa_cons ha (pa_cons hb pa_nil hs2) hs) hs hpl).imp fun σ H R ⟨G, ρ, ds, at_, e, p⟩ => by
  unfold iZipD at e
  obtain ⟨x, e1, e⟩ := Option.bind_eq_some_iff.mp e
  obtain ⟨y, e2, e⟩ := Option.bind_eq_some_iff.mp e
  refine ⟨G, ρ, x, at_, e1, fun v G1 H1 s1 h1 => ?_⟩
  refine ⟨G1, ρ, y, at_.stp s1, e2, fun u G2 H2 s2 h2 => ?_⟩
  have h3 := h1.to s2.g
  unfold zipF at e
  split at e
  · cases e
    cases h3 with
    | lst k1 k2 =>
      cases h2 with
      | lst k3 k4 => exact ⟨_, _, _, _, rfl, .inl ⟨SqL.of (s2.gh _ _ k1), SqL.of (s2.gh _ _ k3), p _ G2 H2 (s1.trans s2) (itd_zipL k1 k2 k3 k4)⟩⟩
  · cases e
    cases h3 with
    | tup k1 k2 =>
      cases h2 with
      | tup k3 k4 => exact ⟨_, _, _, _, rfl, .inr ⟨same_sqT s2.gh k1, same_sqT s2.gh k3, p _ G2 H2 (s1.trans s2) (itd_zipT k1 k2 k3 k4)⟩⟩
  · cases e
/-- enumerate(list) -/
def enumD : Nat → List D → List D
  | _, [] => []
  | n, x :: xs => .tuple [.int (n : Nat), x] :: enumD (n + 1) xs
theorem enumD_get : ∀ {xs : List D} {n i : Nat} {d : D}, (enumD n xs)[i]? = some d → ∃ x, xs[i]? = some x ∧ d = .tuple [.int ((n + i : Nat) : Int), x]
  | x :: xs, n, 0, d, e => by cases e; exact ⟨x, rfl, rfl⟩
  | x :: xs, n, i + 1, d, e => by
    obtain ⟨y, h1, h2⟩ := enumD_get (xs := xs) (n := n + 1) (i := i) (d := d) (by simpa [enumD] using e)
    refine ⟨y, by simpa using h1, ?_⟩
    rw [h2]
    have : n + 1 + i = n + (i + 1) := by omega
    rw [this]
  | [], n, i, d, e => by simp [enumD] at e
theorem enumD_len : ∀ {xs : List D} {n : Nat}, (enumD n xs).length = xs.length
  | [], _ => rfl
  | x :: xs, n => by rw [enumD, List.length_cons, List.length_cons, enumD_len]
theorem itd_enum {K : PySem.W.Frag} {G : Hp} {a : Addr} {xs : List V} {ds : List D} (h : G a = some (.lst xs)) (hd : DqAll K G xs ds) : ItD K G (Ite K a) (enumD 0 ds) := fun i G' H' s1 s2 => by
  have hL : SqL K H' a xs := SqL.of (s2 _ _ (s1 _ _ h))
  refine ⟨fun d e => ?_, fun hi => ⟨xs, hL, by rw [enumD_len] at hi; rw [hd.length]; exact Nat.le_of_eq hi⟩⟩
  obtain ⟨p, e1, rfl⟩ := enumD_get e
  obtain ⟨v, e3, e4⟩ := hd.at_ e1
  refine ⟨⟨xs, v, hL, e3⟩, fun x H'' hy => ?_⟩
  obtain ⟨T, x1, rfl, nT, rfl, f1⟩ := hy
  have g1 := f1 xs hL
  rw [e3] at g1
  cases g1
  have e0 : 0 + i = i := Nat.zero_add i
  rw [e0]
  exact ⟨_, new2 s2 nT (.int _) (e4.to s1)⟩
def iEnumD (fa : Rp → Option D) : Rp → Option (List D) := fun ρ => (fa ρ).bind fun x => (listItems x).map (enumD 0)
theorem di_enum {a : Expr} {p pos tpos : Pos} {elts : List Expr} {kk : Nat} (hg : Gl X "enumerate") (hm : X.mg "enumerate" = none) (ha : DE X a fa) (hs : starEach [a] X.env = [(false, eval a X.env)] := by rfl) :
    DI X (.Tuple elts kk tpos) (.Call (.Name "enumerate" p) [a] [] pos) (iEnumD fa) := (pi_enum hg hm (pa_cons ha pa_nil hs) hs).imp fun σ H R ⟨G, ρ, ds, at_, e, p⟩ => by
  unfold iEnumD at e
  obtain ⟨x, e1, e⟩ := Option.bind_eq_some_iff.mp e
  obtain ⟨es, e2, rfl⟩ := Option.map_eq_some_iff.mp e
  have e3 := listItems_some e2
  subst e3
  refine ⟨G, ρ, _, at_, e1, fun v G1 H1 s1 h1 => ?_⟩
  cases h1 with
  | lst k1 k2 => exact ⟨_, _, rfl, SqL.of (s1.gh _ _ k1), p _ G1 H1 s1 (itd_enum k1 k2)⟩
end

/-! ### targets: one name, several names -/
/-- a target stores the item's data at places -/
inductive Tgt | one (i : Nat) | many (is : List Nat)
def setsR : List Nat → List D → Rp → Rp
  | i :: is, d :: ds, ρ => setsR is ds (ρ.set i (some d))
  | _, _, ρ => ρ
def setsV : List Nat → List V → L2.St → L2.St
  | i :: is, d :: ds, σ => setsV is ds (σ.set i (some d))
  | _, _, σ => σ
def Tgt.bindR : Tgt → D → Rp → Option Rp
  | .one i, d, ρ => some (ρ.set i (some d))
  | .many is, d, ρ => match d with
    | .tuple ds => if ds.length = is.length then some (setsR is ds ρ) else none
    | _ => none
/-- the target's reading: what a target of that kind asks -/
structure TgtOk (K : PySem.W.Frag) (g : TG) (t : Tgt) : Prop where
  one : ∀ i, t = .one i → ∀ v σ H Q, Q (σ.set i (some v)) H → g v σ H Q
  many : ∀ is, t = .many is → ∀ a xs σ H Q, SqT K H a xs → xs.length = is.length → Q (setsV is xs σ) H → g (.ref a) σ H Q
theorem tgt_one {K : PySem.W.Frag} {i : Nat} : TgtOk K (gName i) (.one i) := ⟨fun _ e v σ H Q q => by cases e; exact q, fun _ e => (by cases e)⟩
def gNames : List Nat → TGs
  | [] => gNil
  | i :: is => gCons (gName i) (gNames is)
theorem gNames_ok : ∀ {is : List Nat} {xs : List V} {σ : L2.St} {H : Hp} {Q : L2.St → Hp → Prop}, xs.length = is.length → Q (setsV is xs σ) H → gNames is xs σ H Q
  | [], [], _, _, _, _, q => ⟨rfl, q⟩
  | i :: is, x :: xs, σ, H, Q, h, q => ⟨x, xs, rfl, gNames_ok (is := is) (xs := xs) (by simpa using h) q⟩
theorem tgt_many {K : PySem.W.Frag} {is : List Nat} : TgtOk K (gTup K is.length (gNames is)) (.many is) := ⟨fun _ e => (by cases e), fun js e a xs σ H Q hs hl q => by
  cases e
  exact ⟨a, xs, rfl, hs, hl, gNames_ok hl q⟩⟩
theorem sets_env {K : PySem.W.Frag} {G : Hp} : ∀ {is : List Nat} {xs : List V} {ds : List D} {σ : L2.St} {ρ : Rp}, EnvP K G σ ρ → DqAll K G xs ds → EnvP K G (setsV is xs σ) (setsR is ds ρ)
  | [], _, _, _, _, e, _ => by unfold setsV setsR; exact e
  | i :: is, _, _, _, _, e, .nil => by unfold setsV setsR; exact e
  | i :: is, _, _, _, _, e, .cons h1 h2 => by unfold setsV setsR; exact sets_env (e.set i h1) h2
def Tgt.slots : Tgt → List Nat
  | .one i => [i]
  | .many is => is
theorem wipe_set {σ : L2.St} {x : Option V} : ∀ {vs : List Nat} {i : Nat}, i ∈ vs → wipe (σ.set i x) vs = wipe σ vs
  | v :: vs, i, h => by
    unfold wipe
    by_cases e : i = v
    · subst e
      by_cases h' : i ∈ vs
      · rw [wipe_set h']
      · have c : wipe (σ.set i x) vs = (wipe σ vs).set i x := by
          clear h
          induction vs with
          | nil => rfl
          | cons w ws ih =>
            rw [List.mem_cons, not_or] at h'
            unfold wipe
            rw [ih h'.2, List.set_comm _ _ (fun z => h'.1 z)]
        rw [c, List.set_set]
    · rcases List.mem_cons.mp h with h | h
      · exact absurd h e
      · rw [wipe_set h]
theorem wipe_sets {σ : L2.St} {vs : List Nat} : ∀ {is : List Nat} {xs : List V} {σ : L2.St}, (∀ i ∈ is, i ∈ vs) → wipe (setsV is xs σ) vs = wipe σ vs
  | [], _, _, _ => by unfold setsV; rfl
  | i :: is, [], _, _ => by unfold setsV; rfl
  | i :: is, x :: xs, σ, h => by
    unfold setsV
    rw [wipe_sets (σ := σ) fun j hj => h j (List.mem_cons_of_mem _ hj)]
    exact wipe_set (h i List.mem_cons_self)
theorem wipe_wipe {σ : L2.St} : ∀ {vs : List Nat}, wipe (wipe σ vs) vs = wipe σ vs := by
  have key : ∀ (ws vs : List Nat) (τ : L2.St), (∀ w ∈ ws, w ∈ vs) → wipe (wipe τ ws) vs = wipe τ vs := by
    intro ws
    induction ws with
    | nil => intro vs τ _; rfl
    | cons w ws ih =>
      intro vs τ h
      show wipe ((wipe τ ws).set w none) vs = wipe τ vs
      rw [wipe_set (h w List.mem_cons_self)]
      exact ih vs τ fun z hz => h z (List.mem_cons_of_mem _ hz)
  exact fun {vs} => key vs vs σ fun _ h => h

/-! ### comprehensions -/
def lcD (bnd : D → Rp → Option Rp) (tst : Rp → Option Bool) (elt : Rp → Option D) (ρ : Rp) : List D → Option (List D)
  | [] => some []
  | d :: ds => (bnd d ρ).bind fun ρ1 => (tst ρ1).bind fun b => if b = true then (elt ρ1).bind fun y => (lcD bnd tst elt ρ ds).bind fun ys => some (y :: ys) else lcD bnd tst elt ρ ds
def dLc (it : Rp → Option (List D)) (t : Tgt) (tst : Rp → Option Bool) (elt : Rp → Option D) (vs : List Nat) : Rp → Option D := fun ρ =>
  (it ρ).bind fun ds => if ds.length ≤ 100000 then (lcD t.bindR tst elt (wipeR ρ vs) ds).map .list else none
theorem lcD_len {bnd : D → Rp → Option Rp} {tst : Rp → Option Bool} {elt : Rp → Option D} {ρ : Rp} : ∀ {ds ys : List D}, lcD bnd tst elt ρ ds = some ys → ys.length ≤ ds.length
  | [], ys, h => by cases h; exact Nat.le_refl _
  | d :: ds, ys, h => by
    unfold lcD at h
    obtain ⟨ρ1, e1, h⟩ := Option.bind_eq_some_iff.mp h
    obtain ⟨b, e2, h⟩ := Option.bind_eq_some_iff.mp h
    cases b with
    | true =>
      obtain ⟨y, e3, h⟩ := Option.bind_eq_some_iff.mp (show (elt ρ1).bind _ = some ys from h)
      obtain ⟨zs, e4, h⟩ := Option.bind_eq_some_iff.mp h
      cases h
      have := lcD_len e4
      simp only [List.length_cons]
      omega
    | false =>
      have := lcD_len (show lcD bnd tst elt ρ ds = some ys from h)
      simp only [List.length_cons]
      omega
theorem bind_ok {K : PySem.W.Frag} {g : TG} {t : Tgt} (tk : TgtOk K g t) {G H : Hp} {σ : L2.St} {ρ ρ1 : Rp} {x : V} {d : D} (s : Same G H) (e : EnvP K G σ ρ) (hd : Dq K G x d) (hb : t.bindR d ρ = some ρ1) {Q : L2.St → Hp → Prop}
    (q : ∀ σ1, EnvP K G σ1 ρ1 → (∀ vs, (∀ i ∈ t.slots, i ∈ vs) → wipe σ1 vs = wipe σ vs) → Q σ1 H) : g x σ H Q := by
  cases t with
  | one i =>
    cases hb
    exact tk.one i rfl x σ H Q (q _ (e.set i hd) fun vs h => wipe_set (h i (by simp [Tgt.slots])))
  | many is =>
    unfold Tgt.bindR at hb
    cases d <;> first | (cases hb; done) | skip
    obtain ⟨hl, rfl⟩ := if_some hb
    cases hd with
    | tup hs ha => exact tk.many is rfl _ _ σ H Q (same_sqT s hs) (by rw [ha.length]; exact hl) (q _ (sets_env e ha) fun vs h => wipe_sets (σ := σ) fun i hi => h i hi)
/-- the reading of a comprehension -/
theorem tLc_D {K : PySem.W.Frag} {it : Rp → Option (List D)} {g : TG} {t : Tgt} {tst : Rp → Option Bool} {elt : Rp → Option D} {vs : List Nat} (tk : TgtOk K g t) (hv : ∀ i ∈ t.slots, i ∈ vs) :
    ∀ σ H Q, tD K (dLc it t tst elt vs) σ H Q → tLc (tDI K it) g (tDT K tst) (tD K elt) vs σ H Q := fun σ H Q ⟨G, ρ, d, at_, e, p⟩ => by
  unfold dLc at e
  obtain ⟨ds, e1, e⟩ := Option.bind_eq_some_iff.mp e
  split at e
  · rename_i hz
    obtain ⟨zs, e2, rfl⟩ := Option.map_eq_some_iff.mp e
    refine ⟨G, ρ, ds, at_, e1, fun J G1 H1 s1 hJ Dl hD => ?_⟩
    have ew : EnvP K G (wipe σ vs) (wipeR ρ vs) := at_.e.wipe vs
    -- W: the data that are left, those that are made
    refine ⟨fun i m H' => m = ds.length - i ∧ i ≤ ds.length ∧ ∃ (G' : Hp) (xs : List V) (as rs : List D), Same G1 G' ∧ Same G' H' ∧ Same H1 H' ∧ (∀ q o, H1 q = some o → G1 q = none → G' q = none) ∧ G' Dl = none ∧ H' Dl = some (.lst xs) ∧ DqAll K G' xs as ∧
        lcD t.bindR tst elt (wipeR ρ vs) (ds.drop i) = some rs ∧ as ++ rs = zs ∧ as.length ≤ i, ⟨ds.length, by simp, Nat.zero_le _, G1, [], [], zs, Same.refl _, s1.gh.trans (same_upd hD), same_upd hD, fun _ _ _ n => n, s1.gh.free hD, upd_same, .nil, e2, rfl, Nat.zero_le _⟩, ?_⟩
    rintro i m H' ⟨rfl, hi, G', xs, as, rs, a1, a2, a3, a4, a5, a6, a7, a8, a9, a10⟩
    by_cases hlt : i < ds.length
    · have ed : ds[i]? = some ds[i] := List.getElem?_eq_getElem hlt
      obtain ⟨go, yld⟩ := (hJ i G' H' a1 a2).1 _ ed
      refine .inr ⟨go, _, fun H'' w => ⟨ds.length - (i + 1), by omega, w⟩, fun x H2 y => ?_⟩
      obtain ⟨G2, s2, hx⟩ := yld x H2 y
      rw [List.drop_eq_getElem_cons hlt] at a8
      unfold lcD at a8
      obtain ⟨ρ1, b1, a8⟩ := Option.bind_eq_some_iff.mp a8
      obtain ⟨b, b2, a8⟩ := Option.bind_eq_some_iff.mp a8
      have e3 : EnvP K G2 (wipe σ vs) (wipeR ρ vs) := ew.to ((s1.g.trans a1).trans s2.g)
      refine bind_ok tk s2.gh e3 hx b1 fun σ1 en wp => ⟨by rw [wp vs hv, wipe_wipe], ?_⟩
      refine ⟨G2, ρ1, b, ⟨s2.gh, en⟩, b2, fun G3 H3 s3 => ?_⟩
      have s23 := s2.trans s3
      -- the new list stands as it was
      have l3 : H3 Dl = some (.lst xs) := s23.h _ _ a6
      have n3 : G3 Dl = none := s23.nw _ _ a6 a5
      cases b with
      | true =>
        obtain ⟨y', b3, a8⟩ := Option.bind_eq_some_iff.mp (show (elt ρ1).bind _ = some rs from a8)
        obtain ⟨ys, b4, a8⟩ := Option.bind_eq_some_iff.mp a8
        cases a8
        refine iteT ⟨G3, ρ1, y', ⟨s3.gh, en.to s3.g⟩, b3, fun w G4 H4 s4 hw => ?_⟩
        have s24 := s23.trans s4
        have hlen : xs.length < sizeLine := Nat.lt_of_le_of_lt (by rw [a7.length]; exact Nat.le_trans a10 (Nat.le_trans hi hz)) (by decide : (100000 : Nat) < sizeLine)
        refine ⟨xs, s4.h _ _ l3, hlen, rfl, hlt, G4, xs ++ [w], as ++ [y'], ys, a1.trans s24.g, fun q o hq => ?_, fun q o hq => ?_, fun q o h1 h2 => ?_, s4.nw _ _ l3 n3, upd_same, (a7.to s24.g).append (.cons hw .nil), b4, ?_, ?_⟩
        · have hne : q ≠ Dl := fun z => by
            subst z
            rw [s4.nw _ _ l3 n3] at hq
            cases hq
          rw [upd_ne hne]
          exact s4.gh _ _ hq
        · rw [upd_ne (ne_of_none hq hD)]
          exact s24.h _ _ (a3 _ _ hq)
        · exact s24.nw q o (a3 _ _ h1) (a4 q o h1 h2)
        · rw [List.append_assoc]
          exact a9
        · rw [List.length_append]
          simp only [List.length_cons, List.length_nil]
          omega
      | false =>
        refine iteF ⟨rfl, hlt, G3, xs, as, rs, a1.trans s23.g, s3.gh, a3.trans s23.h, fun q o h1 h2 => s23.nw q o (a3 _ _ h1) (a4 q o h1 h2), n3, l3, a7.to s23.g, a8, a9, by omega⟩
    · have ei : i = ds.length := by omega
      subst ei
      refine .inl ⟨(hJ _ G' H' a1 a2).2 rfl, ?_⟩
      rw [List.drop_length] at a8
      cases a8
      rw [List.append_nil] at a9
      subst a9
      refine p (.ref Dl) (upd G' Dl (.lst xs)) H' (s1.trans ⟨a1.trans (same_upd a5), a3, fun q o hq => ?_, fun q o h1 h2 => ?_⟩) (.lst upd_same (a7.to (same_upd a5)))
      · by_cases hq' : q = Dl
        · subst hq'
          rw [upd_same] at hq
          rw [a6]
          exact hq
        · rw [upd_ne hq'] at hq
          exact a2 _ _ hq
      · rw [upd_ne (ne_of_none h1 hD)]
        exact a4 q o h1 h2
  · cases e
def tTrue : Rp → Option Bool := fun _ => some true
section
variable {X : Cx} {elt tg iter : Expr} {ifs : List Expr} {scope : Scope} {own : List (Str × Nat)} {pos : Pos} {it : Rp → Option (List D)} {g : TG} {t : Tgt} {tst : Rp → Option Bool} {f : Rp → Option D}
theorem dts_nil : PTs X [] (tDT X.K tTrue) := (pts_nil (X := X)).imp fun σ H Q ⟨G, ρ, b, at_, e, p⟩ => by
  cases e
  exact p G H (.refl at_.s)
theorem dts_one {c : Expr} (h : DT X c tst) : PTs X [c] (tDT X.K tst) := pts_one h
theorem de_lc (hc : X.calm = true) (hN : X.N.Nodup) (hi : DI X tg iter it) (ok : BlkOk X.N X.env.scope scope own) (tk : TgtOk X.K g t) (hv : ∀ i ∈ t.slots, i ∈ own.map (·.2))
    (hg : ∀ (s : Shared) (H : Hp) (C : Addr) (cl : List (Str × Addr)) (fp : List Addr), PG (X.blk s H scope (compEnvC scope cl C X.env) fp) tg g) (ht : ∀ (s : Shared) (H : Hp) (C : Addr) (cl : List (Str × Addr)) (fp : List Addr), PTs (X.blk s H scope (compEnvC scope cl C X.env) fp) ifs (tDT X.K tst))
    (he : ∀ (s : Shared) (H : Hp) (C : Addr) (cl : List (Str × Addr)) (fp : List Addr), DE (X.blk s H scope (compEnvC scope cl C X.env) fp) elt f) (hs : ∀ x, foldedSetIterable iter X.env x = pure x := by intro _; rfl) :
    DE X (.ListComp elt [⟨tg, iter, ifs, 0⟩] scope pos) (dLc it t tst f (own.map (·.2))) := (pe_lc hc hN hi ok hg ht he hs).imp (tLc_D tk hv)
end
end DL

/-! DL5: statements on data; own lists; defs. -/
namespace DL
open PySem PySem.Spec PyProof.Rows L2

/-! ### slots: nothing known, data, a list of the def's own -/
inductive Sl | no | pu (d : D) | ow (ds : List D)
abbrev Rs := List Sl
def Sl.hid : Sl → Option D
  | .pu d => some d
  | _ => none
def Sl.opn : Sl → Option D
  | .pu d => some d
  | .ow ds => some (.list ds)
  | .no => none
def hid (ρ : Rs) : Rp := ρ.map Sl.hid
def opn (ρ : Rs) : Rp := ρ.map Sl.opn
inductive Out | nx (ρ : Rs) | rt (d : D) | bk (ρ : Rs) | ct (ρ : Rs)
structure EnvS (K : PySem.W.Frag) (G H : Hp) (σ : L2.St) (ρ : Rs) : Prop where
  len : σ.length = ρ.length
  pu : ∀ (i : Nat) (d : D), ρ[i]? = some (.pu d) → ∃ v, σ[i]? = some (some v) ∧ Dq K G v d
  ow : ∀ (i : Nat) (ds : List D), ρ[i]? = some (.ow ds) → ∃ p xs, σ[i]? = some (some (.ref p)) ∧ H p = some (.lst xs) ∧ G p = none ∧ DqAll K G xs ds
  ap : ∀ (i j : Nat) (ds es : List D) (p : Addr), ρ[i]? = some (.ow ds) → ρ[j]? = some (.ow es) → σ[i]? = some (some (.ref p)) → σ[j]? = some (some (.ref p)) → i = j
/-- the state of a def that began at (G0, H0) -/
structure Vw (K : PySem.W.Frag) (G0 H0 G H : Hp) (σ : L2.St) (ρ : Rs) : Prop where
  st : Stp G0 H0 G H
  env : EnvS K G H σ ρ
  fr : ∀ (i : Nat) (ds : List D) (p : Addr), ρ[i]? = some (.ow ds) → σ[i]? = some (some (.ref p)) → H0 p = none
section
variable {K : PySem.W.Frag} {G0 H0 G H G' H' : Hp} {σ : L2.St} {ρ : Rs}
theorem hid_get {i : Nat} {d : D} (e : (hid ρ)[i]? = some (some d)) : ρ[i]? = some (.pu d) := by
  unfold hid at e
  rw [List.getElem?_map] at e
  obtain ⟨s, e1, e2⟩ := Option.map_eq_some_iff.mp e
  cases s <;> first | (cases e2; done) | skip
  cases e2
  exact e1
theorem opn_get {i : Nat} {d : D} (e : (opn ρ)[i]? = some (some d)) : ρ[i]? = some (.pu d) ∨ ∃ ds, ρ[i]? = some (.ow ds) ∧ d = .list ds := by
  unfold opn at e
  rw [List.getElem?_map] at e
  obtain ⟨s, e1, e2⟩ := Option.map_eq_some_iff.mp e
  cases s <;> first | (cases e2; done) | skip
  · cases e2
    exact .inl e1
  · cases e2
    exact .inr ⟨_, e1, rfl⟩
theorem Vw.at_ (v : Vw K G0 H0 G H σ ρ) : At K G H σ (hid ρ) := ⟨v.st.gh, by unfold hid; rw [List.length_map]; exact v.env.len, fun i d e => v.env.pu i d (hid_get e)⟩
/-- the view with the own lists -/
theorem Vw.opn (v : Vw K G0 H0 G H σ ρ) : ∃ G', At K G' H σ (opn ρ) ∧ Stp G0 H0 G' H := by
  classical
  let own : Addr → Prop := fun a => ∃ (i : Nat) (ds : List D), ρ[i]? = some (.ow ds) ∧ σ[i]? = some (some (.ref a))
  let G' : Hp := fun a => if own a then H a else G a
  have s1 : Same G G' := fun a o e => by
    show (if own a then H a else G a) = some o
    by_cases h : own a
    · rw [if_pos h]; exact v.st.gh _ _ e
    · rw [if_neg h]; exact e
  have s2 : Same G' H := fun a o e => by
    have e' : (if own a then H a else G a) = some o := e
    by_cases h : own a
    · rw [if_pos h] at e'; exact e'
    · rw [if_neg h] at e'; exact v.st.gh _ _ e'
  refine ⟨G', ⟨s2, by unfold DL.opn; rw [List.length_map]; exact v.env.len, fun i d e => ?_⟩, v.st.g.trans s1, v.st.h, s2, fun p o h1 h2 => ?_⟩
  · rcases opn_get e with e5 | ⟨ds, e5, rfl⟩
    · obtain ⟨w, h1, h2⟩ := v.env.pu i d e5
      exact ⟨w, h1, h2.to s1⟩
    · obtain ⟨p, xs, h1, h2, h3, h4⟩ := v.env.ow i ds e5
      refine ⟨.ref p, h1, .lst ?_ (h4.to s1)⟩
      show (if own p then H p else G p) = some (.lst xs)
      rw [if_pos ⟨i, ds, e5, h1⟩]
      exact h2
  · show (if own p then H p else G p) = none
    by_cases h : own p
    · obtain ⟨i, ds, e1, e2⟩ := h
      have := v.fr i ds p e1 e2
      rw [h1] at this
      cases this
    · rw [if_neg h]
      exact v.st.nw p o h1 h2
theorem EnvS.grow (e : EnvS K G H σ ρ) (s : Same H H') : EnvS K G H' σ ρ := ⟨e.len, e.pu, fun i ds h => let ⟨p, xs, a, b, c, d⟩ := e.ow i ds h; ⟨p, xs, a, s _ _ b, c, d⟩, e.ap⟩
theorem Vw.grow (v : Vw K G0 H0 G H σ ρ) (s : Same H H') : Vw K G0 H0 G H' σ ρ := ⟨v.st.trans (.grow v.st.gh s), v.env.grow s, v.fr⟩
theorem Vw.stp (v : Vw K G0 H0 G H σ ρ) (s : Stp G H G' H') : Vw K G0 H0 G' H' σ ρ := ⟨v.st.trans s, ⟨v.env.len, fun i d h => let ⟨w, a, b⟩ := v.env.pu i d h; ⟨w, a, b.to s.g⟩, fun i ds h => let ⟨p, xs, a, b, c, d⟩ := v.env.ow i ds h; ⟨p, xs, a, s.h _ _ b, s.nw _ _ b c, d.to s.g⟩, v.env.ap⟩, v.fr⟩
/-- the base may rise -/
theorem Stp.base {G1 H1 : Hp} (s : Stp G0 H0 G1 H1) (t : Stp G1 H0 G H) : Stp G0 H0 G H := ⟨s.g.trans t.g, t.h, t.gh, fun p o h n => t.nw p o h (s.nw p o h n)⟩
theorem Vw.base {G1 H1 : Hp} (s : Stp G0 H0 G1 H1) (v : Vw K G1 H0 G H σ ρ) : Vw K G0 H0 G H σ ρ := ⟨s.base v.st, v.env, v.fr⟩
theorem Vw.rise (v : Vw K G0 H0 G H σ ρ) : Vw K G H0 G H σ ρ := ⟨⟨Same.refl _, v.st.h, v.st.gh, fun _ _ _ n => n⟩, v.env, v.fr⟩
/-- what a slot is to hold -/
def SlOk (K : PySem.W.Frag) (G H : Hp) (v : V) : Sl → Prop
  | .pu d => Dq K G v d
  | .ow ds => ∃ p xs, v = .ref p ∧ H p = some (.lst xs) ∧ G p = none ∧ DqAll K G xs ds
  | .no => True
theorem Vw.set {w : V} {s : Sl} (v : Vw K G0 H0 G H σ ρ) (i : Nat) (h : SlOk K G H w s) (hf : ∀ ds p, s = .ow ds → w = .ref p → H0 p = none ∧ ∀ j es, j ≠ i → ρ[j]? = some (.ow es) → σ[j]? ≠ some (some (.ref p))) : Vw K G0 H0 G H (σ.set i (some w)) (ρ.set i s) := by
  have hl := v.env.len
  have cases_ : ∀ (j : Nat) (t : Sl), (ρ.set i s)[j]? = some t → (j = i ∧ t = s ∧ (σ.set i (some w))[j]? = some (some w)) ∨ (j ≠ i ∧ ρ[j]? = some t ∧ (σ.set i (some w))[j]? = σ[j]?) := fun j t e => by
    by_cases hj : i = j
    · subst hj
      by_cases hlt : i < ρ.length
      · rw [List.getElem?_set_self hlt] at e
        cases e
        exact .inl ⟨rfl, rfl, List.getElem?_set_self (by rw [hl]; exact hlt)⟩
      · rw [List.getElem?_eq_none (by rw [List.length_set]; omega)] at e
        cases e
    · rw [List.getElem?_set_ne hj] at e
      exact .inr ⟨fun z => hj z.symm, e, List.getElem?_set_ne hj⟩
  refine ⟨v.st, ⟨by rw [List.length_set, List.length_set]; exact hl, fun j d e => ?_, fun j ds e => ?_, fun j k ds es p e1 e2 e3 e4 => ?_⟩, fun j ds p e1 e2 => ?_⟩
  · rcases cases_ j _ e with ⟨rfl, rfl, e'⟩ | ⟨hj, e1, e'⟩
    · exact ⟨w, e', h⟩
    · rw [e']; exact v.env.pu j d e1
  · rcases cases_ j _ e with ⟨rfl, rfl, e'⟩ | ⟨hj, e1, e'⟩
    · obtain ⟨p, xs, rfl, b, c, d⟩ := h
      exact ⟨p, xs, e', b, c, d⟩
    · rw [e']; exact v.env.ow j ds e1
  · rcases cases_ j _ e1 with ⟨rfl, r1, f1⟩ | ⟨hj, r1, f1⟩
    · rcases cases_ k _ e2 with ⟨rfl, r2, f2⟩ | ⟨hk, r2, f2⟩
      · rfl
      · rw [f1] at e3
        cases e3
        rw [f2] at e4
        exact absurd e4 ((hf ds p r1.symm rfl).2 k es hk r2)
    · rcases cases_ k _ e2 with ⟨rfl, r2, f2⟩ | ⟨hk, r2, f2⟩
      · rw [f2] at e4
        cases e4
        rw [f1] at e3
        exact absurd e3 ((hf es p r2.symm rfl).2 j ds hj r1)
      · rw [f1] at e3
        rw [f2] at e4
        exact v.env.ap j k ds es p r1 r2 e3 e4
  · rcases cases_ j _ e1 with ⟨rfl, r1, f1⟩ | ⟨hj, r1, f1⟩
    · rw [f1] at e2
      cases e2
      exact (hf ds p r1.symm rfl).1
    · rw [f1] at e2
      exact v.fr j ds p r1 e2
theorem Vw.setP {w : V} {d : D} (v : Vw K G0 H0 G H σ ρ) (i : Nat) (h : Dq K G w d) : Vw K G0 H0 G H (σ.set i (some w)) (ρ.set i (.pu d)) := v.set i (s := .pu d) h fun ds p e => by cases e
/-- a new own list -/
theorem Vw.setO {p : Addr} {xs : List V} {ds : List D} (v : Vw K G0 H0 G H σ ρ) (i : Nat) (n : H p = none) (hd : DqAll K G xs ds) : Vw K G0 H0 G (upd H p (.lst xs)) (σ.set i (some (.ref p))) (ρ.set i (.ow ds)) := by
  have v' := v.grow (same_upd (o := .lst xs) n)
  refine v'.set i (s := .ow ds) ⟨p, xs, rfl, upd_same, v.st.gh.free n, hd⟩ fun es q e1 e2 => ?_
  cases e2
  refine ⟨v.st.h.free n, fun j es hj e3 e4 => ?_⟩
  obtain ⟨q, ys, h1, h2, _⟩ := v.env.ow j es e3
  rw [e4] at h1
  cases h1
  rw [n] at h2
  cases h2
/-- an own list grows by one -/
theorem Vw.app {p : Addr} {xs : List V} {ds : List D} {w : V} {d : D} {i : Nat} (v : Vw K G0 H0 G H σ ρ) (e : ρ[i]? = some (.ow ds)) (h1 : σ[i]? = some (some (.ref p))) (h2 : H p = some (.lst xs)) (hg : G p = none) (hd : DqAll K G xs ds) (hw : Dq K G w d) :
    Vw K G0 H0 G (upd H p (.lst (xs ++ [w]))) σ (ρ.set i (.ow (ds ++ [d]))) := by
  have hi : i < ρ.length := (List.getElem?_eq_some_iff.mp e).1
  have n0 := v.fr i ds p e h1
  have s0 : Same H0 (upd H p (.lst (xs ++ [w]))) := fun q o hq => by
    rw [upd_ne (ne_of_none hq n0)]
    exact v.st.h _ _ hq
  have sg : Same G (upd H p (.lst (xs ++ [w]))) := fun q o hq => by
    rw [upd_ne (ne_of_none hq hg)]
    exact v.st.gh _ _ hq
  have back : ∀ (j : Nat) (es : List D), (ρ.set i (.ow (ds ++ [d])))[j]? = some (.ow es) → (j = i ∧ es = ds ++ [d]) ∨ (j ≠ i ∧ ρ[j]? = some (.ow es)) := fun j es ej => by
    by_cases hj : i = j
    · subst hj
      rw [List.getElem?_set_self hi] at ej
      cases ej
      exact .inl ⟨rfl, rfl⟩
    · rw [List.getElem?_set_ne hj] at ej
      exact .inr ⟨fun z => hj z.symm, ej⟩
  have old : ∀ (j : Nat) (es : List D), (ρ.set i (.ow (ds ++ [d])))[j]? = some (.ow es) → ∃ es', ρ[j]? = some (.ow es') := fun j es ej => by
    rcases back j es ej with ⟨rfl, _⟩ | ⟨_, z⟩
    · exact ⟨_, e⟩
    · exact ⟨_, z⟩
  refine ⟨⟨v.st.g, s0, sg, v.st.nw⟩, ⟨by rw [List.length_set]; exact v.env.len, fun j d' ej => ?_, fun j es ej => ?_, fun j k es fs q e1 e2 e3 e4 => ?_⟩, fun j es q e1 e2 => ?_⟩
  · by_cases hj : i = j
    · subst hj
      rw [List.getElem?_set_self hi] at ej
      cases ej
    · rw [List.getElem?_set_ne hj] at ej
      exact v.env.pu j d' ej
  · rcases back j es ej with ⟨rfl, rfl⟩ | ⟨hj, z⟩
    · exact ⟨p, xs ++ [w], h1, upd_same, hg, hd.append (.cons hw .nil)⟩
    · obtain ⟨q, ys, a, b, c, f⟩ := v.env.ow j es z
      refine ⟨q, ys, a, ?_, c, f⟩
      rw [upd_ne fun zz => hj (v.env.ap j i es ds q z e a (by rw [zz]; exact h1))]
      exact b
  · obtain ⟨es', z1⟩ := old j es e1
    obtain ⟨fs', z2⟩ := old k fs e2
    exact v.env.ap j k es' fs' q z1 z2 e3 e4
  · obtain ⟨es', z1⟩ := old j es e1
    exact v.fr j es' q z1 e2
end

/-! ### readings of statements -/
def Fin_ (K : PySem.W.Frag) (G0 H0 : Hp) (E : Ends) : Out → Prop
  | .nx ρ => ∀ σ G H, Vw K G0 H0 G H σ ρ → E.nx σ H
  | .bk ρ => ∀ σ G H, Vw K G0 H0 G H σ ρ → E.bk σ H
  | .ct ρ => ∀ σ G H, Vw K G0 H0 G H σ ρ → E.ct σ H
  | .rt d => ∀ v G H, Stp G0 H0 G H → Dq K G v d → E.rt v H
theorem Fin_.rise {K : PySem.W.Frag} {G0 H0 G1 H1 : Hp} {E : Ends} {o : Out} (s : Stp G0 H0 G1 H1) (q : Fin_ K G0 H0 E o) : Fin_ K G1 H0 E o := by
  cases o with
  | nx ρ => exact fun σ G H v => q σ G H (v.base s)
  | bk ρ => exact fun σ G H v => q σ G H (v.base s)
  | ct ρ => exact fun σ G H v => q σ G H (v.base s)
  | rt d => exact fun w G H t h => q w G H (s.base t) h
def tS (K : PySem.W.Frag) (g : Rs → Option Out) : TS := fun E σ H => ∃ G0 H0 G ρ o, Vw K G0 H0 G H σ ρ ∧ g ρ = some o ∧ Fin_ K G0 H0 E o
theorem _root_.L2.PS.imp {X : Cx} {st : Stmt} {t t' : TS} (h : PS X st t) (hi : ∀ E σ H, t' E σ H → t E σ H) : PS X st t' := ⟨fun pins s σ H E I w => h.run pins s σ H E I (hi E σ H w)⟩
theorem _root_.L2.PSs.imp {X : Cx} {st : List Stmt} {t t' : TS} (h : PSs X st t) (hi : ∀ E σ H, t' E σ H → t E σ H) : PSs X st t' := ⟨fun pins s σ H E I w => h.run pins s σ H E I (hi E σ H w)⟩
abbrev DS (X : Cx) (st : Stmt) (g : Rs → Option Out) : Prop := PS X st (tS X.K g)
abbrev DSs (X : Cx) (st : List Stmt) (g : Rs → Option Out) : Prop := PSs X st (tS X.K g)
def sNext : Rs → Option Out := fun ρ => some (.nx ρ)
def sNever : Rs → Option Out := fun _ => none
def sThen (o : Option Out) (g : Rs → Option Out) : Option Out := match o with
  | some (.nx ρ) => g ρ
  | o => o
def sSeq (f g : Rs → Option Out) : Rs → Option Out := fun ρ => sThen (f ρ) g
section
variable {X : Cx} {st : Stmt} {sts : List Stmt} {f g h : Rs → Option Out} {e c : Expr} {fe : Rp → Option D} {pos : Pos}
theorem dss_nil : DSs X [] sNext := (pss_nil (X := X)).imp fun E σ H ⟨G0, H0, G, ρ, o, v, e, q⟩ => by
  cases e
  exact q σ G H v
theorem dss_cons (h1 : DS X st f) (h2 : DSs X sts g) : DSs X (st :: sts) (sSeq f g) := (pss_cons h1 h2).imp fun E σ H ⟨G0, H0, G, ρ, o, v, e, q⟩ => by
  unfold sSeq sThen at e
  split at e
  · rename_i ρ1 e1
    exact ⟨G0, H0, G, ρ, .nx ρ1, v, e1, fun σ' G' H' v' => ⟨G0, H0, G', ρ1, o, v', e, q⟩⟩
  · rename_i hn
    refine ⟨G0, H0, G, ρ, o, v, e, ?_⟩
    cases o with
    | nx ρ1 => exact absurd e (hn ρ1)
    | rt d => exact q
    | bk ρ1 => exact q
    | ct ρ1 => exact q
theorem dss_one (h1 : DS X st f) : DSs X [st] f := pss_one h1
theorem ds_never : DS X st sNever := (ps_never (X := X)).imp fun E σ H ⟨G0, H0, G, ρ, o, v, e, q⟩ => by cases e
theorem ds_break : DS X (.Break pos) (fun ρ => some (.bk ρ)) := (ps_break (X := X)).imp fun E σ H ⟨G0, H0, G, ρ, o, v, e, q⟩ => by
  cases e
  exact q σ G H v
theorem ds_continue : DS X (.Continue pos) (fun ρ => some (.ct ρ)) := (ps_continue (X := X)).imp fun E σ H ⟨G0, H0, G, ρ, o, v, e, q⟩ => by
  cases e
  exact q σ G H v
/-! assignments -/
def sSet (i : Nat) (f : Rp → Option D) : Rs → Option Out := fun ρ => (f (hid ρ)).map fun d => .nx (ρ.set i (.pu d))
theorem tAsg_D {K : PySem.W.Frag} {i : Nat} {t : TE} (h : ∀ σ H Q, tD K fe σ H Q → t σ H Q) : ∀ E σ H, tS K (sSet i fe) E σ H → tAsg t (gName i) E σ H := fun E σ H ⟨G0, H0, G, ρ, o, v, e, q⟩ => by
  unfold sSet at e
  obtain ⟨d, e1, rfl⟩ := Option.map_eq_some_iff.mp e
  exact h σ H _ ⟨G, _, d, v.at_, e1, fun w G1 H1 s1 h1 => q _ G1 H1 ((v.stp s1).setP i h1)⟩
theorem ds_set {i : Nat} {x : Str} {pos' : Pos} (hN : X.N.Nodup) (hi : X.N[i]? = some x) (hx : Loc X.env.scope x) (he : DE X e fe) (hs : swapsWith e (some (.Name x pos')) pos.line X.env = pure false := by rfl) (hf : X.fn x = true ∨ X.env.scope.names.lookup x = some .local := by first | exact .inl rfl | exact .inr rfl | assumption) :
    DS X (.Assign [.Name x pos'] e pos) (sSet i fe) := (ps_set hN hi hx he hs hf).imp (tAsg_D fun _ _ _ z => z)
theorem ds_setLc {i : Nat} {y : Str} {py : Pos} {elt tg iter : Expr} {ifs : List Expr} {scope : Scope} {own : List (Str × Nat)} {spos : Pos} {it : Rp → Option (List D)} {gt : TG} {t : Tgt} {tst : Rp → Option Bool} {fx : Rp → Option D} (hc : X.calm = true) (hN : X.N.Nodup) (hy : X.N[i]? = some y) (hyl : X.env.scope.names.lookup y = some .local)
    (hsw : swapsWith (.ListComp elt [⟨tg, iter, ifs, 0⟩] scope pos) (some (.Name y py)) spos.line X.env = pure true) (hi : DI X tg iter it) (ok : BlkOk X.N X.env.scope scope own) (tk : TgtOk X.K gt t) (hv : ∀ i ∈ t.slots, i ∈ own.map (·.2))
    (hg : ∀ (s : Shared) (H : Hp) (C : Addr) (cl : List (Str × Addr)) (fp : List Addr), PG (X.blk s H scope (compEnvC scope cl C X.env) fp) tg gt) (ht : ∀ (s : Shared) (H : Hp) (C : Addr) (cl : List (Str × Addr)) (fp : List Addr), PTs (X.blk s H scope (compEnvC scope cl C X.env) fp) ifs (tDT X.K tst))
    (he : ∀ (s : Shared) (H : Hp) (C : Addr) (cl : List (Str × Addr)) (fp : List Addr), DE (X.blk s H scope (compEnvC scope cl C X.env) fp) elt fx) (hs : ∀ x, foldedSetIterable iter X.env x = pure x := by intro _; rfl) :
    DS X (.Assign [.Name y py] (.ListComp elt [⟨tg, iter, ifs, 0⟩] scope pos) spos) (sSet i (dLc it t tst fx (own.map (·.2)))) := (ps_setLc hc hN hy hyl hsw hi ok hg ht he hs).imp (tAsg_D (tLc_D tk hv))
def setsS : List Nat → List Sl → Rs → Rs
  | i :: is, s :: ss, ρ => setsS is ss (ρ.set i s)
  | _, _, ρ => ρ
def tupItems : D → Option (List D)
  | .tuple ds => some ds
  | _ => none
theorem tupItems_some {x : D} {ds : List D} (e : tupItems x = some ds) : x = .tuple ds := by
  cases x <;> first | (cases e; rfl) | cases e
def sUnp (is : List Nat) (f : Rp → Option D) : Rs → Option Out := fun ρ => (f (hid ρ)).bind fun d => (tupItems d).bind fun ds => if ds.length = is.length then some (.nx (setsS is (ds.map .pu) ρ)) else none
theorem Vw.setsP {K : PySem.W.Frag} {G0 H0 G H : Hp} : ∀ {is : List Nat} {xs : List V} {ds : List D} {σ : L2.St} {ρ : Rs}, Vw K G0 H0 G H σ ρ → DqAll K G xs ds → Vw K G0 H0 G H (setsV is xs σ) (setsS is (ds.map .pu) ρ)
  | [], _, _, _, _, v, _ => by unfold setsV setsS; exact v
  | i :: is, _, _, _, _, v, .nil => by rw [List.map_nil]; unfold setsV setsS; exact v
  | i :: is, _, _, _, _, v, .cons h1 h2 => by rw [List.map_cons]; unfold setsV setsS; exact Vw.setsP (v.setP i h1) h2
theorem ds_unp {tg : Expr} {is : List Nat} (he : DE X e fe) (hg : PG X tg (gTup X.K is.length (gNames is))) (hs : swapsWithSole [tg] e pos.line X.env = pure false := by rfl) (hw : swappedStores [tg] e X.env = pure none := by rfl)
    (h1 : (assignEach [tg] X.env).map (·.2) = [assign tg X.env] := by rfl) : DS X (.Assign [tg] e pos) (sUnp is fe) := (ps_asg he hg hs hw h1).imp fun E σ H ⟨G0, H0, G, ρ, o, v, e, q⟩ => by
  unfold sUnp at e
  obtain ⟨d, e1, e⟩ := Option.bind_eq_some_iff.mp e
  obtain ⟨ds, e2, e⟩ := Option.bind_eq_some_iff.mp e
  obtain ⟨hl, rfl⟩ := if_some e
  have e3 := tupItems_some e2
  subst e3
  refine ⟨G, _, _, v.at_, e1, fun w G1 H1 s1 h1 => ?_⟩
  cases h1 with
  | tup k1 k2 => exact ⟨_, _, rfl, same_sqT s1.gh k1, by rw [k2.length]; exact hl, gNames_ok (by rw [k2.length]; exact hl) (q _ G1 H1 ((v.stp s1).setsP k2))⟩
/-! a list display that the def keeps as its own -/
def sSetO (i : Nat) (f : Rp → Option (List D)) : Rs → Option Out := fun ρ => (f (hid ρ)).bind fun ds => if ds.length ≤ 1000 then some (.nx (ρ.set i (.ow ds))) else none
theorem ds_setO {i : Nat} {x : Str} {pos' p2 : Pos} {es : List Expr} {fs : Rp → Option (List D)} (hN : X.N.Nodup) (hi : X.N[i]? = some x) (hx : Loc X.env.scope x) (he : DA X es fs) (hs : swapsWith (.List es p2) (some (.Name x pos')) pos.line X.env = pure false := by rfl) (hf : X.fn x = true ∨ X.env.scope.names.lookup x = some .local := by first | exact .inl rfl | exact .inr rfl | assumption) :
    DS X (.Assign [.Name x pos'] (.List es p2) pos) (sSetO i fs) := (ps_set hN hi hx (pe_lst he) hs hf).imp fun E σ H ⟨G0, H0, G, ρ, o, v, e, q⟩ => by
  unfold sSetO at e
  obtain ⟨ds, e1, e⟩ := Option.bind_eq_some_iff.mp e
  obtain ⟨hl, rfl⟩ := if_some e
  exact ⟨G, _, ds, v.at_, e1, fun vs G1 H1 s1 h1 => ⟨dpos (by rw [h1.length]; omega), fun p hp => q _ G1 _ ((v.stp s1).setO i hp h1)⟩⟩
/-! several at once -/
structure SlsOk (K : PySem.W.Frag) (G H1 H : Hp) (vs : List V) (ss : List Sl) : Prop where
  len : vs.length = ss.length
  ok : ∀ (i : Nat) (s : Sl), ss[i]? = some s → ∃ v, vs[i]? = some v ∧ SlOk K G H v s
  fr : ∀ (i : Nat) (ds : List D) (p : Addr), ss[i]? = some (.ow ds) → vs[i]? = some (.ref p) → H1 p = none
  ap : ∀ (i j : Nat) (ds es : List D) (p : Addr), ss[i]? = some (.ow ds) → ss[j]? = some (.ow es) → vs[i]? = some (.ref p) → vs[j]? = some (.ref p) → i = j
theorem SlOk.stp {K : PySem.W.Frag} {G H G' H' : Hp} {v : V} {s : Sl} (h : SlOk K G H v s) (t : Stp G H G' H') : SlOk K G' H' v s := by
  cases s with
  | no => trivial
  | pu d => exact Dq.to h t.g
  | ow ds =>
    obtain ⟨p, xs, a, b, c, d⟩ := h
    exact ⟨p, xs, a, t.h _ _ b, t.nw _ _ b c, d.to t.g⟩
def tDK (K : PySem.W.Frag) (f : Rp → Option (List Sl)) : TA := fun σ H Q => ∃ G ρ ss, At K G H σ ρ ∧ f ρ = some ss ∧ ∀ vs G' H', Stp G H G' H' → SlsOk K G' H H' vs ss → Q vs H'
abbrev DK (X : Cx) (es : List Expr) (f : Rp → Option (List Sl)) : Prop := PA X es (tDK X.K f)
def kNil : Rp → Option (List Sl) := fun _ => some []
def kP (f : Rp → Option D) (g : Rp → Option (List Sl)) : Rp → Option (List Sl) := fun ρ => (f ρ).bind fun d => (g ρ).bind fun ss => some (.pu d :: ss)
def kO (f : Rp → Option (List D)) (g : Rp → Option (List Sl)) : Rp → Option (List Sl) := fun ρ => (f ρ).bind fun ds => if ds.length ≤ 1000 then (g ρ).bind fun ss => some (.ow ds :: ss) else none
theorem dk_nil : DK X [] kNil := (pa_nil (X := X)).imp fun σ H Q ⟨G, ρ, ss, at_, e, q⟩ => by
  cases e
  exact q [] G H (.refl at_.s) ⟨rfl, fun _ _ e => by simp at e, fun _ _ _ e => by simp at e, fun _ _ _ _ _ e => by simp at e⟩
theorem SlsOk.cons {K : PySem.W.Frag} {G1 H1 G2 H2 H : Hp} {v : V} {s : Sl} {vs : List V} {ss : List Sl} (st : Stp G1 H1 G2 H2) (hv : SlOk K G1 H1 v s) (hf : ∀ ds p, s = .ow ds → v = .ref p → H p = none) (hh : Same H H1) (r : SlsOk K G2 H1 H2 vs ss) : SlsOk K G2 H H2 (v :: vs) (s :: ss) := by
  refine ⟨by rw [List.length_cons, List.length_cons, r.len], fun i t e => ?_, fun i ds p e1 e2 => ?_, fun i j ds es p e1 e2 e3 e4 => ?_⟩
  · cases i with
    | zero => cases e; exact ⟨v, rfl, hv.stp st⟩
    | succ i => exact r.ok i t (by simpa using e)
  · cases i with
    | zero =>
      cases e1
      cases e2
      exact hf ds p rfl rfl
    | succ i => exact hh.free (r.fr i ds p (by simpa using e1) (by simpa using e2))
  · cases i with
    | zero =>
      cases j with
      | zero => rfl
      | succ j =>
        cases e1
        cases e3
        obtain ⟨q, xs, z, b, _⟩ := hv
        cases z
        have := r.fr j es _ (by simpa using e2) (by simpa using e4)
        rw [b] at this
        cases this
    | succ i =>
      cases j with
      | zero =>
        cases e2
        cases e4
        obtain ⟨q, xs, z, b, _⟩ := hv
        cases z
        have := r.fr i ds _ (by simpa using e1) (by simpa using e3)
        rw [b] at this
        cases this
      | succ j => rw [r.ap i j ds es p (by simpa using e1) (by simpa using e2) (by simpa using e3) (by simpa using e4)]
theorem dk_P {es : List Expr} {g : Rp → Option (List Sl)} (ha : DE X e fe) (hr : DK X es g) (hs : starEach (e :: es) X.env = (false, eval e X.env) :: starEach es X.env := by rfl) : DK X (e :: es) (kP fe g) := (pa_cons ha hr hs).imp fun σ H Q ⟨G, ρ, ss, at_, e, qq⟩ => by
  unfold kP at e
  obtain ⟨d, e1, e⟩ := Option.bind_eq_some_iff.mp e
  obtain ⟨ts, e2, e⟩ := Option.bind_eq_some_iff.mp e
  have e9 := Option.some.inj e
  subst e9
  refine ⟨G, ρ, d, at_, e1, fun v G1 H1 s1 h1 => ?_⟩
  refine ⟨G1, ρ, ts, at_.stp s1, e2, fun vs G2 H2 s2 h2 => ?_⟩
  exact qq _ G2 H2 (s1.trans s2) (.cons s2 (s := .pu d) h1 (fun _ _ z => by cases z) s1.h h2)
theorem dk_O {es ls : List Expr} {p2 : Pos} {fl : Rp → Option (List D)} {g : Rp → Option (List Sl)} (ha : DA X ls fl) (hr : DK X es g) (hs : starEach (.List ls p2 :: es) X.env = (false, eval (.List ls p2) X.env) :: starEach es X.env := by rfl) : DK X (.List ls p2 :: es) (kO fl g) := (pa_cons (pe_lst ha) hr hs).imp fun σ H Q ⟨G, ρ, ss, at_, e, qq⟩ => by
  unfold kO at e
  obtain ⟨ds, e1, e⟩ := Option.bind_eq_some_iff.mp e
  split at e
  · rename_i hz
    obtain ⟨ts, e2, e⟩ := Option.bind_eq_some_iff.mp e
    have e9 := Option.some.inj e
    subst e9
    refine ⟨G, ρ, ds, at_, e1, fun us G1 H1 s1 h1 => ?_⟩
    refine ⟨dpos (by rw [h1.length]; omega), fun p hp => ?_⟩
    have s1' : Stp G1 H1 G1 (upd H1 p (.lst us)) := .newH s1.gh hp
    refine ⟨G1, ρ, ts, (at_.stp s1).stp s1', e2, fun vs G2 H2 s2 h2 => ?_⟩
    refine qq _ G2 H2 ((s1.trans s1').trans s2) (.cons s2 (s := .ow ds) ⟨p, us, rfl, upd_same, s1.gh.free hp, h1⟩ (fun _ _ _ z => ?_) (s1.trans s1').h h2)
    cases z
    exact s1.h.free hp
  · cases e
theorem Vw.setsK {K : PySem.W.Frag} {G0 H0 G H H1 : Hp} : ∀ {is : List Nat} {vs : List V} {ss : List Sl} {σ : L2.St} {ρ : Rs}, Vw K G0 H0 G H σ ρ → is.Nodup → SlsOk K G H1 H vs ss → Same H0 H1 →
    (∀ (j : Nat) (es : List D) (p : Addr) (i : Nat) (ds : List D), ρ[j]? = some (.ow es) → σ[j]? = some (some (.ref p)) → ss[i]? = some (.ow ds) → vs[i]? ≠ some (.ref p)) → Vw K G0 H0 G H (setsV is vs σ) (setsS is ss ρ)
  | [], _, _, _, _, v, _, _, _, _ => by unfold setsV setsS; exact v
  | i :: is, [], ss, σ, ρ, v, _, r, _, _ => by
    have : ss = [] := List.length_eq_zero_iff.mp (by rw [← r.len]; rfl)
    subst this
    unfold setsV setsS
    exact v
  | i :: is, x :: vs, [], σ, ρ, v, _, r, _, _ => by have := r.len; simp at this
  | i :: is, x :: vs, s :: ss, σ, ρ, v, nd, r, h0, hd => by
    unfold setsV setsS
    have hs := r.ok 0 s rfl
    obtain ⟨w, hw, ok⟩ := hs
    cases hw
    have nd' := List.nodup_cons.mp nd
    have v1 : Vw K G0 H0 G H (σ.set i (some x)) (ρ.set i s) := v.set i ok fun ds p e1 e2 => by
      subst e1 e2
      exact ⟨h0.free (r.fr 0 ds p rfl rfl), fun j es hj e3 e4 => hd j es p 0 ds e3 e4 rfl rfl⟩
    refine Vw.setsK v1 nd'.2 ⟨by have := r.len; simpa using this, fun k t e => r.ok (k + 1) t (by simpa using e), fun k ds p e1 e2 => r.fr (k + 1) ds p (by simpa using e1) (by simpa using e2), fun k l ds es p e1 e2 e3 e4 => ?_⟩ h0 fun j es p k ds e1 e2 e3 e4 => ?_
    · have := r.ap (k + 1) (l + 1) ds es p (by simpa using e1) (by simpa using e2) (by simpa using e3) (by simpa using e4)
      omega
    · by_cases hj : i = j
      · subst hj
        have hlt : i < ρ.length := by
          have := (List.getElem?_eq_some_iff.mp e1).1
          rw [List.length_set] at this
          exact this
        rw [List.getElem?_set_self hlt] at e1
        rw [List.getElem?_set_self (by rw [v.env.len]; exact hlt)] at e2
        cases e1
        cases e2
        have := r.ap 0 (k + 1) es ds p rfl (by simpa using e3) rfl (by simpa using e4)
        omega
      · rw [List.getElem?_set_ne hj] at e1 e2
        exact hd j es p (k + 1) ds e1 e2 (by simpa using e3) (by simpa using e4)
def sPar (is : List Nat) (f : Rp → Option (List Sl)) : Rs → Option Out := fun ρ => (f (hid ρ)).bind fun ss => if ss.length = is.length then some (.nx (setsS is ss ρ)) else none
theorem par_end {K : PySem.W.Frag} {G0 H0 G H G1 H1 : Hp} {σ : L2.St} {ρ : Rs} {vs : List V} {ss : List Sl} {is : List Nat} (v : Vw K G0 H0 G H σ ρ) (nd : is.Nodup) (s1 : Stp G H G1 H1) (r : SlsOk K G1 H H1 vs ss) : Vw K G0 H0 G1 H1 (setsV is vs σ) (setsS is ss ρ) :=
  (v.stp s1).setsK nd r v.st.h fun j es p i ds e1 e2 e3 e4 => by
    obtain ⟨q, xs, a, b, _⟩ := v.env.ow j es e1
    rw [e2] at a
    cases a
    have := r.fr i ds p e3 e4
    rw [b] at this
    cases this
theorem ds_par {i j : Nat} {x y : Str} {a b : Expr} {fk : Rp → Option (List Sl)} {px py pt : Pos} {kt k2 pt2} (hc : X.calm = true) (hN : X.N.Nodup) (hi : X.N[i]? = some x) (hj : X.N[j]? = some y) (hij : i ≠ j)
    (hx : X.env.scope.names.lookup x = some .local) (hy : X.env.scope.names.lookup y = some .local) (ha : DK X [a, b] fk)
    (hw : swappedStores [.Tuple [.Name x px, .Name y py] kt pt] (.Tuple [a, b] k2 pt2) X.env = pure (some [x, y]) := by rfl)
    (hs : swapsWithSole [.Tuple [.Name x px, .Name y py] kt pt] (.Tuple [a, b] k2 pt2) pos.line X.env = pure false := by rfl) :
    DS X (.Assign [.Tuple [.Name x px, .Name y py] kt pt] (.Tuple [a, b] k2 pt2) pos) (sPar [i, j] fk) := (ps_par hc hN hi hj hij hx hy ha hw hs).imp fun E σ H ⟨G0, H0, G, ρ, o, v, e, q⟩ => by
  unfold sPar at e
  obtain ⟨ss, e1, e⟩ := Option.bind_eq_some_iff.mp e
  obtain ⟨hl, rfl⟩ := if_some e
  refine ⟨G, _, ss, v.at_, e1, fun vs G1 H1 s1 r => ?_⟩
  have hl2 : vs.length = 2 := by rw [r.len, hl]; rfl
  match vs, hl2, r with
  | [v1, v2], _, r => exact ⟨v1, v2, rfl, q _ G1 H1 (par_end (is := [i, j]) v (by simp [hij]) s1 r)⟩
theorem ds_par3 {i j l : Nat} {x y z : Str} {a b c : Expr} {fk : Rp → Option (List Sl)} {px py pz pt : Pos} {kt k2 pt2} (hc : X.calm = true) (hN : X.N.Nodup) (hi : X.N[i]? = some x) (hj : X.N[j]? = some y) (hl : X.N[l]? = some z) (hij : i ≠ j) (hil : i ≠ l) (hjl : j ≠ l)
    (hx : X.env.scope.names.lookup x = some .local) (hy : X.env.scope.names.lookup y = some .local) (hz : X.env.scope.names.lookup z = some .local) (ha : DK X [a, b, c] fk)
    (hw : swappedStores [.Tuple [.Name x px, .Name y py, .Name z pz] kt pt] (.Tuple [a, b, c] k2 pt2) X.env = pure (some [x, y, z]) := by rfl)
    (hs : swapsWithSole [.Tuple [.Name x px, .Name y py, .Name z pz] kt pt] (.Tuple [a, b, c] k2 pt2) pos.line X.env = pure false := by rfl) :
    DS X (.Assign [.Tuple [.Name x px, .Name y py, .Name z pz] kt pt] (.Tuple [a, b, c] k2 pt2) pos) (sPar [i, j, l] fk) := (ps_par3 hc hN hi hj hl hij hil hjl hx hy hz ha hw hs).imp fun E σ H ⟨G0, H0, G, ρ, o, v, e, q⟩ => by
  unfold sPar at e
  obtain ⟨ss, e1, e⟩ := Option.bind_eq_some_iff.mp e
  obtain ⟨hl, rfl⟩ := if_some e
  refine ⟨G, _, ss, v.at_, e1, fun vs G1 H1 s1 r => ?_⟩
  have hl2 : vs.length = 3 := by rw [r.len, hl]; rfl
  match vs, hl2, r with
  | [v1, v2, v3], _, r => exact ⟨v1, v2, v3, rfl, q _ G1 H1 (par_end (is := [i, j, l]) v (by simp [hij, hil, hjl]) s1 r)⟩
/-- through a real tuple -/
theorem ds_parT {tg : Expr} {is : List Nat} {es : List Expr} {fk : Rp → Option (List Sl)} {k2 pt2} (nd : is.Nodup) (ha : DK X es fk) (hg : PG X tg (gTup X.K is.length (gNames is))) (hz : is.length ≤ 1000) (hs : swapsWithSole [tg] (.Tuple es k2 pt2) pos.line X.env = pure false := by rfl) (hw : swappedStores [tg] (.Tuple es k2 pt2) X.env = pure none := by rfl)
    (h1 : (assignEach [tg] X.env).map (·.2) = [assign tg X.env] := by rfl) : DS X (.Assign [tg] (.Tuple es k2 pt2) pos) (sPar is fk) := (ps_asg (pe_tup ha) hg hs hw h1).imp fun E σ H ⟨G0, H0, G, ρ, o, v, e, q⟩ => by
  unfold sPar at e
  obtain ⟨ss, e1, e⟩ := Option.bind_eq_some_iff.mp e
  obtain ⟨hl, rfl⟩ := if_some e
  refine ⟨G, _, ss, v.at_, e1, fun vs G1 H1 s1 r => ?_⟩
  refine ⟨dpos (by rw [r.len, hl]; omega), fun p hp => ?_⟩
  have s2 : Stp G1 H1 G1 (upd H1 p (.tup vs)) := .newH s1.gh hp
  refine ⟨p, vs, rfl, .inl (.inl upd_same), by rw [r.len, hl], gNames_ok (by rw [r.len, hl]) (q _ G1 _ ?_)⟩
  exact par_end v nd (s1.trans s2) ⟨r.len, fun k t e => let ⟨w, a, b⟩ := r.ok k t e; ⟨w, a, b.stp s2⟩, r.fr, r.ap⟩
/-! own lists grow -/
def sApp (i : Nat) (f : Rp → Option D) : Rs → Option Out := fun ρ => match ρ[i]? with
  | some (.ow ds) => (f (hid ρ)).bind fun d => if ds.length < 1000 then some (.nx (ρ.set i (.ow (ds ++ [d])))) else none
  | _ => none
theorem ds_app {i : Nat} {x : Str} {px apos cpos : Pos} (hN : X.N[i]? = some x := by rfl) (hv : Vis X.env.scope x := by first | exact Or.inl rfl | exact Or.inr (Or.inl rfl) | exact Or.inr (Or.inr rfl)) (he : DE X e fe) (hd : (x == ("__debug__" : Str)) = false := by decide) (hcd : (x == ("__classdict__" : Str)) = false := by decide)
    (hbase : attributeBase (.Name x px) "append" X.env (eval (.Name x px) X.env) = eval (.Name x px) X.env := by rfl) (hline : (apos.endLine == cpos.line) = true := by rfl)
    (hfew : ((backTo cpos (starEach [e] X.env)).all (fun x => !x.1) && (backToKw cpos (keywordEach [] X.env)).all (fun x => x.1.isSome) && decide ([e].length + ([] : List Keyword).length + (if ([] : List Keyword).isEmpty then 0 else 1) < 30)) = true := by rfl)
    (hst : starEach [e] X.env = [(false, eval e X.env)] := by rfl) (hplain : (backTo cpos (starEach [] X.env)).any (·.1) = false := by rfl) (hsw : swapsWith (.Call (.Attribute (.Name x px) "append" apos) [e] [] cpos) none pos.line X.env = pure false := by rfl) :
    DS X (.Expr (.Call (.Attribute (.Name x px) "append" apos) [e] [] cpos) pos) (sApp i fe) := by
  refine (ps_expr (pe_bm PySem.F.plainAttrs_list PySem.F.slot_list_append PySem.F.type_list_append mt_append (pe_var (i := i) hN hv hd hcd) (pa_cons he pa_nil hst) hbase hfew hline hst hplain) hsw).imp fun E σ H ⟨G0, H0, G, ρ, o, v, e, q⟩ => ?_
  unfold sApp at e
  split at e
  · rename_i ds e0
    obtain ⟨d, e1, e⟩ := Option.bind_eq_some_iff.mp e
    obtain ⟨hl, rfl⟩ := if_some e
    obtain ⟨p, xs, a, b, c, f⟩ := v.env.ow i ds e0
    refine ⟨.ref p, a, .inl ⟨rfl, _, SqL.of b⟩, G, _, d, v.at_, e1, fun w G1 H1 s1 h1 => ?_⟩
    refine ⟨p, xs, w, rfl, rfl, s1.h _ _ b, Nat.lt_of_lt_of_le (by rw [f.length]; exact hl) (by decide), ?_⟩
    exact q _ G1 _ ((v.stp s1).app e0 a (s1.h _ _ b) (s1.nw _ _ b c) (f.to s1.g) h1)
  · cases e
def sAug (i : Nat) (f : Rp → Option D) : Rs → Option Out := fun ρ => match ρ[i]? with
  | some (.pu (.int a)) => (f (hid ρ)).bind fun d => (asI d).map fun b => .nx (ρ.set i (.pu (.int (a + b))))
  | _ => none
theorem ds_augAdd {i : Nat} {x : Str} {pos' : Pos} (hN : X.N.Nodup) (hi : X.N[i]? = some x) (hx : Loc X.env.scope x) (he : DE X e fe) (hf : X.fn x = true ∨ X.env.scope.names.lookup x = some .local := by first | exact .inl rfl | exact .inr rfl | assumption) :
    DS X (.AugAssign (.Name x pos') .Add e pos) (sAug i fe) := (ps_aug hN hi hx he ip_add hf).imp fun E σ H ⟨G0, H0, G, ρ, o, v, e, q⟩ => by
  unfold sAug at e
  split at e
  · rename_i a e0
    obtain ⟨d, e1, e⟩ := Option.bind_eq_some_iff.mp e
    obtain ⟨b, e2, rfl⟩ := Option.map_eq_some_iff.mp e
    have e3 := asI_some e2
    subst e3
    obtain ⟨w, h1, h2⟩ := v.env.pu i _ e0
    cases h2
    refine ⟨_, h1, G, _, _, v.at_, e1, fun w G1 H1 s1 k1 => ?_⟩
    cases k1
    exact ⟨a, b, rfl, rfl, q _ G1 H1 ((v.stp s1).setP i (.int _))⟩
  · cases e
def sDrop (f : Rp → Option D) : Rs → Option Out := fun ρ => (f (hid ρ)).map fun _ => .nx ρ
theorem ds_drop (he : DE X e fe) (hs : swapsWith e none pos.line X.env = pure false := by rfl) : DS X (.Expr e pos) (sDrop fe) := (ps_expr he hs).imp fun E σ H ⟨G0, H0, G, ρ, o, v, e, q⟩ => by
  unfold sDrop at e
  obtain ⟨d, e1, rfl⟩ := Option.map_eq_some_iff.mp e
  exact ⟨G, _, d, v.at_, e1, fun w G1 H1 s1 h1 => q _ G1 H1 (v.stp s1)⟩
/-! return, if -/
def sRet (f : Rp → Option D) : Rs → Option Out := fun ρ => (f (opn ρ)).map .rt
theorem ds_ret (he : DE X e fe) : DS X (.Return (some e) pos) (sRet fe) := (ps_ret he).imp fun E σ H ⟨G0, H0, G, ρ, o, v, e, q⟩ => by
  unfold sRet at e
  obtain ⟨d, e1, rfl⟩ := Option.map_eq_some_iff.mp e
  obtain ⟨G', a, s⟩ := v.opn
  exact ⟨G', _, d, a, e1, fun w G1 H1 s1 h1 => q w G1 H1 (s.trans s1) h1⟩
def sIf (c : Rp → Option Bool) (f g : Rs → Option Out) : Rs → Option Out := fun ρ => (c (opn ρ)).bind fun b => if b = true then f ρ else g ρ
theorem ds_if {a b : List Stmt} {fc : Rp → Option Bool} (hc : DT X c fc) (ha : DSs X a f) (hb : DSs X b g) : DS X (.If c a b pos) (sIf fc f g) := (ps_if hc ha hb).imp fun E σ H ⟨G0, H0, G, ρ, o, v, e, q⟩ => by
  unfold sIf at e
  obtain ⟨k, e1, e⟩ := Option.bind_eq_some_iff.mp e
  obtain ⟨G', a, s⟩ := v.opn
  refine ⟨G', _, k, a, e1, fun G1 H1 s1 => ?_⟩
  cases k with
  | true => exact iteT ⟨G0, H0, G, ρ, o, v.grow s1.h, e, q⟩
  | false => exact iteF ⟨G0, H0, G, ρ, o, v.grow s1.h, e, q⟩
/-! while, by fuel -/
def sLoop (o : Option Out) (k : Rs → Option Out) : Option Out := match o with
  | some (.nx ρ) => k ρ
  | some (.ct ρ) => k ρ
  | some (.bk ρ) => some (.nx ρ)
  | o => o
def whileD (c : Rp → Option Bool) (body : Rs → Option Out) : Nat → Rs → Option Out
  | 0, _ => none
  | n + 1, ρ => (c (opn ρ)).bind fun b => if b = true then sLoop (body ρ) (whileD c body n) else some (.nx ρ)
theorem loop_fin {K : PySem.W.Frag} {G0 H0 : Hp} {E : Ends} {o o1 : Out} {k : Rs → Option Out} {N : L2.St → Hp → Prop} (e : sLoop (some o1) k = some o) (q : Fin_ K G0 H0 E o) (hN : ∀ σ G H ρ, Vw K G0 H0 G H σ ρ → k ρ = some o → N σ H) : Fin_ K G0 H0 { E with nx := N, ct := N, bk := E.nx } o1 := by
  cases o1 with
  | nx ρ => exact fun σ G H v => hN σ G H ρ v e
  | ct ρ => exact fun σ G H v => hN σ G H ρ v e
  | bk ρ =>
    cases e
    exact fun σ G H v => q σ G H v
  | rt d =>
    cases e
    exact fun w G H s h => q w G H s h
theorem loop_some {o : Option Out} {k : Rs → Option Out} {r : Out} (e : sLoop o k = some r) : ∃ o1, o = some o1 := by
  cases o with
  | none => cases e
  | some o1 => exact ⟨o1, rfl⟩
theorem ds_while {body : List Stmt} {fc : Rp → Option Bool} (n : Nat) (hp : PassesOwn (model X.prog X.w) X.A X.env X.xe) (hc : DT X c fc) (hb : DSs X body f) : DS X (.While c body [] pos) (whileD fc f n) := (ps_while hp hc hb).imp fun E σ H ⟨G0, H0, G, ρ, o, v, e, q⟩ => by
  refine ⟨fun m σ H => ∃ G ρ, Vw X.K G0 H0 G H σ ρ ∧ whileD fc f m ρ = some o, ⟨n, G, ρ, v, e⟩, fun m σ1 H1 ⟨G1, ρ1, v1, e1⟩ => ?_⟩
  cases m with
  | zero => cases e1
  | succ m =>
    unfold whileD at e1
    obtain ⟨b, e2, e3⟩ := Option.bind_eq_some_iff.mp e1
    obtain ⟨G', a, s⟩ := v1.opn
    refine ⟨G', _, b, a, e2, fun G2 H2 s2 => ?_⟩
    cases b with
    | true =>
      obtain ⟨o1, e4⟩ := loop_some (show sLoop (f ρ1) _ = some o from e3)
      rw [e4] at e3
      refine iteT ⟨fun σ' H' => ∃ G ρ, Vw _ G0 H0 G H' σ' ρ ∧ whileD fc f m ρ = some o, fun σ' H' w => ⟨m, Nat.lt_succ_self m, w⟩, G0, H0, G1, ρ1, o1, v1.grow s2.h, e4, loop_fin e3 q fun σ G H ρ v e => ⟨G, ρ, v, e⟩⟩
    | false =>
      cases e3
      exact iteF (q _ _ _ (v1.grow s2.h))
/-! for -/
def Tgt.bindS : Tgt → D → Rs → Option Rs
  | .one i, d, ρ => some (ρ.set i (.pu d))
  | .many is, d, ρ => (tupItems d).bind fun ds => if ds.length = is.length then some (setsS is (ds.map .pu) ρ) else none
theorem bindS_ok {K : PySem.W.Frag} {gt : TG} {t : Tgt} (tk : TgtOk K gt t) {G0 H0 G H : Hp} {σ : L2.St} {ρ ρ1 : Rs} {x : V} {d : D} (v : Vw K G0 H0 G H σ ρ) (hd : Dq K G x d) (hb : t.bindS d ρ = some ρ1) {Q : L2.St → Hp → Prop}
    (q : ∀ σ1, Vw K G0 H0 G H σ1 ρ1 → Q σ1 H) : gt x σ H Q := by
  cases t with
  | one i =>
    cases hb
    exact tk.one i rfl x σ H Q (q _ (v.setP i hd))
  | many is =>
    obtain ⟨ds, e1, e2⟩ := Option.bind_eq_some_iff.mp (show (tupItems d).bind _ = some ρ1 from hb)
    have e3 := tupItems_some e1
    subst e3
    obtain ⟨hl, rfl⟩ := if_some e2
    cases hd with
    | tup hs ha => exact tk.many is rfl _ _ σ H Q (same_sqT v.st.gh hs) (by rw [ha.length]; exact hl) (q _ (v.setsP ha))
def forD (t : Tgt) (body : Rs → Option Out) : List D → Rs → Option Out
  | [], ρ => some (.nx ρ)
  | d :: ds, ρ => (t.bindS d ρ).bind fun ρ1 => sLoop (body ρ1) (forD t body ds)
def sFor (it : Rp → Option (List D)) (t : Tgt) (body : Rs → Option Out) : Rs → Option Out := fun ρ => (it (hid ρ)).bind fun ds => forD t body ds ρ
theorem ds_for {tg iter : Expr} {body : List Stmt} {it : Rp → Option (List D)} {gt : TG} {t : Tgt} (hp : PassesOwn (model X.prog X.w) X.A X.env X.xe) (hc : X.calm = true) (hi : DI X tg iter it) (tk : TgtOk X.K gt t) (hg : PG X tg gt) (hb : DSs X body f)
    (hs : ∀ x, foldedSetIterable iter X.env x = pure x := by intro _; rfl) : DS X (.For tg iter body [] pos) (sFor it t f) := (ps_for hp hc hi hg hb hs).imp fun E σ H ⟨G0, H0, G, ρ, o, v, e, q⟩ => by
  unfold sFor at e
  obtain ⟨ds, e1, e⟩ := Option.bind_eq_some_iff.mp e
  refine ⟨G, _, ds, v.at_, e1, fun J G1 H1 s1 hJ => ?_⟩
  have v1 := v.stp s1
  have st1 := v1.st
  refine ⟨fun i m σ H => m = ds.length - i ∧ i ≤ ds.length ∧ ∃ G ρ, Vw X.K G1 H0 G H σ ρ ∧ forD t f (ds.drop i) ρ = some o, ⟨ds.length, by simp, Nat.zero_le _, G1, ρ, v1.rise, e⟩, ?_⟩
  rintro i m σ1 H2 ⟨rfl, hi, G2, ρ2, v2, a2⟩
  by_cases hlt : i < ds.length
  · have ed : ds[i]? = some ds[i] := List.getElem?_eq_getElem hlt
    obtain ⟨go, yld⟩ := (hJ i G2 H2 v2.st.g v2.st.gh).1 _ ed
    rw [List.drop_eq_getElem_cons hlt] at a2
    unfold forD at a2
    obtain ⟨ρ3, b1, a2⟩ := Option.bind_eq_some_iff.mp a2
    obtain ⟨o1, b2⟩ := loop_some a2
    rw [b2] at a2
    refine .inr ⟨go, fun σ' H' => ∃ G ρ, Vw X.K G1 H0 G H' σ' ρ ∧ forD t f (ds.drop (i + 1)) ρ = some o, fun σ' H' ⟨G, ρ, z⟩ => ⟨ds.length - (i + 1), by omega, rfl, hlt, G, ρ, z⟩, fun x H3 y => ?_⟩
    obtain ⟨G3, s3, hx⟩ := yld x H3 y
    exact bindS_ok tk (v2.stp s3) hx b1 fun σ3 v3 => ⟨G1, H0, G3, ρ3, o1, v3, b2, loop_fin a2 (Fin_.rise st1 q) fun σ G H ρ v e => ⟨G, ρ, v, e⟩⟩
  · have ei : i = ds.length := by omega
    subst ei
    rw [List.drop_length] at a2
    cases a2
    exact .inl ⟨(hJ _ G2 H2 v2.st.g v2.st.gh).2 rfl, q _ _ _ (v2.base st1)⟩
end

/-! ### defs -/
def initS (n : Nat) (ds : List D) : Rs := ds.map .pu ++ List.replicate (n - ds.length) .no
def outD (o : Option Out) : Option D := match o with
  | some (.rt d) => some d
  | some (.nx _) => some .none
  | _ => none
def fnD (n : Nat) (g : Rs → Option Out) : List D → Option D := fun ds => outD (g (initS n ds))
theorem start_env {K : PySem.W.Frag} {G H : Hp} {N : List Str} {vs : List V} {ds : List D} (s : Same G H) (h : DqAll K G vs ds) : Vw K G H G H (L2.start N vs) (initS N.length ds) := by
  have hl := h.length
  have no : ∀ (i : Nat) (s : Sl), (initS N.length ds)[i]? = some s → s = .no ∨ ∃ d, s = .pu d ∧ ds[i]? = some d := fun i s e => by
    unfold initS at e
    by_cases hi : i < ds.length
    · rw [List.getElem?_append_left (by rw [List.length_map]; exact hi), List.getElem?_map] at e
      obtain ⟨d, e1, e2⟩ := Option.map_eq_some_iff.mp e
      exact .inr ⟨d, e2.symm, e1⟩
    · rw [List.getElem?_append_right (by rw [List.length_map]; omega)] at e
      exact .inl (List.eq_of_mem_replicate (List.mem_of_getElem? e))
  refine ⟨.refl s, ⟨?_, fun i d e => ?_, fun i es e => ?_, fun i j es fs p e1 _ _ _ => ?_⟩, fun i es p e1 _ => ?_⟩
  · unfold L2.start initS
    rw [List.length_append, List.length_append, List.length_map, List.length_map, List.length_replicate, List.length_replicate, hl]
  · rcases no i _ e with z | ⟨d', z, e1⟩
    · cases z
    · cases z
      obtain ⟨v, e2, e3⟩ := h.at_ e1
      refine ⟨v, ?_, e3⟩
      unfold L2.start
      have hi : i < vs.length := (List.getElem?_eq_some_iff.mp e2).1
      rw [List.getElem?_append_left (by rw [List.length_map]; exact hi), List.getElem?_map, e2]
      rfl
  · rcases no i _ e with z | ⟨d', z, e1⟩ <;> cases z
  · rcases no i _ e1 with z | ⟨d', z, _⟩ <;> cases z
  · rcases no i _ e1 with z | ⟨d', z, _⟩ <;> cases z
section
variable {P : Program} {w : World} {K : PySem.W.Frag} {mg : Str → Option Value} {base : Heap}
theorem fn_ok {x qual : Str} {st : Stmt} {f : Addr} {fd : FuncData} {N ps : List Str} {k : Nat} {g : Rs → Option Out} (F : Fun K x qual st f fd) (S : FnScope N ps (defScope st))
    (hb : ∀ (cdv : Value) (A : Around) (outer : List Env) (s : Shared) (H : Hp) (E : XK), Room k (A.deeper (envOfC qual (defScope st) s.heap.objs.size f cdv)) → DSs (cxOf CX0 P w K mg base N qual (defScope st) f cdv A outer s H E).nox (defBody st) g) :
    FnOk P w K mg base CX0 (k + 1) f fd ps (spD K ps.length (fnD N.length g)) := by
  refine F.ok S (fun vs H Q E h => h.1) (fun cdv A outer s H vs Q E hr h => ?_)
  obtain ⟨hl, G, ds, d, sg, hd, e, p⟩ := h
  refine ⟨_, hb cdv A outer s H E hr, ?_⟩
  unfold fnD outD at e
  split at e
  · rename_i d' e'
    cases e
    exact ⟨G, H, G, _, _, start_env sg hd, e', fun v G' H' s' h' => p v G' H' s' h'⟩
  · rename_i ρ' e'
    cases e
    exact ⟨G, H, G, _, _, start_env sg hd, e', fun σ G' H' v => p .non G' H' v.st .non⟩
  · cases e
theorem callee_mk {x qual : Str} {st : Stmt} {f : Addr} {fd : FuncData} {N ps : List Str} {k n : Nat} {g : Rs → Option Out} (F : Fun K x qual st f fd) (S : FnScope N ps (defScope st)) (hm : mg x = some (.ref f)) (hB : Binds K fd ps []) (hn : ps.length = n)
    (hb : ∀ (cdv : Value) (A : Around) (outer : List Env) (s : Shared) (H : Hp) (E : XK), Room k (A.deeper (envOfC qual (defScope st) s.heap.objs.size f cdv)) → DSs (cxOf CX0 P w K mg base N qual (defScope st) f cdv A outer s H E).nox (defBody st) g) :
    Callee P w K mg base (k + 1) x n (fnD N.length g) := ⟨f, fd, ps, by rw [← hn]; exact fn_ok F S hb, hm, F.kp, hB⟩
theorem callee_none {x qual : Str} {st : Stmt} {f : Addr} {fd : FuncData} {N ps : List Str} {k n : Nat} (F : Fun K x qual st f fd) (S : FnScope N ps (defScope st)) (hm : mg x = some (.ref f)) (hB : Binds K fd ps []) : Callee P w K mg base (k + 1) x n (fun _ => none) :=
  ⟨f, fd, ps, F.ok S (fun vs H Q E h => by
    obtain ⟨_, _, _, _, _, _, h, _⟩ := h
    cases h) (fun cdv A outer s H vs Q E hr h => by
    obtain ⟨_, _, _, _, _, _, h, _⟩ := h
    cases h), hm, F.kp, hB⟩
theorem Callee.mono {j k n : Nat} {x : Str} {F : List D → Option D} (C : Callee P w K mg base j x n F) (h : j ≤ k) : Callee P w K mg base k x n F := by
  obtain ⟨f, fd, ps, a, b, c, d⟩ := C.ex
  exact ⟨f, fd, ps, a.mono h, b, c, d⟩
/-- another function that agrees where it is defined -/
theorem Callee.imp {k n : Nat} {x : Str} {F F' : List D → Option D} (C : Callee P w K mg base k x n F) (h : ∀ ds d, F' ds = some d → F ds = some d) : Callee P w K mg base k x n F' := by
  obtain ⟨f, fd, ps, a, b, c, d⟩ := C.ex
  exact ⟨f, fd, ps, a.imp (fun vs H Q E ⟨h1, G, ds, d, h2, h3, h4, h5⟩ => ⟨h1, G, ds, d, h2, h3, h ds d h4, h5⟩), b, c, d⟩
end
end DL

/-! DL6: zip of a list and a tuple. -/
namespace DL
open PySem PySem.Spec PyProof.Rows L2

def ItzM (K : PySem.W.Frag) (a b : Addr) : It :=
  ⟨fun i H => ∃ (xs ys : List V) (x y : V), SqL K H a xs ∧ SqT K H b ys ∧ xs[i]? = some x ∧ ys[i]? = some y,
    fun i H v H' => ∃ T x y, v = .ref T ∧ H T = none ∧ H' = upd H T (.tup [x, y]) ∧ (∀ xs, SqL K H a xs → xs[i]? = some x) ∧ ∀ ys, SqT K H b ys → ys[i]? = some y,
    fun i H => ∃ xs ys : List V, SqL K H a xs ∧ SqT K H b ys ∧ (xs.length = i ∨ ys.length = i) ∧ i ≤ xs.length ∧ i ≤ ys.length⟩
theorem zipSep {z TI TO i1 i2 a b : Addr} (D : ZipApart z TI TO i1 i2 a b) : ZipSep2 z TI TO i1 i2 [i1, a] [i2, b] where
  TIz := D.TIz
  TOz := D.TOz
  TITO := D.TITO
  TIi1 := D.TIi1
  mem1 := by simp
  zf1 := by simp only [List.mem_cons, List.not_mem_nil, or_false, not_or]; exact ⟨D.i1z.symm, D.l1z.symm⟩
  Tf1 := by simp only [List.mem_cons, List.not_mem_nil, or_false, not_or]; exact ⟨D.TOi1, D.l1TO.symm⟩
  TIi2 := D.TIi2
  mem2 := by simp
  zf2 := by simp only [List.mem_cons, List.not_mem_nil, or_false, not_or]; exact ⟨D.i2z.symm, D.l2z.symm⟩
  Tf2 := by simp only [List.mem_cons, List.not_mem_nil, or_false, not_or]; exact ⟨D.TOi2, D.l2TO.symm⟩
  sep1_2 := by simp only [List.mem_cons, List.not_mem_nil, or_false, not_or]; exact ⟨D.i12, D.l2i1.symm⟩
  sep2_1 := by simp only [List.mem_cons, List.not_mem_nil, or_false, not_or]; exact ⟨D.i12.symm, D.l1i2.symm⟩
theorem turn_zipM {P : Program} {w : World} {K : PySem.W.Frag} {elts : List Expr} {kk : Nat} {tpos : Pos} {a b z TI TO i1 i2 : Addr} (D : ZipApart z TI TO i1 i2 a b) :
    Turn P w K (.Tuple elts kk tpos) (ItzM K a b) [z, TI, TO, i1, i2] z (fun i h => IsZip h z TI TO .none ∧ IsPair h TI (.ref i1) (.ref i2) ∧ (∃ x y, IsPair h TO x y) ∧ h.IsListIter i1 a i ∧ h.IsTupleIter i2 b i) where
  mem := by simp
  obj := fun i h st c hc => by
    obtain ⟨hz, hTI, ⟨x, y, hTO⟩, ⟨o1, e1, _, d1⟩, ⟨o2, e2, _, d2⟩⟩ := st
    have e' : c = z ∨ c = TI ∨ c = TO ∨ c = i1 ∨ c = i2 := by simpa using hc
    rcases e' with q | q | q | q | q
    · rw [q]; exact ⟨_, hz, fun v q => nomatch q⟩
    · rw [q]; exact ⟨_, hTI, fun v q => nomatch q⟩
    · rw [q]; exact ⟨_, hTO, fun v q => nomatch q⟩
    · rw [q]; exact ⟨o1, e1, fun v q => by rw [d1] at q; cases q⟩
    · rw [q]; exact ⟨o2, e2, fun v q => by rw [d2] at q; cases q⟩
  keep := fun i h h' st k => by
    obtain ⟨hz, hTI, ⟨x, y, hTO⟩, h1, h2⟩ := st
    exact ⟨k z (by simp) _ hz, k TI (by simp) _ hTI, ⟨x, y, k TO (by simp) _ hTO⟩, h1.at fun o q => k i1 (by simp) o q, h2.at fun o q => k i2 (by simp) o q⟩
  item := by
    intro X hP hw hK hc i pins s σ H E I hf st hg
    subst hP hw hK
    obtain ⟨hz, hTI, ⟨x0, y0, hTO⟩, h1, h2⟩ := st
    obtain ⟨xs, ys, x, y, hqx, hqy, hx, hy⟩ := hg
    obtain ⟨its, rv, p, _⟩ := I.list hqx
    obtain ⟨its2, rv2, p2, _⟩ := I.tuple hqy
    obtain ⟨u, hu, ru⟩ := rv.get hx
    obtain ⟨u2, hu2, ru2⟩ := rv2.get hy
    have hzl : z < s.heap.objs.size := Heap.lt_size hz
    have hh : X.A.in1.handled = none := I.ok.hd hc
    refine wpAny_pyNext_zipD2_item (zipSep D) (Draws.list hh i1 a D.l1i1 its.toArray) (Draws.tuple hh i2 b D.l2i2 its2.toArray) hz hTI hTO ⟨h1, p.isList⟩ ⟨h2, p2⟩ (by simpa using (List.getElem?_eq_some_iff.mp hu).1) (by simpa using (List.getElem?_eq_some_iff.mp hu2).1) fun u' u2' h' tk y1 y2 z' TO' st1' st2' hT hsz hk => ?_
    have e1 : u' = u := by
      have y1' : its[i]? = some u' := by simpa using y1
      rw [hu] at y1'
      exact (Option.some.inj y1').symm
    have e2 : u2' = u2 := by
      have y2' : its2[i]? = some u2' := by simpa using y2
      rw [hu2] at y2'
      exact (Option.some.inj y2').symm
    subst e1 e2
    obtain ⟨h1', _⟩ := st1'
    obtain ⟨h2', _⟩ := st2'
    refine ⟨_, rfl, wpAny_letOwnedTupleGo_zip (s := { s with heap := h', toks := tk }) z' fun h'' z'' sb => ?_⟩
    have hT2 : h''.get? s.heap.objs.size = some { cls := .type "tuple", data := .seq #[u', u2'] } := (sb.2 _ (Nat.ne_of_gt hzl)).trans hT
    have new : ObjOk X.prog X.w (upd H s.heap.objs.size (.tup [x, y])) h'' s.heap.objs.size (.tup [x, y]) :=
      ⟨by show 2 ≤ sizeLine; decide, [u', u2'], .cons ru (.cons ru2 .nil), ⟨_, hT2, rfl, _, rfl⟩⟩
    have I1 : Inv X pins σ (upd H s.heap.objs.size (.tup [x, y])) { s with heap := h'', toks := tk } :=
      I.turnedNew (t' := tk) (ch := [z, TI, TO, i1, i2]) (fun c o hb q => (sb.2 c (fun q' => hb (by simp [q']))).trans (hk c o (fun q' => hb (by simp [q'])) (fun q' => hb (by simp [q'])) (fun q' => hb (by simp [q'])) (fun q' => hb (by simp [q'])) q)) hf (Nat.le_refl _) new
    refine ⟨.ref s.heap.objs.size, _, I1, rfl, ⟨_, x, y, rfl, I.hok.fresh (Nat.le_refl _), rfl, fun l hl => by rw [I.list_inj hl hqx]; exact hx, fun l hl => by rw [I.tuple_inj hl hqy]; exact hy⟩, ⟨z'', ?_, ⟨u', u2', ?_⟩, ?_, ?_⟩, fun c hcm => ?_⟩
    · exact (sb.2 _ D.TIz).trans (hk _ _ D.TIz D.TITO D.TIi1 D.TIi2 hTI)
    · exact (sb.2 _ D.TOz).trans TO'
    · exact h1'.at fun o q => (sb.2 _ D.i1z).trans q
    · exact h2'.at fun o q => (sb.2 _ D.i2z).trans q
    · have hlt : c < s.heap.objs.size := by
        have e' : c = z ∨ c = TI ∨ c = TO ∨ c = i1 ∨ c = i2 := by simpa using hcm
        rcases e' with q | q | q | q | q
        · rw [q]; exact hzl
        · rw [q]; exact Heap.lt_size hTI
        · rw [q]; exact Heap.lt_size hTO
        · rw [q]; obtain ⟨_, e1, _⟩ := h1; exact Heap.lt_size e1
        · rw [q]; obtain ⟨_, e2, _⟩ := h2; exact Heap.lt_size e2
      rw [upd_ne (Nat.ne_of_lt hlt)]
      exact (hf c hcm).1
  done := by
    intro X hP hw hK hc i pins s σ H E I hf st hg
    subst hP hw hK
    obtain ⟨hz, hTI, ⟨x0, y0, hTO⟩, h1, h2⟩ := st
    obtain ⟨xs, ys, hqx, hqy, hend, le1, le2⟩ := hg
    obtain ⟨its, rv, p, _⟩ := I.list hqx
    obtain ⟨its2, rv2, p2, _⟩ := I.tuple hqy
    have l1 := rv.length
    have l2 := rv2.length
    have hh : X.A.in1.handled = none := I.ok.hd hc
    refine wpAny_pyNext_zipD2_end (zipSep D) (Draws.list hh i1 a D.l1i1 its.toArray) (Draws.tuple hh i2 b D.l2i2 its2.toArray) hz hTI hTO ⟨h1, p.isList⟩ ⟨h2, p2⟩ (by simp; omega) (by simp; omega) (by simp; omega) fun h' tk hk => ⟨rfl, I.turnedL (t' := tk) (ch := [z, TI, TO, i1, i2]) (fun c o hb q =>
      hk c o (fun q' => hb (by simp [q'])) (fun q' => hb (by simp [q'])) (fun q' => hb (by simp [q'])) (fun q' => hb (by simp [q'])) q) hf⟩
  self := fun A i s Q E st h => wpAny_pyIter_zip st.1 h
def iZipMx (K : PySem.W.Frag) (ta : TA) : TI := fun σ H R => ta σ H fun vs H1 => ∃ a b xs ys, vs = [.ref a, .ref b] ∧ SqL K H1 a xs ∧ SqT K H1 b ys ∧ R (ItzM K a b) H1
theorem pi_zipM {X : Cx} {e e2 : Expr} {ta : TA} {p pos tpos : Pos} {elts : List Expr} {kk : Nat} (hg : Gl X "zip") (hm : X.mg "zip" = none) (ha : PA X [e, e2] ta)
    (hs : starEach [e, e2] X.env = (false, eval e X.env) :: starEach [e2] X.env := by rfl) (hpl : (backTo pos (starEach [e2] X.env)).any (·.1) = false := by rfl) :
    PI X (.Tuple elts kk tpos) (.Call (.Name "zip" p) [e, e2] [] pos) (iZipMx X.K ta) := by
  refine ⟨fun pins s σ H R I h => ?_⟩
  refine Call_ (ld_blt I hg hm PyProof.Rows.boot_zip (PyProof.Rows.callWith_type1 (thn (ha.run pos pins s σ H _ I h) fun us s1 ⟨vs, H1, I1, r1, q1⟩ => ?_) hs hpl))
  obtain ⟨a, b, xs, ys, ex, hqx, hqy, q⟩ := q1
  subst ex
  cases r1 with
  | cons r rr =>
    cases rr with
    | cons r' rr =>
      cases rr
      cases r
      cases r'
      obtain ⟨its, rv, p1, _⟩ := I1.list hqx
      obtain ⟨its2, rv2, p2, _⟩ := I1.tuple hqy
      obtain ⟨o2, ho2, _⟩ := id p2
      refine zip_begins2 (begins_list a its.toArray) (begins_tuple b its2.toArray) p1.isList (show s1.heap.IsTuple b its2.toArray from p2) fun h' hz hTI hTO g1 g2 hsz hk => wpAny_pyIter_zip hz ?_
      have I2 : Inv X pins σ H1 { s1 with heap := h' } := I1.kept (t' := s1.toks) hk
      refine ⟨s1.heap.objs.size + 4, [s1.heap.objs.size + 4, s1.heap.objs.size + 2, s1.heap.objs.size + 3, s1.heap.objs.size, s1.heap.objs.size + 1], _, _, H1, rfl, I2, turn_zipM (PySem.W.ktu_apart s1.heap.objs.size a b p1.lt (Heap.lt_size ho2)), ⟨hz, hTI, ⟨_, _, hTO⟩, ⟨_, g1, rfl, rfl⟩, ⟨_, g2, rfl, rfl⟩⟩, fun c hcm => ?_, q⟩
      have e' : c = s1.heap.objs.size + 4 ∨ c = s1.heap.objs.size + 2 ∨ c = s1.heap.objs.size + 3 ∨ c = s1.heap.objs.size ∨ c = s1.heap.objs.size + 1 := by simpa using hcm
      have hle : s1.heap.objs.size ≤ c := by
        rcases e' with z | z | z | z | z
        · rw [z]; exact Nat.le_add_right _ _
        · rw [z]; exact Nat.le_add_right _ _
        · rw [z]; exact Nat.le_add_right _ _
        · rw [z]; exact Nat.le_refl _
        · rw [z]; exact Nat.le_add_right _ _
      exact I1.fpOk hle (I1.hok.fresh hle)
/-- zip of a list and a tuple of one length -/
def zipMF (x y : D) : Option (List D) := match x, y with
  | .list xs, .tuple ys => if xs.length = ys.length then some (zipD xs ys) else none
  | _, _ => none
def iZipM (fa fb : Rp → Option D) : Rp → Option (List D) := fun ρ => (fa ρ).bind fun x => (fb ρ).bind fun y => zipMF x y
theorem zipD_length : ∀ {xs ys : List D}, xs.length = ys.length → (zipD xs ys).length = xs.length
  | [], [], _ => rfl
  | x :: xs, y :: ys, h => by rw [zipD, List.length_cons, List.length_cons, zipD_length (by simpa using h)]
theorem zipMF_some {x y : D} {ds : List D} (e : zipMF x y = some ds) : ∃ xs ys, x = .list xs ∧ y = .tuple ys ∧ xs.length = ys.length ∧ ds = zipD xs ys := by
  unfold zipMF at e
  split at e
  · obtain ⟨h, rfl⟩ := if_some e
    exact ⟨_, _, rfl, rfl, h, rfl⟩
  · cases e
theorem itd_zipM {K : PySem.W.Frag} {G : Hp} {a b : Addr} {xs ys : List V} {ds es : List D} (h : G a = some (.lst xs)) (hd : DqAll K G xs ds) (h' : SqT K G b ys) (he : DqAll K G ys es) (hl : ds.length = es.length) : ItD K G (ItzM K a b) (zipD ds es) := fun i G' H' s1 s2 => by
  have hL : SqL K H' a xs := SqL.of (s2 _ _ (s1 _ _ h))
  have hM : SqT K H' b ys := same_sqT s2 (same_sqT s1 h')
  have l1 := hd.length
  have l2 := he.length
  refine ⟨fun d e => ?_, fun hi => ⟨xs, ys, hL, hM, ?_⟩⟩
  · obtain ⟨p, q, e1, e2, rfl⟩ := zipD_get e
    obtain ⟨v, e3, e4⟩ := hd.at_ e1
    obtain ⟨u, e5, e6⟩ := he.at_ e2
    refine ⟨⟨xs, ys, v, u, hL, hM, e3, e5⟩, fun x H'' hy => ?_⟩
    obtain ⟨T, x1, y1, rfl, nT, rfl, f1, f2⟩ := hy
    have g1 := f1 xs hL
    have g2 := f2 ys hM
    rw [e3] at g1
    rw [e5] at g2
    cases g1
    cases g2
    exact ⟨_, new2 s2 nT (e4.to s1) (e6.to s1)⟩
  · rw [zipD_length hl] at hi
    omega
theorem di_zipM {X : Cx} {a b : Expr} {fa fb : Rp → Option D} {p pos tpos : Pos} {elts : List Expr} {kk : Nat} (hg : Gl X "zip") (hm : X.mg "zip" = none) (ha : DE X a fa) (hb : DE X b fb)
    (hs : starEach [a, b] X.env = (false, eval a X.env) :: starEach [b] X.env := by rfl) (hs2 : starEach [b] X.env = [(false, eval b X.env)] := by rfl) (hpl : (backTo pos (starEach [b] X.env)).any (·.1) = false := by rfl) :
    DI X (.Tuple elts kk tpos) (.Call (.Name "zip" p) [a, b] [] pos) (iZipM fa fb) := (pi_zipM hg hm (pa_cons ha (pa_cons hb pa_nil hs2) hs) hs hpl).imp fun σ H R ⟨G, ρ, ds, at_, e, p⟩ => by
  unfold iZipM at e
  obtain ⟨x, e1, e⟩ := Option.bind_eq_some_iff.mp e
  obtain ⟨y, e2, e⟩ := Option.bind_eq_some_iff.mp e
  refine ⟨G, ρ, x, at_, e1, fun v G1 H1 s1 h1 => ?_⟩
  refine ⟨G1, ρ, y, at_.stp s1, e2, fun u G2 H2 s2 h2 => ?_⟩
  have h3 := h1.to s2.g
  obtain ⟨xs, ys, rfl, rfl, hl, rfl⟩ := zipMF_some e
  cases h3 with
  | lst k1 k2 =>
    cases h2 with
    | tup k3 k4 => exact ⟨_, _, _, _, rfl, SqL.of (s2.gh _ _ k1), same_sqT s2.gh k3, p _ G2 H2 (s1.trans s2) (itd_zipM k1 k2 k3 k4 hl)⟩
end DL

/-! G0: the text by places; data functions (printed by gen.py). -/
namespace DL
open PySem PySem.Spec PyProof.Rows L2
def topS (i : Nat) : Stmt := PySem.Challenge.pw_movedchest_k47_whole_cheapest_rows.main.body.getD i (.Pass ⟨0, 0, 0, 0⟩)
def sh (a b c : Int) : D := .tuple [.int a, .int b, .int c]
def ringL : List D := [sh 0 1 2, sh 2 1 0, sh 2 0 1, sh 1 0 2, sh 1 2 0, sh 0 2 1]
def ringD : D := .tuple ringL
def acrossD : D := .tuple [.int 1, .int 2, .int 0, .int 1, .int 2, .int 0]
structure Txt (K : PySem.W.Frag) (mg : Str → Option Value) : Prop where
  abs : mg "abs" = none
  all : mg "all" = none
  any : mg "any" = none
  enumerate : mg "enumerate" = none
  int : mg "int" = none
  isinstance : mg "isinstance" = none
  len : mg "len" = none
  list : mg "list" = none
  max : mg "max" = none
  min : mg "min" = none
  range : mg "range" = none
  set : mg "set" = none
  sorted : mg "sorted" = none
  sum : mg "sum" = none
  tuple : mg "tuple" = none
  zip : mg "zip" = none
  bool : mg "bool" = none
  str : mg "str" = none
  RING : ∃ a, mg "RING" = some (.ref a) ∧ (∃ o, K.lookup a = some o ∧ o.cls = .type "tuple" ∧ o.dict = none) ∧ ∀ G, Dq K G (.ref a) ringD
  ACROSS : ∃ a, mg "ACROSS" = some (.ref a) ∧ ∀ G, Dq K G (.ref a) acrossD
  LINKS_counts : ∃ t, mg "LINKS_counts" = some (.int 6 t)
  LINKS_links : ∃ t, mg "LINKS_links" = some (.int 6 t)
  LINKS_prices : ∃ t, mg "LINKS_prices" = some (.int 6 t)
  SIDES : ∃ t, mg "SIDES" = some (.int 3 t)
abbrev s_is_number : Stmt := topS 4
abbrev N_is_number : List Str := ["thing"]
theorem sc_is_number : FnScope N_is_number ["thing"] (defScope s_is_number) := ⟨rfl, rfl, rfl, by decide +kernel, rfl, by decide +kernel, by decide +kernel⟩
abbrev s_is_from : Stmt := topS 5
abbrev N_is_from : List Str := ["thing", "least"]
theorem sc_is_from : FnScope N_is_from ["thing", "least"] (defScope s_is_from) := ⟨rfl, rfl, rfl, by decide +kernel, rfl, by decide +kernel, by decide +kernel⟩
abbrev s_is_within : Stmt := topS 6
abbrev N_is_within : List Str := ["thing", "least", "most"]
theorem sc_is_within : FnScope N_is_within ["thing", "least", "most"] (defScope s_is_within) := ⟨rfl, rfl, rfl, by decide +kernel, rfl, by decide +kernel, by decide +kernel⟩
abbrev s_is_long : Stmt := topS 7
abbrev N_is_long : List Str := ["thing", "length"]
theorem sc_is_long : FnScope N_is_long ["thing", "length"] (defScope s_is_long) := ⟨rfl, rfl, rfl, by decide +kernel, rfl, by decide +kernel, by decide +kernel⟩
abbrev s_tupled : Stmt := topS 8
abbrev N_tupled : List Str := ["value", "own"]
theorem sc_tupled : FnScope N_tupled ["value"] (defScope s_tupled) := ⟨rfl, rfl, rfl, by decide +kernel, rfl, by decide +kernel, by decide +kernel⟩
abbrev s_set_of : Stmt := topS 9
abbrev N_set_of : List Str := ["row"]
theorem sc_set_of : FnScope N_set_of ["row"] (defScope s_set_of) := ⟨rfl, rfl, rfl, by decide +kernel, rfl, by decide +kernel, by decide +kernel⟩
abbrev s_are_numbers : Stmt := topS 10
abbrev N_are_numbers : List Str := ["thing", "own"]
theorem sc_are_numbers : FnScope N_are_numbers ["thing"] (defScope s_are_numbers) := ⟨rfl, rfl, rfl, by decide +kernel, rfl, by decide +kernel, by decide +kernel⟩
abbrev s_is_shape : Stmt := topS 14
abbrev N_is_shape : List Str := ["thing", "own"]
theorem sc_is_shape : FnScope N_is_shape ["thing"] (defScope s_is_shape) := ⟨rfl, rfl, rfl, by decide +kernel, rfl, by decide +kernel, by decide +kernel⟩
abbrev s_place_in : Stmt := topS 15
abbrev N_place_in : List Str := ["shape"]
theorem sc_place_in : FnScope N_place_in ["shape"] (defScope s_place_in) := ⟨rfl, rfl, rfl, by decide +kernel, rfl, by decide +kernel, by decide +kernel⟩
abbrev s_side_in : Stmt := topS 16
abbrev N_side_in : List Str := ["link"]
theorem sc_side_in : FnScope N_side_in ["link"] (defScope s_side_in) := ⟨rfl, rfl, rfl, by decide +kernel, rfl, by decide +kernel, by decide +kernel⟩
abbrev s_over_in : Stmt := topS 17
abbrev N_over_in : List Str := ["shape", "way", "number"]
theorem sc_over_in : FnScope N_over_in ["shape", "way"] (defScope s_over_in) := ⟨rfl, rfl, rfl, by decide +kernel, rfl, by decide +kernel, by decide +kernel⟩
abbrev s_arcs_in : Stmt := topS 18
abbrev N_arcs_in : List Str := ["shape", "other", "number", "goal", "found", "link"]
theorem sc_arcs_in : FnScope N_arcs_in ["shape", "other"] (defScope s_arcs_in) := ⟨rfl, rfl, rfl, by decide +kernel, rfl, by decide +kernel, by decide +kernel⟩
abbrev s_is_stand : Stmt := topS 20
abbrev N_is_stand : List Str := ["thing", "own"]
theorem sc_is_stand : FnScope N_is_stand ["thing"] (defScope s_is_stand) := ⟨rfl, rfl, rfl, by decide +kernel, rfl, by decide +kernel, by decide +kernel⟩
abbrev s_sure_stand : Stmt := topS 21
abbrev N_sure_stand : List Str := ["stand", "own"]
theorem sc_sure_stand : FnScope N_sure_stand ["stand"] (defScope s_sure_stand) := ⟨rfl, rfl, rfl, by decide +kernel, rfl, by decide +kernel, by decide +kernel⟩
abbrev s_is_move : Stmt := topS 22
abbrev N_is_move : List Str := ["thing"]
theorem sc_is_move : FnScope N_is_move ["thing"] (defScope s_is_move) := ⟨rfl, rfl, rfl, by decide +kernel, rfl, by decide +kernel, by decide +kernel⟩
abbrev s_more_at : Stmt := topS 23
abbrev N_more_at : List Str := ["row", "place", "by"]
theorem sc_more_at : FnScope N_more_at ["row", "place", "by"] (defScope s_more_at) := ⟨rfl, rfl, rfl, by decide +kernel, rfl, by decide +kernel, by decide +kernel⟩
abbrev s_flipped : Stmt := topS 24
abbrev N_flipped : List Str := ["row", "place"]
theorem sc_flipped : FnScope N_flipped ["row", "place"] (defScope s_flipped) := ⟨rfl, rfl, rfl, by decide +kernel, rfl, by decide +kernel, by decide +kernel⟩
abbrev s_tipped_in : Stmt := topS 25
abbrev N_tipped_in : List Str := ["stand", "way", "shape", "xs", "ys", "fronts", "i", "j", "k", "by"]
theorem sc_tipped_in : FnScope N_tipped_in ["stand", "way"] (defScope s_tipped_in) := ⟨rfl, rfl, rfl, by decide +kernel, rfl, by decide +kernel, by decide +kernel⟩
abbrev s_turned_in : Stmt := topS 26
abbrev N_turned_in : List Str := ["stand", "corner", "hand", "shape", "xs", "ys", "fronts", "i", "j", "k", "east", "north"]
theorem sc_turned_in : FnScope N_turned_in ["stand", "corner", "hand"] (defScope s_turned_in) := ⟨rfl, rfl, rfl, by decide +kernel, rfl, by decide +kernel, by decide +kernel⟩
abbrev s_moved_in : Stmt := topS 27
abbrev N_moved_in : List Str := ["stand", "move"]
theorem sc_moved_in : FnScope N_moved_in ["stand", "move"] (defScope s_moved_in) := ⟨rfl, rfl, rfl, by decide +kernel, rfl, by decide +kernel, by decide +kernel⟩
abbrev s_is_row_in : Stmt := topS 29
abbrev N_is_row_in : List Str := ["thing", "move"]
theorem sc_is_row_in : FnScope N_is_row_in ["thing"] (defScope s_is_row_in) := ⟨rfl, rfl, rfl, by decide +kernel, rfl, by decide +kernel, by decide +kernel⟩
abbrev s_sure_row : Stmt := topS 30
abbrev N_sure_row : List Str := ["row", "own"]
theorem sc_sure_row : FnScope N_sure_row ["row"] (defScope s_sure_row) := ⟨rfl, rfl, rfl, by decide +kernel, rfl, by decide +kernel, by decide +kernel⟩
abbrev s_more_of : Stmt := topS 34
abbrev N_more_of : List Str := ["one", "other", "near", "far"]
theorem sc_more_of : FnScope N_more_of ["one", "other"] (defScope s_more_of) := ⟨rfl, rfl, rfl, by decide +kernel, rfl, by decide +kernel, by decide +kernel⟩
abbrev s_counts_in : Stmt := topS 35
abbrev N_counts_in : List Str := ["stand", "goal", "both", "own", "link"]
theorem sc_counts_in : FnScope N_counts_in ["stand", "goal"] (defScope s_counts_in) := ⟨rfl, rfl, rfl, by decide +kernel, rfl, by decide +kernel, by decide +kernel⟩
abbrev s_shift_in : Stmt := topS 36
abbrev N_shift_in : List Str := ["counts", "rest", "links", "found", "side", "link"]
theorem sc_shift_in : FnScope N_shift_in ["counts", "rest"] (defScope s_shift_in) := ⟨rfl, rfl, rfl, by decide +kernel, rfl, by decide +kernel, by decide +kernel⟩
abbrev s_halves_in : Stmt := topS 37
abbrev N_halves_in : List Str := ["shift", "was", "lies"]
theorem sc_halves_in : FnScope N_halves_in ["shift", "was", "lies"] (defScope s_halves_in) := ⟨rfl, rfl, rfl, by decide +kernel, rfl, by decide +kernel, by decide +kernel⟩
abbrev s_fronts_in : Stmt := topS 38
abbrev N_fronts_in : List Str := ["stand", "shape", "counts", "level", "upright", "found", "side", "turns"]
theorem sc_fronts_in : FnScope N_fronts_in ["stand", "shape", "counts"] (defScope s_fronts_in) := ⟨rfl, rfl, rfl, by decide +kernel, rfl, by decide +kernel, by decide +kernel⟩
abbrev s_stretch_from : Stmt := topS 41
abbrev N_stretch_from : List Str := ["ends", "counts", "first", "found", "place"]
theorem sc_stretch_from : FnScope N_stretch_from ["ends", "counts", "first"] (defScope s_stretch_from) := ⟨rfl, rfl, rfl, by decide +kernel, rfl, by decide +kernel, by decide +kernel⟩
abbrev s_stretches_in : Stmt := topS 42
abbrev N_stretches_in : List Str := ["shape", "other", "counts", "ends", "found", "place"]
theorem sc_stretches_in : FnScope N_stretches_in ["shape", "other", "counts"] (defScope s_stretches_in) := ⟨rfl, rfl, rfl, by decide +kernel, rfl, by decide +kernel, by decide +kernel⟩
abbrev s_is_odd_line : Stmt := topS 44
abbrev N_is_odd_line : List Str := ["stand", "goal", "line"]
theorem sc_is_odd_line : FnScope N_is_odd_line ["stand", "goal", "line"] (defScope s_is_odd_line) := ⟨rfl, rfl, rfl, by decide +kernel, rfl, by decide +kernel, by decide +kernel⟩
abbrev s_odd_of : Stmt := topS 45
abbrev N_odd_of : List Str := ["counts", "link"]
theorem sc_odd_of : FnScope N_odd_of ["counts"] (defScope s_odd_of) := ⟨rfl, rfl, rfl, by decide +kernel, rfl, by decide +kernel, by decide +kernel⟩
abbrev s_bars_in : Stmt := topS 46
abbrev N_bars_in : List Str := ["stand", "goal", "found", "counts", "odd", "told", "line", "side", "arc"]
theorem sc_bars_in : FnScope N_bars_in ["stand", "goal"] (defScope s_bars_in) := ⟨rfl, rfl, rfl, by decide +kernel, rfl, by decide +kernel, by decide +kernel⟩
abbrev s_can_in : Stmt := topS 47
abbrev N_can_in : List Str := ["stand", "goal"]
theorem sc_can_in : FnScope N_can_in ["stand", "goal"] (defScope s_can_in) := ⟨rfl, rfl, rfl, by decide +kernel, rfl, by decide +kernel, by decide +kernel⟩
abbrev s_sure_both : Stmt := topS 48
abbrev N_sure_both : List Str := ["stand", "goal"]
theorem sc_sure_both : FnScope N_sure_both ["stand", "goal"] (defScope s_sure_both) := ⟨rfl, rfl, rfl, by decide +kernel, rfl, by decide +kernel, by decide +kernel⟩
abbrev s_sure_way : Stmt := topS 49
abbrev N_sure_way : List Str := ["stand", "goal", "own", "far"]
theorem sc_sure_way : FnScope N_sure_way ["stand", "goal"] (defScope s_sure_way) := ⟨rfl, rfl, rfl, by decide +kernel, rfl, by decide +kernel, by decide +kernel⟩
abbrev s_is_tips : Stmt := topS 51
abbrev N_is_tips : List Str := ["thing", "own"]
theorem sc_is_tips : FnScope N_is_tips ["thing"] (defScope s_is_tips) := ⟨rfl, rfl, rfl, by decide +kernel, rfl, by decide +kernel, by decide +kernel⟩
abbrev s_sure_prices : Stmt := topS 54
abbrev N_sure_prices : List Str := ["prices", "own", "price"]
theorem sc_sure_prices : FnScope N_sure_prices ["prices"] (defScope s_sure_prices) := ⟨rfl, rfl, rfl, by decide +kernel, rfl, by decide +kernel, by decide +kernel⟩
abbrev s_sure_priced : Stmt := topS 55
abbrev N_sure_priced : List Str := ["stand", "goal", "prices", "told", "own", "far"]
theorem sc_sure_priced : FnScope N_sure_priced ["stand", "goal", "prices"] (defScope s_sure_priced) := ⟨rfl, rfl, rfl, by decide +kernel, rfl, by decide +kernel, by decide +kernel⟩
abbrev s_price_in : Stmt := topS 56
abbrev N_price_in : List Str := ["stand", "row", "prices", "found", "now", "move"]
theorem sc_price_in : FnScope N_price_in ["stand", "row", "prices"] (defScope s_price_in) := ⟨rfl, rfl, rfl, by decide +kernel, rfl, by decide +kernel, by decide +kernel⟩
abbrev s_price_of : Stmt := topS 57
abbrev N_price_of : List Str := ["stand", "row", "prices", "own", "told", "worths"]
theorem sc_price_of : FnScope N_price_of ["stand", "row", "prices"] (defScope s_price_of) := ⟨rfl, rfl, rfl, by decide +kernel, rfl, by decide +kernel, by decide +kernel⟩
abbrev s_bridges_in : Stmt := topS 58
abbrev N_bridges_in : List Str := ["counts", "stretch", "link"]
theorem sc_bridges_in : FnScope N_bridges_in ["counts", "stretch"] (defScope s_bridges_in) := ⟨rfl, rfl, rfl, by decide +kernel, rfl, by decide +kernel, by decide +kernel⟩
abbrev s_priced_in : Stmt := topS 59
abbrev N_priced_in : List Str := ["stand", "goal", "prices", "counts", "found", "price", "size", "worth", "stretches", "stretch", "bridges", "own", "link"]
theorem sc_priced_in : FnScope N_priced_in ["stand", "goal", "prices"] (defScope s_priced_in) := ⟨rfl, rfl, rfl, by decide +kernel, rfl, by decide +kernel, by decide +kernel⟩
abbrev s_least_in : Stmt := topS 60
abbrev N_least_in : List Str := ["stand", "goal", "prices", "own"]
theorem sc_least_in : FnScope N_least_in ["stand", "goal", "prices"] (defScope s_least_in) := ⟨rfl, rfl, rfl, by decide +kernel, rfl, by decide +kernel, by decide +kernel⟩
abbrev s_cheapest : Stmt := topS 61
abbrev N_cheapest : List Str := ["stand", "goal", "prices", "own", "far", "told"]
theorem sc_cheapest : FnScope N_cheapest ["stand", "goal", "prices"] (defScope s_cheapest) := ⟨rfl, rfl, rfl, by decide +kernel, rfl, by decide +kernel, by decide +kernel⟩
abbrev s_cheap_and_few : Stmt := topS 62
abbrev N_cheap_and_few : List Str := ["stand", "goal", "prices", "own", "far", "told"]
theorem sc_cheap_and_few : FnScope N_cheap_and_few ["stand", "goal", "prices"] (defScope s_cheap_and_few) := ⟨rfl, rfl, rfl, by decide +kernel, rfl, by decide +kernel, by decide +kernel⟩
abbrev s_l_box : Stmt := topS 64
abbrev N_l_box : List Str := ["_law_script", "_law_k", "_law_bit_so"]
theorem sc_l_box : FnScope N_l_box ["_law_script", "_law_k"] (defScope s_l_box) := ⟨rfl, rfl, rfl, by decide +kernel, rfl, by decide +kernel, by decide +kernel⟩
abbrev s_l_take : Stmt := topS 65
abbrev N_l_take : List Str := ["_law_tin", "_law_below_so", "_law_drawn", "_law_once_so", "_law_wide_so", "_law_twice_so"]
theorem sc_l_take : FnScope N_l_take ["_law_tin", "_law_below_so"] (defScope s_l_take) := ⟨rfl, rfl, rfl, by decide +kernel, rfl, by decide +kernel, by decide +kernel⟩
abbrev s_l_cells : Stmt := topS 66
abbrev N_l_cells : List Str := ["_law_script", "_law_most_so", "_law_cells_so", "_law_k", "_law_bit_so", "_law_at_so"]
theorem sc_l_cells : FnScope N_l_cells ["_law_script", "_law_most_so"] (defScope s_l_cells) := ⟨rfl, rfl, rfl, by decide +kernel, rfl, by decide +kernel, by decide +kernel⟩
abbrev s_l_of : Stmt := topS 67
abbrev N_l_of : List Str := ["_law_tin", "_law_goods_so"]
theorem sc_l_of : FnScope N_l_of ["_law_tin", "_law_goods_so"] (defScope s_l_of) := ⟨rfl, rfl, rfl, by decide +kernel, rfl, by decide +kernel, by decide +kernel⟩
abbrev s_l_lists : Stmt := topS 68
abbrev N_l_lists : List Str := ["_law_matter", "_law_bit"]
theorem sc_l_lists : FnScope N_l_lists ["_law_matter"] (defScope s_l_lists) := ⟨rfl, rfl, rfl, by decide +kernel, rfl, by decide +kernel, by decide +kernel⟩
abbrev s_l_same : Stmt := topS 69
abbrev N_l_same : List Str := ["_law_got", "_law_due", "_law_mine", "_law_its"]
theorem sc_l_same : FnScope N_l_same ["_law_got", "_law_due"] (defScope s_l_same) := ⟨rfl, rfl, rfl, by decide +kernel, rfl, by decide +kernel, by decide +kernel⟩
abbrev s_l_home : Stmt := topS 70
abbrev N_l_home : List Str := []
theorem sc_l_home : FnScope N_l_home [] (defScope s_l_home) := ⟨rfl, rfl, rfl, by decide +kernel, rfl, by decide +kernel, by decide +kernel⟩
abbrev s_l_poses : Stmt := topS 71
abbrev N_l_poses : List Str := []
theorem sc_l_poses : FnScope N_l_poses [] (defScope s_l_poses) := ⟨rfl, rfl, rfl, by decide +kernel, rfl, by decide +kernel, by decide +kernel⟩
abbrev s_l_across : Stmt := topS 72
abbrev N_l_across : List Str := []
theorem sc_l_across : FnScope N_l_across [] (defScope s_l_across) := ⟨rfl, rfl, rfl, by decide +kernel, rfl, by decide +kernel, by decide +kernel⟩
abbrev s_l_plus : Stmt := topS 73
abbrev N_l_plus : List Str := ["_law_row_so", "_law_k", "_law_by_so"]
theorem sc_l_plus : FnScope N_l_plus ["_law_row_so", "_law_k", "_law_by_so"] (defScope s_l_plus) := ⟨rfl, rfl, rfl, by decide +kernel, rfl, by decide +kernel, by decide +kernel⟩
abbrev s_l_flip : Stmt := topS 74
abbrev N_l_flip : List Str := ["_law_row_so", "_law_k"]
theorem sc_l_flip : FnScope N_l_flip ["_law_row_so", "_law_k"] (defScope s_l_flip) := ⟨rfl, rfl, rfl, by decide +kernel, rfl, by decide +kernel, by decide +kernel⟩
abbrev s_l_tip : Stmt := topS 75
abbrev N_l_tip : List Str := ["_law_spot", "_law_way_so", "_law_pose", "_law_xs_so", "_law_ys_so", "_law_looks_so", "_law_i", "_law_j", "_law_k", "_law_by_so"]
theorem sc_l_tip : FnScope N_l_tip ["_law_spot", "_law_way_so"] (defScope s_l_tip) := ⟨rfl, rfl, rfl, by decide +kernel, rfl, by decide +kernel, by decide +kernel⟩
abbrev s_l_turn : Stmt := topS 76
abbrev N_l_turn : List Str := ["_law_spot", "_law_corner_so", "_law_hand_so", "_law_pose", "_law_xs_so", "_law_ys_so", "_law_looks_so", "_law_i", "_law_j", "_law_k", "_law_u", "_law_v"]
theorem sc_l_turn : FnScope N_l_turn ["_law_spot", "_law_corner_so", "_law_hand_so"] (defScope s_l_turn) := ⟨rfl, rfl, rfl, by decide +kernel, rfl, by decide +kernel, by decide +kernel⟩
abbrev s_l_step : Stmt := topS 77
abbrev N_l_step : List Str := ["_law_spot", "_law_step_here"]
theorem sc_l_step : FnScope N_l_step ["_law_spot", "_law_step_here"] (defScope s_l_step) := ⟨rfl, rfl, rfl, by decide +kernel, rfl, by decide +kernel, by decide +kernel⟩
abbrev s_l_behind : Stmt := topS 78
abbrev N_l_behind : List Str := ["_law_spot", "_law_walk_here", "_law_step_here"]
theorem sc_l_behind : FnScope N_l_behind ["_law_spot", "_law_walk_here"] (defScope s_l_behind) := ⟨rfl, rfl, rfl, by decide +kernel, rfl, by decide +kernel, by decide +kernel⟩
abbrev s_l_tips : Stmt := topS 79
abbrev N_l_tips : List Str := ["_law_k"]
theorem sc_l_tips : FnScope N_l_tips [] (defScope s_l_tips) := ⟨rfl, rfl, rfl, by decide +kernel, rfl, by decide +kernel, by decide +kernel⟩
abbrev s_l_walk : Stmt := topS 80
abbrev N_l_walk : List Str := ["_law_tin", "_law_many_so", "_law_steps_so", "_law_lap"]
theorem sc_l_walk : FnScope N_l_walk ["_law_tin", "_law_many_so", "_law_steps_so"] (defScope s_l_walk) := ⟨rfl, rfl, rfl, by decide +kernel, rfl, by decide +kernel, by decide +kernel⟩
abbrev s_l_tally : Stmt := topS 81
abbrev N_l_tally : List Str := ["_law_one", "_law_two", "_law_xs_so", "_law_ys_so", "_law_found", "_law_k", "_law_side_so", "_law_row_so", "_law_own", "_law_its"]
theorem sc_l_tally : FnScope N_l_tally ["_law_one", "_law_two"] (defScope s_l_tally) := ⟨rfl, rfl, rfl, by decide +kernel, rfl, by decide +kernel, by decide +kernel⟩
abbrev s_l_over : Stmt := topS 82
abbrev N_l_over : List Str := ["_law_pose", "_law_way_so", "_law_at_so"]
theorem sc_l_over : FnScope N_l_over ["_law_pose", "_law_way_so"] (defScope s_l_over) := ⟨rfl, rfl, rfl, by decide +kernel, rfl, by decide +kernel, by decide +kernel⟩
abbrev s_l_fee : Stmt := topS 83
abbrev N_l_fee : List Str := ["_law_spot", "_law_walk_here", "_law_fees_here", "_law_found", "_law_step_here"]
theorem sc_l_fee : FnScope N_l_fee ["_law_spot", "_law_walk_here", "_law_fees_here"] (defScope s_l_fee) := ⟨rfl, rfl, rfl, by decide +kernel, rfl, by decide +kernel, by decide +kernel⟩
abbrev s_l_hangs : Stmt := topS 84
abbrev N_l_hangs : List Str := ["_law_lot", "_law_first_so", "_law_last_so", "_law_seen_so", "_law_lap", "_law_k", "_law_far_so"]
theorem sc_l_hangs : FnScope N_l_hangs ["_law_lot", "_law_first_so", "_law_last_so"] (defScope s_l_hangs) := ⟨rfl, rfl, rfl, by decide +kernel, rfl, by decide +kernel, by decide +kernel⟩
abbrev s_l_lots : Stmt := topS 85
abbrev N_l_lots : List Str := ["_law_found", "_law_k", "_law_own"]
theorem sc_l_lots : FnScope N_l_lots [] (defScope s_l_lots) := ⟨rfl, rfl, rfl, by decide +kernel, rfl, by decide +kernel, by decide +kernel⟩
abbrev s_l_thrift : Stmt := topS 86
abbrev N_l_thrift : List Str := ["_law_one", "_law_two", "_law_fees_here", "_law_tally_here", "_law_best_so", "_law_first_so", "_law_last_so", "_law_must_so", "_law_lot", "_law_often_so", "_law_fee_so", "_law_left_so", "_law_k", "_law_own"]
theorem sc_l_thrift : FnScope N_l_thrift ["_law_one", "_law_two", "_law_fees_here"] (defScope s_l_thrift) := ⟨rfl, rfl, rfl, by decide +kernel, rfl, by decide +kernel, by decide +kernel⟩
abbrev s_l_fees : Stmt := topS 87
abbrev N_l_fees : List Str := ["_law_tin", "_law_kind_so", "_law_lap"]
theorem sc_l_fees : FnScope N_l_fees ["_law_tin"] (defScope s_l_fees) := ⟨rfl, rfl, rfl, by decide +kernel, rfl, by decide +kernel, by decide +kernel⟩
abbrev s_l_far_spot : Stmt := topS 88
abbrev N_l_far_spot : List Str := ["_law_tin", "_law_one", "_law_two", "_law_k", "_law_far_so", "_law_xs_so", "_law_its", "_law_own"]
theorem sc_l_far_spot : FnScope N_l_far_spot ["_law_tin", "_law_one"] (defScope s_l_far_spot) := ⟨rfl, rfl, rfl, by decide +kernel, rfl, by decide +kernel, by decide +kernel⟩
abbrev s_l_begin : Stmt := topS 89
abbrev N_l_begin : List Str := ["_law_tin", "_law_pose", "_law_xs_so", "_law_ys_so", "_law_looks_so", "_law_own", "_law_lap"]
theorem sc_l_begin : FnScope N_l_begin ["_law_tin"] (defScope s_l_begin) := ⟨rfl, rfl, rfl, by decide +kernel, rfl, by decide +kernel, by decide +kernel⟩
abbrev s_l_by_hand_right : Stmt := topS 90
abbrev N_l_by_hand_right : List Str := ["_law_start", "_law_far", "_law_ones", "_law_got"]
theorem sc_l_by_hand_right : FnScope N_l_by_hand_right [] (defScope s_l_by_hand_right) := ⟨rfl, rfl, rfl, by decide +kernel, rfl, by decide +kernel, by decide +kernel⟩
abbrev s_l_searched : Stmt := topS 91
abbrev N_l_searched : List Str := ["_law_one", "_law_two", "_law_fees_here", "_law_tally_here", "_law_found", "_law_row_so", "_law_lap", "_law_later_so", "_law_spot", "_law_k", "_law_own", "_law_fee_so", "_law_here_so", "_law_its", "_law_far"]
theorem sc_l_searched : FnScope N_l_searched ["_law_one", "_law_two", "_law_fees_here"] (defScope s_l_searched) := ⟨rfl, rfl, rfl, by decide +kernel, rfl, by decide +kernel, by decide +kernel⟩
abbrev s_l_right : Stmt := topS 92
abbrev N_l_right : List Str := ["_law_tin", "_law_one", "_law_fees_here", "_law_walk_here", "_law_two", "_law_soft_so", "_law_due", "_law_got"]
theorem sc_l_right : FnScope N_l_right ["_law_tin"] (defScope s_l_right) := ⟨rfl, rfl, rfl, by decide +kernel, rfl, by decide +kernel, by decide +kernel⟩
abbrev s_law : Stmt := topS 93
abbrev N_law : List Str := ["_law_script"]
theorem sc_law : FnScope N_law ["_law_script"] (defScope s_law) := ⟨rfl, rfl, rfl, by decide +kernel, rfl, by decide +kernel, by decide +kernel⟩
def g_is_number : Rs → Option Out :=
  (sRet (vAnd (d1 (fun d => some (.bool (isaD "int" d))) (dVar 0)) (vNot (d1 (fun d => some (.bool (isaD "bool" d))) (dVar 0)))))
def F_is_number : List D → Option D := fnD 1 g_is_number
def g_is_from : Rs → Option Out :=
  (sRet (vAnd (dCall F_is_number (dCons (dVar 0) dNil)) (d2 geD (dVar 0) (dVar 1))))
def F_is_from : List D → Option D := fnD 2 g_is_from
def g_is_within : Rs → Option Out :=
  (sRet (vAnd (dCall F_is_number (dCons (dVar 0) dNil)) (dChain (dVar 1) (dVar 0) (dVar 2))))
def F_is_within : List D → Option D := fnD 3 g_is_within
def g_is_long : Rs → Option Out :=
  (sRet (vAnd (d1 (fun d => some (.bool (isaD "tuple" d))) (dVar 0)) (d2 eqD (dCall lenD (dCons (dVar 0) dNil)) (dVar 1))))
def F_is_long : List D → Option D := fnD 2 g_is_long
def g_tupled (Fself : List D → Option D) : Rs → Option Out :=
  (sRet (dIf (tB_ (d1 (fun d => some (.bool (isaD "list" d || isaD "tuple" d))) (dVar 0))) (dCall tupleD (dCons (dLc (iSeq (dVar 0)) (.one 1) tTrue (dCall Fself (dCons (dVar 1) dNil)) [1]) dNil)) (dVar 0)))
def FN_tupled : Nat → List D → Option D
  | 0 => fun _ => none
  | n + 1 => fnD 2 (g_tupled (FN_tupled n))
def F_tupled : List D → Option D := FN_tupled 4
def g_set_of : Rs → Option Out :=
  (sRet (dCall tupleD (dCons (d1 sortSetD (dVar 0)) dNil)))
def F_set_of : List D → Option D := fnD 1 g_set_of
def g_are_numbers : Rs → Option Out :=
  (sRet (vAnd (d1 (fun d => some (.bool (isaD "tuple" d))) (dVar 0)) (dCall allD (dCons (dLc (iSeq (dVar 0)) (.one 1) tTrue (dCall F_is_number (dCons (dVar 1) dNil)) [1]) dNil))))
def F_are_numbers : List D → Option D := fnD 2 g_are_numbers
def g_is_shape : Rs → Option Out :=
  (sRet (vAnd (dCall F_is_long (dCons (dVar 0) (dCons (dC (.int 3)) dNil))) (vAnd (dCall allD (dCons (dLc (iSeq (dVar 0)) (.one 1) tTrue (dCall F_is_number (dCons (dVar 1) dNil)) [1]) dNil)) (d2 inD (dVar 0) (dC ringD)))))
def F_is_shape : List D → Option D := fnD 2 g_is_shape
def g_place_in : Rs → Option Out :=
  (sRet (d1 (indexT ringL) (dVar 0)))
def F_place_in : List D → Option D := fnD 1 g_place_in
def g_side_in : Rs → Option Out :=
  (sRet (d2 getD_ (dC acrossD) (dVar 0)))
def F_side_in : List D → Option D := fnD 1 g_side_in
def g_over_in : Rs → Option Out :=
  (sSeq (sSet 2 (dCall F_place_in (dCons (dVar 0) dNil)))
    (sRet (dIf (tB_ (d2 eqD (d2 modD (dVar 2) (dC (.int 2))) (d2 modD (dVar 1) (dC (.int 2))))) (dVar 2) (d2 modD (d2 subD (dVar 2) (dC (.int 1))) (dC (.int 6))))))
def F_over_in : List D → Option D := fnD 3 g_over_in
def g_arcs_in : Rs → Option Out :=
  (sSeq (sPar [2, 3, 4] (kP (dCall F_place_in (dCons (dVar 0) dNil)) (kP (dCall F_place_in (dCons (dVar 1) dNil)) (kO dNil kNil))))
    (sSeq (whileD (tB_ (d2 neD (dVar 2) (dVar 3))) (sSeq (sApp 4 (dVar 2))
    (sSet 2 (d2 modD (d2 addD (dVar 2) (dC (.int 1))) (dC (.int 6))))) 7)
    (sRet (dTup (dCons (dCall tupleD (dCons (dCall sortD (dCons (dVar 4) dNil)) dNil)) (dCons (dCall tupleD (dCons (dLc (iRange (dC (.int 6))) (.one 5) (tB_ (d2 niD (dVar 5) (dVar 4))) (dVar 5) [5]) dNil)) dNil))))))
def F_arcs_in : List D → Option D := fnD 6 g_arcs_in
def g_is_stand : Rs → Option Out :=
  (sSeq (sIf (tOr_ (tNot_ (tB_ (dCall F_is_long (dCons (dVar 0) (dCons (dC (.int 4)) dNil))))) (tNot_ (tB_ (dCall F_is_shape (dCons (d2 getD_ (dVar 0) (dC (.int 0))) dNil))))) (sRet (dC (.bool false))) sNext)
    (sSeq (sIf (tNot_ (tB_ (dCall allD (dCons (dLc (iSeq (dSl (dVar 0) (pSo (dC (.int 1))) pNo)) (.one 1) tTrue (vAnd (dCall F_is_long (dCons (dVar 1) (dCons (dC (.int 3)) dNil))) (dCall F_are_numbers (dCons (dVar 1) dNil))) [1]) dNil)))) (sRet (dC (.bool false))) sNext)
    (sRet (dCall allD (dCons (dLc (iSeq (d2 getD_ (dVar 0) (dC (.int 3)))) (.one 1) tTrue (d2 inD (dVar 1) (dTup (dCons (dC (.int 1)) (dCons (d1 negD (dC (.int 1))) dNil)))) [1]) dNil)))))
def F_is_stand : List D → Option D := fnD 2 g_is_stand
def g_sure_stand : Rs → Option Out :=
  (sSeq (sSet 1 (dCall F_tupled (dCons (dVar 0) dNil)))
    (sSeq (sIf (tNot_ (tB_ (dCall F_is_stand (dCons (dVar 1) dNil)))) sNever sNext)
    (sRet (dVar 1))))
def F_sure_stand : List D → Option D := fnD 2 g_sure_stand
def g_is_move : Rs → Option Out :=
  (sSeq (sIf (tB_ (dCall F_is_long (dCons (dVar 0) (dCons (dC (.int 2)) dNil)))) (sRet (vAnd (d2 eqD (d2 getD_ (dVar 0) (dC (.int 0))) (dC (.str (Str.ofString "tip")))) (dCall F_is_within (dCons (d2 getD_ (dVar 0) (dC (.int 1))) (dCons (dC (.int 0)) (dCons (dC (.int 3)) dNil)))))) sNext)
    (sSeq (sIf (tOr_ (tNot_ (tB_ (dCall F_is_long (dCons (dVar 0) (dCons (dC (.int 3)) dNil))))) (tOr_ (tB_ (d2 neD (d2 getD_ (dVar 0) (dC (.int 0))) (dC (.str (Str.ofString "turn"))))) (tNot_ (tB_ (dCall F_is_within (dCons (d2 getD_ (dVar 0) (dC (.int 1))) (dCons (dC (.int 0)) (dCons (dC (.int 3)) dNil)))))))) (sRet (dC (.bool false))) sNext)
    (sRet (vAnd (dCall F_is_number (dCons (d2 getD_ (dVar 0) (dC (.int 2))) dNil)) (d2 inD (d2 getD_ (dVar 0) (dC (.int 2))) (dTup (dCons (dC (.int 1)) (dCons (d1 negD (dC (.int 1))) dNil))))))))
def F_is_move : List D → Option D := fnD 1 g_is_move
def g_more_at : Rs → Option Out :=
  (sRet (d2 addD (d2 addD (dSl (dVar 0) pNo (pSo (dVar 1))) (dTup (dCons (d2 addD (d2 getD_ (dVar 0) (dVar 1)) (dVar 2)) dNil))) (dSl (dVar 0) (pSo (d2 addD (dVar 1) (dC (.int 1)))) pNo)))
def F_more_at : List D → Option D := fnD 3 g_more_at
def g_flipped : Rs → Option Out :=
  (sRet (dCall F_more_at (dCons (dVar 0) (dCons (dVar 1) (dCons (d2 mulD (d1 negD (dC (.int 2))) (d2 getD_ (dVar 0) (dVar 1))) dNil)))))
def F_flipped : List D → Option D := fnD 2 g_flipped
def g_tipped_in : Rs → Option Out :=
  (sSeq (sUnp [2, 3, 4, 5] (dVar 0))
    (sSeq (sUnp [6, 7, 8] (dVar 2))
    (sSeq (sSet 9 (dIf (tB_ (d2 ltD (dVar 1) (dC (.int 2)))) (dC (.int 1)) (d1 negD (dC (.int 1)))))
    (sSeq (sIf (tB_ (d2 eqD (d2 modD (dVar 1) (dC (.int 2))) (dC (.int 0)))) (sRet (dTup (dCons (dTup (dCons (dVar 8) (dCons (dVar 7) (dCons (dVar 6) dNil)))) (dCons (dCall F_more_at (dCons (dCall F_more_at (dCons (dVar 3) (dCons (dVar 6) (dCons (dVar 9) dNil)))) (dCons (dVar 8) (dCons (dVar 9) dNil)))) (dCons (dVar 4) (dCons (dCall F_flipped (dCons (dVar 5) (dCons (dIf (tB_ (d2 eqD (dVar 9) (dC (.int 1)))) (dVar 6) (dVar 8)) dNil))) dNil)))))) sNext)
    (sRet (dTup (dCons (dTup (dCons (dVar 6) (dCons (dVar 8) (dCons (dVar 7) dNil)))) (dCons (dVar 3) (dCons (dCall F_more_at (dCons (dCall F_more_at (dCons (dVar 4) (dCons (dVar 7) (dCons (dVar 9) dNil)))) (dCons (dVar 8) (dCons (dVar 9) dNil)))) (dCons (dCall F_flipped (dCons (dVar 5) (dCons (dIf (tB_ (d2 eqD (dVar 9) (dC (.int 1)))) (dVar 7) (dVar 8)) dNil))) dNil))))))))))
def F_tipped_in : List D → Option D := fnD 10 g_tipped_in
def g_turned_in : Rs → Option Out :=
  (sSeq (sUnp [3, 4, 5, 6] (dVar 0))
    (sSeq (sUnp [7, 8, 9] (dVar 3))
    (sSeq (sSet 10 (dIf (tB_ (d2 inD (dVar 1) (dTup (dCons (dC (.int 1)) (dCons (dC (.int 2)) dNil))))) (dC (.int 1)) (d1 negD (dC (.int 1)))))
    (sSeq (sSet 11 (dIf (tB_ (d2 geD (dVar 1) (dC (.int 2)))) (dC (.int 1)) (d1 negD (dC (.int 1)))))
    (sSeq (sIf (tB_ (d2 eqD (dVar 2) (dC (.int 1)))) (sSeq (sPar [4, 5] (kP (dCall F_more_at (dCons (dCall F_more_at (dCons (dVar 4) (dCons (dVar 7) (dCons (dVar 10) dNil)))) (dCons (dVar 8) (dCons (dVar 11) dNil)))) (kP (dCall F_more_at (dCons (dCall F_more_at (dCons (dVar 5) (dCons (dVar 7) (dCons (d1 negD (dVar 10)) dNil)))) (dCons (dVar 8) (dCons (dVar 11) dNil)))) kNil)))
    (sRet (dTup (dCons (dTup (dCons (dVar 8) (dCons (dVar 7) (dCons (dVar 9) dNil)))) (dCons (dVar 4) (dCons (dVar 5) (dCons (dCall F_flipped (dCons (dVar 6) (dCons (dVar 8) dNil))) dNil))))))) sNext)
    (sSeq (sPar [4, 5] (kP (dCall F_more_at (dCons (dCall F_more_at (dCons (dVar 4) (dCons (dVar 7) (dCons (dVar 10) dNil)))) (dCons (dVar 8) (dCons (d1 negD (dVar 11)) dNil)))) (kP (dCall F_more_at (dCons (dCall F_more_at (dCons (dVar 5) (dCons (dVar 7) (dCons (dVar 10) dNil)))) (dCons (dVar 8) (dCons (dVar 11) dNil)))) kNil)))
    (sRet (dTup (dCons (dTup (dCons (dVar 8) (dCons (dVar 7) (dCons (dVar 9) dNil)))) (dCons (dVar 4) (dCons (dVar 5) (dCons (dCall F_flipped (dCons (dVar 6) (dCons (dVar 7) dNil))) dNil))))))))))))
def F_turned_in : List D → Option D := fnD 12 g_turned_in
def g_moved_in : Rs → Option Out :=
  (sRet (dIf (tB_ (d2 eqD (d2 getD_ (dVar 1) (dC (.int 0))) (dC (.str (Str.ofString "tip"))))) (dCall F_tipped_in (dCons (dVar 0) (dCons (d2 getD_ (dVar 1) (dC (.int 1))) dNil))) (dCall F_turned_in (dCons (dVar 0) (dCons (d2 getD_ (dVar 1) (dC (.int 1))) (dCons (d2 getD_ (dVar 1) (dC (.int 2))) dNil))))))
def F_moved_in : List D → Option D := fnD 2 g_moved_in
def g_is_row_in : Rs → Option Out :=
  (sRet (vAnd (d1 (fun d => some (.bool (isaD "tuple" d))) (dVar 0)) (dCall allD (dCons (dLc (iSeq (dVar 0)) (.one 1) tTrue (dCall F_is_move (dCons (dVar 1) dNil)) [1]) dNil))))
def F_is_row_in : List D → Option D := fnD 2 g_is_row_in
def g_sure_row : Rs → Option Out :=
  (sSeq (sSet 1 (dCall F_tupled (dCons (dVar 0) dNil)))
    (sSeq (sIf (tNot_ (tB_ (dCall F_is_row_in (dCons (dVar 1) dNil)))) sNever sNext)
    (sRet (dVar 1))))
def F_sure_row : List D → Option D := fnD 2 g_sure_row
def g_more_of : Rs → Option Out :=
  (sRet (dCall tupleD (dCons (dLc (iZipD (dVar 0) (dVar 1)) (.many [2, 3]) tTrue (d2 subD (dVar 3) (dVar 2)) [2, 3]) dNil)))
def F_more_of : List D → Option D := fnD 4 g_more_of
def g_counts_in : Rs → Option Out :=
  (sSeq (sSet 2 (dTup (dCons (dCall F_more_of (dCons (d2 getD_ (dVar 0) (dC (.int 1))) (dCons (d2 getD_ (dVar 1) (dC (.int 1))) dNil))) (dCons (dCall F_more_of (dCons (d2 getD_ (dVar 0) (dC (.int 2))) (dCons (d2 getD_ (dVar 1) (dC (.int 2))) dNil))) dNil))))
    (sSeq (sIf (tB_ (dCall anyD (dCons (dLc (iSeq (dVar 2)) (.one 3) tTrue (d2 eqD (d2 modD (dCall sumD (dCons (dVar 3) dNil)) (dC (.int 2))) (dC (.int 1))) [3]) dNil))) (sRet (dC .none)) sNext)
    (sRet (dCall tupleD (dCons (dLc (iRange (dC (.int 6))) (.one 4) tTrue (d2 subD (d2 fdivD (dCall sumD (dCons (d2 getD_ (dVar 2) (d2 modD (dVar 4) (dC (.int 2)))) dNil)) (dC (.int 2))) (d2 getD_ (d2 getD_ (dVar 2) (d2 modD (dVar 4) (dC (.int 2)))) (dCall F_side_in (dCons (dVar 4) dNil)))) [4]) dNil)))))
def F_counts_in : List D → Option D := fnD 5 g_counts_in
def g_shift_in : Rs → Option Out :=
  (sSeq (sSet 2 (dLc (iRange (dC (.int 6))) (.one 5) (tB_ (d2 eqD (d2 modD (dVar 5) (dC (.int 2))) (dVar 1))) (dVar 5) [5]))
    (sSeq (sSetO 3 dNil)
    (sSeq (sFor (iRange (dC (.int 3))) (.one 4) (sApp 3 (dCall sumD (dCons (dLc (iSeq (dVar 2)) (.one 5) (tB_ (d2 neD (dCall F_side_in (dCons (dVar 5) dNil)) (dVar 4))) (d2 getD_ (dVar 0) (dVar 5)) [5]) dNil))))
    (sRet (dCall tupleD (dCons (dVar 3) dNil))))))
def F_shift_in : List D → Option D := fnD 6 g_shift_in
def g_halves_in : Rs → Option Out :=
  (sRet (d2 fdivD (d2 subD (d2 addD (dVar 0) (dCall intD (dCons (dVar 1) dNil))) (dCall intD (dCons (dVar 2) dNil))) (dC (.int 2))))
def F_halves_in : List D → Option D := fnD 3 g_halves_in
def g_fronts_in : Rs → Option Out :=
  (sSeq (sPar [3, 4, 5] (kP (dCall F_shift_in (dCons (dVar 2) (dCons (dC (.int 0)) dNil))) (kP (dCall F_shift_in (dCons (dVar 2) (dCons (dC (.int 1)) dNil))) (kO dNil kNil))))
    (sSeq (sFor (iRange (dC (.int 3))) (.one 6) (sSeq (sSet 7 (dCall F_halves_in (dCons (d2 getD_ (dVar 3) (dVar 6)) (dCons (d2 eqD (d2 getD_ (d2 getD_ (dVar 0) (dC (.int 0))) (dC (.int 0))) (dVar 6)) (dCons (d2 eqD (d2 getD_ (dVar 1) (dC (.int 0))) (dVar 6)) dNil)))))
    (sSeq (sSet 7 (d2 addD (dVar 7) (dCall F_halves_in (dCons (d2 getD_ (dVar 4) (dVar 6)) (dCons (d2 eqD (d2 getD_ (d2 getD_ (dVar 0) (dC (.int 0))) (dC (.int 1))) (dVar 6)) (dCons (d2 eqD (d2 getD_ (dVar 1) (dC (.int 1))) (dVar 6)) dNil))))))
    (sApp 5 (dIf (tB_ (d2 eqD (d2 modD (dVar 7) (dC (.int 2))) (dC (.int 0)))) (d2 getD_ (d2 getD_ (dVar 0) (dC (.int 3))) (dVar 6)) (d2 subD (dC (.int 0)) (d2 getD_ (d2 getD_ (dVar 0) (dC (.int 3))) (dVar 6))))))))
    (sRet (dCall tupleD (dCons (dVar 5) dNil)))))
def F_fronts_in : List D → Option D := fnD 8 g_fronts_in
def g_stretch_from : Rs → Option Out :=
  (sSeq (sPar [3, 4] (kO (dCons (dVar 2) dNil) (kP (d2 modD (d2 addD (dVar 2) (dC (.int 1))) (dC (.int 6))) kNil)))
    (sSeq (whileD (tAnd_ (tB_ (d2 niD (dVar 4) (dVar 0))) (tAnd_ (tB_ (d2 eqD (d2 getD_ (dVar 1) (dVar 4)) (dC (.int 0)))) (tB_ (d2 ltD (dCall lenD (dCons (dVar 3) dNil)) (dC (.int 6)))))) (sSeq (sApp 3 (dVar 4))
    (sSet 4 (d2 modD (d2 addD (dVar 4) (dC (.int 1))) (dC (.int 6))))) 7)
    (sRet (dCall tupleD (dCons (dVar 3) dNil)))))
def F_stretch_from : List D → Option D := fnD 5 g_stretch_from
def g_stretches_in : Rs → Option Out :=
  (sSeq (sPar [3, 4] (kP (dLst (dCons (dCall F_place_in (dCons (dVar 0) dNil)) (dCons (dCall F_place_in (dCons (dVar 1) dNil)) dNil))) (kO dNil kNil)))
    (sSeq (sFor (iRange (dC (.int 6))) (.one 5) (sIf (tAnd_ (tB_ (d2 eqD (d2 getD_ (dVar 2) (dVar 5)) (dC (.int 0)))) (tOr_ (tB_ (d2 inD (dVar 5) (dVar 3))) (tB_ (d2 neD (d2 getD_ (dVar 2) (d2 subD (dVar 5) (dC (.int 1)))) (dC (.int 0)))))) (sApp 4 (dCall F_stretch_from (dCons (dVar 3) (dCons (dVar 2) (dCons (dVar 5) dNil))))) sNext))
    (sRet (dCall sortD (dCons (dVar 4) dNil)))))
def F_stretches_in : List D → Option D := fnD 6 g_stretches_in
def g_is_odd_line : Rs → Option Out :=
  (sRet (d2 eqD (d2 modD (d2 subD (dCall sumD (dCons (d2 getD_ (dVar 1) (dVar 2)) dNil)) (dCall sumD (dCons (d2 getD_ (dVar 0) (dVar 2)) dNil))) (dC (.int 2))) (dC (.int 1))))
def F_is_odd_line : List D → Option D := fnD 3 g_is_odd_line
def g_odd_of : Rs → Option Out :=
  (sRet (dCall tupleD (dCons (dLc (iRange (dC (.int 6))) (.one 1) (tB_ (d2 eqD (d2 modD (d2 getD_ (dVar 0) (dVar 1)) (dC (.int 2))) (dC (.int 1)))) (dVar 1) [1]) dNil)))
def F_odd_of : List D → Option D := fnD 2 g_odd_of
def g_bars_in : Rs → Option Out :=
  (sSeq (sSet 2 (dLc (iRange (dC (.int 2))) (.one 6) (tB_ (dCall F_is_odd_line (dCons (dVar 0) (dCons (dVar 1) (dCons (d2 addD (dVar 6) (dC (.int 1))) dNil))))) (dTup (dCons (dC (.str (Str.ofString "sum"))) (dCons (dVar 6) dNil))) [6]))
    (sSeq (sIf (tB_ (d2 neD (dVar 2) (dLst dNil))) (sRet (dVar 2)) sNext)
    (sSeq (sSet 3 (dCall F_counts_in (dCons (dVar 0) (dCons (dVar 1) dNil))))
    (sSeq (sSet 4 (dCall F_odd_of (dCons (dVar 3) dNil)))
    (sSeq (sIf (tB_ (d2 niD (dVar 4) (dLc (iSeq (dCall F_arcs_in (dCons (d2 getD_ (dVar 0) (dC (.int 0))) (dCons (d2 getD_ (dVar 1) (dC (.int 0))) dNil)))) (.one 8) tTrue (dCall F_set_of (dCons (dVar 8) dNil)) [8]))) (sRet (dLst (dCons (dTup (dCons (dC (.str (Str.ofString "odd"))) (dCons (dVar 4) dNil))) dNil))) sNext)
    (sSeq (sSet 5 (dCall F_fronts_in (dCons (dVar 0) (dCons (d2 getD_ (dVar 1) (dC (.int 0))) (dCons (dVar 3) dNil)))))
    (sRet (dLc (iRange (dC (.int 3))) (.one 7) (tB_ (d2 neD (d2 getD_ (dVar 5) (dVar 7)) (d2 getD_ (d2 getD_ (dVar 1) (dC (.int 3))) (dVar 7)))) (dTup (dCons (dC (.str (Str.ofString "front"))) (dCons (dVar 7) dNil))) [7]))))))))
def F_bars_in : List D → Option D := fnD 9 g_bars_in
def g_can_in : Rs → Option Out :=
  (sRet (d2 eqD (dCall F_bars_in (dCons (dVar 0) (dCons (dVar 1) dNil))) (dLst dNil)))
def F_can_in : List D → Option D := fnD 2 g_can_in
def g_sure_both : Rs → Option Out :=
  (sRet (dTup (dCons (dCall F_sure_stand (dCons (dVar 0) dNil)) (dCons (dCall F_sure_stand (dCons (dVar 1) dNil)) dNil))))
def F_sure_both : List D → Option D := fnD 2 g_sure_both
def g_sure_way : Rs → Option Out :=
  (sSeq (sUnp [2, 3] (dCall F_sure_both (dCons (dVar 0) (dCons (dVar 1) dNil))))
    (sSeq (sIf (tNot_ (tB_ (dCall F_can_in (dCons (dVar 2) (dCons (dVar 3) dNil))))) sNever sNext)
    (sRet (dTup (dCons (dVar 2) (dCons (dVar 3) dNil))))))
def F_sure_way : List D → Option D := fnD 4 g_sure_way
def g_is_tips : Rs → Option Out :=
  (sSeq (sIf (tOr_ (tNot_ (tB_ (d1 (fun d => some (.bool (isaD "tuple" d))) (dVar 0)))) (tNot_ (tB_ (dCall allD (dCons (dLc (iSeq (dVar 0)) (.one 1) tTrue (vAnd (d1 (fun d => some (.bool (isaD "tuple" d))) (dVar 1)) (d2 eqD (dCall lenD (dCons (dVar 1) dNil)) (dC (.int 2)))) [1]) dNil))))) (sRet (dC (.bool false))) sNext)
    (sRet (dCall allD (dCons (dLc (iSeq (dVar 0)) (.one 1) tTrue (vAnd (d1 (fun d => some (.bool (isaD "str" d))) (d2 getD_ (dVar 1) (dC (.int 0)))) (vAnd (d2 eqD (d2 getD_ (dVar 1) (dC (.int 0))) (dC (.str (Str.ofString "tip")))) (dCall F_is_within (dCons (d2 getD_ (dVar 1) (dC (.int 1))) (dCons (dC (.int 0)) (dCons (dC (.int 3)) dNil)))))) [1]) dNil))))
def F_is_tips : List D → Option D := fnD 2 g_is_tips
def g_sure_prices : Rs → Option Out :=
  (sSeq (sSet 1 (dCall F_tupled (dCons (dVar 0) dNil)))
    (sSeq (sIf (tOr_ (tNot_ (tB_ (dCall F_is_long (dCons (dVar 1) (dCons (dC (.int 6)) dNil))))) (tNot_ (tB_ (dCall allD (dCons (dLc (iSeq (dVar 1)) (.one 2) tTrue (dCall F_is_from (dCons (dVar 2) (dCons (dC (.int 0)) dNil))) [2]) dNil))))) sNever sNext)
    (sRet (dVar 1))))
def F_sure_prices : List D → Option D := fnD 3 g_sure_prices
def g_sure_priced : Rs → Option Out :=
  (sSeq (sDrop (dCall F_sure_both (dCons (dVar 0) (dCons (dVar 1) dNil))))
    (sSeq (sSet 3 (dCall F_sure_prices (dCons (dVar 2) dNil)))
    (sSeq (sUnp [4, 5] (dCall F_sure_way (dCons (dVar 0) (dCons (dVar 1) dNil))))
    (sRet (dTup (dCons (dVar 4) (dCons (dVar 5) (dCons (dVar 3) dNil))))))))
def F_sure_priced : List D → Option D := fnD 6 g_sure_priced
def g_price_in : Rs → Option Out :=
  (sSeq (sPar [3, 4] (kP (dC (.int 0)) (kP (dVar 0) kNil)))
    (sSeq (sFor (iSeq (dVar 1)) (.one 5) (sSeq (sAug 3 (d2 getD_ (dVar 2) (dCall F_over_in (dCons (d2 getD_ (dVar 4) (dC (.int 0))) (dCons (d2 getD_ (dVar 5) (dC (.int 1))) dNil)))))
    (sSet 4 (dCall F_moved_in (dCons (dVar 4) (dCons (dVar 5) dNil))))))
    (sRet (dVar 3))))
def F_price_in : List D → Option D := fnD 6 g_price_in
def g_price_of : Rs → Option Out :=
  (sSeq (sPar [3, 4] (kP (dCall F_sure_stand (dCons (dVar 0) dNil)) (kP (dCall F_sure_row (dCons (dVar 1) dNil)) kNil)))
    (sSeq (sSet 5 (dCall F_sure_prices (dCons (dVar 2) dNil)))
    (sSeq (sIf (tNot_ (tB_ (dCall F_is_tips (dCons (dVar 4) dNil)))) sNever sNext)
    (sRet (dCall F_price_in (dCons (dVar 3) (dCons (dVar 4) (dCons (dVar 5) dNil))))))))
def F_price_of : List D → Option D := fnD 6 g_price_of
def g_bridges_in : Rs → Option Out :=
  (sRet (dLc (iRange (dC (.int 6))) (.one 2) (tAnd_ (tB_ (d2 eqD (d2 getD_ (dVar 0) (dVar 2)) (dC (.int 0)))) (tB_ (d2 niD (dVar 2) (dVar 1)))) (dVar 2) [2]))
def F_bridges_in : List D → Option D := fnD 3 g_bridges_in
def g_priced_in : Rs → Option Out :=
  (sSeq (sPar [3, 4] (kP (dCall F_counts_in (dCons (dVar 0) (dCons (dVar 1) dNil))) (kO dNil kNil)))
    (sSeq (sPar [6, 7] (kP (dCall sumD (dCons (dLc (iSeq (dVar 3)) (.one 11) tTrue (dCall absD (dCons (dVar 11) dNil)) [11]) dNil)) (kP (dCall sumD (dCons (dLc (iZipD (dVar 3) (dVar 2)) (.many [11, 5]) tTrue (d2 mulD (dCall absD (dCons (dVar 11) dNil)) (dVar 5)) [11, 5]) dNil)) kNil)))
    (sSeq (sSet 8 (dLc (iSeq (dCall F_stretches_in (dCons (d2 getD_ (dVar 0) (dC (.int 0))) (dCons (d2 getD_ (dVar 1) (dC (.int 0))) (dCons (dVar 3) dNil))))) (.one 11) tTrue (dCall F_set_of (dCons (dVar 11) dNil)) [11]))
    (sSeq (sFor (iSeq (dIf (tB_ (d2 neD (dVar 8) (dLst dNil))) (dVar 8) (dLst (dCons (dTup dNil) dNil)))) (.one 9) (sSeq (sSet 10 (dCall F_bridges_in (dCons (dVar 3) (dCons (dVar 9) dNil))))
    (sSeq (sSet 5 (d2 addD (dVar 7) (d2 mulD (dC (.int 2)) (dCall sumD (dCons (dLc (iSeq (dVar 10)) (.one 12) tTrue (d2 getD_ (dVar 2) (dVar 12)) [12]) dNil)))))
    (sApp 4 (dTup (dCons (dVar 5) (dCons (d2 addD (dVar 6) (d2 mulD (dC (.int 2)) (dCall lenD (dCons (dVar 10) dNil)))) (dCons (dVar 9) dNil))))))))
    (sRet (dVar 4))))))
def F_priced_in : List D → Option D := fnD 13 g_priced_in
def g_least_in : Rs → Option Out :=
  (sRet (dCall minLD (dCons (dLc (iSeq (dCall F_priced_in (dCons (dVar 0) (dCons (dVar 1) (dCons (dVar 2) dNil))))) (.one 3) tTrue (d2 getD_ (dVar 3) (dC (.int 0))) [3]) dNil)))
def F_least_in : List D → Option D := fnD 4 g_least_in
def g_cheapest : Rs → Option Out :=
  (sSeq (sUnp [3, 4, 5] (dCall F_sure_priced (dCons (dVar 0) (dCons (dVar 1) (dCons (dVar 2) dNil)))))
    (sRet (dCall F_least_in (dCons (dVar 3) (dCons (dVar 4) (dCons (dVar 5) dNil))))))
def F_cheapest : List D → Option D := fnD 6 g_cheapest
def g_cheap_and_few : Rs → Option Out :=
  (sSeq (sUnp [3, 4, 5] (dCall F_sure_priced (dCons (dVar 0) (dCons (dVar 1) (dCons (dVar 2) dNil)))))
    (sRet (dSl (dCall minLD (dCons (dCall F_priced_in (dCons (dVar 3) (dCons (dVar 4) (dCons (dVar 5) dNil)))) dNil)) pNo (pSo (dC (.int 2))))))
def F_cheap_and_few : List D → Option D := fnD 6 g_cheap_and_few
def g_l_lists (Fself : List D → Option D) : Rs → Option Out :=
  (sRet (dIf (tB_ (d1 (fun d => some (.bool (isaD "list" d || isaD "tuple" d))) (dVar 0))) (dLc (iSeq (dVar 0)) (.one 1) tTrue (dCall Fself (dCons (dVar 1) dNil)) [1]) (dVar 0)))
def FN_l_lists : Nat → List D → Option D
  | 0 => fun _ => none
  | n + 1 => fnD 2 (g_l_lists (FN_l_lists n))
def F_l_lists : List D → Option D := FN_l_lists 4
def g_l_same (Fself : List D → Option D) : Rs → Option Out :=
  (sSeq (sIf (tB_ (d1 (fun d => some (.bool (isaD "list" d || isaD "tuple" d))) (dVar 1))) (sSeq (sIf (tOr_ (tB_ (d2 neD (d1 (fun d => some (.bool (isaD "list" d))) (dVar 0)) (d1 (fun d => some (.bool (isaD "list" d))) (dVar 1)))) (tB_ (d2 neD (d1 (fun d => some (.bool (isaD "tuple" d))) (dVar 0)) (d1 (fun d => some (.bool (isaD "tuple" d))) (dVar 1))))) (sRet (dC (.bool false))) sNext)
    (sRet (vAnd (d2 eqD (dCall lenD (dCons (dVar 0) dNil)) (dCall lenD (dCons (dVar 1) dNil))) (dCall allD (dCons (dLc (iZipD (dVar 0) (dVar 1)) (.many [2, 3]) tTrue (dCall Fself (dCons (dVar 2) (dCons (dVar 3) dNil))) [2, 3]) dNil))))) sNext)
    (sSeq (sIf (tOr_ (tB_ (d2 isD (dVar 1) (dC .none))) (tB_ (d1 (fun d => some (.bool (isaD "bool" d || isaD "str" d))) (dVar 1)))) (sRet (vAnd (d2 eqD (dVar 0) (dVar 1)) (vAnd (d2 eqD (d1 (fun d => some (.bool (isaD "bool" d))) (dVar 0)) (d1 (fun d => some (.bool (isaD "bool" d))) (dVar 1))) (d2 eqD (d2 isD (dVar 0) (dC .none)) (d2 isD (dVar 1) (dC .none)))))) sNext)
    (sRet (vAnd (d1 (fun d => some (.bool (isaD "int" d))) (dVar 0)) (vAnd (vNot (d1 (fun d => some (.bool (isaD "bool" d))) (dVar 0))) (d2 eqD (dVar 0) (dVar 1)))))))
def FN_l_same : Nat → List D → Option D
  | 0 => fun _ => none
  | n + 1 => fnD 4 (g_l_same (FN_l_same n))
def F_l_same : List D → Option D := FN_l_same 4
def g_l_home : Rs → Option Out :=
  (sRet (dTup (dCons (dTup (dCons (dC (.int 0)) (dCons (dC (.int 1)) (dCons (dC (.int 2)) dNil)))) (dCons (dTup (dCons (dC (.int 0)) (dCons (dC (.int 0)) (dCons (dC (.int 0)) dNil)))) (dCons (dTup (dCons (dC (.int 0)) (dCons (dC (.int 0)) (dCons (dC (.int 0)) dNil)))) (dCons (dTup (dCons (dC (.int 1)) (dCons (dC (.int 1)) (dCons (dC (.int 1)) dNil)))) dNil))))))
def F_l_home : List D → Option D := fnD 0 g_l_home
def g_l_poses : Rs → Option Out :=
  (sRet (dLst (dCons (dTup (dCons (dC (.int 0)) (dCons (dC (.int 1)) (dCons (dC (.int 2)) dNil)))) (dCons (dTup (dCons (dC (.int 2)) (dCons (dC (.int 1)) (dCons (dC (.int 0)) dNil)))) (dCons (dTup (dCons (dC (.int 2)) (dCons (dC (.int 0)) (dCons (dC (.int 1)) dNil)))) (dCons (dTup (dCons (dC (.int 1)) (dCons (dC (.int 0)) (dCons (dC (.int 2)) dNil)))) (dCons (dTup (dCons (dC (.int 1)) (dCons (dC (.int 2)) (dCons (dC (.int 0)) dNil)))) (dCons (dTup (dCons (dC (.int 0)) (dCons (dC (.int 2)) (dCons (dC (.int 1)) dNil)))) dNil))))))))
def F_l_poses : List D → Option D := fnD 0 g_l_poses
def g_l_across : Rs → Option Out :=
  (sRet (dLst (dCons (dC (.int 1)) (dCons (dC (.int 2)) (dCons (dC (.int 0)) (dCons (dC (.int 1)) (dCons (dC (.int 2)) (dCons (dC (.int 0)) dNil))))))))
def F_l_across : List D → Option D := fnD 0 g_l_across
def g_l_plus : Rs → Option Out :=
  (sRet (d2 addD (d2 addD (dSl (dVar 0) pNo (pSo (dVar 1))) (dTup (dCons (d2 addD (d2 getD_ (dVar 0) (dVar 1)) (dVar 2)) dNil))) (dSl (dVar 0) (pSo (d2 addD (dVar 1) (dC (.int 1)))) pNo)))
def F_l_plus : List D → Option D := fnD 3 g_l_plus
def g_l_flip : Rs → Option Out :=
  (sRet (d2 addD (d2 addD (dSl (dVar 0) pNo (pSo (dVar 1))) (dTup (dCons (d1 negD (d2 getD_ (dVar 0) (dVar 1))) dNil))) (dSl (dVar 0) (pSo (d2 addD (dVar 1) (dC (.int 1)))) pNo)))
def F_l_flip : List D → Option D := fnD 2 g_l_flip
def g_l_tip : Rs → Option Out :=
  (sSeq (sUnp [2, 3, 4, 5] (dVar 0))
    (sSeq (sUnp [6, 7, 8] (dVar 2))
    (sSeq (sSet 9 (dIf (tB_ (d2 ltD (dVar 1) (dC (.int 2)))) (dC (.int 1)) (d1 negD (dC (.int 1)))))
    (sSeq (sIf (tB_ (d2 eqD (d2 modD (dVar 1) (dC (.int 2))) (dC (.int 0)))) (sSeq (sSet 3 (dCall F_l_plus (dCons (dCall F_l_plus (dCons (dVar 3) (dCons (dVar 6) (dCons (dVar 9) dNil)))) (dCons (dVar 8) (dCons (dVar 9) dNil)))))
    (sRet (dTup (dCons (dTup (dCons (dVar 8) (dCons (dVar 7) (dCons (dVar 6) dNil)))) (dCons (dVar 3) (dCons (dVar 4) (dCons (dCall F_l_flip (dCons (dVar 5) (dCons (dIf (tB_ (d2 eqD (dVar 1) (dC (.int 0)))) (dVar 6) (dVar 8)) dNil))) dNil))))))) sNext)
    (sSeq (sSet 4 (dCall F_l_plus (dCons (dCall F_l_plus (dCons (dVar 4) (dCons (dVar 7) (dCons (dVar 9) dNil)))) (dCons (dVar 8) (dCons (dVar 9) dNil)))))
    (sRet (dTup (dCons (dTup (dCons (dVar 6) (dCons (dVar 8) (dCons (dVar 7) dNil)))) (dCons (dVar 3) (dCons (dVar 4) (dCons (dCall F_l_flip (dCons (dVar 5) (dCons (dIf (tB_ (d2 eqD (dVar 1) (dC (.int 1)))) (dVar 7) (dVar 8)) dNil))) dNil)))))))))))
def F_l_tip : List D → Option D := fnD 10 g_l_tip
def g_l_turn : Rs → Option Out :=
  (sSeq (sUnp [3, 4, 5, 6] (dVar 0))
    (sSeq (sUnp [7, 8, 9] (dVar 3))
    (sSeq (sSet 10 (dIf (tB_ (d2 inD (dVar 1) (dTup (dCons (dC (.int 1)) (dCons (dC (.int 2)) dNil))))) (dC (.int 1)) (d1 negD (dC (.int 1)))))
    (sSeq (sSet 11 (dIf (tB_ (d2 inD (dVar 1) (dTup (dCons (dC (.int 2)) (dCons (dC (.int 3)) dNil))))) (dC (.int 1)) (d1 negD (dC (.int 1)))))
    (sSeq (sSet 4 (dCall F_l_plus (dCons (dCall F_l_plus (dCons (dVar 4) (dCons (dVar 7) (dCons (dVar 10) dNil)))) (dCons (dVar 8) (dCons (d2 mulD (dVar 11) (dVar 2)) dNil)))))
    (sSeq (sSet 5 (dCall F_l_plus (dCons (dCall F_l_plus (dCons (dVar 5) (dCons (dVar 8) (dCons (dVar 11) dNil)))) (dCons (dVar 7) (dCons (d2 mulD (d1 negD (dVar 10)) (dVar 2)) dNil)))))
    (sRet (dTup (dCons (dTup (dCons (dVar 8) (dCons (dVar 7) (dCons (dVar 9) dNil)))) (dCons (dVar 4) (dCons (dVar 5) (dCons (dCall F_l_flip (dCons (dVar 6) (dCons (dIf (tB_ (d2 eqD (dVar 2) (dC (.int 1)))) (dVar 8) (dVar 7)) dNil))) dNil))))))))))))
def F_l_turn : List D → Option D := fnD 12 g_l_turn
def g_l_step : Rs → Option Out :=
  (sRet (dIf (tB_ (d2 eqD (d2 getD_ (dVar 1) (dC (.int 0))) (dC (.str (Str.ofString "tip"))))) (dCall F_l_tip (dCons (dVar 0) (dCons (d2 getD_ (dVar 1) (dC (.int 1))) dNil))) (dCall F_l_turn (dCons (dVar 0) (dCons (d2 getD_ (dVar 1) (dC (.int 1))) (dCons (d2 getD_ (dVar 1) (dC (.int 2))) dNil))))))
def F_l_step : List D → Option D := fnD 2 g_l_step
def g_l_behind : Rs → Option Out :=
  (sSeq (sFor (iSeq (dVar 1)) (.one 2) (sSet 0 (dCall F_l_step (dCons (dVar 0) (dCons (dVar 2) dNil)))))
    (sRet (dVar 0)))
def F_l_behind : List D → Option D := fnD 3 g_l_behind
def g_l_tips : Rs → Option Out :=
  (sRet (dLc (iRange (dC (.int 4))) (.one 0) tTrue (dTup (dCons (dC (.str (Str.ofString "tip"))) (dCons (dVar 0) dNil))) [0]))
def F_l_tips : List D → Option D := fnD 1 g_l_tips
def g_l_tally : Rs → Option Out :=
  (sSeq (sSet 2 (dLc (iZipD (d2 getD_ (dVar 0) (dC (.int 1))) (d2 getD_ (dVar 1) (dC (.int 1)))) (.many [8, 9]) tTrue (d2 subD (dVar 9) (dVar 8)) [8, 9]))
    (sSeq (sSet 3 (dLc (iZipD (d2 getD_ (dVar 0) (dC (.int 2))) (d2 getD_ (dVar 1) (dC (.int 2)))) (.many [8, 9]) tTrue (d2 subD (dVar 9) (dVar 8)) [8, 9]))
    (sSeq (sIf (tOr_ (tB_ (d2 eqD (d2 modD (dCall sumD (dCons (dVar 2) dNil)) (dC (.int 2))) (dC (.int 1)))) (tB_ (d2 eqD (d2 modD (dCall sumD (dCons (dVar 3) dNil)) (dC (.int 2))) (dC (.int 1))))) (sRet (dC .none)) sNext)
    (sSeq (sSetO 4 dNil)
    (sSeq (sFor (iEnumD (dCall F_l_across dNil)) (.many [5, 6]) (sSeq (sSet 7 (dIf (tB_ (d2 eqD (d2 modD (dVar 5) (dC (.int 2))) (dC (.int 0)))) (dVar 2) (dVar 3)))
    (sApp 4 (d2 subD (d2 fdivD (dCall sumD (dCons (dVar 7) dNil)) (dC (.int 2))) (d2 getD_ (dVar 7) (dVar 6))))))
    (sRet (dCall tupleD (dCons (dVar 4) dNil))))))))
def F_l_tally : List D → Option D := fnD 10 g_l_tally
def g_l_over : Rs → Option Out :=
  (sSeq (sSet 2 (d2 indexL (dCall F_l_poses dNil) (dVar 0)))
    (sRet (dIf (tB_ (d2 eqD (d2 eqD (d2 modD (dVar 2) (dC (.int 2))) (dC (.int 0))) (d2 eqD (d2 modD (dCall intD (dCons (dVar 1) dNil)) (dC (.int 2))) (dC (.int 0))))) (dVar 2) (d2 modD (dCall intD (dCons (d2 addD (dVar 2) (dC (.int 5))) dNil)) (dC (.int 6))))))
def F_l_over : List D → Option D := fnD 3 g_l_over
def g_l_fee : Rs → Option Out :=
  (sSeq (sSet 3 (dC (.int 0)))
    (sSeq (sFor (iSeq (dVar 1)) (.one 4) (sSeq (sSet 3 (d2 addD (dVar 3) (d2 getD_ (dVar 2) (dCall F_l_over (dCons (d2 getD_ (dVar 0) (dC (.int 0))) (dCons (d2 getD_ (dVar 4) (dC (.int 1))) dNil))))))
    (sSet 0 (dCall F_l_step (dCons (dVar 0) (dCons (dVar 4) dNil))))))
    (sRet (dVar 3))))
def F_l_fee : List D → Option D := fnD 5 g_l_fee
def g_l_hangs : Rs → Option Out :=
  (sSeq (sSetO 3 (dCons (dVar 1) dNil))
    (sSeq (sFor (iRange (dC (.int 6))) (.one 4) (sFor (iSeq (dVar 0)) (.one 5) (sSeq (sSet 6 (d2 modD (dCall intD (dCons (d2 addD (dVar 5) (dC (.int 1))) dNil)) (dC (.int 6))))
    (sSeq (sIf (tAnd_ (tB_ (d2 inD (dVar 5) (dVar 3))) (tB_ (d2 niD (dVar 6) (dVar 3)))) (sApp 3 (dVar 6)) sNext)
    (sIf (tAnd_ (tB_ (d2 inD (dVar 6) (dVar 3))) (tB_ (d2 niD (dVar 5) (dVar 3)))) (sApp 3 (dVar 5)) sNext)))))
    (sRet (vAnd (d2 inD (dVar 2) (dVar 3)) (d2 eqD (dLc (iSeq (dVar 0)) (.one 5) (tB_ (d2 niD (dVar 5) (dVar 3))) (dVar 5) [5]) (dLst dNil))))))
def F_l_hangs : List D → Option D := fnD 7 g_l_hangs
def g_l_lots : Rs → Option Out :=
  (sSeq (sSet 0 (dLst (dCons (dTup dNil) dNil)))
    (sSeq (sFor (iRange (dC (.int 6))) (.one 1) (sSet 0 (d2 addD (dVar 0) (dLc (iSeq (dVar 0)) (.one 2) tTrue (d2 addD (dVar 2) (dTup (dCons (dVar 1) dNil))) [2]))))
    (sRet (dVar 0))))
def F_l_lots : List D → Option D := fnD 3 g_l_lots
def g_l_thrift : Rs → Option Out :=
  (sSeq (sPar [3, 4] (kP (dCall F_l_tally (dCons (dVar 0) (dCons (dVar 1) dNil))) (kP (dC .none) kNil)))
    (sSeq (sPar [5, 6] (kP (d2 indexL (dCall F_l_poses dNil) (d2 getD_ (dVar 0) (dC (.int 0)))) (kP (d2 indexL (dCall F_l_poses dNil) (d2 getD_ (dVar 1) (dC (.int 0)))) kNil)))
    (sSeq (sSet 7 (dLc (iRange (dC (.int 6))) (.one 12) (tB_ (d2 neD (d2 getD_ (dVar 3) (dVar 12)) (dC (.int 0)))) (dVar 12) [12]))
    (sSeq (sFor (iSeq (dCall F_l_lots dNil)) (.one 8) (sIf (tAnd_ (tB_ (d2 eqD (dLc (iSeq (dVar 7)) (.one 12) (tB_ (d2 niD (dVar 12) (dVar 8))) (dVar 12) [12]) (dLst dNil))) (tB_ (dCall F_l_hangs (dCons (dVar 8) (dCons (dVar 5) (dCons (dVar 6) dNil)))))) (sSeq (sSet 9 (dLc (iSeq (dVar 8)) (.one 12) tTrue (dIf (tB_ (d2 neD (d2 getD_ (dVar 3) (dVar 12)) (dC (.int 0)))) (dCall absD (dCons (d2 getD_ (dVar 3) (dVar 12)) dNil)) (dC (.int 2))) [12]))
    (sSeq (sSet 10 (dCall sumD (dCons (dLc (iZipM (dVar 9) (dVar 8)) (.many [13, 12]) tTrue (d2 mulD (dVar 13) (d2 getD_ (dVar 2) (dVar 12))) [13, 12]) dNil)))
    (sSeq (sSet 11 (dCall tupleD (dCons (dLc (iRange (dC (.int 6))) (.one 12) (tB_ (d2 niD (dVar 12) (dVar 8))) (dVar 12) [12]) dNil)))
    (sSet 4 (dCall minLD (dCons (dLc (iSeq (dLst (dCons (dVar 4) (dCons (dTup (dCons (dVar 10) (dCons (dCall sumD (dCons (dVar 9) dNil)) (dCons (dVar 11) dNil)))) dNil)))) (.one 13) (tB_ (d2 isntD (dVar 13) (dC .none))) (dVar 13) [13]) dNil)))))) sNext))
    (sRet (dVar 4))))))
def F_l_thrift : List D → Option D := fnD 14 g_l_thrift
end DL

/-! W1: walks (printed by gen.py). -/
namespace DL
open PySem PySem.Spec PyProof.Rows L2
section
variable {P : Program} {w : World} {K : PySem.W.Frag} {mg : Str → Option Value} {base : Heap}
theorem c_is_number {f : Addr} {fd : FuncData} (F : Fun K "is_number" "is_number" s_is_number f fd) (hm : mg "is_number" = some (.ref f)) (hB : Binds K fd ["thing"] []) (B : Txt K mg) : Callee P w K mg base 2 "is_number" 1 F_is_number := by
  exact callee_mk F sc_is_number hm hB rfl fun cdv A outer s H E hr => (
      (dss_one (ds_ret (de_and (de_isa (T := "int") (by rfl) B.isinstance (by decide) (by rfl) B.int boot_int' (by decide) (by decide) (de_var 0)) (de_one (de_not (de_isa (T := "bool") (by rfl) B.isinstance (by decide) (by rfl) B.bool boot_bool' (by decide) (by decide) (de_var 0))))))))
theorem c_is_from {f : Addr} {fd : FuncData} (F : Fun K "is_from" "is_from" s_is_from f fd) (hm : mg "is_from" = some (.ref f)) (hB : Binds K fd ["thing", "least"] []) (B : Txt K mg) (C_is_number : Callee P w K mg base 2 "is_number" 1 F_is_number) : Callee P w K mg base 3 "is_from" 2 F_is_from := by
  exact callee_mk F sc_is_from hm hB rfl fun cdv A outer s H E hr => (
      (dss_one (ds_ret (de_and (de_call C_is_number (hr.mono (by decide)) (by rfl) (da_cons (de_var 0) da_nil) rfl (len_cons len_nil)) (de_one (de_ge (de_var 0) (de_var 1)))))))
theorem c_is_within {f : Addr} {fd : FuncData} (F : Fun K "is_within" "is_within" s_is_within f fd) (hm : mg "is_within" = some (.ref f)) (hB : Binds K fd ["thing", "least", "most"] []) (B : Txt K mg) (C_is_number : Callee P w K mg base 2 "is_number" 1 F_is_number) : Callee P w K mg base 3 "is_within" 3 F_is_within := by
  exact callee_mk F sc_is_within hm hB rfl fun cdv A outer s H E hr => (
      (dss_one (ds_ret (de_and (de_call C_is_number (hr.mono (by decide)) (by rfl) (da_cons (de_var 0) da_nil) rfl (len_cons len_nil)) (de_one (de_chain (de_var 1) (de_var 0) (de_var 2)))))))
theorem c_is_long {f : Addr} {fd : FuncData} (F : Fun K "is_long" "is_long" s_is_long f fd) (hm : mg "is_long" = some (.ref f)) (hB : Binds K fd ["thing", "length"] []) (B : Txt K mg) : Callee P w K mg base 2 "is_long" 2 F_is_long := by
  exact callee_mk F sc_is_long hm hB rfl fun cdv A outer s H E hr => (
      (dss_one (ds_ret (de_and (de_isa (T := "tuple") (by rfl) B.isinstance (by decide) (by rfl) B.tuple boot_tuple' (by decide) (by decide) (de_var 0)) (de_one (de_eq hr (de_len (by rfl) B.len (da_cons (de_var 0) da_nil)) (de_var 1)))))))
theorem cn_tupled {f : Addr} {fd : FuncData} (F : Fun K "tupled" "tupled" s_tupled f fd) (hm : mg "tupled" = some (.ref f)) (hB : Binds K fd ["value"] []) (B : Txt K mg) : ∀ n : Nat, Callee P w K mg base (1 + n + 1) "tupled" 1 (FN_tupled n)
  | 0 => by
    exact callee_none F sc_tupled hm hB
  | n + 1 => by
    have Cself := cn_tupled F hm hB B n
    exact callee_mk F sc_tupled hm hB rfl fun cdv A outer s H E hr => (
      (dss_one (ds_ret (de_if (dt_val (de_isa2 (T := "list") (U := "tuple") (by rfl) B.isinstance (by decide) (by decide) (by rfl) B.list boot_list' (by decide) (by decide) (by rfl) B.tuple boot_tuple' (by decide) (by decide) (de_var 0))) (de_tuple (by rfl) B.tuple (da_cons (de_lc (own := [("own", 1)]) rfl sc_tupled.nd (di_seq (de_var 0)) (blkOk_by (N := N_tupled) (sc := defScope s_tupled) (by decide +kernel)) tgt_one (by decide) (fun _ _ _ _ _ => (pg_name (i := 1) sc_tupled.nd rfl (Or.inl rfl))) (fun _ _ _ _ _ => dts_nil) (fun _ _ _ _ _ => (de_call Cself (hr.mono (by omega)) (by rfl) (da_cons (de_var 1) da_nil) rfl (len_cons len_nil)))) da_nil)) (de_var 0)))))
theorem c_tupled {f : Addr} {fd : FuncData} (F : Fun K "tupled" "tupled" s_tupled f fd) (hm : mg "tupled" = some (.ref f)) (hB : Binds K fd ["value"] []) (B : Txt K mg) : Callee P w K mg base 6 "tupled" 1 F_tupled := cn_tupled F hm hB B 4
theorem c_set_of {f : Addr} {fd : FuncData} (F : Fun K "set_of" "set_of" s_set_of f fd) (hm : mg "set_of" = some (.ref f)) (hB : Binds K fd ["row"] []) (B : Txt K mg) : Callee P w K mg base 2 "set_of" 1 F_set_of := by
  exact callee_mk F sc_set_of hm hB rfl fun cdv A outer s H E hr => (
      (dss_one (ds_ret (de_tuple (by rfl) B.tuple (da_cons (de_sortSet rfl (by rfl) B.sorted (by rfl) B.set (de_var 0)) da_nil)))))
theorem c_are_numbers {f : Addr} {fd : FuncData} (F : Fun K "are_numbers" "are_numbers" s_are_numbers f fd) (hm : mg "are_numbers" = some (.ref f)) (hB : Binds K fd ["thing"] []) (B : Txt K mg) (C_is_number : Callee P w K mg base 2 "is_number" 1 F_is_number) : Callee P w K mg base 3 "are_numbers" 1 F_are_numbers := by
  exact callee_mk F sc_are_numbers hm hB rfl fun cdv A outer s H E hr => (
      (dss_one (ds_ret (de_and (de_isa (T := "tuple") (by rfl) B.isinstance (by decide) (by rfl) B.tuple boot_tuple' (by decide) (by decide) (de_var 0)) (de_one (de_all rfl (by rfl) B.all (da_cons (de_lc (own := [("own", 1)]) rfl sc_are_numbers.nd (di_seq (de_var 0)) (blkOk_by (N := N_are_numbers) (sc := defScope s_are_numbers) (by decide +kernel)) tgt_one (by decide) (fun _ _ _ _ _ => (pg_name (i := 1) sc_are_numbers.nd rfl (Or.inl rfl))) (fun _ _ _ _ _ => dts_nil) (fun _ _ _ _ _ => (de_call C_is_number (hr.mono (by decide)) (by rfl) (da_cons (de_var 1) da_nil) rfl (len_cons len_nil)))) da_nil)))))))
theorem c_is_shape {f : Addr} {fd : FuncData} (F : Fun K "is_shape" "is_shape" s_is_shape f fd) (hm : mg "is_shape" = some (.ref f)) (hB : Binds K fd ["thing"] []) (B : Txt K mg) (C_is_number : Callee P w K mg base 2 "is_number" 1 F_is_number) (C_is_long : Callee P w K mg base 2 "is_long" 2 F_is_long) : Callee P w K mg base 3 "is_shape" 1 F_is_shape := by
  obtain ⟨RING_a, RING_mg, RING_o, RING_dq⟩ := B.RING
  exact callee_mk F sc_is_shape hm hB rfl fun cdv A outer s H E hr => (
      (dss_one (ds_ret (de_and (de_call C_is_long (hr.mono (by decide)) (by rfl) (da_cons (de_var 0) (da_cons de_int da_nil)) rfl (len_cons (len_cons len_nil))) (de_and (de_all rfl (by rfl) B.all (da_cons (de_lc (own := [("own", 1)]) rfl sc_is_shape.nd (di_seq (de_var 0)) (blkOk_by (N := N_is_shape) (sc := defScope s_is_shape) (by decide +kernel)) tgt_one (by decide) (fun _ _ _ _ _ => (pg_name (i := 1) sc_is_shape.nd rfl (Or.inl rfl))) (fun _ _ _ _ _ => dts_nil) (fun _ _ _ _ _ => (de_call C_is_number (hr.mono (by decide)) (by rfl) (da_cons (de_var 1) da_nil) rfl (len_cons len_nil)))) da_nil)) (de_one (de_in hr (de_var 0) (de_glob (v := .ref RING_a) (by rfl) RING_mg rfl RING_dq))))))))
theorem c_place_in {f : Addr} {fd : FuncData} (F : Fun K "place_in" "place_in" s_place_in f fd) (hm : mg "place_in" = some (.ref f)) (hB : Binds K fd ["shape"] []) (B : Txt K mg) : Callee P w K mg base 2 "place_in" 1 F_place_in := by
  obtain ⟨RING_a, RING_mg, RING_o, RING_dq⟩ := B.RING
  exact callee_mk F sc_place_in hm hB rfl fun cdv A outer s H E hr => (
      (dss_one (ds_ret (de_indexT hr (pe_glob (v := .ref RING_a) (by rfl) RING_mg rfl) RING_o RING_dq (de_var 0)))))
theorem c_side_in {f : Addr} {fd : FuncData} (F : Fun K "side_in" "side_in" s_side_in f fd) (hm : mg "side_in" = some (.ref f)) (hB : Binds K fd ["link"] []) (B : Txt K mg) : Callee P w K mg base 2 "side_in" 1 F_side_in := by
  obtain ⟨ACROSS_a, ACROSS_mg, ACROSS_dq⟩ := B.ACROSS
  exact callee_mk F sc_side_in hm hB rfl fun cdv A outer s H E hr => (
      (dss_one (ds_ret (de_ix (de_glob (v := .ref ACROSS_a) (by rfl) ACROSS_mg rfl ACROSS_dq) (de_var 0)))))
theorem c_over_in {f : Addr} {fd : FuncData} (F : Fun K "over_in" "over_in" s_over_in f fd) (hm : mg "over_in" = some (.ref f)) (hB : Binds K fd ["shape", "way"] []) (B : Txt K mg) (C_place_in : Callee P w K mg base 2 "place_in" 1 F_place_in) : Callee P w K mg base 3 "over_in" 2 F_over_in := by
  exact callee_mk F sc_over_in hm hB rfl fun cdv A outer s H E hr => (
      (dss_cons (ds_set (i := 2) sc_over_in.nd rfl (Or.inl rfl) (de_call C_place_in (hr.mono (by decide)) (by rfl) (da_cons (de_var 0) da_nil) rfl (len_cons len_nil)))
      (dss_one (ds_ret (de_if (dt_eq hr (de_mod (de_var 2) de_int) (de_mod (de_var 1) de_int)) (de_var 2) (de_mod (de_sub (de_var 2) de_int) de_int))))))
theorem c_arcs_in {f : Addr} {fd : FuncData} (F : Fun K "arcs_in" "arcs_in" s_arcs_in f fd) (hm : mg "arcs_in" = some (.ref f)) (hB : Binds K fd ["shape", "other"] []) (B : Txt K mg) (C_place_in : Callee P w K mg base 2 "place_in" 1 F_place_in) : Callee P w K mg base 3 "arcs_in" 2 F_arcs_in := by
  exact callee_mk F sc_arcs_in hm hB rfl fun cdv A outer s H E hr => (
      (dss_cons (ds_parT (is := [2, 3, 4]) (by decide) (dk_P (de_call C_place_in (hr.mono (by decide)) (by rfl) (da_cons (de_var 0) da_nil) rfl (len_cons len_nil)) (dk_P (de_call C_place_in (hr.mono (by decide)) (by rfl) (da_cons (de_var 1) da_nil) rfl (len_cons len_nil)) (dk_O da_nil dk_nil))) (pg_tup rfl (pgs_cons (pg_name (i := 2) sc_arcs_in.nd rfl (Or.inl rfl)) (pgs_cons (pg_name (i := 3) sc_arcs_in.nd rfl (Or.inl rfl)) (pgs_cons (pg_name (i := 4) sc_arcs_in.nd rfl (Or.inr rfl)) pgs_nil)))) (by decide))
      (dss_cons (ds_while 7 PassesOwn.never (dt_ne hr (de_var 2) (de_var 3)) (dss_cons (ds_app (i := 4) (he := (de_var 2)))
      (dss_one (ds_set (i := 2) sc_arcs_in.nd rfl (Or.inl rfl) (de_mod (de_add (de_var 2) de_int) de_int)))))
      (dss_one (ds_ret (de_tup (da_cons (de_tuple (by rfl) B.tuple (da_cons (de_sorted hr (by rfl) B.sorted (da_cons (de_var 4) da_nil)) da_nil)) (da_cons (de_tuple (by rfl) B.tuple (da_cons (de_lc (own := [("link", 5)]) rfl sc_arcs_in.nd (di_range (by rfl) B.range de_int) (blkOk_by (N := N_arcs_in) (sc := defScope s_arcs_in) (by decide +kernel)) tgt_one (by decide) (fun _ _ _ _ _ => (pg_name (i := 5) sc_arcs_in.nd rfl (Or.inl rfl))) (fun _ _ _ _ _ => (dts_one (dt_ni hr (de_var 5) (de_var 4)))) (fun _ _ _ _ _ => (de_var 5))) da_nil)) da_nil))))))))
theorem c_is_stand {f : Addr} {fd : FuncData} (F : Fun K "is_stand" "is_stand" s_is_stand f fd) (hm : mg "is_stand" = some (.ref f)) (hB : Binds K fd ["thing"] []) (B : Txt K mg) (C_are_numbers : Callee P w K mg base 3 "are_numbers" 1 F_are_numbers) (C_is_long : Callee P w K mg base 2 "is_long" 2 F_is_long) (C_is_shape : Callee P w K mg base 3 "is_shape" 1 F_is_shape) : Callee P w K mg base 4 "is_stand" 1 F_is_stand := by
  exact callee_mk F sc_is_stand hm hB rfl fun cdv A outer s H E hr => (
      (dss_cons (ds_if (DW.dt (dw_or (dt_not (dt_val (de_call C_is_long (hr.mono (by decide)) (by rfl) (da_cons (de_var 0) (da_cons de_int da_nil)) rfl (len_cons (len_cons len_nil))))) (dw_or1 (dt_not (dt_val (de_call C_is_shape (hr.mono (by decide)) (by rfl) (da_cons (de_ix (de_var 0) de_int) da_nil) rfl (len_cons len_nil))))))) (dss_one (ds_ret de_bl)) dss_nil)
      (dss_cons (ds_if (dt_not (dt_val (de_all rfl (by rfl) B.all (da_cons (de_lc (own := [("own", 1)]) rfl sc_is_stand.nd (di_seq (de_sl (de_var 0) (do_so de_int) do_no)) (blkOk_by (N := N_is_stand) (sc := defScope s_is_stand) (by decide +kernel)) tgt_one (by decide) (fun _ _ _ _ _ => (pg_name (i := 1) sc_is_stand.nd rfl (Or.inl rfl))) (fun _ _ _ _ _ => dts_nil) (fun _ _ _ _ _ => (de_and (de_call C_is_long (hr.mono (by decide)) (by rfl) (da_cons (de_var 1) (da_cons de_int da_nil)) rfl (len_cons (len_cons len_nil))) (de_one (de_call C_are_numbers (hr.mono (by decide)) (by rfl) (da_cons (de_var 1) da_nil) rfl (len_cons len_nil)))))) da_nil)))) (dss_one (ds_ret de_bl)) dss_nil)
      (dss_one (ds_ret (de_all rfl (by rfl) B.all (da_cons (de_lc (own := [("own", 1)]) rfl sc_is_stand.nd (di_seq (de_ix (de_var 0) de_int)) (blkOk_by (N := N_is_stand) (sc := defScope s_is_stand) (by decide +kernel)) tgt_one (by decide) (fun _ _ _ _ _ => (pg_name (i := 1) sc_is_stand.nd rfl (Or.inl rfl))) (fun _ _ _ _ _ => dts_nil) (fun _ _ _ _ _ => (de_in hr (de_var 1) (de_tup (da_cons de_int (da_cons (de_neg de_int) da_nil)))))) da_nil)))))))
theorem c_sure_stand {f : Addr} {fd : FuncData} (F : Fun K "sure_stand" "sure_stand" s_sure_stand f fd) (hm : mg "sure_stand" = some (.ref f)) (hB : Binds K fd ["stand"] []) (B : Txt K mg) (C_is_stand : Callee P w K mg base 4 "is_stand" 1 F_is_stand) (C_tupled : Callee P w K mg base 6 "tupled" 1 F_tupled) : Callee P w K mg base 7 "sure_stand" 1 F_sure_stand := by
  exact callee_mk F sc_sure_stand hm hB rfl fun cdv A outer s H E hr => (
      (dss_cons (ds_set (i := 1) sc_sure_stand.nd rfl (Or.inl rfl) (de_call C_tupled (hr.mono (by decide)) (by rfl) (da_cons (de_var 0) da_nil) rfl (len_cons len_nil)))
      (dss_cons (ds_if (dt_not (dt_val (de_call C_is_stand (hr.mono (by decide)) (by rfl) (da_cons (de_var 1) da_nil) rfl (len_cons len_nil)))) (dss_one ds_never) dss_nil)
      (dss_one (ds_ret (de_var 1))))))
theorem c_is_move {f : Addr} {fd : FuncData} (F : Fun K "is_move" "is_move" s_is_move f fd) (hm : mg "is_move" = some (.ref f)) (hB : Binds K fd ["thing"] []) (B : Txt K mg) (C_is_number : Callee P w K mg base 2 "is_number" 1 F_is_number) (C_is_within : Callee P w K mg base 3 "is_within" 3 F_is_within) (C_is_long : Callee P w K mg base 2 "is_long" 2 F_is_long) : Callee P w K mg base 4 "is_move" 1 F_is_move := by
  exact callee_mk F sc_is_move hm hB rfl fun cdv A outer s H E hr => (
      (dss_cons (ds_if (dt_val (de_call C_is_long (hr.mono (by decide)) (by rfl) (da_cons (de_var 0) (da_cons de_int da_nil)) rfl (len_cons (len_cons len_nil)))) (dss_one (ds_ret (de_and (de_eq hr (de_ix (de_var 0) de_int) de_str) (de_one (de_call C_is_within (hr.mono (by decide)) (by rfl) (da_cons (de_ix (de_var 0) de_int) (da_cons de_int (da_cons de_int da_nil))) rfl (len_cons (len_cons (len_cons len_nil)))))))) dss_nil)
      (dss_cons (ds_if (DW.dt (dw_or (dt_not (dt_val (de_call C_is_long (hr.mono (by decide)) (by rfl) (da_cons (de_var 0) (da_cons de_int da_nil)) rfl (len_cons (len_cons len_nil))))) (dw_or (dt_ne hr (de_ix (de_var 0) de_int) de_str) (dw_or1 (dt_not (dt_val (de_call C_is_within (hr.mono (by decide)) (by rfl) (da_cons (de_ix (de_var 0) de_int) (da_cons de_int (da_cons de_int da_nil))) rfl (len_cons (len_cons (len_cons len_nil)))))))))) (dss_one (ds_ret de_bl)) dss_nil)
      (dss_one (ds_ret (de_and (de_call C_is_number (hr.mono (by decide)) (by rfl) (da_cons (de_ix (de_var 0) de_int) da_nil) rfl (len_cons len_nil)) (de_one (de_in hr (de_ix (de_var 0) de_int) (de_tup (da_cons de_int (da_cons (de_neg de_int) da_nil)))))))))))
theorem c_more_at {f : Addr} {fd : FuncData} (F : Fun K "more_at" "more_at" s_more_at f fd) (hm : mg "more_at" = some (.ref f)) (hB : Binds K fd ["row", "place", "by"] []) (B : Txt K mg) : Callee P w K mg base 2 "more_at" 3 F_more_at := by
  exact callee_mk F sc_more_at hm hB rfl fun cdv A outer s H E hr => (
      (dss_one (ds_ret (de_add (de_add (de_sl (de_var 0) do_no (do_so (de_var 1))) (de_tup (da_cons (de_add (de_ix (de_var 0) (de_var 1)) (de_var 2)) da_nil))) (de_sl (de_var 0) (do_so (de_add (de_var 1) de_int)) do_no)))))
end
end DL

/-! W2: walks (printed by gen.py). -/
namespace DL
open PySem PySem.Spec PyProof.Rows L2
section
variable {P : Program} {w : World} {K : PySem.W.Frag} {mg : Str → Option Value} {base : Heap}
theorem c_flipped {f : Addr} {fd : FuncData} (F : Fun K "flipped" "flipped" s_flipped f fd) (hm : mg "flipped" = some (.ref f)) (hB : Binds K fd ["row", "place"] []) (B : Txt K mg) (C_more_at : Callee P w K mg base 2 "more_at" 3 F_more_at) : Callee P w K mg base 3 "flipped" 2 F_flipped := by
  exact callee_mk F sc_flipped hm hB rfl fun cdv A outer s H E hr => (
      (dss_one (ds_ret (de_call C_more_at (hr.mono (by decide)) (by rfl) (da_cons (de_var 0) (da_cons (de_var 1) (da_cons (de_mul (de_neg de_int) (de_ix (de_var 0) (de_var 1))) da_nil))) rfl (len_cons (len_cons (len_cons len_nil)))))))
theorem c_tipped_in {f : Addr} {fd : FuncData} (F : Fun K "tipped_in" "tipped_in" s_tipped_in f fd) (hm : mg "tipped_in" = some (.ref f)) (hB : Binds K fd ["stand", "way"] []) (B : Txt K mg) (C_flipped : Callee P w K mg base 3 "flipped" 2 F_flipped) (C_more_at : Callee P w K mg base 2 "more_at" 3 F_more_at) : Callee P w K mg base 4 "tipped_in" 2 F_tipped_in := by
  exact callee_mk F sc_tipped_in hm hB rfl fun cdv A outer s H E hr => (
      (dss_cons (ds_unp (is := [2, 3, 4, 5]) (de_var 0) (pg_tup rfl (pgs_cons (pg_name (i := 2) sc_tipped_in.nd rfl (Or.inl rfl)) (pgs_cons (pg_name (i := 3) sc_tipped_in.nd rfl (Or.inl rfl)) (pgs_cons (pg_name (i := 4) sc_tipped_in.nd rfl (Or.inl rfl)) (pgs_cons (pg_name (i := 5) sc_tipped_in.nd rfl (Or.inl rfl)) pgs_nil))))))
      (dss_cons (ds_unp (is := [6, 7, 8]) (de_var 2) (pg_tup rfl (pgs_cons (pg_name (i := 6) sc_tipped_in.nd rfl (Or.inl rfl)) (pgs_cons (pg_name (i := 7) sc_tipped_in.nd rfl (Or.inl rfl)) (pgs_cons (pg_name (i := 8) sc_tipped_in.nd rfl (Or.inl rfl)) pgs_nil)))))
      (dss_cons (ds_set (i := 9) sc_tipped_in.nd rfl (Or.inl rfl) (de_if (dt_lt (de_var 1) de_int) de_int (de_neg de_int)))
      (dss_cons (ds_if (dt_eq hr (de_mod (de_var 1) de_int) de_int) (dss_one (ds_ret (de_tup (da_cons (de_tup (da_cons (de_var 8) (da_cons (de_var 7) (da_cons (de_var 6) da_nil)))) (da_cons (de_call C_more_at (hr.mono (by decide)) (by rfl) (da_cons (de_call C_more_at (hr.mono (by decide)) (by rfl) (da_cons (de_var 3) (da_cons (de_var 6) (da_cons (de_var 9) da_nil))) rfl (len_cons (len_cons (len_cons len_nil)))) (da_cons (de_var 8) (da_cons (de_var 9) da_nil))) rfl (len_cons (len_cons (len_cons len_nil)))) (da_cons (de_var 4) (da_cons (de_call C_flipped (hr.mono (by decide)) (by rfl) (da_cons (de_var 5) (da_cons (de_if (dt_eq hr (de_var 9) de_int) (de_var 6) (de_var 8)) da_nil)) rfl (len_cons (len_cons len_nil))) da_nil))))))) dss_nil)
      (dss_one (ds_ret (de_tup (da_cons (de_tup (da_cons (de_var 6) (da_cons (de_var 8) (da_cons (de_var 7) da_nil)))) (da_cons (de_var 3) (da_cons (de_call C_more_at (hr.mono (by decide)) (by rfl) (da_cons (de_call C_more_at (hr.mono (by decide)) (by rfl) (da_cons (de_var 4) (da_cons (de_var 7) (da_cons (de_var 9) da_nil))) rfl (len_cons (len_cons (len_cons len_nil)))) (da_cons (de_var 8) (da_cons (de_var 9) da_nil))) rfl (len_cons (len_cons (len_cons len_nil)))) (da_cons (de_call C_flipped (hr.mono (by decide)) (by rfl) (da_cons (de_var 5) (da_cons (de_if (dt_eq hr (de_var 9) de_int) (de_var 7) (de_var 8)) da_nil)) rfl (len_cons (len_cons len_nil))) da_nil))))))))))))
theorem c_turned_in {f : Addr} {fd : FuncData} (F : Fun K "turned_in" "turned_in" s_turned_in f fd) (hm : mg "turned_in" = some (.ref f)) (hB : Binds K fd ["stand", "corner", "hand"] []) (B : Txt K mg) (C_flipped : Callee P w K mg base 3 "flipped" 2 F_flipped) (C_more_at : Callee P w K mg base 2 "more_at" 3 F_more_at) : Callee P w K mg base 4 "turned_in" 3 F_turned_in := by
  exact callee_mk F sc_turned_in hm hB rfl fun cdv A outer s H E hr => (
      (dss_cons (ds_unp (is := [3, 4, 5, 6]) (de_var 0) (pg_tup rfl (pgs_cons (pg_name (i := 3) sc_turned_in.nd rfl (Or.inl rfl)) (pgs_cons (pg_name (i := 4) sc_turned_in.nd rfl (Or.inl rfl)) (pgs_cons (pg_name (i := 5) sc_turned_in.nd rfl (Or.inl rfl)) (pgs_cons (pg_name (i := 6) sc_turned_in.nd rfl (Or.inl rfl)) pgs_nil))))))
      (dss_cons (ds_unp (is := [7, 8, 9]) (de_var 3) (pg_tup rfl (pgs_cons (pg_name (i := 7) sc_turned_in.nd rfl (Or.inl rfl)) (pgs_cons (pg_name (i := 8) sc_turned_in.nd rfl (Or.inl rfl)) (pgs_cons (pg_name (i := 9) sc_turned_in.nd rfl (Or.inl rfl)) pgs_nil)))))
      (dss_cons (ds_set (i := 10) sc_turned_in.nd rfl (Or.inl rfl) (de_if (dt_in hr (de_var 1) (de_tup (da_cons de_int (da_cons de_int da_nil)))) de_int (de_neg de_int)))
      (dss_cons (ds_set (i := 11) sc_turned_in.nd rfl (Or.inl rfl) (de_if (dt_ge (de_var 1) de_int) de_int (de_neg de_int)))
      (dss_cons (ds_if (dt_eq hr (de_var 2) de_int) (dss_cons (ds_par rfl sc_turned_in.nd rfl rfl (by decide) rfl rfl (dk_P (de_call C_more_at (hr.mono (by decide)) (by rfl) (da_cons (de_call C_more_at (hr.mono (by decide)) (by rfl) (da_cons (de_var 4) (da_cons (de_var 7) (da_cons (de_var 10) da_nil))) rfl (len_cons (len_cons (len_cons len_nil)))) (da_cons (de_var 8) (da_cons (de_var 11) da_nil))) rfl (len_cons (len_cons (len_cons len_nil)))) (dk_P (de_call C_more_at (hr.mono (by decide)) (by rfl) (da_cons (de_call C_more_at (hr.mono (by decide)) (by rfl) (da_cons (de_var 5) (da_cons (de_var 7) (da_cons (de_neg (de_var 10)) da_nil))) rfl (len_cons (len_cons (len_cons len_nil)))) (da_cons (de_var 8) (da_cons (de_var 11) da_nil))) rfl (len_cons (len_cons (len_cons len_nil)))) dk_nil)))
      (dss_one (ds_ret (de_tup (da_cons (de_tup (da_cons (de_var 8) (da_cons (de_var 7) (da_cons (de_var 9) da_nil)))) (da_cons (de_var 4) (da_cons (de_var 5) (da_cons (de_call C_flipped (hr.mono (by decide)) (by rfl) (da_cons (de_var 6) (da_cons (de_var 8) da_nil)) rfl (len_cons (len_cons len_nil))) da_nil)))))))) dss_nil)
      (dss_cons (ds_par rfl sc_turned_in.nd rfl rfl (by decide) rfl rfl (dk_P (de_call C_more_at (hr.mono (by decide)) (by rfl) (da_cons (de_call C_more_at (hr.mono (by decide)) (by rfl) (da_cons (de_var 4) (da_cons (de_var 7) (da_cons (de_var 10) da_nil))) rfl (len_cons (len_cons (len_cons len_nil)))) (da_cons (de_var 8) (da_cons (de_neg (de_var 11)) da_nil))) rfl (len_cons (len_cons (len_cons len_nil)))) (dk_P (de_call C_more_at (hr.mono (by decide)) (by rfl) (da_cons (de_call C_more_at (hr.mono (by decide)) (by rfl) (da_cons (de_var 5) (da_cons (de_var 7) (da_cons (de_var 10) da_nil))) rfl (len_cons (len_cons (len_cons len_nil)))) (da_cons (de_var 8) (da_cons (de_var 11) da_nil))) rfl (len_cons (len_cons (len_cons len_nil)))) dk_nil)))
      (dss_one (ds_ret (de_tup (da_cons (de_tup (da_cons (de_var 8) (da_cons (de_var 7) (da_cons (de_var 9) da_nil)))) (da_cons (de_var 4) (da_cons (de_var 5) (da_cons (de_call C_flipped (hr.mono (by decide)) (by rfl) (da_cons (de_var 6) (da_cons (de_var 7) da_nil)) rfl (len_cons (len_cons len_nil))) da_nil))))))))))))))
theorem c_moved_in {f : Addr} {fd : FuncData} (F : Fun K "moved_in" "moved_in" s_moved_in f fd) (hm : mg "moved_in" = some (.ref f)) (hB : Binds K fd ["stand", "move"] []) (B : Txt K mg) (C_tipped_in : Callee P w K mg base 4 "tipped_in" 2 F_tipped_in) (C_turned_in : Callee P w K mg base 4 "turned_in" 3 F_turned_in) : Callee P w K mg base 5 "moved_in" 2 F_moved_in := by
  exact callee_mk F sc_moved_in hm hB rfl fun cdv A outer s H E hr => (
      (dss_one (ds_ret (de_if (dt_eq hr (de_ix (de_var 1) de_int) de_str) (de_call C_tipped_in (hr.mono (by decide)) (by rfl) (da_cons (de_var 0) (da_cons (de_ix (de_var 1) de_int) da_nil)) rfl (len_cons (len_cons len_nil))) (de_call C_turned_in (hr.mono (by decide)) (by rfl) (da_cons (de_var 0) (da_cons (de_ix (de_var 1) de_int) (da_cons (de_ix (de_var 1) de_int) da_nil))) rfl (len_cons (len_cons (len_cons len_nil))))))))
theorem c_is_row_in {f : Addr} {fd : FuncData} (F : Fun K "is_row_in" "is_row_in" s_is_row_in f fd) (hm : mg "is_row_in" = some (.ref f)) (hB : Binds K fd ["thing"] []) (B : Txt K mg) (C_is_move : Callee P w K mg base 4 "is_move" 1 F_is_move) : Callee P w K mg base 5 "is_row_in" 1 F_is_row_in := by
  exact callee_mk F sc_is_row_in hm hB rfl fun cdv A outer s H E hr => (
      (dss_one (ds_ret (de_and (de_isa (T := "tuple") (by rfl) B.isinstance (by decide) (by rfl) B.tuple boot_tuple' (by decide) (by decide) (de_var 0)) (de_one (de_all rfl (by rfl) B.all (da_cons (de_lc (own := [("move", 1)]) rfl sc_is_row_in.nd (di_seq (de_var 0)) (blkOk_by (N := N_is_row_in) (sc := defScope s_is_row_in) (by decide +kernel)) tgt_one (by decide) (fun _ _ _ _ _ => (pg_name (i := 1) sc_is_row_in.nd rfl (Or.inl rfl))) (fun _ _ _ _ _ => dts_nil) (fun _ _ _ _ _ => (de_call C_is_move (hr.mono (by decide)) (by rfl) (da_cons (de_var 1) da_nil) rfl (len_cons len_nil)))) da_nil)))))))
theorem c_sure_row {f : Addr} {fd : FuncData} (F : Fun K "sure_row" "sure_row" s_sure_row f fd) (hm : mg "sure_row" = some (.ref f)) (hB : Binds K fd ["row"] []) (B : Txt K mg) (C_is_row_in : Callee P w K mg base 5 "is_row_in" 1 F_is_row_in) (C_tupled : Callee P w K mg base 6 "tupled" 1 F_tupled) : Callee P w K mg base 7 "sure_row" 1 F_sure_row := by
  exact callee_mk F sc_sure_row hm hB rfl fun cdv A outer s H E hr => (
      (dss_cons (ds_set (i := 1) sc_sure_row.nd rfl (Or.inl rfl) (de_call C_tupled (hr.mono (by decide)) (by rfl) (da_cons (de_var 0) da_nil) rfl (len_cons len_nil)))
      (dss_cons (ds_if (dt_not (dt_val (de_call C_is_row_in (hr.mono (by decide)) (by rfl) (da_cons (de_var 1) da_nil) rfl (len_cons len_nil)))) (dss_one ds_never) dss_nil)
      (dss_one (ds_ret (de_var 1))))))
theorem c_more_of {f : Addr} {fd : FuncData} (F : Fun K "more_of" "more_of" s_more_of f fd) (hm : mg "more_of" = some (.ref f)) (hB : Binds K fd ["one", "other"] []) (B : Txt K mg) : Callee P w K mg base 2 "more_of" 2 F_more_of := by
  exact callee_mk F sc_more_of hm hB rfl fun cdv A outer s H E hr => (
      (dss_one (ds_ret (de_tuple (by rfl) B.tuple (da_cons (de_lc (own := [("near", 2), ("far", 3)]) rfl sc_more_of.nd (di_zip (by rfl) B.zip (de_var 0) (de_var 1)) (blkOk_by (N := N_more_of) (sc := defScope s_more_of) (by decide +kernel)) (tgt_many (is := [2, 3])) (by decide) (fun _ _ _ _ _ => (pg_tup rfl (pgs_cons (pg_name (i := 2) sc_more_of.nd rfl (Or.inl rfl)) (pgs_cons (pg_name (i := 3) sc_more_of.nd rfl (Or.inl rfl)) pgs_nil)))) (fun _ _ _ _ _ => dts_nil) (fun _ _ _ _ _ => (de_sub (de_var 3) (de_var 2)))) da_nil)))))
theorem c_counts_in {f : Addr} {fd : FuncData} (F : Fun K "counts_in" "counts_in" s_counts_in f fd) (hm : mg "counts_in" = some (.ref f)) (hB : Binds K fd ["stand", "goal"] []) (B : Txt K mg) (C_side_in : Callee P w K mg base 2 "side_in" 1 F_side_in) (C_more_of : Callee P w K mg base 2 "more_of" 2 F_more_of) : Callee P w K mg base 3 "counts_in" 2 F_counts_in := by
  obtain ⟨LINKS_counts_t, LINKS_counts_mg⟩ := B.LINKS_counts
  exact callee_mk F sc_counts_in hm hB rfl fun cdv A outer s H E hr => (
      (dss_cons (ds_set (i := 2) sc_counts_in.nd rfl (Or.inr rfl) (de_tup (da_cons (de_call C_more_of (hr.mono (by decide)) (by rfl) (da_cons (de_ix (de_var 0) de_int) (da_cons (de_ix (de_var 1) de_int) da_nil)) rfl (len_cons (len_cons len_nil))) (da_cons (de_call C_more_of (hr.mono (by decide)) (by rfl) (da_cons (de_ix (de_var 0) de_int) (da_cons (de_ix (de_var 1) de_int) da_nil)) rfl (len_cons (len_cons len_nil))) da_nil))))
      (dss_cons (ds_if (dt_val (de_any rfl (by rfl) B.any (da_cons (de_lc (own := [("own", 3)]) rfl sc_counts_in.nd (di_seq (de_var 2)) (blkOk_by (N := N_counts_in) (sc := defScope s_counts_in) (by decide +kernel)) tgt_one (by decide) (fun _ _ _ _ _ => (pg_name (i := 3) sc_counts_in.nd rfl (Or.inl rfl))) (fun _ _ _ _ _ => dts_nil) (fun _ _ _ _ _ => (de_eq hr (de_mod (de_sum rfl (by rfl) B.sum (da_cons (de_var 3) da_nil)) de_int) de_int))) da_nil))) (dss_one (ds_ret de_non)) dss_nil)
      (dss_one (ds_ret (de_tuple (by rfl) B.tuple (da_cons (de_lc (own := [("link", 4)]) rfl sc_counts_in.nd (di_range (by rfl) B.range (de_glob (v := .int 6) (by rfl) LINKS_counts_mg ⟨_, rfl⟩ (fun _ => .int _))) (blkOk_by (N := N_counts_in) (sc := defScope s_counts_in) (by decide +kernel)) tgt_one (by decide) (fun _ _ _ _ _ => (pg_name (i := 4) sc_counts_in.nd rfl (Or.inl rfl))) (fun _ _ _ _ _ => dts_nil) (fun _ _ _ _ _ => (de_sub (de_fdiv (de_sum rfl (by rfl) B.sum (da_cons (de_ix (de_var 2) (de_mod (de_var 4) de_int)) da_nil)) de_int) (de_ix (de_ix (de_var 2) (de_mod (de_var 4) de_int)) (de_call C_side_in (hr.mono (by decide)) (by rfl) (da_cons (de_var 4) da_nil) rfl (len_cons len_nil)))))) da_nil)))))))
theorem c_shift_in {f : Addr} {fd : FuncData} (F : Fun K "shift_in" "shift_in" s_shift_in f fd) (hm : mg "shift_in" = some (.ref f)) (hB : Binds K fd ["counts", "rest"] []) (B : Txt K mg) (C_side_in : Callee P w K mg base 2 "side_in" 1 F_side_in) : Callee P w K mg base 3 "shift_in" 2 F_shift_in := by
  obtain ⟨LINKS_counts_t, LINKS_counts_mg⟩ := B.LINKS_counts
  obtain ⟨SIDES_t, SIDES_mg⟩ := B.SIDES
  exact callee_mk F sc_shift_in hm hB rfl fun cdv A outer s H E hr => (
      (dss_cons (ds_setLc (i := 2) (own := [("link", 5)]) rfl sc_shift_in.nd rfl rfl (sw_true rfl rfl rfl (by decide +kernel)) (di_range (by rfl) B.range (de_glob (v := .int 6) (by rfl) LINKS_counts_mg ⟨_, rfl⟩ (fun _ => .int _))) (blkOk_by (N := N_shift_in) (sc := defScope s_shift_in) (by decide +kernel)) tgt_one (by decide) (fun _ _ _ _ _ => (pg_name (i := 5) sc_shift_in.nd rfl (Or.inl rfl))) (fun _ _ _ _ _ => (dts_one (dt_eq hr (de_mod (de_var 5) de_int) (de_var 1)))) (fun _ _ _ _ _ => (de_var 5)))
      (dss_cons (ds_setO (i := 3) sc_shift_in.nd rfl (Or.inl rfl) da_nil)
      (dss_cons (ds_for PassesOwn.never rfl (di_range (by rfl) B.range (de_glob (v := .int 3) (by rfl) SIDES_mg ⟨_, rfl⟩ (fun _ => .int _))) tgt_one (pg_name (i := 4) sc_shift_in.nd rfl (Or.inr rfl)) (dss_one (ds_app (i := 3) (he := (de_sum rfl (by rfl) B.sum (da_cons (de_lc (own := [("link", 5)]) rfl sc_shift_in.nd (di_seq (de_var 2)) (blkOk_by (N := N_shift_in) (sc := defScope s_shift_in) (by decide +kernel)) tgt_one (by decide) (fun _ _ _ _ _ => (pg_name (i := 5) sc_shift_in.nd rfl (Or.inl rfl))) (fun _ _ _ _ _ => (dts_one (dt_ne hr (de_call C_side_in (hr.mono (by decide)) (by rfl) (da_cons (de_var 5) da_nil) rfl (len_cons len_nil)) (de_var 4)))) (fun _ _ _ _ _ => (de_ix (de_var 0) (de_var 5)))) da_nil))))))
      (dss_one (ds_ret (de_tuple (by rfl) B.tuple (da_cons (de_var 3) da_nil))))))))
theorem c_halves_in {f : Addr} {fd : FuncData} (F : Fun K "halves_in" "halves_in" s_halves_in f fd) (hm : mg "halves_in" = some (.ref f)) (hB : Binds K fd ["shift", "was", "lies"] []) (B : Txt K mg) : Callee P w K mg base 2 "halves_in" 3 F_halves_in := by
  exact callee_mk F sc_halves_in hm hB rfl fun cdv A outer s H E hr => (
      (dss_one (ds_ret (de_fdiv (de_sub (de_add (de_var 0) (de_intf (by rfl) B.int (da_cons (de_var 1) da_nil))) (de_intf (by rfl) B.int (da_cons (de_var 2) da_nil))) de_int))))
theorem c_fronts_in {f : Addr} {fd : FuncData} (F : Fun K "fronts_in" "fronts_in" s_fronts_in f fd) (hm : mg "fronts_in" = some (.ref f)) (hB : Binds K fd ["stand", "shape", "counts"] []) (B : Txt K mg) (C_halves_in : Callee P w K mg base 2 "halves_in" 3 F_halves_in) (C_shift_in : Callee P w K mg base 3 "shift_in" 2 F_shift_in) : Callee P w K mg base 4 "fronts_in" 3 F_fronts_in := by
  obtain ⟨SIDES_t, SIDES_mg⟩ := B.SIDES
  exact callee_mk F sc_fronts_in hm hB rfl fun cdv A outer s H E hr => (
      (dss_cons (ds_par3 rfl sc_fronts_in.nd rfl rfl rfl (by decide) (by decide) (by decide) rfl rfl rfl (dk_P (de_call C_shift_in (hr.mono (by decide)) (by rfl) (da_cons (de_var 2) (da_cons de_int da_nil)) rfl (len_cons (len_cons len_nil))) (dk_P (de_call C_shift_in (hr.mono (by decide)) (by rfl) (da_cons (de_var 2) (da_cons de_int da_nil)) rfl (len_cons (len_cons len_nil))) (dk_O da_nil dk_nil))))
      (dss_cons (ds_for PassesOwn.never rfl (di_range (by rfl) B.range (de_glob (v := .int 3) (by rfl) SIDES_mg ⟨_, rfl⟩ (fun _ => .int _))) tgt_one (pg_name (i := 6) sc_fronts_in.nd rfl (Or.inl rfl)) (dss_cons (ds_set (i := 7) sc_fronts_in.nd rfl (Or.inl rfl) (de_call C_halves_in (hr.mono (by decide)) (by rfl) (da_cons (de_ix (de_var 3) (de_var 6)) (da_cons (de_eq hr (de_ix (de_ix (de_var 0) de_int) de_int) (de_var 6)) (da_cons (de_eq hr (de_ix (de_var 1) de_int) (de_var 6)) da_nil))) rfl (len_cons (len_cons (len_cons len_nil)))))
      (dss_cons (ds_set (i := 7) sc_fronts_in.nd rfl (Or.inl rfl) (de_add (de_var 7) (de_call C_halves_in (hr.mono (by decide)) (by rfl) (da_cons (de_ix (de_var 4) (de_var 6)) (da_cons (de_eq hr (de_ix (de_ix (de_var 0) de_int) de_int) (de_var 6)) (da_cons (de_eq hr (de_ix (de_var 1) de_int) (de_var 6)) da_nil))) rfl (len_cons (len_cons (len_cons len_nil))))))
      (dss_one (ds_app (i := 5) (he := (de_if (dt_eq hr (de_mod (de_var 7) de_int) de_int) (de_ix (de_ix (de_var 0) de_int) (de_var 6)) (de_sub de_int (de_ix (de_ix (de_var 0) de_int) (de_var 6))))))))))
      (dss_one (ds_ret (de_tuple (by rfl) B.tuple (da_cons (de_var 5) da_nil)))))))
theorem c_stretch_from {f : Addr} {fd : FuncData} (F : Fun K "stretch_from" "stretch_from" s_stretch_from f fd) (hm : mg "stretch_from" = some (.ref f)) (hB : Binds K fd ["ends", "counts", "first"] []) (B : Txt K mg) : Callee P w K mg base 2 "stretch_from" 3 F_stretch_from := by
  obtain ⟨LINKS_links_t, LINKS_links_mg⟩ := B.LINKS_links
  exact callee_mk F sc_stretch_from hm hB rfl fun cdv A outer s H E hr => (
      (dss_cons (ds_par rfl sc_stretch_from.nd rfl rfl (by decide) rfl rfl (dk_O (da_cons (de_var 2) da_nil) (dk_P (de_mod (de_add (de_var 2) de_int) (de_glob (v := .int 6) (by rfl) LINKS_links_mg ⟨_, rfl⟩ (fun _ => .int _))) dk_nil)))
      (dss_cons (ds_while 7 PassesOwn.never (DW.dt (dw_and (dt_ni hr (de_var 4) (de_var 0)) (dw_and (dt_eq hr (de_ix (de_var 1) (de_var 4)) de_int) (dw_and1 (dt_lt (de_len (by rfl) B.len (da_cons (de_var 3) da_nil)) (de_glob (v := .int 6) (by rfl) LINKS_links_mg ⟨_, rfl⟩ (fun _ => .int _))))))) (dss_cons (ds_app (i := 3) (he := (de_var 4)))
      (dss_one (ds_set (i := 4) sc_stretch_from.nd rfl (Or.inl rfl) (de_mod (de_add (de_var 4) de_int) (de_glob (v := .int 6) (by rfl) LINKS_links_mg ⟨_, rfl⟩ (fun _ => .int _)))))))
      (dss_one (ds_ret (de_tuple (by rfl) B.tuple (da_cons (de_var 3) da_nil)))))))
theorem c_stretches_in {f : Addr} {fd : FuncData} (F : Fun K "stretches_in" "stretches_in" s_stretches_in f fd) (hm : mg "stretches_in" = some (.ref f)) (hB : Binds K fd ["shape", "other", "counts"] []) (B : Txt K mg) (C_stretch_from : Callee P w K mg base 2 "stretch_from" 3 F_stretch_from) (C_place_in : Callee P w K mg base 2 "place_in" 1 F_place_in) : Callee P w K mg base 3 "stretches_in" 3 F_stretches_in := by
  obtain ⟨LINKS_links_t, LINKS_links_mg⟩ := B.LINKS_links
  exact callee_mk F sc_stretches_in hm hB rfl fun cdv A outer s H E hr => (
      (dss_cons (ds_par rfl sc_stretches_in.nd rfl rfl (by decide) rfl rfl (dk_P (de_lst (da_cons (de_call C_place_in (hr.mono (by decide)) (by rfl) (da_cons (de_var 0) da_nil) rfl (len_cons len_nil)) (da_cons (de_call C_place_in (hr.mono (by decide)) (by rfl) (da_cons (de_var 1) da_nil) rfl (len_cons len_nil)) da_nil))) (dk_O da_nil dk_nil)))
      (dss_cons (ds_for PassesOwn.never rfl (di_range (by rfl) B.range (de_glob (v := .int 6) (by rfl) LINKS_links_mg ⟨_, rfl⟩ (fun _ => .int _))) tgt_one (pg_name (i := 5) sc_stretches_in.nd rfl (Or.inl rfl)) (dss_one (ds_if (DW.dt (dw_and (dt_eq hr (de_ix (de_var 2) (de_var 5)) de_int) (dw_and1 (DW.dt (dw_or (dt_in hr (de_var 5) (de_var 3)) (dw_or1 (dt_ne hr (de_ix (de_var 2) (de_sub (de_var 5) de_int)) de_int))))))) (dss_one (ds_app (i := 4) (he := (de_call C_stretch_from (hr.mono (by decide)) (by rfl) (da_cons (de_var 3) (da_cons (de_var 2) (da_cons (de_var 5) da_nil))) rfl (len_cons (len_cons (len_cons len_nil))))))) dss_nil)))
      (dss_one (ds_ret (de_sorted hr (by rfl) B.sorted (da_cons (de_var 4) da_nil)))))))
theorem c_is_odd_line {f : Addr} {fd : FuncData} (F : Fun K "is_odd_line" "is_odd_line" s_is_odd_line f fd) (hm : mg "is_odd_line" = some (.ref f)) (hB : Binds K fd ["stand", "goal", "line"] []) (B : Txt K mg) : Callee P w K mg base 2 "is_odd_line" 3 F_is_odd_line := by
  exact callee_mk F sc_is_odd_line hm hB rfl fun cdv A outer s H E hr => (
      (dss_one (ds_ret (de_eq hr (de_mod (de_sub (de_sum rfl (by rfl) B.sum (da_cons (de_ix (de_var 1) (de_var 2)) da_nil)) (de_sum rfl (by rfl) B.sum (da_cons (de_ix (de_var 0) (de_var 2)) da_nil))) de_int) de_int))))
theorem c_odd_of {f : Addr} {fd : FuncData} (F : Fun K "odd_of" "odd_of" s_odd_of f fd) (hm : mg "odd_of" = some (.ref f)) (hB : Binds K fd ["counts"] []) (B : Txt K mg) : Callee P w K mg base 2 "odd_of" 1 F_odd_of := by
  exact callee_mk F sc_odd_of hm hB rfl fun cdv A outer s H E hr => (
      (dss_one (ds_ret (de_tuple (by rfl) B.tuple (da_cons (de_lc (own := [("link", 1)]) rfl sc_odd_of.nd (di_range (by rfl) B.range de_int) (blkOk_by (N := N_odd_of) (sc := defScope s_odd_of) (by decide +kernel)) tgt_one (by decide) (fun _ _ _ _ _ => (pg_name (i := 1) sc_odd_of.nd rfl (Or.inl rfl))) (fun _ _ _ _ _ => (dts_one (dt_eq hr (de_mod (de_ix (de_var 0) (de_var 1)) de_int) de_int))) (fun _ _ _ _ _ => (de_var 1))) da_nil)))))
theorem c_bars_in {f : Addr} {fd : FuncData} (F : Fun K "bars_in" "bars_in" s_bars_in f fd) (hm : mg "bars_in" = some (.ref f)) (hB : Binds K fd ["stand", "goal"] []) (B : Txt K mg) (C_fronts_in : Callee P w K mg base 4 "fronts_in" 3 F_fronts_in) (C_arcs_in : Callee P w K mg base 3 "arcs_in" 2 F_arcs_in) (C_set_of : Callee P w K mg base 2 "set_of" 1 F_set_of) (C_odd_of : Callee P w K mg base 2 "odd_of" 1 F_odd_of) (C_counts_in : Callee P w K mg base 3 "counts_in" 2 F_counts_in) (C_is_odd_line : Callee P w K mg base 2 "is_odd_line" 3 F_is_odd_line) : Callee P w K mg base 5 "bars_in" 2 F_bars_in := by
  exact callee_mk F sc_bars_in hm hB rfl fun cdv A outer s H E hr => (
      (dss_cons (ds_setLc (i := 2) (own := [("line", 6)]) rfl sc_bars_in.nd rfl rfl (sw_true rfl rfl rfl (by decide +kernel)) (di_range (by rfl) B.range de_int) (blkOk_by (N := N_bars_in) (sc := defScope s_bars_in) (by decide +kernel)) tgt_one (by decide) (fun _ _ _ _ _ => (pg_name (i := 6) sc_bars_in.nd rfl (Or.inl rfl))) (fun _ _ _ _ _ => (dts_one (dt_val (de_call C_is_odd_line (hr.mono (by decide)) (by rfl) (da_cons (de_var 0) (da_cons (de_var 1) (da_cons (de_add (de_var 6) de_int) da_nil))) rfl (len_cons (len_cons (len_cons len_nil))))))) (fun _ _ _ _ _ => (de_tup (da_cons de_str (da_cons (de_var 6) da_nil)))))
      (dss_cons (ds_if (dt_ne hr (de_var 2) (de_lst da_nil)) (dss_one (ds_ret (de_var 2))) dss_nil)
      (dss_cons (ds_set (i := 3) sc_bars_in.nd rfl (Or.inl rfl) (de_call C_counts_in (hr.mono (by decide)) (by rfl) (da_cons (de_var 0) (da_cons (de_var 1) da_nil)) rfl (len_cons (len_cons len_nil))))
      (dss_cons (ds_set (i := 4) sc_bars_in.nd rfl (Or.inl rfl) (de_call C_odd_of (hr.mono (by decide)) (by rfl) (da_cons (de_var 3) da_nil) rfl (len_cons len_nil)))
      (dss_cons (ds_if (dt_ni hr (de_var 4) (de_lc (own := [("arc", 8)]) rfl sc_bars_in.nd (di_seq (de_call C_arcs_in (hr.mono (by decide)) (by rfl) (da_cons (de_ix (de_var 0) de_int) (da_cons (de_ix (de_var 1) de_int) da_nil)) rfl (len_cons (len_cons len_nil)))) (blkOk_by (N := N_bars_in) (sc := defScope s_bars_in) (by decide +kernel)) tgt_one (by decide) (fun _ _ _ _ _ => (pg_name (i := 8) sc_bars_in.nd rfl (Or.inl rfl))) (fun _ _ _ _ _ => dts_nil) (fun _ _ _ _ _ => (de_call C_set_of (hr.mono (by decide)) (by rfl) (da_cons (de_var 8) da_nil) rfl (len_cons len_nil))))) (dss_one (ds_ret (de_lst (da_cons (de_tup (da_cons de_str (da_cons (de_var 4) da_nil))) da_nil)))) dss_nil)
      (dss_cons (ds_set (i := 5) sc_bars_in.nd rfl (Or.inr rfl) (de_call C_fronts_in (hr.mono (by decide)) (by rfl) (da_cons (de_var 0) (da_cons (de_ix (de_var 1) de_int) (da_cons (de_var 3) da_nil))) rfl (len_cons (len_cons (len_cons len_nil)))))
      (dss_one (ds_ret (de_lc (own := [("side", 7)]) rfl sc_bars_in.nd (di_range (by rfl) B.range de_int) (blkOk_by (N := N_bars_in) (sc := defScope s_bars_in) (by decide +kernel)) tgt_one (by decide) (fun _ _ _ _ _ => (pg_name (i := 7) sc_bars_in.nd rfl (Or.inl rfl))) (fun _ _ _ _ _ => (dts_one (dt_ne hr (de_ix (de_var 5) (de_var 7)) (de_ix (de_ix (de_var 1) de_int) (de_var 7))))) (fun _ _ _ _ _ => (de_tup (da_cons de_str (da_cons (de_var 7) da_nil))))))))))))))
end
end DL

/-! W3: walks (printed by gen.py). -/
namespace DL
open PySem PySem.Spec PyProof.Rows L2
section
variable {P : Program} {w : World} {K : PySem.W.Frag} {mg : Str → Option Value} {base : Heap}
theorem c_can_in {f : Addr} {fd : FuncData} (F : Fun K "can_in" "can_in" s_can_in f fd) (hm : mg "can_in" = some (.ref f)) (hB : Binds K fd ["stand", "goal"] []) (B : Txt K mg) (C_bars_in : Callee P w K mg base 5 "bars_in" 2 F_bars_in) : Callee P w K mg base 6 "can_in" 2 F_can_in := by
  exact callee_mk F sc_can_in hm hB rfl fun cdv A outer s H E hr => (
      (dss_one (ds_ret (de_eq hr (de_call C_bars_in (hr.mono (by decide)) (by rfl) (da_cons (de_var 0) (da_cons (de_var 1) da_nil)) rfl (len_cons (len_cons len_nil))) (de_lst da_nil)))))
theorem c_sure_both {f : Addr} {fd : FuncData} (F : Fun K "sure_both" "sure_both" s_sure_both f fd) (hm : mg "sure_both" = some (.ref f)) (hB : Binds K fd ["stand", "goal"] []) (B : Txt K mg) (C_sure_stand : Callee P w K mg base 7 "sure_stand" 1 F_sure_stand) : Callee P w K mg base 8 "sure_both" 2 F_sure_both := by
  exact callee_mk F sc_sure_both hm hB rfl fun cdv A outer s H E hr => (
      (dss_one (ds_ret (de_tup (da_cons (de_call C_sure_stand (hr.mono (by decide)) (by rfl) (da_cons (de_var 0) da_nil) rfl (len_cons len_nil)) (da_cons (de_call C_sure_stand (hr.mono (by decide)) (by rfl) (da_cons (de_var 1) da_nil) rfl (len_cons len_nil)) da_nil))))))
theorem c_sure_way {f : Addr} {fd : FuncData} (F : Fun K "sure_way" "sure_way" s_sure_way f fd) (hm : mg "sure_way" = some (.ref f)) (hB : Binds K fd ["stand", "goal"] []) (B : Txt K mg) (C_can_in : Callee P w K mg base 6 "can_in" 2 F_can_in) (C_sure_both : Callee P w K mg base 8 "sure_both" 2 F_sure_both) : Callee P w K mg base 9 "sure_way" 2 F_sure_way := by
  exact callee_mk F sc_sure_way hm hB rfl fun cdv A outer s H E hr => (
      (dss_cons (ds_unp (is := [2, 3]) (de_call C_sure_both (hr.mono (by decide)) (by rfl) (da_cons (de_var 0) (da_cons (de_var 1) da_nil)) rfl (len_cons (len_cons len_nil))) (pg_tup rfl (pgs_cons (pg_name (i := 2) sc_sure_way.nd rfl (Or.inl rfl)) (pgs_cons (pg_name (i := 3) sc_sure_way.nd rfl (Or.inl rfl)) pgs_nil))))
      (dss_cons (ds_if (dt_not (dt_val (de_call C_can_in (hr.mono (by decide)) (by rfl) (da_cons (de_var 2) (da_cons (de_var 3) da_nil)) rfl (len_cons (len_cons len_nil))))) (dss_one ds_never) dss_nil)
      (dss_one (ds_ret (de_tup (da_cons (de_var 2) (da_cons (de_var 3) da_nil))))))))
theorem c_is_tips {f : Addr} {fd : FuncData} (F : Fun K "is_tips" "is_tips" s_is_tips f fd) (hm : mg "is_tips" = some (.ref f)) (hB : Binds K fd ["thing"] []) (B : Txt K mg) (C_is_within : Callee P w K mg base 3 "is_within" 3 F_is_within) : Callee P w K mg base 4 "is_tips" 1 F_is_tips := by
  exact callee_mk F sc_is_tips hm hB rfl fun cdv A outer s H E hr => (
      (dss_cons (ds_if (DW.dt (dw_or (dt_not (dt_val (de_isa (T := "tuple") (by rfl) B.isinstance (by decide) (by rfl) B.tuple boot_tuple' (by decide) (by decide) (de_var 0)))) (dw_or1 (dt_not (dt_val (de_all rfl (by rfl) B.all (da_cons (de_lc (own := [("own", 1)]) rfl sc_is_tips.nd (di_seq (de_var 0)) (blkOk_by (N := N_is_tips) (sc := defScope s_is_tips) (by decide +kernel)) tgt_one (by decide) (fun _ _ _ _ _ => (pg_name (i := 1) sc_is_tips.nd rfl (Or.inl rfl))) (fun _ _ _ _ _ => dts_nil) (fun _ _ _ _ _ => (de_and (de_isa (T := "tuple") (by rfl) B.isinstance (by decide) (by rfl) B.tuple boot_tuple' (by decide) (by decide) (de_var 1)) (de_one (de_eq hr (de_len (by rfl) B.len (da_cons (de_var 1) da_nil)) de_int))))) da_nil))))))) (dss_one (ds_ret de_bl)) dss_nil)
      (dss_one (ds_ret (de_all rfl (by rfl) B.all (da_cons (de_lc (own := [("own", 1)]) rfl sc_is_tips.nd (di_seq (de_var 0)) (blkOk_by (N := N_is_tips) (sc := defScope s_is_tips) (by decide +kernel)) tgt_one (by decide) (fun _ _ _ _ _ => (pg_name (i := 1) sc_is_tips.nd rfl (Or.inl rfl))) (fun _ _ _ _ _ => dts_nil) (fun _ _ _ _ _ => (de_and (de_isa (T := "str") (by rfl) B.isinstance (by decide) (by rfl) B.str boot_str' (by decide) (by decide) (de_ix (de_var 1) de_int)) (de_and (de_eq hr (de_ix (de_var 1) de_int) de_str) (de_one (de_call C_is_within (hr.mono (by decide)) (by rfl) (da_cons (de_ix (de_var 1) de_int) (da_cons de_int (da_cons de_int da_nil))) rfl (len_cons (len_cons (len_cons len_nil))))))))) da_nil))))))
theorem c_sure_prices {f : Addr} {fd : FuncData} (F : Fun K "sure_prices" "sure_prices" s_sure_prices f fd) (hm : mg "sure_prices" = some (.ref f)) (hB : Binds K fd ["prices"] []) (B : Txt K mg) (C_is_from : Callee P w K mg base 3 "is_from" 2 F_is_from) (C_is_long : Callee P w K mg base 2 "is_long" 2 F_is_long) (C_tupled : Callee P w K mg base 6 "tupled" 1 F_tupled) : Callee P w K mg base 7 "sure_prices" 1 F_sure_prices := by
  obtain ⟨LINKS_prices_t, LINKS_prices_mg⟩ := B.LINKS_prices
  exact callee_mk F sc_sure_prices hm hB rfl fun cdv A outer s H E hr => (
      (dss_cons (ds_set (i := 1) sc_sure_prices.nd rfl (Or.inl rfl) (de_call C_tupled (hr.mono (by decide)) (by rfl) (da_cons (de_var 0) da_nil) rfl (len_cons len_nil)))
      (dss_cons (ds_if (DW.dt (dw_or (dt_not (dt_val (de_call C_is_long (hr.mono (by decide)) (by rfl) (da_cons (de_var 1) (da_cons (de_glob (v := .int 6) (by rfl) LINKS_prices_mg ⟨_, rfl⟩ (fun _ => .int _)) da_nil)) rfl (len_cons (len_cons len_nil))))) (dw_or1 (dt_not (dt_val (de_all rfl (by rfl) B.all (da_cons (de_lc (own := [("price", 2)]) rfl sc_sure_prices.nd (di_seq (de_var 1)) (blkOk_by (N := N_sure_prices) (sc := defScope s_sure_prices) (by decide +kernel)) tgt_one (by decide) (fun _ _ _ _ _ => (pg_name (i := 2) sc_sure_prices.nd rfl (Or.inl rfl))) (fun _ _ _ _ _ => dts_nil) (fun _ _ _ _ _ => (de_call C_is_from (hr.mono (by decide)) (by rfl) (da_cons (de_var 2) (da_cons de_int da_nil)) rfl (len_cons (len_cons len_nil))))) da_nil))))))) (dss_one ds_never) dss_nil)
      (dss_one (ds_ret (de_var 1))))))
theorem c_sure_priced {f : Addr} {fd : FuncData} (F : Fun K "sure_priced" "sure_priced" s_sure_priced f fd) (hm : mg "sure_priced" = some (.ref f)) (hB : Binds K fd ["stand", "goal", "prices"] []) (B : Txt K mg) (C_sure_way : Callee P w K mg base 9 "sure_way" 2 F_sure_way) (C_sure_prices : Callee P w K mg base 7 "sure_prices" 1 F_sure_prices) (C_sure_both : Callee P w K mg base 8 "sure_both" 2 F_sure_both) : Callee P w K mg base 10 "sure_priced" 3 F_sure_priced := by
  exact callee_mk F sc_sure_priced hm hB rfl fun cdv A outer s H E hr => (
      (dss_cons (ds_drop (de_call C_sure_both (hr.mono (by decide)) (by rfl) (da_cons (de_var 0) (da_cons (de_var 1) da_nil)) rfl (len_cons (len_cons len_nil))))
      (dss_cons (ds_set (i := 3) sc_sure_priced.nd rfl (Or.inl rfl) (de_call C_sure_prices (hr.mono (by decide)) (by rfl) (da_cons (de_var 2) da_nil) rfl (len_cons len_nil)))
      (dss_cons (ds_unp (is := [4, 5]) (de_call C_sure_way (hr.mono (by decide)) (by rfl) (da_cons (de_var 0) (da_cons (de_var 1) da_nil)) rfl (len_cons (len_cons len_nil))) (pg_tup rfl (pgs_cons (pg_name (i := 4) sc_sure_priced.nd rfl (Or.inl rfl)) (pgs_cons (pg_name (i := 5) sc_sure_priced.nd rfl (Or.inl rfl)) pgs_nil))))
      (dss_one (ds_ret (de_tup (da_cons (de_var 4) (da_cons (de_var 5) (da_cons (de_var 3) da_nil))))))))))
theorem c_price_in {f : Addr} {fd : FuncData} (F : Fun K "price_in" "price_in" s_price_in f fd) (hm : mg "price_in" = some (.ref f)) (hB : Binds K fd ["stand", "row", "prices"] []) (B : Txt K mg) (C_moved_in : Callee P w K mg base 5 "moved_in" 2 F_moved_in) (C_over_in : Callee P w K mg base 3 "over_in" 2 F_over_in) : Callee P w K mg base 6 "price_in" 3 F_price_in := by
  exact callee_mk F sc_price_in hm hB rfl fun cdv A outer s H E hr => (
      (dss_cons (ds_par rfl sc_price_in.nd rfl rfl (by decide) rfl rfl (dk_P de_int (dk_P (de_var 0) dk_nil)))
      (dss_cons (ds_for PassesOwn.never rfl (di_seq (de_var 1)) tgt_one (pg_name (i := 5) sc_price_in.nd rfl (Or.inl rfl)) (dss_cons (ds_augAdd (i := 3) sc_price_in.nd rfl (Or.inl rfl) (de_ix (de_var 2) (de_call C_over_in (hr.mono (by decide)) (by rfl) (da_cons (de_ix (de_var 4) de_int) (da_cons (de_ix (de_var 5) de_int) da_nil)) rfl (len_cons (len_cons len_nil)))))
      (dss_one (ds_set (i := 4) sc_price_in.nd rfl (Or.inl rfl) (de_call C_moved_in (hr.mono (by decide)) (by rfl) (da_cons (de_var 4) (da_cons (de_var 5) da_nil)) rfl (len_cons (len_cons len_nil)))))))
      (dss_one (ds_ret (de_var 3))))))
theorem c_price_of {f : Addr} {fd : FuncData} (F : Fun K "price_of" "price_of" s_price_of f fd) (hm : mg "price_of" = some (.ref f)) (hB : Binds K fd ["stand", "row", "prices"] []) (B : Txt K mg) (C_price_in : Callee P w K mg base 6 "price_in" 3 F_price_in) (C_is_tips : Callee P w K mg base 4 "is_tips" 1 F_is_tips) (C_sure_prices : Callee P w K mg base 7 "sure_prices" 1 F_sure_prices) (C_sure_row : Callee P w K mg base 7 "sure_row" 1 F_sure_row) (C_sure_stand : Callee P w K mg base 7 "sure_stand" 1 F_sure_stand) : Callee P w K mg base 8 "price_of" 3 F_price_of := by
  exact callee_mk F sc_price_of hm hB rfl fun cdv A outer s H E hr => (
      (dss_cons (ds_par rfl sc_price_of.nd rfl rfl (by decide) rfl rfl (dk_P (de_call C_sure_stand (hr.mono (by decide)) (by rfl) (da_cons (de_var 0) da_nil) rfl (len_cons len_nil)) (dk_P (de_call C_sure_row (hr.mono (by decide)) (by rfl) (da_cons (de_var 1) da_nil) rfl (len_cons len_nil)) dk_nil)))
      (dss_cons (ds_set (i := 5) sc_price_of.nd rfl (Or.inl rfl) (de_call C_sure_prices (hr.mono (by decide)) (by rfl) (da_cons (de_var 2) da_nil) rfl (len_cons len_nil)))
      (dss_cons (ds_if (dt_not (dt_val (de_call C_is_tips (hr.mono (by decide)) (by rfl) (da_cons (de_var 4) da_nil) rfl (len_cons len_nil)))) (dss_one ds_never) dss_nil)
      (dss_one (ds_ret (de_call C_price_in (hr.mono (by decide)) (by rfl) (da_cons (de_var 3) (da_cons (de_var 4) (da_cons (de_var 5) da_nil))) rfl (len_cons (len_cons (len_cons len_nil))))))))))
theorem c_bridges_in {f : Addr} {fd : FuncData} (F : Fun K "bridges_in" "bridges_in" s_bridges_in f fd) (hm : mg "bridges_in" = some (.ref f)) (hB : Binds K fd ["counts", "stretch"] []) (B : Txt K mg) : Callee P w K mg base 2 "bridges_in" 2 F_bridges_in := by
  obtain ⟨LINKS_prices_t, LINKS_prices_mg⟩ := B.LINKS_prices
  exact callee_mk F sc_bridges_in hm hB rfl fun cdv A outer s H E hr => (
      (dss_one (ds_ret (de_lc (own := [("link", 2)]) rfl sc_bridges_in.nd (di_range (by rfl) B.range (de_glob (v := .int 6) (by rfl) LINKS_prices_mg ⟨_, rfl⟩ (fun _ => .int _))) (blkOk_by (N := N_bridges_in) (sc := defScope s_bridges_in) (by decide +kernel)) tgt_one (by decide) (fun _ _ _ _ _ => (pg_name (i := 2) sc_bridges_in.nd rfl (Or.inl rfl))) (fun _ _ _ _ _ => (dts_one (DW.dt (dw_and (dt_eq hr (de_ix (de_var 0) (de_var 2)) de_int) (dw_and1 (dt_ni hr (de_var 2) (de_var 1))))))) (fun _ _ _ _ _ => (de_var 2))))))
theorem c_priced_in {f : Addr} {fd : FuncData} (F : Fun K "priced_in" "priced_in" s_priced_in f fd) (hm : mg "priced_in" = some (.ref f)) (hB : Binds K fd ["stand", "goal", "prices"] []) (B : Txt K mg) (C_bridges_in : Callee P w K mg base 2 "bridges_in" 2 F_bridges_in) (C_stretches_in : Callee P w K mg base 3 "stretches_in" 3 F_stretches_in) (C_set_of : Callee P w K mg base 2 "set_of" 1 F_set_of) (C_counts_in : Callee P w K mg base 3 "counts_in" 2 F_counts_in) : Callee P w K mg base 4 "priced_in" 3 F_priced_in := by
  exact callee_mk F sc_priced_in hm hB rfl fun cdv A outer s H E hr => (
      (dss_cons (ds_par rfl sc_priced_in.nd rfl rfl (by decide) rfl rfl (dk_P (de_call C_counts_in (hr.mono (by decide)) (by rfl) (da_cons (de_var 0) (da_cons (de_var 1) da_nil)) rfl (len_cons (len_cons len_nil))) (dk_O da_nil dk_nil)))
      (dss_cons (ds_par rfl sc_priced_in.nd rfl rfl (by decide) rfl rfl (dk_P (de_sum rfl (by rfl) B.sum (da_cons (de_lc (own := [("own", 11)]) rfl sc_priced_in.nd (di_seq (de_var 3)) (blkOk_by (N := N_priced_in) (sc := defScope s_priced_in) (by decide +kernel)) tgt_one (by decide) (fun _ _ _ _ _ => (pg_name (i := 11) sc_priced_in.nd rfl (Or.inl rfl))) (fun _ _ _ _ _ => dts_nil) (fun _ _ _ _ _ => (de_abs (by rfl) B.abs (da_cons (de_var 11) da_nil)))) da_nil)) (dk_P (de_sum rfl (by rfl) B.sum (da_cons (de_lc (own := [("own", 11), ("price", 5)]) rfl sc_priced_in.nd (di_zip (by rfl) B.zip (de_var 3) (de_var 2)) (blkOk_by (N := N_priced_in) (sc := defScope s_priced_in) (by decide +kernel)) (tgt_many (is := [11, 5])) (by decide) (fun _ _ _ _ _ => (pg_tup rfl (pgs_cons (pg_name (i := 11) sc_priced_in.nd rfl (Or.inl rfl)) (pgs_cons (pg_name (i := 5) sc_priced_in.nd rfl (Or.inl rfl)) pgs_nil)))) (fun _ _ _ _ _ => dts_nil) (fun _ _ _ _ _ => (de_mul (de_abs (by rfl) B.abs (da_cons (de_var 11) da_nil)) (de_var 5)))) da_nil)) dk_nil)))
      (dss_cons (ds_setLc (i := 8) (own := [("own", 11)]) rfl sc_priced_in.nd rfl rfl (sw_true rfl rfl rfl (by decide +kernel)) (di_seq (de_call C_stretches_in (hr.mono (by decide)) (by rfl) (da_cons (de_ix (de_var 0) de_int) (da_cons (de_ix (de_var 1) de_int) (da_cons (de_var 3) da_nil))) rfl (len_cons (len_cons (len_cons len_nil))))) (blkOk_by (N := N_priced_in) (sc := defScope s_priced_in) (by decide +kernel)) tgt_one (by decide) (fun _ _ _ _ _ => (pg_name (i := 11) sc_priced_in.nd rfl (Or.inl rfl))) (fun _ _ _ _ _ => dts_nil) (fun _ _ _ _ _ => (de_call C_set_of (hr.mono (by decide)) (by rfl) (da_cons (de_var 11) da_nil) rfl (len_cons len_nil))))
      (dss_cons (ds_for PassesOwn.never rfl (di_seq (de_if (dt_ne hr (de_var 8) (de_lst da_nil)) (de_var 8) (de_lst (da_cons (de_tup da_nil) da_nil)))) tgt_one (pg_name (i := 9) sc_priced_in.nd rfl (Or.inl rfl)) (dss_cons (ds_set (i := 10) sc_priced_in.nd rfl (Or.inl rfl) (de_call C_bridges_in (hr.mono (by decide)) (by rfl) (da_cons (de_var 3) (da_cons (de_var 9) da_nil)) rfl (len_cons (len_cons len_nil))))
      (dss_cons (ds_set (i := 5) sc_priced_in.nd rfl (Or.inl rfl) (de_add (de_var 7) (de_mul de_int (de_sum rfl (by rfl) B.sum (da_cons (de_lc (own := [("link", 12)]) rfl sc_priced_in.nd (di_seq (de_var 10)) (blkOk_by (N := N_priced_in) (sc := defScope s_priced_in) (by decide +kernel)) tgt_one (by decide) (fun _ _ _ _ _ => (pg_name (i := 12) sc_priced_in.nd rfl (Or.inl rfl))) (fun _ _ _ _ _ => dts_nil) (fun _ _ _ _ _ => (de_ix (de_var 2) (de_var 12)))) da_nil)))))
      (dss_one (ds_app (i := 4) (he := (de_tup (da_cons (de_var 5) (da_cons (de_add (de_var 6) (de_mul de_int (de_len (by rfl) B.len (da_cons (de_var 10) da_nil)))) (da_cons (de_var 9) da_nil))))))))))
      (dss_one (ds_ret (de_var 4))))))))
theorem c_least_in {f : Addr} {fd : FuncData} (F : Fun K "least_in" "least_in" s_least_in f fd) (hm : mg "least_in" = some (.ref f)) (hB : Binds K fd ["stand", "goal", "prices"] []) (B : Txt K mg) (C_priced_in : Callee P w K mg base 4 "priced_in" 3 F_priced_in) : Callee P w K mg base 5 "least_in" 3 F_least_in := by
  exact callee_mk F sc_least_in hm hB rfl fun cdv A outer s H E hr => (
      (dss_one (ds_ret (de_min hr rfl (by rfl) B.min (da_cons (de_lc (own := [("own", 3)]) rfl sc_least_in.nd (di_seq (de_call C_priced_in (hr.mono (by decide)) (by rfl) (da_cons (de_var 0) (da_cons (de_var 1) (da_cons (de_var 2) da_nil))) rfl (len_cons (len_cons (len_cons len_nil))))) (blkOk_by (N := N_least_in) (sc := defScope s_least_in) (by decide +kernel)) tgt_one (by decide) (fun _ _ _ _ _ => (pg_name (i := 3) sc_least_in.nd rfl (Or.inl rfl))) (fun _ _ _ _ _ => dts_nil) (fun _ _ _ _ _ => (de_ix (de_var 3) de_int))) da_nil)))))
theorem c_cheapest {f : Addr} {fd : FuncData} (F : Fun K "cheapest" "cheapest" s_cheapest f fd) (hm : mg "cheapest" = some (.ref f)) (hB : Binds K fd ["stand", "goal", "prices"] []) (B : Txt K mg) (C_least_in : Callee P w K mg base 5 "least_in" 3 F_least_in) (C_sure_priced : Callee P w K mg base 10 "sure_priced" 3 F_sure_priced) : Callee P w K mg base 11 "cheapest" 3 F_cheapest := by
  exact callee_mk F sc_cheapest hm hB rfl fun cdv A outer s H E hr => (
      (dss_cons (ds_unp (is := [3, 4, 5]) (de_call C_sure_priced (hr.mono (by decide)) (by rfl) (da_cons (de_var 0) (da_cons (de_var 1) (da_cons (de_var 2) da_nil))) rfl (len_cons (len_cons (len_cons len_nil)))) (pg_tup rfl (pgs_cons (pg_name (i := 3) sc_cheapest.nd rfl (Or.inl rfl)) (pgs_cons (pg_name (i := 4) sc_cheapest.nd rfl (Or.inl rfl)) (pgs_cons (pg_name (i := 5) sc_cheapest.nd rfl (Or.inl rfl)) pgs_nil)))))
      (dss_one (ds_ret (de_call C_least_in (hr.mono (by decide)) (by rfl) (da_cons (de_var 3) (da_cons (de_var 4) (da_cons (de_var 5) da_nil))) rfl (len_cons (len_cons (len_cons len_nil))))))))
theorem c_cheap_and_few {f : Addr} {fd : FuncData} (F : Fun K "cheap_and_few" "cheap_and_few" s_cheap_and_few f fd) (hm : mg "cheap_and_few" = some (.ref f)) (hB : Binds K fd ["stand", "goal", "prices"] []) (B : Txt K mg) (C_priced_in : Callee P w K mg base 4 "priced_in" 3 F_priced_in) (C_sure_priced : Callee P w K mg base 10 "sure_priced" 3 F_sure_priced) : Callee P w K mg base 11 "cheap_and_few" 3 F_cheap_and_few := by
  exact callee_mk F sc_cheap_and_few hm hB rfl fun cdv A outer s H E hr => (
      (dss_cons (ds_unp (is := [3, 4, 5]) (de_call C_sure_priced (hr.mono (by decide)) (by rfl) (da_cons (de_var 0) (da_cons (de_var 1) (da_cons (de_var 2) da_nil))) rfl (len_cons (len_cons (len_cons len_nil)))) (pg_tup rfl (pgs_cons (pg_name (i := 3) sc_cheap_and_few.nd rfl (Or.inl rfl)) (pgs_cons (pg_name (i := 4) sc_cheap_and_few.nd rfl (Or.inl rfl)) (pgs_cons (pg_name (i := 5) sc_cheap_and_few.nd rfl (Or.inl rfl)) pgs_nil)))))
      (dss_one (ds_ret (de_sl (de_min hr rfl (by rfl) B.min (da_cons (de_call C_priced_in (hr.mono (by decide)) (by rfl) (da_cons (de_var 3) (da_cons (de_var 4) (da_cons (de_var 5) da_nil))) rfl (len_cons (len_cons (len_cons len_nil)))) da_nil)) do_no (do_so de_int))))))
theorem cn_l_lists {f : Addr} {fd : FuncData} (F : Fun K "_law_lists" "_law_lists" s_l_lists f fd) (hm : mg "_law_lists" = some (.ref f)) (hB : Binds K fd ["_law_matter"] []) (B : Txt K mg) : ∀ n : Nat, Callee P w K mg base (1 + n + 1) "_law_lists" 1 (FN_l_lists n)
  | 0 => by
    exact callee_none F sc_l_lists hm hB
  | n + 1 => by
    have Cself := cn_l_lists F hm hB B n
    exact callee_mk F sc_l_lists hm hB rfl fun cdv A outer s H E hr => (
      (dss_one (ds_ret (de_if (dt_val (de_isa2 (T := "list") (U := "tuple") (by rfl) B.isinstance (by decide) (by decide) (by rfl) B.list boot_list' (by decide) (by decide) (by rfl) B.tuple boot_tuple' (by decide) (by decide) (de_var 0))) (de_lc (own := [("_law_bit", 1)]) rfl sc_l_lists.nd (di_seq (de_var 0)) (blkOk_by (N := N_l_lists) (sc := defScope s_l_lists) (by decide +kernel)) tgt_one (by decide) (fun _ _ _ _ _ => (pg_name (i := 1) sc_l_lists.nd rfl (Or.inl rfl))) (fun _ _ _ _ _ => dts_nil) (fun _ _ _ _ _ => (de_call Cself (hr.mono (by omega)) (by rfl) (da_cons (de_var 1) da_nil) rfl (len_cons len_nil)))) (de_var 0)))))
theorem c_l_lists {f : Addr} {fd : FuncData} (F : Fun K "_law_lists" "_law_lists" s_l_lists f fd) (hm : mg "_law_lists" = some (.ref f)) (hB : Binds K fd ["_law_matter"] []) (B : Txt K mg) : Callee P w K mg base 6 "_law_lists" 1 F_l_lists := cn_l_lists F hm hB B 4
theorem cn_l_same {f : Addr} {fd : FuncData} (F : Fun K "_law_same" "_law_same" s_l_same f fd) (hm : mg "_law_same" = some (.ref f)) (hB : Binds K fd ["_law_got", "_law_due"] []) (B : Txt K mg) : ∀ n : Nat, Callee P w K mg base (1 + n + 1) "_law_same" 2 (FN_l_same n)
  | 0 => by
    exact callee_none F sc_l_same hm hB
  | n + 1 => by
    have Cself := cn_l_same F hm hB B n
    exact callee_mk F sc_l_same hm hB rfl fun cdv A outer s H E hr => (
      (dss_cons (ds_if (dt_val (de_isa2 (T := "list") (U := "tuple") (by rfl) B.isinstance (by decide) (by decide) (by rfl) B.list boot_list' (by decide) (by decide) (by rfl) B.tuple boot_tuple' (by decide) (by decide) (de_var 1))) (dss_cons (ds_if (DW.dt (dw_or (dt_ne hr (de_isa (T := "list") (by rfl) B.isinstance (by decide) (by rfl) B.list boot_list' (by decide) (by decide) (de_var 0)) (de_isa (T := "list") (by rfl) B.isinstance (by decide) (by rfl) B.list boot_list' (by decide) (by decide) (de_var 1))) (dw_or1 (dt_ne hr (de_isa (T := "tuple") (by rfl) B.isinstance (by decide) (by rfl) B.tuple boot_tuple' (by decide) (by decide) (de_var 0)) (de_isa (T := "tuple") (by rfl) B.isinstance (by decide) (by rfl) B.tuple boot_tuple' (by decide) (by decide) (de_var 1)))))) (dss_one (ds_ret de_bl)) dss_nil)
      (dss_one (ds_ret (de_and (de_eq hr (de_len (by rfl) B.len (da_cons (de_var 0) da_nil)) (de_len (by rfl) B.len (da_cons (de_var 1) da_nil))) (de_one (de_all rfl (by rfl) B.all (da_cons (de_lc (own := [("_law_mine", 2), ("_law_its", 3)]) rfl sc_l_same.nd (di_zip (by rfl) B.zip (de_var 0) (de_var 1)) (blkOk_by (N := N_l_same) (sc := defScope s_l_same) (by decide +kernel)) (tgt_many (is := [2, 3])) (by decide) (fun _ _ _ _ _ => (pg_tup rfl (pgs_cons (pg_name (i := 2) sc_l_same.nd rfl (Or.inl rfl)) (pgs_cons (pg_name (i := 3) sc_l_same.nd rfl (Or.inl rfl)) pgs_nil)))) (fun _ _ _ _ _ => dts_nil) (fun _ _ _ _ _ => (de_call Cself (hr.mono (by omega)) (by rfl) (da_cons (de_var 2) (da_cons (de_var 3) da_nil)) rfl (len_cons (len_cons len_nil))))) da_nil))))))) dss_nil)
      (dss_cons (ds_if (DW.dt (dw_or (dt_is (de_var 1) de_non) (dw_or1 (dt_val (de_isa2 (T := "bool") (U := "str") (by rfl) B.isinstance (by decide) (by decide) (by rfl) B.bool boot_bool' (by decide) (by decide) (by rfl) B.str boot_str' (by decide) (by decide) (de_var 1)))))) (dss_one (ds_ret (de_and (de_eq hr (de_var 0) (de_var 1)) (de_and (de_eq hr (de_isa (T := "bool") (by rfl) B.isinstance (by decide) (by rfl) B.bool boot_bool' (by decide) (by decide) (de_var 0)) (de_isa (T := "bool") (by rfl) B.isinstance (by decide) (by rfl) B.bool boot_bool' (by decide) (by decide) (de_var 1))) (de_one (de_eq hr (de_is (de_var 0) de_non) (de_is (de_var 1) de_non))))))) dss_nil)
      (dss_one (ds_ret (de_and (de_isa (T := "int") (by rfl) B.isinstance (by decide) (by rfl) B.int boot_int' (by decide) (by decide) (de_var 0)) (de_and (de_not (de_isa (T := "bool") (by rfl) B.isinstance (by decide) (by rfl) B.bool boot_bool' (by decide) (by decide) (de_var 0))) (de_one (de_eq hr (de_var 0) (de_var 1))))))))))
theorem c_l_same {f : Addr} {fd : FuncData} (F : Fun K "_law_same" "_law_same" s_l_same f fd) (hm : mg "_law_same" = some (.ref f)) (hB : Binds K fd ["_law_got", "_law_due"] []) (B : Txt K mg) : Callee P w K mg base 6 "_law_same" 2 F_l_same := cn_l_same F hm hB B 4
theorem c_l_home {f : Addr} {fd : FuncData} (F : Fun K "_law_home" "_law_home" s_l_home f fd) (hm : mg "_law_home" = some (.ref f)) (hB : Binds K fd [] []) (B : Txt K mg) : Callee P w K mg base 2 "_law_home" 0 F_l_home := by
  exact callee_mk F sc_l_home hm hB rfl fun cdv A outer s H E hr => (
      (dss_one (ds_ret (de_tup (da_cons (de_tup (da_cons de_int (da_cons de_int (da_cons de_int da_nil)))) (da_cons (de_tup (da_cons de_int (da_cons de_int (da_cons de_int da_nil)))) (da_cons (de_tup (da_cons de_int (da_cons de_int (da_cons de_int da_nil)))) (da_cons (de_tup (da_cons de_int (da_cons de_int (da_cons de_int da_nil)))) da_nil))))))))
end
end DL

/-! W4: walks (printed by gen.py). -/
namespace DL
open PySem PySem.Spec PyProof.Rows L2
section
variable {P : Program} {w : World} {K : PySem.W.Frag} {mg : Str → Option Value} {base : Heap}
theorem c_l_poses {f : Addr} {fd : FuncData} (F : Fun K "_law_poses" "_law_poses" s_l_poses f fd) (hm : mg "_law_poses" = some (.ref f)) (hB : Binds K fd [] []) (B : Txt K mg) : Callee P w K mg base 2 "_law_poses" 0 F_l_poses := by
  exact callee_mk F sc_l_poses hm hB rfl fun cdv A outer s H E hr => (
      (dss_one (ds_ret (de_lst (da_cons (de_tup (da_cons de_int (da_cons de_int (da_cons de_int da_nil)))) (da_cons (de_tup (da_cons de_int (da_cons de_int (da_cons de_int da_nil)))) (da_cons (de_tup (da_cons de_int (da_cons de_int (da_cons de_int da_nil)))) (da_cons (de_tup (da_cons de_int (da_cons de_int (da_cons de_int da_nil)))) (da_cons (de_tup (da_cons de_int (da_cons de_int (da_cons de_int da_nil)))) (da_cons (de_tup (da_cons de_int (da_cons de_int (da_cons de_int da_nil)))) da_nil))))))))))
theorem c_l_across {f : Addr} {fd : FuncData} (F : Fun K "_law_across" "_law_across" s_l_across f fd) (hm : mg "_law_across" = some (.ref f)) (hB : Binds K fd [] []) (B : Txt K mg) : Callee P w K mg base 2 "_law_across" 0 F_l_across := by
  exact callee_mk F sc_l_across hm hB rfl fun cdv A outer s H E hr => (
      (dss_one (ds_ret (de_lst (da_cons de_int (da_cons de_int (da_cons de_int (da_cons de_int (da_cons de_int (da_cons de_int da_nil))))))))))
theorem c_l_plus {f : Addr} {fd : FuncData} (F : Fun K "_law_plus" "_law_plus" s_l_plus f fd) (hm : mg "_law_plus" = some (.ref f)) (hB : Binds K fd ["_law_row_so", "_law_k", "_law_by_so"] []) (B : Txt K mg) : Callee P w K mg base 2 "_law_plus" 3 F_l_plus := by
  exact callee_mk F sc_l_plus hm hB rfl fun cdv A outer s H E hr => (
      (dss_one (ds_ret (de_add (de_add (de_sl (de_var 0) do_no (do_so (de_var 1))) (de_tup (da_cons (de_add (de_ix (de_var 0) (de_var 1)) (de_var 2)) da_nil))) (de_sl (de_var 0) (do_so (de_add (de_var 1) de_int)) do_no)))))
theorem c_l_flip {f : Addr} {fd : FuncData} (F : Fun K "_law_flip" "_law_flip" s_l_flip f fd) (hm : mg "_law_flip" = some (.ref f)) (hB : Binds K fd ["_law_row_so", "_law_k"] []) (B : Txt K mg) : Callee P w K mg base 2 "_law_flip" 2 F_l_flip := by
  exact callee_mk F sc_l_flip hm hB rfl fun cdv A outer s H E hr => (
      (dss_one (ds_ret (de_add (de_add (de_sl (de_var 0) do_no (do_so (de_var 1))) (de_tup (da_cons (de_neg (de_ix (de_var 0) (de_var 1))) da_nil))) (de_sl (de_var 0) (do_so (de_add (de_var 1) de_int)) do_no)))))
theorem c_l_tip {f : Addr} {fd : FuncData} (F : Fun K "_law_tip" "_law_tip" s_l_tip f fd) (hm : mg "_law_tip" = some (.ref f)) (hB : Binds K fd ["_law_spot", "_law_way_so"] []) (B : Txt K mg) (C_l_flip : Callee P w K mg base 2 "_law_flip" 2 F_l_flip) (C_l_plus : Callee P w K mg base 2 "_law_plus" 3 F_l_plus) : Callee P w K mg base 3 "_law_tip" 2 F_l_tip := by
  exact callee_mk F sc_l_tip hm hB rfl fun cdv A outer s H E hr => (
      (dss_cons (ds_unp (is := [2, 3, 4, 5]) (de_var 0) (pg_tup rfl (pgs_cons (pg_name (i := 2) sc_l_tip.nd rfl (Or.inl rfl)) (pgs_cons (pg_name (i := 3) sc_l_tip.nd rfl (Or.inl rfl)) (pgs_cons (pg_name (i := 4) sc_l_tip.nd rfl (Or.inl rfl)) (pgs_cons (pg_name (i := 5) sc_l_tip.nd rfl (Or.inl rfl)) pgs_nil))))))
      (dss_cons (ds_unp (is := [6, 7, 8]) (de_var 2) (pg_tup rfl (pgs_cons (pg_name (i := 6) sc_l_tip.nd rfl (Or.inl rfl)) (pgs_cons (pg_name (i := 7) sc_l_tip.nd rfl (Or.inl rfl)) (pgs_cons (pg_name (i := 8) sc_l_tip.nd rfl (Or.inl rfl)) pgs_nil)))))
      (dss_cons (ds_set (i := 9) sc_l_tip.nd rfl (Or.inl rfl) (de_if (dt_lt (de_var 1) de_int) de_int (de_neg de_int)))
      (dss_cons (ds_if (dt_eq hr (de_mod (de_var 1) de_int) de_int) (dss_cons (ds_set (i := 3) sc_l_tip.nd rfl (Or.inl rfl) (de_call C_l_plus (hr.mono (by decide)) (by rfl) (da_cons (de_call C_l_plus (hr.mono (by decide)) (by rfl) (da_cons (de_var 3) (da_cons (de_var 6) (da_cons (de_var 9) da_nil))) rfl (len_cons (len_cons (len_cons len_nil)))) (da_cons (de_var 8) (da_cons (de_var 9) da_nil))) rfl (len_cons (len_cons (len_cons len_nil)))))
      (dss_one (ds_ret (de_tup (da_cons (de_tup (da_cons (de_var 8) (da_cons (de_var 7) (da_cons (de_var 6) da_nil)))) (da_cons (de_var 3) (da_cons (de_var 4) (da_cons (de_call C_l_flip (hr.mono (by decide)) (by rfl) (da_cons (de_var 5) (da_cons (de_if (dt_eq hr (de_var 1) de_int) (de_var 6) (de_var 8)) da_nil)) rfl (len_cons (len_cons len_nil))) da_nil)))))))) dss_nil)
      (dss_cons (ds_set (i := 4) sc_l_tip.nd rfl (Or.inl rfl) (de_call C_l_plus (hr.mono (by decide)) (by rfl) (da_cons (de_call C_l_plus (hr.mono (by decide)) (by rfl) (da_cons (de_var 4) (da_cons (de_var 7) (da_cons (de_var 9) da_nil))) rfl (len_cons (len_cons (len_cons len_nil)))) (da_cons (de_var 8) (da_cons (de_var 9) da_nil))) rfl (len_cons (len_cons (len_cons len_nil)))))
      (dss_one (ds_ret (de_tup (da_cons (de_tup (da_cons (de_var 6) (da_cons (de_var 8) (da_cons (de_var 7) da_nil)))) (da_cons (de_var 3) (da_cons (de_var 4) (da_cons (de_call C_l_flip (hr.mono (by decide)) (by rfl) (da_cons (de_var 5) (da_cons (de_if (dt_eq hr (de_var 1) de_int) (de_var 7) (de_var 8)) da_nil)) rfl (len_cons (len_cons len_nil))) da_nil)))))))))))))
theorem c_l_turn {f : Addr} {fd : FuncData} (F : Fun K "_law_turn" "_law_turn" s_l_turn f fd) (hm : mg "_law_turn" = some (.ref f)) (hB : Binds K fd ["_law_spot", "_law_corner_so", "_law_hand_so"] []) (B : Txt K mg) (C_l_flip : Callee P w K mg base 2 "_law_flip" 2 F_l_flip) (C_l_plus : Callee P w K mg base 2 "_law_plus" 3 F_l_plus) : Callee P w K mg base 3 "_law_turn" 3 F_l_turn := by
  exact callee_mk F sc_l_turn hm hB rfl fun cdv A outer s H E hr => (
      (dss_cons (ds_unp (is := [3, 4, 5, 6]) (de_var 0) (pg_tup rfl (pgs_cons (pg_name (i := 3) sc_l_turn.nd rfl (Or.inl rfl)) (pgs_cons (pg_name (i := 4) sc_l_turn.nd rfl (Or.inl rfl)) (pgs_cons (pg_name (i := 5) sc_l_turn.nd rfl (Or.inl rfl)) (pgs_cons (pg_name (i := 6) sc_l_turn.nd rfl (Or.inl rfl)) pgs_nil))))))
      (dss_cons (ds_unp (is := [7, 8, 9]) (de_var 3) (pg_tup rfl (pgs_cons (pg_name (i := 7) sc_l_turn.nd rfl (Or.inl rfl)) (pgs_cons (pg_name (i := 8) sc_l_turn.nd rfl (Or.inl rfl)) (pgs_cons (pg_name (i := 9) sc_l_turn.nd rfl (Or.inl rfl)) pgs_nil)))))
      (dss_cons (ds_set (i := 10) sc_l_turn.nd rfl (Or.inl rfl) (de_if (dt_in hr (de_var 1) (de_tup (da_cons de_int (da_cons de_int da_nil)))) de_int (de_neg de_int)))
      (dss_cons (ds_set (i := 11) sc_l_turn.nd rfl (Or.inl rfl) (de_if (dt_in hr (de_var 1) (de_tup (da_cons de_int (da_cons de_int da_nil)))) de_int (de_neg de_int)))
      (dss_cons (ds_set (i := 4) sc_l_turn.nd rfl (Or.inl rfl) (de_call C_l_plus (hr.mono (by decide)) (by rfl) (da_cons (de_call C_l_plus (hr.mono (by decide)) (by rfl) (da_cons (de_var 4) (da_cons (de_var 7) (da_cons (de_var 10) da_nil))) rfl (len_cons (len_cons (len_cons len_nil)))) (da_cons (de_var 8) (da_cons (de_mul (de_var 11) (de_var 2)) da_nil))) rfl (len_cons (len_cons (len_cons len_nil)))))
      (dss_cons (ds_set (i := 5) sc_l_turn.nd rfl (Or.inl rfl) (de_call C_l_plus (hr.mono (by decide)) (by rfl) (da_cons (de_call C_l_plus (hr.mono (by decide)) (by rfl) (da_cons (de_var 5) (da_cons (de_var 8) (da_cons (de_var 11) da_nil))) rfl (len_cons (len_cons (len_cons len_nil)))) (da_cons (de_var 7) (da_cons (de_mul (de_neg (de_var 10)) (de_var 2)) da_nil))) rfl (len_cons (len_cons (len_cons len_nil)))))
      (dss_one (ds_ret (de_tup (da_cons (de_tup (da_cons (de_var 8) (da_cons (de_var 7) (da_cons (de_var 9) da_nil)))) (da_cons (de_var 4) (da_cons (de_var 5) (da_cons (de_call C_l_flip (hr.mono (by decide)) (by rfl) (da_cons (de_var 6) (da_cons (de_if (dt_eq hr (de_var 2) de_int) (de_var 8) (de_var 7)) da_nil)) rfl (len_cons (len_cons len_nil))) da_nil))))))))))))))
theorem c_l_step {f : Addr} {fd : FuncData} (F : Fun K "_law_step" "_law_step" s_l_step f fd) (hm : mg "_law_step" = some (.ref f)) (hB : Binds K fd ["_law_spot", "_law_step_here"] []) (B : Txt K mg) (C_l_tip : Callee P w K mg base 3 "_law_tip" 2 F_l_tip) (C_l_turn : Callee P w K mg base 3 "_law_turn" 3 F_l_turn) : Callee P w K mg base 4 "_law_step" 2 F_l_step := by
  exact callee_mk F sc_l_step hm hB rfl fun cdv A outer s H E hr => (
      (dss_one (ds_ret (de_if (dt_eq hr (de_ix (de_var 1) de_int) de_str) (de_call C_l_tip (hr.mono (by decide)) (by rfl) (da_cons (de_var 0) (da_cons (de_ix (de_var 1) de_int) da_nil)) rfl (len_cons (len_cons len_nil))) (de_call C_l_turn (hr.mono (by decide)) (by rfl) (da_cons (de_var 0) (da_cons (de_ix (de_var 1) de_int) (da_cons (de_ix (de_var 1) de_int) da_nil))) rfl (len_cons (len_cons (len_cons len_nil))))))))
theorem c_l_behind {f : Addr} {fd : FuncData} (F : Fun K "_law_behind" "_law_behind" s_l_behind f fd) (hm : mg "_law_behind" = some (.ref f)) (hB : Binds K fd ["_law_spot", "_law_walk_here"] []) (B : Txt K mg) (C_l_step : Callee P w K mg base 4 "_law_step" 2 F_l_step) : Callee P w K mg base 5 "_law_behind" 2 F_l_behind := by
  exact callee_mk F sc_l_behind hm hB rfl fun cdv A outer s H E hr => (
      (dss_cons (ds_for PassesOwn.never rfl (di_seq (de_var 1)) tgt_one (pg_name (i := 2) sc_l_behind.nd rfl (Or.inl rfl)) (dss_one (ds_set (i := 0) sc_l_behind.nd rfl (Or.inl rfl) (de_call C_l_step (hr.mono (by decide)) (by rfl) (da_cons (de_var 0) (da_cons (de_var 2) da_nil)) rfl (len_cons (len_cons len_nil))))))
      (dss_one (ds_ret (de_var 0)))))
theorem c_l_tips {f : Addr} {fd : FuncData} (F : Fun K "_law_tips" "_law_tips" s_l_tips f fd) (hm : mg "_law_tips" = some (.ref f)) (hB : Binds K fd [] []) (B : Txt K mg) : Callee P w K mg base 2 "_law_tips" 0 F_l_tips := by
  exact callee_mk F sc_l_tips hm hB rfl fun cdv A outer s H E hr => (
      (dss_one (ds_ret (de_lc (own := [("_law_k", 0)]) rfl sc_l_tips.nd (di_range (by rfl) B.range de_int) (blkOk_by (N := N_l_tips) (sc := defScope s_l_tips) (by decide +kernel)) tgt_one (by decide) (fun _ _ _ _ _ => (pg_name (i := 0) sc_l_tips.nd rfl (Or.inl rfl))) (fun _ _ _ _ _ => dts_nil) (fun _ _ _ _ _ => (de_tup (da_cons de_str (da_cons (de_var 0) da_nil))))))))
theorem c_l_tally {f : Addr} {fd : FuncData} (F : Fun K "_law_tally" "_law_tally" s_l_tally f fd) (hm : mg "_law_tally" = some (.ref f)) (hB : Binds K fd ["_law_one", "_law_two"] []) (B : Txt K mg) (C_l_across : Callee P w K mg base 2 "_law_across" 0 F_l_across) : Callee P w K mg base 3 "_law_tally" 2 F_l_tally := by
  exact callee_mk F sc_l_tally hm hB rfl fun cdv A outer s H E hr => (
      (dss_cons (ds_setLc (i := 2) (own := [("_law_own", 8), ("_law_its", 9)]) rfl sc_l_tally.nd rfl rfl (sw_true rfl rfl rfl (by decide +kernel)) (di_zip (by rfl) B.zip (de_ix (de_var 0) de_int) (de_ix (de_var 1) de_int)) (blkOk_by (N := N_l_tally) (sc := defScope s_l_tally) (by decide +kernel)) (tgt_many (is := [8, 9])) (by decide) (fun _ _ _ _ _ => (pg_tup rfl (pgs_cons (pg_name (i := 8) sc_l_tally.nd rfl (Or.inl rfl)) (pgs_cons (pg_name (i := 9) sc_l_tally.nd rfl (Or.inl rfl)) pgs_nil)))) (fun _ _ _ _ _ => dts_nil) (fun _ _ _ _ _ => (de_sub (de_var 9) (de_var 8))))
      (dss_cons (ds_setLc (i := 3) (own := [("_law_own", 8), ("_law_its", 9)]) rfl sc_l_tally.nd rfl rfl (sw_true rfl rfl rfl (by decide +kernel)) (di_zip (by rfl) B.zip (de_ix (de_var 0) de_int) (de_ix (de_var 1) de_int)) (blkOk_by (N := N_l_tally) (sc := defScope s_l_tally) (by decide +kernel)) (tgt_many (is := [8, 9])) (by decide) (fun _ _ _ _ _ => (pg_tup rfl (pgs_cons (pg_name (i := 8) sc_l_tally.nd rfl (Or.inl rfl)) (pgs_cons (pg_name (i := 9) sc_l_tally.nd rfl (Or.inl rfl)) pgs_nil)))) (fun _ _ _ _ _ => dts_nil) (fun _ _ _ _ _ => (de_sub (de_var 9) (de_var 8))))
      (dss_cons (ds_if (DW.dt (dw_or (dt_eq hr (de_mod (de_sum rfl (by rfl) B.sum (da_cons (de_var 2) da_nil)) de_int) de_int) (dw_or1 (dt_eq hr (de_mod (de_sum rfl (by rfl) B.sum (da_cons (de_var 3) da_nil)) de_int) de_int)))) (dss_one (ds_ret de_non)) dss_nil)
      (dss_cons (ds_setO (i := 4) sc_l_tally.nd rfl (Or.inl rfl) da_nil)
      (dss_cons (ds_for PassesOwn.never rfl (di_enum (by rfl) B.enumerate (de_call0 C_l_across (hr.mono (by decide)) (by rfl))) (tgt_many (is := [5, 6])) (pg_tup rfl (pgs_cons (pg_name (i := 5) sc_l_tally.nd rfl (Or.inl rfl)) (pgs_cons (pg_name (i := 6) sc_l_tally.nd rfl (Or.inl rfl)) pgs_nil))) (dss_cons (ds_set (i := 7) sc_l_tally.nd rfl (Or.inl rfl) (de_if (dt_eq hr (de_mod (de_var 5) de_int) de_int) (de_var 2) (de_var 3)))
      (dss_one (ds_app (i := 4) (he := (de_sub (de_fdiv (de_sum rfl (by rfl) B.sum (da_cons (de_var 7) da_nil)) de_int) (de_ix (de_var 7) (de_var 6))))))))
      (dss_one (ds_ret (de_tuple (by rfl) B.tuple (da_cons (de_var 4) da_nil))))))))))
theorem c_l_over {f : Addr} {fd : FuncData} (F : Fun K "_law_over" "_law_over" s_l_over f fd) (hm : mg "_law_over" = some (.ref f)) (hB : Binds K fd ["_law_pose", "_law_way_so"] []) (B : Txt K mg) (C_l_poses : Callee P w K mg base 2 "_law_poses" 0 F_l_poses) : Callee P w K mg base 3 "_law_over" 2 F_l_over := by
  exact callee_mk F sc_l_over hm hB rfl fun cdv A outer s H E hr => (
      (dss_cons (ds_set (i := 2) sc_l_over.nd rfl (Or.inl rfl) (de_indexL hr (de_call0 C_l_poses (hr.mono (by decide)) (by rfl)) (de_var 0)))
      (dss_one (ds_ret (de_if (dt_eq hr (de_eq hr (de_mod (de_var 2) de_int) de_int) (de_eq hr (de_mod (de_intf (by rfl) B.int (da_cons (de_var 1) da_nil)) de_int) de_int)) (de_var 2) (de_mod (de_intf (by rfl) B.int (da_cons (de_add (de_var 2) de_int) da_nil)) de_int))))))
theorem c_l_fee {f : Addr} {fd : FuncData} (F : Fun K "_law_fee" "_law_fee" s_l_fee f fd) (hm : mg "_law_fee" = some (.ref f)) (hB : Binds K fd ["_law_spot", "_law_walk_here", "_law_fees_here"] []) (B : Txt K mg) (C_l_step : Callee P w K mg base 4 "_law_step" 2 F_l_step) (C_l_over : Callee P w K mg base 3 "_law_over" 2 F_l_over) : Callee P w K mg base 5 "_law_fee" 3 F_l_fee := by
  exact callee_mk F sc_l_fee hm hB rfl fun cdv A outer s H E hr => (
      (dss_cons (ds_set (i := 3) sc_l_fee.nd rfl (Or.inl rfl) de_int)
      (dss_cons (ds_for PassesOwn.never rfl (di_seq (de_var 1)) tgt_one (pg_name (i := 4) sc_l_fee.nd rfl (Or.inl rfl)) (dss_cons (ds_set (i := 3) sc_l_fee.nd rfl (Or.inl rfl) (de_add (de_var 3) (de_ix (de_var 2) (de_call C_l_over (hr.mono (by decide)) (by rfl) (da_cons (de_ix (de_var 0) de_int) (da_cons (de_ix (de_var 4) de_int) da_nil)) rfl (len_cons (len_cons len_nil))))))
      (dss_one (ds_set (i := 0) sc_l_fee.nd rfl (Or.inl rfl) (de_call C_l_step (hr.mono (by decide)) (by rfl) (da_cons (de_var 0) (da_cons (de_var 4) da_nil)) rfl (len_cons (len_cons len_nil)))))))
      (dss_one (ds_ret (de_var 3))))))
theorem c_l_hangs {f : Addr} {fd : FuncData} (F : Fun K "_law_hangs" "_law_hangs" s_l_hangs f fd) (hm : mg "_law_hangs" = some (.ref f)) (hB : Binds K fd ["_law_lot", "_law_first_so", "_law_last_so"] []) (B : Txt K mg) : Callee P w K mg base 2 "_law_hangs" 3 F_l_hangs := by
  exact callee_mk F sc_l_hangs hm hB rfl fun cdv A outer s H E hr => (
      (dss_cons (ds_setO (i := 3) sc_l_hangs.nd rfl (Or.inr rfl) (da_cons (de_var 1) da_nil))
      (dss_cons (ds_for PassesOwn.never rfl (di_range (by rfl) B.range de_int) tgt_one (pg_name (i := 4) sc_l_hangs.nd rfl (Or.inl rfl)) (dss_one (ds_for PassesOwn.never rfl (di_seq (de_var 0)) tgt_one (pg_name (i := 5) sc_l_hangs.nd rfl (Or.inl rfl)) (dss_cons (ds_set (i := 6) sc_l_hangs.nd rfl (Or.inl rfl) (de_mod (de_intf (by rfl) B.int (da_cons (de_add (de_var 5) de_int) da_nil)) de_int))
      (dss_cons (ds_if (DW.dt (dw_and (dt_in hr (de_var 5) (de_var 3)) (dw_and1 (dt_ni hr (de_var 6) (de_var 3))))) (dss_one (ds_app (i := 3) (he := (de_var 6)))) dss_nil)
      (dss_one (ds_if (DW.dt (dw_and (dt_in hr (de_var 6) (de_var 3)) (dw_and1 (dt_ni hr (de_var 5) (de_var 3))))) (dss_one (ds_app (i := 3) (he := (de_var 5)))) dss_nil)))))))
      (dss_one (ds_ret (de_and (de_in hr (de_var 2) (de_var 3)) (de_one (de_eq hr (de_lc (own := [("_law_k", 5)]) rfl sc_l_hangs.nd (di_seq (de_var 0)) (blkOk_by (N := N_l_hangs) (sc := defScope s_l_hangs) (by decide +kernel)) tgt_one (by decide) (fun _ _ _ _ _ => (pg_name (i := 5) sc_l_hangs.nd rfl (Or.inl rfl))) (fun _ _ _ _ _ => (dts_one (dt_ni hr (de_var 5) (de_var 3)))) (fun _ _ _ _ _ => (de_var 5))) (de_lst da_nil)))))))))
theorem c_l_lots {f : Addr} {fd : FuncData} (F : Fun K "_law_lots" "_law_lots" s_l_lots f fd) (hm : mg "_law_lots" = some (.ref f)) (hB : Binds K fd [] []) (B : Txt K mg) : Callee P w K mg base 2 "_law_lots" 0 F_l_lots := by
  exact callee_mk F sc_l_lots hm hB rfl fun cdv A outer s H E hr => (
      (dss_cons (ds_set (i := 0) sc_l_lots.nd rfl (Or.inl rfl) (de_lst (da_cons (de_tup da_nil) da_nil)))
      (dss_cons (ds_for PassesOwn.never rfl (di_range (by rfl) B.range de_int) tgt_one (pg_name (i := 1) sc_l_lots.nd rfl (Or.inr rfl)) (dss_one (ds_set (i := 0) sc_l_lots.nd rfl (Or.inl rfl) (de_add (de_var 0) (de_lc (own := [("_law_own", 2)]) rfl sc_l_lots.nd (di_seq (de_var 0)) (blkOk_by (N := N_l_lots) (sc := defScope s_l_lots) (by decide +kernel)) tgt_one (by decide) (fun _ _ _ _ _ => (pg_name (i := 2) sc_l_lots.nd rfl (Or.inl rfl))) (fun _ _ _ _ _ => dts_nil) (fun _ _ _ _ _ => (de_add (de_var 2) (de_tup (da_cons (de_var 1) da_nil)))))))))
      (dss_one (ds_ret (de_var 0))))))
theorem c_l_thrift {f : Addr} {fd : FuncData} (F : Fun K "_law_thrift" "_law_thrift" s_l_thrift f fd) (hm : mg "_law_thrift" = some (.ref f)) (hB : Binds K fd ["_law_one", "_law_two", "_law_fees_here"] []) (B : Txt K mg) (C_l_lots : Callee P w K mg base 2 "_law_lots" 0 F_l_lots) (C_l_hangs : Callee P w K mg base 2 "_law_hangs" 3 F_l_hangs) (C_l_poses : Callee P w K mg base 2 "_law_poses" 0 F_l_poses) (C_l_tally : Callee P w K mg base 3 "_law_tally" 2 F_l_tally) : Callee P w K mg base 4 "_law_thrift" 3 F_l_thrift := by
  exact callee_mk F sc_l_thrift hm hB rfl fun cdv A outer s H E hr => (
      (dss_cons (ds_parT (is := [3, 4]) (by decide) (dk_P (de_call C_l_tally (hr.mono (by decide)) (by rfl) (da_cons (de_var 0) (da_cons (de_var 1) da_nil)) rfl (len_cons (len_cons len_nil))) (dk_P de_non dk_nil)) (pg_tup rfl (pgs_cons (pg_name (i := 3) sc_l_thrift.nd rfl (Or.inr rfl)) (pgs_cons (pg_name (i := 4) sc_l_thrift.nd rfl (Or.inl rfl)) pgs_nil))) (by decide))
      (dss_cons (ds_par rfl sc_l_thrift.nd rfl rfl (by decide) rfl rfl (dk_P (de_indexL hr (de_call0 C_l_poses (hr.mono (by decide)) (by rfl)) (de_ix (de_var 0) de_int)) (dk_P (de_indexL hr (de_call0 C_l_poses (hr.mono (by decide)) (by rfl)) (de_ix (de_var 1) de_int)) dk_nil)))
      (dss_cons (ds_setLc (i := 7) (own := [("_law_k", 12)]) rfl sc_l_thrift.nd rfl rfl (sw_true rfl rfl rfl (by decide +kernel)) (di_range (by rfl) B.range de_int) (blkOk_by (N := N_l_thrift) (sc := defScope s_l_thrift) (by decide +kernel)) tgt_one (by decide) (fun _ _ _ _ _ => (pg_name (i := 12) sc_l_thrift.nd rfl (Or.inl rfl))) (fun _ _ _ _ _ => (dts_one (dt_ne hr (de_ix (de_var 3) (de_var 12)) de_int))) (fun _ _ _ _ _ => (de_var 12)))
      (dss_cons (ds_for PassesOwn.never rfl (di_seq (de_call0 C_l_lots (hr.mono (by decide)) (by rfl))) tgt_one (pg_name (i := 8) sc_l_thrift.nd rfl (Or.inr rfl)) (dss_one (ds_if (DW.dt (dw_and (dt_eq hr (de_lc (own := [("_law_k", 12)]) rfl sc_l_thrift.nd (di_seq (de_var 7)) (blkOk_by (N := N_l_thrift) (sc := defScope s_l_thrift) (by decide +kernel)) tgt_one (by decide) (fun _ _ _ _ _ => (pg_name (i := 12) sc_l_thrift.nd rfl (Or.inl rfl))) (fun _ _ _ _ _ => (dts_one (dt_ni hr (de_var 12) (de_var 8)))) (fun _ _ _ _ _ => (de_var 12))) (de_lst da_nil)) (dw_and1 (dt_val (de_call C_l_hangs (hr.mono (by decide)) (by rfl) (da_cons (de_var 8) (da_cons (de_var 5) (da_cons (de_var 6) da_nil))) rfl (len_cons (len_cons (len_cons len_nil)))))))) (dss_cons (ds_setLc (i := 9) (own := [("_law_k", 12)]) rfl sc_l_thrift.nd rfl rfl (sw_true rfl rfl rfl (by decide +kernel)) (di_seq (de_var 8)) (blkOk_by (N := N_l_thrift) (sc := defScope s_l_thrift) (by decide +kernel)) tgt_one (by decide) (fun _ _ _ _ _ => (pg_name (i := 12) sc_l_thrift.nd rfl (Or.inl rfl))) (fun _ _ _ _ _ => dts_nil) (fun _ _ _ _ _ => (de_if (dt_ne hr (de_ix (de_var 3) (de_var 12)) de_int) (de_abs (by rfl) B.abs (da_cons (de_ix (de_var 3) (de_var 12)) da_nil)) de_int)))
      (dss_cons (ds_set (i := 10) sc_l_thrift.nd rfl (Or.inl rfl) (de_sum rfl (by rfl) B.sum (da_cons (de_lc (own := [("_law_own", 13), ("_law_k", 12)]) rfl sc_l_thrift.nd (di_zipM (by rfl) B.zip (de_var 9) (de_var 8)) (blkOk_by (N := N_l_thrift) (sc := defScope s_l_thrift) (by decide +kernel)) (tgt_many (is := [13, 12])) (by decide) (fun _ _ _ _ _ => (pg_tup rfl (pgs_cons (pg_name (i := 13) sc_l_thrift.nd rfl (Or.inl rfl)) (pgs_cons (pg_name (i := 12) sc_l_thrift.nd rfl (Or.inl rfl)) pgs_nil)))) (fun _ _ _ _ _ => dts_nil) (fun _ _ _ _ _ => (de_mul (de_var 13) (de_ix (de_var 2) (de_var 12))))) da_nil)))
      (dss_cons (ds_set (i := 11) sc_l_thrift.nd rfl (Or.inl rfl) (de_tuple (by rfl) B.tuple (da_cons (de_lc (own := [("_law_k", 12)]) rfl sc_l_thrift.nd (di_range (by rfl) B.range de_int) (blkOk_by (N := N_l_thrift) (sc := defScope s_l_thrift) (by decide +kernel)) tgt_one (by decide) (fun _ _ _ _ _ => (pg_name (i := 12) sc_l_thrift.nd rfl (Or.inl rfl))) (fun _ _ _ _ _ => (dts_one (dt_ni hr (de_var 12) (de_var 8)))) (fun _ _ _ _ _ => (de_var 12))) da_nil)))
      (dss_one (ds_set (i := 4) sc_l_thrift.nd rfl (Or.inl rfl) (de_min hr rfl (by rfl) B.min (da_cons (de_lc (own := [("_law_own", 13)]) rfl sc_l_thrift.nd (di_seq (de_lst (da_cons (de_var 4) (da_cons (de_tup (da_cons (de_var 10) (da_cons (de_sum rfl (by rfl) B.sum (da_cons (de_var 9) da_nil)) (da_cons (de_var 11) da_nil)))) da_nil)))) (blkOk_by (N := N_l_thrift) (sc := defScope s_l_thrift) (by decide +kernel)) tgt_one (by decide) (fun _ _ _ _ _ => (pg_name (i := 13) sc_l_thrift.nd rfl (Or.inl rfl))) (fun _ _ _ _ _ => (dts_one (dt_isnt (de_var 13) de_non))) (fun _ _ _ _ _ => (de_var 13))) da_nil))))))) dss_nil)))
      (dss_one (ds_ret (de_var 4))))))))
end
end DL

/-! E1: enumerate of a tuple. -/
namespace PySem
open Sem (wp)
theorem meets_enumerate_newT {v : Value} {o : Obj} {H : Heap → Prop} (B : Begins v o H) :
    Meets (Builtin.«enumerate.__new__» ⟨[.type "enumerate", v], []⟩) (fun _ R s => H s.heap ∧
      R (.ok (.ret (.ref (s.heap.push o).objs.size))) { s with heap := (s.heap.push o).push { cls := .type "enumerate", data := .fields #[.none, .bool false, .ref s.heap.objs.size, rawInt 0, .none, .none] } }) :=
  .of_wp fun prog w A R s h => by
    obtain ⟨hp, g, d, tk, os⟩ := s; obtain ⟨h1, h⟩ := h
    have hsub := sub_enumerate
    have q1 : ∀ {A' : Around} {E : Value → Shared → Prop} {Q : Value → Shared → Prop}, Q (.ref hp.objs.size) ⟨hp.push o, g, d, tk, os⟩ → wpAny (model prog w) A' (pyIter v) Q E ⟨hp, g, d, tk, os⟩ :=
      fun q => B.iter prog w _ _ ⟨hp, g, d, tk, os⟩ _ h1 q
    wp_walk using q1
    refine wpAny_stack_any fun st => wpAny_pure ?_
    split
    · rename_i c _ _ _ _ _
      cases (c == Value.type "enumerate")
      · wp_walk using q1
        exact ⟨_, rfl, h⟩
      · wp_walk using q1
        exact ⟨_, rfl, h⟩
    · wp_walk using q1
      exact ⟨_, rfl, h⟩
theorem enum_begins1 {prog : Program} {w : World} {A : Around} {E : Value → Shared → Prop} {s : Shared} {v : Value} {o : Obj} {H : Heap → Prop} {Q : Value → Shared → Prop} (B : Begins v o H) (h1 : H s.heap)
    (h : ∀ h', IsEnum h' (s.heap.objs.size + 1) s.heap.objs.size 0 .none → h'.get? s.heap.objs.size = some o → h'.objs.size = s.heap.objs.size + 2 →
      (∀ b o, s.heap.get? b = some o → h'.get? b = some o) → Q (.ref (s.heap.objs.size + 1)) { s with heap := h' }) :
    wpAny (model prog w) A (call (.type "enumerate") [v]) Q E s := by
  refine callType_new F.called_enumerate (by decide) (F.typeCall_enumerate_1 _) (F.newCall_enumerate_1 _) (fun obj => F.args_object_init_2 obj _) F.entry_enumerate_new
    (meets_enumerate_newT B) ⟨h1, ?_⟩
  have hz : (s.heap.push o).objs.size = s.heap.objs.size + 1 := Heap.size_push ..
  show _ ∧ _
  rw [hz]
  have he : IsEnum ((s.heap.push o).push { cls := .type "enumerate", data := .fields #[.none, .bool false, .ref s.heap.objs.size, rawInt 0, .none, .none] }) (s.heap.objs.size + 1) s.heap.objs.size 0 .none := by
    have := Heap.get?_push_size (s.heap.push o) (o := { cls := .type "enumerate", data := .fields #[.none, .bool false, .ref s.heap.objs.size, rawInt 0, .none, .none] }) rfl
    rw [hz] at this; exact this
  refine ⟨⟨_, he, rfl⟩, h _ he (Heap.get?_push_of_some _ (Heap.get?_push_size _ B.free)) (by rw [Heap.size_push, hz]) fun b o x => Heap.get?_push_of_some _ (Heap.get?_push_of_some _ x)⟩
end PySem
namespace DL
open PySem PySem.Spec PyProof.Rows L2
def IteT (K : PySem.W.Frag) (a : Addr) : It :=
  ⟨fun i H => ∃ (xs : List V) (x : V), SqT K H a xs ∧ xs[i]? = some x, fun i H v H' => ∃ T x, v = .ref T ∧ H T = none ∧ H' = upd H T (.tup [.int (i : Nat), x]) ∧ ∀ xs, SqT K H a xs → xs[i]? = some x, fun i H => ∃ xs : List V, SqT K H a xs ∧ xs.length = i⟩
theorem turn_enumT {P : Program} {w : World} {K : PySem.W.Frag} {elts : List Expr} {kk : Nat} {tpos : Pos} (a e it : Addr) (hai : a ≠ it) (hea : e ≠ a) :
    Turn P w K (.Tuple elts kk tpos) (IteT K a) [e, it] e (fun i h => (∃ old, IsEnum h e it ((i : Nat) : Int) old) ∧ h.IsTupleIter it a i ∧ e ≠ it) where
  mem := by simp
  obj := fun i h st b hb => by
    obtain ⟨⟨old, he⟩, ⟨o, ho, hc, hd⟩, _⟩ := st
    have e' : b = e ∨ b = it := by simpa using hb
    rcases e' with z | z
    · rw [z]; exact ⟨_, he, fun v q => nomatch q⟩
    · rw [z]; exact ⟨o, ho, fun v q => by rw [hd] at q; cases q⟩
  keep := fun i h h' st k => let ⟨⟨old, he⟩, hi, hne⟩ := st; ⟨⟨old, k e (by simp) _ he⟩, hi.at fun o q => k it (by simp) o q, hne⟩
  item := by
    intro X hP hw hK hc i pins s σ H E I hf st hg
    subst hP hw hK
    obtain ⟨⟨old, he⟩, hit, hne⟩ := st
    obtain ⟨xs, x, hq, hx⟩ := hg
    obtain ⟨its, rv, p, hz⟩ := I.tuple hq
    obtain ⟨u, hu, ru⟩ := rv.get hx
    have hel : e < s.heap.objs.size := Heap.lt_size he
    have hil : it < s.heap.objs.size := by obtain ⟨_, q, _⟩ := hit; exact Heap.lt_size q
    have hh : X.A.in1.handled = none := I.ok.hd hc
    refine wpAny_pyNext_enum_itemD (Draws.tuple hh it a hai its.toArray) he ⟨hit, p⟩ (by simpa using (List.getElem?_eq_some_iff.mp hu).1) hne (by simp [hne, hea]) fun u' h' tk y1 ho st' hT hsz hk => ?_
    have e1 : u' = u := by
      have y1' : its[i]? = some u' := by simpa using y1
      rw [hu] at y1'
      exact (Option.some.inj y1').symm
    subst e1
    obtain ⟨hit', _⟩ := st'
    refine ⟨_, rfl, wpAny_letOwnedTupleGo_enum (s := { s with heap := h', toks := tk + 1 }) ho fun h'' he' sb => ?_⟩
    have hT2 : h''.get? s.heap.objs.size = some { cls := .type "tuple", data := .seq #[.int i tk, u'] } := (sb.2 _ (Nat.ne_of_gt hel)).trans hT
    have new : ObjOk X.prog X.w (upd H s.heap.objs.size (.tup [.int (i : Nat), x])) h'' s.heap.objs.size (.tup [.int (i : Nat), x]) :=
      ⟨by show 2 ≤ sizeLine; decide, [.int i tk, u'], .cons ⟨_, rfl⟩ (.cons ru .nil), ⟨_, hT2, rfl, _, rfl⟩⟩
    have I1 : Inv X pins σ (upd H s.heap.objs.size (.tup [.int (i : Nat), x])) { s with heap := h'', toks := tk + 1 } :=
      I.turnedNew (ch := [e, it]) (fun b ob hb q => (sb.2 b (fun z => hb (by simp [z]))).trans (hk b ob (fun z => hb (by simp [z])) (fun z => hb (by simp [z])) q)) hf (Nat.le_refl _) new
    refine ⟨.ref s.heap.objs.size, _, I1, rfl, ⟨_, x, rfl, I.hok.fresh (Nat.le_refl _), rfl, fun ys hy => by rw [I.tuple_inj hy hq]; exact hx⟩, ⟨⟨u', ?_⟩, hit'.at fun o q => (sb.2 it (Ne.symm hne)).trans q, hne⟩, fun b hb => ?_⟩
    · have e1 : ((i + 1 : Nat) : Int) = (i : Int) + 1 := by omega
      rw [e1]; exact he'
    · have hb' : b < s.heap.objs.size := by
        have e' : b = e ∨ b = it := by simpa using hb
        rcases e' with z | z
        · rw [z]; exact hel
        · rw [z]; exact hil
      rw [upd_ne (Nat.ne_of_lt hb')]
      exact (hf b hb).1
  done := by
    intro X hP hw hK hc i pins s σ H E I hf st hg
    subst hP hw hK
    obtain ⟨⟨old, he⟩, hit, hne⟩ := st
    obtain ⟨xs, hq, hx⟩ := hg
    obtain ⟨its, rv, p, hz⟩ := I.tuple hq
    have hl := rv.length
    have hh : X.A.in1.handled = none := I.ok.hd hc
    have ei : i = its.toArray.size := by simp; omega
    subst ei
    exact wpAny_pyNext_enum_endD (Draws.tuple hh it a hai its.toArray) he ⟨hit, p⟩ fun h' eb => ⟨rfl, I.turnedL (t' := s.toks) (ch := [e, it]) (fun b o hb q => eb b o (fun z => hb (by simp [z])) q) hf⟩
  self := fun A i s Q E st h => let ⟨⟨_, he⟩, _⟩ := st; wpAny_pyIter_enum he h
def iEnumTx (K : PySem.W.Frag) (ta : TA) : TI := fun σ H R => ta σ H fun vs H1 => ∃ a xs, vs = [.ref a] ∧ SqT K H1 a xs ∧ R (IteT K a) H1
theorem pi_enumT {X : Cx} {e : Expr} {ta : TA} {p pos tpos : Pos} {elts : List Expr} {kk : Nat} (hg : Gl X "enumerate") (hm : X.mg "enumerate" = none) (ha : PA X [e] ta) (hs : starEach [e] X.env = [(false, eval e X.env)] := by rfl) :
    PI X (.Tuple elts kk tpos) (.Call (.Name "enumerate" p) [e] [] pos) (iEnumTx X.K ta) := by
  refine ⟨fun pins s σ H R I h => ?_⟩
  refine Call_ (ld_blt I hg hm boot_enumerate (PyProof.Rows.callWith_type1 (thn (ha.run pos pins s σ H _ I h) fun us s1 ⟨vs, H1, I1, r1, q1⟩ => ?_) hs rfl))
  obtain ⟨a, xs, ex, hq, q⟩ := q1
  subst ex
  cases r1 with
  | cons r rr =>
    cases rr
    cases r
    obtain ⟨its, rv, p', hz⟩ := I1.tuple hq
    obtain ⟨o2, ho2, _⟩ := id p'
    have hlt := Heap.lt_size ho2
    refine enum_begins1 (begins_tuple a its.toArray) (show s1.heap.IsTuple a its.toArray from p') fun h' he hit hsz hk => wpAny_pyIter_enum he ?_
    have I2 : Inv X pins σ H1 { s1 with heap := h' } := I1.kept (t' := s1.toks) hk
    refine ⟨s1.heap.objs.size + 1, [s1.heap.objs.size + 1, s1.heap.objs.size], _, _, H1, rfl, I2, turn_enumT a (s1.heap.objs.size + 1) s1.heap.objs.size (Nat.ne_of_lt hlt) (Nat.ne_of_gt (Nat.lt_succ_of_lt hlt)), ⟨⟨.none, he⟩, ⟨_, hit, rfl, rfl⟩, Nat.succ_ne_self _⟩, fun b hb => ?_, q⟩
    have e' : b = s1.heap.objs.size + 1 ∨ b = s1.heap.objs.size := by simpa using hb
    have hle : s1.heap.objs.size ≤ b := by
      rcases e' with z | z
      · rw [z]; exact Nat.le_add_right _ _
      · rw [z]; exact Nat.le_refl _
    exact I1.fpOk hle (I1.hok.fresh hle)
theorem itd_enumT {K : PySem.W.Frag} {G : Hp} {a : Addr} {xs : List V} {ds : List D} (h : SqT K G a xs) (hd : DqAll K G xs ds) : ItD K G (IteT K a) (enumD 0 ds) := fun i G' H' s1 s2 => by
  have hL : SqT K H' a xs := same_sqT s2 (same_sqT s1 h)
  refine ⟨fun d e => ?_, fun hi => ⟨xs, hL, by rw [enumD_len] at hi; rw [hd.length]; exact hi⟩⟩
  obtain ⟨p, e1, rfl⟩ := enumD_get e
  obtain ⟨v, e3, e4⟩ := hd.at_ e1
  refine ⟨⟨xs, v, hL, e3⟩, fun x H'' hy => ?_⟩
  obtain ⟨T, x1, rfl, nT, rfl, f1⟩ := hy
  have g1 := f1 xs hL
  rw [e3] at g1
  cases g1
  have e0 : 0 + i = i := Nat.zero_add i
  rw [e0]
  exact ⟨_, new2 s2 nT (.int _) (e4.to s1)⟩
section
variable {X : Cx} {fa : Rp → Option D}
def iEnumT (fa : Rp → Option D) : Rp → Option (List D) := fun ρ => (fa ρ).bind fun x => (tupItems x).map (enumD 0)
theorem di_enumT {a : Expr} {p pos tpos : Pos} {elts : List Expr} {kk : Nat} (hg : Gl X "enumerate") (hm : X.mg "enumerate" = none) (ha : DE X a fa) (hs : starEach [a] X.env = [(false, eval a X.env)] := by rfl) :
    DI X (.Tuple elts kk tpos) (.Call (.Name "enumerate" p) [a] [] pos) (iEnumT fa) := (pi_enumT hg hm (pa_cons ha pa_nil hs) hs).imp fun σ H R ⟨G, ρ, ds, at_, e, p⟩ => by
  unfold iEnumT at e
  obtain ⟨x, e1, e⟩ := Option.bind_eq_some_iff.mp e
  obtain ⟨es, e2, rfl⟩ := Option.map_eq_some_iff.mp e
  have e3 := tupItems_some e2
  subst e3
  refine ⟨G, ρ, _, at_, e1, fun v G1 H1 s1 h1 => ?_⟩
  cases h1 with
  | tup k1 k2 => exact ⟨_, _, rfl, same_sqT s1.gh k1, p _ G1 H1 s1 (itd_enumT k1 k2)⟩
end
end DL

/-! T1: the defs that draw from the box `tin`: take, of, walk, fees. -/
namespace DL
open PySem PySem.Spec PyProof.Rows L2

/-! ### the box -/
structure StT (t : Addr) (G H G' H' : Hp) : Prop where
  g : Same G G'
  h : ∀ q o, q ≠ t → H q = some o → H' q = some o
  gh : Same G' H'
  nw : ∀ p o, H p = some o → G p = none → G' p = none
/-- the box at t: its three numbers, drawn from at most m times -/
def Tin (H : Hp) (t : Addr) (m : Nat) : Prop := ∃ a b c : Int, H t = some (.lst [.int a, .int b, .int c]) ∧ 0 ≤ a ∧ 0 ≤ b ∧ b < 4611686018427387904 ∧ 0 ≤ c ∧ c ≤ m
structure Ts (G H : Hp) (t : Addr) (m : Nat) : Prop where
  s : Same G H
  n : G t = none
  tin : Tin H t m
section
variable {t : Addr} {G H G1 H1 G2 H2 : Hp} {m k : Nat}
theorem Tin.some_ (h : Tin H t m) : ∃ o, H t = some o := let ⟨_, _, _, e, _⟩ := h; ⟨_, e⟩
theorem Tin.le (h : Tin H t m) (l : m ≤ k) : Tin H t k := let ⟨a, b, c, e, h1, h2, h3, h4, h5⟩ := h; ⟨a, b, c, e, h1, h2, h3, h4, by omega⟩
theorem Tin.to (h : Tin H t m) (e : H1 t = H t) : Tin H1 t m := let ⟨a, b, c, x, r⟩ := h; ⟨a, b, c, e.trans x, r⟩
theorem StT.refl (s : Same G H) : StT t G H G H := ⟨Same.refl _, fun _ _ _ e => e, s, fun _ _ _ n => n⟩
theorem StT.trans (a : StT t G H G1 H1) (b : StT t G1 H1 G2 H2) (x : Ts G H t m) (y : Tin H1 t k) : StT t G H G2 H2 :=
  ⟨a.g.trans b.g, fun q o n e => b.h q o n (a.h q o n e), b.gh, fun p o e n => by
    by_cases hp : p = t
    · subst hp
      obtain ⟨o', e'⟩ := y.some_
      exact b.nw p o' e' (a.nw p o e n)
    · exact b.nw p o (a.h p o hp e) (a.nw p o e n)⟩
theorem Stp.toT (a : Stp G H G1 H1) : StT t G H G1 H1 := ⟨a.g, fun q o _ e => a.h q o e, a.gh, a.nw⟩
theorem Ts.stT (x : Ts G H t m) (a : StT t G H G1 H1) (y : Tin H1 t k) : Ts G1 H1 t k := ⟨a.gh, let ⟨o, e⟩ := x.tin.some_; a.nw t o e x.n, y⟩
theorem Ts.stp (x : Ts G H t m) (a : Stp G H G1 H1) : Ts G1 H1 t m := ⟨a.gh, let ⟨o, e⟩ := x.tin.some_; a.nw t o e x.n, let ⟨o, e⟩ := x.tin.some_; x.tin.to ((a.h t o e).trans e.symm)⟩
end
/-- a def whose first argument is the box -/
def spT (K : PySem.W.Frag) (n cost : Nat) (Pre : List D → Prop) (R : List D → D → Prop) : Sp := fun vs H Q _ => vs.length = n + 1 ∧ ∃ t us G ds m, vs = .ref t :: us ∧ Ts G H t m ∧ m + cost ≤ 900 ∧ DqAll K G us ds ∧ Pre ds ∧
  ∀ v G' H' d, StT t G H G' H' → Tin H' t (m + cost) → R ds d → Dq K G' v d → Q v H'
structure CallT (P : Program) (w : World) (K : PySem.W.Frag) (mg : Str → Option Value) (base : Heap) (k : Nat) (x : Str) (n cost : Nat) (Pre : List D → Prop) (R : List D → D → Prop) : Prop where
  ex : ∃ (f : Addr) (fd : FuncData) (ps : List Str), FnOk P w K mg base CX0 k f fd ps (spT K n cost Pre R) ∧ mg x = some (.ref f) ∧ PySem.W.keepIn K (.ref f) = true ∧ Binds K fd ps []

/-! ### values in a heap that stays -/
def Vl (te : TE) (σ : L2.St) (H : Hp) (v : V) : Prop := ∀ Q : VK, Q v H → te σ H Q
section
variable {K : PySem.W.Frag} {σ : L2.St} {H : Hp} {ta tb : TE} {i j : Int} {v : V}
theorem vl_var {n : Nat} (h : σ[n]? = some (some v)) : Vl (tVar n) σ H v := fun _ q => ⟨v, h, q⟩
theorem vl_c : Vl (tC v) σ H v := fun _ q => q
theorem vl_I0 {g : Int → Int → V} (ha : Vl ta σ H (.int i)) (hb : Vl tb σ H (.int j)) : Vl (tOp (rI0 g) ta tb) σ H (g i j) := fun Q q => by
  refine ha _ ?_
  refine hb _ ?_
  exact ⟨i, j, rfl, rfl, q⟩
theorem vl_I {C : Int → Int → Prop} {g : Int → Int → V} (ha : Vl ta σ H (.int i)) (hb : Vl tb σ H (.int j)) (hc : C i j) : Vl (tOp (rI C g) ta tb) σ H (g i j) := fun Q q => by
  refine ha _ ?_
  refine hb _ ?_
  exact ⟨i, j, rfl, rfl, hc, q⟩
theorem vl_ix {a : Addr} {xs : List V} (hl : H a = some (.lst xs)) (ha : Vl ta σ H (.ref a)) (hb : Vl tb σ H (.int j)) (e : atI xs j = some v) : Vl (tOp (rIxL K) ta tb) σ H v := fun Q q => by
  refine ha _ ?_
  refine hb _ ?_
  exact ⟨a, xs, j, v, rfl, rfl, SqL.of hl, e, q⟩
def rInt1 : List V → Hp → VK → Prop := fun xs H Q => (∃ i, xs = [.int i] ∧ Q (.int i) H) ∨ ∃ k, xs = [.bl k] ∧ Q (.int (if k then 1 else 0)) H
theorem vl_int (ha : Vl ta σ H (.int i)) : Vl (tCB rInt1 (tCons ta tNil)) σ H (.int i) := fun Q q => by
  refine ha _ ?_
  exact .inl ⟨i, rfl, q⟩
end
theorem call_int_ {X : Cx} : CallR X (.type "int") rInt1 := call_int1

section
variable {P : Program} {w : World} {K : PySem.W.Frag} {mg : Str → Option Value} {base : Heap}
def PreTake (ds : List D) : Prop := ∃ n : Int, ds = [.int n] ∧ 0 < n ∧ n ≤ 1000
def RTake (ds : List D) (d : D) : Prop := ∃ n r : Int, ds = [.int n] ∧ d = .int r ∧ 0 ≤ r ∧ r < n
theorem c_l_take {f : Addr} {fd : FuncData} (F : Fun K "_law_take" "_law_take" s_l_take f fd) (hm : mg "_law_take" = some (.ref f)) (hB : Binds K fd ["_law_tin", "_law_below_so"] []) (B : Txt K mg) :
    CallT P w K mg base 1 "_law_take" 1 1 PreTake RTake := by
  refine ⟨f, fd, ["_law_tin", "_law_below_so"], F.ok sc_l_take (fun vs H Q E h => h.1) (fun cdv A outer s H vs Q E hr h => ?_), hm, F.kp, hB⟩
  obtain ⟨_, t, us, G, ds, m, rfl, ts, hm9, hd, ⟨n, rfl, n0, n1⟩, q⟩ := h
  obtain ⟨u, rfl, hu⟩ := one_D hd
  cases hu
  obtain ⟨a, b, c, et, a0, b0, b1, c0, c1⟩ := ts.tin
  have ni : t ≠ t → False := fun z => z rfl
  -- the end: the box has changed
  have fin : ∀ (r a' b' c' : Int), 0 ≤ r → r < n → 0 ≤ a' → 0 ≤ b' → b' < 4611686018427387904 → 0 ≤ c' → c' ≤ (m + 1 : Nat) → ∀ H', (∀ p, p ≠ t → H' p = H p) → H' t = some (.lst [.int a', .int b', .int c']) → Q (.int r) H' := fun r a' b' c' r0 r1 h1 h2 h3 h4 h5 H' hp ht =>
    q (.int r) G H' (.int r) ⟨Same.refl _, fun p o hne e => by rw [hp p hne]; exact e, fun p o e => by
      have hne : p ≠ t := fun z => by subst z; rw [ts.n] at e; cases e
      rw [hp p hne]
      exact ts.s p o e, fun _ _ _ z => z⟩ ⟨a', b', c', ht, h1, h2, h3, h4, h5⟩ ⟨n, r, rfl, rfl, r0, r1⟩ (.int r)
  refine ⟨_, pss_cons (ps_if (pt_cmpR op_gt (pe_ix ix_list (pv 0) pe_int (fun _ _ => rfl)) pe_int (nomark _))
      (pss_cons (ps_set (i := 2) sc_l_take.nd rfl (.inl rfl) (pe_op op_mod (pe_callTy call_int_ (by rfl) B.int boot_int' (pa_cons (pe_ix ix_list (pv 0) pe_int (fun _ _ => rfl)) pa_nil)) (pv 1)))
        (pss_cons (ps_asg (pe_op op_fdiv (pe_ix ix_list (pv 0) pe_int (fun _ _ => rfl)) (pv 1)) (pg_sub (pv 0) pe_int set_list))
          (pss_one (ps_ret (pv 2))))) pss_nil)
    (pss_cons (ps_asg (pe_op op_add (pe_ix ix_list (pv 0) pe_int (fun _ _ => rfl)) pe_int) (pg_sub (pv 0) pe_int set_list))
    (pss_cons (ps_set (i := 3) sc_l_take.nd rfl (.inl rfl) (pe_op op_mod (pe_callTy call_int_ (by rfl) B.int boot_int' (pa_cons (pe_op op_mul (pe_op op_add (pe_ix ix_list (pv 0) pe_int (fun _ _ => rfl)) (pe_op op_mul pe_int (pe_ix ix_list (pv 0) pe_int (fun _ _ => rfl)))) (pe_op op_add pe_int (pe_ix ix_list (pv 0) pe_int (fun _ _ => rfl)))) pa_nil)) pe_int))
    (pss_cons (ps_set (i := 4) sc_l_take.nd rfl (.inl rfl) (pe_op op_add (pe_op op_mod (pe_callTy call_int_ (by rfl) B.int boot_int' (pa_cons (pv 3) pa_nil)) pe_int) pe_int))
    (pss_cons (ps_set (i := 5) sc_l_take.nd rfl (.inl rfl) (pe_op op_mod (pe_callTy call_int_ (by rfl) B.int boot_int' (pa_cons (pe_op op_mul (pe_op op_add (pe_op op_add (pv 3) (pe_ix ix_list (pv 0) pe_int (fun _ _ => rfl))) (pe_op op_fdiv (pe_ix ix_list (pv 0) pe_int (fun _ _ => rfl)) pe_int)) (pv 4)) pa_nil)) pe_int))
    (pss_one (ps_ret (pe_op op_mod (pe_callTy call_int_ (by rfl) B.int boot_int' (pa_cons (pe_op op_fdiv (pe_op op_mod (pe_callTy call_int_ (by rfl) B.int boot_int' (pa_cons (pe_op op_add (pe_op op_mul (pv 5) pe_int) (pv 3)) pa_nil)) pe_int) pe_int) pa_nil)) (pv 1)))))))), ?_⟩
  have v0 : ∀ {x y z k : Option V}, Vl (tVar 0) [some (.ref t), some (.int n), x, y, z, k] H (.ref t) := vl_var rfl
  refine vl_I0 (vl_ix (j := 0) (v := .int a) et (vl_var rfl) vl_c (atI_nat (j := 0) rfl)) vl_c _ ⟨_, rfl, ite2 (fun ha => ?_) (fun ha => ?_)⟩
  · have ha' : (0 : Int) < a := of_decide_eq_true ha
    refine vl_I (C := fun _ j => 0 < j) (vl_int (vl_ix (j := 0) (v := .int a) et (vl_var rfl) vl_c (atI_nat (j := 0) rfl))) (vl_var (v := .int n) rfl) n0 _ ?_
    refine vl_I (C := CDiv) (vl_ix (j := 0) (v := .int a) et (vl_var rfl) vl_c (atI_nat (j := 0) rfl)) (vl_var (v := .int n) rfl) ⟨n0, by omega⟩ _ ?_
    refine ⟨_, rfl, t, _, 0, 0, rfl, rfl, et, rfl, ?_⟩
    refine ⟨_, rfl, ?_⟩
    exact fin (a % n) (a / n) b c (Int.emod_nonneg _ (by omega)) (Int.emod_lt_of_pos _ n0) (Int.ediv_nonneg (by omega) (by omega)) b0 b1 c0 (by omega) _ (fun p hp => upd_ne hp) upd_same
  · refine vl_I0 (vl_ix (j := 2) (v := .int c) et (vl_var rfl) vl_c (atI_nat (j := 2) rfl)) vl_c _ ?_
    refine ⟨_, rfl, t, _, 2, 2, rfl, rfl, et, rfl, ?_⟩
    have et2 : (upd H t (.lst [.int a, .int b, .int (c + 1)])) t = some (.lst [.int a, .int b, .int (c + 1)]) := upd_same
    have ek : ∀ p, p ≠ t → (upd H t (.lst [.int a, .int b, .int (c + 1)])) p = H p := fun p hp => upd_ne hp
    show tSeq _ _ _ _ (upd H t (.lst [.int a, .int b, .int (c + 1)]))
    generalize upd H t (.lst [.int a, .int b, .int (c + 1)]) = H2 at et2 ek ⊢
    have cb : 0 ≤ c ∧ c ≤ 900 := ⟨c0, by omega⟩
    have w1 : ∀ {x y z k : Option V}, Vl (tOp (rIxL K) (tVar 0) (tC (.int 1))) [some (.ref t), some (.int n), x, y, z, k] H2 (.int b) := vl_ix (j := 1) (v := .int b) et2 (vl_var rfl) vl_c (atI_nat (j := 1) rfl)
    have w2 : ∀ {x y z k : Option V}, Vl (tOp (rIxL K) (tVar 0) (tC (.int 2))) [some (.ref t), some (.int n), x, y, z, k] H2 (.int (c + 1)) := vl_ix (j := 2) (v := .int (c + 1)) et2 (vl_var rfl) vl_c (atI_nat (j := 2) rfl)
    -- once
    refine vl_I (C := fun _ j => 0 < j) (vl_int (vl_I (C := CMul) (g := fun i j => .int (i * j)) (vl_I0 (g := fun i j => .int (i + j)) w1 (vl_I (C := CMul) (g := fun i j => .int (i * j)) (vl_c (v := .int 48271)) w2 (.inl (by omega)))) (vl_I0 (g := fun i j => .int (i + j)) (vl_c (v := .int 39373)) w2) (.inr (by omega)))) (vl_c (v := .int 2147483647)) (by decide) _ ?_
    generalize ho : (b + 48271 * (c + 1)) * (39373 + (c + 1)) % 2147483647 = once
    have o0 : 0 ≤ once ∧ once < 2147483647 := by
      rw [← ho]
      exact ⟨Int.emod_nonneg _ (by decide), Int.emod_lt_of_pos _ (by decide)⟩
    -- wide
    refine vl_I0 (g := fun i j => .int (i + j)) (vl_I (C := fun _ j => 0 < j) (g := fun i j => .int (i % j)) (vl_int (vl_var (v := .int once) rfl)) (vl_c (v := .int 40009)) (by decide)) (vl_c (v := .int 7)) _ ?_
    generalize hw : once % 40009 + 7 = wide
    have ow : 0 ≤ wide ∧ wide < 100000 := by omega
    -- twice
    refine vl_I (C := fun _ j => 0 < j) (vl_int (vl_I (C := CMul) (g := fun i j => .int (i * j)) (vl_I0 (g := fun i j => .int (i + j)) (vl_I0 (g := fun i j => .int (i + j)) (vl_var (v := .int once) rfl) w2) (vl_I (C := CDiv) (g := fun i j => .int (i / j)) w1 (vl_c (v := .int 1000003)) ⟨by decide, by decide⟩)) (vl_var (v := .int wide) rfl) (.inr (by omega)))) (vl_c (v := .int 2147483629)) (by decide) _ ?_
    generalize ht : (once + (c + 1) + b / 1000003) * wide % 2147483629 = twice
    have ot : 0 ≤ twice ∧ twice < 2147483629 := by
      rw [← ht]
      exact ⟨Int.emod_nonneg _ (by decide), Int.emod_lt_of_pos _ (by decide)⟩
    refine vl_I (C := fun _ j => 0 < j) (vl_int (vl_I (C := CDiv) (g := fun i j => .int (i / j)) (vl_I (C := fun _ j => 0 < j) (g := fun i j => .int (i % j)) (vl_int (vl_I0 (g := fun i j => .int (i + j)) (vl_I (C := CMul) (g := fun i j => .int (i * j)) (vl_var (v := .int twice) rfl) (vl_c (v := .int 48271)) (.inl (by omega))) (vl_var (v := .int once) rfl))) (vl_c (v := .int 2147483587)) (by decide)) (vl_c (v := .int 64)) ⟨by decide, by decide⟩)) (vl_var (v := .int n) rfl) n0 _ ?_
    exact fin _ a b (c + 1) (Int.emod_nonneg _ (by omega)) (Int.emod_lt_of_pos _ n0) a0 b0 b1 (by omega) (by omega) H2 ek et2
end
end DL

/-! R1: readings of code that draws from the box. A reading is a transformer: how often was drawn, the names, what is to hold of the end. -/
namespace DL
open PySem PySem.Spec PyProof.Rows L2

structure AtT (K : PySem.W.Frag) (t : Addr) (G H : Hp) (σ : L2.St) (ρ : Rp) (m : Nat) : Prop where
  a : At K G H σ ρ
  z : σ[0]? = some (some (.ref t))
  ts : Ts G H t m
abbrev RE1 := Nat → Rp → (Nat → D → Prop) → Prop
abbrev RA1 := Nat → Rp → (Nat → List D → Prop) → Prop
abbrev RT1 := Nat → Rp → (Nat → Bool → Prop) → Prop
abbrev RS1 := Nat → Rp → (Nat → Rp → Prop) → (Nat → D → Prop) → Prop
/-- what a step of drawing code leaves -/
structure StD (t : Addr) (G H G' H' : Hp) (m' : Nat) : Prop where
  s : StT t G H G' H'
  ts : Ts G' H' t m'
def PostT (K : PySem.W.Frag) (t : Addr) (G H : Hp) (Qs : Nat → D → Prop) (Q : VK) : Prop := ∀ v G' H' d m', StD t G H G' H' m' → Dq K G' v d → Qs m' d → Q v H'
def tR (K : PySem.W.Frag) (f : RE1) : TE := fun σ H Q => ∃ t G ρ m Qs, AtT K t G H σ ρ m ∧ f m ρ Qs ∧ PostT K t G H Qs Q
def tRT (K : PySem.W.Frag) (f : RT1) : TT := fun σ H Q => ∃ t G ρ m Qs, AtT K t G H σ ρ m ∧ f m ρ Qs ∧ ∀ b G' H' m', StD t G H G' H' m' → Qs m' b → Q b H'
def tRA (K : PySem.W.Frag) (f : RA1) : TA := fun σ H Q => ∃ t G ρ m Qs, AtT K t G H σ ρ m ∧ f m ρ Qs ∧ ∀ vs G' H' ds m', StD t G H G' H' m' → DqAll K G' vs ds → Qs m' ds → Q vs H'
abbrev RE (X : Cx) (e : Expr) (f : RE1) : Prop := PE X e (tR X.K f)
abbrev RT (X : Cx) (e : Expr) (f : RT1) : Prop := PT X e (tRT X.K f)
abbrev RA (X : Cx) (es : List Expr) (f : RA1) : Prop := PA X es (tRA X.K f)
section
variable {t : Addr} {G H G1 H1 G2 H2 : Hp} {m k : Nat} {K : PySem.W.Frag} {σ : L2.St} {ρ : Rp}
theorem Ts.refl_ (x : Ts G H t m) : StD t G H G H m := ⟨.refl x.s, x⟩
theorem StD.trans (x : Ts G H t m) {m1 m2 : Nat} (a : StD t G H G1 H1 m1) (b : StD t G1 H1 G2 H2 m2) : StD t G H G2 H2 m2 := ⟨a.s.trans b.s x a.ts.tin, b.ts⟩
theorem StD.stp (x : Ts G H t m) {m1 : Nat} (a : StD t G H G1 H1 m1) (b : Stp G1 H1 G2 H2) : StD t G H G2 H2 m1 := a.trans x ⟨b.toT, a.ts.stp b⟩
theorem Ts.ofStp (x : Ts G H t m) (b : Stp G H G2 H2) : StD t G H G2 H2 m := ⟨b.toT, x.stp b⟩
theorem AtT.to (h : AtT K t G H σ ρ m) {m1 : Nat} (a : StD t G H G1 H1 m1) : AtT K t G1 H1 σ ρ m1 := ⟨⟨a.s.gh, h.a.e.to a.s.g⟩, h.z, a.ts⟩
theorem PostT.ofPost {Qs : Nat → D → Prop} {Q : VK} {d : D} (x : Ts G H t m) {m1 : Nat} (a : StD t G H G1 H1 m1) (p : PostT K t G H Qs Q) (q : Qs m1 d) : Post K G1 H1 d Q := fun v G' H' s h => p v G' H' d m1 (a.stp x s) h q
end
def rD (f : Rp → Option D) : RE1 := fun m ρ Q => ∃ d, f ρ = some d ∧ Q m d
def rNil : RA1 := fun m ρ Q => Q m []
def rCons (f : RE1) (g : RA1) : RA1 := fun m ρ Q => f m ρ fun m1 d => g m1 ρ fun m2 ds => Q m2 (d :: ds)
def rTup (g : RA1) : RE1 := fun m ρ Q => g m ρ fun m1 ds => ds.length ≤ 100000 ∧ Q m1 (.tuple ds)
def r2 (g : D → D → Option D) (fa fb : RE1) : RE1 := fun m ρ Q => fa m ρ fun m1 x => fb m1 ρ fun m2 y => ∃ z, g x y = some z ∧ Q m2 z
def rB (f : RE1) : RT1 := fun m ρ Q => f m ρ fun m1 d => ∃ b, d = .bool b ∧ Q m1 b
def rCall (F : List D → Option D) (g : RA1) : RE1 := fun m ρ Q => g m ρ fun m1 ds => ∃ d, F ds = some d ∧ Q m1 d
abbrev WF := List D → Nat → (Nat → D → Prop) → Prop
def rDraw (F : WF) (g : RA1) : RE1 := fun m ρ Q => g m ρ fun m1 ds => F ds m1 Q
section
variable {X : Cx} {a b e : Expr} {es : List Expr} {fa fb f : RE1} {g : RA1} {pos : Pos}
theorem re_D {f : Rp → Option D} (h : DE X e f) : RE X e (rD f) := h.imp fun σ H Q ⟨t, G, ρ, m, Qs, at_, ⟨d, e1, q⟩, p⟩ =>
  ⟨G, ρ, d, at_.a, e1, p.ofPost at_.ts at_.ts.refl_ q⟩
theorem ra_nil : RA X [] rNil := (pa_nil (X := X)).imp fun σ H Q ⟨t, G, ρ, m, Qs, at_, q, p⟩ => p [] G H [] m at_.ts.refl_ .nil q
theorem ra_cons (ha : RE X e fa) (hr : RA X es g) (hs : starEach (e :: es) X.env = (false, eval e X.env) :: starEach es X.env := by rfl) : RA X (e :: es) (rCons fa g) := (pa_cons ha hr hs).imp fun σ H Q ⟨t, G, ρ, m, Qs, at_, q, p⟩ => by
  refine ⟨t, G, ρ, m, _, at_, q, fun v G1 H1 d m1 s1 h1 q1 => ?_⟩
  refine ⟨t, G1, ρ, m1, _, at_.to s1, q1, fun vs G2 H2 ds m2 s2 h2 q2 => ?_⟩
  exact p _ G2 H2 _ m2 (s1.trans at_.ts s2) (.cons (h1.to s2.s.g) h2) q2
theorem re_tup {x1} (h : RA X es g) : RE X (.Tuple es x1 pos) (rTup g) := (pe_tup h).imp fun σ H Q ⟨t, G, ρ, m, Qs, at_, q, p⟩ => by
  refine ⟨t, G, ρ, m, _, at_, q, fun vs G1 H1 ds m1 s1 h1 ⟨hl, q1⟩ => ?_⟩
  exact ⟨dpos (by rw [h1.length]; exact hl), (p.ofPost at_.ts s1 q1).newT s1.s.gh h1⟩
theorem tOp_R {K : PySem.W.Frag} {r : R2} {gg : D → D → Option D} (hr : R2D K r gg) : ∀ σ H Q, tR K (r2 gg fa fb) σ H Q → tOp r (tR K fa) (tR K fb) σ H Q := fun σ H Q ⟨t, G, ρ, m, Qs, at_, q, p⟩ => by
  refine ⟨t, G, ρ, m, _, at_, q, fun v G1 H1 d m1 s1 h1 q1 => ?_⟩
  refine ⟨t, G1, ρ, m1, _, at_.to s1, q1, fun u G2 H2 y m2 s2 h2 q2 => ?_⟩
  obtain ⟨z, e2, q2⟩ := q2
  exact hr v u G2 H2 d y z s2.s.gh (h1.to s2.s.g) h2 e2 Q (p.ofPost at_.ts (s1.trans at_.ts s2) q2)
theorem re_op {op : Operator} {r : R2} {gg : D → D → Option D} (hr : R2D X.K r gg) (ho : OpR X (binaryOp op) r) (ha : RE X a fa) (hb : RE X b fb) : RE X (.BinOp a op b pos) (r2 gg fa fb) := (pe_op ho ha hb).imp (tOp_R hr)
theorem re_ix0 {r : R2} {gg : D → D → Option D} (hr : R2D X.K r gg) (ho : IxR X r) (ha : RE X a fa) (hb : RE X b fb) (hs : PlainIx b) : RE X (.Subscript a b pos) (r2 gg fa fb) := (pe_ix ho ha hb hs).imp (tOp_R hr)
theorem tTest_R {K : PySem.W.Frag} {te : TE} (h : ∀ σ H Q, tR K f σ H Q → te σ H Q) : ∀ σ H Q, tRT K (rB f) σ H Q → te σ H fun x H' => ∃ k, x = .bl k ∧ Q k H' := fun σ H Q ⟨t, G, ρ, m, Qs, at_, q, p⟩ => by
  refine h σ H _ ⟨t, G, ρ, m, _, at_, q, fun v G1 H1 d m1 s1 h1 ⟨b, e1, q1⟩ => ?_⟩
  subst e1
  cases h1
  exact ⟨b, rfl, p b G1 H1 m1 s1 q1⟩
theorem rt_cmp {op : CmpOp} {r : R2} {gg : D → D → Option D} (hr : R2D X.K r gg) (ho : OpR X (compareOp op) r) (ha : RE X a fa) (hb : RE X b fb) (hm : behindInMarks op b = false := by rfl) : RT X (.Compare a [op] [b] pos) (rB (r2 gg fa fb)) :=
  (pt_cmpR ho ha hb hm).imp (tTest_R (tOp_R hr))
theorem rt_D {c : Expr} {f : Rp → Option Bool} (h : DT X c f) : RT X c (fun m ρ Q => ∃ b, f ρ = some b ∧ Q m b) := h.imp fun σ H Q ⟨t, G, ρ, m, Qs, at_, ⟨b, e1, q⟩, p⟩ =>
  ⟨G, ρ, b, at_.a, e1, fun G' H' s => p b G' H' m (at_.ts.ofStp s) q⟩
/-- a def on data, its arguments drawn -/
theorem re_call {F : List D → Option D} {x : Str} {pp : Pos} {k n : Nat} (C : Callee X.prog X.w X.K X.mg X.base k x n F) (hr : Room k X.A) (hg : Gl X x) (ha : RA X (e :: es) g) (hn : es.length + 1 = n) (hl : ∀ m ρ Q, g m ρ Q → g m ρ fun m' ds => ds.length = n ∧ Q m' ds) (hdb : (x == ("__debug__" : Str)) = false := by decide)
    (he : starEach (e :: es) X.env = (false, eval e X.env) :: starEach es X.env := by rfl) (hpl : (backTo pos (starEach es X.env)).any (·.1) = false := by rfl) :
    RE X (.Call (.Name x pp) (e :: es) [] pos) (rCall F g) := by
  obtain ⟨f, fd, ps, F0, hm, hk, hb⟩ := C.ex
  refine L2.PE.imp (pe_call F0 hr hg hm hk hb .nil pass0 ha hdb he hpl) fun σ H Q ⟨t, G, ρ, m, Qs, at_, q, p⟩ => ?_
  refine ⟨t, G, ρ, m, _, at_, hl _ _ _ q, fun vs G1 H1 ds m1 s1 h1 ⟨l1, d, e1, q1⟩ => ?_⟩
  have key : spD X.K n F (vs ++ []) H1 Q E0 := by
    rw [List.append_nil]
    exact ⟨by rw [h1.length]; exact l1, G1, ds, d, s1.s.gh, h1, e1, p.ofPost at_.ts s1 q1⟩
  exact key
theorem re_callTy {r : List V → Hp → VK → Prop} {F : List D → Option D} {x : Str} {T : String} {pp : Pos} (hr : RCD X.K r F) (hc : CallR X (.type T) r) (hg : Gl X x) (hm : X.mg x = none) (hv : bootBuiltins x = some (.type T)) (ha : RA X (e :: es) g) (hn : x ≠ "__name__" := by decide) (hdb : (x == ("__debug__" : Str)) = false := by decide)
    (he : starEach (e :: es) X.env = (false, eval e X.env) :: starEach es X.env := by rfl) (hpl : (backTo pos (starEach es X.env)).any (·.1) = false := by rfl) :
    RE X (.Call (.Name x pp) (e :: es) [] pos) (rCall F g) :=
  (pe_callTy hc hg hm hv ha hn hdb he hpl).imp fun σ H Q ⟨t, G, ρ, m, Qs, at_, q, p⟩ =>
    ⟨t, G, ρ, m, _, at_, q, fun vs G1 H1 ds m1 s1 h1 ⟨d, e1, q1⟩ => hr vs G1 H1 ds d s1.s.gh h1 e1 Q (p.ofPost at_.ts s1 q1)⟩
end
/-- a def whose first argument is the box -/
def spR (K : PySem.W.Frag) (n : Nat) (F : WF) : Sp := fun vs H Q _ => vs.length = n + 1 ∧ ∃ t us G ds m Qs, vs = .ref t :: us ∧ Ts G H t m ∧ DqAll K G us ds ∧ F ds m Qs ∧ PostT K t G H Qs Q
structure CallR_ (P : Program) (w : World) (K : PySem.W.Frag) (mg : Str → Option Value) (base : Heap) (k : Nat) (x : Str) (n : Nat) (F : WF) : Prop where
  ex : ∃ (f : Addr) (fd : FuncData) (ps : List Str), FnOk P w K mg base CX0 k f fd ps (spR K n F) ∧ mg x = some (.ref f) ∧ PySem.W.keepIn K (.ref f) = true ∧ Binds K fd ps []
theorem CallR_.mono {P : Program} {w : World} {K : PySem.W.Frag} {mg : Str → Option Value} {base : Heap} {j k n : Nat} {x : Str} {F : WF} (C : CallR_ P w K mg base j x n F) (h : j ≤ k) : CallR_ P w K mg base k x n F := by
  obtain ⟨f, fd, ps, a, b, c, d⟩ := C.ex
  exact ⟨f, fd, ps, a.mono h, b, c, d⟩
theorem CallR_.imp {P : Program} {w : World} {K : PySem.W.Frag} {mg : Str → Option Value} {base : Heap} {k n : Nat} {x : Str} {F F' : WF} (C : CallR_ P w K mg base k x n F) (h : ∀ ds m Q, F' ds m Q → F ds m Q) : CallR_ P w K mg base k x n F' := by
  obtain ⟨f, fd, ps, a, b, c, d⟩ := C.ex
  exact ⟨f, fd, ps, a.imp (fun vs H Q E ⟨h1, t, us, G, ds, m, Qs, h2, h3, h4, h5, h6⟩ => ⟨h1, t, us, G, ds, m, Qs, h2, h3, h4, h _ _ _ h5, h6⟩), b, c, d⟩
/-- the box's name as the first argument -/
def tBox (K : PySem.W.Frag) (g : RA1) : TA := fun σ H Q => ∃ t G ρ m Qs, AtT K t G H σ ρ m ∧ g m ρ Qs ∧ ∀ vs G' H' ds m', StD t G H G' H' m' → DqAll K G' vs ds → Qs m' ds → Q (.ref t :: vs) H'
section
variable {X : Cx} {es : List Expr} {g : RA1} {pos : Pos}
theorem pa_box {e : Expr} (h0 : PE X e (tVar 0)) (hr : RA X es g) (hs : starEach (e :: es) X.env = (false, eval e X.env) :: starEach es X.env := by rfl) : PA X (e :: es) (tBox X.K g) := (pa_cons h0 hr hs).imp fun σ H Q ⟨t, G, ρ, m, Qs, at_, q, p⟩ =>
  ⟨.ref t, at_.z, t, G, ρ, m, Qs, at_, q, fun vs G1 H1 ds m1 s1 h1 q1 => p vs G1 H1 ds m1 s1 h1 q1⟩
theorem re_draw {F : WF} {x : Str} {pp : Pos} {k n : Nat} {e : Expr} (C : CallR_ X.prog X.w X.K X.mg X.base k x n F) (hr : Room k X.A) (hg : Gl X x) (h0 : PE X e (tVar 0)) (ha : RA X es g) (hn : es.length = n) (hl : ∀ m ρ Q, g m ρ Q → g m ρ fun m' ds => ds.length = n ∧ Q m' ds) (hdb : (x == ("__debug__" : Str)) = false := by decide)
    (he : starEach (e :: es) X.env = (false, eval e X.env) :: starEach es X.env := by rfl) (hpl : (backTo pos (starEach es X.env)).any (·.1) = false := by rfl) :
    RE X (.Call (.Name x pp) (e :: es) [] pos) (rDraw F g) := by
  obtain ⟨f, fd, ps, F0, hm, hk, hb⟩ := C.ex
  refine L2.PE.imp (pe_call F0 hr hg hm hk hb .nil pass0 (pa_box h0 ha he) hdb he hpl) fun σ H Q ⟨t, G, ρ, m, Qs, at_, q, p⟩ => ?_
  refine ⟨t, G, ρ, m, _, at_, hl _ _ _ q, fun vs G1 H1 ds m1 s1 h1 ⟨l1, q1⟩ => ?_⟩
  have key : spR X.K n F (.ref t :: vs ++ []) H1 Q E0 := by
    rw [List.append_nil]
    exact ⟨by rw [List.length_cons, h1.length, l1], t, vs, G1, ds, m1, Qs, rfl, s1.ts, h1, q1, fun v G2 H2 d m2 s2 h2 q2 => p v G2 H2 d m2 (s1.trans at_.ts s2) h2 q2⟩
  exact key
end
theorem rlen_nil : ∀ m ρ Q, rNil m ρ Q → rNil m ρ fun m' ds => ds.length = 0 ∧ Q m' ds := fun m ρ Q q => ⟨rfl, q⟩
/-- readings that keep an implication -/
def Mono (f : RE1) : Prop := ∀ m ρ (Q Q' : Nat → D → Prop), (∀ m d, Q m d → Q' m d) → f m ρ Q → f m ρ Q'
def MonoA (f : RA1) : Prop := ∀ m ρ (Q Q' : Nat → List D → Prop), (∀ m d, Q m d → Q' m d) → f m ρ Q → f m ρ Q'
theorem mono_D {f : Rp → Option D} : Mono (rD f) := fun m ρ Q Q' h ⟨d, e, q⟩ => ⟨d, e, h _ _ q⟩
theorem mono_nil : MonoA rNil := fun m ρ Q Q' h q => h _ _ q
theorem mono_cons {f : RE1} {g : RA1} (a : Mono f) (b : MonoA g) : MonoA (rCons f g) := fun m ρ Q Q' h q => a m ρ _ _ (fun m1 d q1 => b m1 ρ _ _ (fun m2 ds q2 => h _ _ q2) q1) q
theorem mono_2 {gg} {fa fb : RE1} (a : Mono fa) (b : Mono fb) : Mono (r2 gg fa fb) := fun m ρ Q Q' h q => a m ρ _ _ (fun m1 d q1 => b m1 ρ _ _ (fun m2 y ⟨z, e, q2⟩ => ⟨z, e, h _ _ q2⟩) q1) q
theorem mono_call {F : List D → Option D} {g : RA1} (a : MonoA g) : Mono (rCall F g) := fun m ρ Q Q' h q => a m ρ _ _ (fun m1 ds ⟨d, e, q1⟩ => ⟨d, e, h _ _ q1⟩) q
def MonoW (F : WF) : Prop := ∀ ds m (Q Q' : Nat → D → Prop), (∀ m d, Q m d → Q' m d) → F ds m Q → F ds m Q'
theorem mono_draw {F : WF} {g : RA1} (hF : MonoW F) (a : MonoA g) : Mono (rDraw F g) := fun m ρ Q Q' h q => a m ρ _ _ (fun m1 ds q1 => hF _ _ _ _ h q1) q
theorem rlen_cons {f : RE1} {g : RA1} {n : Nat} (a : Mono f) (b : ∀ m ρ Q, g m ρ Q → g m ρ fun m' ds => ds.length = n ∧ Q m' ds) : ∀ m ρ Q, rCons f g m ρ Q → rCons f g m ρ fun m' ds => ds.length = n + 1 ∧ Q m' ds := fun m ρ Q q =>
  a m ρ _ _ (fun m1 d q1 => by
    have := b m1 ρ _ q1
    have e : (fun m2 (ds : List D) => (d :: ds).length = n + 1 ∧ Q m2 (d :: ds)) = fun m2 ds => ds.length = n ∧ Q m2 (d :: ds) := by
      funext m2 ds
      rw [List.length_cons]
      exact propext ⟨fun ⟨x, y⟩ => ⟨by omega, y⟩, fun ⟨x, y⟩ => ⟨by omega, y⟩⟩
    rw [e]
    exact this) q

/-! ### a comprehension whose bit draws -/
def rlc (elt : RE1) (ρ : Rp) (i : Nat) (Q : Nat → D → Prop) : List D → List D → Nat → Prop
  | acc, [], m => Q m (.list acc)
  | acc, d :: ds, m => elt m (ρ.set i (some d)) fun m' y => rlc elt ρ i Q (acc ++ [y]) ds m'
def rLc (it : Rp → Option (List D)) (i : Nat) (elt : RE1) (vs : List Nat) : RE1 := fun m ρ Q => ∃ ds, it ρ = some ds ∧ ds.length ≤ 100000 ∧ rlc elt (wipeR ρ vs) i Q [] ds m
theorem wipe_keep {σ : L2.St} : ∀ {vs : List Nat}, 0 ∉ vs → (wipe σ vs)[0]? = σ[0]?
  | [], _ => rfl
  | v :: vs, h => by
    show ((wipe σ vs).set v none)[0]? = _
    rw [List.getElem?_set_ne (fun z => h (by rw [z]; exact List.mem_cons_self))]
    exact wipe_keep fun z => h (List.mem_cons_of_mem _ z)
theorem tLc_R {K : PySem.W.Frag} {it : Rp → Option (List D)} {g : TG} {i : Nat} {elt : RE1} {vs : List Nat} (tk : TgtOk K g (.one i)) (hv : ∀ j ∈ (Tgt.one i).slots, j ∈ vs) (h0 : 0 ∉ vs) :
    ∀ σ H Q, tR K (rLc it i elt vs) σ H Q → tLc (tDI K it) g (tDT K tTrue) (tR K elt) vs σ H Q := fun σ H Q ⟨t, G, ρ, m, Qs, at_, q, p⟩ => by
  obtain ⟨ds, e1, hz, e2⟩ := q
  have hi : i ≠ 0 := fun z => h0 (by rw [← z]; exact hv i (by simp [Tgt.slots]))
  refine ⟨G, ρ, ds, at_.a, e1, fun J G1 H1 s1 hJ Dl hD => ?_⟩
  have sd1 : StD t G H G1 H1 m := at_.ts.ofStp s1
  have ew : EnvP K G (wipe σ vs) (wipeR ρ vs) := at_.a.e.wipe vs
  refine ⟨fun j k H' => k = ds.length - j ∧ j ≤ ds.length ∧ ∃ (G' : Hp) (xs : List V) (as : List D) (m' : Nat), StD t G1 H1 G' H' m' ∧ G' Dl = none ∧ H' Dl = some (.lst xs) ∧ DqAll K G' xs as ∧ rlc elt (wipeR ρ vs) i Qs as (ds.drop j) m' ∧ as.length = j,
    ⟨ds.length, by simp, Nat.zero_le _, G1, [], [], m, ?_, s1.gh.free hD, upd_same, .nil, e2, rfl⟩, ?_⟩
  · exact sd1.ts.ofStp (.newH s1.gh hD)
  rintro j k H' ⟨rfl, hj, G', xs, as, m', a1, a2, a3, a4, a5, a6⟩
  by_cases hlt : j < ds.length
  · have ed : ds[j]? = some ds[j] := List.getElem?_eq_getElem hlt
    obtain ⟨go, yld⟩ := (hJ j G' H' a1.s.g a1.s.gh).1 _ ed
    refine .inr ⟨go, _, fun H'' w => ⟨ds.length - (j + 1), by omega, w⟩, fun x H2 y => ?_⟩
    obtain ⟨G2, s2, hx⟩ := yld x H2 y
    rw [List.drop_eq_getElem_cons hlt] at a5
    unfold rlc at a5
    have e3 : EnvP K G2 (wipe σ vs) (wipeR ρ vs) := ew.to ((s1.g.trans a1.s.g).trans s2.g)
    refine tk.one i rfl x _ H2 _ ⟨by rw [wipe_set (hv i (by simp [Tgt.slots])), wipe_wipe], ?_⟩
    have en := e3.set i hx
    refine ⟨G2, (wipeR ρ vs).set i (some ds[j]), true, ⟨s2.gh, en⟩, rfl, fun G3 H3 s3 => ?_⟩
    have s23 := s2.trans s3
    have sd13 : StD t G1 H1 G3 H3 m' := a1.stp sd1.ts s23
    have l3 : H3 Dl = some (.lst xs) := s23.h _ _ a3
    have n3 : G3 Dl = none := s23.nw _ _ a3 a2
    refine iteT ⟨t, G3, _, m', _, ⟨⟨s3.gh, en.to s3.g⟩, ?_, sd13.ts⟩, a5, fun w G4 H4 d m4 s4 hw q4 => ?_⟩
    · rw [List.getElem?_set_ne hi, wipe_keep h0]
      exact at_.z
    · have hne : Dl ≠ t := fun z => by
        subst z
        obtain ⟨a, b, c, e, _⟩ := a1.ts.tin
        obtain ⟨o, ho⟩ := sd1.ts.tin.some_
        rw [hD] at ho
        cases ho
      have l4 : H4 Dl = some (.lst xs) := s4.s.h _ _ hne l3
      have n4 : G4 Dl = none := s4.s.nw _ _ l3 n3
      have hlen : xs.length < sizeLine := Nat.lt_of_le_of_lt (by rw [a4.length, a6]; exact Nat.le_trans hj hz) (by decide : (100000 : Nat) < sizeLine)
      have sd14 : StD t G1 H1 G4 H4 m4 := sd13.trans sd1.ts s4
      refine ⟨xs, l4, hlen, rfl, hlt, G4, xs ++ [w], as ++ [d], m4, ⟨⟨sd14.s.g, fun q o hq e => ?_, fun q o hq => ?_, fun q o h1 h2 => sd14.s.nw q o h1 h2⟩, ⟨fun q o hq => ?_, sd14.ts.n, ?_⟩⟩, n4, upd_same, (a4.to (s23.g.trans s4.s.g)).append (.cons hw .nil), q4, ?_⟩
      · rw [upd_ne (ne_of_none e hD)]
        exact sd14.s.h _ _ hq e
      · have hne' : q ≠ Dl := fun z => by
          subst z
          rw [n4] at hq
          cases hq
        rw [upd_ne hne']
        exact sd14.s.gh _ _ hq
      · have hne' : q ≠ Dl := fun z => by
          subst z
          rw [n4] at hq
          cases hq
        rw [upd_ne hne']
        exact sd14.s.gh _ _ hq
      · exact sd14.ts.tin.to (upd_ne fun z => hne z.symm)
      · rw [List.length_append, a6]
        rfl
  · have ei : j = ds.length := by omega
    refine .inl ⟨(hJ _ G' H' a1.s.g a1.s.gh).2 ei.symm, ?_⟩
    rw [ei, List.drop_length] at a5
    have hne : Dl ≠ t := fun z => by
      subst z
      obtain ⟨o, ho⟩ := sd1.ts.tin.some_
      rw [hD] at ho
      cases ho
    refine p (.ref Dl) (upd G' Dl (.lst xs)) H' _ m' ⟨?_, ?_⟩ (.lst upd_same (a4.to (same_upd a2))) a5
    · refine ⟨(s1.g.trans a1.s.g).trans (same_upd a2), fun q o hq e => a1.s.h _ _ hq (s1.h _ _ e), fun q o hq => ?_, fun q o h1 h2 => ?_⟩
      · by_cases hq' : q = Dl
        · subst hq'
          rw [upd_same] at hq
          rw [a3]
          exact hq
        · rw [upd_ne hq'] at hq
          exact a1.s.gh _ _ hq
      · have h1' := s1.h _ _ h1
        rw [upd_ne (ne_of_none h1' hD)]
        exact a1.s.nw q o h1' (s1.nw q o h1 h2)
    · refine ⟨fun q o hq => ?_, ?_, a1.ts.tin⟩
      · by_cases hq' : q = Dl
        · subst hq'
          rw [upd_same] at hq
          rw [a3]
          exact hq
        · rw [upd_ne hq'] at hq
          exact a1.s.gh _ _ hq
      · rw [upd_ne fun z => hne z.symm]
        exact a1.ts.n
end DL

/-! R2: statements of drawing code. -/
namespace DL
open PySem PySem.Spec PyProof.Rows L2

def tRS (K : PySem.W.Frag) (g : RS1) : TS := fun E σ H => ∃ t G0 H0 m0 G ρ m Qn Qr, Ts G0 H0 t m0 ∧ StD t G0 H0 G H m ∧ AtT K t G H σ ρ m ∧ g m ρ Qn Qr ∧
  (∀ σ' G' H' ρ' m', AtT K t G' H' σ' ρ' m' → StD t G0 H0 G' H' m' → Qn m' ρ' → E.nx σ' H') ∧ ∀ v G' H' d m', StD t G0 H0 G' H' m' → Dq K G' v d → Qr m' d → E.rt v H'
abbrev RS (X : Cx) (st : Stmt) (g : RS1) : Prop := PS X st (tRS X.K g)
abbrev RSs (X : Cx) (st : List Stmt) (g : RS1) : Prop := PSs X st (tRS X.K g)
def qNext : RS1 := fun m ρ Qn _ => Qn m ρ
def qSeq (f g : RS1) : RS1 := fun m ρ Qn Qr => f m ρ (fun m' ρ' => g m' ρ' Qn Qr) Qr
def qSet (i : Nat) (f : RE1) : RS1 := fun m ρ Qn _ => f m ρ fun m' d => Qn m' (ρ.set i (some d))
def qRet (f : RE1) : RS1 := fun m ρ _ Qr => f m ρ Qr
def qIf (c : RT1) (f g : RS1) : RS1 := fun m ρ Qn Qr => c m ρ fun m' b => if b = true then f m' ρ Qn Qr else g m' ρ Qn Qr
def qPar (is : List Nat) (f : RA1) : RS1 := fun m ρ Qn _ => f m ρ fun m' ds => ds.length = is.length ∧ Qn m' (setsR is ds ρ)
def qUnp (is : List Nat) (f : RE1) : RS1 := fun m ρ Qn _ => f m ρ fun m' d => ∃ ds, d = .tuple ds ∧ ds.length = is.length ∧ Qn m' (setsR is ds ρ)
section
variable {X : Cx} {st : Stmt} {sts : List Stmt} {f g h : RS1} {e c : Expr} {fe : RE1} {pos : Pos}
theorem rss_nil : RSs X [] qNext := (pss_nil (X := X)).imp fun E σ H ⟨t, G0, H0, m0, G, ρ, m, Qn, Qr, x0, s0, at_, q, p1, p2⟩ => p1 σ G H ρ m at_ s0 q
theorem rss_cons (h1 : RS X st f) (h2 : RSs X sts g) : RSs X (st :: sts) (qSeq f g) := (pss_cons h1 h2).imp fun E σ H ⟨t, G0, H0, m0, G, ρ, m, Qn, Qr, x0, s0, at_, q, p1, p2⟩ =>
  ⟨t, G0, H0, m0, G, ρ, m, _, Qr, x0, s0, at_, q, fun σ' G' H' ρ' m' at' s' q' => ⟨t, G0, H0, m0, G', ρ', m', Qn, Qr, x0, s', at', q', p1, p2⟩, p2⟩
theorem rss_one (h1 : RS X st f) : RSs X [st] f := pss_one h1
theorem AtT.set {K : PySem.W.Frag} {t : Addr} {G H : Hp} {σ : L2.St} {ρ : Rp} {m : Nat} {w : V} {d : D} (a : AtT K t G H σ ρ m) {i : Nat} (hi : i ≠ 0) (h : Dq K G w d) : AtT K t G H (σ.set i (some w)) (ρ.set i (some d)) m :=
  ⟨⟨a.a.s, a.a.e.set i h⟩, by rw [List.getElem?_set_ne hi]; exact a.z, a.ts⟩
theorem setsV_0 : ∀ {is : List Nat} {xs : List V} {σ : L2.St}, 0 ∉ is → (setsV is xs σ)[0]? = σ[0]?
  | [], _, _, _ => by unfold setsV; rfl
  | i :: is, [], _, _ => by unfold setsV; rfl
  | i :: is, x :: xs, σ, h => by
    unfold setsV
    rw [setsV_0 (fun z => h (List.mem_cons_of_mem _ z)), List.getElem?_set_ne (fun z => h (by rw [z]; exact List.mem_cons_self))]
theorem AtT.sets {K : PySem.W.Frag} {t : Addr} {G H : Hp} {σ : L2.St} {ρ : Rp} {m : Nat} {ws : List V} {ds : List D} {is : List Nat} (a : AtT K t G H σ ρ m) (hi : 0 ∉ is) (h : DqAll K G ws ds) : AtT K t G H (setsV is ws σ) (setsR is ds ρ) m :=
  ⟨⟨a.a.s, sets_env a.a.e h⟩, by rw [setsV_0 hi]; exact a.z, a.ts⟩
theorem tAsg_R {K : PySem.W.Frag} {i : Nat} (hi : i ≠ 0) {t : TE} (h : ∀ σ H Q, tR K fe σ H Q → t σ H Q) : ∀ E σ H, tRS K (qSet i fe) E σ H → tAsg t (gName i) E σ H := fun E σ H ⟨t, G0, H0, m0, G, ρ, m, Qn, Qr, x0, s0, at_, q, p1, p2⟩ =>
  h σ H _ ⟨t, G, ρ, m, _, at_, q, fun w G1 H1 d m1 s1 h1 q1 => p1 _ G1 H1 _ m1 ((at_.to s1).set hi h1) (s0.trans x0 s1) q1⟩
theorem rs_set {i : Nat} (h0 : i ≠ 0) {x : Str} {pos' : Pos} (hN : X.N.Nodup) (hi : X.N[i]? = some x) (hx : Loc X.env.scope x) (he : RE X e fe) (hs : swapsWith e (some (.Name x pos')) pos.line X.env = pure false := by rfl) (hf : X.fn x = true ∨ X.env.scope.names.lookup x = some .local := by first | exact .inl rfl | exact .inr rfl | assumption) :
    RS X (.Assign [.Name x pos'] e pos) (qSet i fe) := (ps_set hN hi hx he hs hf).imp (tAsg_R h0 fun _ _ _ z => z)
theorem rs_ret (he : RE X e fe) : RS X (.Return (some e) pos) (qRet fe) := (ps_ret he).imp fun E σ H ⟨t, G0, H0, m0, G, ρ, m, Qn, Qr, x0, s0, at_, q, p1, p2⟩ =>
  ⟨t, G, ρ, m, _, at_, q, fun w G1 H1 d m1 s1 h1 q1 => p2 w G1 H1 d m1 (s0.trans x0 s1) h1 q1⟩
theorem rs_if {a b : List Stmt} {fc : RT1} (hc : RT X c fc) (ha : RSs X a f) (hb : RSs X b g) : RS X (.If c a b pos) (qIf fc f g) := (ps_if hc ha hb).imp fun E σ H ⟨t, G0, H0, m0, G, ρ, m, Qn, Qr, x0, s0, at_, q, p1, p2⟩ => by
  refine ⟨t, G, ρ, m, _, at_, q, fun b G1 H1 m1 s1 q1 => ?_⟩
  have sd := s0.trans x0 s1
  cases b with
  | true => exact iteT ⟨t, G0, H0, m0, G1, ρ, m1, Qn, Qr, x0, sd, at_.to s1, q1, p1, p2⟩
  | false => exact iteF ⟨t, G0, H0, m0, G1, ρ, m1, Qn, Qr, x0, sd, at_.to s1, q1, p1, p2⟩
theorem rs_unp {tg : Expr} {is : List Nat} (h0 : 0 ∉ is) (he : RE X e fe) (hg : PG X tg (gTup X.K is.length (gNames is))) (hs : swapsWithSole [tg] e pos.line X.env = pure false := by rfl) (hw : swappedStores [tg] e X.env = pure none := by rfl)
    (h1 : (assignEach [tg] X.env).map (·.2) = [assign tg X.env] := by rfl) : RS X (.Assign [tg] e pos) (qUnp is fe) := (ps_asg he hg hs hw h1).imp fun E σ H ⟨t, G0, H0, m0, G, ρ, m, Qn, Qr, x0, s0, at_, q, p1, p2⟩ => by
  refine ⟨t, G, ρ, m, _, at_, q, fun w G1 H1 d m1 s1 h1 ⟨ds, e1, hl, q1⟩ => ?_⟩
  subst e1
  cases h1 with
  | tup k1 k2 => exact ⟨_, _, rfl, same_sqT s1.s.gh k1, by rw [k2.length]; exact hl, gNames_ok (by rw [k2.length]; exact hl) (p1 _ G1 H1 _ m1 ((at_.to s1).sets h0 k2) (s0.trans x0 s1) q1)⟩
theorem rs_par {i j : Nat} (hi0 : i ≠ 0) (hj0 : j ≠ 0) {x y : Str} {a b : Expr} {fk : RA1} {px py pt : Pos} {kt k2 pt2} (hc : X.calm = true) (hN : X.N.Nodup) (hi : X.N[i]? = some x) (hj : X.N[j]? = some y) (hij : i ≠ j)
    (hx : X.env.scope.names.lookup x = some .local) (hy : X.env.scope.names.lookup y = some .local) (ha : RA X [a, b] fk)
    (hw : swappedStores [.Tuple [.Name x px, .Name y py] kt pt] (.Tuple [a, b] k2 pt2) X.env = pure (some [x, y]) := by rfl)
    (hs : swapsWithSole [.Tuple [.Name x px, .Name y py] kt pt] (.Tuple [a, b] k2 pt2) pos.line X.env = pure false := by rfl) :
    RS X (.Assign [.Tuple [.Name x px, .Name y py] kt pt] (.Tuple [a, b] k2 pt2) pos) (qPar [i, j] fk) := (ps_par hc hN hi hj hij hx hy ha hw hs).imp fun E σ H ⟨t, G0, H0, m0, G, ρ, m, Qn, Qr, x0, s0, at_, q, p1, p2⟩ => by
  refine ⟨t, G, ρ, m, _, at_, q, fun vs G1 H1 ds m1 s1 h1 ⟨hl, q1⟩ => ?_⟩
  have hl2 : vs.length = 2 := by rw [h1.length, hl]; rfl
  match vs, hl2, h1 with
  | [v1, v2], _, h1 => exact ⟨v1, v2, rfl, p1 _ G1 H1 _ m1 ((at_.to s1).sets (is := [i, j]) (by simp [hi0.symm, hj0.symm]) h1) (s0.trans x0 s1) q1⟩
theorem rs_parT {tg : Expr} {is : List Nat} {es : List Expr} {fk : RA1} {k2 pt2} (h0 : 0 ∉ is) (ha : RA X es fk) (hg : PG X tg (gTup X.K is.length (gNames is))) (hz : is.length ≤ 1000) (hs : swapsWithSole [tg] (.Tuple es k2 pt2) pos.line X.env = pure false := by rfl) (hw : swappedStores [tg] (.Tuple es k2 pt2) X.env = pure none := by rfl)
    (h1 : (assignEach [tg] X.env).map (·.2) = [assign tg X.env] := by rfl) : RS X (.Assign [tg] (.Tuple es k2 pt2) pos) (qPar is fk) := (ps_asg (pe_tup ha) hg hs hw h1).imp fun E σ H ⟨t, G0, H0, m0, G, ρ, m, Qn, Qr, x0, s0, at_, q, p1, p2⟩ => by
  refine ⟨t, G, ρ, m, _, at_, q, fun vs G1 H1 ds m1 s1 h1 ⟨hl, q1⟩ => ?_⟩
  refine ⟨dpos (by rw [h1.length, hl]; omega), fun p hp => ?_⟩
  have s2 : Stp G1 H1 G1 (upd H1 p (.tup vs)) := .newH s1.s.gh hp
  refine ⟨p, vs, rfl, .inl (.inl upd_same), by rw [h1.length, hl], gNames_ok (by rw [h1.length, hl]) (p1 _ G1 _ _ m1 ?_ (s0.trans x0 (s1.stp at_.ts s2)) q1)⟩
  exact (at_.to (s1.stp at_.ts s2)).sets h0 h1
theorem re_lc {elt tg iter : Expr} {scope : Scope} {own : List (Str × Nat)} {it : Rp → Option (List D)} {g : TG} {i : Nat} {f : RE1} (hc : X.calm = true) (hN : X.N.Nodup) (hi : DI X tg iter it) (ok : BlkOk X.N X.env.scope scope own) (tk : TgtOk X.K g (.one i)) (hv : ∀ j ∈ (Tgt.one i).slots, j ∈ own.map (·.2)) (h0 : 0 ∉ own.map (·.2))
    (hg : ∀ (s : Shared) (H : Hp) (C : Addr) (cl : List (Str × Addr)) (fp : List Addr), PG (X.blk s H scope (compEnvC scope cl C X.env) fp) tg g)
    (he : ∀ (s : Shared) (H : Hp) (C : Addr) (cl : List (Str × Addr)) (fp : List Addr), RE (X.blk s H scope (compEnvC scope cl C X.env) fp) elt f) (hs : ∀ x, foldedSetIterable iter X.env x = pure x := by intro _; rfl) :
    RE X (.ListComp elt [⟨tg, iter, [], 0⟩] scope pos) (rLc it i f (own.map (·.2))) := (pe_lc hc hN hi ok hg (fun _ _ _ _ _ => dts_nil) he hs).imp (tLc_R tk hv h0)
theorem rs_setLc {i : Nat} (hi0 : i ≠ 0) {y : Str} {py : Pos} {elt tg iter : Expr} {scope : Scope} {own : List (Str × Nat)} {spos : Pos} {it : Rp → Option (List D)} {gt : TG} {j : Nat} {fx : RE1} (hc : X.calm = true) (hN : X.N.Nodup) (hy : X.N[i]? = some y) (hyl : X.env.scope.names.lookup y = some .local)
    (hsw : swapsWith (.ListComp elt [⟨tg, iter, [], 0⟩] scope pos) (some (.Name y py)) spos.line X.env = pure true) (hi : DI X tg iter it) (ok : BlkOk X.N X.env.scope scope own) (tk : TgtOk X.K gt (.one j)) (hv : ∀ i ∈ (Tgt.one j).slots, i ∈ own.map (·.2)) (h0 : 0 ∉ own.map (·.2))
    (hg : ∀ (s : Shared) (H : Hp) (C : Addr) (cl : List (Str × Addr)) (fp : List Addr), PG (X.blk s H scope (compEnvC scope cl C X.env) fp) tg gt)
    (he : ∀ (s : Shared) (H : Hp) (C : Addr) (cl : List (Str × Addr)) (fp : List Addr), RE (X.blk s H scope (compEnvC scope cl C X.env) fp) elt fx) (hs : ∀ x, foldedSetIterable iter X.env x = pure x := by intro _; rfl) :
    RS X (.Assign [.Name y py] (.ListComp elt [⟨tg, iter, [], 0⟩] scope pos) spos) (qSet i (rLc it j fx (own.map (·.2)))) := (ps_setLc hc hN hy hyl hsw hi ok hg (fun _ _ _ _ _ => dts_nil) he hs).imp (tAsg_R hi0 (tLc_R tk hv h0))
end
/-! ### defs -/
def initR (n : Nat) (ds : List D) : Rp := none :: ds.map some ++ List.replicate (n - (ds.length + 1)) none
section
variable {P : Program} {w : World} {K : PySem.W.Frag} {mg : Str → Option Value} {base : Heap}
theorem start_envR {G H : Hp} {N : List Str} {t : Addr} {m : Nat} {vs : List V} {ds : List D} (x : Ts G H t m) (h : DqAll K G vs ds) : AtT K t G H (L2.start N (.ref t :: vs)) (initR N.length ds) m := by
  have hl := h.length
  refine ⟨⟨x.s, ?_, fun i d e => ?_⟩, ?_, x⟩
  · unfold L2.start initR
    simp only [List.map_cons, List.length_cons, List.cons_append, List.length_append, List.length_map, List.length_replicate, hl]
  · unfold initR at e
    unfold L2.start
    cases i with
    | zero => cases e
    | succ i =>
      have e1 : (ds.map some ++ List.replicate (N.length - (ds.length + 1)) none)[i]? = some (some d) := by simpa using e
      by_cases hi : i < ds.length
      · rw [List.getElem?_append_left (by rw [List.length_map]; exact hi), List.getElem?_map] at e1
        obtain ⟨d', e2, e3⟩ := Option.map_eq_some_iff.mp e1
        cases e3
        obtain ⟨v, e4, e5⟩ := h.at_ e2
        refine ⟨v, ?_, e5⟩
        show (((V.ref t :: vs).map some) ++ _)[i + 1]? = _
        rw [List.map_cons, List.cons_append, List.getElem?_cons_succ, List.getElem?_append_left (by rw [List.length_map, hl]; exact hi), List.getElem?_map, e4]
        rfl
      · rw [List.getElem?_append_right (by rw [List.length_map]; omega)] at e1
        have := List.eq_of_mem_replicate (List.mem_of_getElem? e1)
        cases this
  · rfl
def fnR (n : Nat) (g : RS1) : WF := fun ds m Q => g m (initR n ds) (fun m' _ => Q m' .none) Q
theorem callR_mk {x qual : Str} {st : Stmt} {f : Addr} {fd : FuncData} {N ps : List Str} {k n : Nat} {g : RS1} (F : Fun K x qual st f fd) (S : FnScope N ps (defScope st)) (hm : mg x = some (.ref f)) (hB : Binds K fd ps []) (hn : ps.length = n + 1)
    (hb : ∀ (cdv : Value) (A : Around) (outer : List Env) (s : Shared) (H : Hp) (E : XK), Room k (A.deeper (envOfC qual (defScope st) s.heap.objs.size f cdv)) → RSs (cxOf CX0 P w K mg base N qual (defScope st) f cdv A outer s H E).nox (defBody st) g) :
    CallR_ P w K mg base (k + 1) x n (fnR N.length g) := by
  refine ⟨f, fd, ps, F.ok S (fun vs H Q E h => by rw [h.1, hn]) (fun cdv A outer s H vs Q E hr h => ?_), hm, F.kp, hB⟩
  obtain ⟨hl, t, us, G, ds, m, Qs, rfl, ts, hd, e, p⟩ := h
  refine ⟨_, hb cdv A outer s H E hr, ?_⟩
  exact ⟨t, G, H, m, G, _, m, _, Qs, ts, ts.refl_, start_envR ts hd, e, fun σ' G' H' ρ' m' a' s' q' => p .non G' H' .none m' s' .non q', fun v G' H' d m' s' h' q' => p v G' H' d m' s' h' q'⟩
end
end DL

/-! R3: operators with drawn operands. -/
namespace DL
open PySem PySem.Spec PyProof.Rows L2
section
variable {X : Cx} {a b e : Expr} {fa fb : RE1} {g : RA1} {pos pp : Pos}
theorem re_add (ha : RE X a fa) (hb : RE X b fb) : RE X (.BinOp a .Add b pos) (r2 addD fa fb) := re_op (r_addI.or (r_addT.or r_addL)) (op_add.or (op_catA.or op_cat)) ha hb
theorem re_sub (ha : RE X a fa) (hb : RE X b fb) : RE X (.BinOp a .Sub b pos) (r2 subD fa fb) := re_op r_sub op_sub ha hb
theorem re_mul (ha : RE X a fa) (hb : RE X b fb) : RE X (.BinOp a .Mult b pos) (r2 mulD fa fb) := re_op (r_mulI.or r_mulL) (op_mul.or op_rep) ha hb
theorem re_ix (ha : RE X a fa) (hb : RE X b fb) (hs : PlainIx b := by exact fun _ _ => rfl) : RE X (.Subscript a b pos) (r2 getD_ fa fb) := re_ix0 r_ix (ix_list.or ix_tup) ha hb hs
theorem re_tuple (hg : Gl X "tuple") (hm : X.mg "tuple" = none) (ha : RA X [a] g) (he : starEach [a] X.env = [(false, eval a X.env)] := by rfl) : RE X (.Call (.Name "tuple" pp) [a] [] pos) (rCall tupleD g) := re_callTy r_tuple call_tuple_of hg hm boot_tuple' ha (by decide) (by decide) he rfl
theorem rt_gt (ha : RE X a fa) (hb : RE X b fb) : RT X (.Compare a [.Gt] [b] pos) (rB (r2 gtD fa fb)) := rt_cmp r_gt op_gt ha hb (nomark _)
theorem rt_eq {k : Nat} (hr : Room k X.A) (ha : RE X a fa) (hb : RE X b fb) : RT X (.Compare a [.Eq] [b] pos) (rB (r2 eqD fa fb)) := rt_cmp r_eq (op_eqD hr.units) ha hb (nomark _)
end
/-! ### what the drawing defs promise -/
def W_l_take : WF := fun ds m Q => ∃ n : Int, ds = [.int n] ∧ 0 < n ∧ n ≤ 1000 ∧ m < 900 ∧ ∀ r : Int, 0 ≤ r → r < n → Q (m + 1) (.int r)
def W_l_of : WF := fun ds m Q => ∃ gs : List D, ds = [.list gs] ∧ 0 < gs.length ∧ gs.length ≤ 1000 ∧ m < 900 ∧ ∀ d ∈ gs, Q (m + 1) d
def W_l_walk : WF := fun ds m Q => ∃ (n : Nat) (gs : List D), ds = [.int n, .list gs] ∧ 0 < gs.length ∧ gs.length ≤ 1000 ∧ m + n ≤ 900 ∧ ∀ ws : List D, ws.length = n → (∀ d ∈ ws, d ∈ gs) → Q (m + n) (.tuple ws)
def W_l_fees : WF := fun ds m Q => ds = [] ∧ m + 7 ≤ 900 ∧ ∀ fs : List Int, fs.length = 6 → (∀ f ∈ fs, 0 ≤ f ∧ f ≤ 1000000) → Q (m + 7) (.tuple (fs.map .int))
theorem mono_l_take : MonoW W_l_take := fun ds m Q Q' h ⟨n, a, b, c, d, e⟩ => ⟨n, a, b, c, d, fun r x y => h _ _ (e r x y)⟩
theorem mono_l_of : MonoW W_l_of := fun ds m Q Q' h ⟨n, a, b, c, d, e⟩ => ⟨n, a, b, c, d, fun r x => h _ _ (e r x)⟩
theorem mono_l_walk : MonoW W_l_walk := fun ds m Q Q' h ⟨n, gs, a, b, c, d, e⟩ => ⟨n, gs, a, b, c, d, fun r x y => h _ _ (e r x y)⟩
theorem mono_l_fees : MonoW W_l_fees := fun ds m Q Q' h ⟨a, b, c⟩ => ⟨a, b, fun r x y => h _ _ (c r x y)⟩
section
variable {P : Program} {w : World} {K : PySem.W.Frag} {mg : Str → Option Value} {base : Heap}
theorem r_l_take {f : Addr} {fd : FuncData} (F : Fun K "_law_take" "_law_take" s_l_take f fd) (hm : mg "_law_take" = some (.ref f)) (hB : Binds K fd ["_law_tin", "_law_below_so"] []) (B : Txt K mg) : CallR_ P w K mg base 1 "_law_take" 1 W_l_take := by
  obtain ⟨f', fd', ps, a, b, c, d⟩ := (c_l_take (P := P) (w := w) (base := base) F hm hB B).ex
  refine ⟨f', fd', ps, a.imp (fun vs H Q E ⟨h1, t, us, G, ds, m, Qs, h2, h3, h4, ⟨n, e1, n0, n1, hm9, h5⟩, h6⟩ => ⟨h1, t, us, G, ds, m, h2, h3, by omega, h4, ⟨n, e1, n0, n1⟩, fun v G' H' d s ti hr hv => ?_⟩), b, c, d⟩
  obtain ⟨n', r, e2, e3, r0, r1⟩ := hr
  rw [e1] at e2
  cases e2
  subst e3
  exact h6 v G' H' (.int r) (m + 1) ⟨s, h3.stT s ti⟩ hv (h5 r r0 r1)
end
end DL

/-! Q0: drawing defs (printed by gen.py). W_far_spot, W_begin: by hand, behind. -/
namespace DL
open PySem PySem.Spec PyProof.Rows L2
def q_l_of : RS1 :=
  (qRet (r2 getD_ (rD (dVar 1)) (rDraw W_l_take (rCons (rD (dCall lenD (dCons (dVar 1) dNil))) rNil))))
def q_l_walk : RS1 :=
  (qRet (rCall tupleD (rCons (rLc (iRange (dVar 1)) 3 (rDraw W_l_of (rCons (rD (dVar 2)) rNil)) [3]) rNil)))
def q_l_fees : RS1 :=
  (qSeq (qSet 1 (rDraw W_l_take (rCons (rD (dC (.int 4))) rNil)))
    (qSeq (qIf (fun m ρ Q => ∃ b, (tB_ (d2 eqD (dVar 1) (dC (.int 0)))) ρ = some b ∧ Q m b) (qRet (rCall tupleD (rCons (rLc (iRange (dC (.int 6))) 2 (rDraw W_l_take (rCons (rD (dC (.int 3))) rNil)) [2]) rNil))) qNext)
    (qSeq (qIf (fun m ρ Q => ∃ b, (tB_ (d2 eqD (dVar 1) (dC (.int 1)))) ρ = some b ∧ Q m b) (qRet (rCall tupleD (rCons (rLc (iRange (dC (.int 6))) 2 (r2 subD (rD (d2 powD (dC (.int 10)) (dC (.int 6)))) (rDraw W_l_take (rCons (rD (dC (.int 50))) rNil))) [2]) rNil))) qNext)
    (qRet (rCall tupleD (rCons (rLc (iRange (dC (.int 6))) 2 (rDraw W_l_take (rCons (rD (dC (.int 10))) rNil)) [2]) rNil))))))
def q_l_far_spot : RS1 :=
  (qSeq (qSet 2 (rCall F_l_behind (rCons (rD (dVar 1)) (rCons (rDraw W_l_walk (rCons (rDraw W_l_take (rCons (rD (dC (.int 7))) rNil)) (rCons (rD (dCall F_l_tips dNil)) rNil))) rNil))))
    (qSeq (qIf (rB (r2 gtD (rDraw W_l_take (rCons (rD (dC (.int 3))) rNil)) (rD (dC (.int 0))))) (qRet (rD (dVar 2))) qNext)
    (qSeq (qPar [3, 4] (rCons (rDraw W_l_take (rCons (rD (dC (.int 3))) rNil)) (rCons (r2 mulD (rD (dC (.int 4))) (rDraw W_l_of (rCons (rD (dLst (dCons (d1 negD (dC (.int 1))) (dCons (dC (.int 1)) (dCons (dC (.int 3)) (dCons (d1 negD (dC (.int 250))) (dCons (d2 powD (dC (.int 10)) (dC (.int 9))) dNil))))))) rNil))) rNil)))
    (qSeq (qSet 5 (rD (dCall tupleD (dCons (dLc (iEnumT (d2 getD_ (dVar 2) (dC (.int 1)))) (.many [6, 7]) tTrue (d2 addD (dVar 7) (d2 mulD (dVar 4) (dCall intD (dCons (d2 neD (dVar 6) (dVar 3)) dNil)))) [6, 7]) dNil))))
    (qRet (rD (dTup (dCons (d2 getD_ (dVar 2) (dC (.int 0))) (dCons (dVar 5) (dCons (d2 getD_ (dVar 2) (dC (.int 2))) (dCons (d2 getD_ (dVar 2) (dC (.int 3))) dNil)))))))))))
def q_l_begin : RS1 :=
  (qSeq (qUnp [1, 2, 3, 4] (rCall F_l_behind (rCons (rD (dCall F_l_home dNil)) (rCons (rDraw W_l_walk (rCons (rDraw W_l_take (rCons (rD (dC (.int 5))) rNil)) (rCons (rD (dCall F_l_tips dNil)) rNil))) rNil))))
    (qSeq (qIf (rB (r2 eqD (rDraw W_l_take (rCons (rD (dC (.int 2))) rNil)) (rD (dC (.int 0))))) (qRet (rD (dTup (dCons (dVar 1) (dCons (dVar 2) (dCons (dVar 3) (dCons (dVar 4) dNil))))))) qNext)
    (qSeq (qSet 2 (rCall tupleD (rCons (rLc (iSeq (dVar 2)) 5 (r2 subD (r2 addD (rD (dVar 5)) (rDraw W_l_take (rCons (rD (dC (.int 5))) rNil))) (rD (dC (.int 2)))) [5]) rNil)))
    (qSeq (qSet 3 (rCall tupleD (rCons (rLc (iSeq (dVar 3)) 5 (r2 subD (r2 addD (rD (dVar 5)) (rDraw W_l_take (rCons (rD (dC (.int 5))) rNil))) (rD (dC (.int 2)))) [5]) rNil)))
    (qRet (rTup (rCons (rD (dVar 1)) (rCons (rD (dVar 2)) (rCons (rD (dVar 3)) (rCons (rCall tupleD (rCons (rLc (iRange (dC (.int 3))) 6 (r2 subD (rD (dC (.int 1))) (r2 mulD (rD (dC (.int 2))) (rDraw W_l_take (rCons (rD (dC (.int 2))) rNil)))) [6]) rNil)) rNil))))))))))
section
variable {P : Program} {w : World} {K : PySem.W.Frag} {mg : Str → Option Value} {base : Heap}
theorem q0_l_of {f : Addr} {fd : FuncData} (F : Fun K "_law_of" "_law_of" s_l_of f fd) (hm : mg "_law_of" = some (.ref f)) (hB : Binds K fd ["_law_tin", "_law_goods_so"] []) (B : Txt K mg) (R_l_take : CallR_ P w K mg base 1 "_law_take" 1 W_l_take) : CallR_ P w K mg base 2 "_law_of" 1 (fnR 2 q_l_of) := by
  exact callR_mk F sc_l_of hm hB rfl fun cdv A outer s H E hr => (
      (rss_one (rs_ret (re_ix (re_D (de_var 1)) (re_draw R_l_take (hr.mono (by decide)) (by rfl) (pv 0) (ra_cons (re_D (de_len (by rfl) B.len (da_cons (de_var 1) da_nil))) ra_nil) rfl (rlen_cons mono_D rlen_nil))))))
theorem q0_l_walk {f : Addr} {fd : FuncData} (F : Fun K "_law_walk" "_law_walk" s_l_walk f fd) (hm : mg "_law_walk" = some (.ref f)) (hB : Binds K fd ["_law_tin", "_law_many_so", "_law_steps_so"] []) (B : Txt K mg) (R_l_of : CallR_ P w K mg base 2 "_law_of" 1 W_l_of) : CallR_ P w K mg base 3 "_law_walk" 2 (fnR 4 q_l_walk) := by
  exact callR_mk F sc_l_walk hm hB rfl fun cdv A outer s H E hr => (
      (rss_one (rs_ret (re_tuple (by rfl) B.tuple (ra_cons (re_lc (own := [("_law_lap", 3)]) rfl sc_l_walk.nd (di_range (by rfl) B.range (de_var 1)) (blkOk_by (N := N_l_walk) (sc := defScope s_l_walk) (by decide +kernel)) tgt_one (by decide) (by decide) (fun _ _ _ _ _ => (pg_name (i := 3) sc_l_walk.nd rfl (Or.inl rfl))) (fun _ _ _ _ _ => (re_draw R_l_of (hr.mono (by decide)) (by rfl) (pv 0) (ra_cons (re_D (de_var 2)) ra_nil) rfl (rlen_cons mono_D rlen_nil)))) ra_nil)))))
theorem q0_l_fees {f : Addr} {fd : FuncData} (F : Fun K "_law_fees" "_law_fees" s_l_fees f fd) (hm : mg "_law_fees" = some (.ref f)) (hB : Binds K fd ["_law_tin"] []) (B : Txt K mg) (R_l_take : CallR_ P w K mg base 1 "_law_take" 1 W_l_take) : CallR_ P w K mg base 2 "_law_fees" 0 (fnR 3 q_l_fees) := by
  exact callR_mk F sc_l_fees hm hB rfl fun cdv A outer s H E hr => (
      (rss_cons (rs_set (i := 1) (by decide) sc_l_fees.nd rfl (Or.inl rfl) (re_draw R_l_take (hr.mono (by decide)) (by rfl) (pv 0) (ra_cons (re_D de_int) ra_nil) rfl (rlen_cons mono_D rlen_nil)))
      (rss_cons (rs_if (rt_D (dt_eq hr (de_var 1) de_int)) (rss_one (rs_ret (re_tuple (by rfl) B.tuple (ra_cons (re_lc (own := [("_law_lap", 2)]) rfl sc_l_fees.nd (di_range (by rfl) B.range de_int) (blkOk_by (N := N_l_fees) (sc := defScope s_l_fees) (by decide +kernel)) tgt_one (by decide) (by decide) (fun _ _ _ _ _ => (pg_name (i := 2) sc_l_fees.nd rfl (Or.inl rfl))) (fun _ _ _ _ _ => (re_draw R_l_take (hr.mono (by decide)) (by rfl) (pv 0) (ra_cons (re_D de_int) ra_nil) rfl (rlen_cons mono_D rlen_nil)))) ra_nil)))) rss_nil)
      (rss_cons (rs_if (rt_D (dt_eq hr (de_var 1) de_int)) (rss_one (rs_ret (re_tuple (by rfl) B.tuple (ra_cons (re_lc (own := [("_law_lap", 2)]) rfl sc_l_fees.nd (di_range (by rfl) B.range de_int) (blkOk_by (N := N_l_fees) (sc := defScope s_l_fees) (by decide +kernel)) tgt_one (by decide) (by decide) (fun _ _ _ _ _ => (pg_name (i := 2) sc_l_fees.nd rfl (Or.inl rfl))) (fun _ _ _ _ _ => (re_sub (re_D (de_pow de_int de_int)) (re_draw R_l_take (hr.mono (by decide)) (by rfl) (pv 0) (ra_cons (re_D de_int) ra_nil) rfl (rlen_cons mono_D rlen_nil))))) ra_nil)))) rss_nil)
      (rss_one (rs_ret (re_tuple (by rfl) B.tuple (ra_cons (re_lc (own := [("_law_lap", 2)]) rfl sc_l_fees.nd (di_range (by rfl) B.range de_int) (blkOk_by (N := N_l_fees) (sc := defScope s_l_fees) (by decide +kernel)) tgt_one (by decide) (by decide) (fun _ _ _ _ _ => (pg_name (i := 2) sc_l_fees.nd rfl (Or.inl rfl))) (fun _ _ _ _ _ => (re_draw R_l_take (hr.mono (by decide)) (by rfl) (pv 0) (ra_cons (re_D de_int) ra_nil) rfl (rlen_cons mono_D rlen_nil)))) ra_nil))))))))
theorem q0_l_far_spot {f : Addr} {fd : FuncData} (F : Fun K "_law_far_spot" "_law_far_spot" s_l_far_spot f fd) (hm : mg "_law_far_spot" = some (.ref f)) (hB : Binds K fd ["_law_tin", "_law_one"] []) (B : Txt K mg) (R_l_of : CallR_ P w K mg base 2 "_law_of" 1 W_l_of) (R_l_take : CallR_ P w K mg base 1 "_law_take" 1 W_l_take) (C_l_behind : Callee P w K mg base 5 "_law_behind" 2 F_l_behind) (R_l_walk : CallR_ P w K mg base 3 "_law_walk" 2 W_l_walk) (C_l_tips : Callee P w K mg base 2 "_law_tips" 0 F_l_tips) : CallR_ P w K mg base 6 "_law_far_spot" 1 (fnR 8 q_l_far_spot) := by
  exact callR_mk F sc_l_far_spot hm hB rfl fun cdv A outer s H E hr => (
      (rss_cons (rs_set (i := 2) (by decide) sc_l_far_spot.nd rfl (Or.inl rfl) (re_call C_l_behind (hr.mono (by decide)) (by rfl) (ra_cons (re_D (de_var 1)) (ra_cons (re_draw R_l_walk (hr.mono (by decide)) (by rfl) (pv 0) (ra_cons (re_draw R_l_take (hr.mono (by decide)) (by rfl) (pv 0) (ra_cons (re_D de_int) ra_nil) rfl (rlen_cons mono_D rlen_nil)) (ra_cons (re_D (de_call0 C_l_tips (hr.mono (by decide)) (by rfl))) ra_nil)) rfl (rlen_cons (mono_draw mono_l_take (mono_cons mono_D mono_nil)) (rlen_cons mono_D rlen_nil))) ra_nil)) rfl (rlen_cons mono_D (rlen_cons (mono_draw mono_l_walk (mono_cons (mono_draw mono_l_take (mono_cons mono_D mono_nil)) (mono_cons mono_D mono_nil))) rlen_nil))))
      (rss_cons (rs_if (rt_gt (re_draw R_l_take (hr.mono (by decide)) (by rfl) (pv 0) (ra_cons (re_D de_int) ra_nil) rfl (rlen_cons mono_D rlen_nil)) (re_D de_int)) (rss_one (rs_ret (re_D (de_var 2)))) rss_nil)
      (rss_cons (rs_parT (is := [3, 4]) (by decide) (ra_cons (re_draw R_l_take (hr.mono (by decide)) (by rfl) (pv 0) (ra_cons (re_D de_int) ra_nil) rfl (rlen_cons mono_D rlen_nil)) (ra_cons (re_mul (re_D de_int) (re_draw R_l_of (hr.mono (by decide)) (by rfl) (pv 0) (ra_cons (re_D (de_lst (da_cons (de_neg de_int) (da_cons de_int (da_cons de_int (da_cons (de_neg de_int) (da_cons (de_pow de_int de_int) da_nil))))))) ra_nil) rfl (rlen_cons mono_D rlen_nil))) ra_nil)) (pg_tup rfl (pgs_cons (pg_name (i := 3) sc_l_far_spot.nd rfl (Or.inr rfl)) (pgs_cons (pg_name (i := 4) sc_l_far_spot.nd rfl (Or.inr rfl)) pgs_nil))) (by decide))
      (rss_cons (rs_set (i := 5) (by decide) sc_l_far_spot.nd rfl (Or.inl rfl) (re_D (de_tuple (by rfl) B.tuple (da_cons (de_lc (own := [("_law_its", 6), ("_law_own", 7)]) rfl sc_l_far_spot.nd (di_enumT (by rfl) B.enumerate (de_ix (de_var 2) de_int)) (blkOk_by (N := N_l_far_spot) (sc := defScope s_l_far_spot) (by decide +kernel)) (tgt_many (is := [6, 7])) (by decide) (fun _ _ _ _ _ => (pg_tup rfl (pgs_cons (pg_name (i := 6) sc_l_far_spot.nd rfl (Or.inl rfl)) (pgs_cons (pg_name (i := 7) sc_l_far_spot.nd rfl (Or.inl rfl)) pgs_nil)))) (fun _ _ _ _ _ => dts_nil) (fun _ _ _ _ _ => (de_add (de_var 7) (de_mul (de_var 4) (de_intf (by rfl) B.int (da_cons (de_ne hr (de_var 6) (de_var 3)) da_nil)))))) da_nil))))
      (rss_one (rs_ret (re_D (de_tup (da_cons (de_ix (de_var 2) de_int) (da_cons (de_var 5) (da_cons (de_ix (de_var 2) de_int) (da_cons (de_ix (de_var 2) de_int) da_nil)))))))))))))
theorem q0_l_begin {f : Addr} {fd : FuncData} (F : Fun K "_law_begin" "_law_begin" s_l_begin f fd) (hm : mg "_law_begin" = some (.ref f)) (hB : Binds K fd ["_law_tin"] []) (B : Txt K mg) (R_l_take : CallR_ P w K mg base 1 "_law_take" 1 W_l_take) (C_l_behind : Callee P w K mg base 5 "_law_behind" 2 F_l_behind) (R_l_walk : CallR_ P w K mg base 3 "_law_walk" 2 W_l_walk) (C_l_tips : Callee P w K mg base 2 "_law_tips" 0 F_l_tips) (C_l_home : Callee P w K mg base 2 "_law_home" 0 F_l_home) : CallR_ P w K mg base 6 "_law_begin" 0 (fnR 7 q_l_begin) := by
  exact callR_mk F sc_l_begin hm hB rfl fun cdv A outer s H E hr => (
      (rss_cons (rs_unp (is := [1, 2, 3, 4]) (by decide) (re_call C_l_behind (hr.mono (by decide)) (by rfl) (ra_cons (re_D (de_call0 C_l_home (hr.mono (by decide)) (by rfl))) (ra_cons (re_draw R_l_walk (hr.mono (by decide)) (by rfl) (pv 0) (ra_cons (re_draw R_l_take (hr.mono (by decide)) (by rfl) (pv 0) (ra_cons (re_D de_int) ra_nil) rfl (rlen_cons mono_D rlen_nil)) (ra_cons (re_D (de_call0 C_l_tips (hr.mono (by decide)) (by rfl))) ra_nil)) rfl (rlen_cons (mono_draw mono_l_take (mono_cons mono_D mono_nil)) (rlen_cons mono_D rlen_nil))) ra_nil)) rfl (rlen_cons mono_D (rlen_cons (mono_draw mono_l_walk (mono_cons (mono_draw mono_l_take (mono_cons mono_D mono_nil)) (mono_cons mono_D mono_nil))) rlen_nil))) (pg_tup rfl (pgs_cons (pg_name (i := 1) sc_l_begin.nd rfl (Or.inl rfl)) (pgs_cons (pg_name (i := 2) sc_l_begin.nd rfl (Or.inl rfl)) (pgs_cons (pg_name (i := 3) sc_l_begin.nd rfl (Or.inl rfl)) (pgs_cons (pg_name (i := 4) sc_l_begin.nd rfl (Or.inl rfl)) pgs_nil))))))
      (rss_cons (rs_if (rt_eq hr (re_draw R_l_take (hr.mono (by decide)) (by rfl) (pv 0) (ra_cons (re_D de_int) ra_nil) rfl (rlen_cons mono_D rlen_nil)) (re_D de_int)) (rss_one (rs_ret (re_D (de_tup (da_cons (de_var 1) (da_cons (de_var 2) (da_cons (de_var 3) (da_cons (de_var 4) da_nil)))))))) rss_nil)
      (rss_cons (rs_set (i := 2) (by decide) sc_l_begin.nd rfl (Or.inl rfl) (re_tuple (by rfl) B.tuple (ra_cons (re_lc (own := [("_law_own", 5)]) rfl sc_l_begin.nd (di_seq (de_var 2)) (blkOk_by (N := N_l_begin) (sc := defScope s_l_begin) (by decide +kernel)) tgt_one (by decide) (by decide) (fun _ _ _ _ _ => (pg_name (i := 5) sc_l_begin.nd rfl (Or.inl rfl))) (fun _ _ _ _ _ => (re_sub (re_add (re_D (de_var 5)) (re_draw R_l_take (hr.mono (by decide)) (by rfl) (pv 0) (ra_cons (re_D de_int) ra_nil) rfl (rlen_cons mono_D rlen_nil))) (re_D de_int)))) ra_nil)))
      (rss_cons (rs_set (i := 3) (by decide) sc_l_begin.nd rfl (Or.inl rfl) (re_tuple (by rfl) B.tuple (ra_cons (re_lc (own := [("_law_own", 5)]) rfl sc_l_begin.nd (di_seq (de_var 3)) (blkOk_by (N := N_l_begin) (sc := defScope s_l_begin) (by decide +kernel)) tgt_one (by decide) (by decide) (fun _ _ _ _ _ => (pg_name (i := 5) sc_l_begin.nd rfl (Or.inl rfl))) (fun _ _ _ _ _ => (re_sub (re_add (re_D (de_var 5)) (re_draw R_l_take (hr.mono (by decide)) (by rfl) (pv 0) (ra_cons (re_D de_int) ra_nil) rfl (rlen_cons mono_D rlen_nil))) (re_D de_int)))) ra_nil)))
      (rss_one (rs_ret (re_tup (ra_cons (re_D (de_var 1)) (ra_cons (re_D (de_var 2)) (ra_cons (re_D (de_var 3)) (ra_cons (re_tuple (by rfl) B.tuple (ra_cons (re_lc (own := [("_law_lap", 6)]) rfl sc_l_begin.nd (di_range (by rfl) B.range de_int) (blkOk_by (N := N_l_begin) (sc := defScope s_l_begin) (by decide +kernel)) tgt_one (by decide) (by decide) (fun _ _ _ _ _ => (pg_name (i := 6) sc_l_begin.nd rfl (Or.inl rfl))) (fun _ _ _ _ _ => (re_sub (re_D de_int) (re_mul (re_D de_int) (re_draw R_l_take (hr.mono (by decide)) (by rfl) (pv 0) (ra_cons (re_D de_int) ra_nil) rfl (rlen_cons mono_D rlen_nil)))))) ra_nil)) ra_nil))))))))))))
end
end DL

/-! P1: the plain model: stands, tips. -/
namespace DL
open PySem PySem.Spec PyProof.Rows L2

structure T3 where
  a : Int
  b : Int
  c : Int
deriving DecidableEq
def T3.get (t : T3) : Nat → Int
  | 0 => t.a
  | 1 => t.b
  | _ => t.c
def T3.add (t : T3) (i : Nat) (d : Int) : T3 := match i with
  | 0 => ⟨t.a + d, t.b, t.c⟩
  | 1 => ⟨t.a, t.b + d, t.c⟩
  | _ => ⟨t.a, t.b, t.c + d⟩
def T3.neg (t : T3) (i : Nat) : T3 := match i with
  | 0 => ⟨-t.a, t.b, t.c⟩
  | 1 => ⟨t.a, -t.b, t.c⟩
  | _ => ⟨t.a, t.b, -t.c⟩
def T3.d (t : T3) : D := .tuple [.int t.a, .int t.b, .int t.c]
def T3.l (t : T3) : D := .list [.int t.a, .int t.b, .int t.c]
structure S3 where
  p : Fin 6
  x : T3
  y : T3
  f : T3
deriving DecidableEq
def shp (p : Fin 6) : T3 := match p with
  | 0 => ⟨0, 1, 2⟩
  | 1 => ⟨2, 1, 0⟩
  | 2 => ⟨2, 0, 1⟩
  | 3 => ⟨1, 0, 2⟩
  | 4 => ⟨1, 2, 0⟩
  | 5 => ⟨0, 2, 1⟩
def S3.d (s : S3) : D := .tuple [(shp s.p).d, s.x.d, s.y.d, s.f.d]
def S3.l (s : S3) : D := .list [(shp s.p).l, s.x.l, s.y.l, s.f.l]
/-- the places' sides: first, second, third -/
def sd1 (p : Fin 6) : Nat := match p with | 0 => 0 | 1 => 2 | 2 => 2 | 3 => 1 | 4 => 1 | 5 => 0
def sd2 (p : Fin 6) : Nat := match p with | 0 => 1 | 1 => 1 | 2 => 0 | 3 => 0 | 4 => 2 | 5 => 2
def sd3 (p : Fin 6) : Nat := match p with | 0 => 2 | 1 => 0 | 2 => 1 | 3 => 2 | 4 => 0 | 5 => 1
def nxt (p : Fin 6) (w : Fin 4) : Fin 6 := match w.val % 2, p with
  | 0, 0 => 1 | 0, 1 => 0 | 0, 2 => 3 | 0, 3 => 2 | 0, 4 => 5 | 0, 5 => 4
  | _, 0 => 5 | _, 5 => 0 | _, 1 => 2 | _, 2 => 1 | _, 3 => 4 | _, 4 => 3
/-- the link that a tip goes over -/
def ovr (p : Fin 6) (w : Fin 4) : Fin 6 := match w.val % 2, p with
  | 0, 0 => 0 | 0, 1 => 0 | 0, 2 => 2 | 0, 3 => 2 | 0, 4 => 4 | 0, 5 => 4
  | _, 0 => 5 | _, 5 => 5 | _, 1 => 1 | _, 2 => 1 | _, 3 => 3 | _, 4 => 3
def byw (w : Fin 4) : Int := if w.val < 2 then 1 else -1
def tip (s : S3) (w : Fin 4) : S3 :=
  if w.val % 2 = 0 then ⟨nxt s.p w, (s.x.add (sd1 s.p) (byw w)).add (sd3 s.p) (byw w), s.y, s.f.neg (if w.val < 2 then sd1 s.p else sd3 s.p)⟩
  else ⟨nxt s.p w, s.x, (s.y.add (sd2 s.p) (byw w)).add (sd3 s.p) (byw w), s.f.neg (if w.val < 2 then sd2 s.p else sd3 s.p)⟩
def wayD (w : Fin 4) : D := .int (w.val : Int)
def tipD (w : Fin 4) : D := .tuple [.str (Str.ofString "tip"), wayD w]
def tipL (w : Fin 4) : D := .list [.str (Str.ofString "tip"), wayD w]
def tips (s : S3) : List (Fin 4) → S3
  | [] => s
  | w :: ws => tips (tip s w) ws
theorem all4 {P : Fin 4 → Prop} (h0 : P 0) (h1 : P 1) (h2 : P 2) (h3 : P 3) : ∀ w, P w
  | ⟨0, _⟩ => h0 | ⟨1, _⟩ => h1 | ⟨2, _⟩ => h2 | ⟨3, _⟩ => h3
theorem all6 {P : Fin 6 → Prop} (h0 : P 0) (h1 : P 1) (h2 : P 2) (h3 : P 3) (h4 : P 4) (h5 : P 5) : ∀ w, P w
  | ⟨0, _⟩ => h0 | ⟨1, _⟩ => h1 | ⟨2, _⟩ => h2 | ⟨3, _⟩ => h3 | ⟨4, _⟩ => h4 | ⟨5, _⟩ => h5
theorem F_tip_eq (s : S3) (w : Fin 4) : F_l_tip [s.d, wayD w] = some (tip s w).d := by
  obtain ⟨p, ⟨x0, x1, x2⟩, ⟨y0, y1, y2⟩, ⟨f0, f1, f2⟩⟩ := s
  revert p
  refine all6 ?_ ?_ ?_ ?_ ?_ ?_ <;> revert w <;> refine all4 ?_ ?_ ?_ ?_ <;> kernel_rfl
theorem neg2 (f : Int) : f + -2 * f = -f := by omega
def T3.ng (t : T3) (i : Nat) : T3 := match i with
  | 0 => ⟨t.a + -2 * t.a, t.b, t.c⟩
  | 1 => ⟨t.a, t.b + -2 * t.b, t.c⟩
  | _ => ⟨t.a, t.b, t.c + -2 * t.c⟩
theorem ng_eq (t : T3) (i : Nat) : t.ng i = t.neg i := by
  unfold T3.ng T3.neg
  split <;> rw [neg2]
def tipN (s : S3) (w : Fin 4) : S3 :=
  if w.val % 2 = 0 then ⟨nxt s.p w, (s.x.add (sd1 s.p) (byw w)).add (sd3 s.p) (byw w), s.y, s.f.ng (if w.val < 2 then sd1 s.p else sd3 s.p)⟩
  else ⟨nxt s.p w, s.x, (s.y.add (sd2 s.p) (byw w)).add (sd3 s.p) (byw w), s.f.ng (if w.val < 2 then sd2 s.p else sd3 s.p)⟩
theorem tipN_eq (s : S3) (w : Fin 4) : tipN s w = tip s w := by
  unfold tipN tip
  rw [ng_eq, ng_eq]
theorem F_tipped_eq (s : S3) (w : Fin 4) : F_tipped_in [s.d, wayD w] = some (tip s w).d := by
  rw [← tipN_eq]
  obtain ⟨p, ⟨x0, x1, x2⟩, ⟨y0, y1, y2⟩, ⟨f0, f1, f2⟩⟩ := s
  revert p
  refine all6 ?_ ?_ ?_ ?_ ?_ ?_ <;> revert w <;> refine all4 ?_ ?_ ?_ ?_ <;> kernel_rfl
theorem F_moved_eq (s : S3) (w : Fin 4) : F_moved_in [s.d, tipD w] = some (tip s w).d := by
  rw [← tipN_eq]
  obtain ⟨p, ⟨x0, x1, x2⟩, ⟨y0, y1, y2⟩, ⟨f0, f1, f2⟩⟩ := s
  revert p
  refine all6 ?_ ?_ ?_ ?_ ?_ ?_ <;> revert w <;> refine all4 ?_ ?_ ?_ ?_ <;> kernel_rfl
theorem F_step_eq (s : S3) (w : Fin 4) : F_l_step [s.d, tipD w] = some (tip s w).d := by
  obtain ⟨p, ⟨x0, x1, x2⟩, ⟨y0, y1, y2⟩, ⟨f0, f1, f2⟩⟩ := s
  revert p
  refine all6 ?_ ?_ ?_ ?_ ?_ ?_ <;> revert w <;> refine all4 ?_ ?_ ?_ ?_ <;> kernel_rfl
theorem F_over_eq (p : Fin 6) (w : Fin 4) : F_l_over [(shp p).d, wayD w] = some (.int ((ovr p w).val : Int)) := by
  revert p
  refine all6 ?_ ?_ ?_ ?_ ?_ ?_ <;> revert w <;> refine all4 ?_ ?_ ?_ ?_ <;> kernel_rfl
theorem F_overin_eq (p : Fin 6) (w : Fin 4) : F_over_in [(shp p).d, wayD w] = some (.int ((ovr p w).val : Int)) := by
  revert p
  refine all6 ?_ ?_ ?_ ?_ ?_ ?_ <;> revert w <;> refine all4 ?_ ?_ ?_ ?_ <;> kernel_rfl
end DL

/-! P2: walks and fees; what the sure_ defs answer. -/
namespace DL
open PySem PySem.Spec PyProof.Rows L2

/-! ### comprehensions over a mapped list -/
theorem lc_one {i : Nat} {elt : Rp → Option D} {ρ : Rp} {α : Type} {f g : α → D} : ∀ {xs : List α}, (∀ x ∈ xs, elt (ρ.set i (some (f x))) = some (g x)) → lcD (Tgt.one i).bindR tTrue elt ρ (xs.map f) = some (xs.map g)
  | [], _ => rfl
  | x :: xs, h => by
    have h1 := h x List.mem_cons_self
    have h2 := lc_one (xs := xs) fun y hy => h y (List.mem_cons_of_mem _ hy)
    rw [List.map_cons, List.map_cons]
    show (some (ρ.set i (some (f x)))).bind _ = _
    rw [Option.bind_some]
    show (some true).bind _ = _
    rw [Option.bind_some, if_pos rfl, h1, Option.bind_some, h2]
    rfl
/-- with a test -/
theorem lc_if {i : Nat} {tst : Rp → Option Bool} {elt : Rp → Option D} {ρ : Rp} {α : Type} {f g : α → D} {b : α → Bool} : ∀ {xs : List α}, (∀ x ∈ xs, tst (ρ.set i (some (f x))) = some (b x)) → (∀ x ∈ xs, b x = true → elt (ρ.set i (some (f x))) = some (g x)) →
    lcD (Tgt.one i).bindR tst elt ρ (xs.map f) = some ((xs.filter b).map g)
  | [], _, _ => rfl
  | x :: xs, h, h' => by
    have h1 := h x List.mem_cons_self
    have h2 := lc_if (xs := xs) (fun y hy => h y (List.mem_cons_of_mem _ hy)) fun y hy => h' y (List.mem_cons_of_mem _ hy)
    rw [List.map_cons]
    show (some (ρ.set i (some (f x)))).bind _ = _
    rw [Option.bind_some]
    show (tst (ρ.set i (some (f x)))).bind _ = _
    rw [h1, Option.bind_some]
    cases hb : b x with
    | true =>
      rw [if_pos rfl, h' x List.mem_cons_self hb, Option.bind_some, h2, List.filter_cons_of_pos hb]
      rfl
    | false =>
      rw [if_neg (by decide), h2, List.filter_cons_of_neg (by rw [hb]; decide)]
theorem bls_true {α : Type} : ∀ (xs : List α), blsOf (xs.map fun _ => PyData.bool true) = some (xs.map fun _ => true)
  | [] => rfl
  | x :: xs => by
    rw [List.map_cons, List.map_cons]
    unfold blsOf
    rw [bls_true xs]
    rfl
theorem all_true {α : Type} (xs : List α) : allD [.list (xs.map fun _ => PyData.bool true)] = some (.bool true) := by
  show (blsOf (xs.map fun _ => PyData.bool true)).map _ = _
  rw [bls_true]
  simp
/-- a loop that goes through a mapped list -/
theorem for_one {i : Nat} {body : Rs → Option Out} {α β : Type} {f : α → D} {st : β → Rs} {step : β → α → β} (h : ∀ b a, body ((st b).set i (.pu (f a))) = some (.nx (st (step b a)))) : ∀ (xs : List α) (b : β), forD (.one i) body (xs.map f) (st b) = some (.nx (st (xs.foldl step b)))
  | [], b => rfl
  | x :: xs, b => by
    rw [List.map_cons]
    show (some ((st b).set i (.pu (f x)))).bind _ = _
    rw [Option.bind_some, h]
    exact for_one h xs (step b x)

/-! ### walks -/
def walkD (ws : List (Fin 4)) : D := .tuple (ws.map tipD)
def walkL (ws : List (Fin 4)) : D := .list (ws.map tipL)
theorem foldl_tips : ∀ (ws : List (Fin 4)) (s : S3), ws.foldl tip s = tips s ws
  | [], s => rfl
  | w :: ws, s => foldl_tips ws (tip s w)
theorem F_behind_eq (s : S3) (ws : List (Fin 4)) : F_l_behind [s.d, walkD ws] = some (tips s ws).d := by
  cases ws with
  | nil => rfl
  | cons w ws =>
    have key : forD (.one 2) (sSet 0 (dCall F_l_step (dCons (dVar 0) (dCons (dVar 2) dNil)))) ((w :: ws).map tipD) [.pu s.d, .pu (walkD (w :: ws)), .no] = some (.nx [.pu (tips s (w :: ws)).d, .pu (walkD (w :: ws)), .pu (tipD ((w :: ws).getLast (by simp)))]) := by
      have h := for_one (i := 2) (body := sSet 0 (dCall F_l_step (dCons (dVar 0) (dCons (dVar 2) dNil)))) (f := tipD) (st := fun b : S3 × Fin 4 => [.pu b.1.d, .pu (walkD (w :: ws)), .pu (tipD b.2)]) (step := fun b a => (tip b.1 a, a))
        (fun b a => by
          show (F_l_step [b.1.d, tipD a]).map _ = _
          rw [F_step_eq]
          rfl) ws (tip s w, w)
      have e : ∀ (xs : List (Fin 4)) (b : S3 × Fin 4), xs.foldl (fun b a => (tip b.1 a, a)) b = (tips b.1 xs, (b.2 :: xs).getLast (by simp)) := by
        intro xs
        induction xs with
        | nil => intro b; rfl
        | cons x xs ih =>
          intro b
          rw [List.foldl_cons, ih]
          simp only [tips, List.getLast_cons_cons]
      rw [e] at h
      rw [List.map_cons]
      show sLoop ((F_l_step [s.d, tipD w]).map _) _ = _
      rw [F_step_eq]
      exact h
    show outD (sThen (forD (.one 2) (sSet 0 (dCall F_l_step (dCons (dVar 0) (dCons (dVar 2) dNil)))) ((w :: ws).map tipD) [.pu s.d, .pu (walkD (w :: ws)), .no]) _) = _
    rw [key]
    rfl

/-! ### fees -/
structure P6 where
  f : Fin 6 → Int
def P6.ds (F : P6) : List D := [.int (F.f 0), .int (F.f 1), .int (F.f 2), .int (F.f 3), .int (F.f 4), .int (F.f 5)]
def P6.d (F : P6) : D := .tuple F.ds
def P6.l (F : P6) : D := .list F.ds
theorem getF (F : P6) (k : Fin 6) : getD_ F.d (.int (k.val : Int)) = some (.int (F.f k)) := by
  revert k
  refine all6 ?_ ?_ ?_ ?_ ?_ ?_ <;> rfl
def feeS (F : P6) (s : S3) : List (Fin 4) → Int
  | [] => 0
  | w :: ws => F.f (ovr s.p w) + feeS F (tip s w) ws
theorem F_fee_eq (F : P6) (s : S3) (ws : List (Fin 4)) : F_l_fee [s.d, walkD ws, F.d] = some (.int (feeS F s ws)) := by
  cases ws with
  | nil => rfl
  | cons w0 ws =>
    have e : ∀ (xs : List (Fin 4)) (s : S3) (n : Int) (w : Fin 4), xs.foldl (fun (b : S3 × Int × Fin 4) a => (tip b.1 a, b.2.1 + F.f (ovr b.1.p a), a)) (s, n, w) = (tips s xs, n + feeS F s xs, (w :: xs).getLast (by simp)) := by
      intro xs
      induction xs with
      | nil => intro s n w; simp [tips, feeS]
      | cons x xs ih =>
        intro s n w
        rw [List.foldl_cons, ih]
        simp only [tips, feeS, List.getLast_cons_cons, Int.add_assoc]
    let body : Rs → Option Out := (sSeq (sSet 3 (d2 addD (dVar 3) (d2 getD_ (dVar 2) (dCall F_l_over (dCons (d2 getD_ (dVar 0) (dC (.int 0))) (dCons (d2 getD_ (dVar 4) (dC (.int 1))) dNil)))))) (sSet 0 (dCall F_l_step (dCons (dVar 0) (dCons (dVar 4) dNil)))))
    have hb : ∀ (s : S3) (n : Int) (w : Fin 4), body [.pu s.d, .pu (walkD (w0 :: ws)), .pu F.d, .pu (.int n), .pu (tipD w)] = some (.nx [.pu (tip s w).d, .pu (walkD (w0 :: ws)), .pu F.d, .pu (.int (n + F.f (ovr s.p w))), .pu (tipD w)]) := fun s n w => by
      show sThen ((((some (PyData.int n)).bind fun x => ((some F.d).bind fun u => ((F_l_over [(shp s.p).d, wayD w]).bind fun y => getD_ u y)).bind fun y => addD x y)).map _) _ = _
      rw [F_over_eq, Option.bind_some, Option.bind_some, Option.bind_some, getF, Option.bind_some]
      show (F_l_step [s.d, tipD w]).map _ = _
      rw [F_step_eq]
      rfl
    have h := for_one (i := 4) (body := body) (f := tipD) (st := fun b : S3 × Int × Fin 4 => [.pu b.1.d, .pu (walkD (w0 :: ws)), .pu F.d, .pu (.int b.2.1), .pu (tipD b.2.2)]) (step := fun b a => (tip b.1 a, b.2.1 + F.f (ovr b.1.p a), a)) (fun b a => hb _ _ _) ws (tip s w0, 0 + F.f (ovr s.p w0), w0)
    rw [e] at h
    show outD (sThen (forD (.one 4) body ((w0 :: ws).map tipD) [.pu s.d, .pu (walkD (w0 :: ws)), .pu F.d, .pu (.int 0), .no]) _) = _
    rw [List.map_cons]
    show outD (sThen (sLoop (body [.pu s.d, .pu (walkD (w0 :: ws)), .pu F.d, .pu (.int 0), .pu (tipD w0)]) (forD (.one 4) body (ws.map tipD))) _) = _
    rw [hb]
    show outD (sThen (forD (.one 4) body (ws.map tipD) _) _) = _
    rw [h]
    show some (PyData.int (0 + F.f (ovr s.p w0) + feeS F (tip s w0) ws)) = _
    rw [Int.zero_add]
    rfl
theorem F_pricein_eq (F : P6) (s : S3) (ws : List (Fin 4)) : F_price_in [s.d, walkD ws, F.d] = some (.int (feeS F s ws)) := by
  cases ws with
  | nil => rfl
  | cons w0 ws =>
    have e : ∀ (xs : List (Fin 4)) (s : S3) (n : Int) (w : Fin 4), xs.foldl (fun (b : S3 × Int × Fin 4) a => (tip b.1 a, b.2.1 + F.f (ovr b.1.p a), a)) (s, n, w) = (tips s xs, n + feeS F s xs, (w :: xs).getLast (by simp)) := by
      intro xs
      induction xs with
      | nil => intro s n w; simp [tips, feeS]
      | cons x xs ih =>
        intro s n w
        rw [List.foldl_cons, ih]
        simp only [tips, feeS, List.getLast_cons_cons, Int.add_assoc]
    let body : Rs → Option Out := (sSeq (sAug 3 (d2 getD_ (dVar 2) (dCall F_over_in (dCons (d2 getD_ (dVar 4) (dC (.int 0))) (dCons (d2 getD_ (dVar 5) (dC (.int 1))) dNil)))))
    (sSet 4 (dCall F_moved_in (dCons (dVar 4) (dCons (dVar 5) dNil)))))
    have hb : ∀ (s' : S3) (n : Int) (w : Fin 4), body [.pu s.d, .pu (walkD (w0 :: ws)), .pu F.d, .pu (.int n), .pu s'.d, .pu (tipD w)] = some (.nx [.pu s.d, .pu (walkD (w0 :: ws)), .pu F.d, .pu (.int (n + F.f (ovr s'.p w))), .pu (tip s' w).d, .pu (tipD w)]) := fun s' n w => by
      have e1 : (d2 getD_ (dVar 2) (dCall F_over_in (dCons (d2 getD_ (dVar 4) (dC (.int 0))) (dCons (d2 getD_ (dVar 5) (dC (.int 1))) dNil)))) (hid [.pu s.d, .pu (walkD (w0 :: ws)), .pu F.d, .pu (.int n), .pu s'.d, .pu (tipD w)]) = some (.int (F.f (ovr s'.p w))) := by
        show ((some F.d).bind fun u => ((F_over_in [(shp s'.p).d, wayD w]).bind fun y => getD_ u y)) = _
        rw [F_overin_eq, Option.bind_some, Option.bind_some, getF]
      show sThen (sAug 3 _ _) _ = _
      unfold sAug
      rw [e1]
      show (F_moved_in [s'.d, tipD w]).map _ = _
      rw [F_moved_eq]
      rfl
    have h := for_one (i := 5) (body := body) (f := tipD) (st := fun b : S3 × Int × Fin 4 => [.pu s.d, .pu (walkD (w0 :: ws)), .pu F.d, .pu (.int b.2.1), .pu b.1.d, .pu (tipD b.2.2)]) (step := fun b a => (tip b.1 a, b.2.1 + F.f (ovr b.1.p a), a)) (fun b a => hb _ _ _) ws (tip s w0, 0 + F.f (ovr s.p w0), w0)
    rw [e] at h
    show outD (sThen (forD (.one 5) body ((w0 :: ws).map tipD) [.pu s.d, .pu (walkD (w0 :: ws)), .pu F.d, .pu (.int 0), .pu s.d, .no]) _) = _
    rw [List.map_cons]
    show outD (sThen (sLoop (body [.pu s.d, .pu (walkD (w0 :: ws)), .pu F.d, .pu (.int 0), .pu s.d, .pu (tipD w0)]) (forD (.one 5) body (ws.map tipD))) _) = _
    rw [hb]
    show outD (sThen (forD (.one 5) body (ws.map tipD) _) _) = _
    rw [h]
    show some (PyData.int (0 + F.f (ovr s.p w0) + feeS F (tip s w0) ws)) = _
    rw [Int.zero_add]
    rfl
end DL

/-! P3: what the sure_ defs, lists and same answer. -/
namespace DL
open PySem PySem.Spec PyProof.Rows L2

def Fr (t : T3) : Prop := (t.a = 1 ∨ t.a = -1) ∧ (t.b = 1 ∨ t.b = -1) ∧ (t.c = 1 ∨ t.c = -1)
theorem all_fr {P : T3 → Prop} (h : ∀ a b c : Bool, P ⟨if a then 1 else -1, if b then 1 else -1, if c then 1 else -1⟩) (t : T3) (ht : Fr t) : P t := by
  obtain ⟨a, b, c⟩ := t
  obtain ⟨ha, hb, hc⟩ := ht
  simp only at ha hb hc
  rcases ha with rfl | rfl <;> rcases hb with rfl | rfl <;> rcases hc with rfl | rfl
  · exact h true true true
  · exact h true true false
  · exact h true false true
  · exact h true false false
  · exact h false true true
  · exact h false true false
  · exact h false false true
  · exact h false false false
theorem allB {P : Bool → Bool → Bool → Prop} (h1 : P true true true) (h2 : P true true false) (h3 : P true false true) (h4 : P true false false) (h5 : P false true true) (h6 : P false true false) (h7 : P false false true) (h8 : P false false false) : ∀ a b c, P a b c := by
  intro a b c
  cases a <;> cases b <;> cases c <;> assumption
theorem F_stand_d (s : S3) (hf : Fr s.f) : F_sure_stand [s.d] = some s.d := by
  obtain ⟨p, ⟨x0, x1, x2⟩, ⟨y0, y1, y2⟩, f⟩ := s
  revert hf
  refine all_fr (P := fun f => F_sure_stand [(S3.mk p ⟨x0, x1, x2⟩ ⟨y0, y1, y2⟩ f).d] = some (S3.mk p ⟨x0, x1, x2⟩ ⟨y0, y1, y2⟩ f).d) ?_ f
  revert p
  refine all6 ?_ ?_ ?_ ?_ ?_ ?_ <;> refine allB ?_ ?_ ?_ ?_ ?_ ?_ ?_ ?_ <;> kernel_rfl
theorem F_stand_l (s : S3) (hf : Fr s.f) : F_sure_stand [s.l] = some s.d := by
  obtain ⟨p, ⟨x0, x1, x2⟩, ⟨y0, y1, y2⟩, f⟩ := s
  revert hf
  refine all_fr (P := fun f => F_sure_stand [(S3.mk p ⟨x0, x1, x2⟩ ⟨y0, y1, y2⟩ f).l] = some (S3.mk p ⟨x0, x1, x2⟩ ⟨y0, y1, y2⟩ f).d) ?_ f
  revert p
  refine all6 ?_ ?_ ?_ ?_ ?_ ?_ <;> refine allB ?_ ?_ ?_ ?_ ?_ ?_ ?_ ?_ <;> kernel_rfl
theorem F_lists_s (s : S3) : F_l_lists [s.d] = some s.l := by
  obtain ⟨p, ⟨x0, x1, x2⟩, ⟨y0, y1, y2⟩, ⟨f0, f1, f2⟩⟩ := s
  revert p
  refine all6 ?_ ?_ ?_ ?_ ?_ ?_ <;> kernel_rfl
theorem F_both (s t : S3) (hs : Fr s.f) (ht : Fr t.f) {a b : D} (ha : a = s.d ∨ a = s.l) (hb : b = t.d ∨ b = t.l) : F_sure_both [a, b] = some (.tuple [s.d, t.d]) := by
  have h1 : F_sure_stand [a] = some s.d := by rcases ha with rfl | rfl; exact F_stand_d s hs; exact F_stand_l s hs
  have h2 : F_sure_stand [b] = some t.d := by rcases hb with rfl | rfl; exact F_stand_d t ht; exact F_stand_l t ht
  show outD (((((F_sure_stand [a]).bind fun d => ((F_sure_stand [b]).bind fun d => some [d]).bind fun ds => some (d :: ds))).bind fun ds => if ds.length ≤ 100000 then some (PyData.tuple ds) else none).map Out.rt) = _
  rw [h1, h2]
  rfl
/-- prices that are not negative -/
def P6.Ok (F : P6) : Prop := ∀ k, 0 ≤ F.f k
theorem prices_nat {P : P6 → Prop} (h : ∀ a b c d e g : Nat, P ⟨fun k => match k with | 0 => Int.ofNat a | 1 => Int.ofNat b | 2 => Int.ofNat c | 3 => Int.ofNat d | 4 => Int.ofNat e | 5 => Int.ofNat g⟩) (F : P6) (hF : F.Ok) : P F := by
  obtain ⟨f⟩ := F
  have e : f = fun k => match k with | 0 => Int.ofNat (f 0).toNat | 1 => Int.ofNat (f 1).toNat | 2 => Int.ofNat (f 2).toNat | 3 => Int.ofNat (f 3).toNat | 4 => Int.ofNat (f 4).toNat | 5 => Int.ofNat (f 5).toNat := by
    funext k
    have hk : ∀ k, Int.ofNat (f k).toNat = f k := fun k => Int.toNat_of_nonneg (hF k)
    revert k
    refine all6 ?_ ?_ ?_ ?_ ?_ ?_ <;> exact (hk _).symm
  rw [e]
  exact h _ _ _ _ _ _
theorem F_prices_d (F : P6) (hF : F.Ok) : F_sure_prices [F.d] = some F.d := by
  refine prices_nat (P := fun F => F_sure_prices [F.d] = some F.d) (fun a b c d e g => ?_) F hF
  kernel_rfl
theorem F_prices_l (F : P6) (hF : F.Ok) : F_sure_prices [F.l] = some F.d := by
  refine prices_nat (P := fun F => F_sure_prices [F.l] = some F.d) (fun a b c d e g => ?_) F hF
  kernel_rfl
theorem sIf_no {c : Rp → Option Bool} {f : Rs → Option Out} {ρ : Rs} (h : c (opn ρ) = some false) : sIf c f sNext ρ = some (.nx ρ) := by
  unfold sIf
  rw [h]
  rfl
theorem sRet_eq {f : Rp → Option D} {ρ : Rs} {d : D} (h : f (opn ρ) = some d) : sRet f ρ = some (.rt d) := by
  unfold sRet
  rw [h]
  rfl
theorem sSeq_nx {f g : Rs → Option Out} {ρ ρ' : Rs} (h : f ρ = some (.nx ρ')) : sSeq f g ρ = g ρ' := by
  unfold sSeq
  rw [h]
  rfl
/-! walks -/
theorem len_ok {α : Type} {xs : List α} {f : α → D} (h : xs.length ≤ 1000) : (xs.map f).length ≤ 100000 := by rw [List.length_map]; omega
theorem F_lists_w (ws : List (Fin 4)) (h : ws.length ≤ 1000) : F_l_lists [walkD ws] = some (walkL ws) := by
  have e : lcD (Tgt.one 1).bindR tTrue (dCall (FN_l_lists 3) (dCons (dVar 1) dNil)) [some (walkD ws), none] (ws.map tipD) = some (ws.map tipL) := lc_one fun w hw => by
    clear hw
    revert w
    refine all4 ?_ ?_ ?_ ?_ <;> kernel_rfl
  show outD ((if (ws.map tipD).length ≤ 100000 then (lcD (Tgt.one 1).bindR tTrue (dCall (FN_l_lists 3) (dCons (dVar 1) dNil)) [some (walkD ws), none] (ws.map tipD)).map PyData.list else none).map Out.rt) = _
  rw [if_pos (len_ok h), e]
  rfl
theorem F_tupled_w (ws : List (Fin 4)) (h : ws.length ≤ 1000) : F_tupled [walkL ws] = some (walkD ws) := by
  have e : lcD (Tgt.one 1).bindR tTrue (dCall (FN_tupled 3) (dCons (dVar 1) dNil)) [some (walkL ws), none] (ws.map tipL) = some (ws.map tipD) := lc_one fun w hw => by
    clear hw
    revert w
    refine all4 ?_ ?_ ?_ ?_ <;> kernel_rfl
  show outD ((((if (ws.map tipL).length ≤ 100000 then (lcD (Tgt.one 1).bindR tTrue (dCall (FN_tupled 3) (dCons (dVar 1) dNil)) [some (walkL ws), none] (ws.map tipL)).map PyData.list else none).bind fun d => some [d]).bind tupleD).map Out.rt) = _
  rw [if_pos (len_ok h), e]
  rfl
theorem F_rowin_w (ws : List (Fin 4)) (h : ws.length ≤ 1000) : F_is_row_in [walkD ws] = some (.bool true) := by
  have e : lcD (Tgt.one 1).bindR tTrue (dCall F_is_move (dCons (dVar 1) dNil)) [some (walkD ws), none] (ws.map tipD) = some (ws.map fun _ => .bool true) := lc_one fun w hw => by
    clear hw
    revert w
    refine all4 ?_ ?_ ?_ ?_ <;> kernel_rfl
  show outD (((((if (ws.map tipD).length ≤ 100000 then (lcD (Tgt.one 1).bindR tTrue (dCall F_is_move (dCons (dVar 1) dNil)) [some (walkD ws), none] (ws.map tipD)).map PyData.list else none).bind fun d => some [d]).bind allD)).map Out.rt) = _
  rw [if_pos (len_ok h), e]
  show outD ((allD [.list (ws.map fun _ => PyData.bool true)]).map Out.rt) = _
  rw [all_true]
  rfl
theorem F_row_w (ws : List (Fin 4)) (h : ws.length ≤ 1000) : F_sure_row [walkL ws] = some (walkD ws) := by
  show outD (sThen ((F_tupled [walkL ws]).map fun d => Out.nx [.pu (walkL ws), .pu d]) _) = _
  rw [F_tupled_w ws h]
  show outD (sThen ((((F_is_row_in [walkD ws]).bind asB).map fun c => !c).bind fun b => if b = true then none else some (Out.nx [.pu (walkL ws), .pu (walkD ws)])) _) = _
  rw [F_rowin_w ws h]
  rfl
theorem F_istips_w (ws : List (Fin 4)) (h : ws.length ≤ 1000) : F_is_tips [walkD ws] = some (.bool true) := by
  have e1 : lcD (Tgt.one 1).bindR tTrue (vAnd (d1 (fun d => some (.bool (isaD "tuple" d))) (dVar 1)) (d2 eqD (dCall lenD (dCons (dVar 1) dNil)) (dC (.int 2)))) [some (walkD ws), none] (ws.map tipD) = some (ws.map fun _ => .bool true) := lc_one fun w hw => by
    clear hw
    revert w
    refine all4 ?_ ?_ ?_ ?_ <;> kernel_rfl
  have e2 : lcD (Tgt.one 1).bindR tTrue (vAnd (d1 (fun d => some (.bool (isaD "str" d))) (d2 getD_ (dVar 1) (dC (.int 0)))) (vAnd (d2 eqD (d2 getD_ (dVar 1) (dC (.int 0))) (dC (.str (Str.ofString "tip")))) (dCall F_is_within (dCons (d2 getD_ (dVar 1) (dC (.int 1))) (dCons (dC (.int 0)) (dCons (dC (.int 3)) dNil)))))) [some (walkD ws), none] (ws.map tipD) = some (ws.map fun _ => .bool true) := lc_one fun w hw => by
    clear hw
    revert w
    refine all4 ?_ ?_ ?_ ?_ <;> kernel_rfl
  have c1 : dCall allD (dCons (dLc (iSeq (dVar 0)) (.one 1) tTrue (vAnd (d1 (fun d => some (.bool (isaD "tuple" d))) (dVar 1)) (d2 eqD (dCall lenD (dCons (dVar 1) dNil)) (dC (.int 2)))) [1]) dNil) [some (walkD ws), none] = some (.bool true) := by
    show ((if (ws.map tipD).length ≤ 100000 then (lcD (Tgt.one 1).bindR tTrue _ [some (walkD ws), none] (ws.map tipD)).map PyData.list else none).bind fun d => some [d]).bind allD = _
    rw [if_pos (len_ok h), e1]
    exact all_true ws
  have c2 : dCall allD (dCons (dLc (iSeq (dVar 0)) (.one 1) tTrue (vAnd (d1 (fun d => some (.bool (isaD "str" d))) (d2 getD_ (dVar 1) (dC (.int 0)))) (vAnd (d2 eqD (d2 getD_ (dVar 1) (dC (.int 0))) (dC (.str (Str.ofString "tip")))) (dCall F_is_within (dCons (d2 getD_ (dVar 1) (dC (.int 1))) (dCons (dC (.int 0)) (dCons (dC (.int 3)) dNil)))))) [1]) dNil) [some (walkD ws), none] = some (.bool true) := by
    show ((if (ws.map tipD).length ≤ 100000 then (lcD (Tgt.one 1).bindR tTrue _ [some (walkD ws), none] (ws.map tipD)).map PyData.list else none).bind fun d => some [d]).bind allD = _
    rw [if_pos (len_ok h), e2]
    exact all_true ws
  have hT : (tOr_ (tNot_ (tB_ (d1 (fun d => some (.bool (isaD "tuple" d))) (dVar 0)))) (tNot_ (tB_ (dCall allD (dCons (dLc (iSeq (dVar 0)) (.one 1) tTrue (vAnd (d1 (fun d => some (.bool (isaD "tuple" d))) (dVar 1)) (d2 eqD (dCall lenD (dCons (dVar 1) dNil)) (dC (.int 2)))) [1]) dNil))))) [some (walkD ws), none] = some false := by
    show ((dCall allD (dCons (dLc (iSeq (dVar 0)) (.one 1) tTrue (vAnd (d1 (fun d => some (.bool (isaD "tuple" d))) (dVar 1)) (d2 eqD (dCall lenD (dCons (dVar 1) dNil)) (dC (.int 2)))) [1]) dNil) [some (walkD ws), none]).bind asB).map (fun c => !c) = _
    rw [c1]
    rfl
  show outD (g_is_tips [.pu (walkD ws), .no]) = _
  unfold g_is_tips
  rw [sSeq_nx (sIf_no (ρ := [.pu (walkD ws), .no]) hT), sRet_eq (ρ := [.pu (walkD ws), .no]) c2]
  rfl
theorem F_price_w (F : P6) (s : S3) (ws : List (Fin 4)) (h : ws.length ≤ 1000) (hf : Fr s.f) (hF : F.Ok) : F_price_of [s.d, walkL ws, F.l] = some (.int (feeS F s ws)) := by
  show outD (sThen ((((F_sure_stand [s.d]).bind fun d => ((F_sure_row [walkL ws]).bind fun d => some [Sl.pu d]).bind fun ss => some (.pu d :: ss))).bind fun ss => if ss.length = 2 then some (Out.nx (setsS [3, 4] ss [.pu s.d, .pu (walkL ws), .pu F.l, .no, .no, .no])) else none) _) = _
  rw [F_stand_d s hf, F_row_w ws h]
  show outD (sThen ((F_sure_prices [F.l]).map fun d => Out.nx [.pu s.d, .pu (walkL ws), .pu F.l, .pu s.d, .pu (walkD ws), .pu d]) _) = _
  rw [F_prices_l F hF]
  show outD (sThen ((((F_is_tips [walkD ws]).bind asB).map fun c => !c).bind fun b => if b = true then none else some (Out.nx [.pu s.d, .pu (walkL ws), .pu F.l, .pu s.d, .pu (walkD ws), .pu F.d])) _) = _
  rw [F_istips_w ws h]
  show outD ((F_price_in [s.d, walkD ws, F.d]).map Out.rt) = _
  rw [F_pricein_eq]
  rfl
end DL

/-! P4: counts, what tips keep, nothing bars the way. -/
namespace DL
open PySem PySem.Spec PyProof.Rows L2

def dT (a b : T3) : T3 := ⟨b.a - a.a, b.b - a.b, b.c - a.c⟩
def T3.s (t : T3) : Int := t.a + (t.b + (t.c + 0))
def tal (o t : S3) : P6 := ⟨fun k => match k with
  | 0 => (dT o.x t.x).s / 2 - (dT o.x t.x).b
  | 1 => (dT o.y t.y).s / 2 - (dT o.y t.y).c
  | 2 => (dT o.x t.x).s / 2 - (dT o.x t.x).a
  | 3 => (dT o.y t.y).s / 2 - (dT o.y t.y).b
  | 4 => (dT o.x t.x).s / 2 - (dT o.x t.x).c
  | 5 => (dT o.y t.y).s / 2 - (dT o.y t.y).a⟩
theorem odd_no {i : Int} (h : i % 2 = 0) : (i % 2 == 1) = false := by
  rw [h]
  rfl
theorem F_tally_eq (o t : S3) (hx : (dT o.x t.x).s % 2 = 0) (hy : (dT o.y t.y).s % 2 = 0) : F_l_tally [o.d, t.d] = some (tal o t).d := by
  let DX : D := .list [.int (dT o.x t.x).a, .int (dT o.x t.x).b, .int (dT o.x t.x).c]
  let DY : D := .list [.int (dT o.y t.y).a, .int (dT o.y t.y).b, .int (dT o.y t.y).c]
  let T : Rp → Option Bool := (tOr_ (tB_ (d2 eqD (d2 modD (dCall sumD (dCons (dVar 2) dNil)) (dC (.int 2))) (dC (.int 1)))) (tB_ (d2 eqD (d2 modD (dCall sumD (dCons (dVar 3) dNil)) (dC (.int 2))) (dC (.int 1)))))
  have hT : T [some o.d, some t.d, some DX, some DY, none, none, none, none, none, none] = (some ((dT o.x t.x).s % 2 == 1)).bind fun c => if c = true then some true else some ((dT o.y t.y).s % 2 == 1) := by kernel_rfl
  rw [odd_no hx, odd_no hy] at hT
  let ρ : Rs := [.pu o.d, .pu t.d, .pu DX, .pu DY, .no, .no, .no, .no, .no, .no]
  have hT' : T (opn ρ) = some false := hT
  have e0 : F_l_tally [o.d, t.d] = outD (sSeq (sIf T (sRet (dC .none)) sNext) (sSeq (sSetO 4 dNil)
    (sSeq (sFor (iEnumD (dCall F_l_across dNil)) (.many [5, 6]) (sSeq (sSet 7 (dIf (tB_ (d2 eqD (d2 modD (dVar 5) (dC (.int 2))) (dC (.int 0)))) (dVar 2) (dVar 3)))
    (sApp 4 (d2 subD (d2 fdivD (dCall sumD (dCons (dVar 7) dNil)) (dC (.int 2))) (d2 getD_ (dVar 7) (dVar 6))))))
    (sRet (dCall tupleD (dCons (dVar 4) dNil))))) ρ) := by kernel_rfl
  rw [e0, sSeq_nx (sIf_no hT')]
  kernel_rfl
theorem F_more_eq (a b : T3) : F_more_of [a.d, b.d] = some (dT a b).d := by kernel_rfl
theorem F_counts_eq (o t : S3) (hx : (dT o.x t.x).s % 2 = 0) (hy : (dT o.y t.y).s % 2 = 0) : F_counts_in [o.d, t.d] = some (tal o t).d := by
  let E : D := .tuple [(dT o.x t.x).d, (dT o.y t.y).d]
  let ρ : Rs := [.pu o.d, .pu t.d, .pu E, .no, .no]
  have hl : lcD (Tgt.one 3).bindR tTrue (d2 eqD (d2 modD (dCall sumD (dCons (dVar 3) dNil)) (dC (.int 2))) (dC (.int 1))) [some o.d, some t.d, some E, none, none] ([(dT o.x t.x), (dT o.y t.y)].map T3.d) = some ([(dT o.x t.x), (dT o.y t.y)].map fun a => .bool (a.s % 2 == 1)) := lc_one fun a ha => by
    clear ha
    kernel_rfl
  have hT : (tB_ (dCall anyD (dCons (dLc (iSeq (dVar 2)) (.one 3) tTrue (d2 eqD (d2 modD (dCall sumD (dCons (dVar 3) dNil)) (dC (.int 2))) (dC (.int 1))) [3]) dNil))) (opn ρ) = some false := by
    show ((((lcD (Tgt.one 3).bindR tTrue (d2 eqD (d2 modD (dCall sumD (dCons (dVar 3) dNil)) (dC (.int 2))) (dC (.int 1))) [some o.d, some t.d, some E, none, none] ([(dT o.x t.x), (dT o.y t.y)].map T3.d)).map PyData.list).bind fun d => some [d]).bind anyD).bind asB = _
    rw [hl]
    simp only [List.map_cons, List.map_nil, odd_no hx, odd_no hy]
    rfl
  have e0 : F_counts_in [o.d, t.d] = outD (sSeq (sIf (tB_ (dCall anyD (dCons (dLc (iSeq (dVar 2)) (.one 3) tTrue (d2 eqD (d2 modD (dCall sumD (dCons (dVar 3) dNil)) (dC (.int 2))) (dC (.int 1))) [3]) dNil))) (sRet (dC .none)) sNext)
    (sRet (dCall tupleD (dCons (dLc (iRange (dC (.int 6))) (.one 4) tTrue (d2 subD (d2 fdivD (dCall sumD (dCons (d2 getD_ (dVar 2) (d2 modD (dVar 4) (dC (.int 2)))) dNil)) (dC (.int 2))) (d2 getD_ (d2 getD_ (dVar 2) (d2 modD (dVar 4) (dC (.int 2)))) (dCall F_side_in (dCons (dVar 4) dNil)))) [4]) dNil))) ρ) := by kernel_rfl
  rw [e0, sSeq_nx (sIf_no hT)]
  kernel_rfl

/-! ### what tips keep -/
def i0 (p : Fin 6) (s : Int) : Int := if ((shp p).a == s) = true then 1 else 0
def i1 (p : Fin 6) (s : Int) : Int := if ((shp p).b == s) = true then 1 else 0
def Par (n f g : Int) : Prop := (n % 2 = 0 ∧ g = f) ∨ (n % 2 = 1 ∧ g = 0 - f)
structure LeadB (o t : S3) (A B : T3) : Prop where
  xa : t.x.a - o.x.a + i0 o.p 0 - i0 t.p 0 = 2 * A.a
  xb : t.x.b - o.x.b + i0 o.p 1 - i0 t.p 1 = 2 * A.b
  xc : t.x.c - o.x.c + i0 o.p 2 - i0 t.p 2 = 2 * A.c
  ya : t.y.a - o.y.a + i1 o.p 0 - i1 t.p 0 = 2 * B.a
  yb : t.y.b - o.y.b + i1 o.p 1 - i1 t.p 1 = 2 * B.b
  yc : t.y.c - o.y.c + i1 o.p 2 - i1 t.p 2 = 2 * B.c
  fa : Par (A.a + B.a) o.f.a t.f.a
  fb : Par (A.b + B.b) o.f.b t.f.b
  fc : Par (A.c + B.c) o.f.c t.f.c
  su : (A.a + A.b + A.c + B.a + B.b + B.c + (o.p.val : Int) + (t.p.val : Int)) % 2 = 0
def Lead (o t : S3) : Prop := ∃ A B, LeadB o t A B
theorem Lead.refl (o : S3) : Lead o o := ⟨⟨0, 0, 0⟩, ⟨0, 0, 0⟩, by
  exact ⟨by dsimp only; omega, by dsimp only; omega, by dsimp only; omega, by dsimp only; omega, by dsimp only; omega, by dsimp only; omega, .inl ⟨rfl, rfl⟩, .inl ⟨rfl, rfl⟩, .inl ⟨rfl, rfl⟩, by dsimp only; omega⟩⟩
theorem Lead.symm {o t : S3} (h : Lead o t) : Lead t o := by
  obtain ⟨A, B, h⟩ := h
  obtain ⟨h1, h2, h3, h4, h5, h6, h7, h8, h9, h10⟩ := h
  refine ⟨⟨-A.a, -A.b, -A.c⟩, ⟨-B.a, -B.b, -B.c⟩, ?_⟩
  constructor <;> simp only [Par] at * <;> omega
theorem Lead.shift {o t : S3} (h : Lead o t) (u v w : Int) : Lead o ⟨t.p, ⟨t.x.a + 4 * u, t.x.b + 4 * v, t.x.c + 4 * w⟩, t.y, t.f⟩ := by
  obtain ⟨A, B, h⟩ := h
  obtain ⟨h1, h2, h3, h4, h5, h6, h7, h8, h9, h10⟩ := h
  refine ⟨⟨A.a + 2 * u, A.b + 2 * v, A.c + 2 * w⟩, B, ?_⟩
  constructor <;> simp only [Par] at * <;> omega
end DL

/-! P4b: a tip keeps Lead (printed by gen4.py). -/
namespace DL
open PySem PySem.Spec PyProof.Rows L2
theorem i0t : i0 0 0 = 1 ∧ i0 0 1 = 0 ∧ i0 0 2 = 0 ∧ i0 1 0 = 0 ∧ i0 1 1 = 0 ∧ i0 1 2 = 1 ∧ i0 2 0 = 0 ∧ i0 2 1 = 0 ∧ i0 2 2 = 1 ∧ i0 3 0 = 0 ∧ i0 3 1 = 1 ∧ i0 3 2 = 0 ∧ i0 4 0 = 0 ∧ i0 4 1 = 1 ∧ i0 4 2 = 0 ∧ i0 5 0 = 1 ∧ i0 5 1 = 0 ∧ i0 5 2 = 0 := by decide
theorem i1t : i1 0 0 = 0 ∧ i1 0 1 = 1 ∧ i1 0 2 = 0 ∧ i1 1 0 = 0 ∧ i1 1 1 = 1 ∧ i1 1 2 = 0 ∧ i1 2 0 = 1 ∧ i1 2 1 = 0 ∧ i1 2 2 = 0 ∧ i1 3 0 = 1 ∧ i1 3 1 = 0 ∧ i1 3 2 = 0 ∧ i1 4 0 = 0 ∧ i1 4 1 = 0 ∧ i1 4 2 = 1 ∧ i1 5 0 = 0 ∧ i1 5 1 = 0 ∧ i1 5 2 = 1 := by decide
theorem lead_00 {o : S3} {x0 x1 x2 y0 y1 y2 f0 f1 f2 a0 a1 a2 b0 b1 b2 : Int} (h : LeadB o ⟨0, ⟨x0, x1, x2⟩, ⟨y0, y1, y2⟩, ⟨f0, f1, f2⟩⟩ ⟨a0, a1, a2⟩ ⟨b0, b1, b2⟩) : Lead o (tip ⟨0, ⟨x0, x1, x2⟩, ⟨y0, y1, y2⟩, ⟨f0, f1, f2⟩⟩ 0) := by
  obtain ⟨h1, h2, h3, h4, h5, h6, h7, h8, h9, h10⟩ := h
  simp only [i0t, i1t, Par] at h1 h2 h3 h4 h5 h6 h7 h8 h9
  refine ⟨⟨a0 + 1, a1, a2⟩, ⟨b0, b1, b2⟩, ?_⟩
  exact ⟨(by show x0 + 1 - o.x.a + i0 o.p 0 - 0 = 2 * (a0 + 1); clear h7 h8 h9 h10; omega),
    (by show x1 - o.x.b + i0 o.p 1 - 0 = 2 * (a1); clear h7 h8 h9 h10; omega),
    (by show x2 + 1 - o.x.c + i0 o.p 2 - 1 = 2 * (a2); clear h7 h8 h9 h10; omega),
    (by show y0 - o.y.a + i1 o.p 0 - 0 = 2 * (b0); clear h7 h8 h9 h10; omega),
    (by show y1 - o.y.b + i1 o.p 1 - 1 = 2 * (b1); clear h7 h8 h9 h10; omega),
    (by show y2 - o.y.c + i1 o.p 2 - 0 = 2 * (b2); clear h7 h8 h9 h10; omega),
    (by show ((a0 + 1 + (b0)) % 2 = 0 ∧ -f0 = o.f.a) ∨ ((a0 + 1 + (b0)) % 2 = 1 ∧ -f0 = 0 - o.f.a); clear h1 h2 h3 h4 h5 h6 h10; omega),
    (by show ((a1 + (b1)) % 2 = 0 ∧ f1 = o.f.b) ∨ ((a1 + (b1)) % 2 = 1 ∧ f1 = 0 - o.f.b); clear h1 h2 h3 h4 h5 h6 h10; omega),
    (by show ((a2 + (b2)) % 2 = 0 ∧ f2 = o.f.c) ∨ ((a2 + (b2)) % 2 = 1 ∧ f2 = 0 - o.f.c); clear h1 h2 h3 h4 h5 h6 h10; omega),
    (by have h10 : (a0 + a1 + a2 + b0 + b1 + b2 + (o.p.val : Int) + 0) % 2 = 0 := h10; show (a0 + 1 + (a1) + (a2) + (b0) + (b1) + (b2) + (o.p.val : Int) + 1) % 2 = 0; clear h1 h2 h3 h4 h5 h6 h7 h8 h9; omega)⟩
theorem lead_01 {o : S3} {x0 x1 x2 y0 y1 y2 f0 f1 f2 a0 a1 a2 b0 b1 b2 : Int} (h : LeadB o ⟨0, ⟨x0, x1, x2⟩, ⟨y0, y1, y2⟩, ⟨f0, f1, f2⟩⟩ ⟨a0, a1, a2⟩ ⟨b0, b1, b2⟩) : Lead o (tip ⟨0, ⟨x0, x1, x2⟩, ⟨y0, y1, y2⟩, ⟨f0, f1, f2⟩⟩ 1) := by
  obtain ⟨h1, h2, h3, h4, h5, h6, h7, h8, h9, h10⟩ := h
  simp only [i0t, i1t, Par] at h1 h2 h3 h4 h5 h6 h7 h8 h9
  refine ⟨⟨a0, a1, a2⟩, ⟨b0, b1 + 1, b2⟩, ?_⟩
  exact ⟨(by show x0 - o.x.a + i0 o.p 0 - 1 = 2 * (a0); clear h7 h8 h9 h10; omega),
    (by show x1 - o.x.b + i0 o.p 1 - 0 = 2 * (a1); clear h7 h8 h9 h10; omega),
    (by show x2 - o.x.c + i0 o.p 2 - 0 = 2 * (a2); clear h7 h8 h9 h10; omega),
    (by show y0 - o.y.a + i1 o.p 0 - 0 = 2 * (b0); clear h7 h8 h9 h10; omega),
    (by show y1 + 1 - o.y.b + i1 o.p 1 - 0 = 2 * (b1 + 1); clear h7 h8 h9 h10; omega),
    (by show y2 + 1 - o.y.c + i1 o.p 2 - 1 = 2 * (b2); clear h7 h8 h9 h10; omega),
    (by show ((a0 + (b0)) % 2 = 0 ∧ f0 = o.f.a) ∨ ((a0 + (b0)) % 2 = 1 ∧ f0 = 0 - o.f.a); clear h1 h2 h3 h4 h5 h6 h10; omega),
    (by show ((a1 + (b1 + 1)) % 2 = 0 ∧ -f1 = o.f.b) ∨ ((a1 + (b1 + 1)) % 2 = 1 ∧ -f1 = 0 - o.f.b); clear h1 h2 h3 h4 h5 h6 h10; omega),
    (by show ((a2 + (b2)) % 2 = 0 ∧ f2 = o.f.c) ∨ ((a2 + (b2)) % 2 = 1 ∧ f2 = 0 - o.f.c); clear h1 h2 h3 h4 h5 h6 h10; omega),
    (by have h10 : (a0 + a1 + a2 + b0 + b1 + b2 + (o.p.val : Int) + 0) % 2 = 0 := h10; show (a0 + (a1) + (a2) + (b0) + (b1 + 1) + (b2) + (o.p.val : Int) + 5) % 2 = 0; clear h1 h2 h3 h4 h5 h6 h7 h8 h9; omega)⟩
theorem lead_02 {o : S3} {x0 x1 x2 y0 y1 y2 f0 f1 f2 a0 a1 a2 b0 b1 b2 : Int} (h : LeadB o ⟨0, ⟨x0, x1, x2⟩, ⟨y0, y1, y2⟩, ⟨f0, f1, f2⟩⟩ ⟨a0, a1, a2⟩ ⟨b0, b1, b2⟩) : Lead o (tip ⟨0, ⟨x0, x1, x2⟩, ⟨y0, y1, y2⟩, ⟨f0, f1, f2⟩⟩ 2) := by
  obtain ⟨h1, h2, h3, h4, h5, h6, h7, h8, h9, h10⟩ := h
  simp only [i0t, i1t, Par] at h1 h2 h3 h4 h5 h6 h7 h8 h9
  refine ⟨⟨a0, a1, a2 + (-1)⟩, ⟨b0, b1, b2⟩, ?_⟩
  exact ⟨(by show x0 + (-1) - o.x.a + i0 o.p 0 - 0 = 2 * (a0); clear h7 h8 h9 h10; omega),
    (by show x1 - o.x.b + i0 o.p 1 - 0 = 2 * (a1); clear h7 h8 h9 h10; omega),
    (by show x2 + (-1) - o.x.c + i0 o.p 2 - 1 = 2 * (a2 + (-1)); clear h7 h8 h9 h10; omega),
    (by show y0 - o.y.a + i1 o.p 0 - 0 = 2 * (b0); clear h7 h8 h9 h10; omega),
    (by show y1 - o.y.b + i1 o.p 1 - 1 = 2 * (b1); clear h7 h8 h9 h10; omega),
    (by show y2 - o.y.c + i1 o.p 2 - 0 = 2 * (b2); clear h7 h8 h9 h10; omega),
    (by show ((a0 + (b0)) % 2 = 0 ∧ f0 = o.f.a) ∨ ((a0 + (b0)) % 2 = 1 ∧ f0 = 0 - o.f.a); clear h1 h2 h3 h4 h5 h6 h10; omega),
    (by show ((a1 + (b1)) % 2 = 0 ∧ f1 = o.f.b) ∨ ((a1 + (b1)) % 2 = 1 ∧ f1 = 0 - o.f.b); clear h1 h2 h3 h4 h5 h6 h10; omega),
    (by show ((a2 + (-1) + (b2)) % 2 = 0 ∧ -f2 = o.f.c) ∨ ((a2 + (-1) + (b2)) % 2 = 1 ∧ -f2 = 0 - o.f.c); clear h1 h2 h3 h4 h5 h6 h10; omega),
    (by have h10 : (a0 + a1 + a2 + b0 + b1 + b2 + (o.p.val : Int) + 0) % 2 = 0 := h10; show (a0 + (a1) + (a2 + (-1)) + (b0) + (b1) + (b2) + (o.p.val : Int) + 1) % 2 = 0; clear h1 h2 h3 h4 h5 h6 h7 h8 h9; omega)⟩
theorem lead_03 {o : S3} {x0 x1 x2 y0 y1 y2 f0 f1 f2 a0 a1 a2 b0 b1 b2 : Int} (h : LeadB o ⟨0, ⟨x0, x1, x2⟩, ⟨y0, y1, y2⟩, ⟨f0, f1, f2⟩⟩ ⟨a0, a1, a2⟩ ⟨b0, b1, b2⟩) : Lead o (tip ⟨0, ⟨x0, x1, x2⟩, ⟨y0, y1, y2⟩, ⟨f0, f1, f2⟩⟩ 3) := by
  obtain ⟨h1, h2, h3, h4, h5, h6, h7, h8, h9, h10⟩ := h
  simp only [i0t, i1t, Par] at h1 h2 h3 h4 h5 h6 h7 h8 h9
  refine ⟨⟨a0, a1, a2⟩, ⟨b0, b1, b2 + (-1)⟩, ?_⟩
  exact ⟨(by show x0 - o.x.a + i0 o.p 0 - 1 = 2 * (a0); clear h7 h8 h9 h10; omega),
    (by show x1 - o.x.b + i0 o.p 1 - 0 = 2 * (a1); clear h7 h8 h9 h10; omega),
    (by show x2 - o.x.c + i0 o.p 2 - 0 = 2 * (a2); clear h7 h8 h9 h10; omega),
    (by show y0 - o.y.a + i1 o.p 0 - 0 = 2 * (b0); clear h7 h8 h9 h10; omega),
    (by show y1 + (-1) - o.y.b + i1 o.p 1 - 0 = 2 * (b1); clear h7 h8 h9 h10; omega),
    (by show y2 + (-1) - o.y.c + i1 o.p 2 - 1 = 2 * (b2 + (-1)); clear h7 h8 h9 h10; omega),
    (by show ((a0 + (b0)) % 2 = 0 ∧ f0 = o.f.a) ∨ ((a0 + (b0)) % 2 = 1 ∧ f0 = 0 - o.f.a); clear h1 h2 h3 h4 h5 h6 h10; omega),
    (by show ((a1 + (b1)) % 2 = 0 ∧ f1 = o.f.b) ∨ ((a1 + (b1)) % 2 = 1 ∧ f1 = 0 - o.f.b); clear h1 h2 h3 h4 h5 h6 h10; omega),
    (by show ((a2 + (b2 + (-1))) % 2 = 0 ∧ -f2 = o.f.c) ∨ ((a2 + (b2 + (-1))) % 2 = 1 ∧ -f2 = 0 - o.f.c); clear h1 h2 h3 h4 h5 h6 h10; omega),
    (by have h10 : (a0 + a1 + a2 + b0 + b1 + b2 + (o.p.val : Int) + 0) % 2 = 0 := h10; show (a0 + (a1) + (a2) + (b0) + (b1) + (b2 + (-1)) + (o.p.val : Int) + 5) % 2 = 0; clear h1 h2 h3 h4 h5 h6 h7 h8 h9; omega)⟩
theorem lead_10 {o : S3} {x0 x1 x2 y0 y1 y2 f0 f1 f2 a0 a1 a2 b0 b1 b2 : Int} (h : LeadB o ⟨1, ⟨x0, x1, x2⟩, ⟨y0, y1, y2⟩, ⟨f0, f1, f2⟩⟩ ⟨a0, a1, a2⟩ ⟨b0, b1, b2⟩) : Lead o (tip ⟨1, ⟨x0, x1, x2⟩, ⟨y0, y1, y2⟩, ⟨f0, f1, f2⟩⟩ 0) := by
  obtain ⟨h1, h2, h3, h4, h5, h6, h7, h8, h9, h10⟩ := h
  simp only [i0t, i1t, Par] at h1 h2 h3 h4 h5 h6 h7 h8 h9
  refine ⟨⟨a0, a1, a2 + 1⟩, ⟨b0, b1, b2⟩, ?_⟩
  exact ⟨(by show x0 + 1 - o.x.a + i0 o.p 0 - 1 = 2 * (a0); clear h7 h8 h9 h10; omega),
    (by show x1 - o.x.b + i0 o.p 1 - 0 = 2 * (a1); clear h7 h8 h9 h10; omega),
    (by show x2 + 1 - o.x.c + i0 o.p 2 - 0 = 2 * (a2 + 1); clear h7 h8 h9 h10; omega),
    (by show y0 - o.y.a + i1 o.p 0 - 0 = 2 * (b0); clear h7 h8 h9 h10; omega),
    (by show y1 - o.y.b + i1 o.p 1 - 1 = 2 * (b1); clear h7 h8 h9 h10; omega),
    (by show y2 - o.y.c + i1 o.p 2 - 0 = 2 * (b2); clear h7 h8 h9 h10; omega),
    (by show ((a0 + (b0)) % 2 = 0 ∧ f0 = o.f.a) ∨ ((a0 + (b0)) % 2 = 1 ∧ f0 = 0 - o.f.a); clear h1 h2 h3 h4 h5 h6 h10; omega),
    (by show ((a1 + (b1)) % 2 = 0 ∧ f1 = o.f.b) ∨ ((a1 + (b1)) % 2 = 1 ∧ f1 = 0 - o.f.b); clear h1 h2 h3 h4 h5 h6 h10; omega),
    (by show ((a2 + 1 + (b2)) % 2 = 0 ∧ -f2 = o.f.c) ∨ ((a2 + 1 + (b2)) % 2 = 1 ∧ -f2 = 0 - o.f.c); clear h1 h2 h3 h4 h5 h6 h10; omega),
    (by have h10 : (a0 + a1 + a2 + b0 + b1 + b2 + (o.p.val : Int) + 1) % 2 = 0 := h10; show (a0 + (a1) + (a2 + 1) + (b0) + (b1) + (b2) + (o.p.val : Int) + 0) % 2 = 0; clear h1 h2 h3 h4 h5 h6 h7 h8 h9; omega)⟩
theorem lead_11 {o : S3} {x0 x1 x2 y0 y1 y2 f0 f1 f2 a0 a1 a2 b0 b1 b2 : Int} (h : LeadB o ⟨1, ⟨x0, x1, x2⟩, ⟨y0, y1, y2⟩, ⟨f0, f1, f2⟩⟩ ⟨a0, a1, a2⟩ ⟨b0, b1, b2⟩) : Lead o (tip ⟨1, ⟨x0, x1, x2⟩, ⟨y0, y1, y2⟩, ⟨f0, f1, f2⟩⟩ 1) := by
  obtain ⟨h1, h2, h3, h4, h5, h6, h7, h8, h9, h10⟩ := h
  simp only [i0t, i1t, Par] at h1 h2 h3 h4 h5 h6 h7 h8 h9
  refine ⟨⟨a0, a1, a2⟩, ⟨b0, b1 + 1, b2⟩, ?_⟩
  exact ⟨(by show x0 - o.x.a + i0 o.p 0 - 0 = 2 * (a0); clear h7 h8 h9 h10; omega),
    (by show x1 - o.x.b + i0 o.p 1 - 0 = 2 * (a1); clear h7 h8 h9 h10; omega),
    (by show x2 - o.x.c + i0 o.p 2 - 1 = 2 * (a2); clear h7 h8 h9 h10; omega),
    (by show y0 + 1 - o.y.a + i1 o.p 0 - 1 = 2 * (b0); clear h7 h8 h9 h10; omega),
    (by show y1 + 1 - o.y.b + i1 o.p 1 - 0 = 2 * (b1 + 1); clear h7 h8 h9 h10; omega),
    (by show y2 - o.y.c + i1 o.p 2 - 0 = 2 * (b2); clear h7 h8 h9 h10; omega),
    (by show ((a0 + (b0)) % 2 = 0 ∧ f0 = o.f.a) ∨ ((a0 + (b0)) % 2 = 1 ∧ f0 = 0 - o.f.a); clear h1 h2 h3 h4 h5 h6 h10; omega),
    (by show ((a1 + (b1 + 1)) % 2 = 0 ∧ -f1 = o.f.b) ∨ ((a1 + (b1 + 1)) % 2 = 1 ∧ -f1 = 0 - o.f.b); clear h1 h2 h3 h4 h5 h6 h10; omega),
    (by show ((a2 + (b2)) % 2 = 0 ∧ f2 = o.f.c) ∨ ((a2 + (b2)) % 2 = 1 ∧ f2 = 0 - o.f.c); clear h1 h2 h3 h4 h5 h6 h10; omega),
    (by have h10 : (a0 + a1 + a2 + b0 + b1 + b2 + (o.p.val : Int) + 1) % 2 = 0 := h10; show (a0 + (a1) + (a2) + (b0) + (b1 + 1) + (b2) + (o.p.val : Int) + 2) % 2 = 0; clear h1 h2 h3 h4 h5 h6 h7 h8 h9; omega)⟩
theorem lead_12 {o : S3} {x0 x1 x2 y0 y1 y2 f0 f1 f2 a0 a1 a2 b0 b1 b2 : Int} (h : LeadB o ⟨1, ⟨x0, x1, x2⟩, ⟨y0, y1, y2⟩, ⟨f0, f1, f2⟩⟩ ⟨a0, a1, a2⟩ ⟨b0, b1, b2⟩) : Lead o (tip ⟨1, ⟨x0, x1, x2⟩, ⟨y0, y1, y2⟩, ⟨f0, f1, f2⟩⟩ 2) := by
  obtain ⟨h1, h2, h3, h4, h5, h6, h7, h8, h9, h10⟩ := h
  simp only [i0t, i1t, Par] at h1 h2 h3 h4 h5 h6 h7 h8 h9
  refine ⟨⟨a0 + (-1), a1, a2⟩, ⟨b0, b1, b2⟩, ?_⟩
  exact ⟨(by show x0 + (-1) - o.x.a + i0 o.p 0 - 1 = 2 * (a0 + (-1)); clear h7 h8 h9 h10; omega),
    (by show x1 - o.x.b + i0 o.p 1 - 0 = 2 * (a1); clear h7 h8 h9 h10; omega),
    (by show x2 + (-1) - o.x.c + i0 o.p 2 - 0 = 2 * (a2); clear h7 h8 h9 h10; omega),
    (by show y0 - o.y.a + i1 o.p 0 - 0 = 2 * (b0); clear h7 h8 h9 h10; omega),
    (by show y1 - o.y.b + i1 o.p 1 - 1 = 2 * (b1); clear h7 h8 h9 h10; omega),
    (by show y2 - o.y.c + i1 o.p 2 - 0 = 2 * (b2); clear h7 h8 h9 h10; omega),
    (by show ((a0 + (-1) + (b0)) % 2 = 0 ∧ -f0 = o.f.a) ∨ ((a0 + (-1) + (b0)) % 2 = 1 ∧ -f0 = 0 - o.f.a); clear h1 h2 h3 h4 h5 h6 h10; omega),
    (by show ((a1 + (b1)) % 2 = 0 ∧ f1 = o.f.b) ∨ ((a1 + (b1)) % 2 = 1 ∧ f1 = 0 - o.f.b); clear h1 h2 h3 h4 h5 h6 h10; omega),
    (by show ((a2 + (b2)) % 2 = 0 ∧ f2 = o.f.c) ∨ ((a2 + (b2)) % 2 = 1 ∧ f2 = 0 - o.f.c); clear h1 h2 h3 h4 h5 h6 h10; omega),
    (by have h10 : (a0 + a1 + a2 + b0 + b1 + b2 + (o.p.val : Int) + 1) % 2 = 0 := h10; show (a0 + (-1) + (a1) + (a2) + (b0) + (b1) + (b2) + (o.p.val : Int) + 0) % 2 = 0; clear h1 h2 h3 h4 h5 h6 h7 h8 h9; omega)⟩
theorem lead_13 {o : S3} {x0 x1 x2 y0 y1 y2 f0 f1 f2 a0 a1 a2 b0 b1 b2 : Int} (h : LeadB o ⟨1, ⟨x0, x1, x2⟩, ⟨y0, y1, y2⟩, ⟨f0, f1, f2⟩⟩ ⟨a0, a1, a2⟩ ⟨b0, b1, b2⟩) : Lead o (tip ⟨1, ⟨x0, x1, x2⟩, ⟨y0, y1, y2⟩, ⟨f0, f1, f2⟩⟩ 3) := by
  obtain ⟨h1, h2, h3, h4, h5, h6, h7, h8, h9, h10⟩ := h
  simp only [i0t, i1t, Par] at h1 h2 h3 h4 h5 h6 h7 h8 h9
  refine ⟨⟨a0, a1, a2⟩, ⟨b0 + (-1), b1, b2⟩, ?_⟩
  exact ⟨(by show x0 - o.x.a + i0 o.p 0 - 0 = 2 * (a0); clear h7 h8 h9 h10; omega),
    (by show x1 - o.x.b + i0 o.p 1 - 0 = 2 * (a1); clear h7 h8 h9 h10; omega),
    (by show x2 - o.x.c + i0 o.p 2 - 1 = 2 * (a2); clear h7 h8 h9 h10; omega),
    (by show y0 + (-1) - o.y.a + i1 o.p 0 - 1 = 2 * (b0 + (-1)); clear h7 h8 h9 h10; omega),
    (by show y1 + (-1) - o.y.b + i1 o.p 1 - 0 = 2 * (b1); clear h7 h8 h9 h10; omega),
    (by show y2 - o.y.c + i1 o.p 2 - 0 = 2 * (b2); clear h7 h8 h9 h10; omega),
    (by show ((a0 + (b0 + (-1))) % 2 = 0 ∧ -f0 = o.f.a) ∨ ((a0 + (b0 + (-1))) % 2 = 1 ∧ -f0 = 0 - o.f.a); clear h1 h2 h3 h4 h5 h6 h10; omega),
    (by show ((a1 + (b1)) % 2 = 0 ∧ f1 = o.f.b) ∨ ((a1 + (b1)) % 2 = 1 ∧ f1 = 0 - o.f.b); clear h1 h2 h3 h4 h5 h6 h10; omega),
    (by show ((a2 + (b2)) % 2 = 0 ∧ f2 = o.f.c) ∨ ((a2 + (b2)) % 2 = 1 ∧ f2 = 0 - o.f.c); clear h1 h2 h3 h4 h5 h6 h10; omega),
    (by have h10 : (a0 + a1 + a2 + b0 + b1 + b2 + (o.p.val : Int) + 1) % 2 = 0 := h10; show (a0 + (a1) + (a2) + (b0 + (-1)) + (b1) + (b2) + (o.p.val : Int) + 2) % 2 = 0; clear h1 h2 h3 h4 h5 h6 h7 h8 h9; omega)⟩
theorem lead_20 {o : S3} {x0 x1 x2 y0 y1 y2 f0 f1 f2 a0 a1 a2 b0 b1 b2 : Int} (h : LeadB o ⟨2, ⟨x0, x1, x2⟩, ⟨y0, y1, y2⟩, ⟨f0, f1, f2⟩⟩ ⟨a0, a1, a2⟩ ⟨b0, b1, b2⟩) : Lead o (tip ⟨2, ⟨x0, x1, x2⟩, ⟨y0, y1, y2⟩, ⟨f0, f1, f2⟩⟩ 0) := by
  obtain ⟨h1, h2, h3, h4, h5, h6, h7, h8, h9, h10⟩ := h
  simp only [i0t, i1t, Par] at h1 h2 h3 h4 h5 h6 h7 h8 h9
  refine ⟨⟨a0, a1, a2 + 1⟩, ⟨b0, b1, b2⟩, ?_⟩
  exact ⟨(by show x0 - o.x.a + i0 o.p 0 - 0 = 2 * (a0); clear h7 h8 h9 h10; omega),
    (by show x1 + 1 - o.x.b + i0 o.p 1 - 1 = 2 * (a1); clear h7 h8 h9 h10; omega),
    (by show x2 + 1 - o.x.c + i0 o.p 2 - 0 = 2 * (a2 + 1); clear h7 h8 h9 h10; omega),
    (by show y0 - o.y.a + i1 o.p 0 - 1 = 2 * (b0); clear h7 h8 h9 h10; omega),
    (by show y1 - o.y.b + i1 o.p 1 - 0 = 2 * (b1); clear h7 h8 h9 h10; omega),
    (by show y2 - o.y.c + i1 o.p 2 - 0 = 2 * (b2); clear h7 h8 h9 h10; omega),
    (by show ((a0 + (b0)) % 2 = 0 ∧ f0 = o.f.a) ∨ ((a0 + (b0)) % 2 = 1 ∧ f0 = 0 - o.f.a); clear h1 h2 h3 h4 h5 h6 h10; omega),
    (by show ((a1 + (b1)) % 2 = 0 ∧ f1 = o.f.b) ∨ ((a1 + (b1)) % 2 = 1 ∧ f1 = 0 - o.f.b); clear h1 h2 h3 h4 h5 h6 h10; omega),
    (by show ((a2 + 1 + (b2)) % 2 = 0 ∧ -f2 = o.f.c) ∨ ((a2 + 1 + (b2)) % 2 = 1 ∧ -f2 = 0 - o.f.c); clear h1 h2 h3 h4 h5 h6 h10; omega),
    (by have h10 : (a0 + a1 + a2 + b0 + b1 + b2 + (o.p.val : Int) + 2) % 2 = 0 := h10; show (a0 + (a1) + (a2 + 1) + (b0) + (b1) + (b2) + (o.p.val : Int) + 3) % 2 = 0; clear h1 h2 h3 h4 h5 h6 h7 h8 h9; omega)⟩
theorem lead_21 {o : S3} {x0 x1 x2 y0 y1 y2 f0 f1 f2 a0 a1 a2 b0 b1 b2 : Int} (h : LeadB o ⟨2, ⟨x0, x1, x2⟩, ⟨y0, y1, y2⟩, ⟨f0, f1, f2⟩⟩ ⟨a0, a1, a2⟩ ⟨b0, b1, b2⟩) : Lead o (tip ⟨2, ⟨x0, x1, x2⟩, ⟨y0, y1, y2⟩, ⟨f0, f1, f2⟩⟩ 1) := by
  obtain ⟨h1, h2, h3, h4, h5, h6, h7, h8, h9, h10⟩ := h
  simp only [i0t, i1t, Par] at h1 h2 h3 h4 h5 h6 h7 h8 h9
  refine ⟨⟨a0, a1, a2⟩, ⟨b0 + 1, b1, b2⟩, ?_⟩
  exact ⟨(by show x0 - o.x.a + i0 o.p 0 - 0 = 2 * (a0); clear h7 h8 h9 h10; omega),
    (by show x1 - o.x.b + i0 o.p 1 - 0 = 2 * (a1); clear h7 h8 h9 h10; omega),
    (by show x2 - o.x.c + i0 o.p 2 - 1 = 2 * (a2); clear h7 h8 h9 h10; omega),
    (by show y0 + 1 - o.y.a + i1 o.p 0 - 0 = 2 * (b0 + 1); clear h7 h8 h9 h10; omega),
    (by show y1 + 1 - o.y.b + i1 o.p 1 - 1 = 2 * (b1); clear h7 h8 h9 h10; omega),
    (by show y2 - o.y.c + i1 o.p 2 - 0 = 2 * (b2); clear h7 h8 h9 h10; omega),
    (by show ((a0 + (b0 + 1)) % 2 = 0 ∧ -f0 = o.f.a) ∨ ((a0 + (b0 + 1)) % 2 = 1 ∧ -f0 = 0 - o.f.a); clear h1 h2 h3 h4 h5 h6 h10; omega),
    (by show ((a1 + (b1)) % 2 = 0 ∧ f1 = o.f.b) ∨ ((a1 + (b1)) % 2 = 1 ∧ f1 = 0 - o.f.b); clear h1 h2 h3 h4 h5 h6 h10; omega),
    (by show ((a2 + (b2)) % 2 = 0 ∧ f2 = o.f.c) ∨ ((a2 + (b2)) % 2 = 1 ∧ f2 = 0 - o.f.c); clear h1 h2 h3 h4 h5 h6 h10; omega),
    (by have h10 : (a0 + a1 + a2 + b0 + b1 + b2 + (o.p.val : Int) + 2) % 2 = 0 := h10; show (a0 + (a1) + (a2) + (b0 + 1) + (b1) + (b2) + (o.p.val : Int) + 1) % 2 = 0; clear h1 h2 h3 h4 h5 h6 h7 h8 h9; omega)⟩
theorem lead_22 {o : S3} {x0 x1 x2 y0 y1 y2 f0 f1 f2 a0 a1 a2 b0 b1 b2 : Int} (h : LeadB o ⟨2, ⟨x0, x1, x2⟩, ⟨y0, y1, y2⟩, ⟨f0, f1, f2⟩⟩ ⟨a0, a1, a2⟩ ⟨b0, b1, b2⟩) : Lead o (tip ⟨2, ⟨x0, x1, x2⟩, ⟨y0, y1, y2⟩, ⟨f0, f1, f2⟩⟩ 2) := by
  obtain ⟨h1, h2, h3, h4, h5, h6, h7, h8, h9, h10⟩ := h
  simp only [i0t, i1t, Par] at h1 h2 h3 h4 h5 h6 h7 h8 h9
  refine ⟨⟨a0, a1 + (-1), a2⟩, ⟨b0, b1, b2⟩, ?_⟩
  exact ⟨(by show x0 - o.x.a + i0 o.p 0 - 0 = 2 * (a0); clear h7 h8 h9 h10; omega),
    (by show x1 + (-1) - o.x.b + i0 o.p 1 - 1 = 2 * (a1 + (-1)); clear h7 h8 h9 h10; omega),
    (by show x2 + (-1) - o.x.c + i0 o.p 2 - 0 = 2 * (a2); clear h7 h8 h9 h10; omega),
    (by show y0 - o.y.a + i1 o.p 0 - 1 = 2 * (b0); clear h7 h8 h9 h10; omega),
    (by show y1 - o.y.b + i1 o.p 1 - 0 = 2 * (b1); clear h7 h8 h9 h10; omega),
    (by show y2 - o.y.c + i1 o.p 2 - 0 = 2 * (b2); clear h7 h8 h9 h10; omega),
    (by show ((a0 + (b0)) % 2 = 0 ∧ f0 = o.f.a) ∨ ((a0 + (b0)) % 2 = 1 ∧ f0 = 0 - o.f.a); clear h1 h2 h3 h4 h5 h6 h10; omega),
    (by show ((a1 + (-1) + (b1)) % 2 = 0 ∧ -f1 = o.f.b) ∨ ((a1 + (-1) + (b1)) % 2 = 1 ∧ -f1 = 0 - o.f.b); clear h1 h2 h3 h4 h5 h6 h10; omega),
    (by show ((a2 + (b2)) % 2 = 0 ∧ f2 = o.f.c) ∨ ((a2 + (b2)) % 2 = 1 ∧ f2 = 0 - o.f.c); clear h1 h2 h3 h4 h5 h6 h10; omega),
    (by have h10 : (a0 + a1 + a2 + b0 + b1 + b2 + (o.p.val : Int) + 2) % 2 = 0 := h10; show (a0 + (a1 + (-1)) + (a2) + (b0) + (b1) + (b2) + (o.p.val : Int) + 3) % 2 = 0; clear h1 h2 h3 h4 h5 h6 h7 h8 h9; omega)⟩
theorem lead_23 {o : S3} {x0 x1 x2 y0 y1 y2 f0 f1 f2 a0 a1 a2 b0 b1 b2 : Int} (h : LeadB o ⟨2, ⟨x0, x1, x2⟩, ⟨y0, y1, y2⟩, ⟨f0, f1, f2⟩⟩ ⟨a0, a1, a2⟩ ⟨b0, b1, b2⟩) : Lead o (tip ⟨2, ⟨x0, x1, x2⟩, ⟨y0, y1, y2⟩, ⟨f0, f1, f2⟩⟩ 3) := by
  obtain ⟨h1, h2, h3, h4, h5, h6, h7, h8, h9, h10⟩ := h
  simp only [i0t, i1t, Par] at h1 h2 h3 h4 h5 h6 h7 h8 h9
  refine ⟨⟨a0, a1, a2⟩, ⟨b0, b1 + (-1), b2⟩, ?_⟩
  exact ⟨(by show x0 - o.x.a + i0 o.p 0 - 0 = 2 * (a0); clear h7 h8 h9 h10; omega),
    (by show x1 - o.x.b + i0 o.p 1 - 0 = 2 * (a1); clear h7 h8 h9 h10; omega),
    (by show x2 - o.x.c + i0 o.p 2 - 1 = 2 * (a2); clear h7 h8 h9 h10; omega),
    (by show y0 + (-1) - o.y.a + i1 o.p 0 - 0 = 2 * (b0); clear h7 h8 h9 h10; omega),
    (by show y1 + (-1) - o.y.b + i1 o.p 1 - 1 = 2 * (b1 + (-1)); clear h7 h8 h9 h10; omega),
    (by show y2 - o.y.c + i1 o.p 2 - 0 = 2 * (b2); clear h7 h8 h9 h10; omega),
    (by show ((a0 + (b0)) % 2 = 0 ∧ f0 = o.f.a) ∨ ((a0 + (b0)) % 2 = 1 ∧ f0 = 0 - o.f.a); clear h1 h2 h3 h4 h5 h6 h10; omega),
    (by show ((a1 + (b1 + (-1))) % 2 = 0 ∧ -f1 = o.f.b) ∨ ((a1 + (b1 + (-1))) % 2 = 1 ∧ -f1 = 0 - o.f.b); clear h1 h2 h3 h4 h5 h6 h10; omega),
    (by show ((a2 + (b2)) % 2 = 0 ∧ f2 = o.f.c) ∨ ((a2 + (b2)) % 2 = 1 ∧ f2 = 0 - o.f.c); clear h1 h2 h3 h4 h5 h6 h10; omega),
    (by have h10 : (a0 + a1 + a2 + b0 + b1 + b2 + (o.p.val : Int) + 2) % 2 = 0 := h10; show (a0 + (a1) + (a2) + (b0) + (b1 + (-1)) + (b2) + (o.p.val : Int) + 1) % 2 = 0; clear h1 h2 h3 h4 h5 h6 h7 h8 h9; omega)⟩
theorem lead_30 {o : S3} {x0 x1 x2 y0 y1 y2 f0 f1 f2 a0 a1 a2 b0 b1 b2 : Int} (h : LeadB o ⟨3, ⟨x0, x1, x2⟩, ⟨y0, y1, y2⟩, ⟨f0, f1, f2⟩⟩ ⟨a0, a1, a2⟩ ⟨b0, b1, b2⟩) : Lead o (tip ⟨3, ⟨x0, x1, x2⟩, ⟨y0, y1, y2⟩, ⟨f0, f1, f2⟩⟩ 0) := by
  obtain ⟨h1, h2, h3, h4, h5, h6, h7, h8, h9, h10⟩ := h
  simp only [i0t, i1t, Par] at h1 h2 h3 h4 h5 h6 h7 h8 h9
  refine ⟨⟨a0, a1 + 1, a2⟩, ⟨b0, b1, b2⟩, ?_⟩
  exact ⟨(by show x0 - o.x.a + i0 o.p 0 - 0 = 2 * (a0); clear h7 h8 h9 h10; omega),
    (by show x1 + 1 - o.x.b + i0 o.p 1 - 0 = 2 * (a1 + 1); clear h7 h8 h9 h10; omega),
    (by show x2 + 1 - o.x.c + i0 o.p 2 - 1 = 2 * (a2); clear h7 h8 h9 h10; omega),
    (by show y0 - o.y.a + i1 o.p 0 - 1 = 2 * (b0); clear h7 h8 h9 h10; omega),
    (by show y1 - o.y.b + i1 o.p 1 - 0 = 2 * (b1); clear h7 h8 h9 h10; omega),
    (by show y2 - o.y.c + i1 o.p 2 - 0 = 2 * (b2); clear h7 h8 h9 h10; omega),
    (by show ((a0 + (b0)) % 2 = 0 ∧ f0 = o.f.a) ∨ ((a0 + (b0)) % 2 = 1 ∧ f0 = 0 - o.f.a); clear h1 h2 h3 h4 h5 h6 h10; omega),
    (by show ((a1 + 1 + (b1)) % 2 = 0 ∧ -f1 = o.f.b) ∨ ((a1 + 1 + (b1)) % 2 = 1 ∧ -f1 = 0 - o.f.b); clear h1 h2 h3 h4 h5 h6 h10; omega),
    (by show ((a2 + (b2)) % 2 = 0 ∧ f2 = o.f.c) ∨ ((a2 + (b2)) % 2 = 1 ∧ f2 = 0 - o.f.c); clear h1 h2 h3 h4 h5 h6 h10; omega),
    (by have h10 : (a0 + a1 + a2 + b0 + b1 + b2 + (o.p.val : Int) + 3) % 2 = 0 := h10; show (a0 + (a1 + 1) + (a2) + (b0) + (b1) + (b2) + (o.p.val : Int) + 2) % 2 = 0; clear h1 h2 h3 h4 h5 h6 h7 h8 h9; omega)⟩
theorem lead_31 {o : S3} {x0 x1 x2 y0 y1 y2 f0 f1 f2 a0 a1 a2 b0 b1 b2 : Int} (h : LeadB o ⟨3, ⟨x0, x1, x2⟩, ⟨y0, y1, y2⟩, ⟨f0, f1, f2⟩⟩ ⟨a0, a1, a2⟩ ⟨b0, b1, b2⟩) : Lead o (tip ⟨3, ⟨x0, x1, x2⟩, ⟨y0, y1, y2⟩, ⟨f0, f1, f2⟩⟩ 1) := by
  obtain ⟨h1, h2, h3, h4, h5, h6, h7, h8, h9, h10⟩ := h
  simp only [i0t, i1t, Par] at h1 h2 h3 h4 h5 h6 h7 h8 h9
  refine ⟨⟨a0, a1, a2⟩, ⟨b0 + 1, b1, b2⟩, ?_⟩
  exact ⟨(by show x0 - o.x.a + i0 o.p 0 - 0 = 2 * (a0); clear h7 h8 h9 h10; omega),
    (by show x1 - o.x.b + i0 o.p 1 - 1 = 2 * (a1); clear h7 h8 h9 h10; omega),
    (by show x2 - o.x.c + i0 o.p 2 - 0 = 2 * (a2); clear h7 h8 h9 h10; omega),
    (by show y0 + 1 - o.y.a + i1 o.p 0 - 0 = 2 * (b0 + 1); clear h7 h8 h9 h10; omega),
    (by show y1 - o.y.b + i1 o.p 1 - 0 = 2 * (b1); clear h7 h8 h9 h10; omega),
    (by show y2 + 1 - o.y.c + i1 o.p 2 - 1 = 2 * (b2); clear h7 h8 h9 h10; omega),
    (by show ((a0 + (b0 + 1)) % 2 = 0 ∧ -f0 = o.f.a) ∨ ((a0 + (b0 + 1)) % 2 = 1 ∧ -f0 = 0 - o.f.a); clear h1 h2 h3 h4 h5 h6 h10; omega),
    (by show ((a1 + (b1)) % 2 = 0 ∧ f1 = o.f.b) ∨ ((a1 + (b1)) % 2 = 1 ∧ f1 = 0 - o.f.b); clear h1 h2 h3 h4 h5 h6 h10; omega),
    (by show ((a2 + (b2)) % 2 = 0 ∧ f2 = o.f.c) ∨ ((a2 + (b2)) % 2 = 1 ∧ f2 = 0 - o.f.c); clear h1 h2 h3 h4 h5 h6 h10; omega),
    (by have h10 : (a0 + a1 + a2 + b0 + b1 + b2 + (o.p.val : Int) + 3) % 2 = 0 := h10; show (a0 + (a1) + (a2) + (b0 + 1) + (b1) + (b2) + (o.p.val : Int) + 4) % 2 = 0; clear h1 h2 h3 h4 h5 h6 h7 h8 h9; omega)⟩
theorem lead_32 {o : S3} {x0 x1 x2 y0 y1 y2 f0 f1 f2 a0 a1 a2 b0 b1 b2 : Int} (h : LeadB o ⟨3, ⟨x0, x1, x2⟩, ⟨y0, y1, y2⟩, ⟨f0, f1, f2⟩⟩ ⟨a0, a1, a2⟩ ⟨b0, b1, b2⟩) : Lead o (tip ⟨3, ⟨x0, x1, x2⟩, ⟨y0, y1, y2⟩, ⟨f0, f1, f2⟩⟩ 2) := by
  obtain ⟨h1, h2, h3, h4, h5, h6, h7, h8, h9, h10⟩ := h
  simp only [i0t, i1t, Par] at h1 h2 h3 h4 h5 h6 h7 h8 h9
  refine ⟨⟨a0, a1, a2 + (-1)⟩, ⟨b0, b1, b2⟩, ?_⟩
  exact ⟨(by show x0 - o.x.a + i0 o.p 0 - 0 = 2 * (a0); clear h7 h8 h9 h10; omega),
    (by show x1 + (-1) - o.x.b + i0 o.p 1 - 0 = 2 * (a1); clear h7 h8 h9 h10; omega),
    (by show x2 + (-1) - o.x.c + i0 o.p 2 - 1 = 2 * (a2 + (-1)); clear h7 h8 h9 h10; omega),
    (by show y0 - o.y.a + i1 o.p 0 - 1 = 2 * (b0); clear h7 h8 h9 h10; omega),
    (by show y1 - o.y.b + i1 o.p 1 - 0 = 2 * (b1); clear h7 h8 h9 h10; omega),
    (by show y2 - o.y.c + i1 o.p 2 - 0 = 2 * (b2); clear h7 h8 h9 h10; omega),
    (by show ((a0 + (b0)) % 2 = 0 ∧ f0 = o.f.a) ∨ ((a0 + (b0)) % 2 = 1 ∧ f0 = 0 - o.f.a); clear h1 h2 h3 h4 h5 h6 h10; omega),
    (by show ((a1 + (b1)) % 2 = 0 ∧ f1 = o.f.b) ∨ ((a1 + (b1)) % 2 = 1 ∧ f1 = 0 - o.f.b); clear h1 h2 h3 h4 h5 h6 h10; omega),
    (by show ((a2 + (-1) + (b2)) % 2 = 0 ∧ -f2 = o.f.c) ∨ ((a2 + (-1) + (b2)) % 2 = 1 ∧ -f2 = 0 - o.f.c); clear h1 h2 h3 h4 h5 h6 h10; omega),
    (by have h10 : (a0 + a1 + a2 + b0 + b1 + b2 + (o.p.val : Int) + 3) % 2 = 0 := h10; show (a0 + (a1) + (a2 + (-1)) + (b0) + (b1) + (b2) + (o.p.val : Int) + 2) % 2 = 0; clear h1 h2 h3 h4 h5 h6 h7 h8 h9; omega)⟩
theorem lead_33 {o : S3} {x0 x1 x2 y0 y1 y2 f0 f1 f2 a0 a1 a2 b0 b1 b2 : Int} (h : LeadB o ⟨3, ⟨x0, x1, x2⟩, ⟨y0, y1, y2⟩, ⟨f0, f1, f2⟩⟩ ⟨a0, a1, a2⟩ ⟨b0, b1, b2⟩) : Lead o (tip ⟨3, ⟨x0, x1, x2⟩, ⟨y0, y1, y2⟩, ⟨f0, f1, f2⟩⟩ 3) := by
  obtain ⟨h1, h2, h3, h4, h5, h6, h7, h8, h9, h10⟩ := h
  simp only [i0t, i1t, Par] at h1 h2 h3 h4 h5 h6 h7 h8 h9
  refine ⟨⟨a0, a1, a2⟩, ⟨b0, b1, b2 + (-1)⟩, ?_⟩
  exact ⟨(by show x0 - o.x.a + i0 o.p 0 - 0 = 2 * (a0); clear h7 h8 h9 h10; omega),
    (by show x1 - o.x.b + i0 o.p 1 - 1 = 2 * (a1); clear h7 h8 h9 h10; omega),
    (by show x2 - o.x.c + i0 o.p 2 - 0 = 2 * (a2); clear h7 h8 h9 h10; omega),
    (by show y0 + (-1) - o.y.a + i1 o.p 0 - 0 = 2 * (b0); clear h7 h8 h9 h10; omega),
    (by show y1 - o.y.b + i1 o.p 1 - 0 = 2 * (b1); clear h7 h8 h9 h10; omega),
    (by show y2 + (-1) - o.y.c + i1 o.p 2 - 1 = 2 * (b2 + (-1)); clear h7 h8 h9 h10; omega),
    (by show ((a0 + (b0)) % 2 = 0 ∧ f0 = o.f.a) ∨ ((a0 + (b0)) % 2 = 1 ∧ f0 = 0 - o.f.a); clear h1 h2 h3 h4 h5 h6 h10; omega),
    (by show ((a1 + (b1)) % 2 = 0 ∧ f1 = o.f.b) ∨ ((a1 + (b1)) % 2 = 1 ∧ f1 = 0 - o.f.b); clear h1 h2 h3 h4 h5 h6 h10; omega),
    (by show ((a2 + (b2 + (-1))) % 2 = 0 ∧ -f2 = o.f.c) ∨ ((a2 + (b2 + (-1))) % 2 = 1 ∧ -f2 = 0 - o.f.c); clear h1 h2 h3 h4 h5 h6 h10; omega),
    (by have h10 : (a0 + a1 + a2 + b0 + b1 + b2 + (o.p.val : Int) + 3) % 2 = 0 := h10; show (a0 + (a1) + (a2) + (b0) + (b1) + (b2 + (-1)) + (o.p.val : Int) + 4) % 2 = 0; clear h1 h2 h3 h4 h5 h6 h7 h8 h9; omega)⟩
theorem lead_40 {o : S3} {x0 x1 x2 y0 y1 y2 f0 f1 f2 a0 a1 a2 b0 b1 b2 : Int} (h : LeadB o ⟨4, ⟨x0, x1, x2⟩, ⟨y0, y1, y2⟩, ⟨f0, f1, f2⟩⟩ ⟨a0, a1, a2⟩ ⟨b0, b1, b2⟩) : Lead o (tip ⟨4, ⟨x0, x1, x2⟩, ⟨y0, y1, y2⟩, ⟨f0, f1, f2⟩⟩ 0) := by
  obtain ⟨h1, h2, h3, h4, h5, h6, h7, h8, h9, h10⟩ := h
  simp only [i0t, i1t, Par] at h1 h2 h3 h4 h5 h6 h7 h8 h9
  refine ⟨⟨a0, a1 + 1, a2⟩, ⟨b0, b1, b2⟩, ?_⟩
  exact ⟨(by show x0 + 1 - o.x.a + i0 o.p 0 - 1 = 2 * (a0); clear h7 h8 h9 h10; omega),
    (by show x1 + 1 - o.x.b + i0 o.p 1 - 0 = 2 * (a1 + 1); clear h7 h8 h9 h10; omega),
    (by show x2 - o.x.c + i0 o.p 2 - 0 = 2 * (a2); clear h7 h8 h9 h10; omega),
    (by show y0 - o.y.a + i1 o.p 0 - 0 = 2 * (b0); clear h7 h8 h9 h10; omega),
    (by show y1 - o.y.b + i1 o.p 1 - 0 = 2 * (b1); clear h7 h8 h9 h10; omega),
    (by show y2 - o.y.c + i1 o.p 2 - 1 = 2 * (b2); clear h7 h8 h9 h10; omega),
    (by show ((a0 + (b0)) % 2 = 0 ∧ f0 = o.f.a) ∨ ((a0 + (b0)) % 2 = 1 ∧ f0 = 0 - o.f.a); clear h1 h2 h3 h4 h5 h6 h10; omega),
    (by show ((a1 + 1 + (b1)) % 2 = 0 ∧ -f1 = o.f.b) ∨ ((a1 + 1 + (b1)) % 2 = 1 ∧ -f1 = 0 - o.f.b); clear h1 h2 h3 h4 h5 h6 h10; omega),
    (by show ((a2 + (b2)) % 2 = 0 ∧ f2 = o.f.c) ∨ ((a2 + (b2)) % 2 = 1 ∧ f2 = 0 - o.f.c); clear h1 h2 h3 h4 h5 h6 h10; omega),
    (by have h10 : (a0 + a1 + a2 + b0 + b1 + b2 + (o.p.val : Int) + 4) % 2 = 0 := h10; show (a0 + (a1 + 1) + (a2) + (b0) + (b1) + (b2) + (o.p.val : Int) + 5) % 2 = 0; clear h1 h2 h3 h4 h5 h6 h7 h8 h9; omega)⟩
theorem lead_41 {o : S3} {x0 x1 x2 y0 y1 y2 f0 f1 f2 a0 a1 a2 b0 b1 b2 : Int} (h : LeadB o ⟨4, ⟨x0, x1, x2⟩, ⟨y0, y1, y2⟩, ⟨f0, f1, f2⟩⟩ ⟨a0, a1, a2⟩ ⟨b0, b1, b2⟩) : Lead o (tip ⟨4, ⟨x0, x1, x2⟩, ⟨y0, y1, y2⟩, ⟨f0, f1, f2⟩⟩ 1) := by
  obtain ⟨h1, h2, h3, h4, h5, h6, h7, h8, h9, h10⟩ := h
  simp only [i0t, i1t, Par] at h1 h2 h3 h4 h5 h6 h7 h8 h9
  refine ⟨⟨a0, a1, a2⟩, ⟨b0, b1, b2 + 1⟩, ?_⟩
  exact ⟨(by show x0 - o.x.a + i0 o.p 0 - 0 = 2 * (a0); clear h7 h8 h9 h10; omega),
    (by show x1 - o.x.b + i0 o.p 1 - 1 = 2 * (a1); clear h7 h8 h9 h10; omega),
    (by show x2 - o.x.c + i0 o.p 2 - 0 = 2 * (a2); clear h7 h8 h9 h10; omega),
    (by show y0 + 1 - o.y.a + i1 o.p 0 - 1 = 2 * (b0); clear h7 h8 h9 h10; omega),
    (by show y1 - o.y.b + i1 o.p 1 - 0 = 2 * (b1); clear h7 h8 h9 h10; omega),
    (by show y2 + 1 - o.y.c + i1 o.p 2 - 0 = 2 * (b2 + 1); clear h7 h8 h9 h10; omega),
    (by show ((a0 + (b0)) % 2 = 0 ∧ f0 = o.f.a) ∨ ((a0 + (b0)) % 2 = 1 ∧ f0 = 0 - o.f.a); clear h1 h2 h3 h4 h5 h6 h10; omega),
    (by show ((a1 + (b1)) % 2 = 0 ∧ f1 = o.f.b) ∨ ((a1 + (b1)) % 2 = 1 ∧ f1 = 0 - o.f.b); clear h1 h2 h3 h4 h5 h6 h10; omega),
    (by show ((a2 + (b2 + 1)) % 2 = 0 ∧ -f2 = o.f.c) ∨ ((a2 + (b2 + 1)) % 2 = 1 ∧ -f2 = 0 - o.f.c); clear h1 h2 h3 h4 h5 h6 h10; omega),
    (by have h10 : (a0 + a1 + a2 + b0 + b1 + b2 + (o.p.val : Int) + 4) % 2 = 0 := h10; show (a0 + (a1) + (a2) + (b0) + (b1) + (b2 + 1) + (o.p.val : Int) + 3) % 2 = 0; clear h1 h2 h3 h4 h5 h6 h7 h8 h9; omega)⟩
theorem lead_42 {o : S3} {x0 x1 x2 y0 y1 y2 f0 f1 f2 a0 a1 a2 b0 b1 b2 : Int} (h : LeadB o ⟨4, ⟨x0, x1, x2⟩, ⟨y0, y1, y2⟩, ⟨f0, f1, f2⟩⟩ ⟨a0, a1, a2⟩ ⟨b0, b1, b2⟩) : Lead o (tip ⟨4, ⟨x0, x1, x2⟩, ⟨y0, y1, y2⟩, ⟨f0, f1, f2⟩⟩ 2) := by
  obtain ⟨h1, h2, h3, h4, h5, h6, h7, h8, h9, h10⟩ := h
  simp only [i0t, i1t, Par] at h1 h2 h3 h4 h5 h6 h7 h8 h9
  refine ⟨⟨a0 + (-1), a1, a2⟩, ⟨b0, b1, b2⟩, ?_⟩
  exact ⟨(by show x0 + (-1) - o.x.a + i0 o.p 0 - 1 = 2 * (a0 + (-1)); clear h7 h8 h9 h10; omega),
    (by show x1 + (-1) - o.x.b + i0 o.p 1 - 0 = 2 * (a1); clear h7 h8 h9 h10; omega),
    (by show x2 - o.x.c + i0 o.p 2 - 0 = 2 * (a2); clear h7 h8 h9 h10; omega),
    (by show y0 - o.y.a + i1 o.p 0 - 0 = 2 * (b0); clear h7 h8 h9 h10; omega),
    (by show y1 - o.y.b + i1 o.p 1 - 0 = 2 * (b1); clear h7 h8 h9 h10; omega),
    (by show y2 - o.y.c + i1 o.p 2 - 1 = 2 * (b2); clear h7 h8 h9 h10; omega),
    (by show ((a0 + (-1) + (b0)) % 2 = 0 ∧ -f0 = o.f.a) ∨ ((a0 + (-1) + (b0)) % 2 = 1 ∧ -f0 = 0 - o.f.a); clear h1 h2 h3 h4 h5 h6 h10; omega),
    (by show ((a1 + (b1)) % 2 = 0 ∧ f1 = o.f.b) ∨ ((a1 + (b1)) % 2 = 1 ∧ f1 = 0 - o.f.b); clear h1 h2 h3 h4 h5 h6 h10; omega),
    (by show ((a2 + (b2)) % 2 = 0 ∧ f2 = o.f.c) ∨ ((a2 + (b2)) % 2 = 1 ∧ f2 = 0 - o.f.c); clear h1 h2 h3 h4 h5 h6 h10; omega),
    (by have h10 : (a0 + a1 + a2 + b0 + b1 + b2 + (o.p.val : Int) + 4) % 2 = 0 := h10; show (a0 + (-1) + (a1) + (a2) + (b0) + (b1) + (b2) + (o.p.val : Int) + 5) % 2 = 0; clear h1 h2 h3 h4 h5 h6 h7 h8 h9; omega)⟩
theorem lead_43 {o : S3} {x0 x1 x2 y0 y1 y2 f0 f1 f2 a0 a1 a2 b0 b1 b2 : Int} (h : LeadB o ⟨4, ⟨x0, x1, x2⟩, ⟨y0, y1, y2⟩, ⟨f0, f1, f2⟩⟩ ⟨a0, a1, a2⟩ ⟨b0, b1, b2⟩) : Lead o (tip ⟨4, ⟨x0, x1, x2⟩, ⟨y0, y1, y2⟩, ⟨f0, f1, f2⟩⟩ 3) := by
  obtain ⟨h1, h2, h3, h4, h5, h6, h7, h8, h9, h10⟩ := h
  simp only [i0t, i1t, Par] at h1 h2 h3 h4 h5 h6 h7 h8 h9
  refine ⟨⟨a0, a1, a2⟩, ⟨b0 + (-1), b1, b2⟩, ?_⟩
  exact ⟨(by show x0 - o.x.a + i0 o.p 0 - 0 = 2 * (a0); clear h7 h8 h9 h10; omega),
    (by show x1 - o.x.b + i0 o.p 1 - 1 = 2 * (a1); clear h7 h8 h9 h10; omega),
    (by show x2 - o.x.c + i0 o.p 2 - 0 = 2 * (a2); clear h7 h8 h9 h10; omega),
    (by show y0 + (-1) - o.y.a + i1 o.p 0 - 1 = 2 * (b0 + (-1)); clear h7 h8 h9 h10; omega),
    (by show y1 - o.y.b + i1 o.p 1 - 0 = 2 * (b1); clear h7 h8 h9 h10; omega),
    (by show y2 + (-1) - o.y.c + i1 o.p 2 - 0 = 2 * (b2); clear h7 h8 h9 h10; omega),
    (by show ((a0 + (b0 + (-1))) % 2 = 0 ∧ -f0 = o.f.a) ∨ ((a0 + (b0 + (-1))) % 2 = 1 ∧ -f0 = 0 - o.f.a); clear h1 h2 h3 h4 h5 h6 h10; omega),
    (by show ((a1 + (b1)) % 2 = 0 ∧ f1 = o.f.b) ∨ ((a1 + (b1)) % 2 = 1 ∧ f1 = 0 - o.f.b); clear h1 h2 h3 h4 h5 h6 h10; omega),
    (by show ((a2 + (b2)) % 2 = 0 ∧ f2 = o.f.c) ∨ ((a2 + (b2)) % 2 = 1 ∧ f2 = 0 - o.f.c); clear h1 h2 h3 h4 h5 h6 h10; omega),
    (by have h10 : (a0 + a1 + a2 + b0 + b1 + b2 + (o.p.val : Int) + 4) % 2 = 0 := h10; show (a0 + (a1) + (a2) + (b0 + (-1)) + (b1) + (b2) + (o.p.val : Int) + 3) % 2 = 0; clear h1 h2 h3 h4 h5 h6 h7 h8 h9; omega)⟩
theorem lead_50 {o : S3} {x0 x1 x2 y0 y1 y2 f0 f1 f2 a0 a1 a2 b0 b1 b2 : Int} (h : LeadB o ⟨5, ⟨x0, x1, x2⟩, ⟨y0, y1, y2⟩, ⟨f0, f1, f2⟩⟩ ⟨a0, a1, a2⟩ ⟨b0, b1, b2⟩) : Lead o (tip ⟨5, ⟨x0, x1, x2⟩, ⟨y0, y1, y2⟩, ⟨f0, f1, f2⟩⟩ 0) := by
  obtain ⟨h1, h2, h3, h4, h5, h6, h7, h8, h9, h10⟩ := h
  simp only [i0t, i1t, Par] at h1 h2 h3 h4 h5 h6 h7 h8 h9
  refine ⟨⟨a0 + 1, a1, a2⟩, ⟨b0, b1, b2⟩, ?_⟩
  exact ⟨(by show x0 + 1 - o.x.a + i0 o.p 0 - 0 = 2 * (a0 + 1); clear h7 h8 h9 h10; omega),
    (by show x1 + 1 - o.x.b + i0 o.p 1 - 1 = 2 * (a1); clear h7 h8 h9 h10; omega),
    (by show x2 - o.x.c + i0 o.p 2 - 0 = 2 * (a2); clear h7 h8 h9 h10; omega),
    (by show y0 - o.y.a + i1 o.p 0 - 0 = 2 * (b0); clear h7 h8 h9 h10; omega),
    (by show y1 - o.y.b + i1 o.p 1 - 0 = 2 * (b1); clear h7 h8 h9 h10; omega),
    (by show y2 - o.y.c + i1 o.p 2 - 1 = 2 * (b2); clear h7 h8 h9 h10; omega),
    (by show ((a0 + 1 + (b0)) % 2 = 0 ∧ -f0 = o.f.a) ∨ ((a0 + 1 + (b0)) % 2 = 1 ∧ -f0 = 0 - o.f.a); clear h1 h2 h3 h4 h5 h6 h10; omega),
    (by show ((a1 + (b1)) % 2 = 0 ∧ f1 = o.f.b) ∨ ((a1 + (b1)) % 2 = 1 ∧ f1 = 0 - o.f.b); clear h1 h2 h3 h4 h5 h6 h10; omega),
    (by show ((a2 + (b2)) % 2 = 0 ∧ f2 = o.f.c) ∨ ((a2 + (b2)) % 2 = 1 ∧ f2 = 0 - o.f.c); clear h1 h2 h3 h4 h5 h6 h10; omega),
    (by have h10 : (a0 + a1 + a2 + b0 + b1 + b2 + (o.p.val : Int) + 5) % 2 = 0 := h10; show (a0 + 1 + (a1) + (a2) + (b0) + (b1) + (b2) + (o.p.val : Int) + 4) % 2 = 0; clear h1 h2 h3 h4 h5 h6 h7 h8 h9; omega)⟩
theorem lead_51 {o : S3} {x0 x1 x2 y0 y1 y2 f0 f1 f2 a0 a1 a2 b0 b1 b2 : Int} (h : LeadB o ⟨5, ⟨x0, x1, x2⟩, ⟨y0, y1, y2⟩, ⟨f0, f1, f2⟩⟩ ⟨a0, a1, a2⟩ ⟨b0, b1, b2⟩) : Lead o (tip ⟨5, ⟨x0, x1, x2⟩, ⟨y0, y1, y2⟩, ⟨f0, f1, f2⟩⟩ 1) := by
  obtain ⟨h1, h2, h3, h4, h5, h6, h7, h8, h9, h10⟩ := h
  simp only [i0t, i1t, Par] at h1 h2 h3 h4 h5 h6 h7 h8 h9
  refine ⟨⟨a0, a1, a2⟩, ⟨b0, b1, b2 + 1⟩, ?_⟩
  exact ⟨(by show x0 - o.x.a + i0 o.p 0 - 1 = 2 * (a0); clear h7 h8 h9 h10; omega),
    (by show x1 - o.x.b + i0 o.p 1 - 0 = 2 * (a1); clear h7 h8 h9 h10; omega),
    (by show x2 - o.x.c + i0 o.p 2 - 0 = 2 * (a2); clear h7 h8 h9 h10; omega),
    (by show y0 - o.y.a + i1 o.p 0 - 0 = 2 * (b0); clear h7 h8 h9 h10; omega),
    (by show y1 + 1 - o.y.b + i1 o.p 1 - 1 = 2 * (b1); clear h7 h8 h9 h10; omega),
    (by show y2 + 1 - o.y.c + i1 o.p 2 - 0 = 2 * (b2 + 1); clear h7 h8 h9 h10; omega),
    (by show ((a0 + (b0)) % 2 = 0 ∧ f0 = o.f.a) ∨ ((a0 + (b0)) % 2 = 1 ∧ f0 = 0 - o.f.a); clear h1 h2 h3 h4 h5 h6 h10; omega),
    (by show ((a1 + (b1)) % 2 = 0 ∧ f1 = o.f.b) ∨ ((a1 + (b1)) % 2 = 1 ∧ f1 = 0 - o.f.b); clear h1 h2 h3 h4 h5 h6 h10; omega),
    (by show ((a2 + (b2 + 1)) % 2 = 0 ∧ -f2 = o.f.c) ∨ ((a2 + (b2 + 1)) % 2 = 1 ∧ -f2 = 0 - o.f.c); clear h1 h2 h3 h4 h5 h6 h10; omega),
    (by have h10 : (a0 + a1 + a2 + b0 + b1 + b2 + (o.p.val : Int) + 5) % 2 = 0 := h10; show (a0 + (a1) + (a2) + (b0) + (b1) + (b2 + 1) + (o.p.val : Int) + 0) % 2 = 0; clear h1 h2 h3 h4 h5 h6 h7 h8 h9; omega)⟩
theorem lead_52 {o : S3} {x0 x1 x2 y0 y1 y2 f0 f1 f2 a0 a1 a2 b0 b1 b2 : Int} (h : LeadB o ⟨5, ⟨x0, x1, x2⟩, ⟨y0, y1, y2⟩, ⟨f0, f1, f2⟩⟩ ⟨a0, a1, a2⟩ ⟨b0, b1, b2⟩) : Lead o (tip ⟨5, ⟨x0, x1, x2⟩, ⟨y0, y1, y2⟩, ⟨f0, f1, f2⟩⟩ 2) := by
  obtain ⟨h1, h2, h3, h4, h5, h6, h7, h8, h9, h10⟩ := h
  simp only [i0t, i1t, Par] at h1 h2 h3 h4 h5 h6 h7 h8 h9
  refine ⟨⟨a0, a1 + (-1), a2⟩, ⟨b0, b1, b2⟩, ?_⟩
  exact ⟨(by show x0 + (-1) - o.x.a + i0 o.p 0 - 0 = 2 * (a0); clear h7 h8 h9 h10; omega),
    (by show x1 + (-1) - o.x.b + i0 o.p 1 - 1 = 2 * (a1 + (-1)); clear h7 h8 h9 h10; omega),
    (by show x2 - o.x.c + i0 o.p 2 - 0 = 2 * (a2); clear h7 h8 h9 h10; omega),
    (by show y0 - o.y.a + i1 o.p 0 - 0 = 2 * (b0); clear h7 h8 h9 h10; omega),
    (by show y1 - o.y.b + i1 o.p 1 - 0 = 2 * (b1); clear h7 h8 h9 h10; omega),
    (by show y2 - o.y.c + i1 o.p 2 - 1 = 2 * (b2); clear h7 h8 h9 h10; omega),
    (by show ((a0 + (b0)) % 2 = 0 ∧ f0 = o.f.a) ∨ ((a0 + (b0)) % 2 = 1 ∧ f0 = 0 - o.f.a); clear h1 h2 h3 h4 h5 h6 h10; omega),
    (by show ((a1 + (-1) + (b1)) % 2 = 0 ∧ -f1 = o.f.b) ∨ ((a1 + (-1) + (b1)) % 2 = 1 ∧ -f1 = 0 - o.f.b); clear h1 h2 h3 h4 h5 h6 h10; omega),
    (by show ((a2 + (b2)) % 2 = 0 ∧ f2 = o.f.c) ∨ ((a2 + (b2)) % 2 = 1 ∧ f2 = 0 - o.f.c); clear h1 h2 h3 h4 h5 h6 h10; omega),
    (by have h10 : (a0 + a1 + a2 + b0 + b1 + b2 + (o.p.val : Int) + 5) % 2 = 0 := h10; show (a0 + (a1 + (-1)) + (a2) + (b0) + (b1) + (b2) + (o.p.val : Int) + 4) % 2 = 0; clear h1 h2 h3 h4 h5 h6 h7 h8 h9; omega)⟩
theorem lead_53 {o : S3} {x0 x1 x2 y0 y1 y2 f0 f1 f2 a0 a1 a2 b0 b1 b2 : Int} (h : LeadB o ⟨5, ⟨x0, x1, x2⟩, ⟨y0, y1, y2⟩, ⟨f0, f1, f2⟩⟩ ⟨a0, a1, a2⟩ ⟨b0, b1, b2⟩) : Lead o (tip ⟨5, ⟨x0, x1, x2⟩, ⟨y0, y1, y2⟩, ⟨f0, f1, f2⟩⟩ 3) := by
  obtain ⟨h1, h2, h3, h4, h5, h6, h7, h8, h9, h10⟩ := h
  simp only [i0t, i1t, Par] at h1 h2 h3 h4 h5 h6 h7 h8 h9
  refine ⟨⟨a0, a1, a2⟩, ⟨b0, b1 + (-1), b2⟩, ?_⟩
  exact ⟨(by show x0 - o.x.a + i0 o.p 0 - 1 = 2 * (a0); clear h7 h8 h9 h10; omega),
    (by show x1 - o.x.b + i0 o.p 1 - 0 = 2 * (a1); clear h7 h8 h9 h10; omega),
    (by show x2 - o.x.c + i0 o.p 2 - 0 = 2 * (a2); clear h7 h8 h9 h10; omega),
    (by show y0 - o.y.a + i1 o.p 0 - 0 = 2 * (b0); clear h7 h8 h9 h10; omega),
    (by show y1 + (-1) - o.y.b + i1 o.p 1 - 1 = 2 * (b1 + (-1)); clear h7 h8 h9 h10; omega),
    (by show y2 + (-1) - o.y.c + i1 o.p 2 - 0 = 2 * (b2); clear h7 h8 h9 h10; omega),
    (by show ((a0 + (b0)) % 2 = 0 ∧ f0 = o.f.a) ∨ ((a0 + (b0)) % 2 = 1 ∧ f0 = 0 - o.f.a); clear h1 h2 h3 h4 h5 h6 h10; omega),
    (by show ((a1 + (b1 + (-1))) % 2 = 0 ∧ -f1 = o.f.b) ∨ ((a1 + (b1 + (-1))) % 2 = 1 ∧ -f1 = 0 - o.f.b); clear h1 h2 h3 h4 h5 h6 h10; omega),
    (by show ((a2 + (b2)) % 2 = 0 ∧ f2 = o.f.c) ∨ ((a2 + (b2)) % 2 = 1 ∧ f2 = 0 - o.f.c); clear h1 h2 h3 h4 h5 h6 h10; omega),
    (by have h10 : (a0 + a1 + a2 + b0 + b1 + b2 + (o.p.val : Int) + 5) % 2 = 0 := h10; show (a0 + (a1) + (a2) + (b0) + (b1 + (-1)) + (b2) + (o.p.val : Int) + 0) % 2 = 0; clear h1 h2 h3 h4 h5 h6 h7 h8 h9; omega)⟩
theorem Lead.tip {o t : S3} (h : Lead o t) (w : Fin 4) : Lead o (DL.tip t w) := by
  obtain ⟨⟨a0, a1, a2⟩, ⟨b0, b1, b2⟩, h⟩ := h
  obtain ⟨p, ⟨x0, x1, x2⟩, ⟨y0, y1, y2⟩, ⟨f0, f1, f2⟩⟩ := t
  revert h
  revert p
  refine all6 ?_ ?_ ?_ ?_ ?_ ?_ <;> revert w <;> refine all4 ?_ ?_ ?_ ?_
  · exact lead_00
  · exact lead_01
  · exact lead_02
  · exact lead_03
  · exact lead_10
  · exact lead_11
  · exact lead_12
  · exact lead_13
  · exact lead_20
  · exact lead_21
  · exact lead_22
  · exact lead_23
  · exact lead_30
  · exact lead_31
  · exact lead_32
  · exact lead_33
  · exact lead_40
  · exact lead_41
  · exact lead_42
  · exact lead_43
  · exact lead_50
  · exact lead_51
  · exact lead_52
  · exact lead_53
theorem Lead.tips {o : S3} : ∀ (ws : List (Fin 4)) {t : S3}, Lead o t → Lead o (tips t ws)
  | [], _, h => h
  | w :: ws, _, h => Lead.tips ws (h.tip w)
end DL

/-! P5: nothing bars the way between stands that Lead joins. -/
namespace DL
open PySem PySem.Spec PyProof.Rows L2

theorem i0_sum (p : Fin 6) : i0 p 0 + i0 p 1 + i0 p 2 = 1 := by revert p; decide
theorem i1_sum (p : Fin 6) : i1 p 0 + i1 p 1 + i1 p 2 = 1 := by revert p; decide
theorem LeadB.sx {o t : S3} {A B : T3} (h : LeadB o t A B) : (dT o.x t.x).s = 2 * (A.a + A.b + A.c) := by
  have h1 := h.xa
  have h2 := h.xb
  have h3 := h.xc
  have h4 := i0_sum o.p
  have h5 := i0_sum t.p
  show t.x.a - o.x.a + (t.x.b - o.x.b + (t.x.c - o.x.c + 0)) = _
  omega
theorem LeadB.sy {o t : S3} {A B : T3} (h : LeadB o t A B) : (dT o.y t.y).s = 2 * (B.a + B.b + B.c) := by
  have h1 := h.ya
  have h2 := h.yb
  have h3 := h.yc
  have h4 := i1_sum o.p
  have h5 := i1_sum t.p
  show t.y.a - o.y.a + (t.y.b - o.y.b + (t.y.c - o.y.c + 0)) = _
  omega
theorem Lead.ex {o t : S3} (h : Lead o t) : (dT o.x t.x).s % 2 = 0 ∧ (dT o.y t.y).s % 2 = 0 := by
  obtain ⟨A, B, h⟩ := h
  rw [h.sx, h.sy]
  omega
theorem Lead.tally {o t : S3} (h : Lead o t) : F_l_tally [o.d, t.d] = some (tal o t).d := F_tally_eq o t h.ex.1 h.ex.2
theorem Lead.counts {o t : S3} (h : Lead o t) : F_counts_in [o.d, t.d] = some (tal o t).d := F_counts_eq o t h.ex.1 h.ex.2
/-- the odd counts, told by the places and one bit -/
def pat (p q : Fin 6) (τ : Int) : Fin 6 → Bool := fun k => match k with
  | 0 => (τ + i0 p 1 + i0 q 1) % 2 == 1
  | 1 => (τ + (p.val : Int) + (q.val : Int) + i1 p 2 + i1 q 2) % 2 == 1
  | 2 => (τ + i0 p 0 + i0 q 0) % 2 == 1
  | 3 => (τ + (p.val : Int) + (q.val : Int) + i1 p 1 + i1 q 1) % 2 == 1
  | 4 => (τ + i0 p 2 + i0 q 2) % 2 == 1
  | 5 => (τ + (p.val : Int) + (q.val : Int) + i1 p 0 + i1 q 0) % 2 == 1
theorem beq_iff {a b : Int} (h : a = 1 ↔ b = 1) : (a == 1) = (b == 1) := by
  rw [Bool.eq_iff_iff, beq_iff_eq, beq_iff_eq]
  exact h
theorem LeadB.pat {o t : S3} {A B : T3} (h : LeadB o t A B) : ∃ τ : Int, (τ = 0 ∨ τ = 1) ∧ (fun k => (tal o t).f k % 2 == 1) = DL.pat o.p t.p τ := by
  have sx := h.sx
  have sy := h.sy
  obtain ⟨h1, h2, h3, h4, h5, h6, _, _, _, h10⟩ := h
  refine ⟨(A.a + A.b + A.c) % 2, by omega, funext fun k => ?_⟩
  revert k
  refine all6 ?_ ?_ ?_ ?_ ?_ ?_
  · refine beq_iff ?_
    show ((dT o.x t.x).s / 2 - (t.x.b - o.x.b)) % 2 = 1 ↔ _
    rw [sx]
    omega
  · refine beq_iff ?_
    show ((dT o.y t.y).s / 2 - (t.y.c - o.y.c)) % 2 = 1 ↔ _
    rw [sy]
    omega
  · refine beq_iff ?_
    show ((dT o.x t.x).s / 2 - (t.x.a - o.x.a)) % 2 = 1 ↔ _
    rw [sx]
    omega
  · refine beq_iff ?_
    show ((dT o.y t.y).s / 2 - (t.y.b - o.y.b)) % 2 = 1 ↔ _
    rw [sy]
    omega
  · refine beq_iff ?_
    show ((dT o.x t.x).s / 2 - (t.x.c - o.x.c)) % 2 = 1 ↔ _
    rw [sx]
    omega
  · refine beq_iff ?_
    show ((dT o.y t.y).s / 2 - (t.y.a - o.y.a)) % 2 = 1 ↔ _
    rw [sy]
    omega
def allk : List (Fin 6) := [0, 1, 2, 3, 4, 5]
def kD (k : Fin 6) : D := .int (k.val : Int)
def kDs (b : Fin 6 → Bool) : List D := (allk.filter b).map kD
theorem F_odd_eq (C : P6) : F_odd_of [C.d] = some (.tuple (kDs fun k => C.f k % 2 == 1)) := by
  have e : lcD (Tgt.one 1).bindR (tB_ (d2 eqD (d2 modD (d2 getD_ (dVar 0) (dVar 1)) (dC (.int 2))) (dC (.int 1)))) (dVar 1) [some C.d, none] (allk.map kD) = some ((allk.filter fun k => C.f k % 2 == 1).map kD) := lc_if (fun k hk => by
    clear hk
    revert k
    refine all6 ?_ ?_ ?_ ?_ ?_ ?_ <;> kernel_rfl) (fun k hk hb => by
    clear hk hb
    rfl)
  show outD ((((lcD (Tgt.one 1).bindR (tB_ (d2 eqD (d2 modD (d2 getD_ (dVar 0) (dVar 1)) (dC (.int 2))) (dC (.int 1)))) (dVar 1) [some C.d, none] (allk.map kD)).map PyData.list).bind fun d => some [d]).bind tupleD |>.map Out.rt) = _
  rw [e]
  rfl
theorem F_line1 (o t : S3) : F_is_odd_line [o.d, t.d, .int 1] = some (.bool ((t.x.s - o.x.s) % 2 == 1)) := by kernel_rfl
theorem F_line2 (o t : S3) : F_is_odd_line [o.d, t.d, .int 2] = some (.bool ((t.y.s - o.y.s) % 2 == 1)) := by kernel_rfl
theorem dT_s (a b : T3) : b.s - a.s = (dT a b).s := by
  show b.a + (b.b + (b.c + 0)) - (a.a + (a.b + (a.c + 0))) = b.a - a.a + (b.b - a.b + (b.c - a.c + 0))
  omega
/-! fronts -/
theorem F_halves_eq (n : Int) (a b : Bool) : F_halves_in [.int n, .bool a, .bool b] = some (.int ((n + (if a then 1 else 0) - (if b then 1 else 0)) / 2)) := by kernel_rfl
theorem F_shift0 (C : P6) : F_shift_in [C.d, .int 0] = some (.tuple [.int (C.f 0 + (C.f 4 + 0)), .int (C.f 2 + (C.f 4 + 0)), .int (C.f 0 + (C.f 2 + 0))]) := by kernel_rfl
theorem F_shift1 (C : P6) : F_shift_in [C.d, .int 1] = some (.tuple [.int (C.f 1 + (C.f 3 + 0)), .int (C.f 1 + (C.f 5 + 0)), .int (C.f 3 + (C.f 5 + 0))]) := by kernel_rfl
theorem dIf_eq {p : Rp → Option Bool} {f g : Rp → Option D} {ρ : Rp} {c : Bool} (h : p ρ = some c) : dIf p f g ρ = if c = true then f ρ else g ρ := by
  unfold dIf
  rw [h]
  rfl
end DL

/-! P5b: fronts, bars, the way. -/
namespace DL
open PySem PySem.Spec PyProof.Rows L2

def frT : Rp → Option Bool := (tB_ (d2 eqD (d2 modD (dVar 7) (dC (.int 2))) (dC (.int 0))))
def frF : Rp → Option D := (d2 getD_ (d2 getD_ (dVar 0) (dC (.int 3))) (dVar 6))
def frG : Rp → Option D := (d2 subD (dC (.int 0)) (d2 getD_ (d2 getD_ (dVar 0) (dC (.int 3))) (dVar 6)))
def frB : Rs → Option Out := (sSeq (sSet 7 (dCall F_halves_in (dCons (d2 getD_ (dVar 3) (dVar 6)) (dCons (d2 eqD (d2 getD_ (d2 getD_ (dVar 0) (dC (.int 0))) (dC (.int 0))) (dVar 6)) (dCons (d2 eqD (d2 getD_ (dVar 1) (dC (.int 0))) (dVar 6)) dNil)))))
    (sSeq (sSet 7 (d2 addD (dVar 7) (dCall F_halves_in (dCons (d2 getD_ (dVar 4) (dVar 6)) (dCons (d2 eqD (d2 getD_ (d2 getD_ (dVar 0) (dC (.int 0))) (dC (.int 1))) (dVar 6)) (dCons (d2 eqD (d2 getD_ (dVar 1) (dC (.int 1))) (dVar 6)) dNil))))))
    (sApp 5 (dIf frT frF frG))))
theorem app_if {i : Nat} {p : Rp → Option Bool} {f g : Rp → Option D} {ρ : Rs} {c : Bool} (h : p (hid ρ) = some c) : sApp i (dIf p f g) ρ = sApp i (if c = true then f else g) ρ := by
  have e : dIf p f g (hid ρ) = (if c = true then f else g) (hid ρ) := by
    rw [dIf_eq h]
    cases c <;> rfl
  unfold sApp
  rw [e]
theorem front_end {n f g : Int} {ρ ρ' : Rs} (h : Par n f g) (hT : frT (hid ρ) = some (n % 2 == 0)) (h1 : f = g → sApp 5 frF ρ = some (.nx ρ')) (h2 : 0 - f = g → sApp 5 frG ρ = some (.nx ρ')) : sApp 5 (dIf frT frF frG) ρ = some (.nx ρ') := by
  rw [app_if hT]
  rcases h with ⟨a, b⟩ | ⟨a, b⟩
  · rw [a]
    exact h1 b.symm
  · rw [a]
    exact h2 b.symm
section
variable {o t : S3} {A B : T3}
def levD (C : P6) : D := .tuple [.int (C.f 0 + (C.f 4 + 0)), .int (C.f 2 + (C.f 4 + 0)), .int (C.f 0 + (C.f 2 + 0))]
def uprD (C : P6) : D := .tuple [.int (C.f 1 + (C.f 3 + 0)), .int (C.f 1 + (C.f 5 + 0)), .int (C.f 3 + (C.f 5 + 0))]
def tn0 (o t : S3) (C : P6) : Int := (C.f 0 + (C.f 4 + 0) + i0 o.p 0 - i0 t.p 0) / 2 + (C.f 1 + (C.f 3 + 0) + i1 o.p 0 - i1 t.p 0) / 2
def tn1 (o t : S3) (C : P6) : Int := (C.f 2 + (C.f 4 + 0) + i0 o.p 1 - i0 t.p 1) / 2 + (C.f 1 + (C.f 5 + 0) + i1 o.p 1 - i1 t.p 1) / 2
def tn2 (o t : S3) (C : P6) : Int := (C.f 0 + (C.f 2 + 0) + i0 o.p 2 - i0 t.p 2) / 2 + (C.f 3 + (C.f 5 + 0) + i1 o.p 2 - i1 t.p 2) / 2
theorem LeadB.tn (h : LeadB o t A B) : tn0 o t (tal o t) = A.a + B.a ∧ tn1 o t (tal o t) = A.b + B.b ∧ tn2 o t (tal o t) = A.c + B.c := by
  have sx := h.sx
  have sy := h.sy
  obtain ⟨h1, h2, h3, h4, h5, h6, _, _, _, _⟩ := h
  have sx' : t.x.a - o.x.a + (t.x.b - o.x.b + (t.x.c - o.x.c + 0)) = 2 * (A.a + A.b + A.c) := sx
  have sy' : t.y.a - o.y.a + (t.y.b - o.y.b + (t.y.c - o.y.c + 0)) = 2 * (B.a + B.b + B.c) := sy
  refine ⟨?_, ?_, ?_⟩
  · show ((dT o.x t.x).s / 2 - (t.x.b - o.x.b) + ((dT o.x t.x).s / 2 - (t.x.c - o.x.c) + 0) + i0 o.p 0 - i0 t.p 0) / 2 + ((dT o.y t.y).s / 2 - (t.y.c - o.y.c) + ((dT o.y t.y).s / 2 - (t.y.b - o.y.b) + 0) + i1 o.p 0 - i1 t.p 0) / 2 = _
    rw [sx, sy]
    omega
  · show ((dT o.x t.x).s / 2 - (t.x.a - o.x.a) + ((dT o.x t.x).s / 2 - (t.x.c - o.x.c) + 0) + i0 o.p 1 - i0 t.p 1) / 2 + ((dT o.y t.y).s / 2 - (t.y.c - o.y.c) + ((dT o.y t.y).s / 2 - (t.y.a - o.y.a) + 0) + i1 o.p 1 - i1 t.p 1) / 2 = _
    rw [sx, sy]
    omega
  · show ((dT o.x t.x).s / 2 - (t.x.b - o.x.b) + ((dT o.x t.x).s / 2 - (t.x.a - o.x.a) + 0) + i0 o.p 2 - i0 t.p 2) / 2 + ((dT o.y t.y).s / 2 - (t.y.b - o.y.b) + ((dT o.y t.y).s / 2 - (t.y.a - o.y.a) + 0) + i1 o.p 2 - i1 t.p 2) / 2 = _
    rw [sx, sy]
    omega
theorem LeadB.fronts (h : LeadB o t A B) : F_fronts_in [o.d, (shp t.p).d, (tal o t).d] = some t.f.d := by
  obtain ⟨n0, n1, n2⟩ := h.tn
  have f0 := h.fa
  have f1 := h.fb
  have f2 := h.fc
  rw [← n0] at f0
  rw [← n1] at f1
  rw [← n2] at f2
  generalize tal o t = C at *
  let ρ (acc : List D) (a b : Sl) : Rs := [.pu o.d, .pu (shp t.p).d, .pu C.d, .pu (levD C), .pu (uprD C), .ow acc, a, b]
  have s0 : frB (ρ [] (.pu (.int 0)) .no) = some (.nx (ρ [.int t.f.a] (.pu (.int 0)) (.pu (.int (tn0 o t C))))) := by
    have e : frB (ρ [] (.pu (.int 0)) .no) = sApp 5 (dIf frT frF frG) (ρ [] (.pu (.int 0)) (.pu (.int (tn0 o t C)))) := by kernel_rfl
    rw [e]
    exact front_end f0 (by kernel_rfl) (fun z => by rw [← z]; kernel_rfl) (fun z => by rw [← z]; kernel_rfl)
  have s1 : frB (ρ [.int t.f.a] (.pu (.int 1)) (.pu (.int (tn0 o t C)))) = some (.nx (ρ [.int t.f.a, .int t.f.b] (.pu (.int 1)) (.pu (.int (tn1 o t C))))) := by
    have e : frB (ρ [.int t.f.a] (.pu (.int 1)) (.pu (.int (tn0 o t C)))) = sApp 5 (dIf frT frF frG) (ρ [.int t.f.a] (.pu (.int 1)) (.pu (.int (tn1 o t C)))) := by kernel_rfl
    rw [e]
    exact front_end f1 (by kernel_rfl) (fun z => by rw [← z]; kernel_rfl) (fun z => by rw [← z]; kernel_rfl)
  have s2 : frB (ρ [.int t.f.a, .int t.f.b] (.pu (.int 2)) (.pu (.int (tn1 o t C)))) = some (.nx (ρ [.int t.f.a, .int t.f.b, .int t.f.c] (.pu (.int 2)) (.pu (.int (tn2 o t C))))) := by
    have e : frB (ρ [.int t.f.a, .int t.f.b] (.pu (.int 2)) (.pu (.int (tn1 o t C)))) = sApp 5 (dIf frT frF frG) (ρ [.int t.f.a, .int t.f.b] (.pu (.int 2)) (.pu (.int (tn2 o t C)))) := by kernel_rfl
    rw [e]
    exact front_end f2 (by kernel_rfl) (fun z => by rw [← z]; kernel_rfl) (fun z => by rw [← z]; kernel_rfl)
  have e0 : F_fronts_in [o.d, (shp t.p).d, C.d] = outD (sThen (sLoop (frB (ρ [] (.pu (.int 0)) .no)) (forD (.one 6) frB [.int 1, .int 2])) (sRet (dCall tupleD (dCons (dVar 5) dNil)))) := by kernel_rfl
  rw [e0, s0]
  show outD (sThen (sLoop (frB (ρ [.int t.f.a] (.pu (.int 1)) (.pu (.int (tn0 o t C))))) (forD (.one 6) frB [.int 2])) (sRet (dCall tupleD (dCons (dVar 5) dNil)))) = _
  rw [s1]
  show outD (sThen (sLoop (frB (ρ [.int t.f.a, .int t.f.b] (.pu (.int 2)) (.pu (.int (tn1 o t C))))) (forD (.one 6) frB [])) (sRet (dCall tupleD (dCons (dVar 5) dNil)))) = _
  rw [s2]
  kernel_rfl
end
end DL

/-! P5c: bars. -/
namespace DL
open PySem PySem.Spec PyProof.Rows L2

def barL1 : Rp → Option D := dLc (iRange (dC (.int 2))) (.one 6) (tB_ (dCall F_is_odd_line (dCons (dVar 0) (dCons (dVar 1) (dCons (d2 addD (dVar 6) (dC (.int 1))) dNil))))) (dTup (dCons (dC (.str (Str.ofString "sum"))) (dCons (dVar 6) dNil))) [6]
def barL7 : Rp → Option D := dLc (iRange (dC (.int 3))) (.one 7) (tB_ (d2 neD (d2 getD_ (dVar 5) (dVar 7)) (d2 getD_ (d2 getD_ (dVar 1) (dC (.int 3))) (dVar 7)))) (dTup (dCons (dC (.str (Str.ofString "front"))) (dCons (dVar 7) dNil))) [7]
def barT5 : Rp → Option Bool := (tB_ (d2 niD (dVar 4) (dLc (iSeq (dCall F_arcs_in (dCons (d2 getD_ (dVar 0) (dC (.int 0))) (dCons (d2 getD_ (dVar 1) (dC (.int 0))) dNil)))) (.one 8) tTrue (dCall F_set_of (dCons (dVar 8) dNil)) [8])))
def barT1 : Rp → Option Bool := (tB_ (dCall F_is_odd_line (dCons (dVar 0) (dCons (dVar 1) (dCons (d2 addD (dVar 6) (dC (.int 1))) dNil)))))
def barE1 : Rp → Option D := (dTup (dCons (dC (.str (Str.ofString "sum"))) (dCons (dVar 6) dNil)))
theorem barT1_0 (o t : D) : barT1 [some o, some t, none, none, none, none, some (.int 0), none, none] = (F_is_odd_line [o, t, .int 1]).bind asB := by kernel_rfl
theorem barT1_1 (o t : D) : barT1 [some o, some t, none, none, none, none, some (.int 1), none, none] = (F_is_odd_line [o, t, .int 2]).bind asB := by kernel_rfl
theorem bars_e1 {o t : D} (l1 : F_is_odd_line [o, t, .int 1] = some (.bool false)) (l2 : F_is_odd_line [o, t, .int 2] = some (.bool false)) : lcD (Tgt.one 6).bindR barT1 barE1 [some o, some t, none, none, none, none, none, none, none] [.int 0, .int 1] = some [] := by
  refine lc_if (xs := [(0 : Int), 1]) (f := PyData.int) (g := PyData.int) (b := fun _ => false) (fun l hl => ?_) (fun l hl hb => by cases hb)
  rcases List.mem_cons.mp hl with rfl | hl
  · refine (barT1_0 o t).trans ?_
    rw [l1]
    rfl
  · rcases List.mem_cons.mp hl with rfl | hl
    · refine (barT1_1 o t).trans ?_
      rw [l2]
      rfl
    · cases hl
def barT7 : Rp → Option Bool := (tB_ (d2 neD (d2 getD_ (dVar 5) (dVar 7)) (d2 getD_ (d2 getD_ (dVar 1) (dC (.int 3))) (dVar 7))))
def barE7 : Rp → Option D := (dTup (dCons (dC (.str (Str.ofString "front"))) (dCons (dVar 7) dNil)))
theorem bars_e7 (o : D) (t : S3) (c k : D) : lcD (Tgt.one 7).bindR barT7 barE7 [some o, some t.d, some (.list []), some c, some k, some t.f.d, none, none, none] [.int 0, .int 1, .int 2] = some [] := by
  have r : ∀ i : Int, some (!(i == i)) = some false := fun i => by rw [beq_self_eq_true]; rfl
  refine lc_if (xs := [(0 : Int), 1, 2]) (f := PyData.int) (g := PyData.int) (b := fun _ => false) (fun l hl => ?_) (fun l hl hb => by cases hb)
  rcases List.mem_cons.mp hl with rfl | hl
  · exact Eq.trans (b := some (!(t.f.a == t.f.a))) (by kernel_rfl) (r _)
  · rcases List.mem_cons.mp hl with rfl | hl
    · exact Eq.trans (b := some (!(t.f.b == t.f.b))) (by kernel_rfl) (r _)
    · rcases List.mem_cons.mp hl with rfl | hl
      · exact Eq.trans (b := some (!(t.f.c == t.f.c))) (by kernel_rfl) (r _)
      · cases hl
theorem bars_key : ∀ (p q : Fin 6) (τ : Int), (τ = 0 ∨ τ = 1) → ∀ (x y f x' y' f' : T3) (c : D), (tB_ (d2 niD (dVar 4) (dLc (iSeq (dCall F_arcs_in (dCons (d2 getD_ (dVar 0) (dC (.int 0))) (dCons (d2 getD_ (dVar 1) (dC (.int 0))) dNil)))) (.one 8) tTrue (dCall F_set_of (dCons (dVar 8) dNil)) [8])))
        [some (S3.mk p x y f).d, some (S3.mk q x' y' f').d, some (.list []), some c, some (.tuple (kDs (pat p q τ))), none, none, none, none] = some false := by
      refine all6 ?_ ?_ ?_ ?_ ?_ ?_ <;> refine all6 ?_ ?_ ?_ ?_ ?_ ?_ <;> intro τ ht <;> rcases ht with rfl | rfl <;> intro x y f x' y' f' c <;> kernel_rfl
section
variable {o t : S3} {A B : T3}
theorem bars_l1 {o t : D} (l1 : F_is_odd_line [o, t, .int 1] = some (.bool false)) (l2 : F_is_odd_line [o, t, .int 2] = some (.bool false)) : barL1 [some o, some t, none, none, none, none, none, none, none] = some (.list []) := by
  have e : barL1 [some o, some t, none, none, none, none, none, none, none] = (lcD (Tgt.one 6).bindR barT1 barE1 [some o, some t, none, none, none, none, none, none, none] [.int 0, .int 1]).map .list := by kernel_rfl
  rw [e, bars_e1 l1 l2]
  rfl
theorem bars_l7 (o : D) (t : S3) (c k : D) : barL7 [some o, some t.d, some (.list []), some c, some k, some t.f.d, none, none, none] = some (.list []) := by
  have e : barL7 [some o, some t.d, some (.list []), some c, some k, some t.f.d, none, none, none] = (lcD (Tgt.one 7).bindR barT7 barE7 [some o, some t.d, some (.list []), some c, some k, some t.f.d, none, none, none] [.int 0, .int 1, .int 2]).map .list := by kernel_rfl
  rw [e, bars_e7]
  rfl
def bρ (o t a b c d : Sl) : Rs := [o, t, a, b, c, d, .no, .no, .no]
theorem set_eq {i : Nat} {f : Rp → Option D} {ρ : Rs} {d : D} (h : f (hid ρ) = some d) : sSet i f ρ = some (.nx (ρ.set i (.pu d))) := by
  unfold sSet
  rw [h]
  rfl
theorem bars_run {o t : D} {sq C O fr : D} (h1 : barL1 (hid (bρ (.pu o) (.pu t) .no .no .no .no)) = some (.list []))
    (h3 : (dCall F_counts_in (dCons (dVar 0) (dCons (dVar 1) dNil))) (hid (bρ (.pu o) (.pu t) (.pu (.list [])) .no .no .no)) = some C)
    (h4 : (dCall F_odd_of (dCons (dVar 3) dNil)) (hid (bρ (.pu o) (.pu t) (.pu (.list [])) (.pu C) .no .no)) = some O)
    (h5 : barT5 (opn (bρ (.pu o) (.pu t) (.pu (.list [])) (.pu C) (.pu O) .no)) = some false)
    (h6 : (dCall F_fronts_in (dCons (dVar 0) (dCons (d2 getD_ (dVar 1) (dC (.int 0))) (dCons (dVar 3) dNil)))) (hid (bρ (.pu o) (.pu t) (.pu (.list [])) (.pu C) (.pu O) .no)) = some fr)
    (h7 : barL7 (opn (bρ (.pu o) (.pu t) (.pu (.list [])) (.pu C) (.pu O) (.pu fr))) = some (.list [])) : F_bars_in [o, t] = some (.list []) := by
  have e0 : F_bars_in [o, t] = outD (sSeq (sSet 2 barL1) (sSeq (sIf (tB_ (d2 neD (dVar 2) (dLst dNil))) (sRet (dVar 2)) sNext) (sSeq (sSet 3 (dCall F_counts_in (dCons (dVar 0) (dCons (dVar 1) dNil)))) (sSeq (sSet 4 (dCall F_odd_of (dCons (dVar 3) dNil)))
    (sSeq (sIf barT5 (sRet (dLst (dCons (dTup (dCons (dC (.str (Str.ofString "odd"))) (dCons (dVar 4) dNil))) dNil))) sNext) (sSeq (sSet 5 (dCall F_fronts_in (dCons (dVar 0) (dCons (d2 getD_ (dVar 1) (dC (.int 0))) (dCons (dVar 3) dNil))))) (sRet barL7)))))) (bρ (.pu o) (.pu t) .no .no .no .no)) := by kernel_rfl
  have s2 : (tB_ (d2 neD (dVar 2) (dLst dNil))) (opn (bρ (.pu o) (.pu t) (.pu (.list [])) .no .no .no)) = some false := by kernel_rfl
  rw [e0, sSeq_nx (set_eq h1)]
  show outD (sSeq _ _ (bρ (.pu o) (.pu t) (.pu (.list [])) .no .no .no)) = _
  rw [sSeq_nx (sIf_no s2), sSeq_nx (set_eq h3)]
  show outD (sSeq _ _ (bρ (.pu o) (.pu t) (.pu (.list [])) (.pu C) .no .no)) = _
  rw [sSeq_nx (set_eq h4)]
  show outD (sSeq _ _ (bρ (.pu o) (.pu t) (.pu (.list [])) (.pu C) (.pu O) .no)) = _
  rw [sSeq_nx (sIf_no h5), sSeq_nx (set_eq h6)]
  show outD (sRet barL7 (bρ (.pu o) (.pu t) (.pu (.list [])) (.pu C) (.pu O) (.pu fr))) = _
  rw [sRet_eq h7]
  rfl
theorem Lead.bars (h : Lead o t) : F_bars_in [o.d, t.d] = some (.list []) := by
  have hex := h.ex
  have hc := h.counts
  obtain ⟨A, B, h⟩ := h
  obtain ⟨τ, ht, hp⟩ := h.pat
  have hfr := h.fronts
  have l1 : F_is_odd_line [o.d, t.d, .int 1] = some (.bool false) := by rw [F_line1, dT_s, odd_no hex.1]
  have l2 : F_is_odd_line [o.d, t.d, .int 2] = some (.bool false) := by rw [F_line2, dT_s, odd_no hex.2]
  have ho : F_odd_of [(tal o t).d] = some (.tuple (kDs (pat o.p t.p τ))) := by rw [F_odd_eq, hp]
  exact bars_run (sq := .none) (bars_l1 l1 l2) (Eq.trans (b := F_counts_in [o.d, t.d]) (by kernel_rfl) hc) (Eq.trans (b := F_odd_of [(tal o t).d]) (by kernel_rfl) ho) (bars_key o.p t.p τ ht o.x o.y o.f t.x t.y t.f (tal o t).d) (Eq.trans (b := F_fronts_in [o.d, (shp t.p).d, (tal o t).d]) (by kernel_rfl) hfr) (bars_l7 _ t _ _)
theorem Lead.both (h : Lead o t) (ho : Fr o.f) (ht : Fr t.f) {a b : D} (ha : a = o.d ∨ a = o.l) (hb : b = t.d ∨ b = t.l) : F_sure_way [a, b] = some (.tuple [o.d, t.d]) := by
  have e1 := F_both o t ho ht ha hb
  have e2 : F_can_in [o.d, t.d] = some (.bool true) := by
    have e : F_can_in [o.d, t.d] = outD (((F_bars_in [o.d, t.d]).bind fun x => (some (PyData.list [])).bind fun y => eqD x y).map Out.rt) := by kernel_rfl
    rw [e, h.bars]
    kernel_rfl
  have s1 : (dCall F_sure_both (dCons (dVar 0) (dCons (dVar 1) dNil))) (hid [.pu a, .pu b, .no, .no]) = some (.tuple [o.d, t.d]) := Eq.trans (b := F_sure_both [a, b]) (by kernel_rfl) e1
  have s2 : (tNot_ (tB_ (dCall F_can_in (dCons (dVar 2) (dCons (dVar 3) dNil))))) (opn [.pu a, .pu b, .pu o.d, .pu t.d]) = some false := by
    have e : (tNot_ (tB_ (dCall F_can_in (dCons (dVar 2) (dCons (dVar 3) dNil))))) (opn [.pu a, .pu b, .pu o.d, .pu t.d]) = ((F_can_in [o.d, t.d]).bind asB).map fun c => !c := by kernel_rfl
    rw [e, e2]
    rfl
  have s3 : sUnp [2, 3] (dCall F_sure_both (dCons (dVar 0) (dCons (dVar 1) dNil))) [.pu a, .pu b, .no, .no] = some (.nx [.pu a, .pu b, .pu o.d, .pu t.d]) := by
    unfold sUnp
    rw [s1]
    kernel_rfl
  have e0 : F_sure_way [a, b] = outD (sSeq (sUnp [2, 3] (dCall F_sure_both (dCons (dVar 0) (dCons (dVar 1) dNil)))) (sSeq (sIf (tNot_ (tB_ (dCall F_can_in (dCons (dVar 2) (dCons (dVar 3) dNil))))) sNever sNext) (sRet (dTup (dCons (dVar 2) (dCons (dVar 3) dNil))))) [.pu a, .pu b, .no, .no]) := by kernel_rfl
  rw [e0, sSeq_nx s3, sSeq_nx (sIf_no s2)]
  kernel_rfl
theorem Lead.priced (h : Lead o t) (ho : Fr o.f) (ht : Fr t.f) (F : P6) (hF : F.Ok) {a b c : D} (ha : a = o.d ∨ a = o.l) (hb : b = t.d ∨ b = t.l) (hc : c = F.d ∨ c = F.l) : F_sure_priced [a, b, c] = some (.tuple [o.d, t.d, F.d]) := by
  have e1 := F_both o t ho ht ha hb
  have e2 := h.both ho ht ha hb
  have e3 : F_sure_prices [c] = some F.d := by rcases hc with rfl | rfl; exact F_prices_d F hF; exact F_prices_l F hF
  have e0 : F_sure_priced [a, b, c] = outD (sThen ((F_sure_both [a, b]).map fun _ => Out.nx [.pu a, .pu b, .pu c, .no, .no, .no]) (sSeq (sSet 3 (dCall F_sure_prices (dCons (dVar 2) dNil))) (sSeq (sUnp [4, 5] (dCall F_sure_way (dCons (dVar 0) (dCons (dVar 1) dNil)))) (sRet (dTup (dCons (dVar 4) (dCons (dVar 5) (dCons (dVar 3) dNil)))))))) := by kernel_rfl
  have s1 : (dCall F_sure_prices (dCons (dVar 2) dNil)) (hid [.pu a, .pu b, .pu c, .no, .no, .no]) = some F.d := Eq.trans (b := F_sure_prices [c]) (by kernel_rfl) e3
  have s2 : (dCall F_sure_way (dCons (dVar 0) (dCons (dVar 1) dNil))) (hid [.pu a, .pu b, .pu c, .pu F.d, .no, .no]) = some (.tuple [o.d, t.d]) := Eq.trans (b := F_sure_way [a, b]) (by kernel_rfl) e2
  have s3 : sUnp [4, 5] (dCall F_sure_way (dCons (dVar 0) (dCons (dVar 1) dNil))) [.pu a, .pu b, .pu c, .pu F.d, .no, .no] = some (.nx [.pu a, .pu b, .pu c, .pu F.d, .pu o.d, .pu t.d]) := by
    unfold sUnp
    rw [s2]
    kernel_rfl
  rw [e0, e1]
  show outD (sSeq (sSet 3 (dCall F_sure_prices (dCons (dVar 2) dNil))) _ [.pu a, .pu b, .pu c, .no, .no, .no]) = _
  rw [sSeq_nx (set_eq s1)]
  show outD (sSeq (sUnp [4, 5] (dCall F_sure_way (dCons (dVar 0) (dCons (dVar 1) dNil)))) _ [.pu a, .pu b, .pu c, .pu F.d, .no, .no]) = _
  rw [sSeq_nx s3]
  kernel_rfl
end
end DL

/-! P6: stretches. -/
namespace DL
open PySem PySem.Spec PyProof.Rows L2

theorem tAnd_eq {p q : Rp → Option Bool} {ρ : Rp} {a b : Bool} (h1 : p ρ = some a) (h2 : q ρ = some b) : tAnd_ p q ρ = some (a && b) := by
  unfold tAnd_
  rw [h1, Option.bind_some, h2]
  cases a <;> rfl
theorem tOr_eq {p q : Rp → Option Bool} {ρ : Rp} {a b : Bool} (h1 : p ρ = some a) (h2 : q ρ = some b) : tOr_ p q ρ = some (a || b) := by
  unfold tOr_
  rw [h1, Option.bind_some, h2]
  cases a <;> rfl
theorem sIf_eq {c : Rp → Option Bool} {f g : Rs → Option Out} {ρ : Rs} {b : Bool} (h : c (opn ρ) = some b) : sIf c f g ρ = if b = true then f ρ else g ρ := by
  unfold sIf
  rw [h]
  rfl
theorem app_eq {i : Nat} {f : Rp → Option D} {ρ : Rs} {ds : List D} {d : D} (h1 : ρ[i]? = some (.ow ds)) (h2 : f (hid ρ) = some d) (h3 : ds.length < 1000) : sApp i f ρ = some (.nx (ρ.set i (.ow (ds ++ [d])))) := by
  unfold sApp
  rw [h1]
  show (f (hid ρ)).bind _ = _
  rw [h2, Option.bind_some, if_pos h3]
def Eb (p q k : Fin 6) : Bool := ((p.val : Int) == (k.val : Int)) || (((q.val : Int) == (k.val : Int)) || false)
def sfGo (E Z : Fin 6 → Bool) : Nat → List (Fin 6) → Fin 6 → List (Fin 6) × Fin 6
  | 0, acc, k => (acc, k)
  | n + 1, acc, k => if (!E k && (Z k && decide (((acc.map kD).length : Int) < 6))) = true then sfGo E Z n (acc ++ [k]) (k + 1) else (acc, k)
def Zf (C : P6) : Fin 6 → Bool := fun k => C.f k == 0
def endsD (p q : Fin 6) : D := .list [kD p, kD q]
def wC : Rp → Option Bool := (tAnd_ (tB_ (d2 niD (dVar 4) (dVar 0))) (tAnd_ (tB_ (d2 eqD (d2 getD_ (dVar 1) (dVar 4)) (dC (.int 0)))) (tB_ (d2 ltD (dCall lenD (dCons (dVar 3) dNil)) (dC (.int 6))))))
def wB : Rs → Option Out := (sSeq (sApp 3 (dVar 4)) (sSet 4 (d2 modD (d2 addD (dVar 4) (dC (.int 1))) (dC (.int 6)))))
def wρ (p q : Fin 6) (C : P6) (f : Fin 6) (acc : List (Fin 6)) (k : Fin 6) : Rs := [.pu (endsD p q), .pu C.d, .pu (kD f), .ow (acc.map kD), .pu (kD k)]
theorem w_cond (p q : Fin 6) (C : P6) (f : Fin 6) (acc : List (Fin 6)) (k : Fin 6) : wC (opn (wρ p q C f acc k)) = some (!Eb p q k && (Zf C k && decide (((acc.map kD).length : Int) < 6))) := by
  refine tAnd_eq (a := !Eb p q k) (by kernel_rfl) (tAnd_eq (a := Zf C k) ?_ (by kernel_rfl))
  revert k
  refine all6 ?_ ?_ ?_ ?_ ?_ ?_ <;> kernel_rfl
theorem w_body (p q : Fin 6) (C : P6) (f : Fin 6) (acc : List (Fin 6)) (k : Fin 6) (h : acc.length < 6) : wB (wρ p q C f acc k) = some (.nx (wρ p q C f (acc ++ [k]) (k + 1))) := by
  have h1 : sApp 3 (dVar 4) (wρ p q C f acc k) = some (.nx (wρ p q C f (acc ++ [k]) k)) := by
    rw [app_eq (ds := acc.map kD) (d := kD k) rfl rfl (by rw [List.length_map]; omega)]
    unfold wρ
    rw [List.map_append]
    rfl
  unfold wB
  rw [sSeq_nx h1]
  revert k
  refine all6 ?_ ?_ ?_ ?_ ?_ ?_ <;> intro _ <;> kernel_rfl
theorem w_loop (p q : Fin 6) (C : P6) (f : Fin 6) : ∀ (n : Nat) (acc : List (Fin 6)) (k : Fin 6), 7 ≤ n + acc.length → whileD wC wB n (wρ p q C f acc k) = some (.nx (wρ p q C f (sfGo (Eb p q) (Zf C) n acc k).1 (sfGo (Eb p q) (Zf C) n acc k).2)) ∨ 6 < acc.length
  | 0, acc, k, h => .inr (by omega)
  | n + 1, acc, k, h => by
    by_cases h6 : 6 < acc.length
    · exact .inr h6
    refine .inl ?_
    unfold whileD sfGo
    rw [w_cond, Option.bind_some]
    cases hc : (!Eb p q k && (Zf C k && decide (((acc.map kD).length : Int) < 6))) with
    | false => rfl
    | true =>
      have hl : acc.length < 6 := by
        have := (Bool.and_eq_true _ _).mp ((Bool.and_eq_true _ _).mp hc).2
        have := of_decide_eq_true this.2
        rw [List.length_map] at this
        omega
      rw [if_pos rfl, if_pos rfl, w_body p q C f acc k hl]
      show whileD wC wB n (wρ p q C f (acc ++ [k]) (k + 1)) = _
      rcases w_loop p q C f n (acc ++ [k]) (k + 1) (by rw [List.length_append]; simp; omega) with h | h
      · exact h
      · rw [List.length_append] at h
        simp at h
        omega
def sfL (E Z : Fin 6 → Bool) (k : Fin 6) : List (Fin 6) := (sfGo E Z 7 [k] (k + 1)).1
def tupK (ks : List (Fin 6)) : D := .tuple (ks.map kD)
theorem F_sf_eq (p q : Fin 6) (C : P6) (k : Fin 6) : F_stretch_from [endsD p q, C.d, kD k] = some (tupK (sfL (Eb p q) (Zf C) k)) := by
  have e0 : F_stretch_from [endsD p q, C.d, kD k] = outD (sThen (whileD wC wB 7 (wρ p q C k [k] (k + 1))) (sRet (dCall tupleD (dCons (dVar 3) dNil)))) := by
    revert k
    refine all6 ?_ ?_ ?_ ?_ ?_ ?_ <;> kernel_rfl
  rw [e0]
  rcases w_loop p q C k 7 [k] (k + 1) (by simp) with h | h
  · rw [h]
    rfl
  · simp at h
/-! all stretches -/
def stT (E Z : Fin 6 → Bool) (k : Fin 6) : Bool := Z k && (E k || !Z (k - 1))
def sList (E Z : Fin 6 → Bool) : List (List (Fin 6)) := (allk.filter (stT E Z)).map (sfL E Z)
def strC : Rp → Option Bool := (tAnd_ (tB_ (d2 eqD (d2 getD_ (dVar 2) (dVar 5)) (dC (.int 0)))) (tOr_ (tB_ (d2 inD (dVar 5) (dVar 3))) (tB_ (d2 neD (d2 getD_ (dVar 2) (d2 subD (dVar 5) (dC (.int 1)))) (dC (.int 0))))))
def strA : Rs → Option Out := (sApp 4 (dCall F_stretch_from (dCons (dVar 3) (dCons (dVar 2) (dCons (dVar 5) dNil)))))
def strρ (p q : Fin 6) (C : P6) (acc : List (List (Fin 6))) (s : Sl) : Rs := [.pu (shp p).d, .pu (shp q).d, .pu C.d, .pu (endsD p q), .ow (acc.map tupK), s]
theorem str_body (p q : Fin 6) (C : P6) (acc : List (List (Fin 6))) (k : Fin 6) (h : acc.length < 1000) : sIf strC strA sNext (strρ p q C acc (.pu (kD k))) = some (.nx (strρ p q C (if stT (Eb p q) (Zf C) k then acc ++ [sfL (Eb p q) (Zf C) k] else acc) (.pu (kD k)))) := by
  have hc : strC (opn (strρ p q C acc (.pu (kD k)))) = some (stT (Eb p q) (Zf C) k) := by
    refine tAnd_eq (a := Zf C k) ?_ (tOr_eq (a := Eb p q k) (by kernel_rfl) (b := !Zf C (k - 1)) ?_) <;> revert k <;> refine all6 ?_ ?_ ?_ ?_ ?_ ?_ <;> kernel_rfl
  rw [sIf_eq hc]
  cases stT (Eb p q) (Zf C) k with
  | false => rfl
  | true =>
    rw [if_pos rfl, if_pos rfl]
    unfold strA
    rw [app_eq (ds := acc.map tupK) (d := tupK (sfL (Eb p q) (Zf C) k)) rfl (Eq.trans (b := F_stretch_from [endsD p q, C.d, kD k]) (by kernel_rfl) (F_sf_eq p q C k)) (by rw [List.length_map]; omega)]
    unfold strρ
    rw [List.map_append]
    rfl
theorem str_loop (p q : Fin 6) (C : P6) : ∀ (ks : List (Fin 6)) (acc : List (List (Fin 6))) (s : Sl), acc.length + ks.length < 1000 → ∃ s', forD (.one 5) (sIf strC strA sNext) (ks.map kD) (strρ p q C acc s) = some (.nx (strρ p q C (acc ++ (ks.filter (stT (Eb p q) (Zf C))).map (sfL (Eb p q) (Zf C))) s'))
  | [], acc, s, h => ⟨s, by simp [forD]⟩
  | k :: ks, acc, s, h => by
    have hb := str_body p q C acc k (by simp at h; omega)
    rw [List.map_cons]
    show ∃ s', sLoop (sIf strC strA sNext (strρ p q C acc (.pu (kD k)))) (forD (.one 5) (sIf strC strA sNext) (ks.map kD)) = _
    rw [hb]
    cases hs : stT (Eb p q) (Zf C) k with
    | true =>
      obtain ⟨s', e⟩ := str_loop p q C ks (acc ++ [sfL (Eb p q) (Zf C) k]) (.pu (kD k)) (by rw [List.length_append]; simp at h ⊢; omega)
      refine ⟨s', ?_⟩
      rw [List.filter_cons_of_pos hs]
      show forD _ _ _ (strρ p q C (acc ++ [sfL (Eb p q) (Zf C) k]) _) = _
      rw [e, List.append_assoc]
      rfl
    | false =>
      obtain ⟨s', e⟩ := str_loop p q C ks acc (.pu (kD k)) (by simp at h; omega)
      refine ⟨s', ?_⟩
      rw [List.filter_cons_of_neg (by rw [hs]; decide)]
      exact e
/-! all patterns -/
def zf (a b c d e f : Bool) : Fin 6 → Bool := fun k => match k with | 0 => a | 1 => b | 2 => c | 3 => d | 4 => e | 5 => f
def allZ (P : (Fin 6 → Bool) → Bool) : Bool := [false, true].all fun a => [false, true].all fun b => [false, true].all fun c => [false, true].all fun d => [false, true].all fun e => [false, true].all fun f => P (zf a b c d e f)
theorem mem_b (b : Bool) : b ∈ [false, true] := by cases b <;> simp
theorem allZ_ok {P : (Fin 6 → Bool) → Bool} (h : allZ P = true) (Z : Fin 6 → Bool) : P Z = true := by
  have e : Z = zf (Z 0) (Z 1) (Z 2) (Z 3) (Z 4) (Z 5) := by
    funext k
    revert k
    refine all6 ?_ ?_ ?_ ?_ ?_ ?_ <;> rfl
  rw [e]
  unfold allZ at h
  have h := List.all_eq_true.mp h _ (mem_b (Z 0))
  have h := List.all_eq_true.mp h _ (mem_b (Z 1))
  have h := List.all_eq_true.mp h _ (mem_b (Z 2))
  have h := List.all_eq_true.mp h _ (mem_b (Z 3))
  have h := List.all_eq_true.mp h _ (mem_b (Z 4))
  exact List.all_eq_true.mp h _ (mem_b (Z 5))
def allPQ (P : Fin 6 → Fin 6 → Bool) : Bool := allk.all fun p => allk.all fun q => P p q
theorem mem_allk (k : Fin 6) : k ∈ allk := by revert k; decide
theorem allPQ_ok {P : Fin 6 → Fin 6 → Bool} (h : allPQ P = true) (p q : Fin 6) : P p q = true := List.all_eq_true.mp (List.all_eq_true.mp h p (mem_allk p)) q (mem_allk q)
def sortOk (ds : List D) : Bool := alikeB ds && (ds.all tupNE && (pwB ds && (decide (PyData.depthAll ds ≤ 50) && decide (ds.length ≤ 1000))))
theorem sort_ok {ds : List D} (h : sortOk ds = true) : sortT (.list ds) = some (.list ds) := by
  unfold sortOk at h
  simp only [Bool.and_eq_true, decide_eq_true_eq] at h
  exact if_pos h
theorem sort_all : (allPQ fun p q => allZ fun Z => sortOk ((sList (Eb p q) Z).map tupK)) = true := by decide +kernel
end DL

/-! P7: what priced_in lists. -/
namespace DL
open PySem PySem.Spec PyProof.Rows L2

theorem all7 {P : Fin 7 → Prop} (h0 : P 0) (h1 : P 1) (h2 : P 2) (h3 : P 3) (h4 : P 4) (h5 : P 5) (h6 : P 6) : ∀ w, P w
  | ⟨0, _⟩ => h0 | ⟨1, _⟩ => h1 | ⟨2, _⟩ => h2 | ⟨3, _⟩ => h3 | ⟨4, _⟩ => h4 | ⟨5, _⟩ => h5 | ⟨6, _⟩ => h6
def arcGo : Nat → Fin 6 → List (Fin 6)
  | 0, _ => []
  | n + 1, k => k :: arcGo n (k + 1)
def arcL (k : Fin 6) (n : Fin 7) : List (Fin 6) := arcGo n.val k
def setK (ks : List (Fin 6)) : List (Fin 6) := allk.filter fun k => ks.contains k
theorem F_set_arc (k : Fin 6) (n : Fin 7) : F_set_of [tupK (arcL k n)] = some (tupK (setK (arcL k n))) := by
  revert k
  refine all6 ?_ ?_ ?_ ?_ ?_ ?_ <;> revert n <;> refine all7 ?_ ?_ ?_ ?_ ?_ ?_ ?_ <;> kernel_rfl
def isArc (ks : List (Fin 6)) : Bool := allk.any fun k => [(0 : Fin 7), 1, 2, 3, 4, 5, 6].any fun n => decide (ks = arcL k n)
theorem isArc_ok {ks : List (Fin 6)} (h : isArc ks = true) : ∃ k n, ks = arcL k n := by
  obtain ⟨k, _, h⟩ := List.any_eq_true.mp h
  obtain ⟨n, _, h⟩ := List.any_eq_true.mp h
  exact ⟨k, n, of_decide_eq_true h⟩
theorem arcs_all : (allPQ fun p q => allZ fun Z => (sList (Eb p q) Z).all isArc) = true := by decide +kernel
theorem F_set_str (p q : Fin 6) (Z : Fin 6 → Bool) {ks : List (Fin 6)} (h : ks ∈ sList (Eb p q) Z) : F_set_of [tupK ks] = some (tupK (setK ks)) := by
  have h1 := allZ_ok (allPQ_ok arcs_all p q) Z
  obtain ⟨k, n, rfl⟩ := isArc_ok (List.all_eq_true.mp h1 ks h)
  exact F_set_arc k n
theorem sortD_t {L : List (List (Fin 6))} (h : sortOk (L.map tupK) = true) : sortD [.list (L.map tupK)] = some (.list (L.map tupK)) := by
  cases L with
  | nil => rfl
  | cons a L =>
    show (match (none : Option D) with | some z => some z | none => sortT (.list ((a :: L).map tupK))) = _
    exact sort_ok h
theorem F_str_eq (p q : Fin 6) (C : P6) : F_stretches_in [(shp p).d, (shp q).d, C.d] = some (.list ((sList (Eb p q) (Zf C)).map tupK)) := by
  have e0 : F_stretches_in [(shp p).d, (shp q).d, C.d] = outD (sThen (forD (.one 5) (sIf strC strA sNext) (allk.map kD) (strρ p q C [] .no)) (sRet (dCall sortD (dCons (dVar 4) dNil)))) := by
    revert p
    refine all6 ?_ ?_ ?_ ?_ ?_ ?_ <;> revert q <;> refine all6 ?_ ?_ ?_ ?_ ?_ ?_ <;> kernel_rfl
  obtain ⟨s', e⟩ := str_loop p q C allk [] .no (by decide)
  rw [e0, e]
  have e1 : dCall sortD (dCons (dVar 4) dNil) (opn (strρ p q C ([] ++ (allk.filter (stT (Eb p q) (Zf C))).map (sfL (Eb p q) (Zf C))) s')) = some (.list ((sList (Eb p q) (Zf C)).map tupK)) :=
    Eq.trans (b := sortD [.list ((sList (Eb p q) (Zf C)).map tupK)]) rfl (sortD_t (allZ_ok (allPQ_ok sort_all p q) (Zf C)))
  show outD (sRet (dCall sortD (dCons (dVar 4) dNil)) (strρ p q C ([] ++ (allk.filter (stT (Eb p q) (Zf C))).map (sfL (Eb p q) (Zf C))) s')) = _
  rw [sRet_eq e1]
  rfl
/-! bridges -/
def inK (ks : List (Fin 6)) (k : Fin 6) : Bool := ks.contains k
def brs (Z : Fin 6 → Bool) (T : List (Fin 6)) : List (Fin 6) := allk.filter fun k => Z k && !inK T k
def brT : Rp → Option Bool := (tAnd_ (tB_ (d2 eqD (d2 getD_ (dVar 0) (dVar 2)) (dC (.int 0)))) (tB_ (d2 niD (dVar 2) (dVar 1))))
theorem F_br_eq (C : P6) (k : Fin 6) (n : Fin 7) : F_bridges_in [C.d, tupK (setK (arcL k n))] = some (.list ((brs (Zf C) (setK (arcL k n))).map kD)) := by
  have e : lcD (Tgt.one 2).bindR brT (dVar 2) [some C.d, some (tupK (setK (arcL k n))), none] (allk.map kD) = some ((allk.filter fun l => Zf C l && !inK (setK (arcL k n)) l).map kD) := lc_if (fun l hl => by
    clear hl
    refine tAnd_eq (a := Zf C l) ?_ (b := !inK (setK (arcL k n)) l) ?_
    · revert l
      refine all6 ?_ ?_ ?_ ?_ ?_ ?_ <;> kernel_rfl
    · revert l
      refine all6 ?_ ?_ ?_ ?_ ?_ ?_ <;> revert k <;> refine all6 ?_ ?_ ?_ ?_ ?_ ?_ <;> revert n <;> refine all7 ?_ ?_ ?_ ?_ ?_ ?_ ?_ <;> kernel_rfl) (fun l hl hb => by
    clear hl hb
    rfl)
  have e0 : F_bridges_in [C.d, tupK (setK (arcL k n))] = outD (((lcD (Tgt.one 2).bindR brT (dVar 2) [some C.d, some (tupK (setK (arcL k n))), none] (allk.map kD)).map PyData.list).map Out.rt) := by kernel_rfl
  rw [e0, e]
  rfl
end DL

/-! P7b: priced_in. -/
namespace DL
open PySem PySem.Spec PyProof.Rows L2

def ab (i : Int) : Int := if i < 0 then -i else i
def wor (C F : P6) : Int := (allk.map fun k => ab (C.f k) * F.f k).sum
def siz (C : P6) : Int := (allk.map fun k => ab (C.f k)).sum
def trD (a b : Int) (T : List (Fin 6)) : D := .tuple [.int a, .int b, tupK T]
def P6.Le (F : P6) : Prop := ∀ k, 0 ≤ F.f k ∧ F.f k ≤ 1000000
theorem P6.Le.ok {F : P6} (h : F.Le) : F.Ok := fun k => (h k).1
theorem mul_eq {a b : Int} (h : -(2 ^ 64) < b ∧ b < 2 ^ 64) : mulD (.int a) (.int b) = some (.int (a * b)) := by
  have e : mulI (.int a) (.int b) = some (.int (a * b)) := if_pos (.inr h)
  unfold mulD orD
  rw [e]
theorem lc_gen {t : Tgt} {elt : Rp → Option D} {ρ : Rp} {α : Type} {f g : α → D} : ∀ {xs : List α}, (∀ x ∈ xs, ∃ ρ1, t.bindR (f x) ρ = some ρ1 ∧ elt ρ1 = some (g x)) → lcD t.bindR tTrue elt ρ (xs.map f) = some (xs.map g)
  | [], _ => rfl
  | x :: xs, h => by
    obtain ⟨ρ1, h1, h2⟩ := h x List.mem_cons_self
    have h3 := lc_gen (xs := xs) fun y hy => h y (List.mem_cons_of_mem _ hy)
    rw [List.map_cons, List.map_cons]
    show (t.bindR (f x) ρ).bind _ = _
    rw [h1, Option.bind_some]
    show (some true).bind _ = _
    rw [Option.bind_some, if_pos rfl, h2, Option.bind_some, h3]
    rfl
theorem sum_eq (ns : List Int) : sumD [.list (ns.map .int)] = some (.int ns.sum) := by
  show (intsOf (ns.map .int)).map _ = _
  rw [intsOf_map]
  rfl
theorem par_eq {is : List Nat} {f : Rp → Option (List Sl)} {ρ : Rs} {ss : List Sl} (h : f (hid ρ) = some ss) (hl : ss.length = is.length) : sPar is f ρ = some (.nx (setsS is ss ρ)) := by
  unfold sPar
  rw [h, Option.bind_some, if_pos hl]
def pρ (o t : S3) (F C : P6) (L : List D) (s5 : Sl) (a b : Int) (St s9 s10 : Sl) : Rs := [.pu o.d, .pu t.d, .pu F.d, .pu C.d, .ow L, s5, .pu (.int a), .pu (.int b), St, s9, s10, .no, .no]
def priB : Rs → Option Out := (sSeq (sSet 10 (dCall F_bridges_in (dCons (dVar 3) (dCons (dVar 9) dNil))))
    (sSeq (sSet 5 (d2 addD (dVar 7) (d2 mulD (dC (.int 2)) (dCall sumD (dCons (dLc (iSeq (dVar 10)) (.one 12) tTrue (d2 getD_ (dVar 2) (dVar 12)) [12]) dNil)))))
    (sApp 4 (dTup (dCons (dVar 5) (dCons (d2 addD (dVar 6) (d2 mulD (dC (.int 2)) (dCall lenD (dCons (dVar 10) dNil)))) (dCons (dVar 9) dNil)))))))
def priX (F C : P6) (a b : Int) (T : List (Fin 6)) : D := trD (b + 2 * ((brs (Zf C) T).map F.f).sum) (a + 2 * (((brs (Zf C) T).map kD).length : Int)) T
theorem pri_body (o t : S3) (F C : P6) (L : List D) (s5 : Sl) (a b : Int) (St s10 : Sl) (k : Fin 6) (n : Fin 7) (hl : L.length < 1000) : ∃ s5' s10', priB (pρ o t F C L s5 a b St (.pu (tupK (setK (arcL k n)))) s10) = some (.nx (pρ o t F C (L ++ [priX F C a b (setK (arcL k n))]) s5' a b St (.pu (tupK (setK (arcL k n)))) s10')) := by
  have hb := F_br_eq C k n
  generalize hT : setK (arcL k n) = T at hb ⊢
  refine ⟨.pu (.int (b + 2 * ((brs (Zf C) T).map F.f).sum)), .pu (.list ((brs (Zf C) T).map kD)), ?_⟩
  have e1 : (dCall F_bridges_in (dCons (dVar 3) (dCons (dVar 9) dNil))) (hid (pρ o t F C L s5 a b St (.pu (tupK T)) s10)) = some (.list ((brs (Zf C) T).map kD)) := Eq.trans (b := F_bridges_in [C.d, tupK T]) rfl hb
  have hl2 : lcD (Tgt.one 12).bindR tTrue (d2 getD_ (dVar 2) (dVar 12)) (wipeR (hid (pρ o t F C L s5 a b St (.pu (tupK T)) (.pu (.list ((brs (Zf C) T).map kD))))) [12]) ((brs (Zf C) T).map kD) = some ((brs (Zf C) T).map fun k => .int (F.f k)) := lc_one fun k hk => by
    clear hk
    exact Eq.trans (b := getD_ F.d (kD k)) rfl (getF F k)
  have hm : ((brs (Zf C) T).map fun k => PyData.int (F.f k)) = ((brs (Zf C) T).map F.f).map .int := by rw [List.map_map]; rfl
  have hlen : ((brs (Zf C) T).map kD).length ≤ 100000 := by
    rw [List.length_map]
    have : (brs (Zf C) T).length ≤ allk.length := List.length_filter_le _ _
    have h6 : allk.length = 6 := rfl
    omega
  have e2 : (d2 addD (dVar 7) (d2 mulD (dC (.int 2)) (dCall sumD (dCons (dLc (iSeq (dVar 10)) (.one 12) tTrue (d2 getD_ (dVar 2) (dVar 12)) [12]) dNil)))) (hid (pρ o t F C L s5 a b St (.pu (tupK T)) (.pu (.list ((brs (Zf C) T).map kD))))) = some (.int (b + 2 * ((brs (Zf C) T).map F.f).sum)) := by
    have h3 : (dLc (iSeq (dVar 10)) (.one 12) tTrue (d2 getD_ (dVar 2) (dVar 12)) [12]) (hid (pρ o t F C L s5 a b St (.pu (tupK T)) (.pu (.list ((brs (Zf C) T).map kD))))) = some (.list (((brs (Zf C) T).map F.f).map .int)) := by
      show (if ((brs (Zf C) T).map kD).length ≤ 100000 then (lcD (Tgt.one 12).bindR tTrue (d2 getD_ (dVar 2) (dVar 12)) (wipeR (hid (pρ o t F C L s5 a b St (.pu (tupK T)) (.pu (.list ((brs (Zf C) T).map kD))))) [12]) ((brs (Zf C) T).map kD)).map PyData.list else none) = _
      rw [if_pos hlen, hl2, hm]
      rfl
    have h4 : dCall sumD (dCons (dLc (iSeq (dVar 10)) (.one 12) tTrue (d2 getD_ (dVar 2) (dVar 12)) [12]) dNil) (hid (pρ o t F C L s5 a b St (.pu (tupK T)) (.pu (.list ((brs (Zf C) T).map kD))))) = some (.int ((brs (Zf C) T).map F.f).sum) := by
      show ((dLc (iSeq (dVar 10)) (.one 12) tTrue (d2 getD_ (dVar 2) (dVar 12)) [12] (hid (pρ o t F C L s5 a b St (.pu (tupK T)) (.pu (.list ((brs (Zf C) T).map kD)))))).bind fun d => some [d]).bind sumD = _
      rw [h3]
      exact sum_eq _
    show (some (PyData.int b)).bind (fun x => ((some (PyData.int 2)).bind fun u => (dCall sumD (dCons (dLc (iSeq (dVar 10)) (.one 12) tTrue (d2 getD_ (dVar 2) (dVar 12)) [12]) dNil) (hid (pρ o t F C L s5 a b St (.pu (tupK T)) (.pu (.list ((brs (Zf C) T).map kD)))))).bind fun y => mulD u y).bind fun y => addD x y) = _
    rw [h4]
    rfl
  unfold priB
  rw [sSeq_nx (set_eq e1)]
  show sSeq (sSet 5 _) _ (pρ o t F C L s5 a b St (.pu (tupK T)) (.pu (.list ((brs (Zf C) T).map kD)))) = _
  rw [sSeq_nx (set_eq e2)]
  show sApp 4 _ (pρ o t F C L (.pu (.int (b + 2 * ((brs (Zf C) T).map F.f).sum))) a b St (.pu (tupK T)) (.pu (.list ((brs (Zf C) T).map kD)))) = _
  rw [app_eq (ds := L) (d := priX F C a b T) rfl rfl hl]
  rfl
theorem pri_loop (o t : S3) (F C : P6) (a b : Int) (St : Sl) : ∀ (Ts : List (List (Fin 6))) (L : List D) (s5 s9 s10 : Sl), (∀ T ∈ Ts, ∃ k n, T = setK (arcL k n)) → L.length + Ts.length < 1000 → ∃ s5' s9' s10', forD (.one 9) priB (Ts.map tupK) (pρ o t F C L s5 a b St s9 s10) = some (.nx (pρ o t F C (L ++ Ts.map (priX F C a b)) s5' a b St s9' s10'))
  | [], L, s5, s9, s10, _, _ => ⟨s5, s9, s10, by rw [List.map_nil, List.map_nil, List.append_nil]; rfl⟩
  | T :: Ts, L, s5, s9, s10, hT, hl => by
    obtain ⟨k, n, rfl⟩ := hT T List.mem_cons_self
    obtain ⟨s5', s10', e⟩ := pri_body o t F C L s5 a b St s10 k n (by simp at hl; omega)
    obtain ⟨s5'', s9'', s10'', e'⟩ := pri_loop o t F C a b St Ts (L ++ [priX F C a b (setK (arcL k n))]) s5' (.pu (tupK (setK (arcL k n)))) s10' (fun T h => hT T (List.mem_cons_of_mem _ h)) (by rw [List.length_append]; simp at hl ⊢; omega)
    refine ⟨s5'', s9'', s10'', ?_⟩
    rw [List.map_cons]
    show sLoop (priB (pρ o t F C L s5 a b St (.pu (tupK (setK (arcL k n)))) s10)) (forD (.one 9) priB (Ts.map tupK)) = _
    rw [e]
    show forD (.one 9) priB (Ts.map tupK) (pρ o t F C (L ++ [priX F C a b (setK (arcL k n))]) s5' a b St (.pu (tupK (setK (arcL k n)))) s10') = _
    rw [e', List.append_assoc]
    rfl
/-- the free stretches, or one that is empty -/
def cand (E Z : Fin 6 → Bool) : List (List (Fin 6)) := if (sList E Z).isEmpty then [[]] else (sList E Z).map setK
theorem cand_arc (p q : Fin 6) (Z : Fin 6 → Bool) : ∀ T ∈ cand (Eb p q) Z, ∃ k n, T = setK (arcL k n) := fun T h => by
  unfold cand at h
  split at h
  · simp at h
    subst h
    exact ⟨0, 0, rfl⟩
  · obtain ⟨ks, hk, rfl⟩ := List.mem_map.mp h
    obtain ⟨k, n, rfl⟩ := isArc_ok (List.all_eq_true.mp (allZ_ok (allPQ_ok arcs_all p q) Z) ks hk)
    exact ⟨k, n, rfl⟩
theorem cand_len (E Z : Fin 6 → Bool) : (cand E Z).length ≤ 6 := by
  unfold cand
  split
  · simp
  · rw [List.length_map]
    unfold sList
    rw [List.length_map]
    exact List.length_filter_le (stT E Z) allk
theorem cand_ne (E Z : Fin 6 → Bool) : cand E Z ≠ [] := by
  unfold cand
  split
  · simp
  · rename_i h
    intro e
    have e2 := List.map_eq_nil_iff.mp e
    rw [e2] at h
    exact h rfl
theorem shp_all : (allPQ fun p q => allZ fun Z => SeqAt.shaped (.list (((sList (Eb p q) Z).map setK).map tupK))) = true := by decide +kernel
def priI : Rp → Option (List D) := (iSeq (dIf (tB_ (d2 neD (dVar 8) (dLst dNil))) (dVar 8) (dLst (dCons (dTup dNil) dNil))))
theorem pri_iter (o t : S3) (F C : P6) (a b : Int) : priI (hid (pρ o t F C [] .no a b (.pu (.list (((sList (Eb o.p t.p) (Zf C)).map setK).map tupK))) .no .no)) = some ((cand (Eb o.p t.p) (Zf C)).map tupK) := by
  have hs := allZ_ok (allPQ_ok shp_all o.p t.p) (Zf C)
  unfold cand
  generalize sList (Eb o.p t.p) (Zf C) = L at *
  cases L with
  | nil => kernel_rfl
  | cons x L =>
    have e : neD (.list (((x :: L).map setK).map tupK)) (.list []) = some (.bool true) := by
      unfold neD
      rw [hs]
      rfl
    have hT : (tB_ (d2 neD (dVar 8) (dLst dNil))) (hid (pρ o t F C [] .no a b (.pu (.list (((x :: L).map setK).map tupK))) .no .no)) = some true := by
      show (neD (.list (((x :: L).map setK).map tupK)) (.list [])).bind asB = _
      rw [e]
      rfl
    unfold priI iSeq
    rw [dIf_eq hT]
    rfl
theorem Lead.pricedIn {o t : S3} (h : Lead o t) (F : P6) (hF : F.Le) : F_priced_in [o.d, t.d, F.d] = some (.list ((cand (Eb o.p t.p) (Zf (tal o t))).map (priX F (tal o t) (siz (tal o t)) (wor (tal o t) F)))) := by
  have hc := h.counts
  generalize tal o t = C at *
  -- the first two lines
  have s1 : sPar [3, 4] (kP (dCall F_counts_in (dCons (dVar 0) (dCons (dVar 1) dNil))) (kO dNil kNil)) [.pu o.d, .pu t.d, .pu F.d, .no, .no, .no, .no, .no, .no, .no, .no, .no, .no] = some (.nx [.pu o.d, .pu t.d, .pu F.d, .pu C.d, .ow [], .no, .no, .no, .no, .no, .no, .no, .no]) := by
    have e : (kP (dCall F_counts_in (dCons (dVar 0) (dCons (dVar 1) dNil))) (kO dNil kNil)) (hid [.pu o.d, .pu t.d, .pu F.d, .no, .no, .no, .no, .no, .no, .no, .no, .no, .no]) = some [.pu C.d, .ow []] := by
      show (F_counts_in [o.d, t.d]).bind _ = _
      rw [hc]
      rfl
    rw [par_eq e rfl]
    rfl
  let ρ1 : Rs := [.pu o.d, .pu t.d, .pu F.d, .pu C.d, .ow [], .no, .no, .no, .no, .no, .no, .no, .no]
  let l1 : Rp → Option D := (dLc (iSeq (dVar 3)) (.one 11) tTrue (dCall absD (dCons (dVar 11) dNil)) [11])
  let l2 : Rp → Option D := (dLc (iZipD (dVar 3) (dVar 2)) (.many [11, 5]) tTrue (d2 mulD (dCall absD (dCons (dVar 11) dNil)) (dVar 5)) [11, 5])
  have e1 : l1 (hid ρ1) = some (.list ((allk.map fun k => ab (C.f k)).map .int)) := by kernel_rfl
  have e2 : l2 (hid ρ1) = some (.list ((allk.map fun k => ab (C.f k) * F.f k).map .int)) := by
    have e : l2 (hid ρ1) = (lcD (Tgt.many [11, 5]).bindR tTrue (d2 mulD (dCall absD (dCons (dVar 11) dNil)) (dVar 5)) (wipeR (hid ρ1) [11, 5]) (allk.map fun k => .tuple [.int (C.f k), .int (F.f k)])).map .list := by kernel_rfl
    rw [e, lc_gen (g := fun k => .int (ab (C.f k) * F.f k)) fun k hk => ?_]
    · rw [List.map_map]
      rfl
    · clear hk
      refine ⟨_, rfl, ?_⟩
      exact Eq.trans (b := mulD (.int (ab (C.f k))) (.int (F.f k))) rfl (mul_eq (by have := hF k; omega))
  have s2 : sPar [6, 7] (kP (dCall sumD (dCons l1 dNil)) (kP (dCall sumD (dCons l2 dNil)) kNil)) ρ1 = some (.nx (pρ o t F C [] .no (siz C) (wor C F) .no .no .no)) := by
    have e : (kP (dCall sumD (dCons l1 dNil)) (kP (dCall sumD (dCons l2 dNil)) kNil)) (hid ρ1) = some [.pu (.int (siz C)), .pu (.int (wor C F))] := by
      show (((l1 (hid ρ1)).bind fun d => some [d]).bind sumD).bind (fun d => (((((l2 (hid ρ1)).bind fun d => some [d]).bind sumD).bind fun d => some [Sl.pu d])).bind fun ss => some (.pu d :: ss)) = _
      rw [e1, e2]
      show (sumD [.list ((allk.map fun k => ab (C.f k)).map .int)]).bind (fun d => (((sumD [.list ((allk.map fun k => ab (C.f k) * F.f k).map .int)]).bind fun d => some [Sl.pu d])).bind fun ss => some (.pu d :: ss)) = _
      rw [sum_eq, sum_eq]
      rfl
    rw [par_eq e rfl]
    rfl
  let St : D := .list (((sList (Eb o.p t.p) (Zf C)).map setK).map tupK)
  have e3 : (dLc (iSeq (dCall F_stretches_in (dCons (d2 getD_ (dVar 0) (dC (.int 0))) (dCons (d2 getD_ (dVar 1) (dC (.int 0))) (dCons (dVar 3) dNil))))) (.one 11) tTrue (dCall F_set_of (dCons (dVar 11) dNil)) [11]) (hid (pρ o t F C [] .no (siz C) (wor C F) .no .no .no)) = some St := by
    have e : (dLc (iSeq (dCall F_stretches_in (dCons (d2 getD_ (dVar 0) (dC (.int 0))) (dCons (d2 getD_ (dVar 1) (dC (.int 0))) (dCons (dVar 3) dNil))))) (.one 11) tTrue (dCall F_set_of (dCons (dVar 11) dNil)) [11]) (hid (pρ o t F C [] .no (siz C) (wor C F) .no .no .no)) =
      ((F_stretches_in [(shp o.p).d, (shp t.p).d, C.d]).bind itemsD).bind fun ds => if ds.length ≤ 100000 then (lcD (Tgt.one 11).bindR tTrue (dCall F_set_of (dCons (dVar 11) dNil)) (wipeR (hid (pρ o t F C [] .no (siz C) (wor C F) .no .no .no)) [11]) ds).map .list else none := by kernel_rfl
    rw [e, F_str_eq]
    show (if ((sList (Eb o.p t.p) (Zf C)).map tupK).length ≤ 100000 then (lcD (Tgt.one 11).bindR tTrue (dCall F_set_of (dCons (dVar 11) dNil)) (wipeR (hid (pρ o t F C [] .no (siz C) (wor C F) .no .no .no)) [11]) ((sList (Eb o.p t.p) (Zf C)).map tupK)).map PyData.list else none) = _
    have hlen : ((sList (Eb o.p t.p) (Zf C)).map tupK).length ≤ 100000 := by
      rw [List.length_map]
      unfold sList
      rw [List.length_map]
      have : (allk.filter (stT (Eb o.p t.p) (Zf C))).length ≤ allk.length := List.length_filter_le _ _
      have h6 : allk.length = 6 := rfl
      omega
    rw [if_pos hlen, lc_one (g := fun ks => tupK (setK ks)) fun ks hk => Eq.trans (b := F_set_of [tupK ks]) rfl (F_set_str o.p t.p (Zf C) hk)]
    show some (PyData.list _) = _
    rw [show ((sList (Eb o.p t.p) (Zf C)).map fun ks => tupK (setK ks)) = ((sList (Eb o.p t.p) (Zf C)).map setK).map tupK by rw [List.map_map]; rfl]
  have e4 := pri_iter o t F C (siz C) (wor C F)
  obtain ⟨s5', s9', s10', e5⟩ := pri_loop o t F C (siz C) (wor C F) (.pu St) (cand (Eb o.p t.p) (Zf C)) [] .no .no .no (cand_arc _ _ _) (by have := cand_len (Eb o.p t.p) (Zf C); simp; omega)
  have e0 : F_priced_in [o.d, t.d, F.d] = outD (sSeq (sPar [3, 4] (kP (dCall F_counts_in (dCons (dVar 0) (dCons (dVar 1) dNil))) (kO dNil kNil))) (sSeq (sPar [6, 7] (kP (dCall sumD (dCons l1 dNil)) (kP (dCall sumD (dCons l2 dNil)) kNil)))
    (sSeq (sSet 8 (dLc (iSeq (dCall F_stretches_in (dCons (d2 getD_ (dVar 0) (dC (.int 0))) (dCons (d2 getD_ (dVar 1) (dC (.int 0))) (dCons (dVar 3) dNil))))) (.one 11) tTrue (dCall F_set_of (dCons (dVar 11) dNil)) [11]))
    (sSeq (sFor priI (.one 9) priB) (sRet (dVar 4))))) [.pu o.d, .pu t.d, .pu F.d, .no, .no, .no, .no, .no, .no, .no, .no, .no, .no]) := by kernel_rfl
  rw [e0, sSeq_nx s1, sSeq_nx s2, sSeq_nx (set_eq e3)]
  show outD (sThen ((priI (hid (pρ o t F C [] .no (siz C) (wor C F) (.pu St) .no .no))).bind fun ds => forD (.one 9) priB ds (pρ o t F C [] .no (siz C) (wor C F) (.pu St) .no .no)) (sRet (dVar 4))) = _
  rw [e4, Option.bind_some, e5]
  rfl
end DL

/-! P8: the least price. -/
namespace DL
open PySem PySem.Spec PyProof.Rows L2

def lexle (u v : Int × Int) : Prop := u.1 < v.1 ∨ (u.1 = v.1 ∧ u.2 ≤ v.2)
theorem lexle.refl (u : Int × Int) : lexle u u := .inr ⟨rfl, Int.le_refl _⟩
theorem lexle.trans {u v w : Int × Int} (a : lexle u v) (b : lexle v w) : lexle u w := by
  unfold lexle at *
  omega
theorem lexle.anti {u v : Int × Int} (a : lexle u v) (b : lexle v u) : u = v := by
  unfold lexle at *
  have h1 : u.1 = v.1 := by omega
  have h2 : u.2 = v.2 := by omega
  exact Prod.ext h1 h2
abbrev Tr := (Int × Int) × List (Fin 6)
def td (u : Tr) : D := trD u.1.1 u.1.2 u.2
theorem lt_td (u v : Tr) : PySem.W.dataLt (td u) (td v) = if u.1.1 = v.1.1 then (if u.1.2 = v.1.2 then PyProof.Rows.lexLt itemOrd (PySem.W.keyToksAll [tupK u.2]) (PySem.W.keyToksAll [tupK v.2]) else decide (u.1.2 < v.1.2)) else decide (u.1.1 < v.1.1) := by
  unfold td trD
  rw [PySem.W.dataLt_tuple, PySem.W.dataLt_cons (by simp [PySem.W.alike]), PySem.W.dataLt_cons (by simp [PySem.W.alike]), PySem.W.dataLt_int, PySem.W.dataLt_int]
  simp only [PyData.eqv, beq_iff_eq]
theorem lt_le {u v : Tr} (h : PySem.W.dataLt (td u) (td v) = true) : lexle u.1 v.1 := by
  rw [lt_td] at h
  split at h
  · split at h
    · rename_i h1 h2
      exact .inr ⟨h1, Int.le_of_eq h2⟩
    · rename_i h1 h2
      exact .inr ⟨h1, Int.le_of_lt (of_decide_eq_true h)⟩
  · exact .inl (of_decide_eq_true h)
theorem not_lt_le {u v : Tr} (h : PySem.W.dataLt (td u) (td v) = false) : lexle v.1 u.1 := by
  rw [lt_td] at h
  split at h
  · split at h
    · rename_i h1 h2
      exact .inr ⟨h1.symm, Int.le_of_eq h2.symm⟩
    · rename_i h1 h2
      have := of_decide_eq_false h
      exact .inr ⟨h1.symm, by omega⟩
  · rename_i h1
    have := of_decide_eq_false h
    exact .inl (by omega)
theorem min_td : ∀ (xs : List Tr) (x : Tr), ∃ r, r ∈ x :: xs ∧ PySem.W.minD (td x) (xs.map td) = td r ∧ ∀ u ∈ x :: xs, lexle r.1 u.1
  | [], x => ⟨x, List.mem_cons_self, rfl, fun u hu => by
    cases hu with
    | head => exact .refl _
    | tail _ h => cases h⟩
  | y :: xs, x => by
    have e : PySem.W.minD (td x) ((y :: xs).map td) = PySem.W.minD (if PySem.W.dataLt (td y) (td x) then td y else td x) (xs.map td) := rfl
    rw [e]
    cases hb : PySem.W.dataLt (td y) (td x) with
    | true =>
      obtain ⟨r, h1, h2, h3⟩ := min_td xs y
      rw [if_pos rfl]
      refine ⟨r, List.mem_cons_of_mem _ h1, h2, fun u hu => ?_⟩
      rcases List.mem_cons.mp hu with rfl | hu
      · exact (h3 y List.mem_cons_self).trans (lt_le hb)
      · exact h3 u hu
    | false =>
      obtain ⟨r, h1, h2, h3⟩ := min_td xs x
      rw [if_neg (by decide)]
      refine ⟨r, ?_, h2, fun u hu => ?_⟩
      · rcases List.mem_cons.mp h1 with rfl | h1
        · exact List.mem_cons_self
        · exact List.mem_cons_of_mem _ (List.mem_cons_of_mem _ h1)
      · rcases List.mem_cons.mp hu with rfl | hu
        · exact h3 _ List.mem_cons_self
        · rcases List.mem_cons.mp hu with rfl | hu
          · exact (h3 x List.mem_cons_self).trans (not_lt_le hb)
          · exact h3 u (List.mem_cons_of_mem _ hu)
theorem alikeK : ∀ T T' : List (Fin 6), PySem.W.alikeAll (T.map kD) (T'.map kD) = true
  | [], _ => by simp [PySem.W.alikeAll]
  | _ :: _, [] => by simp [PySem.W.alikeAll]
  | a :: T, b :: T' => by
    rw [List.map_cons, List.map_cons, PySem.W.alikeAll, alikeK T T']
    simp [kD, PySem.W.alike]
theorem alike_td (u v : Tr) : PySem.W.alike (td u) (td v) = true := by
  unfold td trD tupK
  simp only [PySem.W.alike, PySem.W.alikeAll, alikeK, Bool.and_true, Bool.true_and]
theorem alikeB_td (xs : List Tr) : alikeB (xs.map td) = true := by
  unfold alikeB
  rw [Bool.and_eq_true, List.all_eq_true, List.all_eq_true]
  refine ⟨fun x hx => List.all_eq_true.mpr fun y hy => ?_, fun x hx => ?_⟩
  · obtain ⟨u, _, rfl⟩ := List.mem_map.mp hx
    obtain ⟨v, _, rfl⟩ := List.mem_map.mp hy
    exact alike_td u v
  · obtain ⟨u, _, rfl⟩ := List.mem_map.mp hx
    rfl
theorem depthK : ∀ T : List (Fin 6), PyData.depthAll (T.map kD) = 0
  | [] => by rw [List.map_nil, PyData.depthAll]
  | a :: T => by
    rw [List.map_cons, PyData.depthAll, depthK T]
    simp [kD, PyData.depth]
theorem depth_td : ∀ xs : List Tr, PyData.depthAll (xs.map td) ≤ 2
  | [] => by rw [List.map_nil, PyData.depthAll]; omega
  | u :: xs => by
    rw [List.map_cons, PyData.depthAll]
    refine Nat.max_le.mpr ⟨?_, depth_td xs⟩
    unfold td trD tupK
    simp only [PyData.depth, PyData.depthAll, depthK]
    decide
theorem minLD_td (x : Tr) (xs : List Tr) : ∃ r, r ∈ x :: xs ∧ minLD [.list ((x :: xs).map td)] = some (td r) ∧ ∀ u ∈ x :: xs, lexle r.1 u.1 := by
  obtain ⟨r, h1, h2, h3⟩ := min_td xs x
  refine ⟨r, h1, ?_, h3⟩
  have hd := depth_td (x :: xs)
  have e : minLD [.list ((x :: xs).map td)] = if alikeB ((x :: xs).map td) = true ∧ PyData.depthAll ((x :: xs).map td) ≤ 50 then some (PySem.W.minD (td x) (xs.map td)) else none := rfl
  rw [e, if_pos ⟨alikeB_td _, by omega⟩, h2]
/-! ints -/
theorem foldl_min : ∀ (ns : List Int) (n : Int), ns.foldl min n ∈ n :: ns ∧ ∀ u ∈ n :: ns, ns.foldl min n ≤ u
  | [], n => ⟨List.mem_cons_self, fun u hu => by
    cases hu with
    | head => exact Int.le_refl _
    | tail _ h => cases h⟩
  | m :: ns, n => by
    obtain ⟨h1, h2⟩ := foldl_min ns (min n m)
    rw [List.foldl_cons]
    have hl := h2 _ List.mem_cons_self
    refine ⟨?_, fun u hu => ?_⟩
    · rcases List.mem_cons.mp h1 with e | h1
      · rw [e]
        by_cases h : n ≤ m
        · rw [Int.min_eq_left h]; exact List.mem_cons_self
        · rw [Int.min_eq_right (by omega)]; exact List.mem_cons_of_mem _ List.mem_cons_self
      · exact List.mem_cons_of_mem _ (List.mem_cons_of_mem _ h1)
    · rcases List.mem_cons.mp hu with rfl | hu
      · omega
      · rcases List.mem_cons.mp hu with rfl | hu
        · omega
        · exact h2 u (List.mem_cons_of_mem _ hu)
theorem alikeB_i (ns : List Int) : alikeB (ns.map .int) = true := by
  unfold alikeB
  rw [Bool.and_eq_true, List.all_eq_true, List.all_eq_true]
  refine ⟨fun x hx => List.all_eq_true.mpr fun y hy => ?_, fun x hx => ?_⟩
  · obtain ⟨u, _, rfl⟩ := List.mem_map.mp hx
    obtain ⟨v, _, rfl⟩ := List.mem_map.mp hy
    simp [PySem.W.alike]
  · obtain ⟨u, _, rfl⟩ := List.mem_map.mp hx
    rfl
theorem depth_i : ∀ ns : List Int, PyData.depthAll (ns.map .int) = 0
  | [] => by rw [List.map_nil, PyData.depthAll]
  | a :: T => by
    rw [List.map_cons, PyData.depthAll, depth_i T]
    simp [PyData.depth]
theorem minLD_i (n : Int) (ns : List Int) : minLD [.list ((n :: ns).map .int)] = some (.int (ns.foldl min n)) := by
  have e : minLD [.list ((n :: ns).map .int)] = if alikeB ((n :: ns).map .int) = true ∧ PyData.depthAll ((n :: ns).map .int) ≤ 50 then some (PySem.W.minD (.int n) (ns.map .int)) else none := rfl
  rw [e, if_pos ⟨alikeB_i _, by rw [depth_i]; omega⟩, PySem.W.minD_ints]
/-! the answers -/
def prc (C F : P6) (T : List (Fin 6)) : Int × Int := (wor C F + 2 * ((brs (Zf C) T).map F.f).sum, siz C + 2 * (((brs (Zf C) T).map kD).length : Int))
section
variable {o t : S3}
theorem Lead.least (h : Lead o t) (ho : Fr o.f) (ht : Fr t.f) (F : P6) (hF : F.Le) {a b c : D} (ha : a = o.d ∨ a = o.l) (hb : b = t.d ∨ b = t.l) (hc : c = F.d ∨ c = F.l) :
    ∃ T ∈ cand (Eb o.p t.p) (Zf (tal o t)), F_cheap_and_few [a, b, c] = some (.tuple [.int (prc (tal o t) F T).1, .int (prc (tal o t) F T).2]) ∧ F_cheapest [a, b, c] = some (.int (prc (tal o t) F T).1) ∧
      ∀ U ∈ cand (Eb o.p t.p) (Zf (tal o t)), lexle (prc (tal o t) F T) (prc (tal o t) F U) := by
  have hp := h.priced ho ht F hF.ok ha hb hc
  have hi := h.pricedIn F hF
  have hne := cand_ne (Eb o.p t.p) (Zf (tal o t))
  have hl6 := cand_len (Eb o.p t.p) (Zf (tal o t))
  generalize cand (Eb o.p t.p) (Zf (tal o t)) = Cs at *
  generalize tal o t = C at *
  have hi : F_priced_in [o.d, t.d, F.d] = some (.list ((Cs.map fun T => ((prc C F T, T) : Tr)).map td)) := by
    rw [hi, List.map_map]
    rfl
  cases Cs with
  | nil => exact absurd rfl hne
  | cons T0 Ts =>
    obtain ⟨r, r1, r2, r3⟩ := minLD_td (prc C F T0, T0) (Ts.map fun T => ((prc C F T, T) : Tr))
    have r1' : r ∈ (T0 :: Ts).map fun T => ((prc C F T, T) : Tr) := by rw [List.map_cons]; exact r1
    obtain ⟨T, hT, rfl⟩ := List.mem_map.mp r1'
    have least : ∀ U ∈ T0 :: Ts, lexle (prc C F T) (prc C F U) := fun U hU => r3 (prc C F U, U) (by rw [← List.map_cons (f := fun T => ((prc C F T, T) : Tr))]; exact List.mem_map_of_mem hU)
    have u1 : sUnp [3, 4, 5] (dCall F_sure_priced (dCons (dVar 0) (dCons (dVar 1) (dCons (dVar 2) dNil)))) [.pu a, .pu b, .pu c, .no, .no, .no] = some (.nx [.pu a, .pu b, .pu c, .pu o.d, .pu t.d, .pu F.d]) := by
      have e : (dCall F_sure_priced (dCons (dVar 0) (dCons (dVar 1) (dCons (dVar 2) dNil)))) (hid [.pu a, .pu b, .pu c, .no, .no, .no]) = some (.tuple [o.d, t.d, F.d]) := Eq.trans (b := F_sure_priced [a, b, c]) (by kernel_rfl) hp
      unfold sUnp
      rw [e]
      kernel_rfl
    refine ⟨T, hT, ?_, ?_, least⟩
    · have e0 : F_cheap_and_few [a, b, c] = outD (sSeq (sUnp [3, 4, 5] (dCall F_sure_priced (dCons (dVar 0) (dCons (dVar 1) (dCons (dVar 2) dNil))))) (sRet (dSl (dCall minLD (dCons (dCall F_priced_in (dCons (dVar 3) (dCons (dVar 4) (dCons (dVar 5) dNil)))) dNil)) pNo (pSo (dC (.int 2))))) [.pu a, .pu b, .pu c, .no, .no, .no]) := by kernel_rfl
      have e1 : dCall minLD (dCons (dCall F_priced_in (dCons (dVar 3) (dCons (dVar 4) (dCons (dVar 5) dNil)))) dNil) (opn [.pu a, .pu b, .pu c, .pu o.d, .pu t.d, .pu F.d]) = some (td (prc C F T, T)) := by
        have e : dCall minLD (dCons (dCall F_priced_in (dCons (dVar 3) (dCons (dVar 4) (dCons (dVar 5) dNil)))) dNil) (opn [.pu a, .pu b, .pu c, .pu o.d, .pu t.d, .pu F.d]) = ((F_priced_in [o.d, t.d, F.d]).bind fun d => some [d]).bind minLD := by kernel_rfl
        rw [e, hi]
        exact r2
      have e2 : (dSl (dCall minLD (dCons (dCall F_priced_in (dCons (dVar 3) (dCons (dVar 4) (dCons (dVar 5) dNil)))) dNil)) pNo (pSo (dC (.int 2)))) (opn [.pu a, .pu b, .pu c, .pu o.d, .pu t.d, .pu F.d]) = some (.tuple [.int (prc C F T).1, .int (prc C F T).2]) := by
        unfold dSl
        rw [e1]
        kernel_rfl
      rw [e0, sSeq_nx u1, sRet_eq e2]
      rfl
    · have e0 : F_cheapest [a, b, c] = outD (sSeq (sUnp [3, 4, 5] (dCall F_sure_priced (dCons (dVar 0) (dCons (dVar 1) (dCons (dVar 2) dNil))))) (sRet (dCall F_least_in (dCons (dVar 3) (dCons (dVar 4) (dCons (dVar 5) dNil))))) [.pu a, .pu b, .pu c, .no, .no, .no]) := by kernel_rfl
      have e1 : F_least_in [o.d, t.d, F.d] = some (.int ((Ts.map fun T => (prc C F T).1).foldl min (prc C F T0).1)) := by
        have e : F_least_in [o.d, t.d, F.d] = outD (((((F_priced_in [o.d, t.d, F.d]).bind itemsD).bind fun ds => if ds.length ≤ 100000 then (lcD (Tgt.one 3).bindR tTrue (d2 getD_ (dVar 3) (dC (.int 0))) [some o.d, some t.d, some F.d, none] ds).map PyData.list else none).bind fun d => some [d]).bind minLD |>.map Out.rt) := by kernel_rfl
        rw [e, hi]
        have hl : (((T0 :: Ts).map fun T => ((prc C F T, T) : Tr)).map td).length ≤ 100000 := by rw [List.length_map, List.length_map]; omega
        show outD (((if (((T0 :: Ts).map fun T => ((prc C F T, T) : Tr)).map td).length ≤ 100000 then (lcD (Tgt.one 3).bindR tTrue (d2 getD_ (dVar 3) (dC (.int 0))) [some o.d, some t.d, some F.d, none] (((T0 :: Ts).map fun T => ((prc C F T, T) : Tr)).map td)).map PyData.list else none).bind fun d => some [d]).bind minLD |>.map Out.rt) = _
        rw [if_pos hl, lc_one (g := fun u : Tr => .int u.1.1) fun u _ => rfl]
        show outD ((minLD [.list (((T0 :: Ts).map fun T => ((prc C F T, T) : Tr)).map fun u => PyData.int u.1.1)]).map Out.rt) = _
        have em : (((T0 :: Ts).map fun T => ((prc C F T, T) : Tr)).map fun u => PyData.int u.1.1) = ((prc C F T0).1 :: Ts.map fun T => (prc C F T).1).map .int := by
          rw [List.map_map, List.map_cons, List.map_cons, List.map_map]
          rfl
        rw [em, minLD_i]
        rfl
      have e2 : (dCall F_least_in (dCons (dVar 3) (dCons (dVar 4) (dCons (dVar 5) dNil)))) (opn [.pu a, .pu b, .pu c, .pu o.d, .pu t.d, .pu F.d]) = some (.int (prc C F T).1) := by
        have e : (dCall F_least_in (dCons (dVar 3) (dCons (dVar 4) (dCons (dVar 5) dNil)))) (opn [.pu a, .pu b, .pu c, .pu o.d, .pu t.d, .pu F.d]) = F_least_in [o.d, t.d, F.d] := by kernel_rfl
        obtain ⟨m1, m2⟩ := foldl_min (Ts.map fun T => (prc C F T).1) (prc C F T0).1
        have m1' : (Ts.map fun T => (prc C F T).1).foldl min (prc C F T0).1 ∈ (T0 :: Ts).map fun T => (prc C F T).1 := by rw [List.map_cons]; exact m1
        obtain ⟨U, hU, eU⟩ := List.mem_map.mp m1'
        have h1 := least U hU
        have h2 := m2 (prc C F T).1 (by rw [← List.map_cons (f := fun T => (prc C F T).1)]; exact List.mem_map_of_mem hT)
        rw [e, e1]
        unfold lexle at h1
        have : (Ts.map fun T => (prc C F T).1).foldl min (prc C F T0).1 = (prc C F T).1 := by
          have eU : (prc C F U).1 = (Ts.map fun T => (prc C F T).1).foldl min (prc C F T0).1 := eU
          omega
        rw [this]
      rw [e0, sSeq_nx u1, sRet_eq e2]
      rfl
end
end DL

/-! P9: lots that hang together. -/
namespace DL
open PySem PySem.Spec PyProof.Rows L2

theorem d2_eq {g : D → D → Option D} {fa fb : Rp → Option D} {ρ : Rp} {x y : D} (h1 : fa ρ = some x) (h2 : fb ρ = some y) : d2 g fa fb ρ = g x y := by
  unfold d2
  rw [h1, h2]
  rfl
theorem layK : ∀ T : List (Fin 6), PyData.canLayAll0 (T.map kD) = true
  | [] => by rw [List.map_nil, PyData.canLayAll0]
  | a :: T => by
    rw [List.map_cons, PyData.canLayAll0, layK T]
    simp [kD, PyData.canLay0]
theorem shapedL (T : List (Fin 6)) : SeqAt.shaped (.list (T.map kD)) = true := by
  unfold SeqAt.shaped
  simp only [PyData.canLay0, PyData.depth, layK, depthK]
  decide
theorem shapedT (T : List (Fin 6)) : SeqAt.shaped (tupK T) = true := by
  unfold SeqAt.shaped tupK
  simp only [PyData.canLay0, PyData.depth, layK, depthK]
  decide
theorem shapedk (k : Fin 6) : SeqAt.shaped (kD k) = true := by
  unfold SeqAt.shaped kD
  simp only [PyData.canLay0, PyData.depth]
  rfl
theorem eqvk (a b : Fin 6) : PyData.eqv (kD a) (kD b) = decide (a = b) := by
  unfold kD
  rw [PyData.eqv, Bool.eq_iff_iff, beq_iff_eq, decide_eq_true_eq, Fin.ext_iff]
  omega
theorem anyK (T : List (Fin 6)) (k : Fin 6) : ((T.map kD).any fun z => PyData.eqv z (kD k)) = T.contains k := by
  induction T with
  | nil => rfl
  | cons a T ih =>
    rw [List.map_cons, List.any_cons, ih, eqvk, List.contains_cons]
    congr 1
    rw [Bool.eq_iff_iff, decide_eq_true_eq, beq_iff_eq]
    exact eq_comm
theorem in_L (T : List (Fin 6)) (k : Fin 6) : inD (kD k) (.list (T.map kD)) = some (.bool (T.contains k)) := by
  show (if (SeqAt.shaped (kD k) && SeqAt.shaped (.list (T.map kD))) = true then some (PyData.bool ((T.map kD).any fun z => PyData.eqv z (kD k))) else none) = _
  rw [shapedk, shapedL, anyK]
  rfl
theorem ni_L (T : List (Fin 6)) (k : Fin 6) : niD (kD k) (.list (T.map kD)) = some (.bool (!T.contains k)) := by
  show (if (SeqAt.shaped (kD k) && SeqAt.shaped (.list (T.map kD))) = true then some (PyData.bool (!(T.map kD).any fun z => PyData.eqv z (kD k))) else none) = _
  rw [shapedk, shapedL, anyK]
  rfl
theorem ni_T (T : List (Fin 6)) (k : Fin 6) : niD (kD k) (tupK T) = some (.bool (!T.contains k)) := by
  show (if (SeqAt.shaped (kD k) && SeqAt.shaped (tupK T)) = true then some (PyData.bool (!(T.map kD).any fun z => PyData.eqv z (kD k))) else none) = _
  rw [shapedk, shapedT, anyK]
  rfl
theorem eq_nil (T : List (Fin 6)) : eqD (.list (T.map kD)) (.list []) = some (.bool T.isEmpty) := by
  show (if (SeqAt.shaped (.list (T.map kD)) && SeqAt.shaped (.list [])) = true then some (PyData.bool (PyData.eqv (.list (T.map kD)) (.list []))) else none) = _
  rw [shapedL]
  cases T with
  | nil => rfl
  | cons a T => rfl
/-! ### the model -/
def ad1 (s : List (Fin 6)) (k : Fin 6) : List (Fin 6) := if (s.contains k && !s.contains (k + 1)) = true then s ++ [k + 1] else s
def ad2 (s : List (Fin 6)) (k : Fin 6) : List (Fin 6) := if (s.contains (k + 1) && !s.contains k) = true then s ++ [k] else s
def inn (s : List (Fin 6)) (k : Fin 6) : List (Fin 6) := ad2 (ad1 s k) k
def lapM (lot s : List (Fin 6)) : List (Fin 6) := lot.foldl inn s
def lapsM (lot : List (Fin 6)) : Nat → List (Fin 6) → List (Fin 6)
  | 0, s => s
  | n + 1, s => lapsM lot n (lapM lot s)
def hgM (lot : List (Fin 6)) (p q : Fin 6) : Bool := (lapsM lot 6 [p]).contains q && (lot.filter fun k => !(lapsM lot 6 [p]).contains k).isEmpty
def hρ (lot : List (Fin 6)) (p q : Fin 6) (s : List (Fin 6)) (a b c : Sl) : Rs := [.pu (tupK lot), .pu (kD p), .pu (kD q), .ow (s.map kD), a, b, c]
def hT1 : Rp → Option Bool := (tAnd_ (tB_ (d2 inD (dVar 5) (dVar 3))) (tB_ (d2 niD (dVar 6) (dVar 3))))
def hT2 : Rp → Option Bool := (tAnd_ (tB_ (d2 inD (dVar 6) (dVar 3))) (tB_ (d2 niD (dVar 5) (dVar 3))))
def hB : Rs → Option Out := (sSeq (sSet 6 (d2 modD (dCall intD (dCons (d2 addD (dVar 5) (dC (.int 1))) dNil)) (dC (.int 6))))
    (sSeq (sIf hT1 (sApp 3 (dVar 6)) sNext)
    (sIf hT2 (sApp 3 (dVar 5)) sNext)))
theorem ad1_len (s : List (Fin 6)) (k : Fin 6) : (ad1 s k).length ≤ s.length + 1 := by
  unfold ad1
  split
  · simp
  · omega
theorem ad2_len (s : List (Fin 6)) (k : Fin 6) : (ad2 s k).length ≤ s.length + 1 := by
  unfold ad2
  split
  · simp
  · omega
theorem h_body (lot : List (Fin 6)) (p q : Fin 6) (s : List (Fin 6)) (a c : Sl) (k : Fin 6) (hl : s.length < 900) : ∃ c', hB (hρ lot p q s a (.pu (kD k)) c) = some (.nx (hρ lot p q (inn s k) a (.pu (kD k)) c')) := by
  have e1 : (d2 modD (dCall intD (dCons (d2 addD (dVar 5) (dC (.int 1))) dNil)) (dC (.int 6))) (hid (hρ lot p q s a (.pu (kD k)) c)) = some (kD (k + 1)) := by
    have e : (d2 modD (dCall intD (dCons (d2 addD (dVar 5) (dC (.int 1))) dNil)) (dC (.int 6))) (hid (hρ lot p q s a (.pu (kD k)) c)) = some (.int (((k.val : Int) + 1) % 6)) := by kernel_rfl
    rw [e]
    revert k
    refine all6 ?_ ?_ ?_ ?_ ?_ ?_ <;> intros <;> rfl
  have t1 : hT1 (opn (hρ lot p q s a (.pu (kD k)) (.pu (kD (k + 1))))) = some (s.contains k && !s.contains (k + 1)) := by
    refine tAnd_eq ?_ ?_
    · show (inD (kD k) (.list (s.map kD))).bind asB = _
      rw [in_L]
      rfl
    · show (niD (kD (k + 1)) (.list (s.map kD))).bind asB = _
      rw [ni_L]
      rfl
  have b1 : sIf hT1 (sApp 3 (dVar 6)) sNext (hρ lot p q s a (.pu (kD k)) (.pu (kD (k + 1)))) = some (.nx (hρ lot p q (ad1 s k) a (.pu (kD k)) (.pu (kD (k + 1))))) := by
    rw [sIf_eq t1]
    unfold ad1
    cases (s.contains k && !s.contains (k + 1)) with
    | false => rfl
    | true =>
      rw [if_pos rfl, if_pos rfl, app_eq (ds := s.map kD) (d := kD (k + 1)) rfl rfl (by rw [List.length_map]; omega)]
      unfold hρ
      rw [List.map_append]
      rfl
  have hl1 := ad1_len s k
  unfold inn
  generalize ad1 s k = s1 at *
  have t2 : hT2 (opn (hρ lot p q s1 a (.pu (kD k)) (.pu (kD (k + 1))))) = some (s1.contains (k + 1) && !s1.contains k) := by
    refine tAnd_eq ?_ ?_
    · show (inD (kD (k + 1)) (.list (s1.map kD))).bind asB = _
      rw [in_L]
      rfl
    · show (niD (kD k) (.list (s1.map kD))).bind asB = _
      rw [ni_L]
      rfl
  have b2 : sIf hT2 (sApp 3 (dVar 5)) sNext (hρ lot p q s1 a (.pu (kD k)) (.pu (kD (k + 1)))) = some (.nx (hρ lot p q (ad2 s1 k) a (.pu (kD k)) (.pu (kD (k + 1))))) := by
    rw [sIf_eq t2]
    unfold ad2
    cases (s1.contains (k + 1) && !s1.contains k) with
    | false => rfl
    | true =>
      rw [if_pos rfl, if_pos rfl, app_eq (ds := s1.map kD) (d := kD k) rfl rfl (by rw [List.length_map]; omega)]
      unfold hρ
      rw [List.map_append]
      rfl
  refine ⟨.pu (kD (k + 1)), ?_⟩
  unfold hB
  rw [sSeq_nx (set_eq e1)]
  show sSeq _ _ (hρ lot p q s a (.pu (kD k)) (.pu (kD (k + 1)))) = _
  rw [sSeq_nx b1, b2]
theorem inn_len (s : List (Fin 6)) (k : Fin 6) : (inn s k).length ≤ s.length + 2 := by
  have h1 := ad1_len s k
  have h2 := ad2_len (ad1 s k) k
  unfold inn
  omega
theorem h_lap (lot : List (Fin 6)) (p q : Fin 6) (a : Sl) : ∀ (ks : List (Fin 6)) (s : List (Fin 6)) (b c : Sl), s.length + 2 * ks.length < 900 → ∃ b' c', forD (.one 5) hB (ks.map kD) (hρ lot p q s a b c) = some (.nx (hρ lot p q (ks.foldl inn s) a b' c')) ∧ (ks.foldl inn s).length ≤ s.length + 2 * ks.length
  | [], s, b, c, h => ⟨b, c, rfl, by simp⟩
  | k :: ks, s, b, c, h => by
    simp only [List.length_cons] at h
    obtain ⟨c', e⟩ := h_body lot p q s a c k (by omega)
    have hi := inn_len s k
    obtain ⟨b'', c'', e', hl⟩ := h_lap lot p q a ks (inn s k) (.pu (kD k)) c' (by omega)
    refine ⟨b'', c'', ?_, by simp only [List.length_cons, List.foldl_cons]; omega⟩
    rw [List.map_cons]
    show sLoop (hB (hρ lot p q s a (.pu (kD k)) c)) (forD (.one 5) hB (ks.map kD)) = _
    rw [e]
    exact e'
theorem h_laps (lot : List (Fin 6)) (p q : Fin 6) (hl : lot.length ≤ 6) : ∀ (js : List D) (s : List (Fin 6)) (a b c : Sl), s.length + 12 * js.length < 900 → ∃ a' b' c', forD (.one 4) (sFor (iSeq (dVar 0)) (.one 5) hB) js (hρ lot p q s a b c) = some (.nx (hρ lot p q (lapsM lot js.length s) a' b' c'))
  | [], s, a, b, c, h => ⟨a, b, c, rfl⟩
  | j :: js, s, a, b, c, h => by
    simp only [List.length_cons] at h
    obtain ⟨b', c', e, hk⟩ := h_lap lot p q (.pu j) lot s b c (by omega)
    obtain ⟨a'', b'', c'', e'⟩ := h_laps lot p q hl js (lapM lot s) (.pu j) b' c' (by unfold lapM; omega)
    refine ⟨a'', b'', c'', ?_⟩
    show sLoop (forD (.one 5) hB (lot.map kD) (hρ lot p q s (.pu j) b c)) (forD (.one 4) (sFor (iSeq (dVar 0)) (.one 5) hB) js) = _
    rw [e]
    exact e'
theorem rangeD6 : (rangeD 6).length = 6 := by decide
theorem F_hangs_eq (lot : List (Fin 6)) (p q : Fin 6) (hl : lot.length ≤ 6) : F_l_hangs [tupK lot, kD p, kD q] = some (.bool (hgM lot p q)) := by
  obtain ⟨a, b, c, e⟩ := h_laps lot p q hl (rangeD 6) [p] .no .no .no (by rw [rangeD6]; simp)
  have e6 : (rangeD 6).length = 6 := by decide
  rw [e6] at e
  unfold hgM
  generalize lapsM lot 6 [p] = s at *
  have e0 : F_l_hangs [tupK lot, kD p, kD q] = outD (sThen (forD (.one 4) (sFor (iSeq (dVar 0)) (.one 5) hB) (rangeD 6) (hρ lot p q [p] .no .no .no)) (sRet (vAnd (d2 inD (dVar 2) (dVar 3)) (d2 eqD (dLc (iSeq (dVar 0)) (.one 5) (tB_ (d2 niD (dVar 5) (dVar 3))) (dVar 5) [5]) (dLst dNil))))) := by kernel_rfl
  have hlc : lcD (Tgt.one 5).bindR (tB_ (d2 niD (dVar 5) (dVar 3))) (dVar 5) (wipeR (opn (hρ lot p q s a b c)) [5]) (lot.map kD) = some ((lot.filter fun k => !s.contains k).map kD) := lc_if (fun k hk => by
    show (niD (kD k) (.list (s.map kD))).bind asB = _
    rw [ni_L]
    rfl) (fun k hk hb => rfl)
  have e2 : (dLc (iSeq (dVar 0)) (.one 5) (tB_ (d2 niD (dVar 5) (dVar 3))) (dVar 5) [5]) (opn (hρ lot p q s a b c)) = some (.list ((lot.filter fun k => !s.contains k).map kD)) := by
    show (if (lot.map kD).length ≤ 100000 then (lcD (Tgt.one 5).bindR (tB_ (d2 niD (dVar 5) (dVar 3))) (dVar 5) (wipeR (opn (hρ lot p q s a b c)) [5]) (lot.map kD)).map PyData.list else none) = _
    rw [if_pos (by rw [List.length_map]; omega), hlc]
    rfl
  have e3 : (d2 eqD (dLc (iSeq (dVar 0)) (.one 5) (tB_ (d2 niD (dVar 5) (dVar 3))) (dVar 5) [5]) (dLst dNil)) (opn (hρ lot p q s a b c)) = some (.bool (lot.filter fun k => !s.contains k).isEmpty) := by
    rw [d2_eq e2 (y := .list []) rfl]
    exact eq_nil _
  have e4 : (vAnd (d2 inD (dVar 2) (dVar 3)) (d2 eqD (dLc (iSeq (dVar 0)) (.one 5) (tB_ (d2 niD (dVar 5) (dVar 3))) (dVar 5) [5]) (dLst dNil))) (opn (hρ lot p q s a b c)) = some (.bool (s.contains q && (lot.filter fun k => !s.contains k).isEmpty)) := by
    unfold vAnd
    rw [e3]
    show (inD (kD q) (.list (s.map kD))).bind _ = _
    rw [in_L]
    cases s.contains q <;> rfl
  rw [e0, e]
  show outD (sRet _ (hρ lot p q s a b c)) = _
  rw [sRet_eq e4]
  rfl
end DL

/-! P10: thrift. -/
namespace DL
open PySem PySem.Spec PyProof.Rows L2

def bitK (m : Nat) (k : Fin 6) : Bool := m.testBit k.val
def ofM (m : Nat) : List (Fin 6) := allk.filter (bitK m)
theorem F_lots_eq : F_l_lots [] = some (.list ((List.range 64).map fun m => tupK (ofM m))) := by kernel_rfl
def oo (C : P6) (k : Fin 6) : Int := if (!(C.f k == 0)) = true then ab (C.f k) else 2
def mustK (C : P6) : List (Fin 6) := allk.filter fun k => !(C.f k == 0)
def okL (C : P6) (p q : Fin 6) (L : List (Fin 6)) : Bool := ((mustK C).filter fun k => !L.contains k).isEmpty && hgM L p q
def xL (C F : P6) (L : List (Fin 6)) : Tr := (((L.map fun k => oo C k * F.f k).sum, (L.map (oo C)).sum), allk.filter fun k => !L.contains k)
def bD : Option Tr → D
  | none => .none
  | some r => td r
def tρ (o t : S3) (F C : P6) (p q : Fin 6) (b : Option Tr) (s8 s9 s10 s11 : Sl) : Rs := [.pu o.d, .pu t.d, .pu F.d, .pu C.d, .pu (bD b), .pu (kD p), .pu (kD q), .pu (.list ((mustK C).map kD)), s8, s9, s10, s11, .no, .no]
def tE1 : Rp → Option D := (dLc (iSeq (dVar 7)) (.one 12) (tB_ (d2 niD (dVar 12) (dVar 8))) (dVar 12) [12])
def tT : Rp → Option Bool := (tAnd_ (tB_ (d2 eqD tE1 (dLst dNil))) (tB_ (dCall F_l_hangs (dCons (dVar 8) (dCons (dVar 5) (dCons (dVar 6) dNil))))))
def tE9 : Rp → Option D := (dLc (iSeq (dVar 8)) (.one 12) tTrue (dIf (tB_ (d2 neD (d2 getD_ (dVar 3) (dVar 12)) (dC (.int 0)))) (dCall absD (dCons (d2 getD_ (dVar 3) (dVar 12)) dNil)) (dC (.int 2))) [12])
def tE10 : Rp → Option D := (dCall sumD (dCons (dLc (iZipM (dVar 9) (dVar 8)) (.many [13, 12]) tTrue (d2 mulD (dVar 13) (d2 getD_ (dVar 2) (dVar 12))) [13, 12]) dNil))
def tE11 : Rp → Option D := (dCall tupleD (dCons (dLc (iRange (dC (.int 6))) (.one 12) (tB_ (d2 niD (dVar 12) (dVar 8))) (dVar 12) [12]) dNil))
def tE4 : Rp → Option D := (dCall minLD (dCons (dLc (iSeq (dLst (dCons (dVar 4) (dCons (dTup (dCons (dVar 10) (dCons (dCall sumD (dCons (dVar 9) dNil)) (dCons (dVar 11) dNil)))) dNil)))) (.one 13) (tB_ (d2 isntD (dVar 13) (dC .none))) (dVar 13) [13]) dNil))
def tB4 : Rs → Option Out := (sIf tT (sSeq (sSet 9 tE9) (sSeq (sSet 10 tE10) (sSeq (sSet 11 tE11) (sSet 4 tE4)))) sNext)
def Good (b : Option Tr) (xs : List Tr) : Prop := match b with
  | none => xs = []
  | some r => r ∈ xs ∧ ∀ u ∈ xs, lexle r.1 u.1
theorem getC (C : P6) (k : Fin 6) : getD_ C.d (kD k) = some (.int (C.f k)) := getF C k
theorem zip_map {α : Type} {f g : α → D} : ∀ xs : List α, zipD (xs.map f) (xs.map g) = xs.map fun x => .tuple [f x, g x]
  | [] => rfl
  | x :: xs => by rw [List.map_cons, List.map_cons, List.map_cons, zipD, zip_map xs]
theorem dCons_eq {f : Rp → Option D} {g : Rp → Option (List D)} {ρ : Rp} {d : D} {ds : List D} (h1 : f ρ = some d) (h2 : g ρ = some ds) : dCons f g ρ = some (d :: ds) := by
  unfold dCons
  rw [h1, h2]
  rfl
section
variable {o t : S3} {F C : P6} {p q : Fin 6}
theorem t_test (L : List (Fin 6)) (b : Option Tr) (s9 s10 s11 : Sl) (hl : L.length ≤ 6) : tT (opn (tρ o t F C p q b (.pu (tupK L)) s9 s10 s11)) = some (okL C p q L) := by
  have hlc : lcD (Tgt.one 12).bindR (tB_ (d2 niD (dVar 12) (dVar 8))) (dVar 12) (wipeR (opn (tρ o t F C p q b (.pu (tupK L)) s9 s10 s11)) [12]) ((mustK C).map kD) = some (((mustK C).filter fun k => !L.contains k).map kD) := lc_if (fun k hk => by
    show (niD (kD k) (tupK L)).bind asB = _
    rw [ni_T]
    rfl) (fun k hk hb => rfl)
  have hm : ((mustK C).map kD).length ≤ 100000 := by
    rw [List.length_map]
    have : (mustK C).length ≤ allk.length := List.length_filter_le _ _
    have h6 : allk.length = 6 := rfl
    omega
  have e1 : tE1 (opn (tρ o t F C p q b (.pu (tupK L)) s9 s10 s11)) = some (.list (((mustK C).filter fun k => !L.contains k).map kD)) := by
    show (if ((mustK C).map kD).length ≤ 100000 then (lcD (Tgt.one 12).bindR (tB_ (d2 niD (dVar 12) (dVar 8))) (dVar 12) (wipeR (opn (tρ o t F C p q b (.pu (tupK L)) s9 s10 s11)) [12]) ((mustK C).map kD)).map PyData.list else none) = _
    rw [if_pos hm, hlc]
    rfl
  refine tAnd_eq ?_ ?_
  · unfold tB_
    rw [d2_eq e1 (y := .list []) rfl, eq_nil]
    rfl
  · show (F_l_hangs [tupK L, kD p, kD q]).bind asB = _
    rw [F_hangs_eq L p q hl]
    rfl
theorem t_e9 (L : List (Fin 6)) (b : Option Tr) (s9 s10 s11 : Sl) (hl : L.length ≤ 6) : tE9 (hid (tρ o t F C p q b (.pu (tupK L)) s9 s10 s11)) = some (.list (L.map fun k => .int (oo C k))) := by
  have hlc : lcD (Tgt.one 12).bindR tTrue (dIf (tB_ (d2 neD (d2 getD_ (dVar 3) (dVar 12)) (dC (.int 0)))) (dCall absD (dCons (d2 getD_ (dVar 3) (dVar 12)) dNil)) (dC (.int 2))) (wipeR (hid (tρ o t F C p q b (.pu (tupK L)) s9 s10 s11)) [12]) (L.map kD) = some (L.map fun k => .int (oo C k)) := lc_one fun k hk => by
    have hT : (tB_ (d2 neD (d2 getD_ (dVar 3) (dVar 12)) (dC (.int 0)))) ((wipeR (hid (tρ o t F C p q b (.pu (tupK L)) s9 s10 s11)) [12]).set 12 (some (kD k))) = some (!(C.f k == 0)) := by
      show ((getD_ C.d (kD k)).bind fun x => (some (PyData.int 0)).bind fun y => neD x y).bind asB = _
      rw [getC]
      rfl
    have hA : (dCall absD (dCons (d2 getD_ (dVar 3) (dVar 12)) dNil)) ((wipeR (hid (tρ o t F C p q b (.pu (tupK L)) s9 s10 s11)) [12]).set 12 (some (kD k))) = some (.int (ab (C.f k))) := by
      show ((getD_ C.d (kD k)).bind fun d => some [d]).bind absD = _
      rw [getC]
      rfl
    rw [dIf_eq hT]
    unfold oo
    cases (!(C.f k == 0)) with
    | true => rw [if_pos rfl, if_pos rfl, hA]
    | false => rfl
  show (if (L.map kD).length ≤ 100000 then (lcD (Tgt.one 12).bindR tTrue (dIf (tB_ (d2 neD (d2 getD_ (dVar 3) (dVar 12)) (dC (.int 0)))) (dCall absD (dCons (d2 getD_ (dVar 3) (dVar 12)) dNil)) (dC (.int 2))) (wipeR (hid (tρ o t F C p q b (.pu (tupK L)) s9 s10 s11)) [12]) (L.map kD)).map PyData.list else none) = _
  rw [if_pos (by rw [List.length_map]; omega), hlc]
  rfl
theorem t_e10 (L : List (Fin 6)) (b : Option Tr) (s10 s11 : Sl) (hl : L.length ≤ 6) (hF : F.Le) : tE10 (hid (tρ o t F C p q b (.pu (tupK L)) (.pu (.list (L.map fun k => .int (oo C k)))) s10 s11)) = some (.int (L.map fun k => oo C k * F.f k).sum) := by
  have hlc : lcD (Tgt.many [13, 12]).bindR tTrue (d2 mulD (dVar 13) (d2 getD_ (dVar 2) (dVar 12))) (wipeR (hid (tρ o t F C p q b (.pu (tupK L)) (.pu (.list (L.map fun k => .int (oo C k)))) s10 s11)) [13, 12]) (L.map fun k => .tuple [.int (oo C k), kD k]) = some (L.map fun k => .int (oo C k * F.f k)) := lc_gen fun k hk => by
    refine ⟨_, rfl, ?_⟩
    show (some (PyData.int (oo C k))).bind (fun x => (getD_ F.d (kD k)).bind fun y => mulD x y) = _
    rw [getC]
    exact mul_eq (by have := hF k; omega)
  have hz : zipD (L.map fun k => .int (oo C k)) (L.map kD) = L.map fun k => .tuple [.int (oo C k), kD k] := zip_map L
  have hzl : zipMF (.list (L.map fun k => .int (oo C k))) (tupK L) = some (L.map fun k => .tuple [.int (oo C k), kD k]) := by
    unfold zipMF tupK
    rw [← hz]
    exact if_pos (by rw [List.length_map, List.length_map])
  have e : (dLc (iZipM (dVar 9) (dVar 8)) (.many [13, 12]) tTrue (d2 mulD (dVar 13) (d2 getD_ (dVar 2) (dVar 12))) [13, 12]) (hid (tρ o t F C p q b (.pu (tupK L)) (.pu (.list (L.map fun k => .int (oo C k)))) s10 s11)) = some (.list ((L.map fun k => oo C k * F.f k).map .int)) := by
    show ((zipMF (.list (L.map fun k => .int (oo C k))) (tupK L)).bind fun ds => if ds.length ≤ 100000 then (lcD (Tgt.many [13, 12]).bindR tTrue (d2 mulD (dVar 13) (d2 getD_ (dVar 2) (dVar 12))) (wipeR (hid (tρ o t F C p q b (.pu (tupK L)) (.pu (.list (L.map fun k => .int (oo C k)))) s10 s11)) [13, 12]) ds).map PyData.list else none) = _
    rw [hzl, Option.bind_some, if_pos (by rw [List.length_map]; omega), hlc, List.map_map]
    rfl
  show ((dLc (iZipM (dVar 9) (dVar 8)) (.many [13, 12]) tTrue (d2 mulD (dVar 13) (d2 getD_ (dVar 2) (dVar 12))) [13, 12] (hid (tρ o t F C p q b (.pu (tupK L)) (.pu (.list (L.map fun k => .int (oo C k)))) s10 s11))).bind fun d => some [d]).bind sumD = _
  rw [e]
  exact sum_eq _
theorem t_e11 (L : List (Fin 6)) (b : Option Tr) (s9 s10 s11 : Sl) : tE11 (hid (tρ o t F C p q b (.pu (tupK L)) s9 s10 s11)) = some (tupK (allk.filter fun k => !L.contains k)) := by
  have hlc : lcD (Tgt.one 12).bindR (tB_ (d2 niD (dVar 12) (dVar 8))) (dVar 12) (wipeR (hid (tρ o t F C p q b (.pu (tupK L)) s9 s10 s11)) [12]) (allk.map kD) = some ((allk.filter fun k => !L.contains k).map kD) := lc_if (fun k hk => by
    show (niD (kD k) (tupK L)).bind asB = _
    rw [ni_T]
    rfl) (fun k hk hb => rfl)
  have e : (dLc (iRange (dC (.int 6))) (.one 12) (tB_ (d2 niD (dVar 12) (dVar 8))) (dVar 12) [12]) (hid (tρ o t F C p q b (.pu (tupK L)) s9 s10 s11)) = (lcD (Tgt.one 12).bindR (tB_ (d2 niD (dVar 12) (dVar 8))) (dVar 12) (wipeR (hid (tρ o t F C p q b (.pu (tupK L)) s9 s10 s11)) [12]) (allk.map kD)).map .list := by kernel_rfl
  show ((dLc (iRange (dC (.int 6))) (.one 12) (tB_ (d2 niD (dVar 12) (dVar 8))) (dVar 12) [12] (hid (tρ o t F C p q b (.pu (tupK L)) s9 s10 s11))).bind fun d => some [d]).bind tupleD = _
  rw [e, hlc]
  rfl
theorem t_e4 (L : List (Fin 6)) (b : Option Tr) (s8 : Sl) (acc : List Tr) (hg : Good b acc) : ∃ r, tE4 (hid (tρ o t F C p q b s8 (.pu (.list (L.map fun k => .int (oo C k)))) (.pu (.int (L.map fun k => oo C k * F.f k).sum)) (.pu (tupK (allk.filter fun k => !L.contains k))))) = some (bD (some r)) ∧ Good (some r) (acc ++ [xL C F L]) := by
  let ρ := (hid (tρ o t F C p q b s8 (.pu (.list (L.map fun k => .int (oo C k)))) (.pu (.int (L.map fun k => oo C k * F.f k).sum)) (.pu (tupK (allk.filter fun k => !L.contains k)))))
  have hsum : sumD [.list (L.map fun k => .int (oo C k))] = some (.int (L.map (oo C)).sum) := by
    have := sum_eq (L.map (oo C))
    rw [List.map_map] at this
    exact this
  have hlc : lcD (Tgt.one 13).bindR (tB_ (d2 isntD (dVar 13) (dC .none))) (dVar 13) (wipeR ρ [13]) ([b, some (xL C F L)].map bD) = some (([b, some (xL C F L)].filter fun u => u.isSome).map bD) := lc_if (fun u hu => by
    cases u <;> rfl) (fun u hu hb => rfl)
  have e1 : (iSeq (dLst (dCons (dVar 4) (dCons (dTup (dCons (dVar 10) (dCons (dCall sumD (dCons (dVar 9) dNil)) (dCons (dVar 11) dNil)))) dNil)))) ρ = some ([b, some (xL C F L)].map bD) := by
    have a1 : dCall sumD (dCons (dVar 9) dNil) ρ = some (.int (L.map (oo C)).sum) := hsum
    have a2 : (dCons (dVar 10) (dCons (dCall sumD (dCons (dVar 9) dNil)) (dCons (dVar 11) dNil))) ρ = some [.int (L.map fun k => oo C k * F.f k).sum, .int (L.map (oo C)).sum, tupK (allk.filter fun k => !L.contains k)] := dCons_eq rfl (dCons_eq a1 (dCons_eq rfl rfl))
    have a3 : (dTup (dCons (dVar 10) (dCons (dCall sumD (dCons (dVar 9) dNil)) (dCons (dVar 11) dNil)))) ρ = some (td (xL C F L)) := by
      unfold dTup
      rw [a2]
      rfl
    have a4 : (dCons (dVar 4) (dCons (dTup (dCons (dVar 10) (dCons (dCall sumD (dCons (dVar 9) dNil)) (dCons (dVar 11) dNil)))) dNil)) ρ = some [bD b, td (xL C F L)] := dCons_eq rfl (dCons_eq a3 rfl)
    unfold iSeq dLst
    rw [a4]
    rfl
  have e2 : (dLc (iSeq (dLst (dCons (dVar 4) (dCons (dTup (dCons (dVar 10) (dCons (dCall sumD (dCons (dVar 9) dNil)) (dCons (dVar 11) dNil)))) dNil)))) (.one 13) (tB_ (d2 isntD (dVar 13) (dC .none))) (dVar 13) [13]) ρ = some (.list (([b, some (xL C F L)].filter fun u => u.isSome).map bD)) := by
    unfold dLc
    rw [e1, Option.bind_some, if_pos (by simp), hlc]
    rfl
  have e3 : tE4 ρ = minLD [.list (([b, some (xL C F L)].filter fun u => u.isSome).map bD)] := by
    show ((dLc (iSeq (dLst (dCons (dVar 4) (dCons (dTup (dCons (dVar 10) (dCons (dCall sumD (dCons (dVar 9) dNil)) (dCons (dVar 11) dNil)))) dNil)))) (.one 13) (tB_ (d2 isntD (dVar 13) (dC .none))) (dVar 13) [13] ρ).bind fun d => some [d]).bind minLD = _
    rw [e2]
    rfl
  show ∃ r, tE4 ρ = _ ∧ _
  rw [e3]
  cases b with
  | none =>
    obtain ⟨r, h1, h2, h3⟩ := minLD_td (xL C F L) []
    refine ⟨r, h2, ?_⟩
    have ha : acc = [] := hg
    subst ha
    exact ⟨h1, h3⟩
  | some b =>
    obtain ⟨r, h1, h2, h3⟩ := minLD_td b [xL C F L]
    obtain ⟨g1, g2⟩ := hg
    refine ⟨r, h2, ?_, fun u hu => ?_⟩
    · rcases List.mem_cons.mp h1 with rfl | h1
      · exact List.mem_append_left _ g1
      · exact List.mem_append_right _ h1
    · rcases List.mem_append.mp hu with hu | hu
      · exact (h3 b List.mem_cons_self).trans (g2 u hu)
      · exact h3 u (List.mem_cons_of_mem _ hu)
theorem t_loop (hF : F.Le) : ∀ (Ls : List (List (Fin 6))) (b : Option Tr) (acc : List Tr) (s8 s9 s10 s11 : Sl), (∀ L ∈ Ls, L.length ≤ 6) → Good b acc → ∃ b' s8' s9' s10' s11', forD (.one 8) tB4 (Ls.map tupK) (tρ o t F C p q b s8 s9 s10 s11) = some (.nx (tρ o t F C p q b' s8' s9' s10' s11')) ∧ Good b' (acc ++ (Ls.filter (okL C p q)).map (xL C F))
  | [], b, acc, s8, s9, s10, s11, _, hg => ⟨b, s8, s9, s10, s11, rfl, by simpa using hg⟩
  | L :: Ls, b, acc, s8, s9, s10, s11, hl, hg => by
    have hL := hl L List.mem_cons_self
    have hT := t_test (o := o) (t := t) (F := F) (C := C) (p := p) (q := q) L b s9 s10 s11 hL
    rw [List.map_cons]
    show ∃ b' s8' s9' s10' s11', sLoop (tB4 (tρ o t F C p q b (.pu (tupK L)) s9 s10 s11)) (forD (.one 8) tB4 (Ls.map tupK)) = _ ∧ _
    unfold tB4
    rw [sIf_eq hT]
    cases hk : okL C p q L with
    | false =>
      obtain ⟨b', s8', s9', s10', s11', e, g⟩ := t_loop hF Ls b acc (.pu (tupK L)) s9 s10 s11 (fun L h => hl L (List.mem_cons_of_mem _ h)) hg
      exact ⟨b', s8', s9', s10', s11', e, by rw [List.filter_cons_of_neg (by rw [hk]; decide)]; exact g⟩
    | true =>
      have e9 := t_e9 (o := o) (t := t) (F := F) (C := C) (p := p) (q := q) L b s9 s10 s11 hL
      have e10 := t_e10 (o := o) (t := t) (F := F) (C := C) (p := p) (q := q) L b s10 s11 hL hF
      have e11 := t_e11 (o := o) (t := t) (F := F) (C := C) (p := p) (q := q) L b (.pu (.list (L.map fun k => .int (oo C k)))) (.pu (.int (L.map fun k => oo C k * F.f k).sum)) s11
      obtain ⟨r, e4, hg'⟩ := t_e4 (o := o) (t := t) (F := F) (C := C) (p := p) (q := q) L b (.pu (tupK L)) acc hg
      obtain ⟨b', s8', s9', s10', s11', e, g⟩ := t_loop hF Ls (some r) (acc ++ [xL C F L]) (.pu (tupK L)) (.pu (.list (L.map fun k => .int (oo C k)))) (.pu (.int (L.map fun k => oo C k * F.f k).sum)) (.pu (tupK (allk.filter fun k => !L.contains k))) (fun L h => hl L (List.mem_cons_of_mem _ h)) hg'
      refine ⟨b', s8', s9', s10', s11', ?_, by rw [List.filter_cons_of_pos hk, List.map_cons]; rw [List.append_assoc] at g; exact g⟩
      rw [if_pos rfl, sSeq_nx (set_eq e9)]
      show sLoop (sSeq (sSet 10 tE10) _ (tρ o t F C p q b (.pu (tupK L)) (.pu (.list (L.map fun k => .int (oo C k)))) s10 s11)) _ = _
      rw [sSeq_nx (set_eq e10)]
      show sLoop (sSeq (sSet 11 tE11) _ (tρ o t F C p q b (.pu (tupK L)) (.pu (.list (L.map fun k => .int (oo C k)))) (.pu (.int (L.map fun k => oo C k * F.f k).sum)) s11)) _ = _
      rw [sSeq_nx (set_eq e11)]
      show sLoop (sSet 4 tE4 (tρ o t F C p q b (.pu (tupK L)) (.pu (.list (L.map fun k => .int (oo C k)))) (.pu (.int (L.map fun k => oo C k * F.f k).sum)) (.pu (tupK (allk.filter fun k => !L.contains k))))) _ = _
      rw [set_eq e4]
      exact e
end
def lotsK : List (List (Fin 6)) := (List.range 64).map ofM
theorem Lead.thrift {o t : S3} (h : Lead o t) (F : P6) (hF : F.Le) : ∃ b : Option Tr, F_l_thrift [o.d, t.d, F.d] = some (bD b) ∧ Good b ((lotsK.filter (okL (tal o t) o.p t.p)).map (xL (tal o t) F)) := by
  have hc := h.tally
  generalize tal o t = C at *
  have hlots : F_l_lots [] = some (.list (lotsK.map tupK)) := by
    rw [F_lots_eq]
    unfold lotsK
    rw [List.map_map]
    rfl
  have hlen : ∀ L ∈ lotsK, L.length ≤ 6 := fun L hL => by
    obtain ⟨m, _, rfl⟩ := List.mem_map.mp hL
    exact List.length_filter_le (bitK m) allk
  have e0 : F_l_thrift [o.d, t.d, F.d] = outD (sSeq (sPar [3, 4] (kP (dCall F_l_tally (dCons (dVar 0) (dCons (dVar 1) dNil))) (kP (dC .none) kNil)))
    (sSeq (sPar [5, 6] (kP (d2 indexL (dCall F_l_poses dNil) (d2 getD_ (dVar 0) (dC (.int 0)))) (kP (d2 indexL (dCall F_l_poses dNil) (d2 getD_ (dVar 1) (dC (.int 0)))) kNil)))
    (sSeq (sSet 7 (dLc (iRange (dC (.int 6))) (.one 12) (tB_ (d2 neD (d2 getD_ (dVar 3) (dVar 12)) (dC (.int 0)))) (dVar 12) [12]))
    (sSeq (sFor (iSeq (dCall F_l_lots dNil)) (.one 8) tB4) (sRet (dVar 4))))) [.pu o.d, .pu t.d, .pu F.d, .no, .no, .no, .no, .no, .no, .no, .no, .no, .no, .no]) := by kernel_rfl
  have p1 : (kP (dCall F_l_tally (dCons (dVar 0) (dCons (dVar 1) dNil))) (kP (dC .none) kNil)) (hid [.pu o.d, .pu t.d, .pu F.d, .no, .no, .no, .no, .no, .no, .no, .no, .no, .no, .no]) = some [.pu C.d, .pu .none] := by
    show (F_l_tally [o.d, t.d]).bind _ = _
    rw [hc]
    rfl
  have ix : ∀ p : Fin 6, d2 indexL (dCall F_l_poses dNil) (dC (shp p).d) [] = some (kD p) := by
    refine all6 ?_ ?_ ?_ ?_ ?_ ?_ <;> kernel_rfl
  let ρ2 : Rs := [.pu o.d, .pu t.d, .pu F.d, .pu C.d, .pu .none, .no, .no, .no, .no, .no, .no, .no, .no, .no]
  have p2 : (kP (d2 indexL (dCall F_l_poses dNil) (d2 getD_ (dVar 0) (dC (.int 0)))) (kP (d2 indexL (dCall F_l_poses dNil) (d2 getD_ (dVar 1) (dC (.int 0)))) kNil)) (hid ρ2) = some [.pu (kD o.p), .pu (kD t.p)] := by
    have e : (kP (d2 indexL (dCall F_l_poses dNil) (d2 getD_ (dVar 0) (dC (.int 0)))) (kP (d2 indexL (dCall F_l_poses dNil) (d2 getD_ (dVar 1) (dC (.int 0)))) kNil)) (hid ρ2) = (d2 indexL (dCall F_l_poses dNil) (dC (shp o.p).d) []).bind fun d => ((d2 indexL (dCall F_l_poses dNil) (dC (shp t.p).d) []).bind fun d => some [Sl.pu d]).bind fun ss => some (.pu d :: ss) := by kernel_rfl
    rw [e, ix, ix]
    rfl
  have e7 : (dLc (iRange (dC (.int 6))) (.one 12) (tB_ (d2 neD (d2 getD_ (dVar 3) (dVar 12)) (dC (.int 0)))) (dVar 12) [12]) (hid [.pu o.d, .pu t.d, .pu F.d, .pu C.d, .pu .none, .pu (kD o.p), .pu (kD t.p), .no, .no, .no, .no, .no, .no, .no]) = some (.list ((mustK C).map kD)) := by
    have e : (dLc (iRange (dC (.int 6))) (.one 12) (tB_ (d2 neD (d2 getD_ (dVar 3) (dVar 12)) (dC (.int 0)))) (dVar 12) [12]) (hid [.pu o.d, .pu t.d, .pu F.d, .pu C.d, .pu .none, .pu (kD o.p), .pu (kD t.p), .no, .no, .no, .no, .no, .no, .no]) =
      (lcD (Tgt.one 12).bindR (tB_ (d2 neD (d2 getD_ (dVar 3) (dVar 12)) (dC (.int 0)))) (dVar 12) [some o.d, some t.d, some F.d, some C.d, some .none, some (kD o.p), some (kD t.p), none, none, none, none, none, none, none] (allk.map kD)).map .list := by kernel_rfl
    rw [e, lc_if (g := kD) (b := fun k => !(C.f k == 0)) (fun k hk => by
      show ((getD_ C.d (kD k)).bind fun x => (some (PyData.int 0)).bind fun y => neD x y).bind asB = _
      rw [getC]
      rfl) (fun k hk hb => rfl)]
    rfl
  obtain ⟨b', s8', s9', s10', s11', e, g⟩ := t_loop (o := o) (t := t) (F := F) (C := C) (p := o.p) (q := t.p) hF lotsK none [] .no .no .no .no hlen rfl
  refine ⟨b', ?_, g⟩
  rw [e0, sSeq_nx (par_eq p1 rfl)]
  show outD (sSeq _ _ ρ2) = _
  rw [sSeq_nx (par_eq p2 rfl)]
  show outD (sSeq _ _ [.pu o.d, .pu t.d, .pu F.d, .pu C.d, .pu .none, .pu (kD o.p), .pu (kD t.p), .no, .no, .no, .no, .no, .no, .no]) = _
  rw [sSeq_nx (set_eq e7)]
  show outD (sThen ((((F_l_lots []).bind itemsD).bind fun ds => forD (.one 8) tB4 ds (tρ o t F C o.p t.p none .no .no .no .no))) (sRet (dVar 4))) = _
  rw [hlots]
  show outD (sThen (forD (.one 8) tB4 (lotsK.map tupK) (tρ o t F C o.p t.p none .no .no .no .no)) (sRet (dVar 4))) = _
  rw [e]
  rfl
end DL

/-! P11c: the checks over all places and patterns. -/
namespace DL
open PySem PySem.Spec PyProof.Rows L2
def htt (p q : Fin 6) : List Nat := match p, q with
  | 0, 0 => [0, 1, 3, 7, 15, 31, 32, 33, 35, 39, 47, 48, 49, 51, 55, 56, 57, 59, 60, 61, 62, 63]
  | 0, 1 => [1, 3, 7, 15, 31, 33, 35, 39, 47, 49, 51, 55, 57, 59, 61, 62, 63]
  | 0, 2 => [3, 7, 15, 31, 35, 39, 47, 51, 55, 59, 60, 61, 62, 63]
  | 0, 3 => [7, 15, 31, 39, 47, 55, 56, 57, 59, 60, 61, 62, 63]
  | 0, 4 => [15, 31, 47, 48, 49, 51, 55, 56, 57, 59, 60, 61, 62, 63]
  | 0, 5 => [31, 32, 33, 35, 39, 47, 48, 49, 51, 55, 56, 57, 59, 60, 61, 62, 63]
  | 1, 0 => [1, 3, 7, 15, 31, 33, 35, 39, 47, 49, 51, 55, 57, 59, 61, 62, 63]
  | 1, 1 => [0, 1, 2, 3, 6, 7, 14, 15, 30, 31, 33, 35, 39, 47, 49, 51, 55, 57, 59, 61, 62, 63]
  | 1, 2 => [2, 3, 6, 7, 14, 15, 30, 31, 35, 39, 47, 51, 55, 59, 61, 62, 63]
  | 1, 3 => [6, 7, 14, 15, 30, 31, 39, 47, 55, 57, 59, 61, 62, 63]
  | 1, 4 => [14, 15, 30, 31, 47, 49, 51, 55, 57, 59, 61, 62, 63]
  | 1, 5 => [30, 31, 33, 35, 39, 47, 49, 51, 55, 57, 59, 61, 62, 63]
  | 2, 0 => [3, 7, 15, 31, 35, 39, 47, 51, 55, 59, 60, 61, 62, 63]
  | 2, 1 => [2, 3, 6, 7, 14, 15, 30, 31, 35, 39, 47, 51, 55, 59, 61, 62, 63]
  | 2, 2 => [0, 2, 3, 4, 6, 7, 12, 14, 15, 28, 30, 31, 35, 39, 47, 51, 55, 59, 60, 61, 62, 63]
  | 2, 3 => [4, 6, 7, 12, 14, 15, 28, 30, 31, 39, 47, 55, 59, 60, 61, 62, 63]
  | 2, 4 => [12, 14, 15, 28, 30, 31, 47, 51, 55, 59, 60, 61, 62, 63]
  | 2, 5 => [28, 30, 31, 35, 39, 47, 51, 55, 59, 60, 61, 62, 63]
  | 3, 0 => [7, 15, 31, 39, 47, 55, 56, 57, 59, 60, 61, 62, 63]
  | 3, 1 => [6, 7, 14, 15, 30, 31, 39, 47, 55, 57, 59, 61, 62, 63]
  | 3, 2 => [4, 6, 7, 12, 14, 15, 28, 30, 31, 39, 47, 55, 59, 60, 61, 62, 63]
  | 3, 3 => [0, 4, 6, 7, 8, 12, 14, 15, 24, 28, 30, 31, 39, 47, 55, 56, 57, 59, 60, 61, 62, 63]
  | 3, 4 => [8, 12, 14, 15, 24, 28, 30, 31, 47, 55, 56, 57, 59, 60, 61, 62, 63]
  | 3, 5 => [24, 28, 30, 31, 39, 47, 55, 56, 57, 59, 60, 61, 62, 63]
  | 4, 0 => [15, 31, 47, 48, 49, 51, 55, 56, 57, 59, 60, 61, 62, 63]
  | 4, 1 => [14, 15, 30, 31, 47, 49, 51, 55, 57, 59, 61, 62, 63]
  | 4, 2 => [12, 14, 15, 28, 30, 31, 47, 51, 55, 59, 60, 61, 62, 63]
  | 4, 3 => [8, 12, 14, 15, 24, 28, 30, 31, 47, 55, 56, 57, 59, 60, 61, 62, 63]
  | 4, 4 => [0, 8, 12, 14, 15, 16, 24, 28, 30, 31, 47, 48, 49, 51, 55, 56, 57, 59, 60, 61, 62, 63]
  | 4, 5 => [16, 24, 28, 30, 31, 47, 48, 49, 51, 55, 56, 57, 59, 60, 61, 62, 63]
  | 5, 0 => [31, 32, 33, 35, 39, 47, 48, 49, 51, 55, 56, 57, 59, 60, 61, 62, 63]
  | 5, 1 => [30, 31, 33, 35, 39, 47, 49, 51, 55, 57, 59, 61, 62, 63]
  | 5, 2 => [28, 30, 31, 35, 39, 47, 51, 55, 59, 60, 61, 62, 63]
  | 5, 3 => [24, 28, 30, 31, 39, 47, 55, 56, 57, 59, 60, 61, 62, 63]
  | 5, 4 => [16, 24, 28, 30, 31, 47, 48, 49, 51, 55, 56, 57, 59, 60, 61, 62, 63]
  | 5, 5 => [0, 16, 24, 28, 30, 31, 32, 33, 35, 39, 47, 48, 49, 51, 55, 56, 57, 59, 60, 61, 62, 63]
theorem htt_ok : (allPQ fun p q => decide ((List.range 64).filter (fun m => hgM (ofM m) p q) = htt p q)) = true := by decide +kernel
theorem chk1 : (allPQ fun p q => allZ fun Z => (cand (Eb p q) Z).all fun T => T.all Z && (htt p q).any fun m => allk.all fun k => bitK m k == !T.contains k) = true := by decide +kernel
theorem chk2 : (allPQ fun p q => allZ fun Z => (htt p q).all fun m => !(allk.all fun k => Z k || bitK m k) || (cand (Eb p q) Z).any fun T => allk.all fun k => T.contains k || bitK m k) = true := by decide +kernel
end DL

/-! P11: the least of the lots is the least of the stretches. -/
namespace DL
open PySem PySem.Spec PyProof.Rows L2
def val (C F : P6) (S : Fin 6 → Bool) : Int × Int := ((allk.map fun k => if S k = true then oo C k * F.f k else 0).sum, (allk.map fun k => if S k = true then oo C k else 0).sum)
theorem sum_filter {b : Fin 6 → Bool} {g : Fin 6 → Int} : ∀ l : List (Fin 6), ((l.filter b).map g).sum = (l.map fun k => if b k = true then g k else 0).sum
  | [] => rfl
  | k :: l => by
    cases h : b k with
    | true => rw [List.filter_cons_of_pos h, List.map_cons, List.map_cons, List.sum_cons, List.sum_cons, sum_filter l, if_pos h]
    | false => rw [List.filter_cons_of_neg (by rw [h]; decide), List.map_cons, List.sum_cons, sum_filter l, if_neg (by rw [h]; decide), Int.zero_add]
theorem sum_lin {f g : Fin 6 → Int} : ∀ l : List (Fin 6), (l.map f).sum + 2 * (l.map g).sum = (l.map fun k => f k + 2 * g k).sum
  | [] => rfl
  | k :: l => by
    rw [List.map_cons, List.map_cons, List.map_cons, List.sum_cons, List.sum_cons, List.sum_cons, ← sum_lin l]
    omega
theorem sum_le {f g : Fin 6 → Int} (h : ∀ k, f k ≤ g k) : ∀ l : List (Fin 6), (l.map f).sum ≤ (l.map g).sum
  | [] => Int.le_refl _
  | k :: l => by
    rw [List.map_cons, List.map_cons, List.sum_cons, List.sum_cons]
    have := h k
    have := sum_le h l
    omega
theorem len_filter {b : Fin 6 → Bool} : ∀ l : List (Fin 6), (((l.filter b).map kD).length : Int) = (l.map fun k => if b k = true then (1 : Int) else 0).sum
  | [] => rfl
  | k :: l => by
    have ih := len_filter (b := b) l
    cases h : b k with
    | true =>
      rw [List.filter_cons_of_pos h, List.map_cons, List.map_cons, List.sum_cons, if_pos h, ← ih, List.length_cons]
      omega
    | false =>
      rw [List.filter_cons_of_neg (by rw [h]; decide), List.map_cons, List.sum_cons, ih, if_neg (by rw [h]; decide), Int.zero_add]
theorem contains_ofM (m : Nat) (k : Fin 6) : (ofM m).contains k = bitK m k := by
  rw [Bool.eq_iff_iff, List.contains_iff_mem]
  unfold ofM
  rw [List.mem_filter]
  exact ⟨fun h => h.2, fun h => ⟨mem_allk k, h⟩⟩
theorem x_val (C F : P6) (m : Nat) : (xL C F (ofM m)).1 = val C F (bitK m) := by
  unfold xL val ofM
  rw [sum_filter, sum_filter]
theorem oo_nn (C : P6) (k : Fin 6) : 0 ≤ oo C k := by
  unfold oo ab
  split
  · split <;> omega
  · omega
theorem term1 (c0 f : Int) (c : Bool) (h : c = true → c0 = 0) : ab c0 * f + 2 * (if (c0 == 0 && !c) = true then f else 0) = if (!c) = true then (if (!(c0 == 0)) = true then ab c0 else 2) * f else 0 := by
  cases c with
  | true =>
    have h0 := h rfl
    subst h0
    simp [ab]
  | false =>
    by_cases h0 : c0 = 0
    · subst h0
      simp [ab]
    · have hb : (c0 == 0) = false := by simpa using h0
      rw [hb]
      simp
theorem term2 (c0 : Int) (c : Bool) (h : c = true → c0 = 0) : ab c0 + 2 * (if (c0 == 0 && !c) = true then (1 : Int) else 0) = if (!c) = true then (if (!(c0 == 0)) = true then ab c0 else 2) else 0 := by
  cases c with
  | true =>
    have h0 := h rfl
    subst h0
    simp [ab]
  | false =>
    by_cases h0 : c0 = 0
    · subst h0
      simp [ab]
    · have hb : (c0 == 0) = false := by simpa using h0
      rw [hb]
      simp
theorem p_val (C F : P6) (T : List (Fin 6)) (hT : ∀ k ∈ T, Zf C k = true) : prc C F T = val C F (fun k => !T.contains k) := by
  have key : ∀ k, (T.contains k = true → C.f k = 0) := fun k h => by
    have := hT k (List.contains_iff_mem.mp h)
    exact eq_of_beq this
  unfold prc val brs wor siz
  refine Prod.ext ?_ ?_
  · show (allk.map fun k => ab (C.f k) * F.f k).sum + 2 * ((allk.filter fun k => Zf C k && !inK T k).map F.f).sum = _
    rw [sum_filter, sum_lin]
    congr 1
    refine List.map_congr_left fun k _ => ?_
    have hk := key k
    unfold Zf inK oo
    exact term1 _ _ _ hk
  · show (allk.map fun k => ab (C.f k)).sum + 2 * (((allk.filter fun k => Zf C k && !inK T k).map kD).length : Int) = _
    rw [len_filter, sum_lin]
    congr 1
    refine List.map_congr_left fun k _ => ?_
    have hk := key k
    unfold Zf inK oo
    exact term2 _ _ hk
theorem val_mono (C F : P6) (hF : F.Ok) {S S' : Fin 6 → Bool} (h : ∀ k, S k = true → S' k = true) : lexle (val C F S) (val C F S') := by
  have h1 : (val C F S).1 ≤ (val C F S').1 := sum_le (f := fun k => if S k = true then oo C k * F.f k else 0) (g := fun k => if S' k = true then oo C k * F.f k else 0) (fun k => by
    have h0 : 0 ≤ oo C k * F.f k := Int.mul_nonneg (oo_nn C k) (hF k)
    cases hs : S k with
    | true =>
      rw [if_pos rfl, if_pos (h k hs)]
      exact Int.le_refl _
    | false =>
      rw [if_neg (by decide)]
      split
      · exact h0
      · exact Int.le_refl _) allk
  have h2 : (val C F S).2 ≤ (val C F S').2 := sum_le (f := fun k => if S k = true then oo C k else 0) (g := fun k => if S' k = true then oo C k else 0) (fun k => by
    have h0 := oo_nn C k
    cases hs : S k with
    | true =>
      rw [if_pos rfl, if_pos (h k hs)]
      exact Int.le_refl _
    | false =>
      rw [if_neg (by decide)]
      split
      · exact h0
      · exact Int.le_refl _) allk
  unfold lexle
  omega
theorem ok_iff (C : P6) (p q : Fin 6) (m : Nat) (hm : m < 64) : okL C p q (ofM m) = true ↔ (∀ k, Zf C k = false → bitK m k = true) ∧ m ∈ htt p q := by
  have ht := of_decide_eq_true (allPQ_ok htt_ok p q)
  unfold okL
  rw [Bool.and_eq_true, List.isEmpty_iff, List.filter_eq_nil_iff, ← ht, List.mem_filter, List.mem_range]
  refine ⟨fun ⟨h1, h2⟩ => ⟨fun k hk => ?_, hm, h2⟩, fun ⟨h1, _, h2⟩ => ⟨fun k hk => ?_, h2⟩⟩
  · have := h1 k (by
      unfold mustK
      rw [List.mem_filter]
      refine ⟨mem_allk k, ?_⟩
      unfold Zf at hk
      rw [hk]
      rfl)
    rw [contains_ofM] at this
    simpa using this
  · unfold mustK at hk
    rw [List.mem_filter] at hk
    have := h1 k (by unfold Zf; simpa using hk.2)
    rw [contains_ofM, this]
    decide
theorem htt_lt (p q : Fin 6) (m : Nat) (h : m ∈ htt p q) : m < 64 := by
  have ht := of_decide_eq_true (allPQ_ok htt_ok p q)
  rw [← ht, List.mem_filter, List.mem_range] at h
  exact h.1
/-- the least of the stretches and the least of the lots -/
theorem least_eq (C F : P6) (hF : F.Ok) (p q : Fin 6) {T : List (Fin 6)} (hT : T ∈ cand (Eb p q) (Zf C)) (hl : ∀ U ∈ cand (Eb p q) (Zf C), lexle (prc C F T) (prc C F U)) {b : Option Tr} (hg : Good b ((lotsK.filter (okL C p q)).map (xL C F))) : ∃ r, b = some r ∧ r.1 = prc C F T := by
  have c1 := allZ_ok (allPQ_ok chk1 p q) (Zf C)
  have c2 := allZ_ok (allPQ_ok chk2 p q) (Zf C)
  have hz : ∀ U ∈ cand (Eb p q) (Zf C), ∀ k ∈ U, Zf C k = true := fun U hU => by
    have := List.all_eq_true.mp c1 U hU
    exact List.all_eq_true.mp ((Bool.and_eq_true _ _).mp this).1
  -- T's own lot
  obtain ⟨m, hm, hmk⟩ := List.any_eq_true.mp ((Bool.and_eq_true _ _).mp (List.all_eq_true.mp c1 T hT)).2
  have hmk : ∀ k, bitK m k = !T.contains k := fun k => eq_of_beq (List.all_eq_true.mp hmk k (mem_allk k))
  have hm64 := htt_lt p q m hm
  have hA : ∀ k, Zf C k = false → bitK m k = true := fun k hk => by
    rw [hmk]
    cases hc : T.contains k with
    | false => rfl
    | true =>
      have := hz T hT k (List.contains_iff_mem.mp hc)
      rw [this] at hk
      cases hk
  have okm : okL C p q (ofM m) = true := (ok_iff C p q m hm64).mpr ⟨hA, hm⟩
  have hx : xL C F (ofM m) ∈ (lotsK.filter (okL C p q)).map (xL C F) := List.mem_map_of_mem (List.mem_filter.mpr ⟨List.mem_map_of_mem (List.mem_range.mpr hm64), okm⟩)
  have hxv : (xL C F (ofM m)).1 = prc C F T := by
    rw [x_val, p_val C F T (hz T hT)]
    congr 1
    exact funext hmk
  cases b with
  | none =>
    have : (lotsK.filter (okL C p q)).map (xL C F) = [] := hg
    rw [this] at hx
    cases hx
  | some r =>
    obtain ⟨g1, g2⟩ := hg
    refine ⟨r, rfl, ?_⟩
    have h1 := g2 _ hx
    rw [hxv] at h1
    obtain ⟨L, hL, rfl⟩ := List.mem_map.mp g1
    obtain ⟨hL1, hL2⟩ := List.mem_filter.mp hL
    obtain ⟨n, hn, rfl⟩ := List.mem_map.mp hL1
    obtain ⟨k1, k2⟩ := (ok_iff C p q n (List.mem_range.mp hn)).mp hL2
    have d := List.all_eq_true.mp c2 n k2
    have hall : (allk.all fun k => Zf C k || bitK n k) = true := List.all_eq_true.mpr fun k _ => by
      cases hk : Zf C k with
      | true => rfl
      | false => rw [k1 k hk]; rfl
    rw [hall] at d
    obtain ⟨U, hU, hUk⟩ := List.any_eq_true.mp (show ((cand (Eb p q) (Zf C)).any fun T => allk.all fun k => T.contains k || bitK n k) = true from d)
    have h2 : lexle (prc C F U) (xL C F (ofM n)).1 := by
      rw [x_val, p_val C F U (hz U hU)]
      refine val_mono C F hF fun k hk => ?_
      have := List.all_eq_true.mp hUk k (mem_allk k)
      have hk' : U.contains k = false := by simpa using hk
      rw [hk'] at this
      simpa using this
    exact h1.anti ((hl U hU).trans h2)
end DL

/-! P12: what the law asks of the first part. -/
namespace DL
open PySem PySem.Spec PyProof.Rows L2

theorem Eb_comm (p q k : Fin 6) : Eb p q k = Eb q p k := by
  unfold Eb
  cases ((p.val : Int) == (k.val : Int)) <;> cases ((q.val : Int) == (k.val : Int)) <;> rfl
theorem half_neg {a b : Int} (h : a % 2 = 0) (e : b = -a) : b / 2 = -(a / 2) := by omega
theorem tal_neg {o t : S3} (h : Lead o t) (k : Fin 6) : (tal t o).f k = -(tal o t).f k := by
  obtain ⟨hx, hy⟩ := h.ex
  have ex : (dT t.x o.x).s / 2 = -((dT o.x t.x).s / 2) := half_neg hx (by
    show o.x.a - t.x.a + (o.x.b - t.x.b + (o.x.c - t.x.c + 0)) = -(t.x.a - o.x.a + (t.x.b - o.x.b + (t.x.c - o.x.c + 0)))
    omega)
  have ey : (dT t.y o.y).s / 2 = -((dT o.y t.y).s / 2) := half_neg hy (by
    show o.y.a - t.y.a + (o.y.b - t.y.b + (o.y.c - t.y.c + 0)) = -(t.y.a - o.y.a + (t.y.b - o.y.b + (t.y.c - o.y.c + 0)))
    omega)
  revert k
  refine all6 ?_ ?_ ?_ ?_ ?_ ?_
  · show (dT t.x o.x).s / 2 - (o.x.b - t.x.b) = -((dT o.x t.x).s / 2 - (t.x.b - o.x.b))
    omega
  · show (dT t.y o.y).s / 2 - (o.y.c - t.y.c) = -((dT o.y t.y).s / 2 - (t.y.c - o.y.c))
    omega
  · show (dT t.x o.x).s / 2 - (o.x.a - t.x.a) = -((dT o.x t.x).s / 2 - (t.x.a - o.x.a))
    omega
  · show (dT t.y o.y).s / 2 - (o.y.b - t.y.b) = -((dT o.y t.y).s / 2 - (t.y.b - o.y.b))
    omega
  · show (dT t.x o.x).s / 2 - (o.x.c - t.x.c) = -((dT o.x t.x).s / 2 - (t.x.c - o.x.c))
    omega
  · show (dT t.y o.y).s / 2 - (o.y.a - t.y.a) = -((dT o.y t.y).s / 2 - (t.y.a - o.y.a))
    omega
theorem Zf_neg {C E : P6} (h : ∀ k, E.f k = -C.f k) : Zf E = Zf C := by
  funext k
  unfold Zf
  rw [h k, Bool.eq_iff_iff, beq_iff_eq, beq_iff_eq]
  omega
theorem ab_neg (i : Int) : ab (-i) = ab i := by
  unfold ab
  split <;> split <;> omega
theorem prc_neg {C E F : P6} (h : ∀ k, E.f k = -C.f k) (T : List (Fin 6)) : prc E F T = prc C F T := by
  unfold prc wor siz
  rw [Zf_neg h]
  have e1 : (allk.map fun k => ab (E.f k) * F.f k) = allk.map fun k => ab (C.f k) * F.f k := List.map_congr_left fun k _ => by rw [h k, ab_neg]
  have e2 : (allk.map fun k => ab (E.f k)) = allk.map fun k => ab (C.f k) := List.map_congr_left fun k _ => by rw [h k, ab_neg]
  rw [e1, e2]
/-- thrift's answer, and the three answers of the program -/
structure Answer (o t : S3) (F : P6) (a b : Int) : Prop where
  thrift : ∃ T, F_l_thrift [o.d, t.d, F.d] = some (trD a b T)
  few : ∀ x y z, (x = o.d ∨ x = o.l) → (y = t.d ∨ y = t.l) → (z = F.d ∨ z = F.l) → F_cheap_and_few [x, y, z] = some (.tuple [.int a, .int b])
  cheap : ∀ x y z, (x = o.d ∨ x = o.l) → (y = t.d ∨ y = t.l) → (z = F.d ∨ z = F.l) → F_cheapest [x, y, z] = some (.int a)
  back : F_cheapest [t.d, o.d, F.d] = some (.int a)
theorem Lead.answer {o t : S3} (h : Lead o t) (ho : Fr o.f) (ht : Fr t.f) (F : P6) (hF : F.Le) : ∃ a b T, Answer o t F a b ∧ T ∈ cand (Eb o.p t.p) (Zf (tal o t)) ∧ (a, b) = prc (tal o t) F T ∧ ∀ U ∈ cand (Eb o.p t.p) (Zf (tal o t)), lexle (a, b) (prc (tal o t) F U) := by
  obtain ⟨T, hT, _, _, hl⟩ := h.least ho ht F hF (.inl rfl) (.inl rfl) (.inl rfl)
  refine ⟨(prc (tal o t) F T).1, (prc (tal o t) F T).2, T, ⟨?_, fun x y z hx hy hz => ?_, fun x y z hx hy hz => ?_, ?_⟩, hT, rfl, hl⟩
  · obtain ⟨b, e, g⟩ := h.thrift F hF
    obtain ⟨r, rfl, hr⟩ := least_eq (tal o t) F hF.ok o.p t.p hT hl g
    refine ⟨r.2, ?_⟩
    rw [e]
    show some (trD r.1.1 r.1.2 r.2) = _
    rw [hr]
  · obtain ⟨U, hU, e, _, hl'⟩ := h.least ho ht F hF hx hy hz
    rw [e, (hl' T hT).anti (hl U hU)]
  · obtain ⟨U, hU, _, e, hl'⟩ := h.least ho ht F hF hx hy hz
    rw [e, (hl' T hT).anti (hl U hU)]
  · obtain ⟨U, hU, _, e, hl'⟩ := h.symm.least ht ho F hF (.inl rfl) (.inl rfl) (.inl rfl)
    have hn := tal_neg h
    have hE : Eb t.p o.p = Eb o.p t.p := funext fun k => Eb_comm _ _ _
    rw [hE, Zf_neg hn] at hU hl'
    have h1 := hl' T hT
    rw [prc_neg hn, prc_neg hn] at h1
    rw [e, prc_neg hn, h1.anti (hl U hU)]
end DL

/-! R4: closed forms of the drawing defs. -/
namespace DL
open PySem PySem.Spec PyProof.Rows L2

theorem rlc_gen {elt : RE1} {ρ : Rp} {i : Nat} {Q : Nat → D → Prop} {P : D → Prop} : ∀ (ds acc : List D) (m : Nat), (∀ d ∈ ds, ∀ m Q', m < 900 → (∀ y, P y → Q' (m + 1) y) → elt m (ρ.set i (some d)) Q') → m + ds.length ≤ 900 →
    (∀ ws : List D, ws.length = ds.length → (∀ w ∈ ws, P w) → Q (m + ds.length) (.list (acc ++ ws))) → rlc elt ρ i Q acc ds m
  | [], acc, m, _, _, q => by
    have := q [] rfl (fun w hw => by cases hw)
    rw [List.append_nil] at this
    exact this
  | d :: ds, acc, m, h, hm, q => by
    simp only [List.length_cons] at hm q
    refine h d List.mem_cons_self m _ (by omega) fun y hy => ?_
    refine rlc_gen ds (acc ++ [y]) (m + 1) (fun d hd => h d (List.mem_cons_of_mem _ hd)) (by omega) fun ws hl hw => ?_
    have := q (y :: ws) (by simp [hl]) (fun w hw' => by
      rcases List.mem_cons.mp hw' with rfl | hw'
      · exact hy
      · exact hw w hw')
    rw [List.append_assoc]
    have e : m + 1 + ds.length = m + (ds.length + 1) := by omega
    rw [e]
    exact this
theorem rangeD_len (n : Nat) : (rangeD n).length = n := by
  unfold rangeD
  rw [List.length_map, List.length_range]
theorem w_of {ds : List D} {m : Nat} {Q : Nat → D → Prop} (h : W_l_of ds m Q) : fnR 2 q_l_of ds m Q := by
  obtain ⟨gs, rfl, h0, h1, hm, q⟩ := h
  refine ⟨.list gs, rfl, .int gs.length, rfl, (gs.length : Int), rfl, by omega, by omega, hm, fun r r0 r1 => ?_⟩
  have hr : r.toNat < gs.length := by omega
  refine ⟨gs[r.toNat], ?_, q _ (List.getElem_mem hr)⟩
  have e := atI_nat (xs := gs) (j := r.toNat) (List.getElem?_eq_getElem hr)
  have e2 : ((r.toNat : Nat) : Int) = r := by omega
  rw [e2] at e
  exact e
theorem w_walk {ds : List D} {m : Nat} {Q : Nat → D → Prop} (h : W_l_walk ds m Q) : fnR 4 q_l_walk ds m Q := by
  obtain ⟨n, gs, rfl, h0, h1, hm, q⟩ := h
  have e1 : iRange (dVar 1) [none, some (.int n), some (.list gs), none] = some (rangeD n) := by
    show (if 0 ≤ (n : Int) ∧ (n : Int) ≤ 100000 then some (rangeD (n : Int).toNat) else none) = _
    rw [if_pos (by omega)]
    rfl
  refine ⟨rangeD n, e1, by rw [rangeD_len]; omega, ?_⟩
  refine rlc_gen (P := fun d => d ∈ gs) (rangeD n) [] m (fun d _ m Q' hm' hq => ?_) (by rw [rangeD_len]; exact hm) fun ws hl hw => ?_
  · exact ⟨.list gs, rfl, gs, rfl, h0, h1, hm', hq⟩
  · rw [rangeD_len] at hl ⊢
    exact ⟨.tuple ws, rfl, q ws hl hw⟩
def isN (d : D) : Prop := ∃ f : Int, d = .int f ∧ 0 ≤ f ∧ f ≤ 1000000
theorem isN_all : ∀ {ws : List D}, (∀ w ∈ ws, isN w) → ∃ fs : List Int, ws = fs.map .int ∧ ∀ f ∈ fs, 0 ≤ f ∧ f ≤ 1000000
  | [], _ => ⟨[], rfl, fun f hf => by cases hf⟩
  | w :: ws, h => by
    obtain ⟨f, rfl, h0, h1⟩ := h w List.mem_cons_self
    obtain ⟨fs, rfl, hf⟩ := isN_all fun w hw => h w (List.mem_cons_of_mem _ hw)
    exact ⟨f :: fs, rfl, fun g hg => by
      rcases List.mem_cons.mp hg with rfl | hg
      · exact ⟨h0, h1⟩
      · exact hf g hg⟩
theorem w_fees_end {elt : RE1} {ρ : Rp} {m : Nat} {Q : Nat → D → Prop} (hm : m + 6 ≤ 900) (h : ∀ d m Q', m < 900 → (∀ y, isN y → Q' (m + 1) y) → elt m (ρ.set 2 (some d)) Q')
    (q : ∀ fs : List Int, fs.length = 6 → (∀ f ∈ fs, 0 ≤ f ∧ f ≤ 1000000) → Q (m + 6) (.tuple (fs.map .int))) : rlc elt ρ 2 (fun m1 d => ∃ d', tupleD [d] = some d' ∧ Q m1 d') [] (rangeD 6) m := by
  refine rlc_gen (P := isN) (rangeD 6) [] m (fun d _ => h d) (by rw [rangeD_len]; exact hm) fun ws hl hw => ?_
  rw [rangeD_len] at hl ⊢
  obtain ⟨fs, rfl, hf⟩ := isN_all hw
  exact ⟨.tuple (fs.map .int), rfl, q fs (by simpa using hl) hf⟩
theorem w_fees {ds : List D} {m : Nat} {Q : Nat → D → Prop} (h : W_l_fees ds m Q) : fnR 3 q_l_fees ds m Q := by
  obtain ⟨rfl, hm, q⟩ := h
  have r6 : iRange (dC (.int 6)) = fun _ => some (rangeD 6) := rfl
  refine ⟨.int 4, rfl, 4, rfl, by decide, by decide, by omega, fun r r0 r1 => ?_⟩
  have rest : ∀ c : Int, 0 < c → c ≤ 100 → (∃ ds, iRange (dC (.int 6)) [none, some (.int r), none] = some ds ∧ ds.length ≤ 100000 ∧ rlc (rDraw W_l_take (rCons (rD (dC (.int c))) rNil)) (wipeR [none, some (.int r), none] [2]) 2 (fun m1 d => ∃ d', tupleD [d] = some d' ∧ Q m1 d') [] ds (m + 1)) := fun c c0 c1 => by
    refine ⟨rangeD 6, rfl, by rw [rangeD_len]; omega, w_fees_end (by omega) (fun d m Q' hm' hq => ⟨.int c, rfl, c, rfl, c0, by omega, hm', fun r r0 r1 => hq _ ⟨r, rfl, r0, by omega⟩⟩) fun fs hl hf => ?_⟩
    have e : m + 1 + 6 = m + 7 := by omega
    rw [e]
    exact q fs hl hf
  refine ⟨r == 0, rfl, ?_⟩
  cases h0 : (r == 0) with
  | true =>
    rw [if_pos rfl]
    exact rest 3 (by decide) (by decide)
  | false =>
    rw [if_neg (by decide)]
    refine ⟨r == 1, rfl, ?_⟩
    cases h1 : (r == 1) with
    | true =>
      rw [if_pos rfl]
      refine ⟨rangeD 6, rfl, by rw [rangeD_len]; omega, w_fees_end (by omega) (fun d m Q' hm' hq => ?_) fun fs hl hf => ?_⟩
      · exact ⟨.int (10 ^ 6), by kernel_rfl, .int 50, rfl, 50, rfl, by decide, by decide, hm', fun r r0 r1 => ⟨.int (10 ^ 6 - r), rfl, hq _ ⟨10 ^ 6 - r, rfl, by omega, by omega⟩⟩⟩
      · have e : m + 1 + 6 = m + 7 := by omega
        rw [e]
        exact q fs hl hf
    | false =>
      rw [if_neg (by decide)]
      exact rest 10 (by decide) (by decide)
end DL

/-! R5: closed forms of begin and far_spot. -/
namespace DL
open PySem PySem.Spec PyProof.Rows L2

def tipsL : List D := [tipD 0, tipD 1, tipD 2, tipD 3]
theorem F_tips_eq : F_l_tips [] = some (.list tipsL) := by kernel_rfl
theorem tips_all : ∀ {ws : List D}, (∀ w ∈ ws, w ∈ tipsL) → ∃ us : List (Fin 4), ws = us.map tipD
  | [], _ => ⟨[], rfl⟩
  | w :: ws, h => by
    obtain ⟨us, rfl⟩ := tips_all fun w hw => h w (List.mem_cons_of_mem _ hw)
    have h1 := h w List.mem_cons_self
    have : ∃ u, w = tipD u := by
      simp only [tipsL, List.mem_cons, List.not_mem_nil, or_false] at h1
      rcases h1 with h | h | h | h
      · exact ⟨0, h⟩
      · exact ⟨1, h⟩
      · exact ⟨2, h⟩
      · exact ⟨3, h⟩
    obtain ⟨u, rfl⟩ := this
    exact ⟨u :: us, rfl⟩
def wkR (n : Int) : RE1 := (rDraw W_l_walk (rCons (rDraw W_l_take (rCons (rD (dC (.int n))) rNil)) (rCons (rD (dCall F_l_tips dNil)) rNil)))
theorem wk_ok {n : Int} {m : Nat} {ρ : Rp} {Q : Nat → D → Prop} (n0 : 0 < n) (n1 : n ≤ 100) (hm : m + n.toNat ≤ 900) (q : ∀ us : List (Fin 4), us.length < n.toNat → ∀ m', m' ≤ m + n.toNat → Q m' (walkD us)) : wkR n m ρ Q := by
  refine ⟨.int n, rfl, n, rfl, n0, by omega, by omega, fun r r0 r1 => ?_⟩
  refine ⟨.list tipsL, F_tips_eq, r.toNat, tipsL, ?_, by decide, by decide, by omega, fun ws hl hw => ?_⟩
  · have e2 : ((r.toNat : Nat) : Int) = r := by omega
    rw [e2]
  · obtain ⟨us, rfl⟩ := tips_all hw
    rw [List.length_map] at hl
    exact q us (by omega) _ (by omega)
def home : S3 := ⟨0, ⟨0, 0, 0⟩, ⟨0, 0, 0⟩, ⟨1, 1, 1⟩⟩
theorem F_home_eq : F_l_home [] = some home.d := by kernel_rfl
theorem Lead.fr {o t : S3} (h : Lead o t) (ho : Fr o.f) : Fr t.f := by
  obtain ⟨A, B, h⟩ := h
  obtain ⟨_, _, _, _, _, _, h7, h8, h9, _⟩ := h
  obtain ⟨f1, f2, f3⟩ := ho
  unfold Par at h7 h8 h9
  refine ⟨?_, ?_, ?_⟩ <;> omega
theorem fr_home : Fr home.f := ⟨.inl rfl, .inl rfl, .inl rfl⟩
theorem w3 {P : Int → Prop} {elt : RE1} {ρ : Rp} {i m : Nat} {Q : Nat → D → Prop} {ds : List D} (hd : ds.length = 3) (hm : m + 3 ≤ 900) (h : ∀ d ∈ ds, ∀ m Q', m < 900 → (∀ y : Int, P y → Q' (m + 1) (.int y)) → elt m (ρ.set i (some d)) Q')
    (q : ∀ t : T3, P t.a → P t.b → P t.c → Q (m + 3) t.d) : rlc elt ρ i (fun m1 d => ∃ d', tupleD [d] = some d' ∧ Q m1 d') [] ds m := by
  refine rlc_gen (P := fun d => ∃ y, d = .int y ∧ P y) ds [] m (fun d hd m Q' hm' hq => h d hd m Q' hm' fun y hy => hq _ ⟨y, rfl, hy⟩) (by omega) fun ws hl hw => ?_
  rw [hd] at hl ⊢
  match ws, hl, hw with
  | [a, b, c], _, hw =>
    obtain ⟨a, rfl, ha⟩ := hw a (by simp)
    obtain ⟨b, rfl, hb⟩ := hw b (by simp)
    obtain ⟨c, rfl, hc⟩ := hw c (by simp)
    exact ⟨_, rfl, q ⟨a, b, c⟩ ha hb hc⟩
def W_l_begin : WF := fun ds m Q => ds = [] ∧ m + 20 ≤ 900 ∧ ∀ s : S3, Fr s.f → ∀ m', m' ≤ m + 20 → Q m' s.d
theorem mono_l_begin : MonoW W_l_begin := fun ds m Q Q' h ⟨a, b, c⟩ => ⟨a, b, fun s hs m' hm => h _ _ (c s hs m' hm)⟩
theorem w_begin {ds : List D} {m : Nat} {Q : Nat → D → Prop} (h : W_l_begin ds m Q) : fnR 7 q_l_begin ds m Q := by
  obtain ⟨rfl, hm, q⟩ := h
  show rCall F_l_behind (rCons (rD (dCall F_l_home dNil)) (rCons (wkR 5) rNil)) m [none, none, none, none, none, none, none] _
  refine ⟨home.d, F_home_eq, wk_ok (by decide) (by decide) (by have : (5 : Int).toNat = 5 := rfl; omega) fun us hl m1 hm1 => ?_⟩
  have e5 : (5 : Int).toNat = 5 := rfl
  rw [e5] at hm1
  have hf : Fr (tips home us).f := (Lead.tips us (Lead.refl home)).fr fr_home
  generalize ht : tips home us = s at hf
  refine ⟨s.d, by rw [← ht]; exact F_behind_eq home us, _, rfl, rfl, ?_⟩
  refine ⟨.int 2, rfl, 2, rfl, by decide, by decide, by omega, fun r r0 r1 => ?_⟩
  refine ⟨.int 0, rfl, .bool (r == 0), rfl, r == 0, rfl, ?_⟩
  cases (r == 0) with
  | true =>
    rw [if_pos rfl]
    exact ⟨s.d, rfl, q s hf _ (by omega)⟩
  | false =>
    rw [if_neg (by decide)]
    obtain ⟨p, x, y, f⟩ := s
    have el : ∀ (ρ : Rp) (i : Int) (m : Nat) (Q' : Nat → D → Prop), ρ[5]? = some (some (.int i)) → m < 900 → (∀ y : Int, True → Q' (m + 1) (.int y)) → (r2 subD (r2 addD (rD (dVar 5)) (rDraw W_l_take (rCons (rD (dC (.int 5))) rNil))) (rD (dC (.int 2)))) m ρ Q' := fun ρ i m Q' h5 hm' hq => by
      have e : dVar 5 ρ = some (.int i) := by
        unfold dVar
        rw [h5]
      exact ⟨.int i, e, .int 5, rfl, 5, rfl, by decide, by decide, hm', fun r r0 r1 => ⟨.int (i + r), rfl, .int 2, rfl, .int (i + r - 2), rfl, hq _ trivial⟩⟩
    have mi : ∀ (t : T3) (d : D), d ∈ [PyData.int t.a, .int t.b, .int t.c] → ∃ i : Int, d = .int i := fun t d hd => by
      simp only [List.mem_cons, List.not_mem_nil, or_false] at hd
      rcases hd with h | h | h <;> exact ⟨_, h⟩
    refine ⟨[.int x.a, .int x.b, .int x.c], rfl, (by show (3 : Nat) ≤ 100000; decide), w3 (P := fun _ => True) rfl (by omega) (fun d hd m Q' hm' hq => ?_) fun x' _ _ _ => ?_⟩
    · obtain ⟨i, rfl⟩ := mi x d hd
      exact el _ i m Q' rfl hm' hq
    refine ⟨[.int y.a, .int y.b, .int y.c], rfl, (by show (3 : Nat) ≤ 100000; decide), w3 (P := fun _ => True) rfl (by omega) (fun d hd m Q' hm' hq => ?_) fun y' _ _ _ => ?_⟩
    · obtain ⟨i, rfl⟩ := mi y d hd
      exact el _ i m Q' rfl hm' hq
    refine ⟨_, rfl, x'.d, rfl, y'.d, rfl, rangeD 3, rfl, by rw [rangeD_len]; decide, w3 (P := fun i => i = 1 ∨ i = -1) (by rw [rangeD_len]) (by omega) (fun d hd m Q' hm' hq => ?_) fun f' h1 h2 h3 => ?_⟩
    · refine ⟨.int 1, rfl, .int 2, rfl, .int 2, rfl, 2, rfl, by decide, by decide, hm', fun r r0 r1 => ?_⟩
      have hr : r = 0 ∨ r = 1 := by omega
      rcases hr with rfl | rfl
      · exact ⟨.int 0, by kernel_rfl, .int 1, rfl, hq 1 (.inl rfl)⟩
      · exact ⟨.int 2, by kernel_rfl, .int (-1), rfl, hq (-1) (.inr rfl)⟩
    · exact ⟨(by show (4 : Nat) ≤ 100000; decide), q ⟨p, x', y', f'⟩ ⟨h1, h2, h3⟩ _ (by omega)⟩
def W_l_far_spot : WF := fun ds m Q => ∃ o : S3, ds = [o.d] ∧ m + 20 ≤ 900 ∧ ∀ t : S3, Lead o t → ∀ m', m' ≤ m + 20 → Q m' t.d
theorem mono_l_far_spot : MonoW W_l_far_spot := fun ds m Q Q' h ⟨o, a, b, c⟩ => ⟨o, a, b, fun s hs m' hm => h _ _ (c s hs m' hm)⟩
def goods : List D := [.int (-1), .int 1, .int 3, .int (-250), .int (10 ^ 9)]
def farE : Rp → Option D := (dCall tupleD (dCons (dLc (iEnumT (d2 getD_ (dVar 2) (dC (.int 1)))) (.many [6, 7]) tTrue (d2 addD (dVar 7) (d2 mulD (dVar 4) (dCall intD (dCons (d2 neD (dVar 6) (dVar 3)) dNil)))) [6, 7]) dNil))
theorem far_x {o : D} {t : S3} {g : D} (hg : g ∈ goods) {r : Int} (r0 : 0 ≤ r) (r1 : r < 3) : ∃ z : Int, mulD (.int 4) g = some (.int z) ∧ ∃ u v w : Int, farE [none, some o, some t.d, some (.int r), some (.int z), none, none, none] = some (T3.mk (t.x.a + 4 * u) (t.x.b + 4 * v) (t.x.c + 4 * w)).d := by
  have hr : r = 0 ∨ r = 1 ∨ r = 2 := by omega
  simp only [goods, List.mem_cons, List.not_mem_nil, or_false] at hg
  rcases hg with rfl | rfl | rfl | rfl | rfl
  · refine ⟨4 * (-1), by kernel_rfl, ?_⟩
    rcases hr with rfl | rfl | rfl
    · exact ⟨0, -1, -1, by kernel_rfl⟩
    · exact ⟨-1, 0, -1, by kernel_rfl⟩
    · exact ⟨-1, -1, 0, by kernel_rfl⟩
  · refine ⟨4 * 1, by kernel_rfl, ?_⟩
    rcases hr with rfl | rfl | rfl
    · exact ⟨0, 1, 1, by kernel_rfl⟩
    · exact ⟨1, 0, 1, by kernel_rfl⟩
    · exact ⟨1, 1, 0, by kernel_rfl⟩
  · refine ⟨4 * 3, by kernel_rfl, ?_⟩
    rcases hr with rfl | rfl | rfl
    · exact ⟨0, 3, 3, by kernel_rfl⟩
    · exact ⟨3, 0, 3, by kernel_rfl⟩
    · exact ⟨3, 3, 0, by kernel_rfl⟩
  · refine ⟨4 * (-250), by kernel_rfl, ?_⟩
    rcases hr with rfl | rfl | rfl
    · exact ⟨0, -250, -250, by kernel_rfl⟩
    · exact ⟨-250, 0, -250, by kernel_rfl⟩
    · exact ⟨-250, -250, 0, by kernel_rfl⟩
  · refine ⟨4 * (10 ^ 9), by kernel_rfl, ?_⟩
    rcases hr with rfl | rfl | rfl
    · exact ⟨0, 10 ^ 9, 10 ^ 9, by kernel_rfl⟩
    · exact ⟨10 ^ 9, 0, 10 ^ 9, by kernel_rfl⟩
    · exact ⟨10 ^ 9, 10 ^ 9, 0, by kernel_rfl⟩
theorem w_far_spot {ds : List D} {m : Nat} {Q : Nat → D → Prop} (h : W_l_far_spot ds m Q) : fnR 8 q_l_far_spot ds m Q := by
  obtain ⟨o, rfl, hm, q⟩ := h
  show rCall F_l_behind (rCons (rD (dVar 1)) (rCons (wkR 7) rNil)) m [none, some o.d, none, none, none, none, none, none] _
  have e7 : (7 : Int).toNat = 7 := rfl
  refine ⟨o.d, rfl, wk_ok (by decide) (by decide) (by omega) fun us hl m1 hm1 => ?_⟩
  rw [e7] at hm1
  have hL : Lead o (tips o us) := Lead.tips us (Lead.refl o)
  have hb := F_behind_eq o us
  generalize tips o us = t at hL hb
  refine ⟨t.d, hb, ?_⟩
  refine ⟨.int 3, rfl, 3, rfl, by decide, by decide, by omega, fun r r0 r1 => ?_⟩
  refine ⟨.int 0, rfl, .bool (decide (0 < r)), rfl, decide (0 < r), rfl, ?_⟩
  cases decide (0 < r) with
  | true =>
    rw [if_pos rfl]
    exact ⟨t.d, rfl, q t hL _ (by omega)⟩
  | false =>
    rw [if_neg (by decide)]
    refine ⟨.int 3, rfl, 3, rfl, by decide, by decide, by omega, fun r r0 r1 => ?_⟩
    refine ⟨.int 4, rfl, .list goods, by kernel_rfl, goods, rfl, by decide, by decide, by omega, fun g hg => ?_⟩
    obtain ⟨z, hz, u, v, w, he⟩ := far_x (o := o.d) (t := t) hg r0 r1
    refine ⟨.int z, hz, rfl, ?_⟩
    refine ⟨_, he, ?_⟩
    refine ⟨S3.d ⟨t.p, ⟨t.x.a + 4 * u, t.x.b + 4 * v, t.x.c + 4 * w⟩, t.y, t.f⟩, rfl, q _ (hL.shift u v w) _ (by omega)⟩
end DL

/-! R6: right. The first lines are printed by gen.py (Q1.txt). -/
namespace DL
open PySem PySem.Spec PyProof.Rows L2
def q_l_right (F_l_searched : List D → Option D) : RS1 :=
  (qSeq (qPar [1, 2] (rCons (rDraw W_l_begin rNil) (rCons (rDraw W_l_fees rNil) rNil)))
    (qSeq (qSet 3 (rDraw W_l_walk (rCons (rDraw W_l_take (rCons (rD (dC (.int 8))) rNil)) (rCons (rD (dCall F_l_tips dNil)) rNil))))
    (qSeq (qPar [4, 5] (rCons (rDraw W_l_far_spot (rCons (rD (dVar 1)) rNil)) (rCons (rD (dCall listD (dCons (dVar 2) dNil))) rNil)))
    (qSeq (qSet 6 (rD (dLst (dCons (dCall F_l_fee (dCons (dVar 1) (dCons (dVar 3) (dCons (dVar 2) dNil)))) (dCons (dSl (dCall F_l_thrift (dCons (dVar 1) (dCons (dVar 4) (dCons (dVar 2) dNil)))) pNo (pSo (dC (.int 2)))) dNil)))))
    (qSeq (qSet 7 (rD (dLst (dCons (dCall F_price_of (dCons (dVar 1) (dCons (dCall F_l_lists (dCons (dVar 3) dNil)) (dCons (dVar 5) dNil)))) (dCons (dCall F_cheap_and_few (dCons (dCall F_l_lists (dCons (dVar 1) dNil)) (dCons (dVar 4) (dCons (dVar 2) dNil)))) dNil)))))
    (qSeq (qSet 7 (rD (d2 addD (dVar 7) (dLst (dCons (dCall F_cheapest (dCons (dVar 1) (dCons (dCall F_l_lists (dCons (dVar 4) dNil)) (dCons (dVar 5) dNil)))) (dCons (dCall F_cheapest (dCons (dVar 4) (dCons (dVar 1) (dCons (dVar 2) dNil)))) dNil))))))
    (qSeq (qIf (fun m ρ Q => ∃ b, (tNot_ (tB_ (dCall F_l_same (dCons (dVar 7) (dCons (d2 addD (dVar 6) (d2 mulD (dLst (dCons (d2 getD_ (d2 getD_ (dVar 6) (dC (.int 1))) (dC (.int 0))) dNil)) (dC (.int 2)))) dNil))))) ρ = some b ∧ Q m b) (qRet (rD (dC (.bool false)))) qNext)
    (qSeq (qIf (rB (r2 gtD (rDraw W_l_take (rCons (rD (dC (.int 4))) rNil)) (rD (dC (.int 0))))) (qRet (rD (dC (.bool true)))) qNext)
    (qSeq (qSet 4 (rCall F_l_behind (rCons (rD (dVar 1)) (rCons (rDraw W_l_walk (rCons (rDraw W_l_take (rCons (rD (dC (.int 4))) rNil)) (rCons (rD (dCall F_l_tips dNil)) rNil))) rNil))))
    (qRet (rD (dCall F_l_same (dCons (dCall F_cheapest (dCons (dVar 1) (dCons (dVar 4) (dCons (dVar 2) dNil)))) (dCons (dCall F_l_searched (dCons (dVar 1) (dCons (dVar 4) (dCons (dVar 2) dNil)))) dNil))))))))))))))
section
variable {P : Program} {w : World} {K : PySem.W.Frag} {mg : Str → Option Value} {base : Heap}
theorem q0_l_right {f : Addr} {fd : FuncData} (F : Fun K "_law_right" "_law_right" s_l_right f fd) (hm : mg "_law_right" = some (.ref f)) (hB : Binds K fd ["_law_tin"] []) (B : Txt K mg) (F_l_searched : List D → Option D) (C_l_same : Callee P w K mg base 6 "_law_same" 2 F_l_same) (C_l_searched : Callee P w K mg base 6 "_law_searched" 3 F_l_searched) (C_cheapest : Callee P w K mg base 11 "cheapest" 3 F_cheapest) (C_l_behind : Callee P w K mg base 5 "_law_behind" 2 F_l_behind) (R_l_walk : CallR_ P w K mg base 3 "_law_walk" 2 W_l_walk) (C_l_tips : Callee P w K mg base 2 "_law_tips" 0 F_l_tips) (R_l_take : CallR_ P w K mg base 1 "_law_take" 1 W_l_take) (C_l_lists : Callee P w K mg base 6 "_law_lists" 1 F_l_lists) (C_cheap_and_few : Callee P w K mg base 11 "cheap_and_few" 3 F_cheap_and_few) (C_price_of : Callee P w K mg base 8 "price_of" 3 F_price_of) (C_l_thrift : Callee P w K mg base 4 "_law_thrift" 3 F_l_thrift) (C_l_fee : Callee P w K mg base 5 "_law_fee" 3 F_l_fee) (R_l_far_spot : CallR_ P w K mg base 6 "_law_far_spot" 1 W_l_far_spot) (R_l_fees : CallR_ P w K mg base 2 "_law_fees" 0 W_l_fees) (R_l_begin : CallR_ P w K mg base 6 "_law_begin" 0 W_l_begin) : CallR_ P w K mg base 12 "_law_right" 0 (fnR 8 (q_l_right F_l_searched)) := by
  exact callR_mk F sc_l_right hm hB rfl fun cdv A outer s H E hr => (
      (rss_cons (rs_par (by decide) (by decide) rfl sc_l_right.nd rfl rfl (by decide) rfl rfl (ra_cons (re_draw R_l_begin (hr.mono (by decide)) (by rfl) (pv 0) ra_nil rfl rlen_nil) (ra_cons (re_draw R_l_fees (hr.mono (by decide)) (by rfl) (pv 0) ra_nil rfl rlen_nil) ra_nil)))
      (rss_cons (rs_set (i := 3) (by decide) sc_l_right.nd rfl (Or.inl rfl) (re_draw R_l_walk (hr.mono (by decide)) (by rfl) (pv 0) (ra_cons (re_draw R_l_take (hr.mono (by decide)) (by rfl) (pv 0) (ra_cons (re_D de_int) ra_nil) rfl (rlen_cons mono_D rlen_nil)) (ra_cons (re_D (de_call0 C_l_tips (hr.mono (by decide)) (by rfl))) ra_nil)) rfl (rlen_cons (mono_draw mono_l_take (mono_cons mono_D mono_nil)) (rlen_cons mono_D rlen_nil))))
      (rss_cons (rs_par (by decide) (by decide) rfl sc_l_right.nd rfl rfl (by decide) rfl rfl (ra_cons (re_draw R_l_far_spot (hr.mono (by decide)) (by rfl) (pv 0) (ra_cons (re_D (de_var 1)) ra_nil) rfl (rlen_cons mono_D rlen_nil)) (ra_cons (re_D (de_list (by rfl) B.list (da_cons (de_var 2) da_nil))) ra_nil)))
      (rss_cons (rs_set (i := 6) (by decide) sc_l_right.nd rfl (Or.inl rfl) (re_D (de_lst (da_cons (de_call C_l_fee (hr.mono (by decide)) (by rfl) (da_cons (de_var 1) (da_cons (de_var 3) (da_cons (de_var 2) da_nil))) rfl (len_cons (len_cons (len_cons len_nil)))) (da_cons (de_sl (de_call C_l_thrift (hr.mono (by decide)) (by rfl) (da_cons (de_var 1) (da_cons (de_var 4) (da_cons (de_var 2) da_nil))) rfl (len_cons (len_cons (len_cons len_nil)))) do_no (do_so de_int)) da_nil)))))
      (rss_cons (rs_set (i := 7) (by decide) sc_l_right.nd rfl (Or.inl rfl) (re_D (de_lst (da_cons (de_call C_price_of (hr.mono (by decide)) (by rfl) (da_cons (de_var 1) (da_cons (de_call C_l_lists (hr.mono (by decide)) (by rfl) (da_cons (de_var 3) da_nil) rfl (len_cons len_nil)) (da_cons (de_var 5) da_nil))) rfl (len_cons (len_cons (len_cons len_nil)))) (da_cons (de_call C_cheap_and_few (hr.mono (by decide)) (by rfl) (da_cons (de_call C_l_lists (hr.mono (by decide)) (by rfl) (da_cons (de_var 1) da_nil) rfl (len_cons len_nil)) (da_cons (de_var 4) (da_cons (de_var 2) da_nil))) rfl (len_cons (len_cons (len_cons len_nil)))) da_nil)))))
      (rss_cons (rs_set (i := 7) (by decide) sc_l_right.nd rfl (Or.inl rfl) (re_D (de_add (de_var 7) (de_lst (da_cons (de_call C_cheapest (hr.mono (by decide)) (by rfl) (da_cons (de_var 1) (da_cons (de_call C_l_lists (hr.mono (by decide)) (by rfl) (da_cons (de_var 4) da_nil) rfl (len_cons len_nil)) (da_cons (de_var 5) da_nil))) rfl (len_cons (len_cons (len_cons len_nil)))) (da_cons (de_call C_cheapest (hr.mono (by decide)) (by rfl) (da_cons (de_var 4) (da_cons (de_var 1) (da_cons (de_var 2) da_nil))) rfl (len_cons (len_cons (len_cons len_nil)))) da_nil))))))
      (rss_cons (rs_if (rt_D (dt_not (dt_val (de_call C_l_same (hr.mono (by decide)) (by rfl) (da_cons (de_var 7) (da_cons (de_add (de_var 6) (de_mul (de_lst (da_cons (de_ix (de_ix (de_var 6) de_int) de_int) da_nil)) de_int)) da_nil)) rfl (len_cons (len_cons len_nil)))))) (rss_one (rs_ret (re_D de_bl))) rss_nil)
      (rss_cons (rs_if (rt_gt (re_draw R_l_take (hr.mono (by decide)) (by rfl) (pv 0) (ra_cons (re_D de_int) ra_nil) rfl (rlen_cons mono_D rlen_nil)) (re_D de_int)) (rss_one (rs_ret (re_D de_bl))) rss_nil)
      (rss_cons (rs_set (i := 4) (by decide) sc_l_right.nd rfl (Or.inl rfl) (re_call C_l_behind (hr.mono (by decide)) (by rfl) (ra_cons (re_D (de_var 1)) (ra_cons (re_draw R_l_walk (hr.mono (by decide)) (by rfl) (pv 0) (ra_cons (re_draw R_l_take (hr.mono (by decide)) (by rfl) (pv 0) (ra_cons (re_D de_int) ra_nil) rfl (rlen_cons mono_D rlen_nil)) (ra_cons (re_D (de_call0 C_l_tips (hr.mono (by decide)) (by rfl))) ra_nil)) rfl (rlen_cons (mono_draw mono_l_take (mono_cons mono_D mono_nil)) (rlen_cons mono_D rlen_nil))) ra_nil)) rfl (rlen_cons mono_D (rlen_cons (mono_draw mono_l_walk (mono_cons (mono_draw mono_l_take (mono_cons mono_D mono_nil)) (mono_cons mono_D mono_nil))) rlen_nil))))
      (rss_one (rs_ret (re_D (de_call C_l_same (hr.mono (by decide)) (by rfl) (da_cons (de_call C_cheapest (hr.mono (by decide)) (by rfl) (da_cons (de_var 1) (da_cons (de_var 4) (da_cons (de_var 2) da_nil))) rfl (len_cons (len_cons (len_cons len_nil)))) (da_cons (de_call C_l_searched (hr.mono (by decide)) (by rfl) (da_cons (de_var 1) (da_cons (de_var 4) (da_cons (de_var 2) da_nil))) rfl (len_cons (len_cons (len_cons len_nil)))) da_nil)) rfl (len_cons (len_cons len_nil))))))))))))))))
end
theorem dCall_eq {F : List D → Option D} {g : Rp → Option (List D)} {ρ : Rp} {ds : List D} {d : D} (h1 : g ρ = some ds) (h2 : F ds = some d) : dCall F g ρ = some d := by
  unfold dCall
  rw [h1]
  exact h2
theorem dLst_eq {g : Rp → Option (List D)} {ρ : Rp} {ds : List D} (h1 : g ρ = some ds) (h2 : ds.length ≤ 1000) : dLst g ρ = some (.list ds) := by
  unfold dLst
  rw [h1]
  exact if_pos (by omega)
theorem same4 (a b c d e a' b' c' d' e' : Int) : F_l_same [.list [.int a, .tuple [.int b, .int c], .int d, .int e], .list [.int a', .tuple [.int b', .int c'], .int d', .int e']] = some (.bool ([a == a', [b == b', c == c'].all id, d == d', e == e'].all id)) := by kernel_rfl
theorem same1 (a b : Int) : F_l_same [.int a, .int b] = some (.bool (a == b)) := by kernel_rfl
theorem sl2 (a b : Int) (T : List (Fin 6)) {f : Rp → Option D} {ρ : Rp} (h : f ρ = some (trD a b T)) : dSl f pNo (pSo (dC (.int 2))) ρ = some (.tuple [.int a, .int b]) := by
  unfold dSl
  rw [h]
  kernel_rfl
def fsP (a b c d e f : Int) : P6 := ⟨fun k => match k with | 0 => a | 1 => b | 2 => c | 3 => d | 4 => e | 5 => f⟩
theorem fees_P {fs : List Int} (hl : fs.length = 6) (hf : ∀ f ∈ fs, 0 ≤ f ∧ f ≤ 1000000) : ∃ F : P6, F.Le ∧ PyData.tuple (fs.map .int) = F.d := by
  match fs, hl, hf with
  | [a, b, c, d, e, f], _, hf =>
    refine ⟨fsP a b c d e f, ?_, rfl⟩
    refine all6 ?_ ?_ ?_ ?_ ?_ ?_
    · exact hf a (by simp)
    · exact hf b (by simp)
    · exact hf c (by simp)
    · exact hf d (by simp)
    · exact hf e (by simp)
    · exact hf f (by simp)
def SearchOk (FS : List D → Option D) : Prop := ∀ (o : S3) (ws : List (Fin 4)) (F : P6), ws.length ≤ 3 → Fr o.f → F.Le → ∃ a : Int, F_cheapest [o.d, (tips o ws).d, F.d] = some (.int a) ∧ FS [o.d, (tips o ws).d, F.d] = some (.int a)
theorem right_ok {FS : List D → Option D} (hS : SearchOk FS) {m : Nat} (hm : m + 200 ≤ 900) : fnR 8 (q_l_right FS) [] m (fun _ d => d = .bool true) := by
  have e8 : (8 : Int).toNat = 8 := rfl
  have e4 : (4 : Int).toNat = 4 := rfl
  refine ⟨rfl, by omega, fun o ho m1 hm1 => ⟨rfl, by omega, fun fs hl hf => ⟨rfl, ?_⟩⟩⟩
  obtain ⟨F, hF, eF⟩ := fees_P hl hf
  rw [eF]
  clear eF hl hf fs
  show wkR 8 (m1 + 7) [none, some o.d, some F.d, none, none, none, none, none] _
  refine wk_ok (by decide) (by decide) (by omega) fun us hu m2 hm2 => ?_
  rw [e8] at hm2 hu
  refine ⟨o.d, rfl, o, rfl, by omega, fun t ht m3 hm3 => ⟨F.l, rfl, rfl, ?_⟩⟩
  have htf := ht.fr ho
  obtain ⟨a, b, T, A, _⟩ := ht.answer ho htf F hF
  obtain ⟨U, hU⟩ := A.thrift
  let ρ (x y : Option D) : Rp := [none, some o.d, some F.d, some (walkD us), some t.d, some F.l, x, y]
  have s6 : (dLst (dCons (dCall F_l_fee (dCons (dVar 1) (dCons (dVar 3) (dCons (dVar 2) dNil)))) (dCons (dSl (dCall F_l_thrift (dCons (dVar 1) (dCons (dVar 4) (dCons (dVar 2) dNil)))) pNo (pSo (dC (.int 2)))) dNil))) (ρ none none) = some (.list [.int (feeS F o us), .tuple [.int a, .int b]]) :=
    dLst_eq (dCons_eq (dCall_eq (ds := [o.d, walkD us, F.d]) rfl (F_fee_eq F o us)) (dCons_eq (sl2 a b U (dCall_eq (ds := [o.d, t.d, F.d]) rfl hU)) rfl)) (by simp)
  refine ⟨_, s6, ?_⟩
  have s7 : (dLst (dCons (dCall F_price_of (dCons (dVar 1) (dCons (dCall F_l_lists (dCons (dVar 3) dNil)) (dCons (dVar 5) dNil)))) (dCons (dCall F_cheap_and_few (dCons (dCall F_l_lists (dCons (dVar 1) dNil)) (dCons (dVar 4) (dCons (dVar 2) dNil)))) dNil))) (ρ (some (.list [.int (feeS F o us), .tuple [.int a, .int b]])) none) = some (.list [.int (feeS F o us), .tuple [.int a, .int b]]) :=
    dLst_eq (dCons_eq (dCall_eq (dCons_eq rfl (dCons_eq (dCall_eq (ds := [walkD us]) rfl (F_lists_w us (by omega))) rfl)) (F_price_w F o us (by omega) ho hF.ok)) (dCons_eq (dCall_eq (dCons_eq (dCall_eq (ds := [o.d]) rfl (F_lists_s o)) rfl) (A.few o.l t.d F.d (.inr rfl) (.inl rfl) (.inl rfl))) rfl)) (by simp)
  refine ⟨_, s7, ?_⟩
  have s8 : (d2 addD (dVar 7) (dLst (dCons (dCall F_cheapest (dCons (dVar 1) (dCons (dCall F_l_lists (dCons (dVar 4) dNil)) (dCons (dVar 5) dNil)))) (dCons (dCall F_cheapest (dCons (dVar 4) (dCons (dVar 1) (dCons (dVar 2) dNil)))) dNil)))) (ρ (some (.list [.int (feeS F o us), .tuple [.int a, .int b]])) (some (.list [.int (feeS F o us), .tuple [.int a, .int b]]))) = some (.list [.int (feeS F o us), .tuple [.int a, .int b], .int a, .int a]) := by
    have h1 : (dLst (dCons (dCall F_cheapest (dCons (dVar 1) (dCons (dCall F_l_lists (dCons (dVar 4) dNil)) (dCons (dVar 5) dNil)))) (dCons (dCall F_cheapest (dCons (dVar 4) (dCons (dVar 1) (dCons (dVar 2) dNil)))) dNil))) (ρ (some (.list [.int (feeS F o us), .tuple [.int a, .int b]])) (some (.list [.int (feeS F o us), .tuple [.int a, .int b]]))) = some (.list [.int a, .int a]) :=
      dLst_eq (dCons_eq (dCall_eq (dCons_eq rfl (dCons_eq (dCall_eq (ds := [t.d]) rfl (F_lists_s t)) rfl)) (A.cheap o.d t.l F.l (.inl rfl) (.inr rfl) (.inr rfl))) (dCons_eq (dCall_eq (ds := [t.d, o.d, F.d]) rfl A.back) rfl)) (by simp)
    rw [d2_eq rfl h1]
    kernel_rfl
  refine ⟨_, s8, ?_⟩
  let ρ2 : Rp := ρ (some (.list [.int (feeS F o us), .tuple [.int a, .int b]])) (some (.list [.int (feeS F o us), .tuple [.int a, .int b], .int a, .int a]))
  have s9 : (tNot_ (tB_ (dCall F_l_same (dCons (dVar 7) (dCons (d2 addD (dVar 6) (d2 mulD (dLst (dCons (d2 getD_ (d2 getD_ (dVar 6) (dC (.int 1))) (dC (.int 0))) dNil)) (dC (.int 2)))) dNil))))) ρ2 = some false := by
    have h1 : (d2 addD (dVar 6) (d2 mulD (dLst (dCons (d2 getD_ (d2 getD_ (dVar 6) (dC (.int 1))) (dC (.int 0))) dNil)) (dC (.int 2)))) ρ2 = some (.list [.int (feeS F o us), .tuple [.int a, .int b], .int a, .int a]) := by kernel_rfl
    have h2 : dCall F_l_same (dCons (dVar 7) (dCons (d2 addD (dVar 6) (d2 mulD (dLst (dCons (d2 getD_ (d2 getD_ (dVar 6) (dC (.int 1))) (dC (.int 0))) dNil)) (dC (.int 2)))) dNil)) ρ2 = some (.bool true) := dCall_eq (dCons_eq rfl (dCons_eq h1 rfl)) (by rw [same4]; simp)
    unfold tNot_ tB_
    rw [h2]
    rfl
  refine ⟨false, s9, ?_⟩
  show (if false = true then _ else _)
  rw [if_neg (by decide)]
  refine ⟨.int 4, rfl, 4, rfl, by decide, by decide, by omega, fun r r0 r1 => ?_⟩
  refine ⟨.int 0, rfl, .bool (decide (0 < r)), rfl, decide (0 < r), rfl, ?_⟩
  cases decide (0 < r) with
  | true =>
    rw [if_pos rfl]
    exact ⟨_, rfl, rfl⟩
  | false =>
    rw [if_neg (by decide)]
    show rCall F_l_behind (rCons (rD (dVar 1)) (rCons (wkR 4) rNil)) _ ρ2 _
    refine ⟨o.d, rfl, wk_ok (by decide) (by decide) (by omega) fun vs hv m4 hm4 => ?_⟩
    rw [e4] at hv
    refine ⟨_, F_behind_eq o vs, ?_⟩
    obtain ⟨z, z1, z2⟩ := hS o vs F (by omega) ho hF
    refine ⟨.bool true, ?_, rfl⟩
    exact dCall_eq (dCons_eq (dCall_eq (ds := [o.d, (tips o vs).d, F.d]) rfl z1) (dCons_eq (dCall_eq (ds := [o.d, (tips o vs).d, F.d]) rfl z2) rfl)) (by rw [same1]; simp)
end DL

/-! K1: calls by names alone, the names in the def's order turned round. -/
namespace DL
open PySem PySem.Spec PyProof.Rows L2
def gR {α : Type} : List α → List α → List α := fun us ws => us ++ ws.reverse
structure CalleeK (P : Program) (w : World) (K : PySem.W.Frag) (mg : Str → Option Value) (base : Heap) (k : Nat) (x : Str) (n : Nat) (ks : List Str) (F : List D → Option D) : Prop where
  ex : ∃ (f : Addr) (fd : FuncData) (ps : List Str), FnOk P w K mg base CX0 k f fd ps (spD K n F) ∧ mg x = some (.ref f) ∧ PySem.W.keepIn K (.ref f) = true ∧ KBinds K fd ps ks gR gR
theorem vals_rev : ∀ {vs : List V} {us : List Value}, Vals vs us → Vals vs.reverse us.reverse
  | _, _, .nil => .nil
  | _, _, .cons r t => by
    rw [List.reverse_cons, List.reverse_cons]
    exact (vals_rev t).append (.cons r .nil)
section
variable {X : Cx} {CX : CXT} {k : Nat} {f : Addr} {fd : FuncData} {ps ks : List Str} {sp : Sp} {E : XK} {x : Str} {p pos : Pos} {kws : List Keyword} {tk : TA} {g : List Value → List Value → List Value} {gV : List V → List V → List V}
theorem pe_callK0 (F : FnOk X.prog X.w X.K X.mg X.base CX k f fd ps sp) (hr : Room k X.A) (hg : Gl X x) (hm : X.mg x = some (.ref f)) (hk : PySem.W.keepIn X.K (.ref f) = true) (hb : KBinds X.K fd ps ks g gV) (hx : Passes CX X E)
    (hkw : PK X kws tk) (hall : (backToKw pos (keywordEach kws X.env)).all (·.1.isSome) = true := by rfl) (hks : (backToKw pos (keywordEach kws X.env)).filterMap (·.1) = ks := by rfl)
    (hdb : (x == ("__debug__" : Str)) = false := by decide)
    (hpl : ((backTo pos (starEach [] X.env)).any (·.1) || (backToKw pos (keywordEach kws X.env)).any (·.1.isNone)) = false := by rfl) :
    PE X (.Call (.Name x p) [] kws pos) (tCallK sp gV E tNil tk) := by
  refine ⟨fun pins s σ H Q I h => ?_⟩
  refine wpAny_Call_Name_kw (ld_glob I hg hm ?_ hdb)
  refine PySem.W.callWith_KW0 (h₀ := X.base) I.ok.mod.kin hk hall (thn (hkw.run pos pins s σ H _ I h) fun ws s2 ⟨zs, H2, I2, rz, q2⟩ => ⟨I2.kIn, ?_⟩) hpl
  rw [hks]
  exact run_fnk (us := []) F hr hb hx I2 .nil rz q2
end
theorem _root_.L2.PK.imp {X : Cx} {es : List Keyword} {t t' : TA} (h : PK X es t) (hi : ∀ σ H Q, t' σ H Q → t σ H Q) : PK X es t' := ⟨fun pos pins s σ H Q I w => h.run pos pins s σ H Q I (hi σ H Q w)⟩
abbrev DKw (X : Cx) (es : List Keyword) (f : Rp → Option (List D)) : Prop := PK X es (tDA X.K f)
def dCallR (F : List D → Option D) (g : Rp → Option (List D)) : Rp → Option D := fun ρ => (g ρ).bind fun ds => F ds.reverse
section
variable {X : Cx} {e : Expr} {fa : Rp → Option D} {g : Rp → Option (List D)}
theorem dkw_nil : DKw X [] dNil := (pk_nil (X := X)).imp fun σ H Q ⟨G, ρ, ds, at_, e, p⟩ => by
  cases e
  exact p [] G H (.refl at_.s) .nil
theorem dkw_cons {kws : List Keyword} {nm : Option Str} {kpos : Pos} (ha : DE X e fa) (hr : DKw X kws g) : DKw X (⟨nm, e, kpos⟩ :: kws) (dCons fa g) := (pk_cons ha hr).imp fun σ H Q ⟨G, ρ, ds, at_, e, p⟩ => by
  unfold dCons at e
  obtain ⟨d, e1, e⟩ := Option.bind_eq_some_iff.mp e
  obtain ⟨ds', e2, e⟩ := Option.bind_eq_some_iff.mp e
  cases e
  refine ⟨G, ρ, d, at_, e1, fun v G1 H1 s1 h1 => ?_⟩
  refine ⟨G1, ρ, ds', at_.stp s1, e2, fun vs G2 H2 s2 h2 => ?_⟩
  exact p _ G2 H2 (s1.trans s2) (.cons (h1.to s2.g) h2)
theorem DqAll.rev {K : PySem.W.Frag} {G : Hp} : ∀ {vs : List V} {ds : List D}, DqAll K G vs ds → DqAll K G vs.reverse ds.reverse
  | _, _, .nil => .nil
  | _, _, .cons h t => by
    rw [List.reverse_cons, List.reverse_cons]
    exact (DqAll.rev t).append (.cons h .nil)
theorem de_callK {F : List D → Option D} {x : Str} {pp pos : Pos} {k n : Nat} {ks : List Str} {kws : List Keyword} (C : CalleeK X.prog X.w X.K X.mg X.base k x n ks F) (hr : Room k X.A) (hg : Gl X x) (ha : DKw X kws g) (hl : ∀ ρ ds, g ρ = some ds → ds.length = n)
    (hall : (backToKw pos (keywordEach kws X.env)).all (·.1.isSome) = true := by rfl) (hks : (backToKw pos (keywordEach kws X.env)).filterMap (·.1) = ks := by rfl)
    (hdb : (x == ("__debug__" : Str)) = false := by decide)
    (hpl : ((backTo pos (starEach [] X.env)).any (·.1) || (backToKw pos (keywordEach kws X.env)).any (·.1.isNone)) = false := by rfl) :
    DE X (.Call (.Name x pp) [] kws pos) (dCallR F g) := by
  obtain ⟨f, fd, ps, F0, hm, hk, hb⟩ := C.ex
  refine L2.PE.imp (pe_callK0 F0 hr hg hm hk hb pass0 ha hall hks hdb hpl) fun σ H Q ⟨G, ρ, d, at_, e, p⟩ => ?_
  unfold dCallR at e
  obtain ⟨ds, e1, e⟩ := Option.bind_eq_some_iff.mp e
  refine ⟨G, ρ, ds, at_, e1, fun vs G1 H1 s1 h1 => ?_⟩
  have key : spD X.K n F ([] ++ vs.reverse) H1 Q E0 := ⟨by rw [List.nil_append, List.length_reverse, h1.length]; exact hl ρ ds e1, G1, ds.reverse, d, s1.gh, by rw [List.nil_append]; exact h1.rev, e, p.stp s1⟩
  exact key
end
/-- how three parameters bind -/
theorem kbinds3 {K : PySem.W.Frag} {x qual : Str} {st : Stmt} {f : Addr} {fd : FuncData} {a b c : Str} (F : Fun K x qual st f fd)
    (h : ∀ (kV doc pm : Value) (an : Option Addr) (cdv ct : Value) (us ws : List Value), (us ++ ws.reverse).length = 3 → bindArgs (PySem.W.fnOf x qual (defArgs st) (defBody st) (defScope st) .none kV doc pm an cdv ct) ⟨us, [c, b, a].zip ws⟩ = pure ([a, b, c].zip (us ++ ws.reverse))) : KBinds K fd [a, b, c] [c, b, a] gR gR := by
  obtain ⟨oc, od, kV, doc, pm, an, cdv, ct, osl, rfl, lk, hcd⟩ := F.ex
  exact ⟨fun s us ws _ hl => .of_eq (h kV doc pm an cdv ct us ws hl), fun r z => r.append (vals_rev z)⟩
end DL

/-! B0: calls by keywords, by_hand_right (printed by gen.py). -/
namespace DL
open PySem PySem.Spec PyProof.Rows L2
def g_l_by_hand_right : Rs → Option Out :=
  (sSeq (sPar [0, 1, 2] (kP (dCall F_l_home dNil) (kP (dTup (dCons (dTup (dCons (dC (.int 0)) (dCons (dC (.int 1)) (dCons (dC (.int 2)) dNil)))) (dCons (dTup (dCons (dC (.int 0)) (dCons (dC (.int 2)) (dCons (dC (.int 2)) dNil)))) (dCons (dTup (dCons (dC (.int 0)) (dCons (dC (.int 0)) (dCons (dC (.int 0)) dNil)))) (dCons (dTup (dCons (dC (.int 1)) (dCons (d1 negD (dC (.int 1))) (dCons (d1 negD (dC (.int 1))) dNil)))) dNil))))) (kP (dTup (dCons (dC (.int 1)) (dCons (dC (.int 1)) (dCons (dC (.int 1)) (dCons (dC (.int 1)) (dCons (dC (.int 1)) (dCons (dC (.int 1)) dNil))))))) kNil))))
    (sSeq (sSet 3 (dLst (dCons (dCallR F_price_of (dCons (dLst (dCons (dC (.int 1)) (dCons (dC (.int 10)) (dCons (dC (.int 100)) (dCons (dC (.int 1000)) (dCons (d2 powD (dC (.int 10)) (dC (.int 4))) (dCons (d2 powD (dC (.int 10)) (dC (.int 5))) dNil))))))) (dCons (dLst (dCons (dLst (dCons (dC (.str (Str.ofString "tip"))) (dCons (dC (.int 0)) dNil))) (dCons (dTup (dCons (dC (.str (Str.ofString "tip"))) (dCons (dC (.int 1)) dNil))) (dCons (dTup (dCons (dC (.str (Str.ofString "tip"))) (dCons (dC (.int 2)) dNil))) dNil)))) (dCons (dCall F_l_lists (dCons (dVar 0) dNil)) dNil)))) dNil)))
    (sSeq (sSet 3 (d2 addD (dVar 3) (dLst (dCons (dCallR F_cheapest (dCons (dVar 2) (dCons (dCall F_l_lists (dCons (dVar 1) dNil)) (dCons (dVar 0) dNil)))) (dCons (dCall F_cheap_and_few (dCons (dVar 0) (dCons (dVar 1) (dCons (dTup (dCons (dC (.int 5)) (dCons (dC (.int 1)) (dCons (dC (.int 1)) (dCons (dC (.int 1)) (dCons (dC (.int 1)) (dCons (dC (.int 1)) dNil))))))) dNil)))) dNil)))))
    (sSeq (sSet 3 (d2 addD (dVar 3) (dLst (dCons (dCallR F_cheap_and_few (dCons (dLst (dCons (dC (.int 0)) (dCons (dC (.int 0)) (dCons (dC (.int 1)) (dCons (dC (.int 7)) (dCons (dC (.int 7)) (dCons (dC (.int 7)) dNil))))))) (dCons (dVar 1) (dCons (dVar 0) dNil)))) (dCons (dCall F_price_of (dCons (dVar 0) (dCons (dTup dNil) (dCons (dVar 2) dNil)))) (dCons (dCall F_cheapest (dCons (dVar 0) (dCons (dVar 0) (dCons (dVar 2) dNil)))) dNil))))))
    (sRet (dCall F_l_same (dCons (dVar 3) (dCons (dLst (dCons (dC (.int 111)) (dCons (dC (.int 6)) (dCons (dTup (dCons (dC (.int 8)) (dCons (dC (.int 8)) dNil))) (dCons (dTup (dCons (dC (.int 2)) (dCons (dC (.int 6)) dNil))) (dCons (dC (.int 0)) (dCons (dC (.int 0)) dNil))))))) dNil))))))))
def F_l_by_hand_right : List D → Option D := fnD 4 g_l_by_hand_right
theorem F_by_hand : F_l_by_hand_right [] = some (.bool true) := by kernel_rfl
section
variable {P : Program} {w : World} {K : PySem.W.Frag} {mg : Str → Option Value} {base : Heap}
theorem ck_price_of {f : Addr} {fd : FuncData} (F : Fun K "price_of" "price_of" s_price_of f fd) (hm : mg "price_of" = some (.ref f)) (hB : KBinds K fd ["stand", "row", "prices"] ["prices", "row", "stand"] gR gR) (B : Txt K mg) (C_price_in : Callee P w K mg base 6 "price_in" 3 F_price_in) (C_is_tips : Callee P w K mg base 4 "is_tips" 1 F_is_tips) (C_sure_prices : Callee P w K mg base 7 "sure_prices" 1 F_sure_prices) (C_sure_row : Callee P w K mg base 7 "sure_row" 1 F_sure_row) (C_sure_stand : Callee P w K mg base 7 "sure_stand" 1 F_sure_stand) : CalleeK P w K mg base 8 "price_of" 3 ["prices", "row", "stand"] F_price_of := by
  refine ⟨f, fd, ["stand", "row", "prices"], fn_ok (N := N_price_of) F sc_price_of fun cdv A outer s H E hr => (
      (dss_cons (ds_par rfl sc_price_of.nd rfl rfl (by decide) rfl rfl (dk_P (de_call C_sure_stand (hr.mono (by decide)) (by rfl) (da_cons (de_var 0) da_nil) rfl (len_cons len_nil)) (dk_P (de_call C_sure_row (hr.mono (by decide)) (by rfl) (da_cons (de_var 1) da_nil) rfl (len_cons len_nil)) dk_nil)))
      (dss_cons (ds_set (i := 5) sc_price_of.nd rfl (Or.inl rfl) (de_call C_sure_prices (hr.mono (by decide)) (by rfl) (da_cons (de_var 2) da_nil) rfl (len_cons len_nil)))
      (dss_cons (ds_if (dt_not (dt_val (de_call C_is_tips (hr.mono (by decide)) (by rfl) (da_cons (de_var 4) da_nil) rfl (len_cons len_nil)))) (dss_one ds_never) dss_nil)
      (dss_one (ds_ret (de_call C_price_in (hr.mono (by decide)) (by rfl) (da_cons (de_var 3) (da_cons (de_var 4) (da_cons (de_var 5) da_nil))) rfl (len_cons (len_cons (len_cons len_nil)))))))))), hm, F.kp, hB⟩
theorem ck_cheapest {f : Addr} {fd : FuncData} (F : Fun K "cheapest" "cheapest" s_cheapest f fd) (hm : mg "cheapest" = some (.ref f)) (hB : KBinds K fd ["stand", "goal", "prices"] ["prices", "goal", "stand"] gR gR) (B : Txt K mg) (C_least_in : Callee P w K mg base 5 "least_in" 3 F_least_in) (C_sure_priced : Callee P w K mg base 10 "sure_priced" 3 F_sure_priced) : CalleeK P w K mg base 11 "cheapest" 3 ["prices", "goal", "stand"] F_cheapest := by
  refine ⟨f, fd, ["stand", "goal", "prices"], fn_ok (N := N_cheapest) F sc_cheapest fun cdv A outer s H E hr => (
      (dss_cons (ds_unp (is := [3, 4, 5]) (de_call C_sure_priced (hr.mono (by decide)) (by rfl) (da_cons (de_var 0) (da_cons (de_var 1) (da_cons (de_var 2) da_nil))) rfl (len_cons (len_cons (len_cons len_nil)))) (pg_tup rfl (pgs_cons (pg_name (i := 3) sc_cheapest.nd rfl (Or.inl rfl)) (pgs_cons (pg_name (i := 4) sc_cheapest.nd rfl (Or.inl rfl)) (pgs_cons (pg_name (i := 5) sc_cheapest.nd rfl (Or.inl rfl)) pgs_nil)))))
      (dss_one (ds_ret (de_call C_least_in (hr.mono (by decide)) (by rfl) (da_cons (de_var 3) (da_cons (de_var 4) (da_cons (de_var 5) da_nil))) rfl (len_cons (len_cons (len_cons len_nil)))))))), hm, F.kp, hB⟩
theorem ck_cheap_and_few {f : Addr} {fd : FuncData} (F : Fun K "cheap_and_few" "cheap_and_few" s_cheap_and_few f fd) (hm : mg "cheap_and_few" = some (.ref f)) (hB : KBinds K fd ["stand", "goal", "prices"] ["prices", "goal", "stand"] gR gR) (B : Txt K mg) (C_priced_in : Callee P w K mg base 4 "priced_in" 3 F_priced_in) (C_sure_priced : Callee P w K mg base 10 "sure_priced" 3 F_sure_priced) : CalleeK P w K mg base 11 "cheap_and_few" 3 ["prices", "goal", "stand"] F_cheap_and_few := by
  refine ⟨f, fd, ["stand", "goal", "prices"], fn_ok (N := N_cheap_and_few) F sc_cheap_and_few fun cdv A outer s H E hr => (
      (dss_cons (ds_unp (is := [3, 4, 5]) (de_call C_sure_priced (hr.mono (by decide)) (by rfl) (da_cons (de_var 0) (da_cons (de_var 1) (da_cons (de_var 2) da_nil))) rfl (len_cons (len_cons (len_cons len_nil)))) (pg_tup rfl (pgs_cons (pg_name (i := 3) sc_cheap_and_few.nd rfl (Or.inl rfl)) (pgs_cons (pg_name (i := 4) sc_cheap_and_few.nd rfl (Or.inl rfl)) (pgs_cons (pg_name (i := 5) sc_cheap_and_few.nd rfl (Or.inl rfl)) pgs_nil)))))
      (dss_one (ds_ret (de_sl (de_min hr rfl (by rfl) B.min (da_cons (de_call C_priced_in (hr.mono (by decide)) (by rfl) (da_cons (de_var 3) (da_cons (de_var 4) (da_cons (de_var 5) da_nil))) rfl (len_cons (len_cons (len_cons len_nil)))) da_nil)) do_no (do_so de_int)))))), hm, F.kp, hB⟩
theorem c_l_by_hand_right {f : Addr} {fd : FuncData} (F : Fun K "_law_by_hand_right" "_law_by_hand_right" s_l_by_hand_right f fd) (hm : mg "_law_by_hand_right" = some (.ref f)) (hB : Binds K fd [] []) (B : Txt K mg) (C_l_same : Callee P w K mg base 6 "_law_same" 2 F_l_same) (C_cheapest : Callee P w K mg base 11 "cheapest" 3 F_cheapest) (C_price_of : Callee P w K mg base 8 "price_of" 3 F_price_of) (C_cheap_and_few : Callee P w K mg base 11 "cheap_and_few" 3 F_cheap_and_few) (C_l_lists : Callee P w K mg base 6 "_law_lists" 1 F_l_lists) (C_l_home : Callee P w K mg base 2 "_law_home" 0 F_l_home) (K_cheap_and_few : CalleeK P w K mg base 11 "cheap_and_few" 3 ["prices", "goal", "stand"] F_cheap_and_few) (K_cheapest : CalleeK P w K mg base 11 "cheapest" 3 ["prices", "goal", "stand"] F_cheapest) (K_price_of : CalleeK P w K mg base 8 "price_of" 3 ["prices", "row", "stand"] F_price_of) : Callee P w K mg base 12 "_law_by_hand_right" 0 F_l_by_hand_right := by
  exact callee_mk F sc_l_by_hand_right hm hB rfl fun cdv A outer s H E hr => (
      (dss_cons (ds_par3 rfl sc_l_by_hand_right.nd rfl rfl rfl (by decide) (by decide) (by decide) rfl rfl rfl (dk_P (de_call0 C_l_home (hr.mono (by decide)) (by rfl)) (dk_P (de_tup (da_cons (de_tup (da_cons de_int (da_cons de_int (da_cons de_int da_nil)))) (da_cons (de_tup (da_cons de_int (da_cons de_int (da_cons de_int da_nil)))) (da_cons (de_tup (da_cons de_int (da_cons de_int (da_cons de_int da_nil)))) (da_cons (de_tup (da_cons de_int (da_cons (de_neg de_int) (da_cons (de_neg de_int) da_nil)))) da_nil))))) (dk_P (de_tup (da_cons de_int (da_cons de_int (da_cons de_int (da_cons de_int (da_cons de_int (da_cons de_int da_nil))))))) dk_nil))))
      (dss_cons (ds_set (i := 3) sc_l_by_hand_right.nd rfl (Or.inl rfl) (de_lst (da_cons (de_callK K_price_of (hr.mono (by decide)) (by rfl) (dkw_cons (de_lst (da_cons de_int (da_cons de_int (da_cons de_int (da_cons de_int (da_cons (de_pow de_int de_int) (da_cons (de_pow de_int de_int) da_nil))))))) (dkw_cons (de_lst (da_cons (de_lst (da_cons de_str (da_cons de_int da_nil))) (da_cons (de_tup (da_cons de_str (da_cons de_int da_nil))) (da_cons (de_tup (da_cons de_str (da_cons de_int da_nil))) da_nil)))) (dkw_cons (de_call C_l_lists (hr.mono (by decide)) (by rfl) (da_cons (de_var 0) da_nil) rfl (len_cons len_nil)) dkw_nil))) (len_cons (len_cons (len_cons len_nil)))) da_nil)))
      (dss_cons (ds_set (i := 3) sc_l_by_hand_right.nd rfl (Or.inl rfl) (de_add (de_var 3) (de_lst (da_cons (de_callK K_cheapest (hr.mono (by decide)) (by rfl) (dkw_cons (de_var 2) (dkw_cons (de_call C_l_lists (hr.mono (by decide)) (by rfl) (da_cons (de_var 1) da_nil) rfl (len_cons len_nil)) (dkw_cons (de_var 0) dkw_nil))) (len_cons (len_cons (len_cons len_nil)))) (da_cons (de_call C_cheap_and_few (hr.mono (by decide)) (by rfl) (da_cons (de_var 0) (da_cons (de_var 1) (da_cons (de_tup (da_cons de_int (da_cons de_int (da_cons de_int (da_cons de_int (da_cons de_int (da_cons de_int da_nil))))))) da_nil))) rfl (len_cons (len_cons (len_cons len_nil)))) da_nil)))))
      (dss_cons (ds_set (i := 3) sc_l_by_hand_right.nd rfl (Or.inl rfl) (de_add (de_var 3) (de_lst (da_cons (de_callK K_cheap_and_few (hr.mono (by decide)) (by rfl) (dkw_cons (de_lst (da_cons de_int (da_cons de_int (da_cons de_int (da_cons de_int (da_cons de_int (da_cons de_int da_nil))))))) (dkw_cons (de_var 1) (dkw_cons (de_var 0) dkw_nil))) (len_cons (len_cons (len_cons len_nil)))) (da_cons (de_call C_price_of (hr.mono (by decide)) (by rfl) (da_cons (de_var 0) (da_cons (de_tup da_nil) (da_cons (de_var 2) da_nil))) rfl (len_cons (len_cons (len_cons len_nil)))) (da_cons (de_call C_cheapest (hr.mono (by decide)) (by rfl) (da_cons (de_var 0) (da_cons (de_var 0) (da_cons (de_var 2) da_nil))) rfl (len_cons (len_cons (len_cons len_nil)))) da_nil))))))
      (dss_one (ds_ret (de_call C_l_same (hr.mono (by decide)) (by rfl) (da_cons (de_var 3) (da_cons (de_lst (da_cons de_int (da_cons de_int (da_cons (de_tup (da_cons de_int (da_cons de_int da_nil))) (da_cons (de_tup (da_cons de_int (da_cons de_int da_nil))) (da_cons de_int (da_cons de_int da_nil))))))) da_nil)) rfl (len_cons (len_cons len_nil))))))))))
end
end DL

/-! T2: cells, box, law. -/
namespace DL
open PySem PySem.Spec PyProof.Rows L2

def spCells (K : PySem.W.Frag) : Sp := fun vs H Q _ => ∃ (a : Addr) (ns : List Int), vs = [.ref a, .int 1] ∧ SqL K H a (ns.map V.int) ∧ ns.length ≤ 63 ∧ ∀ L (zs : List Int) H', H' L = some (.lst (zs.map V.int)) → 0 < zs.length → Q (.ref L) H'
def spBox (K : PySem.W.Frag) : Sp := fun vs H Q _ => ∃ (a : Addr) (zs : List Int), vs = [.ref a, .int 0] ∧ SqL K H a (zs.map V.int) ∧ 0 < zs.length ∧ ∀ t H', Tin H' t 0 → Q (.ref t) H'
def spLaw (K : PySem.W.Frag) : Sp := fun vs H Q _ => ∃ (a : Addr) (ns : List Int), vs = [.ref a] ∧ SqL K H a (ns.map V.int) ∧ ns.length ≤ 63 ∧ ∀ H', Q (.bl true) H'
theorem b01 (b : Bool) : 0 ≤ (if b = true then (1 : Int) else 0) ∧ (if b = true then (1 : Int) else 0) ≤ 1 := by cases b <;> decide
def voidG : Hp := fun _ => none
theorem void_same (H : Hp) : Same voidG H := fun _ _ h => nomatch h
section
variable {P : Program} {w : World} {K : PySem.W.Frag} {mg : Str → Option Value} {base : Heap}
theorem f_l_box {f : Addr} {fd : FuncData} (F : Fun K "_law_box" "_law_box" s_l_box f fd) (B : Txt K mg) : FnOk P w K mg base CX0 1 f fd ["_law_script", "_law_k"] (spBox K) := by
  refine F.ok sc_l_box (fun vs H Q E h => ?_) (fun cdv A outer s H vs Q E hr h => ?_)
  · obtain ⟨a, zs, rfl, _⟩ := h
    rfl
  obtain ⟨a, zs, rfl, hS, h0, q⟩ := h
  refine ⟨_, pss_cons (ps_set (i := 2) sc_l_box.nd rfl (.inl rfl) (pe_ifExp (pt_cmpR op_lt (pv 1) (pe_callB call_len_seq (by rfl) B.len boot_len' (pa_cons (pv 0) pa_nil)) (nomark _)) (pe_ix ix_list (pv 0) (pv 1) (fun _ _ => rfl)) pe_int))
    (pss_one (ps_ret (de_lst (da_cons (de_mul (de_abs (by rfl) B.abs (da_cons (de_var 2) da_nil)) (de_intf (by rfl) B.int (da_cons (de_ge (de_abs (by rfl) B.abs (da_cons (de_var 2) da_nil)) (de_pow de_int de_int)) da_nil)))
      (da_cons (de_add (de_add (de_mod (de_intf (by rfl) B.int (da_cons (de_var 2) da_nil)) de_int) (de_mul de_int (de_var 1))) de_int) (da_cons de_int da_nil)))))), ?_⟩
  match zs, h0 with
  | z :: zs, _ =>
    refine ⟨_, rfl, _, rfl, a, _, rfl, .inl hS, 0, _, rfl, rfl, ?_⟩
    have hlt : (0 : Int) < (((z :: zs).map V.int).length : Int) := by
      rw [List.map_cons, List.length_cons]
      omega
    refine ⟨true, congrArg V.bl (decide_eq_true hlt), ?_⟩
    refine iteT ⟨_, rfl, _, rfl, a, _, 0, .int z, rfl, rfl, hS, atI_nat (j := 0) rfl, ?_⟩
    -- the display
    let ρ : Rp := [none, some (.int 0), some (.int z)]
    have en : EnvP K voidG [some (.ref a), some (.int 0), some (.int z)] ρ := ⟨rfl, fun i d e => by
      match i, e with
      | 0, e => cases e
      | 1, e => cases e; exact ⟨_, rfl, .int 0⟩
      | 2, e => cases e; exact ⟨_, rfl, .int z⟩⟩
    have hab : ∀ i : Int, 0 ≤ (if i < 0 then -i else i) := fun i => by split <;> omega
    have hm : (d2 mulD (dCall absD (dCons (dVar 2) dNil)) (dCall intD (dCons (d2 geD (dCall absD (dCons (dVar 2) dNil)) (d2 powD (dC (.int 10)) (dC (.int 18)))) dNil))) ρ = some (.int ((if z < 0 then -z else z) * (if decide ((10 ^ 18 : Int) ≤ (if z < 0 then -z else z)) = true then 1 else 0))) :=
      Eq.trans (b := mulD (.int (if z < 0 then -z else z)) (.int (if decide ((10 ^ 18 : Int) ≤ (if z < 0 then -z else z)) = true then 1 else 0))) (by kernel_rfl) (mul_eq (by have := b01 (decide ((10 ^ 18 : Int) ≤ (if z < 0 then -z else z))); omega))
    have hv : (dLst (dCons (d2 mulD (dCall absD (dCons (dVar 2) dNil)) (dCall intD (dCons (d2 geD (dCall absD (dCons (dVar 2) dNil)) (d2 powD (dC (.int 10)) (dC (.int 18)))) dNil)))
      (dCons (d2 addD (d2 addD (d2 modD (dCall intD (dCons (dVar 2) dNil)) (dC (.int 2305843009213693951))) (d2 mulD (dC (.int 39373)) (dVar 1))) (dC (.int 3194047))) (dCons (dC (.int 0)) dNil)))) ρ = some (.list ([(if z < 0 then -z else z) * (if decide ((10 ^ 18 : Int) ≤ (if z < 0 then -z else z)) = true then 1 else 0), z % 2305843009213693951 + 39373 * 0 + 3194047, 0].map .int)) :=
      dLst_eq (dCons_eq hm (dCons_eq (by kernel_rfl) (dCons_eq rfl rfl))) (by simp)
    refine ⟨voidG, ρ, _, ⟨void_same _, en⟩, hv, fun v G' H' st dq => ?_⟩
    obtain ⟨p, rfl, hp⟩ := ints_at dq (intsOf_map _)
    refine q p H' ⟨_, _, _, st.gh _ _ hp, Int.mul_nonneg (hab z) (b01 _).1, ?_, ?_, Int.le_refl _, Int.le_refl _⟩
    · have := Int.emod_nonneg z (by decide : (2305843009213693951 : Int) ≠ 0)
      omega
    · have := Int.emod_lt_of_pos z (by decide : (0 : Int) < 2305843009213693951)
      omega
theorem ix0 {n : Nat} (h : 0 < n) : ixN n 0 = some 0 := by
  unfold ixN
  rw [if_pos (by decide), if_pos (by omega)]
  rfl
theorem cut_ints (ns : List Int) (lo hi : Option Int) : ∃ ms : List Int, cutV (ns.map V.int) lo hi = ms.map V.int ∧ ms.length ≤ ns.length := by
  have hl := cutV_length (ns.map V.int) lo hi
  unfold cutV at hl ⊢
  refine ⟨((ns.drop (HT.sIx (ns.map V.int).length 0 lo)).take (HT.sIx (ns.map V.int).length (ns.map V.int).length hi - HT.sIx (ns.map V.int).length 0 lo)), ?_, ?_⟩
  · rw [List.map_take, List.map_drop]
  · rw [List.length_take, List.length_drop]
    omega
def cB (K : PySem.W.Frag) : TS := tSeq (tAsg (tOp (rI (fun _ j => 0 < j) fun i j => .int (i % j)) (tCB rInt1 (tCons (tVar 3) tNil)) (tVar 1)) (gName 5)) (tAsg (tOp (rI0 fun i j => .int (i + j)) (tOp (rIxL K) (tVar 2) (tVar 5)) (tOp (rI CMul fun i j => .int (i * j)) (tVar 4) (tOp (rI0 fun i j => .int (i + j)) (tVar 3) (tC (.int 2))))) (gSub (tVar 2) (tVar 5) rSetL))
theorem f_l_cells {f : Addr} {fd : FuncData} (F : Fun K "_law_cells" "_law_cells" s_l_cells f fd) (B : Txt K mg) : FnOk P w K mg base CX0 1 f fd ["_law_script", "_law_most_so"] (spCells K) := by
  refine F.ok sc_l_cells (fun vs H Q E h => ?_) (fun cdv A outer s H vs Q E hr h => ?_)
  · obtain ⟨a, zs, rfl, _⟩ := h
    rfl
  obtain ⟨a, ns, rfl, hS, h1, q⟩ := h
  refine ⟨_, pss_cons (ps_set (i := 2) sc_l_cells.nd rfl (.inl rfl) (pe_orT (pe_callTy call_list_of (by rfl) B.list boot_list' (pa_cons (pe_slice sl_list (pv 0) po_none (po_some (pv 1))) pa_nil)) (pe_one (pe_lst (pa_cons pe_int pa_nil)))))
    (pss_cons (ps_for PassesOwn.never rfl (pi_enum (by rfl) B.enumerate (pa_cons (pe_slice sl_list (pv 0) (po_some (pv 1)) (po_some pe_int)) pa_nil)) (pg_tup rfl (pgs_cons (pg_name (i := 3) sc_l_cells.nd rfl (.inl rfl)) (pgs_cons (pg_name (i := 4) sc_l_cells.nd rfl (.inl rfl)) pgs_nil)))
      (pss_cons (ps_set (i := 5) sc_l_cells.nd rfl (.inl rfl) (pe_op op_mod (pe_callTy call_int_ (by rfl) B.int boot_int' (pa_cons (pv 3) pa_nil)) (pv 1)))
        (pss_one (ps_asg (pe_op op_add (pe_ix ix_list (pv 2) (pv 5) (fun _ _ => rfl)) (pe_op op_mul (pv 4) (pe_op op_add (pv 3) pe_int))) (pg_sub (pv 2) (pv 5) set_list)))))
    (pss_one (ps_ret (pv 2)))), ?_⟩
  -- the rest, from the list of cells on
  obtain ⟨ms, em, hml⟩ := cut_ints ns (some 1) (some 63)
  have rest : ∀ (L : Addr) (zs : List Int) (H1 : Hp), SqL K H1 a (ns.map V.int) → H1 L = some (.lst (zs.map V.int)) → 0 < zs.length → tSeq (tFor (iEnum K (tCons (tSl (rSlL K) (tVar 0) (tPart (tVar 1)) (tPart (tC (.int 63)))) tNil)) (gTup K 2 (gCons (gName 3) (gCons (gName 4) gNil))) (cB K)) (tRet (tVar 2)) { nx := fun _ H' => Q .non H', rt := Q } [some (.ref a), some (.int 1), some (.ref L), none, none, none] H1 := fun L zs H1 hS1 hL hz => by
    refine ⟨_, rfl, _, rfl, _, rfl, _, rfl, a, _, rfl, hS1, fun S hSn => ⟨S, _, rfl, .inl (.inl upd_same), ?_⟩⟩
    rw [em]
    have hne : L ≠ S := fun z => by
      subst z
      rw [hSn] at hL
      cases hL
    refine forE_by (u := fun D σ H => D.nx σ H) ms.length (fun i σ H => (∃ x y z, σ = [some (.ref a), some (.int 1), some (.ref L), x, y, z]) ∧ H S = some (.lst (ms.map V.int)) ∧ ∃ zs : List Int, H L = some (.lst (zs.map V.int)) ∧ 0 < zs.length) ⟨⟨_, _, _, rfl⟩, upd_same, zs, by rw [upd_ne hne]; exact hL, hz⟩ ?_ ?_ ?_ ?_
    · rintro i σ H hi ⟨_, h2, _⟩
      have h3 : i < (ms.map V.int).length := by rw [List.length_map]; exact hi
      exact ⟨_, _, SqL.of h2, List.getElem?_eq_getElem h3⟩
    · rintro σ H ⟨_, h2, _⟩
      exact ⟨_, SqL.of h2, by rw [List.length_map]; exact Nat.le_refl _⟩
    · rintro i x σ H H' hi ⟨⟨x0, y0, z0, rfl⟩, h2, zs, h3, h4⟩ ⟨T, v, rfl, nT, rfl, hv⟩
      have hv' := hv _ (SqL.of h2)
      rw [List.getElem?_map] at hv'
      obtain ⟨m, _, rfl⟩ := Option.map_eq_some_iff.mp hv'
      have hLT : L ≠ T := fun z => by subst z; rw [nT] at h3; cases h3
      have hST : S ≠ T := fun z => by subst z; rw [nT] at h2; cases h2
      refine ⟨T, _, rfl, .inl (.inl upd_same), rfl, ?_⟩
      refine ⟨_, _, rfl, _, _, rfl, rfl, ?_⟩
      have h3' : upd H T (.tup [.int (i : Nat), .int m]) L = some (.lst (zs.map V.int)) := by rw [upd_ne hLT]; exact h3
      have h2' : upd H T (.tup [.int (i : Nat), .int m]) S = some (.lst (ms.map V.int)) := by rw [upd_ne hST]; exact h2
      generalize upd H T (.tup [.int (i : Nat), .int m]) = H3 at h2' h3'
      match zs, h4, h3' with
      | z :: zs, _, h3' =>
      show cB K _ [some (.ref a), some (.int 1), some (.ref L), some (.int (i : Nat)), some (.int m), z0] H3
      unfold cB
      refine vl_I (C := fun _ j => 0 < j) (vl_int (vl_var (v := .int (i : Nat)) rfl)) (vl_var (v := .int 1) rfl) (by decide) _ ?_
      rw [Int.emod_one]
      refine vl_I0 (vl_ix (j := 0) (v := .int z) h3' (vl_var rfl) (vl_var (v := .int 0) rfl) (atI_nat (j := 0) rfl)) (vl_I (C := CMul) (g := fun i j => .int (i * j)) (vl_var (v := .int m) rfl) (vl_I0 (g := fun i j => .int (i + j)) (vl_var (v := .int (i : Nat)) rfl) vl_c) (.inr ⟨by omega, by omega⟩)) _ ?_
      refine ⟨_, rfl, _, rfl, L, _, 0, 0, rfl, rfl, h3', ix0 (by simp), ?_⟩
      refine ⟨⟨_, _, _, rfl⟩, by rw [upd_ne hne.symm]; exact h2', (z + m * ((i : Nat) + 2)) :: zs, upd_same, by simp⟩
    · rintro σ H ⟨⟨x0, y0, z0, rfl⟩, _, zs, h3, h4⟩
      exact ⟨_, rfl, q L zs H h3 h4⟩
  obtain ⟨ks, ek, hkl⟩ := cut_ints ns none (some 1)
  refine ⟨_, rfl, _, rfl, _, rfl, a, _, rfl, hS, fun p hp => ?_⟩
  rw [ek]
  have hne : ∀ b o, H b = some o → b ≠ p := fun b o e z => by
    subst z
    rw [hp] at e
    cases e
  have s1 : Same H (upd H p (.lst (ks.map V.int))) := same_upd hp
  refine ⟨p, _, rfl, .inl (SqL.of upd_same), fun L hL => ⟨_, .inl ⟨_, SqL.of upd_same, rfl⟩, ?_⟩⟩
  have s2 := s1.trans (same_upd (o := .lst (ks.map V.int)) hL)
  match ks with
  | [] =>
    refine iteF ⟨dpos (by simp), fun M hM => ?_⟩
    exact rest M [0] _ ((s2.trans (same_upd hM)).seq hS) upd_same (by decide)
  | k :: ks =>
    exact iteT (rest L (k :: ks) _ (s2.seq hS) upd_same (by simp))
theorem f_law {FS : List D → Option D} (hS : SearchOk FS) {f fb fc : Addr} {fd fdb fdc : FuncData} (F : Fun K "law" "law" s_law f fd)
    (Fc : FnOk P w K mg base CX0 1 fc fdc ["_law_script", "_law_most_so"] (spCells K)) (mc : mg "_law_cells" = some (.ref fc)) (kc : PySem.W.keepIn K (.ref fc) = true) (bc : Binds K fdc ["_law_script", "_law_most_so"] [])
    (Fb : FnOk P w K mg base CX0 1 fb fdb ["_law_script", "_law_k"] (spBox K)) (mb : mg "_law_box" = some (.ref fb)) (kb : PySem.W.keepIn K (.ref fb) = true) (bb : Binds K fdb ["_law_script", "_law_k"] [])
    (CH : Callee P w K mg base 12 "_law_by_hand_right" 0 F_l_by_hand_right) (CR : CallR_ P w K mg base 12 "_law_right" 0 (fnR 8 (q_l_right FS))) : FnOk P w K mg base CX0 13 f fd ["_law_script"] (spLaw K) := by
  obtain ⟨fr, fdr, psr, Fr_, mr, kr, br⟩ := CR.ex
  refine F.ok sc_law (fun vs H Q E h => ?_) (fun cdv A outer s H vs Q E hr h => ?_)
  · obtain ⟨a, zs, rfl, _⟩ := h
    rfl
  obtain ⟨a, ns, rfl, hq, h1, q⟩ := h
  refine ⟨_, pss_one (ps_ret (pe_and (de_call0 CH (hr.mono (by decide)) (by rfl)) (pe_one (pe_call Fr_ (hr.mono (by decide)) (by rfl) mr kr br .nil pass0 (pa_cons (pe_call Fb (hr.mono (by decide)) (by rfl) mb kb bb .nil pass0
    (pa_cons (pe_call Fc (hr.mono (by decide)) (by rfl) mc kc bc .nil pass0 (pa_cons (pv 0) (pa_cons pe_int pa_nil))) (pa_cons pe_int pa_nil))) pa_nil))))), ?_⟩
  have en : EnvP K voidG [some (.ref a)] [none] := ⟨rfl, fun i d e => by
    match i, e with
    | 0, e => cases e⟩
  refine ⟨voidG, [none], .bool true, ⟨void_same _, en⟩, F_by_hand, fun v G' H' st dq => ?_⟩
  cases dq
  refine ⟨true, rfl, iteT ?_⟩
  refine ⟨_, rfl, a, ns, rfl, st.h.seq hq, h1, fun L zs H1 hL hz => ?_⟩
  refine ⟨L, zs, rfl, SqL.of hL, hz, fun t H2 ht => ?_⟩
  exact ⟨rfl, t, [], voidG, [], 0, _, rfl, ⟨void_same _, rfl, ht⟩, .nil, right_ok hS (by omega), fun v G3 H3 d m' _ hv hd => by
    subst hd
    cases hv
    exact q H3⟩
end
end DL

/-! E2: from what the top has left to the law (printed by genE.py). -/
namespace DL
open PySem PySem.Spec PyProof.Rows L2
/-- a def as the top has left it -/
def DefOk (K : PySem.W.Frag) (mg : Str → Option Value) (x : Str) (st : Stmt) (ps : List Str) : Prop := ∃ (f : Addr) (fd : FuncData), Fun K x x st f fd ∧ mg x = some (.ref f) ∧ Binds K fd ps []
abbrev BindOk (x : Str) (st : Stmt) (ps : List Str) : Prop := ∀ (kV doc pm : Value) (an : Option Addr) (cdv ct : Value) (us : List Value), us.length = ps.length → bindArgs (PySem.W.fnOf x x (defArgs st) (defBody st) (defScope st) .none kV doc pm an cdv ct) ⟨us, []⟩ = pure (ps.zip us)
theorem defOk {K : PySem.W.Frag} {h : Heap} {mg : Str → Option Value} {x : Str} {st : Stmt} {ps : List Str} (hb : BindOk x st ps) (X : K.In h) (G : h.Ns mainGlobals mg) {f : Addr} {oc : Value} {od an : Option Addr} {osl : Array (Option Value)} {kV doc pm cdv ct : Value}
    (a : PySem.W.nsIn K mainGlobals x = some (some (.ref f))) (l : K.lookup f = some ⟨oc, od, .func (PySem.W.fnOf x x (defArgs st) (defBody st) (defScope st) .none kV doc pm an cdv ct), osl⟩) (c : PySem.W.codeIn K cdv x = true) (k : PySem.W.keepIn K (.ref f) = true) : DefOk K mg x st ps :=
  have F := fun_mk (st := st) l c k
  ⟨f, _, F, PySem.W.mg_of X G a, F.binds hb⟩
def intsT (xs : List (Int × Tok)) : Array Value := (xs.map fun p => Value.int p.1 p.2).toArray
theorem vals_ints : ∀ xs : List (Int × Tok), Vals (xs.map fun p => V.int p.1) (xs.map fun p => Value.int p.1 p.2)
  | [] => .nil
  | p :: xs => .cons ⟨p.2, rfl⟩ (vals_ints xs)
theorem dq_ints : ∀ xs : List (Int × Tok), ∀ (K : PySem.W.Frag) (G : Hp), DqAll K G (xs.map fun p => V.int p.1) (xs.map fun p => PyData.int p.1)
  | [], _, _ => .nil
  | p :: xs, K, G => .cons (.int _) (dq_ints xs K G)
theorem dq_tup {K : PySem.W.Frag} {a : Addr} {cl : Option Addr} {n : Nat} {sl : Array (Option Value)} (xs : List (Int × Tok)) (hl : xs.length ≤ 1000) (l : K.lookup a = some ⟨.type "tuple", cl, .seq (intsT xs) n, sl⟩) : ∀ G, Dq K G (.ref a) (.tuple (xs.map fun p => .int p.1)) := fun G =>
  .tup (.inr ⟨_, _, _, l, rfl, rfl, by unfold intsT; rw [List.size_toArray, List.length_map]; exact dpos (by omega), by unfold intsT; exact vals_ints xs⟩) (dq_ints xs K G)
theorem dq_tups {K : PySem.W.Frag} {a b0 b1 b2 b3 b4 b5 : Addr} {cl : Option Addr} {n : Nat} {sl : Array (Option Value)} {d0 d1 d2 d3 d4 d5 : D} (l : K.lookup a = some ⟨.type "tuple", cl, .seq #[.ref b0, .ref b1, .ref b2, .ref b3, .ref b4, .ref b5] n, sl⟩)
    (h0 : ∀ G, Dq K G (.ref b0) d0) (h1 : ∀ G, Dq K G (.ref b1) d1) (h2 : ∀ G, Dq K G (.ref b2) d2) (h3 : ∀ G, Dq K G (.ref b3) d3) (h4 : ∀ G, Dq K G (.ref b4) d4) (h5 : ∀ G, Dq K G (.ref b5) d5) : ∀ G, Dq K G (.ref a) (.tuple [d0, d1, d2, d3, d4, d5]) := fun G =>
  .tup (xs := [.ref b0, .ref b1, .ref b2, .ref b3, .ref b4, .ref b5]) (.inr ⟨_, _, _, l, rfl, rfl, by show 6 ≤ sizeLine; decide, .cons rfl (.cons rfl (.cons rfl (.cons rfl (.cons rfl (.cons rfl .nil)))))⟩) (.cons (h0 G) (.cons (h1 G) (.cons (h2 G) (.cons (h3 G) (.cons (h4 G) (.cons (h5 G) .nil))))))
theorem bd_is_number : BindOk "is_number" s_is_number ["thing"] := fun _ _ _ _ _ _ us hl => match us, hl with | [_], _ => rfl
theorem bd_is_from : BindOk "is_from" s_is_from ["thing", "least"] := fun _ _ _ _ _ _ us hl => match us, hl with | [_, _], _ => rfl
theorem bd_is_within : BindOk "is_within" s_is_within ["thing", "least", "most"] := fun _ _ _ _ _ _ us hl => match us, hl with | [_, _, _], _ => rfl
theorem bd_is_long : BindOk "is_long" s_is_long ["thing", "length"] := fun _ _ _ _ _ _ us hl => match us, hl with | [_, _], _ => rfl
theorem bd_tupled : BindOk "tupled" s_tupled ["value"] := fun _ _ _ _ _ _ us hl => match us, hl with | [_], _ => rfl
theorem bd_set_of : BindOk "set_of" s_set_of ["row"] := fun _ _ _ _ _ _ us hl => match us, hl with | [_], _ => rfl
theorem bd_are_numbers : BindOk "are_numbers" s_are_numbers ["thing"] := fun _ _ _ _ _ _ us hl => match us, hl with | [_], _ => rfl
theorem bd_is_shape : BindOk "is_shape" s_is_shape ["thing"] := fun _ _ _ _ _ _ us hl => match us, hl with | [_], _ => rfl
theorem bd_place_in : BindOk "place_in" s_place_in ["shape"] := fun _ _ _ _ _ _ us hl => match us, hl with | [_], _ => rfl
theorem bd_side_in : BindOk "side_in" s_side_in ["link"] := fun _ _ _ _ _ _ us hl => match us, hl with | [_], _ => rfl
theorem bd_over_in : BindOk "over_in" s_over_in ["shape", "way"] := fun _ _ _ _ _ _ us hl => match us, hl with | [_, _], _ => rfl
theorem bd_arcs_in : BindOk "arcs_in" s_arcs_in ["shape", "other"] := fun _ _ _ _ _ _ us hl => match us, hl with | [_, _], _ => rfl
theorem bd_is_stand : BindOk "is_stand" s_is_stand ["thing"] := fun _ _ _ _ _ _ us hl => match us, hl with | [_], _ => rfl
theorem bd_sure_stand : BindOk "sure_stand" s_sure_stand ["stand"] := fun _ _ _ _ _ _ us hl => match us, hl with | [_], _ => rfl
theorem bd_is_move : BindOk "is_move" s_is_move ["thing"] := fun _ _ _ _ _ _ us hl => match us, hl with | [_], _ => rfl
theorem bd_more_at : BindOk "more_at" s_more_at ["row", "place", "by"] := fun _ _ _ _ _ _ us hl => match us, hl with | [_, _, _], _ => rfl
theorem bd_flipped : BindOk "flipped" s_flipped ["row", "place"] := fun _ _ _ _ _ _ us hl => match us, hl with | [_, _], _ => rfl
theorem bd_tipped_in : BindOk "tipped_in" s_tipped_in ["stand", "way"] := fun _ _ _ _ _ _ us hl => match us, hl with | [_, _], _ => rfl
theorem bd_turned_in : BindOk "turned_in" s_turned_in ["stand", "corner", "hand"] := fun _ _ _ _ _ _ us hl => match us, hl with | [_, _, _], _ => rfl
theorem bd_moved_in : BindOk "moved_in" s_moved_in ["stand", "move"] := fun _ _ _ _ _ _ us hl => match us, hl with | [_, _], _ => rfl
theorem bd_is_row_in : BindOk "is_row_in" s_is_row_in ["thing"] := fun _ _ _ _ _ _ us hl => match us, hl with | [_], _ => rfl
theorem bd_sure_row : BindOk "sure_row" s_sure_row ["row"] := fun _ _ _ _ _ _ us hl => match us, hl with | [_], _ => rfl
theorem bd_more_of : BindOk "more_of" s_more_of ["one", "other"] := fun _ _ _ _ _ _ us hl => match us, hl with | [_, _], _ => rfl
theorem bd_counts_in : BindOk "counts_in" s_counts_in ["stand", "goal"] := fun _ _ _ _ _ _ us hl => match us, hl with | [_, _], _ => rfl
theorem bd_shift_in : BindOk "shift_in" s_shift_in ["counts", "rest"] := fun _ _ _ _ _ _ us hl => match us, hl with | [_, _], _ => rfl
theorem bd_halves_in : BindOk "halves_in" s_halves_in ["shift", "was", "lies"] := fun _ _ _ _ _ _ us hl => match us, hl with | [_, _, _], _ => rfl
theorem bd_fronts_in : BindOk "fronts_in" s_fronts_in ["stand", "shape", "counts"] := fun _ _ _ _ _ _ us hl => match us, hl with | [_, _, _], _ => rfl
theorem bd_stretch_from : BindOk "stretch_from" s_stretch_from ["ends", "counts", "first"] := fun _ _ _ _ _ _ us hl => match us, hl with | [_, _, _], _ => rfl
theorem bd_stretches_in : BindOk "stretches_in" s_stretches_in ["shape", "other", "counts"] := fun _ _ _ _ _ _ us hl => match us, hl with | [_, _, _], _ => rfl
theorem bd_is_odd_line : BindOk "is_odd_line" s_is_odd_line ["stand", "goal", "line"] := fun _ _ _ _ _ _ us hl => match us, hl with | [_, _, _], _ => rfl
theorem bd_odd_of : BindOk "odd_of" s_odd_of ["counts"] := fun _ _ _ _ _ _ us hl => match us, hl with | [_], _ => rfl
theorem bd_bars_in : BindOk "bars_in" s_bars_in ["stand", "goal"] := fun _ _ _ _ _ _ us hl => match us, hl with | [_, _], _ => rfl
theorem bd_can_in : BindOk "can_in" s_can_in ["stand", "goal"] := fun _ _ _ _ _ _ us hl => match us, hl with | [_, _], _ => rfl
theorem bd_sure_both : BindOk "sure_both" s_sure_both ["stand", "goal"] := fun _ _ _ _ _ _ us hl => match us, hl with | [_, _], _ => rfl
theorem bd_sure_way : BindOk "sure_way" s_sure_way ["stand", "goal"] := fun _ _ _ _ _ _ us hl => match us, hl with | [_, _], _ => rfl
theorem bd_is_tips : BindOk "is_tips" s_is_tips ["thing"] := fun _ _ _ _ _ _ us hl => match us, hl with | [_], _ => rfl
theorem bd_sure_prices : BindOk "sure_prices" s_sure_prices ["prices"] := fun _ _ _ _ _ _ us hl => match us, hl with | [_], _ => rfl
theorem bd_sure_priced : BindOk "sure_priced" s_sure_priced ["stand", "goal", "prices"] := fun _ _ _ _ _ _ us hl => match us, hl with | [_, _, _], _ => rfl
theorem bd_price_in : BindOk "price_in" s_price_in ["stand", "row", "prices"] := fun _ _ _ _ _ _ us hl => match us, hl with | [_, _, _], _ => rfl
theorem bd_price_of : BindOk "price_of" s_price_of ["stand", "row", "prices"] := fun _ _ _ _ _ _ us hl => match us, hl with | [_, _, _], _ => rfl
theorem bd_bridges_in : BindOk "bridges_in" s_bridges_in ["counts", "stretch"] := fun _ _ _ _ _ _ us hl => match us, hl with | [_, _], _ => rfl
theorem bd_priced_in : BindOk "priced_in" s_priced_in ["stand", "goal", "prices"] := fun _ _ _ _ _ _ us hl => match us, hl with | [_, _, _], _ => rfl
theorem bd_least_in : BindOk "least_in" s_least_in ["stand", "goal", "prices"] := fun _ _ _ _ _ _ us hl => match us, hl with | [_, _, _], _ => rfl
theorem bd_cheapest : BindOk "cheapest" s_cheapest ["stand", "goal", "prices"] := fun _ _ _ _ _ _ us hl => match us, hl with | [_, _, _], _ => rfl
theorem bd_cheap_and_few : BindOk "cheap_and_few" s_cheap_and_few ["stand", "goal", "prices"] := fun _ _ _ _ _ _ us hl => match us, hl with | [_, _, _], _ => rfl
theorem bd_l_lists : BindOk "_law_lists" s_l_lists ["_law_matter"] := fun _ _ _ _ _ _ us hl => match us, hl with | [_], _ => rfl
theorem bd_l_same : BindOk "_law_same" s_l_same ["_law_got", "_law_due"] := fun _ _ _ _ _ _ us hl => match us, hl with | [_, _], _ => rfl
theorem bd_l_home : BindOk "_law_home" s_l_home [] := fun _ _ _ _ _ _ us hl => match us, hl with | [], _ => rfl
theorem bd_l_poses : BindOk "_law_poses" s_l_poses [] := fun _ _ _ _ _ _ us hl => match us, hl with | [], _ => rfl
theorem bd_l_across : BindOk "_law_across" s_l_across [] := fun _ _ _ _ _ _ us hl => match us, hl with | [], _ => rfl
theorem bd_l_plus : BindOk "_law_plus" s_l_plus ["_law_row_so", "_law_k", "_law_by_so"] := fun _ _ _ _ _ _ us hl => match us, hl with | [_, _, _], _ => rfl
theorem bd_l_flip : BindOk "_law_flip" s_l_flip ["_law_row_so", "_law_k"] := fun _ _ _ _ _ _ us hl => match us, hl with | [_, _], _ => rfl
theorem bd_l_tip : BindOk "_law_tip" s_l_tip ["_law_spot", "_law_way_so"] := fun _ _ _ _ _ _ us hl => match us, hl with | [_, _], _ => rfl
theorem bd_l_turn : BindOk "_law_turn" s_l_turn ["_law_spot", "_law_corner_so", "_law_hand_so"] := fun _ _ _ _ _ _ us hl => match us, hl with | [_, _, _], _ => rfl
theorem bd_l_step : BindOk "_law_step" s_l_step ["_law_spot", "_law_step_here"] := fun _ _ _ _ _ _ us hl => match us, hl with | [_, _], _ => rfl
theorem bd_l_behind : BindOk "_law_behind" s_l_behind ["_law_spot", "_law_walk_here"] := fun _ _ _ _ _ _ us hl => match us, hl with | [_, _], _ => rfl
theorem bd_l_tips : BindOk "_law_tips" s_l_tips [] := fun _ _ _ _ _ _ us hl => match us, hl with | [], _ => rfl
theorem bd_l_tally : BindOk "_law_tally" s_l_tally ["_law_one", "_law_two"] := fun _ _ _ _ _ _ us hl => match us, hl with | [_, _], _ => rfl
theorem bd_l_over : BindOk "_law_over" s_l_over ["_law_pose", "_law_way_so"] := fun _ _ _ _ _ _ us hl => match us, hl with | [_, _], _ => rfl
theorem bd_l_fee : BindOk "_law_fee" s_l_fee ["_law_spot", "_law_walk_here", "_law_fees_here"] := fun _ _ _ _ _ _ us hl => match us, hl with | [_, _, _], _ => rfl
theorem bd_l_hangs : BindOk "_law_hangs" s_l_hangs ["_law_lot", "_law_first_so", "_law_last_so"] := fun _ _ _ _ _ _ us hl => match us, hl with | [_, _, _], _ => rfl
theorem bd_l_lots : BindOk "_law_lots" s_l_lots [] := fun _ _ _ _ _ _ us hl => match us, hl with | [], _ => rfl
theorem bd_l_thrift : BindOk "_law_thrift" s_l_thrift ["_law_one", "_law_two", "_law_fees_here"] := fun _ _ _ _ _ _ us hl => match us, hl with | [_, _, _], _ => rfl
theorem bd_l_take : BindOk "_law_take" s_l_take ["_law_tin", "_law_below_so"] := fun _ _ _ _ _ _ us hl => match us, hl with | [_, _], _ => rfl
theorem bd_l_of : BindOk "_law_of" s_l_of ["_law_tin", "_law_goods_so"] := fun _ _ _ _ _ _ us hl => match us, hl with | [_, _], _ => rfl
theorem bd_l_walk : BindOk "_law_walk" s_l_walk ["_law_tin", "_law_many_so", "_law_steps_so"] := fun _ _ _ _ _ _ us hl => match us, hl with | [_, _, _], _ => rfl
theorem bd_l_fees : BindOk "_law_fees" s_l_fees ["_law_tin"] := fun _ _ _ _ _ _ us hl => match us, hl with | [_], _ => rfl
theorem bd_l_far_spot : BindOk "_law_far_spot" s_l_far_spot ["_law_tin", "_law_one"] := fun _ _ _ _ _ _ us hl => match us, hl with | [_, _], _ => rfl
theorem bd_l_begin : BindOk "_law_begin" s_l_begin ["_law_tin"] := fun _ _ _ _ _ _ us hl => match us, hl with | [_], _ => rfl
theorem bd_l_searched : BindOk "_law_searched" s_l_searched ["_law_one", "_law_two", "_law_fees_here"] := fun _ _ _ _ _ _ us hl => match us, hl with | [_, _, _], _ => rfl
theorem bd_l_right : BindOk "_law_right" s_l_right ["_law_tin"] := fun _ _ _ _ _ _ us hl => match us, hl with | [_], _ => rfl
theorem bd_l_by_hand_right : BindOk "_law_by_hand_right" s_l_by_hand_right [] := fun _ _ _ _ _ _ us hl => match us, hl with | [], _ => rfl
theorem bd_l_cells : BindOk "_law_cells" s_l_cells ["_law_script", "_law_most_so"] := fun _ _ _ _ _ _ us hl => match us, hl with | [_, _], _ => rfl
theorem bd_l_box : BindOk "_law_box" s_l_box ["_law_script", "_law_k"] := fun _ _ _ _ _ _ us hl => match us, hl with | [_, _], _ => rfl
theorem bd_law : BindOk "law" s_law ["_law_script"] := fun _ _ _ _ _ _ us hl => match us, hl with | [_], _ => rfl
theorem kb_cheap_and_few {K : PySem.W.Frag} {f : Addr} {fd : FuncData} (F : Fun K "cheap_and_few" "cheap_and_few" s_cheap_and_few f fd) : KBinds K fd ["stand", "goal", "prices"] ["prices", "goal", "stand"] gR gR := kbinds3 F fun _ _ _ _ _ _ us ws hl => by
  have hl' : us.length + ws.length = 3 := by simpa using hl
  match us, hl' with
  | [], h => match ws, (by simpa using h : ws.length = 3) with
    | [_, _, _], _ => rfl
  | [_], h => match ws, (by simp at h; omega : ws.length = 2) with
    | [_, _], _ => rfl
  | [_, _], h => match ws, (by simp at h; omega : ws.length = 1) with
    | [_], _ => rfl
  | [_, _, _], h => match ws, (by simp at h; exact List.length_eq_zero_iff.mpr h : ws.length = 0) with
    | [], _ => rfl
  | _ :: _ :: _ :: _ :: _, h => exact absurd h (by simp; omega)
theorem kb_cheapest {K : PySem.W.Frag} {f : Addr} {fd : FuncData} (F : Fun K "cheapest" "cheapest" s_cheapest f fd) : KBinds K fd ["stand", "goal", "prices"] ["prices", "goal", "stand"] gR gR := kbinds3 F fun _ _ _ _ _ _ us ws hl => by
  have hl' : us.length + ws.length = 3 := by simpa using hl
  match us, hl' with
  | [], h => match ws, (by simpa using h : ws.length = 3) with
    | [_, _, _], _ => rfl
  | [_], h => match ws, (by simp at h; omega : ws.length = 2) with
    | [_, _], _ => rfl
  | [_, _], h => match ws, (by simp at h; omega : ws.length = 1) with
    | [_], _ => rfl
  | [_, _, _], h => match ws, (by simp at h; exact List.length_eq_zero_iff.mpr h : ws.length = 0) with
    | [], _ => rfl
  | _ :: _ :: _ :: _ :: _, h => exact absurd h (by simp; omega)
theorem kb_price_of {K : PySem.W.Frag} {f : Addr} {fd : FuncData} (F : Fun K "price_of" "price_of" s_price_of f fd) : KBinds K fd ["stand", "row", "prices"] ["prices", "row", "stand"] gR gR := kbinds3 F fun _ _ _ _ _ _ us ws hl => by
  have hl' : us.length + ws.length = 3 := by simpa using hl
  match us, hl' with
  | [], h => match ws, (by simpa using h : ws.length = 3) with
    | [_, _, _], _ => rfl
  | [_], h => match ws, (by simp at h; omega : ws.length = 2) with
    | [_, _], _ => rfl
  | [_, _], h => match ws, (by simp at h; omega : ws.length = 1) with
    | [_], _ => rfl
  | [_, _, _], h => match ws, (by simp at h; exact List.length_eq_zero_iff.mpr h : ws.length = 0) with
    | [], _ => rfl
  | _ :: _ :: _ :: _ :: _, h => exact absurd h (by simp; omega)
section
variable {P : Program} {w : World} {K : PySem.W.Frag} {mg : Str → Option Value} {base : Heap}
structure Tops (K : PySem.W.Frag) (mg : Str → Option Value) : Prop where
  d_is_number : DefOk K mg "is_number" s_is_number ["thing"]
  d_is_from : DefOk K mg "is_from" s_is_from ["thing", "least"]
  d_is_within : DefOk K mg "is_within" s_is_within ["thing", "least", "most"]
  d_is_long : DefOk K mg "is_long" s_is_long ["thing", "length"]
  d_tupled : DefOk K mg "tupled" s_tupled ["value"]
  d_set_of : DefOk K mg "set_of" s_set_of ["row"]
  d_are_numbers : DefOk K mg "are_numbers" s_are_numbers ["thing"]
  d_is_shape : DefOk K mg "is_shape" s_is_shape ["thing"]
  d_place_in : DefOk K mg "place_in" s_place_in ["shape"]
  d_side_in : DefOk K mg "side_in" s_side_in ["link"]
  d_over_in : DefOk K mg "over_in" s_over_in ["shape", "way"]
  d_arcs_in : DefOk K mg "arcs_in" s_arcs_in ["shape", "other"]
  d_is_stand : DefOk K mg "is_stand" s_is_stand ["thing"]
  d_sure_stand : DefOk K mg "sure_stand" s_sure_stand ["stand"]
  d_is_move : DefOk K mg "is_move" s_is_move ["thing"]
  d_more_at : DefOk K mg "more_at" s_more_at ["row", "place", "by"]
  d_flipped : DefOk K mg "flipped" s_flipped ["row", "place"]
  d_tipped_in : DefOk K mg "tipped_in" s_tipped_in ["stand", "way"]
  d_turned_in : DefOk K mg "turned_in" s_turned_in ["stand", "corner", "hand"]
  d_moved_in : DefOk K mg "moved_in" s_moved_in ["stand", "move"]
  d_is_row_in : DefOk K mg "is_row_in" s_is_row_in ["thing"]
  d_sure_row : DefOk K mg "sure_row" s_sure_row ["row"]
  d_more_of : DefOk K mg "more_of" s_more_of ["one", "other"]
  d_counts_in : DefOk K mg "counts_in" s_counts_in ["stand", "goal"]
  d_shift_in : DefOk K mg "shift_in" s_shift_in ["counts", "rest"]
  d_halves_in : DefOk K mg "halves_in" s_halves_in ["shift", "was", "lies"]
  d_fronts_in : DefOk K mg "fronts_in" s_fronts_in ["stand", "shape", "counts"]
  d_stretch_from : DefOk K mg "stretch_from" s_stretch_from ["ends", "counts", "first"]
  d_stretches_in : DefOk K mg "stretches_in" s_stretches_in ["shape", "other", "counts"]
  d_is_odd_line : DefOk K mg "is_odd_line" s_is_odd_line ["stand", "goal", "line"]
  d_odd_of : DefOk K mg "odd_of" s_odd_of ["counts"]
  d_bars_in : DefOk K mg "bars_in" s_bars_in ["stand", "goal"]
  d_can_in : DefOk K mg "can_in" s_can_in ["stand", "goal"]
  d_sure_both : DefOk K mg "sure_both" s_sure_both ["stand", "goal"]
  d_sure_way : DefOk K mg "sure_way" s_sure_way ["stand", "goal"]
  d_is_tips : DefOk K mg "is_tips" s_is_tips ["thing"]
  d_sure_prices : DefOk K mg "sure_prices" s_sure_prices ["prices"]
  d_sure_priced : DefOk K mg "sure_priced" s_sure_priced ["stand", "goal", "prices"]
  d_price_in : DefOk K mg "price_in" s_price_in ["stand", "row", "prices"]
  d_price_of : DefOk K mg "price_of" s_price_of ["stand", "row", "prices"]
  d_bridges_in : DefOk K mg "bridges_in" s_bridges_in ["counts", "stretch"]
  d_priced_in : DefOk K mg "priced_in" s_priced_in ["stand", "goal", "prices"]
  d_least_in : DefOk K mg "least_in" s_least_in ["stand", "goal", "prices"]
  d_cheapest : DefOk K mg "cheapest" s_cheapest ["stand", "goal", "prices"]
  d_cheap_and_few : DefOk K mg "cheap_and_few" s_cheap_and_few ["stand", "goal", "prices"]
  d_l_lists : DefOk K mg "_law_lists" s_l_lists ["_law_matter"]
  d_l_same : DefOk K mg "_law_same" s_l_same ["_law_got", "_law_due"]
  d_l_home : DefOk K mg "_law_home" s_l_home []
  d_l_poses : DefOk K mg "_law_poses" s_l_poses []
  d_l_across : DefOk K mg "_law_across" s_l_across []
  d_l_plus : DefOk K mg "_law_plus" s_l_plus ["_law_row_so", "_law_k", "_law_by_so"]
  d_l_flip : DefOk K mg "_law_flip" s_l_flip ["_law_row_so", "_law_k"]
  d_l_tip : DefOk K mg "_law_tip" s_l_tip ["_law_spot", "_law_way_so"]
  d_l_turn : DefOk K mg "_law_turn" s_l_turn ["_law_spot", "_law_corner_so", "_law_hand_so"]
  d_l_step : DefOk K mg "_law_step" s_l_step ["_law_spot", "_law_step_here"]
  d_l_behind : DefOk K mg "_law_behind" s_l_behind ["_law_spot", "_law_walk_here"]
  d_l_tips : DefOk K mg "_law_tips" s_l_tips []
  d_l_tally : DefOk K mg "_law_tally" s_l_tally ["_law_one", "_law_two"]
  d_l_over : DefOk K mg "_law_over" s_l_over ["_law_pose", "_law_way_so"]
  d_l_fee : DefOk K mg "_law_fee" s_l_fee ["_law_spot", "_law_walk_here", "_law_fees_here"]
  d_l_hangs : DefOk K mg "_law_hangs" s_l_hangs ["_law_lot", "_law_first_so", "_law_last_so"]
  d_l_lots : DefOk K mg "_law_lots" s_l_lots []
  d_l_thrift : DefOk K mg "_law_thrift" s_l_thrift ["_law_one", "_law_two", "_law_fees_here"]
  d_l_take : DefOk K mg "_law_take" s_l_take ["_law_tin", "_law_below_so"]
  d_l_of : DefOk K mg "_law_of" s_l_of ["_law_tin", "_law_goods_so"]
  d_l_walk : DefOk K mg "_law_walk" s_l_walk ["_law_tin", "_law_many_so", "_law_steps_so"]
  d_l_fees : DefOk K mg "_law_fees" s_l_fees ["_law_tin"]
  d_l_far_spot : DefOk K mg "_law_far_spot" s_l_far_spot ["_law_tin", "_law_one"]
  d_l_begin : DefOk K mg "_law_begin" s_l_begin ["_law_tin"]
  d_l_searched : DefOk K mg "_law_searched" s_l_searched ["_law_one", "_law_two", "_law_fees_here"]
  d_l_right : DefOk K mg "_law_right" s_l_right ["_law_tin"]
  d_l_by_hand_right : DefOk K mg "_law_by_hand_right" s_l_by_hand_right []
  d_l_cells : DefOk K mg "_law_cells" s_l_cells ["_law_script", "_law_most_so"]
  d_l_box : DefOk K mg "_law_box" s_l_box ["_law_script", "_law_k"]
theorem law_all (T : Tops K mg) (B : Txt K mg) {FS : List D → Option D} (hS : SearchOk FS) (HS : ∀ {f : Addr} {fd : FuncData}, Fun K "_law_searched" "_law_searched" s_l_searched f fd → mg "_law_searched" = some (.ref f) → Binds K fd ["_law_one", "_law_two", "_law_fees_here"] [] → Callee P w K mg base 3 "_law_tip" 2 F_l_tip → Callee P w K mg base 3 "_law_over" 2 F_l_over → Callee P w K mg base 3 "_law_tally" 2 F_l_tally → Callee P w K mg base 6 "_law_searched" 3 FS)
    {f : Addr} {fd : FuncData} (F : Fun K "law" "law" s_law f fd) : FnOk P w K mg base CX0 13 f fd ["_law_script"] (spLaw K) := by
  obtain ⟨ad_is_number, fd_is_number, F_is_number, m_is_number, b_is_number⟩ := T.d_is_number
  obtain ⟨ad_is_from, fd_is_from, F_is_from, m_is_from, b_is_from⟩ := T.d_is_from
  obtain ⟨ad_is_within, fd_is_within, F_is_within, m_is_within, b_is_within⟩ := T.d_is_within
  obtain ⟨ad_is_long, fd_is_long, F_is_long, m_is_long, b_is_long⟩ := T.d_is_long
  obtain ⟨ad_tupled, fd_tupled, F_tupled, m_tupled, b_tupled⟩ := T.d_tupled
  obtain ⟨ad_set_of, fd_set_of, F_set_of, m_set_of, b_set_of⟩ := T.d_set_of
  obtain ⟨ad_are_numbers, fd_are_numbers, F_are_numbers, m_are_numbers, b_are_numbers⟩ := T.d_are_numbers
  obtain ⟨ad_is_shape, fd_is_shape, F_is_shape, m_is_shape, b_is_shape⟩ := T.d_is_shape
  obtain ⟨ad_place_in, fd_place_in, F_place_in, m_place_in, b_place_in⟩ := T.d_place_in
  obtain ⟨ad_side_in, fd_side_in, F_side_in, m_side_in, b_side_in⟩ := T.d_side_in
  obtain ⟨ad_over_in, fd_over_in, F_over_in, m_over_in, b_over_in⟩ := T.d_over_in
  obtain ⟨ad_arcs_in, fd_arcs_in, F_arcs_in, m_arcs_in, b_arcs_in⟩ := T.d_arcs_in
  obtain ⟨ad_is_stand, fd_is_stand, F_is_stand, m_is_stand, b_is_stand⟩ := T.d_is_stand
  obtain ⟨ad_sure_stand, fd_sure_stand, F_sure_stand, m_sure_stand, b_sure_stand⟩ := T.d_sure_stand
  obtain ⟨ad_is_move, fd_is_move, F_is_move, m_is_move, b_is_move⟩ := T.d_is_move
  obtain ⟨ad_more_at, fd_more_at, F_more_at, m_more_at, b_more_at⟩ := T.d_more_at
  obtain ⟨ad_flipped, fd_flipped, F_flipped, m_flipped, b_flipped⟩ := T.d_flipped
  obtain ⟨ad_tipped_in, fd_tipped_in, F_tipped_in, m_tipped_in, b_tipped_in⟩ := T.d_tipped_in
  obtain ⟨ad_turned_in, fd_turned_in, F_turned_in, m_turned_in, b_turned_in⟩ := T.d_turned_in
  obtain ⟨ad_moved_in, fd_moved_in, F_moved_in, m_moved_in, b_moved_in⟩ := T.d_moved_in
  obtain ⟨ad_is_row_in, fd_is_row_in, F_is_row_in, m_is_row_in, b_is_row_in⟩ := T.d_is_row_in
  obtain ⟨ad_sure_row, fd_sure_row, F_sure_row, m_sure_row, b_sure_row⟩ := T.d_sure_row
  obtain ⟨ad_more_of, fd_more_of, F_more_of, m_more_of, b_more_of⟩ := T.d_more_of
  obtain ⟨ad_counts_in, fd_counts_in, F_counts_in, m_counts_in, b_counts_in⟩ := T.d_counts_in
  obtain ⟨ad_shift_in, fd_shift_in, F_shift_in, m_shift_in, b_shift_in⟩ := T.d_shift_in
  obtain ⟨ad_halves_in, fd_halves_in, F_halves_in, m_halves_in, b_halves_in⟩ := T.d_halves_in
  obtain ⟨ad_fronts_in, fd_fronts_in, F_fronts_in, m_fronts_in, b_fronts_in⟩ := T.d_fronts_in
  obtain ⟨ad_stretch_from, fd_stretch_from, F_stretch_from, m_stretch_from, b_stretch_from⟩ := T.d_stretch_from
  obtain ⟨ad_stretches_in, fd_stretches_in, F_stretches_in, m_stretches_in, b_stretches_in⟩ := T.d_stretches_in
  obtain ⟨ad_is_odd_line, fd_is_odd_line, F_is_odd_line, m_is_odd_line, b_is_odd_line⟩ := T.d_is_odd_line
  obtain ⟨ad_odd_of, fd_odd_of, F_odd_of, m_odd_of, b_odd_of⟩ := T.d_odd_of
  obtain ⟨ad_bars_in, fd_bars_in, F_bars_in, m_bars_in, b_bars_in⟩ := T.d_bars_in
  obtain ⟨ad_can_in, fd_can_in, F_can_in, m_can_in, b_can_in⟩ := T.d_can_in
  obtain ⟨ad_sure_both, fd_sure_both, F_sure_both, m_sure_both, b_sure_both⟩ := T.d_sure_both
  obtain ⟨ad_sure_way, fd_sure_way, F_sure_way, m_sure_way, b_sure_way⟩ := T.d_sure_way
  obtain ⟨ad_is_tips, fd_is_tips, F_is_tips, m_is_tips, b_is_tips⟩ := T.d_is_tips
  obtain ⟨ad_sure_prices, fd_sure_prices, F_sure_prices, m_sure_prices, b_sure_prices⟩ := T.d_sure_prices
  obtain ⟨ad_sure_priced, fd_sure_priced, F_sure_priced, m_sure_priced, b_sure_priced⟩ := T.d_sure_priced
  obtain ⟨ad_price_in, fd_price_in, F_price_in, m_price_in, b_price_in⟩ := T.d_price_in
  obtain ⟨ad_price_of, fd_price_of, F_price_of, m_price_of, b_price_of⟩ := T.d_price_of
  obtain ⟨ad_bridges_in, fd_bridges_in, F_bridges_in, m_bridges_in, b_bridges_in⟩ := T.d_bridges_in
  obtain ⟨ad_priced_in, fd_priced_in, F_priced_in, m_priced_in, b_priced_in⟩ := T.d_priced_in
  obtain ⟨ad_least_in, fd_least_in, F_least_in, m_least_in, b_least_in⟩ := T.d_least_in
  obtain ⟨ad_cheapest, fd_cheapest, F_cheapest, m_cheapest, b_cheapest⟩ := T.d_cheapest
  obtain ⟨ad_cheap_and_few, fd_cheap_and_few, F_cheap_and_few, m_cheap_and_few, b_cheap_and_few⟩ := T.d_cheap_and_few
  obtain ⟨ad_l_lists, fd_l_lists, F_l_lists, m_l_lists, b_l_lists⟩ := T.d_l_lists
  obtain ⟨ad_l_same, fd_l_same, F_l_same, m_l_same, b_l_same⟩ := T.d_l_same
  obtain ⟨ad_l_home, fd_l_home, F_l_home, m_l_home, b_l_home⟩ := T.d_l_home
  obtain ⟨ad_l_poses, fd_l_poses, F_l_poses, m_l_poses, b_l_poses⟩ := T.d_l_poses
  obtain ⟨ad_l_across, fd_l_across, F_l_across, m_l_across, b_l_across⟩ := T.d_l_across
  obtain ⟨ad_l_plus, fd_l_plus, F_l_plus, m_l_plus, b_l_plus⟩ := T.d_l_plus
  obtain ⟨ad_l_flip, fd_l_flip, F_l_flip, m_l_flip, b_l_flip⟩ := T.d_l_flip
  obtain ⟨ad_l_tip, fd_l_tip, F_l_tip, m_l_tip, b_l_tip⟩ := T.d_l_tip
  obtain ⟨ad_l_turn, fd_l_turn, F_l_turn, m_l_turn, b_l_turn⟩ := T.d_l_turn
  obtain ⟨ad_l_step, fd_l_step, F_l_step, m_l_step, b_l_step⟩ := T.d_l_step
  obtain ⟨ad_l_behind, fd_l_behind, F_l_behind, m_l_behind, b_l_behind⟩ := T.d_l_behind
  obtain ⟨ad_l_tips, fd_l_tips, F_l_tips, m_l_tips, b_l_tips⟩ := T.d_l_tips
  obtain ⟨ad_l_tally, fd_l_tally, F_l_tally, m_l_tally, b_l_tally⟩ := T.d_l_tally
  obtain ⟨ad_l_over, fd_l_over, F_l_over, m_l_over, b_l_over⟩ := T.d_l_over
  obtain ⟨ad_l_fee, fd_l_fee, F_l_fee, m_l_fee, b_l_fee⟩ := T.d_l_fee
  obtain ⟨ad_l_hangs, fd_l_hangs, F_l_hangs, m_l_hangs, b_l_hangs⟩ := T.d_l_hangs
  obtain ⟨ad_l_lots, fd_l_lots, F_l_lots, m_l_lots, b_l_lots⟩ := T.d_l_lots
  obtain ⟨ad_l_thrift, fd_l_thrift, F_l_thrift, m_l_thrift, b_l_thrift⟩ := T.d_l_thrift
  obtain ⟨ad_l_take, fd_l_take, F_l_take, m_l_take, b_l_take⟩ := T.d_l_take
  obtain ⟨ad_l_of, fd_l_of, F_l_of, m_l_of, b_l_of⟩ := T.d_l_of
  obtain ⟨ad_l_walk, fd_l_walk, F_l_walk, m_l_walk, b_l_walk⟩ := T.d_l_walk
  obtain ⟨ad_l_fees, fd_l_fees, F_l_fees, m_l_fees, b_l_fees⟩ := T.d_l_fees
  obtain ⟨ad_l_far_spot, fd_l_far_spot, F_l_far_spot, m_l_far_spot, b_l_far_spot⟩ := T.d_l_far_spot
  obtain ⟨ad_l_begin, fd_l_begin, F_l_begin, m_l_begin, b_l_begin⟩ := T.d_l_begin
  obtain ⟨ad_l_searched, fd_l_searched, F_l_searched, m_l_searched, b_l_searched⟩ := T.d_l_searched
  obtain ⟨ad_l_right, fd_l_right, F_l_right, m_l_right, b_l_right⟩ := T.d_l_right
  obtain ⟨ad_l_by_hand_right, fd_l_by_hand_right, F_l_by_hand_right, m_l_by_hand_right, b_l_by_hand_right⟩ := T.d_l_by_hand_right
  obtain ⟨ad_l_cells, fd_l_cells, F_l_cells, m_l_cells, b_l_cells⟩ := T.d_l_cells
  obtain ⟨ad_l_box, fd_l_box, F_l_box, m_l_box, b_l_box⟩ := T.d_l_box
  have C_is_number := c_is_number (P := P) (w := w) (base := base) F_is_number m_is_number b_is_number B
  have C_is_from := c_is_from (P := P) (w := w) (base := base) F_is_from m_is_from b_is_from B C_is_number
  have C_is_within := c_is_within (P := P) (w := w) (base := base) F_is_within m_is_within b_is_within B C_is_number
  have C_is_long := c_is_long (P := P) (w := w) (base := base) F_is_long m_is_long b_is_long B
  have C_tupled := c_tupled (P := P) (w := w) (base := base) F_tupled m_tupled b_tupled B
  have C_set_of := c_set_of (P := P) (w := w) (base := base) F_set_of m_set_of b_set_of B
  have C_are_numbers := c_are_numbers (P := P) (w := w) (base := base) F_are_numbers m_are_numbers b_are_numbers B C_is_number
  have C_is_shape := c_is_shape (P := P) (w := w) (base := base) F_is_shape m_is_shape b_is_shape B C_is_number C_is_long
  have C_place_in := c_place_in (P := P) (w := w) (base := base) F_place_in m_place_in b_place_in B
  have C_side_in := c_side_in (P := P) (w := w) (base := base) F_side_in m_side_in b_side_in B
  have C_over_in := c_over_in (P := P) (w := w) (base := base) F_over_in m_over_in b_over_in B C_place_in
  have C_arcs_in := c_arcs_in (P := P) (w := w) (base := base) F_arcs_in m_arcs_in b_arcs_in B C_place_in
  have C_is_stand := c_is_stand (P := P) (w := w) (base := base) F_is_stand m_is_stand b_is_stand B C_are_numbers C_is_long C_is_shape
  have C_sure_stand := c_sure_stand (P := P) (w := w) (base := base) F_sure_stand m_sure_stand b_sure_stand B C_is_stand C_tupled
  have C_is_move := c_is_move (P := P) (w := w) (base := base) F_is_move m_is_move b_is_move B C_is_number C_is_within C_is_long
  have C_more_at := c_more_at (P := P) (w := w) (base := base) F_more_at m_more_at b_more_at B
  have C_flipped := c_flipped (P := P) (w := w) (base := base) F_flipped m_flipped b_flipped B C_more_at
  have C_tipped_in := c_tipped_in (P := P) (w := w) (base := base) F_tipped_in m_tipped_in b_tipped_in B C_flipped C_more_at
  have C_turned_in := c_turned_in (P := P) (w := w) (base := base) F_turned_in m_turned_in b_turned_in B C_flipped C_more_at
  have C_moved_in := c_moved_in (P := P) (w := w) (base := base) F_moved_in m_moved_in b_moved_in B C_tipped_in C_turned_in
  have C_is_row_in := c_is_row_in (P := P) (w := w) (base := base) F_is_row_in m_is_row_in b_is_row_in B C_is_move
  have C_sure_row := c_sure_row (P := P) (w := w) (base := base) F_sure_row m_sure_row b_sure_row B C_is_row_in C_tupled
  have C_more_of := c_more_of (P := P) (w := w) (base := base) F_more_of m_more_of b_more_of B
  have C_counts_in := c_counts_in (P := P) (w := w) (base := base) F_counts_in m_counts_in b_counts_in B C_side_in C_more_of
  have C_shift_in := c_shift_in (P := P) (w := w) (base := base) F_shift_in m_shift_in b_shift_in B C_side_in
  have C_halves_in := c_halves_in (P := P) (w := w) (base := base) F_halves_in m_halves_in b_halves_in B
  have C_fronts_in := c_fronts_in (P := P) (w := w) (base := base) F_fronts_in m_fronts_in b_fronts_in B C_halves_in C_shift_in
  have C_stretch_from := c_stretch_from (P := P) (w := w) (base := base) F_stretch_from m_stretch_from b_stretch_from B
  have C_stretches_in := c_stretches_in (P := P) (w := w) (base := base) F_stretches_in m_stretches_in b_stretches_in B C_stretch_from C_place_in
  have C_is_odd_line := c_is_odd_line (P := P) (w := w) (base := base) F_is_odd_line m_is_odd_line b_is_odd_line B
  have C_odd_of := c_odd_of (P := P) (w := w) (base := base) F_odd_of m_odd_of b_odd_of B
  have C_bars_in := c_bars_in (P := P) (w := w) (base := base) F_bars_in m_bars_in b_bars_in B C_fronts_in C_arcs_in C_set_of C_odd_of C_counts_in C_is_odd_line
  have C_can_in := c_can_in (P := P) (w := w) (base := base) F_can_in m_can_in b_can_in B C_bars_in
  have C_sure_both := c_sure_both (P := P) (w := w) (base := base) F_sure_both m_sure_both b_sure_both B C_sure_stand
  have C_sure_way := c_sure_way (P := P) (w := w) (base := base) F_sure_way m_sure_way b_sure_way B C_can_in C_sure_both
  have C_is_tips := c_is_tips (P := P) (w := w) (base := base) F_is_tips m_is_tips b_is_tips B C_is_within
  have C_sure_prices := c_sure_prices (P := P) (w := w) (base := base) F_sure_prices m_sure_prices b_sure_prices B C_is_from C_is_long C_tupled
  have C_sure_priced := c_sure_priced (P := P) (w := w) (base := base) F_sure_priced m_sure_priced b_sure_priced B C_sure_way C_sure_prices C_sure_both
  have C_price_in := c_price_in (P := P) (w := w) (base := base) F_price_in m_price_in b_price_in B C_moved_in C_over_in
  have C_price_of := c_price_of (P := P) (w := w) (base := base) F_price_of m_price_of b_price_of B C_price_in C_is_tips C_sure_prices C_sure_row C_sure_stand
  have C_bridges_in := c_bridges_in (P := P) (w := w) (base := base) F_bridges_in m_bridges_in b_bridges_in B
  have C_priced_in := c_priced_in (P := P) (w := w) (base := base) F_priced_in m_priced_in b_priced_in B C_bridges_in C_stretches_in C_set_of C_counts_in
  have C_least_in := c_least_in (P := P) (w := w) (base := base) F_least_in m_least_in b_least_in B C_priced_in
  have C_cheapest := c_cheapest (P := P) (w := w) (base := base) F_cheapest m_cheapest b_cheapest B C_least_in C_sure_priced
  have C_cheap_and_few := c_cheap_and_few (P := P) (w := w) (base := base) F_cheap_and_few m_cheap_and_few b_cheap_and_few B C_priced_in C_sure_priced
  have C_l_lists := c_l_lists (P := P) (w := w) (base := base) F_l_lists m_l_lists b_l_lists B
  have C_l_same := c_l_same (P := P) (w := w) (base := base) F_l_same m_l_same b_l_same B
  have C_l_home := c_l_home (P := P) (w := w) (base := base) F_l_home m_l_home b_l_home B
  have C_l_poses := c_l_poses (P := P) (w := w) (base := base) F_l_poses m_l_poses b_l_poses B
  have C_l_across := c_l_across (P := P) (w := w) (base := base) F_l_across m_l_across b_l_across B
  have C_l_plus := c_l_plus (P := P) (w := w) (base := base) F_l_plus m_l_plus b_l_plus B
  have C_l_flip := c_l_flip (P := P) (w := w) (base := base) F_l_flip m_l_flip b_l_flip B
  have C_l_tip := c_l_tip (P := P) (w := w) (base := base) F_l_tip m_l_tip b_l_tip B C_l_flip C_l_plus
  have C_l_turn := c_l_turn (P := P) (w := w) (base := base) F_l_turn m_l_turn b_l_turn B C_l_flip C_l_plus
  have C_l_step := c_l_step (P := P) (w := w) (base := base) F_l_step m_l_step b_l_step B C_l_tip C_l_turn
  have C_l_behind := c_l_behind (P := P) (w := w) (base := base) F_l_behind m_l_behind b_l_behind B C_l_step
  have C_l_tips := c_l_tips (P := P) (w := w) (base := base) F_l_tips m_l_tips b_l_tips B
  have C_l_tally := c_l_tally (P := P) (w := w) (base := base) F_l_tally m_l_tally b_l_tally B C_l_across
  have C_l_over := c_l_over (P := P) (w := w) (base := base) F_l_over m_l_over b_l_over B C_l_poses
  have C_l_fee := c_l_fee (P := P) (w := w) (base := base) F_l_fee m_l_fee b_l_fee B C_l_step C_l_over
  have C_l_hangs := c_l_hangs (P := P) (w := w) (base := base) F_l_hangs m_l_hangs b_l_hangs B
  have C_l_lots := c_l_lots (P := P) (w := w) (base := base) F_l_lots m_l_lots b_l_lots B
  have C_l_thrift := c_l_thrift (P := P) (w := w) (base := base) F_l_thrift m_l_thrift b_l_thrift B C_l_lots C_l_hangs C_l_poses C_l_tally
  have K_cheap_and_few := ck_cheap_and_few (P := P) (w := w) (base := base) F_cheap_and_few m_cheap_and_few (kb_cheap_and_few F_cheap_and_few) B C_priced_in C_sure_priced
  have K_cheapest := ck_cheapest (P := P) (w := w) (base := base) F_cheapest m_cheapest (kb_cheapest F_cheapest) B C_least_in C_sure_priced
  have K_price_of := ck_price_of (P := P) (w := w) (base := base) F_price_of m_price_of (kb_price_of F_price_of) B C_price_in C_is_tips C_sure_prices C_sure_row C_sure_stand
  have C_l_by_hand_right := c_l_by_hand_right F_l_by_hand_right m_l_by_hand_right b_l_by_hand_right B C_l_same C_cheapest C_price_of C_cheap_and_few C_l_lists C_l_home K_cheap_and_few K_cheapest K_price_of
  have R_l_take := r_l_take (P := P) (w := w) (base := base) F_l_take m_l_take b_l_take B
  have R_l_of := (q0_l_of F_l_of m_l_of b_l_of B R_l_take).imp fun ds m Q h => w_of h
  have R_l_walk := (q0_l_walk F_l_walk m_l_walk b_l_walk B R_l_of).imp fun ds m Q h => w_walk h
  have R_l_fees := (q0_l_fees F_l_fees m_l_fees b_l_fees B R_l_take).imp fun ds m Q h => w_fees h
  have R_l_far_spot := (q0_l_far_spot F_l_far_spot m_l_far_spot b_l_far_spot B R_l_of R_l_take C_l_behind R_l_walk C_l_tips).imp fun ds m Q h => w_far_spot h
  have R_l_begin := (q0_l_begin F_l_begin m_l_begin b_l_begin B R_l_take C_l_behind R_l_walk C_l_tips C_l_home).imp fun ds m Q h => w_begin h
  have C_l_searched := HS F_l_searched m_l_searched b_l_searched C_l_tip C_l_over C_l_tally
  have R_l_right := q0_l_right F_l_right m_l_right b_l_right B FS C_l_same C_l_searched C_cheapest C_l_behind R_l_walk C_l_tips R_l_take C_l_lists C_cheap_and_few C_price_of C_l_thrift C_l_fee R_l_far_spot R_l_fees R_l_begin
  exact f_law hS F (f_l_cells F_l_cells B) m_l_cells F_l_cells.kp b_l_cells (f_l_box F_l_box B) m_l_box F_l_box.kp b_l_box C_l_by_hand_right R_l_right
theorem walk {l : PySem.W.OpenLaw} {q : Program} {loose : List Str} {XP : (Str → Option Value) → Heap → Prop} {YP : World → Heap → Prop} {d : DefRec} {K : Params → PySem.W.Frag} (hn : l.most = some 63) (hdf : d.params.defaults = [])
    (hY : ∀ (w : World) (h : Heap), YP w h → (K w.params).In h)
    (F : ∀ (w : World) (mg : Str → Option Value) (fa : Addr) (h : Heap), (K w.params).In h → h.Ns mainGlobals mg → mg d.name = some (.ref fa) →
      ∃ fd : FuncData, (∀ (s : Shared) (u : Value), BindsTo s fd ⟨[u], []⟩ [("_law_script", u)]) ∧ ∀ base : Heap, (K w.params).In base → base.Ns mainGlobals mg → FnOk l.prog w (K w.params) mg base CX0 13 fa fd ["_law_script"] (spLaw (K w.params))) :
    PySem.W.WalkO q loose XP YP l.row.toRowW d [] (fun f vs => PySem.call f vs) :=
  L2.walk_of (n := 63) (k := 13) (x := "_law_script") (CX := fun _ => CX0) (sp := fun w => spLaw (K w.params)) hn (by decide) hdf ⟨rfl, by decide, by decide⟩ hY F (fun _ _ a ns hl _ hS => ⟨a, ns, rfl, hS, hl, fun _ => rfl⟩) fun _ _ _ _ _ z => z
end
end DL

/-! E2b: the module's constants and built-in names. -/
namespace DL
open PySem PySem.Spec PyProof.Rows L2
theorem txtOk {K : PySem.W.Frag} {h : Heap} {mg : Str → Option Value} (X : K.In h) (G : h.Ns mainGlobals mg) {aR aA b0 b1 b2 b3 b4 b5 : Addr} {nR nA n0 n1 n2 n3 n4 n5 : Nat} {sR sA s0 s1 s2 s3 s4 s5 : Array (Option Value)} {e0 e1 e2 e3 e4 e5 e6 : Option Addr} {t00 t01 t02 t10 t11 t12 t20 t21 t22 t30 t31 t32 t40 t41 t42 t50 t51 t52 u0 u1 u2 u3 u4 u5 v0 v1 v2 v3 : Tok}
    (z_abs : PySem.W.nsIn K mainGlobals "abs" = some none)
    (z_all : PySem.W.nsIn K mainGlobals "all" = some none)
    (z_any : PySem.W.nsIn K mainGlobals "any" = some none)
    (z_enumerate : PySem.W.nsIn K mainGlobals "enumerate" = some none)
    (z_int : PySem.W.nsIn K mainGlobals "int" = some none)
    (z_isinstance : PySem.W.nsIn K mainGlobals "isinstance" = some none)
    (z_len : PySem.W.nsIn K mainGlobals "len" = some none)
    (z_list : PySem.W.nsIn K mainGlobals "list" = some none)
    (z_max : PySem.W.nsIn K mainGlobals "max" = some none)
    (z_min : PySem.W.nsIn K mainGlobals "min" = some none)
    (z_range : PySem.W.nsIn K mainGlobals "range" = some none)
    (z_set : PySem.W.nsIn K mainGlobals "set" = some none)
    (z_sorted : PySem.W.nsIn K mainGlobals "sorted" = some none)
    (z_sum : PySem.W.nsIn K mainGlobals "sum" = some none)
    (z_tuple : PySem.W.nsIn K mainGlobals "tuple" = some none)
    (z_zip : PySem.W.nsIn K mainGlobals "zip" = some none)
    (z_bool : PySem.W.nsIn K mainGlobals "bool" = some none)
    (z_str : PySem.W.nsIn K mainGlobals "str" = some none)
    (gR : PySem.W.nsIn K mainGlobals "RING" = some (some (.ref aR))) (lR : K.lookup aR = some ⟨.type "tuple", none, .seq #[.ref b0, .ref b1, .ref b2, .ref b3, .ref b4, .ref b5] nR, sR⟩)
    (l0 : K.lookup b0 = some ⟨.type "tuple", e0, .seq #[.int 0 t00, .int 1 t01, .int 2 t02] n0, s0⟩)
    (l1 : K.lookup b1 = some ⟨.type "tuple", e1, .seq #[.int 2 t10, .int 1 t11, .int 0 t12] n1, s1⟩)
    (l2 : K.lookup b2 = some ⟨.type "tuple", e2, .seq #[.int 2 t20, .int 0 t21, .int 1 t22] n2, s2⟩)
    (l3 : K.lookup b3 = some ⟨.type "tuple", e3, .seq #[.int 1 t30, .int 0 t31, .int 2 t32] n3, s3⟩)
    (l4 : K.lookup b4 = some ⟨.type "tuple", e4, .seq #[.int 1 t40, .int 2 t41, .int 0 t42] n4, s4⟩)
    (l5 : K.lookup b5 = some ⟨.type "tuple", e5, .seq #[.int 0 t50, .int 2 t51, .int 1 t52] n5, s5⟩)
    (gA : PySem.W.nsIn K mainGlobals "ACROSS" = some (some (.ref aA))) (lA : K.lookup aA = some ⟨.type "tuple", e6, .seq #[.int 1 u0, .int 2 u1, .int 0 u2, .int 1 u3, .int 2 u4, .int 0 u5] nA, sA⟩)
    (c0 : PySem.W.nsIn K mainGlobals "LINKS_counts" = some (some (.int 6 v0)))
    (c1 : PySem.W.nsIn K mainGlobals "LINKS_links" = some (some (.int 6 v1)))
    (c2 : PySem.W.nsIn K mainGlobals "LINKS_prices" = some (some (.int 6 v2)))
    (c3 : PySem.W.nsIn K mainGlobals "SIDES" = some (some (.int 3 v3)))
    : Txt K mg := by
  have h0 : ∀ G, Dq K G (.ref b0) (sh 0 1 2) := dq_tup [(0, t00), (1, t01), (2, t02)] (by simp) l0
  have h1 : ∀ G, Dq K G (.ref b1) (sh 2 1 0) := dq_tup [(2, t10), (1, t11), (0, t12)] (by simp) l1
  have h2 : ∀ G, Dq K G (.ref b2) (sh 2 0 1) := dq_tup [(2, t20), (0, t21), (1, t22)] (by simp) l2
  have h3 : ∀ G, Dq K G (.ref b3) (sh 1 0 2) := dq_tup [(1, t30), (0, t31), (2, t32)] (by simp) l3
  have h4 : ∀ G, Dq K G (.ref b4) (sh 1 2 0) := dq_tup [(1, t40), (2, t41), (0, t42)] (by simp) l4
  have h5 : ∀ G, Dq K G (.ref b5) (sh 0 2 1) := dq_tup [(0, t50), (2, t51), (1, t52)] (by simp) l5
  have hA : ∀ G, Dq K G (.ref aA) acrossD := dq_tup [(1, u0), (2, u1), (0, u2), (1, u3), (2, u4), (0, u5)] (by simp) lA
  have hR : ∀ G, Dq K G (.ref aR) ringD := dq_tups lR h0 h1 h2 h3 h4 h5
  exact ⟨PySem.W.ns_none_of X G z_abs, PySem.W.ns_none_of X G z_all, PySem.W.ns_none_of X G z_any, PySem.W.ns_none_of X G z_enumerate, PySem.W.ns_none_of X G z_int, PySem.W.ns_none_of X G z_isinstance, PySem.W.ns_none_of X G z_len, PySem.W.ns_none_of X G z_list, PySem.W.ns_none_of X G z_max, PySem.W.ns_none_of X G z_min, PySem.W.ns_none_of X G z_range, PySem.W.ns_none_of X G z_set, PySem.W.ns_none_of X G z_sorted, PySem.W.ns_none_of X G z_sum, PySem.W.ns_none_of X G z_tuple, PySem.W.ns_none_of X G z_zip, PySem.W.ns_none_of X G z_bool, PySem.W.ns_none_of X G z_str, ⟨aR, PySem.W.mg_of X G gR, ⟨_, lR, rfl, rfl⟩, hR⟩, ⟨aA, PySem.W.mg_of X G gA, hA⟩, ⟨v0, PySem.W.mg_of X G c0⟩, ⟨v1, PySem.W.mg_of X G c1⟩, ⟨v2, PySem.W.mg_of X G c2⟩, ⟨v3, PySem.W.mg_of X G c3⟩⟩
theorem law_bind {K : PySem.W.Frag} {f : Addr} {fd : FuncData} (F : Fun K "law" "law" s_law f fd) (s : Shared) (v : Value) : BindsTo s fd ⟨[v], []⟩ [("_law_script", v)] := by
  obtain ⟨oc, od, kV, doc, pm, an, cdv, ct, osl, rfl, lk, hcd⟩ := F.ex
  exact .of_eq (bd_law kV doc pm an cdv ct [v] rfl)
end DL

/-! N1: a dict whose keys are nested tuples of ints, its values ints. -/
namespace DL
open PySem PySem.Spec PyProof.Rows L2

mutual
def nk : PyData → NestedKey
  | .int i => .num i
  | .tuple ds => .tup (nks ds)
  | _ => .none
def nks : List PyData → List NestedKey
  | [] => []
  | d :: ds => nk d :: nks ds
end
mutual
def nkT : PyData → Bool
  | .int _ => true
  | .tuple ds => nkTs ds
  | _ => false
def nkTs : List PyData → Bool
  | [] => true
  | d :: ds => nkT d && nkTs ds
end
def isTup : PyData → Bool
  | .tuple _ => true
  | _ => false
structure NkOk (d : D) : Prop where
  t : nkT d = true
  tup : isTup d = true
  dep : (nk d).depth ≤ 8
section
variable {X : Cx} {pins : List (Addr × Obj)} {σ : L2.St} {H : Hp} {s : Shared}
mutual
theorem nested_of (I : Inv X pins σ H s) : ∀ (d : PyData) (v : V) (u : Value), Dq X.K H v d → RelV v u → nkT d = true → NestedIs s.heap (nk d) u
  | .int i, _, u, .int _, r, _ => by
    obtain ⟨t, rfl⟩ := r
    rw [nk]
    exact .int i t
  | .tuple ds, _, u, .tup (a := a) hs hd, r, h => by
    cases (show u = Value.ref a from r)
    obtain ⟨its, rv, ⟨o, e, c, n, dd⟩, _⟩ := I.tuple hs
    rw [nk]
    refine .tup e c dd ?_
    rw [nkT] at h
    exact nested_all I ds _ its hd rv h
  | .none, _, _, _, _, h => by simp [nkT] at h
  | .bool _, _, _, _, _, h => by simp [nkT] at h
  | .str _, _, _, _, _, h => by simp [nkT] at h
  | .list _, _, _, _, _, h => by simp [nkT] at h
  | .dict _, _, _, _, _, h => by simp [nkT] at h
theorem nested_all (I : Inv X pins σ H s) : ∀ (ds : List PyData) (vs : List V) (us : List Value), DqAll X.K H vs ds → Vals vs us → nkTs ds = true → NestedAll s.heap (nks ds) us
  | [], _, us, .nil, r, _ => by
    cases r
    rw [nks]
    exact .nil
  | d :: ds, _, us, .cons h1 h2, r, h => by
    cases r with
    | cons r1 r2 =>
      rw [nkTs] at h
      obtain ⟨ha, hb⟩ := (Bool.and_eq_true _ _).mp h
      rw [nks]
      exact .cons (nested_of I d _ _ h1 r1 ha) (nested_all I ds _ _ h2 r2 hb)
end
end
/-- the dict's own object -/
def DnRaw (P : Program) (w : World) (a : Addr) (xs : List (NestedKey × Addr × Value)) : Heap → Prop := fun h => ∃ o es ep, h.get? a = some o ∧ o.ExactDict ∧ o.data = .dict es ep ∧ es.toList = xs.map (entryOfKey (nestedKind P w)) ∧ (xs.map (·.1)).Nodup
def KVN (K : PySem.W.Frag) (H : Hp) : List (D × Int) → List (NestedKey × Addr × Value) → Prop := Paired fun p q => q.1 = nk p.1 ∧ NkOk p.1 ∧ Dq K H (.ref q.2.1) p.1 ∧ ∃ t, q.2.2 = .int p.2 t
structure DN (P : Program) (w : World) (K : PySem.W.Frag) (G H : Hp) (a : Addr) (kvs : List (D × Int)) : Prop where
  ex : ∃ xs, H a = some (.ext (DnRaw P w a xs)) ∧ KVN K G kvs xs
  sys : (a == sysModules) = false
  len : kvs.length ≤ 100000
  n : G a = none
def getN (kvs : List (D × Int)) (d : D) : Option Int := (kvs.find? fun p => decide (nk p.1 = nk d)).map (·.2)
def putN (kvs : List (D × Int)) (d : D) (i : Int) : List (D × Int) := if (getN kvs d).isSome then kvs.map (fun p => if nk p.1 = nk d then (p.1, i) else p) else kvs ++ [(d, i)]
theorem KVN.to {K : PySem.W.Frag} {H H' : Hp} (e : Same H H') {kvs : List (D × Int)} {xs : List (NestedKey × Addr × Value)} (h : KVN K H kvs xs) : KVN K H' kvs xs := by
  unfold KVN at *
  induction h with
  | nil => exact .nil
  | cons h t ih => exact .cons ⟨h.1, h.2.1, h.2.2.1.to e, h.2.2.2⟩ ih
theorem DN.stp {P : Program} {w : World} {K : PySem.W.Frag} {G H G' H' : Hp} {a : Addr} {kvs : List (D × Int)} (h : DN P w K G H a kvs) (e : Stp G H G' H') : DN P w K G' H' a kvs :=
  let ⟨xs, h1, h2⟩ := h.ex
  ⟨⟨xs, e.h _ _ h1, h2.to e.g⟩, h.sys, h.len, e.nw _ _ h1 h.n⟩
theorem KVN.at_ {K : PySem.W.Frag} {H : Hp} {kvs : List (D × Int)} {xs : List (NestedKey × Addr × Value)} (h : KVN K H kvs xs) (k : NestedKey) : (atKey xs k = none ∧ (kvs.find? fun p => decide (nk p.1 = k)) = none) ∨ ∃ p b t, atKey xs k = some (b, .int p.2 t) ∧ (kvs.find? fun p => decide (nk p.1 = k)) = some p := by
  unfold KVN at h
  induction h with
  | nil => exact .inl ⟨rfl, rfl⟩
  | @cons p q ps qs h t ih =>
    obtain ⟨e1, _, _, u, e2⟩ := h
    by_cases hk : nk p.1 = k
    · refine .inr ⟨p, q.2.1, u, ?_, ?_⟩
      · unfold atKey
        rw [List.find?_cons_of_pos (by rw [e1]; simpa using hk)]
        show some q.2 = _
        rw [← e2]
      · rw [List.find?_cons_of_pos (by simpa using hk)]
    · have e3 : atKey (q :: qs) k = atKey qs k := by
        unfold atKey
        rw [List.find?_cons_of_neg (by rw [e1]; simpa using hk)]
      rw [e3, List.find?_cons_of_neg (by simpa using hk)]
      exact ih
theorem KVN.len {K : PySem.W.Frag} {H : Hp} {kvs : List (D × Int)} {xs : List (NestedKey × Addr × Value)} (h : KVN K H kvs xs) : xs.length = kvs.length := (Paired.length h).symm
theorem KVN.put {K : PySem.W.Frag} {H : Hp} {kvs : List (D × Int)} {xs : List (NestedKey × Addr × Value)} (h : KVN K H kvs xs) {d : D} {b : Addr} {i : Int} {t : Tok} (hd : NkOk d) (hq : Dq K H (.ref b) d) : KVN K H (putN kvs d i) (storedH xs (nk d) b (.int i t)) := by
  have h0 := h.at_ (nk d)
  unfold putN storedH getN
  rcases h0 with ⟨e1, e2⟩ | ⟨p, c, u, e1, e2⟩
  · rw [e1, e2]
    show KVN K H (kvs ++ [(d, i)]) (xs ++ [(nk d, b, .int i t)])
    unfold KVN at *
    clear e1 e2
    induction h with
    | nil => exact .cons ⟨rfl, hd, hq, t, rfl⟩ .nil
    | cons h t' ih => exact .cons h ih
  · rw [e1, e2]
    show KVN K H (kvs.map fun p => if nk p.1 = nk d then (p.1, i) else p) (xs.map (putAt (nk d) (.int i t)))
    unfold KVN at *
    clear e1 e2
    induction h with
    | nil => exact .nil
    | @cons p q ps qs h t' ih =>
      refine .cons ?_ ih
      obtain ⟨e1, e2, e3, e4⟩ := h
      unfold putAt
      dsimp only
      by_cases hk : nk p.1 = nk d
      · rw [if_pos hk, if_pos (e1.trans hk)]
        exact ⟨e1, e2, e3, t, rfl⟩
      · rw [if_neg hk, if_neg (fun z => hk (e1.symm.trans z))]
        exact ⟨e1, e2, e3, e4⟩
section
variable {X : Cx} {pins : List (Addr × Obj)} {σ : L2.St} {H : Hp} {s : Shared} {a b : Addr} {kvs : List (D × Int)} {d : D} {A : Around} {E : Value → Shared → Prop}
theorem KVN.is (I : Inv X pins σ H s) {xs : List (NestedKey × Addr × Value)} (h : KVN X.K H kvs xs) : ∀ x ∈ xs, (nestedKind X.prog X.w).is s.heap x.1 x.2.1 := by
  unfold KVN at h
  induction h with
  | nil => exact fun x hx => nomatch hx
  | @cons p q ps qs h t ih =>
    intro x hx
    rcases List.mem_cons.mp hx with rfl | hx
    · obtain ⟨e1, e2, e3, e4⟩ := h
      rw [e1]
      exact ⟨nested_of I p.1 _ _ e3 rfl e2.t, e2.dep⟩
    · exact ih x hx
theorem DN.raw {G : Hp} (h : DN X.prog X.w X.K G H a kvs) (sg : Same G H) (I : Inv X pins σ H s) : ∃ xs, H a = some (.ext (DnRaw X.prog X.w a xs)) ∧ KVN X.K G kvs xs ∧ s.heap.DictOfH (nestedKind X.prog X.w) a xs := by
  obtain ⟨xs, h1, h2⟩ := h.ex
  obtain ⟨⟨o, es, ep, g1, g2, g3, g4, g5⟩, _⟩ := I.hok _ _ h1
  exact ⟨xs, h1, h2, o, es, ep, g1, g2, g3, g4, (h2.to sg).is I, g5⟩
theorem key_is {G : Hp} (sg : Same G H) (I : Inv X pins σ H s) (hd : NkOk d) (hq : Dq X.K G (.ref b) d) : (nestedKind X.prog X.w).is s.heap (nk d) b := ⟨nested_of I d _ _ (hq.to sg) rfl hd.t, hd.dep⟩
theorem n_get {G : Hp} {v : Int} {Q : Value → Shared → Prop} (hu : (nestedKind X.prog X.w).room A.in1) (h : DN X.prog X.w X.K G H a kvs) (sg : Same G H) (I : Inv X pins σ H s) (hd : NkOk d) (hq : Dq X.K G (.ref b) d) (g : getN kvs d = some v) (q : ∀ t s', Inv X pins σ H s' → Q (.int v t) s') : wpAny (model X.prog X.w) A (getItem (.ref a) (.ref b)) Q E s := by
  obtain ⟨xs, h1, h2, h3⟩ := h.raw sg I
  rcases h2.at_ (nk d) with ⟨e1, e2⟩ | ⟨p, c, u, e1, e2⟩
  · unfold getN at g
    rw [e2] at g
    cases g
  · unfold getN at g
    rw [e2] at g
    cases g
    exact wpAny_getItem_heap hu (key_is sg I hd hq) h3 e1 (q u _ (I.tok _))
theorem n_notIn {G : Hp} {Q : Value → Shared → Prop} (hu : (nestedKind X.prog X.w).room A.in1) (h : DN X.prog X.w X.K G H a kvs) (sg : Same G H) (I : Inv X pins σ H s) (hd : NkOk d) (hq : Dq X.K G (.ref b) d) (q : ∀ s', Inv X pins σ H s' → Q (.bool (!(getN kvs d).isSome)) s') : wpAny (model X.prog X.w) A (compareOp .NotIn (.ref b) (.ref a)) Q E s := by
  obtain ⟨xs, h1, h2, h3⟩ := h.raw sg I
  have e : (atKey xs (nk d)).isSome = (getN kvs d).isSome := by
    unfold getN
    rcases h2.at_ (nk d) with ⟨e1, e2⟩ | ⟨p, c, u, e1, e2⟩ <;> rw [e1, e2] <;> rfl
  show wpAny _ _ (do return .bool (!(← contains (.ref a) (.ref b)))) Q E s
  refine wpAny_bind (wpAny_contains_heap hu (key_is sg I hd hq) h.sys h3 (wpAny_pure ?_))
  rw [e]
  exact q _ (I.tok _)
theorem n_put {G : Hp} {v : Int} {t : Tok} {Q : Unit → Shared → Prop} (hu : (nestedKind X.prog X.w).room A.in1) (h : DN X.prog X.w X.K G H a kvs) (sg : Same G H) (I : Inv X pins σ H s) (hd : NkOk d) (hq : Dq X.K G (.ref b) d) (hl : (putN kvs d v).length ≤ 100000)
    (q : ∀ o s', Inv X pins σ (upd H a o) s' → DN X.prog X.w X.K G (upd H a o) a (putN kvs d v) → Q () s') : wpAny (model X.prog X.w) A (setItem (.ref a) (.ref b) (.int v t)) Q E s := by
  obtain ⟨xs, h1, h2, h3⟩ := h.raw sg I
  refine wpAny_setItem_heap (hsz := by rw [h2.len]; exact dpos h.len) hu (key_is sg I hd hq) h3 fun h' h4 h5 => ?_
  obtain ⟨o, es, ep, g1, g2, g3, g4, g5, g6⟩ := h4
  exact q (.ext (DnRaw X.prog X.w a (storedH xs (nk d) b (.int v t)))) _ (d_write I (by rw [h1]; exact True.intro) h5 ⟨o, g1⟩ ⟨⟨o, es, ep, g1, g2, g3, g4, g6⟩, ⟨o, g1⟩, fun a1 a2 ⟨o', es', ep', k1, k2⟩ k => ⟨o', es', ep', k _ k1, k2⟩⟩) ⟨⟨_, upd_same, h2.put hd hq⟩, h.sys, hl, h.n⟩
end
end DL

/-! N2: code with such a dict in slot 4 and a growing list in slot 7. -/
namespace DL
open PySem PySem.Spec PyProof.Rows L2

structure NSt where
  ρ : Rp
  kv : List (D × Int)
  ol : Option (List D)
def OLok (K : PySem.W.Frag) (H0 G H : Hp) (σ : L2.St) : Option (List D) → Prop
  | none => True
  | some ls => ∃ La vs, σ[7]? = some (some (.ref La)) ∧ H La = some (.lst vs) ∧ DqAll K G vs ls ∧ G La = none ∧ H0 La = none
structure NAt (P : Program) (w : World) (K : PySem.W.Frag) (G0 H0 G H : Hp) (σ : L2.St) (st : NSt) : Prop where
  b : Stp G0 H0 G H
  e : EnvP K G σ st.ρ
  d : ∃ Da, σ[4]? = some (some (.ref Da)) ∧ DN P w K G H Da st.kv ∧ H0 Da = none
  l : OLok K H0 G H σ st.ol
section
variable {P : Program} {w : World} {K : PySem.W.Frag} {G0 H0 G H G' H' : Hp} {σ : L2.St} {st : NSt}
theorem NAt.at_ (a : NAt P w K G0 H0 G H σ st) : At K G H σ st.ρ := ⟨a.b.gh, a.e⟩
theorem OLok.stp {ol : Option (List D)} (h : OLok K H0 G H σ ol) (s : Stp G H G' H') : OLok K H0 G' H' σ ol := by
  cases ol with
  | none => trivial
  | some ls =>
    obtain ⟨La, vs, h1, h2, h3, h4, h5⟩ := h
    exact ⟨La, vs, h1, s.h _ _ h2, h3.to s.g, s.nw _ _ h2 h4, h5⟩
theorem NAt.stp (a : NAt P w K G0 H0 G H σ st) (s : Stp G H G' H') : NAt P w K G0 H0 G' H' σ st :=
  ⟨a.b.trans s, a.e.to s.g, let ⟨Da, h1, h2, h3⟩ := a.d; ⟨Da, h1, h2.stp s, h3⟩, a.l.stp s⟩
theorem NAt.set {v : V} {d : D} (a : NAt P w K G0 H0 G H σ st) {i : Nat} (h4 : i ≠ 4) (h7 : i ≠ 7) (h : Dq K G v d) : NAt P w K G0 H0 G H (σ.set i (some v)) { st with ρ := st.ρ.set i (some d) } := by
  refine ⟨a.b, a.e.set i h, ?_, ?_⟩
  · obtain ⟨Da, h1, h2, h3⟩ := a.d
    exact ⟨Da, by rw [List.getElem?_set_ne h4]; exact h1, h2, h3⟩
  · have := a.l
    obtain ⟨ρ, kv, ol⟩ := st
    cases ol with
    | none => trivial
    | some ls =>
      obtain ⟨La, vs, h1, h2, h3⟩ := this
      exact ⟨La, vs, by rw [List.getElem?_set_ne h7]; exact h1, h2, h3⟩
end
/-! expressions that read the dict -/
def NPost (K : PySem.W.Frag) (G H : Hp) (d : D) (Q : VK) : Prop := ∀ v G' H', Stp G H G' H' → Dq K G' v d → Q v H'
def tN (P : Program) (w : World) (K : PySem.W.Frag) (f : NSt → Option D) : TE := fun σ H Q => ∃ G0 H0 G st d, NAt P w K G0 H0 G H σ st ∧ f st = some d ∧ Post K G H d Q
def tNT (P : Program) (w : World) (K : PySem.W.Frag) (f : NSt → Option Bool) : TT := fun σ H Q => ∃ G0 H0 G st b, NAt P w K G0 H0 G H σ st ∧ f st = some b ∧ ∀ G' H', Stp G H G' H' → Q b H'
abbrev EN (X : Cx) (e : Expr) (f : NSt → Option D) : Prop := PE X e (tN X.prog X.w X.K f)
abbrev TN (X : Cx) (e : Expr) (f : NSt → Option Bool) : Prop := PT X e (tNT X.prog X.w X.K f)
abbrev WN (X : Cx) (e : Expr) (f : NSt → Option Bool) : Prop := PW X e (tNT X.prog X.w X.K f)
def nP {α : Type} (f : Rp → Option α) : NSt → Option α := fun st => f st.ρ
def n2 (g : D → D → Option D) (fa fb : NSt → Option D) : NSt → Option D := fun st => (fa st).bind fun x => (fb st).bind fun y => g x y
def nB (f : NSt → Option D) : NSt → Option Bool := fun st => (f st).bind asB
def nkB (d : D) : Bool := nkT d && (isTup d && decide ((nk d).depth ≤ 8))
theorem nkB_ok {d : D} (h : nkB d = true) : NkOk d := by
  unfold nkB at h
  simp only [Bool.and_eq_true, decide_eq_true_eq] at h
  exact ⟨h.1, h.2.1, h.2.2⟩
def nGet (f : Rp → Option D) : NSt → Option D := fun st => (f st.ρ).bind fun d => if nkB d = true then (getN st.kv d).map .int else none
def nNot (f : Rp → Option D) : NSt → Option Bool := fun st => (f st.ρ).bind fun d => if nkB d = true then some (!(getN st.kv d).isSome) else none
section
variable {X : Cx} {a b e o i : Expr} {pos : Pos}
theorem en_D {f : Rp → Option D} (h : DE X e f) : EN X e (nP f) := h.imp fun σ H Q ⟨G0, H0, G, st, d, at_, e1, p⟩ => ⟨G, st.ρ, d, at_.at_, e1, p⟩
theorem tn_D {f : Rp → Option Bool} (h : DT X e f) : TN X e (nP f) := h.imp fun σ H Q ⟨G0, H0, G, st, d, at_, e1, p⟩ => ⟨G, st.ρ, d, at_.at_, e1, p⟩
theorem tOp_N {P : Program} {w : World} {K : PySem.W.Frag} {r : R2} {g : D → D → Option D} {fa fb : NSt → Option D} (hr : R2D K r g) : ∀ σ H Q, tN P w K (n2 g fa fb) σ H Q → tOp r (tN P w K fa) (tN P w K fb) σ H Q := fun σ H Q ⟨G0, H0, G, st, d, at_, e, p⟩ => by
  unfold n2 at e
  obtain ⟨x, e1, e⟩ := Option.bind_eq_some_iff.mp e
  obtain ⟨y, e2, e⟩ := Option.bind_eq_some_iff.mp e
  refine ⟨G0, H0, G, st, x, at_, e1, fun v G1 H1 s1 h1 => ?_⟩
  refine ⟨G0, H0, G1, st, y, at_.stp s1, e2, fun u G2 H2 s2 h2 => ?_⟩
  exact hr v u G2 H2 x y d s2.gh (h1.to s2.g) h2 e Q (p.stp (s1.trans s2))
theorem en_op {op : Operator} {r : R2} {g : D → D → Option D} {fa fb : NSt → Option D} (hr : R2D X.K r g) (ho : OpR X (binaryOp op) r) (ha : EN X a fa) (hb : EN X b fb) : EN X (.BinOp a op b pos) (n2 g fa fb) := (pe_op ho ha hb).imp (tOp_N hr)
theorem tTest_N {P : Program} {w : World} {K : PySem.W.Frag} {t : TE} {f : NSt → Option D} (h : ∀ σ H Q, tN P w K f σ H Q → t σ H Q) : ∀ σ H Q, tNT P w K (nB f) σ H Q → t σ H fun x H' => ∃ k, x = .bl k ∧ Q k H' := fun σ H Q ⟨G0, H0, G, st, b, at_, e, p⟩ => by
  unfold nB at e
  obtain ⟨d, e1, e⟩ := Option.bind_eq_some_iff.mp e
  refine h σ H _ ⟨G0, H0, G, st, d, at_, e1, fun v G1 H1 s1 h1 => ?_⟩
  have := asB_some e
  subst this
  cases h1
  exact ⟨b, rfl, p G1 H1 s1⟩
theorem tn_cmp {op : CmpOp} {r : R2} {g : D → D → Option D} {fa fb : NSt → Option D} (hr : R2D X.K r g) (ho : OpR X (compareOp op) r) (ha : EN X a fa) (hb : EN X b fb) (hm : behindInMarks op b = false := by rfl) : TN X (.Compare a [op] [b] pos) (nB (n2 g fa fb)) :=
  (pt_cmpR ho ha hb hm).imp (tTest_N (tOp_N hr))
def nOr (p q : NSt → Option Bool) : NSt → Option Bool := fun st => (p st).bind fun c => if c = true then some true else q st
theorem wn_or1 {p : NSt → Option Bool} (ha : TN X a p) : WN X (.BoolOp .Or [a] pos) p := pw_or1 ha
theorem wn_or {p q : NSt → Option Bool} {rest : List Expr} (ha : TN X a p) (hb : WN X (.BoolOp .Or (b :: rest) pos) q) : WN X (.BoolOp .Or (a :: b :: rest) pos) (nOr p q) := (pw_or ha hb).imp fun σ H Q ⟨G0, H0, G, st, d, at_, e, w⟩ => by
  unfold nOr at e
  obtain ⟨c, e1, e⟩ := Option.bind_eq_some_iff.mp e
  refine ⟨G0, H0, G, st, c, at_, e1, fun G1 H1 s1 => ?_⟩
  cases c with
  | true =>
    cases e
    exact iteT (w G1 H1 s1)
  | false => exact iteF ⟨G0, H0, G1, st, d, at_.stp s1, e, fun G2 H2 s2 => w G2 H2 (s1.trans s2)⟩
theorem tup_ref {K : PySem.W.Frag} {G : Hp} {v : V} {d : D} (h : Dq K G v d) (t : isTup d = true) : ∃ b, v = .ref b := by
  cases h <;> first | (cases t; done) | exact ⟨_, rfl⟩
/-- found[e] -/
theorem en_get {f : Rp → Option D} (hu : (nestedKind X.prog X.w).room X.A.in1) (ho : PE X o (tVar 4)) (hi : DE X i f) (hs : NoSl i) : EN X (.Subscript o i pos) (nGet f) := by
  refine ⟨fun pins s σ H Q I ⟨G0, H0, G, st, d, at_, e, p⟩ => ?_⟩
  unfold nGet at e
  obtain ⟨k, e1, e⟩ := Option.bind_eq_some_iff.mp e
  have c : nkB k = true := by
    cases hh : nkB k with
    | true => rfl
    | false =>
      rw [hh] at e
      cases e
  rw [if_pos c] at e
  obtain ⟨Da, h1, h2, h3⟩ := at_.d
  refine subD_of PySem.F.slot_dict_getitem.lookup hs (thn (ho.run pins s σ H (fun v H1 => v = .ref Da ∧ H1 = H) I ⟨_, h1, rfl, rfl⟩) fun u s1 ⟨x, H1, I1, rx, q1⟩ => ?_)
  obtain ⟨rfl, rfl⟩ := q1
  obtain rfl : u = Value.ref Da := rx
  refine thn (hi.run pins s1 σ H1 (fun v H2 => ∃ G2, Stp G H1 G2 H2 ∧ Dq X.K G2 v k) I1 ⟨G, st.ρ, k, at_.at_, e1, fun v G2 H2 s2 hq => ⟨G2, s2, hq⟩⟩) fun iv s2 ⟨y, H2, I2, ry, G2, st2, hq⟩ => ?_
  have ok := nkB_ok c
  obtain ⟨b, rfl⟩ := tup_ref hq ok.tup
  obtain rfl : iv = Value.ref b := ry
  obtain ⟨z, hz, rfl⟩ := Option.map_eq_some_iff.mp e
  have h2' := h2.stp st2
  obtain ⟨xs, k1, k2, k3⟩ := h2'.raw st2.gh I2
  exact ⟨k3.typeIs, n_get hu h2' st2.gh I2 ok hq hz fun t s3 I3 => ⟨.int z, H2, I3, ⟨t, rfl⟩, p _ G2 H2 st2 (.int z)⟩⟩
theorem pc_nnot {f : Rp → Option D} (hu : (nestedKind X.prog X.w).room X.A.in1) (hi : DE X i f) (ho : PE X o (tVar 4)) : PC X .NotIn i o (fun σ H Q => tNT X.prog X.w X.K (nNot f) σ H fun b H1 => Q (.bl b) H1) := by
  refine ⟨fun pins s σ H Q I ⟨G0, H0, G, st, d, at_, e, p⟩ => ?_⟩
  unfold nNot at e
  obtain ⟨k, e1, e⟩ := Option.bind_eq_some_iff.mp e
  obtain ⟨c, rfl⟩ := if_some e
  obtain ⟨Da, h1, h2, h3⟩ := at_.d
  refine thn (hi.run pins s σ H (fun v H2 => ∃ G2, Stp G H G2 H2 ∧ Dq X.K G2 v k) I ⟨G, st.ρ, k, at_.at_, e1, fun v G2 H2 s2 hq => ⟨G2, s2, hq⟩⟩) fun iv s1 ⟨y, H1, I1, ry, G2, st2, hq⟩ => ?_
  refine thn (ho.run pins s1 σ H1 (fun v H2 => v = .ref Da ∧ H2 = H1) I1 ⟨_, h1, rfl, rfl⟩) fun u s2 ⟨x, H2, I2, rx, q1⟩ => ?_
  obtain ⟨rfl, rfl⟩ := q1
  obtain rfl : u = Value.ref Da := rx
  have ok := nkB_ok c
  obtain ⟨b, rfl⟩ := tup_ref hq ok.tup
  obtain rfl : iv = Value.ref b := ry
  exact n_notIn hu (h2.stp st2) st2.gh I2 ok hq fun s3 I3 => ⟨.bl _, H2, I3, rfl, p G2 H2 st2⟩
end
end DL

/-! N3: statements of code with such a dict. -/
namespace DL
open PySem PySem.Spec PyProof.Rows L2

inductive NOut | nx (st : NSt) | bk (st : NSt) | ct (st : NSt) | rt (d : D)
def NFin (P : Program) (w : World) (K : PySem.W.Frag) (G0 H0 : Hp) (E : Ends) : NOut → Prop
  | .nx st => ∀ σ G H, NAt P w K G0 H0 G H σ st → E.nx σ H
  | .bk st => ∀ σ G H, NAt P w K G0 H0 G H σ st → E.bk σ H
  | .ct st => ∀ σ G H, NAt P w K G0 H0 G H σ st → E.ct σ H
  | .rt d => ∀ v G H, Stp G0 H0 G H → Dq K G v d → E.rt v H
def tNS (P : Program) (w : World) (K : PySem.W.Frag) (g : NSt → Option NOut) : TS := fun E σ H => ∃ G0 H0 G st o, NAt P w K G0 H0 G H σ st ∧ g st = some o ∧ NFin P w K G0 H0 E o
abbrev NS (X : Cx) (st : Stmt) (g : NSt → Option NOut) : Prop := PS X st (tNS X.prog X.w X.K g)
abbrev NSs (X : Cx) (st : List Stmt) (g : NSt → Option NOut) : Prop := PSs X st (tNS X.prog X.w X.K g)
def mNext : NSt → Option NOut := fun st => some (.nx st)
def mThen (o : Option NOut) (g : NSt → Option NOut) : Option NOut := match o with
  | some (.nx st) => g st
  | o => o
def mSeq (f g : NSt → Option NOut) : NSt → Option NOut := fun st => mThen (f st) g
def mSet (i : Nat) (f : NSt → Option D) : NSt → Option NOut := fun st => (f st).map fun d => .nx { st with ρ := st.ρ.set i (some d) }
def mRet (f : NSt → Option D) : NSt → Option NOut := fun st => (f st).map .rt
def mIf (c : NSt → Option Bool) (f g : NSt → Option NOut) : NSt → Option NOut := fun st => (c st).bind fun b => if b = true then f st else g st
def mPar (i j : Nat) (f g : NSt → Option D) : NSt → Option NOut := fun st => (f st).bind fun x => (g st).map fun y => .nx { st with ρ := (st.ρ.set i (some x)).set j (some y) }
section
variable {X : Cx} {st : Stmt} {sts : List Stmt} {f g : NSt → Option NOut} {e c : Expr} {fe : NSt → Option D} {pos : Pos}
theorem nss_nil : NSs X [] mNext := (pss_nil (X := X)).imp fun E σ H ⟨G0, H0, G, s, o, v, e, q⟩ => by
  cases e
  exact q σ G H v
theorem nss_cons (h1 : NS X st f) (h2 : NSs X sts g) : NSs X (st :: sts) (mSeq f g) := (pss_cons h1 h2).imp fun E σ H ⟨G0, H0, G, s, o, v, e, q⟩ => by
  unfold mSeq mThen at e
  split at e
  · rename_i s1 e1
    exact ⟨G0, H0, G, s, .nx s1, v, e1, fun σ' G' H' v' => ⟨G0, H0, G', s1, o, v', e, q⟩⟩
  · rename_i hn
    refine ⟨G0, H0, G, s, o, v, e, ?_⟩
    cases o with
    | nx s1 => exact absurd e (hn s1)
    | rt d => exact q
    | bk s1 => exact q
    | ct s1 => exact q
theorem nss_one (h1 : NS X st f) : NSs X [st] f := pss_one h1
theorem ns_break : NS X (.Break pos) (fun s => some (.bk s)) := (ps_break (X := X)).imp fun E σ H ⟨G0, H0, G, s, o, v, e, q⟩ => by
  cases e
  exact q σ G H v
theorem ns_continue : NS X (.Continue pos) (fun s => some (.ct s)) := (ps_continue (X := X)).imp fun E σ H ⟨G0, H0, G, s, o, v, e, q⟩ => by
  cases e
  exact q σ G H v
theorem tAsg_N {P : Program} {w : World} {K : PySem.W.Frag} {i : Nat} (h4 : i ≠ 4) (h7 : i ≠ 7) {t : TE} (h : ∀ σ H Q, tN P w K fe σ H Q → t σ H Q) : ∀ E σ H, tNS P w K (mSet i fe) E σ H → tAsg t (gName i) E σ H := fun E σ H ⟨G0, H0, G, s, o, v, e, q⟩ => by
  unfold mSet at e
  obtain ⟨d, e1, rfl⟩ := Option.map_eq_some_iff.mp e
  exact h σ H _ ⟨G0, H0, G, s, d, v, e1, fun w G1 H1 s1 h1 => q _ G1 H1 ((v.stp s1).set h4 h7 h1)⟩
theorem ns_set {i : Nat} (h4 : i ≠ 4) (h7 : i ≠ 7) {x : Str} {pos' : Pos} (hN : X.N.Nodup) (hi : X.N[i]? = some x) (hx : Loc X.env.scope x) (he : EN X e fe) (hs : swapsWith e (some (.Name x pos')) pos.line X.env = pure false := by rfl) (hf : X.fn x = true ∨ X.env.scope.names.lookup x = some .local := by first | exact .inl rfl | exact .inr rfl | assumption) :
    NS X (.Assign [.Name x pos'] e pos) (mSet i fe) := (ps_set hN hi hx he hs hf).imp (tAsg_N h4 h7 fun _ _ _ z => z)
theorem ns_ret (he : EN X e fe) : NS X (.Return (some e) pos) (mRet fe) := (ps_ret he).imp fun E σ H ⟨G0, H0, G, s, o, v, e, q⟩ => by
  unfold mRet at e
  obtain ⟨d, e1, rfl⟩ := Option.map_eq_some_iff.mp e
  exact ⟨G0, H0, G, s, d, v, e1, fun w G1 H1 s1 h1 => q w G1 H1 (v.b.trans s1) h1⟩
theorem ns_if {a b : List Stmt} {fc : NSt → Option Bool} (hc : TN X c fc) (ha : NSs X a f) (hb : NSs X b g) : NS X (.If c a b pos) (mIf fc f g) := (ps_if hc ha hb).imp fun E σ H ⟨G0, H0, G, s, o, v, e, q⟩ => by
  unfold mIf at e
  obtain ⟨k, e1, e⟩ := Option.bind_eq_some_iff.mp e
  refine ⟨G0, H0, G, s, k, v, e1, fun G1 H1 s1 => ?_⟩
  cases k with
  | true => exact iteT ⟨G0, H0, G1, s, o, v.stp s1, e, q⟩
  | false => exact iteF ⟨G0, H0, G1, s, o, v.stp s1, e, q⟩
theorem ns_par {i j : Nat} (hi4 : i ≠ 4) (hi7 : i ≠ 7) (hj4 : j ≠ 4) (hj7 : j ≠ 7) {x y : Str} {a b : Expr} {fa fb : NSt → Option D} {px py pt : Pos} {kt k2 pt2} (hc : X.calm = true) (hN : X.N.Nodup) (hi : X.N[i]? = some x) (hj : X.N[j]? = some y) (hij : i ≠ j)
    (hx : X.env.scope.names.lookup x = some .local) (hy : X.env.scope.names.lookup y = some .local) (ha : EN X a fa) (hb : EN X b fb)
    (hw : swappedStores [.Tuple [.Name x px, .Name y py] kt pt] (.Tuple [a, b] k2 pt2) X.env = pure (some [x, y]) := by rfl)
    (hs : swapsWithSole [.Tuple [.Name x px, .Name y py] kt pt] (.Tuple [a, b] k2 pt2) pos.line X.env = pure false := by rfl)
    (s1 : starEach [a, b] X.env = (false, eval a X.env) :: starEach [b] X.env := by rfl) (s2 : starEach [b] X.env = (false, eval b X.env) :: starEach [] X.env := by rfl) :
    NS X (.Assign [.Tuple [.Name x px, .Name y py] kt pt] (.Tuple [a, b] k2 pt2) pos) (mPar i j fa fb) := (ps_par hc hN hi hj hij hx hy (pa_cons ha (pa_cons hb pa_nil s2) s1) hw hs).imp fun E σ H ⟨G0, H0, G, s, o, v, e, q⟩ => by
  unfold mPar at e
  obtain ⟨d1, e1, e⟩ := Option.bind_eq_some_iff.mp e
  obtain ⟨d2, e2, rfl⟩ := Option.map_eq_some_iff.mp e
  refine ⟨G0, H0, G, s, d1, v, e1, fun w1 G1 H1 s1 h1 => ?_⟩
  refine ⟨G0, H0, G1, s, d2, v.stp s1, e2, fun w2 G2 H2 s2 h2 => ?_⟩
  exact ⟨w1, w2, rfl, q _ G2 H2 ((((v.stp s1).stp s2).set hi4 hi7 (h1.to s2.g)).set hj4 hj7 h2)⟩
/-! the growing list in slot 7 -/
def mNew : NSt → Option NOut := fun st => match st.ρ[7]? with
  | some none => some (.nx { st with ol := some [] })
  | _ => none
theorem EnvP.hide {K : PySem.W.Frag} {G : Hp} {σ : L2.St} {ρ : Rp} (h : EnvP K G σ ρ) {i : Nat} (hn : ρ[i]? = some none) (u : Option V) : EnvP K G (σ.set i u) ρ := by
  refine ⟨by rw [List.length_set]; exact h.len, fun j d q => ?_⟩
  have hj : i ≠ j := fun z => by
    subst z
    rw [hn] at q
    cases q
  rw [List.getElem?_set_ne hj]
  exact h.at_ j d q
theorem ns_new {x : Str} {pos' p2 : Pos} (hN : X.N.Nodup) (hi : X.N[7]? = some x) (hx : Loc X.env.scope x) (hs : swapsWith (.List [] p2) (some (.Name x pos')) pos.line X.env = pure false := by rfl) (hf : X.fn x = true ∨ X.env.scope.names.lookup x = some .local := by first | exact .inl rfl | exact .inr rfl | assumption) :
    NS X (.Assign [.Name x pos'] (.List [] p2) pos) mNew := (ps_set (i := 7) hN hi hx (pe_lst pa_nil) hs hf).imp fun E σ H ⟨G0, H0, G, s, o, v, e, q⟩ => by
  have hn : s.ρ[7]? = some none ∧ o = .nx { s with ol := some [] } := by
    unfold mNew at e
    split at e
    · rename_i h
      exact ⟨h, (Option.some.inj e).symm⟩
    · cases e
  obtain ⟨hn, rfl⟩ := hn
  refine ⟨dpos (by simp), fun p hp => ?_⟩
  have s1 : Stp G H G (upd H p (.lst [])) := .newH v.b.gh hp
  have v1 := v.stp s1
  have hlt : 7 < σ.length := by
    rw [v.e.len]
    exact (List.getElem?_eq_some_iff.mp hn).1
  refine q _ G _ ⟨v1.b, v1.e.hide hn _, ?_, p, [], ?_, upd_same, .nil, v.b.gh.free hp, v.b.h.free hp⟩
  · obtain ⟨Da, h1, h2, h3⟩ := v1.d
    exact ⟨Da, by rw [List.getElem?_set_ne (by decide)]; exact h1, h2, h3⟩
  · rw [List.getElem?_set_self hlt]
def mApp (f : Rp → Option D) : NSt → Option NOut := fun st => match st.ol with
  | some ls => (f st.ρ).bind fun d => if ls.length < 100000 then some (.nx { st with ol := some (ls ++ [d]) }) else none
  | none => none
theorem ns_app {x : Str} {px apos cpos : Pos} {fe : Rp → Option D} (hN : X.N[7]? = some x := by rfl) (hv : Vis X.env.scope x := by first | exact Or.inl rfl | exact Or.inr (Or.inl rfl) | exact Or.inr (Or.inr rfl)) (he : DE X e fe) (hd : (x == ("__debug__" : Str)) = false := by decide) (hcd : (x == ("__classdict__" : Str)) = false := by decide)
    (hbase : attributeBase (.Name x px) "append" X.env (eval (.Name x px) X.env) = eval (.Name x px) X.env := by rfl) (hline : (apos.endLine == cpos.line) = true := by rfl)
    (hfew : ((backTo cpos (starEach [e] X.env)).all (fun x => !x.1) && (backToKw cpos (keywordEach [] X.env)).all (fun x => x.1.isSome) && decide ([e].length + ([] : List Keyword).length + (if ([] : List Keyword).isEmpty then 0 else 1) < 30)) = true := by rfl)
    (hst : starEach [e] X.env = [(false, eval e X.env)] := by rfl) (hplain : (backTo cpos (starEach [] X.env)).any (·.1) = false := by rfl) (hsw : swapsWith (.Call (.Attribute (.Name x px) "append" apos) [e] [] cpos) none pos.line X.env = pure false := by rfl) :
    NS X (.Expr (.Call (.Attribute (.Name x px) "append" apos) [e] [] cpos) pos) (mApp fe) := by
  refine (ps_expr (pe_bm PySem.F.plainAttrs_list PySem.F.slot_list_append PySem.F.type_list_append mt_append (pe_var (i := 7) hN hv hd hcd) (pa_cons he pa_nil hst) hbase hfew hline hst hplain) hsw).imp fun E σ H ⟨G0, H0, G, ⟨ρ, kv, ol⟩, o, v, e, q⟩ => ?_
  unfold mApp at e
  cases ol with
  | none => cases e
  | some ls =>
    obtain ⟨d, e1, e⟩ := Option.bind_eq_some_iff.mp (show (fe ρ).bind _ = some o from e)
    obtain ⟨hl, rfl⟩ := if_some e
    obtain ⟨La, vs, l1, l2, l3, l4, l5⟩ := v.l
    refine ⟨.ref La, l1, .inl ⟨rfl, _, SqL.of l2⟩, G, _, d, v.at_, e1, fun w G1 H1 s1 h1 => ?_⟩
    have v1 := v.stp s1
    have l2' := s1.h _ _ l2
    have l4' := s1.nw _ _ l2 l4
    refine ⟨La, vs, w, rfl, rfl, l2', Nat.lt_of_lt_of_le (by rw [l3.length]; exact hl) (by decide), ?_⟩
    have hne : ∀ b o, G1 b = some o → b ≠ La := fun b o e z => by
      subst z
      rw [l4'] at e
      cases e
    refine q _ G1 _ ⟨⟨v1.b.g, fun b o e => ?_, fun b o e => ?_, v1.b.nw⟩, v1.e, ?_, La, vs ++ [w], l1, upd_same, (l3.to s1.g).append (.cons h1 .nil), l4', l5⟩
    · rw [upd_ne (fun z => by subst z; rw [l5] at e; cases e)]
      exact v1.b.h _ _ e
    · rw [upd_ne (hne b o e)]
      exact v1.b.gh _ _ e
    · obtain ⟨Da, h1, ⟨⟨xs, k1, k2⟩, k3, k4, k5⟩, h3⟩ := v1.d
      refine ⟨Da, h1, ⟨⟨xs, ?_, k2⟩, k3, k4, k5⟩, h3⟩
      rw [upd_ne (fun z => by subst z; rw [l2'] at k1; cases k1)]
      exact k1
/-- row = later: the list is a value from here on -/
def mFrz (i : Nat) : NSt → Option NOut := fun st => match st.ol with
  | some ls => some (.nx ⟨st.ρ.set i (some (.list ls)), st.kv, none⟩)
  | none => none
theorem ns_frz {i : Nat} (h4 : i ≠ 4) (h7 : i ≠ 7) {x : Str} {pos' : Pos} (hN : X.N.Nodup) (hi : X.N[i]? = some x) (hx : Loc X.env.scope x) (he : PE X e (tVar 7)) (hs : swapsWith e (some (.Name x pos')) pos.line X.env = pure false := by rfl) (hf : X.fn x = true ∨ X.env.scope.names.lookup x = some .local := by first | exact .inl rfl | exact .inr rfl | assumption) :
    NS X (.Assign [.Name x pos'] e pos) (mFrz i) := (ps_set hN hi hx he hs hf).imp fun E σ H ⟨G0, H0, G, ⟨ρ, kv, ol⟩, o, v, e, q⟩ => by
  unfold mFrz at e
  cases ol with
  | none => cases e
  | some ls =>
    cases e
    obtain ⟨La, vs, l1, l2, l3, l4, l5⟩ := v.l
    refine ⟨.ref La, l1, ?_⟩
    have sg : Same G (upd G La (.lst vs)) := same_upd l4
    obtain ⟨Da, h1, ⟨⟨xs, k1, k2⟩, k3, k4, k5⟩, h3⟩ := v.d
    have hne : Da ≠ La := fun z => by
      subst z
      rw [l2] at k1
      cases k1
    refine q _ (upd G La (.lst vs)) H ⟨⟨v.b.g.trans sg, v.b.h, fun b o e => ?_, fun b o e1 e2 => ?_⟩, (v.e.to sg).set i (.lst upd_same (l3.to sg)), ⟨Da, ?_, ⟨⟨xs, k1, k2.to sg⟩, k3, k4, ?_⟩, h3⟩, trivial⟩
    · by_cases hb : b = La
      · subst hb
        rw [upd_same] at e
        rw [l2]
        exact e
      · rw [upd_ne hb] at e
        exact v.b.gh _ _ e
    · rw [upd_ne (fun z => by subst z; rw [l5] at e1; cases e1)]
      exact v.b.nw _ _ e1 e2
    · rw [List.getElem?_set_ne h4]
      exact h1
    · rw [upd_ne hne]
      exact k5
/-! found[k] = v -/
def mPut (fk fv : Rp → Option D) : NSt → Option NOut := fun st => (fv st.ρ).bind fun y => (fk st.ρ).bind fun d => match y with
  | .int i => if nkB d = true ∧ (putN st.kv d i).length ≤ 100000 then some (.nx { st with kv := putN st.kv d i }) else none
  | _ => none
theorem ns_put {oe ie ve : Expr} {pos' : Pos} {fk fv : Rp → Option D} (hu : (nestedKind X.prog X.w).room X.A.in1) (ho : PE X oe (tVar 4)) (hi : DE X ie fk) (hv : DE X ve fv) (hs : swapsWith ve (some (.Subscript oe ie pos')) pos.line X.env = pure false := by rfl) :
    NS X (.Assign [.Subscript oe ie pos'] ve pos) (mPut fk fv) := by
  refine ⟨fun pins s σ H E I ⟨G0, H0, G, st, o, at_, e, q⟩ => ?_⟩
  unfold mPut at e
  obtain ⟨y, e1, e⟩ := Option.bind_eq_some_iff.mp e
  obtain ⟨d, e2, e⟩ := Option.bind_eq_some_iff.mp e
  cases y with
  | int i =>
    obtain ⟨⟨c1, c2⟩, rfl⟩ := if_some e
    obtain ⟨Da, h1, h2, h3⟩ := at_.d
    refine wpAny_Assign_Subscript (thn (hv.run pins s σ H (fun v H1 => ∃ G1, Stp G H G1 H1 ∧ v = .int i) I ⟨G, st.ρ, _, at_.at_, e1, fun v G1 H1 s1 hq => ⟨G1, s1, by cases hq; rfl⟩⟩) fun u s1 ⟨x, H1, I1, rx, G1, st1, ex⟩ => ?_) hs
    subst ex
    obtain ⟨t, rfl⟩ := rx
    have at1 := at_.stp st1
    refine thn (ho.run pins s1 σ H1 (fun v H2 => v = .ref Da ∧ H2 = H1) I1 ⟨_, h1, rfl, rfl⟩) fun u s2 ⟨x, H2, I2, rx, q1⟩ => ?_
    obtain ⟨rfl, rfl⟩ := q1
    obtain rfl : u = Value.ref Da := rx
    refine thn (hi.run pins s2 σ H2 (fun v H3 => ∃ G2, Stp G1 H2 G2 H3 ∧ Dq X.K G2 v d) I2 ⟨G1, st.ρ, d, at1.at_, e2, fun v G2 H3 s2 hq => ⟨G2, s2, hq⟩⟩) fun iv s3 ⟨y, H3, I3, ry, G2, st2, hq⟩ => ?_
    have ok := nkB_ok c1
    obtain ⟨b, rfl⟩ := tup_ref hq ok.tup
    obtain rfl : iv = Value.ref b := ry
    have at2 := at1.stp st2
    have d2 := (h2.stp st1).stp st2
    refine n_put hu d2 st2.gh I3 ok hq c2 fun ob s4 I4 hD => ⟨σ, _, I4, ?_⟩
    have hDn : G2 Da = none := d2.n
    refine q σ G2 _ ⟨⟨at2.b.g, fun c o e => ?_, fun c o e => ?_, at2.b.nw⟩, at2.e, ⟨Da, h1, hD, h3⟩, ?_⟩
    · rw [upd_ne (fun z => by subst z; rw [h3] at e; cases e)]
      exact at2.b.h _ _ e
    · rw [upd_ne (fun z => by subst z; rw [hDn] at e; cases e)]
      exact at2.b.gh _ _ e
    · have hl := at2.l
      obtain ⟨ρ, kv, ol⟩ := st
      cases ol with
      | none => trivial
      | some ls =>
        obtain ⟨La, vs, l1, l2, l3, l4, l5⟩ := hl
        obtain ⟨xs, k1, _⟩ := d2.ex
        exact ⟨La, vs, l1, by rw [upd_ne (fun z => by subst z; rw [l2] at k1; cases k1)]; exact l2, l3, l4, l5⟩
  | none => cases e
  | bool _ => cases e
  | str _ => cases e
  | list _ => cases e
  | tuple _ => cases e
  | dict _ => cases e
/-! for -/
def mLoop (o : Option NOut) (k : NSt → Option NOut) : Option NOut := match o with
  | some (.nx st) => k st
  | some (.ct st) => k st
  | some (.bk st) => some (.nx st)
  | o => o
def forN (i : Nat) (body : NSt → Option NOut) : List D → NSt → Option NOut
  | [], st => some (.nx st)
  | d :: ds, st => mLoop (body { st with ρ := st.ρ.set i (some d) }) (forN i body ds)
def mFor (it : Rp → Option (List D)) (i : Nat) (body : NSt → Option NOut) : NSt → Option NOut := fun st => (it st.ρ).bind fun ds => forN i body ds st
theorem mloop_some {o : Option NOut} {k : NSt → Option NOut} {r : NOut} (e : mLoop o k = some r) : ∃ o1, o = some o1 := by
  cases o with
  | none => cases e
  | some o1 => exact ⟨o1, rfl⟩
theorem mloop_fin {P : Program} {w : World} {K : PySem.W.Frag} {G0 H0 : Hp} {E : Ends} {o o1 : NOut} {k : NSt → Option NOut} {N : L2.St → Hp → Prop} (e : mLoop (some o1) k = some o) (q : NFin P w K G0 H0 E o) (hN : ∀ σ G H st, NAt P w K G0 H0 G H σ st → k st = some o → N σ H) : NFin P w K G0 H0 { E with nx := N, ct := N, bk := E.nx } o1 := by
  cases o1 with
  | nx st => exact fun σ G H v => hN σ G H st v e
  | ct st => exact fun σ G H v => hN σ G H st v e
  | bk st =>
    cases e
    exact q
  | rt d =>
    cases e
    exact q
theorem NAt.base {P : Program} {w : World} {K : PySem.W.Frag} {G0 H0 G1 H1 G H : Hp} {σ : L2.St} {st : NSt} (s : Stp G0 H0 G1 H1) (a : NAt P w K G1 H0 G H σ st) : NAt P w K G0 H0 G H σ st := ⟨s.base a.b, a.e, a.d, a.l⟩
theorem NAt.rise {P : Program} {w : World} {K : PySem.W.Frag} {G0 H0 G H : Hp} {σ : L2.St} {st : NSt} (a : NAt P w K G0 H0 G H σ st) : NAt P w K G H0 G H σ st := ⟨⟨Same.refl _, a.b.h, a.b.gh, fun _ _ _ n => n⟩, a.e, a.d, a.l⟩
theorem NFin.rise {P : Program} {w : World} {K : PySem.W.Frag} {G0 H0 G1 H1 : Hp} {E : Ends} {o : NOut} (s : Stp G0 H0 G1 H1) (q : NFin P w K G0 H0 E o) : NFin P w K G1 H0 E o := by
  cases o with
  | nx st => exact fun σ G H v => q σ G H (v.base s)
  | bk st => exact fun σ G H v => q σ G H (v.base s)
  | ct st => exact fun σ G H v => q σ G H (v.base s)
  | rt d => exact fun w G H t h => q w G H (s.base t) h
theorem ns_for {tg iter : Expr} {body : List Stmt} {it : Rp → Option (List D)} {gt : TG} {i : Nat} (h4 : i ≠ 4) (h7 : i ≠ 7) (hp : PassesOwn (model X.prog X.w) X.A X.env X.xe) (hc : X.calm = true) (hi : DI X tg iter it) (tk : TgtOk X.K gt (.one i)) (hg : PG X tg gt) (hb : NSs X body f)
    (hs : ∀ x, foldedSetIterable iter X.env x = pure x := by intro _; rfl) : NS X (.For tg iter body [] pos) (mFor it i f) := (ps_for hp hc hi hg hb hs).imp fun E σ H ⟨G0, H0, G, st, o, v, e, q⟩ => by
  unfold mFor at e
  obtain ⟨ds, e1, e⟩ := Option.bind_eq_some_iff.mp e
  refine ⟨G, _, ds, v.at_, e1, fun J G1 H1 s1 hJ => ?_⟩
  have v1 := v.stp s1
  have st1 := v1.b
  refine ⟨fun j m σ H => m = ds.length - j ∧ j ≤ ds.length ∧ ∃ G st, NAt X.prog X.w X.K G1 H0 G H σ st ∧ forN i f (ds.drop j) st = some o, ⟨ds.length, by simp, Nat.zero_le _, G1, st, v1.rise, e⟩, ?_⟩
  rintro j m σ1 H2 ⟨rfl, hj, G2, st2, v2, a2⟩
  by_cases hlt : j < ds.length
  · have ed : ds[j]? = some ds[j] := List.getElem?_eq_getElem hlt
    obtain ⟨go, yld⟩ := (hJ j G2 H2 v2.b.g v2.b.gh).1 _ ed
    rw [List.drop_eq_getElem_cons hlt] at a2
    unfold forN at a2
    obtain ⟨o1, b2⟩ := mloop_some a2
    rw [b2] at a2
    refine .inr ⟨go, fun σ' H' => ∃ G st, NAt X.prog X.w X.K G1 H0 G H' σ' st ∧ forN i f (ds.drop (j + 1)) st = some o, fun σ' H' ⟨G, st, z⟩ => ⟨ds.length - (j + 1), by omega, rfl, hlt, G, st, z⟩, fun x H3 y => ?_⟩
    obtain ⟨G3, s3, hx⟩ := yld x H3 y
    refine tk.one i rfl x _ H3 _ ?_
    exact ⟨G1, H0, G3, _, o1, (v2.stp s3).set h4 h7 hx, b2, mloop_fin a2 (q.rise st1) fun σ G H st v e => ⟨G, st, v, e⟩⟩
  · have ei : j = ds.length := by omega
    subst ei
    rw [List.drop_length] at a2
    cases a2
    exact .inl ⟨(hJ _ G2 H2 v2.b.g v2.b.gh).2 rfl, q _ _ _ (v2.base st1)⟩
end
end DL

/-! N4: the display {k: n}; two-argument min and max. -/
namespace DL
open PySem PySem.Spec PyProof.Rows L2

def tDispN (P : Program) (w : World) (K : PySem.W.Frag) (fk : Rp → Option D) (n : Int) : TE := fun σ H Q => ∃ G ρ d, At K G H σ ρ ∧ fk ρ = some d ∧ nkB d = true ∧ ∀ a G' H', H a = none → Stp G H G' H' → DN P w K G' H' a [(d, n)] → Q (.ref a) H'
section
variable {X : Cx}
theorem pe_dispN {k : Expr} {n : Int} {j pos p2} {fk : Rp → Option D} (hu : (nestedKind X.prog X.w).room X.A) (hk : DE X k fk) : PE X (.Dict [some k] [.Constant (.int n) j p2] pos) (tDispN X.prog X.w X.K fk n) := by
  refine ⟨fun pins s σ H Q I ⟨G, ρ, d, at_, e, c, q⟩ => ?_⟩
  have ok := nkB_ok c
  let a := s.heap.objs.size
  have hn : H a = none := I.hok.fresh (Nat.le_refl s.heap.objs.size)
  have hsys : (a == sysModules) = false := beq_eq_false_iff_ne.mpr (Ne.symm (Nat.ne_of_lt I.big))
  have obj0 : ∀ H1 : Hp, ObjOk X.prog X.w H1 (s.heap.push { cls := .type "dict", data := .dict #[] }) a (.ext (DnRaw X.prog X.w a [])) := fun H1 =>
    ⟨⟨_, #[], 0, Heap.get?_push_size _ rfl, ⟨rfl, rfl, rfl⟩, rfl, rfl, List.nodup_nil⟩, ⟨_, Heap.get?_push_size _ rfl⟩, fun a1 a2 ⟨o', es', ep', k1, k2⟩ k => ⟨o', es', ep', k _ k1, k2⟩⟩
  have I1 := I.laid (a := a) (o := .ext (DnRaw X.prog X.w a [])) (h' := s.heap.push { cls := .type "dict", data := .dict #[] }) (t' := s.toks) (fun _ _ q => Heap.get?_push_of_some _ q) (Nat.le_refl _) (obj0 _)
  have s0 : Stp G H G (upd H a (.ext (DnRaw X.prog X.w a []))) := .newH at_.s hn
  have hP : PPs X pos [some k] [.Constant (.int n) j p2] [(tD X.K fk, tC (.int n))] := pps_cons hk pe_int pps_nil
  rw [arm_eval_Dict, zip_pairTrees [some k] [.Constant (.int n) j p2] X.env pos rfl rfl, dictDisplay_pairs _ (by intro h; cases h) (by show 1 < 17; decide)]
  refine wpAny_bind (wpAny_standAt (wpAny_bind (wpAny_subDictH (knd := nestedKind X.prog X.w) (Q := fun d s' => wpAny (model X.prog X.w) X.A (pure (Value.ref d)) (EP X pins σ Q) X.xe s') hu (by show 1 ≤ 15; decide) ?_)))
  refine thn (hP.run pins _ σ _ (fun ps H2 => ∃ v G2, ps = [(v, .int n)] ∧ Stp G (upd H a (.ext (DnRaw X.prog X.w a []))) G2 H2 ∧ Dq X.K G2 v d) I1 ⟨G, ρ, d, at_.stp s0, e, fun v G2 H2 s2 hq => ⟨v, G2, rfl, s2, hq⟩⟩) fun ws s2 ⟨ps, H2, I2, rel, v, G2, eps, st2, hq⟩ => ?_
  subst eps
  obtain ⟨b, rfl⟩ := tup_ref hq ok.tup
  cases rel with
  | @cons p r ps qs h t =>
    cases t
    obtain ⟨r1, r2⟩ := r
    obtain ⟨h1, ⟨tk, h2⟩⟩ := h
    have h1 : r1 = Value.ref b := h1
    have h2 : r2 = Value.int n tk := h2
    subst h1 h2
    have ha2 : H2 a = some (.ext (DnRaw X.prog X.w a [])) := st2.h _ _ upd_same
    have hG2 : G2 a = none := st2.nw _ _ upd_same (at_.s.free hn)
    obtain ⟨⟨o, es, ep, g1, g2, g3, g4, g5⟩, _⟩ := I2.hok _ _ ha2
    have hkey := key_is st2.gh I2 ok hq
    refine ⟨[(nk d, b, .int n tk)], ⟨rfl, rfl, hkey, trivial⟩, ⟨o, es, ep, g1, g2, g3, g4, (fun x hx => by cases hx), g5⟩, fun h' tk' hd hs => wpAny_pure ?_⟩
    obtain ⟨o', es', ep', k1, k2, k3, k4, k5, k6⟩ := hd
    have I3 : Inv X pins σ (upd H2 a (.ext (DnRaw X.prog X.w a [(nk d, b, .int n tk)]))) { s2 with heap := h', toks := tk' } := d_write I2 (by rw [ha2]; exact True.intro) hs ⟨o', k1⟩ ⟨⟨o', es', ep', k1, k2, k3, k4, k6⟩, ⟨o', k1⟩, fun a1 a2 ⟨o'', es'', ep'', j1, j2⟩ kk => ⟨o'', es'', ep'', kk _ j1, j2⟩⟩
    refine ⟨.ref a, _, I3, rfl, q a G2 _ hn ⟨st2.g, fun c o e => ?_, fun c o e => ?_, fun c o e1 e2 => ?_⟩ ⟨⟨_, upd_same, .cons ⟨rfl, ok, hq, tk, rfl⟩ .nil⟩, hsys, by show 1 ≤ 100000; decide, hG2⟩⟩
    · have hc : c ≠ a := fun z => by subst z; rw [hn] at e; cases e
      rw [upd_ne hc]
      exact st2.h _ _ (by rw [upd_ne hc]; exact e)
    · rw [upd_ne (fun z => by subst z; rw [hG2] at e; cases e)]
      exact st2.gh _ _ e
    · have hc : c ≠ a := fun z => by subst z; rw [hn] at e1; cases e1
      exact st2.nw _ _ (by rw [upd_ne hc]; exact e1) e2
variable {g : Rp → Option (List D)} {a b : Expr} {pp pos : Pos}
theorem de_min2 (hc : X.calm = true) (hg : Gl X "min") (hm : X.mg "min" = none) (ha : DA X [a, b] g) (he : starEach [a, b] X.env = (false, eval a X.env) :: starEach [b] X.env := by rfl) (hpl : (backTo pos (starEach [b] X.env)).any (·.1) = false := by rfl) : DE X (.Call (.Name "min" pp) [a, b] [] pos) (dCall min2D g) := de_callB r_min2 (call_min2 hc) hg hm boot_min' ha (by decide) (by decide) he hpl
theorem de_max2 (hc : X.calm = true) (hg : Gl X "max") (hm : X.mg "max" = none) (ha : DA X [a, b] g) (he : starEach [a, b] X.env = (false, eval a X.env) :: starEach [b] X.env := by rfl) (hpl : (backTo pos (starEach [b] X.env)).any (·.1) = false := by rfl) : DE X (.Call (.Name "max" pp) [a, b] [] pos) (dCall max2D g) := de_callB r_max2 (call_max2 hc) hg hm boot_max' ha (by decide) (by decide) he hpl
end
end DL

/-! N5: the walk of searched. -/
namespace DL
open PySem PySem.Spec PyProof.Rows L2

/-! the data function -/
def zT : Rp → Option Bool := tOr_ (tB_ (d2 ltD (dVar 13) (dCall min2D (dCons (dC (.int 0)) (dCons (dVar 14) dNil))))) (tB_ (d2 gtD (dVar 13) (dCall max2D (dCons (dVar 14) (dCons (dCall intD (dCons (d2 eqD (dVar 14) (dC (.int 0))) dNil)) dNil)))))
def zOut : Rp → Option Bool := tB_ (d2 neD (dLc (iZipD (dVar 12) (dVar 3)) (.many [13, 14]) zT (dC (.int 1)) [13, 14]) (dLst dNil))
def zIn : NSt → Option NOut :=
  mSeq (mPar 10 11 (nP (dCall F_l_tip (dCons (dVar 8) (dCons (dVar 9) dNil)))) (n2 addD (nGet (dVar 8)) (nP (d2 getD_ (dVar 2) (dCall F_l_over (dCons (d2 getD_ (dVar 8) (dC (.int 0))) (dCons (dVar 9) dNil)))))))
    (mSeq (mSet 12 (nP (dCall F_l_tally (dCons (dVar 0) (dCons (dVar 10) dNil)))))
    (mSeq (mIf (nP zOut) (fun s => some (.ct s)) mNext)
    (mIf (nOr (nNot (dVar 10)) (nB (n2 gtD (nGet (dVar 10)) (nP (dVar 11))))) (mSeq (mPut (dVar 10) (dVar 11)) (mApp (dVar 10))) mNext)))
def zLap : NSt → Option NOut :=
  mSeq mNew (mSeq (mFor (iSeq (dVar 5)) 8 (mFor (iRange (dC (.int 4))) 9 zIn)) (mSeq (mFrz 5) (mIf (nP (tB_ (d2 eqD (dVar 5) (dLst dNil)))) (fun s => some (.bk s)) mNext)))
def zAll : NSt → Option NOut := mSeq (mSet 5 (nP (dLst (dCons (dVar 0) dNil)))) (mSeq (mFor (iRange (dC (.int 200))) 6 zLap) (mRet (nGet (dVar 1))))
def outN (o : Option NOut) : Option D := match o with
  | some (.rt d) => some d
  | _ => none
def zSt (a b c t : D) : NSt := ⟨[some a, some b, some c, some t, none, none, none, none, none, none, none, none, none, none, none], [(a, 0)], none⟩
def F_l_searched : List D → Option D
  | [a, b, c] => (F_l_tally [a, b]).bind fun t => if nkB a = true then outN (zAll (zSt a b c t)) else none
  | _ => none
section
variable {P : Program} {w : World} {K : PySem.W.Frag} {mg : Str → Option Value} {base : Heap}
theorem tn_notin {X : Cx} {o i : Expr} {pos : Pos} {f : Rp → Option D} (hu : (nestedKind X.prog X.w).room X.A.in1) (hi : DE X i f) (ho : PE X o (tVar 4)) (hm : behindInMarks .NotIn o = false := by rfl) : TN X (.Compare i [.NotIn] [o] pos) (nNot f) :=
  (pt_cmp (pc_nnot hu hi ho) hm).imp fun σ H Q ⟨G0, H0, G, st, b, at_, e, p⟩ => ⟨G0, H0, G, st, b, at_, e, fun G1 H1 s1 => ⟨b, rfl, p G1 H1 s1⟩⟩
theorem c_searched {f : Addr} {fd : FuncData} (F : Fun K "_law_searched" "_law_searched" s_l_searched f fd) (hm : mg "_law_searched" = some (.ref f)) (hB : Binds K fd ["_law_one", "_law_two", "_law_fees_here"] []) (B : Txt K mg)
    (C_l_tip : Callee P w K mg base 3 "_law_tip" 2 F_l_tip) (C_l_over : Callee P w K mg base 3 "_law_over" 2 F_l_over) (C_l_tally : Callee P w K mg base 3 "_law_tally" 2 F_l_tally) : Callee P w K mg base 6 "_law_searched" 3 F_l_searched := by
  refine ⟨f, fd, ["_law_one", "_law_two", "_law_fees_here"], F.ok sc_l_searched (fun vs H Q E h => h.1) (fun cdv A outer s H vs Q E hr h => ?_), hm, F.kp, hB⟩
  obtain ⟨hl, G, ds, d, sg, hd, e, p⟩ := h
  have hu : ∀ {A' : Around}, Room 5 A' → A'.units + 1 + 8 < cLine := fun h => by
    have := u65 (k := 4) h
    omega
  have hu1 := hu hr
  refine ⟨_, pss_cons (ps_par (i := 3) (j := 4) rfl sc_l_searched.nd rfl rfl (by decide) rfl rfl (pa_cons (de_call C_l_tally (hr.mono (by decide)) (by rfl) (da_cons (de_var 0) (da_cons (de_var 1) da_nil)) rfl (len_cons (len_cons len_nil))) (pa_cons (pe_dispN (Nat.lt_of_le_of_lt (by show _ + 8 ≤ _ + 1 + 8; exact Nat.add_le_add_right (Nat.le_succ _) 8) hu1) (de_var 0)) pa_nil)) rfl)
    (nss_cons (ns_set (i := 5) (by decide) (by decide) sc_l_searched.nd rfl (Or.inl rfl) (en_D (de_lst (da_cons (de_var 0) da_nil))))
    (nss_cons (ns_for (i := 6) (by decide) (by decide) PassesOwn.never rfl (di_range (by rfl) B.range de_int) tgt_one (pg_name (i := 6) sc_l_searched.nd rfl (Or.inl rfl))
      (nss_cons (ns_new sc_l_searched.nd rfl (Or.inl rfl))
      (nss_cons (ns_for (i := 8) (by decide) (by decide) PassesOwn.never rfl (di_seq (de_var 5)) tgt_one (pg_name (i := 8) sc_l_searched.nd rfl (Or.inl rfl))
        (nss_one (ns_for (i := 9) (by decide) (by decide) PassesOwn.never rfl (di_range (by rfl) B.range de_int) tgt_one (pg_name (i := 9) sc_l_searched.nd rfl (Or.inl rfl))
          (nss_cons (ns_par (i := 10) (j := 11) (by decide) (by decide) (by decide) (by decide) rfl sc_l_searched.nd rfl rfl (by decide) rfl rfl
            (en_D (de_call C_l_tip (hr.mono (by decide)) (by rfl) (da_cons (de_var 8) (da_cons (de_var 9) da_nil)) rfl (len_cons (len_cons len_nil))))
            (en_op (r_addI.or (r_addT.or r_addL)) (op_add.or (op_catA.or op_cat)) (en_get (by exact hu1) (pv 4) (de_var 8) (fun _ _ => rfl)) (en_D (de_ix (de_var 2) (de_call C_l_over (hr.mono (by decide)) (by rfl) (da_cons (de_ix (de_var 8) de_int) (da_cons (de_var 9) da_nil)) rfl (len_cons (len_cons len_nil)))))))
          (nss_cons (ns_set (i := 12) (by decide) (by decide) sc_l_searched.nd rfl (Or.inl rfl) (en_D (de_call C_l_tally (hr.mono (by decide)) (by rfl) (da_cons (de_var 0) (da_cons (de_var 10) da_nil)) rfl (len_cons (len_cons len_nil)))))
          (nss_cons (ns_if (tn_D (dt_ne hr (de_lc (own := [("_law_its", 13), ("_law_far", 14)]) rfl sc_l_searched.nd (di_zip (by rfl) B.zip (de_var 12) (de_var 3)) (blkOk_by (N := N_l_searched) (sc := defScope s_l_searched) (by decide +kernel)) (tgt_many (is := [13, 14])) (by decide)
              (fun _ _ _ _ _ => pg_tup rfl (pgs_cons (pg_name (i := 13) sc_l_searched.nd rfl (Or.inl rfl)) (pgs_cons (pg_name (i := 14) sc_l_searched.nd rfl (Or.inl rfl)) pgs_nil)))
              (fun _ _ _ _ _ => dts_one (DW.dt (dw_or (dt_lt (de_var 13) (de_min2 rfl (by rfl) B.min (da_cons de_int (da_cons (de_var 14) da_nil)))) (dw_or1 (dt_gt (de_var 13) (de_max2 rfl (by rfl) B.max (da_cons (de_var 14) (da_cons (de_intf (by rfl) B.int (da_cons (de_eq hr (de_var 14) de_int) da_nil)) da_nil))))))))
              (fun _ _ _ _ _ => de_int)) (de_lst da_nil))) (nss_one ns_continue) nss_nil)
          (nss_one (ns_if (L2.PW.pt (wn_or (tn_notin (by exact hu1) (de_var 10) (pv 4)) (wn_or1 (tn_cmp r_gt op_gt (en_get (by exact hu1) (pv 4) (de_var 10) (fun _ _ => rfl)) (en_D (de_var 11)) (nomark _)))))
            (nss_cons (ns_put (by exact hu1) (pv 4) (de_var 10) (de_var 11)) (nss_one (ns_app (he := de_var 10)))) nss_nil))))))))
      (nss_cons (ns_frz (i := 5) (by decide) (by decide) sc_l_searched.nd rfl (Or.inl rfl) (pv 7))
      (nss_one (ns_if (tn_D (dt_eq hr (de_var 5) (de_lst da_nil))) (nss_one ns_break) nss_nil))))))
    (nss_one (ns_ret (en_get (by exact hu1) (pv 4) (de_var 1) (fun _ _ => rfl)))))), ?_⟩
  match ds, e, hd with
  | [a, b, c], e, hd =>
    obtain ⟨t, e1, e⟩ := Option.bind_eq_some_iff.mp (show (F_l_tally [a, b]).bind _ = some d from e)
    have hk : nkB a = true := by
      cases hh : nkB a with
      | true => rfl
      | false =>
        rw [hh] at e
        cases e
    rw [if_pos hk] at e
    have st0 := start_env (K := K) (N := N_l_searched) sg hd
    have en0 : EnvP K G (L2.start N_l_searched vs) [some a, some b, some c, none, none, none, none, none, none, none, none, none, none, none, none] := st0.at_.e
    refine ⟨G, _, t, ⟨sg, en0⟩, e1, fun v1 G1 H1 s1 h1 => ?_⟩
    refine ⟨G1, [some a, some b, some c, none, none, none, none, none, none, none, none, none, none, none, none], a, ⟨s1.gh, en0.to s1.g⟩, rfl, hk, fun Da G2 H2 hn s2 hD => ?_⟩
    refine ⟨v1, .ref Da, rfl, ?_⟩
    unfold outN at e
    split at e
    · rename_i d' e2
      cases e
      have en2 : EnvP K G2 (((L2.start N_l_searched vs).set 3 (some v1)).set 4 (some (.ref Da))) (zSt a b c t).ρ := (((en0.to s1.g).to s2.g).set 3 (h1.to s2.g)).hide (i := 4) rfl (some (.ref Da))
      have hlen : (L2.start N_l_searched vs).length = 15 := en0.len
      refine ⟨G, H, G2, zSt a b c t, .rt d, ⟨s1.trans s2, en2, ⟨Da, ?_, hD, s1.h.free hn⟩, trivial⟩, e2, fun v G' H' s' h' => p v G' H' s' h'⟩
      rw [List.getElem?_set_self (by rw [List.length_set, hlen]; decide)]
    · cases e
end
end DL

/-! P13: the counts and the tips (printed by gen13.py). -/
namespace DL
open PySem PySem.Spec PyProof.Rows L2
theorem cnt_00 (o : S3) (x0 x1 x2 y0 y1 y2 : Int) (f : T3) : ∀ k : Fin 6, (tal o (tip ⟨0, ⟨x0, x1, x2⟩, ⟨y0, y1, y2⟩, f⟩ 0)).f k = (tal o ⟨0, ⟨x0, x1, x2⟩, ⟨y0, y1, y2⟩, f⟩).f k + (if k = ovr 0 0 then byw 0 else 0) := by
  refine all6 ?_ ?_ ?_ ?_ ?_ ?_
  · show ((x0 + 1 - o.x.a) + ((x1 - o.x.b) + ((x2 + 1 - o.x.c) + 0))) / 2 - (x1 - o.x.b) = ((x0 - o.x.a) + ((x1 - o.x.b) + ((x2 - o.x.c) + 0))) / 2 - (x1 - o.x.b) + 1
    omega
  · show ((y0 - o.y.a) + ((y1 - o.y.b) + ((y2 - o.y.c) + 0))) / 2 - (y2 - o.y.c) = ((y0 - o.y.a) + ((y1 - o.y.b) + ((y2 - o.y.c) + 0))) / 2 - (y2 - o.y.c) + 0
    omega
  · show ((x0 + 1 - o.x.a) + ((x1 - o.x.b) + ((x2 + 1 - o.x.c) + 0))) / 2 - (x0 + 1 - o.x.a) = ((x0 - o.x.a) + ((x1 - o.x.b) + ((x2 - o.x.c) + 0))) / 2 - (x0 - o.x.a) + 0
    omega
  · show ((y0 - o.y.a) + ((y1 - o.y.b) + ((y2 - o.y.c) + 0))) / 2 - (y1 - o.y.b) = ((y0 - o.y.a) + ((y1 - o.y.b) + ((y2 - o.y.c) + 0))) / 2 - (y1 - o.y.b) + 0
    omega
  · show ((x0 + 1 - o.x.a) + ((x1 - o.x.b) + ((x2 + 1 - o.x.c) + 0))) / 2 - (x2 + 1 - o.x.c) = ((x0 - o.x.a) + ((x1 - o.x.b) + ((x2 - o.x.c) + 0))) / 2 - (x2 - o.x.c) + 0
    omega
  · show ((y0 - o.y.a) + ((y1 - o.y.b) + ((y2 - o.y.c) + 0))) / 2 - (y0 - o.y.a) = ((y0 - o.y.a) + ((y1 - o.y.b) + ((y2 - o.y.c) + 0))) / 2 - (y0 - o.y.a) + 0
    omega
theorem cnt_01 (o : S3) (x0 x1 x2 y0 y1 y2 : Int) (f : T3) : ∀ k : Fin 6, (tal o (tip ⟨0, ⟨x0, x1, x2⟩, ⟨y0, y1, y2⟩, f⟩ 1)).f k = (tal o ⟨0, ⟨x0, x1, x2⟩, ⟨y0, y1, y2⟩, f⟩).f k + (if k = ovr 0 1 then byw 1 else 0) := by
  refine all6 ?_ ?_ ?_ ?_ ?_ ?_
  · show ((x0 - o.x.a) + ((x1 - o.x.b) + ((x2 - o.x.c) + 0))) / 2 - (x1 - o.x.b) = ((x0 - o.x.a) + ((x1 - o.x.b) + ((x2 - o.x.c) + 0))) / 2 - (x1 - o.x.b) + 0
    omega
  · show ((y0 - o.y.a) + ((y1 + 1 - o.y.b) + ((y2 + 1 - o.y.c) + 0))) / 2 - (y2 + 1 - o.y.c) = ((y0 - o.y.a) + ((y1 - o.y.b) + ((y2 - o.y.c) + 0))) / 2 - (y2 - o.y.c) + 0
    omega
  · show ((x0 - o.x.a) + ((x1 - o.x.b) + ((x2 - o.x.c) + 0))) / 2 - (x0 - o.x.a) = ((x0 - o.x.a) + ((x1 - o.x.b) + ((x2 - o.x.c) + 0))) / 2 - (x0 - o.x.a) + 0
    omega
  · show ((y0 - o.y.a) + ((y1 + 1 - o.y.b) + ((y2 + 1 - o.y.c) + 0))) / 2 - (y1 + 1 - o.y.b) = ((y0 - o.y.a) + ((y1 - o.y.b) + ((y2 - o.y.c) + 0))) / 2 - (y1 - o.y.b) + 0
    omega
  · show ((x0 - o.x.a) + ((x1 - o.x.b) + ((x2 - o.x.c) + 0))) / 2 - (x2 - o.x.c) = ((x0 - o.x.a) + ((x1 - o.x.b) + ((x2 - o.x.c) + 0))) / 2 - (x2 - o.x.c) + 0
    omega
  · show ((y0 - o.y.a) + ((y1 + 1 - o.y.b) + ((y2 + 1 - o.y.c) + 0))) / 2 - (y0 - o.y.a) = ((y0 - o.y.a) + ((y1 - o.y.b) + ((y2 - o.y.c) + 0))) / 2 - (y0 - o.y.a) + 1
    omega
theorem cnt_02 (o : S3) (x0 x1 x2 y0 y1 y2 : Int) (f : T3) : ∀ k : Fin 6, (tal o (tip ⟨0, ⟨x0, x1, x2⟩, ⟨y0, y1, y2⟩, f⟩ 2)).f k = (tal o ⟨0, ⟨x0, x1, x2⟩, ⟨y0, y1, y2⟩, f⟩).f k + (if k = ovr 0 2 then byw 2 else 0) := by
  refine all6 ?_ ?_ ?_ ?_ ?_ ?_
  · show ((x0 + (-1) - o.x.a) + ((x1 - o.x.b) + ((x2 + (-1) - o.x.c) + 0))) / 2 - (x1 - o.x.b) = ((x0 - o.x.a) + ((x1 - o.x.b) + ((x2 - o.x.c) + 0))) / 2 - (x1 - o.x.b) + (-1)
    omega
  · show ((y0 - o.y.a) + ((y1 - o.y.b) + ((y2 - o.y.c) + 0))) / 2 - (y2 - o.y.c) = ((y0 - o.y.a) + ((y1 - o.y.b) + ((y2 - o.y.c) + 0))) / 2 - (y2 - o.y.c) + 0
    omega
  · show ((x0 + (-1) - o.x.a) + ((x1 - o.x.b) + ((x2 + (-1) - o.x.c) + 0))) / 2 - (x0 + (-1) - o.x.a) = ((x0 - o.x.a) + ((x1 - o.x.b) + ((x2 - o.x.c) + 0))) / 2 - (x0 - o.x.a) + 0
    omega
  · show ((y0 - o.y.a) + ((y1 - o.y.b) + ((y2 - o.y.c) + 0))) / 2 - (y1 - o.y.b) = ((y0 - o.y.a) + ((y1 - o.y.b) + ((y2 - o.y.c) + 0))) / 2 - (y1 - o.y.b) + 0
    omega
  · show ((x0 + (-1) - o.x.a) + ((x1 - o.x.b) + ((x2 + (-1) - o.x.c) + 0))) / 2 - (x2 + (-1) - o.x.c) = ((x0 - o.x.a) + ((x1 - o.x.b) + ((x2 - o.x.c) + 0))) / 2 - (x2 - o.x.c) + 0
    omega
  · show ((y0 - o.y.a) + ((y1 - o.y.b) + ((y2 - o.y.c) + 0))) / 2 - (y0 - o.y.a) = ((y0 - o.y.a) + ((y1 - o.y.b) + ((y2 - o.y.c) + 0))) / 2 - (y0 - o.y.a) + 0
    omega
theorem cnt_03 (o : S3) (x0 x1 x2 y0 y1 y2 : Int) (f : T3) : ∀ k : Fin 6, (tal o (tip ⟨0, ⟨x0, x1, x2⟩, ⟨y0, y1, y2⟩, f⟩ 3)).f k = (tal o ⟨0, ⟨x0, x1, x2⟩, ⟨y0, y1, y2⟩, f⟩).f k + (if k = ovr 0 3 then byw 3 else 0) := by
  refine all6 ?_ ?_ ?_ ?_ ?_ ?_
  · show ((x0 - o.x.a) + ((x1 - o.x.b) + ((x2 - o.x.c) + 0))) / 2 - (x1 - o.x.b) = ((x0 - o.x.a) + ((x1 - o.x.b) + ((x2 - o.x.c) + 0))) / 2 - (x1 - o.x.b) + 0
    omega
  · show ((y0 - o.y.a) + ((y1 + (-1) - o.y.b) + ((y2 + (-1) - o.y.c) + 0))) / 2 - (y2 + (-1) - o.y.c) = ((y0 - o.y.a) + ((y1 - o.y.b) + ((y2 - o.y.c) + 0))) / 2 - (y2 - o.y.c) + 0
    omega
  · show ((x0 - o.x.a) + ((x1 - o.x.b) + ((x2 - o.x.c) + 0))) / 2 - (x0 - o.x.a) = ((x0 - o.x.a) + ((x1 - o.x.b) + ((x2 - o.x.c) + 0))) / 2 - (x0 - o.x.a) + 0
    omega
  · show ((y0 - o.y.a) + ((y1 + (-1) - o.y.b) + ((y2 + (-1) - o.y.c) + 0))) / 2 - (y1 + (-1) - o.y.b) = ((y0 - o.y.a) + ((y1 - o.y.b) + ((y2 - o.y.c) + 0))) / 2 - (y1 - o.y.b) + 0
    omega
  · show ((x0 - o.x.a) + ((x1 - o.x.b) + ((x2 - o.x.c) + 0))) / 2 - (x2 - o.x.c) = ((x0 - o.x.a) + ((x1 - o.x.b) + ((x2 - o.x.c) + 0))) / 2 - (x2 - o.x.c) + 0
    omega
  · show ((y0 - o.y.a) + ((y1 + (-1) - o.y.b) + ((y2 + (-1) - o.y.c) + 0))) / 2 - (y0 - o.y.a) = ((y0 - o.y.a) + ((y1 - o.y.b) + ((y2 - o.y.c) + 0))) / 2 - (y0 - o.y.a) + (-1)
    omega
theorem cnt_10 (o : S3) (x0 x1 x2 y0 y1 y2 : Int) (f : T3) : ∀ k : Fin 6, (tal o (tip ⟨1, ⟨x0, x1, x2⟩, ⟨y0, y1, y2⟩, f⟩ 0)).f k = (tal o ⟨1, ⟨x0, x1, x2⟩, ⟨y0, y1, y2⟩, f⟩).f k + (if k = ovr 1 0 then byw 0 else 0) := by
  refine all6 ?_ ?_ ?_ ?_ ?_ ?_
  · show ((x0 + 1 - o.x.a) + ((x1 - o.x.b) + ((x2 + 1 - o.x.c) + 0))) / 2 - (x1 - o.x.b) = ((x0 - o.x.a) + ((x1 - o.x.b) + ((x2 - o.x.c) + 0))) / 2 - (x1 - o.x.b) + 1
    omega
  · show ((y0 - o.y.a) + ((y1 - o.y.b) + ((y2 - o.y.c) + 0))) / 2 - (y2 - o.y.c) = ((y0 - o.y.a) + ((y1 - o.y.b) + ((y2 - o.y.c) + 0))) / 2 - (y2 - o.y.c) + 0
    omega
  · show ((x0 + 1 - o.x.a) + ((x1 - o.x.b) + ((x2 + 1 - o.x.c) + 0))) / 2 - (x0 + 1 - o.x.a) = ((x0 - o.x.a) + ((x1 - o.x.b) + ((x2 - o.x.c) + 0))) / 2 - (x0 - o.x.a) + 0
    omega
  · show ((y0 - o.y.a) + ((y1 - o.y.b) + ((y2 - o.y.c) + 0))) / 2 - (y1 - o.y.b) = ((y0 - o.y.a) + ((y1 - o.y.b) + ((y2 - o.y.c) + 0))) / 2 - (y1 - o.y.b) + 0
    omega
  · show ((x0 + 1 - o.x.a) + ((x1 - o.x.b) + ((x2 + 1 - o.x.c) + 0))) / 2 - (x2 + 1 - o.x.c) = ((x0 - o.x.a) + ((x1 - o.x.b) + ((x2 - o.x.c) + 0))) / 2 - (x2 - o.x.c) + 0
    omega
  · show ((y0 - o.y.a) + ((y1 - o.y.b) + ((y2 - o.y.c) + 0))) / 2 - (y0 - o.y.a) = ((y0 - o.y.a) + ((y1 - o.y.b) + ((y2 - o.y.c) + 0))) / 2 - (y0 - o.y.a) + 0
    omega
theorem cnt_11 (o : S3) (x0 x1 x2 y0 y1 y2 : Int) (f : T3) : ∀ k : Fin 6, (tal o (tip ⟨1, ⟨x0, x1, x2⟩, ⟨y0, y1, y2⟩, f⟩ 1)).f k = (tal o ⟨1, ⟨x0, x1, x2⟩, ⟨y0, y1, y2⟩, f⟩).f k + (if k = ovr 1 1 then byw 1 else 0) := by
  refine all6 ?_ ?_ ?_ ?_ ?_ ?_
  · show ((x0 - o.x.a) + ((x1 - o.x.b) + ((x2 - o.x.c) + 0))) / 2 - (x1 - o.x.b) = ((x0 - o.x.a) + ((x1 - o.x.b) + ((x2 - o.x.c) + 0))) / 2 - (x1 - o.x.b) + 0
    omega
  · show ((y0 + 1 - o.y.a) + ((y1 + 1 - o.y.b) + ((y2 - o.y.c) + 0))) / 2 - (y2 - o.y.c) = ((y0 - o.y.a) + ((y1 - o.y.b) + ((y2 - o.y.c) + 0))) / 2 - (y2 - o.y.c) + 1
    omega
  · show ((x0 - o.x.a) + ((x1 - o.x.b) + ((x2 - o.x.c) + 0))) / 2 - (x0 - o.x.a) = ((x0 - o.x.a) + ((x1 - o.x.b) + ((x2 - o.x.c) + 0))) / 2 - (x0 - o.x.a) + 0
    omega
  · show ((y0 + 1 - o.y.a) + ((y1 + 1 - o.y.b) + ((y2 - o.y.c) + 0))) / 2 - (y1 + 1 - o.y.b) = ((y0 - o.y.a) + ((y1 - o.y.b) + ((y2 - o.y.c) + 0))) / 2 - (y1 - o.y.b) + 0
    omega
  · show ((x0 - o.x.a) + ((x1 - o.x.b) + ((x2 - o.x.c) + 0))) / 2 - (x2 - o.x.c) = ((x0 - o.x.a) + ((x1 - o.x.b) + ((x2 - o.x.c) + 0))) / 2 - (x2 - o.x.c) + 0
    omega
  · show ((y0 + 1 - o.y.a) + ((y1 + 1 - o.y.b) + ((y2 - o.y.c) + 0))) / 2 - (y0 + 1 - o.y.a) = ((y0 - o.y.a) + ((y1 - o.y.b) + ((y2 - o.y.c) + 0))) / 2 - (y0 - o.y.a) + 0
    omega
theorem cnt_12 (o : S3) (x0 x1 x2 y0 y1 y2 : Int) (f : T3) : ∀ k : Fin 6, (tal o (tip ⟨1, ⟨x0, x1, x2⟩, ⟨y0, y1, y2⟩, f⟩ 2)).f k = (tal o ⟨1, ⟨x0, x1, x2⟩, ⟨y0, y1, y2⟩, f⟩).f k + (if k = ovr 1 2 then byw 2 else 0) := by
  refine all6 ?_ ?_ ?_ ?_ ?_ ?_
  · show ((x0 + (-1) - o.x.a) + ((x1 - o.x.b) + ((x2 + (-1) - o.x.c) + 0))) / 2 - (x1 - o.x.b) = ((x0 - o.x.a) + ((x1 - o.x.b) + ((x2 - o.x.c) + 0))) / 2 - (x1 - o.x.b) + (-1)
    omega
  · show ((y0 - o.y.a) + ((y1 - o.y.b) + ((y2 - o.y.c) + 0))) / 2 - (y2 - o.y.c) = ((y0 - o.y.a) + ((y1 - o.y.b) + ((y2 - o.y.c) + 0))) / 2 - (y2 - o.y.c) + 0
    omega
  · show ((x0 + (-1) - o.x.a) + ((x1 - o.x.b) + ((x2 + (-1) - o.x.c) + 0))) / 2 - (x0 + (-1) - o.x.a) = ((x0 - o.x.a) + ((x1 - o.x.b) + ((x2 - o.x.c) + 0))) / 2 - (x0 - o.x.a) + 0
    omega
  · show ((y0 - o.y.a) + ((y1 - o.y.b) + ((y2 - o.y.c) + 0))) / 2 - (y1 - o.y.b) = ((y0 - o.y.a) + ((y1 - o.y.b) + ((y2 - o.y.c) + 0))) / 2 - (y1 - o.y.b) + 0
    omega
  · show ((x0 + (-1) - o.x.a) + ((x1 - o.x.b) + ((x2 + (-1) - o.x.c) + 0))) / 2 - (x2 + (-1) - o.x.c) = ((x0 - o.x.a) + ((x1 - o.x.b) + ((x2 - o.x.c) + 0))) / 2 - (x2 - o.x.c) + 0
    omega
  · show ((y0 - o.y.a) + ((y1 - o.y.b) + ((y2 - o.y.c) + 0))) / 2 - (y0 - o.y.a) = ((y0 - o.y.a) + ((y1 - o.y.b) + ((y2 - o.y.c) + 0))) / 2 - (y0 - o.y.a) + 0
    omega
theorem cnt_13 (o : S3) (x0 x1 x2 y0 y1 y2 : Int) (f : T3) : ∀ k : Fin 6, (tal o (tip ⟨1, ⟨x0, x1, x2⟩, ⟨y0, y1, y2⟩, f⟩ 3)).f k = (tal o ⟨1, ⟨x0, x1, x2⟩, ⟨y0, y1, y2⟩, f⟩).f k + (if k = ovr 1 3 then byw 3 else 0) := by
  refine all6 ?_ ?_ ?_ ?_ ?_ ?_
  · show ((x0 - o.x.a) + ((x1 - o.x.b) + ((x2 - o.x.c) + 0))) / 2 - (x1 - o.x.b) = ((x0 - o.x.a) + ((x1 - o.x.b) + ((x2 - o.x.c) + 0))) / 2 - (x1 - o.x.b) + 0
    omega
  · show ((y0 + (-1) - o.y.a) + ((y1 + (-1) - o.y.b) + ((y2 - o.y.c) + 0))) / 2 - (y2 - o.y.c) = ((y0 - o.y.a) + ((y1 - o.y.b) + ((y2 - o.y.c) + 0))) / 2 - (y2 - o.y.c) + (-1)
    omega
  · show ((x0 - o.x.a) + ((x1 - o.x.b) + ((x2 - o.x.c) + 0))) / 2 - (x0 - o.x.a) = ((x0 - o.x.a) + ((x1 - o.x.b) + ((x2 - o.x.c) + 0))) / 2 - (x0 - o.x.a) + 0
    omega
  · show ((y0 + (-1) - o.y.a) + ((y1 + (-1) - o.y.b) + ((y2 - o.y.c) + 0))) / 2 - (y1 + (-1) - o.y.b) = ((y0 - o.y.a) + ((y1 - o.y.b) + ((y2 - o.y.c) + 0))) / 2 - (y1 - o.y.b) + 0
    omega
  · show ((x0 - o.x.a) + ((x1 - o.x.b) + ((x2 - o.x.c) + 0))) / 2 - (x2 - o.x.c) = ((x0 - o.x.a) + ((x1 - o.x.b) + ((x2 - o.x.c) + 0))) / 2 - (x2 - o.x.c) + 0
    omega
  · show ((y0 + (-1) - o.y.a) + ((y1 + (-1) - o.y.b) + ((y2 - o.y.c) + 0))) / 2 - (y0 + (-1) - o.y.a) = ((y0 - o.y.a) + ((y1 - o.y.b) + ((y2 - o.y.c) + 0))) / 2 - (y0 - o.y.a) + 0
    omega
theorem cnt_20 (o : S3) (x0 x1 x2 y0 y1 y2 : Int) (f : T3) : ∀ k : Fin 6, (tal o (tip ⟨2, ⟨x0, x1, x2⟩, ⟨y0, y1, y2⟩, f⟩ 0)).f k = (tal o ⟨2, ⟨x0, x1, x2⟩, ⟨y0, y1, y2⟩, f⟩).f k + (if k = ovr 2 0 then byw 0 else 0) := by
  refine all6 ?_ ?_ ?_ ?_ ?_ ?_
  · show ((x0 - o.x.a) + ((x1 + 1 - o.x.b) + ((x2 + 1 - o.x.c) + 0))) / 2 - (x1 + 1 - o.x.b) = ((x0 - o.x.a) + ((x1 - o.x.b) + ((x2 - o.x.c) + 0))) / 2 - (x1 - o.x.b) + 0
    omega
  · show ((y0 - o.y.a) + ((y1 - o.y.b) + ((y2 - o.y.c) + 0))) / 2 - (y2 - o.y.c) = ((y0 - o.y.a) + ((y1 - o.y.b) + ((y2 - o.y.c) + 0))) / 2 - (y2 - o.y.c) + 0
    omega
  · show ((x0 - o.x.a) + ((x1 + 1 - o.x.b) + ((x2 + 1 - o.x.c) + 0))) / 2 - (x0 - o.x.a) = ((x0 - o.x.a) + ((x1 - o.x.b) + ((x2 - o.x.c) + 0))) / 2 - (x0 - o.x.a) + 1
    omega
  · show ((y0 - o.y.a) + ((y1 - o.y.b) + ((y2 - o.y.c) + 0))) / 2 - (y1 - o.y.b) = ((y0 - o.y.a) + ((y1 - o.y.b) + ((y2 - o.y.c) + 0))) / 2 - (y1 - o.y.b) + 0
    omega
  · show ((x0 - o.x.a) + ((x1 + 1 - o.x.b) + ((x2 + 1 - o.x.c) + 0))) / 2 - (x2 + 1 - o.x.c) = ((x0 - o.x.a) + ((x1 - o.x.b) + ((x2 - o.x.c) + 0))) / 2 - (x2 - o.x.c) + 0
    omega
  · show ((y0 - o.y.a) + ((y1 - o.y.b) + ((y2 - o.y.c) + 0))) / 2 - (y0 - o.y.a) = ((y0 - o.y.a) + ((y1 - o.y.b) + ((y2 - o.y.c) + 0))) / 2 - (y0 - o.y.a) + 0
    omega
theorem cnt_21 (o : S3) (x0 x1 x2 y0 y1 y2 : Int) (f : T3) : ∀ k : Fin 6, (tal o (tip ⟨2, ⟨x0, x1, x2⟩, ⟨y0, y1, y2⟩, f⟩ 1)).f k = (tal o ⟨2, ⟨x0, x1, x2⟩, ⟨y0, y1, y2⟩, f⟩).f k + (if k = ovr 2 1 then byw 1 else 0) := by
  refine all6 ?_ ?_ ?_ ?_ ?_ ?_
  · show ((x0 - o.x.a) + ((x1 - o.x.b) + ((x2 - o.x.c) + 0))) / 2 - (x1 - o.x.b) = ((x0 - o.x.a) + ((x1 - o.x.b) + ((x2 - o.x.c) + 0))) / 2 - (x1 - o.x.b) + 0
    omega
  · show ((y0 + 1 - o.y.a) + ((y1 + 1 - o.y.b) + ((y2 - o.y.c) + 0))) / 2 - (y2 - o.y.c) = ((y0 - o.y.a) + ((y1 - o.y.b) + ((y2 - o.y.c) + 0))) / 2 - (y2 - o.y.c) + 1
    omega
  · show ((x0 - o.x.a) + ((x1 - o.x.b) + ((x2 - o.x.c) + 0))) / 2 - (x0 - o.x.a) = ((x0 - o.x.a) + ((x1 - o.x.b) + ((x2 - o.x.c) + 0))) / 2 - (x0 - o.x.a) + 0
    omega
  · show ((y0 + 1 - o.y.a) + ((y1 + 1 - o.y.b) + ((y2 - o.y.c) + 0))) / 2 - (y1 + 1 - o.y.b) = ((y0 - o.y.a) + ((y1 - o.y.b) + ((y2 - o.y.c) + 0))) / 2 - (y1 - o.y.b) + 0
    omega
  · show ((x0 - o.x.a) + ((x1 - o.x.b) + ((x2 - o.x.c) + 0))) / 2 - (x2 - o.x.c) = ((x0 - o.x.a) + ((x1 - o.x.b) + ((x2 - o.x.c) + 0))) / 2 - (x2 - o.x.c) + 0
    omega
  · show ((y0 + 1 - o.y.a) + ((y1 + 1 - o.y.b) + ((y2 - o.y.c) + 0))) / 2 - (y0 + 1 - o.y.a) = ((y0 - o.y.a) + ((y1 - o.y.b) + ((y2 - o.y.c) + 0))) / 2 - (y0 - o.y.a) + 0
    omega
theorem cnt_22 (o : S3) (x0 x1 x2 y0 y1 y2 : Int) (f : T3) : ∀ k : Fin 6, (tal o (tip ⟨2, ⟨x0, x1, x2⟩, ⟨y0, y1, y2⟩, f⟩ 2)).f k = (tal o ⟨2, ⟨x0, x1, x2⟩, ⟨y0, y1, y2⟩, f⟩).f k + (if k = ovr 2 2 then byw 2 else 0) := by
  refine all6 ?_ ?_ ?_ ?_ ?_ ?_
  · show ((x0 - o.x.a) + ((x1 + (-1) - o.x.b) + ((x2 + (-1) - o.x.c) + 0))) / 2 - (x1 + (-1) - o.x.b) = ((x0 - o.x.a) + ((x1 - o.x.b) + ((x2 - o.x.c) + 0))) / 2 - (x1 - o.x.b) + 0
    omega
  · show ((y0 - o.y.a) + ((y1 - o.y.b) + ((y2 - o.y.c) + 0))) / 2 - (y2 - o.y.c) = ((y0 - o.y.a) + ((y1 - o.y.b) + ((y2 - o.y.c) + 0))) / 2 - (y2 - o.y.c) + 0
    omega
  · show ((x0 - o.x.a) + ((x1 + (-1) - o.x.b) + ((x2 + (-1) - o.x.c) + 0))) / 2 - (x0 - o.x.a) = ((x0 - o.x.a) + ((x1 - o.x.b) + ((x2 - o.x.c) + 0))) / 2 - (x0 - o.x.a) + (-1)
    omega
  · show ((y0 - o.y.a) + ((y1 - o.y.b) + ((y2 - o.y.c) + 0))) / 2 - (y1 - o.y.b) = ((y0 - o.y.a) + ((y1 - o.y.b) + ((y2 - o.y.c) + 0))) / 2 - (y1 - o.y.b) + 0
    omega
  · show ((x0 - o.x.a) + ((x1 + (-1) - o.x.b) + ((x2 + (-1) - o.x.c) + 0))) / 2 - (x2 + (-1) - o.x.c) = ((x0 - o.x.a) + ((x1 - o.x.b) + ((x2 - o.x.c) + 0))) / 2 - (x2 - o.x.c) + 0
    omega
  · show ((y0 - o.y.a) + ((y1 - o.y.b) + ((y2 - o.y.c) + 0))) / 2 - (y0 - o.y.a) = ((y0 - o.y.a) + ((y1 - o.y.b) + ((y2 - o.y.c) + 0))) / 2 - (y0 - o.y.a) + 0
    omega
theorem cnt_23 (o : S3) (x0 x1 x2 y0 y1 y2 : Int) (f : T3) : ∀ k : Fin 6, (tal o (tip ⟨2, ⟨x0, x1, x2⟩, ⟨y0, y1, y2⟩, f⟩ 3)).f k = (tal o ⟨2, ⟨x0, x1, x2⟩, ⟨y0, y1, y2⟩, f⟩).f k + (if k = ovr 2 3 then byw 3 else 0) := by
  refine all6 ?_ ?_ ?_ ?_ ?_ ?_
  · show ((x0 - o.x.a) + ((x1 - o.x.b) + ((x2 - o.x.c) + 0))) / 2 - (x1 - o.x.b) = ((x0 - o.x.a) + ((x1 - o.x.b) + ((x2 - o.x.c) + 0))) / 2 - (x1 - o.x.b) + 0
    omega
  · show ((y0 + (-1) - o.y.a) + ((y1 + (-1) - o.y.b) + ((y2 - o.y.c) + 0))) / 2 - (y2 - o.y.c) = ((y0 - o.y.a) + ((y1 - o.y.b) + ((y2 - o.y.c) + 0))) / 2 - (y2 - o.y.c) + (-1)
    omega
  · show ((x0 - o.x.a) + ((x1 - o.x.b) + ((x2 - o.x.c) + 0))) / 2 - (x0 - o.x.a) = ((x0 - o.x.a) + ((x1 - o.x.b) + ((x2 - o.x.c) + 0))) / 2 - (x0 - o.x.a) + 0
    omega
  · show ((y0 + (-1) - o.y.a) + ((y1 + (-1) - o.y.b) + ((y2 - o.y.c) + 0))) / 2 - (y1 + (-1) - o.y.b) = ((y0 - o.y.a) + ((y1 - o.y.b) + ((y2 - o.y.c) + 0))) / 2 - (y1 - o.y.b) + 0
    omega
  · show ((x0 - o.x.a) + ((x1 - o.x.b) + ((x2 - o.x.c) + 0))) / 2 - (x2 - o.x.c) = ((x0 - o.x.a) + ((x1 - o.x.b) + ((x2 - o.x.c) + 0))) / 2 - (x2 - o.x.c) + 0
    omega
  · show ((y0 + (-1) - o.y.a) + ((y1 + (-1) - o.y.b) + ((y2 - o.y.c) + 0))) / 2 - (y0 + (-1) - o.y.a) = ((y0 - o.y.a) + ((y1 - o.y.b) + ((y2 - o.y.c) + 0))) / 2 - (y0 - o.y.a) + 0
    omega
theorem cnt_30 (o : S3) (x0 x1 x2 y0 y1 y2 : Int) (f : T3) : ∀ k : Fin 6, (tal o (tip ⟨3, ⟨x0, x1, x2⟩, ⟨y0, y1, y2⟩, f⟩ 0)).f k = (tal o ⟨3, ⟨x0, x1, x2⟩, ⟨y0, y1, y2⟩, f⟩).f k + (if k = ovr 3 0 then byw 0 else 0) := by
  refine all6 ?_ ?_ ?_ ?_ ?_ ?_
  · show ((x0 - o.x.a) + ((x1 + 1 - o.x.b) + ((x2 + 1 - o.x.c) + 0))) / 2 - (x1 + 1 - o.x.b) = ((x0 - o.x.a) + ((x1 - o.x.b) + ((x2 - o.x.c) + 0))) / 2 - (x1 - o.x.b) + 0
    omega
  · show ((y0 - o.y.a) + ((y1 - o.y.b) + ((y2 - o.y.c) + 0))) / 2 - (y2 - o.y.c) = ((y0 - o.y.a) + ((y1 - o.y.b) + ((y2 - o.y.c) + 0))) / 2 - (y2 - o.y.c) + 0
    omega
  · show ((x0 - o.x.a) + ((x1 + 1 - o.x.b) + ((x2 + 1 - o.x.c) + 0))) / 2 - (x0 - o.x.a) = ((x0 - o.x.a) + ((x1 - o.x.b) + ((x2 - o.x.c) + 0))) / 2 - (x0 - o.x.a) + 1
    omega
  · show ((y0 - o.y.a) + ((y1 - o.y.b) + ((y2 - o.y.c) + 0))) / 2 - (y1 - o.y.b) = ((y0 - o.y.a) + ((y1 - o.y.b) + ((y2 - o.y.c) + 0))) / 2 - (y1 - o.y.b) + 0
    omega
  · show ((x0 - o.x.a) + ((x1 + 1 - o.x.b) + ((x2 + 1 - o.x.c) + 0))) / 2 - (x2 + 1 - o.x.c) = ((x0 - o.x.a) + ((x1 - o.x.b) + ((x2 - o.x.c) + 0))) / 2 - (x2 - o.x.c) + 0
    omega
  · show ((y0 - o.y.a) + ((y1 - o.y.b) + ((y2 - o.y.c) + 0))) / 2 - (y0 - o.y.a) = ((y0 - o.y.a) + ((y1 - o.y.b) + ((y2 - o.y.c) + 0))) / 2 - (y0 - o.y.a) + 0
    omega
theorem cnt_31 (o : S3) (x0 x1 x2 y0 y1 y2 : Int) (f : T3) : ∀ k : Fin 6, (tal o (tip ⟨3, ⟨x0, x1, x2⟩, ⟨y0, y1, y2⟩, f⟩ 1)).f k = (tal o ⟨3, ⟨x0, x1, x2⟩, ⟨y0, y1, y2⟩, f⟩).f k + (if k = ovr 3 1 then byw 1 else 0) := by
  refine all6 ?_ ?_ ?_ ?_ ?_ ?_
  · show ((x0 - o.x.a) + ((x1 - o.x.b) + ((x2 - o.x.c) + 0))) / 2 - (x1 - o.x.b) = ((x0 - o.x.a) + ((x1 - o.x.b) + ((x2 - o.x.c) + 0))) / 2 - (x1 - o.x.b) + 0
    omega
  · show ((y0 + 1 - o.y.a) + ((y1 - o.y.b) + ((y2 + 1 - o.y.c) + 0))) / 2 - (y2 + 1 - o.y.c) = ((y0 - o.y.a) + ((y1 - o.y.b) + ((y2 - o.y.c) + 0))) / 2 - (y2 - o.y.c) + 0
    omega
  · show ((x0 - o.x.a) + ((x1 - o.x.b) + ((x2 - o.x.c) + 0))) / 2 - (x0 - o.x.a) = ((x0 - o.x.a) + ((x1 - o.x.b) + ((x2 - o.x.c) + 0))) / 2 - (x0 - o.x.a) + 0
    omega
  · show ((y0 + 1 - o.y.a) + ((y1 - o.y.b) + ((y2 + 1 - o.y.c) + 0))) / 2 - (y1 - o.y.b) = ((y0 - o.y.a) + ((y1 - o.y.b) + ((y2 - o.y.c) + 0))) / 2 - (y1 - o.y.b) + 1
    omega
  · show ((x0 - o.x.a) + ((x1 - o.x.b) + ((x2 - o.x.c) + 0))) / 2 - (x2 - o.x.c) = ((x0 - o.x.a) + ((x1 - o.x.b) + ((x2 - o.x.c) + 0))) / 2 - (x2 - o.x.c) + 0
    omega
  · show ((y0 + 1 - o.y.a) + ((y1 - o.y.b) + ((y2 + 1 - o.y.c) + 0))) / 2 - (y0 + 1 - o.y.a) = ((y0 - o.y.a) + ((y1 - o.y.b) + ((y2 - o.y.c) + 0))) / 2 - (y0 - o.y.a) + 0
    omega
theorem cnt_32 (o : S3) (x0 x1 x2 y0 y1 y2 : Int) (f : T3) : ∀ k : Fin 6, (tal o (tip ⟨3, ⟨x0, x1, x2⟩, ⟨y0, y1, y2⟩, f⟩ 2)).f k = (tal o ⟨3, ⟨x0, x1, x2⟩, ⟨y0, y1, y2⟩, f⟩).f k + (if k = ovr 3 2 then byw 2 else 0) := by
  refine all6 ?_ ?_ ?_ ?_ ?_ ?_
  · show ((x0 - o.x.a) + ((x1 + (-1) - o.x.b) + ((x2 + (-1) - o.x.c) + 0))) / 2 - (x1 + (-1) - o.x.b) = ((x0 - o.x.a) + ((x1 - o.x.b) + ((x2 - o.x.c) + 0))) / 2 - (x1 - o.x.b) + 0
    omega
  · show ((y0 - o.y.a) + ((y1 - o.y.b) + ((y2 - o.y.c) + 0))) / 2 - (y2 - o.y.c) = ((y0 - o.y.a) + ((y1 - o.y.b) + ((y2 - o.y.c) + 0))) / 2 - (y2 - o.y.c) + 0
    omega
  · show ((x0 - o.x.a) + ((x1 + (-1) - o.x.b) + ((x2 + (-1) - o.x.c) + 0))) / 2 - (x0 - o.x.a) = ((x0 - o.x.a) + ((x1 - o.x.b) + ((x2 - o.x.c) + 0))) / 2 - (x0 - o.x.a) + (-1)
    omega
  · show ((y0 - o.y.a) + ((y1 - o.y.b) + ((y2 - o.y.c) + 0))) / 2 - (y1 - o.y.b) = ((y0 - o.y.a) + ((y1 - o.y.b) + ((y2 - o.y.c) + 0))) / 2 - (y1 - o.y.b) + 0
    omega
  · show ((x0 - o.x.a) + ((x1 + (-1) - o.x.b) + ((x2 + (-1) - o.x.c) + 0))) / 2 - (x2 + (-1) - o.x.c) = ((x0 - o.x.a) + ((x1 - o.x.b) + ((x2 - o.x.c) + 0))) / 2 - (x2 - o.x.c) + 0
    omega
  · show ((y0 - o.y.a) + ((y1 - o.y.b) + ((y2 - o.y.c) + 0))) / 2 - (y0 - o.y.a) = ((y0 - o.y.a) + ((y1 - o.y.b) + ((y2 - o.y.c) + 0))) / 2 - (y0 - o.y.a) + 0
    omega
theorem cnt_33 (o : S3) (x0 x1 x2 y0 y1 y2 : Int) (f : T3) : ∀ k : Fin 6, (tal o (tip ⟨3, ⟨x0, x1, x2⟩, ⟨y0, y1, y2⟩, f⟩ 3)).f k = (tal o ⟨3, ⟨x0, x1, x2⟩, ⟨y0, y1, y2⟩, f⟩).f k + (if k = ovr 3 3 then byw 3 else 0) := by
  refine all6 ?_ ?_ ?_ ?_ ?_ ?_
  · show ((x0 - o.x.a) + ((x1 - o.x.b) + ((x2 - o.x.c) + 0))) / 2 - (x1 - o.x.b) = ((x0 - o.x.a) + ((x1 - o.x.b) + ((x2 - o.x.c) + 0))) / 2 - (x1 - o.x.b) + 0
    omega
  · show ((y0 + (-1) - o.y.a) + ((y1 - o.y.b) + ((y2 + (-1) - o.y.c) + 0))) / 2 - (y2 + (-1) - o.y.c) = ((y0 - o.y.a) + ((y1 - o.y.b) + ((y2 - o.y.c) + 0))) / 2 - (y2 - o.y.c) + 0
    omega
  · show ((x0 - o.x.a) + ((x1 - o.x.b) + ((x2 - o.x.c) + 0))) / 2 - (x0 - o.x.a) = ((x0 - o.x.a) + ((x1 - o.x.b) + ((x2 - o.x.c) + 0))) / 2 - (x0 - o.x.a) + 0
    omega
  · show ((y0 + (-1) - o.y.a) + ((y1 - o.y.b) + ((y2 + (-1) - o.y.c) + 0))) / 2 - (y1 - o.y.b) = ((y0 - o.y.a) + ((y1 - o.y.b) + ((y2 - o.y.c) + 0))) / 2 - (y1 - o.y.b) + (-1)
    omega
  · show ((x0 - o.x.a) + ((x1 - o.x.b) + ((x2 - o.x.c) + 0))) / 2 - (x2 - o.x.c) = ((x0 - o.x.a) + ((x1 - o.x.b) + ((x2 - o.x.c) + 0))) / 2 - (x2 - o.x.c) + 0
    omega
  · show ((y0 + (-1) - o.y.a) + ((y1 - o.y.b) + ((y2 + (-1) - o.y.c) + 0))) / 2 - (y0 + (-1) - o.y.a) = ((y0 - o.y.a) + ((y1 - o.y.b) + ((y2 - o.y.c) + 0))) / 2 - (y0 - o.y.a) + 0
    omega
theorem cnt_40 (o : S3) (x0 x1 x2 y0 y1 y2 : Int) (f : T3) : ∀ k : Fin 6, (tal o (tip ⟨4, ⟨x0, x1, x2⟩, ⟨y0, y1, y2⟩, f⟩ 0)).f k = (tal o ⟨4, ⟨x0, x1, x2⟩, ⟨y0, y1, y2⟩, f⟩).f k + (if k = ovr 4 0 then byw 0 else 0) := by
  refine all6 ?_ ?_ ?_ ?_ ?_ ?_
  · show ((x0 + 1 - o.x.a) + ((x1 + 1 - o.x.b) + ((x2 - o.x.c) + 0))) / 2 - (x1 + 1 - o.x.b) = ((x0 - o.x.a) + ((x1 - o.x.b) + ((x2 - o.x.c) + 0))) / 2 - (x1 - o.x.b) + 0
    omega
  · show ((y0 - o.y.a) + ((y1 - o.y.b) + ((y2 - o.y.c) + 0))) / 2 - (y2 - o.y.c) = ((y0 - o.y.a) + ((y1 - o.y.b) + ((y2 - o.y.c) + 0))) / 2 - (y2 - o.y.c) + 0
    omega
  · show ((x0 + 1 - o.x.a) + ((x1 + 1 - o.x.b) + ((x2 - o.x.c) + 0))) / 2 - (x0 + 1 - o.x.a) = ((x0 - o.x.a) + ((x1 - o.x.b) + ((x2 - o.x.c) + 0))) / 2 - (x0 - o.x.a) + 0
    omega
  · show ((y0 - o.y.a) + ((y1 - o.y.b) + ((y2 - o.y.c) + 0))) / 2 - (y1 - o.y.b) = ((y0 - o.y.a) + ((y1 - o.y.b) + ((y2 - o.y.c) + 0))) / 2 - (y1 - o.y.b) + 0
    omega
  · show ((x0 + 1 - o.x.a) + ((x1 + 1 - o.x.b) + ((x2 - o.x.c) + 0))) / 2 - (x2 - o.x.c) = ((x0 - o.x.a) + ((x1 - o.x.b) + ((x2 - o.x.c) + 0))) / 2 - (x2 - o.x.c) + 1
    omega
  · show ((y0 - o.y.a) + ((y1 - o.y.b) + ((y2 - o.y.c) + 0))) / 2 - (y0 - o.y.a) = ((y0 - o.y.a) + ((y1 - o.y.b) + ((y2 - o.y.c) + 0))) / 2 - (y0 - o.y.a) + 0
    omega
theorem cnt_41 (o : S3) (x0 x1 x2 y0 y1 y2 : Int) (f : T3) : ∀ k : Fin 6, (tal o (tip ⟨4, ⟨x0, x1, x2⟩, ⟨y0, y1, y2⟩, f⟩ 1)).f k = (tal o ⟨4, ⟨x0, x1, x2⟩, ⟨y0, y1, y2⟩, f⟩).f k + (if k = ovr 4 1 then byw 1 else 0) := by
  refine all6 ?_ ?_ ?_ ?_ ?_ ?_
  · show ((x0 - o.x.a) + ((x1 - o.x.b) + ((x2 - o.x.c) + 0))) / 2 - (x1 - o.x.b) = ((x0 - o.x.a) + ((x1 - o.x.b) + ((x2 - o.x.c) + 0))) / 2 - (x1 - o.x.b) + 0
    omega
  · show ((y0 + 1 - o.y.a) + ((y1 - o.y.b) + ((y2 + 1 - o.y.c) + 0))) / 2 - (y2 + 1 - o.y.c) = ((y0 - o.y.a) + ((y1 - o.y.b) + ((y2 - o.y.c) + 0))) / 2 - (y2 - o.y.c) + 0
    omega
  · show ((x0 - o.x.a) + ((x1 - o.x.b) + ((x2 - o.x.c) + 0))) / 2 - (x0 - o.x.a) = ((x0 - o.x.a) + ((x1 - o.x.b) + ((x2 - o.x.c) + 0))) / 2 - (x0 - o.x.a) + 0
    omega
  · show ((y0 + 1 - o.y.a) + ((y1 - o.y.b) + ((y2 + 1 - o.y.c) + 0))) / 2 - (y1 - o.y.b) = ((y0 - o.y.a) + ((y1 - o.y.b) + ((y2 - o.y.c) + 0))) / 2 - (y1 - o.y.b) + 1
    omega
  · show ((x0 - o.x.a) + ((x1 - o.x.b) + ((x2 - o.x.c) + 0))) / 2 - (x2 - o.x.c) = ((x0 - o.x.a) + ((x1 - o.x.b) + ((x2 - o.x.c) + 0))) / 2 - (x2 - o.x.c) + 0
    omega
  · show ((y0 + 1 - o.y.a) + ((y1 - o.y.b) + ((y2 + 1 - o.y.c) + 0))) / 2 - (y0 + 1 - o.y.a) = ((y0 - o.y.a) + ((y1 - o.y.b) + ((y2 - o.y.c) + 0))) / 2 - (y0 - o.y.a) + 0
    omega
theorem cnt_42 (o : S3) (x0 x1 x2 y0 y1 y2 : Int) (f : T3) : ∀ k : Fin 6, (tal o (tip ⟨4, ⟨x0, x1, x2⟩, ⟨y0, y1, y2⟩, f⟩ 2)).f k = (tal o ⟨4, ⟨x0, x1, x2⟩, ⟨y0, y1, y2⟩, f⟩).f k + (if k = ovr 4 2 then byw 2 else 0) := by
  refine all6 ?_ ?_ ?_ ?_ ?_ ?_
  · show ((x0 + (-1) - o.x.a) + ((x1 + (-1) - o.x.b) + ((x2 - o.x.c) + 0))) / 2 - (x1 + (-1) - o.x.b) = ((x0 - o.x.a) + ((x1 - o.x.b) + ((x2 - o.x.c) + 0))) / 2 - (x1 - o.x.b) + 0
    omega
  · show ((y0 - o.y.a) + ((y1 - o.y.b) + ((y2 - o.y.c) + 0))) / 2 - (y2 - o.y.c) = ((y0 - o.y.a) + ((y1 - o.y.b) + ((y2 - o.y.c) + 0))) / 2 - (y2 - o.y.c) + 0
    omega
  · show ((x0 + (-1) - o.x.a) + ((x1 + (-1) - o.x.b) + ((x2 - o.x.c) + 0))) / 2 - (x0 + (-1) - o.x.a) = ((x0 - o.x.a) + ((x1 - o.x.b) + ((x2 - o.x.c) + 0))) / 2 - (x0 - o.x.a) + 0
    omega
  · show ((y0 - o.y.a) + ((y1 - o.y.b) + ((y2 - o.y.c) + 0))) / 2 - (y1 - o.y.b) = ((y0 - o.y.a) + ((y1 - o.y.b) + ((y2 - o.y.c) + 0))) / 2 - (y1 - o.y.b) + 0
    omega
  · show ((x0 + (-1) - o.x.a) + ((x1 + (-1) - o.x.b) + ((x2 - o.x.c) + 0))) / 2 - (x2 - o.x.c) = ((x0 - o.x.a) + ((x1 - o.x.b) + ((x2 - o.x.c) + 0))) / 2 - (x2 - o.x.c) + (-1)
    omega
  · show ((y0 - o.y.a) + ((y1 - o.y.b) + ((y2 - o.y.c) + 0))) / 2 - (y0 - o.y.a) = ((y0 - o.y.a) + ((y1 - o.y.b) + ((y2 - o.y.c) + 0))) / 2 - (y0 - o.y.a) + 0
    omega
theorem cnt_43 (o : S3) (x0 x1 x2 y0 y1 y2 : Int) (f : T3) : ∀ k : Fin 6, (tal o (tip ⟨4, ⟨x0, x1, x2⟩, ⟨y0, y1, y2⟩, f⟩ 3)).f k = (tal o ⟨4, ⟨x0, x1, x2⟩, ⟨y0, y1, y2⟩, f⟩).f k + (if k = ovr 4 3 then byw 3 else 0) := by
  refine all6 ?_ ?_ ?_ ?_ ?_ ?_
  · show ((x0 - o.x.a) + ((x1 - o.x.b) + ((x2 - o.x.c) + 0))) / 2 - (x1 - o.x.b) = ((x0 - o.x.a) + ((x1 - o.x.b) + ((x2 - o.x.c) + 0))) / 2 - (x1 - o.x.b) + 0
    omega
  · show ((y0 + (-1) - o.y.a) + ((y1 - o.y.b) + ((y2 + (-1) - o.y.c) + 0))) / 2 - (y2 + (-1) - o.y.c) = ((y0 - o.y.a) + ((y1 - o.y.b) + ((y2 - o.y.c) + 0))) / 2 - (y2 - o.y.c) + 0
    omega
  · show ((x0 - o.x.a) + ((x1 - o.x.b) + ((x2 - o.x.c) + 0))) / 2 - (x0 - o.x.a) = ((x0 - o.x.a) + ((x1 - o.x.b) + ((x2 - o.x.c) + 0))) / 2 - (x0 - o.x.a) + 0
    omega
  · show ((y0 + (-1) - o.y.a) + ((y1 - o.y.b) + ((y2 + (-1) - o.y.c) + 0))) / 2 - (y1 - o.y.b) = ((y0 - o.y.a) + ((y1 - o.y.b) + ((y2 - o.y.c) + 0))) / 2 - (y1 - o.y.b) + (-1)
    omega
  · show ((x0 - o.x.a) + ((x1 - o.x.b) + ((x2 - o.x.c) + 0))) / 2 - (x2 - o.x.c) = ((x0 - o.x.a) + ((x1 - o.x.b) + ((x2 - o.x.c) + 0))) / 2 - (x2 - o.x.c) + 0
    omega
  · show ((y0 + (-1) - o.y.a) + ((y1 - o.y.b) + ((y2 + (-1) - o.y.c) + 0))) / 2 - (y0 + (-1) - o.y.a) = ((y0 - o.y.a) + ((y1 - o.y.b) + ((y2 - o.y.c) + 0))) / 2 - (y0 - o.y.a) + 0
    omega
theorem cnt_50 (o : S3) (x0 x1 x2 y0 y1 y2 : Int) (f : T3) : ∀ k : Fin 6, (tal o (tip ⟨5, ⟨x0, x1, x2⟩, ⟨y0, y1, y2⟩, f⟩ 0)).f k = (tal o ⟨5, ⟨x0, x1, x2⟩, ⟨y0, y1, y2⟩, f⟩).f k + (if k = ovr 5 0 then byw 0 else 0) := by
  refine all6 ?_ ?_ ?_ ?_ ?_ ?_
  · show ((x0 + 1 - o.x.a) + ((x1 + 1 - o.x.b) + ((x2 - o.x.c) + 0))) / 2 - (x1 + 1 - o.x.b) = ((x0 - o.x.a) + ((x1 - o.x.b) + ((x2 - o.x.c) + 0))) / 2 - (x1 - o.x.b) + 0
    omega
  · show ((y0 - o.y.a) + ((y1 - o.y.b) + ((y2 - o.y.c) + 0))) / 2 - (y2 - o.y.c) = ((y0 - o.y.a) + ((y1 - o.y.b) + ((y2 - o.y.c) + 0))) / 2 - (y2 - o.y.c) + 0
    omega
  · show ((x0 + 1 - o.x.a) + ((x1 + 1 - o.x.b) + ((x2 - o.x.c) + 0))) / 2 - (x0 + 1 - o.x.a) = ((x0 - o.x.a) + ((x1 - o.x.b) + ((x2 - o.x.c) + 0))) / 2 - (x0 - o.x.a) + 0
    omega
  · show ((y0 - o.y.a) + ((y1 - o.y.b) + ((y2 - o.y.c) + 0))) / 2 - (y1 - o.y.b) = ((y0 - o.y.a) + ((y1 - o.y.b) + ((y2 - o.y.c) + 0))) / 2 - (y1 - o.y.b) + 0
    omega
  · show ((x0 + 1 - o.x.a) + ((x1 + 1 - o.x.b) + ((x2 - o.x.c) + 0))) / 2 - (x2 - o.x.c) = ((x0 - o.x.a) + ((x1 - o.x.b) + ((x2 - o.x.c) + 0))) / 2 - (x2 - o.x.c) + 1
    omega
  · show ((y0 - o.y.a) + ((y1 - o.y.b) + ((y2 - o.y.c) + 0))) / 2 - (y0 - o.y.a) = ((y0 - o.y.a) + ((y1 - o.y.b) + ((y2 - o.y.c) + 0))) / 2 - (y0 - o.y.a) + 0
    omega
theorem cnt_51 (o : S3) (x0 x1 x2 y0 y1 y2 : Int) (f : T3) : ∀ k : Fin 6, (tal o (tip ⟨5, ⟨x0, x1, x2⟩, ⟨y0, y1, y2⟩, f⟩ 1)).f k = (tal o ⟨5, ⟨x0, x1, x2⟩, ⟨y0, y1, y2⟩, f⟩).f k + (if k = ovr 5 1 then byw 1 else 0) := by
  refine all6 ?_ ?_ ?_ ?_ ?_ ?_
  · show ((x0 - o.x.a) + ((x1 - o.x.b) + ((x2 - o.x.c) + 0))) / 2 - (x1 - o.x.b) = ((x0 - o.x.a) + ((x1 - o.x.b) + ((x2 - o.x.c) + 0))) / 2 - (x1 - o.x.b) + 0
    omega
  · show ((y0 - o.y.a) + ((y1 + 1 - o.y.b) + ((y2 + 1 - o.y.c) + 0))) / 2 - (y2 + 1 - o.y.c) = ((y0 - o.y.a) + ((y1 - o.y.b) + ((y2 - o.y.c) + 0))) / 2 - (y2 - o.y.c) + 0
    omega
  · show ((x0 - o.x.a) + ((x1 - o.x.b) + ((x2 - o.x.c) + 0))) / 2 - (x0 - o.x.a) = ((x0 - o.x.a) + ((x1 - o.x.b) + ((x2 - o.x.c) + 0))) / 2 - (x0 - o.x.a) + 0
    omega
  · show ((y0 - o.y.a) + ((y1 + 1 - o.y.b) + ((y2 + 1 - o.y.c) + 0))) / 2 - (y1 + 1 - o.y.b) = ((y0 - o.y.a) + ((y1 - o.y.b) + ((y2 - o.y.c) + 0))) / 2 - (y1 - o.y.b) + 0
    omega
  · show ((x0 - o.x.a) + ((x1 - o.x.b) + ((x2 - o.x.c) + 0))) / 2 - (x2 - o.x.c) = ((x0 - o.x.a) + ((x1 - o.x.b) + ((x2 - o.x.c) + 0))) / 2 - (x2 - o.x.c) + 0
    omega
  · show ((y0 - o.y.a) + ((y1 + 1 - o.y.b) + ((y2 + 1 - o.y.c) + 0))) / 2 - (y0 - o.y.a) = ((y0 - o.y.a) + ((y1 - o.y.b) + ((y2 - o.y.c) + 0))) / 2 - (y0 - o.y.a) + 1
    omega
theorem cnt_52 (o : S3) (x0 x1 x2 y0 y1 y2 : Int) (f : T3) : ∀ k : Fin 6, (tal o (tip ⟨5, ⟨x0, x1, x2⟩, ⟨y0, y1, y2⟩, f⟩ 2)).f k = (tal o ⟨5, ⟨x0, x1, x2⟩, ⟨y0, y1, y2⟩, f⟩).f k + (if k = ovr 5 2 then byw 2 else 0) := by
  refine all6 ?_ ?_ ?_ ?_ ?_ ?_
  · show ((x0 + (-1) - o.x.a) + ((x1 + (-1) - o.x.b) + ((x2 - o.x.c) + 0))) / 2 - (x1 + (-1) - o.x.b) = ((x0 - o.x.a) + ((x1 - o.x.b) + ((x2 - o.x.c) + 0))) / 2 - (x1 - o.x.b) + 0
    omega
  · show ((y0 - o.y.a) + ((y1 - o.y.b) + ((y2 - o.y.c) + 0))) / 2 - (y2 - o.y.c) = ((y0 - o.y.a) + ((y1 - o.y.b) + ((y2 - o.y.c) + 0))) / 2 - (y2 - o.y.c) + 0
    omega
  · show ((x0 + (-1) - o.x.a) + ((x1 + (-1) - o.x.b) + ((x2 - o.x.c) + 0))) / 2 - (x0 + (-1) - o.x.a) = ((x0 - o.x.a) + ((x1 - o.x.b) + ((x2 - o.x.c) + 0))) / 2 - (x0 - o.x.a) + 0
    omega
  · show ((y0 - o.y.a) + ((y1 - o.y.b) + ((y2 - o.y.c) + 0))) / 2 - (y1 - o.y.b) = ((y0 - o.y.a) + ((y1 - o.y.b) + ((y2 - o.y.c) + 0))) / 2 - (y1 - o.y.b) + 0
    omega
  · show ((x0 + (-1) - o.x.a) + ((x1 + (-1) - o.x.b) + ((x2 - o.x.c) + 0))) / 2 - (x2 - o.x.c) = ((x0 - o.x.a) + ((x1 - o.x.b) + ((x2 - o.x.c) + 0))) / 2 - (x2 - o.x.c) + (-1)
    omega
  · show ((y0 - o.y.a) + ((y1 - o.y.b) + ((y2 - o.y.c) + 0))) / 2 - (y0 - o.y.a) = ((y0 - o.y.a) + ((y1 - o.y.b) + ((y2 - o.y.c) + 0))) / 2 - (y0 - o.y.a) + 0
    omega
theorem cnt_53 (o : S3) (x0 x1 x2 y0 y1 y2 : Int) (f : T3) : ∀ k : Fin 6, (tal o (tip ⟨5, ⟨x0, x1, x2⟩, ⟨y0, y1, y2⟩, f⟩ 3)).f k = (tal o ⟨5, ⟨x0, x1, x2⟩, ⟨y0, y1, y2⟩, f⟩).f k + (if k = ovr 5 3 then byw 3 else 0) := by
  refine all6 ?_ ?_ ?_ ?_ ?_ ?_
  · show ((x0 - o.x.a) + ((x1 - o.x.b) + ((x2 - o.x.c) + 0))) / 2 - (x1 - o.x.b) = ((x0 - o.x.a) + ((x1 - o.x.b) + ((x2 - o.x.c) + 0))) / 2 - (x1 - o.x.b) + 0
    omega
  · show ((y0 - o.y.a) + ((y1 + (-1) - o.y.b) + ((y2 + (-1) - o.y.c) + 0))) / 2 - (y2 + (-1) - o.y.c) = ((y0 - o.y.a) + ((y1 - o.y.b) + ((y2 - o.y.c) + 0))) / 2 - (y2 - o.y.c) + 0
    omega
  · show ((x0 - o.x.a) + ((x1 - o.x.b) + ((x2 - o.x.c) + 0))) / 2 - (x0 - o.x.a) = ((x0 - o.x.a) + ((x1 - o.x.b) + ((x2 - o.x.c) + 0))) / 2 - (x0 - o.x.a) + 0
    omega
  · show ((y0 - o.y.a) + ((y1 + (-1) - o.y.b) + ((y2 + (-1) - o.y.c) + 0))) / 2 - (y1 + (-1) - o.y.b) = ((y0 - o.y.a) + ((y1 - o.y.b) + ((y2 - o.y.c) + 0))) / 2 - (y1 - o.y.b) + 0
    omega
  · show ((x0 - o.x.a) + ((x1 - o.x.b) + ((x2 - o.x.c) + 0))) / 2 - (x2 - o.x.c) = ((x0 - o.x.a) + ((x1 - o.x.b) + ((x2 - o.x.c) + 0))) / 2 - (x2 - o.x.c) + 0
    omega
  · show ((y0 - o.y.a) + ((y1 + (-1) - o.y.b) + ((y2 + (-1) - o.y.c) + 0))) / 2 - (y0 - o.y.a) = ((y0 - o.y.a) + ((y1 - o.y.b) + ((y2 - o.y.c) + 0))) / 2 - (y0 - o.y.a) + (-1)
    omega
theorem cnt_tip (o s : S3) (w : Fin 4) (k : Fin 6) : (tal o (tip s w)).f k = (tal o s).f k + (if k = ovr s.p w then byw w else 0) := by
  obtain ⟨p, ⟨x0, x1, x2⟩, ⟨y0, y1, y2⟩, f⟩ := s
  revert k
  revert p
  refine all6 ?_ ?_ ?_ ?_ ?_ ?_ <;> revert w <;> refine all4 ?_ ?_ ?_ ?_
  · exact cnt_00 o x0 x1 x2 y0 y1 y2 f
  · exact cnt_01 o x0 x1 x2 y0 y1 y2 f
  · exact cnt_02 o x0 x1 x2 y0 y1 y2 f
  · exact cnt_03 o x0 x1 x2 y0 y1 y2 f
  · exact cnt_10 o x0 x1 x2 y0 y1 y2 f
  · exact cnt_11 o x0 x1 x2 y0 y1 y2 f
  · exact cnt_12 o x0 x1 x2 y0 y1 y2 f
  · exact cnt_13 o x0 x1 x2 y0 y1 y2 f
  · exact cnt_20 o x0 x1 x2 y0 y1 y2 f
  · exact cnt_21 o x0 x1 x2 y0 y1 y2 f
  · exact cnt_22 o x0 x1 x2 y0 y1 y2 f
  · exact cnt_23 o x0 x1 x2 y0 y1 y2 f
  · exact cnt_30 o x0 x1 x2 y0 y1 y2 f
  · exact cnt_31 o x0 x1 x2 y0 y1 y2 f
  · exact cnt_32 o x0 x1 x2 y0 y1 y2 f
  · exact cnt_33 o x0 x1 x2 y0 y1 y2 f
  · exact cnt_40 o x0 x1 x2 y0 y1 y2 f
  · exact cnt_41 o x0 x1 x2 y0 y1 y2 f
  · exact cnt_42 o x0 x1 x2 y0 y1 y2 f
  · exact cnt_43 o x0 x1 x2 y0 y1 y2 f
  · exact cnt_50 o x0 x1 x2 y0 y1 y2 f
  · exact cnt_51 o x0 x1 x2 y0 y1 y2 f
  · exact cnt_52 o x0 x1 x2 y0 y1 y2 f
  · exact cnt_53 o x0 x1 x2 y0 y1 y2 f
theorem stand_eq {o s t : S3} (hs : Lead o s) (ht : Lead o t) (hp : s.p = t.p) (hc : ∀ k, (tal o s).f k = (tal o t).f k) : s = t := by
  obtain ⟨A, B, h⟩ := hs
  obtain ⟨A', B', h'⟩ := ht
  have sx := h.sx
  have sy := h.sy
  have sx' := h'.sx
  have sy' := h'.sy
  have c0 : (dT o.x s.x).s / 2 - (s.x.b - o.x.b) = (dT o.x t.x).s / 2 - (t.x.b - o.x.b) := hc 0
  have c1 : (dT o.y s.y).s / 2 - (s.y.c - o.y.c) = (dT o.y t.y).s / 2 - (t.y.c - o.y.c) := hc 1
  have c2 : (dT o.x s.x).s / 2 - (s.x.a - o.x.a) = (dT o.x t.x).s / 2 - (t.x.a - o.x.a) := hc 2
  have c3 : (dT o.y s.y).s / 2 - (s.y.b - o.y.b) = (dT o.y t.y).s / 2 - (t.y.b - o.y.b) := hc 3
  have c4 : (dT o.x s.x).s / 2 - (s.x.c - o.x.c) = (dT o.x t.x).s / 2 - (t.x.c - o.x.c) := hc 4
  have c5 : (dT o.y s.y).s / 2 - (s.y.a - o.y.a) = (dT o.y t.y).s / 2 - (t.y.a - o.y.a) := hc 5
  rw [sx, sx'] at c0 c2 c4
  rw [sy, sy'] at c1 c3 c5
  have ex : s.x.a - o.x.a + (s.x.b - o.x.b + (s.x.c - o.x.c + 0)) = 2 * (A.a + A.b + A.c) := sx
  have ex' : t.x.a - o.x.a + (t.x.b - o.x.b + (t.x.c - o.x.c + 0)) = 2 * (A'.a + A'.b + A'.c) := sx'
  have ey : s.y.a - o.y.a + (s.y.b - o.y.b + (s.y.c - o.y.c + 0)) = 2 * (B.a + B.b + B.c) := sy
  have ey' : t.y.a - o.y.a + (t.y.b - o.y.b + (t.y.c - o.y.c + 0)) = 2 * (B'.a + B'.b + B'.c) := sy'
  obtain ⟨h1, h2, h3, h4, h5, h6, h7, h8, h9, _⟩ := h
  obtain ⟨k1, k2, k3, k4, k5, k6, k7, k8, k9, _⟩ := h'
  rw [hp] at h1 h2 h3 h4 h5 h6
  obtain ⟨sp, ⟨sxa, sxb, sxc⟩, ⟨sya, syb, syc⟩, ⟨sfa, sfb, sfc⟩⟩ := s
  obtain ⟨tp, ⟨txa, txb, txc⟩, ⟨tya, tyb, tyc⟩, ⟨tfa, tfb, tfc⟩⟩ := t
  dsimp only at *
  have q1 : sxa = txa := by clear h7 h8 h9 k7 k8 k9; omega
  have q2 : sxb = txb := by clear h7 h8 h9 k7 k8 k9; omega
  have q3 : sxc = txc := by clear h7 h8 h9 k7 k8 k9; omega
  have q4 : sya = tya := by clear h7 h8 h9 k7 k8 k9; omega
  have q5 : syb = tyb := by clear h7 h8 h9 k7 k8 k9; omega
  have q6 : syc = tyc := by clear h7 h8 h9 k7 k8 k9; omega
  subst q1 q2 q3 q4 q5 q6 hp
  have a1 : A.a = A'.a := by clear h7 h8 h9 k7 k8 k9; omega
  have a2 : A.b = A'.b := by clear h7 h8 h9 k7 k8 k9; omega
  have a3 : A.c = A'.c := by clear h7 h8 h9 k7 k8 k9; omega
  have b1 : B.a = B'.a := by clear h7 h8 h9 k7 k8 k9; omega
  have b2 : B.b = B'.b := by clear h7 h8 h9 k7 k8 k9; omega
  have b3 : B.c = B'.c := by clear h7 h8 h9 k7 k8 k9; omega
  rw [a1, b1] at h7
  rw [a2, b2] at h8
  rw [a3, b3] at h9
  unfold Par at h7 h8 h9 k7 k8 k9
  have f1 : sfa = tfa := by omega
  have f2 : sfb = tfb := by omega
  have f3 : sfc = tfc := by omega
  rw [f1, f2, f3]
end DL

/-! P14: no walk is cheaper than the price. -/
namespace DL
open PySem PySem.Spec PyProof.Rows L2

def trav (s : S3) : List (Fin 4) → Fin 6 → Int
  | [], _ => 0
  | w :: ws, k => (if k = ovr s.p w then 1 else 0) + trav (tip s w) ws k
theorem trav_nn : ∀ (us : List (Fin 4)) (s : S3) (k : Fin 6), 0 ≤ trav s us k
  | [], s, k => Int.le_refl _
  | w :: us, s, k => by
    unfold trav
    have := trav_nn us (tip s w) k
    split <;> omega
theorem sum_one (t f : Fin 6 → Int) : ∀ j : Fin 6, (allk.map fun k => ((if k = j then 1 else 0) + t k) * f k).sum = f j + (allk.map fun k => t k * f k).sum := by
  have e0 : (allk.map fun k => t k * f k).sum = t 0 * f 0 + (t 1 * f 1 + (t 2 * f 2 + (t 3 * f 3 + (t 4 * f 4 + (t 5 * f 5 + 0))))) := rfl
  rw [e0]
  refine all6 ?_ ?_ ?_ ?_ ?_ ?_
  · show (1 + t 0) * f 0 + ((0 + t 1) * f 1 + ((0 + t 2) * f 2 + ((0 + t 3) * f 3 + ((0 + t 4) * f 4 + ((0 + t 5) * f 5 + 0))))) = _
    simp only [Int.add_mul, Int.one_mul, Int.zero_mul, Int.zero_add]
    omega
  · show (0 + t 0) * f 0 + ((1 + t 1) * f 1 + ((0 + t 2) * f 2 + ((0 + t 3) * f 3 + ((0 + t 4) * f 4 + ((0 + t 5) * f 5 + 0))))) = _
    simp only [Int.add_mul, Int.one_mul, Int.zero_mul, Int.zero_add]
    omega
  · show (0 + t 0) * f 0 + ((0 + t 1) * f 1 + ((1 + t 2) * f 2 + ((0 + t 3) * f 3 + ((0 + t 4) * f 4 + ((0 + t 5) * f 5 + 0))))) = _
    simp only [Int.add_mul, Int.one_mul, Int.zero_mul, Int.zero_add]
    omega
  · show (0 + t 0) * f 0 + ((0 + t 1) * f 1 + ((0 + t 2) * f 2 + ((1 + t 3) * f 3 + ((0 + t 4) * f 4 + ((0 + t 5) * f 5 + 0))))) = _
    simp only [Int.add_mul, Int.one_mul, Int.zero_mul, Int.zero_add]
    omega
  · show (0 + t 0) * f 0 + ((0 + t 1) * f 1 + ((0 + t 2) * f 2 + ((0 + t 3) * f 3 + ((1 + t 4) * f 4 + ((0 + t 5) * f 5 + 0))))) = _
    simp only [Int.add_mul, Int.one_mul, Int.zero_mul, Int.zero_add]
    omega
  · show (0 + t 0) * f 0 + ((0 + t 1) * f 1 + ((0 + t 2) * f 2 + ((0 + t 3) * f 3 + ((0 + t 4) * f 4 + ((1 + t 5) * f 5 + 0))))) = _
    simp only [Int.add_mul, Int.one_mul, Int.zero_mul, Int.zero_add]
    omega
theorem fee_trav (F : P6) : ∀ (us : List (Fin 4)) (s : S3), feeS F s us = (allk.map fun k => trav s us k * F.f k).sum
  | [], s => by
    show (0 : Int) = 0 * F.f 0 + (0 * F.f 1 + (0 * F.f 2 + (0 * F.f 3 + (0 * F.f 4 + (0 * F.f 5 + 0)))))
    simp only [Int.zero_mul]
    rfl
  | w :: us, s => by
    unfold feeS
    rw [fee_trav F us (tip s w), ← sum_one]
    rfl
theorem byw_pm : ∀ w, byw w = 1 ∨ byw w = -1 := by decide
theorem trav_cons (s : S3) (w : Fin 4) (us : List (Fin 4)) (k : Fin 6) : trav s (w :: us) k = (if k = ovr s.p w then 1 else 0) + trav (tip s w) us k := rfl
theorem cnt_walk (o : S3) (k : Fin 6) : ∀ (us : List (Fin 4)) (s : S3), ∃ d : Int, (tal o (tips s us)).f k = (tal o s).f k + d ∧ -(trav s us k) ≤ d ∧ d ≤ trav s us k ∧ (d + trav s us k) % 2 = 0
  | [], s => ⟨0, by simp [tips], by simp [trav], by simp [trav], by simp [trav]⟩
  | w :: us, s => by
    obtain ⟨d, h1, h2, h3, h4⟩ := cnt_walk o k us (tip s w)
    have hb := byw_pm w
    unfold tips trav
    rw [h1, cnt_tip]
    by_cases hk : k = ovr s.p w
    · rw [if_pos hk, if_pos hk]
      rcases hb with hb | hb <;> rw [hb]
      · exact ⟨1 + d, by omega, by omega, by omega, by omega⟩
      · exact ⟨-1 + d, by omega, by omega, by omega, by omega⟩
    · rw [if_neg hk, if_neg hk]
      exact ⟨d, by omega, by omega, by omega, by omega⟩
theorem tal_self (o : S3) (k : Fin 6) : (tal o o).f k = 0 := by
  revert k
  refine all6 ?_ ?_ ?_ ?_ ?_ ?_
  · show (o.x.a - o.x.a + (o.x.b - o.x.b + (o.x.c - o.x.c + 0))) / 2 - (o.x.b - o.x.b) = 0
    omega
  · show (o.y.a - o.y.a + (o.y.b - o.y.b + (o.y.c - o.y.c + 0))) / 2 - (o.y.c - o.y.c) = 0
    omega
  · show (o.x.a - o.x.a + (o.x.b - o.x.b + (o.x.c - o.x.c + 0))) / 2 - (o.x.a - o.x.a) = 0
    omega
  · show (o.y.a - o.y.a + (o.y.b - o.y.b + (o.y.c - o.y.c + 0))) / 2 - (o.y.b - o.y.b) = 0
    omega
  · show (o.x.a - o.x.a + (o.x.b - o.x.b + (o.x.c - o.x.c + 0))) / 2 - (o.x.c - o.x.c) = 0
    omega
  · show (o.y.a - o.y.a + (o.y.b - o.y.b + (o.y.c - o.y.c + 0))) / 2 - (o.y.a - o.y.a) = 0
    omega
def all4k : List (Fin 4) := [0, 1, 2, 3]
theorem mem4 (w : Fin 4) : w ∈ all4k := by revert w; decide
theorem htt_grow : (allPQ fun p q => (htt p q).all fun m => all4k.all fun w => (htt p (nxt q w)).any fun n => allk.all fun k => bitK n k == (bitK m k || decide (k = ovr q w))) = true := by decide +kernel
theorem htt_zero : (allk.all fun p => (htt p p).any fun n => allk.all fun k => !bitK n k) = true := by decide +kernel
theorem htt_walk (p : Fin 6) : ∀ (us : List (Fin 4)) (s : S3) (m : Nat), m ∈ htt p s.p → ∃ n ∈ htt p (tips s us).p, ∀ k, bitK n k = (bitK m k || decide (0 < trav s us k))
  | [], s, m, hm => ⟨m, hm, fun k => by simp [trav]⟩
  | w :: us, s, m, hm => by
    have h := List.all_eq_true.mp (allPQ_ok htt_grow p s.p) m hm
    obtain ⟨n, hn, hk⟩ := List.any_eq_true.mp (List.all_eq_true.mp h w (mem4 w))
    have hp : (tip s w).p = nxt s.p w := by unfold tip; split <;> rfl
    obtain ⟨n', hn', hk'⟩ := htt_walk p us (tip s w) n (by rw [hp]; exact hn)
    refine ⟨n', hn', fun k => ?_⟩
    rw [hk' k, eq_of_beq (List.all_eq_true.mp hk k (mem_allk k))]
    have := trav_nn us (tip s w) k
    rw [trav_cons]
    by_cases e : k = ovr s.p w
    · rw [if_pos e, decide_eq_true e, decide_eq_true (by omega : 0 < 1 + trav (tip s w) us k)]
      simp
    · rw [if_neg e, decide_eq_false e, Int.zero_add]
      simp
/-- no walk to t is cheaper -/
theorem price_le {o : S3} {F : P6} (hF : F.Ok) {a b : Int} (us : List (Fin 4)) (hl : ∀ U ∈ cand (Eb o.p (tips o us).p) (Zf (tal o (tips o us))), lexle (a, b) (prc (tal o (tips o us)) F U)) : a ≤ feeS F o us := by
  obtain ⟨z, hz, hzk⟩ := List.any_eq_true.mp (List.all_eq_true.mp htt_zero o.p (mem_allk o.p))
  obtain ⟨n, hn, hk⟩ := htt_walk o.p us o z hz
  have hk : ∀ k, bitK n k = decide (0 < trav o us k) := fun k => by
    have h1 := List.all_eq_true.mp hzk k (mem_allk k)
    have h2 : bitK z k = false := by simpa using h1
    rw [hk k, h2]
    simp
  have hcnt : ∀ k, -(trav o us k) ≤ (tal o (tips o us)).f k ∧ (tal o (tips o us)).f k ≤ trav o us k ∧ ((tal o (tips o us)).f k + trav o us k) % 2 = 0 := fun k => by
    obtain ⟨d, h1, h2, h3, h4⟩ := cnt_walk o k us o
    rw [tal_self, Int.zero_add] at h1
    rw [h1]
    exact ⟨h2, h3, h4⟩
  generalize tips o us = t at *
  generalize tal o t = C at *
  have d := List.all_eq_true.mp (allZ_ok (allPQ_ok chk2 o.p t.p) (Zf C)) n hn
  have hall : (allk.all fun k => Zf C k || bitK n k) = true := List.all_eq_true.mpr fun k _ => by
    cases hz : Zf C k with
    | true => rfl
    | false =>
      have h0 : C.f k ≠ 0 := by
        unfold Zf at hz
        simpa using hz
      have := hcnt k
      rw [hk k, decide_eq_true (by omega)]
      rfl
  rw [hall] at d
  obtain ⟨U, hU, hUk⟩ := List.any_eq_true.mp (show ((cand (Eb o.p t.p) (Zf C)).any fun T => allk.all fun k => T.contains k || bitK n k) = true from d)
  have c1 := allZ_ok (allPQ_ok chk1 o.p t.p) (Zf C)
  have hzU : ∀ k ∈ U, Zf C k = true := by
    have := List.all_eq_true.mp c1 U hU
    exact List.all_eq_true.mp ((Bool.and_eq_true _ _).mp this).1
  have h2 : lexle (prc C F U) (val C F (bitK n)) := by
    rw [p_val C F U hzU]
    refine val_mono C F hF fun k hk => ?_
    have := List.all_eq_true.mp hUk k (mem_allk k)
    have hk' : U.contains k = false := by simpa using hk
    rw [hk'] at this
    simpa using this
  have h3 : (val C F (bitK n)).1 ≤ feeS F o us := by
    rw [fee_trav]
    refine sum_le (f := fun k => if bitK n k = true then oo C k * F.f k else 0) (g := fun k => trav o us k * F.f k) (fun k => ?_) allk
    have hf := hF k
    have ht := trav_nn us o k
    have hc := hcnt k
    by_cases hb : 0 < trav o us k
    · rw [hk k, decide_eq_true hb, if_pos rfl]
      refine Int.mul_le_mul_of_nonneg_right ?_ hf
      unfold oo ab
      by_cases h0 : C.f k = 0
      · rw [h0]
        rw [h0] at hc
        simp
        omega
      · have hb' : (C.f k == 0) = false := by simpa using h0
        rw [hb']
        simp
        split <;> omega
    · rw [hk k, decide_eq_false hb, if_neg (by decide)]
      exact Int.mul_nonneg ht hf
  have h4 := (hl U hU).trans h2
  unfold lexle at h4
  dsimp only at h4
  omega
end DL

/-! P15: paths inside the box, by a finite search. -/
namespace DL
open PySem PySem.Spec PyProof.Rows L2

/-- the counts as a list of six -/
def bump (c : List Int) (k : Fin 6) (d : Int) : List Int := c.set k.val (c.getD k.val 0 + d)
def loB (e : Int) : Int := if e < 0 then e else 0
def hiB (e : Int) : Int := if e = 0 then 1 else if e < 0 then 0 else e
def inBox (E c : List Int) : Bool := allk.all fun k => decide (loB (E.getD k.val 0) ≤ c.getD k.val 0) && decide (c.getD k.val 0 ≤ hiB (E.getD k.val 0))
def fp (E : List Int) (q : Fin 6) : Nat → Fin 6 → List Int → List Nat → Option (List (Fin 4))
  | 0, _, _, _ => none
  | f + 1, p, c, n => if n.all (fun x => x == 0) = true then (if p = q ∧ c = E then some [] else none) else
    all4k.findSome? fun w => if n.getD (ovr p w).val 0 = 0 then none else
      if inBox E (bump c (ovr p w) (byw w)) = true then (fp E q f (nxt p w) (bump c (ovr p w) (byw w)) (n.set (ovr p w).val (n.getD (ovr p w).val 0 - 1))).map (w :: ·) else none
def plc (p : Fin 6) : List (Fin 4) → Fin 6
  | [] => p
  | w :: us => plc (nxt p w) us
def cnts (p : Fin 6) (c : List Int) : List (Fin 4) → List Int
  | [] => c
  | w :: us => cnts (nxt p w) (bump c (ovr p w) (byw w)) us
def zero6 : List Int := [0, 0, 0, 0, 0, 0]
def Zl (E : List Int) : Fin 6 → Bool := fun k => E.getD k.val 0 == 0
def wts (E : List Int) (T : List (Fin 6)) : List Nat := allk.map fun k => if T.contains k = true then 0 else if E.getD k.val 0 = 0 then 2 else (E.getD k.val 0).natAbs
def okW (p : Fin 6) (ws : List (Fin 4)) : Bool := (cand (Eb p (plc p ws)) (Zl (cnts p zero6 ws))).all fun T => (fp (cnts p zero6 ws) (plc p ws) 16 p zero6 (wts (cnts p zero6 ws) T)).isSome
theorem paths0 : (allk.all fun p => okW p []) = true := by decide +kernel
theorem paths1 : (allk.all fun p => all4k.all fun a => okW p [a]) = true := by decide +kernel
theorem paths2 : (allk.all fun p => all4k.all fun a => all4k.all fun b => okW p [a, b]) = true := by decide +kernel
theorem paths3 : (allk.all fun p => all4k.all fun a => all4k.all fun b => all4k.all fun c => okW p [a, b, c]) = true := by decide +kernel
end DL

/-! P16: what a found path is. -/
namespace DL
open PySem PySem.Spec PyProof.Rows L2

def pathBox (E : List Int) : Fin 6 → List Int → List (Fin 4) → Prop
  | _, _, [] => True
  | p, c, w :: us => inBox E (bump c (ovr p w) (byw w)) = true ∧ pathBox E (nxt p w) (bump c (ovr p w) (byw w)) us
def trv (p : Fin 6) : List (Fin 4) → Fin 6 → Nat
  | [], _ => 0
  | w :: us, k => (if k = ovr p w then 1 else 0) + trv (nxt p w) us k
theorem tip_p (s : S3) (w : Fin 4) : (tip s w).p = nxt s.p w := by unfold tip; split <;> rfl
theorem trv_cons (p : Fin 6) (w : Fin 4) (us : List (Fin 4)) (k : Fin 6) : trv p (w :: us) k = (if k = ovr p w then 1 else 0) + trv (nxt p w) us k := rfl
theorem trav_trv : ∀ (us : List (Fin 4)) (s : S3) (k : Fin 6), trav s us k = (trv s.p us k : Int)
  | [], s, k => rfl
  | w :: us, s, k => by
    rw [trav_cons, trav_trv us (tip s w) k, tip_p, trv_cons]
    by_cases hk : k = ovr s.p w
    · rw [if_pos hk, if_pos hk]
      omega
    · rw [if_neg hk, if_neg hk]
      omega
theorem plc_tips : ∀ (us : List (Fin 4)) (s : S3), (tips s us).p = plc s.p us
  | [], s => rfl
  | w :: us, s => by
    unfold tips plc
    rw [plc_tips us (tip s w), tip_p]
theorem getD_set {α : Type} (d : α) (l : List α) (i j : Nat) (v : α) (hi : i < l.length) : (l.set i v).getD j d = if j = i then v else l.getD j d := by
  rw [List.getD_eq_getElem?_getD, List.getD_eq_getElem?_getD]
  by_cases h : j = i
  · subst h
    rw [List.getElem?_set_self hi, if_pos rfl]
    rfl
  · rw [List.getElem?_set_ne (fun z => h z.symm), if_neg h]
theorem fp_ok (E : List Int) (q : Fin 6) : ∀ (f : Nat) (p : Fin 6) (c : List Int) (n : List Nat) (us : List (Fin 4)), n.length = 6 → fp E q f p c n = some us → plc p us = q ∧ cnts p c us = E ∧ (∀ k : Fin 6, trv p us k = n.getD k.val 0) ∧ pathBox E p c us ∧ us.length ≤ f
  | 0, p, c, n, us, _, h => by cases h
  | f + 1, p, c, n, us, hl, h => by
    unfold fp at h
    split at h
    · rename_i h0
      split at h
      · rename_i hpc
        cases h
        refine ⟨hpc.1, hpc.2, fun k => ?_, trivial, Nat.zero_le _⟩
        have hk : k.val < n.length := by rw [hl]; exact k.isLt
        have := List.all_eq_true.mp h0 n[k.val] (List.getElem_mem hk)
        rw [List.getD_eq_getElem?_getD, List.getElem?_eq_getElem hk]
        have e := eq_of_beq this
        show 0 = n[k.val]
        exact e.symm
      · cases h
    · obtain ⟨w, hw, h⟩ := List.exists_of_findSome?_eq_some h
      split at h
      · cases h
      · rename_i hn
        split at h
        · rename_i hb
          obtain ⟨vs, hv, rfl⟩ := Option.map_eq_some_iff.mp h
          obtain ⟨i1, i2, i3, i4, i5⟩ := fp_ok E q f (nxt p w) _ _ vs (by rw [List.length_set]; exact hl) hv
          refine ⟨i1, i2, fun k => ?_, ⟨hb, i4⟩, by simp; omega⟩
          rw [trv_cons, i3 k, getD_set _ _ _ _ _ (by rw [hl]; exact (ovr p w).isLt)]
          by_cases hk : k = ovr p w
          · rw [if_pos hk, hk, if_pos rfl]
            omega
          · rw [if_neg hk, if_neg (fun z => hk (Fin.ext z))]
            omega
        · cases h
end DL

/-! P17: a cheapest path inside the box. -/
namespace DL
open PySem PySem.Spec PyProof.Rows L2

def cl (o s : S3) : List Int := allk.map (tal o s).f
theorem bump_map (g : Fin 6 → Int) (d : Int) : ∀ j : Fin 6, bump (allk.map g) j d = allk.map fun k => g k + (if k = j then d else 0) := by
  refine all6 ?_ ?_ ?_ ?_ ?_ ?_
  · show [g 0 + d, g 1, g 2, g 3, g 4, g 5] = [g 0 + d, g 1 + 0, g 2 + 0, g 3 + 0, g 4 + 0, g 5 + 0]
    simp only [Int.add_zero]
  · show [g 0, g 1 + d, g 2, g 3, g 4, g 5] = [g 0 + 0, g 1 + d, g 2 + 0, g 3 + 0, g 4 + 0, g 5 + 0]
    simp only [Int.add_zero]
  · show [g 0, g 1, g 2 + d, g 3, g 4, g 5] = [g 0 + 0, g 1 + 0, g 2 + d, g 3 + 0, g 4 + 0, g 5 + 0]
    simp only [Int.add_zero]
  · show [g 0, g 1, g 2, g 3 + d, g 4, g 5] = [g 0 + 0, g 1 + 0, g 2 + 0, g 3 + d, g 4 + 0, g 5 + 0]
    simp only [Int.add_zero]
  · show [g 0, g 1, g 2, g 3, g 4 + d, g 5] = [g 0 + 0, g 1 + 0, g 2 + 0, g 3 + 0, g 4 + d, g 5 + 0]
    simp only [Int.add_zero]
  · show [g 0, g 1, g 2, g 3, g 4, g 5 + d] = [g 0 + 0, g 1 + 0, g 2 + 0, g 3 + 0, g 4 + 0, g 5 + d]
    simp only [Int.add_zero]
theorem cl_tip (o s : S3) (w : Fin 4) : cl o (tip s w) = bump (cl o s) (ovr s.p w) (byw w) := by
  unfold cl
  rw [bump_map]
  exact List.map_congr_left fun k _ => cnt_tip o s w k
theorem cl_tips (o : S3) : ∀ (us : List (Fin 4)) (s : S3), cnts s.p (cl o s) us = cl o (tips s us)
  | [], s => rfl
  | w :: us, s => by
    unfold cnts tips
    rw [← cl_tips o us (tip s w), tip_p, cl_tip]
theorem cl_self (o : S3) : cl o o = zero6 := by
  have h : cl o o = allk.map fun _ => (0 : Int) := List.map_congr_left fun k _ => tal_self o k
  rw [h]
  rfl
theorem cl_get (o s : S3) : ∀ k : Fin 6, (cl o s).getD k.val 0 = (tal o s).f k := by
  refine all6 ?_ ?_ ?_ ?_ ?_ ?_ <;> rfl
theorem cl_inj {o s t : S3} (h : cl o s = cl o t) (k : Fin 6) : (tal o s).f k = (tal o t).f k := by rw [← cl_get, ← cl_get, h]
theorem okW_all (p : Fin 6) : ∀ ws : List (Fin 4), ws.length ≤ 3 → okW p ws = true
  | [], _ => List.all_eq_true.mp paths0 p (mem_allk p)
  | [a], _ => List.all_eq_true.mp (List.all_eq_true.mp paths1 p (mem_allk p)) a (mem4 a)
  | [a, b], _ => List.all_eq_true.mp (List.all_eq_true.mp (List.all_eq_true.mp paths2 p (mem_allk p)) a (mem4 a)) b (mem4 b)
  | [a, b, c], _ => List.all_eq_true.mp (List.all_eq_true.mp (List.all_eq_true.mp (List.all_eq_true.mp paths3 p (mem_allk p)) a (mem4 a)) b (mem4 b)) c (mem4 c)
  | _ :: _ :: _ :: _ :: _, h => absurd h (by simp)
theorem wts_get (E : List Int) (T : List (Fin 6)) : ∀ k : Fin 6, (wts E T).getD k.val 0 = if T.contains k = true then 0 else if E.getD k.val 0 = 0 then 2 else (E.getD k.val 0).natAbs := by
  refine all6 ?_ ?_ ?_ ?_ ?_ ?_ <;> rfl
theorem path_ex (o : S3) (ws : List (Fin 4)) (hw : ws.length ≤ 3) {T : List (Fin 6)} (hT : T ∈ cand (Eb o.p (tips o ws).p) (Zf (tal o (tips o ws)))) :
    ∃ us, tips o us = tips o ws ∧ (∀ k, trav o us k = if T.contains k = true then 0 else oo (tal o (tips o ws)) k) ∧ pathBox (cl o (tips o ws)) o.p zero6 us ∧ us.length ≤ 16 := by
  have h := okW_all o.p ws hw
  have e1 : cnts o.p zero6 ws = cl o (tips o ws) := by rw [← cl_self o, cl_tips]
  have e2 : plc o.p ws = (tips o ws).p := (plc_tips ws o).symm
  unfold okW at h
  rw [e1, e2] at h
  have e3 : Zl (cl o (tips o ws)) = Zf (tal o (tips o ws)) := by
    funext k
    unfold Zl Zf
    rw [cl_get]
  rw [e3] at h
  have h1 := List.all_eq_true.mp h T hT
  obtain ⟨us, hus⟩ := Option.isSome_iff_exists.mp h1
  obtain ⟨f1, f2, f3, f4, f5⟩ := fp_ok _ _ 16 o.p zero6 _ us (by unfold wts; rw [List.length_map]; rfl) hus
  refine ⟨us, ?_, fun k => ?_, f4, f5⟩
  · refine stand_eq (Lead.tips us (Lead.refl o)) (Lead.tips ws (Lead.refl o)) (by rw [plc_tips, f1]) fun k => cl_inj ?_ k
    rw [← cl_tips, cl_self, f2]
  · rw [trav_trv, f3 k, wts_get, cl_get]
    unfold oo ab
    by_cases hc : T.contains k = true
    · rw [if_pos hc, if_pos hc]
      rfl
    · rw [if_neg hc, if_neg hc]
      by_cases h0 : (tal o (tips o ws)).f k = 0
      · rw [if_pos h0, h0]
        rfl
      · rw [if_neg h0]
        have hb : ((tal o (tips o ws)).f k == 0) = false := by simpa using h0
        rw [hb]
        simp
        split <;> omega
/-- its fee is the price -/
theorem path_fee {o t : S3} {F : P6} {us : List (Fin 4)} {T : List (Fin 6)} (hT : ∀ k ∈ T, Zf (tal o t) k = true) (h : ∀ k, trav o us k = if T.contains k = true then 0 else oo (tal o t) k) : feeS F o us = (prc (tal o t) F T).1 := by
  rw [fee_trav, p_val _ F T hT]
  unfold val
  dsimp only
  congr 1
  refine List.map_congr_left fun k _ => ?_
  rw [h k]
  by_cases hc : T.contains k = true
  · rw [if_pos hc, if_neg (by rw [hc]; decide), Int.zero_mul]
  · rw [if_neg hc, if_pos (by simpa using hc)]
end DL

/-! P18: the search's parts on stands. -/
namespace DL
open PySem PySem.Spec PyProof.Rows L2

theorem shp_inj : ∀ p q : Fin 6, shp p = shp q → p = q := by decide
theorem nk_t3 (t : T3) : nk t.d = .tup [.num t.a, .num t.b, .num t.c] := by
  unfold T3.d
  simp only [nk, nks]
theorem nk_s (s : S3) : nk s.d = .tup [nk (shp s.p).d, nk s.x.d, nk s.y.d, nk s.f.d] := by
  unfold S3.d
  simp only [nk, nks]
theorem nk_t3_inj {a b : T3} (h : nk a.d = nk b.d) : a = b := by
  rw [nk_t3, nk_t3] at h
  obtain ⟨a1, a2, a3⟩ := a
  obtain ⟨b1, b2, b3⟩ := b
  simp only [NestedKey.tup.injEq, List.cons.injEq, NestedKey.num.injEq, and_true] at h
  obtain ⟨h1, h2, h3⟩ := h
  rw [h1, h2, h3]
theorem nk_inj {a b : S3} (h : nk a.d = nk b.d) : a = b := by
  rw [nk_s, nk_s] at h
  simp only [NestedKey.tup.injEq, List.cons.injEq, and_true] at h
  obtain ⟨h1, h2, h3, h4⟩ := h
  obtain ⟨ap, ax, ay, af⟩ := a
  obtain ⟨bp, bx, by_, bf⟩ := b
  have e1 := shp_inj _ _ (nk_t3_inj h1)
  have e2 := nk_t3_inj h2
  have e3 := nk_t3_inj h3
  have e4 := nk_t3_inj h4
  simp only at e1 e2 e3 e4
  rw [e1, e2, e3, e4]
theorem nkB_s (s : S3) : nkB s.d = true := by
  obtain ⟨p, ⟨x0, x1, x2⟩, ⟨y0, y1, y2⟩, ⟨f0, f1, f2⟩⟩ := s
  kernel_rfl
/-- the dict on stands -/
def kvD (m : List (S3 × Int)) : List (D × Int) := m.map fun p => (p.1.d, p.2)
def getS (m : List (S3 × Int)) (s : S3) : Option Int := (m.find? fun p => decide (p.1 = s)).map (·.2)
def putS (m : List (S3 × Int)) (s : S3) (i : Int) : List (S3 × Int) := if (getS m s).isSome then m.map (fun p => if p.1 = s then (p.1, i) else p) else m ++ [(s, i)]
theorem nk_iff (a b : S3) : nk a.d = nk b.d ↔ a = b := ⟨nk_inj, fun h => by rw [h]⟩
theorem getN_s (s : S3) : ∀ m : List (S3 × Int), getN (kvD m) s.d = getS m s
  | [] => rfl
  | p :: m => by
    have ih := getN_s s m
    unfold getN getS kvD at *
    rw [List.map_cons]
    by_cases h : p.1 = s
    · rw [List.find?_cons_of_pos (by simpa using (nk_iff _ _).mpr h), List.find?_cons_of_pos (by simpa using h)]
      rfl
    · rw [List.find?_cons_of_neg (by simpa using fun z => h (nk_inj z)), List.find?_cons_of_neg (by simpa using h)]
      exact ih
theorem putN_s (m : List (S3 × Int)) (s : S3) (i : Int) : putN (kvD m) s.d i = kvD (putS m s i) := by
  unfold putN putS
  rw [getN_s]
  cases (getS m s).isSome with
  | true =>
    rw [if_pos rfl, if_pos rfl]
    unfold kvD
    rw [List.map_map, List.map_map]
    refine List.map_congr_left fun p _ => ?_
    show (if nk p.1.d = nk s.d then (p.1.d, i) else (p.1.d, p.2)) = ((if p.1 = s then (p.1, i) else p).1.d, (if p.1 = s then (p.1, i) else p).2)
    by_cases h : p.1 = s
    · rw [if_pos ((nk_iff _ _).mpr h), if_pos h]
    · rw [if_neg (fun z => h (nk_inj z)), if_neg h]
  | false =>
    rw [if_neg (by decide), if_neg (by decide)]
    unfold kvD
    rw [List.map_append]
    rfl
end DL

/-! P19: the test of the box. -/
namespace DL
open PySem PySem.Spec PyProof.Rows L2

theorem lcm_if {t : Tgt} {tst : Rp → Option Bool} {elt : Rp → Option D} {ρ : Rp} {α : Type} {f g : α → D} {b : α → Bool} : ∀ {xs : List α}, (∀ x ∈ xs, ∃ ρ1, t.bindR (f x) ρ = some ρ1 ∧ tst ρ1 = some (b x) ∧ elt ρ1 = some (g x)) →
    lcD t.bindR tst elt ρ (xs.map f) = some ((xs.filter b).map g)
  | [], _ => rfl
  | x :: xs, h => by
    obtain ⟨ρ1, h1, h2, h3⟩ := h x List.mem_cons_self
    have h4 := lcm_if (xs := xs) fun y hy => h y (List.mem_cons_of_mem _ hy)
    rw [List.map_cons]
    show (t.bindR (f x) ρ).bind _ = _
    rw [h1, Option.bind_some]
    show (tst ρ1).bind _ = _
    rw [h2, Option.bind_some]
    cases hb : b x with
    | true =>
      rw [if_pos rfl, h3, Option.bind_some, h4, List.filter_cons_of_pos hb]
      rfl
    | false => rw [if_neg (by decide), h4, List.filter_cons_of_neg (by rw [hb]; decide)]
def mx (e : Int) : Int := if (if (e == 0) = true then (1 : Int) else 0) > e then (if (e == 0) = true then 1 else 0) else e
def out1 (x e : Int) : Bool := decide (x < loB e) || decide (mx e < x)
theorem mx_hi (e : Int) : mx e = hiB e := by
  unfold mx hiB
  by_cases h : e = 0
  · subst h
    rfl
  · have hb : (e == 0) = false := by simpa using h
    rw [hb, if_neg h]
    simp only [Bool.false_eq_true, if_false]
theorem ne_nil (T : List (Fin 6)) : neD (.list (T.map kD)) (.list []) = some (.bool (!T.isEmpty)) := by
  show (if (SeqAt.shaped (.list (T.map kD)) && SeqAt.shaped (.list [])) = true then some (PyData.bool (!PyData.eqv (.list (T.map kD)) (.list []))) else none) = _
  rw [shapedL]
  cases T with
  | nil => rfl
  | cons a T => rfl
def outB (C E : P6) : Bool := !((allk.filter fun k => out1 (C.f k) (E.f k)).map fun _ => (1 : Fin 6)).isEmpty
theorem zOut_eq (C E : P6) (ρ : Rp) (hl : ρ.length = 15) (h12 : ρ[12]? = some (some C.d)) (h3 : ρ[3]? = some (some E.d)) : zOut ρ = some (outB C E) := by
  have e1 : (iZipD (dVar 12) (dVar 3)) ρ = some (allk.map fun k => .tuple [.int (C.f k), .int (E.f k)]) := by
    have a : dVar 12 ρ = some C.d := by unfold dVar; rw [h12]
    have b : dVar 3 ρ = some E.d := by unfold dVar; rw [h3]
    unfold iZipD
    rw [a, b]
    kernel_rfl
  have e2 : lcD (Tgt.many [13, 14]).bindR zT (dC (.int 1)) (wipeR ρ [13, 14]) (allk.map fun k => .tuple [.int (C.f k), .int (E.f k)]) = some ((allk.filter fun k => out1 (C.f k) (E.f k)).map fun _ => .int 1) := lcm_if fun k _ => by
    refine ⟨_, rfl, ?_, rfl⟩
    obtain ⟨a0, a1, a2, a3, a4, a5, a6, a7, a8, a9, a10, a11, a12, a13, a14, rfl⟩ : ∃ a0 a1 a2 a3 a4 a5 a6 a7 a8 a9 a10 a11 a12 a13 a14, ρ = [a0, a1, a2, a3, a4, a5, a6, a7, a8, a9, a10, a11, a12, a13, a14] := by
      match ρ, hl with
      | [a0, a1, a2, a3, a4, a5, a6, a7, a8, a9, a10, a11, a12, a13, a14], _ => exact ⟨_, _, _, _, _, _, _, _, _, _, _, _, _, _, _, rfl⟩
    exact tOr_eq (a := decide (C.f k < loB (E.f k))) (by kernel_rfl) (b := decide (mx (E.f k) < C.f k)) (by kernel_rfl)
  have e3 : (dLc (iZipD (dVar 12) (dVar 3)) (.many [13, 14]) zT (dC (.int 1)) [13, 14]) ρ = some (.list (((allk.filter fun k => out1 (C.f k) (E.f k)).map fun _ => (1 : Fin 6)).map kD)) := by
    unfold dLc
    rw [e1, Option.bind_some, if_pos (by rw [List.length_map]; decide), e2, List.map_map]
    rfl
  unfold zOut tB_
  rw [d2_eq e3 (y := .list []) rfl, ne_nil]
  rfl
end DL

/-! P20: one tip of the search. -/
namespace DL
open PySem PySem.Spec PyProof.Rows L2

def zR (o t : S3) (F E : P6) (row : D) (lap a b c d e : Option D) : Rp := [some o.d, some t.d, some F.d, some E.d, none, some row, lap, none, a, b, c, d, e, none, none]
theorem mSeq_nx {f g : NSt → Option NOut} {st st' : NSt} (h : f st = some (.nx st')) : mSeq f g st = g st' := by
  unfold mSeq
  rw [h]
  rfl
theorem mSeq_ct {f g : NSt → Option NOut} {st st' : NSt} (h : f st = some (.ct st')) : mSeq f g st = some (.ct st') := by
  unfold mSeq
  rw [h]
  rfl
theorem mIf_eq {c : NSt → Option Bool} {f g : NSt → Option NOut} {st : NSt} {b : Bool} (h : c st = some b) : mIf c f g st = if b = true then f st else g st := by
  unfold mIf
  rw [h]
  rfl
def better (m : List (S3 × Int)) (s : S3) (i : Int) : Bool := match getS m s with
  | none => true
  | some j => decide (i < j)
theorem zIn_eq {o t s : S3} {F E : P6} {row : D} {lap c d e : Option D} {m : List (S3 × Int)} {ls : List D} {v : Int} (w : Fin 4) (hL : Lead o s) (hv : getS m s = some v) (h1 : (putS m (tip s w) (v + F.f (ovr s.p w))).length ≤ 100000) (h2 : ls.length < 100000) :
    zIn ⟨zR o t F E row lap (some s.d) (some (wayD w)) c d e, kvD m, some ls⟩ =
      if outB (tal o (tip s w)) E = true then some (.ct ⟨zR o t F E row lap (some s.d) (some (wayD w)) (some (tip s w).d) (some (.int (v + F.f (ovr s.p w)))) (some (tal o (tip s w)).d), kvD m, some ls⟩)
      else if better m (tip s w) (v + F.f (ovr s.p w)) = true then some (.nx ⟨zR o t F E row lap (some s.d) (some (wayD w)) (some (tip s w).d) (some (.int (v + F.f (ovr s.p w)))) (some (tal o (tip s w)).d), kvD (putS m (tip s w) (v + F.f (ovr s.p w))), some (ls ++ [(tip s w).d])⟩)
      else some (.nx ⟨zR o t F E row lap (some s.d) (some (wayD w)) (some (tip s w).d) (some (.int (v + F.f (ovr s.p w)))) (some (tal o (tip s w)).d), kvD m, some ls⟩) := by
  have hg : ∀ (f : Rp → Option D) (ρ : Rp) (u : S3) (ol : Option (List D)), f ρ = some u.d → nGet f ⟨ρ, kvD m, ol⟩ = (getS m u).map .int := fun f ρ u ol hf => by
    unfold nGet
    dsimp only
    rw [hf, Option.bind_some, if_pos (nkB_s u), getN_s]
  have s1 : mPar 10 11 (nP (dCall F_l_tip (dCons (dVar 8) (dCons (dVar 9) dNil)))) (n2 addD (nGet (dVar 8)) (nP (d2 getD_ (dVar 2) (dCall F_l_over (dCons (d2 getD_ (dVar 8) (dC (.int 0))) (dCons (dVar 9) dNil))))))
      ⟨zR o t F E row lap (some s.d) (some (wayD w)) c d e, kvD m, some ls⟩ = some (.nx ⟨zR o t F E row lap (some s.d) (some (wayD w)) (some (tip s w).d) (some (.int (v + F.f (ovr s.p w)))) e, kvD m, some ls⟩) := by
    have a1 : nP (dCall F_l_tip (dCons (dVar 8) (dCons (dVar 9) dNil))) ⟨zR o t F E row lap (some s.d) (some (wayD w)) c d e, kvD m, some ls⟩ = some (tip s w).d := F_tip_eq s w
    have a2 : nGet (dVar 8) ⟨zR o t F E row lap (some s.d) (some (wayD w)) c d e, kvD m, some ls⟩ = some (.int v) := by
      rw [hg _ _ s _ rfl, hv]
      rfl
    have a3 : nP (d2 getD_ (dVar 2) (dCall F_l_over (dCons (d2 getD_ (dVar 8) (dC (.int 0))) (dCons (dVar 9) dNil)))) ⟨zR o t F E row lap (some s.d) (some (wayD w)) c d e, kvD m, some ls⟩ = some (.int (F.f (ovr s.p w))) := by
      show (some F.d).bind (fun x => (F_l_over [(shp s.p).d, wayD w]).bind fun y => getD_ x y) = _
      rw [F_over_eq, Option.bind_some, Option.bind_some, getF]
    unfold mPar n2
    rw [a1, a2, a3]
    rfl
  have s2 : mSet 12 (nP (dCall F_l_tally (dCons (dVar 0) (dCons (dVar 10) dNil)))) ⟨zR o t F E row lap (some s.d) (some (wayD w)) (some (tip s w).d) (some (.int (v + F.f (ovr s.p w)))) e, kvD m, some ls⟩ = some (.nx ⟨zR o t F E row lap (some s.d) (some (wayD w)) (some (tip s w).d) (some (.int (v + F.f (ovr s.p w)))) (some (tal o (tip s w)).d), kvD m, some ls⟩) := by
    have a1 : nP (dCall F_l_tally (dCons (dVar 0) (dCons (dVar 10) dNil))) ⟨zR o t F E row lap (some s.d) (some (wayD w)) (some (tip s w).d) (some (.int (v + F.f (ovr s.p w)))) e, kvD m, some ls⟩ = some (tal o (tip s w)).d := (hL.tip w).tally
    unfold mSet
    rw [a1]
    rfl
  have s3 : nP zOut ⟨zR o t F E row lap (some s.d) (some (wayD w)) (some (tip s w).d) (some (.int (v + F.f (ovr s.p w)))) (some (tal o (tip s w)).d), kvD m, some ls⟩ = some (outB (tal o (tip s w)) E) := zOut_eq _ _ _ rfl rfl rfl
  unfold zIn
  rw [mSeq_nx s1, mSeq_nx s2]
  cases hb : outB (tal o (tip s w)) E with
  | true =>
    rw [if_pos rfl]
    refine mSeq_ct ?_
    rw [mIf_eq s3, hb, if_pos rfl]
  | false =>
    rw [if_neg (by decide)]
    have s4 : mIf (nP zOut) (fun s => some (.ct s)) mNext ⟨zR o t F E row lap (some s.d) (some (wayD w)) (some (tip s w).d) (some (.int (v + F.f (ovr s.p w)))) (some (tal o (tip s w)).d), kvD m, some ls⟩ = some (.nx ⟨zR o t F E row lap (some s.d) (some (wayD w)) (some (tip s w).d) (some (.int (v + F.f (ovr s.p w)))) (some (tal o (tip s w)).d), kvD m, some ls⟩) := by
      rw [mIf_eq s3, hb]
      rfl
    rw [mSeq_nx s4]
    have s5 : (nOr (nNot (dVar 10)) (nB (n2 gtD (nGet (dVar 10)) (nP (dVar 11))))) ⟨zR o t F E row lap (some s.d) (some (wayD w)) (some (tip s w).d) (some (.int (v + F.f (ovr s.p w)))) (some (tal o (tip s w)).d), kvD m, some ls⟩ = some (better m (tip s w) (v + F.f (ovr s.p w))) := by
      have b1 : nNot (dVar 10) ⟨zR o t F E row lap (some s.d) (some (wayD w)) (some (tip s w).d) (some (.int (v + F.f (ovr s.p w)))) (some (tal o (tip s w)).d), kvD m, some ls⟩ = some (!(getS m (tip s w)).isSome) := by
        show (if nkB (tip s w).d = true then some (!(getN (kvD m) (tip s w).d).isSome) else none) = _
        rw [if_pos (nkB_s _), getN_s]
      have b2 := hg (dVar 10) (zR o t F E row lap (some s.d) (some (wayD w)) (some (tip s w).d) (some (.int (v + F.f (ovr s.p w)))) (some (tal o (tip s w)).d)) (tip s w) (some ls) rfl
      unfold nOr
      rw [b1, Option.bind_some]
      unfold nB n2 better
      rw [b2]
      cases getS m (tip s w) with
      | none => rfl
      | some j => rfl
    rw [mIf_eq s5]
    cases better m (tip s w) (v + F.f (ovr s.p w)) with
    | false => rfl
    | true =>
      rw [if_pos rfl, if_pos rfl]
      have s6 : mPut (dVar 10) (dVar 11) ⟨zR o t F E row lap (some s.d) (some (wayD w)) (some (tip s w).d) (some (.int (v + F.f (ovr s.p w)))) (some (tal o (tip s w)).d), kvD m, some ls⟩ = some (.nx ⟨zR o t F E row lap (some s.d) (some (wayD w)) (some (tip s w).d) (some (.int (v + F.f (ovr s.p w)))) (some (tal o (tip s w)).d), kvD (putS m (tip s w) (v + F.f (ovr s.p w))), some ls⟩) := by
        show (if nkB (tip s w).d = true ∧ (putN (kvD m) (tip s w).d (v + F.f (ovr s.p w))).length ≤ 100000 then some (NOut.nx ⟨_, putN (kvD m) (tip s w).d (v + F.f (ovr s.p w)), some ls⟩) else none) = _
        rw [putN_s, if_pos ⟨nkB_s _, by unfold kvD; rw [List.length_map]; exact h1⟩]
      rw [mSeq_nx s6]
      show (if ls.length < 100000 then some (NOut.nx ⟨_, _, some (ls ++ [(tip s w).d])⟩) else none) = _
      rw [if_pos h2]
end DL

/-! P21: how many stands lie in the box. -/
namespace DL
open PySem PySem.Spec PyProof.Rows L2

theorem nodup_lt : ∀ (n : Nat) (l : List Nat), l.Nodup → (∀ x ∈ l, x < n) → l.length ≤ n
  | 0, l, _, h => by
    cases l with
    | nil => exact Nat.le_refl _
    | cons a l => exact absurd (h a List.mem_cons_self) (Nat.not_lt_zero _)
  | n + 1, l, hn, h => by
    by_cases hm : n ∈ l
    · have h1 := nodup_lt n (l.erase n) (hn.erase n) fun x hx => by
        have h2 := h x (List.mem_of_mem_erase hx)
        have h3 : x ≠ n := fun z => by
          subst z
          exact (hn.not_mem_erase) hx
        omega
      have h4 := List.length_erase_of_mem hm
      have h5 : 0 < l.length := List.length_pos_of_mem hm
      omega
    · have := nodup_lt n l hn fun x hx => by
        have h2 := h x hx
        have h3 : x ≠ n := fun z => by
          subst z
          exact hm hx
        omega
      omega
end DL

/-! P22: the box's code. -/
namespace DL
open PySem PySem.Spec PyProof.Rows L2

/-- inside the box -/
def Inb (o : S3) (E : P6) (s : S3) : Prop := ∀ k, loB (E.f k) ≤ (tal o s).f k ∧ (tal o s).f k ≤ hiB (E.f k)
theorem outB_iff (C E : P6) : outB C E = false ↔ ∀ k, loB (E.f k) ≤ C.f k ∧ C.f k ≤ hiB (E.f k) := by
  unfold outB
  rw [Bool.not_eq_false', List.isEmpty_iff, List.map_eq_nil_iff, List.filter_eq_nil_iff]
  refine ⟨fun h k => ?_, fun h k _ => ?_⟩
  · have := h k (mem_allk k)
    unfold out1 at this
    rw [mx_hi, Bool.or_eq_true, decide_eq_true_eq, decide_eq_true_eq] at this
    omega
  · have := h k
    unfold out1
    rw [mx_hi, Bool.or_eq_true, decide_eq_true_eq, decide_eq_true_eq]
    omega
def dig (o : S3) (E : P6) (s : S3) (k : Fin 6) : Nat := ((tal o s).f k - loB (E.f k)).toNat
def code (o : S3) (E : P6) (s : S3) : Nat := s.p.val + 6 * (dig o E s 0 + 4 * (dig o E s 1 + 4 * (dig o E s 2 + 4 * (dig o E s 3 + 4 * (dig o E s 4 + 4 * dig o E s 5)))))
def Small (E : P6) : Prop := ∀ k, hiB (E.f k) - loB (E.f k) ≤ 3
theorem dig_lt {o s : S3} {E : P6} (hE : Small E) (h : Inb o E s) (k : Fin 6) : dig o E s k ≤ 3 := by
  have h1 := h k
  have h2 := hE k
  unfold dig
  omega
theorem code_lt {o s : S3} {E : P6} (hE : Small E) (h : Inb o E s) : code o E s < 24576 := by
  have h0 := dig_lt hE h 0
  have h1 := dig_lt hE h 1
  have h2 := dig_lt hE h 2
  have h3 := dig_lt hE h 3
  have h4 := dig_lt hE h 4
  have h5 := dig_lt hE h 5
  have hp := s.p.isLt
  unfold code
  omega
theorem code_inj {o s t : S3} {E : P6} (hE : Small E) (hs : Inb o E s) (ht : Inb o E t) (ls : Lead o s) (lt : Lead o t) (h : code o E s = code o E t) : s = t := by
  have a0 := dig_lt hE hs 0
  have a1 := dig_lt hE hs 1
  have a2 := dig_lt hE hs 2
  have a3 := dig_lt hE hs 3
  have a4 := dig_lt hE hs 4
  have b0 := dig_lt hE ht 0
  have b1 := dig_lt hE ht 1
  have b2 := dig_lt hE ht 2
  have b3 := dig_lt hE ht 3
  have b4 := dig_lt hE ht 4
  have p1 := s.p.isLt
  have p2 := t.p.isLt
  unfold code at h
  have hp : s.p = t.p := Fin.ext (by omega)
  have hd : ∀ k, dig o E s k = dig o E t k := all6 (by omega) (by omega) (by omega) (by omega) (by omega) (by omega)
  refine stand_eq ls lt hp fun k => ?_
  have h1 := hd k
  have h2 := hs k
  have h3 := ht k
  unfold dig at h1
  omega
/-- keys of a dict inside the box -/
theorem keys_le {o : S3} {E : P6} (hE : Small E) {l : List S3} (hn : l.Nodup) (h : ∀ s ∈ l, Inb o E s ∧ Lead o s) : l.length ≤ 24576 := by
  have h1 : (l.map (code o E)).Nodup := by
    refine List.pairwise_map.mpr ?_
    refine List.Pairwise.imp_of_mem ?_ hn
    intro a b ha hb hne e
    exact hne (code_inj hE (h a ha).1 (h b hb).1 (h a ha).2 (h b hb).2 e)
  have h2 := nodup_lt 24576 (l.map (code o E)) h1 fun x hx => by
    obtain ⟨s, hs, rfl⟩ := List.mem_map.mp hx
    exact code_lt hE (h s hs).1
  rw [List.length_map] at h2
  exact h2
end DL

/-! P23: the goal's counts are small. -/
namespace DL
open PySem PySem.Spec PyProof.Rows L2

theorem trav_sum : ∀ (us : List (Fin 4)) (s : S3) (k : Fin 6), trav s us k ≤ us.length
  | [], s, k => Int.le_refl _
  | w :: us, s, k => by
    have := trav_sum us (tip s w) k
    rw [trav_cons, List.length_cons]
    split <;> omega
theorem small_goal (o : S3) (ws : List (Fin 4)) (h : ws.length ≤ 3) : Small (tal o (tips o ws)) := fun k => by
  obtain ⟨d, h1, h2, h3, h4⟩ := cnt_walk o k ws o
  rw [tal_self, Int.zero_add] at h1
  have h5 := trav_sum ws o k
  rw [h1]
  unfold hiB loB
  split <;> split <;> (try split) <;> omega
theorem inb_o (o : S3) (E : P6) : Inb o E o := fun k => by
  rw [tal_self]
  unfold hiB loB
  constructor
  · split <;> omega
  · split
    · omega
    · split <;> omega
end DL

/-! P24: the dict of stands, looked up and put. -/
namespace DL
open PySem PySem.Spec PyProof.Rows L2

theorem getS_cons (p : S3 × Int) (m : List (S3 × Int)) (s : S3) : getS (p :: m) s = if p.1 = s then some p.2 else getS m s := by
  unfold getS
  by_cases h : p.1 = s
  · rw [List.find?_cons_of_pos (by simpa using h), if_pos h]
    rfl
  · rw [List.find?_cons_of_neg (by simpa using h), if_neg h]
theorem getS_map (s : S3) (i : Int) (x : S3) : ∀ m : List (S3 × Int), getS (m.map fun p => if p.1 = s then (p.1, i) else p) x = if x = s then (getS m s).map (fun _ => i) else getS m x
  | [] => by simp [getS]
  | p :: m => by
    rw [List.map_cons, getS_cons, getS_map s i x m, getS_cons, getS_cons]
    by_cases h1 : p.1 = s
    · rw [if_pos h1, if_pos h1]
      by_cases h2 : p.1 = x
      · have h3 : x = s := h2.symm.trans h1
        rw [if_pos h2, if_pos h3]
        rfl
      · have h3 : ¬ x = s := fun z => h2 (h1.trans z.symm)
        rw [if_neg h2, if_neg h3, if_neg h3, if_neg h2]
    · rw [if_neg h1, if_neg h1]
      by_cases h2 : p.1 = x
      · have h3 : ¬ x = s := fun z => h1 (h2.trans z)
        rw [if_pos h2, if_neg h3, if_pos h2]
      · rw [if_neg h2, if_neg h2]
theorem getS_append (m : List (S3 × Int)) (s : S3) (i : Int) (x : S3) : getS (m ++ [(s, i)]) x = match getS m x with
    | some j => some j
    | none => if s = x then some i else none := by
  induction m with
  | nil => rw [List.nil_append, getS_cons]; rfl
  | cons p m ih =>
    rw [List.cons_append, getS_cons, getS_cons, ih]
    by_cases h : p.1 = x
    · rw [if_pos h, if_pos h]
    · rw [if_neg h, if_neg h]
theorem getS_putS (m : List (S3 × Int)) (s : S3) (i : Int) (x : S3) : getS (putS m s i) x = if x = s then some i else getS m x := by
  unfold putS
  cases h : getS m s with
  | some j =>
    show getS (if (some j).isSome = true then _ else _) x = _
    rw [if_pos (show (some j).isSome = true from rfl), getS_map, h]
    rfl
  | none =>
    show getS (if (none : Option Int).isSome = true then _ else _) x = _
    rw [if_neg (by decide), getS_append]
    by_cases hx : x = s
    · subst hx
      rw [h, if_pos rfl]
    · rw [if_neg hx, if_neg (fun z => hx z.symm)]
      cases getS m x <;> rfl
theorem keys_put (m : List (S3 × Int)) (s : S3) (i : Int) : (putS m s i).map (·.1) = if (getS m s).isSome = true then m.map (·.1) else m.map (·.1) ++ [s] := by
  unfold putS
  split
  · rw [List.map_map]
    refine List.map_congr_left fun p _ => ?_
    show (if p.1 = s then (p.1, i) else p).1 = p.1
    split <;> rfl
  · rw [List.map_append]
    rfl
theorem getS_mem {s : S3} : ∀ {m : List (S3 × Int)}, (getS m s).isSome = true ↔ s ∈ m.map (·.1)
  | [] => by simp [getS]
  | p :: m => by
    rw [getS_cons, List.map_cons, List.mem_cons]
    by_cases h : p.1 = s
    · rw [if_pos h]
      simp [h]
    · rw [if_neg h, getS_mem (m := m)]
      exact ⟨.inr, fun z => z.resolve_left fun e => h e.symm⟩
end DL

/-! P25: the four tips from one stand. -/
namespace DL
open PySem PySem.Spec PyProof.Rows L2

abbrev Mst := List (S3 × Int) × List S3
def stepM (o : S3) (F E : P6) (s : S3) (a : Mst) (w : Fin 4) : Mst :=
  let i := (getS a.1 s).getD 0 + F.f (ovr s.p w)
  if outB (tal o (tip s w)) E = true then a else if better a.1 (tip s w) i = true then (putS a.1 (tip s w) i, a.2 ++ [tip s w]) else a
def Enc (o t : S3) (F E : P6) (row : D) (lap : Option D) (a : Mst) (st : NSt) : Prop := ∃ x b c d e, st = ⟨zR o t F E row lap x b c d e, kvD a.1, some (a.2.map S3.d)⟩
def EncS (o t : S3) (F E : P6) (row : D) (lap : Option D) (s : S3) (a : Mst) (st : NSt) : Prop := ∃ b c d e, st = ⟨zR o t F E row lap (some s.d) b c d e, kvD a.1, some (a.2.map S3.d)⟩
/-- what one tip asks -/
structure Fit (o s : S3) (a : Mst) : Prop where
  v : ∃ v, getS a.1 s = some v
  l1 : a.1.length < 100000
  l2 : a.2.length < 100000
theorem putS_len (m : List (S3 × Int)) (s : S3) (i : Int) : (putS m s i).length ≤ m.length + 1 := by
  unfold putS
  split
  · rw [List.length_map]; omega
  · rw [List.length_append]; simp
theorem ways_run {o t s : S3} {F E : P6} {row : D} {lap : Option D} (hL : Lead o s) : ∀ (ws : List (Fin 4)) (a : Mst) (st : NSt), EncS o t F E row lap s a st → (∀ us, us <+: ws → Fit o s (us.foldl (stepM o F E s) a)) → ∃ st', forN 9 zIn (ws.map wayD) st = some (.nx st') ∧ EncS o t F E row lap s (ws.foldl (stepM o F E s) a) st'
  | [], a, st, he, _ => ⟨st, rfl, he⟩
  | w :: ws, a, st, he, hf => by
    obtain ⟨b, c, d, e, rfl⟩ := he
    obtain ⟨⟨v, hv⟩, l1, l2⟩ := hf [] (List.nil_prefix)
    simp only [List.foldl_nil] at hv l1 l2
    have h := zIn_eq (o := o) (t := t) (F := F) (E := E) (row := row) (lap := lap) (c := c) (d := d) (e := e) (ls := a.2.map S3.d) w hL hv (Nat.le_trans (putS_len _ _ _) l1) (by rw [List.length_map]; exact l2)
    have hs : stepM o F E s a w = if outB (tal o (tip s w)) E = true then a else if better a.1 (tip s w) (v + F.f (ovr s.p w)) = true then (putS a.1 (tip s w) (v + F.f (ovr s.p w)), a.2 ++ [tip s w]) else a := by
      unfold stepM
      rw [hv]
      rfl
    have key : ∃ st1, EncS o t F E row lap s (stepM o F E s a w) st1 ∧ forN 9 zIn ((w :: ws).map wayD) ⟨zR o t F E row lap (some s.d) b c d e, kvD a.1, some (a.2.map S3.d)⟩ = forN 9 zIn (ws.map wayD) st1 := by
      rw [List.map_cons]
      show ∃ st1, _ ∧ mLoop (zIn ⟨zR o t F E row lap (some s.d) (some (wayD w)) c d e, kvD a.1, some (a.2.map S3.d)⟩) (forN 9 zIn (ws.map wayD)) = _
      rw [h, hs]
      cases outB (tal o (tip s w)) E with
      | true => exact ⟨_, ⟨_, _, _, _, rfl⟩, rfl⟩
      | false =>
        cases better a.1 (tip s w) (v + F.f (ovr s.p w)) with
        | true =>
          rw [if_neg Bool.false_ne_true, if_pos rfl, if_neg Bool.false_ne_true, if_pos rfl]
          exact ⟨_, ⟨_, _, _, _, rfl⟩, by dsimp only; rw [List.map_append]; rfl⟩
        | false => exact ⟨_, ⟨_, _, _, _, rfl⟩, rfl⟩
    obtain ⟨st1, he1, e1⟩ := key
    obtain ⟨st', e2, he2⟩ := ways_run hL ws _ st1 he1 fun us hu => hf (w :: us) (List.prefix_cons_inj w |>.mpr hu)
    exact ⟨st', e1.trans e2, he2⟩
end DL

/-! P26: what every step of the search keeps. -/
namespace DL
open PySem PySem.Spec PyProof.Rows L2

theorem nxt_par : ∀ (p : Fin 6) (w : Fin 4), (nxt p w).val % 2 ≠ p.val % 2 := by decide
def par (s : S3) : Nat := s.p.val % 2
theorem par_tip (s : S3) (w : Fin 4) : par (tip s w) ≠ par s := by
  unfold par
  rw [tip_p]
  exact nxt_par s.p w
/-- keys apart, inside the box; each value the fee of a walk -/
structure Base (o : S3) (F E : P6) (m : List (S3 × Int)) : Prop where
  nd : (m.map (·.1)).Nodup
  bx : ∀ s ∈ m.map (·.1), Inb o E s
  wk : ∀ s v, getS m s = some v → ∃ us, tips o us = s ∧ v = feeS F o us
theorem tips_append (o : S3) : ∀ (us vs : List (Fin 4)) , tips o (us ++ vs) = tips (tips o us) vs := by
  intro us
  induction us generalizing o with
  | nil => intro vs; rfl
  | cons u us ih => intro vs; exact ih (tip o u) vs
theorem fee_append (F : P6) : ∀ (us vs : List (Fin 4)) (o : S3), feeS F o (us ++ vs) = feeS F o us + feeS F (tips o us) vs
  | [], vs, o => by simp [feeS, tips]
  | u :: us, vs, o => by
    have h := fee_append F us vs (tip o u)
    show F.f (ovr o.p u) + feeS F (tip o u) (us ++ vs) = F.f (ovr o.p u) + feeS F (tip o u) us + feeS F (tips (tip o u) us) vs
    omega
theorem Base.lead {o : S3} {F E : P6} {m : List (S3 × Int)} (b : Base o F E m) {s : S3} {v : Int} (h : getS m s = some v) : Lead o s := by
  obtain ⟨us, rfl, _⟩ := b.wk s v h
  exact Lead.tips us (Lead.refl o)
theorem Base.key_lead {o : S3} {F E : P6} {m : List (S3 × Int)} (b : Base o F E m) {s : S3} (h : s ∈ m.map (·.1)) : Lead o s := by
  obtain ⟨v, hv⟩ := Option.isSome_iff_exists.mp (getS_mem.mpr h)
  exact b.lead hv
theorem Base.len {o : S3} {F E : P6} {m : List (S3 × Int)} (hE : Small E) (b : Base o F E m) : m.length ≤ 24576 := by
  have := keys_le (o := o) hE b.nd fun s hs => ⟨b.bx s hs, b.key_lead hs⟩
  rw [List.length_map] at this
  exact this
theorem Base.put {o : S3} {F E : P6} {m : List (S3 × Int)} (b : Base o F E m) {s : S3} {v : Int} (hv : getS m s = some v) (w : Fin 4) (hi : Inb o E (tip s w)) : Base o F E (putS m (tip s w) (v + F.f (ovr s.p w))) := by
  refine ⟨?_, fun x hx => ?_, fun x u hu => ?_⟩
  · rw [keys_put]
    by_cases h : (getS m (tip s w)).isSome = true
    · rw [if_pos h]; exact b.nd
    · rw [if_neg h, List.nodup_append]
      refine ⟨b.nd, by simp, fun a ha c hc e => ?_⟩
      rw [List.mem_singleton] at hc
      subst hc e
      exact h (getS_mem.mpr ha)
  · rw [keys_put] at hx
    by_cases h : (getS m (tip s w)).isSome = true
    · rw [if_pos h] at hx
      exact b.bx x hx
    · rw [if_neg h, List.mem_append, List.mem_singleton] at hx
      rcases hx with hx | rfl
      · exact b.bx x hx
      · exact hi
  · rw [getS_putS] at hu
    by_cases hx : x = tip s w
    · rw [if_pos hx] at hu
      cases hu
      obtain ⟨us, e1, e2⟩ := b.wk s v hv
      refine ⟨us ++ [w], by rw [tips_append, e1, hx]; rfl, ?_⟩
      rw [fee_append, e1, e2]
      simp [feeS]
    · rw [if_neg hx] at hu
      exact b.wk x u hu
end DL

/-! P27: one step, and what is relaxed. -/
namespace DL
open PySem PySem.Spec PyProof.Rows L2

def relaxed (o : S3) (F E : P6) (m : List (S3 × Int)) (x : S3) : Prop := ∃ v, getS m x = some v ∧ ∀ w, Inb o E (tip x w) → ∃ j, getS m (tip x w) = some j ∧ j ≤ v + F.f (ovr x.p w)
def mle (m m' : List (S3 × Int)) : Prop := ∀ x v, getS m x = some v → ∃ v', getS m' x = some v' ∧ v' ≤ v
theorem mle.refl (m : List (S3 × Int)) : mle m m := fun x v h => ⟨v, h, Int.le_refl _⟩
theorem mle.trans {a b c : List (S3 × Int)} (h : mle a b) (k : mle b c) : mle a c := fun x v hx => by
  obtain ⟨v1, h1, h2⟩ := h x v hx
  obtain ⟨v2, h3, h4⟩ := k x v1 h1
  exact ⟨v2, h3, by omega⟩
structure StepOk (o : S3) (F E : P6) (s : S3) (w : Fin 4) (v : Int) (a a' : Mst) : Prop where
  dec : mle a.1 a'.1
  same : ∀ x, x ≠ tip s w → getS a'.1 x = getS a.1 x
  hit : Inb o E (tip s w) → ∃ j, getS a'.1 (tip s w) = some j ∧ j ≤ v + F.f (ovr s.p w)
  cs : a' = a ∨ (Inb o E (tip s w) ∧ a'.2 = a.2 ++ [tip s w] ∧ a'.1 = putS a.1 (tip s w) (v + F.f (ovr s.p w)))
  no : (∃ j, getS a.1 (tip s w) = some j ∧ j ≤ v + F.f (ovr s.p w)) → a' = a
theorem step_ok {o : S3} {F E : P6} {s : S3} {a : Mst} {v : Int} (hv : getS a.1 s = some v) (w : Fin 4) : StepOk o F E s w v a (stepM o F E s a w) := by
  have hs : stepM o F E s a w = if outB (tal o (tip s w)) E = true then a else if better a.1 (tip s w) (v + F.f (ovr s.p w)) = true then (putS a.1 (tip s w) (v + F.f (ovr s.p w)), a.2 ++ [tip s w]) else a := by
    unfold stepM
    rw [hv]
    rfl
  rw [hs]
  cases hb : outB (tal o (tip s w)) E with
  | true =>
    rw [if_pos rfl]
    refine ⟨.refl _, fun _ _ => rfl, fun hi => ?_, .inl rfl, fun _ => rfl⟩
    rw [(outB_iff _ _).mpr hi] at hb
    cases hb
  | false =>
    rw [if_neg Bool.false_ne_true]
    have hi := (outB_iff _ _).mp hb
    cases hbt : better a.1 (tip s w) (v + F.f (ovr s.p w)) with
    | true =>
      rw [if_pos rfl]
      unfold better at hbt
      refine ⟨fun x u hx => ?_, fun x hx => ?_, fun _ => ⟨_, by rw [getS_putS, if_pos rfl], Int.le_refl _⟩, .inr ⟨hi, rfl, rfl⟩, fun ⟨j, h1, h2⟩ => ?_⟩
      · rw [getS_putS]
        by_cases h : x = tip s w
        · rw [if_pos h]
          subst h
          rw [hx] at hbt
          have := of_decide_eq_true hbt
          exact ⟨_, rfl, by omega⟩
        · rw [if_neg h]
          exact ⟨u, hx, Int.le_refl _⟩
      · rw [getS_putS, if_neg hx]
      · rw [h1] at hbt
        have := of_decide_eq_true hbt
        omega
    | false =>
      rw [if_neg Bool.false_ne_true]
      refine ⟨.refl _, fun _ _ => rfl, fun _ => ?_, .inl rfl, fun _ => rfl⟩
      unfold better at hbt
      cases hg : getS a.1 (tip s w) with
      | none =>
        rw [hg] at hbt
        cases hbt
      | some j =>
        rw [hg] at hbt
        have := of_decide_eq_false hbt
        exact ⟨j, rfl, by omega⟩
end DL

/-! P28: the four tips from one stand, taken together. -/
namespace DL
open PySem PySem.Spec PyProof.Rows L2

theorem tip_ne (s : S3) (w : Fin 4) : s ≠ tip s w := fun h => par_tip s w (by rw [← h])
structure WaysOk (o : S3) (F E : P6) (s : S3) (v : Int) (ws : List (Fin 4)) (a a' : Mst) : Prop where
  base : Base o F E a'.1
  val : getS a'.1 s = some v
  dec : mle a.1 a'.1
  hit : ∀ w ∈ ws, Inb o E (tip s w) → ∃ j, getS a'.1 (tip s w) = some j ∧ j ≤ v + F.f (ovr s.p w)
  new : ∃ l, a'.2 = a.2 ++ l ∧ l.length ≤ ws.length ∧ (∀ y ∈ l, (∃ w, y = tip s w) ∧ (getS a'.1 y).isSome = true) ∧ ∀ x, x ∉ l → getS a'.1 x = getS a.1 x
  no : relaxed o F E a.1 s → a' = a
theorem ways_ok {o : S3} {F E : P6} {s : S3} {v : Int} : ∀ (ws : List (Fin 4)) (a : Mst), Base o F E a.1 → getS a.1 s = some v → WaysOk o F E s v ws a (ws.foldl (stepM o F E s) a)
  | [], a, hb, hv => ⟨hb, hv, .refl _, (fun w hw => by cases hw), ⟨[], (List.append_nil _).symm, Nat.zero_le _, (fun y hy => by cases hy), fun x _ => rfl⟩, fun _ => rfl⟩
  | w :: ws, a, hb, hv => by
    have st := step_ok (o := o) (F := F) (E := E) hv w
    rw [List.foldl_cons]
    generalize stepM o F E s a w = a1 at st
    have hv1 : getS a1.1 s = some v := by rw [st.same s (tip_ne s w)]; exact hv
    have hb1 : Base o F E a1.1 := by
      rcases st.cs with h | ⟨h1, h2, h3⟩
      · rw [h]; exact hb
      · rw [h3]; exact hb.put hv w h1
    have ih := ways_ok ws a1 hb1 hv1
    generalize ws.foldl (stepM o F E s) a1 = a2 at ih
    refine ⟨ih.base, ih.val, st.dec.trans ih.dec, fun u hu hi => ?_, ?_, fun hr => ?_⟩
    · rcases List.mem_cons.mp hu with rfl | hu
      · obtain ⟨j, h1, h2⟩ := st.hit hi
        obtain ⟨j', h3, h4⟩ := ih.dec _ _ h1
        exact ⟨j', h3, by omega⟩
      · exact ih.hit u hu hi
    · obtain ⟨l, n1, n2, n3, n4⟩ := ih.new
      rcases st.cs with h | ⟨h1, h2, h3⟩
      · subst h
        exact ⟨l, n1, by simp; omega, n3, n4⟩
      · refine ⟨tip s w :: l, by rw [n1, h2, List.append_assoc]; rfl, by simp; omega, fun y hy => ?_, fun x hx => ?_⟩
        · rcases List.mem_cons.mp hy with rfl | hy
          · obtain ⟨j, k1, _⟩ := st.hit h1
            obtain ⟨j', k3, _⟩ := ih.dec _ _ k1
            exact ⟨⟨w, rfl⟩, by rw [k3]; rfl⟩
          · exact n3 y hy
        · have hx1 : x ∉ l := fun z => hx (List.mem_cons_of_mem _ z)
          have hx2 : x ≠ tip s w := fun z => hx (by rw [z]; exact List.mem_cons_self)
          rw [n4 x hx1, st.same x hx2]
    · obtain ⟨v', h1, h2⟩ := id hr
      rw [hv] at h1
      cases h1
      have e : a1 = a := by
        by_cases hi : Inb o E (tip s w)
        · exact st.no (h2 w hi)
        · rcases st.cs with h | ⟨k, _⟩
          · exact h
          · exact absurd k hi
      subst e
      exact ih.no hr
theorem WaysOk.relaxed {o : S3} {F E : P6} {s : S3} {v : Int} {a a' : Mst} (h : WaysOk o F E s v all4k a a') : DL.relaxed o F E a'.1 s := ⟨v, h.val, fun w hi => h.hit w (mem4 w) hi⟩
end DL

/-! P29: one row of the search. -/
namespace DL
open PySem PySem.Spec PyProof.Rows L2

theorem relaxed_keep {o : S3} {F E : P6} {m m' : List (S3 × Int)} {x : S3} (h : relaxed o F E m x) (e : getS m' x = getS m x) (hd : mle m m') : relaxed o F E m' x := by
  obtain ⟨v, h1, h2⟩ := h
  refine ⟨v, e.trans h1, fun w hi => ?_⟩
  obtain ⟨j, h3, h4⟩ := h2 w hi
  obtain ⟨j', h5, h6⟩ := hd _ _ h3
  exact ⟨j', h5, by omega⟩
theorem mle.some {m m' : List (S3 × Int)} (h : mle m m') {x : S3} (hx : (getS m x).isSome = true) : (getS m' x).isSome = true := by
  obtain ⟨v, hv⟩ := Option.isSome_iff_exists.mp hx
  obtain ⟨v', h1, _⟩ := h x v hv
  rw [h1]
  rfl
def itemM (o : S3) (F E : P6) (a : Mst) (s : S3) : Mst := all4k.foldl (stepM o F E s) a
/-- what holds while a row is gone through: D the items done, rest those to do -/
structure RowInv (o : S3) (F E : P6) (π : Nat) (D rest : List S3) (a : Mst) : Prop where
  base : Base o F E a.1
  dn : D.Nodup
  dk : ∀ s ∈ D, (getS a.1 s).isSome = true ∧ par s = π ∧ relaxed o F E a.1 s
  rk : ∀ s ∈ rest, (getS a.1 s).isSome = true ∧ par s = π
  lk : ∀ s ∈ a.2, (getS a.1 s).isSome = true ∧ par s ≠ π
  ll : a.2.length ≤ 4 * D.length
  cov : ∀ x, (getS a.1 x).isSome = true → x ∈ rest ∨ x ∈ a.2 ∨ relaxed o F E a.1 x
theorem RowInv.done {o : S3} {F E : P6} {π : Nat} {D rest : List S3} {a : Mst} (hE : Small E) (h : RowInv o F E π D rest a) : D.length ≤ 24576 :=
  keys_le (o := o) hE h.dn fun s hs => by
    have hk := getS_mem.mp (h.dk s hs).1
    exact ⟨h.base.bx s hk, h.base.key_lead hk⟩
theorem RowInv.step {o : S3} {F E : P6} {π : Nat} {D rest : List S3} {a : Mst} {s : S3} (h : RowInv o F E π D (s :: rest) a) : ∃ D', RowInv o F E π D' rest (itemM o F E a s) ∧ mle a.1 (itemM o F E a s).1 := by
  obtain ⟨hs1, hs2⟩ := h.rk s List.mem_cons_self
  obtain ⟨v, hv⟩ := Option.isSome_iff_exists.mp hs1
  have wo : WaysOk o F E s v all4k a (itemM o F E a s) := ways_ok all4k a h.base hv
  have hr := wo.relaxed
  generalize itemM o F E a s = a' at *
  by_cases hD : s ∈ D
  · have e := wo.no (h.dk s hD).2.2
    subst e
    refine ⟨D, ⟨h.base, h.dn, h.dk, fun x hx => h.rk x (List.mem_cons_of_mem _ hx), h.lk, h.ll, fun x hx => ?_⟩, .refl _⟩
    rcases h.cov x hx with hc | hc
    · rcases List.mem_cons.mp hc with rfl | hc
      · exact .inr (.inr hr)
      · exact .inl hc
    · exact .inr hc
  · obtain ⟨l, n1, n2, n3, n4⟩ := wo.new
    have hl : ∀ y ∈ l, par y ≠ π := fun y hy => by
      obtain ⟨⟨w, rfl⟩, _⟩ := n3 y hy
      rw [← hs2]
      exact par_tip s w
    have keep : ∀ x, par x = π → relaxed o F E a.1 x → relaxed o F E a'.1 x := fun x hx hr => relaxed_keep hr (n4 x fun z => hl x z hx) wo.dec
    refine ⟨s :: D, ⟨wo.base, List.nodup_cons.mpr ⟨hD, h.dn⟩, fun x hx => ?_, fun x hx => ?_, fun x hx => ?_, ?_, fun x hx => ?_⟩, wo.dec⟩
    · rcases List.mem_cons.mp hx with rfl | hx
      · exact ⟨wo.dec.some hs1, hs2, hr⟩
      · obtain ⟨k1, k2, k3⟩ := h.dk x hx
        exact ⟨wo.dec.some k1, k2, keep x k2 k3⟩
    · obtain ⟨k1, k2⟩ := h.rk x (List.mem_cons_of_mem _ hx)
      exact ⟨wo.dec.some k1, k2⟩
    · rw [n1, List.mem_append] at hx
      rcases hx with hx | hx
      · obtain ⟨k1, k2⟩ := h.lk x hx
        exact ⟨wo.dec.some k1, k2⟩
      · exact ⟨(n3 x hx).2, hl x hx⟩
    · rw [n1, List.length_append, List.length_cons]
      have h4 : all4k.length = 4 := rfl
      have := h.ll
      omega
    · by_cases hxl : x ∈ l
      · exact .inr (.inl (by rw [n1]; exact List.mem_append_right _ hxl))
      · have e := n4 x hxl
        rw [e] at hx
        rcases h.cov x hx with hc | hc | hc
        · rcases List.mem_cons.mp hc with rfl | hc
          · exact .inr (.inr hr)
          · exact .inl hc
        · exact .inr (.inl (by rw [n1]; exact List.mem_append_left _ hc))
        · exact .inr (.inr (relaxed_keep hc e wo.dec))
theorem range4 : iRange (dC (.int 4)) = fun _ => some (all4k.map wayD) := by
  funext ρ
  kernel_rfl
theorem row_run {o t : S3} {F E : P6} {row : D} {lap : Option D} {π : Nat} (hE : Small E) : ∀ (rest D : List S3) (a : Mst) (st : NSt), RowInv o F E π D rest a → Enc o t F E row lap a st → ∃ st' D', forN 8 (mFor (iRange (dC (.int 4))) 9 zIn) (rest.map S3.d) st = some (.nx st') ∧ Enc o t F E row lap (rest.foldl (itemM o F E) a) st' ∧ RowInv o F E π D' [] (rest.foldl (itemM o F E) a) ∧ mle a.1 (rest.foldl (itemM o F E) a).1
  | [], D, a, st, hi, he => ⟨st, D, rfl, he, hi, .refl _⟩
  | s :: rest, D, a, st, hi, he => by
    obtain ⟨hs1, hs2⟩ := hi.rk s List.mem_cons_self
    obtain ⟨v, hv⟩ := Option.isSome_iff_exists.mp hs1
    obtain ⟨x, b, c, d, e, rfl⟩ := he
    have hfit : ∀ us, us <+: all4k → Fit o s (us.foldl (stepM o F E s) a) := fun us hu => by
      have wo : WaysOk o F E s v us a (us.foldl (stepM o F E s) a) := ways_ok us a hi.base hv
      obtain ⟨l, n1, n2, _⟩ := wo.new
      have h1 := wo.base.len hE
      have h2 := hi.done hE
      have h3 := hi.ll
      have h4 : us.length ≤ 4 := hu.length_le
      refine ⟨⟨v, wo.val⟩, by omega, ?_⟩
      rw [n1, List.length_append]
      omega
    obtain ⟨st1, e1, he1⟩ := ways_run (o := o) (t := t) (F := F) (E := E) (row := row) (lap := lap) (hi.base.lead hv) all4k a ⟨zR o t F E row lap (some s.d) b c d e, kvD a.1, some (a.2.map S3.d)⟩ ⟨b, c, d, e, rfl⟩ hfit
    obtain ⟨D1, hi1, hm1⟩ := hi.step
    have he2 : Enc o t F E row lap (itemM o F E a s) st1 := by
      obtain ⟨b, c, d, e, h⟩ := he1
      exact ⟨_, b, c, d, e, h⟩
    obtain ⟨st', D', r1, r2, r3, r4⟩ := row_run hE rest D1 (itemM o F E a s) st1 hi1 he2
    refine ⟨st', D', ?_, r2, r3, hm1.trans r4⟩
    rw [List.map_cons]
    show mLoop (mFor (iRange (dC (.int 4))) 9 zIn ⟨zR o t F E row lap (some s.d) b c d e, kvD a.1, some (a.2.map S3.d)⟩) (forN 8 (mFor (iRange (dC (.int 4))) 9 zIn) (rest.map S3.d)) = _
    have e2 : mFor (iRange (dC (.int 4))) 9 zIn ⟨zR o t F E row lap (some s.d) b c d e, kvD a.1, some (a.2.map S3.d)⟩ = some (.nx st1) := by
      unfold mFor
      rw [range4, Option.bind_some]
      exact e1
    rw [e2]
    exact r1
end DL

/-! P30: the laps. -/
namespace DL
open PySem PySem.Spec PyProof.Rows L2

/-- between two laps -/
structure LapInv (o : S3) (F E : P6) (π : Nat) (row : List S3) (m : List (S3 × Int)) : Prop where
  base : Base o F E m
  pi : π < 2
  rk : ∀ s ∈ row, (getS m s).isSome = true ∧ par s = π
  cov : ∀ x, (getS m x).isSome = true → x ∈ row ∨ relaxed o F E m x
def LEnc (o t : S3) (F E : P6) (row : List S3) (m : List (S3 × Int)) (st : NSt) : Prop := ∃ l x b c d e, st = ⟨zR o t F E (.list (row.map S3.d)) l x b c d e, kvD m, none⟩
theorem lay_s (s : S3) : PyData.canLay0 s.d = true := by
  obtain ⟨p, ⟨x0, x1, x2⟩, ⟨y0, y1, y2⟩, ⟨f0, f1, f2⟩⟩ := s
  kernel_rfl
theorem depth_s (s : S3) : PyData.depth s.d = 2 := by
  obtain ⟨p, ⟨x0, x1, x2⟩, ⟨y0, y1, y2⟩, ⟨f0, f1, f2⟩⟩ := s
  kernel_rfl
theorem lay_row : ∀ l : List S3, PyData.canLayAll0 (l.map S3.d) = true
  | [] => by rw [List.map_nil, PyData.canLayAll0]
  | s :: l => by rw [List.map_cons, PyData.canLayAll0, lay_s, lay_row l]; rfl
theorem depth_row : ∀ l : List S3, PyData.depthAll (l.map S3.d) ≤ 2
  | [] => by rw [List.map_nil, PyData.depthAll]; exact Nat.zero_le _
  | s :: l => by
    rw [List.map_cons, PyData.depthAll, depth_s]
    exact Nat.max_le.mpr ⟨Nat.le_refl _, depth_row l⟩
theorem shaped_row (l : List S3) : SeqAt.shaped (.list (l.map S3.d)) = true := by
  have h := depth_row l
  unfold SeqAt.shaped
  rw [Bool.and_eq_true, decide_eq_true_eq]
  refine ⟨?_, ?_⟩
  · unfold PyData.canLay0
    exact lay_row l
  · unfold PyData.depth
    omega
theorem row_nil (l : List S3) : eqD (.list (l.map S3.d)) (.list []) = some (.bool l.isEmpty) := by
  show (if (SeqAt.shaped (.list (l.map S3.d)) && SeqAt.shaped (.list [])) = true then some (PyData.bool (PyData.eqv (.list (l.map S3.d)) (.list []))) else none) = _
  rw [shaped_row]
  cases l with
  | nil => rfl
  | cons a l => rfl
/-- one lap -/
theorem lap_run {o t : S3} {F E : P6} {π : Nat} (hE : Small E) {row : List S3} {m : List (S3 × Int)} {st : NSt} (hi : LapInv o F E π row m) (he : LEnc o t F E row m st) :
    ∃ row' m' st', LapInv o F E (1 - π) row' m' ∧ LEnc o t F E row' m' st' ∧ mle m m' ∧ (∀ x ∈ row, relaxed o F E m' x) ∧ zLap st = some (if row'.isEmpty = true then .bk st' else .nx st') := by
  obtain ⟨l, x, b, c, d, e, rfl⟩ := he
  have ri : RowInv o F E π [] row (m, []) := ⟨hi.base, List.nodup_nil, (fun s hs => by cases hs), hi.rk, (fun s hs => by cases hs), Nat.zero_le _, fun y hy => (hi.cov y hy).imp id .inr⟩
  obtain ⟨st1, D', r1, r2, r3, r4⟩ := row_run (t := t) (row := .list (row.map S3.d)) (lap := l) hE row [] (m, []) ⟨zR o t F E (.list (row.map S3.d)) l x b c d e, kvD m, some []⟩ ri ⟨x, b, c, d, e, rfl⟩
  generalize row.foldl (itemM o F E) (m, []) = a at *
  obtain ⟨x1, b1, c1, d1, e1, rfl⟩ := r2
  refine ⟨a.2, a.1, ⟨zR o t F E (.list (a.2.map S3.d)) l x1 b1 c1 d1 e1, kvD a.1, none⟩, ⟨r3.base, by omega, fun s hs => ?_, fun y hy => ?_⟩, ⟨l, x1, b1, c1, d1, e1, rfl⟩, r4, fun y hy => ?_, ?_⟩
  · obtain ⟨k1, k2⟩ := r3.lk s hs
    refine ⟨k1, ?_⟩
    have h2 : par s < 2 := Nat.mod_lt _ (by decide)
    have h3 := hi.pi
    omega
  · rcases r3.cov y hy with h | h
    · cases h
    · exact h
  · obtain ⟨k1, k2⟩ := hi.rk y hy
    rcases r3.cov y (r4.some k1) with h | h | h
    · cases h
    · exact absurd k2 (r3.lk y h).2
    · exact h
  · unfold zLap
    have s1 : mNew ⟨zR o t F E (.list (row.map S3.d)) l x b c d e, kvD m, none⟩ = some (.nx ⟨zR o t F E (.list (row.map S3.d)) l x b c d e, kvD m, some []⟩) := rfl
    rw [mSeq_nx s1]
    have s2 : mFor (iSeq (dVar 5)) 8 (mFor (iRange (dC (.int 4))) 9 zIn) ⟨zR o t F E (.list (row.map S3.d)) l x b c d e, kvD m, some []⟩ = some (.nx ⟨zR o t F E (.list (row.map S3.d)) l x1 b1 c1 d1 e1, kvD a.1, some (a.2.map S3.d)⟩) := r1
    rw [mSeq_nx s2]
    have s3 : mFrz 5 ⟨zR o t F E (.list (row.map S3.d)) l x1 b1 c1 d1 e1, kvD a.1, some (a.2.map S3.d)⟩ = some (.nx ⟨zR o t F E (.list (a.2.map S3.d)) l x1 b1 c1 d1 e1, kvD a.1, none⟩) := rfl
    rw [mSeq_nx s3]
    have s4 : (nP (tB_ (d2 eqD (dVar 5) (dLst dNil)))) ⟨zR o t F E (.list (a.2.map S3.d)) l x1 b1 c1 d1 e1, kvD a.1, none⟩ = some a.2.isEmpty := by
      unfold nP tB_
      dsimp only
      rw [d2_eq (x := .list (a.2.map S3.d)) (y := .list []) rfl rfl, row_nil]
      rfl
    rw [mIf_eq s4]
    cases a.2.isEmpty with
    | true => rfl
    | false => rfl
/-- the dict at the walk's places -/
def Reach (o : S3) (F : P6) (m : List (S3 × Int)) (us : List (Fin 4)) : Prop := ∃ v, getS m (tips o us) = some v ∧ v ≤ feeS F o us
theorem Reach.mle {o : S3} {F : P6} {m m' : List (S3 × Int)} {us : List (Fin 4)} (h : Reach o F m us) (hd : DL.mle m m') : Reach o F m' us := by
  obtain ⟨v, h1, h2⟩ := h
  obtain ⟨v', h3, h4⟩ := hd _ _ h1
  exact ⟨v', h3, by omega⟩
theorem Reach.next {o : S3} {F E : P6} {m : List (S3 × Int)} {us : List (Fin 4)} (h : Reach o F m us) (hr : relaxed o F E m (tips o us)) (w : Fin 4) (hi : Inb o E (tips o (us ++ [w]))) : Reach o F m (us ++ [w]) := by
  obtain ⟨v, h1, h2⟩ := h
  obtain ⟨v1, h3, h4⟩ := hr
  rw [h1] at h3
  cases h3
  have e : tips o (us ++ [w]) = tip (tips o us) w := by rw [tips_append]; rfl
  rw [e] at hi
  obtain ⟨j, h5, h6⟩ := h4 w hi
  refine ⟨j, by rw [e]; exact h5, ?_⟩
  rw [fee_append]
  simp only [feeS]
  omega
def Path (o : S3) (E : P6) (us : List (Fin 4)) : Prop := ∀ pre w, pre ++ [w] <+: us → Inb o E (tips o (pre ++ [w]))
theorem path_all {o : S3} {F E : P6} {us : List (Fin 4)} {m : List (S3 × Int)} (hp : Path o E us) (h0 : Reach o F m []) (hr : ∀ x, (getS m x).isSome = true → relaxed o F E m x) : Reach o F m us := by
  have h : ∀ n pre, pre.length = n → pre <+: us → Reach o F m pre := fun n => by
    induction n with
    | zero =>
      intro pre hl _
      rw [List.eq_nil_of_length_eq_zero hl]
      exact h0
    | succ n ih =>
      intro pre hl hu
      obtain ⟨q, w, rfl⟩ : ∃ q w, pre = q ++ [w] := ⟨pre.dropLast, pre.getLast (fun z => by rw [z] at hl; cases hl), (List.dropLast_concat_getLast _).symm⟩
      have hq := ih q (by rw [List.length_append] at hl; simpa using hl) ((List.prefix_append q [w]).trans hu)
      refine hq.next (hr _ ?_) w (hp q w hu)
      obtain ⟨v, hv, _⟩ := hq
      rw [hv]
      rfl
  exact h us.length us rfl (List.prefix_refl us)
theorem laps_run {o t : S3} {F E : P6} (hE : Small E) {us : List (Fin 4)} (hp : Path o E us) : ∀ (ds : List D) (j π : Nat) (row : List S3) (m : List (S3 × Int)) (st : NSt), LapInv o F E π row m → LEnc o t F E row m st → us.length ≤ j + ds.length → (∀ pre, pre <+: us → pre.length ≤ j → Reach o F m pre) →
    ∃ row' m' st', Base o F E m' ∧ LEnc o t F E row' m' st' ∧ Reach o F m' us ∧ forN 6 zLap ds st = some (.nx st')
  | [], j, π, row, m, st, hi, he, hl, hr => ⟨row, m, st, hi.base, he, hr us (List.prefix_refl us) (by simpa using hl), rfl⟩
  | d :: ds, j, π, row, m, st, hi, he, hl, hr => by
    obtain ⟨l, x, b, c, d', e, rfl⟩ := he
    obtain ⟨row1, m1, st1, i1, e1, hm, hrow, z1⟩ := lap_run (t := t) hE hi (st := ⟨zR o t F E (.list (row.map S3.d)) (some d) x b c d' e, kvD m, none⟩) ⟨some d, x, b, c, d', e, rfl⟩
    have hr1 : ∀ pre, pre <+: us → pre.length ≤ j + 1 → Reach o F m1 pre := fun pre hu hlen => by
      by_cases hle : pre.length ≤ j
      · exact (hr pre hu hle).mle hm
      · obtain ⟨q, w, rfl⟩ : ∃ q w, pre = q ++ [w] := ⟨pre.dropLast, pre.getLast (fun z => by rw [z] at hle; exact hle (Nat.zero_le _)), (List.dropLast_concat_getLast _).symm⟩
        have hq := hr q ((List.prefix_append q [w]).trans hu) (by rw [List.length_append] at hlen; simpa using hlen)
        have hs : (getS m (tips o q)).isSome = true := by
          obtain ⟨v, hv, _⟩ := hq
          rw [hv]
          rfl
        rcases hi.cov _ hs with hc | hc
        · exact (hq.mle hm).next (hrow _ hc) w (hp q w hu)
        · exact (hq.next hc w (hp q w hu)).mle hm
    have ez : forN 6 zLap (d :: ds) ⟨zR o t F E (.list (row.map S3.d)) l x b c d' e, kvD m, none⟩ = mLoop (zLap ⟨zR o t F E (.list (row.map S3.d)) (some d) x b c d' e, kvD m, none⟩) (forN 6 zLap ds) := rfl
    rw [ez, z1]
    cases hem : row1.isEmpty with
    | true =>
      rw [if_pos rfl]
      refine ⟨row1, m1, st1, i1.base, e1, path_all hp (hr1 [] (List.nil_prefix) (Nat.zero_le _)) fun x hx => ?_, rfl⟩
      rcases i1.cov x hx with h | h
      · rw [List.isEmpty_iff.mp hem] at h
        cases h
      · exact h
    | false =>
      rw [if_neg Bool.false_ne_true]
      exact laps_run hE hp ds (j + 1) (1 - π) row1 m1 st1 i1 e1 (by rw [List.length_cons] at hl; omega) hr1
end DL

/-! P31: the search's law. -/
namespace DL
open PySem PySem.Spec PyProof.Rows L2

theorem path_of (o t : S3) : ∀ (us : List (Fin 4)) (s : S3), pathBox (cl o t) s.p (cl o s) us → ∀ pre w, pre ++ [w] <+: us → Inb o (tal o t) (tips s (pre ++ [w]))
  | [], s, _, pre, w, h => by
    have := h.length_le
    rw [List.length_append] at this
    simp at this
  | u :: us, s, hp, pre, w, h => by
    obtain ⟨h1, h2⟩ := hp
    rw [← cl_tip] at h1 h2
    rw [← tip_p] at h2
    cases pre with
    | nil =>
      have e : w = u := by
        obtain ⟨r, hr⟩ := h
        simp at hr
        exact hr.1
      subst e
      show Inb o (tal o t) (tip s w)
      intro k
      have := List.all_eq_true.mp h1 k (mem_allk k)
      rw [cl_get, cl_get, Bool.and_eq_true, decide_eq_true_eq, decide_eq_true_eq] at this
      exact this
    | cons q pre =>
      rw [List.cons_append] at h
      obtain ⟨rfl, h3⟩ := List.cons_prefix_cons.mp h
      exact path_of o t us (tip s q) h2 pre w h3
theorem base_o (o : S3) (F E : P6) : Base o F E [(o, 0)] := by
  refine ⟨by simp, fun s hs => ?_, fun s v hs => ?_⟩
  · rw [List.map_cons, List.map_nil, List.mem_singleton] at hs
    subst hs
    exact inb_o _ E
  · rw [getS_cons] at hs
    by_cases h : (o, (0 : Int)).1 = s
    · rw [if_pos h] at hs
      cases hs
      exact ⟨[], h, rfl⟩
    · rw [if_neg h] at hs
      cases hs
theorem lap_o (o : S3) (F E : P6) : LapInv o F E (par o) [o] [(o, 0)] := by
  refine ⟨base_o o F E, Nat.mod_lt _ (by decide), fun s hs => ?_, fun x hx => ?_⟩
  · rw [List.mem_singleton] at hs
    subst hs
    refine ⟨?_, rfl⟩
    rw [getS_cons, if_pos rfl]
    rfl
  · rw [getS_mem, List.map_cons, List.map_nil] at hx
    exact .inl hx
theorem range200 : ∃ ds : List D, ds.length = 200 ∧ ∀ ρ, iRange (dC (.int 200)) ρ = some ds := by
  refine ⟨rangeD 200, ?_, fun ρ => rfl⟩
  kernel_rfl
theorem search_ok : SearchOk F_l_searched := fun o ws F hw hf hF => by
  have hL : Lead o (tips o ws) := Lead.tips ws (Lead.refl o)
  obtain ⟨a, b, T, A, hT, hab, hmin⟩ := hL.answer hf (hL.fr hf) F hF
  obtain ⟨us, u1, u2, u3, u4⟩ := path_ex o ws hw hT
  refine ⟨a, A.cheap _ _ _ (.inl rfl) (.inl rfl) (.inl rfl), ?_⟩
  have hE := small_goal o ws hw
  have hp : Path o (tal o (tips o ws)) us := path_of o (tips o ws) us o (by rw [cl_self]; exact u3)
  have hfee : feeS F o us = a := by
    have hz : ∀ k ∈ T, Zf (tal o (tips o ws)) k = true := by
      have := List.all_eq_true.mp (allZ_ok (allPQ_ok chk1 o.p (tips o ws).p) (Zf (tal o (tips o ws)))) T hT
      exact List.all_eq_true.mp ((Bool.and_eq_true _ _).mp this).1
    rw [path_fee hz u2, ← hab]
  obtain ⟨ds, d1, d2⟩ := range200
  obtain ⟨row', m', st', b1, b2, b3, b4⟩ := laps_run (o := o) (t := tips o ws) (F := F) (E := tal o (tips o ws)) hE hp ds 0 (par o) [o] [(o, 0)] ⟨zR o (tips o ws) F (tal o (tips o ws)) (.list ([o].map S3.d)) none none none none none none, kvD [(o, 0)], none⟩ (lap_o o F _) ⟨none, none, none, none, none, none, rfl⟩ (by omega) fun pre hpre hlen => by
    rw [List.eq_nil_of_length_eq_zero (Nat.le_zero.mp hlen)]
    refine ⟨0, ?_, Int.le_refl _⟩
    show getS [(o, 0)] o = some 0
    rw [getS_cons, if_pos rfl]
  obtain ⟨v, v1, v2⟩ := b3
  rw [u1] at v1
  have hv : v = a := by
    obtain ⟨vs, w1, w2⟩ := b1.wk _ v v1
    have h3 : a ≤ feeS F o vs := price_le hF.ok vs (by rw [w1]; exact hmin)
    omega
  subst hv
  obtain ⟨l, x, b, c, d, e, rfl⟩ := b2
  have s1 : mSet 5 (nP (dLst (dCons (dVar 0) dNil))) (zSt o.d (tips o ws).d F.d (tal o (tips o ws)).d) = some (.nx ⟨zR o (tips o ws) F (tal o (tips o ws)) (.list ([o].map S3.d)) none none none none none none, kvD [(o, 0)], none⟩) := rfl
  have s2 : mFor (iRange (dC (.int 200))) 6 zLap ⟨zR o (tips o ws) F (tal o (tips o ws)) (.list ([o].map S3.d)) none none none none none none, kvD [(o, 0)], none⟩ = some (.nx ⟨zR o (tips o ws) F (tal o (tips o ws)) (.list (row'.map S3.d)) l x b c d e, kvD m', none⟩) := by
    unfold mFor
    rw [d2, Option.bind_some]
    exact b4
  have s3 : mRet (nGet (dVar 1)) ⟨zR o (tips o ws) F (tal o (tips o ws)) (.list (row'.map S3.d)) l x b c d e, kvD m', none⟩ = some (.rt (.int v)) := by
    have h : nGet (dVar 1) ⟨zR o (tips o ws) F (tal o (tips o ws)) (.list (row'.map S3.d)) l x b c d e, kvD m', none⟩ = some (.int v) := by
      show (some (tips o ws).d).bind _ = _
      rw [Option.bind_some, if_pos (nkB_s _), getN_s, v1]
      rfl
    unfold mRet
    rw [h]
    rfl
  show ((F_l_tally [o.d, (tips o ws).d]).bind fun t => if nkB o.d = true then outN (zAll (zSt o.d (tips o ws).d F.d t)) else none) = _
  rw [hL.tally, Option.bind_some, if_pos (nkB_s o)]
  unfold zAll
  rw [mSeq_nx s1, mSeq_nx s2, s3]
  rfl
end DL

/-! E3: the head and the facts (printed by genE.py). -/
open PySem PySem.W PyProof.Rows
set_option maxRecDepth 100000 in
set_option maxHeartbeats 0 in
open_top hd for PySem.Challenge.rw_movedchest_k47_whole_cheapest_rows
set_option maxRecDepth 100000 in
set_option maxHeartbeats 0 in
theorem PySem.Challenge.cw_movedchest_k47_whole_cheapest_rows_holds : PySem.Challenge.rw_movedchest_k47_whole_cheapest_rows.Holds := by
  refine hd ?_
  refine DL.walk (l := PySem.Challenge.rw_movedchest_k47_whole_cheapest_rows) rfl rfl (fun w h Y => PySem.W.kIn_of Y) ?F
  case F =>
    intro w mg fa h KX G hmg
    have d_is_number : DL.DefOk (hd.heap_39 w.params) mg "is_number" DL.s_is_number ["thing"] := by
      refine' DL.defOk DL.bd_is_number KX G ?a ?l ?c ?k
      (case a => k_is)
      (case l => k_is)
      (case c => k_is)
      (case k => k_is)
    have d_is_from : DL.DefOk (hd.heap_39 w.params) mg "is_from" DL.s_is_from ["thing", "least"] := by
      refine' DL.defOk DL.bd_is_from KX G ?a ?l ?c ?k
      (case a => k_is)
      (case l => k_is)
      (case c => k_is)
      (case k => k_is)
    have d_is_within : DL.DefOk (hd.heap_39 w.params) mg "is_within" DL.s_is_within ["thing", "least", "most"] := by
      refine' DL.defOk DL.bd_is_within KX G ?a ?l ?c ?k
      (case a => k_is)
      (case l => k_is)
      (case c => k_is)
      (case k => k_is)
    have d_is_long : DL.DefOk (hd.heap_39 w.params) mg "is_long" DL.s_is_long ["thing", "length"] := by
      refine' DL.defOk DL.bd_is_long KX G ?a ?l ?c ?k
      (case a => k_is)
      (case l => k_is)
      (case c => k_is)
      (case k => k_is)
    have d_tupled : DL.DefOk (hd.heap_39 w.params) mg "tupled" DL.s_tupled ["value"] := by
      refine' DL.defOk DL.bd_tupled KX G ?a ?l ?c ?k
      (case a => k_is)
      (case l => k_is)
      (case c => k_is)
      (case k => k_is)
    have d_set_of : DL.DefOk (hd.heap_39 w.params) mg "set_of" DL.s_set_of ["row"] := by
      refine' DL.defOk DL.bd_set_of KX G ?a ?l ?c ?k
      (case a => k_is)
      (case l => k_is)
      (case c => k_is)
      (case k => k_is)
    have d_are_numbers : DL.DefOk (hd.heap_39 w.params) mg "are_numbers" DL.s_are_numbers ["thing"] := by
      refine' DL.defOk DL.bd_are_numbers KX G ?a ?l ?c ?k
      (case a => k_is)
      (case l => k_is)
      (case c => k_is)
      (case k => k_is)
    have d_is_shape : DL.DefOk (hd.heap_39 w.params) mg "is_shape" DL.s_is_shape ["thing"] := by
      refine' DL.defOk DL.bd_is_shape KX G ?a ?l ?c ?k
      (case a => k_is)
      (case l => k_is)
      (case c => k_is)
      (case k => k_is)
    have d_place_in : DL.DefOk (hd.heap_39 w.params) mg "place_in" DL.s_place_in ["shape"] := by
      refine' DL.defOk DL.bd_place_in KX G ?a ?l ?c ?k
      (case a => k_is)
      (case l => k_is)
      (case c => k_is)
      (case k => k_is)
    have d_side_in : DL.DefOk (hd.heap_39 w.params) mg "side_in" DL.s_side_in ["link"] := by
      refine' DL.defOk DL.bd_side_in KX G ?a ?l ?c ?k
      (case a => k_is)
      (case l => k_is)
      (case c => k_is)
      (case k => k_is)
    have d_over_in : DL.DefOk (hd.heap_39 w.params) mg "over_in" DL.s_over_in ["shape", "way"] := by
      refine' DL.defOk DL.bd_over_in KX G ?a ?l ?c ?k
      (case a => k_is)
      (case l => k_is)
      (case c => k_is)
      (case k => k_is)
    have d_arcs_in : DL.DefOk (hd.heap_39 w.params) mg "arcs_in" DL.s_arcs_in ["shape", "other"] := by
      refine' DL.defOk DL.bd_arcs_in KX G ?a ?l ?c ?k
      (case a => k_is)
      (case l => k_is)
      (case c => k_is)
      (case k => k_is)
    have d_is_stand : DL.DefOk (hd.heap_39 w.params) mg "is_stand" DL.s_is_stand ["thing"] := by
      refine' DL.defOk DL.bd_is_stand KX G ?a ?l ?c ?k
      (case a => k_is)
      (case l => k_is)
      (case c => k_is)
      (case k => k_is)
    have d_sure_stand : DL.DefOk (hd.heap_39 w.params) mg "sure_stand" DL.s_sure_stand ["stand"] := by
      refine' DL.defOk DL.bd_sure_stand KX G ?a ?l ?c ?k
      (case a => k_is)
      (case l => k_is)
      (case c => k_is)
      (case k => k_is)
    have d_is_move : DL.DefOk (hd.heap_39 w.params) mg "is_move" DL.s_is_move ["thing"] := by
      refine' DL.defOk DL.bd_is_move KX G ?a ?l ?c ?k
      (case a => k_is)
      (case l => k_is)
      (case c => k_is)
      (case k => k_is)
    have d_more_at : DL.DefOk (hd.heap_39 w.params) mg "more_at" DL.s_more_at ["row", "place", "by"] := by
      refine' DL.defOk DL.bd_more_at KX G ?a ?l ?c ?k
      (case a => k_is)
      (case l => k_is)
      (case c => k_is)
      (case k => k_is)
    have d_flipped : DL.DefOk (hd.heap_39 w.params) mg "flipped" DL.s_flipped ["row", "place"] := by
      refine' DL.defOk DL.bd_flipped KX G ?a ?l ?c ?k
      (case a => k_is)
      (case l => k_is)
      (case c => k_is)
      (case k => k_is)
    have d_tipped_in : DL.DefOk (hd.heap_39 w.params) mg "tipped_in" DL.s_tipped_in ["stand", "way"] := by
      refine' DL.defOk DL.bd_tipped_in KX G ?a ?l ?c ?k
      (case a => k_is)
      (case l => k_is)
      (case c => k_is)
      (case k => k_is)
    have d_turned_in : DL.DefOk (hd.heap_39 w.params) mg "turned_in" DL.s_turned_in ["stand", "corner", "hand"] := by
      refine' DL.defOk DL.bd_turned_in KX G ?a ?l ?c ?k
      (case a => k_is)
      (case l => k_is)
      (case c => k_is)
      (case k => k_is)
    have d_moved_in : DL.DefOk (hd.heap_39 w.params) mg "moved_in" DL.s_moved_in ["stand", "move"] := by
      refine' DL.defOk DL.bd_moved_in KX G ?a ?l ?c ?k
      (case a => k_is)
      (case l => k_is)
      (case c => k_is)
      (case k => k_is)
    have d_is_row_in : DL.DefOk (hd.heap_39 w.params) mg "is_row_in" DL.s_is_row_in ["thing"] := by
      refine' DL.defOk DL.bd_is_row_in KX G ?a ?l ?c ?k
      (case a => k_is)
      (case l => k_is)
      (case c => k_is)
      (case k => k_is)
    have d_sure_row : DL.DefOk (hd.heap_39 w.params) mg "sure_row" DL.s_sure_row ["row"] := by
      refine' DL.defOk DL.bd_sure_row KX G ?a ?l ?c ?k
      (case a => k_is)
      (case l => k_is)
      (case c => k_is)
      (case k => k_is)
    have d_more_of : DL.DefOk (hd.heap_39 w.params) mg "more_of" DL.s_more_of ["one", "other"] := by
      refine' DL.defOk DL.bd_more_of KX G ?a ?l ?c ?k
      (case a => k_is)
      (case l => k_is)
      (case c => k_is)
      (case k => k_is)
    have d_counts_in : DL.DefOk (hd.heap_39 w.params) mg "counts_in" DL.s_counts_in ["stand", "goal"] := by
      refine' DL.defOk DL.bd_counts_in KX G ?a ?l ?c ?k
      (case a => k_is)
      (case l => k_is)
      (case c => k_is)
      (case k => k_is)
    have d_shift_in : DL.DefOk (hd.heap_39 w.params) mg "shift_in" DL.s_shift_in ["counts", "rest"] := by
      refine' DL.defOk DL.bd_shift_in KX G ?a ?l ?c ?k
      (case a => k_is)
      (case l => k_is)
      (case c => k_is)
      (case k => k_is)
    have d_halves_in : DL.DefOk (hd.heap_39 w.params) mg "halves_in" DL.s_halves_in ["shift", "was", "lies"] := by
      refine' DL.defOk DL.bd_halves_in KX G ?a ?l ?c ?k
      (case a => k_is)
      (case l => k_is)
      (case c => k_is)
      (case k => k_is)
    have d_fronts_in : DL.DefOk (hd.heap_39 w.params) mg "fronts_in" DL.s_fronts_in ["stand", "shape", "counts"] := by
      refine' DL.defOk DL.bd_fronts_in KX G ?a ?l ?c ?k
      (case a => k_is)
      (case l => k_is)
      (case c => k_is)
      (case k => k_is)
    have d_stretch_from : DL.DefOk (hd.heap_39 w.params) mg "stretch_from" DL.s_stretch_from ["ends", "counts", "first"] := by
      refine' DL.defOk DL.bd_stretch_from KX G ?a ?l ?c ?k
      (case a => k_is)
      (case l => k_is)
      (case c => k_is)
      (case k => k_is)
    have d_stretches_in : DL.DefOk (hd.heap_39 w.params) mg "stretches_in" DL.s_stretches_in ["shape", "other", "counts"] := by
      refine' DL.defOk DL.bd_stretches_in KX G ?a ?l ?c ?k
      (case a => k_is)
      (case l => k_is)
      (case c => k_is)
      (case k => k_is)
    have d_is_odd_line : DL.DefOk (hd.heap_39 w.params) mg "is_odd_line" DL.s_is_odd_line ["stand", "goal", "line"] := by
      refine' DL.defOk DL.bd_is_odd_line KX G ?a ?l ?c ?k
      (case a => k_is)
      (case l => k_is)
      (case c => k_is)
      (case k => k_is)
    have d_odd_of : DL.DefOk (hd.heap_39 w.params) mg "odd_of" DL.s_odd_of ["counts"] := by
      refine' DL.defOk DL.bd_odd_of KX G ?a ?l ?c ?k
      (case a => k_is)
      (case l => k_is)
      (case c => k_is)
      (case k => k_is)
    have d_bars_in : DL.DefOk (hd.heap_39 w.params) mg "bars_in" DL.s_bars_in ["stand", "goal"] := by
      refine' DL.defOk DL.bd_bars_in KX G ?a ?l ?c ?k
      (case a => k_is)
      (case l => k_is)
      (case c => k_is)
      (case k => k_is)
    have d_can_in : DL.DefOk (hd.heap_39 w.params) mg "can_in" DL.s_can_in ["stand", "goal"] := by
      refine' DL.defOk DL.bd_can_in KX G ?a ?l ?c ?k
      (case a => k_is)
      (case l => k_is)
      (case c => k_is)
      (case k => k_is)
    have d_sure_both : DL.DefOk (hd.heap_39 w.params) mg "sure_both" DL.s_sure_both ["stand", "goal"] := by
      refine' DL.defOk DL.bd_sure_both KX G ?a ?l ?c ?k
      (case a => k_is)
      (case l => k_is)
      (case c => k_is)
      (case k => k_is)
    have d_sure_way : DL.DefOk (hd.heap_39 w.params) mg "sure_way" DL.s_sure_way ["stand", "goal"] := by
      refine' DL.defOk DL.bd_sure_way KX G ?a ?l ?c ?k
      (case a => k_is)
      (case l => k_is)
      (case c => k_is)
      (case k => k_is)
    have d_is_tips : DL.DefOk (hd.heap_39 w.params) mg "is_tips" DL.s_is_tips ["thing"] := by
      refine' DL.defOk DL.bd_is_tips KX G ?a ?l ?c ?k
      (case a => k_is)
      (case l => k_is)
      (case c => k_is)
      (case k => k_is)
    have d_sure_prices : DL.DefOk (hd.heap_39 w.params) mg "sure_prices" DL.s_sure_prices ["prices"] := by
      refine' DL.defOk DL.bd_sure_prices KX G ?a ?l ?c ?k
      (case a => k_is)
      (case l => k_is)
      (case c => k_is)
      (case k => k_is)
    have d_sure_priced : DL.DefOk (hd.heap_39 w.params) mg "sure_priced" DL.s_sure_priced ["stand", "goal", "prices"] := by
      refine' DL.defOk DL.bd_sure_priced KX G ?a ?l ?c ?k
      (case a => k_is)
      (case l => k_is)
      (case c => k_is)
      (case k => k_is)
    have d_price_in : DL.DefOk (hd.heap_39 w.params) mg "price_in" DL.s_price_in ["stand", "row", "prices"] := by
      refine' DL.defOk DL.bd_price_in KX G ?a ?l ?c ?k
      (case a => k_is)
      (case l => k_is)
      (case c => k_is)
      (case k => k_is)
    have d_price_of : DL.DefOk (hd.heap_39 w.params) mg "price_of" DL.s_price_of ["stand", "row", "prices"] := by
      refine' DL.defOk DL.bd_price_of KX G ?a ?l ?c ?k
      (case a => k_is)
      (case l => k_is)
      (case c => k_is)
      (case k => k_is)
    have d_bridges_in : DL.DefOk (hd.heap_39 w.params) mg "bridges_in" DL.s_bridges_in ["counts", "stretch"] := by
      refine' DL.defOk DL.bd_bridges_in KX G ?a ?l ?c ?k
      (case a => k_is)
      (case l => k_is)
      (case c => k_is)
      (case k => k_is)
    have d_priced_in : DL.DefOk (hd.heap_39 w.params) mg "priced_in" DL.s_priced_in ["stand", "goal", "prices"] := by
      refine' DL.defOk DL.bd_priced_in KX G ?a ?l ?c ?k
      (case a => k_is)
      (case l => k_is)
      (case c => k_is)
      (case k => k_is)
    have d_least_in : DL.DefOk (hd.heap_39 w.params) mg "least_in" DL.s_least_in ["stand", "goal", "prices"] := by
      refine' DL.defOk DL.bd_least_in KX G ?a ?l ?c ?k
      (case a => k_is)
      (case l => k_is)
      (case c => k_is)
      (case k => k_is)
    have d_cheapest : DL.DefOk (hd.heap_39 w.params) mg "cheapest" DL.s_cheapest ["stand", "goal", "prices"] := by
      refine' DL.defOk DL.bd_cheapest KX G ?a ?l ?c ?k
      (case a => k_is)
      (case l => k_is)
      (case c => k_is)
      (case k => k_is)
    have d_cheap_and_few : DL.DefOk (hd.heap_39 w.params) mg "cheap_and_few" DL.s_cheap_and_few ["stand", "goal", "prices"] := by
      refine' DL.defOk DL.bd_cheap_and_few KX G ?a ?l ?c ?k
      (case a => k_is)
      (case l => k_is)
      (case c => k_is)
      (case k => k_is)
    have d_l_lists : DL.DefOk (hd.heap_39 w.params) mg "_law_lists" DL.s_l_lists ["_law_matter"] := by
      refine' DL.defOk DL.bd_l_lists KX G ?a ?l ?c ?k
      (case a => k_is)
      (case l => k_is)
      (case c => k_is)
      (case k => k_is)
    have d_l_same : DL.DefOk (hd.heap_39 w.params) mg "_law_same" DL.s_l_same ["_law_got", "_law_due"] := by
      refine' DL.defOk DL.bd_l_same KX G ?a ?l ?c ?k
      (case a => k_is)
      (case l => k_is)
      (case c => k_is)
      (case k => k_is)
    have d_l_home : DL.DefOk (hd.heap_39 w.params) mg "_law_home" DL.s_l_home [] := by
      refine' DL.defOk DL.bd_l_home KX G ?a ?l ?c ?k
      (case a => k_is)
      (case l => k_is)
      (case c => k_is)
      (case k => k_is)
    have d_l_poses : DL.DefOk (hd.heap_39 w.params) mg "_law_poses" DL.s_l_poses [] := by
      refine' DL.defOk DL.bd_l_poses KX G ?a ?l ?c ?k
      (case a => k_is)
      (case l => k_is)
      (case c => k_is)
      (case k => k_is)
    have d_l_across : DL.DefOk (hd.heap_39 w.params) mg "_law_across" DL.s_l_across [] := by
      refine' DL.defOk DL.bd_l_across KX G ?a ?l ?c ?k
      (case a => k_is)
      (case l => k_is)
      (case c => k_is)
      (case k => k_is)
    have d_l_plus : DL.DefOk (hd.heap_39 w.params) mg "_law_plus" DL.s_l_plus ["_law_row_so", "_law_k", "_law_by_so"] := by
      refine' DL.defOk DL.bd_l_plus KX G ?a ?l ?c ?k
      (case a => k_is)
      (case l => k_is)
      (case c => k_is)
      (case k => k_is)
    have d_l_flip : DL.DefOk (hd.heap_39 w.params) mg "_law_flip" DL.s_l_flip ["_law_row_so", "_law_k"] := by
      refine' DL.defOk DL.bd_l_flip KX G ?a ?l ?c ?k
      (case a => k_is)
      (case l => k_is)
      (case c => k_is)
      (case k => k_is)
    have d_l_tip : DL.DefOk (hd.heap_39 w.params) mg "_law_tip" DL.s_l_tip ["_law_spot", "_law_way_so"] := by
      refine' DL.defOk DL.bd_l_tip KX G ?a ?l ?c ?k
      (case a => k_is)
      (case l => k_is)
      (case c => k_is)
      (case k => k_is)
    have d_l_turn : DL.DefOk (hd.heap_39 w.params) mg "_law_turn" DL.s_l_turn ["_law_spot", "_law_corner_so", "_law_hand_so"] := by
      refine' DL.defOk DL.bd_l_turn KX G ?a ?l ?c ?k
      (case a => k_is)
      (case l => k_is)
      (case c => k_is)
      (case k => k_is)
    have d_l_step : DL.DefOk (hd.heap_39 w.params) mg "_law_step" DL.s_l_step ["_law_spot", "_law_step_here"] := by
      refine' DL.defOk DL.bd_l_step KX G ?a ?l ?c ?k
      (case a => k_is)
      (case l => k_is)
      (case c => k_is)
      (case k => k_is)
    have d_l_behind : DL.DefOk (hd.heap_39 w.params) mg "_law_behind" DL.s_l_behind ["_law_spot", "_law_walk_here"] := by
      refine' DL.defOk DL.bd_l_behind KX G ?a ?l ?c ?k
      (case a => k_is)
      (case l => k_is)
      (case c => k_is)
      (case k => k_is)
    have d_l_tips : DL.DefOk (hd.heap_39 w.params) mg "_law_tips" DL.s_l_tips [] := by
      refine' DL.defOk DL.bd_l_tips KX G ?a ?l ?c ?k
      (case a => k_is)
      (case l => k_is)
      (case c => k_is)
      (case k => k_is)
    have d_l_tally : DL.DefOk (hd.heap_39 w.params) mg "_law_tally" DL.s_l_tally ["_law_one", "_law_two"] := by
      refine' DL.defOk DL.bd_l_tally KX G ?a ?l ?c ?k
      (case a => k_is)
      (case l => k_is)
      (case c => k_is)
      (case k => k_is)
    have d_l_over : DL.DefOk (hd.heap_39 w.params) mg "_law_over" DL.s_l_over ["_law_pose", "_law_way_so"] := by
      refine' DL.defOk DL.bd_l_over KX G ?a ?l ?c ?k
      (case a => k_is)
      (case l => k_is)
      (case c => k_is)
      (case k => k_is)
    have d_l_fee : DL.DefOk (hd.heap_39 w.params) mg "_law_fee" DL.s_l_fee ["_law_spot", "_law_walk_here", "_law_fees_here"] := by
      refine' DL.defOk DL.bd_l_fee KX G ?a ?l ?c ?k
      (case a => k_is)
      (case l => k_is)
      (case c => k_is)
      (case k => k_is)
    have d_l_hangs : DL.DefOk (hd.heap_39 w.params) mg "_law_hangs" DL.s_l_hangs ["_law_lot", "_law_first_so", "_law_last_so"] := by
      refine' DL.defOk DL.bd_l_hangs KX G ?a ?l ?c ?k
      (case a => k_is)
      (case l => k_is)
      (case c => k_is)
      (case k => k_is)
    have d_l_lots : DL.DefOk (hd.heap_39 w.params) mg "_law_lots" DL.s_l_lots [] := by
      refine' DL.defOk DL.bd_l_lots KX G ?a ?l ?c ?k
      (case a => k_is)
      (case l => k_is)
      (case c => k_is)
      (case k => k_is)
    have d_l_thrift : DL.DefOk (hd.heap_39 w.params) mg "_law_thrift" DL.s_l_thrift ["_law_one", "_law_two", "_law_fees_here"] := by
      refine' DL.defOk DL.bd_l_thrift KX G ?a ?l ?c ?k
      (case a => k_is)
      (case l => k_is)
      (case c => k_is)
      (case k => k_is)
    have d_l_take : DL.DefOk (hd.heap_39 w.params) mg "_law_take" DL.s_l_take ["_law_tin", "_law_below_so"] := by
      refine' DL.defOk DL.bd_l_take KX G ?a ?l ?c ?k
      (case a => k_is)
      (case l => k_is)
      (case c => k_is)
      (case k => k_is)
    have d_l_of : DL.DefOk (hd.heap_39 w.params) mg "_law_of" DL.s_l_of ["_law_tin", "_law_goods_so"] := by
      refine' DL.defOk DL.bd_l_of KX G ?a ?l ?c ?k
      (case a => k_is)
      (case l => k_is)
      (case c => k_is)
      (case k => k_is)
    have d_l_walk : DL.DefOk (hd.heap_39 w.params) mg "_law_walk" DL.s_l_walk ["_law_tin", "_law_many_so", "_law_steps_so"] := by
      refine' DL.defOk DL.bd_l_walk KX G ?a ?l ?c ?k
      (case a => k_is)
      (case l => k_is)
      (case c => k_is)
      (case k => k_is)
    have d_l_fees : DL.DefOk (hd.heap_39 w.params) mg "_law_fees" DL.s_l_fees ["_law_tin"] := by
      refine' DL.defOk DL.bd_l_fees KX G ?a ?l ?c ?k
      (case a => k_is)
      (case l => k_is)
      (case c => k_is)
      (case k => k_is)
    have d_l_far_spot : DL.DefOk (hd.heap_39 w.params) mg "_law_far_spot" DL.s_l_far_spot ["_law_tin", "_law_one"] := by
      refine' DL.defOk DL.bd_l_far_spot KX G ?a ?l ?c ?k
      (case a => k_is)
      (case l => k_is)
      (case c => k_is)
      (case k => k_is)
    have d_l_begin : DL.DefOk (hd.heap_39 w.params) mg "_law_begin" DL.s_l_begin ["_law_tin"] := by
      refine' DL.defOk DL.bd_l_begin KX G ?a ?l ?c ?k
      (case a => k_is)
      (case l => k_is)
      (case c => k_is)
      (case k => k_is)
    have d_l_searched : DL.DefOk (hd.heap_39 w.params) mg "_law_searched" DL.s_l_searched ["_law_one", "_law_two", "_law_fees_here"] := by
      refine' DL.defOk DL.bd_l_searched KX G ?a ?l ?c ?k
      (case a => k_is)
      (case l => k_is)
      (case c => k_is)
      (case k => k_is)
    have d_l_right : DL.DefOk (hd.heap_39 w.params) mg "_law_right" DL.s_l_right ["_law_tin"] := by
      refine' DL.defOk DL.bd_l_right KX G ?a ?l ?c ?k
      (case a => k_is)
      (case l => k_is)
      (case c => k_is)
      (case k => k_is)
    have d_l_by_hand_right : DL.DefOk (hd.heap_39 w.params) mg "_law_by_hand_right" DL.s_l_by_hand_right [] := by
      refine' DL.defOk DL.bd_l_by_hand_right KX G ?a ?l ?c ?k
      (case a => k_is)
      (case l => k_is)
      (case c => k_is)
      (case k => k_is)
    have d_l_cells : DL.DefOk (hd.heap_39 w.params) mg "_law_cells" DL.s_l_cells ["_law_script", "_law_most_so"] := by
      refine' DL.defOk DL.bd_l_cells KX G ?a ?l ?c ?k
      (case a => k_is)
      (case l => k_is)
      (case c => k_is)
      (case k => k_is)
    have d_l_box : DL.DefOk (hd.heap_39 w.params) mg "_law_box" DL.s_l_box ["_law_script", "_law_k"] := by
      refine' DL.defOk DL.bd_l_box KX G ?a ?l ?c ?k
      (case a => k_is)
      (case l => k_is)
      (case c => k_is)
      (case k => k_is)
    have B : DL.Txt (hd.heap_39 w.params) mg := by
      refine' DL.txtOk KX G ?z_abs ?z_all ?z_any ?z_enumerate ?z_int ?z_isinstance ?z_len ?z_list ?z_max ?z_min ?z_range ?z_set ?z_sorted ?z_sum ?z_tuple ?z_zip ?z_bool ?z_str ?gR ?lR ?l0 ?l1 ?l2 ?l3 ?l4 ?l5 ?gA ?lA ?c0 ?c1 ?c2 ?c3
      (case z_abs => k_is)
      (case z_all => k_is)
      (case z_any => k_is)
      (case z_enumerate => k_is)
      (case z_int => k_is)
      (case z_isinstance => k_is)
      (case z_len => k_is)
      (case z_list => k_is)
      (case z_max => k_is)
      (case z_min => k_is)
      (case z_range => k_is)
      (case z_set => k_is)
      (case z_sorted => k_is)
      (case z_sum => k_is)
      (case z_tuple => k_is)
      (case z_zip => k_is)
      (case z_bool => k_is)
      (case z_str => k_is)
      (case gR => k_is)
      (case lR => k_is)
      (case l0 => k_is)
      (case l1 => k_is)
      (case l2 => k_is)
      (case l3 => k_is)
      (case l4 => k_is)
      (case l5 => k_is)
      (case gA => k_is)
      (case lA => k_is)
      (case c0 => k_is)
      (case c1 => k_is)
      (case c2 => k_is)
      (case c3 => k_is)
    have dlaw : DL.DefOk (hd.heap_39 w.params) mg "law" DL.s_law ["_law_script"] := by
      refine' DL.defOk DL.bd_law KX G ?a ?l ?c ?k
      (case a => k_is)
      (case l => k_is)
      (case c => k_is)
      (case k => k_is)
    obtain ⟨f, fd, F, m, b⟩ := dlaw
    have ef := hmg.symm.trans m
    cases ef
    exact ⟨fd, fun s v => DL.law_bind F s v, fun base _ _ => DL.law_all ⟨d_is_number, d_is_from, d_is_within, d_is_long, d_tupled, d_set_of, d_are_numbers, d_is_shape, d_place_in, d_side_in, d_over_in, d_arcs_in, d_is_stand, d_sure_stand, d_is_move, d_more_at, d_flipped, d_tipped_in, d_turned_in, d_moved_in, d_is_row_in, d_sure_row, d_more_of, d_counts_in, d_shift_in, d_halves_in, d_fronts_in, d_stretch_from, d_stretches_in, d_is_odd_line, d_odd_of, d_bars_in, d_can_in, d_sure_both, d_sure_way, d_is_tips, d_sure_prices, d_sure_priced, d_price_in, d_price_of, d_bridges_in, d_priced_in, d_least_in, d_cheapest, d_cheap_and_few, d_l_lists, d_l_same, d_l_home, d_l_poses, d_l_across, d_l_plus, d_l_flip, d_l_tip, d_l_turn, d_l_step, d_l_behind, d_l_tips, d_l_tally, d_l_over, d_l_fee, d_l_hangs, d_l_lots, d_l_thrift, d_l_take, d_l_of, d_l_walk, d_l_fees, d_l_far_spot, d_l_begin, d_l_searched, d_l_right, d_l_by_hand_right, d_l_cells, d_l_box⟩ B DL.search_ok (fun F m b C1 C2 C3 => DL.c_searched F m b B C1 C2 C3) F⟩
