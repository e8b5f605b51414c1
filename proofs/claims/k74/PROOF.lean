import PyProof.Rows.All
import HandS.ForMost
import HandS.IsInst
import HandS.Gcd
import HandS.Wide
import HandS.TupAny
import HandS.TupMul
import HandS.Deep
import HandS.Conv
import HandS.Style
import HandS.Remove
import KE.DataMinMax
import KE.SortData
import PySem.Challenge.RW_surelyflowed_k74_pumps_and_sumps
set_option Elab.async false
set_option linter.all false
set_option maxRecDepth 100000
set_option maxHeartbeats 4000000
/-! DL1: data, representation, the typed judgements -/
namespace DL
open PySem PySem.Spec L2

/-! ### the monads of mirrors -/
/-- all that may come of a draw -/
structure W (α : Type) where
  run : (α → Prop) → Prop
  mono : ∀ {Q Q' : α → Prop}, run Q → (∀ a, Q a → Q' a) → run Q'
class Mo (μ : Type → Type) where
  pur : {α : Type} → α → μ α
  bnd : {α β : Type} → μ α → (α → μ β) → μ β
  lft : {α : Type} → Option α → μ α
  holds : {α : Type} → μ α → (α → Prop) → Prop
  hpur : ∀ {α : Type} {a : α} {Q : α → Prop}, holds (pur a) Q → Q a
  hbnd : ∀ {α β : Type} {m : μ α} {f : α → μ β} {Q : β → Prop}, holds (bnd m f) Q → holds m fun a => holds (f a) Q
  hbnd' : ∀ {α β : Type} {m : μ α} {f : α → μ β} {Q : β → Prop}, (holds m fun a => holds (f a) Q) → holds (bnd m f) Q
  hlft : ∀ {α : Type} {o : Option α} {Q : α → Prop}, holds (lft o) Q → ∃ a, o = some a ∧ Q a
  hmono : ∀ {α : Type} {m : μ α} {Q Q' : α → Prop}, holds m Q → (∀ a, Q a → Q' a) → holds m Q'
@[reducible] instance moOption : Mo Option where
  pur := some
  bnd := Option.bind
  lft := fun o => o
  holds := fun o Q => ∃ a, o = some a ∧ Q a
  hpur := fun ⟨_, e, q⟩ => Option.some.inj e ▸ q
  hbnd := fun {α β m f Q} ⟨b, e, q⟩ => by
    cases m with
    | none => exact nomatch e
    | some a => exact ⟨a, rfl, b, e, q⟩
  hbnd' := fun ⟨a, e, b, e', q⟩ => ⟨b, by rw [e]; exact e', q⟩
  hlft := fun h => h
  hmono := fun ⟨a, e, q⟩ h => ⟨a, e, h a q⟩
@[reducible] instance moW : Mo W where
  pur := fun a => ⟨fun Q => Q a, fun h hh => hh _ h⟩
  bnd := fun m k => ⟨fun Q => m.run fun a => (k a).run Q, fun h hh => m.mono h fun a h => (k a).mono h hh⟩
  lft := fun o => ⟨fun Q => ∃ a, o = some a ∧ Q a, fun ⟨a, e, q⟩ hh => ⟨a, e, hh a q⟩⟩
  holds := fun w Q => w.run Q
  hpur := fun h => h
  hbnd := fun h => h
  hbnd' := fun h => h
  hlft := fun h => h
  hmono := fun {α m Q Q'} h hh => m.mono h hh

/-! ### representation -/
def isLst : HO → Bool
  | .lst _ => true
  | _ => false
def KL (K : PySem.W.Frag) (a : Addr) (vs : List V) : Prop := ∃ (o : Obj) (its : Array Value) (n : Nat), K.lookup a = some o ∧ o.cls = .type "list" ∧ o.dict = none ∧ o.data = .seq its n ∧ its.size ≤ sizeLine ∧ Vals vs its.toList
mutual
def Rp (K : PySem.W.Frag) (H : Hp) (M : List Addr) : PyData → V → Prop
  | .none, v => v = .non
  | .bool b, v => v = .bl b
  | .int i, v => v = .int i
  | .str x, v => v = .str x
  | .list ds, v => ∃ a vs, v = .ref a ∧ ((a ∉ M ∧ Rd H a (.lst vs)) ∨ KL K a vs) ∧ Rps K H M ds vs ∧ ds.length ≤ sizeLine
  | .tuple ds, v => ∃ a vs, v = .ref a ∧ SqT K H a vs ∧ Rps K H M ds vs ∧ ds.length ≤ sizeLine
  | .dict _, _ => False
def Rps (K : PySem.W.Frag) (H : Hp) (M : List Addr) : List PyData → List V → Prop
  | [], vs => vs = []
  | d :: ds, vs => ∃ v r, vs = v :: r ∧ Rp K H M d v ∧ Rps K H M ds r
end
/-- what is tracked stays, but for mutable lists -/
def Sm (M : List Addr) (H H' : Hp) : Prop := ∀ a o, H a = some o → (a ∈ M → isLst o = false) → H' a = some o
theorem Sm.refl (M : List Addr) (H : Hp) : Sm M H H := fun _ _ e _ => e
theorem sqT_sm {K : PySem.W.Frag} {M : List Addr} {H H' : Hp} {a : Addr} {vs : List V} (h : SqT K H a vs) (s : Sm M H H') : SqT K H' a vs := by
  rcases h with (h | ⟨o, h⟩) | h
  · exact .inl (.inl (s _ _ h fun _ => rfl))
  · exact .inl (.inr ⟨o, s _ _ h fun _ => rfl⟩)
  · exact .inr h
theorem lst_sm {K : PySem.W.Frag} {M M' : List Addr} {H H' : Hp} {a : Addr} {vs : List V} (h : (a ∉ M ∧ Rd H a (.lst vs)) ∨ KL K a vs) (s : Sm M H H') (hm : ∀ a ∈ M', a ∈ M ∨ H a = none) :
    (a ∉ M' ∧ Rd H' a (.lst vs)) ∨ KL K a vs := by
  rcases h with ⟨n, h | ⟨o, h⟩⟩ | h
  · refine .inl ⟨fun q => ?_, .inl (s _ _ h fun q => absurd q n)⟩
    rcases hm _ q with z | z
    · exact n z
    · rw [h] at z; cases z
  · refine .inl ⟨fun q => ?_, .inr ⟨o, s _ _ h fun _ => rfl⟩⟩
    rcases hm _ q with z | z
    · exact n z
    · rw [h] at z; cases z
  · exact .inr h
section
variable {K : PySem.W.Frag} {M M' : List Addr} {H H' : Hp}
mutual
theorem Rp.mono (s : Sm M H H') (hm : ∀ a ∈ M', a ∈ M ∨ H a = none) : ∀ (d : PyData) (v : V), Rp K H M d v → Rp K H' M' d v
  | .none, _, h => h
  | .bool _, _, h => h
  | .int _, _, h => h
  | .str _, _, h => h
  | .list ds, _, h => by
    obtain ⟨a, vs, e, h1, h2, hz⟩ := h
    exact ⟨a, vs, e, lst_sm h1 s hm, Rps.mono s hm ds vs h2, hz⟩
  | .tuple ds, _, h => by
    obtain ⟨a, vs, e, h1, h2, hz⟩ := h
    exact ⟨a, vs, e, sqT_sm h1 s, Rps.mono s hm ds vs h2, hz⟩
  | .dict _, _, h => h
theorem Rps.mono (s : Sm M H H') (hm : ∀ a ∈ M', a ∈ M ∨ H a = none) : ∀ (ds : List PyData) (vs : List V), Rps K H M ds vs → Rps K H' M' ds vs
  | [], _, h => h
  | d :: ds, _, h => by
    obtain ⟨v, r, e, h1, h2⟩ := h
    exact ⟨v, r, e, Rp.mono s hm d v h1, Rps.mono s hm ds r h2⟩
end
mutual
theorem Rp.dp : ∀ (d : PyData) (v : V), Rp K H M d v → Dp K H v d
  | .none, _, h => by cases (show _ = _ from h); exact .non
  | .bool b, _, h => by cases (show _ = _ from h); exact .bl b
  | .int i, _, h => by cases (show _ = _ from h); exact .int i
  | .str x, _, h => by cases (show _ = _ from h); exact .str x
  | .list ds, _, h => by
    obtain ⟨a, vs, e, h1, h2, _⟩ := h
    subst e
    refine .lst ?_ (Rps.dp ds vs h2)
    rcases h1 with ⟨_, h⟩ | h
    · exact .inl h
    · exact .inr h
  | .tuple ds, _, h => by
    obtain ⟨a, vs, e, h1, h2, _⟩ := h
    subst e
    exact .tup h1 (Rps.dp ds vs h2)
  | .dict _, _, h => h.elim
theorem Rps.dp : ∀ (ds : List PyData) (vs : List V), Rps K H M ds vs → DpAll K H vs ds
  | [], _, h => by cases (show _ = _ from h); exact .nil
  | d :: ds, _, h => by
    obtain ⟨v, r, e, h1, h2⟩ := h
    subst e
    exact .cons (Rp.dp d v h1) (Rps.dp ds r h2)
end
theorem Rp.anti {d : PyData} {v : V} (h : Rp K H M d v) (hm : ∀ a ∈ M', a ∈ M) : Rp K H M' d v := Rp.mono (Sm.refl _ _) (fun a q => .inl (hm a q)) d v h
theorem Rps.anti {d : List PyData} {v : List V} (h : Rps K H M d v) (hm : ∀ a ∈ M', a ∈ M) : Rps K H M' d v := Rps.mono (Sm.refl _ _) (fun a q => .inl (hm a q)) d v h
theorem Rps.length : ∀ {ds : List PyData} {vs : List V}, Rps K H M ds vs → vs.length = ds.length
  | [], _, h => by cases (show _ = _ from h); rfl
  | d :: ds, _, h => by
    obtain ⟨v, r, e, h1, h2⟩ := h
    subst e
    simp [Rps.length h2]
theorem Rps.get : ∀ {ds : List PyData} {vs : List V} {i : Nat} {d : PyData}, Rps K H M ds vs → ds[i]? = some d → ∃ v, vs[i]? = some v ∧ Rp K H M d v
  | [], _, _, _, _, e => by simp at e
  | d :: ds, _, 0, _, h, e => by
    obtain ⟨v, r, e2, h1, h2⟩ := h
    subst e2
    simp at e; subst e
    exact ⟨v, rfl, h1⟩
  | d :: ds, _, i + 1, _, h, e => by
    obtain ⟨v, r, e2, h1, h2⟩ := h
    subst e2
    simp at e
    obtain ⟨w, e3, h3⟩ := Rps.get (i := i) h2 e
    exact ⟨w, by simpa using e3, h3⟩
theorem Rps.append : ∀ {ds es : List PyData} {vs ws : List V}, Rps K H M ds vs → Rps K H M es ws → Rps K H M (ds ++ es) (vs ++ ws)
  | [], _, _, _, h, h' => by cases (show _ = _ from h); exact h'
  | d :: ds, _, _, _, h, h' => by
    obtain ⟨v, r, e2, h1, h2⟩ := h
    subst e2
    exact ⟨v, r ++ _, rfl, h1, h2.append h'⟩
theorem Rps.one {d : PyData} {v : V} (h : Rp K H M d v) : Rps K H M [d] [v] := ⟨v, [], rfl, h, rfl⟩
theorem Rps.take : ∀ {ds : List PyData} {vs : List V} (n : Nat), Rps K H M ds vs → Rps K H M (ds.take n) (vs.take n)
  | [], _, n, h => by cases (show _ = _ from h); simp; rfl
  | d :: ds, _, 0, h => by simp; rfl
  | d :: ds, _, n + 1, h => by
    obtain ⟨v, r, e2, h1, h2⟩ := h
    subst e2
    exact ⟨v, _, rfl, h1, h2.take n⟩
theorem Rps.drop : ∀ {ds : List PyData} {vs : List V} (n : Nat), Rps K H M ds vs → Rps K H M (ds.drop n) (vs.drop n)
  | [], _, n, h => by cases (show _ = _ from h); simp; rfl
  | d :: ds, _, 0, h => h
  | d :: ds, _, n + 1, h => by
    obtain ⟨v, r, e2, h1, h2⟩ := h
    subst e2
    exact h2.drop n
theorem Rps.set : ∀ {ds : List PyData} {vs : List V} (i : Nat) {d : PyData} {v : V}, Rps K H M ds vs → Rp K H M d v → Rps K H M (ds.set i d) (vs.set i v)
  | [], _, n, _, _, h, _ => by cases (show _ = _ from h); simp; rfl
  | d :: ds, _, 0, _, _, h, q => by
    obtain ⟨v, r, e2, h1, h2⟩ := h
    subst e2
    exact ⟨_, _, rfl, q, h2⟩
  | d :: ds, _, n + 1, _, _, h, q => by
    obtain ⟨v, r, e2, h1, h2⟩ := h
    subst e2
    exact ⟨_, _, rfl, h1, h2.set n q⟩
theorem Rps.reverse : ∀ {ds : List PyData} {vs : List V}, Rps K H M ds vs → Rps K H M ds.reverse vs.reverse
  | [], _, h => by cases (show _ = _ from h); rfl
  | d :: ds, _, h => by
    obtain ⟨v, r, e2, h1, h2⟩ := h
    subst e2
    rw [List.reverse_cons, List.reverse_cons]
    exact h2.reverse.append (.one h1)
theorem Rps.toInts : ∀ {ns : List Int} {vs : List V}, Rps K H M (ns.map PyData.int) vs → vs = ns.map V.int
  | [], _, h => h
  | n :: ns, _, h => by
    obtain ⟨v, r, e2, h1, h2⟩ := h
    subst e2
    rw [List.map_cons, Rps.toInts h2, show v = V.int n from h1]
theorem Rps.of_ints : ∀ (ns : List Int), Rps K H M (ns.map PyData.int) (ns.map V.int)
  | [] => rfl
  | n :: ns => ⟨_, _, rfl, rfl, Rps.of_ints ns⟩
theorem Rps.toBools : ∀ {ns : List Bool} {vs : List V}, Rps K H M (ns.map PyData.bool) vs → vs = ns.map V.bl
  | [], _, h => h
  | n :: ns, _, h => by
    obtain ⟨v, r, e2, h1, h2⟩ := h
    subst e2
    rw [List.map_cons, Rps.toBools h2, show v = V.bl n from h1]
theorem Rps.toStrs : ∀ {ns : List Str} {vs : List V}, Rps K H M (ns.map PyData.str) vs → vs = ns.map V.str
  | [], _, h => h
  | n :: ns, _, h => by
    obtain ⟨v, r, e2, h1, h2⟩ := h
    subst e2
    rw [List.map_cons, Rps.toStrs h2, show v = V.str n from h1]
end
mutual
def noLst : PyData → Bool
  | .list _ => false
  | .dict _ => false
  | .tuple ds => noLsts ds
  | _ => true
def noLsts : List PyData → Bool
  | [] => true
  | d :: ds => noLst d && noLsts ds
end
section
variable {K : PySem.W.Frag} {M M' : List Addr} {H : Hp}
mutual
theorem Rp.any : ∀ (d : PyData) (v : V), noLst d = true → Rp K H M d v → Rp K H M' d v
  | .none, _, _, h => h
  | .bool _, _, _, h => h
  | .int _, _, _, h => h
  | .str _, _, _, h => h
  | .list ds, _, n, h => by simp [noLst] at n
  | .tuple ds, _, n, h => by
    obtain ⟨a, vs, e, h1, h2, hz⟩ := h
    exact ⟨a, vs, e, h1, Rps.any ds vs (by simpa [noLst] using n) h2, hz⟩
  | .dict _, _, n, h => by simp [noLst] at n
theorem Rps.any : ∀ (ds : List PyData) (vs : List V), noLsts ds = true → Rps K H M ds vs → Rps K H M' ds vs
  | [], _, _, h => h
  | d :: ds, _, n, h => by
    obtain ⟨v, r, e, h1, h2⟩ := h
    rw [noLsts, Bool.and_eq_true] at n
    exact ⟨v, r, e, Rp.any d v n.1 h1, Rps.any ds r n.2 h2⟩
end
end

/-! ### the state -/
structure Ctx where
  He : Hp
  M0 : List Addr
  Y : Addr → Prop
/-- what stands in a slot, or comes of an expression -/
inductive R where
  | val (d : PyData)
  | own (xs : List PyData)
  | bor (xs : List PyData)
  | dr
  | drb
abbrev En := List (Option R)
def R.isMut : R → Bool
  | .own _ => true
  | .dr => true
  | .bor _ => true
  | _ => false
def IsInts (H : Hp) (p : Addr) : Prop := ∃ ns : List Int, H p = some (.lst (ns.map V.int)) ∧ (∀ n ∈ ns, (0 : Int) ≤ n) ∧ ns.length ≤ sizeLine
def SR (K : PySem.W.Frag) (c : Ctx) (M : List Addr) (H : Hp) (v : V) : R → Prop
  | .val d => Rp K H M d v
  | .own xs => ∃ p vs, v = .ref p ∧ p ∈ M ∧ H p = some (.lst vs) ∧ Rps K H M xs vs ∧ xs.length ≤ sizeLine ∧ c.He p = none
  | .dr => ∃ p, v = .ref p ∧ p ∈ M ∧ IsInts H p ∧ (c.Y p ∨ c.He p = none)
  | .bor xs => ∃ p vs, v = .ref p ∧ p ∈ M ∧ H p = some (.lst vs) ∧ Rps K H M xs vs ∧ xs.length ≤ sizeLine ∧ ¬ c.Y p
  | .drb => False
def IsI (σ : St) (δ : En) (a : Addr) : Prop := ∃ i : Nat, δ[i]? = some (some R.dr) ∧ σ[i]? = some (some (V.ref a))
structure RE (K : PySem.W.Frag) (c : Ctx) (M : List Addr) (σ : St) (H : Hp) (δ : En) : Prop where
  len : δ.length = σ.length
  slot : ∀ (i : Nat) (r : R), δ[i]? = some (some r) → ∃ v, σ[i]? = some (some v) ∧ SR K c M H v r
  sep : ∀ (i j : Nat) (r r' : R) (p : Addr), i ≠ j → δ[i]? = some (some r) → r.isMut = true → δ[j]? = some (some r') → r'.isMut = true → σ[i]? = some (some (V.ref p)) → σ[j]? = some (some (V.ref p)) → False
  ext : ∀ a o, c.He a = some o → ¬ c.Y a → H a = some o
  m0 : ∀ a ∈ c.M0, a ∈ M
  mt : ∀ a ∈ M, ∃ o, H a = some o
  mf : ∀ a ∈ M, a ∈ c.M0 ∨ c.He a = none
  hy : ∀ a, c.Y a → IsInts H a ∧ c.He a ≠ none ∧ a ∈ M
/-- what an expression may change: the draws -/
def Sx (σ : St) (δ : En) (H H' : Hp) : Prop := ∀ a o, H a = some o → ¬ IsI σ δ a → H' a = some o
def RR (K : PySem.W.Frag) (M : List Addr) (σ : St) (δ : En) (H H' : Hp) (v : V) : R → Prop
  | .val d => Rp K H' M d v
  | .own xs => ∃ p vs, v = .ref p ∧ H p = none ∧ H' p = some (.lst vs) ∧ Rps K H' (p :: M) xs vs ∧ xs.length ≤ sizeLine
  | .bor xs => ∃ p vs, v = .ref p ∧ p ∈ M ∧ ¬ IsI σ δ p ∧ (∃ i : Nat, (δ[i]? = some (some (R.own xs)) ∨ δ[i]? = some (some (R.bor xs))) ∧ σ[i]? = some (some (V.ref p))) ∧ H' p = some (.lst vs) ∧ Rps K H' M xs vs ∧ xs.length ≤ sizeLine
  | .dr => ∃ p, v = .ref p ∧ H p = none ∧ IsInts H' p
  | .drb => ∃ p, v = .ref p ∧ IsI σ δ p
def RRs (K : PySem.W.Frag) (M : List Addr) (σ : St) (δ : En) (H H' : Hp) : List R → List V → Prop
  | [], vs => vs = []
  | r :: rs, vs => ∃ v t, vs = v :: t ∧ RR K M σ δ H H' v r ∧ RRs K M σ δ H H' rs t
section
variable {K : PySem.W.Frag} {c : Ctx} {M : List Addr} {σ : St} {H H' H1 H2 : Hp} {δ : En}
theorem Sx.refl : Sx σ δ H H := fun _ _ e _ => e
theorem RE.dr (r : RE K c M σ H δ) {a : Addr} (h : IsI σ δ a) : a ∈ M ∧ IsInts H a ∧ (c.Y a ∨ c.He a = none) := by
  obtain ⟨i, e1, e2⟩ := h
  obtain ⟨v, e3, p, e4, h1, h2, h3⟩ := r.slot i _ e1
  rw [e2] at e3; cases e3; cases e4
  exact ⟨h1, h2, h3⟩
theorem RE.sm (r : RE K c M σ H δ) (s : Sx σ δ H H') : Sm M H H' := fun a o e h => s a o e fun q => by
  obtain ⟨h1, ⟨ns, h2, _⟩, _⟩ := r.dr q
  rw [e] at h2; cases h2
  exact absurd (h h1) (by simp [isLst])
theorem RE.smC (r : RE K c M σ H δ) (s : Sx σ δ H H') {p : Addr} (hp : ¬ IsI σ δ p) : Sm (p :: M) H H' := fun a o e h => s a o e fun q => by
  obtain ⟨h1, ⟨ns, h2, _⟩, _⟩ := r.dr q
  rw [e] at h2; cases h2
  exact absurd (h (List.mem_cons_of_mem _ h1)) (by simp [isLst])
theorem Sx.trans (r : RE K c M σ H δ) (s : Sx σ δ H H1) (s' : Sx σ δ H1 H2) : Sx σ δ H H2 := fun a o e n => s' a o (s a o e n) n
theorem RE.fresh (r1 : RE K c M σ H1 δ) (s : Sx σ δ H H1) {p : Addr} (h : H1 p = none) : H p = none := by
  cases e : H p with
  | none => rfl
  | some o =>
    by_cases q : IsI σ δ p
    · obtain ⟨_, ⟨ns, h2, _⟩, _⟩ := r1.dr q
      rw [h] at h2; cases h2
    · rw [s p o e q] at h; cases h
theorem RE.notI (r : RE K c M σ H δ) {p : Addr} (h : H p = none) : ¬ IsI σ δ p := fun q => by
  obtain ⟨_, ⟨ns, h2, _⟩, _⟩ := r.dr q
  rw [h] at h2; cases h2
theorem RE.notM (r : RE K c M σ H δ) {p : Addr} (h : H p = none) : p ∉ M := fun q => by
  obtain ⟨o, e⟩ := r.mt p q
  rw [h] at e; cases e
/-- a result stays while the next expression runs -/
theorem RR.step {v : V} {r : R} (h0 : RE K c M σ H δ) (h1 : RE K c M σ H1 δ) (s : Sx σ δ H1 H2) (h : RR K M σ δ H H1 v r) : RR K M σ δ H H2 v r := by
  cases r with
  | val d => exact Rp.mono (h1.sm s) (fun a q => .inl q) d v h
  | own xs =>
    obtain ⟨p, vs, e, hn, hp, hr, hz⟩ := h
    have ni := h0.notI hn
    exact ⟨p, vs, e, hn, s p _ hp ni, Rps.mono (h1.smC s ni) (fun a q => .inl q) xs vs hr, hz⟩
  | bor xs =>
    obtain ⟨p, vs, e, hM, ni, hi, hp, hr, hz⟩ := h
    exact ⟨p, vs, e, hM, ni, hi, s p _ hp ni, Rps.mono (h1.sm s) (fun a q => .inl q) xs vs hr, hz⟩
  | dr =>
    obtain ⟨p, e, hn, ns, hp, hq⟩ := h
    exact ⟨p, e, hn, ns, s p _ hp (h0.notI hn), hq⟩
  | drb => exact h
/-- a result of a later expression, seen from the start -/
theorem RR.back {v : V} {r : R} (h1 : RE K c M σ H1 δ) (s : Sx σ δ H H1) (h : RR K M σ δ H1 H2 v r) : RR K M σ δ H H2 v r := by
  cases r with
  | val d => exact h
  | own xs =>
    obtain ⟨p, vs, e, hn, hp, hr⟩ := h
    exact ⟨p, vs, e, h1.fresh s hn, hp, hr⟩
  | bor xs => exact h
  | dr =>
    obtain ⟨p, e, hn, hp⟩ := h
    exact ⟨p, e, h1.fresh s hn, hp⟩
  | drb => exact h
theorem RRs.back : ∀ {rs : List R} {vs : List V}, RE K c M σ H1 δ → Sx σ δ H H1 → RRs K M σ δ H1 H2 rs vs → RRs K M σ δ H H2 rs vs
  | [], _, _, _, h => h
  | r :: rs, _, h1, s, h => by
    obtain ⟨v, t, e, q1, q2⟩ := h
    exact ⟨v, t, e, q1.back h1 s, RRs.back h1 s q2⟩
/-- a new object -/
theorem RE.new {p : Addr} {o : HO} (r : RE K c M σ H δ) (hn : H p = none) : RE K c M σ (upd H p o) δ := by
  have sm : Sm M H (upd H p o) := fun a u e _ => by rw [upd_ne (ne_of_none e hn)]; exact e
  have st : ∀ a u, H a = some u → upd H p o a = some u := fun a u e => by rw [upd_ne (ne_of_none e hn)]; exact e
  refine ⟨r.len, fun i q e => ?_, r.sep, fun a u e n => st _ _ (r.ext a u e n), r.m0, fun a q => ?_, r.mf, fun a q => ?_⟩
  · obtain ⟨v, e1, h⟩ := r.slot i q e
    refine ⟨v, e1, ?_⟩
    cases q with
    | val d => exact Rp.mono sm (fun a q => .inl q) d v h
    | own xs =>
      obtain ⟨p', vs, e2, h1, h2, h3, h4⟩ := h
      exact ⟨p', vs, e2, h1, st _ _ h2, Rps.mono sm (fun a q => .inl q) xs vs h3, h4⟩
    | dr =>
      obtain ⟨p', e2, h1, ⟨ns, h2, h3⟩, h4⟩ := h
      exact ⟨p', e2, h1, ⟨ns, st _ _ h2, h3⟩, h4⟩
    | bor xs =>
      obtain ⟨p', vs, e2, h1, h2, h3, h4⟩ := h
      exact ⟨p', vs, e2, h1, st _ _ h2, Rps.mono sm (fun a q => .inl q) xs vs h3, h4⟩
    | drb => exact h
  · obtain ⟨u, e⟩ := r.mt a q
    exact ⟨u, st _ _ e⟩
  · obtain ⟨⟨ns, h2, h3⟩, h4⟩ := r.hy a q
    exact ⟨⟨ns, st _ _ h2, h3⟩, h4⟩
theorem Sx.new {p : Addr} {o : HO} (hn : H p = none) : Sx σ δ H (upd H p o) := fun a u e _ => by rw [upd_ne (ne_of_none e hn)]; exact e
end
end DL

/-! DL2: the judgements, expressions -/
namespace DL
open PySem PySem.Spec L2

section
variable {μ : Type → Type} [Mo μ] {α β γ ε : Type}
def DE (X : Cx) (e : Expr) (δ : En) (mm : μ β) (enc : α → R) (k : α → μ β) : Prop :=
  ∀ Qb : β → Prop, PE X e fun σ H Q => ∃ c M, RE X.K c M σ H δ ∧ Mo.holds mm Qb ∧
    ∀ a v H', Mo.holds (k a) Qb → RE X.K c M σ H' δ → Sx σ δ H H' → RR X.K M σ δ H H' v (enc a) → Q v H'
def DT (X : Cx) (e : Expr) (δ : En) (mm : μ β) (k : Bool → μ β) : Prop :=
  ∀ Qb : β → Prop, PT X e fun σ H Q => ∃ c M, RE X.K c M σ H δ ∧ Mo.holds mm Qb ∧
    ∀ b H', Mo.holds (k b) Qb → RE X.K c M σ H' δ → Sx σ δ H H' → Q b H'
def DW (X : Cx) (e : Expr) (δ : En) (mm : μ β) (k : Bool → μ β) : Prop :=
  ∀ Qb : β → Prop, PW X e fun σ H Q => ∃ c M, RE X.K c M σ H δ ∧ Mo.holds mm Qb ∧
    ∀ b H', Mo.holds (k b) Qb → RE X.K c M σ H' δ → Sx σ δ H H' → Q b H'
def DA (X : Cx) (es : List Expr) (δ : En) (mm : μ β) (encs : α → List R) (k : α → μ β) : Prop :=
  ∀ Qb : β → Prop, PA X es fun σ H Q => ∃ c M, RE X.K c M σ H δ ∧ Mo.holds mm Qb ∧
    ∀ a vs H', Mo.holds (k a) Qb → RE X.K c M σ H' δ → Sx σ δ H H' → RRs X.K M σ δ H H' (encs a) vs → Q vs H'
end
def vl {α : Type} (f : α → PyData) : α → R := fun a => .val (f a)
def ow {α : Type} (f : α → PyData) : List α → R := fun a => .own (a.map f)
def bo {α : Type} (f : α → PyData) : List α → R := fun a => .bor (a.map f)
def dr : Unit → R := fun _ => .dr
def drb : Unit → R := fun _ => .drb

theorem hp {μ : Type → Type} [Mo μ] {α β : Type} {b : α} {k : α → μ β} {Qb : β → Prop} (h : Mo.holds (Mo.pur b : μ α) fun a => Mo.holds (k a) Qb) : Mo.holds (k b) Qb := Mo.hpur (Q := fun a => Mo.holds (k a) Qb) h
theorem pe_weak {X : Cx} {e : Expr} {t t' : TE} (h : PE X e t) (hh : ∀ σ H Q, t' σ H Q → t σ H Q) : PE X e t' := ⟨fun pins s σ H Q I q => h.run pins s σ H Q I (hh σ H Q q)⟩
theorem pt_weak {X : Cx} {e : Expr} {t t' : TT} (h : PT X e t) (hh : ∀ σ H Q, t' σ H Q → t σ H Q) : PT X e t' := ⟨fun pins s σ H Q I q => h.run pins s σ H Q I (hh σ H Q q)⟩
theorem pw_weak {X : Cx} {e : Expr} {t t' : TT} (h : PW X e t) (hh : ∀ σ H Q, t' σ H Q → t σ H Q) : PW X e t' := ⟨fun wh pins s σ H Q I q => h.run wh pins s σ H Q I (hh σ H Q q)⟩
theorem pa_weak {X : Cx} {e : List Expr} {t t' : TA} (h : PA X e t) (hh : ∀ σ H Q, t' σ H Q → t σ H Q) : PA X e t' := ⟨fun ps pins s σ H Q I q => h.run ps pins s σ H Q I (hh σ H Q q)⟩

section
variable {μ : Type → Type} [Mo μ] {α β γ ε : Type} {X : Cx} {δ : En} {pos : Pos} {e a b : Expr}

/-! ### names, constants -/
theorem de_var (i : Nat) (v : α) {x : Str} {enc : α → R} {k : α → μ β} (hs : δ[i]? = some (some (enc v))) (hv : (∃ d, enc v = .val d)) (hN : X.N[i]? = some x := by rfl) (hx : Vis X.env.scope x := by first | exact Or.inl rfl | exact Or.inr (Or.inl rfl) | exact Or.inr (Or.inr rfl))
    (hd : (x == ("__debug__" : Str)) = false := by decide) (hcd : (x == ("__classdict__" : Str)) = false := by decide) : DE X (.Name x pos) δ (k v) enc k := fun Qb =>
  pe_weak (pe_var hN hx hd hcd) fun σ H Q ⟨c, M, r, h, q⟩ => by
    obtain ⟨w, e1, h1⟩ := r.slot i _ hs
    refine ⟨w, e1, q v w H h r Sx.refl ?_⟩
    obtain ⟨d, e⟩ := hv
    rw [e] at h1 ⊢
    exact h1
/-- an own list, read -/
theorem de_bor (i : Nat) (v : List α) {x : Str} {f : α → PyData} {k : List α → μ β} (hs : δ[i]? = some (some (ow f v))) (hN : X.N[i]? = some x := by rfl) (hx : Vis X.env.scope x := by first | exact Or.inl rfl | exact Or.inr (Or.inl rfl) | exact Or.inr (Or.inr rfl))
    (hd : (x == ("__debug__" : Str)) = false := by decide) (hcd : (x == ("__classdict__" : Str)) = false := by decide) : DE X (.Name x pos) δ (k v) (bo f) k := fun Qb =>
  pe_weak (pe_var hN hx hd hcd) fun σ H Q ⟨c, M, r, h, q⟩ => by
    obtain ⟨w, e1, p, vs, e2, h1, h2, h3, hz, h4⟩ := r.slot i _ hs
    refine ⟨w, e1, q v w H h r Sx.refl ⟨p, vs, e2, h1, fun ⟨j, ej, es⟩ => ?_, ⟨i, by simp [hs, ow, bo], by rw [e1, e2]⟩, h2, h3, hz⟩⟩
    have hij : i ≠ j := fun z => by subst z; rw [hs] at ej; cases ej
    subst e2
    exact r.sep i j _ _ p hij hs rfl ej rfl e1 es
/-- a locked list, read -/
theorem de_lbor (i : Nat) (v : List α) {x : Str} {f : α → PyData} {k : List α → μ β} (hs : δ[i]? = some (some (bo f v))) (hN : X.N[i]? = some x := by rfl) (hx : Vis X.env.scope x := by first | exact Or.inl rfl | exact Or.inr (Or.inl rfl) | exact Or.inr (Or.inr rfl))
    (hd : (x == ("__debug__" : Str)) = false := by decide) (hcd : (x == ("__classdict__" : Str)) = false := by decide) : DE X (.Name x pos) δ (k v) (bo f) k := fun Qb =>
  pe_weak (pe_var hN hx hd hcd) fun σ H Q ⟨c, M, r, h, q⟩ => by
    obtain ⟨w, e1, p, vs, e2, h1, h2, h3, hz, _⟩ := r.slot i _ hs
    refine ⟨w, e1, q v w H h r Sx.refl ⟨p, vs, e2, h1, fun ⟨j, ej, es⟩ => ?_, ⟨i, by simp [hs, ow, bo], by rw [e1, e2]⟩, h2, h3, hz⟩⟩
    have hij : i ≠ j := fun z => by subst z; rw [hs] at ej; cases ej
    subst e2
    exact r.sep i j _ _ p hij hs rfl ej rfl e1 es
/-- the draws, handed on -/
theorem de_drb (i : Nat) {x : Str} {k : Unit → μ β} (hs : δ[i]? = some (some R.dr)) (hN : X.N[i]? = some x := by rfl) (hx : Vis X.env.scope x := by first | exact Or.inl rfl | exact Or.inr (Or.inl rfl) | exact Or.inr (Or.inr rfl))
    (hd : (x == ("__debug__" : Str)) = false := by decide) (hcd : (x == ("__classdict__" : Str)) = false := by decide) : DE X (.Name x pos) δ (k ()) drb k := fun Qb =>
  pe_weak (pe_var hN hx hd hcd) fun σ H Q ⟨c, M, r, h, q⟩ => by
    obtain ⟨w, e1, p, e2, h1⟩ := r.slot i _ hs
    exact ⟨w, e1, q () w H h r Sx.refl ⟨p, e2, i, hs, by rw [e1, e2]⟩⟩
theorem de_int {n : Int} {j} {k : Int → μ β} : DE X (.Constant (.int n) j pos) δ (k n) (vl PyData.int) k := fun Qb =>
  pe_weak pe_int fun σ H Q ⟨c, M, r, h, q⟩ => q n _ H h r Sx.refl rfl
theorem de_bl {n : Bool} {j} {k : Bool → μ β} : DE X (.Constant (.bool n) j pos) δ (k n) (vl PyData.bool) k := fun Qb =>
  pe_weak pe_bl fun σ H Q ⟨c, M, r, h, q⟩ => q n _ H h r Sx.refl rfl
theorem de_str {n : Str} {j} {k : Str → μ β} : DE X (.Constant (.str n) j pos) δ (k n) (vl PyData.str) k := fun Qb =>
  pe_weak pe_str fun σ H Q ⟨c, M, r, h, q⟩ => q n _ H h r Sx.refl rfl
def dN : Unit → PyData := fun _ => .none
theorem de_non {j} {k : Unit → μ β} : DE X (.Constant .none j pos) δ (k ()) (vl dN) k := fun Qb =>
  pe_weak pe_non fun σ H Q ⟨c, M, r, h, q⟩ => q () _ H h r Sx.refl rfl
/-- another type of the same data -/
theorem de_coe (f : α → γ) {e1 : α → R} {e2 : γ → R} {mm : μ β} {k : γ → μ β} (h : ∀ a, e1 a = e2 (f a)) (he : DE X e δ mm e1 fun a => k (f a)) : DE X e δ mm e2 k := fun Qb =>
  pe_weak (he Qb) fun σ H Q ⟨c, M, r, hm, q⟩ => ⟨c, M, r, hm, fun a v H' h1 h2 h3 h4 => q (f a) v H' h1 h2 h3 (h a ▸ h4)⟩
/-- a new list handed on as frozen data -/
def dL {α : Type} (f : α → PyData) : List α → PyData := fun xs => .list (xs.map f)
def dQ {α : Type} (f : α → PyData) : List α → PyData := fun xs => .tuple (xs.map f)
theorem de_frz {f : α → PyData} {mm : μ β} {k : List α → μ β} (he : DE X e δ mm (ow f) k) : DE X e δ mm (vl (dL f)) k := fun Qb =>
  pe_weak (he Qb) fun σ H Q ⟨c, M, r, hm, q⟩ => ⟨c, M, r, hm, fun a v H' h1 h2 h3 h4 => q a v H' h1 h2 h3 (by
    obtain ⟨p, vs, e, hn, hp, hr, hz⟩ := h4
    refine ⟨p, vs, e, .inl ⟨r.notM hn, .inl hp⟩, hr.anti fun a q => List.mem_cons_of_mem _ q, hz⟩)⟩

/-! ### arguments -/
def eNil : Unit → List R := fun _ => []
def eCons (enc : α → R) (encs : γ → List R) : α × γ → List R := fun p => enc p.1 :: encs p.2
theorem da_nil {k : Unit → μ β} : DA X [] δ (k ()) eNil k := fun Qb => pa_weak pa_nil fun σ H Q ⟨c, M, r, h, q⟩ => q () [] H h r Sx.refl rfl
theorem da_cons {es : List Expr} {enc : α → R} {encs : γ → List R} {m1 : μ β} {m2 : α → μ β} {k : α × γ → μ β} (hb : ∀ x, DA X es δ (m2 x) encs fun y => k (x, y)) (ha : DE X e δ m1 enc m2)
    (hs : starEach (e :: es) X.env = (false, eval e X.env) :: starEach es X.env := by rfl) : DA X (e :: es) δ m1 (eCons enc encs) k := fun Qb => by
  have hb' : PA X es fun σ H Q => ∃ x c M, RE X.K c M σ H δ ∧ Mo.holds (m2 x) Qb ∧
    ∀ y vs H', Mo.holds (k (x, y)) Qb → RE X.K c M σ H' δ → Sx σ δ H H' → RRs X.K M σ δ H H' (encs y) vs → Q vs H' := ⟨fun ps pins s σ H Q I ⟨x, c, M, q⟩ => (hb x Qb).run ps pins s σ H Q I ⟨c, M, q⟩⟩
  refine pa_weak (pa_cons (ha Qb) hb' hs) fun σ H Q ⟨c, M, r, h, q⟩ => ?_
  refine ⟨c, M, r, h, fun x v H1 h1 r1 s1 q1 => ⟨x, c, M, r1, h1, fun y vs H2 h2 r2 s2 q2 => q (x, y) (v :: vs) H2 h2 r2 (s1.trans r s2) ⟨v, vs, rfl, q1.step r r1 s2, q2.back r1 s1⟩⟩⟩

/-! ### operators -/
/-- what an operation gives of typed data -/
def OpD (X : Cx) (r : R2) (e1 : α → R) (e2 : γ → R) (e3 : ε → R) (P : α → γ → ε → Prop) : Prop :=
  ∀ c M σ δ H0 H a b x y z Q, RE X.K c M σ H δ → RR X.K M σ δ H0 H x (e1 a) → RR X.K M σ δ H0 H y (e2 b) → P a b z →
    (∀ v H', RE X.K c M σ H' δ → Sx σ δ H H' → RR X.K M σ δ H H' v (e3 z) → Q v H') → r x y H Q
theorem op_run {r : R2} {e1 : α → R} {e2 : γ → R} {e3 : ε → R} {P : α → γ → ε → Prop} {m1 : μ β} {m2 : α → μ β} {m3 : α → γ → μ β} {k : ε → μ β} (hd : OpD X r e1 e2 e3 P) {f : Value → Value → Sem Value} (ho : OpR X f r) (Qb : β → Prop)
    (hk : ∀ x y, Mo.holds (m3 x y) Qb → ∃ z, P x y z ∧ Mo.holds (k z) Qb) (hb : ∀ x, DE X b δ (m2 x) e2 (m3 x)) (ha : DE X a δ m1 e1 m2) {t : TE → TE → TE} (ht : t = tOp r)
    (run : ∀ ta tb, PE X a ta → PE X b tb → PE X e (t ta tb)) :
    PE X e fun σ H Q => ∃ c M, RE X.K c M σ H δ ∧ Mo.holds m1 Qb ∧
      ∀ a v H', Mo.holds (k a) Qb → RE X.K c M σ H' δ → Sx σ δ H H' → RR X.K M σ δ H H' v (e3 a) → Q v H' := by
  subst ht
  have hb' : PE X b fun σ H Q => ∃ x c M, RE X.K c M σ H δ ∧ Mo.holds (m2 x) Qb ∧
    ∀ y v H', Mo.holds (m3 x y) Qb → RE X.K c M σ H' δ → Sx σ δ H H' → RR X.K M σ δ H H' v (e2 y) → Q v H' := ⟨fun pins s σ H Q I ⟨x, c, M, q⟩ => (hb x Qb).run pins s σ H Q I ⟨c, M, q⟩⟩
  refine pe_weak (run _ _ (ha Qb) hb') fun σ H Q ⟨c, M, r, h, q⟩ => ?_
  refine ⟨c, M, r, h, fun x v H1 h1 r1 s1 q1 => ⟨x, c, M, r1, h1, fun y u H2 h2 r2 s2 q2 => ?_⟩⟩
  obtain ⟨z, hp, h3⟩ := hk x y h2
  refine hd c M σ δ H H2 x y v u z Q r2 (q1.step r r1 s2) (q2.back r1 s1) hp fun w H3 r3 s3 q3 => q z w H3 h3 r3 ((s1.trans r s2).trans r s3) (q3.back r2 (s1.trans r s2))
theorem de_bin {op : Operator} {r : R2} {e1 : α → R} {e2 : γ → R} {e3 : ε → R} {f : α → γ → ε} (ho : OpR X (binaryOp op) r) (hd : OpD X r e1 e2 e3 fun a b z => z = f a b) {m1 : μ β} {m2 : α → μ β} {k : ε → μ β}
    (hb : ∀ x, DE X b δ (m2 x) e2 fun y => k (f x y)) (ha : DE X a δ m1 e1 m2) : DE X (.BinOp a op b pos) δ m1 e3 k := fun Qb =>
  op_run (P := fun a b z => z = f a b) hd ho Qb (fun x y h => ⟨_, rfl, h⟩) hb ha rfl fun _ _ h1 h2 => pe_op ho h1 h2
theorem de_binO {op : Operator} {r : R2} {e1 : α → R} {e2 : γ → R} {e3 : ε → R} {f : α → γ → Option ε} (ho : OpR X (binaryOp op) r) (hd : OpD X r e1 e2 e3 fun a b z => f a b = some z) {m1 : μ β} {m2 : α → μ β} {k : ε → μ β}
    (hb : ∀ x, DE X b δ (m2 x) e2 fun y => Mo.bnd (Mo.lft (f x y)) k) (ha : DE X a δ m1 e1 m2) : DE X (.BinOp a op b pos) δ m1 e3 k := fun Qb =>
  op_run (P := fun a b z => f a b = some z) hd ho Qb (fun x y h => Mo.hlft (Mo.hbnd h)) hb ha rfl fun _ _ h1 h2 => pe_op ho h1 h2
theorem de_cmp {op : CmpOp} {r : R2} {e1 : α → R} {e2 : γ → R} {f : α → γ → Bool} (ho : OpR X (compareOp op) r) (hd : OpD X r e1 e2 (vl PyData.bool) fun a b z => z = f a b) {m1 : μ β} {m2 : α → μ β} {k : Bool → μ β}
    (hb : ∀ x, DE X b δ (m2 x) e2 fun y => k (f x y)) (ha : DE X a δ m1 e1 m2) (hm : behindInMarks op b = false := by first | exact nomark _ | with_unfolding_all rfl) : DE X (.Compare a [op] [b] pos) δ m1 (vl PyData.bool) k := fun Qb =>
  op_run (P := fun a b z => z = f a b) hd ho Qb (fun x y h => ⟨_, rfl, h⟩) hb ha rfl fun _ _ h1 h2 => pe_cmpR ho h1 h2 hm
theorem de_cmpO {op : CmpOp} {r : R2} {e1 : α → R} {e2 : γ → R} {f : α → γ → Option Bool} (ho : OpR X (compareOp op) r) (hd : OpD X r e1 e2 (vl PyData.bool) fun a b z => f a b = some z) {m1 : μ β} {m2 : α → μ β} {k : Bool → μ β}
    (hb : ∀ x, DE X b δ (m2 x) e2 fun y => Mo.bnd (Mo.lft (f x y)) k) (ha : DE X a δ m1 e1 m2) (hm : behindInMarks op b = false := by first | exact nomark _ | with_unfolding_all rfl) : DE X (.Compare a [op] [b] pos) δ m1 (vl PyData.bool) k := fun Qb =>
  op_run (P := fun a b z => f a b = some z) hd ho Qb (fun x y h => Mo.hlft (Mo.hbnd h)) hb ha rfl fun _ _ h1 h2 => pe_cmpR ho h1 h2 hm
/-- a comparison as a test, by its value -/
theorem dt_cmpV {op : CmpOp} {mm : μ β} {k : Bool → μ β} (run : ∀ {r : R2} {ta tb : TE}, OpR X (compareOp op) r → PE X a ta → PE X b tb → PT X e (tTest (tOp r ta tb)))
    {r : R2} {e1 : α → R} {e2 : γ → R} {P : α → γ → Bool → Prop} (ho : OpR X (compareOp op) r) (hd : OpD X r e1 e2 (vl PyData.bool) P) {m2 : α → μ β} {m3 : α → γ → μ β}
    (hk : ∀ Qb x y, Mo.holds (m3 x y) Qb → ∃ z, P x y z ∧ Mo.holds (k z) Qb) (hb : ∀ x, DE X b δ (m2 x) e2 (m3 x)) (ha : DE X a δ mm e1 m2) : DT X e δ mm k := fun Qb => by
  have hb' : PE X b fun σ H Q => ∃ x c M, RE X.K c M σ H δ ∧ Mo.holds (m2 x) Qb ∧
    ∀ y v H', Mo.holds (m3 x y) Qb → RE X.K c M σ H' δ → Sx σ δ H H' → RR X.K M σ δ H H' v (e2 y) → Q v H' := ⟨fun pins s σ H Q I ⟨x, c, M, q⟩ => (hb x Qb).run pins s σ H Q I ⟨c, M, q⟩⟩
  refine pt_weak (run ho (ha Qb) hb') fun σ H Q ⟨c, M, r, h, q⟩ => ?_
  refine ⟨c, M, r, h, fun x v H1 h1 r1 s1 q1 => ⟨x, c, M, r1, h1, fun y u H2 h2 r2 s2 q2 => ?_⟩⟩
  obtain ⟨z, hp, h3⟩ := hk Qb x y h2
  exact hd c M σ δ H H2 x y v u z _ r2 (q1.step r r1 s2) (q2.back r1 s1) hp fun w H3 r3 s3 q3 => ⟨z, q3, q z H3 h3 r3 ((s1.trans r s2).trans r s3)⟩
theorem dt_cmp {op : CmpOp} {r : R2} {e1 : α → R} {e2 : γ → R} {f : α → γ → Bool} (ho : OpR X (compareOp op) r) (hd : OpD X r e1 e2 (vl PyData.bool) fun a b z => z = f a b) {m1 : μ β} {m2 : α → μ β} {k : Bool → μ β}
    (hb : ∀ x, DE X b δ (m2 x) e2 fun y => k (f x y)) (ha : DE X a δ m1 e1 m2) (hm : behindInMarks op b = false := by first | exact nomark _ | with_unfolding_all rfl) : DT X (.Compare a [op] [b] pos) δ m1 k :=
  dt_cmpV (fun ho h1 h2 => pt_cmpR ho h1 h2 hm) ho hd (fun Qb x y h => ⟨_, rfl, h⟩) hb ha
theorem dt_cmpO {op : CmpOp} {r : R2} {e1 : α → R} {e2 : γ → R} {f : α → γ → Option Bool} (ho : OpR X (compareOp op) r) (hd : OpD X r e1 e2 (vl PyData.bool) fun a b z => f a b = some z) {m1 : μ β} {m2 : α → μ β} {k : Bool → μ β}
    (hb : ∀ x, DE X b δ (m2 x) e2 fun y => Mo.bnd (Mo.lft (f x y)) k) (ha : DE X a δ m1 e1 m2) (hm : behindInMarks op b = false := by first | exact nomark _ | with_unfolding_all rfl) : DT X (.Compare a [op] [b] pos) δ m1 k :=
  dt_cmpV (fun ho h1 h2 => pt_cmpR ho h1 h2 hm) ho hd (fun Qb x y h => Mo.hlft (Mo.hbnd h)) hb ha
/-- an expression of a bool, as a test -/
theorem dt_val {mm : μ β} {k : Bool → μ β} (h : DE X e δ mm (vl PyData.bool) k) (he : ∀ whole, isTrue e X.env whole = (do let v ← whole; standAt e.pos; holding [v] (truthy v)) := by intro _; rfl) : DT X e δ mm k := fun Qb =>
  pt_weak (pt_val (h Qb) he) fun σ H Q ⟨c, M, r, h, q⟩ => ⟨c, M, r, h, fun a v H' h1 h2 h3 h4 => ⟨a, h4, q a H' h1 h2 h3⟩⟩
theorem dt_not {mm : μ β} {k : Bool → μ β} (h : DT X a δ mm fun b => k !b) : DT X (.UnaryOp .Not a pos) δ mm k := fun Qb =>
  pt_weak (pt_not (h Qb)) fun σ H Q ⟨c, M, r, h, q⟩ => ⟨c, M, r, h, fun b H' h1 h2 h3 => q (!b) H' h1 h2 h3⟩
theorem de_notV {mm : μ β} {k : Bool → μ β} (h : DE X a δ mm (vl PyData.bool) fun b => k !b) : DE X (.UnaryOp .Not a pos) δ mm (vl PyData.bool) k := fun Qb =>
  pe_weak (pe_not (h Qb)) fun σ H Q ⟨c, M, r, h, q⟩ => ⟨c, M, r, h, fun b v H' h1 h2 h3 h4 => ⟨b, h4, q (!b) _ H' h1 h2 h3 rfl⟩⟩
theorem dt_w {mm : μ β} {k : Bool → μ β} (h : DW X e δ mm k) : DT X e δ mm k := fun Qb => (h Qb).pt
/-- and, or: pure on the right -/
theorem dw_1 {op} {mm : μ β} {k : Bool → μ β} (h : DT X a δ mm k) : DW X (.BoolOp op [a] pos) δ mm k := fun Qb => by
  cases op with
  | And => exact pw_weak (pw_and1 (h Qb)) fun σ H Q q => q
  | Or => exact pw_weak (pw_or1 (h Qb)) fun σ H Q q => q
variable {rest : List Expr}
theorem dw_and {b2 : Bool} {mm : μ β} {k : Bool → μ β} (hb : ∀ k : Bool → μ β, DW X (.BoolOp .And (b :: rest) pos) δ (k b2) k) (ha : DT X a δ mm fun c => k (c && b2)) : DW X (.BoolOp .And (a :: b :: rest) pos) δ mm k := fun Qb =>
  pw_weak (pw_and (ha Qb) (hb k Qb)) fun σ H Q ⟨c, M, r, h, q⟩ => ⟨c, M, r, h, fun b H1 h1 r1 s1 => by
    cases b with
    | true => exact ⟨c, M, r1, h1, fun b' H2 h2 r2 s2 => q b' H2 h2 r2 (s1.trans r s2)⟩
    | false => exact q false H1 h1 r1 s1⟩
theorem dw_or {b2 : Bool} {mm : μ β} {k : Bool → μ β} (hb : ∀ k : Bool → μ β, DW X (.BoolOp .Or (b :: rest) pos) δ (k b2) k) (ha : DT X a δ mm fun c => k (c || b2)) : DW X (.BoolOp .Or (a :: b :: rest) pos) δ mm k := fun Qb =>
  pw_weak (pw_or (ha Qb) (hb k Qb)) fun σ H Q ⟨c, M, r, h, q⟩ => ⟨c, M, r, h, fun b H1 h1 r1 s1 => by
    cases b with
    | false => exact ⟨c, M, r1, h1, fun b' H2 h2 r2 s2 => q b' H2 h2 r2 (s1.trans r s2)⟩
    | true => exact q true H1 h1 r1 s1⟩
/-- and, or: what stands on the right may fail -/
theorem dw_andM {m2 : μ Bool} {mm : μ β} {k : Bool → μ β} (hb : DW X (.BoolOp .And (b :: rest) pos) δ m2 Mo.pur) (ha : DT X a δ mm fun c => Mo.bnd (if c = true then m2 else Mo.pur false) k) : DW X (.BoolOp .And (a :: b :: rest) pos) δ mm k := fun Qb =>
  pw_weak (pw_and (ha Qb) (hb _)) fun σ H Q ⟨c, M, r, h, q⟩ => ⟨c, M, r, h, fun b H1 h1 r1 s1 => by
    cases b with
    | true => exact ⟨c, M, r1, Mo.hbnd h1, fun b' H2 h2 r2 s2 => q b' H2 (hp h2) r2 (s1.trans r s2)⟩
    | false => exact q false H1 (hp (Mo.hbnd h1)) r1 s1⟩
theorem dw_orM {m2 : μ Bool} {mm : μ β} {k : Bool → μ β} (hb : DW X (.BoolOp .Or (b :: rest) pos) δ m2 Mo.pur) (ha : DT X a δ mm fun c => Mo.bnd (if c = true then Mo.pur true else m2) k) : DW X (.BoolOp .Or (a :: b :: rest) pos) δ mm k := fun Qb =>
  pw_weak (pw_or (ha Qb) (hb _)) fun σ H Q ⟨c, M, r, h, q⟩ => ⟨c, M, r, h, fun b H1 h1 r1 s1 => by
    cases b with
    | false => exact ⟨c, M, r1, Mo.hbnd h1, fun b' H2 h2 r2 s2 => q b' H2 (hp h2) r2 (s1.trans r s2)⟩
    | true => exact q true H1 (hp (Mo.hbnd h1)) r1 s1⟩
/-- .. as values -/
theorem de_one {op} {enc : α → R} {mm : μ β} {k : α → μ β} (h : DE X a δ mm enc k) : DE X (.BoolOp op [a] pos) δ mm enc k := fun Qb => pe_weak (pe_one (h Qb)) fun σ H Q q => q
theorem de_and {b2 : Bool} {mm : μ β} {k : Bool → μ β} (hb : ∀ k : Bool → μ β, DE X (.BoolOp .And (b :: rest) pos) δ (k b2) (vl PyData.bool) k) (ha : DE X a δ mm (vl PyData.bool) fun c => k (c && b2)) : DE X (.BoolOp .And (a :: b :: rest) pos) δ mm (vl PyData.bool) k := fun Qb =>
  pe_weak (pe_and (ha Qb) (hb k Qb)) fun σ H Q ⟨c, M, r, h, q⟩ => ⟨c, M, r, h, fun b v H1 h1 r1 s1 q1 => ⟨b, q1, by
    cases b with
    | true => exact ⟨c, M, r1, h1, fun b' v' H2 h2 r2 s2 q2 => q b' v' H2 h2 r2 (s1.trans r s2) q2⟩
    | false => exact q false _ H1 h1 r1 s1 rfl⟩⟩
theorem de_or {b2 : Bool} {mm : μ β} {k : Bool → μ β} (hb : ∀ k : Bool → μ β, DE X (.BoolOp .Or (b :: rest) pos) δ (k b2) (vl PyData.bool) k) (ha : DE X a δ mm (vl PyData.bool) fun c => k (c || b2)) : DE X (.BoolOp .Or (a :: b :: rest) pos) δ mm (vl PyData.bool) k := fun Qb =>
  pe_weak (pe_or (ha Qb) (hb k Qb)) fun σ H Q ⟨c, M, r, h, q⟩ => ⟨c, M, r, h, fun b v H1 h1 r1 s1 q1 => ⟨b, q1, by
    cases b with
    | false => exact ⟨c, M, r1, h1, fun b' v' H2 h2 r2 s2 q2 => q b' v' H2 h2 r2 (s1.trans r s2) q2⟩
    | true => exact q true _ H1 h1 r1 s1 rfl⟩⟩
theorem de_andM {m2 : μ Bool} {mm : μ β} {k : Bool → μ β} (hb : DE X (.BoolOp .And (b :: rest) pos) δ m2 (vl PyData.bool) Mo.pur) (ha : DE X a δ mm (vl PyData.bool) fun c => Mo.bnd (if c = true then m2 else Mo.pur false) k) : DE X (.BoolOp .And (a :: b :: rest) pos) δ mm (vl PyData.bool) k := fun Qb =>
  pe_weak (pe_and (ha Qb) (hb _)) fun σ H Q ⟨c, M, r, h, q⟩ => ⟨c, M, r, h, fun b v H1 h1 r1 s1 q1 => ⟨b, q1, by
    cases b with
    | true => exact ⟨c, M, r1, Mo.hbnd h1, fun b' v' H2 h2 r2 s2 q2 => q b' v' H2 (hp h2) r2 (s1.trans r s2) q2⟩
    | false => exact q false _ H1 (hp (Mo.hbnd h1)) r1 s1 rfl⟩⟩
theorem de_orM {m2 : μ Bool} {mm : μ β} {k : Bool → μ β} (hb : DE X (.BoolOp .Or (b :: rest) pos) δ m2 (vl PyData.bool) Mo.pur) (ha : DE X a δ mm (vl PyData.bool) fun c => Mo.bnd (if c = true then Mo.pur true else m2) k) : DE X (.BoolOp .Or (a :: b :: rest) pos) δ mm (vl PyData.bool) k := fun Qb =>
  pe_weak (pe_or (ha Qb) (hb _)) fun σ H Q ⟨c, M, r, h, q⟩ => ⟨c, M, r, h, fun b v H1 h1 r1 s1 q1 => ⟨b, q1, by
    cases b with
    | false => exact ⟨c, M, r1, Mo.hbnd h1, fun b' v' H2 h2 r2 s2 q2 => q b' v' H2 (hp h2) r2 (s1.trans r s2) q2⟩
    | true => exact q true _ H1 (hp (Mo.hbnd h1)) r1 s1 rfl⟩⟩
/-- x if t else y, both pure -/
theorem de_ifP {cnd : Expr} {x y : α} {enc : α → R} {mm : μ β} {k : α → μ β} (ha : ∀ k : α → μ β, DE X a δ (k x) enc k) (hb : ∀ k : α → μ β, DE X b δ (k y) enc k) (hc : DT X cnd δ mm fun c => k (if c = true then x else y)) : DE X (.IfExp cnd a b pos) δ mm enc k := fun Qb =>
  pe_weak (pe_ifExp (hc Qb) (ha k Qb) (hb k Qb)) fun σ H Q ⟨c, M, r, h, q⟩ => ⟨c, M, r, h, fun b H1 h1 r1 s1 => by
    cases b with
    | true => exact ⟨c, M, r1, h1, fun a v H2 h2 r2 s2 q2 => q a v H2 h2 r2 (s1.trans r s2) (q2.back r1 s1)⟩
    | false => exact ⟨c, M, r1, h1, fun a v H2 h2 r2 s2 q2 => q a v H2 h2 r2 (s1.trans r s2) (q2.back r1 s1)⟩⟩
theorem de_ifM {cnd : Expr} {m1 m2 : μ α} {enc : α → R} {mm : μ β} {k : α → μ β} (ha : DE X a δ m1 enc Mo.pur) (hb : DE X b δ m2 enc Mo.pur) (hc : DT X cnd δ mm fun c => Mo.bnd (if c = true then m1 else m2) k) : DE X (.IfExp cnd a b pos) δ mm enc k := fun Qb =>
  pe_weak (pe_ifExp (hc Qb) (ha _) (hb _)) fun σ H Q ⟨c, M, r, h, q⟩ => ⟨c, M, r, h, fun b H1 h1 r1 s1 => by
    cases b with
    | true => exact ⟨c, M, r1, Mo.hbnd h1, fun a v H2 h2 r2 s2 q2 => q a v H2 (hp h2) r2 (s1.trans r s2) (q2.back r1 s1)⟩
    | false => exact ⟨c, M, r1, Mo.hbnd h1, fun a v H2 h2 r2 s2 q2 => q a v H2 (hp h2) r2 (s1.trans r s2) (q2.back r1 s1)⟩⟩
end
end DL

/-! DL3: statements, loops, calls of defs -/
namespace DL
open PySem PySem.Spec L2

/-! ### ends -/
inductive End where
  | nx (δ : En)
  | rt (r : R)
  | no
def RV (K : PySem.W.Frag) (c : Ctx) (H' : Hp) (v : V) : R → Prop
  | .val d => Rp K H' c.M0 d v
  | .own xs => ∃ p vs, v = .ref p ∧ c.He p = none ∧ H' p = some (.lst vs) ∧ Rps K H' (p :: c.M0) xs vs ∧ xs.length ≤ sizeLine
  | .dr => ∃ p, v = .ref p ∧ c.He p = none ∧ IsInts H' p
  | _ => False
def RT (K : PySem.W.Frag) (c : Ctx) (H' : Hp) (v : V) (r : R) : Prop := (∀ a o, c.He a = some o → ¬ c.Y a → H' a = some o) ∧ (∀ a, c.Y a → IsInts H' a) ∧ RV K c H' v r
def ER (K : PySem.W.Frag) (c : Ctx) (D : Ends) : End → Prop
  | .nx δ' => ∀ σ' H' M', RE K c M' σ' H' δ' → D.nx σ' H'
  | .rt r => ∀ v H', RT K c H' v r → D.rt v H'
  | .no => True
/-- one environment knows less -/
def Le : En → En → Prop
  | [], [] => True
  | none :: a, _ :: b => Le a b
  | some r :: a, x :: b => x = some r ∧ Le a b
  | _, _ => False
theorem Le.len : ∀ {a b : En}, Le a b → a.length = b.length
  | [], [], _ => rfl
  | none :: a, _ :: b, h => by
    have h' : Le a b := by simpa [Le] using h
    simp [Le.len h']
  | some r :: a, x :: b, h => by
    have h' : x = some r ∧ Le a b := by simpa [Le] using h
    simp [Le.len h'.2]
  | [], _ :: _, h => h.elim
  | none :: _, [], h => h.elim
  | some _ :: _, [], h => h.elim
theorem Le.get : ∀ {a b : En} {i : Nat} {r : R}, Le a b → a[i]? = some (some r) → b[i]? = some (some r)
  | [], _, _, _, _, e => by simp at e
  | none :: a, [], _, _, h, _ => h.elim
  | some _ :: a, [], _, _, h, _ => h.elim
  | none :: a, x :: b, 0, _, _, e => by simp at e
  | none :: a, x :: b, i + 1, r, h, e => by
    have h' : Le a b := by simpa [Le] using h
    simpa using h'.get (i := i) (by simpa using e)
  | some q :: a, x :: b, 0, r, h, e => by
    have h' : x = some q ∧ Le a b := by simpa [Le] using h
    simp at e; subst e
    simp [h'.1]
  | some q :: a, x :: b, i + 1, r, h, e => by
    have h' : x = some q ∧ Le a b := by simpa [Le] using h
    simpa using h'.2.get (i := i) (by simpa using e)
theorem Le.refl : ∀ a : En, Le a a
  | [] => trivial
  | none :: a => Le.refl a
  | some _ :: a => ⟨rfl, Le.refl a⟩
theorem RE.le {K : PySem.W.Frag} {c : Ctx} {M : List Addr} {σ : St} {H : Hp} {δ δ' : En} (r : RE K c M σ H δ) (h : Le δ' δ) : RE K c M σ H δ' :=
  ⟨h.len.trans r.len, fun i q e => r.slot i q (h.get e), fun i j q q' p hij e1 m1 e2 m2 => r.sep i j q q' p hij (h.get e1) m1 (h.get e2) m2, r.ext, r.m0, r.mt, r.mf, r.hy⟩
def okSlot : R → Prop
  | .val _ => True
  | .own _ => True
  | .dr => True
  | _ => False
section
variable {K : PySem.W.Frag} {c : Ctx} {M : List Addr} {σ : St} {H H' : Hp} {δ : En}
theorem get_set {α : Type} {l : List α} {i j : Nat} {x y : α} (h : (l.set i x)[j]? = some y) : (i = j ∧ i < l.length ∧ y = x) ∨ (i ≠ j ∧ l[j]? = some y) := by
  by_cases e : i = j
  · subst e
    by_cases hl : i < l.length
    · rw [List.getElem?_set_self hl] at h
      exact .inl ⟨rfl, hl, (Option.some.inj h).symm⟩
    · rw [List.getElem?_eq_none (by simpa using hl)] at h; cases h
  · exact .inr ⟨e, by rwa [List.getElem?_set_ne e] at h⟩
/-- a result stored in a slot -/
theorem RE.set {v : V} {r : R} (r0 : RE K c M σ H δ) (s : Sx σ δ H H') (r1 : RE K c M σ H' δ) (h : RR K M σ δ H H' v r) (ok : okSlot r) (i : Nat) : ∃ M', RE K c M' (σ.set i (some v)) H' (δ.set i (some r)) := by
  -- what a val does
  have fin : ∀ (M' : List Addr), (∀ a ∈ M, a ∈ M') → (∀ a ∈ M', a ∈ M ∨ (H a = none ∧ ∃ o, H' a = some o)) → (SR K c M' H' v r) → (∀ p, r.isMut = true → v = .ref p → H p = none) → RE K c M' (σ.set i (some v)) H' (δ.set i (some r)) := fun M' hs hm sr hp => by
    have mo : ∀ a ∈ M', a ∈ M ∨ H a = none := fun a q => (hm a q).imp id fun z => z.1
    have none_c : ∀ {p}, H p = none → c.He p = none := fun {p} hn => by
      cases e : c.He p with
      | none => rfl
      | some o =>
        by_cases y : c.Y p
        · obtain ⟨⟨ns, q, _⟩, _⟩ := r0.hy p y
          rw [hn] at q; cases q
        · have := r0.ext p o e y
          rw [hn] at this; cases this
    refine ⟨by simp [r1.len], fun j q e => ?_, fun a b q q' p hab e1 m1 e2 m2 f1 f2 => ?_, r1.ext, fun a q => hs a (r1.m0 a q), fun a q => ?_, fun a q => ?_, fun a q => ⟨(r1.hy a q).1, (r1.hy a q).2.1, hs a (r1.hy a q).2.2⟩⟩
    · rcases get_set e with ⟨rfl, hl, e'⟩ | ⟨hij, e'⟩
      · cases e'
        exact ⟨v, by rw [List.getElem?_set_self (by rw [← r1.len]; exact hl)], sr⟩
      · obtain ⟨w, e2, w1⟩ := r0.slot j q e'
        obtain ⟨w', e3, w2⟩ := r1.slot j q e'
        rw [e2] at e3; cases e3
        refine ⟨w, by rw [List.getElem?_set_ne hij]; exact e2, ?_⟩
        cases q with
        | val d => exact Rp.mono (r0.sm s) mo d w w1
        | own xs =>
          obtain ⟨p, vs, z1, z2, z3, z4, z5, z6⟩ := w1
          obtain ⟨p', vs', y1, y2, y3, y4, y5, y6⟩ := w2
          subst z1; cases y1
          have z3' : H' p = some (.lst vs) := s p _ z3 fun ⟨jj, u1, u2⟩ => r0.sep j jj _ _ p (fun z => by subst z; rw [e'] at u1; cases u1) e' rfl u1 rfl e2 u2
          exact ⟨p, vs, rfl, hs p z2, z3', Rps.mono (r0.sm s) mo xs vs z4, z5, z6⟩
        | dr =>
          obtain ⟨p, y1, y2, y3, y4⟩ := w2
          exact ⟨p, y1, hs p y2, y3, y4⟩
        | bor xs =>
          obtain ⟨p, vs, z1, z2, z3, z4, z5⟩ := w1
          subst z1
          have z3' : H' p = some (.lst vs) := s p _ z3 fun ⟨jj, u1, u2⟩ => r0.sep j jj _ _ p (fun z => by subst z; rw [e'] at u1; cases u1) e' rfl u1 rfl e2 u2
          exact ⟨p, vs, rfl, hs p z2, z3', Rps.mono (r0.sm s) mo xs vs z4, z5⟩
        | drb => exact w2
    · -- two slots apart
      have apart : ∀ (j : Nat) (q : R), δ[j]? = some (some q) → q.isMut = true → σ[j]? = some (some (.ref p)) → H p ≠ none := fun j q e m f hn => by
        obtain ⟨w, e2, w1⟩ := r0.slot j q e
        rw [f] at e2; cases e2
        cases q with
        | own xs => obtain ⟨p', vs, z1, z2, z3, _⟩ := w1; cases z1; rw [hn] at z3; cases z3
        | dr => obtain ⟨p', z1, z2, ⟨ns, z3, _⟩, _⟩ := w1; cases z1; rw [hn] at z3; cases z3
        | bor xs => obtain ⟨p', vs, z1, z2, z3, _⟩ := w1; cases z1; rw [hn] at z3; cases z3
        | val d => cases m
        | drb => cases m
      rcases get_set e1 with ⟨rfl, hl, e1'⟩ | ⟨ha, e1'⟩
      · cases e1'
        rcases get_set e2 with ⟨z, _⟩ | ⟨hb, e2'⟩
        · exact hab z
        · rw [List.getElem?_set_self (by rw [← r1.len]; exact hl)] at f1
          cases f1
          rw [List.getElem?_set_ne hb] at f2
          exact apart b _ e2' m2 f2 (hp p m1 rfl)
      · rw [List.getElem?_set_ne ha] at f1
        rcases get_set e2 with ⟨rfl, hl, e2'⟩ | ⟨hb, e2'⟩
        · cases e2'
          rw [List.getElem?_set_self (by rw [← r1.len]; exact hl)] at f2
          cases f2
          exact apart a _ e1' m1 f1 (hp p m2 rfl)
        · rw [List.getElem?_set_ne hb] at f2
          exact r0.sep a b _ _ p hab e1' m1 e2' m2 f1 f2
    · rcases hm a q with z | ⟨_, z⟩
      · exact r1.mt a z
      · exact z
    · rcases hm a q with z | ⟨z, _⟩
      · exact r1.mf a z
      · exact .inr (none_c z)
  have none_c : ∀ {p}, H p = none → c.He p = none := fun {p} hn => by
    cases e : c.He p with
    | none => rfl
    | some o =>
      by_cases y : c.Y p
      · obtain ⟨⟨ns, q, _⟩, _⟩ := r0.hy p y
        rw [hn] at q; cases q
      · have := r0.ext p o e y
        rw [hn] at this; cases this
  cases r with
  | val d => exact ⟨M, fin M (fun a q => q) (fun a q => .inl q) h fun p m => by cases m⟩
  | own xs =>
    obtain ⟨p, vs, e, hn, hq, hr, hz⟩ := h
    exact ⟨p :: M, fin (p :: M) (fun a q => List.mem_cons_of_mem _ q) (fun a q => by
      rcases List.mem_cons.mp q with rfl | q
      · exact .inr ⟨hn, _, hq⟩
      · exact .inl q) ⟨p, vs, e, List.mem_cons_self, hq, hr, hz, none_c hn⟩ fun p' _ e' => by rw [e] at e'; cases e'; exact hn⟩
  | dr =>
    obtain ⟨p, e, hn, hq⟩ := h
    exact ⟨p :: M, fin (p :: M) (fun a q => List.mem_cons_of_mem _ q) (fun a q => by
      rcases List.mem_cons.mp q with rfl | q
      · exact .inr ⟨hn, _, hq.choose_spec.1⟩
      · exact .inl q) ⟨p, e, List.mem_cons_self, hq, .inr (none_c hn)⟩ fun p' _ e' => by rw [e] at e'; cases e'; exact hn⟩
  | bor xs => exact ok.elim
  | drb => exact ok.elim
end

section
variable {μ : Type → Type} [Mo μ] {α β γ ρ ε : Type} {X : Cx} {δ : En} {pos : Pos} {e a b : Expr} {st : Stmt} {sts rest : List Stmt}
def DS (X : Cx) (sts : List Stmt) (δ : En) (mm : μ β) (φ : β → End) : Prop :=
  ∀ Qb : β → Prop, PSs X sts fun D σ H => ∃ c M, RE X.K c M σ H δ ∧ Mo.holds mm Qb ∧ ∀ b, Qb b → ER X.K c D (φ b)
def D1 (X : Cx) (st : Stmt) (δ : En) (mm : μ β) (φ : β → End) : Prop :=
  ∀ Qb : β → Prop, PS X st fun D σ H => ∃ c M, RE X.K c M σ H δ ∧ Mo.holds mm Qb ∧ ∀ b, Qb b → ER X.K c D (φ b)
theorem pss_weak {t t' : TS} (h : PSs X sts t) (hh : ∀ D σ H, t' D σ H → t D σ H) : PSs X sts t' := ⟨fun pins s σ H D I q => h.run pins s σ H D I (hh D σ H q)⟩
theorem ps_weak {t t' : TS} (h : PS X st t) (hh : ∀ D σ H, t' D σ H → t D σ H) : PS X st t' := ⟨fun pins s σ H D I q => h.run pins s σ H D I (hh D σ H q)⟩

theorem ds_nil {b : β} {φ : β → End} (δ' : En) (hφ : φ b = .nx δ') (hl : Le δ' δ) : DS (μ := μ) X [] δ (Mo.pur b) φ := fun Qb =>
  pss_weak pss_nil fun D σ H ⟨c, M, r, h, q⟩ => by
    have q' := q b (Mo.hpur h)
    rw [hφ] at q'
    exact q' σ H M (r.le hl)
theorem ds_one {mm : μ β} {φ : β → End} (h : D1 X st δ mm φ) : DS X [st] δ mm φ := fun Qb => pss_one (h Qb)
/-- a statement that falls through, then the rest -/
theorem ds_seq {G : γ → En} {m1 : μ γ} {m2 : γ → μ β} {φ : β → End} (hr : ∀ g, DS X rest (G g) (m2 g) φ) (h1 : D1 X st δ m1 fun g => .nx (G g)) : DS X (st :: rest) δ (Mo.bnd m1 m2) φ := fun Qb => by
  have hr' : PSs X rest fun D σ H => ∃ g c M, RE X.K c M σ H (G g) ∧ Mo.holds (m2 g) Qb ∧ ∀ b, Qb b → ER X.K c D (φ b) := ⟨fun pins s σ H D I ⟨g, q⟩ => (hr g Qb).run pins s σ H D I q⟩
  exact pss_weak (pss_cons (h1 fun g => Mo.holds (m2 g) Qb) hr') fun D σ H ⟨c, M, r, h, q⟩ => ⟨c, M, r, Mo.hbnd h, fun g hg σ' H' M' r' => ⟨g, c, M', r', hg, q⟩⟩
def sel {α γ ρ : Type} (f : γ → α) (g : ρ → α) : γ ⊕ ρ → α
  | .inl a => f a
  | .inr r => g r
def nxrt (G : γ → En) (enc : ρ → R) : γ ⊕ ρ → End := sel (fun g => .nx (G g)) fun r => .rt (enc r)
def nort (enc : ρ → R) : γ ⊕ ρ → End := sel (fun _ => .no) fun r => .rt (enc r)
/-- a statement that may return, then the rest -/
theorem ds_seqE {G : γ → En} {enc : ρ → R} {m1 : μ (γ ⊕ ρ)} {m2 : γ → μ β} {j : ρ → β} {φ : β → End} (hr : ∀ g, DS X rest (G g) (m2 g) φ) (h1 : D1 X st δ m1 (nxrt G enc)) (hj : ∀ r, φ (j r) = .rt (enc r)) :
    DS X (st :: rest) δ (Mo.bnd m1 (sel m2 fun r => Mo.pur (j r))) φ := fun Qb => by
  have hr' : PSs X rest fun D σ H => ∃ g c M, RE X.K c M σ H (G g) ∧ Mo.holds (m2 g) Qb ∧ ∀ b, Qb b → ER X.K c D (φ b) := ⟨fun pins s σ H D I ⟨g, q⟩ => (hr g Qb).run pins s σ H D I q⟩
  refine pss_weak (pss_cons (h1 fun o => Mo.holds (sel m2 (fun r => Mo.pur (j r)) o) Qb) hr') fun D σ H ⟨c, M, r, h, q⟩ => ⟨c, M, r, Mo.hbnd h, fun o ho => ?_⟩
  cases o with
  | inl g => exact fun σ' H' M' r' => ⟨g, c, M', r', ho, q⟩
  | inr x =>
    have q' := q (j x) (Mo.hpur ho)
    rw [hj] at q'
    exact q'
/-- name = e -/
theorem ds_set {enc : α → R} {mm : μ β} {k : α → μ β} {φ : β → End} {x : Str} {pos' : Pos} (i : Nat) (hN : X.N.Nodup) (hr : ∀ y, DS X rest (δ.set i (some (enc y))) (k y) φ) (he : DE X e δ mm enc k) (hi : X.N[i]? = some x := by rfl)
    (hx : Loc X.env.scope x := by first | exact Or.inl rfl | exact Or.inr rfl) (ok : ∀ y, okSlot (enc y) := by intro _; trivial) (hs : swapsWith e (some (.Name x pos')) pos.line X.env = pure false := by rfl)
    (hf : X.fn x = true ∨ X.env.scope.names.lookup x = some .local := by first | exact .inl rfl | exact .inr rfl) : DS X (.Assign [.Name x pos'] e pos :: rest) δ mm φ := fun Qb => by
  have hr' : PSs X rest fun D σ H => ∃ y c M, RE X.K c M σ H (δ.set i (some (enc y))) ∧ Mo.holds (k y) Qb ∧ ∀ b, Qb b → ER X.K c D (φ b) := ⟨fun pins s σ H D I ⟨g, q⟩ => (hr g Qb).run pins s σ H D I q⟩
  refine pss_weak (pss_cons (ps_set hN hi hx (he Qb) hs hf) hr') fun D σ H ⟨c, M, r, h, q⟩ => ⟨c, M, r, h, fun y v H' h1 r1 s1 q1 => ?_⟩
  obtain ⟨M', r2⟩ := r.set s1 r1 q1 (ok y) i
  exact ⟨y, c, M', r2, h1, q⟩
def letD {α β : Type} (a : α) (k : α → β) : β := k a
/-- name = e, e pure: the value is named -/
theorem ds_setL {enc : α → R} {v : α} {k : α → μ β} {φ : β → End} {x : Str} {pos' : Pos} (i : Nat) (hN : X.N.Nodup) (hr : ∀ y, DS X rest (δ.set i (some (enc y))) (k y) φ) (he : ∀ k : α → μ β, DE X e δ (k v) enc k) (hi : X.N[i]? = some x := by rfl)
    (hx : Loc X.env.scope x := by first | exact Or.inl rfl | exact Or.inr rfl) (ok : ∀ y, okSlot (enc y) := by intro _; trivial) (hs : swapsWith e (some (.Name x pos')) pos.line X.env = pure false := by rfl)
    (hf : X.fn x = true ∨ X.env.scope.names.lookup x = some .local := by first | exact .inl rfl | exact .inr rfl) : DS X (.Assign [.Name x pos'] e pos :: rest) δ (letD v k) φ :=
  ds_set i hN hr (he k) hi hx ok hs hf
/-- return -/
theorem ds_ret {enc : α → R} {mm : μ β} {j : α → β} {φ : β → End} (he : DE X e δ mm enc fun a => Mo.pur (j a)) (hj : ∀ a, φ (j a) = .rt (enc a)) (ok : ∀ y, okSlot (enc y) := by intro _; trivial) : DS X (.Return (some e) pos :: rest) δ mm φ := fun Qb => by
  refine pss_weak (pss_cons (ps_ret (he Qb)) (u := tNever) pss_never) fun D σ H ⟨c, M, r, h, q⟩ => ⟨c, M, r, h, fun y v H' h1 r1 s1 q1 => ?_⟩
  have q' := q (j y) (Mo.hpur h1)
  rw [hj] at q'
  refine q' v H' ⟨r1.ext, fun a ya => (r1.hy a ya).1, ?_⟩
  have none_c : ∀ {p}, H p = none → c.He p = none := fun {p} hn => by
    cases e : c.He p with
    | none => rfl
    | some o =>
      by_cases y : c.Y p
      · obtain ⟨⟨ns, q, _⟩, _⟩ := r.hy p y
        rw [hn] at q; cases q
      · have := r.ext p o e y
        rw [hn] at this; cases this
  have ok := ok y
  revert q1 ok
  cases enc y with
  | val d => exact fun q1 _ => Rp.anti q1 r1.m0
  | own xs => exact fun ⟨p, vs, e, hn, hq, hr, hz⟩ _ => ⟨p, vs, e, none_c hn, hq, hr.anti fun a q => (List.mem_cons.mp q).elim (fun z => z ▸ List.mem_cons_self) fun z => List.mem_cons_of_mem _ (r1.m0 a z), hz⟩
  | dr => exact fun ⟨p, e, hn, hq⟩ _ => ⟨p, e, none_c hn, hq⟩
  | bor xs => exact fun _ ok => ok.elim
  | drb => exact fun _ ok => ok.elim
/-- return of a list of one's own -/
theorem ds_retOwn {f : α → PyData} {x : Str} {pos' : Pos} {j : List α → β} {φ : β → End} (i : Nat) (v : List α) (hs : δ[i]? = some (some (ow f v))) (hj : ∀ a, φ (j a) = .rt (ow f a)) (hN : X.N[i]? = some x := by rfl) (hx : Vis X.env.scope x := by first | exact Or.inl rfl | exact Or.inr (Or.inl rfl) | exact Or.inr (Or.inr rfl))
    (hd : (x == ("__debug__" : Str)) = false := by decide) (hcd : (x == ("__classdict__" : Str)) = false := by decide) : DS (μ := μ) X (.Return (some (.Name x pos')) pos :: rest) δ (Mo.pur (j v)) φ := fun Qb => by
  refine pss_weak (pss_cons (ps_ret (pe_var hN hx hd hcd)) (u := tNever) pss_never) fun D σ H ⟨c, M, r, h, q⟩ => ?_
  have q' := q (j v) (Mo.hpur h)
  rw [hj] at q'
  obtain ⟨w, e1, p, vs, e2, h1, h2, h3, hz, h4⟩ := r.slot i _ hs
  refine ⟨w, e1, q' w H ⟨r.ext, fun a ya => (r.hy a ya).1, p, vs, e2, h4, h2, h3.anti fun a q => (List.mem_cons.mp q).elim (fun z => z ▸ h1) fun z => r.m0 a z, hz⟩⟩
/-- the draws returned -/
theorem ds_retDr {f : α → PyData} {x : Str} {pos' : Pos} {v : List Int} {j : Unit → β} {φ : β → End} (i : Nat) (hs : δ[i]? = some (some (ow PyData.int v))) (hv : ∀ n ∈ v, (0 : Int) ≤ n) (hj : ∀ a, φ (j a) = .rt R.dr) (hN : X.N[i]? = some x := by rfl) (hx : Vis X.env.scope x := by first | exact Or.inl rfl | exact Or.inr (Or.inl rfl) | exact Or.inr (Or.inr rfl))
    (hd : (x == ("__debug__" : Str)) = false := by decide) (hcd : (x == ("__classdict__" : Str)) = false := by decide) : DS (μ := μ) X (.Return (some (.Name x pos')) pos :: rest) δ (Mo.pur (j ())) φ := fun Qb => by
  refine pss_weak (pss_cons (ps_ret (pe_var hN hx hd hcd)) (u := tNever) pss_never) fun D σ H ⟨c, M, r, h, q⟩ => ?_
  have q' := q (j ()) (Mo.hpur h)
  rw [hj] at q'
  obtain ⟨w, e1, p, vs, e2, h1, h2, h3, hz, h4⟩ := r.slot i _ hs
  refine ⟨w, e1, q' w H ⟨r.ext, fun a ya => (r.hy a ya).1, p, e2, h4, v, ?_, hv, by simpa using hz⟩⟩
  rw [h2, h3.toInts]
/-- if c: (returns); the rest -/
theorem ds_ifR {c : Expr} {t : List Stmt} {m1 m2 mm : μ β} {φ φ' : β → End} (hr : DS X rest δ m2 φ) (ht : DS X t δ m1 φ') (hc : DT X c δ mm fun b => if b = true then m1 else m2) (hφ : ∀ b, φ' b = .no ∨ (φ' b = φ b ∧ ∃ r, φ b = .rt r)) :
    DS X (.If c t [] pos :: rest) δ mm φ := fun Qb => by
  refine pss_weak (pss_cons (ps_if (hc Qb) (ht Qb) pss_nil) (hr Qb)) fun D σ H ⟨c, M, r, h, q⟩ => ⟨c, M, r, h, fun b H1 h1 r1 s1 => ?_⟩
  cases b with
  | true =>
    refine ⟨c, M, r1, h1, fun b hb => ?_⟩
    rcases hφ b with z | ⟨z, r, z2⟩
    · rw [z]; trivial
    · have := q b hb
      rw [z, z2]
      rw [z2] at this
      exact this
  | false => exact ⟨c, M, r1, h1, q⟩
/-- if, as a statement -/
theorem d1_if {c : Expr} {t u : List Stmt} {m1 m2 mm : μ β} {φ : β → End} (ht : DS X t δ m1 φ) (hu : DS X u δ m2 φ) (hc : DT X c δ mm fun b => if b = true then m1 else m2) : D1 X (.If c t u pos) δ mm φ := fun Qb => by
  refine ps_weak (ps_if (hc Qb) (ht Qb) (hu Qb)) fun D σ H ⟨c, M, r, h, q⟩ => ⟨c, M, r, h, fun b H1 h1 r1 s1 => ?_⟩
  cases b with
  | true => exact ⟨c, M, r1, h1, q⟩
  | false => exact ⟨c, M, r1, h1, q⟩
theorem ds_pass {mm : μ β} {φ : β → End} (h : DS X rest δ mm φ) : DS X (.Pass pos :: rest) δ mm φ := fun Qb => pss_weak (pss_cons ps_pass (h Qb)) fun D σ H q => q
end
end DL

/-! DL4: loops, comprehensions, calls of defs -/
namespace DL
open PySem PySem.Spec L2

/-! ### frames: a stretch of statements leaves what is no slot's own -/
def IsOwn (σ : St) (δ : En) (a : Addr) : Prop := ∃ (i : Nat) (xs : List PyData), δ[i]? = some (some (R.own xs)) ∧ σ[i]? = some (some (V.ref a))
open Classical in
noncomputable def Ctx.at (c : Ctx) (M : List Addr) (σ : St) (H : Hp) (δ : En) : Ctx := { He := fun a => if IsOwn σ δ a then none else H a, M0 := M, Y := fun a => IsI σ δ a ∨ c.Y a }
section
variable {K : PySem.W.Frag} {c : Ctx} {M M' : List Addr} {σ σ' : St} {H H' : Hp} {δ δ' : En}
theorem at_own {a : Addr} (h : IsOwn σ δ a) : (c.at M σ H δ).He a = none := if_pos h
theorem at_not {a : Addr} (h : ¬ IsOwn σ δ a) : (c.at M σ H δ).He a = H a := if_neg h
theorem at_some {a : Addr} {o : HO} (h : (c.at M σ H δ).He a = some o) : ¬ IsOwn σ δ a ∧ H a = some o := by
  by_cases q : IsOwn σ δ a
  · rw [at_own q] at h; cases h
  · rw [at_not q] at h; exact ⟨q, h⟩
theorem at_none {a : Addr} (h : (c.at M σ H δ).He a = none) : IsOwn σ δ a ∨ H a = none := by
  by_cases q : IsOwn σ δ a
  · exact .inl q
  · rw [at_not q] at h; exact .inr h
theorem RE.own_none (r : RE K c M σ H δ) {a : Addr} (h : IsOwn σ δ a) : c.He a = none ∧ a ∈ M ∧ ∃ vs, H a = some (.lst vs) := by
  obtain ⟨i, xs, e1, e2⟩ := h
  obtain ⟨w, e3, p, vs, e4, h1, h2, h3, h4, h5⟩ := r.slot i _ e1
  rw [e2] at e3; cases e3; cases e4
  exact ⟨h5, h1, vs, h2⟩
theorem RE.he_none (r : RE K c M σ H δ) {p : Addr} (hn : H p = none) : c.He p = none := by
  cases e : c.He p with
  | none => rfl
  | some o =>
    by_cases y : c.Y p
    · obtain ⟨⟨ns, q, _⟩, _⟩ := r.hy p y
      rw [hn] at q; cases q
    · have := r.ext p o e y
      rw [hn] at this; cases this
theorem RE.y_not_own (r : RE K c M σ H δ) {a : Addr} (y : c.Y a) : ¬ IsOwn σ δ a := fun q => (r.hy a y).2.1 (r.own_none q).1
theorem RE.i_not_own (r : RE K c M σ H δ) {a : Addr} (y : IsI σ δ a) : ¬ IsOwn σ δ a := fun ⟨i, xs, e1, e2⟩ => by
  obtain ⟨j, f1, f2⟩ := y
  exact r.sep i j _ _ a (fun z => by subst z; rw [e1] at f1; cases f1) e1 rfl f1 rfl e2 f2
theorem RE.enter (r : RE K c M σ H δ) : RE K (c.at M σ H δ) M σ H δ := by
  refine ⟨r.len, fun i q e => ?_, r.sep, fun a o e n => (at_some e).2, fun a q => q, r.mt, fun a q => .inl q, fun a y => ?_⟩
  · obtain ⟨v, e1, h⟩ := r.slot i q e
    refine ⟨v, e1, ?_⟩
    cases q with
    | val d => exact h
    | own xs =>
      obtain ⟨p, vs, e2, h1, h2, h3, h4, h5⟩ := h
      exact ⟨p, vs, e2, h1, h2, h3, h4, at_own ⟨i, xs, e, by rw [e1, e2]⟩⟩
    | dr =>
      obtain ⟨p, e2, h1, h2, h3⟩ := h
      exact ⟨p, e2, h1, h2, .inl (.inl ⟨i, e, by rw [e1, e2]⟩)⟩
    | bor xs =>
      obtain ⟨p, vs, e2, h1, h2, h3, h4, h5⟩ := h
      refine ⟨p, vs, e2, h1, h2, h3, h4, fun z => ?_⟩
      rcases z with ⟨j, f1, f2⟩ | z
      · exact r.sep i j _ _ p (fun z => by subst z; rw [e] at f1; cases f1) e rfl f1 rfl (by rw [e1, e2]) f2
      · exact h5 z
    | drb => exact h
  · rcases y with y | y
    · obtain ⟨h1, h2, _⟩ := r.dr y
      refine ⟨h2, ?_, h1⟩
      rw [at_not (r.i_not_own y), h2.choose_spec.1]
      exact fun z => nomatch z
    · obtain ⟨h1, h2, h3⟩ := r.hy a y
      refine ⟨h1, ?_, h3⟩
      rw [at_not (r.y_not_own y), h1.choose_spec.1]
      exact fun z => nomatch z
theorem RE.leave (r : RE K c M σ H δ) (r' : RE K (c.at M σ H δ) M' σ' H' δ') : RE K c M' σ' H' δ' := by
  have none_c : ∀ {p}, (c.at M σ H δ).He p = none → c.He p = none := fun {p} h => by
    rcases at_none h with q | q
    · exact (r.own_none q).1
    · exact r.he_none q
  refine ⟨r'.len, fun i q e => ?_, r'.sep, fun a o e n => ?_, fun a q => r'.m0 a (r.m0 a q), r'.mt, fun a q => ?_, fun a y => ?_⟩
  · obtain ⟨v, e1, h⟩ := r'.slot i q e
    refine ⟨v, e1, ?_⟩
    cases q with
    | val d => exact h
    | own xs =>
      obtain ⟨p, vs, e2, h1, h2, h3, h4, h5⟩ := h
      exact ⟨p, vs, e2, h1, h2, h3, h4, none_c h5⟩
    | dr =>
      obtain ⟨p, e2, h1, h2, h3⟩ := h
      refine ⟨p, e2, h1, h2, ?_⟩
      rcases h3 with (y | y) | z
      · exact (r.dr y).2.2
      · exact .inl y
      · exact .inr (none_c z)
    | bor xs =>
      obtain ⟨p, vs, e2, h1, h2, h3, h4, h5⟩ := h
      exact ⟨p, vs, e2, h1, h2, h3, h4, fun z => h5 (.inr z)⟩
    | drb => exact h
  · have e1 := r.ext a o e n
    have no : ¬ IsOwn σ δ a := fun q => by have := (r.own_none q).1; rw [e] at this; cases this
    refine r'.ext a o (by rw [at_not no]; exact e1) fun y => ?_
    rcases y with y | y
    · rcases (r.dr y).2.2 with z | z
      · exact n z
      · rw [e] at z; cases z
    · exact n y
  · rcases r'.mf a q with z | z
    · exact r.mf a z
    · exact .inr (none_c z)
  · obtain ⟨h1, h2, h3⟩ := r'.hy a (.inr y)
    exact ⟨h1, (r.hy a y).2.1, h3⟩
/-- what stays through a stretch of statements -/
def Ex (c : Ctx) (σ : St) (δ : En) (a : Addr) : Prop := IsI σ δ a ∨ IsOwn σ δ a ∨ c.Y a
theorem RE.stays (r : RE K (c.at M σ H δ) M' σ' H' δ') : ∀ a o, H a = some o → ¬ Ex c σ δ a → H' a = some o := fun a o e n =>
  r.ext a o (by rw [at_not fun q => n (.inr (.inl q))]; exact e) fun y => n (y.elim .inl fun z => .inr (.inr z))
theorem RE.exM (r : RE K c M σ H δ) {a : Addr} (h : Ex c σ δ a) : a ∈ M ∧ ∃ vs, H a = some (.lst vs) := by
  rcases h with h | h | h
  · obtain ⟨h1, ⟨ns, h2, _⟩, _⟩ := r.dr h
    exact ⟨h1, _, h2⟩
  · obtain ⟨_, h1, h2⟩ := r.own_none h
    exact ⟨h1, h2⟩
  · obtain ⟨⟨ns, h2, _⟩, _, h1⟩ := r.hy a h
    exact ⟨h1, _, h2⟩
/-- setting a slot to data -/
theorem RE.setV {v : V} {d : PyData} (r : RE K c M σ H δ) (h : Rp K H M d v) (i : Nat) : RE K c M (σ.set i (some v)) H (δ.set i (some (.val d))) := by
  refine ⟨by simp [r.len], fun j q e => ?_, fun a b q q' p hab e1 m1 e2 m2 f1 f2 => ?_, r.ext, r.m0, r.mt, r.mf, r.hy⟩
  · rcases get_set e with ⟨rfl, hl, e'⟩ | ⟨hij, e'⟩
    · cases e'
      exact ⟨v, by rw [List.getElem?_set_self (by rw [← r.len]; exact hl)], h⟩
    · obtain ⟨w, e2, w1⟩ := r.slot j q e'
      exact ⟨w, by rw [List.getElem?_set_ne hij]; exact e2, w1⟩
  · rcases get_set e1 with ⟨rfl, hl, e1'⟩ | ⟨ha, e1'⟩
    · cases e1'; cases m1
    · rcases get_set e2 with ⟨rfl, hl, e2'⟩ | ⟨hb, e2'⟩
      · cases e2'; cases m2
      · rw [List.getElem?_set_ne ha] at f1
        rw [List.getElem?_set_ne hb] at f2
        exact r.sep a b _ _ p hab e1' m1 e2' m2 f1 f2
end
/-- forgetting slots -/
def wipeE (δ : En) : List Nat → En
  | [] => δ
  | v :: vs => (wipeE δ vs).set v none
theorem RE.forget {K : PySem.W.Frag} {c : Ctx} {M : List Addr} {σ : St} {H : Hp} {δ : En} (r : RE K c M σ H δ) (i : Nat) (x : Option V) : RE K c M (σ.set i x) H (δ.set i none) := by
  refine ⟨by simp [r.len], fun j q e => ?_, fun a b q q' p hab e1 m1 e2 m2 f1 f2 => ?_, r.ext, r.m0, r.mt, r.mf, r.hy⟩
  · rcases get_set e with ⟨rfl, hl, e'⟩ | ⟨hij, e'⟩
    · cases e'
    · obtain ⟨w, e2, w1⟩ := r.slot j q e'
      exact ⟨w, by rw [List.getElem?_set_ne hij]; exact e2, w1⟩
  · rcases get_set e1 with ⟨rfl, hl, e1'⟩ | ⟨ha, e1'⟩
    · cases e1'
    · rcases get_set e2 with ⟨rfl, hl, e2'⟩ | ⟨hb, e2'⟩
      · cases e2'
      · rw [List.getElem?_set_ne ha] at f1
        rw [List.getElem?_set_ne hb] at f2
        exact r.sep a b _ _ p hab e1' m1 e2' m2 f1 f2
theorem RE.wipe {K : PySem.W.Frag} {c : Ctx} {M : List Addr} {σ : St} {H : Hp} {δ : En} (r : RE K c M σ H δ) : ∀ vs : List Nat, RE K c M (wipe σ vs) H (wipeE δ vs)
  | [] => r
  | v :: vs => (r.wipe vs).forget v none
theorem wipeE_dr {σ : St} {δ : En} {a : Addr} : ∀ {vs : List Nat}, IsI (wipe σ vs) (wipeE δ vs) a → IsI σ δ a
  | [], h => h
  | v :: vs, ⟨i, e1, e2⟩ => by
    rcases get_set e1 with ⟨_, _, z⟩ | ⟨hi, e1'⟩
    · cases z
    · rw [show wipe σ (v :: vs) = (wipe σ vs).set v none from rfl, List.getElem?_set_ne hi] at e2
      exact wipeE_dr (vs := vs) ⟨i, e1', e2⟩

/-! ### targets -/
structure DG (K : PySem.W.Frag) {α : Type} (f : α → PyData) (up : En → α → En) (vs : List Nat) (g : TG) : Prop where
  run : ∀ (c : Ctx) (M : List Addr) (σ : St) (H : Hp) (δ : En) (a : α) (v : V) (Q : St → Hp → Prop), RE K c M σ H δ → Rp K H M (f a) v →
    (∀ σ', RE K c M σ' H (up δ a) → (∀ τ, σ = wipe τ vs → wipe σ' vs = wipe τ vs) → (∀ b, IsI σ' (up δ a) b → IsI σ δ b) → Q σ' H) → g v σ H Q
def up1 {α : Type} (i : Nat) (f : α → PyData) : En → α → En := fun δ a => δ.set i (some (vl f a))
theorem isI_setV {σ : St} {δ : En} {i : Nat} {v : V} {d : PyData} {b : Addr} (h : IsI (σ.set i (some v)) (δ.set i (some (.val d))) b) : IsI σ δ b := by
  obtain ⟨j, e1, e2⟩ := h
  rcases get_set e1 with ⟨_, _, z⟩ | ⟨hi, e1'⟩
  · cases z
  · exact ⟨j, e1', by rwa [List.getElem?_set_ne hi] at e2⟩
theorem dg_name {K : PySem.W.Frag} {α : Type} {f : α → PyData} (i : Nat) : DG K f (up1 i f) [i] (gName i) := ⟨fun c M σ H δ a v Q r h q => by
  refine q (σ.set i (some v)) (r.setV h i) (fun τ e => ?_) fun b h => isI_setV h
  subst e
  simp [L2.wipe, List.set_set]⟩
def dT2 {α β : Type} (f : α → PyData) (g : β → PyData) : α × β → PyData := fun p => .tuple [f p.1, g p.2]
def dT3 {α β γ : Type} (f : α → PyData) (g : β → PyData) (h : γ → PyData) : α × β × γ → PyData := fun p => .tuple [f p.1, g p.2.1, h p.2.2]
def dT4 {α β γ ε : Type} (f : α → PyData) (g : β → PyData) (h : γ → PyData) (i : ε → PyData) : α × β × γ × ε → PyData := fun p => .tuple [f p.1, g p.2.1, h p.2.2.1, i p.2.2.2]
def up2 {α β : Type} (i j : Nat) (f : α → PyData) (g : β → PyData) : En → α × β → En := fun δ p => (δ.set i (some (vl f p.1))).set j (some (vl g p.2))
def up3 {α β γ : Type} (i j k : Nat) (f : α → PyData) (g : β → PyData) (h : γ → PyData) : En → α × β × γ → En := fun δ p => ((δ.set i (some (vl f p.1))).set j (some (vl g p.2.1))).set k (some (vl h p.2.2))
theorem dg_tup2 {K : PySem.W.Frag} {α β : Type} {f : α → PyData} {g : β → PyData} (i j : Nat) (hij : i ≠ j) : DG K (dT2 f g) (up2 i j f g) [i, j] (gTup K 2 (gCons (gName i) (gCons (gName j) gNil))) := ⟨fun c M σ H δ p v Q r h q => by
  obtain ⟨a, vs, e, hs, hr, hz⟩ := h
  subst e
  obtain ⟨x, t, e, h1, y, t', e', h2, e''⟩ := hr
  cases (show _ = _ from e''); subst e'; subst e
  refine ⟨a, _, rfl, hs, rfl, x, [y], rfl, y, [], rfl, rfl, ?_⟩
  refine q _ ((r.setV h1 i).setV h2 j) (fun τ e => ?_) fun b h => isI_setV (isI_setV h)
  subst e
  apply List.ext_getElem?
  intro n
  simp only [L2.wipe, List.getElem?_set, List.length_set]
  by_cases h1 : i = n <;> by_cases h2 : j = n <;> simp [h1, h2]⟩
theorem dg_tup3 {K : PySem.W.Frag} {α β γ : Type} {f : α → PyData} {g : β → PyData} {h : γ → PyData} (i j k : Nat) (hij : i ≠ j) (hik : i ≠ k) (hjk : j ≠ k) : DG K (dT3 f g h) (up3 i j k f g h) [i, j, k] (gTup K 3 (gCons (gName i) (gCons (gName j) (gCons (gName k) gNil)))) := ⟨fun c M σ H δ p v Q r h q => by
  obtain ⟨a, vs, e, hs, hr, hz⟩ := h
  subst e
  obtain ⟨x, t, e, h1, y, t', e', h2, z, t'', e3, h3, e4⟩ := hr
  cases (show _ = _ from e4); subst e3; subst e'; subst e
  refine ⟨a, _, rfl, hs, rfl, x, [y, z], rfl, y, [z], rfl, z, [], rfl, rfl, ?_⟩
  refine q _ (((r.setV h1 i).setV h2 j).setV h3 k) (fun τ e => ?_) fun b h => isI_setV (isI_setV (isI_setV h))
  subst e
  apply List.ext_getElem?
  intro n
  simp only [L2.wipe, List.getElem?_set, List.length_set]
  by_cases h1 : i = n <;> by_cases h2 : j = n <;> by_cases h3 : k = n <;> simp [h1, h2, h3]⟩

/-! ### what is walked -/
/-- the walk J yields xs, while what E spares stands -/
def ItOf (K : PySem.W.Frag) (M : List Addr) (E : Addr → Prop) (H' : Hp) {α : Type} (f : α → PyData) (xs : List α) (J : It) : Prop :=
  ∀ (i : Nat) (H2 : Hp), (∀ a o, H' a = some o → ¬ E a → H2 a = some o) →
    (∀ x, xs[i]? = some x → J.go i H2 ∧ ∀ v H3, J.yld i H2 v H3 → H3 = H2 ∧ Rp K H' M (f x) v) ∧ (xs[i]? = none → J.stop i H2)
section
variable {μ : Type → Type} [Mo μ] {α β γ ρ ε : Type} {X : Cx} {δ : En} {pos : Pos} {e a b : Expr} {st : Stmt} {sts rest : List Stmt}
def DI (X : Cx) (tg it : Expr) (δ : En) (mm : μ β) (f : α → PyData) (k : List α → μ β) : Prop :=
  ∀ Qb : β → Prop, PI X tg it fun σ H Rr => ∃ c M, RE X.K c M σ H δ ∧ Mo.holds mm Qb ∧
    ∀ xs J H', Mo.holds (k xs) Qb → RE X.K c M σ H' δ → Sx σ δ H H' → xs.length ≤ sizeLine → ItOf X.K M (Ex c σ δ) H' f xs J → Rr J H'
/-- .. within an expression -/
def DIc (X : Cx) (tg it : Expr) (δ : En) (mm : μ β) (f : α → PyData) (k : List α → μ β) : Prop :=
  ∀ Qb : β → Prop, PI X tg it fun σ H Rr => ∃ c M, RE X.K c M σ H δ ∧ Mo.holds mm Qb ∧
    ∀ xs J H', Mo.holds (k xs) Qb → RE X.K c M σ H' δ → Sx σ δ H H' → xs.length ≤ sizeLine → ItOf X.K M (IsI σ δ) H' f xs J → Rr J H'
theorem pi_weak {tg it : Expr} {t t' : TI} (h : PI X tg it t) (hh : ∀ σ H Q, t' σ H Q → t σ H Q) : PI X tg it t' := ⟨fun pins s σ H Q I q => h.run pins s σ H Q I (hh σ H Q q)⟩
theorem DI.c {tg it : Expr} {mm : μ β} {f : α → PyData} {k : List α → μ β} (h : DI X tg it δ mm f k) : DIc X tg it δ mm f k := fun Qb =>
  pi_weak (h Qb) fun σ H Rr ⟨c, M, r, hm, q⟩ => ⟨c, M, r, hm, fun xs J H' h1 r1 s1 z1 it => q xs J H' h1 r1 s1 z1 fun i H2 st => it i H2 fun a o e n => st a o e fun z => n (.inl z)⟩
theorem itl_of {K : PySem.W.Frag} {M : List Addr} {E : Addr → Prop} {H' : Hp} {f : α → PyData} {xs : List α} {p : Addr} {vs : List V} (hq : ∀ H2, (∀ a o, H' a = some o → ¬ E a → H2 a = some o) → SqL K H2 p vs) (hr : Rps K H' M (xs.map f) vs) : ItOf K M E H' f xs (Itl K p) := fun i H2 st => by
  have q := hq H2 st
  have hl := hr.length
  rw [List.length_map] at hl
  refine ⟨fun x hx => ?_, fun hx => ⟨vs, q, by rw [hl]; exact List.getElem?_eq_none_iff.mp hx⟩⟩
  obtain ⟨v, e, h⟩ := hr.get (i := i) (d := f x) (by rw [List.getElem?_map, hx]; rfl)
  refine ⟨⟨vs, v, q, e⟩, fun v' H3 y => ⟨y.1, ?_⟩⟩
  have := y.2 vs q
  rw [e] at this; cases this
  exact h
theorem itt_of {K : PySem.W.Frag} {M : List Addr} {E : Addr → Prop} {H' : Hp} {f : α → PyData} {xs : List α} {p : Addr} {vs : List V} (hq : ∀ H2, (∀ a o, H' a = some o → ¬ E a → H2 a = some o) → SqT K H2 p vs) (hr : Rps K H' M (xs.map f) vs) : ItOf K M E H' f xs (Itt K p) := fun i H2 st => by
  have q := hq H2 st
  have hl := hr.length
  rw [List.length_map] at hl
  refine ⟨fun x hx => ?_, fun hx => ⟨vs, q, by rw [hl]; exact List.getElem?_eq_none_iff.mp hx⟩⟩
  obtain ⟨v, e, h⟩ := hr.get (i := i) (d := f x) (by rw [List.getElem?_map, hx]; rfl)
  refine ⟨⟨vs, v, q, e⟩, fun v' H3 y => ⟨y.1, ?_⟩⟩
  have := y.2 vs q
  rw [e] at this; cases this
  exact h
theorem sqT_keep {K : PySem.W.Frag} {E : Addr → Prop} {H' : Hp} {p : Addr} {vs : List V} (h : SqT K H' p vs) (hE : ∀ a, E a → ∃ ws, H' a = some (.lst ws)) : ∀ H2, (∀ a o, H' a = some o → ¬ E a → H2 a = some o) → SqT K H2 p vs := fun H2 st => by
  have nE : ∀ {o}, H' p = some o → isLst o = false → ¬ E p := fun {o} e n q => by
    obtain ⟨ws, e'⟩ := hE p q
    rw [e] at e'; cases e'; cases n
  rcases h with (h | ⟨o, h⟩) | h
  · exact .inl (.inl (st _ _ h (nE h rfl)))
  · exact .inl (.inr ⟨o, st _ _ h (nE h rfl)⟩)
  · exact .inr h
theorem sqL_keep {K : PySem.W.Frag} {E : Addr → Prop} {M : List Addr} {H' : Hp} {p : Addr} {vs : List V} (h : (p ∉ M ∧ Rd H' p (.lst vs)) ∨ KL K p vs) (hE : ∀ a, E a → a ∈ M ∧ ∃ ws, H' a = some (.lst ws)) : ∀ H2, (∀ a o, H' a = some o → ¬ E a → H2 a = some o) → SqL K H2 p vs := fun H2 st => by
  rcases h with ⟨n, h | ⟨o, h⟩⟩ | h
  · exact .inl (.inl (st _ _ h fun q => n (hE p q).1))
  · exact .inl (.inr ⟨o, st _ _ h fun q => n (hE p q).1⟩)
  · exact .inr h
/-- over a tuple -/
theorem di_tup {tg it : Expr} {f : α → PyData} {mm : μ β} {k : List α → μ β} (h : DE X it δ mm (vl (dQ f)) k) : DI X tg it δ mm f k := fun Qb =>
  pi_weak (pi_tup (h Qb)) fun σ H Rr ⟨c, M, r, hm, q⟩ => ⟨c, M, r, hm, fun xs v H' h1 r1 s1 ⟨p, vs, e, hs, hr, hz⟩ => ⟨p, e, ⟨vs, hs⟩, q xs _ H' h1 r1 s1 (by simpa using hz) (itt_of (sqT_keep hs fun a z => (r1.exM z).2) hr)⟩⟩
/-- over a frozen list -/
theorem di_lst {tg it : Expr} {f : α → PyData} {mm : μ β} {k : List α → μ β} (h : DE X it δ mm (vl (dL f)) k) : DI X tg it δ mm f k := fun Qb =>
  pi_weak (pi_list (h Qb)) fun σ H Rr ⟨c, M, r, hm, q⟩ => ⟨c, M, r, hm, fun xs v H' h1 r1 s1 ⟨p, vs, e, hs, hr, hz⟩ => ⟨p, e, ⟨vs, hs.elim (fun z => .inl z.2) .inr⟩, q xs _ H' h1 r1 s1 (by simpa using hz) (itl_of (sqL_keep hs fun a z => r1.exM z) hr)⟩⟩
/-- over a new list -/
theorem di_own {tg it : Expr} {f : α → PyData} {mm : μ β} {k : List α → μ β} (h : DE X it δ mm (ow f) k) : DI X tg it δ mm f k := di_lst (de_frz h)
/-- over a locked list -/
theorem di_bor {tg : Expr} {x : Str} {f : α → PyData} {k : List α → μ β} (i : Nat) (v : List α) (hs : δ[i]? = some (some (bo f v))) (hN : X.N[i]? = some x := by rfl) (hx : Vis X.env.scope x := by first | exact Or.inl rfl | exact Or.inr (Or.inl rfl) | exact Or.inr (Or.inr rfl))
    (hd : (x == ("__debug__" : Str)) = false := by decide) (hcd : (x == ("__classdict__" : Str)) = false := by decide) : DI X tg (.Name x pos) δ (k v) f k := fun Qb =>
  pi_weak (pi_list (pe_var hN hx hd hcd)) fun σ H Rr ⟨c, M, r, h, q⟩ => by
    obtain ⟨w, e1, p, vs, e2, h1, h2, h3, hz, hy⟩ := r.slot i _ hs
    subst e2
    refine ⟨_, e1, p, rfl, ⟨vs, .inl (.inl h2)⟩, q v _ H h r Sx.refl (by simpa using hz) (itl_of (fun H2 st => .inl (.inl (st p _ h2 fun z => ?_))) h3)⟩
    rcases z with ⟨j, f1, f2⟩ | ⟨j, xs, f1, f2⟩ | z
    · exact r.sep i j _ _ p (fun z => by subst z; rw [hs] at f1; cases f1) hs rfl f1 rfl e1 f2
    · exact r.sep i j _ _ p (fun z => by subst z; rw [hs] at f1; cases f1) hs rfl f1 rfl e1 f2
    · exact hy z
/-- over a list of one's own, within an expression -/
theorem dic_bor {tg it : Expr} {f : α → PyData} {mm : μ β} {k : List α → μ β} (h : DE X it δ mm (bo f) k) : DIc X tg it δ mm f k := fun Qb =>
  pi_weak (pi_list (h Qb)) fun σ H Rr ⟨c, M, r, hm, q⟩ => ⟨c, M, r, hm, fun xs v H' h1 r1 s1 ⟨p, vs, e, hM, ni, hi, hp, hr, hz⟩ => ⟨p, e, ⟨vs, .inl (.inl hp)⟩, q xs _ H' h1 r1 s1 (by simpa using hz) (itl_of (fun H2 st => .inl (.inl (st p _ hp ni))) hr)⟩⟩
/-- lo, lo + 1, .., hi - 1 -/
def rng (lo hi : Int) : List Int := (List.range (hi - lo).toNat).map fun i : Nat => lo + (i : Int)
def rngO (lo hi : Int) : Option (List Int) := if -(2 ^ 62) ≤ lo ∧ lo < 2 ^ 62 ∧ -(2 ^ 62) ≤ hi ∧ hi < 2 ^ 62 ∧ hi - lo ≤ 16777216 then some (rng lo hi) else none
theorem rng_len {lo hi : Int} : (rng lo hi).length = (hi - lo).toNat := by simp [rng]
theorem itr_of {K : PySem.W.Frag} {M : List Addr} {E : Addr → Prop} {H' : Hp} {lo hi : Int} : ItOf K M E H' PyData.int (rng lo hi) (Itr lo (hi - lo).toNat) := fun i H2 st => by
  refine ⟨fun x hx => ?_, fun hx => ?_⟩
  · have hl : i < (hi - lo).toNat := by
      have := (List.getElem?_eq_some_iff.mp hx).1
      rwa [rng_len] at this
    refine ⟨hl, fun v H3 y => ⟨y.1, ?_⟩⟩
    rw [y.2]
    have : (rng lo hi)[i]? = some (lo + (i : Nat)) := by simp [rng, hl]
    rw [hx] at this; cases this
    rfl
  · have := List.getElem?_eq_none_iff.mp hx
    rwa [rng_len] at this
/-- range(n) -/
theorem di_rng1 {tg : Expr} {p : Pos} {mm : μ β} {k : List Int → μ β} (hm : X.mg "range" = none) (ha : DE X a δ mm (vl PyData.int) fun n => Mo.bnd (Mo.lft (rngO 0 n)) k) (hg : Gl X "range" := by rfl) (hs : starEach [a] X.env = [(false, eval a X.env)] := by rfl) : DI X tg (.Call (.Name "range" p) [a] [] pos) δ mm PyData.int k := fun Qb => by
  refine pi_weak (pi_range1 hg hm (pa_cons (ha Qb) pa_nil hs) hs) fun σ H Rr ⟨c, M, r, h, q⟩ => ⟨c, M, r, h, fun n v H' h1 r1 s1 e => ?_⟩
  obtain ⟨xs, h2, h3⟩ := Mo.hlft (Mo.hbnd h1)
  unfold rngO at h2
  split at h2
  · rename_i hb
    cases h2
    have e' : v = V.int n := e
    subst e'
    refine ⟨n, rfl, hb.2.2.1, hb.2.2.2.1, ?_⟩
    have hn : (n - 0).toNat = n.toNat := by rw [Int.sub_zero]
    refine q _ _ H' h3 r1 s1 (by rw [rng_len]; have := hb.2.2.2.2; unfold sizeLine; omega) ?_
    rw [← hn]
    exact itr_of
  · cases h2
/-- range(lo, hi) -/
theorem di_rng2 {tg : Expr} {p : Pos} {m1 : μ β} {m2 : Int → μ β} {k : List Int → μ β} (hm : X.mg "range" = none) (hb : ∀ lo, DE X b δ (m2 lo) (vl PyData.int) fun n => Mo.bnd (Mo.lft (rngO lo n)) k) (ha : DE X a δ m1 (vl PyData.int) m2) (hg : Gl X "range" := by rfl)
    (hs : starEach [a, b] X.env = [(false, eval a X.env), (false, eval b X.env)] := by rfl) (hs2 : starEach [b] X.env = [(false, eval b X.env)] := by rfl) : DI X tg (.Call (.Name "range" p) [a, b] [] pos) δ m1 PyData.int k := fun Qb => by
  have hA : DA X [a, b] δ m1 (eCons (vl PyData.int) (eCons (vl PyData.int) eNil)) fun y => Mo.bnd (Mo.lft (rngO y.1 y.2.1)) k := da_cons (fun x => da_cons (fun y => da_nil) (hb x) hs2) ha (hs.trans (by rw [hs2]))
  refine pi_weak (pi_range2 hg hm (hA Qb) hs hs2) fun σ H Rr ⟨c, M, r, h, q⟩ => ⟨c, M, r, h, fun y vs H' h1 r1 s1 e => ?_⟩
  obtain ⟨xs, h2, h3⟩ := Mo.hlft (Mo.hbnd h1)
  obtain ⟨v1, t1, e1, z1, v2, t2, e2, z2, e3⟩ := e
  cases (show _ = _ from e3); subst e2; subst e1
  cases (show v1 = V.int y.1 from z1)
  cases (show v2 = V.int y.2.1 from z2)
  unfold rngO at h2
  split at h2
  · rename_i hb
    cases h2
    refine ⟨y.1, y.2.1, rfl, ⟨hb.1, hb.2.1, hb.2.2.1, hb.2.2.2.1⟩, q _ _ H' h3 r1 s1 (by rw [rng_len]; have := hb.2.2.2.2; unfold sizeLine; omega) itr_of⟩
  · cases h2

/-! ### for -/
def fold (f : γ → α → μ γ) : List α → γ → μ γ
  | [], s => Mo.pur s
  | x :: xs, s => Mo.bnd (f s x) fun s' => fold f xs s'
def forE (f : γ → α → μ (γ ⊕ ρ)) : List α → γ → μ (γ ⊕ ρ)
  | [], s => Mo.pur (.inl s)
  | x :: xs, s => Mo.bnd (f s x) (sel (fun s' => forE f xs s') fun r => Mo.pur (.inr r))
theorem get_drop {l : List α} {i : Nat} {x : α} {r : List α} (h : l.drop i = x :: r) : l[i]? = some x ∧ l.drop (i + 1) = r := by
  have h1 : l[i]? = some x := by
    have := congrArg (fun l => l[0]?) h
    simpa using this
  refine ⟨h1, ?_⟩
  have : l.drop (i + 1) = (l.drop i).drop 1 := by rw [List.drop_drop]
  rw [this, h]; rfl
/-- one turn's end -/
theorem d1_forE {tg it : Expr} {body : List Stmt} {f : α → PyData} {up : En → α → En} {vs : List Nat} {g : TG} {G : γ → En} {enc : ρ → R} {step : γ → α → μ (γ ⊕ ρ)} {mm : μ (γ ⊕ ρ)} (s0 : γ) (hc : X.calm = true) (hp : PassesOwn (model X.prog X.w) X.A X.env X.xe)
    (hG : Le (G s0) δ) (hdg : DG X.K f up vs g) (hpg : PG X tg g) (hb : ∀ s x, DS X body (up (G s) x) (step s x) (nxrt G enc)) (hi : DI X tg it (G s0) mm f fun xs => forE step xs s0)
    (hs : ∀ x, foldedSetIterable it X.env x = pure x := by intro _; rfl) : D1 X (.For tg it body [] pos) δ mm (nxrt G enc) := fun Qb => by
  have hb' : PSs X body fun D σ H => ∃ s x, ∃ Q2 : _ → Prop, ∃ c M, RE X.K c M σ H (up (G s) x) ∧ Mo.holds (step s x) Q2 ∧ ∀ b, Q2 b → ER X.K c D (nxrt G enc b) := ⟨fun pins s σ H D I ⟨s', x, Q2, q⟩ => (hb s' x Q2).run pins s σ H D I q⟩
  refine ps_weak (ps_for hp hc (hi Qb) hpg hb' hs) fun D σ H ⟨c, M, r, h, q⟩ => ⟨c, M, r.le hG, h, fun xs J H1 h1 r1 s1 hz it => ?_⟩
  have rc := r1.enter
  refine ⟨fun i m σ2 H2 => ∃ s M2, RE X.K (c.at M σ H1 (G s0)) M2 σ2 H2 (G s) ∧ Mo.holds (forE step (xs.drop i) s) Qb ∧ m = xs.length - i ∧ i ≤ xs.length, ⟨_, s0, M, rc, by simpa using h1, rfl, Nat.zero_le _⟩, ?_⟩
  rintro i m σ2 H2 ⟨s, M2, r2, h2, rfl, hi2⟩
  have stay := r2.stays
  obtain ⟨it1, it2⟩ := it i H2 stay
  cases ed : xs.drop i with
  | nil =>
    have hlen : xs.length ≤ i := by
      have := congrArg List.length ed
      rw [List.length_drop, List.length_nil] at this
      omega
    refine .inl ⟨it2 (List.getElem?_eq_none_iff.mpr hlen), ?_⟩
    rw [ed] at h2
    have q' := q (.inl s) (Mo.hpur h2)
    exact q' σ2 H2 M2 (r1.leave r2)
  | cons x xr =>
    obtain ⟨ex, er⟩ := get_drop ed
    obtain ⟨go, yld⟩ := it1 x ex
    rw [ed] at h2
    have hlt : i < xs.length := (List.getElem?_eq_some_iff.mp ex).1
    refine .inr ⟨go, fun σ' H' => ∃ s' M', RE X.K (c.at M σ H1 (G s0)) M' σ' H' (G s') ∧ Mo.holds (forE step (xs.drop (i + 1)) s') Qb, fun σ' H' ⟨s', M', r', h'⟩ => ⟨_, (by omega : xs.length - (i + 1) < xs.length - i), s', M', r', h', rfl, hlt⟩, fun v H3 y => ?_⟩
    obtain ⟨e3, hv⟩ := yld v H3 y
    subst e3
    have hv' : Rp X.K H3 M2 (f x) v := Rp.mono (fun a o e n => stay a o e fun z => by
      obtain ⟨zM, ws, ze⟩ := r1.exM z
      rw [e] at ze; cases ze
      exact absurd (n zM) (by simp [isLst])) (fun a q => by
        rcases r2.mf a q with z | z
        · exact .inl z
        · rcases at_none z with z | z
          · exact .inl (r1.own_none z).2.1
          · exact .inr z) _ _ hv
    refine hdg.run _ M2 σ2 H3 (G s) x v _ r2 hv' fun σ3 r3 _ _ => ?_
    refine ⟨s, x, _, _, M2, r3, Mo.hbnd h2, fun o ho => ?_⟩
    cases o with
    | inl s' => exact fun σ' H' M' r' => ⟨s', M', r', by rw [er]; exact ho⟩
    | inr rr =>
      have q' := q (.inr rr) (Mo.hpur ho)
      refine fun v' H' ⟨t1, t2, t3⟩ => q' v' H' ⟨fun a o e n => ?_, fun a y => t2 a (.inr y), ?_⟩
      · have e1 := r1.ext a o e n
        have no : ¬ IsOwn σ (G s0) a := fun q => by have := (r1.own_none q).1; rw [e] at this; cases this
        refine t1 a o (by rw [at_not no]; exact e1) fun y => ?_
        rcases y with y | y
        · rcases (r1.dr y).2.2 with z | z
          · exact n z
          · rw [e] at z; cases z
        · exact n y
      · have none_c : ∀ {p}, (c.at M σ H1 (G s0)).He p = none → c.He p = none := fun {p} h => by
          rcases at_none h with q | q
          · exact (r1.own_none q).1
          · exact r1.he_none q
        revert t3
        cases enc rr with
        | val d => exact fun t3 => Rp.anti t3 r1.m0
        | own ys => exact fun ⟨p, ws, e, hn, hq, hr, hz⟩ => ⟨p, ws, e, none_c hn, hq, hr.anti fun a q => (List.mem_cons.mp q).elim (fun z => z ▸ List.mem_cons_self) fun z => List.mem_cons_of_mem _ (r1.m0 a z), hz⟩
        | dr => exact fun ⟨p, e, hn, hq⟩ => ⟨p, e, none_c hn, hq⟩
        | bor _ => exact fun t3 => t3
        | drb => exact fun t3 => t3
/-- a loop that returns nothing -/
theorem d1_for {tg it : Expr} {body : List Stmt} {f : α → PyData} {up : En → α → En} {vs : List Nat} {g : TG} {G : γ → En} {step : γ → α → μ γ} {mm : μ γ} (s0 : γ) (hc : X.calm = true) (hp : PassesOwn (model X.prog X.w) X.A X.env X.xe)
    (hG : Le (G s0) δ) (hdg : DG X.K f up vs g) (hpg : PG X tg g) (hb : ∀ s x, DS X body (up (G s) x) (step s x) fun s' => .nx (G s')) (hi : DI X tg it (G s0) mm f fun xs => fold step xs s0)
    (hs : ∀ x, foldedSetIterable it X.env x = pure x := by intro _; rfl) : D1 X (.For tg it body [] pos) δ mm fun s => .nx (G s) := fun Qb => by
  have hb' : PSs X body fun D σ H => ∃ s x, ∃ Q2 : _ → Prop, ∃ c M, RE X.K c M σ H (up (G s) x) ∧ Mo.holds (step s x) Q2 ∧ ∀ b, Q2 b → ER X.K c D (.nx (G b)) := ⟨fun pins s σ H D I ⟨s', x, Q2, q⟩ => (hb s' x Q2).run pins s σ H D I q⟩
  refine ps_weak (ps_for hp hc (hi Qb) hpg hb' hs) fun D σ H ⟨c, M, r, h, q⟩ => ⟨c, M, r.le hG, h, fun xs J H1 h1 r1 s1 hz it => ?_⟩
  have rc := r1.enter
  refine ⟨fun i m σ2 H2 => ∃ s M2, RE X.K (c.at M σ H1 (G s0)) M2 σ2 H2 (G s) ∧ Mo.holds (fold step (xs.drop i) s) Qb ∧ m = xs.length - i ∧ i ≤ xs.length, ⟨_, s0, M, rc, by simpa using h1, rfl, Nat.zero_le _⟩, ?_⟩
  rintro i m σ2 H2 ⟨s, M2, r2, h2, rfl, hi2⟩
  have stay := r2.stays
  obtain ⟨it1, it2⟩ := it i H2 stay
  cases ed : xs.drop i with
  | nil =>
    have hlen : xs.length ≤ i := by
      have := congrArg List.length ed
      rw [List.length_drop, List.length_nil] at this
      omega
    refine .inl ⟨it2 (List.getElem?_eq_none_iff.mpr hlen), ?_⟩
    rw [ed] at h2
    exact q s (Mo.hpur h2) σ2 H2 M2 (r1.leave r2)
  | cons x xr =>
    obtain ⟨ex, er⟩ := get_drop ed
    obtain ⟨go, yld⟩ := it1 x ex
    rw [ed] at h2
    have hlt : i < xs.length := (List.getElem?_eq_some_iff.mp ex).1
    refine .inr ⟨go, fun σ' H' => ∃ s' M', RE X.K (c.at M σ H1 (G s0)) M' σ' H' (G s') ∧ Mo.holds (fold step (xs.drop (i + 1)) s') Qb, fun σ' H' ⟨s', M', r', h'⟩ => ⟨_, (by omega : xs.length - (i + 1) < xs.length - i), s', M', r', h', rfl, hlt⟩, fun v H3 y => ?_⟩
    obtain ⟨e3, hv⟩ := yld v H3 y
    subst e3
    have hv' : Rp X.K H3 M2 (f x) v := Rp.mono (fun a o e n => stay a o e fun z => by
      obtain ⟨zM, ws, ze⟩ := r1.exM z
      rw [e] at ze; cases ze
      exact absurd (n zM) (by simp [isLst])) (fun a q => by
        rcases r2.mf a q with z | z
        · exact .inl z
        · rcases at_none z with z | z
          · exact .inl (r1.own_none z).2.1
          · exact .inr z) _ _ hv
    refine hdg.run _ M2 σ2 H3 (G s) x v _ r2 hv' fun σ3 r3 _ _ => ?_
    exact ⟨s, x, _, _, M2, r3, Mo.hbnd h2, fun s' ho σ' H' M' r' => ⟨s', M', r', by rw [er]; exact ho⟩⟩
/-- while -/
def whileM (n : Nat) (c : γ → μ Bool) (f : γ → μ γ) (s : γ) : μ γ := match n with
  | 0 => Mo.lft none
  | n + 1 => Mo.bnd (c s) fun b => if b = true then Mo.bnd (f s) (whileM n c f) else Mo.pur s
theorem d1_while {cnd : Expr} {body : List Stmt} {G : γ → En} {n : Nat} {c : γ → μ Bool} {f : γ → μ γ} (s0 : γ) (hp : PassesOwn (model X.prog X.w) X.A X.env X.xe) (hG : Le (G s0) δ) (hc : ∀ s, DT X cnd (G s) (c s) Mo.pur) (hb : ∀ s, DS X body (G s) (f s) fun s' => .nx (G s')) :
    D1 X (.While cnd body [] pos) δ (whileM n c f s0) fun s => .nx (G s) := fun Qb => by
  have hb' : PSs X body fun D σ H => ∃ s, ∃ Q2 : _ → Prop, ∃ c M, RE X.K c M σ H (G s) ∧ Mo.holds (f s) Q2 ∧ ∀ b, Q2 b → ER X.K c D (.nx (G b)) := ⟨fun pins s σ H D I ⟨s', Q2, q⟩ => (hb s' Q2).run pins s σ H D I q⟩
  have hc' : PT X cnd fun σ H Q => ∃ s, ∃ Q2 : _ → Prop, ∃ cx M, RE X.K cx M σ H (G s) ∧ Mo.holds (c s) Q2 ∧ ∀ b H', Mo.holds (Mo.pur b : μ Bool) Q2 → RE X.K cx M σ H' (G s) → Sx σ (G s) H H' → Q b H' := ⟨fun pins s σ H Q I ⟨s', Q2, q⟩ => (hc s' Q2).run pins s σ H Q I q⟩
  refine ps_weak (ps_while hp hc' hb') fun D σ H ⟨cx, M, r, h, q⟩ => ?_
  refine ⟨fun m σ2 H2 => ∃ s M2, RE X.K cx M2 σ2 H2 (G s) ∧ Mo.holds (whileM m c f s) Qb, ⟨n, s0, M, r.le hG, h⟩, ?_⟩
  rintro m σ2 H2 ⟨s, M2, r2, h2⟩
  cases m with
  | zero =>
    unfold whileM at h2
    obtain ⟨_, e, _⟩ := Mo.hlft h2
    cases e
  | succ m =>
    unfold whileM at h2
    refine ⟨s, _, cx, M2, r2, Mo.hbnd h2, fun b H3 h3 r3 s3 => ?_⟩
    have h4 := DL.hp h3
    cases b with
    | true => exact ⟨fun σ' H' => ∃ s' M', RE X.K cx M' σ' H' (G s') ∧ Mo.holds (whileM m c f s') Qb, fun σ' H' ⟨s', M', z⟩ => ⟨m, Nat.lt_succ_self m, s', M', z⟩, s, _, cx, M2, r3, Mo.hbnd h4, fun s' ho σ' H' M' r' => ⟨s', M', r', ho⟩⟩
    | false => exact q s (Mo.hpur h4) σ2 H3 M2 r3
end
end DL

/-! DL5: comprehensions, calls of defs, displays -/
namespace DL
open PySem PySem.Spec L2

/-! ### a list that no slot owns -/
section
variable {K : PySem.W.Frag} {c : Ctx} {M M' : List Addr} {σ σ' : St} {H H' H2 : Hp} {δ δ' : En} {D : Addr} {vs ws : List V}
theorem RE.newM (r : RE K c M σ H δ) (hn : H D = none) : RE K c (D :: M) σ (upd H D (.lst vs)) δ := by
  have st : ∀ a u, H a = some u → upd H D (.lst vs) a = some u := fun a u e => by rw [upd_ne (ne_of_none e hn)]; exact e
  have sm : Sm M H (upd H D (.lst vs)) := fun a u e _ => st a u e
  have mo : ∀ a ∈ D :: M, a ∈ M ∨ H a = none := fun a q => (List.mem_cons.mp q).elim (fun z => .inr (z ▸ hn)) .inl
  refine ⟨r.len, fun i q e => ?_, r.sep, fun a o e n => st _ _ (r.ext a o e n), fun a q => List.mem_cons_of_mem _ (r.m0 a q), fun a q => ?_, fun a q => ?_, fun a y => ?_⟩
  · obtain ⟨v, e1, h⟩ := r.slot i q e
    refine ⟨v, e1, ?_⟩
    cases q with
    | val d => exact Rp.mono sm mo d v h
    | own xs =>
      obtain ⟨p', ws, e2, h1, h2, h3, h4, h5⟩ := h
      exact ⟨p', ws, e2, List.mem_cons_of_mem _ h1, st _ _ h2, Rps.mono sm mo xs ws h3, h4, h5⟩
    | dr =>
      obtain ⟨p', e2, h1, ⟨ns, h2, h3⟩, h4⟩ := h
      exact ⟨p', e2, List.mem_cons_of_mem _ h1, ⟨ns, st _ _ h2, h3⟩, h4⟩
    | bor xs =>
      obtain ⟨p', ws, e2, h1, h2, h3, h4, h5⟩ := h
      exact ⟨p', ws, e2, List.mem_cons_of_mem _ h1, st _ _ h2, Rps.mono sm mo xs ws h3, h4, h5⟩
    | drb => exact h
  · rcases List.mem_cons.mp q with rfl | q
    · exact ⟨_, upd_same⟩
    · obtain ⟨u, e⟩ := r.mt a q
      exact ⟨u, st _ _ e⟩
  · rcases List.mem_cons.mp q with rfl | q
    · exact .inr (r.he_none hn)
    · exact r.mf a q
  · obtain ⟨⟨ns, h2, h3⟩, h4, h5⟩ := r.hy a y
    exact ⟨⟨ns, st _ _ h2, h3⟩, h4, List.mem_cons_of_mem _ h5⟩
theorem RE.mut (r : RE K c M σ H δ) (hM : D ∈ M) (hD : H D = some (.lst vs)) (hs : ∀ (i : Nat) (q : R), δ[i]? = some (some q) → q.isMut = true → σ[i]? ≠ some (some (V.ref D))) (he : c.He D = none) (hy : ¬ c.Y D) : RE K c M σ (upd H D (.lst ws)) δ := by
  have ne : ∀ a, a ≠ D → upd H D (.lst ws) a = H a := fun a q => upd_ne q
  have sm : Sm M H (upd H D (.lst ws)) := fun a u e n => by
    by_cases q : a = D
    · subst q
      rw [hD] at e; cases e
      exact absurd (n hM) (by simp [isLst])
    · rw [ne a q]; exact e
  have mo : ∀ a ∈ M, a ∈ M ∨ H a = none := fun a q => .inl q
  refine ⟨r.len, fun i q e => ?_, r.sep, fun a o e n => ?_, r.m0, fun a q => ?_, r.mf, fun a y => ?_⟩
  · obtain ⟨v, e1, h⟩ := r.slot i q e
    refine ⟨v, e1, ?_⟩
    have nd := hs i q e
    rw [e1] at nd
    cases q with
    | val d => exact Rp.mono sm mo d v h
    | own xs =>
      obtain ⟨p', ws, e2, h1, h2, h3, h4, h5⟩ := h
      subst e2
      exact ⟨p', ws, rfl, h1, by rw [ne p' fun z => nd rfl (by rw [z])]; exact h2, Rps.mono sm mo xs ws h3, h4, h5⟩
    | dr =>
      obtain ⟨p', e2, h1, ⟨ns, h2, h3⟩, h4⟩ := h
      subst e2
      exact ⟨p', rfl, h1, ⟨ns, by rw [ne p' fun z => nd rfl (by rw [z])]; exact h2, h3⟩, h4⟩
    | bor xs =>
      obtain ⟨p', ws, e2, h1, h2, h3, h4, h5⟩ := h
      subst e2
      exact ⟨p', ws, rfl, h1, by rw [ne p' fun z => nd rfl (by rw [z])]; exact h2, Rps.mono sm mo xs ws h3, h4, h5⟩
    | drb => exact h
  · have e1 := r.ext a o e n
    rw [ne a fun z => by subst z; rw [he] at e; cases e]
    exact e1
  · by_cases z : a = D
    · subst z; exact ⟨_, upd_same⟩
    · rw [ne a z]; exact r.mt a q
  · obtain ⟨⟨ns, h2, h3⟩, h4, h5⟩ := r.hy a y
    exact ⟨⟨ns, by rw [ne a fun z => hy (z ▸ y)]; exact h2, h3⟩, h4, h5⟩
theorem RE.dropM (r : RE K c M σ H δ) (r2 : RE K c (D :: M) σ H2 δ) : RE K c M σ H2 δ := by
  have an : ∀ a ∈ M, a ∈ D :: M := fun a q => List.mem_cons_of_mem _ q
  refine ⟨r.len, fun i q e => ?_, r.sep, r2.ext, r.m0, fun a q => r2.mt a (an a q), r.mf, fun a y => ⟨(r2.hy a y).1, (r2.hy a y).2.1, (r.hy a y).2.2⟩⟩
  obtain ⟨v, e1, h⟩ := r2.slot i q e
  obtain ⟨v', e1', h'⟩ := r.slot i q e
  rw [e1] at e1'; cases e1'
  refine ⟨v, e1, ?_⟩
  cases q with
  | val d => exact Rp.anti h an
  | own xs =>
    obtain ⟨p', ws, e2, h1, h2, h3, h4, h5⟩ := h
    obtain ⟨p2, _, e3, k1, _⟩ := h'
    subst e2; cases e3
    exact ⟨p', ws, rfl, k1, h2, h3.anti an, h4, h5⟩
  | dr =>
    obtain ⟨p', e2, h1, h2, h4⟩ := h
    obtain ⟨p2, e3, k1, _⟩ := h'
    subst e2; cases e3
    exact ⟨p', rfl, k1, h2, h4⟩
  | bor xs =>
    obtain ⟨p', ws, e2, h1, h2, h3, h4, h5⟩ := h
    obtain ⟨p2, _, e3, k1, _⟩ := h'
    subst e2; cases e3
    exact ⟨p', ws, rfl, k1, h2, h3.anti an, h4, h5⟩
  | drb => exact h
/-- a new address is no slot's -/
theorem RE.noslot (r : RE K c M σ H δ) (hn : H D = none) (i : Nat) (q : R) (e : δ[i]? = some (some q)) (m : q.isMut = true) : σ[i]? ≠ some (some (V.ref D)) := fun z => by
  obtain ⟨v, e1, h⟩ := r.slot i q e
  rw [z] at e1; cases e1
  cases q with
  | own xs => obtain ⟨p', ws, e2, h1, h2, _⟩ := h; cases e2; rw [hn] at h2; cases h2
  | dr => obtain ⟨p', e2, h1, ⟨ns, h2, _⟩, _⟩ := h; cases e2; rw [hn] at h2; cases h2
  | bor xs => obtain ⟨p', ws, e2, h1, h2, _⟩ := h; cases e2; rw [hn] at h2; cases h2
  | val d => cases m
  | drb => cases m
end

section
variable {μ : Type → Type} [Mo μ] {α β γ ρ ε : Type} {X : Cx} {δ : En} {pos : Pos} {e a b : Expr} {st : Stmt} {sts rest : List Stmt}
/-! ### comprehensions -/
def mapMo (g : α → μ γ) : List α → μ (List γ)
  | [] => Mo.pur []
  | x :: xs => Mo.bnd (g x) fun y => Mo.bnd (mapMo g xs) fun ys => Mo.pur (y :: ys)
def mapFM (c : α → μ Bool) (g : α → μ γ) : List α → μ (List γ)
  | [] => Mo.pur []
  | x :: xs => Mo.bnd (c x) fun b => if b = true then Mo.bnd (g x) fun y => Mo.bnd (mapFM c g xs) fun ys => Mo.pur (y :: ys) else mapFM c g xs
def valR : R → Option PyData
  | .val d => some d
  | _ => none
/-- a comprehension's parts, and a reading that is enough for them -/
def LcOk (X : Cx) (elt tg iter : Expr) (ifs : List Expr) (scope : Scope) (own : List (Str × Nat)) (g : TG) (t' : TE) : Prop := ∃ (wi : TI) (tt : TT) (te : TE), PI X tg iter wi ∧
  (∀ (s : Shared) (H : Hp) (C : Addr) (cl : List (Str × Addr)) (fp : List Addr), PTs (X.blk s H scope (compEnvC scope cl C X.env) fp) ifs tt) ∧
  (∀ (s : Shared) (H : Hp) (C : Addr) (cl : List (Str × Addr)) (fp : List Addr), PE (X.blk s H scope (compEnvC scope cl C X.env) fp) elt te) ∧ ∀ σ H Q, t' σ H Q → tLc wi g tt te (own.map (·.2)) σ H Q
/-- the loop: rem, what is left to do behind the first items -/
theorem lc_go {elt tg iter : Expr} {ifs : List Expr} {scope : Scope} {own : List (Str × Nat)} {f : α → PyData} {fy : γ → PyData} {up : En → α → En} {g : TG} {mm : μ β} {k : List γ → μ β} (Qb : β → Prop) (rem : List α → List γ → μ β)
    (hi : DIc X tg iter δ mm f fun xs => rem xs []) (hend : ∀ acc, Mo.holds (rem [] acc) Qb → Mo.holds (k acc) Qb) (hdg : DG X.K f up (own.map (·.2)) g)
    (tt : α → List α → List γ → Bool → Prop) (te : α → List α → List γ → γ → Prop)
    (h1 : ∀ x xs acc, Mo.holds (rem (x :: xs) acc) Qb → ∀ (s : Shared) (H : Hp) (C : Addr) (cl : List (Str × Addr)) (fp : List Addr), PTs (X.blk s H scope (compEnvC scope cl C X.env) fp) ifs fun σ H Q => ∃ c M, RE X.K c M σ H (up (wipeE δ (own.map (·.2))) x) ∧
      ∀ b H', tt x xs acc b → RE X.K c M σ H' (up (wipeE δ (own.map (·.2))) x) → Sx σ (up (wipeE δ (own.map (·.2))) x) H H' → Q b H')
    (h2 : ∀ x xs acc, tt x xs acc true → ∀ (s : Shared) (H : Hp) (C : Addr) (cl : List (Str × Addr)) (fp : List Addr), PE (X.blk s H scope (compEnvC scope cl C X.env) fp) elt fun σ H Q => ∃ c M, RE X.K c M σ H (up (wipeE δ (own.map (·.2))) x) ∧
      ∀ y v H', te x xs acc y → RE X.K c M σ H' (up (wipeE δ (own.map (·.2))) x) → Sx σ (up (wipeE δ (own.map (·.2))) x) H H' → RR X.K M σ (up (wipeE δ (own.map (·.2))) x) H H' v (vl fy y) → Q v H')
    (h3 : ∀ x xs acc, tt x xs acc false → Mo.holds (rem xs acc) Qb) (h4 : ∀ x xs acc y, te x xs acc y → Mo.holds (rem xs (acc ++ [y])) Qb) :
    LcOk X elt tg iter ifs scope own g fun σ H Q => ∃ c M, RE X.K c M σ H δ ∧ Mo.holds mm Qb ∧
      ∀ a v H', Mo.holds (k a) Qb → RE X.K c M σ H' δ → Sx σ δ H H' → RR X.K M σ δ H H' v (ow fy a) → Q v H' := by
  have ht' : ∀ (s : Shared) (H : Hp) (C : Addr) (cl : List (Str × Addr)) (fp : List Addr), PTs (X.blk s H scope (compEnvC scope cl C X.env) fp) ifs fun σ H Q => ∃ x xs acc, Mo.holds (rem (x :: xs) acc) Qb ∧ ∃ c M, RE X.K c M σ H (up (wipeE δ (own.map (·.2))) x) ∧
      ∀ b H', tt x xs acc b → RE X.K c M σ H' (up (wipeE δ (own.map (·.2))) x) → Sx σ (up (wipeE δ (own.map (·.2))) x) H H' → Q b H' := fun s H C cl fp => ⟨fun pins s' σ H Q I ⟨x, xs, acc, hm, q⟩ => (h1 x xs acc hm s _ C cl fp).run pins s' σ H Q I q⟩
  have he' : ∀ (s : Shared) (H : Hp) (C : Addr) (cl : List (Str × Addr)) (fp : List Addr), PE (X.blk s H scope (compEnvC scope cl C X.env) fp) elt fun σ H Q => ∃ x xs acc, tt x xs acc true ∧ ∃ c M, RE X.K c M σ H (up (wipeE δ (own.map (·.2))) x) ∧
      ∀ y v H', te x xs acc y → RE X.K c M σ H' (up (wipeE δ (own.map (·.2))) x) → Sx σ (up (wipeE δ (own.map (·.2))) x) H H' → RR X.K M σ (up (wipeE δ (own.map (·.2))) x) H H' v (vl fy y) → Q v H' := fun s H C cl fp => ⟨fun pins s' σ H Q I ⟨x, xs, acc, hm, q⟩ => (h2 x xs acc hm s _ C cl fp).run pins s' σ H Q I q⟩
  refine ⟨_, _, _, hi Qb, ht', he', fun σ H Q ⟨c, M, r, hm, q⟩ => ⟨c, M, r, hm, fun xs J H1 q1 r1 s1 hz it D hD => ?_⟩⟩
  have rn := r1.newM (vs := []) hD
  have nI : ¬ IsI σ δ D := r1.notI hD
  have sxn : Sx σ δ H1 (upd H1 D (.lst [])) := Sx.new hD
  have heD := r1.he_none hD
  have hyD : ¬ c.Y D := fun y => by
    obtain ⟨⟨ns, z, _⟩, _⟩ := r1.hy D y
    rw [hD] at z; cases z
  -- the invariant
  refine ⟨fun i m H2 => ∃ acc vs, RE X.K c (D :: M) σ H2 δ ∧ (∀ a o, H1 a = some o → ¬ IsI σ δ a → H2 a = some o) ∧ H2 D = some (.lst vs) ∧ Rps X.K H2 (D :: M) (acc.map fy) vs ∧ acc.length ≤ i ∧ Mo.holds (rem (xs.drop i) acc) Qb ∧ m = xs.length - i ∧ i ≤ xs.length,
    ⟨_, [], [], rn, fun a o e n => sxn a o e n, upd_same, (by simp [Rps]), Nat.le_refl _, by simpa using q1, rfl, Nat.zero_le _⟩, ?_⟩
  rintro i m H2 ⟨acc, vs, r2, st2, hD2, hr2, hl2, hm2, rfl, hi2⟩
  obtain ⟨it1, it2⟩ := it i H2 st2
  cases ed : xs.drop i with
  | nil =>
    have hlen : xs.length ≤ i := by
      have := congrArg List.length ed
      rw [List.length_drop, List.length_nil] at this
      omega
    rw [ed] at hm2
    refine .inl ⟨it2 (List.getElem?_eq_none_iff.mpr hlen), q acc _ H2 (hend acc hm2) (r1.dropM r2) (s1.trans r st2) ⟨D, vs, rfl, r1.fresh s1 hD, hD2, hr2, ?_⟩⟩
    rw [List.length_map]
    exact Nat.le_trans (Nat.le_trans hl2 hi2) hz
  | cons x xr =>
    obtain ⟨ex, er⟩ := get_drop ed
    obtain ⟨go, yld⟩ := it1 x ex
    rw [ed] at hm2
    have hlt : i < xs.length := (List.getElem?_eq_some_iff.mp ex).1
    refine .inr ⟨go, fun H' => ∃ acc vs, RE X.K c (D :: M) σ H' δ ∧ (∀ a o, H1 a = some o → ¬ IsI σ δ a → H' a = some o) ∧ H' D = some (.lst vs) ∧ Rps X.K H' (D :: M) (acc.map fy) vs ∧ acc.length ≤ i + 1 ∧ Mo.holds (rem (xs.drop (i + 1)) acc) Qb, fun H' ⟨acc, vs, z1, z2, z3, z4, z5, z6⟩ => ⟨_, (by omega : xs.length - (i + 1) < xs.length - i), acc, vs, z1, z2, z3, z4, z5, z6, rfl, hlt⟩, fun v H3 y => ?_⟩
    obtain ⟨e3, hv⟩ := yld v H3 y
    subst e3
    have hv' : Rp X.K H3 (D :: M) (f x) v := Rp.mono (fun a o e n => st2 a o e fun z => by
      obtain ⟨h1, ⟨ns, h2, _⟩, _⟩ := r1.dr z
      rw [e] at h2; cases h2
      exact absurd (n h1) (by simp [isLst])) (fun a q => (List.mem_cons.mp q).elim (fun z => .inr (z ▸ hD)) .inl) _ _ hv
    have rw' := r2.wipe (own.map (·.2))
    refine hdg.run c (D :: M) _ H3 _ x v _ rw' hv' fun σ3 r3 w3 i3 => ?_
    have nI3 : ∀ {a}, IsI σ3 (up (wipeE δ (own.map (·.2))) x) a → IsI σ δ a := fun h => wipeE_dr (i3 _ h)
    refine ⟨w3 σ rfl, x, xr, acc, hm2, c, D :: M, r3, fun b H4 hb r4 s4 => ?_⟩
    -- back to the def's own slots
    have back : ∀ {H5 : Hp}, RE X.K c (D :: M) σ3 H5 (up (wipeE δ (own.map (·.2))) x) → Sx σ3 (up (wipeE δ (own.map (·.2))) x) H3 H5 → RE X.K c (D :: M) σ H5 δ ∧ Sx σ δ H3 H5 := fun {H5} r5 s5 => by
      have s5' : Sx σ δ H3 H5 := fun a o e n => s5 a o e fun z => n (nI3 z)
      refine ⟨⟨r2.len, fun j q e => ?_, r2.sep, r5.ext, r2.m0, r5.mt, r2.mf, fun a y => r5.hy a y⟩, s5'⟩
      obtain ⟨w, e1, h⟩ := r2.slot j q e
      refine ⟨w, e1, ?_⟩
      cases q with
      | val d => exact Rp.mono (r2.sm s5') (fun a q => .inl q) _ _ h
      | own ys =>
        obtain ⟨p, ws, z1, z2, z3, z4, z5, z6⟩ := h
        exact ⟨p, ws, z1, z2, s5' p _ z3 fun ⟨jj, u1, u2⟩ => r2.sep j jj _ _ p (fun z => by subst z; rw [e] at u1; cases u1) e rfl u1 rfl (by rw [e1, z1]) u2, Rps.mono (r2.sm s5') (fun a q => .inl q) _ _ z4, z5, z6⟩
      | dr =>
        obtain ⟨p, z1, z2, z3, z4⟩ := h
        refine ⟨p, z1, z2, ?_, z4⟩
        by_cases hI : IsI σ3 (up (wipeE δ (own.map (·.2))) x) p
        · exact (r5.dr hI).2.1
        · obtain ⟨ns, z5, z6⟩ := z3
          exact ⟨ns, s5 p _ z5 hI, z6⟩
      | bor ys =>
        obtain ⟨p, ws, z1, z2, z3, z4, z5, z6⟩ := h
        exact ⟨p, ws, z1, z2, s5' p _ z3 fun ⟨jj, u1, u2⟩ => r2.sep j jj _ _ p (fun z => by subst z; rw [e] at u1; cases u1) e rfl u1 rfl (by rw [e1, z1]) u2, Rps.mono (r2.sm s5') (fun a q => .inl q) _ _ z4, z5, z6⟩
      | drb => exact h
    have nID3 : ¬ IsI σ3 (up (wipeE δ (own.map (·.2))) x) D := fun z => nI (nI3 z)
    cases b with
    | false =>
      obtain ⟨r4', s4'⟩ := back r4 s4
      exact ⟨acc, vs, r4', fun a o e n => s4' a o (st2 a o e n) n, s4 D _ hD2 nID3, Rps.mono (r2.sm s4') (fun a q => .inl q) _ _ hr2, by omega, by rw [er]; exact h3 x xr acc hb⟩
    | true =>
      refine ⟨x, xr, acc, hb, c, D :: M, r4, fun yv v5 H5 hy r5 s5 hv5 => ?_⟩
      have s35 := s4.trans r3 s5
      obtain ⟨r5', s5'⟩ := back r5 s35
      have hD5 : H5 D = some (.lst vs) := s5 D _ (s4 D _ hD2 nID3) nID3
      have hr5 : Rps X.K H5 (D :: M) (acc.map fy) vs := Rps.mono (r2.sm s5') (fun a q => .inl q) _ _ hr2
      have hl : vs.length = acc.length := by rw [hr5.length, List.length_map]
      have sm6 : Sm (D :: M) H5 (upd H5 D (.lst (vs ++ [v5]))) := fun a o e n => by
        by_cases ha : a = D
        · subst ha
          rw [hD5] at e; cases e
          exact absurd (n List.mem_cons_self) (by simp [isLst])
        · rw [upd_ne ha]; exact e
      refine ⟨vs, hD5, by rw [hl]; exact Nat.lt_of_lt_of_le (Nat.lt_of_le_of_lt hl2 hlt) hz, acc ++ [yv], vs ++ [v5], ?_, ?_, upd_same, ?_, by simp; omega, by rw [er]; exact h4 x xr acc yv hy⟩
      · exact r5'.mut List.mem_cons_self hD5 (fun j q e m => r1.noslot hD j q e m) heD hyD
      · intro a o e n
        have na : a ≠ D := fun z => by subst z; rw [hD] at e; cases e
        rw [upd_ne na]
        exact s5' a o (st2 a o e n) n
      · rw [List.map_append]
        exact (Rps.mono sm6 (fun a q => .inl q) _ _ hr5).append (.one (Rp.mono sm6 (fun a q => .inl q) _ _ hv5))
/-- a comprehension -/
def DC (X : Cx) (elt tg iter : Expr) (ifs : List Expr) (scope : Scope) (own : List (Str × Nat)) (g : TG) (δ : En) (mm : μ β) (fy : γ → PyData) (k : List γ → μ β) : Prop := ∀ Qb : β → Prop, LcOk X elt tg iter ifs scope own g fun σ H Q => ∃ c M, RE X.K c M σ H δ ∧ Mo.holds mm Qb ∧
      ∀ a v H', Mo.holds (k a) Qb → RE X.K c M σ H' δ → Sx σ δ H H' → RR X.K M σ δ H H' v (ow fy a) → Q v H'
theorem pts_weak {ifs : List Expr} {t t' : TT} (h : PTs X ifs t) (hh : ∀ σ H Q, t' σ H Q → t σ H Q) : PTs X ifs t' := ⟨fun pins s σ H Q I q => h.run pins s σ H Q I (hh σ H Q q)⟩
section
variable {elt tg iter cnd : Expr} {scope : Scope} {own : List (Str × Nat)} {f : α → PyData} {fy : γ → PyData} {up : En → α → En} {g : TG} {mm : μ β} {k : List γ → μ β}
theorem dc_P {h : α → γ} (hdg : DG X.K f up (own.map (·.2)) g)
    (he : ∀ x (s : Shared) (H : Hp) (C : Addr) (cl : List (Str × Addr)) (fp : List Addr) (k : γ → μ β), DE (X.blk s H scope (compEnvC scope cl C X.env) fp) elt (up (wipeE δ (own.map (·.2))) x) (k (h x)) (vl fy) k)
    (hi : DIc X tg iter δ mm f fun xs => k (xs.map h)) : DC X elt tg iter [] scope own g δ mm fy k := fun Qb =>
  lc_go Qb (fun xs acc => k (acc ++ xs.map h)) hi (fun acc q => by simpa using q) hdg (fun x xs acc b => b = true ∧ Mo.holds (k (acc ++ (x :: xs).map h)) Qb) (fun x xs acc y => Mo.holds (k (acc ++ [y] ++ xs.map h)) Qb)
    (fun x xs acc hm s H C cl fp => pts_weak pts_nil fun σ H Q ⟨c, M, r, q⟩ => q true H ⟨rfl, hm⟩ r Sx.refl)
    (fun x xs acc ⟨_, hm⟩ s H C cl fp => pe_weak (he x s H C cl fp (fun y => k (acc ++ [y] ++ xs.map h)) Qb) fun σ H Q ⟨c, M, r, q⟩ => ⟨c, M, r, by simpa using hm, q⟩)
    (fun x xs acc ⟨z, _⟩ => nomatch z) fun x xs acc y q => q
theorem dc_PF {h : α → γ} {p : α → Bool} (hdg : DG X.K f up (own.map (·.2)) g)
    (he : ∀ x (s : Shared) (H : Hp) (C : Addr) (cl : List (Str × Addr)) (fp : List Addr) (k : γ → μ β), DE (X.blk s H scope (compEnvC scope cl C X.env) fp) elt (up (wipeE δ (own.map (·.2))) x) (k (h x)) (vl fy) k)
    (hcn : ∀ x (s : Shared) (H : Hp) (C : Addr) (cl : List (Str × Addr)) (fp : List Addr) (k : Bool → μ β), DT (X.blk s H scope (compEnvC scope cl C X.env) fp) cnd (up (wipeE δ (own.map (·.2))) x) (k (p x)) k)
    (hi : DIc X tg iter δ mm f fun xs => k ((xs.filter p).map h)) : DC X elt tg iter [cnd] scope own g δ mm fy k := fun Qb =>
  lc_go Qb (fun xs acc => k (acc ++ (xs.filter p).map h)) hi (fun acc q => by simpa using q) hdg (fun x xs acc b => Mo.holds (if b = true then k (acc ++ [h x] ++ (xs.filter p).map h) else k (acc ++ (xs.filter p).map h)) Qb) (fun x xs acc y => Mo.holds (k (acc ++ [y] ++ (xs.filter p).map h)) Qb)
    (fun x xs acc hm s H C cl fp => pts_weak (pts_one (hcn x s H C cl fp (fun b => if b = true then k (acc ++ [h x] ++ (xs.filter p).map h) else k (acc ++ (xs.filter p).map h)) Qb)) fun σ H Q ⟨c, M, r, q⟩ => ⟨c, M, r, by
      revert hm
      by_cases hp : p x = true <;> simp [List.filter_cons, hp], q⟩)
    (fun x xs acc hm s H C cl fp => pe_weak (he x s H C cl fp (fun y => k (acc ++ [y] ++ (xs.filter p).map h)) Qb) fun σ H Q ⟨c, M, r, q⟩ => ⟨c, M, r, hm, q⟩)
    (fun x xs acc z => z) fun x xs acc y q => q
theorem dc_M {h : α → μ γ} (hdg : DG X.K f up (own.map (·.2)) g)
    (he : ∀ x (s : Shared) (H : Hp) (C : Addr) (cl : List (Str × Addr)) (fp : List Addr), DE (X.blk s H scope (compEnvC scope cl C X.env) fp) elt (up (wipeE δ (own.map (·.2))) x) (h x) (vl fy) Mo.pur)
    (hi : DIc X tg iter δ mm f fun xs => Mo.bnd (mapMo h xs) k) : DC X elt tg iter [] scope own g δ mm fy k := fun Qb =>
  lc_go Qb (fun xs acc => Mo.bnd (mapMo h xs) fun ys => k (acc ++ ys)) (by simpa using hi) (fun acc q => by simpa using DL.hp (Mo.hbnd q)) hdg (fun x xs acc b => b = true ∧ Mo.holds (Mo.bnd (mapMo h (x :: xs)) fun ys => k (acc ++ ys)) Qb) (fun x xs acc y => Mo.holds (Mo.pur y : μ γ) fun y => Mo.holds (Mo.bnd (mapMo h xs) fun ys => Mo.pur (y :: ys)) fun ys => Mo.holds (k (acc ++ ys)) Qb)
    (fun x xs acc hm s H C cl fp => pts_weak pts_nil fun σ H Q ⟨c, M, r, q⟩ => q true H ⟨rfl, hm⟩ r Sx.refl)
    (fun x xs acc ⟨_, hm⟩ s H C cl fp => pe_weak (he x s H C cl fp _) fun σ H Q ⟨c, M, r, q⟩ => ⟨c, M, r, Mo.hbnd (Mo.hbnd hm), q⟩)
    (fun x xs acc ⟨z, _⟩ => nomatch z) fun x xs acc y q => by
      have q0 := Mo.hpur (Q := fun y => Mo.holds (Mo.bnd (mapMo h xs) fun ys => Mo.pur (y :: ys)) fun ys => Mo.holds (k (acc ++ ys)) Qb) q
      have q1 := Mo.hbnd q0
      have q2 := Mo.hmono q1 (Q' := fun ys => Mo.holds (k (acc ++ [y] ++ ys)) Qb) fun ys z => by simpa using DL.hp (k := fun ys => k (acc ++ ys)) z
      exact Mo.hbnd' q2
theorem dc_MF {h : α → μ γ} {p : α → μ Bool} (hdg : DG X.K f up (own.map (·.2)) g)
    (he : ∀ x (s : Shared) (H : Hp) (C : Addr) (cl : List (Str × Addr)) (fp : List Addr), DE (X.blk s H scope (compEnvC scope cl C X.env) fp) elt (up (wipeE δ (own.map (·.2))) x) (h x) (vl fy) Mo.pur)
    (hcn : ∀ x (s : Shared) (H : Hp) (C : Addr) (cl : List (Str × Addr)) (fp : List Addr), DT (X.blk s H scope (compEnvC scope cl C X.env) fp) cnd (up (wipeE δ (own.map (·.2))) x) (p x) Mo.pur)
    (hi : DIc X tg iter δ mm f fun xs => Mo.bnd (mapFM p h xs) k) : DC X elt tg iter [cnd] scope own g δ mm fy k := fun Qb =>
  lc_go Qb (fun xs acc => Mo.bnd (mapFM p h xs) fun ys => k (acc ++ ys)) (by simpa using hi) (fun acc q => by simpa using DL.hp (Mo.hbnd q)) hdg (fun x xs acc b => Mo.holds (Mo.pur b : μ Bool) fun b => Mo.holds (if b = true then Mo.bnd (h x) fun y => Mo.bnd (mapFM p h xs) fun ys => Mo.pur (y :: ys) else mapFM p h xs) fun ys => Mo.holds (k (acc ++ ys)) Qb) (fun x xs acc y => Mo.holds (Mo.pur y : μ γ) fun y => Mo.holds (Mo.bnd (mapFM p h xs) fun ys => Mo.pur (y :: ys)) fun ys => Mo.holds (k (acc ++ ys)) Qb)
    (fun x xs acc hm s H C cl fp => pts_weak (pts_one (hcn x s H C cl fp _)) fun σ H Q ⟨c, M, r, q⟩ => ⟨c, M, r, Mo.hbnd (Mo.hbnd hm), q⟩)
    (fun x xs acc hm s H C cl fp => pe_weak (he x s H C cl fp _) fun σ H Q ⟨c, M, r, q⟩ => ⟨c, M, r, Mo.hbnd (Mo.hpur (Q := fun b => Mo.holds (if b = true then Mo.bnd (h x) fun y => Mo.bnd (mapFM p h xs) fun ys => Mo.pur (y :: ys) else mapFM p h xs) fun ys => Mo.holds (k (acc ++ ys)) Qb) hm), q⟩)
    (fun x xs acc z => Mo.hbnd' (Mo.hpur (Q := fun b => Mo.holds (if b = true then Mo.bnd (h x) fun y => Mo.bnd (mapFM p h xs) fun ys => Mo.pur (y :: ys) else mapFM p h xs) fun ys => Mo.holds (k (acc ++ ys)) Qb) z)) fun x xs acc y q => by
      have q0 := Mo.hpur (Q := fun y => Mo.holds (Mo.bnd (mapFM p h xs) fun ys => Mo.pur (y :: ys)) fun ys => Mo.holds (k (acc ++ ys)) Qb) q
      have q1 := Mo.hbnd q0
      have q2 := Mo.hmono q1 (Q' := fun ys => Mo.holds (k (acc ++ [y] ++ ys)) Qb) fun ys z => by simpa using DL.hp (k := fun ys => k (acc ++ ys)) z
      exact Mo.hbnd' q2
theorem de_lc {ifs : List Expr} (hc : X.calm = true) (hN : X.N.Nodup) (ok : blkC X.N X.env.scope scope own = true) (hg : ∀ (s : Shared) (H : Hp) (C : Addr) (cl : List (Str × Addr)) (fp : List Addr), PG (X.blk s H scope (compEnvC scope cl C X.env) fp) tg g)
    (h : DC X elt tg iter ifs scope own g δ mm fy k) (hs : ∀ x, foldedSetIterable iter X.env x = pure x := by intro _; rfl) : DE X (.ListComp elt [⟨tg, iter, ifs, 0⟩] scope pos) δ mm (ow fy) k := fun Qb => by
  obtain ⟨wi, tt, te, h1, h2, h3, h4⟩ := h Qb
  exact pe_weak (pe_lc hc hN h1 (blkOk_by ok) hg h2 h3 hs) h4
theorem ds_setLc {ifs : List Expr} {y : Str} {py spos : Pos} {φ : β → End} (i : Nat) (hc : X.calm = true) (hN : X.N.Nodup) (ok : blkC X.N X.env.scope scope own = true) (hr : ∀ ys, DS X rest (δ.set i (some (ow fy ys))) (k ys) φ)
    (hg : ∀ (s : Shared) (H : Hp) (C : Addr) (cl : List (Str × Addr)) (fp : List Addr), PG (X.blk s H scope (compEnvC scope cl C X.env) fp) tg g)
    (h : DC X elt tg iter ifs scope own g δ mm fy k) (hk : X.env.scope.kind = .function := by rfl) (hy : X.N[i]? = some y := by rfl) (hyl : X.env.scope.names.lookup y = some .local := by rfl) (hl : (py.line == pos.line) = true := by rfl)
    (ha : (scope.names.any fun (n, k) => n == y && (k == .local || k == .cell)) = false := by decide +kernel) (hs : ∀ x, foldedSetIterable iter X.env x = pure x := by intro _; rfl) : DS X (.Assign [.Name y py] (.ListComp elt [⟨tg, iter, ifs, 0⟩] scope pos) spos :: rest) δ mm φ := fun Qb => by
  have hr' : PSs X rest fun D σ H => ∃ ys c M, RE X.K c M σ H (δ.set i (some (ow fy ys))) ∧ Mo.holds (k ys) Qb ∧ ∀ b, Qb b → ER X.K c D (φ b) := ⟨fun pins s σ H D I ⟨g, q⟩ => (hr g Qb).run pins s σ H D I q⟩
  obtain ⟨wi, tt, te, h1, h2, h3, h4⟩ := h Qb
  refine pss_weak (pss_cons (ps_setLc hc hN hy hyl (sw_true hk hyl hl ha) h1 (blkOk_by ok) hg h2 h3 hs) hr') fun D σ H ⟨c, M, r, hm, q⟩ => ?_
  exact h4 σ H (fun v H1 => ∃ ys c M, RE X.K c M (σ.set i (some v)) H1 (δ.set i (some (ow fy ys))) ∧ Mo.holds (k ys) Qb ∧ ∀ b, Qb b → ER X.K c D (φ b)) ⟨c, M, r, hm, fun ys v H' k1 r1 s1 q1 => by
    obtain ⟨M', r2⟩ := r.set s1 r1 q1 (show okSlot (ow fy ys) from trivial) i
    exact ⟨ys, c, M', r2, k1, q⟩⟩
theorem ds_setLcL {ifs : List Expr} {y : Str} {py spos : Pos} {φ : β → End} {v : List γ} (i : Nat) (hc : X.calm = true) (hN : X.N.Nodup) (ok : blkC X.N X.env.scope scope own = true) (hr : ∀ ys, DS X rest (δ.set i (some (ow fy ys))) (k ys) φ)
    (hg : ∀ (s : Shared) (H : Hp) (C : Addr) (cl : List (Str × Addr)) (fp : List Addr), PG (X.blk s H scope (compEnvC scope cl C X.env) fp) tg g)
    (h : ∀ k : List γ → μ β, DC X elt tg iter ifs scope own g δ (k v) fy k) (hk : X.env.scope.kind = .function := by rfl) (hy : X.N[i]? = some y := by rfl) (hyl : X.env.scope.names.lookup y = some .local := by rfl) (hl : (py.line == pos.line) = true := by rfl)
    (ha : (scope.names.any fun (n, k) => n == y && (k == .local || k == .cell)) = false := by decide +kernel) (hs : ∀ x, foldedSetIterable iter X.env x = pure x := by intro _; rfl) : DS X (.Assign [.Name y py] (.ListComp elt [⟨tg, iter, ifs, 0⟩] scope pos) spos :: rest) δ (letD v k) φ :=
  ds_setLc i hc hN ok hr hg (h k) hk hy hyl hl ha hs
end
end
end DL

/-! DL6: defs and their calls -/
namespace DL
open PySem PySem.Spec L2

/-! ### promises -/
def AR (K : PySem.W.Frag) (c : Ctx) (H : Hp) (v : V) : R → Prop
  | .val d => Rp K H c.M0 d v
  | .dr => ∃ p, v = .ref p ∧ c.Y p
  | _ => False
def ARs (K : PySem.W.Frag) (c : Ctx) (H : Hp) : List R → List V → Prop
  | [], vs => vs = []
  | r :: rs, vs => ∃ v t, vs = v :: t ∧ AR K c H v r ∧ ARs K c H rs t
def noDr : List R → Bool
  | [] => true
  | .dr :: _ => false
  | _ :: r => noDr r
/-- at most one argument is the draws -/
def oneDr : List R → Bool
  | [] => true
  | .dr :: r => noDr r
  | _ :: r => oneDr r
structure Ac (K : PySem.W.Frag) (c : Ctx) (H : Hp) (args : List R) (vs : List V) : Prop where
  he : c.He = H
  av : ARs K c H args vs
  m0 : ∀ a ∈ c.M0, ∃ o, H a = some o
  y : ∀ a, c.Y a → IsInts H a ∧ a ∈ c.M0
  one : oneDr args = true
def spD {A ρ : Type} (args : A → List R) (wp : A → (ρ → Prop) → Prop) (enc : ρ → R) (K : PySem.W.Frag) : Sp := fun vs H Q _ => ∃ (a : A) (c : Ctx) (Qb : ρ → Prop), Ac K c H (args a) vs ∧ wp a Qb ∧ ∀ r v H', Qb r → RT K c H' v (enc r) → Q v H'
theorem ARs.length {K : PySem.W.Frag} {c : Ctx} {H : Hp} : ∀ {rs : List R} {vs : List V}, ARs K c H rs vs → vs.length = rs.length
  | [], _, h => by cases (show _ = _ from h); rfl
  | r :: rs, _, h => by
    obtain ⟨v, t, e, h1, h2⟩ := h
    subst e
    simp [ARs.length h2]
theorem ARs.get {K : PySem.W.Frag} {c : Ctx} {H : Hp} : ∀ {rs : List R} {vs : List V} {i : Nat} {r : R}, ARs K c H rs vs → rs[i]? = some r → ∃ v, vs[i]? = some v ∧ AR K c H v r
  | [], _, _, _, _, e => by simp at e
  | r :: rs, _, 0, _, h, e => by
    obtain ⟨v, t, e2, h1, h2⟩ := h
    subst e2
    simp at e; subst e
    exact ⟨v, rfl, h1⟩
  | r :: rs, _, i + 1, _, h, e => by
    obtain ⟨v, t, e2, h1, h2⟩ := h
    subst e2
    obtain ⟨w, e3, h3⟩ := ARs.get (i := i) h2 (by simpa using e)
    exact ⟨w, by simpa using e3, h3⟩
theorem noDr_get : ∀ {rs : List R} {i : Nat}, noDr rs = true → rs[i]? ≠ some R.dr
  | [], _, _, e => by simp at e
  | r :: rs, 0, h, e => by simp at e; subst e; simp [noDr] at h
  | r :: rs, i + 1, h, e => by
    have h' : noDr rs = true := by cases r <;> simp_all [noDr]
    exact noDr_get h' (by simpa using e)
theorem oneDr_get : ∀ {rs : List R} {i j : Nat}, oneDr rs = true → rs[i]? = some R.dr → rs[j]? = some R.dr → i = j
  | [], _, _, _, e, _ => by simp at e
  | r :: rs, 0, 0, _, _, _ => rfl
  | r :: rs, 0, j + 1, h, e, e' => by
    simp at e; subst e
    exact absurd (by simpa using e') (noDr_get (i := j) h)
  | r :: rs, i + 1, 0, h, e, e' => by
    simp at e'; subst e'
    exact absurd (by simpa using e) (noDr_get (i := i) h)
  | r :: rs, i + 1, j + 1, h, e, e' => by
    have h' : oneDr rs = true := by
      cases r with
      | dr => exact absurd (by simpa using e) (noDr_get (i := i) h)
      | _ => exact h
    exact congrArg (· + 1) (oneDr_get h' (by simpa using e) (by simpa using e'))
/-- the environment at a def's entry -/
def env0 (n : Nat) (args : List R) : En := args.map some ++ List.replicate (n - args.length) none
theorem env0_get {n : Nat} {args : List R} {i : Nat} {r : R} (h : (env0 n args)[i]? = some (some r)) : args[i]? = some r := by
  unfold env0 at h
  by_cases hi : i < args.length
  · rw [List.getElem?_append_left (by simpa using hi), List.getElem?_map] at h
    cases e : args[i]? with
    | none => rw [e] at h; cases h
    | some x => rw [e] at h; cases h; rfl
  · rw [List.getElem?_append_right (by simpa using hi), List.getElem?_replicate] at h
    split at h <;> cases h
theorem entry {K : PySem.W.Frag} {c : Ctx} {H : Hp} {args : List R} {vs : List V} (h : Ac K c H args vs) {N : List Str} : RE K c c.M0 (L2.start N vs) H (env0 N.length args) := by
  have hl := h.av.length
  have sg : ∀ {i : Nat} {v : V}, vs[i]? = some v → (L2.start N vs)[i]? = some (some v) := fun {i v} e => by
    have hi := (List.getElem?_eq_some_iff.mp e).1
    unfold L2.start
    rw [List.getElem?_append_left (by simpa using hi), List.getElem?_map, e]
    rfl
  refine ⟨by simp [env0, L2.start, hl], fun i r e => ?_, fun i j r r' p hij e1 m1 e2 m2 f1 f2 => ?_, fun a o e _ => by rw [← h.he]; exact e, fun a q => q, h.m0, fun a q => .inl q, fun a y => ⟨(h.y a y).1, ?_, (h.y a y).2⟩⟩
  · have e' := env0_get e
    obtain ⟨v, e2, hv⟩ := h.av.get e'
    refine ⟨v, sg e2, ?_⟩
    cases r with
    | val d => exact hv
    | dr =>
      obtain ⟨p, e3, hy⟩ := hv
      exact ⟨p, e3, (h.y p hy).2, (h.y p hy).1, .inl hy⟩
    | own _ => exact hv.elim
    | bor _ => exact hv.elim
    | drb => exact hv.elim
  · have isdr : ∀ {i : Nat} {r : R}, args[i]? = some r → r.isMut = true → r = .dr := fun {i r} e m => by
      obtain ⟨v, e2, hv⟩ := h.av.get e
      cases r with
      | dr => rfl
      | val d => cases m
      | own _ => exact hv.elim
      | bor _ => exact hv.elim
      | drb => cases m
    have a1 := env0_get e1
    have a2 := env0_get e2
    cases isdr a1 m1
    cases isdr a2 m2
    exact hij (oneDr_get h.one a1 a2)
  · obtain ⟨⟨ns, e, _⟩, _⟩ := h.y a y
    rw [h.he, e]
    exact fun z => nomatch z

/-! ### a def of the text that keeps its promise -/
structure Gd (P : Program) (w : World) (K : PySem.W.Frag) (mg : Str → Option Value) (base : Heap) (x : Str) (ps : List Str) (k : Nat) (sp : PySem.W.Frag → Sp) : Prop where
  ex : ∃ (f : Addr) (fd : FuncData), mg x = some (.ref f) ∧ PySem.W.keepIn K (.ref f) = true ∧ Binds K fd ps [] ∧ FnOk P w K mg base CX0 k f fd ps (sp K) ∧ ∃ oc od osl, K.lookup f = some ⟨oc, od, .func fd, osl⟩
/-- where a def stands -/
structure At (K : PySem.W.Frag) (mg : Str → Option Value) (x : Str) (st : Stmt) (ps : List Str) : Prop where
  ex : ∃ (f : Addr) (fd : FuncData), mg x = some (.ref f) ∧ Fun K x x st f fd ∧ Binds K fd ps []
theorem Gd.mono {P : Program} {w : World} {K : PySem.W.Frag} {mg : Str → Option Value} {base : Heap} {x : Str} {ps : List Str} {j k : Nat} {sp : PySem.W.Frag → Sp} (G : Gd P w K mg base x ps j sp) (h : j ≤ k) : Gd P w K mg base x ps k sp := by
  obtain ⟨f, fd, h1, h2, h3, h4, h5⟩ := G.ex
  exact ⟨f, fd, h1, h2, h3, h4.mono h, h5⟩
section
variable {P : Program} {w : World} {K : PySem.W.Frag} {mg : Str → Option Value} {base : Heap}
/-- THE RULE for a def -/
theorem fn_ok {μ : Type → Type} [Mo μ] {A ρ : Type} {x : Str} {st : Stmt} {N ps : List Str} {k : Nat} {args : A → List R} {mf : A → μ ρ} {enc : ρ → R} (T : At K mg x st ps) (S : FnScope N ps (defScope st)) (len : ∀ a, (args a).length = ps.length)
    (hb : ∀ (f : Addr) (cdv : Value) (A0 : Around) (outer : List Env) (s : Shared) (H : Hp) (E : XK) (a : A), Room k (A0.deeper (PyProof.Rows.envOfC x (defScope st) s.heap.objs.size f cdv)) →
      DS (cxOf CX0 P w K mg base N x (defScope st) f cdv A0 outer s H E).nox (defBody st) (env0 N.length (args a)) (mf a) fun r => .rt (enc r)) :
    Gd P w K mg base x ps (k + 1) (spD args (fun a Q => Mo.holds (mf a) Q) enc) := by
  obtain ⟨f, fd, h1, F, hB⟩ := T.ex
  refine ⟨f, fd, h1, F.kp, hB, ?_, by
    obtain ⟨oc, od, kV, doc, pm, an, cdv, ct, osl, _, lk, _⟩ := F.ex
    exact ⟨oc, od, osl, lk⟩⟩
  refine F.ok S (fun vs H Q E ⟨a, c, Qb, h, _⟩ => by rw [h.av.length, len]) fun cdv A0 outer s H vs Q E hr ⟨a, c, Qb, h, hw, q⟩ => ?_
  refine ⟨_, hb f cdv A0 outer s H E a hr Qb, c, c.M0, entry h, hw, fun r hq v H' rt => q r v H' hq rt⟩
end

/-! ### data without lists -/
class NL {α : Type} (f : α → PyData) : Prop where
  nl : ∀ a, noLst (f a) = true
theorem noLsts_map {α : Type} {f : α → PyData} (h : ∀ a, noLst (f a) = true) : ∀ xs : List α, noLsts (xs.map f) = true
  | [] => rfl
  | x :: xs => by rw [List.map_cons, noLsts, h x, noLsts_map h xs]; rfl
instance : NL PyData.int := ⟨fun _ => rfl⟩
instance : NL PyData.bool := ⟨fun _ => rfl⟩
instance : NL PyData.str := ⟨fun _ => rfl⟩
instance : NL dN := ⟨fun _ => rfl⟩
instance {α β : Type} {f : α → PyData} {g : β → PyData} [NL f] [NL g] : NL (dT2 f g) := ⟨fun p => by simp [dT2, noLst, noLsts, NL.nl (f := f), NL.nl (f := g)]⟩
instance {α β γ : Type} {f : α → PyData} {g : β → PyData} {h : γ → PyData} [NL f] [NL g] [NL h] : NL (dT3 f g h) := ⟨fun p => by simp [dT3, noLst, noLsts, NL.nl (f := f), NL.nl (f := g), NL.nl (f := h)]⟩
instance {α β γ ε : Type} {f : α → PyData} {g : β → PyData} {h : γ → PyData} {i : ε → PyData} [NL f] [NL g] [NL h] [NL i] : NL (dT4 f g h i) := ⟨fun p => by simp [dT4, noLst, noLsts, NL.nl (f := f), NL.nl (f := g), NL.nl (f := h), NL.nl (f := i)]⟩
instance {α : Type} {f : α → PyData} [NL f] : NL (dQ f) := ⟨fun xs => by simp [dQ, noLst, noLsts_map (NL.nl (f := f))]⟩
def dO {α : Type} (f : α → PyData) : Option α → PyData
  | none => .none
  | some a => f a
instance {α : Type} {f : α → PyData} [NL f] : NL (dO f) := ⟨fun o => by cases o <;> simp [dO, noLst, NL.nl (f := f)]⟩
/-- what a result holds can be no list of the caller's -/
class NR {ρ : Type} (enc : ρ → R) : Prop where
  nr : ∀ r, match enc r with | .val d => noLst d = true | .own xs => noLsts xs = true | _ => True
instance {α : Type} {f : α → PyData} [NL f] : NR (vl f) := ⟨fun a => NL.nl a⟩
instance {α : Type} {f : α → PyData} [NL f] : NR (ow f) := ⟨fun a => noLsts_map (NL.nl (f := f)) a⟩
instance : NR dr := ⟨fun _ => trivial⟩

/-! ### calls -/
/-- an argument as the callee sees it -/
def asArg : R → R
  | .own xs => .val (.list xs)
  | .bor xs => .val (.list xs)
  | .drb => .dr
  | r => r
def fresh? : R → Bool
  | .bor _ => false
  | _ => true
section
variable {μ ν : Type → Type} [Mo μ] [Mo ν] {A α β γ ρ ε : Type} {X : Cx} {δ : En} {pos p : Pos} {e a b : Expr} {es : List Expr}
theorem arg_of {c c1 : Ctx} {M : List Addr} {σ : St} {H0 H1 : Hp} (r1 : RE X.K c M σ H1 δ) (hM : ∀ a ∈ c1.M0, a ∈ M) (hY : ∀ a, IsI σ δ a → c1.Y a) {v : V} {r : R} (hb : (∃ xs, r = .bor xs) → ∀ a ∈ c1.M0, IsI σ δ a) (h0 : RE X.K c M σ H0 δ) (ok : r ≠ .dr) (h : RR X.K M σ δ H0 H1 v r) : AR X.K c1 H1 v (asArg r) := by
  cases r with
  | val d => exact Rp.anti h hM
  | own xs =>
    obtain ⟨p, vs, e, hn, hp, hr, hz⟩ := h
    exact ⟨p, vs, e, .inl ⟨fun q => h0.notM hn (hM p q), .inl hp⟩, hr.anti fun a q => List.mem_cons_of_mem _ (hM a q), hz⟩
  | bor xs =>
    obtain ⟨p, vs, e, hM', ni, hi, hp, hr, hz⟩ := h
    exact ⟨p, vs, e, .inl ⟨fun q => ni (hb ⟨xs, rfl⟩ p q), .inl hp⟩, hr.anti hM, hz⟩
  | dr => exact absurd rfl ok
  | drb =>
    obtain ⟨p, e, hi⟩ := h
    exact ⟨p, e, hY p hi⟩
theorem args_of {c c1 : Ctx} {M : List Addr} {σ : St} {H0 H1 : Hp} (r1 : RE X.K c M σ H1 δ) (hM : ∀ a ∈ c1.M0, a ∈ M) (hY : ∀ a, IsI σ δ a → c1.Y a) (h0 : RE X.K c M σ H0 δ) : ∀ {rs : List R} {vs : List V}, (rs.all fresh? = true ∨ ∀ a ∈ c1.M0, IsI σ δ a) → (∀ r ∈ rs, r ≠ .dr) → RRs X.K M σ δ H0 H1 rs vs → ARs X.K c1 H1 (rs.map asArg) vs
  | [], _, _, _, h => h
  | r :: rs, _, hb, ok, h => by
    obtain ⟨v, t, e, q1, q2⟩ := h
    refine ⟨v, t, e, arg_of r1 hM hY (fun ⟨xs, z⟩ => ?_) h0 (ok r List.mem_cons_self) q1, args_of r1 hM hY h0 ?_ (fun r q => ok r (List.mem_cons_of_mem _ q)) q2⟩
    · rcases hb with hb | hb
      · subst z; simp [fresh?] at hb
      · exact hb
    · rcases hb with hb | hb
      · exact .inl (by rw [List.all_cons, Bool.and_eq_true] at hb; exact hb.2)
      · exact .inr hb
/-- behind a call -/
theorem back_of {c c1 : Ctx} {M : List Addr} {σ : St} {H1 H2 : Hp} (r1 : RE X.K c M σ H1 δ) (he : c1.He = H1) (hY : ∀ a, c1.Y a → IsI σ δ a) (h1 : ∀ a o, c1.He a = some o → ¬ c1.Y a → H2 a = some o) (h2 : ∀ a, c1.Y a → IsInts H2 a) :
    RE X.K c M σ H2 δ ∧ Sx σ δ H1 H2 := by
  have st : ∀ a o, H1 a = some o → ¬ c1.Y a → H2 a = some o := fun a o e n => h1 a o (by rw [he]; exact e) n
  have s : Sx σ δ H1 H2 := fun a o e n => st a o e fun y => n (hY a y)
  have sm := r1.sm s
  refine ⟨⟨r1.len, fun i q e => ?_, r1.sep, fun a o e n => ?_, r1.m0, fun a q => ?_, r1.mf, fun a y => ?_⟩, s⟩
  · obtain ⟨v, e1, h⟩ := r1.slot i q e
    refine ⟨v, e1, ?_⟩
    cases q with
    | val d => exact Rp.mono sm (fun a q => .inl q) d v h
    | own xs =>
      obtain ⟨p', ws, e2, k1, k2, k3, k4, k5⟩ := h
      exact ⟨p', ws, e2, k1, s p' _ k2 fun ⟨j, f1, f2⟩ => r1.sep i j _ _ p' (fun z => by subst z; rw [e] at f1; cases f1) e rfl f1 rfl (by rw [e1, e2]) f2, Rps.mono sm (fun a q => .inl q) xs ws k3, k4, k5⟩
    | dr =>
      obtain ⟨p', e2, k1, k2, k3⟩ := h
      refine ⟨p', e2, k1, ?_, k3⟩
      by_cases y : c1.Y p'
      · exact h2 p' y
      · obtain ⟨ns, z1, z2⟩ := k2
        exact ⟨ns, st p' _ z1 y, z2⟩
    | bor xs =>
      obtain ⟨p', ws, e2, k1, k2, k3, k4, k5⟩ := h
      exact ⟨p', ws, e2, k1, s p' _ k2 fun ⟨j, f1, f2⟩ => r1.sep i j _ _ p' (fun z => by subst z; rw [e] at f1; cases f1) e rfl f1 rfl (by rw [e1, e2]) f2, Rps.mono sm (fun a q => .inl q) xs ws k3, k4, k5⟩
    | drb => exact h
  · refine st a o (r1.ext a o e n) fun y => ?_
    rcases (r1.dr (hY a y)).2.2 with z | z
    · exact n z
    · rw [e] at z; cases z
  · by_cases y : c1.Y a
    · obtain ⟨ns, z, _⟩ := h2 a y
      exact ⟨_, z⟩
    · obtain ⟨o, z⟩ := r1.mt a q
      exact ⟨o, st a o z y⟩
  · obtain ⟨⟨ns, k1, k2⟩, k3, k4⟩ := r1.hy a y
    refine ⟨?_, k3, k4⟩
    by_cases y' : c1.Y a
    · exact h2 a y'
    · exact ⟨ns, st a _ k1 y', k2⟩
variable {x : Str} {ps : List Str} {k : Nat} {args : A → List R} {wp : A → (ρ → Prop) → Prop} {enc : ρ → R} {encs : α → List R} {mm : μ β} {kk : ρ → μ β} {g : α → ν ρ} {up : ν ρ → μ ρ}
/-- f(e, ..): a def of one's own. h: what is handed over is what the def asks -/
theorem de_call (G : Gd X.prog X.w X.K X.mg X.base x ps k (spD args wp enc)) (hr : Room k X.A) (h : α → A) (mf : A → μ ρ) (hh : ∀ y, args (h y) = (encs y).map asArg) (hw : ∀ a Q, Mo.holds (mf a) Q → wp a Q)
    (ha : DA X (e :: es) δ mm encs fun y => Mo.bnd (mf (h y)) kk) (ok : ∀ y, ((encs y).all fresh? = true ∨ NR enc)) (nd : ∀ y, ∀ r ∈ encs y, r ≠ .dr) (one : ∀ y, oneDr ((encs y).map asArg) = true) (okr : ∀ r, okSlot (enc r) := by intro _; trivial)
    (hg : Gl X x := by rfl) (hdb : (x == ("__debug__" : Str)) = false := by decide) (hs : starEach (e :: es) X.env = (false, eval e X.env) :: starEach es X.env := by rfl) (hpl : (backTo pos (starEach es X.env)).any (·.1) = false := by rfl) :
    DE X (.Call (.Name x p) (e :: es) [] pos) δ mm enc kk := fun Qb => by
  obtain ⟨f, fd, h1, h2, h3, h4, _⟩ := G.ex
  refine pe_weak (pe_call (E := fun _ _ _ => False) h4 hr hg h1 h2 h3 .nil pass0 (ha Qb) hdb hs hpl) fun σ H Q ⟨c, M, r, hm, q⟩ => ⟨c, M, r, hm, fun y vs H1 q1 r1 s1 rrs => ?_⟩
  show spD args wp enc X.K (vs ++ []) H1 Q fun _ _ _ => False
  rw [List.append_nil]
  have hw' := hw (h y) _ (Mo.hbnd q1)
  -- which lists of the caller's the callee need not spare
  by_cases fr : (encs y).all fresh? = true
  · let c1 : Ctx := ⟨H1, M, IsI σ δ⟩
    refine ⟨h y, c1, _, ⟨rfl, ?_, r1.mt, fun a z => ⟨(r1.dr z).2.1, (r1.dr z).1⟩, by rw [hh]; exact one y⟩, hw', fun rr v H2 hq ⟨t1, t2, t3⟩ => ?_⟩
    · rw [hh]
      exact args_of (c1 := c1) r1 (fun a q => q) (fun a q => q) r (.inl fr) (nd y) rrs
    · obtain ⟨r2, s2⟩ := back_of (c1 := c1) r1 rfl (fun a q => q) t1 t2
      refine q rr v H2 hq r2 (s1.trans r s2) (RR.back r1 s1 ?_)
      have o := okr rr
      revert t3 o
      cases enc rr with
      | val d => exact fun t3 _ => t3
      | own ys => exact fun t3 _ => t3
      | dr => exact fun t3 _ => t3
      | bor _ => exact fun _ o => o.elim
      | drb => exact fun _ o => o.elim
  · have nr : NR enc := (ok y).resolve_left fr
    obtain ⟨L, hL⟩ : ∃ L : List Addr, ∀ a, a ∈ L ↔ a ∈ M ∧ IsI σ δ a := by
      classical
      exact ⟨M.filter fun a => decide (IsI σ δ a), fun a => by simp [List.mem_filter]⟩
    let c1 : Ctx := ⟨H1, L, IsI σ δ⟩
    refine ⟨h y, c1, _, ⟨rfl, ?_, fun a z => r1.mt a ((hL a).mp z).1, fun a z => ⟨(r1.dr z).2.1, (hL a).mpr ⟨(r1.dr z).1, z⟩⟩, by rw [hh]; exact one y⟩, hw', fun rr v H2 hq ⟨t1, t2, t3⟩ => ?_⟩
    · rw [hh]
      exact args_of (c1 := c1) r1 (fun a q => ((hL a).mp q).1) (fun a q => q) r (.inr fun a z => ((hL a).mp z).2) (nd y) rrs
    · obtain ⟨r2, s2⟩ := back_of (c1 := c1) r1 rfl (fun a q => q) t1 t2
      refine q rr v H2 hq r2 (s1.trans r s2) (RR.back r1 s1 ?_)
      have o := okr rr
      have n := nr.nr rr
      revert t3 o n
      cases enc rr with
      | val d => exact fun t3 _ n => Rp.any d v n t3
      | own ys => exact fun ⟨p, ws, z1, z2, z3, z4, z5⟩ _ n => ⟨p, ws, z1, z2, z3, Rps.any ys ws n z4, z5⟩
      | dr => exact fun t3 _ _ => t3
      | bor _ => exact fun _ o _ => o.elim
      | drb => exact fun _ o _ => o.elim

/-! ### built-in functions -/
def CallD (X : Cx) (r : List V → Hp → VK → Prop) (encs : α → List R) (e3 : ε → R) (P : α → ε → Prop) : Prop :=
  ∀ c M σ δ H0 H a z vs Q, RE X.K c M σ H δ → RRs X.K M σ δ H0 H (encs a) vs → P a z → (∀ v H', RE X.K c M σ H' δ → Sx σ δ H H' → RR X.K M σ δ H H' v (e3 z) → Q v H') → r vs H Q
variable {r : List V → Hp → VK → Prop} {e3 : ε → R} {id : String} {T : String} {k3 : ε → μ β}
theorem de_callB {f : α → ε} (hc : CallR X (.builtin id) r) (hd : CallD X r encs e3 fun a z => z = f a) (hm : X.mg x = none) (hv : bootBuiltins x = some (.builtin id)) (ha : DA X (e :: es) δ mm encs fun y => k3 (f y)) (hg : Gl X x := by rfl) (hn : x ≠ "__name__" := by decide) (hdb : (x == ("__debug__" : Str)) = false := by decide)
    (he : starEach (e :: es) X.env = (false, eval e X.env) :: starEach es X.env := by rfl) (hpl : (backTo pos (starEach es X.env)).any (·.1) = false := by rfl) : DE X (.Call (.Name x p) (e :: es) [] pos) δ mm e3 k3 := fun Qb =>
  pe_weak (pe_callB hc hg hm hv (ha Qb) hn hdb he hpl) fun σ H Q ⟨c, M, r, hm, q⟩ => ⟨c, M, r, hm, fun y vs H1 q1 r1 s1 rrs => hd c M σ δ H H1 y (f y) vs Q r1 rrs rfl fun v H2 r2 s2 rr => q (f y) v H2 q1 r2 (s1.trans r s2) (RR.back r1 s1 rr)⟩
theorem de_callBO {f : α → Option ε} (hc : CallR X (.builtin id) r) (hd : CallD X r encs e3 fun a z => f a = some z) (hm : X.mg x = none) (hv : bootBuiltins x = some (.builtin id)) (ha : DA X (e :: es) δ mm encs fun y => Mo.bnd (Mo.lft (f y)) k3) (hg : Gl X x := by rfl) (hn : x ≠ "__name__" := by decide) (hdb : (x == ("__debug__" : Str)) = false := by decide)
    (he : starEach (e :: es) X.env = (false, eval e X.env) :: starEach es X.env := by rfl) (hpl : (backTo pos (starEach es X.env)).any (·.1) = false := by rfl) : DE X (.Call (.Name x p) (e :: es) [] pos) δ mm e3 k3 := fun Qb =>
  pe_weak (pe_callB hc hg hm hv (ha Qb) hn hdb he hpl) fun σ H Q ⟨c, M, r, hm, q⟩ => ⟨c, M, r, hm, fun y vs H1 q1 r1 s1 rrs => by
    obtain ⟨z, e, q2⟩ := Mo.hlft (Mo.hbnd q1)
    exact hd c M σ δ H H1 y z vs Q r1 rrs e fun v H2 r2 s2 rr => q z v H2 q2 r2 (s1.trans r s2) (RR.back r1 s1 rr)⟩
theorem de_callT {f : α → ε} (hc : CallR X (.type T) r) (hd : CallD X r encs e3 fun a z => z = f a) (hm : X.mg x = none) (hv : bootBuiltins x = some (.type T)) (ha : DA X (e :: es) δ mm encs fun y => k3 (f y)) (hg : Gl X x := by rfl) (hn : x ≠ "__name__" := by decide) (hdb : (x == ("__debug__" : Str)) = false := by decide)
    (he : starEach (e :: es) X.env = (false, eval e X.env) :: starEach es X.env := by rfl) (hpl : (backTo pos (starEach es X.env)).any (·.1) = false := by rfl) : DE X (.Call (.Name x p) (e :: es) [] pos) δ mm e3 k3 := fun Qb =>
  pe_weak (pe_callTy hc hg hm hv (ha Qb) hn hdb he hpl) fun σ H Q ⟨c, M, r, hm, q⟩ => ⟨c, M, r, hm, fun y vs H1 q1 r1 s1 rrs => hd c M σ δ H H1 y (f y) vs Q r1 rrs rfl fun v H2 r2 s2 rr => q (f y) v H2 q1 r2 (s1.trans r s2) (RR.back r1 s1 rr)⟩
theorem de_callTO {f : α → Option ε} (hc : CallR X (.type T) r) (hd : CallD X r encs e3 fun a z => f a = some z) (hm : X.mg x = none) (hv : bootBuiltins x = some (.type T)) (ha : DA X (e :: es) δ mm encs fun y => Mo.bnd (Mo.lft (f y)) k3) (hg : Gl X x := by rfl) (hn : x ≠ "__name__" := by decide) (hdb : (x == ("__debug__" : Str)) = false := by decide)
    (he : starEach (e :: es) X.env = (false, eval e X.env) :: starEach es X.env := by rfl) (hpl : (backTo pos (starEach es X.env)).any (·.1) = false := by rfl) : DE X (.Call (.Name x p) (e :: es) [] pos) δ mm e3 k3 := fun Qb =>
  pe_weak (pe_callTy hc hg hm hv (ha Qb) hn hdb he hpl) fun σ H Q ⟨c, M, r, hm, q⟩ => ⟨c, M, r, hm, fun y vs H1 q1 r1 s1 rrs => by
    obtain ⟨z, e, q2⟩ := Mo.hlft (Mo.hbnd q1)
    exact hd c M σ δ H H1 y z vs Q r1 rrs e fun v H2 r2 s2 rr => q z v H2 q2 r2 (s1.trans r s2) (RR.back r1 s1 rr)⟩
/-! ### displays -/
theorem rrs_rps {c : Ctx} {M : List Addr} {σ : St} {H0 H1 : Hp} : ∀ {ds : List PyData} {vs : List V}, RRs X.K M σ δ H0 H1 (ds.map R.val) vs → Rps X.K H1 M ds vs
  | [], _, h => h
  | d :: ds, _, h => by
    obtain ⟨v, t, e, q1, q2⟩ := h
    exact ⟨v, t, e, q1, rrs_rps (c := c) q2⟩
theorem de_tup {kt} {g : α → List PyData} (hf : ∀ y, encs y = (g y).map R.val) (hz : ∀ y, (g y).length ≤ sizeLine) {k4 : ε → μ β} {ff : α → ε} {fe : ε → PyData} (he : ∀ y, fe (ff y) = .tuple (g y)) (ha : DA X es δ mm encs fun y => k4 (ff y)) : DE X (.Tuple es kt pos) δ mm (vl fe) k4 := fun Qb =>
  pe_weak (pe_tup (ha Qb)) fun σ H Q ⟨c, M, r, hm, q⟩ => ⟨c, M, r, hm, fun y vs H1 q1 r1 s1 rrs => by
    rw [hf] at rrs
    have hp := rrs_rps (c := c) rrs
    refine ⟨by rw [hp.length]; exact hz y, fun p hn => q (ff y) _ _ q1 (r1.new hn) (s1.trans r (Sx.new hn)) ?_⟩
    show Rp X.K _ M (fe (ff y)) _
    rw [he]
    exact ⟨p, vs, rfl, .inl (.inl upd_same), Rps.mono (r1.sm (Sx.new hn)) (fun a q => .inl q) _ _ hp, hz y⟩⟩
theorem de_lst {f : α → PyData} {g : γ → List α} {encs : γ → List R} (hf : ∀ y, encs y = ((g y).map f).map R.val) (hz : ∀ y, (g y).length ≤ sizeLine) {k4 : List α → μ β} (ha : DA X es δ mm encs fun y => k4 (g y)) : DE X (.List es pos) δ mm (ow f) k4 := fun Qb =>
  pe_weak (pe_lst (ha Qb)) fun σ H Q ⟨c, M, r, hm, q⟩ => ⟨c, M, r, hm, fun y vs H1 q1 r1 s1 rrs => by
    rw [hf] at rrs
    have hp := rrs_rps (c := c) rrs
    refine ⟨by rw [hp.length, List.length_map]; exact hz y, fun p hn => q (g y) _ _ q1 (r1.new hn) (s1.trans r (Sx.new hn)) ⟨p, vs, rfl, r1.fresh s1 hn, upd_same, ?_, by rw [List.length_map]; exact hz y⟩⟩
    exact Rps.mono (fun a o e n => by rw [upd_ne (ne_of_none e hn)]; exact e) (fun a q => (List.mem_cons.mp q).elim (fun z => .inr (z ▸ hn)) .inl) _ _ hp⟩
end
end DL

/-! DL7: operators and built-in functions on typed data -/
namespace DL
open PySem PySem.Spec L2

/-! ### sequences -/
class Sq {α : Type} (enc : List α → R) (f : outParam (α → PyData)) : Prop where
  sq : ∀ {K : PySem.W.Frag} {c : Ctx} {M : List Addr} {σ : St} {δ : En} {H0 H : Hp} {v : V} {xs : List α}, RR K M σ δ H0 H v (enc xs) → ∃ p vs, v = .ref p ∧ (SqL K H p vs ∨ SqT K H p vs) ∧ Rps K H M (xs.map f) vs ∧ xs.length ≤ sizeLine
class SqLs {α : Type} (enc : List α → R) (f : outParam (α → PyData)) : Prop where
  sq : ∀ {K : PySem.W.Frag} {c : Ctx} {M : List Addr} {σ : St} {δ : En} {H0 H : Hp} {v : V} {xs : List α}, RR K M σ δ H0 H v (enc xs) → ∃ p vs, v = .ref p ∧ SqL K H p vs ∧ Rps K H M (xs.map f) vs ∧ xs.length ≤ sizeLine
instance {α : Type} {f : α → PyData} : SqLs (vl (dL f)) f := ⟨fun ⟨p, vs, e, h, hr, hz⟩ => ⟨p, vs, e, h.elim (fun z => .inl z.2) .inr, hr, by simpa using hz⟩⟩
instance {α : Type} {f : α → PyData} : SqLs (ow f) f := ⟨fun ⟨p, vs, e, hn, h, hr, hz⟩ => ⟨p, vs, e, .inl (.inl h), hr.anti fun a q => List.mem_cons_of_mem _ q, by simpa using hz⟩⟩
instance {α : Type} {f : α → PyData} : SqLs (bo f) f := ⟨fun ⟨p, vs, e, _, _, _, h, hr, hz⟩ => ⟨p, vs, e, .inl (.inl h), hr, by simpa using hz⟩⟩
instance (priority := low) {α : Type} {enc : List α → R} {f : α → PyData} [i : SqLs enc f] : Sq enc f := ⟨fun {K c M σ δ H0 H v xs} h => by
  obtain ⟨p, vs, e, h1, h2⟩ := i.sq (c := c) h
  exact ⟨p, vs, e, .inl h1, h2⟩⟩
instance {α : Type} {f : α → PyData} : Sq (vl (dQ f)) f := ⟨fun ⟨p, vs, e, h, hr, hz⟩ => ⟨p, vs, e, .inr h, hr, by simpa using hz⟩⟩

theorem atI_map {α β : Type} (f : α → β) (xs : List α) (i : Int) : L2.atI (xs.map f) i = (L2.atI xs i).map f := by
  unfold L2.atI
  rw [List.length_map]
  cases ixN xs.length i with
  | none => rfl
  | some j => simp
theorem Rps.atI {K : PySem.W.Frag} {M : List Addr} {H : Hp} {ds : List PyData} {vs : List V} {i : Int} {d : PyData} (h : Rps K H M ds vs) (e : L2.atI ds i = some d) : ∃ v, L2.atI vs i = some v ∧ Rp K H M d v := by
  unfold L2.atI at e ⊢
  rw [h.length]
  cases hi : ixN ds.length i with
  | none => rw [hi] at e; cases e
  | some j =>
    rw [hi] at e
    exact h.get (show ds[j]? = some d from e)

section
variable {μ : Type → Type} [Mo μ] {α β γ ρ ε : Type} {X : Cx} {δ : En} {pos p : Pos} {e a b : Expr} {es : List Expr}
/-! ### ints -/
theorem od_rI {C : Int → Int → Prop} {g : Int → Int → V} {e3 : ε → R} {P : Int → Int → ε → Prop} (h : ∀ a b z, P a b z → C a b ∧ ∃ d, e3 z = .val d ∧ ∀ K H M, Rp K H M d (g a b)) : OpD X (rI C g) (vl PyData.int) (vl PyData.int) e3 P := fun c M σ δ H0 H a b x y z Q r q1 q2 hp q => by
  obtain ⟨h1, d, e, h2⟩ := h a b z hp
  exact ⟨a, b, q1, q2, h1, q _ H r Sx.refl (by rw [e]; exact h2 _ _ _)⟩
theorem od_rI0 {g : Int → Int → V} {e3 : ε → R} {P : Int → Int → ε → Prop} (h : ∀ a b z, P a b z → ∃ d, e3 z = .val d ∧ ∀ K H M, Rp K H M d (g a b)) : OpD X (rI0 g) (vl PyData.int) (vl PyData.int) e3 P := fun c M σ δ H0 H a b x y z Q r q1 q2 hp q => by
  obtain ⟨d, e, h2⟩ := h a b z hp
  exact ⟨a, b, q1, q2, q _ H r Sx.refl (by rw [e]; exact h2 _ _ _)⟩
variable {m1 : μ β} {k : Int → μ β} {kb : Bool → μ β}
theorem de_add {m2 : Int → μ β} (hb : ∀ x, DE X b δ (m2 x) (vl PyData.int) fun y => k (x + y)) (ha : DE X a δ m1 (vl PyData.int) m2) : DE X (.BinOp a .Add b pos) δ m1 (vl PyData.int) k :=
  de_bin op_add (od_rI0 fun a b z h => ⟨_, rfl, fun _ _ _ => h ▸ rfl⟩) hb ha
theorem de_sub {m2 : Int → μ β} (hb : ∀ x, DE X b δ (m2 x) (vl PyData.int) fun y => k (x - y)) (ha : DE X a δ m1 (vl PyData.int) m2) : DE X (.BinOp a .Sub b pos) δ m1 (vl PyData.int) k :=
  de_bin op_sub (od_rI0 fun a b z h => ⟨_, rfl, fun _ _ _ => h ▸ rfl⟩) hb ha
def mulO (a b : Int) : Option Int := if a.natAbs.log2 + b.natAbs.log2 < 1000000 then some (a * b) else none
theorem de_mul {m2 : Int → μ β} (hb : ∀ x, DE X b δ (m2 x) (vl PyData.int) fun y => Mo.bnd (Mo.lft (mulO x y)) k) (ha : DE X a δ m1 (vl PyData.int) m2) : DE X (.BinOp a .Mult b pos) δ m1 (vl PyData.int) k :=
  de_binO op_mulW (od_rI fun a b z h => by
    unfold mulO at h
    split at h
    · rename_i q
      cases h
      exact ⟨q, _, rfl, fun _ _ _ => rfl⟩
    · cases h) hb ha
/-- by a written number -/
theorem de_mulr {n : Int} {j pos'} (hn : -(2 ^ 64) < n ∧ n < 2 ^ 64) (ha : DE X a δ m1 (vl PyData.int) fun x => k (x * n)) : DE X (.BinOp a .Mult (.Constant (.int n) j pos') pos) δ m1 (vl PyData.int) k := fun Qb =>
  pe_weak (pe_op op_mul (ha Qb) pe_int) fun σ H Q ⟨c, M, r, h, q⟩ => ⟨c, M, r, h, fun x v H1 h1 r1 s1 q1 => ⟨x, n, q1, rfl, .inr hn, q _ _ H1 h1 r1 s1 rfl⟩⟩
theorem de_mull {n : Int} {j pos'} (hn : -(2 ^ 64) < n ∧ n < 2 ^ 64) (hb : DE X b δ m1 (vl PyData.int) fun x => k (n * x)) : DE X (.BinOp (.Constant (.int n) j pos') .Mult b pos) δ m1 (vl PyData.int) k := fun Qb =>
  pe_weak (pe_op op_mul pe_int (hb Qb)) fun σ H Q ⟨c, M, r, h, q⟩ => ⟨c, M, r, h, fun x v H1 h1 r1 s1 q1 => ⟨n, x, rfl, q1, .inl hn, q _ _ H1 h1 r1 s1 rfl⟩⟩
theorem de_divr {n : Int} {j pos'} (hn : 0 < n ∧ n.natAbs.log2 < 9000) (ha : DE X a δ m1 (vl PyData.int) fun x => k (x / n)) : DE X (.BinOp a .FloorDiv (.Constant (.int n) j pos') pos) δ m1 (vl PyData.int) k := fun Qb =>
  pe_weak (pe_op op_fdivW (ha Qb) pe_int) fun σ H Q ⟨c, M, r, h, q⟩ => ⟨c, M, r, h, fun x v H1 h1 r1 s1 q1 => ⟨x, n, q1, rfl, hn, q _ _ H1 h1 r1 s1 rfl⟩⟩
theorem de_modr {n : Int} {j pos'} (hn : 0 < n) (ha : DE X a δ m1 (vl PyData.int) fun x => k (x % n)) : DE X (.BinOp a .Mod (.Constant (.int n) j pos') pos) δ m1 (vl PyData.int) k := fun Qb =>
  pe_weak (pe_op op_mod (ha Qb) pe_int) fun σ H Q ⟨c, M, r, h, q⟩ => ⟨c, M, r, h, fun x v H1 h1 r1 s1 q1 => ⟨x, n, q1, rfl, hn, q _ _ H1 h1 r1 s1 rfl⟩⟩
def divO (a b : Int) : Option Int := if b ≠ 0 ∧ b.natAbs.log2 < 9000 then some (a.fdiv b) else none
def modO (a b : Int) : Option Int := if b ≠ 0 then some (a.fmod b) else none
theorem op_fdivX : OpR X (binaryOp .FloorDiv) (rI (fun _ j => j ≠ 0 ∧ j.natAbs.log2 < 9000) fun i j => .int (i.fdiv j)) := opI fun i j _ _ _ _ _ hc q =>
  PyProof.Rows.floordiv_int hc.1 q (.inl (PyProof.noPylong_of_log2 hc.2))
theorem de_div {m2 : Int → μ β} (hb : ∀ x, DE X b δ (m2 x) (vl PyData.int) fun y => Mo.bnd (Mo.lft (divO x y)) k) (ha : DE X a δ m1 (vl PyData.int) m2) : DE X (.BinOp a .FloorDiv b pos) δ m1 (vl PyData.int) k :=
  de_binO op_fdivX (od_rI fun a b z h => by
    unfold divO at h
    split at h
    · rename_i q
      cases h
      exact ⟨q, _, rfl, fun _ _ _ => rfl⟩
    · cases h) hb ha
theorem de_mod {m2 : Int → μ β} (hb : ∀ x, DE X b δ (m2 x) (vl PyData.int) fun y => Mo.bnd (Mo.lft (modO x y)) k) (ha : DE X a δ m1 (vl PyData.int) m2) : DE X (.BinOp a .Mod b pos) δ m1 (vl PyData.int) k :=
  de_binO op_modN (od_rI fun a b z h => by
    unfold modO at h
    split at h
    · rename_i q
      cases h
      exact ⟨q, _, rfl, fun _ _ _ => rfl⟩
    · cases h) hb ha
/-- a written power -/
theorem de_powc {n m : Int} {i j pos1 pos2} (hn : 0 ≤ m ∧ m ≤ 1000000 ∧ n.natAbs < 2 ^ 64) : DE X (.BinOp (.Constant (.int n) i pos1) .Pow (.Constant (.int m) j pos2) pos) δ (k (n ^ m.toNat)) (vl PyData.int) k := fun Qb =>
  pe_weak (pe_op op_pow pe_int pe_int) fun σ H Q ⟨c, M, r, h, q⟩ => ⟨n, m, rfl, rfl, hn, q _ _ H h r Sx.refl rfl⟩
def powO (a b : Int) : Option Int := if 0 ≤ b ∧ b ≤ 1000000 ∧ a.natAbs < 2 ^ 64 then some (a ^ b.toNat) else none
theorem de_pow {m2 : Int → μ β} (hb : ∀ x, DE X b δ (m2 x) (vl PyData.int) fun y => Mo.bnd (Mo.lft (powO x y)) k) (ha : DE X a δ m1 (vl PyData.int) m2) : DE X (.BinOp a .Pow b pos) δ m1 (vl PyData.int) k :=
  de_binO op_pow (od_rI fun a b z h => by
    unfold powO at h
    split at h
    · rename_i q
      cases h
      exact ⟨q, _, rfl, fun _ _ _ => rfl⟩
    · cases h) hb ha
theorem de_neg (ha : DE X a δ m1 (vl PyData.int) fun x => k (-x)) : DE X (.UnaryOp .USub a pos) δ m1 (vl PyData.int) k := fun Qb =>
  pe_weak (pe_un un_neg (ha Qb)) fun σ H Q ⟨c, M, r, h, q⟩ => ⟨c, M, r, h, fun x v H1 h1 r1 s1 q1 => ⟨x, q1, q _ _ H1 h1 r1 s1 rfl⟩⟩
/-! ### comparisons -/
theorem oc_lt : OpD X (rI0 fun i j => .bl (decide (i < j))) (vl PyData.int) (vl PyData.int) (vl PyData.bool) fun a b z => z = decide (a < b) := od_rI0 fun a b z h => ⟨_, rfl, fun _ _ _ => h ▸ rfl⟩
theorem oc_le : OpD X (rI0 fun i j => .bl (decide (i ≤ j))) (vl PyData.int) (vl PyData.int) (vl PyData.bool) fun a b z => z = decide (a ≤ b) := od_rI0 fun a b z h => ⟨_, rfl, fun _ _ _ => h ▸ rfl⟩
theorem oc_gt : OpD X (rI0 fun i j => .bl (decide (j < i))) (vl PyData.int) (vl PyData.int) (vl PyData.bool) fun a b z => z = decide (b < a) := od_rI0 fun a b z h => ⟨_, rfl, fun _ _ _ => h ▸ rfl⟩
theorem oc_ge : OpD X (rI0 fun i j => .bl (decide (j ≤ i))) (vl PyData.int) (vl PyData.int) (vl PyData.bool) fun a b z => z = decide (b ≤ a) := od_rI0 fun a b z h => ⟨_, rfl, fun _ _ _ => h ▸ rfl⟩
theorem oc_eqI : OpD X rEq (vl PyData.int) (vl PyData.int) (vl PyData.bool) fun a b z => z = decide (a = b) := fun c M σ δ H0 H a b x y z Q r q1 q2 hp q => by
  cases (show _ = _ from q1); cases (show _ = _ from q2); subst hp
  refine ⟨rfl, q _ H r Sx.refl ?_⟩
  show _ = _
  by_cases h : a = b <;> simp [h]
theorem oc_neI : OpD X rNe (vl PyData.int) (vl PyData.int) (vl PyData.bool) fun a b z => z = !decide (a = b) := fun c M σ δ H0 H a b x y z Q r q1 q2 hp q => by
  cases (show _ = _ from q1); cases (show _ = _ from q2); subst hp
  refine ⟨rfl, q _ H r Sx.refl ?_⟩
  show _ = _
  by_cases h : a = b <;> simp [h]
theorem oc_eqB : OpD X rEq (vl PyData.bool) (vl PyData.bool) (vl PyData.bool) fun a b z => z = decide (a = b) := fun c M σ δ H0 H a b x y z Q r q1 q2 hp q => by
  cases (show _ = _ from q1); cases (show _ = _ from q2); subst hp
  refine ⟨rfl, q _ H r Sx.refl ?_⟩
  show _ = _
  by_cases h : a = b <;> simp [h]
theorem oc_neB : OpD X rNe (vl PyData.bool) (vl PyData.bool) (vl PyData.bool) fun a b z => z = !decide (a = b) := fun c M σ δ H0 H a b x y z Q r q1 q2 hp q => by
  cases (show _ = _ from q1); cases (show _ = _ from q2); subst hp
  refine ⟨rfl, q _ H r Sx.refl ?_⟩
  show _ = _
  by_cases h : a = b <;> simp [h]
theorem oc_eqS : OpD X rEq (vl PyData.str) (vl PyData.str) (vl PyData.bool) fun a b z => z = decide (a = b) := fun c M σ δ H0 H a b x y z Q r q1 q2 hp q => by
  cases (show _ = _ from q1); cases (show _ = _ from q2); subst hp
  refine ⟨rfl, q _ H r Sx.refl ?_⟩
  show _ = _
  by_cases h : a = b <;> simp [h]
theorem oc_neS : OpD X rNe (vl PyData.str) (vl PyData.str) (vl PyData.bool) fun a b z => z = !decide (a = b) := fun c M σ δ H0 H a b x y z Q r q1 q2 hp q => by
  cases (show _ = _ from q1); cases (show _ = _ from q2); subst hp
  refine ⟨rfl, q _ H r Sx.refl ?_⟩
  show _ = _
  by_cases h : a = b <;> simp [h]
/-- data of any depth -/
def eqO (d e : PyData) : Option Bool := if SeqAt.shaped d = true ∧ SeqAt.shaped e = true then some (PyData.eqv d e) else none
theorem rp_dp {K : PySem.W.Frag} {M : List Addr} {H : Hp} {d : PyData} {v : V} (h : Rp K H M d v) : Dp K H v d := Rp.dp d v h
theorem oc_eqD {f : α → PyData} {g : γ → PyData} : OpD X (rEqD X.K) (vl f) (vl g) (vl PyData.bool) fun a b z => eqO (f a) (g b) = some z := fun c M σ δ H0 H a b x y z Q r q1 q2 hp q => by
  dsimp only [eqO] at hp
  split at hp
  · rename_i hs
    cases hp
    exact ⟨_, _, rp_dp q1, rp_dp q2, hs.1, hs.2, q _ H r Sx.refl rfl⟩
  · cases hp
theorem oc_neD {f : α → PyData} {g : γ → PyData} : OpD X (rNeD X.K) (vl f) (vl g) (vl PyData.bool) fun a b z => (eqO (f a) (g b)).map (!·) = some z := fun c M σ δ H0 H a b x y z Q r q1 q2 hp q => by
  dsimp only [eqO] at hp
  split at hp
  · rename_i hs
    cases hp
    exact ⟨_, _, rp_dp q1, rp_dp q2, hs.1, hs.2, q _ H r Sx.refl rfl⟩
  · cases hp
/-- is None -/
def isN : PyData → Bool
  | .none => true
  | _ => false
theorem isN_V {K : PySem.W.Frag} {M : List Addr} {H : Hp} : ∀ {d : PyData} {v : V}, Rp K H M d v → decide (v = V.non) = isN d
  | .none, _, h => by cases (show _ = _ from h); rfl
  | .bool _, _, h => by cases (show _ = _ from h); rfl
  | .int _, _, h => by cases (show _ = _ from h); rfl
  | .str _, _, h => by cases (show _ = _ from h); rfl
  | .list ds, _, h => by obtain ⟨a, vs, e, _⟩ := h; subst e; rfl
  | .tuple ds, _, h => by obtain ⟨a, vs, e, _⟩ := h; subst e; rfl
  | .dict _, _, h => h.elim
theorem oc_isN {f : α → PyData} : OpD X (fun x y H Q => y = .non ∧ Q (.bl (decide (x = .non))) H) (vl f) (vl dN) (vl PyData.bool) fun a _ z => z = isN (f a) := fun c M σ δ H0 H a b x y z Q r q1 q2 hp q =>
  ⟨q2, q _ H r Sx.refl (by subst hp; show _ = _; rw [isN_V q1])⟩
theorem oc_notN {f : α → PyData} : OpD X (fun x y H Q => y = .non ∧ Q (.bl (!decide (x = .non))) H) (vl f) (vl dN) (vl PyData.bool) fun a _ z => z = !isN (f a) := fun c M σ δ H0 H a b x y z Q r q1 q2 hp q =>
  ⟨q2, q _ H r Sx.refl (by subst hp; show _ = _; rw [isN_V q1])⟩
/-! ### subscripts -/
theorem ix_run {r : R2} {e1 : α → R} {e2 : γ → R} {e3 : ε → R} {P : α → γ → ε → Prop} {m1 : μ β} {m2 : α → μ β} {m3 : α → γ → μ β} {k : ε → μ β} (hd : OpD X r e1 e2 e3 P) (hr : IxR X r)
    (hk : ∀ Qb x y, Mo.holds (m3 x y) Qb → ∃ z, P x y z ∧ Mo.holds (k z) Qb) (hb : ∀ x, DE X b δ (m2 x) e2 (m3 x)) (ha : DE X a δ m1 e1 m2) (hs : PlainIx b) : DE X (.Subscript a b pos) δ m1 e3 k := fun Qb => by
  have hb' : PE X b fun σ H Q => ∃ x c M, RE X.K c M σ H δ ∧ Mo.holds (m2 x) Qb ∧
    ∀ y v H', Mo.holds (m3 x y) Qb → RE X.K c M σ H' δ → Sx σ δ H H' → RR X.K M σ δ H H' v (e2 y) → Q v H' := ⟨fun pins s σ H Q I ⟨x, c, M, q⟩ => (hb x Qb).run pins s σ H Q I ⟨c, M, q⟩⟩
  refine pe_weak (pe_ix hr (ha Qb) hb' hs) fun σ H Q ⟨c, M, r, h, q⟩ => ?_
  refine ⟨c, M, r, h, fun x v H1 h1 r1 s1 q1 => ⟨x, c, M, r1, h1, fun y u H2 h2 r2 s2 q2 => ?_⟩⟩
  obtain ⟨z, hp, h3⟩ := hk Qb x y h2
  refine hd c M σ δ H H2 x y v u z Q r2 (q1.step r r1 s2) (q2.back r1 s1) hp fun w H3 r3 s3 q3 => q z w H3 h3 r3 ((s1.trans r s2).trans r s3) (q3.back r2 (s1.trans r s2))
theorem oi_seq {e1 : List α → R} {f : α → PyData} [i : Sq e1 f] : OpD X (fun x y H Q => rIxL X.K x y H Q ∨ rIxT X.K x y H Q) e1 (vl PyData.int) (vl f) fun xs n z => L2.atI xs n = some z := fun c M σ δ H0 H xs n x y z Q r q1 q2 hp q => by
  obtain ⟨p, vs, e, hs, hr, hz⟩ := i.sq (c := c) q1
  obtain ⟨v, h1, h2⟩ := hr.atI (i := n) (d := f z) (by rw [atI_map, hp]; rfl)
  rcases hs with hs | hs
  · exact .inl ⟨p, vs, n, v, e, q2, hs, h1, q v H r Sx.refl h2⟩
  · exact .inr ⟨p, vs, n, v, e, q2, hs, h1, q v H r Sx.refl h2⟩
theorem IxR.or {r r' : R2} (h : IxR X r) (h' : IxR X r') : IxR X (fun x y H Q => r x y H Q ∨ r' x y H Q) := by
  intro value slice pins s σ H x y v u Q I rx ry q hs
  rcases q with q | q
  · exact h value slice pins s σ H x y v u Q I rx ry q hs
  · exact h' value slice pins s σ H x y v u Q I rx ry q hs
/-- an item of a sequence -/
theorem de_ix {e1 : List α → R} {f : α → PyData} [i : Sq e1 f] {m1 : μ β} {m2 : List α → μ β} {k : α → μ β} (hb : ∀ xs, DE X b δ (m2 xs) (vl PyData.int) fun n => Mo.bnd (Mo.lft (L2.atI xs n)) k) (ha : DE X a δ m1 e1 m2) (hs : PlainIx b := by exact fun _ _ => rfl) : DE X (.Subscript a b pos) δ m1 (vl f) k :=
  ix_run oi_seq (ix_list.or ix_tup) (fun Qb x y h => Mo.hlft (Mo.hbnd h)) hb ha hs
/-- a part of a tuple, by a written number -/
theorem de_pt {n : Int} {j pos'} {e1 : α → R} {g : α → List PyData} {ff : α → γ} {fe : γ → PyData} {m1 : μ β} {k : γ → μ β} (he : ∀ a, e1 a = .val (.tuple (g a))) (hn : ∀ a, L2.atI (g a) n = some (fe (ff a))) (ha : DE X a δ m1 e1 fun y => k (ff y)) (hs : PlainIx (.Constant (.int n) j pos') := by exact fun _ _ => rfl) :
    DE X (.Subscript a (.Constant (.int n) j pos') pos) δ m1 (vl fe) k := fun Qb =>
  pe_weak (pe_ix ix_tup (ha Qb) pe_int hs) fun σ H Q ⟨c, M, r, h, q⟩ => ⟨c, M, r, h, fun x v H1 h1 r1 s1 q1 => by
    rw [he] at q1
    obtain ⟨p, vs, e, hq, hr, hz⟩ := q1
    obtain ⟨w, h3, h4⟩ := hr.atI (hn x)
    exact ⟨p, vs, n, w, e, rfl, hq, h3, q (ff x) w H1 h1 r1 s1 h4⟩⟩
/-! ### slices -/
def cutP {α : Type} (xs : List α) (lo hi : Option Int) : List α := (xs.drop (HT.sIx xs.length 0 lo)).take (HT.sIx xs.length xs.length hi - HT.sIx xs.length 0 lo)
theorem cutP_map {α β : Type} (f : α → β) (xs : List α) (lo hi : Option Int) : cutP (xs.map f) lo hi = (cutP xs lo hi).map f := by
  unfold cutP
  rw [List.length_map, List.map_take, List.map_drop]
theorem cutP_len {α : Type} (xs : List α) (lo hi : Option Int) : (cutP xs lo hi).length ≤ xs.length := by
  unfold cutP
  rw [List.length_take, List.length_drop]
  omega
theorem cutV_rps {K : PySem.W.Frag} {M : List Addr} {H : Hp} {ds : List PyData} {vs : List V} (h : Rps K H M ds vs) (lo hi : Option Int) : Rps K H M (cutP ds lo hi) (cutV vs lo hi) := by
  unfold cutP cutV
  rw [h.length]
  exact (h.drop _).take _
def DO (X : Cx) (e : Option Expr) (δ : En) (mm : μ β) (k : Option Int → μ β) : Prop := ∀ Qb : β → Prop, PO X e fun σ H Q => ∃ c M, RE X.K c M σ H δ ∧ Mo.holds mm Qb ∧ ∀ a H', Mo.holds (k a) Qb → RE X.K c M σ H' δ → Sx σ δ H H' → Q a H'
theorem po_weak {e : Option Expr} {t t' : TO} (h : PO X e t) (hh : ∀ σ H Q, t' σ H Q → t σ H Q) : PO X e t' := ⟨fun pins s σ H Q I q => h.run pins s σ H Q I (hh σ H Q q)⟩
theorem do_none {k : Option Int → μ β} : DO X none δ (k none) k := fun Qb => po_weak po_none fun σ H Q ⟨c, M, r, h, q⟩ => q none H h r Sx.refl
theorem do_some {k : Option Int → μ β} (h : DE X e δ m1 (vl PyData.int) fun i => k (some i)) : DO X (some e) δ m1 k := fun Qb => po_weak (po_some (h Qb)) fun σ H Q ⟨c, M, r, h, q⟩ => ⟨c, M, r, h, fun x v H1 h1 r1 s1 q1 => ⟨x, q1, q _ H1 h1 r1 s1⟩⟩
theorem sl_run {rr : V → Option Int → Option Int → Hp → VK → Prop} {lo hi : Option Expr} {e1 : α → R} {e3 : ε → R} {m1 : μ β} {m2 : α → μ β} {m3 : α → Option Int → μ β} {k : ε → μ β} {ff : α → Option Int → Option Int → ε} {p2 : Pos}
    (hd : ∀ c M σ H0 H x l u v Q, RE X.K c M σ H δ → RR X.K M σ δ H0 H v (e1 x) → (∀ w H', RE X.K c M σ H' δ → Sx σ δ H H' → RR X.K M σ δ H H' w (e3 (ff x l u)) → Q w H') → rr v l u H Q)
    (hr : SlR X rr) (hh : ∀ x l, DO X hi δ (m3 x l) fun u => k (ff x l u)) (hl : ∀ x, DO X lo δ (m2 x) (m3 x)) (ha : DE X a δ m1 e1 m2) : DE X (.Subscript a (.Slice lo hi none p2) pos) δ m1 e3 k := fun Qb => by
  have hl' : PO X lo fun σ H Q => ∃ x c M, RE X.K c M σ H δ ∧ Mo.holds (m2 x) Qb ∧ ∀ a H', Mo.holds (m3 x a) Qb → RE X.K c M σ H' δ → Sx σ δ H H' → Q a H' := ⟨fun pins s σ H Q I ⟨x, q⟩ => (hl x Qb).run pins s σ H Q I q⟩
  have hh' : PO X hi fun σ H Q => ∃ x l c M, RE X.K c M σ H δ ∧ Mo.holds (m3 x l) Qb ∧ ∀ a H', Mo.holds (k (ff x l a)) Qb → RE X.K c M σ H' δ → Sx σ δ H H' → Q a H' := ⟨fun pins s σ H Q I ⟨x, l, q⟩ => (hh x l Qb).run pins s σ H Q I q⟩
  refine pe_weak (pe_slice hr (ha Qb) hl' hh') fun σ H Q ⟨c, M, r, h, q⟩ => ⟨c, M, r, h, fun x v H1 h1 r1 s1 q1 => ⟨x, c, M, r1, h1, fun l H2 h2 r2 s2 => ⟨x, l, c, M, r2, h2, fun u H3 h3 r3 s3 => ?_⟩⟩⟩
  exact hd c M σ H H3 x l u v Q r3 ((q1.step r r1 s2).step r r2 s3) fun w H4 r4 s4 q4 => q _ w H4 h3 r4 (((s1.trans r s2).trans r s3).trans r s4) (q4.back r3 ((s1.trans r s2).trans r s3))
/-- xs[lo:hi] of a list -/
theorem de_slL {lo hi : Option Expr} {p2 : Pos} {e1 : List α → R} {f : α → PyData} [i : SqLs e1 f] {m1 : μ β} {m2 : List α → μ β} {m3 : List α → Option Int → μ β} {k : List α → μ β} (hh : ∀ x l, DO X hi δ (m3 x l) fun u => k (cutP x l u)) (hl : ∀ x, DO X lo δ (m2 x) (m3 x)) (ha : DE X a δ m1 e1 m2) :
    DE X (.Subscript a (.Slice lo hi none p2) pos) δ m1 (ow f) k :=
  sl_run (ff := fun x l u => cutP x l u) (fun c M σ H0 H x l u v Q r q1 q => by
    obtain ⟨p, vs, e, hs, hr, hz⟩ := i.sq (c := c) q1
    refine ⟨p, vs, e, hs, fun p' hn => q _ _ (r.new hn) (Sx.new hn) ⟨p', _, rfl, hn, upd_same, ?_, by rw [List.length_map]; exact Nat.le_trans (cutP_len _ _ _) hz⟩⟩
    have := cutV_rps hr l u
    rw [cutP_map] at this
    exact Rps.mono (fun a o e n => by rw [upd_ne (ne_of_none e hn)]; exact e) (fun a q => (List.mem_cons.mp q).elim (fun z => .inr (z ▸ hn)) .inl) _ _ this) sl_list hh hl ha
/-- of a tuple -/
theorem de_slT {lo hi : Option Expr} {p2 : Pos} {f : α → PyData} {m1 : μ β} {m2 : List α → μ β} {m3 : List α → Option Int → μ β} {k : List α → μ β} (hh : ∀ x l, DO X hi δ (m3 x l) fun u => k (cutP x l u)) (hl : ∀ x, DO X lo δ (m2 x) (m3 x)) (ha : DE X a δ m1 (vl (dQ f)) m2) :
    DE X (.Subscript a (.Slice lo hi none p2) pos) δ m1 (vl (dQ f)) k :=
  sl_run (ff := fun x l u => cutP x l u) (fun c M σ H0 H x l u v Q r ⟨p, vs, e, hs, hr, hz⟩ q => by
    have h3 := cutV_rps hr l u
    rw [cutP_map] at h3
    have hz' : ((cutP x l u).map f).length ≤ sizeLine := by rw [List.length_map]; exact Nat.le_trans (cutP_len _ _ _) (by simpa using hz)
    refine ⟨p, vs, e, hs, fun hw => q _ _ r Sx.refl ⟨p, vs, rfl, hs, ?_, hz'⟩, fun _ p' hn => q _ _ (r.new hn) (Sx.new hn) ⟨p', _, rfl, .inl (.inl upd_same), Rps.mono (r.sm (Sx.new hn)) (fun a q => .inl q) _ _ h3, hz'⟩⟩
    have hcv : cutV vs l u = vs := by
      unfold cutV
      rw [hw.1, hw.2]
      simp
    rw [hcv] at h3
    exact h3) sl_tupA hh hl ha
/-! ### len, abs, min, max, int, tuple, list, sum .. -/
variable {x : Str}
theorem de_len {e1 : List α → R} {f : α → PyData} [i : Sq e1 f] {m1 : μ β} (hm : X.mg "len" = none) (ha : DE X a δ m1 e1 fun xs => k (xs.length : Int)) (hg : Gl X "len" := by rfl) (hs : starEach [a] X.env = (false, eval a X.env) :: starEach [] X.env := by rfl) : DE X (.Call (.Name "len" p) [a] [] pos) δ m1 (vl PyData.int) k :=
  de_callB (f := fun y : List α × Unit => (y.1.length : Int)) call_len_seq (fun c M σ δ H0 H y z vs Q r rrs hz q => by
    obtain ⟨v, t, e, q1, q2⟩ := rrs
    cases (show _ = _ from q2); subst e; subst hz
    obtain ⟨p, ws, e, h1, h2, h3⟩ := i.sq (c := c) q1
    subst e
    refine ⟨p, ws, rfl, h1, q _ H r Sx.refl ?_⟩
    show _ = _
    rw [h2.length, List.length_map]) hm PySem.boot_len (da_cons (fun _ => da_nil) ha hs) hg (he := hs)
theorem de_lenS {m1 : μ β} (hm : X.mg "len" = none) (ha : DE X a δ m1 (vl PyData.str) fun z => Mo.bnd (Mo.lft (if z.length ≤ 16777216 then some (z.length : Int) else none)) k) (hg : Gl X "len" := by rfl) (hs : starEach [a] X.env = (false, eval a X.env) :: starEach [] X.env := by rfl) : DE X (.Call (.Name "len" p) [a] [] pos) δ m1 (vl PyData.int) k :=
  de_callBO (f := fun y : Str × Unit => if y.1.length ≤ 16777216 then some (y.1.length : Int) else none) call_len_str (fun c M σ δ H0 H y z vs Q r rrs hz q => by
    obtain ⟨v, t, e, q1, q2⟩ := rrs
    cases (show _ = _ from q2); subst e
    dsimp only at hz
    split at hz
    · rename_i hl
      cases hz
      exact ⟨y.1, by rw [show v = V.str y.1 from q1], hl, q _ H r Sx.refl rfl⟩
    · cases hz) hm PySem.boot_len (da_cons (fun _ => da_nil) ha hs) hg (he := hs)
def absI (i : Int) : Int := if i < 0 then -i else i
theorem de_abs {m1 : μ β} (hm : X.mg "abs" = none) (ha : DE X a δ m1 (vl PyData.int) fun i => k (absI i)) (hg : Gl X "abs" := by rfl) (hs : starEach [a] X.env = (false, eval a X.env) :: starEach [] X.env := by rfl) : DE X (.Call (.Name "abs" p) [a] [] pos) δ m1 (vl PyData.int) k :=
  de_callB (f := fun y : Int × Unit => absI y.1) call_abs (fun c M σ δ H0 H y z vs Q r rrs hz q => by
    obtain ⟨v, t, e, q1, q2⟩ := rrs
    cases (show _ = _ from q2); subst e; subst hz
    exact ⟨y.1, by rw [show v = V.int y.1 from q1], q _ H r Sx.refl rfl⟩) hm (by decide +kernel) (da_cons (fun _ => da_nil) ha hs) hg (he := hs)
def mn (i j : Int) : Int := if j < i then j else i
def mx (i j : Int) : Int := if j > i then j else i
theorem de_min2 {m1 : μ β} {m2 : Int → μ β} (hc : X.calm = true) (hm : X.mg "min" = none) (hb : ∀ i, DE X b δ (m2 i) (vl PyData.int) fun j => k (mn i j)) (ha : DE X a δ m1 (vl PyData.int) m2) (hg : Gl X "min" := by rfl) (hs : starEach [a, b] X.env = (false, eval a X.env) :: starEach [b] X.env := by rfl) (hs2 : starEach [b] X.env = (false, eval b X.env) :: starEach [] X.env := by rfl)
    (hpl : (backTo pos (starEach [b] X.env)).any (·.1) = false := by rfl) : DE X (.Call (.Name "min" p) [a, b] [] pos) δ m1 (vl PyData.int) k :=
  de_callB (f := fun y : Int × Int × Unit => mn y.1 y.2.1) (call_min2 hc) (fun c M σ δ H0 H y z vs Q r rrs hz q => by
    obtain ⟨v, t, e, q1, v2, t2, e2, q2, q3⟩ := rrs
    cases (show _ = _ from q3); subst e2; subst e; subst hz
    exact ⟨y.1, y.2.1, by rw [show v = V.int y.1 from q1, show v2 = V.int y.2.1 from q2], q _ H r Sx.refl rfl⟩) hm (by decide +kernel) (da_cons (fun i => da_cons (fun _ => da_nil) (hb i) hs2) ha hs) hg (he := hs) (hpl := hpl)
theorem de_max2 {m1 : μ β} {m2 : Int → μ β} (hc : X.calm = true) (hm : X.mg "max" = none) (hb : ∀ i, DE X b δ (m2 i) (vl PyData.int) fun j => k (mx i j)) (ha : DE X a δ m1 (vl PyData.int) m2) (hg : Gl X "max" := by rfl) (hs : starEach [a, b] X.env = (false, eval a X.env) :: starEach [b] X.env := by rfl) (hs2 : starEach [b] X.env = (false, eval b X.env) :: starEach [] X.env := by rfl)
    (hpl : (backTo pos (starEach [b] X.env)).any (·.1) = false := by rfl) : DE X (.Call (.Name "max" p) [a, b] [] pos) δ m1 (vl PyData.int) k :=
  de_callB (f := fun y : Int × Int × Unit => mx y.1 y.2.1) (call_max2 hc) (fun c M σ δ H0 H y z vs Q r rrs hz q => by
    obtain ⟨v, t, e, q1, v2, t2, e2, q2, q3⟩ := rrs
    cases (show _ = _ from q3); subst e2; subst e; subst hz
    exact ⟨y.1, y.2.1, by rw [show v = V.int y.1 from q1, show v2 = V.int y.2.1 from q2], q _ H r Sx.refl rfl⟩) hm (by decide +kernel) (da_cons (fun i => da_cons (fun _ => da_nil) (hb i) hs2) ha hs) hg (he := hs) (hpl := hpl)
theorem de_intI {m1 : μ β} (hm : X.mg "int" = none) (ha : DE X a δ m1 (vl PyData.int) fun i => k i) (hg : Gl X "int" := by rfl) (hs : starEach [a] X.env = (false, eval a X.env) :: starEach [] X.env := by rfl) : DE X (.Call (.Name "int" p) [a] [] pos) δ m1 (vl PyData.int) k :=
  de_callT (f := fun y : Int × Unit => y.1) call_int1 (fun c M σ δ H0 H y z vs Q r rrs hz q => by
    obtain ⟨v, t, e, q1, q2⟩ := rrs
    cases (show _ = _ from q2); subst e; subst hz
    exact .inl ⟨y.1, by rw [show v = V.int y.1 from q1], q _ H r Sx.refl rfl⟩) hm (by decide +kernel) (da_cons (fun _ => da_nil) ha hs) hg (he := hs)
def b2n (b : Bool) : Int := if b then 1 else 0
theorem de_intB {m1 : μ β} (hm : X.mg "int" = none) (ha : DE X a δ m1 (vl PyData.bool) fun i => k (b2n i)) (hg : Gl X "int" := by rfl) (hs : starEach [a] X.env = (false, eval a X.env) :: starEach [] X.env := by rfl) : DE X (.Call (.Name "int" p) [a] [] pos) δ m1 (vl PyData.int) k :=
  de_callT (f := fun y : Bool × Unit => b2n y.1) call_int1 (fun c M σ δ H0 H y z vs Q r rrs hz q => by
    obtain ⟨v, t, e, q1, q2⟩ := rrs
    cases (show _ = _ from q2); subst e; subst hz
    exact .inr ⟨y.1, by rw [show v = V.bl y.1 from q1], q _ H r Sx.refl rfl⟩) hm (by decide +kernel) (da_cons (fun _ => da_nil) ha hs) hg (he := hs)
/-- tuple(list), list(..) -/
theorem de_tupleL {e1 : List α → R} {f : α → PyData} [i : SqLs e1 f] {m1 : μ β} {k : List α → μ β} (hm : X.mg "tuple" = none) (ha : DE X a δ m1 e1 fun xs => k xs) (hg : Gl X "tuple" := by rfl) (hs : starEach [a] X.env = (false, eval a X.env) :: starEach [] X.env := by rfl) : DE X (.Call (.Name "tuple" p) [a] [] pos) δ m1 (vl (dQ f)) k :=
  de_callT (f := fun y : List α × Unit => y.1) call_tuple_of (fun c M σ δ H0 H y z vs Q r rrs hz q => by
    obtain ⟨v, t, e, q1, q2⟩ := rrs
    cases (show _ = _ from q2); subst e; subst hz
    obtain ⟨p, ws, e, h1, h2, h3⟩ := i.sq (c := c) q1
    subst e
    exact ⟨p, ws, rfl, .inl ⟨h1, fun l hl => q _ _ (r.new hl) (Sx.new hl) ⟨l, ws, rfl, .inl (.inl upd_same), Rps.mono (r.sm (Sx.new hl)) (fun a q => .inl q) _ _ h2, by simpa using h3⟩⟩⟩) hm PyProof.Rows.boot_tuple (da_cons (fun _ => da_nil) ha hs) hg (he := hs)
theorem de_tupleT {f : α → PyData} {m1 : μ β} {k : List α → μ β} (hm : X.mg "tuple" = none) (ha : DE X a δ m1 (vl (dQ f)) fun xs => k xs) (hg : Gl X "tuple" := by rfl) (hs : starEach [a] X.env = (false, eval a X.env) :: starEach [] X.env := by rfl) : DE X (.Call (.Name "tuple" p) [a] [] pos) δ m1 (vl (dQ f)) k :=
  de_callT (f := fun y : List α × Unit => y.1) call_tuple_of (fun c M σ δ H0 H y z vs Q r rrs hz q => by
    obtain ⟨v, t, e, q1, q2⟩ := rrs
    cases (show _ = _ from q2); subst e; subst hz
    obtain ⟨p, ws, e, h1, h2, h3⟩ := q1
    subst e
    exact ⟨p, ws, rfl, .inr ⟨h1, q _ _ r Sx.refl ⟨p, ws, rfl, h1, h2, h3⟩⟩⟩) hm PyProof.Rows.boot_tuple (da_cons (fun _ => da_nil) ha hs) hg (he := hs)
theorem de_list {e1 : List α → R} {f : α → PyData} [i : Sq e1 f] {m1 : μ β} {k : List α → μ β} (hm : X.mg "list" = none) (ha : DE X a δ m1 e1 fun xs => k xs) (hg : Gl X "list" := by rfl) (hs : starEach [a] X.env = (false, eval a X.env) :: starEach [] X.env := by rfl) : DE X (.Call (.Name "list" p) [a] [] pos) δ m1 (ow f) k :=
  de_callT (f := fun y : List α × Unit => y.1) call_list_of (fun c M σ δ H0 H y z vs Q r rrs hz q => by
    obtain ⟨v, t, e, q1, q2⟩ := rrs
    cases (show _ = _ from q2); subst e; subst hz
    obtain ⟨p, ws, e, h1, h2, h3⟩ := i.sq (c := c) q1
    subst e
    exact ⟨p, ws, rfl, h1, fun l hl => q _ _ (r.new hl) (Sx.new hl) ⟨l, ws, rfl, hl, upd_same, Rps.mono (fun a o e n => by rw [upd_ne (ne_of_none e hl)]; exact e) (fun a q => (List.mem_cons.mp q).elim (fun z => .inr (z ▸ hl)) .inl) _ _ h2, by simpa using h3⟩⟩) hm PyProof.Rows.boot_list (da_cons (fun _ => da_nil) ha hs) hg (he := hs)
/-- sum of ints -/
theorem iter_intTuple {prog : Program} {w : World} {A : Around} {E : Value → Shared → Prop} {s : Shared} {l : Addr} {its : List Value} {ns : List Int} {Q : Value → Shared → Prop} (hh : A.handled = none) (hl : s.heap.IsTuple l its.toArray) (hi : PyProof.Rows.IntsAre its ns)
    (h : ∀ h' tk t', (∀ b o, s.heap.get? b = some o → h'.get? b = some o) → Q (.int ns.sum t') { s with heap := h', toks := tk }) : wpAny (model prog w) A (call (.builtin "sum") [.ref l]) Q E s := by
  obtain ⟨xs, e⟩ := hi.allInts.items
  have hn : numsOf (intItems xs).toList = ns := by rw [← e]; exact hi.numsOf
  rw [PySem.nums_intItems] at hn
  rw [e] at hl
  have hlt : l < s.heap.objs.size := by obtain ⟨_, e, _⟩ := hl; exact Heap.lt_size e
  refine call_sum_walkG (wpAny_pyIter_tuple hl ?_)
  refine ⟨_, [s.heap.objs.size, l], [s.heap.objs.size], _, _, _, numAt xs, rfl, Walks.tuple (A := A.in1) hh _ l (Nat.ne_of_lt hlt) (intItems xs), ⟨⟨_, Heap.get?_push_size _ rfl, rfl, rfl⟩, hl.push _⟩, (fun b hb => ?_), (fun _ _ => intItems_at), fun h' tk t' hk => ?_⟩
  · show b < (s.heap.push _).objs.size
    rw [Heap.size_push]
    rcases List.mem_cons.mp hb with rfl | hb
    · exact Nat.lt_succ_self _
    · rcases List.mem_cons.mp hb with rfl | hb
      · exact Nat.lt_succ_of_lt hlt
      · cases hb
  · have := h h' tk t' fun b o e => hk b o (fun q => by rw [List.mem_singleton.mp q] at e; exact absurd (Heap.lt_size e) (Nat.lt_irrefl _)) (Heap.get?_push_of_some _ e)
    rw [← hn, ← List.take_of_length_le (l := List.map (·.1) xs.toList) (i := xs.size) (by simp), ← preSum_eq] at this
    simpa [intItems] using this
def rSumT (K : PySem.W.Frag) : List V → Hp → VK → Prop := fun vs H Q => ∃ (a : Addr) (ns : List Int), vs = [V.ref a] ∧ SqT K H a (ns.map V.int) ∧ Q (.int ns.sum) H
theorem cr_sumT (hc : X.calm = true) : CallR X (.builtin "sum") (rSumT X.K) := by
  intro pins s σ H vs us Q I r h
  obtain ⟨a, ns, rfl, hs, q⟩ := h
  obtain ⟨its, rv, hl, _⟩ := I.tuple hs
  rw [Vals.ref1 r]
  exact iter_intTuple (I.ok.hd hc) hl rv.ints fun h' tk t' hk => ⟨.int _, H, I.kept hk, ⟨_, rfl⟩, q⟩
theorem de_sum {e1 : List Int → R} [i : Sq e1 PyData.int] {m1 : μ β} (hc : X.calm = true) (hm : X.mg "sum" = none) (ha : DE X a δ m1 e1 fun xs => k xs.sum) (hg : Gl X "sum" := by rfl) (hs : starEach [a] X.env = (false, eval a X.env) :: starEach [] X.env := by rfl) : DE X (.Call (.Name "sum" p) [a] [] pos) δ m1 (vl PyData.int) k :=
  de_callB (f := fun y : List Int × Unit => y.1.sum) ((cr_sum hc).or (cr_sumT hc)) (fun c M σ δ H0 H y z vs Q r rrs hz q => by
    obtain ⟨v, t, e, q1, q2⟩ := rrs
    cases (show _ = _ from q2); subst e; subst hz
    obtain ⟨p, ws, e, h1, h2, h3⟩ := i.sq (c := c) q1
    subst e
    have := h2.toInts
    subst this
    rcases h1 with h1 | h1
    · exact .inl ⟨p, y.1, rfl, h1, q _ H r Sx.refl rfl⟩
    · exact .inr ⟨p, y.1, rfl, h1, q _ H r Sx.refl rfl⟩) hm (by decide +kernel) (da_cons (fun _ => da_nil) ha hs) hg (he := hs)
/-- all, any of a list of bools -/
theorem de_all {e1 : List Bool → R} [i : SqLs e1 PyData.bool] {m1 : μ β} (hc : X.calm = true) (hm : X.mg "all" = none) (ha : DE X a δ m1 e1 fun xs => kb (xs.all id)) (hg : Gl X "all" := by rfl) (hs : starEach [a] X.env = (false, eval a X.env) :: starEach [] X.env := by rfl) : DE X (.Call (.Name "all" p) [a] [] pos) δ m1 (vl PyData.bool) kb :=
  de_callB (f := fun y : List Bool × Unit => y.1.all id) (cr_all hc) (fun c M σ δ H0 H y z vs Q r rrs hz q => by
    obtain ⟨v, t, e, q1, q2⟩ := rrs
    cases (show _ = _ from q2); subst e; subst hz
    obtain ⟨p, ws, e, h1, h2, h3⟩ := i.sq (c := c) q1
    subst e
    have := h2.toBools
    subst this
    exact ⟨p, y.1, rfl, h1, q _ H r Sx.refl rfl⟩) hm (by decide +kernel) (da_cons (fun _ => da_nil) ha hs) hg (he := hs)
theorem de_any {e1 : List Bool → R} [i : SqLs e1 PyData.bool] {m1 : μ β} (hc : X.calm = true) (hm : X.mg "any" = none) (ha : DE X a δ m1 e1 fun xs => kb (xs.any id)) (hg : Gl X "any" := by rfl) (hs : starEach [a] X.env = (false, eval a X.env) :: starEach [] X.env := by rfl) : DE X (.Call (.Name "any" p) [a] [] pos) δ m1 (vl PyData.bool) kb :=
  de_callB (f := fun y : List Bool × Unit => y.1.any id) (cr_any hc) (fun c M σ δ H0 H y z vs Q r rrs hz q => by
    obtain ⟨v, t, e, q1, q2⟩ := rrs
    cases (show _ = _ from q2); subst e; subst hz
    obtain ⟨p, ws, e, h1, h2, h3⟩ := i.sq (c := c) q1
    subst e
    have := h2.toBools
    subst this
    exact ⟨p, y.1, rfl, h1, q _ H r Sx.refl rfl⟩) hm (by decide +kernel) (da_cons (fun _ => da_nil) ha hs) hg (he := hs)
end
end DL

/-! DL8: stores into lists, several targets, the draws -/
namespace DL
open PySem PySem.Spec L2

theorem _root_.List.mem_of_mem_dropLast' {α : Type} {a : α} {l : List α} (h : a ∈ l.dropLast) : a ∈ l := (List.dropLast_sublist l).subset h
/-! ### an own list changed -/
section
variable {K : PySem.W.Frag} {c : Ctx} {M : List Addr} {σ : St} {H : Hp} {δ : En}
theorem RE.setOwn (r : RE K c M σ H δ) {i : Nat} {xs : List PyData} (hi : δ[i]? = some (some (.own xs))) {p : Addr} (hp : σ[i]? = some (some (.ref p))) {ws : List V} {ys : List PyData} (hr : Rps K H M ys ws) (hz : ys.length ≤ sizeLine) :
    RE K c M σ (upd H p (.lst ws)) (δ.set i (some (.own ys))) := by
  obtain ⟨v, e1, p', vs, e2, h1, h2, h3, h4, h5⟩ := r.slot i _ hi
  rw [hp] at e1; cases e1; cases e2
  have hil : i < δ.length := (List.getElem?_eq_some_iff.mp hi).1
  have sm : Sm M H (upd H p (.lst ws)) := fun a u e n => by
    by_cases q : a = p
    · subst q
      rw [h2] at e; cases e
      exact absurd (n h1) (by simp [isLst])
    · rw [upd_ne q]; exact e
  have mo : ∀ a ∈ M, a ∈ M ∨ H a = none := fun a q => .inl q
  have other : ∀ (j : Nat) (q : R), i ≠ j → δ[j]? = some (some q) → q.isMut = true → σ[j]? ≠ some (some (V.ref p)) := fun j q hij e m z => r.sep i j _ _ p hij hi rfl e m hp z
  refine ⟨by simp [r.len], fun j q e => ?_, fun a b q q' pp hab e1 m1 e2 m2 f1 f2 => ?_, fun a o e n => ?_, r.m0, fun a q => ?_, r.mf, fun a y => ?_⟩
  · rcases get_set e with ⟨rfl, _, e'⟩ | ⟨hij, e'⟩
    · cases e'
      exact ⟨_, hp, p, ws, rfl, h1, upd_same, Rps.mono sm mo _ _ hr, hz, h5⟩
    · obtain ⟨w, e2, w1⟩ := r.slot j q e'
      have nd := other j q hij e'
      rw [e2] at nd
      refine ⟨w, e2, ?_⟩
      cases q with
      | val d => exact Rp.mono sm mo d w w1
      | own zs =>
        obtain ⟨p', us, z1, z2, z3, z4, z5, z6⟩ := w1
        subst z1
        exact ⟨p', us, rfl, z2, by rw [upd_ne fun z => nd rfl (by rw [z])]; exact z3, Rps.mono sm mo zs us z4, z5, z6⟩
      | dr =>
        obtain ⟨p', z1, z2, ⟨ns, z3, z4⟩, z5⟩ := w1
        subst z1
        exact ⟨p', rfl, z2, ⟨ns, by rw [upd_ne fun z => nd rfl (by rw [z])]; exact z3, z4⟩, z5⟩
      | bor zs =>
        obtain ⟨p', us, z1, z2, z3, z4, z5, z6⟩ := w1
        subst z1
        exact ⟨p', us, rfl, z2, by rw [upd_ne fun z => nd rfl (by rw [z])]; exact z3, Rps.mono sm mo zs us z4, z5, z6⟩
      | drb => exact w1
  · have back : ∀ (j : Nat) (q : R), (δ.set i (some (.own ys)))[j]? = some (some q) → q.isMut = true → ∃ q', δ[j]? = some (some q') ∧ q'.isMut = true := fun j q e m => by
      rcases get_set e with ⟨rfl, _, e'⟩ | ⟨hij, e'⟩
      · exact ⟨_, hi, rfl⟩
      · exact ⟨q, e', m⟩
    obtain ⟨q1, g1, n1⟩ := back a q e1 m1
    obtain ⟨q2, g2, n2⟩ := back b q' e2 m2
    exact r.sep a b _ _ pp hab g1 n1 g2 n2 f1 f2
  · have e1 := r.ext a o e n
    rw [upd_ne fun z => by subst z; rw [h5] at e; cases e]
    exact e1
  · by_cases z : a = p
    · subst z; exact ⟨_, upd_same⟩
    · rw [upd_ne z]; exact r.mt a q
  · obtain ⟨⟨ns, k1, k2⟩, k3, k4⟩ := r.hy a y
    exact ⟨⟨ns, by rw [upd_ne fun z => by subst z; exact k3 h5]; exact k1, k2⟩, k3, k4⟩
end

section
variable {μ : Type → Type} [Mo μ] {α β γ ρ ε : Type} {X : Cx} {δ : En} {pos p : Pos} {e a b : Expr} {es : List Expr} {st : Stmt} {rest : List Stmt} {x : Str} {k : Int → μ β} {kb : Bool → μ β} {m1 : μ β} {φ : β → End}
/-! ### isinstance -/
def isTy (T : String) : PyData → Bool
  | .none => T == "NoneType"
  | .bool _ => T == "bool" || T == "int"
  | .int _ => T == "int"
  | .str _ => T == "str"
  | .list _ => T == "list"
  | .tuple _ => T == "tuple"
  | .dict _ => T == "dict"
def KitT (T : String) : Prop := kitB "NoneType" T = some (T == "NoneType") ∧ kitB "bool" T = some (T == "bool" || T == "int") ∧ kitB "int" T = some (T == "int") ∧ kitB "str" T = some (T == "str") ∧ kitB "list" T = some (T == "list") ∧ kitB "tuple" T = some (T == "tuple")
theorem kit_bool : KitT "bool" := ⟨by decide +kernel, by decide +kernel, by decide +kernel, by decide +kernel, by decide +kernel, by decide +kernel⟩
theorem kit_int : KitT "int" := ⟨by decide +kernel, by decide +kernel, by decide +kernel, by decide +kernel, by decide +kernel, by decide +kernel⟩
theorem kit_str : KitT "str" := ⟨by decide +kernel, by decide +kernel, by decide +kernel, by decide +kernel, by decide +kernel, by decide +kernel⟩
theorem kit_tuple : KitT "tuple" := ⟨by decide +kernel, by decide +kernel, by decide +kernel, by decide +kernel, by decide +kernel, by decide +kernel⟩
theorem kit_list : KitT "list" := ⟨by decide +kernel, by decide +kernel, by decide +kernel, by decide +kernel, by decide +kernel, by decide +kernel⟩
theorem ty_of {T : String} (kt : KitT T) {K : PySem.W.Frag} {M : List Addr} {H : Hp} : ∀ {d : PyData} {v : V}, Rp K H M d v → ∃ t, TyX K H v t ∧ PySem.W.kitOne K t (.type T) = some (isTy T d)
  | .none, _, h => by cases (show _ = _ from h); exact ⟨_, .base .non, kit_ty kt.1⟩
  | .bool _, _, h => by cases (show _ = _ from h); exact ⟨_, .base (.bl _), kit_ty kt.2.1⟩
  | .int _, _, h => by cases (show _ = _ from h); exact ⟨_, .base (.int _), kit_ty kt.2.2.1⟩
  | .str _, _, h => by cases (show _ = _ from h); exact ⟨_, .base (.str _), kit_ty kt.2.2.2.1⟩
  | .list ds, _, h => by
    obtain ⟨a, vs, e, h1, _⟩ := h
    subst e
    rcases h1 with ⟨_, h1 | ⟨o, h1⟩⟩ | ⟨o, its, n, h1, h2, _⟩
    · exact ⟨_, .base (.lst h1), kit_ty kt.2.2.2.2.1⟩
    · exact ⟨_, .base (.frz h1), kit_ty kt.2.2.2.2.1⟩
    · exact ⟨_, .kList h1 h2, kit_ty kt.2.2.2.2.1⟩
  | .tuple ds, _, h => by
    obtain ⟨a, vs, e, h1, _⟩ := h
    subst e
    rcases h1 with (h1 | ⟨o, h1⟩) | ⟨o, its, n, h1, h2, _⟩
    · exact ⟨_, .base (.tup h1), kit_ty kt.2.2.2.2.2⟩
    · exact ⟨_, .fTuple h1, kit_ty kt.2.2.2.2.2⟩
    · exact ⟨_, .kTuple h1 h2, kit_ty kt.2.2.2.2.2⟩
  | .dict _, _, h => h.elim
theorem de_isi {T : String} {Tn : Str} {p2 : Pos} {f : α → PyData} (kt : KitT T) (hm : X.mg "isinstance" = none) (hT : X.mg Tn = none) (hv : bootBuiltins Tn = some (.type T)) (ha : DE X a δ m1 (vl f) fun y => kb (isTy T (f y))) (hg : Gl X "isinstance" := by rfl) (hg2 : Gl X Tn := by rfl) (hn : Tn ≠ "__name__" := by decide) (hd : (Tn == ("__debug__" : Str)) = false := by decide)
    (hs : starEach [a, .Name Tn p2] X.env = (false, eval a X.env) :: starEach [.Name Tn p2] X.env := by rfl) (hs2 : starEach [.Name Tn p2] X.env = (false, eval (.Name Tn p2) X.env) :: starEach [] X.env := by rfl) (hpl : (backTo pos (starEach [.Name Tn p2] X.env)).any (·.1) = false := by rfl) :
    DE X (.Call (.Name "isinstance" p) [a, .Name Tn p2] [] pos) δ m1 (vl PyData.bool) kb := fun Qb =>
  pe_weak (pe_callB call_isi hg hm (by decide +kernel) (pa_cons (ha Qb) (pa_cons (pe_bltn (v := .ty T) hg2 hT hv rfl hn hd) pa_nil hs2) hs) (he := hs) (hpl := hpl)) fun σ H Q ⟨c, M, r, h, q⟩ => ⟨c, M, r, h, fun y v H1 h1 r1 s1 q1 => by
    obtain ⟨t, t1, t2⟩ := ty_of kt q1
    exact ⟨v, .ty T, t, .type T, _, rfl, .ty T, t1, t2, q _ _ H1 h1 r1 s1 rfl⟩⟩
/-! ### constants of the module -/
theorem de_globI {n : Int} {t : Tok} (hm : X.mg x = some (.int n t)) (hg : Gl X x := by rfl) (hd : (x == ("__debug__" : Str)) = false := by decide) : DE X (.Name x pos) δ (k n) (vl PyData.int) k := fun Qb =>
  pe_weak (pe_glob (v := .int n) hg hm ⟨t, rfl⟩ hd) fun σ H Q ⟨c, M, r, h, q⟩ => q n _ H h r Sx.refl rfl
theorem de_globS {n : Str} {t : Tok} {k : Str → μ β} (hm : X.mg x = some (.str n t)) (hg : Gl X x := by rfl) (hd : (x == ("__debug__" : Str)) = false := by decide) : DE X (.Name x pos) δ (k n) (vl PyData.str) k := fun Qb =>
  pe_weak (pe_glob (v := .str n) hg hm ⟨t, rfl⟩ hd) fun σ H Q ⟨c, M, r, h, q⟩ => q n _ H h r Sx.refl rfl
/-! ### xs.append(e) -/
def appO {α : Type} (xs : List α) (y : α) : Option (List α) := if xs.length < 16777216 then some (xs ++ [y]) else none
theorem ds_append {f : α → PyData} {apos cpos npos : Pos} {k2 : List α → μ β} (i : Nat) (v : List α) (hs : δ[i]? = some (some (ow f v))) (hr : ∀ ys, DS X rest (δ.set i (some (ow f ys))) (k2 ys) φ) (ha : DE X a δ m1 (vl f) fun y => Mo.bnd (Mo.lft (appO v y)) k2)
    (hN : X.N[i]? = some x := by rfl) (hx : Vis X.env.scope x := by first | exact Or.inl rfl | exact Or.inr (Or.inl rfl) | exact Or.inr (Or.inr rfl)) (hd : (x == ("__debug__" : Str)) = false := by decide) (hcd : (x == ("__classdict__" : Str)) = false := by decide)
    (hbase : attributeBase (.Name x npos) "append" X.env (eval (.Name x npos) X.env) = eval (.Name x npos) X.env := by rfl)
    (hfew : ((backTo cpos (starEach [a] X.env)).all (fun x => !x.1) && (backToKw cpos (keywordEach [] X.env)).all (fun x => x.1.isSome)
      && decide ([a].length + ([] : List Keyword).length + (if ([] : List Keyword).isEmpty then 0 else 1) < 30)) = true := by rfl)
    (hline : (apos.endLine == cpos.line) = true := by rfl) (hst : starEach [a] X.env = (false, eval a X.env) :: starEach [] X.env := by rfl) (hsw : swapsWith (.Call (.Attribute (.Name x npos) "append" apos) [a] [] cpos) none pos.line X.env = pure false := by rfl) :
    DS X (.Expr (.Call (.Attribute (.Name x npos) "append" apos) [a] [] cpos) pos :: rest) δ m1 φ := fun Qb => by
  have hr' : PSs X rest fun D σ H => ∃ y c M, RE X.K c M σ H (δ.set i (some (ow f y))) ∧ Mo.holds (k2 y) Qb ∧ ∀ b, Qb b → ER X.K c D (φ b) := ⟨fun pins s σ H D I ⟨g, q⟩ => (hr g Qb).run pins s σ H D I q⟩
  refine pss_weak (pss_cons (ps_expr (pe_bm PySem.F.plainAttrs_list PySem.F.slot_list_append PySem.F.type_list_append mt_append (pe_var hN hx hd hcd) (pa_cons (ha Qb) pa_nil hst) hbase hfew hline hst) hsw) hr') fun D σ H ⟨c, M, r, h, q⟩ => ?_
  obtain ⟨w, e1, p, vs, e2, h1, h2, h3, h4, h5⟩ := r.slot i _ hs
  subst e2
  refine ⟨_, e1, .inl ⟨rfl, vs, .inl (.inl h2)⟩, c, M, r, h, fun y u H1 k1 r1 s1 q1 => ?_⟩
  obtain ⟨ys, k3, k4⟩ := Mo.hlft (Mo.hbnd k1)
  unfold appO at k3
  split at k3
  · rename_i hl
    cases k3
    obtain ⟨w', e1', p', vs', e2', g1, g2, g3, g4, g5⟩ := r1.slot i _ hs
    rw [e1] at e1'; cases e1'; cases e2'
    refine ⟨p, vs', u, rfl, rfl, g2, by rw [g3.length, List.length_map]; exact hl, v ++ [y], c, M, ?_, k4, q⟩
    have z := r1.setOwn hs e1 (ws := vs' ++ [u]) (ys := v.map f ++ [f y]) (g3.append (.one q1)) (by simp; exact hl)
    have ez : ow f (v ++ [y]) = R.own (v.map f ++ [f y]) := by simp [ow]
    rw [ez]
    exact z
  · cases k3
/-- xs.reverse() -/
theorem ds_reverse {f : α → PyData} {apos cpos npos : Pos} (i : Nat) (v : List α) (hs : δ[i]? = some (some (ow f v))) (hr : DS X rest (δ.set i (some (ow f v.reverse))) m1 φ)
    (hN : X.N[i]? = some x := by rfl) (hx : Vis X.env.scope x := by first | exact Or.inl rfl | exact Or.inr (Or.inl rfl) | exact Or.inr (Or.inr rfl)) (hd : (x == ("__debug__" : Str)) = false := by decide) (hcd : (x == ("__classdict__" : Str)) = false := by decide)
    (hbase : attributeBase (.Name x npos) "reverse" X.env (eval (.Name x npos) X.env) = eval (.Name x npos) X.env := by rfl) (hline : (apos.endLine == cpos.line) = true := by rfl) (hsw : swapsWith (.Call (.Attribute (.Name x npos) "reverse" apos) [] [] cpos) none pos.line X.env = pure false := by rfl) :
    DS X (.Expr (.Call (.Attribute (.Name x npos) "reverse" apos) [] [] cpos) pos :: rest) δ m1 φ := fun Qb => by
  refine pss_weak (pss_cons (ps_expr (pe_bm0 PySem.F.plainAttrs_list PySem.F.slot_list_reverse PySem.F.type_list_reverse mt_reverse (pe_var hN hx hd hcd) hbase hline) hsw) (hr Qb)) fun D σ H ⟨c, M, r, h, q⟩ => ?_
  obtain ⟨w, e1, p, vs, e2, h1, h2, h3, h4, h5⟩ := r.slot i _ hs
  subst e2
  refine ⟨_, e1, .inl ⟨rfl, vs, .inl (.inl h2)⟩, p, vs, rfl, rfl, h2, c, M, ?_, h, q⟩
  have z := r.setOwn hs e1 (ws := vs.reverse) (ys := (v.map f).reverse) h3.reverse (by simpa using h4)
  have ez : ow f v.reverse = R.own (v.map f).reverse := by simp [ow]
  rw [ez]
  exact z
/-- xs[n] = e -/
def setO {α : Type} (xs : List α) (n : Int) (y : α) : Option (List α) := (ixN xs.length n).map fun j => xs.set j y
theorem ds_setIx {f : α → PyData} {tpos npos : Pos} {k2 : List α → μ β} {m2 : α → μ β} (i : Nat) (v : List α) (hs : δ[i]? = some (some (ow f v))) (hr : ∀ ys, DS X rest (δ.set i (some (ow f ys))) (k2 ys) φ) (hb : ∀ y, DE X b δ (m2 y) (vl PyData.int) fun n => Mo.bnd (Mo.lft (setO v n y)) k2) (ha : DE X a δ m1 (vl f) m2)
    (hN : X.N[i]? = some x := by rfl) (hx : Vis X.env.scope x := by first | exact Or.inl rfl | exact Or.inr (Or.inl rfl) | exact Or.inr (Or.inr rfl)) (hd : (x == ("__debug__" : Str)) = false := by decide) (hcd : (x == ("__classdict__" : Str)) = false := by decide)
    (hasg : ∀ v, assign (.Subscript (.Name x npos) b tpos) X.env v = (do
      let ov ← holding [v] (eval (.Name x npos) X.env)
      let iv ← holding [v, ov] (eval b X.env)
      standAt tpos
      holding [v, ov, iv] (setItem ov iv v)
      release [v, ov, iv] []) := by intro _; rfl)
    (hsw : swapsWithSole [.Subscript (.Name x npos) b tpos] a pos.line X.env = pure false := by rfl) (hw : swappedStores [.Subscript (.Name x npos) b tpos] a X.env = pure none := by rfl)
    (h1 : (assignEach [.Subscript (.Name x npos) b tpos] X.env).map (·.2) = [assign (.Subscript (.Name x npos) b tpos) X.env] := by rfl) :
    DS X (.Assign [.Subscript (.Name x npos) b tpos] a pos :: rest) δ m1 φ := fun Qb => by
  have hr' : PSs X rest fun D σ H => ∃ y c M, RE X.K c M σ H (δ.set i (some (ow f y))) ∧ Mo.holds (k2 y) Qb ∧ ∀ b, Qb b → ER X.K c D (φ b) := ⟨fun pins s σ H D I ⟨g, q⟩ => (hr g Qb).run pins s σ H D I q⟩
  have hb' : PE X b fun σ H Q => ∃ x c M, RE X.K c M σ H δ ∧ Mo.holds (m2 x) Qb ∧
    ∀ n u H', Mo.holds (Mo.bnd (Mo.lft (setO v n x)) k2) Qb → RE X.K c M σ H' δ → Sx σ δ H H' → RR X.K M σ δ H H' u (vl PyData.int n) → Q u H' := ⟨fun pins s σ H Q I ⟨x, c, M, q⟩ => (hb x Qb).run pins s σ H Q I ⟨c, M, q⟩⟩
  refine pss_weak (pss_cons (ps_asg (ha Qb) (pg_sub (pe_var hN hx hd hcd) hb' set_list hasg) hsw hw h1) hr') fun D σ H ⟨c, M, r, h, q⟩ => ⟨c, M, r, h, fun y u H1 k1 r1 s1 q1 => ?_⟩
  obtain ⟨w, e1, p, vs, e2, g1, g2, g3, g4, g5⟩ := r1.slot i _ hs
  subst e2
  refine ⟨_, e1, y, c, M, r1, k1, fun n u2 H2 k2' r2 s2 q2 => ?_⟩
  obtain ⟨ys, k3, k4⟩ := Mo.hlft (Mo.hbnd k2')
  obtain ⟨w', e1', p', vs', e2', l1, l2, l3, l4, l5⟩ := r2.slot i _ hs
  rw [e1] at e1'; cases e1'; cases e2'
  unfold setO at k3
  cases hj : ixN v.length n with
  | none => rw [hj] at k3; cases k3
  | some j =>
    rw [hj] at k3; cases k3
    refine ⟨p, vs', n, j, rfl, q2, l2, by rw [l3.length, List.length_map]; exact hj, v.set j y, c, M, ?_, k4, q⟩
    have z := r2.setOwn hs e1 (ws := vs'.set j u) (ys := (v.map f).set j (f y)) (l3.set j (Rp.mono (r1.sm s2) (fun a q => .inl q) _ _ q1)) (by simpa using l4)
    have ez : ow f (v.set j y) = R.own ((v.map f).set j (f y)) := by simp [ow, List.map_set]
    rw [ez]
    exact z
/-! ### name op= e -/
theorem ds_augI {op : Operator} {g : Int → Int → Int} {pos' : Pos} (ho : PIp X op (ipI g)) (i : Nat) (v : Int) (hN : X.N.Nodup) (hs : δ[i]? = some (some (vl PyData.int v))) (hr : ∀ y, DS X rest (δ.set i (some (vl PyData.int y))) (k y) φ) (ha : DE X a δ m1 (vl PyData.int) fun y => k (g v y))
    (hi : X.N[i]? = some x := by rfl) (hx : Loc X.env.scope x := by first | exact Or.inl rfl | exact Or.inr rfl) (hf : X.fn x = true ∨ X.env.scope.names.lookup x = some .local := by first | exact .inl rfl | exact .inr rfl) : DS X (.AugAssign (.Name x pos') op a pos :: rest) δ m1 φ := fun Qb => by
  have hr' : PSs X rest fun D σ H => ∃ y c M, RE X.K c M σ H (δ.set i (some (vl PyData.int y))) ∧ Mo.holds (k y) Qb ∧ ∀ b, Qb b → ER X.K c D (φ b) := ⟨fun pins s σ H D I ⟨g, q⟩ => (hr g Qb).run pins s σ H D I q⟩
  refine pss_weak (pss_cons (ps_aug hN hi hx (ha Qb) ho hf) hr') fun D σ H ⟨c, M, r, h, q⟩ => ?_
  obtain ⟨w, e1, hv⟩ := r.slot i _ hs
  refine ⟨w, e1, c, M, r, h, fun y u H1 k1 r1 s1 q1 => ⟨v, y, hv, q1, g v y, c, M, r1.setV (d := .int (g v y)) rfl i, k1, q⟩⟩
/-- .. named -/
theorem ds_augL {op : Operator} {g : Int → Int → Int} {pos' : Pos} {y : Int} (ho : PIp X op (ipI g)) (i : Nat) (v : Int) (hN : X.N.Nodup) (hs : δ[i]? = some (some (vl PyData.int v))) (hr : ∀ y, DS X rest (δ.set i (some (vl PyData.int y))) (k y) φ) (ha : ∀ k : Int → μ β, DE X a δ (k y) (vl PyData.int) k)
    (hi : X.N[i]? = some x := by rfl) (hx : Loc X.env.scope x := by first | exact Or.inl rfl | exact Or.inr rfl) (hf : X.fn x = true ∨ X.env.scope.names.lookup x = some .local := by first | exact .inl rfl | exact .inr rfl) : DS X (.AugAssign (.Name x pos') op a pos :: rest) δ (letD (g v y) k) φ :=
  ds_augI ho i v hN hs hr (ha fun y => k (g v y)) hi hx hf
/-! ### several names -/
theorem RE.pend {K : PySem.W.Frag} {c : Ctx} {M : List Addr} {σ : St} {H H' : Hp} {v : V} {r : R} (r0 : RE K c M σ H δ) (s : Sx σ δ H H') (r1 : RE K c M σ H' δ) (h : RR K M σ δ H H' v r) (ok : okSlot r) :
    ∃ M1, (∀ a ∈ M, a ∈ M1) ∧ (∀ a ∈ M1, a ∈ M ∨ H a = none) ∧ RE K c M1 σ H' δ ∧ SR K c M1 H' v r ∧ (∀ p, r.isMut = true → v = .ref p → H p = none) := by
  have fin : ∀ (M' : List Addr), (∀ a ∈ M, a ∈ M') → (∀ a ∈ M', a ∈ M ∨ (H a = none ∧ ∃ o, H' a = some o)) → RE K c M' σ H' δ := fun M' hs hm => by
    have mo : ∀ a ∈ M', a ∈ M ∨ H a = none := fun a q => (hm a q).imp id fun z => z.1
    refine ⟨r1.len, fun j q e => ?_, r1.sep, r1.ext, fun a q => hs a (r1.m0 a q), fun a q => ?_, fun a q => ?_, fun a q => ⟨(r1.hy a q).1, (r1.hy a q).2.1, hs a (r1.hy a q).2.2⟩⟩
    · obtain ⟨w, e2, w1⟩ := r0.slot j q e
      obtain ⟨w', e3, w2⟩ := r1.slot j q e
      rw [e2] at e3; cases e3
      refine ⟨w, e2, ?_⟩
      cases q with
      | val d => exact Rp.mono (r0.sm s) mo d w w1
      | own xs =>
        obtain ⟨p, vs, z1, z2, z3, z4, z5, z6⟩ := w1
        subst z1
        have z3' : H' p = some (.lst vs) := s p _ z3 fun ⟨jj, u1, u2⟩ => r0.sep j jj _ _ p (fun z => by subst z; rw [e] at u1; cases u1) e rfl u1 rfl e2 u2
        exact ⟨p, vs, rfl, hs p z2, z3', Rps.mono (r0.sm s) mo xs vs z4, z5, z6⟩
      | dr =>
        obtain ⟨p, y1, y2, y3, y4⟩ := w2
        exact ⟨p, y1, hs p y2, y3, y4⟩
      | bor xs =>
        obtain ⟨p, vs, z1, z2, z3, z4, z5⟩ := w1
        subst z1
        have z3' : H' p = some (.lst vs) := s p _ z3 fun ⟨jj, u1, u2⟩ => r0.sep j jj _ _ p (fun z => by subst z; rw [e] at u1; cases u1) e rfl u1 rfl e2 u2
        exact ⟨p, vs, rfl, hs p z2, z3', Rps.mono (r0.sm s) mo xs vs z4, z5⟩
      | drb => exact w2
    · rcases hm a q with z | ⟨_, z⟩
      · exact r1.mt a z
      · exact z
    · rcases hm a q with z | ⟨z, _⟩
      · exact r1.mf a z
      · exact .inr (r0.he_none z)
  cases r with
  | val d => exact ⟨M, fun a q => q, fun a q => .inl q, r1, h, fun p m => by cases m⟩
  | own xs =>
    obtain ⟨p, vs, e, hn, hq, hr, hz⟩ := h
    exact ⟨p :: M, fun a q => List.mem_cons_of_mem _ q, fun a q => (List.mem_cons.mp q).elim (fun z => .inr (z ▸ hn)) .inl, fin (p :: M) (fun a q => List.mem_cons_of_mem _ q) (fun a q => by
      rcases List.mem_cons.mp q with rfl | q
      · exact .inr ⟨hn, _, hq⟩
      · exact .inl q), ⟨p, vs, e, List.mem_cons_self, hq, hr, hz, r0.he_none hn⟩, fun p' _ e' => by rw [e] at e'; cases e'; exact hn⟩
  | dr =>
    obtain ⟨p, e, hn, hq⟩ := h
    exact ⟨p :: M, fun a q => List.mem_cons_of_mem _ q, fun a q => (List.mem_cons.mp q).elim (fun z => .inr (z ▸ hn)) .inl, fin (p :: M) (fun a q => List.mem_cons_of_mem _ q) (fun a q => by
      rcases List.mem_cons.mp q with rfl | q
      · exact .inr ⟨hn, _, hq.choose_spec.1⟩
      · exact .inl q), ⟨p, e, List.mem_cons_self, hq, .inr (r0.he_none hn)⟩, fun p' _ e' => by rw [e] at e'; cases e'; exact hn⟩
  | bor xs => exact ok.elim
  | drb => exact ok.elim
theorem RE.put {K : PySem.W.Frag} {c : Ctx} {M : List Addr} {σ : St} {H : Hp} {v : V} {r : R} (r0 : RE K c M σ H δ) (h : SR K c M H v r) (i : Nat) (hn : ∀ (j : Nat) (q : R) (p : Addr), i ≠ j → r.isMut = true → v = .ref p → δ[j]? = some (some q) → q.isMut = true → σ[j]? ≠ some (some (V.ref p))) :
    RE K c M (σ.set i (some v)) H (δ.set i (some r)) := by
  refine ⟨by simp [r0.len], fun j q e => ?_, fun a b q q' p hab e1 m1 e2 m2 f1 f2 => ?_, r0.ext, r0.m0, r0.mt, r0.mf, r0.hy⟩
  · rcases get_set e with ⟨rfl, hl, e'⟩ | ⟨hij, e'⟩
    · cases e'
      exact ⟨v, by rw [List.getElem?_set_self (by rw [← r0.len]; exact hl)], h⟩
    · obtain ⟨w, e2, w1⟩ := r0.slot j q e'
      exact ⟨w, by rw [List.getElem?_set_ne hij]; exact e2, w1⟩
  · rcases get_set e1 with ⟨rfl, hl, e1'⟩ | ⟨ha, e1'⟩
    · cases e1'
      rcases get_set e2 with ⟨z, _⟩ | ⟨hb, e2'⟩
      · exact hab z
      · rw [List.getElem?_set_self (by rw [← r0.len]; exact hl)] at f1
        cases f1
        rw [List.getElem?_set_ne hb] at f2
        exact hn b _ p hb m1 rfl e2' m2 f2
    · rw [List.getElem?_set_ne ha] at f1
      rcases get_set e2 with ⟨rfl, hl, e2'⟩ | ⟨hb, e2'⟩
      · cases e2'
        rw [List.getElem?_set_self (by rw [← r0.len]; exact hl)] at f2
        cases f2
        exact hn a _ p ha m2 rfl e1' m1 f1
      · rw [List.getElem?_set_ne hb] at f2
        exact r0.sep a b _ _ p hab e1' m1 e2' m2 f1 f2
theorem SR.step {K : PySem.W.Frag} {c : Ctx} {M M2 : List Addr} {σ : St} {H H2 : Hp} {v : V} {r : R} (r1 : RE K c M σ H δ) (s : Sx σ δ H H2) (r2 : RE K c M2 σ H2 δ) (hs : ∀ a ∈ M, a ∈ M2) (hm : ∀ a ∈ M2, a ∈ M ∨ H a = none) (hI : ∀ p, r.isMut = true → v = .ref p → ¬ IsI σ δ p) (h : SR K c M H v r) (ok : okSlot r) : SR K c M2 H2 v r := by
  cases r with
  | val d => exact Rp.mono (r1.sm s) hm d v h
  | own xs =>
    obtain ⟨p, vs, e, h1, h2, h3, h4, h5⟩ := h
    exact ⟨p, vs, e, hs p h1, s p _ h2 (hI p rfl e), Rps.mono (r1.sm s) hm xs vs h3, h4, h5⟩
  | dr =>
    obtain ⟨p, e, h1, ⟨ns, h2, h3⟩, h4⟩ := h
    exact ⟨p, e, hs p h1, ⟨ns, s p _ h2 (hI p rfl e), h3⟩, h4⟩
  | bor _ => exact ok.elim
  | drb => exact ok.elim
theorem RE.mutTrk {K : PySem.W.Frag} {c : Ctx} {M : List Addr} {σ : St} {H : Hp} (r : RE K c M σ H δ) {j : Nat} {q : R} {p : Addr} (e : δ[j]? = some (some q)) (m : q.isMut = true) (f : σ[j]? = some (some (V.ref p))) : H p ≠ none := fun hn => r.noslot hn j q e m f
/-- x, y = a, b -/
theorem ds_par2 {x y : Str} {e1 : α → R} {e2 : γ → R} {k2 : α → γ → μ β} {m2 : α → μ β} {px py pt : Pos} {kt k2' pt2} (i j : Nat) (hc : X.calm = true) (hN : X.N.Nodup) (hij : i ≠ j) (hr : ∀ u v, DS X rest ((δ.set i (some (e1 u))).set j (some (e2 v))) (k2 u v) φ) (hb : ∀ u, DE X b δ (m2 u) e2 fun v => k2 u v) (ha : DE X a δ m1 e1 m2)
    (hw : swappedStores [.Tuple [.Name x px, .Name y py] kt pt] (.Tuple [a, b] k2' pt2) X.env = pure (some [x, y]) := by rfl) (hi : X.N[i]? = some x := by rfl) (hj : X.N[j]? = some y := by rfl) (hx : X.env.scope.names.lookup x = some .local := by rfl) (hy : X.env.scope.names.lookup y = some .local := by rfl)
    (ok1 : ∀ y, okSlot (e1 y) := by intro _; trivial) (ok2 : ∀ y, okSlot (e2 y) := by intro _; trivial) (hs : swapsWithSole [.Tuple [.Name x px, .Name y py] kt pt] (.Tuple [a, b] k2' pt2) pos.line X.env = pure false := by rfl)
    (hst : starEach [a, b] X.env = (false, eval a X.env) :: starEach [b] X.env := by rfl) (hst2 : starEach [b] X.env = (false, eval b X.env) :: starEach [] X.env := by rfl) :
    DS X (.Assign [.Tuple [.Name x px, .Name y py] kt pt] (.Tuple [a, b] k2' pt2) pos :: rest) δ m1 φ := fun Qb => by
  have hb' : PE X b fun σ H Q => ∃ x c M, RE X.K c M σ H δ ∧ Mo.holds (m2 x) Qb ∧
    ∀ y v H', Mo.holds (k2 x y) Qb → RE X.K c M σ H' δ → Sx σ δ H H' → RR X.K M σ δ H H' v (e2 y) → Q v H' := ⟨fun pins s σ H Q I ⟨x, c, M, q⟩ => (hb x Qb).run pins s σ H Q I ⟨c, M, q⟩⟩
  have hr' : PSs X rest fun D σ H => ∃ u v c M, RE X.K c M σ H ((δ.set i (some (e1 u))).set j (some (e2 v))) ∧ Mo.holds (k2 u v) Qb ∧ ∀ b, Qb b → ER X.K c D (φ b) := ⟨fun pins s σ H D I ⟨u, v, q⟩ => (hr u v Qb).run pins s σ H D I q⟩
  refine pss_weak (pss_cons (ps_par hc hN hi hj hij hx hy (pa_cons (ha Qb) (pa_cons hb' pa_nil hst2) hst) hw hs) hr') fun D σ H ⟨c, M, r, h, q⟩ => ⟨c, M, r, h, fun x1 v1 H1 h1 r1 s1 q1 => ?_⟩
  obtain ⟨M1, sub1, mo1, p1, sr1, fr1⟩ := r.pend s1 r1 q1 (ok1 x1)
  refine ⟨x1, c, M1, p1, h1, fun y1 w1 H2 h2 r2 s2 q2 => ?_⟩
  obtain ⟨M2, sub2, mo2, p2, sr2, fr2⟩ := p1.pend s2 r2 q2 (ok2 y1)
  have t1 := SR.step p1 s2 p2 sub2 mo2 (fun p m e => r.notI (fr1 p m e)) sr1 (ok1 x1)
  have a1 := p2.put t1 i fun j' q p hij' m e ej mj fj => r.mutTrk ej mj fj (fr1 p m e)
  refine ⟨v1, w1, rfl, x1, y1, c, M2, a1.put sr2 j fun j' q p hij' m e ej mj fj => ?_, h2, q⟩
  have hn := fr2 p m e
  rcases get_set ej with ⟨rfl, hl, ej'⟩ | ⟨hi', ej'⟩
  · cases ej'
    rw [List.getElem?_set_self (by rw [← p2.len]; exact hl)] at fj
    cases fj
    revert sr1 mj
    cases e1 x1 with
    | own xs => exact fun _ ⟨p', vs, z1, z2, z3, _⟩ => by cases z1; rw [hn] at z3; cases z3
    | dr => exact fun _ ⟨p', z1, z2, ⟨ns, z3, _⟩, _⟩ => by cases z1; rw [hn] at z3; cases z3
    | bor xs => exact fun _ ⟨p', vs, z1, z2, z3, _⟩ => by cases z1; rw [hn] at z3; cases z3
    | val d => exact fun m _ => by cases m
    | drb => exact fun m _ => by cases m
  · rw [List.getElem?_set_ne hi'] at fj
    exact p1.mutTrk ej' mj fj hn
/-- x, y, z = a, b, c, data alone -/
theorem ds_par3 {x y z : Str} {cc : Expr} {f1 : α → PyData} {f2 : γ → PyData} {f3 : ε → PyData} {k2 : α → γ → ε → μ β} {m2 : α → μ β} {m3 : α → γ → μ β} {px py pz pt : Pos} {kt k2' pt2} (i j l : Nat) (hc : X.calm = true) (hN : X.N.Nodup) (hij : i ≠ j) (hil : i ≠ l) (hjl : j ≠ l)
    (hr : ∀ u v w, DS X rest (((δ.set i (some (vl f1 u))).set j (some (vl f2 v))).set l (some (vl f3 w))) (k2 u v w) φ) (hd : ∀ u v, DE X cc δ (m3 u v) (vl f3) fun w => k2 u v w) (hb : ∀ u, DE X b δ (m2 u) (vl f2) (m3 u)) (ha : DE X a δ m1 (vl f1) m2)
    (hw : swappedStores [.Tuple [.Name x px, .Name y py, .Name z pz] kt pt] (.Tuple [a, b, cc] k2' pt2) X.env = pure (some [x, y, z]) := by rfl) (hi : X.N[i]? = some x := by rfl) (hj : X.N[j]? = some y := by rfl) (hl : X.N[l]? = some z := by rfl) (hx : X.env.scope.names.lookup x = some .local := by rfl) (hy : X.env.scope.names.lookup y = some .local := by rfl) (hz : X.env.scope.names.lookup z = some .local := by rfl)
    (hs : swapsWithSole [.Tuple [.Name x px, .Name y py, .Name z pz] kt pt] (.Tuple [a, b, cc] k2' pt2) pos.line X.env = pure false := by rfl)
    (hst : starEach [a, b, cc] X.env = (false, eval a X.env) :: starEach [b, cc] X.env := by rfl) (hst2 : starEach [b, cc] X.env = (false, eval b X.env) :: starEach [cc] X.env := by rfl) (hst3 : starEach [cc] X.env = (false, eval cc X.env) :: starEach [] X.env := by rfl) :
    DS X (.Assign [.Tuple [.Name x px, .Name y py, .Name z pz] kt pt] (.Tuple [a, b, cc] k2' pt2) pos :: rest) δ m1 φ := fun Qb => by
  have hA : DA X [a, b, cc] δ m1 (eCons (vl f1) (eCons (vl f2) (eCons (vl f3) eNil))) fun y => k2 y.1 y.2.1 y.2.2.1 := da_cons (fun x => da_cons (fun y => da_cons (fun z => da_nil) (hd x y) hst3) (hb x) hst2) ha hst
  have hr' : PSs X rest fun D σ H => ∃ u v w c M, RE X.K c M σ H (((δ.set i (some (vl f1 u))).set j (some (vl f2 v))).set l (some (vl f3 w))) ∧ Mo.holds (k2 u v w) Qb ∧ ∀ b, Qb b → ER X.K c D (φ b) := ⟨fun pins s σ H D I ⟨u, v, w, q⟩ => (hr u v w Qb).run pins s σ H D I q⟩
  refine pss_weak (pss_cons (L2.ps_par3 hc hN hi hj hl hij hil hjl hx hy hz (hA Qb) hw hs) hr') fun D σ H ⟨c, M, r, h, q⟩ => ⟨c, M, r, h, fun y vs H1 k1 r1 s1 q1 => ?_⟩
  obtain ⟨u, t, z1, w1, v, t2, z2, w2, w, t3, z3, w3, z4⟩ := q1
  cases (show _ = _ from z4); subst z3; subst z2; subst z1
  exact ⟨u, v, w, rfl, y.1, y.2.1, y.2.2.1, c, M, ((r1.setV w1 i).setV w2 j).setV w3 l, k1, q⟩
/-- (x, y) = e -/
theorem ds_unp {tg : Expr} {f : α → PyData} {up : En → α → En} {vs : List Nat} {g : TG} {k2 : α → μ β} (hdg : DG X.K f up vs g) (hpg : PG X tg g) (hr : ∀ y, DS X rest (up δ y) (k2 y) φ) (ha : DE X e δ m1 (vl f) k2)
    (hs : swapsWithSole [tg] e pos.line X.env = pure false := by rfl) (hw : swappedStores [tg] e X.env = pure none := by rfl) (h1 : (assignEach [tg] X.env).map (·.2) = [assign tg X.env] := by rfl) : DS X (.Assign [tg] e pos :: rest) δ m1 φ := fun Qb => by
  have hr' : PSs X rest fun D σ H => ∃ y c M, RE X.K c M σ H (up δ y) ∧ Mo.holds (k2 y) Qb ∧ ∀ b, Qb b → ER X.K c D (φ b) := ⟨fun pins s σ H D I ⟨g, q⟩ => (hr g Qb).run pins s σ H D I q⟩
  refine pss_weak (pss_cons (ps_asg (ha Qb) hpg hs hw h1) hr') fun D σ H ⟨c, M, r, h, q⟩ => ⟨c, M, r, h, fun y v H1 k1 r1 s1 q1 => ?_⟩
  exact hdg.run c M σ H1 δ y v _ r1 q1 fun σ' r2 _ _ => ⟨y, c, M, r2, k1, q⟩
/-! ### lists and tuples joined -/
def catO {α : Type} (xs ys : List α) : Option (List α) := if xs.length + ys.length ≤ 16777216 then some (xs ++ ys) else none
class SqTr {α : Type} (enc : List α → R) (f : outParam (α → PyData)) : Prop where
  sq : ∀ {K : PySem.W.Frag} {c : Ctx} {M : List Addr} {σ : St} {δ : En} {H0 H : Hp} {v : V} {xs : List α}, RR K M σ δ H0 H v (enc xs) → ∃ p vs, v = .ref p ∧ H p = some (.lst vs) ∧ Rps K H M (xs.map f) vs ∧ xs.length ≤ sizeLine
instance {α : Type} {f : α → PyData} : SqTr (ow f) f := ⟨fun ⟨p, vs, e, hn, h, hr, hz⟩ => ⟨p, vs, e, h, hr.anti fun a q => List.mem_cons_of_mem _ q, by simpa using hz⟩⟩
instance {α : Type} {f : α → PyData} : SqTr (bo f) f := ⟨fun ⟨p, vs, e, _, _, _, h, hr, hz⟩ => ⟨p, vs, e, h, hr, by simpa using hz⟩⟩
theorem oo_cat {e1 e2 : List α → R} {f : α → PyData} [i1 : SqTr e1 f] [i2 : SqTr e2 f] : OpD X rCat e1 e2 (ow f) fun xs ys z => catO xs ys = some z := fun c M σ δ H0 H xs ys x y z Q r q1 q2 hp q => by
  unfold catO at hp
  dsimp only at hp
  split at hp
  · rename_i hz
    cases hp
    obtain ⟨p1, v1, z1, g1, k1, l1⟩ := i1.sq (c := c) q1
    obtain ⟨p2, v2, z2, g2, k2, l2⟩ := i2.sq (c := c) q2
    refine ⟨p1, p2, v1, v2, z1, z2, g1, g2, by rw [k1.length, k2.length, List.length_map, List.length_map]; exact hz, fun p hn => q _ _ (r.new hn) (Sx.new hn) ⟨p, _, rfl, hn, upd_same, ?_, by rw [List.length_map, List.length_append]; exact hz⟩⟩
    rw [List.map_append]
    exact Rps.mono (fun a o e n => by rw [upd_ne (ne_of_none e hn)]; exact e) (fun a q => (List.mem_cons.mp q).elim (fun z => .inr (z ▸ hn)) .inl) _ _ (k1.append k2)
  · cases hp
theorem de_cat {e1 e2 : List α → R} {f : α → PyData} [i1 : SqTr e1 f] [i2 : SqTr e2 f] {m2 : List α → μ β} {k : List α → μ β} (hb : ∀ xs, DE X b δ (m2 xs) e2 fun ys => Mo.bnd (Mo.lft (catO xs ys)) k) (ha : DE X a δ m1 e1 m2) : DE X (.BinOp a .Add b pos) δ m1 (ow f) k :=
  de_binO op_cat oo_cat hb ha
theorem oo_catT {f : α → PyData} : OpD X (rCatA X.K) (vl (dQ f)) (vl (dQ f)) (vl (dQ f)) fun xs ys z => catO xs ys = some z := fun c M σ δ H0 H xs ys x y z Q r ⟨p1, v1, z1, g1, k1, l1⟩ ⟨p2, v2, z2, g2, k2, l2⟩ hp q => by
  unfold catO at hp
  dsimp only at hp
  split at hp
  · rename_i hz
    cases hp
    have hz' : ((xs ++ ys).map f).length ≤ sizeLine := by rw [List.length_map, List.length_append]; exact hz
    have kk := k1.append k2
    rw [← List.map_append] at kk
    refine ⟨p1, p2, v1, v2, z1, z2, g1, g2, by rw [k1.length, k2.length, List.length_map, List.length_map]; exact hz, fun e => ?_, fun _ e => ?_, fun _ _ p hn => ?_⟩
    · subst e
      exact q _ _ r Sx.refl ⟨p2, v2, rfl, g2, by simpa using kk, hz'⟩
    · subst e
      exact q _ _ r Sx.refl ⟨p1, v1, rfl, g1, by simpa using kk, hz'⟩
    · exact q _ _ (r.new hn) (Sx.new hn) ⟨p, _, rfl, .inl (.inl upd_same), Rps.mono (r.sm (Sx.new hn)) (fun a q => .inl q) _ _ kk, hz'⟩
  · cases hp
theorem de_catT {f : α → PyData} {m2 : List α → μ β} {k : List α → μ β} (hb : ∀ xs, DE X b δ (m2 xs) (vl (dQ f)) fun ys => Mo.bnd (Mo.lft (catO xs ys)) k) (ha : DE X a δ m1 (vl (dQ f)) m2) : DE X (.BinOp a .Add b pos) δ m1 (vl (dQ f)) k :=
  de_binO op_catA oo_catT hb ha
/-! ### the draws -/
def takeW (m : Int) : W Int := ⟨fun Q => 0 < m ∧ ∀ r, 0 ≤ r → r < m → Q r, fun h hh => ⟨h.1, fun r a b => hh r (h.2 r a b)⟩⟩
def dropW : W Unit := ⟨fun Q => Q (), fun h hh => hh () h⟩
/-- the body of the law's own _law_take -/
theorem ds_take {m : Int} {dn mn' : Str} {pp : Pos} {p1 p2 p3 p4 p5 p6 p7 p8 p9 p10 p11 p12 p13 p14 : Pos} {i1 i2} (hc : X.calm = true) (hs0 : δ[0]? = some (some R.dr)) (hs1 : δ[1]? = some (some (vl PyData.int m))) (hl : X.mg "len" = none) (hi : X.mg "int" = none) (hgl : Gl X "len") (hgi : Gl X "int")
    (hN0 : X.N[0]? = some dn) (hv0 : Vis X.env.scope dn) (hN1 : X.N[1]? = some mn') (hv1 : Vis X.env.scope mn') (hd0 : (dn == ("__debug__" : Str)) = false) (hcd0 : (dn == ("__classdict__" : Str)) = false) (hd1 : (mn' == ("__debug__" : Str)) = false) (hcd1 : (mn' == ("__classdict__" : Str)) = false)
    (ha1 : starEach [.Name dn p2] X.env = (false, eval (.Name dn p2) X.env) :: starEach [] X.env) (ha2 : starEach [.Call (.Attribute (.Name dn p7) "pop" p8) [] [] p9] X.env = (false, eval (.Call (.Attribute (.Name dn p7) "pop" p8) [] [] p9) X.env) :: starEach [] X.env)
    (hbase : attributeBase (.Name dn p7) "pop" X.env (eval (.Name dn p7) X.env) = eval (.Name dn p7) X.env) (hline : (p8.endLine == p9.line) = true) :
    DS X [.If (.Compare (.Call (.Name "len" p1) [.Name dn p2] [] p3) [.Eq] [.Constant (.int 0) i1 p4] p5) [.Return (some (.Constant (.int 0) i2 p6)) p14] [] pp,
      .Return (some (.BinOp (.Call (.Name "int" p10) [.Call (.Attribute (.Name dn p7) "pop" p8) [] [] p9] [] p11) .Mod (.Name mn' p12) p13)) pos] δ (takeW m) fun r => .rt (vl PyData.int r) := fun Qb => by
  refine pss_weak (pss_cons (ps_if (pt_cmpR op_eq (pe_callB call_len_seq hgl hl PySem.boot_len (pa_cons (pe_var hN0 hv0 hd0 hcd0) pa_nil ha1) (he := ha1)) pe_int (nomark _)) (pss_one (ps_ret pe_int)) pss_nil)
    (pss_one (ps_ret (pe_op op_mod (pe_callTy call_int1 hgi hi (by decide +kernel) (pa_cons (pe_bm0 PySem.F.plainAttrs_list PySem.F.slot_list_pop PySem.F.type_list_pop mt_pop (pe_var hN0 hv0 hd0 hcd0) hbase hline) pa_nil ha2) (he := ha2)) (pe_var hN1 hv1 hd1 hcd1))))) fun D σ H ⟨c, M, r, h, q⟩ => ?_
  obtain ⟨hm, hQ⟩ := h
  obtain ⟨v0, e0, p, e0', hM, ⟨ns, hH, hpos, hsz⟩, hY⟩ := r.slot 0 _ hs0
  obtain ⟨v1, e1, e1'⟩ := r.slot 1 _ hs1
  subst e0'
  cases (show v1 = V.int m from e1')
  refine ⟨_, e0, p, ns.map V.int, rfl, .inl (.inl (.inl hH)), rfl, _, rfl, ?_⟩
  by_cases hz : ns.length = 0
  · have : decide (V.int ((ns.map V.int).length : Int) = V.int 0) = true := by simp [hz]
    rw [this]
    refine iteT ?_
    exact q 0 (hQ 0 (Int.le_refl 0) hm) (.int 0) H ⟨r.ext, fun a y => (r.hy a y).1, rfl⟩
  · have : decide (V.int ((ns.map V.int).length : Int) = V.int 0) = false := by
      rw [List.length_map]
      exact decide_eq_false fun z => hz (by have := V.int.inj z; omega)
    rw [this]
    refine iteF ?_
    -- the rest
    have hlast : (ns.map V.int)[(ns.map V.int).length - 1]? = some (V.int (ns.getLast (fun z => hz (by rw [z]; rfl)))) := by
      rw [List.length_map, List.getElem?_map, ← List.getLast?_eq_getElem?, List.getLast?_eq_getLast (fun z => hz (by rw [z]; rfl))]
      rfl
    refine ⟨_, e0, .inl ⟨rfl, _, .inl (.inl hH)⟩, p, _, _, rfl, rfl, hH, hlast, .inl ⟨_, rfl, _, e1, _, m, rfl, rfl, hm, ?_⟩⟩
    have hH' : upd H p (.lst (ns.map V.int).dropLast) p = some (.lst (ns.dropLast.map V.int)) := by rw [upd_same, List.map_dropLast]
    refine q _ (hQ _ (Int.emod_nonneg _ (by omega)) (Int.emod_lt_of_pos _ hm)) _ _ ⟨fun a o e n => ?_, fun a y => ?_, rfl⟩
    · have ea := r.ext a o e n
      by_cases z : a = p
      · subst z
        rcases hY with y | y
        · exact absurd y n
        · rw [e] at y; cases y
      · rw [upd_ne z]; exact ea
    · by_cases z : a = p
      · subst z
        exact ⟨ns.dropLast, hH', fun n hn => hpos n (List.mem_of_mem_dropLast' hn), by rw [List.length_dropLast]; omega⟩
      · obtain ⟨⟨ns', k1, k2⟩, _⟩ := r.hy a y
        exact ⟨ns', by rw [upd_ne z]; exact k1, k2⟩
end
end DL

/-! DL9: short words for the printed proofs; the end -/
namespace DL
open PySem PySem.Spec L2
section
variable {μ : Type → Type} [Mo μ] {α β γ ρ ε : Type} {X : Cx} {δ : En} {pos p : Pos} {e a b : Expr} {es : List Expr} {st : Stmt} {rest : List Stmt} {x : Str} {m1 : μ β} {φ : β → End}
theorem dv (i : Nat) (f : α → PyData) (v : α) {k : α → μ β} {mm : μ β} (hm : mm = k v) (hs : δ[i]? = some (some (vl f v)) := by rfl) (hN : X.N[i]? = some x := by rfl) (hx : Vis X.env.scope x := by first | exact Or.inl rfl | exact Or.inr (Or.inl rfl) | exact Or.inr (Or.inr rfl))
    (hd : (x == ("__debug__" : Str)) = false := by decide) (hcd : (x == ("__classdict__" : Str)) = false := by decide) : DE X (.Name x pos) δ mm (vl f) k := hm ▸ de_var i v hs ⟨_, rfl⟩ hN hx hd hcd
theorem dvb (i : Nat) (f : α → PyData) (v : List α) {k : List α → μ β} {mm : μ β} (hm : mm = k v) (hs : δ[i]? = some (some (ow f v)) := by rfl) (hN : X.N[i]? = some x := by rfl) (hx : Vis X.env.scope x := by first | exact Or.inl rfl | exact Or.inr (Or.inl rfl) | exact Or.inr (Or.inr rfl))
    (hd : (x == ("__debug__" : Str)) = false := by decide) (hcd : (x == ("__classdict__" : Str)) = false := by decide) : DE X (.Name x pos) δ mm (bo f) k := hm ▸ de_bor i v hs hN hx hd hcd
theorem dvd (i : Nat) {k : Unit → μ β} {mm : μ β} (hm : mm = k ()) (hs : δ[i]? = some (some R.dr) := by rfl) (hN : X.N[i]? = some x := by rfl) (hx : Vis X.env.scope x := by first | exact Or.inl rfl | exact Or.inr (Or.inl rfl) | exact Or.inr (Or.inr rfl))
    (hd : (x == ("__debug__" : Str)) = false := by decide) (hcd : (x == ("__classdict__" : Str)) = false := by decide) : DE X (.Name x pos) δ mm drb k := hm ▸ de_drb i hs hN hx hd hcd
theorem ds_cast {ss : List Stmt} {m m' : μ β} (h : DS X ss δ m φ) (e : m = m') : DS X ss δ m' φ := e ▸ h
theorem k_int {n : Int} {j} {k : Int → μ β} {mm : μ β} (hm : mm = k n) : DE X (.Constant (.int n) j pos) δ mm (vl PyData.int) k := hm ▸ de_int
theorem k_bl {n : Bool} {j} {k : Bool → μ β} {mm : μ β} (hm : mm = k n) : DE X (.Constant (.bool n) j pos) δ mm (vl PyData.bool) k := hm ▸ de_bl
theorem k_str {n : Str} {j} {k : Str → μ β} {mm : μ β} (hm : mm = k n) : DE X (.Constant (.str n) j pos) δ mm (vl PyData.str) k := hm ▸ de_str
theorem k_non {j} {k : Unit → μ β} {mm : μ β} (hm : mm = k ()) : DE X (.Constant .none j pos) δ mm (vl dN) k := hm ▸ de_non
theorem k_gI {n : Int} {t : Tok} {k : Int → μ β} {mm : μ β} (hm : X.mg x = some (.int n t)) (h : mm = k n) (hg : Gl X x := by rfl) (hd : (x == ("__debug__" : Str)) = false := by decide) : DE X (.Name x pos) δ mm (vl PyData.int) k := h ▸ de_globI hm hg hd
theorem k_gS {n : Str} {t : Tok} {k : Str → μ β} {mm : μ β} (hm : X.mg x = some (.str n t)) (h : mm = k n) (hg : Gl X x := by rfl) (hd : (x == ("__debug__" : Str)) = false := by decide) : DE X (.Name x pos) δ mm (vl PyData.str) k := h ▸ de_globS hm hg hd
/-- an own call: no borrowed list, or a result without lists -/
def okNotDr : R → Bool
  | .dr => false
  | _ => true
theorem dcall {ν : Type → Type} [Mo ν] {A : Type} {ps : List Str} {k : Nat} {encs : A → List R} {enc : ρ → R} {mf : A → ν ρ} {mm : μ β} {kk : ρ → μ β} (m : A → μ ρ) (hw : ∀ a Q, Mo.holds (m a) Q → Mo.holds (mf a) Q) {args : A → List R} (G : Gd X.prog X.w X.K X.mg X.base x ps k (spD args (fun a Q => Mo.holds (mf a) Q) enc)) (hr : Room k X.A)
    (ha : DA X (e :: es) δ mm encs fun y => Mo.bnd (m y) kk) (ok : ∀ y, ((encs y).all fresh? = true ∨ NR enc)) (hh : ∀ y, args y = (encs y).map asArg := by intro _; rfl) (nd : ∀ y, (encs y).all okNotDr = true := by intro _; rfl) (one : ∀ y, oneDr ((encs y).map asArg) = true := by intro _; rfl) (okr : ∀ r, okSlot (enc r) := by intro _; trivial)
    (hg : Gl X x := by rfl) (hdb : (x == ("__debug__" : Str)) = false := by decide) (hs : starEach (e :: es) X.env = (false, eval e X.env) :: starEach es X.env := by rfl) (hpl : (backTo pos (starEach es X.env)).any (·.1) = false := by rfl) :
    DE X (.Call (.Name x p) (e :: es) [] pos) δ mm enc kk :=
  de_call G hr (fun y => y) m hh hw ha ok (fun y r q z => by
    have := List.all_eq_true.mp (nd y) r q
    subst z
    cases this) one okr hg hdb hs hpl
theorem wO {A : Type} {mf : A → Option ρ} : ∀ a Q, Mo.holds (mf a) Q → Mo.holds (mf a) Q := fun _ _ h => h
theorem wW {A : Type} {mf : A → W ρ} : ∀ a Q, Mo.holds (mf a) Q → Mo.holds (mf a) Q := fun _ _ h => h
theorem wL {A : Type} {mf : A → Option ρ} : ∀ a Q, Mo.holds (Mo.lft (mf a) : W ρ) Q → Mo.holds (mf a) Q := fun _ _ h => h
/-- the conditions of ds_ifR -/
theorem hF {enc : ρ → R} : ∀ b : ρ, (End.rt (enc b)) = .no ∨ ((End.rt (enc b)) = End.rt (enc b) ∧ ∃ r, End.rt (enc b) = .rt r) := fun b => .inr ⟨rfl, _, rfl⟩
theorem hE {G : γ → En} {enc : ρ → R} : ∀ b, nort (γ := γ) enc b = .no ∨ (nort enc b = nxrt G enc b ∧ ∃ r, nxrt G enc b = .rt r) := fun b => by
  cases b with
  | inl _ => exact .inl rfl
  | inr r => exact .inr ⟨rfl, _, rfl⟩
theorem hNo {enc : ρ → R} : ∀ b, nort (γ := γ) enc b = .no ∨ (nort (γ := γ) enc b = nort enc b ∧ ∃ r, nort (γ := γ) enc b = .rt r) := fun b => by
  cases b with
  | inl _ => exact .inl rfl
  | inr r => exact .inr ⟨rfl, _, rfl⟩
/-! ### range(len(xs)) -/
theorem di_rngL {tg : Expr} {p p2 p3 : Pos} {e1 : List α → R} {f : α → PyData} [i : Sq e1 f] {k : List Int → μ β} (hm : X.mg "range" = none) (hl : X.mg "len" = none) (ha : DE X a δ m1 e1 fun xs => k (rng 0 xs.length)) (hg : Gl X "range" := by rfl) (hg2 : Gl X "len" := by rfl)
    (hs : starEach [.Call (.Name "len" p2) [a] [] p3] X.env = [(false, eval (.Call (.Name "len" p2) [a] [] p3) X.env)] := by rfl) (hs2 : starEach [a] X.env = (false, eval a X.env) :: starEach [] X.env := by rfl) : DI X tg (.Call (.Name "range" p) [.Call (.Name "len" p2) [a] [] p3] [] pos) δ m1 PyData.int k := fun Qb => by
  refine pi_weak (pi_range1 hg hm (pa_cons (pe_callB call_len_seq hg2 hl PySem.boot_len (pa_cons (ha Qb) pa_nil hs2) (he := hs2)) pa_nil hs) hs) fun σ H R ⟨c, M, r, h, q⟩ => ⟨c, M, r, h, fun xs v H' h1 r1 s1 e => ?_⟩
  obtain ⟨p, vs, e, h2, h3, h4⟩ := i.sq (c := c) e
  have el : vs.length = xs.length := by rw [h3.length, List.length_map]
  have hz : xs.length ≤ 16777216 := h4
  refine ⟨p, vs, by rw [e], h2, (vs.length : Int), rfl, by omega, by omega, ?_⟩
  rw [el]
  have hq := q _ (Itr 0 ((xs.length : Int) - 0).toNat) H' h1 r1 s1 (by rw [rng_len]; simpa using h4) itr_of
  simpa using hq
theorem di_rngL2 {tg : Expr} {p p2 p3 p4 : Pos} {n : Int} {j} {e1 : List α → R} {f : α → PyData} [i : Sq e1 f] {k : List Int → μ β} (hn : 0 ≤ n ∧ n < 1000000) (hm : X.mg "range" = none) (hl : X.mg "len" = none) (ha : DE X a δ m1 e1 fun xs => k (rng n xs.length)) (hg : Gl X "range" := by rfl) (hg2 : Gl X "len" := by rfl)
    (hs : starEach [.Constant (.int n) j p4, .Call (.Name "len" p2) [a] [] p3] X.env = [(false, eval (.Constant (.int n) j p4) X.env), (false, eval (.Call (.Name "len" p2) [a] [] p3) X.env)] := by rfl) (hs1 : starEach [.Call (.Name "len" p2) [a] [] p3] X.env = [(false, eval (.Call (.Name "len" p2) [a] [] p3) X.env)] := by rfl) (hs2 : starEach [a] X.env = (false, eval a X.env) :: starEach [] X.env := by rfl) :
    DI X tg (.Call (.Name "range" p) [.Constant (.int n) j p4, .Call (.Name "len" p2) [a] [] p3] [] pos) δ m1 PyData.int k := fun Qb => by
  refine pi_weak (pi_range2 hg hm (pa_cons pe_int (pa_cons (pe_callB call_len_seq hg2 hl PySem.boot_len (pa_cons (ha Qb) pa_nil hs2) (he := hs2)) pa_nil hs1) (hs.trans (by rw [hs1]))) hs hs1) fun σ H R ⟨c, M, r, h, q⟩ => ⟨c, M, r, h, fun xs v H' h1 r1 s1 e => ?_⟩
  obtain ⟨p, vs, e, h2, h3, h4⟩ := i.sq (c := c) e
  have el : vs.length = xs.length := by rw [h3.length, List.length_map]
  have hz : xs.length ≤ 16777216 := h4
  refine ⟨p, vs, by rw [e], h2, n, (vs.length : Int), rfl, by omega, ?_⟩
  rw [el]
  exact q _ _ H' h1 r1 s1 (by rw [rng_len]; unfold sizeLine at h4 ⊢; omega) itr_of
/-- a < b < c of ints, all pure but the first -/
theorem dt_val' {mm : μ β} {k : Bool → μ β} (h : DE X e δ mm (vl PyData.bool) k) (he : ∀ whole, isTrue e X.env whole = (do let v ← whole; standAt e.pos; holding [v] (truthy v)) := by intro _; rfl) : DT X e δ mm k := dt_val h he
end
/-! ### frozen stores -/
section
variable {μ : Type → Type} [Mo μ] {α β γ ρ ε : Type} {X : Cx} {δ : En} {pos p : Pos} {e a b : Expr} {es : List Expr} {st : Stmt} {rest : List Stmt} {x : Str} {m1 : μ β} {φ : β → End}
variable {elt tg iter cnd : Expr} {scope : Scope} {own : List (Str × Nat)} {fy : γ → PyData} {g : TG} {mm : μ β} {k : List γ → μ β}
theorem ds_setLcF {ifs : List Expr} {y : Str} {py spos : Pos} (i : Nat) (hc : X.calm = true) (hN : X.N.Nodup) (ok : blkC X.N X.env.scope scope own = true) (hr : ∀ ys, DS X rest (δ.set i (some (vl (dL fy) ys))) (k ys) φ)
    (hg : ∀ (s : Shared) (H : Hp) (C : Addr) (cl : List (Str × Addr)) (fp : List Addr), PG (X.blk s H scope (compEnvC scope cl C X.env) fp) tg g)
    (h : DC X elt tg iter ifs scope own g δ mm fy k) (hk : X.env.scope.kind = .function := by rfl) (hy : X.N[i]? = some y := by rfl) (hyl : X.env.scope.names.lookup y = some .local := by rfl) (hl : (py.line == pos.line) = true := by rfl)
    (ha : (scope.names.any fun (n, k) => n == y && (k == .local || k == .cell)) = false := by decide +kernel) (hs : ∀ x, foldedSetIterable iter X.env x = pure x := by intro _; rfl) : DS X (.Assign [.Name y py] (.ListComp elt [⟨tg, iter, ifs, 0⟩] scope pos) spos :: rest) δ mm φ := fun Qb => by
  have hr' : PSs X rest fun D σ H => ∃ ys c M, RE X.K c M σ H (δ.set i (some (vl (dL fy) ys))) ∧ Mo.holds (k ys) Qb ∧ ∀ b, Qb b → ER X.K c D (φ b) := ⟨fun pins s σ H D I ⟨g, q⟩ => (hr g Qb).run pins s σ H D I q⟩
  obtain ⟨wi, tt, te, h1, h2, h3, h4⟩ := h Qb
  refine pss_weak (pss_cons (ps_setLc hc hN hy hyl (sw_true hk hyl hl ha) h1 (blkOk_by ok) hg h2 h3 hs) hr') fun D σ H ⟨c, M, r, hm, q⟩ => ?_
  exact h4 σ H (fun v H1 => ∃ ys c M, RE X.K c M (σ.set i (some v)) H1 (δ.set i (some (vl (dL fy) ys))) ∧ Mo.holds (k ys) Qb ∧ ∀ b, Qb b → ER X.K c D (φ b)) ⟨c, M, r, hm, fun ys v H' k1 r1 s1 ⟨p, vs, z1, z2, z3, z4, z5⟩ =>
    ⟨ys, c, M, r1.setV (d := .list (ys.map fy)) ⟨p, vs, z1, .inl ⟨r.notM z2, .inl z3⟩, z4.anti fun a q => List.mem_cons_of_mem _ q, z5⟩ i, k1, q⟩⟩
theorem ds_setLcFL {ifs : List Expr} {y : Str} {py spos : Pos} {v : List γ} (i : Nat) (hc : X.calm = true) (hN : X.N.Nodup) (ok : blkC X.N X.env.scope scope own = true) (hr : ∀ ys, DS X rest (δ.set i (some (vl (dL fy) ys))) (k ys) φ)
    (hg : ∀ (s : Shared) (H : Hp) (C : Addr) (cl : List (Str × Addr)) (fp : List Addr), PG (X.blk s H scope (compEnvC scope cl C X.env) fp) tg g)
    (h : ∀ k : List γ → μ β, DC X elt tg iter ifs scope own g δ (k v) fy k) (hk : X.env.scope.kind = .function := by rfl) (hy : X.N[i]? = some y := by rfl) (hyl : X.env.scope.names.lookup y = some .local := by rfl) (hl : (py.line == pos.line) = true := by rfl)
    (ha : (scope.names.any fun (n, k) => n == y && (k == .local || k == .cell)) = false := by decide +kernel) (hs : ∀ x, foldedSetIterable iter X.env x = pure x := by intro _; rfl) : DS X (.Assign [.Name y py] (.ListComp elt [⟨tg, iter, ifs, 0⟩] scope pos) spos :: rest) δ (letD v k) φ :=
  ds_setLcF i hc hN ok hr hg (h k) hk hy hyl hl ha hs
end
def dD : PyData → PyData := fun d => d
def dT0 : Unit → PyData := fun _ => .tuple []
def dT1 {α : Type} (f : α → PyData) : α → PyData := fun a => .tuple [f a]
def dT5 {α β γ ε ζ : Type} (f : α → PyData) (g : β → PyData) (h : γ → PyData) (i : ε → PyData) (j : ζ → PyData) : α × β × γ × ε × ζ → PyData := fun p => .tuple [f p.1, g p.2.1, h p.2.2.1, i p.2.2.2.1, j p.2.2.2.2]
instance : NL dT0 := ⟨fun _ => rfl⟩
instance {α : Type} {f : α → PyData} [NL f] : NL (dT1 f) := ⟨fun p => by simp [dT1, noLst, noLsts, NL.nl (f := f)]⟩
instance {α β γ ε ζ : Type} {f : α → PyData} {g : β → PyData} {h : γ → PyData} {i : ε → PyData} {j : ζ → PyData} [NL f] [NL g] [NL h] [NL i] [NL j] : NL (dT5 f g h i j) := ⟨fun p => by simp [dT5, noLst, noLsts, NL.nl (f := f), NL.nl (f := g), NL.nl (f := h), NL.nl (f := i), NL.nl (f := j)]⟩
/-! ### where a def stands -/
theorem at_mk {K : PySem.W.Frag} {h : Heap} {mg : Str → Option Value} {x : Str} {st : Stmt} {ps : List Str} {f : Addr} {oc kV doc pm cd ct : Value} {od an : Option Addr} {sl : Array (Option Value)} (X : K.In h) (G : h.Ns mainGlobals mg) (a : PySem.W.nsIn K mainGlobals x = some (some (.ref f)))
    (l : K.lookup f = some ⟨oc, od, .func (PySem.W.fnOf x x (defArgs st) (defBody st) (defScope st) .none kV doc pm an cd ct), sl⟩) (c : PySem.W.codeIn K cd x = true) (k : PySem.W.keepIn K (.ref f) = true)
    (b : ∀ (kV doc pm : Value) (an : Option Addr) (cdv ct : Value) (us : List Value), us.length = ps.length → bindArgs (PySem.W.fnOf x x (defArgs st) (defBody st) (defScope st) .none kV doc pm an cdv ct) ⟨us, []⟩ = pure (ps.zip us)) : At K mg x st ps := by
  have F := fun_mk l c k
  exact ⟨f, _, PySem.W.mg_of X G a, F, F.binds b⟩
end DL

/-! DL10: the rules that gen.py names -/
namespace DL
open PySem PySem.Spec L2
/-! ### data seen as another type -/
theorem coe_map {α β : Type} {f : α → PyData} {g : β → PyData} {c : α → β} (h : ∀ a, f a = g (c a)) : ∀ xs : List α, xs.map f = (xs.map c).map g := fun xs => by
  rw [List.map_map]
  exact List.map_congr_left fun a _ => h a
theorem coe_dQ {α β : Type} {f : α → PyData} {g : β → PyData} {c : α → β} (h : ∀ a, f a = g (c a)) (xs : List α) : dQ f xs = dQ g (xs.map c) := congrArg PyData.tuple (coe_map h xs)
theorem coe_dL {α β : Type} {f : α → PyData} {g : β → PyData} {c : α → β} (h : ∀ a, f a = g (c a)) (xs : List α) : dL f xs = dL g (xs.map c) := congrArg PyData.list (coe_map h xs)
theorem vl_of {α β : Type} {f : α → PyData} {g : β → PyData} {c : α → β} (h : ∀ a, f a = g (c a)) : ∀ a, vl f a = vl g (c a) := fun a => congrArg R.val (h a)
theorem ow_map {α β : Type} {f : α → PyData} {g : β → PyData} {c : α → β} (h : ∀ a, f a = g (c a)) : ∀ xs : List α, ow f xs = ow g (xs.map c) := fun xs => congrArg R.own (coe_map h xs)
theorem bo_map {α β : Type} {f : α → PyData} {g : β → PyData} {c : α → β} (h : ∀ a, f a = g (c a)) : ∀ xs : List α, bo f xs = bo g (xs.map c) := fun xs => congrArg R.bor (coe_map h xs)
theorem hu64 {k : Nat} {A : Around} (r : Room k A) : A.units + 64 < cLine := by have := r.un; omega
theorem hu65 {k : Nat} {A : Around} (r : Room k A) : A.units + 65 < cLine := by have := r.un; omega
theorem hu66 {k : Nat} {A : Around} (r : Room k A) : A.units + 80 < cLine := by have := r.un; omega
/-- a bound on turns that no run comes to -/
def fuel : Nat := 2 ^ 20000
abbrev RN : Nat := 10
def let2 {α β γ : Type} (a : α) (b : β) (k : α → β → γ) : γ := k a b
def let3 {α β γ δ : Type} (a : α) (b : β) (c : γ) (k : α → β → γ → δ) : δ := k a b c
section
variable {μ : Type → Type} [Mo μ] {α β γ ρ ε : Type} {X : Cx} {δ : En} {pos p : Pos} {e a b : Expr} {es : List Expr} {st : Stmt} {sts rest : List Stmt} {x : Str} {m1 : μ β} {φ : β → End} {k : Int → μ β} {kb : Bool → μ β}
theorem ds_none {φ : β → End} : DS (μ := Option) X sts δ (none : Option β) φ := fun Qb => pss_weak pss_never fun D σ H ⟨c, M, r, ⟨a, e, _⟩, q⟩ => nomatch e
theorem ds_setN {enc : α → R} {mm : μ β} {k : α → μ β} {pos' : Pos} (i : Nat) (hN : X.N.Nodup) (hr : ∀ y, DS X rest (δ.set i (some (enc y))) (k y) φ) (he : DE X e δ mm enc fun y => letD y k) (hi : X.N[i]? = some x := by rfl)
    (hx : Loc X.env.scope x := by first | exact Or.inl rfl | exact Or.inr rfl) (ok : ∀ y, okSlot (enc y) := by intro _; trivial) (hs : swapsWith e (some (.Name x pos')) pos.line X.env = pure false := by rfl)
    (hf : X.fn x = true ∨ X.env.scope.names.lookup x = some .local := by first | exact .inl rfl | exact .inr rfl) : DS X (.Assign [.Name x pos'] e pos :: rest) δ mm φ := ds_set i hN hr he hi hx ok hs hf
theorem ds_augN {op : Operator} {g : Int → Int → Int} {pos' : Pos} (ho : PIp X op (ipI g)) (i : Nat) (v : Int) (hN : X.N.Nodup) (hs : δ[i]? = some (some (vl PyData.int v))) (hr : ∀ y, DS X rest (δ.set i (some (vl PyData.int y))) (k y) φ) (ha : DE X a δ m1 (vl PyData.int) fun y => letD (g v y) k)
    (hi : X.N[i]? = some x := by rfl) (hx : Loc X.env.scope x := by first | exact Or.inl rfl | exact Or.inr rfl) (hf : X.fn x = true ∨ X.env.scope.names.lookup x = some .local := by first | exact .inl rfl | exact .inr rfl) : DS X (.AugAssign (.Name x pos') op a pos :: rest) δ m1 φ := ds_augI ho i v hN hs hr ha hi hx hf
theorem ip_mulc {n : Int} (hn : -(2 ^ 64) < n ∧ n < 2 ^ 64) : PIp X .Mult fun x y H Q => ∃ i, x = .int i ∧ y = .int n ∧ Q (.int (i * n)) H := by
  intro pins s σ H x y v u Q I r1 r2 h
  obtain ⟨i, e1, e2, q⟩ := h
  exact iop_mul pins s σ H x y v u Q I r1 r2 ⟨i, n, e1, e2, .inr hn, q⟩
theorem ds_augMulC {n : Int} {j} {pos' pos2 : Pos} (i : Nat) (v : Int) (hN : X.N.Nodup) (hs : δ[i]? = some (some (vl PyData.int v))) (hn : -(2 ^ 64) < n ∧ n < 2 ^ 64) (hr : ∀ y, DS X rest (δ.set i (some (vl PyData.int y))) (k y) φ)
    (hi : X.N[i]? = some x := by rfl) (hx : Loc X.env.scope x := by first | exact Or.inl rfl | exact Or.inr rfl) (hf : X.fn x = true ∨ X.env.scope.names.lookup x = some .local := by first | exact .inl rfl | exact .inr rfl) : DS X (.AugAssign (.Name x pos') .Mult (.Constant (.int n) j pos2) pos :: rest) δ (letD (v * n) k) φ := fun Qb => by
  refine pss_weak (pss_cons (ps_aug hN hi hx pe_int (ip_mulc hn) hf) (hr (v * n) Qb)) fun D σ H ⟨c, M, r, h, q⟩ => ?_
  obtain ⟨w, e1, hv⟩ := r.slot i _ hs
  exact ⟨w, e1, v, hv, rfl, c, M, r.setV (d := .int (v * n)) rfl i, h, q⟩
section
variable {elt tg iter cnd : Expr} {scope : Scope} {own : List (Str × Nat)} {fy : γ → PyData} {g : TG} {mm : μ β} {kc : List γ → μ β}
theorem ds_setLcN {ifs : List Expr} {y : Str} {py spos : Pos} (i : Nat) (hc : X.calm = true) (hN : X.N.Nodup) (ok : blkC X.N X.env.scope scope own = true) (hr : ∀ ys, DS X rest (δ.set i (some (ow fy ys))) (kc ys) φ)
    (hg : ∀ (s : Shared) (H : Hp) (C : Addr) (cl : List (Str × Addr)) (fp : List Addr), PG (X.blk s H scope (compEnvC scope cl C X.env) fp) tg g)
    (h : DC X elt tg iter ifs scope own g δ mm fy fun ys => letD ys kc) (hk : X.env.scope.kind = .function := by rfl) (hy : X.N[i]? = some y := by rfl) (hyl : X.env.scope.names.lookup y = some .local := by rfl) (hl : (py.line == pos.line) = true := by rfl)
    (ha : (scope.names.any fun (n, k) => n == y && (k == .local || k == .cell)) = false := by decide +kernel) (hs : ∀ x, foldedSetIterable iter X.env x = pure x := by intro _; rfl) : DS X (.Assign [.Name y py] (.ListComp elt [⟨tg, iter, ifs, 0⟩] scope pos) spos :: rest) δ mm φ :=
  ds_setLc i hc hN ok hr hg h hk hy hyl hl ha hs
theorem ds_setLcFN {ifs : List Expr} {y : Str} {py spos : Pos} (i : Nat) (hc : X.calm = true) (hN : X.N.Nodup) (ok : blkC X.N X.env.scope scope own = true) (hr : ∀ ys, DS X rest (δ.set i (some (vl (dL fy) ys))) (kc ys) φ)
    (hg : ∀ (s : Shared) (H : Hp) (C : Addr) (cl : List (Str × Addr)) (fp : List Addr), PG (X.blk s H scope (compEnvC scope cl C X.env) fp) tg g)
    (h : DC X elt tg iter ifs scope own g δ mm fy fun ys => letD ys kc) (hk : X.env.scope.kind = .function := by rfl) (hy : X.N[i]? = some y := by rfl) (hyl : X.env.scope.names.lookup y = some .local := by rfl) (hl : (py.line == pos.line) = true := by rfl)
    (ha : (scope.names.any fun (n, k) => n == y && (k == .local || k == .cell)) = false := by decide +kernel) (hs : ∀ x, foldedSetIterable iter X.env x = pure x := by intro _; rfl) : DS X (.Assign [.Name y py] (.ListComp elt [⟨tg, iter, ifs, 0⟩] scope pos) spos :: rest) δ mm φ :=
  ds_setLcF i hc hN ok hr hg h hk hy hyl hl ha hs
end
theorem ds_par2N {x y : Str} {e1 : α → R} {e2 : γ → R} {k2 : α → γ → μ β} {m2 : α → μ β} {px py pt : Pos} {kt k2' pt2} (i j : Nat) (hc : X.calm = true) (hN : X.N.Nodup) (hij : i ≠ j) (hr : ∀ u v, DS X rest ((δ.set i (some (e1 u))).set j (some (e2 v))) (k2 u v) φ) (hb : ∀ u, DE X b δ (m2 u) e2 fun v => let2 u v k2) (ha : DE X a δ m1 e1 m2)
    (hw : swappedStores [.Tuple [.Name x px, .Name y py] kt pt] (.Tuple [a, b] k2' pt2) X.env = pure (some [x, y]) := by rfl) (hi : X.N[i]? = some x := by rfl) (hj : X.N[j]? = some y := by rfl) (hx : X.env.scope.names.lookup x = some .local := by rfl) (hy : X.env.scope.names.lookup y = some .local := by rfl)
    (ok1 : ∀ y, okSlot (e1 y) := by intro _; trivial) (ok2 : ∀ y, okSlot (e2 y) := by intro _; trivial) (hs : swapsWithSole [.Tuple [.Name x px, .Name y py] kt pt] (.Tuple [a, b] k2' pt2) pos.line X.env = pure false := by rfl)
    (hst : starEach [a, b] X.env = (false, eval a X.env) :: starEach [b] X.env := by rfl) (hst2 : starEach [b] X.env = (false, eval b X.env) :: starEach [] X.env := by rfl) :
    DS X (.Assign [.Tuple [.Name x px, .Name y py] kt pt] (.Tuple [a, b] k2' pt2) pos :: rest) δ m1 φ := ds_par2 i j hc hN hij hr hb ha hw hi hj hx hy ok1 ok2 hs hst hst2
theorem ds_par3N {x y z : Str} {cc : Expr} {f1 : α → PyData} {f2 : γ → PyData} {f3 : ε → PyData} {k2 : α → γ → ε → μ β} {m2 : α → μ β} {m3 : α → γ → μ β} {px py pz pt : Pos} {kt k2' pt2} (i j l : Nat) (hc : X.calm = true) (hN : X.N.Nodup) (hij : i ≠ j) (hil : i ≠ l) (hjl : j ≠ l)
    (hr : ∀ u v w, DS X rest (((δ.set i (some (vl f1 u))).set j (some (vl f2 v))).set l (some (vl f3 w))) (k2 u v w) φ) (hd : ∀ u v, DE X cc δ (m3 u v) (vl f3) fun w => let3 u v w k2) (hb : ∀ u, DE X b δ (m2 u) (vl f2) (m3 u)) (ha : DE X a δ m1 (vl f1) m2)
    (hw : swappedStores [.Tuple [.Name x px, .Name y py, .Name z pz] kt pt] (.Tuple [a, b, cc] k2' pt2) X.env = pure (some [x, y, z]) := by rfl) (hi : X.N[i]? = some x := by rfl) (hj : X.N[j]? = some y := by rfl) (hl : X.N[l]? = some z := by rfl) (hx : X.env.scope.names.lookup x = some .local := by rfl) (hy : X.env.scope.names.lookup y = some .local := by rfl) (hz : X.env.scope.names.lookup z = some .local := by rfl)
    (hs : swapsWithSole [.Tuple [.Name x px, .Name y py, .Name z pz] kt pt] (.Tuple [a, b, cc] k2' pt2) pos.line X.env = pure false := by rfl)
    (hst : starEach [a, b, cc] X.env = (false, eval a X.env) :: starEach [b, cc] X.env := by rfl) (hst2 : starEach [b, cc] X.env = (false, eval b X.env) :: starEach [cc] X.env := by rfl) (hst3 : starEach [cc] X.env = (false, eval cc X.env) :: starEach [] X.env := by rfl) :
    DS X (.Assign [.Tuple [.Name x px, .Name y py, .Name z pz] kt pt] (.Tuple [a, b, cc] k2' pt2) pos :: rest) δ m1 φ := ds_par3 i j l hc hN hij hil hjl hr hd hb ha hw hi hj hl hx hy hz hs hst hst2 hst3
theorem ds_unpN {tg : Expr} {f : α → PyData} {up : En → α → En} {vs : List Nat} {g : TG} {k2 : α → μ β} (hdg : DG X.K f up vs g) (hpg : PG X tg g) (hr : ∀ y, DS X rest (up δ y) (k2 y) φ) (ha : DE X e δ m1 (vl f) fun y => letD y k2)
    (hs : swapsWithSole [tg] e pos.line X.env = pure false := by rfl) (hw : swappedStores [tg] e X.env = pure none := by rfl) (h1 : (assignEach [tg] X.env).map (·.2) = [assign tg X.env] := by rfl) : DS X (.Assign [tg] e pos :: rest) δ m1 φ := ds_unp hdg hpg hr ha hs hw h1
/-- a branch that surely returns, where another may fall through -/
theorem ds_noE {G : γ → En} {enc : ρ → R} {mm : μ (γ ⊕ ρ)} (h : DS X sts δ mm (nort enc)) : DS X sts δ mm (nxrt G enc) := fun Qb => pss_weak (h Qb) fun D σ H ⟨c, M, r, hm, q⟩ => ⟨c, M, r, hm, fun b hb => by
  have := q b hb
  cases b with
  | inl _ => trivial
  | inr r => exact this⟩
/-! ### a sequence of known length as a tuple -/
def un2 {α : Type} : List α → Option (α × α)
  | [a, b] => some (a, b)
  | _ => none
def un3 {α : Type} : List α → Option (α × α × α)
  | [a, b, c] => some (a, b, c)
  | _ => none
def un4 {α : Type} : List α → Option (α × α × α × α)
  | [a, b, c, d] => some (a, b, c, d)
  | _ => none
theorem de_par {e1 : α → R} {e2 : γ → R} {f : α → Option γ} {k : γ → μ β} (h : ∀ a z, f a = some z → e1 a = e2 z) (ha : DE X e δ m1 e1 fun y => Mo.bnd (Mo.lft (f y)) k) : DE X e δ m1 e2 k := fun Qb =>
  pe_weak (ha Qb) fun σ H Q ⟨c, M, r, hm, q⟩ => ⟨c, M, r, hm, fun a v H' h1 h2 h3 h4 => by
    obtain ⟨z, e, q2⟩ := Mo.hlft (Mo.hbnd h1)
    exact q z v H' q2 h2 h3 (h a z e ▸ h4)⟩
theorem de_un2 {f : α → PyData} {k : α × α → μ β} (ha : DE X e δ m1 (vl (dQ f)) fun y => Mo.bnd (Mo.lft (un2 y)) k) : DE X e δ m1 (vl (dT2 f f)) k := de_par (fun a z h => by
  unfold un2 at h
  split at h
  · cases h; rfl
  · cases h) ha
theorem de_un3 {f : α → PyData} {k : α × α × α → μ β} (ha : DE X e δ m1 (vl (dQ f)) fun y => Mo.bnd (Mo.lft (un3 y)) k) : DE X e δ m1 (vl (dT3 f f f)) k := de_par (fun a z h => by
  unfold un3 at h
  split at h
  · cases h; rfl
  · cases h) ha
theorem de_un4 {f : α → PyData} {k : α × α × α × α → μ β} (ha : DE X e δ m1 (vl (dQ f)) fun y => Mo.bnd (Mo.lft (un4 y)) k) : DE X e δ m1 (vl (dT4 f f f f)) k := de_par (fun a z h => by
  unfold un4 at h
  split at h
  · cases h; rfl
  · cases h) ha
/-- what may be None, and is not -/
theorem de_get {f : α → PyData} {k : α → μ β} (ha : DE X e δ m1 (vl (dO f)) fun y => Mo.bnd (Mo.lft y) k) : DE X e δ m1 (vl f) k := de_par (f := fun y : Option α => y) (fun a z h => by cases h; rfl) ha
/-! ### data of no known type -/
def lenD : PyData → Option Int
  | .list xs => some xs.length
  | .tuple xs => some xs.length
  | _ => none
def ixD (d : PyData) (i : Int) : Option PyData := match d with
  | .list xs => L2.atI xs i
  | .tuple xs => L2.atI xs i
  | _ => none
theorem de_lenD (hm : X.mg "len" = none) (ha : DE X a δ m1 (vl dD) fun d => Mo.bnd (Mo.lft (lenD d)) k) (hg : Gl X "len" := by rfl) (hs : starEach [a] X.env = (false, eval a X.env) :: starEach [] X.env := by rfl) : DE X (.Call (.Name "len" p) [a] [] pos) δ m1 (vl PyData.int) k :=
  de_callBO (f := fun y : PyData × Unit => lenD y.1) call_len_seq (fun c M σ δ H0 H y z vs Q r rrs hz q => by
    obtain ⟨v, t, e, q1, q2⟩ := rrs
    cases (show _ = _ from q2); subst e
    dsimp only at hz
    have q1' : Rp X.K H M y.1 v := q1
    unfold lenD at hz
    split at hz
    · rename_i xs he
      rw [he] at q1'
      obtain ⟨a, ws, e, h1, h2, h3⟩ := q1'
      cases hz
      refine ⟨a, ws, by rw [e], .inl (h1.elim (fun z => .inl z.2) .inr), q _ H r Sx.refl ?_⟩
      show _ = _
      rw [h2.length]
    · rename_i xs he
      rw [he] at q1'
      obtain ⟨a, ws, e, h1, h2, h3⟩ := q1'
      cases hz
      refine ⟨a, ws, by rw [e], .inr h1, q _ H r Sx.refl ?_⟩
      show _ = _
      rw [h2.length]
    · cases hz) hm PySem.boot_len (da_cons (fun _ => da_nil) ha hs) hg (he := hs)
theorem oi_D : OpD X (fun x y H Q => rIxL X.K x y H Q ∨ rIxT X.K x y H Q) (vl dD) (vl PyData.int) (vl dD) fun d n z => ixD d n = some z := fun c M σ δ H0 H d n x y z Q r q1 q2 hp q => by
  have q1' : Rp X.K H M d x := q1
  have hp' : ixD d n = some z := hp
  unfold ixD at hp'
  split at hp'
  · obtain ⟨a, ws, e, h1, h2, h3⟩ := q1'
    obtain ⟨v, g1, g2⟩ := h2.atI hp'
    exact .inl ⟨a, ws, n, v, e, q2, h1.elim (fun z => .inl z.2) .inr, g1, q v H r Sx.refl g2⟩
  · obtain ⟨a, ws, e, h1, h2, h3⟩ := q1'
    obtain ⟨v, g1, g2⟩ := h2.atI hp'
    exact .inr ⟨a, ws, n, v, e, q2, h1, g1, q v H r Sx.refl g2⟩
  · cases hp'
theorem de_ixD {m2 : PyData → μ β} {k : PyData → μ β} (hb : ∀ xs, DE X b δ (m2 xs) (vl PyData.int) fun n => Mo.bnd (Mo.lft (ixD xs n)) k) (ha : DE X a δ m1 (vl dD) m2) (hs : PlainIx b := by exact fun _ _ => rfl) : DE X (.Subscript a b pos) δ m1 (vl dD) k :=
  ix_run oi_D (ix_list.or ix_tup) (fun Qb x y h => Mo.hlft (Mo.hbnd h)) hb ha hs
/-! ### in -/
theorem inV_int (i : Int) : ∀ xs : List Int, inV (.int i) (xs.map V.int) = decide (i ∈ xs)
  | [] => rfl
  | x :: xs => by
    have ih := inV_int i xs
    unfold inV at ih ⊢
    rw [List.map_cons, List.any_cons, ih]
    have e1 : eqV (.int x) (.int i) = decide (x = i) := by
      show (x == i) = _
      by_cases h : x = i <;> simp [h]
    rw [e1]
    by_cases h : x = i
    · subst h; simp
    · have h' : i ≠ x := fun z => h z.symm
      simp [h, h']
theorem flat_ints : ∀ xs : List Int, (xs.map V.int).all flatV = true
  | [] => rfl
  | x :: xs => by rw [List.map_cons, List.all_cons, flat_ints xs]; rfl
theorem oc_inI {e2 : List Int → R} [i : Sq e2 PyData.int] : OpD X (rIn X.K false) (vl PyData.int) e2 (vl PyData.bool) fun a xs z => z = decide (a ∈ xs) := fun c M σ δ H0 H a xs x y z Q r q1 q2 hp q => by
  obtain ⟨p, vs, e, h1, h2, h3⟩ := i.sq (c := c) q2
  have := h2.toInts
  subst this
  cases (show x = V.int a from q1)
  subst hp
  exact ⟨p, _, e, h1, rfl, flat_ints xs, q _ H r Sx.refl (by show _ = _; simp [inV_int])⟩
theorem oc_notinI {e2 : List Int → R} [i : Sq e2 PyData.int] : OpD X (rIn X.K true) (vl PyData.int) e2 (vl PyData.bool) fun a xs z => z = !decide (a ∈ xs) := fun c M σ δ H0 H a xs x y z Q r q1 q2 hp q => by
  obtain ⟨p, vs, e, h1, h2, h3⟩ := i.sq (c := c) q2
  have := h2.toInts
  subst this
  cases (show x = V.int a from q1)
  subst hp
  exact ⟨p, _, e, h1, rfl, flat_ints xs, q _ H r Sx.refl (by show _ = _; simp [inV_int])⟩
/-! ### chains of ints -/
structure Ch (X : Cx) (op : CmpOp) (P : Int → Int → Prop) [∀ i j, Decidable (P i j)] : Prop where
  ok : OpR X (compareOp op) (rI0 fun i j => .bl (decide (P i j)))
theorem ch_lt : Ch X .Lt fun i j => i < j := ⟨op_lt⟩
theorem ch_le : Ch X .LtE fun i j => i ≤ j := ⟨op_le⟩
theorem ch_gt : Ch X .Gt fun i j => i > j := ⟨op_gt⟩
theorem ch_ge : Ch X .GtE fun i j => i ≥ j := ⟨op_ge⟩
theorem de_known {v : Int} (kk : μ β) (h : ∀ k : Int → μ β, DE X e δ (k v) (vl PyData.int) k) (Qb : β → Prop) : PE X e fun σ H Q => ∃ c M, RE X.K c M σ H δ ∧ Mo.holds kk Qb ∧ ∀ H', RE X.K c M σ H' δ → Sx σ δ H H' → Q (.int v) H' :=
  pe_weak (h (fun y => if y = v then kk else Mo.lft none) Qb) fun σ H Q ⟨c, M, r, hm, q⟩ => ⟨c, M, r, by rw [if_pos rfl]; exact hm, fun a u H' h1 h2 h3 h4 => by
    by_cases e : a = v
    · subst e
      rw [show u = V.int a from h4]
      exact q H' h2 h3
    · have h1 : Mo.holds (if a = v then kk else Mo.lft none) Qb := h1
      rw [if_neg e] at h1
      obtain ⟨_, z, _⟩ := Mo.hlft h1
      cases z⟩
/-! ### the draws, made -/
def drawsW (o : Option (List Int)) : W Unit := ⟨fun Q => (∃ ds, o = some ds ∧ ∀ d ∈ ds, (0 : Int) ≤ d) ∧ Q (), fun h hh => ⟨h.1, hh () h.2⟩⟩
end
theorem gd_draws {P : Program} {w : World} {K : PySem.W.Frag} {mg : Str → Option Value} {base : Heap} {x : Str} {ps : List Str} {k : Nat} {A : Type} {args : A → List R} {mf : A → Option (List Int)} (G : Gd P w K mg base x ps k (spD args (fun a Q => Mo.holds (mf a) Q) (ow PyData.int))) :
    Gd P w K mg base x ps k (spD args (fun a Q => Mo.holds (drawsW (mf a)) Q) dr) := by
  obtain ⟨f, fd, h1, h2, h3, h4, h5⟩ := G.ex
  refine ⟨f, fd, h1, h2, h3, h4.imp fun vs H Q E ⟨a, c, Qb, ac, ⟨⟨ds, e, pos⟩, hq⟩, q⟩ => ⟨a, c, fun r => r = ds, ac, ⟨ds, e, rfl⟩, fun r v H' hr ⟨t1, t2, t3⟩ => ?_⟩, h5⟩
  subst hr
  obtain ⟨p, ws, z1, z2, z3, z4, z5⟩ := t3
  refine q () v H' hq ⟨t1, t2, p, z1, z2, r, ?_, pos, by simpa using z5⟩
  rw [z3, z4.toInts]
end DL

/-! DL11: the end of a law -/
namespace DL
open PySem PySem.Spec L2
def spL (n : Nat) (K : PySem.W.Frag) : Sp := fun vs H Q _ => ∃ (a : Addr) (ns : List Int), vs = [.ref a] ∧ SqL K H a (ns.map V.int) ∧ ns.length ≤ n ∧ ∀ H', Q (.bl true) H'
theorem c_mk {α : Type} {mg : Str → Option Value} {x : Str} {v : Value} {f : α → Value} (h : mg x = some v) (e : ∃ t, v = f t) : ∃ t, mg x = some (f t) := by
  obtain ⟨t, rfl⟩ := e
  exact ⟨t, h⟩
theorem rps_ints {K : PySem.W.Frag} {H : Hp} {M : List Addr} : ∀ ns : List Int, Rps K H M (ns.map PyData.int) (ns.map V.int)
  | [] => rfl
  | n :: ns => ⟨.int n, ns.map V.int, rfl, rfl, rps_ints ns⟩
theorem law_end {P : Program} {w : World} {K : PySem.W.Frag} {h : Heap} {mg : Str → Option Value} {fa : Addr} {st : Stmt} {k n : Nat} {mf : List Int → W Bool} (hn : n ≤ sizeLine) (X : K.In h) (G : h.Ns mainGlobals mg) (hfa : mg "law" = some (.ref fa)) (T : At K mg "law" st ["script"])
    (b : ∀ (kV doc pm : Value) (an : Option Addr) (cdv ct : Value) (us : List Value), us.length = (["script"] : List Str).length → bindArgs (PySem.W.fnOf "law" "law" (defArgs st) (defBody st) (defScope st) .none kV doc pm an cdv ct) ⟨us, []⟩ = pure ((["script"] : List Str).zip us))
    (g : ∀ base : Heap, K.In base → base.Ns mainGlobals mg → Gd P w K mg base "law" ["script"] k (spD (A := (List Int) × Unit) (fun a => [vl (dL PyData.int) a.1]) (fun a Q => Mo.holds (mf a.1) Q) (vl PyData.bool)))
    (hm : ∀ ns : List Int, ns.length ≤ n → (mf ns).run fun b => b = true) :
    ∃ fd : FuncData, (∀ (s : Shared) (v : Value), BindsTo s fd ⟨[v], []⟩ [("script", v)]) ∧ ∀ base : Heap, K.In base → base.Ns mainGlobals mg → FnOk P w K mg base CX0 k fa fd ["script"] (spL n K) := by
  obtain ⟨f, fd, h1, F, hB⟩ := T.ex
  obtain ⟨oc, od, kV, doc, pm, an, cdv, ct, osl, e, lk, _⟩ := F.ex
  have ef : f = fa := by
    have := h1.symm.trans hfa
    cases this; rfl
  subst ef
  refine ⟨fd, fun s v => .of_eq (by rw [e]; exact b kV doc pm an cdv ct [v] rfl), fun base hb1 hb2 => ?_⟩
  obtain ⟨f', fd', g1, g2, g3, g4, oc', od', osl', g5⟩ := (g base hb1 hb2).ex
  have ef : f' = f := by
    have := g1.symm.trans h1
    cases this; rfl
  subst ef
  have e2 : fd' = fd := by
    have := g5.symm.trans lk
    cases this; rfl
  subst e2
  refine g4.imp fun vs H Q E ⟨a, ns, e, hS, hl, q⟩ => ?_
  subst e
  refine ⟨(ns, ()), ⟨H, [], fun _ => False⟩, fun b => b = true, ⟨rfl, ⟨.ref a, [], rfl, ?_, rfl⟩, (fun _ z => nomatch z), (fun _ z => False.elim z), rfl⟩, hm ns hl, fun r v H' hr rt => ?_⟩
  · refine ⟨a, ns.map V.int, rfl, ?_, rps_ints ns, by simpa using Nat.le_trans hl hn⟩
    rcases hS with h | h
    · exact .inl ⟨fun z => (nomatch z), h⟩
    · exact .inr h
  · subst hr
    obtain ⟨_, _, z⟩ := rt
    cases (show v = _ from z)
    exact q H'
end DL

/-! DL12: plain laws of mirrors -/
namespace DL
open PySem PySem.Spec L2

/-! ### what a law's run gives -/
theorem w_lft {α β : Type} {o : Option α} {f : α → W β} {Q : β → Prop} (a : α) (h : o = some a) (hq : (f a).run Q) : (Mo.bnd (μ := W) (Mo.lft o) f).run Q := ⟨a, h, hq⟩
theorem w_take {β : Type} {m : Int} {f : Int → W β} {Q : β → Prop} (h : 0 < m) (hq : ∀ r, 0 ≤ r → r < m → (f r).run Q) : (Mo.bnd (μ := W) (takeW m) f).run Q := ⟨h, hq⟩
theorem w_draws {β : Type} {o : Option (List Int)} {f : Unit → W β} {Q : β → Prop} (h : ∃ ds, o = some ds ∧ ∀ d ∈ ds, (0 : Int) ≤ d) (hq : (f ()).run Q) : (Mo.bnd (μ := W) (drawsW o) f).run Q := ⟨h, hq⟩
theorem w_sub {α β : Type} {m : W α} {f : α → W β} {Q : β → Prop} {P : α → Prop} (h : m.run P) (hq : ∀ a, P a → (f a).run Q) : (Mo.bnd (μ := W) m f).run Q := m.mono h hq
theorem w_pur {α β : Type} {a : α} {f : α → W β} {Q : β → Prop} (hq : (f a).run Q) : (Mo.bnd (μ := W) (Mo.pur a) f).run Q := hq
theorem w_ite {α β : Type} {c : Prop} [Decidable c] {m1 m2 : W α} {f : α → W β} {Q : β → Prop} (h1 : c → (Mo.bnd (μ := W) m1 f).run Q) (h2 : ¬c → (Mo.bnd (μ := W) m2 f).run Q) : (Mo.bnd (μ := W) (if c then m1 else m2) f).run Q := by
  split
  · exact h1 (by assumption)
  · exact h2 (by assumption)
/-- a list made by draws -/
theorem w_mapMo {α γ : Type} {g : α → W γ} {P : γ → Prop} : ∀ xs : List α, (∀ x ∈ xs, (g x).run P) → (mapMo (μ := W) g xs).run fun ys => ys.length = xs.length ∧ ∀ y ∈ ys, P y
  | [], _ => ⟨rfl, fun y hy => nomatch hy⟩
  | x :: xs, h => (g x).mono (h x (List.mem_cons_self ..)) fun a ha => (mapMo (μ := W) g xs).mono (w_mapMo xs fun y hy => h y (List.mem_cons_of_mem _ hy)) fun ys hys => by
    refine ⟨by simp [hys.1], fun y hy => ?_⟩
    rcases List.mem_cons.mp hy with rfl | z
    · exact ha
    · exact hys.2 y z
/-! ### a part without draws is an Option -/
theorem lft_bnd {α β : Type} {o : Option α} {f : α → Option β} : (Mo.bnd (μ := W) (Mo.lft o) fun a => Mo.lft (f a)) = Mo.lft (o.bind f) := by
  cases o with
  | none => simp [Mo.bnd, Mo.lft]
  | some a => simp [Mo.bnd, Mo.lft]
theorem lft_pur {α : Type} {a : α} : (Mo.pur (μ := W) a) = Mo.lft (some a) := by simp [Mo.pur, Mo.lft]
theorem lft_ite {α : Type} {c : Prop} [Decidable c] {a b : Option α} : (if c then Mo.lft (μ := W) a else Mo.lft b) = Mo.lft (if c then a else b) := by split <;> rfl
theorem lft_run {α : Type} {o : Option α} {Q : α → Prop} (a : α) (h : o = some a) (q : Q a) : (Mo.lft (μ := W) o).run Q := ⟨a, h, q⟩
/-! ### loops -/
theorem fold_sim {α α' γ γ' : Type} {f : γ → α → Option γ} {f' : γ' → α' → Option γ'} {e : α → α'} (R : Nat → γ → γ' → Prop) : ∀ (xs : List α) (s : γ) (s' : γ'), R xs.length s s' → (∀ n s s' x, x ∈ xs → R (n + 1) s s' → ∃ t t', f s x = some t ∧ f' s' (e x) = some t' ∧ R n t t') → ∃ t t', fold (μ := Option) f xs s = some t ∧ fold (μ := Option) f' (xs.map e) s' = some t' ∧ R 0 t t'
  | [], s, s', h, _ => ⟨s, s', rfl, rfl, h⟩
  | x :: xs, s, s', h, hs => by
    obtain ⟨t, t', h1, h2, h3⟩ := hs xs.length s s' x (List.mem_cons_self ..) h
    obtain ⟨u, u', g1, g2, g3⟩ := fold_sim R xs t t' h3 fun n s s' y hy => hs n s s' y (List.mem_cons_of_mem _ hy)
    refine ⟨u, u', ?_, ?_, g3⟩
    · simp [fold, Mo.bnd, h1, g1]
    · simp [fold, Mo.bnd, h2, g2]
theorem fold_inv {α γ : Type} {f : γ → α → Option γ} (R : List α → γ → Prop) : ∀ (xs : List α) (s : γ), R xs s → (∀ s x xs', (∃ p, xs = p ++ x :: xs') → R (x :: xs') s → ∃ t, f s x = some t ∧ R xs' t) → ∃ t, fold (μ := Option) f xs s = some t ∧ R [] t
  | [], s, h, _ => ⟨s, rfl, h⟩
  | x :: xs, s, h, hs => by
    obtain ⟨t, h1, h3⟩ := hs s x xs ⟨[], rfl⟩ h
    obtain ⟨u, g1, g3⟩ := fold_inv R xs t h3 fun s y ys ⟨p, e⟩ => hs s y ys ⟨x :: p, by rw [e]; rfl⟩
    exact ⟨u, by simp [fold, Mo.bnd, h1, g1], g3⟩
theorem mapMo_some {α γ : Type} {f : α → Option γ} {g : α → γ} : ∀ xs : List α, (∀ x ∈ xs, f x = some (g x)) → mapMo (μ := Option) f xs = some (xs.map g)
  | [], _ => rfl
  | x :: xs, h => by simp [mapMo, Mo.bnd, Mo.pur, h x (List.mem_cons_self ..), mapMo_some xs fun y hy => h y (List.mem_cons_of_mem _ hy)]
theorem mapFM_some {α γ : Type} {c : α → Option Bool} {p : α → Bool} {f : α → Option γ} {g : α → γ} : ∀ xs : List α, (∀ x ∈ xs, c x = some (p x)) → (∀ x ∈ xs, p x = true → f x = some (g x)) → mapFM (μ := Option) c f xs = some ((xs.filter p).map g)
  | [], _, _ => rfl
  | x :: xs, h, h2 => by
    have ih := mapFM_some xs (fun y hy => h y (List.mem_cons_of_mem _ hy)) fun y hy => h2 y (List.mem_cons_of_mem _ hy)
    cases e : p x with
    | true => simp [mapFM, Mo.bnd, Mo.pur, h x (List.mem_cons_self ..), e, h2 x (List.mem_cons_self ..) e, ih]
    | false => simp [mapFM, Mo.bnd, Mo.pur, h x (List.mem_cons_self ..), e, ih]
theorem mapMoW_some {α γ : Type} {f : α → Option γ} {g : α → γ} : ∀ xs : List α, (∀ x ∈ xs, f x = some (g x)) → mapMo (μ := W) (fun x => Mo.lft (f x)) xs = Mo.lft (some (xs.map g))
  | [], _ => lft_pur
  | x :: xs, h => by
    simp only [mapMo, h x (List.mem_cons_self ..), mapMoW_some xs fun y hy => h y (List.mem_cons_of_mem _ hy)]
    simp [Mo.bnd, Mo.lft, Mo.pur]
theorem appO_some {α : Type} {xs : List α} {y : α} (h : xs.length < 16777216) : appO xs y = some (xs ++ [y]) := if_pos h
theorem catO_some {α : Type} {xs ys : List α} (h : xs.length + ys.length ≤ 16777216) : catO xs ys = some (xs ++ ys) := if_pos h
theorem rngO_some {n : Int} (h : n ≤ 16777216) (h2 : -4611686018427387904 ≤ n) : rngO 0 n = some (rng 0 n) := if_pos (by omega)
theorem mem_rng {lo hi x : Int} : x ∈ rng lo hi ↔ lo ≤ x ∧ x < hi := by
  unfold rng
  simp only [List.mem_map, List.mem_range]
  constructor
  · rintro ⟨i, h, rfl⟩; omega
  · intro h; exact ⟨(x - lo).toNat, by omega, by omega⟩
theorem atI_nat {α : Type} {xs : List α} {i : Nat} : L2.atI xs (i : Int) = xs[i]? := by
  by_cases h : i < xs.length
  · exact (L2.atI_nat (List.getElem?_eq_getElem h)).trans (List.getElem?_eq_getElem h).symm
  · rw [List.getElem?_eq_none (by omega)]
    unfold L2.atI L2.ixN
    rw [if_pos (by omega), if_neg (by omega)]
    rfl
theorem atI_ok {α : Type} {xs : List α} {i : Int} (h0 : 0 ≤ i) (h1 : i < xs.length) : L2.atI xs i = some (xs[i.toNat]'(by omega)) := by
  have := atI_nat (xs := xs) (i := i.toNat)
  rw [Int.toNat_of_nonneg h0, List.getElem?_eq_getElem (by omega)] at this
  exact this
theorem setO_ok {α : Type} {xs : List α} {i : Int} {y : α} (h0 : 0 ≤ i) (h1 : i < xs.length) : setO xs i y = some (xs.set i.toNat y) := by
  unfold setO L2.ixN
  rw [if_pos h0, if_pos h1]
  rfl
theorem modO_some {a b : Int} (h : b ≠ 0) : modO a b = some (a.fmod b) := if_pos h
theorem mulO_some {a b : Int} (h : a.natAbs.log2 + b.natAbs.log2 < 1000000) : mulO a b = some (a * b) := if_pos h
theorem log2_small {n : Nat} {k : Nat} (h : n < 2 ^ k) (hk : 0 < k) : n.log2 < k := by
  by_cases e : n = 0
  · subst e; simpa using hk
  · exact (Nat.log2_lt e).mpr h
theorem mulO_small {a b : Int} {j k : Nat} (ha : a.natAbs < 2 ^ (j + 1)) (hb : b.natAbs < 2 ^ (k + 1)) (h : j + k < 999000 := by decide) : mulO a b = some (a * b) := mulO_some (by
  have := log2_small ha (by omega)
  have := log2_small hb (by omega)
  omega)
/-! ### an Option that gives what holds -/
def OH {α : Type} (o : Option α) (P : α → Prop) : Prop := ∃ a, o = some a ∧ P a
theorem OH.one {α : Type} {a : α} {P : α → Prop} (h : P a) : OH (some a) P := ⟨a, rfl, h⟩
theorem OH.bind {α β : Type} {o : Option α} {P : α → Prop} {f : α → Option β} {Q : β → Prop} (h : OH o P) (hf : ∀ a, P a → OH (f a) Q) : OH (o.bind f) Q := by
  obtain ⟨a, e, p⟩ := h
  rw [e]
  exact hf a p
theorem OH.eq {α β : Type} {o : Option α} {f : α → Option β} {Q : β → Prop} (a : α) (e : o = some a) (hf : OH (f a) Q) : OH (o.bind f) Q := by
  rw [e]
  exact hf
theorem OH.mono {α : Type} {o : Option α} {P Q : α → Prop} (h : OH o P) (hf : ∀ a, P a → Q a) : OH o Q := by
  obtain ⟨a, e, p⟩ := h
  exact ⟨a, e, hf a p⟩
theorem OH.ite {α : Type} {c : Prop} [Decidable c] {o p : Option α} {P : α → Prop} (h1 : c → OH o P) (h2 : ¬c → OH p P) : OH (if c then o else p) P := by
  split
  · exact h1 (by assumption)
  · exact h2 (by assumption)
theorem OH.at {α β : Type} {xs : List α} {i : Int} {f : α → Option β} {Q : β → Prop} (h0 : 0 ≤ i) (h1 : i < xs.length) (hf : ∀ a ∈ xs, xs[i.toNat]? = some a → OH (f a) Q) : OH ((L2.atI xs i).bind f) Q := by
  rw [atI_ok h0 h1]
  exact hf _ (List.getElem_mem _) (List.getElem?_eq_getElem _)
theorem OH.fold {α γ : Type} {f : γ → α → Option γ} (R : List α → γ → Prop) {xs : List α} {s : γ} (h : R xs s) (hs : ∀ s x xs', (∃ p, xs = p ++ x :: xs') → R (x :: xs') s → OH (f s x) (R xs')) : OH (fold (μ := Option) f xs s) (R []) := fold_inv R xs s h hs

/-! ### the law's own prelude, as it stands in k60 to k74 -/
def drawsM (script_ : List Int) (many_ : Int) : Option (List Int) :=
  (letD (List.map (fun (x15 : Int) => x15) script_) fun (cells_ : List Int) => (Option.bind ((if (decide ((List.length cells_ : Int) = (0 : Int))) = true then (Option.bind (appO cells_ (0 : Int)) fun cells_ => (some cells_)) else (some cells_))) fun (s1 : (List Int)) => (letD s1 fun (rest_ : List Int) => (letD ([] : List Int) fun (drawn_ : List Int) => (Option.bind ((Option.bind (rngO 0 many_) fun r13 => fold (μ := Option) (fun (s2 : (List Int) × (List Int)) (x3 : Int) => (Option.bind (modO x3 (List.length s1 : Int)) fun t12 => (letD t12 fun (at_ : Int) => (Option.bind ((Option.bind (L2.atI s1 at_) fun t10 => (Option.bind (if (decide (((10 : Int) ^ (18 : Int).toNat) ≤ t10)) = true then (Option.bind (L2.atI s2.2 at_) fun t8 => (some (decide ((0 : Int) < t8)))) else (some false)) fun t9 => (if t9 = true then (Option.bind (L2.atI s2.2 at_) fun t5 => (Option.bind (appO s2.1 (t5 % 1000)) fun drawn_ => (Option.bind (L2.atI s2.2 at_) fun t4 => (Option.bind (setO s2.2 at_ (t4 / 1000)) fun rest_ => (some (drawn_, rest_)))))) else (Option.bind (L2.atI s1 at_) fun t7 => (letD ((((t7 * 48271) + (x3 * 69621)) + (11 : Int)) % 2147483647) fun (once_ : Int) => (Option.bind (mulO once_ once_) fun t6 => (Option.bind (appO s2.1 (((t6 + (3 * once_)) + x3) % 1000003)) fun drawn_ => (some (drawn_, s2.2)))))))))) fun (s11 : (List Int) × (List Int)) => (some (s11.1, s11.2)))))) r13 (drawn_, rest_))) fun (s14 : (List Int) × (List Int)) => (some (List.reverse s14.1)))))))
def cellM (script_ : List Int) : W Int :=
  (if (decide ((List.length script_ : Int) = (0 : Int))) = true then (Mo.pur (μ := W) (0 : Int)) else (Mo.bnd (μ := W) (takeW (List.length script_ : Int)) fun t5 => (Mo.bnd (μ := W) (Mo.lft (L2.atI script_ t5)) fun t4 => (letD t4 fun (cell_ : Int) => (Mo.bnd (μ := W) (Mo.lft (modO (absI cell_) ((10 : Int) ^ (60 : Int).toNat))) fun t2 => (Mo.bnd (μ := W) (Mo.lft (L2.atI ([(1 : Int), (-(1 : Int))] : List Int) (b2n (decide (cell_ < (0 : Int)))))) fun t3 => (Mo.bnd (μ := W) (Mo.lft (mulO t2 t3)) fun t1 => (Mo.pur (μ := W) t1))))))))
def sameM : Nat → PyData → PyData → Option Bool
  | 0, _, _ => none
  | n + 1, actual_, due_ => (if (isN (dD due_)) = true then (some (isN (dD actual_))) else (if (isTy "bool" (dD due_)) = true then (Option.bind (if (isTy "bool" (dD actual_)) = true then (Option.bind (eqO (dD actual_) (dD due_)) fun t1 => (some t1)) else (some false)) fun t2 => (some t2)) else (if (isTy "int" (dD due_)) = true then (Option.bind (if (isTy "int" (dD actual_)) = true then (Option.bind (if (!(isTy "bool" (dD actual_))) = true then (Option.bind (eqO (dD actual_) (dD due_)) fun t3 => (some t3)) else (some false)) fun t4 => (some t4)) else (some false)) fun t5 => (some t5)) else (if (isTy "str" (dD due_)) = true then (Option.bind (if (isTy "str" (dD actual_)) = true then (Option.bind (eqO (dD actual_) (dD due_)) fun t6 => (some t6)) else (some false)) fun t7 => (some t7)) else (Option.bind (if (!(isTy "tuple" (dD actual_))) = true then (some true) else (Option.bind (lenD actual_) fun t16 => (Option.bind (lenD due_) fun t17 => (some (!decide (t16 = t17)))))) fun t18 => (if t18 = true then (some false) else (Option.bind ((Option.bind (lenD due_) fun t14 => (Option.bind (rngO 0 t14) fun r13 => forE (μ := Option) (ρ := Bool) (fun (s8 : Unit) (x9 : Int) => (Option.bind (ixD actual_ x9) fun t11 => (Option.bind (ixD due_ x9) fun t12 => (Option.bind (sameM n t11 t12) fun t10 => (if (!t10) = true then (some (Sum.inr false)) else (some (Sum.inl ()))))))) r13 ()))) (sel (fun (s15 : Unit) => (some true)) (fun x => (some x))))))))))
theorem drawsM_ok {ns : List Int} {m : Int} (h0 : 0 ≤ m) (h : m ≤ 100000) : ∃ ds, drawsM ns m = some ds ∧ ∀ d ∈ ds, (0 : Int) ≤ d := by
  show OH (drawsM ns m) fun ds => ∀ d ∈ ds, (0 : Int) ≤ d
  unfold drawsM
  simp only [letD]
  refine OH.bind (P := fun cs : List Int => 0 < cs.length) (OH.ite (fun e => ?_) (fun e => ?_)) fun cs hc => ?_
  · have e0 : ns = [] := by simpa using e
    subst e0
    refine OH.eq [0] rfl (OH.one ?_)
    decide
  · refine OH.one ?_
    cases ns with
    | nil => exact absurd (by decide) e
    | cons x r => simp
  · refine OH.bind (P := fun s : List Int × List Int => ∀ d ∈ s.1, (0 : Int) ≤ d) ?_ fun s hs => OH.one ?_
    · refine OH.eq _ (rngO_some (by omega) (by omega)) ?_
      refine OH.mono (OH.fold (fun (xs : List Int) (s : List Int × List Int) => s.1.length + xs.length ≤ 100000 ∧ s.2.length = cs.length ∧ ∀ d ∈ s.1, (0 : Int) ≤ d) ?_ ?_) fun t ht => ht.2.2
      · refine ⟨by simp [rng_len]; omega, rfl, fun d hd => nomatch hd⟩
      · rintro ⟨dr, re⟩ x xs ⟨p, hp⟩ ⟨h1, h2, h3⟩
        simp only [List.length_cons] at h1 h2 ⊢
        have hm : (x.fmod cs.length) = x % (cs.length : Int) := Int.fmod_eq_emod_of_nonneg _ (by omega)
        have hlo : 0 ≤ x % (cs.length : Int) := Int.emod_nonneg _ (by omega)
        have hhi : x % (cs.length : Int) < cs.length := Int.emod_lt_of_pos _ (by omega)
        refine OH.eq _ (modO_some (by omega)) ?_
        rw [hm]
        have ap : ∀ {d : Int} {re' : List Int}, 0 ≤ d → re'.length = cs.length → OH ((appO dr d).bind fun dr' => some (dr', re')) fun s : List Int × List Int => s.1.length + xs.length ≤ 100000 ∧ s.2.length = cs.length ∧ ∀ d ∈ s.1, (0 : Int) ≤ d := fun {d re'} hd hr => by
          refine OH.eq _ (appO_some (by omega)) (OH.one ⟨by simp; omega, hr, fun z hz => ?_⟩)
          rcases List.mem_append.mp hz with q | q
          · exact h3 z q
          · rw [List.mem_singleton.mp q]; exact hd
        refine OH.bind (P := fun s : List Int × List Int => s.1.length + xs.length ≤ 100000 ∧ s.2.length = cs.length ∧ ∀ d ∈ s.1, (0 : Int) ≤ d) ?_ fun s hs => OH.one hs
        refine OH.at hlo hhi fun c hc1 hc2 => ?_
        refine OH.bind (P := fun _ => True) (OH.ite (fun _ => OH.at hlo (by omega) fun r _ _ => OH.one trivial) fun _ => OH.one trivial) fun b _ => ?_
        refine OH.ite (fun _ => ?_) fun _ => ?_
        · refine OH.at hlo (by omega) fun r _ _ => ?_
          refine OH.eq _ (appO_some (by omega)) ?_
          refine OH.at hlo (by omega) fun r _ _ => ?_
          refine OH.eq _ (setO_ok hlo (by omega)) (OH.one ⟨by simp; omega, by simp [h2], fun z hz => ?_⟩)
          rcases List.mem_append.mp hz with q | q
          · exact h3 z q
          · rw [List.mem_singleton.mp q]; exact Int.emod_nonneg _ (by decide)
        · refine OH.at hlo hhi fun r _ _ => ?_
          have n1 := Int.emod_nonneg (r * 48271 + x * 69621 + 11) (b := 2147483647) (by decide)
          have n2 := Int.emod_lt_of_pos (r * 48271 + x * 69621 + 11) (b := 2147483647) (by decide)
          refine OH.eq _ (mulO_small (j := 30) (k := 30) (by omega) (by omega)) ?_
          exact ap (Int.emod_nonneg _ (by decide)) h2
    · intro d hd
      exact hs d (List.mem_reverse.mp hd)
theorem cellM_ok {ns : List Int} (h : ns.length ≤ 63) : (cellM ns).run fun v => v.natAbs < 10 ^ 60 := by
  unfold cellM
  split
  · exact (by decide : (0 : Int).natAbs < 10 ^ 60)
  · rename_i e
    have hp : 0 < ns.length := by
      cases ns with
      | nil => exact absurd (by decide) e
      | cons x r => simp
    refine w_take (by omega) fun r h0 h1 => ?_
    refine w_lft _ (atI_ok h0 h1) ?_
    generalize ns[r.toNat]'(by omega) = c
    simp only [letD]
    have e10 : ((10 : Int) ^ (60 : Int).toNat) = 10 ^ 60 := rfl
    rw [e10]
    refine w_lft _ (modO_some (by decide)) ?_
    have hm : (absI c).fmod (10 ^ 60) = absI c % 10 ^ 60 := Int.fmod_eq_emod_of_nonneg _ (by decide)
    rw [hm]
    have l1 := Int.emod_nonneg (absI c) (b := 10 ^ 60) (by decide)
    have l2 := Int.emod_lt_of_pos (absI c) (b := 10 ^ 60) (by decide)
    generalize absI c % 10 ^ 60 = q at l1 l2
    by_cases hc : c < 0
    · refine w_lft (-1) (by simp [hc, b2n, L2.atI, L2.ixN]) ?_
      refine w_lft _ (mulO_small (j := 199) (k := 0) (by omega) (by decide)) ?_
      show (q * -1).natAbs < 10 ^ 60
      omega
    · refine w_lft 1 (by simp [hc, b2n, L2.atI, L2.ixN]) ?_
      refine w_lft _ (mulO_small (j := 199) (k := 0) (by omega) (by decide)) ?_
      show (q * 1).natAbs < 10 ^ 60
      omega
/-- data that `_law_same` finds equal to itself -/
def okS : Nat → PyData → Prop
  | 0, _ => False
  | _ + 1, .none => True
  | _ + 1, .bool _ => True
  | _ + 1, .int _ => True
  | _ + 1, .str x => PyData.canLay0 (.str x) = true
  | n + 1, .tuple ds => ds.length ≤ 16777216 ∧ ∀ d ∈ ds, okS n d
  | _ + 1, _ => False
theorem forE_all {α ρ : Type} {f : Unit → α → Option (Unit ⊕ ρ)} : ∀ xs : List α, (∀ x ∈ xs, f () x = some (.inl ())) → forE (μ := Option) f xs () = some (.inl ())
  | [], _ => rfl
  | x :: xs, h => by
    simp only [forE, h x (List.mem_cons_self ..)]
    exact forE_all xs fun y hy => h y (List.mem_cons_of_mem _ hy)
theorem isTy_tb (ds : List PyData) : isTy "bool" (.tuple ds) = false := by simp [isTy]
theorem isTy_ti (ds : List PyData) : isTy "int" (.tuple ds) = false := by simp [isTy]
theorem isTy_ts (ds : List PyData) : isTy "str" (.tuple ds) = false := by simp [isTy]
theorem isTy_tt (ds : List PyData) : isTy "tuple" (.tuple ds) = true := by simp [isTy]
theorem no_of {b : Bool} (h : b = false) : ¬ (b = true) := fun e => by rw [h] at e; cases e
theorem sameM_tup {n : Nat} {ds : List PyData} (hz : ds.length ≤ 16777216) (ih : ∀ d ∈ ds, sameM n d d = some true) : sameM (n + 1) (.tuple ds) (.tuple ds) = some true := by
  have : OH (sameM (n + 1) (.tuple ds) (.tuple ds)) fun b => b = true := by
    unfold sameM
    refine OH.ite (fun e => (no_of rfl e).elim) fun _ => OH.ite (fun e => (no_of (isTy_tb ds) e).elim) fun _ => OH.ite (fun e => (no_of (isTy_ti ds) e).elim) fun _ => OH.ite (fun e => (no_of (isTy_ts ds) e).elim) fun _ => ?_
    refine OH.bind (P := fun b => b = false) (OH.ite (fun e => (no_of (by rw [show dD (.tuple ds) = .tuple ds from rfl, isTy_tt]; rfl) e).elim) fun _ => OH.eq (ds.length : Int) rfl (OH.eq (ds.length : Int) rfl (OH.one (by rw [decide_eq_true rfl]; rfl)))) fun b hb => ?_
    subst hb
    refine OH.ite (fun e => (no_of rfl e).elim) fun _ => ?_
    refine OH.bind (P := fun r => r = .inl ()) (OH.eq (ds.length : Int) rfl (OH.eq _ (rngO_some (by omega) (by omega)) ⟨_, forE_all _ fun x hx => ?_, rfl⟩)) fun r hr => by subst hr; exact OH.one rfl
    obtain ⟨x0, x1⟩ := mem_rng.mp hx
    have e1 : ixD (.tuple ds) x = some (ds[x.toNat]'(by omega)) := atI_ok x0 x1
    have e2 := ih _ (List.getElem_mem (l := ds) (n := x.toNat) (by omega))
    rw [e1, Option.bind_some, Option.bind_some, e2, Option.bind_some]
    rfl
  obtain ⟨a, e, rfl⟩ := this
  exact e
theorem sameM_ok : ∀ (n : Nat) (d : PyData), okS n d → sameM n d d = some true
  | 0, _, h => h.elim
  | n + 1, .none, _ => by simp [sameM, isN, dD]
  | n + 1, .bool b, _ => by simp [sameM, isN, dD, isTy, eqO, SeqAt.shaped, PyData.eqv]; exact ⟨rfl, rfl⟩
  | n + 1, .int i, _ => by simp [sameM, isN, dD, isTy, eqO, SeqAt.shaped, PyData.eqv]; exact ⟨rfl, rfl⟩
  | n + 1, .str i, h => by simp [sameM, isN, dD, isTy, eqO, SeqAt.shaped, PyData.eqv]; exact ⟨h, rfl⟩
  | n + 1, .tuple ds, h => sameM_tup h.1 fun d hd => sameM_ok n d (h.2 d hd)
  | n + 1, .list ds, h => h.elim
  | n + 1, .dict ds, h => h.elim
termination_by n => n
end DL

namespace K74
open PySem PySem.Spec L2 DL

def m_is_on_at (level_ : Int) (on_ : Int) (off_ : Int) (was_ : Bool) : Option Bool :=
  (if (decide (on_ ≤ level_)) = true then (some true) else (some (if (decide (level_ ≤ off_)) = true then false else was_)))

def m_minute_by_minute (first_ : Int) (on_ : Int) (off_ : Int) (takes_ : Int) (ins_ : List Int) : Option (List (Bool × Int)) :=
  (letD ([] : List (Bool × Int)) fun (found_ : List (Bool × Int)) => (let2 first_ false (fun (level_ : Int) (goes_ : Bool) => (Option.bind (fold (μ := Option) (fun (s1 : Bool × Int × (List (Bool × Int))) (x2 : Int) => (Option.bind (m_is_on_at s1.2.1 on_ off_ s1.1) fun t3 => (letD t3 fun (goes_ : Bool) => (letD (s1.2.1 + x2) fun (level_ : Int) => (letD (level_ - (if goes_ = true then (mn takes_ level_) else (0 : Int))) fun (level_ : Int) => (Option.bind (appO s1.2.2 (goes_, level_)) fun found_ => (some (goes_, level_, found_)))))))) ins_ (goes_, level_, found_)) fun (s4 : Bool × Int × (List (Bool × Int))) => (some s4.2.2)))))

def m_levels_of (first_ : Int) (on_ : Int) (off_ : Int) (takes_ : Int) (ins_ : List Int) : Option (List Int) :=
  (Option.bind (m_minute_by_minute first_ on_ off_ takes_ ins_) fun t2 => (some (List.map (fun (x1 : Bool × Int) => x1.2) t2)))

def m_starts_of (first_ : Int) (on_ : Int) (off_ : Int) (takes_ : Int) (ins_ : List Int) : Option Int :=
  (Option.bind (m_minute_by_minute first_ on_ off_ takes_ ins_) fun t8 => (Option.bind (catO ([false] : List Bool) (List.map (fun (x7 : Bool × Int) => x7.1) t8)) fun t6 => (letD t6 fun (goes_ : List Bool) => (Option.bind (mapFM (fun (x1 : Int) => (Option.bind (L2.atI goes_ x1) fun t4 => (Option.bind (if t4 = true then (Option.bind (L2.atI goes_ (x1 - (1 : Int))) fun t2 => (some (!t2))) else (some false)) fun t3 => (some t3)))) (fun (x1 : Int) => (some (1 : Int))) (rng 1 (List.length goes_))) fun t5 => (some (List.length t5 : Int))))))

def m_minutes_going (first_ : Int) (on_ : Int) (off_ : Int) (takes_ : Int) (ins_ : List Int) : Option Int :=
  (Option.bind (m_minute_by_minute first_ on_ off_ takes_ ins_) fun t2 => (some (List.length (List.map (fun (x1 : Bool × Int) => (1 : Int)) (List.filter (fun (x1 : Bool × Int) => x1.1) t2)) : Int)))

def m_stays_under (levels_ : List Int) (bound_ : Int) : Option Bool :=
  (some (List.all (List.map (fun (x1 : Int) => (decide (x1 ≤ bound_))) levels_) id))

def m_least_takes (first_ : Int) (on_ : Int) (off_ : Int) (ins_ : List Int) (bound_ : Int) : Option (Option Int) :=
  (Option.bind ((Option.bind (rngO 0 ((mn ((List.sum ins_) + first_) (400 : Int)) + (1 : Int))) fun r5 => forE (μ := Option) (ρ := Option Int) (fun (s1 : Unit) (x2 : Int) => (Option.bind (m_levels_of first_ on_ off_ x2 ins_) fun t4 => (Option.bind (m_stays_under t4 bound_) fun t3 => (if t3 = true then (some (Sum.inr (some x2))) else (some (Sum.inl ())))))) r5 ())) (sel (fun (s6 : Unit) => (some ((fun _ => (none : Option Int)) ()))) (fun x => (some x))))

def m_two_pumps (first_ : Int) (ons_ : Int × Int) (offs_ : Int × Int) (takes_ : Int × Int) (ins_ : List Int) : Option (List Int) :=
  (letD ([] : List Int) fun (found_ : List Int) => (letD (first_, ([false, false] : List Bool)) fun (y1 : Int × (List Bool)) => (Option.bind (fold (μ := Option) (fun (s2 : (List Bool) × Int × (List Int)) (x3 : Int) => (Option.bind (rngO 0 (2 : Int)) fun r17 => (Option.bind (mapMo (fun (x11 : Int) => (Option.bind (L2.atI ((fun (a : Int × Int) => ([a.1, a.2] : List Int)) ons_) x11) fun t13 => (Option.bind (L2.atI ((fun (a : Int × Int) => ([a.1, a.2] : List Int)) offs_) x11) fun t14 => (Option.bind (L2.atI s2.1 x11) fun t15 => (Option.bind (m_is_on_at s2.2.1 t13 t14 t15) fun t12 => (some t12)))))) r17) fun t16 => (letD t16 fun (goes_ : List Bool) => (letD (s2.2.1 + x3) fun (level_ : Int) => (Option.bind ((Option.bind (rngO 0 (2 : Int)) fun r9 => fold (μ := Option) (fun (s4 : Int) (x5 : Int) => (Option.bind (L2.atI goes_ x5) fun t8 => (Option.bind (if t8 = true then (Option.bind (L2.atI ((fun (a : Int × Int) => ([a.1, a.2] : List Int)) takes_) x5) fun t6 => (some (mn t6 s4))) else (some (0 : Int))) fun t7 => (letD (s4 - t7) fun (level_ : Int) => (some level_))))) r9 level_)) fun (s10 : Int) => (Option.bind (appO s2.2.2 s10) fun found_ => (some (goes_, s10, found_))))))))) ins_ (y1.2, y1.1, found_)) fun (s18 : (List Bool) × Int × (List Int)) => (some s18.2.2))))

def m_full_by (first_ : Int) (ins_ : List Int) (bound_ : Int) : Option (Option Int) :=
  (letD first_ fun (level_ : Int) => (Option.bind (forE (μ := Option) (ρ := Option Int) (fun (s1 : Int) (x2 : Int) => (Option.bind (L2.atI ins_ x2) fun t3 => (letD (s1 + t3) fun (level_ : Int) => (if (decide (bound_ < level_)) = true then (some (Sum.inr (some x2))) else (some (Sum.inl level_)))))) (rng 0 (List.length ins_)) level_) (sel (fun (s4 : Int) => (some ((fun _ => (none : Option Int)) ()))) (fun x => (some x)))))

abbrev m_law_draws := @DL.drawsM

abbrev m_law_cell := @DL.cellM

abbrev m_law_same := @DL.sameM

def m_law_run (first_ : Int) (pumps_ : List (List Int)) (ins_ : List Int) : Option (List ((List Bool) × Int)) :=
  (letD ([] : List ((List Bool) × Int)) fun (found_ : List ((List Bool) × Int)) => (let2 first_ (List.map (fun (x22 : List Int) => false) pumps_) (fun (level_ : Int) (goes_ : List Bool) => (Option.bind (fold (μ := Option) (fun (s1 : (List Bool) × Int × (List ((List Bool) × Int))) (x2 : Int) => (Option.bind (fold (μ := Option) (fun (s3 : (List Bool)) (x4 : Int) => (Option.bind ((Option.bind (L2.atI pumps_ x4) fun t9 => (Option.bind (L2.atI t9 (0 : Int)) fun t8 => (if (decide (t8 ≤ s1.2.1)) = true then (Option.bind (setO s3 x4 true) fun goes_ => (some goes_)) else (Option.bind ((Option.bind (L2.atI pumps_ x4) fun t6 => (Option.bind (L2.atI t6 (1 : Int)) fun t5 => (if (decide (s1.2.1 ≤ t5)) = true then (Option.bind (setO s3 x4 false) fun goes_ => (some goes_)) else (some s3))))) fun (s7 : (List Bool)) => (some s7)))))) fun (s10 : (List Bool)) => (some s10))) (rng 0 (List.length pumps_)) s1.1) fun (s11 : (List Bool)) => (letD (s1.2.1 + x2) fun (here_ : Int) => (Option.bind (fold (μ := Option) (fun (s12 : Int) (x13 : Int) => (Option.bind ((Option.bind (L2.atI s11 x13) fun t16 => (if t16 = true then (Option.bind (L2.atI pumps_ x13) fun t15 => (Option.bind (L2.atI t15 (2 : Int)) fun t14 => (letD (mx (0 : Int) (s12 - t14)) fun (here_ : Int) => (some here_)))) else (some s12)))) fun (s17 : Int) => (some s17))) (rng 0 (List.length pumps_)) here_) fun (s18 : Int) => (letD s18 fun (level_ : Int) => (Option.bind (appO s1.2.2 (s11, level_)) fun found_ => (some (s11, level_, found_)))))))) ins_ (goes_, level_, found_)) fun (s19 : (List Bool) × Int × (List ((List Bool) × Int))) => (some s19.2.2)))))

def m_law_pump  : W (Int × Int × Int) :=
  (Mo.bnd (μ := W) (takeW (16 : Int)) fun t3 => (letD ((4 : Int) + t3) fun (on_ : Int) => (Mo.bnd (μ := W) (takeW (10 : Int)) fun t1 => (Mo.bnd (μ := W) (takeW (15 : Int)) fun t2 => (Mo.pur (μ := W) (on_, ((on_ - (1 : Int)) - t1), t2))))))

def m_law_is_told (first_ : Int) (pump_ : List Int) (ins_ : List Int) : Option Bool :=
  (Option.bind (un3 pump_) fun t20 => (letD t20 fun (y1 : Int × Int × Int) => (Option.bind (m_law_run first_ ([pump_] : List (List Int)) ins_) fun t19 => (letD t19 fun (run_ : List ((List Bool) × Int)) => (Option.bind (m_levels_of first_ y1.1 y1.2.1 y1.2.2 ins_) fun t17 => (Option.bind (m_law_same RN (((dQ PyData.int)) t17) (((dQ PyData.int)) (List.map (fun (x18 : (List Bool) × Int) => x18.2) run_))) fun t16 => (if (!t16) = true then (some false) else (Option.bind (mapMo (fun (x13 : (List Bool) × Int) => (Option.bind (L2.atI x13.1 (0 : Int)) fun t14 => (some t14))) run_) fun t15 => (Option.bind (catO ([false] : List Bool) t15) fun t12 => (letD t12 fun (goes_ : List Bool) => (Option.bind (mapFM (fun (x7 : Int) => (Option.bind (L2.atI goes_ x7) fun t10 => (Option.bind (if t10 = true then (Option.bind (L2.atI goes_ (x7 - (1 : Int))) fun t8 => (some (!t8))) else (some false)) fun t9 => (some t9)))) (fun (x7 : Int) => (some x7)) (rng 1 (List.length goes_))) fun t11 => (letD t11 fun (starts_ : List Int) => (Option.bind (m_starts_of first_ y1.1 y1.2.1 y1.2.2 ins_) fun t6 => (Option.bind (m_law_same RN ((PyData.int) t6) ((PyData.int) (List.length starts_ : Int))) fun t5 => (if (!t5) = true then (some false) else (Option.bind (m_minutes_going first_ y1.1 y1.2.1 y1.2.2 ins_) fun t3 => (Option.bind (m_law_same RN ((PyData.int) t3) ((PyData.int) (List.length (List.map (fun (x4 : Bool) => x4) (List.filter (fun (x4 : Bool) => x4) goes_)) : Int))) fun t2 => (some t2))))))))))))))))))

def m_law_is_least_right (first_ : Int) (pump_ : Int × Int × Int) (ins_ : List Int) (bound_ : Int) : Option Bool :=
  (letD ((fun _ => (none : Option Int)) ()) fun (due_ : Option Int) => (Option.bind ((Option.bind (rngO 0 ((mn (400 : Int) (first_ + (List.sum ins_))) + (1 : Int))) fun r7 => fold (μ := Option) (fun (s1 : (Option Int)) (x2 : Int) => (Option.bind ((Option.bind (if (isN ((dO PyData.int) s1)) = true then (Option.bind (m_law_run first_ ([([pump_.1, pump_.2.1, x2] : List Int)] : List (List Int)) ins_) fun t4 => (some (decide ((List.length (List.map (fun (x3 : (List Bool) × Int) => x3) (List.filter (fun (x3 : (List Bool) × Int) => (decide (bound_ < x3.2))) t4)) : Int) = (0 : Int))))) else (some false)) fun t5 => (if t5 = true then (letD (some x2) fun (due_ : Option Int) => (some due_)) else (some s1)))) fun (s6 : (Option Int)) => (some s6))) r7 due_)) fun (s8 : (Option Int)) => (Option.bind (m_least_takes first_ pump_.1 pump_.2.1 ins_ bound_) fun t10 => (letD t10 fun (told_ : Option Int) => (if (isN ((dO PyData.int) s8)) = true then (some (isN ((dO PyData.int) told_))) else (Option.bind (m_law_same RN (((dO PyData.int)) told_) (((dO PyData.int)) s8)) fun t9 => (some t9)))))))

def m_law_is_full_right (first_ : Int) (ins_ : List Int) (bound_ : Int) : Option Bool :=
  (letD (List.map (fun (x5 : Int) => x5) (List.filter (fun (x5 : Int) => (decide (bound_ < (first_ + (List.sum (cutP ins_ none (some (x5 + (1 : Int))))))))) (rng 0 (List.length ins_)))) fun (over_ : List Int) => (if (decide ((List.length over_ : Int) = (0 : Int))) = true then (Option.bind (m_full_by first_ ins_ bound_) fun t1 => (some (isN ((dO PyData.int) t1)))) else (Option.bind (m_full_by first_ ins_ bound_) fun t3 => (Option.bind (L2.atI over_ (0 : Int)) fun t4 => (Option.bind (m_law_same RN (((dO PyData.int)) t3) ((PyData.int) t4)) fun t2 => (some t2))))))

def m_law (script_ : List Int) : W Bool :=
  (Mo.bnd (μ := W) (drawsW (m_law_draws script_ (100 : Int))) fun t82 => (letD () fun (draws_ : Unit) => (Mo.bnd (μ := W) (m_law_cell script_) fun t80 => (Mo.bnd (μ := W) (Mo.lft (modO (absI t80) ((10 : Int) ^ (20 : Int).toNat))) fun t79 => (Mo.bnd (μ := W) (takeW (2 : Int)) fun t81 => (Mo.bnd (μ := W) (Mo.lft (L2.atI ([(1 : Int), ((1 : Int) + t79)] : List Int) t81)) fun t78 => (letD t78 fun (scale_ : Int) => (Mo.bnd (μ := W) (takeW (20 : Int)) fun t75 => (Mo.bnd (μ := W) (m_law_pump) fun t76 => (Mo.bnd (μ := W) (m_law_pump) fun t77 => (let3 t75 t76 t77 (fun (first_ : Int) (pump_ : Int × Int × Int) (other_ : Int × Int × Int) => (Mo.bnd (μ := W) (takeW (21 : Int)) fun t71 => (Mo.bnd (μ := W) (Mo.lft (rngO 0 t71)) fun r70 => (Mo.bnd (μ := W) (mapMo (fun (x65 : Int) => (Mo.bnd (μ := W) (takeW (12 : Int)) fun t67 => (Mo.bnd (μ := W) (takeW (4 : Int)) fun t68 => (Mo.bnd (μ := W) (Mo.lft (mulO t67 (b2n (decide ((0 : Int) < t68))))) fun t66 => (Mo.pur (μ := W) t66))))) r70) fun t69 => (letD t69 fun (ins_ : List Int) => (Mo.bnd (μ := W) (Mo.lft (mulO first_ scale_)) fun t55 => (Mo.bnd (μ := W) (mapMo (fun (x56 : Int) => (Mo.bnd (μ := W) (Mo.lft (mulO x56 scale_)) fun t57 => (Mo.pur (μ := W) t57))) ((fun (a : Int × Int × Int) => ([a.1, a.2.1, a.2.2] : List Int)) pump_)) fun t58 => (Mo.bnd (μ := W) (mapMo (fun (x59 : Int) => (Mo.bnd (μ := W) (Mo.lft (mulO x59 scale_)) fun t60 => (Mo.pur (μ := W) t60))) ((fun (a : Int × Int × Int) => ([a.1, a.2.1, a.2.2] : List Int)) other_)) fun t61 => (Mo.bnd (μ := W) (mapMo (fun (x62 : Int) => (Mo.bnd (μ := W) (Mo.lft (mulO x62 scale_)) fun t63 => (Mo.pur (μ := W) t63))) ins_) fun t64 => (letD (t55, t58, t61, t64) fun (wide_ : Int × (List Int) × (List Int) × (List Int)) => (Mo.bnd (μ := W) (Mo.lft (m_law_is_told wide_.1 wide_.2.1 wide_.2.2.2)) fun t54 => (Mo.bnd (μ := W) (if (!t54) = true then (Mo.pur (μ := W) true) else (Mo.bnd (μ := W) (takeW (90 : Int)) fun t52 => (Mo.bnd (μ := W) (Mo.lft (mulO scale_ t52)) fun t51 => (Mo.bnd (μ := W) (Mo.lft (m_law_is_full_right wide_.1 wide_.2.2.2 t51)) fun t50 => (Mo.pur (μ := W) (!t50)))))) fun t53 => (if t53 = true then (Mo.pur (μ := W) false) else (Mo.bnd (μ := W) (Mo.lft (m_law_run wide_.1 ([wide_.2.1, wide_.2.2.1] : List (List Int)) wide_.2.2.2)) fun t49 => (letD t49 fun (run_ : List ((List Bool) × Int)) => (Mo.bnd (μ := W) (Mo.lft (L2.atI wide_.2.1 (0 : Int))) fun t42 => (Mo.bnd (μ := W) (Mo.lft (L2.atI wide_.2.2.1 (0 : Int))) fun t43 => (Mo.bnd (μ := W) (Mo.lft (L2.atI wide_.2.1 (1 : Int))) fun t44 => (Mo.bnd (μ := W) (Mo.lft (L2.atI wide_.2.2.1 (1 : Int))) fun t45 => (Mo.bnd (μ := W) (Mo.lft (L2.atI wide_.2.1 (2 : Int))) fun t46 => (Mo.bnd (μ := W) (Mo.lft (L2.atI wide_.2.2.1 (2 : Int))) fun t47 => (Mo.bnd (μ := W) (Mo.lft (m_two_pumps wide_.1 (t42, t43) (t44, t45) (t46, t47) wide_.2.2.2)) fun t41 => (Mo.bnd (μ := W) (Mo.lft (m_law_same RN (((dQ PyData.int)) t41) (((dQ PyData.int)) (List.map (fun (x48 : (List Bool) × Int) => x48.2) run_)))) fun t40 => (if (!t40) = true then (Mo.pur (μ := W) false) else (Mo.bnd (μ := W) (takeW (50 : Int)) fun t39 => (Mo.bnd (μ := W) (Mo.lft (m_law_is_least_right first_ pump_ (cutP ins_ none (some (12 : Int))) t39)) fun t38 => (if (!t38) = true then (Mo.pur (μ := W) false) else (letD ([(4 : Int), (4 : Int), (4 : Int), (0 : Int), (0 : Int), (4 : Int), (4 : Int), (4 : Int), (0 : Int)] : List Int) fun (few_ : List Int) => (Mo.bnd (μ := W) (Mo.lft (m_levels_of (3 : Int) (8 : Int) (2 : Int) (5 : Int) few_)) fun t37 => (Mo.bnd (μ := W) (Mo.lft (m_law_same RN (((dQ PyData.int)) t37) (((dQ PyData.int)) ([(7 : Int), (11 : Int), (10 : Int), (5 : Int), (0 : Int), (4 : Int), (8 : Int), (7 : Int), (2 : Int)] : List Int)))) fun t36 => (Mo.bnd (μ := W) (if (!t36) = true then (Mo.pur (μ := W) true) else (Mo.bnd (μ := W) (Mo.lft (m_starts_of (3 : Int) (8 : Int) (2 : Int) (5 : Int) few_)) fun t34 => (Mo.bnd (μ := W) (Mo.lft (m_law_same RN ((PyData.int) t34) ((PyData.int) (2 : Int)))) fun t33 => (Mo.bnd (μ := W) (if (!t33) = true then (Mo.pur (μ := W) true) else (Mo.bnd (μ := W) (Mo.lft (m_minutes_going (3 : Int) (8 : Int) (2 : Int) (5 : Int) few_)) fun t31 => (Mo.bnd (μ := W) (Mo.lft (m_law_same RN ((PyData.int) t31) ((PyData.int) (5 : Int)))) fun t30 => (Mo.pur (μ := W) (!t30))))) fun t32 => (Mo.pur (μ := W) t32))))) fun t35 => (if t35 = true then (Mo.pur (μ := W) false) else (Mo.bnd (μ := W) (Mo.lft (m_two_pumps (9 : Int) ((8 : Int), (9 : Int)) ((2 : Int), (5 : Int)) ((3 : Int), (2 : Int)) ([(1 : Int), (1 : Int), (1 : Int), (0 : Int)] : List Int))) fun t29 => (Mo.bnd (μ := W) (Mo.lft (m_law_same RN (((dQ PyData.int)) t29) (((dT4 PyData.int PyData.int PyData.int PyData.int)) ((5 : Int), (3 : Int), (1 : Int), (1 : Int))))) fun t28 => (Mo.bnd (μ := W) (if (!t28) = true then (Mo.pur (μ := W) true) else (Mo.bnd (μ := W) (Mo.lft (m_levels_of (9 : Int) (8 : Int) (2 : Int) (7 : Int) ([(0 : Int), (1 : Int), (0 : Int)] : List Int))) fun t26 => (Mo.bnd (μ := W) (Mo.lft (m_law_same RN (((dQ PyData.int)) t26) (((dT3 PyData.int PyData.int PyData.int)) ((2 : Int), (3 : Int), (3 : Int))))) fun t25 => (Mo.pur (μ := W) (!t25))))) fun t27 => (if t27 = true then (Mo.pur (μ := W) false) else (Mo.bnd (μ := W) (Mo.lft (m_full_by (3 : Int) ([(4 : Int), (0 : Int), (5 : Int), (1 : Int)] : List Int) (11 : Int))) fun t24 => (Mo.bnd (μ := W) (Mo.lft (m_law_same RN (((dO PyData.int)) t24) ((PyData.int) (2 : Int)))) fun t23 => (Mo.bnd (μ := W) (if (!t23) = true then (Mo.pur (μ := W) true) else (Mo.bnd (μ := W) (Mo.lft (m_full_by (3 : Int) ([(4 : Int), (0 : Int), (5 : Int), (1 : Int)] : List Int) (13 : Int))) fun t21 => (Mo.bnd (μ := W) (if (!isN ((dO PyData.int) t21)) = true then (Mo.pur (μ := W) true) else (Mo.bnd (μ := W) (Mo.lft (m_full_by (9 : Int) ([(0 : Int), (1 : Int)] : List Int) (8 : Int))) fun t19 => (Mo.bnd (μ := W) (Mo.lft (m_law_same RN (((dO PyData.int)) t19) ((PyData.int) (0 : Int)))) fun t18 => (Mo.pur (μ := W) (!t18))))) fun t20 => (Mo.pur (μ := W) t20)))) fun t22 => (if t22 = true then (Mo.pur (μ := W) false) else (Mo.bnd (μ := W) (Mo.lft (m_levels_of (5 : Int) (5 : Int) (1 : Int) (9 : Int) ([(1 : Int), (1 : Int), (3 : Int)] : List Int))) fun t17 => (Mo.bnd (μ := W) (Mo.lft (m_law_same RN (((dQ PyData.int)) t17) (((dT3 PyData.int PyData.int PyData.int)) ((0 : Int), (1 : Int), (4 : Int))))) fun t16 => (Mo.bnd (μ := W) (if (!t16) = true then (Mo.pur (μ := W) true) else (Mo.bnd (μ := W) (Mo.lft (m_least_takes (3 : Int) (8 : Int) (2 : Int) few_ (11 : Int))) fun t14 => (Mo.bnd (μ := W) (Mo.lft (m_law_same RN (((dO PyData.int)) t14) ((PyData.int) (4 : Int)))) fun t13 => (Mo.pur (μ := W) (!t13))))) fun t15 => (if t15 = true then (Mo.pur (μ := W) false) else (Mo.bnd (μ := W) (Mo.lft (m_least_takes (3 : Int) (8 : Int) (2 : Int) ([(20 : Int)] : List Int) (20 : Int))) fun t12 => (Mo.bnd (μ := W) (if (!isN ((dO PyData.int) t12)) = true then (Mo.pur (μ := W) true) else (Mo.bnd (μ := W) (Mo.lft (m_least_takes (0 : Int) (5 : Int) (1 : Int) ([] : List Int) (0 : Int))) fun t10 => (Mo.bnd (μ := W) (Mo.lft (m_law_same RN (((dO PyData.int)) t10) ((PyData.int) (0 : Int)))) fun t9 => (Mo.pur (μ := W) (!t9))))) fun t11 => (if t11 = true then (Mo.pur (μ := W) false) else (Mo.bnd (μ := W) (Mo.lft (m_law_is_told (3 : Int) ([(8 : Int), (2 : Int), (5 : Int)] : List Int) few_)) fun t8 => (Mo.bnd (μ := W) (if t8 = true then (Mo.bnd (μ := W) (Mo.lft (m_law_is_least_right (3 : Int) ((8 : Int), (2 : Int), (0 : Int)) few_ (11 : Int))) fun t6 => (Mo.bnd (μ := W) (if t6 = true then (Mo.bnd (μ := W) (Mo.lft (m_law_is_told (9 : Int) ([(5 : Int), (4 : Int), (0 : Int)] : List Int) ([(1 : Int), (1 : Int)] : List Int))) fun t4 => (Mo.bnd (μ := W) (if t4 = true then (Mo.bnd (μ := W) (Mo.lft (m_starts_of (8 : Int) (8 : Int) (2 : Int) (9 : Int) ([(0 : Int), (0 : Int), (9 : Int), (0 : Int)] : List Int))) fun t2 => (Mo.bnd (μ := W) (Mo.lft (m_law_same RN ((PyData.int) t2) ((PyData.int) (2 : Int)))) fun t1 => (Mo.pur (μ := W) t1))) else (Mo.pur (μ := W) false)) fun t3 => (Mo.pur (μ := W) t3))) else (Mo.pur (μ := W) false)) fun t5 => (Mo.pur (μ := W) t5))) else (Mo.pur (μ := W) false)) fun t7 => (Mo.pur (μ := W) t7)))))))))))))))))))))))))))))))))))))))))))))))))))))))))))))

end K74

namespace K74
open PySem PySem.Spec L2 DL
def topS (i : Nat) : Stmt := PySem.Challenge.pw_surelyflowed_k74_pumps_and_sumps.main.body.getD i (.Pass ⟨0, 0, 0, 0⟩)
abbrev st_is_on_at : Stmt := topS 2
theorem sc_is_on_at : FnScope ["level", "on", "off", "was"] ["level", "on", "off", "was"] (defScope st_is_on_at) := ⟨rfl, rfl, rfl, by decide +kernel, rfl, by decide +kernel, by decide +kernel⟩
abbrev st_minute_by_minute : Stmt := topS 3
theorem sc_minute_by_minute : FnScope ["first", "on", "off", "takes", "ins", "found", "level", "goes", "much"] ["first", "on", "off", "takes", "ins"] (defScope st_minute_by_minute) := ⟨rfl, rfl, rfl, by decide +kernel, rfl, by decide +kernel, by decide +kernel⟩
abbrev st_levels_of : Stmt := topS 4
theorem sc_levels_of : FnScope ["first", "on", "off", "takes", "ins", "goes", "level"] ["first", "on", "off", "takes", "ins"] (defScope st_levels_of) := ⟨rfl, rfl, rfl, by decide +kernel, rfl, by decide +kernel, by decide +kernel⟩
abbrev st_starts_of : Stmt := topS 5
theorem sc_starts_of : FnScope ["first", "on", "off", "takes", "ins", "goes", "own", "level", "at"] ["first", "on", "off", "takes", "ins"] (defScope st_starts_of) := ⟨rfl, rfl, rfl, by decide +kernel, rfl, by decide +kernel, by decide +kernel⟩
abbrev st_minutes_going : Stmt := topS 6
theorem sc_minutes_going : FnScope ["first", "on", "off", "takes", "ins", "goes", "level"] ["first", "on", "off", "takes", "ins"] (defScope st_minutes_going) := ⟨rfl, rfl, rfl, by decide +kernel, rfl, by decide +kernel, by decide +kernel⟩
abbrev st_stays_under : Stmt := topS 7
theorem sc_stays_under : FnScope ["levels", "bound", "level"] ["levels", "bound"] (defScope st_stays_under) := ⟨rfl, rfl, rfl, by decide +kernel, rfl, by decide +kernel, by decide +kernel⟩
abbrev st_least_takes : Stmt := topS 8
theorem sc_least_takes : FnScope ["first", "on", "off", "ins", "bound", "takes"] ["first", "on", "off", "ins", "bound"] (defScope st_least_takes) := ⟨rfl, rfl, rfl, by decide +kernel, rfl, by decide +kernel, by decide +kernel⟩
abbrev st_two_pumps : Stmt := topS 9
theorem sc_two_pumps : FnScope ["first", "ons", "offs", "takes", "ins", "found", "level", "goes", "much", "own"] ["first", "ons", "offs", "takes", "ins"] (defScope st_two_pumps) := ⟨rfl, rfl, rfl, by decide +kernel, rfl, by decide +kernel, by decide +kernel⟩
abbrev st_full_by : Stmt := topS 10
theorem sc_full_by : FnScope ["first", "ins", "bound", "level", "minute"] ["first", "ins", "bound"] (defScope st_full_by) := ⟨rfl, rfl, rfl, by decide +kernel, rfl, by decide +kernel, by decide +kernel⟩
abbrev st_law_draws : Stmt := topS 12
theorem sc_law_draws : FnScope ["script", "many", "cells", "rest", "drawn", "k", "at", "once", "cell"] ["script", "many"] (defScope st_law_draws) := ⟨rfl, rfl, rfl, by decide +kernel, rfl, by decide +kernel, by decide +kernel⟩
abbrev st_law_take : Stmt := topS 13
theorem sc_law_take : FnScope ["draws", "many"] ["draws", "many"] (defScope st_law_take) := ⟨rfl, rfl, rfl, by decide +kernel, rfl, by decide +kernel, by decide +kernel⟩
abbrev st_law_cell : Stmt := topS 14
theorem sc_law_cell : FnScope ["script", "draws", "cell"] ["script", "draws"] (defScope st_law_cell) := ⟨rfl, rfl, rfl, by decide +kernel, rfl, by decide +kernel, by decide +kernel⟩
abbrev st_law_same : Stmt := topS 15
theorem sc_law_same : FnScope ["actual", "due", "k"] ["actual", "due"] (defScope st_law_same) := ⟨rfl, rfl, rfl, by decide +kernel, rfl, by decide +kernel, by decide +kernel⟩
abbrev st_law_run : Stmt := topS 16
theorem sc_law_run : FnScope ["first", "pumps", "ins", "found", "level", "goes", "much", "at", "here", "pump"] ["first", "pumps", "ins"] (defScope st_law_run) := ⟨rfl, rfl, rfl, by decide +kernel, rfl, by decide +kernel, by decide +kernel⟩
abbrev st_law_pump : Stmt := topS 17
theorem sc_law_pump : FnScope ["draws", "on"] ["draws"] (defScope st_law_pump) := ⟨rfl, rfl, rfl, by decide +kernel, rfl, by decide +kernel, by decide +kernel⟩
abbrev st_law_is_told : Stmt := topS 18
theorem sc_law_is_told : FnScope ["first", "pump", "ins", "on", "off", "takes", "run", "goes", "starts", "own", "at"] ["first", "pump", "ins"] (defScope st_law_is_told) := ⟨rfl, rfl, rfl, by decide +kernel, rfl, by decide +kernel, by decide +kernel⟩
abbrev st_law_is_least_right : Stmt := topS 19
theorem sc_law_is_least_right : FnScope ["first", "pump", "ins", "bound", "due", "takes", "told", "own"] ["first", "pump", "ins", "bound"] (defScope st_law_is_least_right) := ⟨rfl, rfl, rfl, by decide +kernel, rfl, by decide +kernel, by decide +kernel⟩
abbrev st_law_is_full_right : Stmt := topS 20
theorem sc_law_is_full_right : FnScope ["first", "ins", "bound", "over", "at"] ["first", "ins", "bound"] (defScope st_law_is_full_right) := ⟨rfl, rfl, rfl, by decide +kernel, rfl, by decide +kernel, by decide +kernel⟩
abbrev st_law : Stmt := topS 21
theorem sc_law : FnScope ["script", "draws", "scale", "first", "pump", "other", "ins", "wide", "run", "few", "k", "own", "much"] ["script"] (defScope st_law) := ⟨rfl, rfl, rfl, by decide +kernel, rfl, by decide +kernel, by decide +kernel⟩
structure Tp (K : PySem.W.Frag) (mg : Str → Option Value) : Prop where
  n_abs : mg "abs" = none
  n_all : mg "all" = none
  n_bool : mg "bool" = none
  n_int : mg "int" = none
  n_isinstance : mg "isinstance" = none
  n_len : mg "len" = none
  n_list : mg "list" = none
  n_max : mg "max" = none
  n_min : mg "min" = none
  n_range : mg "range" = none
  n_str : mg "str" = none
  n_sum : mg "sum" = none
  n_tuple : mg "tuple" = none
  c_MOST : ∃ t, mg "MOST" = some (.int 400 t)
  a_is_on_at : At K mg "is_on_at" st_is_on_at ["level", "on", "off", "was"]
  a_minute_by_minute : At K mg "minute_by_minute" st_minute_by_minute ["first", "on", "off", "takes", "ins"]
  a_levels_of : At K mg "levels_of" st_levels_of ["first", "on", "off", "takes", "ins"]
  a_starts_of : At K mg "starts_of" st_starts_of ["first", "on", "off", "takes", "ins"]
  a_minutes_going : At K mg "minutes_going" st_minutes_going ["first", "on", "off", "takes", "ins"]
  a_stays_under : At K mg "stays_under" st_stays_under ["levels", "bound"]
  a_least_takes : At K mg "least_takes" st_least_takes ["first", "on", "off", "ins", "bound"]
  a_two_pumps : At K mg "two_pumps" st_two_pumps ["first", "ons", "offs", "takes", "ins"]
  a_full_by : At K mg "full_by" st_full_by ["first", "ins", "bound"]
  a_law_draws : At K mg "_law_draws" st_law_draws ["script", "many"]
  a_law_take : At K mg "_law_take" st_law_take ["draws", "many"]
  a_law_cell : At K mg "_law_cell" st_law_cell ["script", "draws"]
  a_law_same : At K mg "_law_same" st_law_same ["actual", "due"]
  a_law_run : At K mg "_law_run" st_law_run ["first", "pumps", "ins"]
  a_law_pump : At K mg "_law_pump" st_law_pump ["draws"]
  a_law_is_told : At K mg "_law_is_told" st_law_is_told ["first", "pump", "ins"]
  a_law_is_least_right : At K mg "_law_is_least_right" st_law_is_least_right ["first", "pump", "ins", "bound"]
  a_law_is_full_right : At K mg "_law_is_full_right" st_law_is_full_right ["first", "ins", "bound"]
  a_law : At K mg "law" st_law ["script"]
section

variable {P : Program} {w : World} {K : PySem.W.Frag} {mg : Str → Option Value} {base : Heap}

theorem g_is_on_at (T : Tp K mg) : Gd P w K mg base "is_on_at" ["level", "on", "off", "was"] 1 (spD (A := Int × Int × Int × Bool × Unit) (fun a => [vl PyData.int a.1, vl PyData.int a.2.1, vl PyData.int a.2.2.1, vl PyData.bool a.2.2.2.1]) (fun a Q => Mo.holds (m_is_on_at a.1 a.2.1 a.2.2.1 a.2.2.2.1) Q) (vl PyData.bool)) := by
  refine fn_ok (N := ["level", "on", "off", "was"]) T.a_is_on_at sc_is_on_at (fun _ => rfl) fun f cdv A0 outer s H E a hr => ?_
  obtain ⟨level_, on_, off_, was_, _⟩ := a
  exact ds_cast ((ds_ifR (ds_ret (j := fun x => x) (de_ifP (enc := (vl PyData.bool)) (fun _ => (k_bl rfl)) (fun _ => (dv 3 PyData.bool was_ rfl)) (dt_cmp op_le oc_le (fun _ => (dv 2 PyData.int off_ rfl)) (dv 0 PyData.int level_ rfl))) (fun _ => rfl)) (ds_ret (j := fun x => x) (k_bl rfl) (fun _ => rfl)) (dt_cmp op_ge oc_ge (fun _ => (dv 1 PyData.int on_ rfl)) (dv 0 PyData.int level_ rfl)) hF)) rfl

theorem g_minute_by_minute (T : Tp K mg) : Gd P w K mg base "minute_by_minute" ["first", "on", "off", "takes", "ins"] 2 (spD (A := Int × Int × Int × Int × (List Int) × Unit) (fun a => [vl PyData.int a.1, vl PyData.int a.2.1, vl PyData.int a.2.2.1, vl PyData.int a.2.2.2.1, vl (dQ PyData.int) a.2.2.2.2.1]) (fun a Q => Mo.holds (m_minute_by_minute a.1 a.2.1 a.2.2.1 a.2.2.2.1 a.2.2.2.2.1) Q) (ow (dT2 PyData.bool PyData.int))) := by
  refine fn_ok (N := ["first", "on", "off", "takes", "ins", "found", "level", "goes", "much"]) T.a_minute_by_minute sc_minute_by_minute (fun _ => rfl) fun f cdv A0 outer s H E a hr => ?_
  obtain ⟨first_, on_, off_, takes_, ins_, _⟩ := a
  exact ds_cast ((ds_setN (enc := (ow (dT2 PyData.bool PyData.int))) 5 sc_minute_by_minute.nd (fun found_ => (ds_par2N (e1 := (vl PyData.int)) (e2 := (vl PyData.bool)) 6 7 rfl sc_minute_by_minute.nd (by decide) (fun level_ goes_ => (ds_seq (G := (fun (s : Bool × Int × (List (Bool × Int))) => [some (vl PyData.int first_), some (vl PyData.int on_), some (vl PyData.int off_), some (vl PyData.int takes_), some (vl (dQ PyData.int) ins_), some (ow (dT2 PyData.bool PyData.int) s.2.2), some (vl PyData.int s.2.1), some (vl PyData.bool s.1), none])) (fun s4 => (ds_retOwn 5 s4.2.2 rfl (fun _ => rfl))) (d1_for (G := (fun (s : Bool × Int × (List (Bool × Int))) => [some (vl PyData.int first_), some (vl PyData.int on_), some (vl PyData.int off_), some (vl PyData.int takes_), some (vl (dQ PyData.int) ins_), some (ow (dT2 PyData.bool PyData.int) s.2.2), some (vl PyData.int s.2.1), some (vl PyData.bool s.1), none])) (goes_, level_, found_) rfl PassesOwn.never ⟨rfl, rfl, rfl, rfl, rfl, rfl, rfl, rfl, trivial⟩ (dg_name (f := PyData.int) 8) (pg_name (i := 8) sc_minute_by_minute.nd rfl (by first | exact Or.inl rfl | exact Or.inr rfl)) (fun s1 x2 => (ds_setN (enc := (vl PyData.bool)) 7 sc_minute_by_minute.nd (fun goes_ => (ds_augN ip_add 6 s1.2.1 sc_minute_by_minute.nd rfl (fun level_ => (ds_augN ip_sub 6 level_ sc_minute_by_minute.nd rfl (fun level_ => (ds_append 5 s1.2.2 rfl (fun found_ => (ds_nil (b := (goes_, level_, found_)) ([some (vl PyData.int first_), some (vl PyData.int on_), some (vl PyData.int off_), some (vl PyData.int takes_), some (vl (dQ PyData.int) ins_), some (ow (dT2 PyData.bool PyData.int) found_), some (vl PyData.int level_), some (vl PyData.bool goes_), none]) rfl ⟨rfl, rfl, rfl, rfl, rfl, rfl, rfl, rfl, trivial⟩)) (de_tup (g := fun (y : Bool × Int × Unit) => [PyData.bool y.1, PyData.int y.2.1]) (ff := fun (y : Bool × Int × Unit) => (y.1, y.2.1)) (fe := (dT2 PyData.bool PyData.int)) (fun _ => rfl) (fun _ => Nat.le_of_ble_eq_true rfl) (fun _ => rfl) (da_cons (fun _ => (da_cons (fun _ => da_nil) (dv 6 PyData.int level_ rfl))) (dv 7 PyData.bool goes_ rfl))))) (de_ifP (enc := (vl PyData.int)) (fun _ => (de_min2 rfl T.n_min (fun _ => (dv 6 PyData.int level_ rfl)) (dv 3 PyData.int takes_ rfl))) (fun _ => (k_int rfl)) (dt_val (dv 7 PyData.bool goes_ rfl))))) (dv 8 PyData.int x2 rfl))) (dcall (fun (y : Int × Int × Int × Bool × Unit) => m_is_on_at y.1 y.2.1 y.2.2.1 y.2.2.2.1) wO (g_is_on_at T) (hr.mono (by decide)) (da_cons (fun _ => (da_cons (fun _ => (da_cons (fun _ => (da_cons (fun _ => da_nil) (dv 7 PyData.bool s1.1 rfl))) (dv 2 PyData.int off_ rfl))) (dv 1 PyData.int on_ rfl))) (dv 6 PyData.int s1.2.1 rfl)) (fun _ => .inl rfl)))) (di_tup (dv 4 (dQ PyData.int) ins_ rfl))))) (fun _ => (k_bl rfl)) (dv 0 PyData.int first_ rfl))) (de_lst (f := (dT2 PyData.bool PyData.int)) (g := fun (y : Unit) => ([] : List (Bool × Int))) (fun _ => rfl) (fun _ => Nat.le_of_ble_eq_true rfl) da_nil))) rfl

theorem g_levels_of (T : Tp K mg) : Gd P w K mg base "levels_of" ["first", "on", "off", "takes", "ins"] 3 (spD (A := Int × Int × Int × Int × (List Int) × Unit) (fun a => [vl PyData.int a.1, vl PyData.int a.2.1, vl PyData.int a.2.2.1, vl PyData.int a.2.2.2.1, vl (dQ PyData.int) a.2.2.2.2.1]) (fun a Q => Mo.holds (m_levels_of a.1 a.2.1 a.2.2.1 a.2.2.2.1 a.2.2.2.2.1) Q) (vl (dQ PyData.int))) := by
  refine fn_ok (N := ["first", "on", "off", "takes", "ins", "goes", "level"]) T.a_levels_of sc_levels_of (fun _ => rfl) fun f cdv A0 outer s H E a hr => ?_
  obtain ⟨first_, on_, off_, takes_, ins_, _⟩ := a
  exact ds_cast ((ds_ret (j := fun x => x) (de_tupleL T.n_tuple (de_lc (own := [("goes", 5), ("level", 6)]) rfl sc_levels_of.nd (by show blkC ["first", "on", "off", "takes", "ins", "goes", "level"] (defScope st_levels_of) _ _ = true; decide +kernel) (fun _ _ _ _ _ => (pg_tup rfl (pgs_cons (pg_name (i := 5) sc_levels_of.nd rfl (by first | exact Or.inl rfl | exact Or.inr rfl)) (pgs_cons (pg_name (i := 6) sc_levels_of.nd rfl (by first | exact Or.inl rfl | exact Or.inr rfl)) pgs_nil)))) (dc_P (h := fun (x1 : Bool × Int) => x1.2) (dg_tup2 5 6 (by decide)) (fun x1 _ _ _ _ _ _ => (dv 6 PyData.int x1.2 rfl)) (DI.c (di_own (dcall (fun (y : Int × Int × Int × Int × (List Int) × Unit) => m_minute_by_minute y.1 y.2.1 y.2.2.1 y.2.2.2.1 y.2.2.2.2.1) wO (g_minute_by_minute T) (hr.mono (by decide)) (da_cons (fun _ => (da_cons (fun _ => (da_cons (fun _ => (da_cons (fun _ => (da_cons (fun _ => da_nil) (dv 4 (dQ PyData.int) ins_ rfl))) (dv 3 PyData.int takes_ rfl))) (dv 2 PyData.int off_ rfl))) (dv 1 PyData.int on_ rfl))) (dv 0 PyData.int first_ rfl)) (fun _ => .inl rfl))))))) (fun _ => rfl))) rfl

theorem g_starts_of (T : Tp K mg) : Gd P w K mg base "starts_of" ["first", "on", "off", "takes", "ins"] 3 (spD (A := Int × Int × Int × Int × (List Int) × Unit) (fun a => [vl PyData.int a.1, vl PyData.int a.2.1, vl PyData.int a.2.2.1, vl PyData.int a.2.2.2.1, vl (dQ PyData.int) a.2.2.2.2.1]) (fun a Q => Mo.holds (m_starts_of a.1 a.2.1 a.2.2.1 a.2.2.2.1 a.2.2.2.2.1) Q) (vl PyData.int)) := by
  refine fn_ok (N := ["first", "on", "off", "takes", "ins", "goes", "own", "level", "at"]) T.a_starts_of sc_starts_of (fun _ => rfl) fun f cdv A0 outer s H E a hr => ?_
  obtain ⟨first_, on_, off_, takes_, ins_, _⟩ := a
  exact ds_cast ((ds_setN (enc := (vl (dL PyData.bool))) 5 sc_starts_of.nd (fun goes_ => (ds_ret (j := fun x => x) (de_len T.n_len (de_lc (own := [("at", 8)]) rfl sc_starts_of.nd (by show blkC ["first", "on", "off", "takes", "ins", "goes", "own", "level", "at"] (defScope st_starts_of) _ _ = true; decide +kernel) (fun _ _ _ _ _ => (pg_name (i := 8) sc_starts_of.nd rfl (by first | exact Or.inl rfl | exact Or.inr rfl))) (dc_MF (h := fun (x1 : Int) => (some (1 : Int))) (p := fun (x1 : Int) => (Option.bind (L2.atI goes_ x1) fun t4 => (Option.bind (if t4 = true then (Option.bind (L2.atI goes_ (x1 - (1 : Int))) fun t2 => (some (!t2))) else (some false)) fun t3 => (some t3)))) (dg_name (f := PyData.int) 8) (fun x1 _ _ _ _ _ => (k_int rfl)) (fun x1 _ _ _ _ _ => (dt_w (dw_andM (dw_1 (dt_not (dt_val (de_ix (fun _ => (de_sub (fun _ => (k_int rfl)) (dv 8 PyData.int x1 rfl))) (dv 5 (dL PyData.bool) goes_ rfl))))) (dt_val (de_ix (fun _ => (dv 8 PyData.int x1 rfl)) (dv 5 (dL PyData.bool) goes_ rfl)))))) (DI.c (di_rngL2 (by decide) T.n_range T.n_len (dv 5 (dL PyData.bool) goes_ rfl)))))) (fun _ => rfl))) (de_frz (de_cat (fun _ => (de_lc (own := [("own", 6), ("level", 7)]) rfl sc_starts_of.nd (by show blkC ["first", "on", "off", "takes", "ins", "goes", "own", "level", "at"] (defScope st_starts_of) _ _ = true; decide +kernel) (fun _ _ _ _ _ => (pg_tup rfl (pgs_cons (pg_name (i := 6) sc_starts_of.nd rfl (by first | exact Or.inl rfl | exact Or.inr rfl)) (pgs_cons (pg_name (i := 7) sc_starts_of.nd rfl (by first | exact Or.inl rfl | exact Or.inr rfl)) pgs_nil)))) (dc_P (h := fun (x7 : Bool × Int) => x7.1) (dg_tup2 6 7 (by decide)) (fun x7 _ _ _ _ _ _ => (dv 6 PyData.bool x7.1 rfl)) (DI.c (di_own (dcall (fun (y : Int × Int × Int × Int × (List Int) × Unit) => m_minute_by_minute y.1 y.2.1 y.2.2.1 y.2.2.2.1 y.2.2.2.2.1) wO (g_minute_by_minute T) (hr.mono (by decide)) (da_cons (fun _ => (da_cons (fun _ => (da_cons (fun _ => (da_cons (fun _ => (da_cons (fun _ => da_nil) (dv 4 (dQ PyData.int) ins_ rfl))) (dv 3 PyData.int takes_ rfl))) (dv 2 PyData.int off_ rfl))) (dv 1 PyData.int on_ rfl))) (dv 0 PyData.int first_ rfl)) (fun _ => .inl rfl))))))) (de_lst (f := PyData.bool) (g := fun (y : Bool × Unit) => ([y.1] : List Bool)) (fun _ => rfl) (fun _ => Nat.le_of_ble_eq_true rfl) (da_cons (fun _ => da_nil) (k_bl rfl))))))) rfl

theorem g_minutes_going (T : Tp K mg) : Gd P w K mg base "minutes_going" ["first", "on", "off", "takes", "ins"] 3 (spD (A := Int × Int × Int × Int × (List Int) × Unit) (fun a => [vl PyData.int a.1, vl PyData.int a.2.1, vl PyData.int a.2.2.1, vl PyData.int a.2.2.2.1, vl (dQ PyData.int) a.2.2.2.2.1]) (fun a Q => Mo.holds (m_minutes_going a.1 a.2.1 a.2.2.1 a.2.2.2.1 a.2.2.2.2.1) Q) (vl PyData.int)) := by
  refine fn_ok (N := ["first", "on", "off", "takes", "ins", "goes", "level"]) T.a_minutes_going sc_minutes_going (fun _ => rfl) fun f cdv A0 outer s H E a hr => ?_
  obtain ⟨first_, on_, off_, takes_, ins_, _⟩ := a
  exact ds_cast ((ds_ret (j := fun x => x) (de_len T.n_len (de_lc (own := [("goes", 5), ("level", 6)]) rfl sc_minutes_going.nd (by show blkC ["first", "on", "off", "takes", "ins", "goes", "level"] (defScope st_minutes_going) _ _ = true; decide +kernel) (fun _ _ _ _ _ => (pg_tup rfl (pgs_cons (pg_name (i := 5) sc_minutes_going.nd rfl (by first | exact Or.inl rfl | exact Or.inr rfl)) (pgs_cons (pg_name (i := 6) sc_minutes_going.nd rfl (by first | exact Or.inl rfl | exact Or.inr rfl)) pgs_nil)))) (dc_PF (h := fun (x1 : Bool × Int) => (1 : Int)) (p := fun (x1 : Bool × Int) => x1.1) (dg_tup2 5 6 (by decide)) (fun x1 _ _ _ _ _ _ => (k_int rfl)) (fun x1 _ _ _ _ _ _ => (dt_val (dv 5 PyData.bool x1.1 rfl))) (DI.c (di_own (dcall (fun (y : Int × Int × Int × Int × (List Int) × Unit) => m_minute_by_minute y.1 y.2.1 y.2.2.1 y.2.2.2.1 y.2.2.2.2.1) wO (g_minute_by_minute T) (hr.mono (by decide)) (da_cons (fun _ => (da_cons (fun _ => (da_cons (fun _ => (da_cons (fun _ => (da_cons (fun _ => da_nil) (dv 4 (dQ PyData.int) ins_ rfl))) (dv 3 PyData.int takes_ rfl))) (dv 2 PyData.int off_ rfl))) (dv 1 PyData.int on_ rfl))) (dv 0 PyData.int first_ rfl)) (fun _ => .inl rfl))))))) (fun _ => rfl))) rfl

theorem g_stays_under (T : Tp K mg) : Gd P w K mg base "stays_under" ["levels", "bound"] 1 (spD (A := (List Int) × Int × Unit) (fun a => [vl (dQ PyData.int) a.1, vl PyData.int a.2.1]) (fun a Q => Mo.holds (m_stays_under a.1 a.2.1) Q) (vl PyData.bool)) := by
  refine fn_ok (N := ["levels", "bound", "level"]) T.a_stays_under sc_stays_under (fun _ => rfl) fun f cdv A0 outer s H E a hr => ?_
  obtain ⟨levels_, bound_, _⟩ := a
  exact ds_cast ((ds_ret (j := fun x => x) (de_all rfl T.n_all (de_lc (own := [("level", 2)]) rfl sc_stays_under.nd (by show blkC ["levels", "bound", "level"] (defScope st_stays_under) _ _ = true; decide +kernel) (fun _ _ _ _ _ => (pg_name (i := 2) sc_stays_under.nd rfl (by first | exact Or.inl rfl | exact Or.inr rfl))) (dc_P (h := fun (x1 : Int) => (decide (x1 ≤ bound_))) (dg_name (f := PyData.int) 2) (fun x1 _ _ _ _ _ _ => (de_cmp op_le oc_le (fun _ => (dv 1 PyData.int bound_ rfl)) (dv 2 PyData.int x1 rfl))) (DI.c (di_tup (dv 0 (dQ PyData.int) levels_ rfl)))))) (fun _ => rfl))) rfl

theorem g_least_takes (T : Tp K mg) : Gd P w K mg base "least_takes" ["first", "on", "off", "ins", "bound"] 4 (spD (A := Int × Int × Int × (List Int) × Int × Unit) (fun a => [vl PyData.int a.1, vl PyData.int a.2.1, vl PyData.int a.2.2.1, vl (dQ PyData.int) a.2.2.2.1, vl PyData.int a.2.2.2.2.1]) (fun a Q => Mo.holds (m_least_takes a.1 a.2.1 a.2.2.1 a.2.2.2.1 a.2.2.2.2.1) Q) (vl (dO PyData.int))) := by
  refine fn_ok (N := ["first", "on", "off", "ins", "bound", "takes"]) T.a_least_takes sc_least_takes (fun _ => rfl) fun f cdv A0 outer s H E a hr => ?_
  obtain ⟨first_, on_, off_, ins_, bound_, _⟩ := a
  exact ds_cast ((ds_seqE (G := (fun (s : Unit) => [some (vl PyData.int first_), some (vl PyData.int on_), some (vl PyData.int off_), some (vl (dQ PyData.int) ins_), some (vl PyData.int bound_), none])) (enc := (vl (dO PyData.int))) (j := (fun x => x)) (fun s6 => (ds_ret (j := fun x => x) (de_coe (fun _ => (none : Option Int)) (e1 := vl dN) (e2 := vl (dO PyData.int)) (fun _ => rfl) (k_non rfl)) (fun _ => rfl))) (d1_forE (G := (fun (s : Unit) => [some (vl PyData.int first_), some (vl PyData.int on_), some (vl PyData.int off_), some (vl (dQ PyData.int) ins_), some (vl PyData.int bound_), none])) (enc := (vl (dO PyData.int))) () rfl PassesOwn.never ⟨rfl, rfl, rfl, rfl, rfl, trivial⟩ (dg_name (f := PyData.int) 5) (pg_name (i := 5) sc_least_takes.nd rfl (by first | exact Or.inl rfl | exact Or.inr rfl)) (fun s1 x2 => (ds_ifR (φ' := nort (vl (dO PyData.int))) (ds_nil (b := (Sum.inl ())) ([some (vl PyData.int first_), some (vl PyData.int on_), some (vl PyData.int off_), some (vl (dQ PyData.int) ins_), some (vl PyData.int bound_), none]) rfl ⟨rfl, rfl, rfl, rfl, rfl, trivial⟩) (ds_ret (j := Sum.inr) (de_coe some (e1 := vl PyData.int) (e2 := vl (dO PyData.int)) (fun _ => rfl) (dv 5 PyData.int x2 rfl)) (fun _ => rfl)) (dt_val (dcall (fun (y : (List Int) × Int × Unit) => m_stays_under y.1 y.2.1) wO (g_stays_under T) (hr.mono (by decide)) (da_cons (fun _ => (da_cons (fun _ => da_nil) (dv 4 PyData.int bound_ rfl))) (dcall (fun (y : Int × Int × Int × Int × (List Int) × Unit) => m_levels_of y.1 y.2.1 y.2.2.1 y.2.2.2.1 y.2.2.2.2.1) wO (g_levels_of T) (hr.mono (by decide)) (da_cons (fun _ => (da_cons (fun _ => (da_cons (fun _ => (da_cons (fun _ => (da_cons (fun _ => da_nil) (dv 3 (dQ PyData.int) ins_ rfl))) (dv 5 PyData.int x2 rfl))) (dv 2 PyData.int off_ rfl))) (dv 1 PyData.int on_ rfl))) (dv 0 PyData.int first_ rfl)) (fun _ => .inl rfl))) (fun _ => .inl rfl))) hE)) (di_rng1 T.n_range (de_add (fun _ => (k_int rfl)) (de_min2 rfl T.n_min (fun _ => (k_gI (n := 400) (Classical.choose_spec T.c_MOST) rfl)) (de_add (fun _ => (dv 0 PyData.int first_ rfl)) (de_sum rfl T.n_sum (dv 3 (dQ PyData.int) ins_ rfl))))))) (fun _ => rfl))) rfl

theorem g_two_pumps (T : Tp K mg) : Gd P w K mg base "two_pumps" ["first", "ons", "offs", "takes", "ins"] 2 (spD (A := Int × (Int × Int) × (Int × Int) × (Int × Int) × (List Int) × Unit) (fun a => [vl PyData.int a.1, vl (dT2 PyData.int PyData.int) a.2.1, vl (dT2 PyData.int PyData.int) a.2.2.1, vl (dT2 PyData.int PyData.int) a.2.2.2.1, vl (dQ PyData.int) a.2.2.2.2.1]) (fun a Q => Mo.holds (m_two_pumps a.1 a.2.1 a.2.2.1 a.2.2.2.1 a.2.2.2.2.1) Q) (vl (dQ PyData.int))) := by
  refine fn_ok (N := ["first", "ons", "offs", "takes", "ins", "found", "level", "goes", "much", "own"]) T.a_two_pumps sc_two_pumps (fun _ => rfl) fun f cdv A0 outer s H E a hr => ?_
  obtain ⟨first_, ons_, offs_, takes_, ins_, _⟩ := a
  exact ds_cast ((ds_setN (enc := (ow PyData.int)) 5 sc_two_pumps.nd (fun found_ => (ds_unpN (dg_tup2 6 7 (by decide)) (pg_tup rfl (pgs_cons (pg_name (i := 6) sc_two_pumps.nd rfl (by first | exact Or.inl rfl | exact Or.inr rfl)) (pgs_cons (pg_name (i := 7) sc_two_pumps.nd rfl (by first | exact Or.inl rfl | exact Or.inr rfl)) pgs_nil))) (fun y1 => (ds_seq (G := (fun (s : (List Bool) × Int × (List Int)) => [some (vl PyData.int first_), some (vl (dT2 PyData.int PyData.int) ons_), some (vl (dT2 PyData.int PyData.int) offs_), some (vl (dT2 PyData.int PyData.int) takes_), some (vl (dQ PyData.int) ins_), some (ow PyData.int s.2.2), some (vl PyData.int s.2.1), some (vl (dL PyData.bool) s.1), none, none])) (fun s18 => (ds_ret (j := fun x => x) (de_tupleL T.n_tuple (dvb 5 PyData.int s18.2.2 rfl)) (fun _ => rfl))) (d1_for (G := (fun (s : (List Bool) × Int × (List Int)) => [some (vl PyData.int first_), some (vl (dT2 PyData.int PyData.int) ons_), some (vl (dT2 PyData.int PyData.int) offs_), some (vl (dT2 PyData.int PyData.int) takes_), some (vl (dQ PyData.int) ins_), some (ow PyData.int s.2.2), some (vl PyData.int s.2.1), some (vl (dL PyData.bool) s.1), none, none])) (y1.2, y1.1, found_) rfl PassesOwn.never ⟨rfl, rfl, rfl, rfl, rfl, rfl, rfl, rfl, trivial⟩ (dg_name (f := PyData.int) 8) (pg_name (i := 8) sc_two_pumps.nd rfl (by first | exact Or.inl rfl | exact Or.inr rfl)) (fun s2 x3 => (ds_setN (enc := (vl (dL PyData.bool))) 7 sc_two_pumps.nd (fun goes_ => (ds_augN ip_add 6 s2.2.1 sc_two_pumps.nd rfl (fun level_ => (ds_seq (G := (fun (s : Int) => [some (vl PyData.int first_), some (vl (dT2 PyData.int PyData.int) ons_), some (vl (dT2 PyData.int PyData.int) offs_), some (vl (dT2 PyData.int PyData.int) takes_), some (vl (dQ PyData.int) ins_), some (ow PyData.int s2.2.2), some (vl PyData.int s), some (vl (dL PyData.bool) goes_), some (vl PyData.int x3), none])) (fun s10 => (ds_append 5 s2.2.2 rfl (fun found_ => (ds_nil (b := (goes_, s10, found_)) ([some (vl PyData.int first_), some (vl (dT2 PyData.int PyData.int) ons_), some (vl (dT2 PyData.int PyData.int) offs_), some (vl (dT2 PyData.int PyData.int) takes_), some (vl (dQ PyData.int) ins_), some (ow PyData.int found_), some (vl PyData.int s10), some (vl (dL PyData.bool) goes_), none, none]) rfl ⟨rfl, rfl, rfl, rfl, rfl, rfl, rfl, rfl, trivial⟩)) (dv 6 PyData.int s10 rfl))) (d1_for (G := (fun (s : Int) => [some (vl PyData.int first_), some (vl (dT2 PyData.int PyData.int) ons_), some (vl (dT2 PyData.int PyData.int) offs_), some (vl (dT2 PyData.int PyData.int) takes_), some (vl (dQ PyData.int) ins_), some (ow PyData.int s2.2.2), some (vl PyData.int s), some (vl (dL PyData.bool) goes_), some (vl PyData.int x3), none])) level_ rfl PassesOwn.never ⟨rfl, rfl, rfl, rfl, rfl, rfl, rfl, rfl, rfl, trivial⟩ (dg_name (f := PyData.int) 9) (pg_name (i := 9) sc_two_pumps.nd rfl (by first | exact Or.inl rfl | exact Or.inr rfl)) (fun s4 x5 => (ds_augN ip_sub 6 s4 sc_two_pumps.nd rfl (fun level_ => (ds_nil (b := level_) ([some (vl PyData.int first_), some (vl (dT2 PyData.int PyData.int) ons_), some (vl (dT2 PyData.int PyData.int) offs_), some (vl (dT2 PyData.int PyData.int) takes_), some (vl (dQ PyData.int) ins_), some (ow PyData.int s2.2.2), some (vl PyData.int level_), some (vl (dL PyData.bool) goes_), some (vl PyData.int x3), none]) rfl ⟨rfl, rfl, rfl, rfl, rfl, rfl, rfl, rfl, rfl, trivial⟩)) (de_ifM (enc := (vl PyData.int)) (de_min2 rfl T.n_min (fun _ => (dv 6 PyData.int s4 rfl)) (de_ix (fun _ => (dv 9 PyData.int x5 rfl)) (de_coe (fun (a : Int × Int) => ([a.1, a.2] : List Int)) (e1 := vl (dT2 PyData.int PyData.int)) (e2 := vl (dQ PyData.int)) (fun _ => rfl) (dv 3 (dT2 PyData.int PyData.int) takes_ rfl)))) (k_int rfl) (dt_val (de_ix (fun _ => (dv 9 PyData.int x5 rfl)) (dv 7 (dL PyData.bool) goes_ rfl)))))) (di_rng1 T.n_range (k_int rfl))))) (dv 8 PyData.int x3 rfl))) (de_frz (de_lc (own := [("own", 9)]) rfl sc_two_pumps.nd (by show blkC ["first", "ons", "offs", "takes", "ins", "found", "level", "goes", "much", "own"] (defScope st_two_pumps) _ _ = true; decide +kernel) (fun _ _ _ _ _ => (pg_name (i := 9) sc_two_pumps.nd rfl (by first | exact Or.inl rfl | exact Or.inr rfl))) (dc_M (h := fun (x11 : Int) => (Option.bind (L2.atI ((fun (a : Int × Int) => ([a.1, a.2] : List Int)) ons_) x11) fun t13 => (Option.bind (L2.atI ((fun (a : Int × Int) => ([a.1, a.2] : List Int)) offs_) x11) fun t14 => (Option.bind (L2.atI s2.1 x11) fun t15 => (Option.bind (m_is_on_at s2.2.1 t13 t14 t15) fun t12 => (some t12)))))) (dg_name (f := PyData.int) 9) (fun x11 _ _ _ _ _ => (dcall (fun (y : Int × Int × Int × Bool × Unit) => m_is_on_at y.1 y.2.1 y.2.2.1 y.2.2.2.1) wO (g_is_on_at T) (hr.mono (by decide)) (da_cons (fun _ => (da_cons (fun _ => (da_cons (fun _ => (da_cons (fun _ => da_nil) (de_ix (fun _ => (dv 9 PyData.int x11 rfl)) (dv 7 (dL PyData.bool) s2.1 rfl)))) (de_ix (fun _ => (dv 9 PyData.int x11 rfl)) (de_coe (fun (a : Int × Int) => ([a.1, a.2] : List Int)) (e1 := vl (dT2 PyData.int PyData.int)) (e2 := vl (dQ PyData.int)) (fun _ => rfl) (dv 2 (dT2 PyData.int PyData.int) offs_ rfl))))) (de_ix (fun _ => (dv 9 PyData.int x11 rfl)) (de_coe (fun (a : Int × Int) => ([a.1, a.2] : List Int)) (e1 := vl (dT2 PyData.int PyData.int)) (e2 := vl (dQ PyData.int)) (fun _ => rfl) (dv 1 (dT2 PyData.int PyData.int) ons_ rfl))))) (dv 6 PyData.int s2.2.1 rfl)) (fun _ => .inl rfl))) (DI.c (di_rng1 T.n_range (k_int rfl)))))))) (di_tup (dv 4 (dQ PyData.int) ins_ rfl))))) (de_tup (g := fun (y : Int × (List Bool) × Unit) => [PyData.int y.1, (dL PyData.bool) y.2.1]) (ff := fun (y : Int × (List Bool) × Unit) => (y.1, y.2.1)) (fe := (dT2 PyData.int (dL PyData.bool))) (fun _ => rfl) (fun _ => Nat.le_of_ble_eq_true rfl) (fun _ => rfl) (da_cons (fun _ => (da_cons (fun _ => da_nil) (de_frz (de_lst (f := PyData.bool) (g := fun (y : Bool × Bool × Unit) => ([y.1, y.2.1] : List Bool)) (fun _ => rfl) (fun _ => Nat.le_of_ble_eq_true rfl) (da_cons (fun _ => (da_cons (fun _ => da_nil) (k_bl rfl))) (k_bl rfl)))))) (dv 0 PyData.int first_ rfl))))) (de_lst (f := PyData.int) (g := fun (y : Unit) => ([] : List Int)) (fun _ => rfl) (fun _ => Nat.le_of_ble_eq_true rfl) da_nil))) rfl

theorem g_full_by (T : Tp K mg) : Gd P w K mg base "full_by" ["first", "ins", "bound"] 1 (spD (A := Int × (List Int) × Int × Unit) (fun a => [vl PyData.int a.1, vl (dQ PyData.int) a.2.1, vl PyData.int a.2.2.1]) (fun a Q => Mo.holds (m_full_by a.1 a.2.1 a.2.2.1) Q) (vl (dO PyData.int))) := by
  refine fn_ok (N := ["first", "ins", "bound", "level", "minute"]) T.a_full_by sc_full_by (fun _ => rfl) fun f cdv A0 outer s H E a hr => ?_
  obtain ⟨first_, ins_, bound_, _⟩ := a
  exact ds_cast ((ds_setN (enc := (vl PyData.int)) 3 sc_full_by.nd (fun level_ => (ds_seqE (G := (fun (s : Int) => [some (vl PyData.int first_), some (vl (dQ PyData.int) ins_), some (vl PyData.int bound_), some (vl PyData.int s), none])) (enc := (vl (dO PyData.int))) (j := (fun x => x)) (fun s4 => (ds_ret (j := fun x => x) (de_coe (fun _ => (none : Option Int)) (e1 := vl dN) (e2 := vl (dO PyData.int)) (fun _ => rfl) (k_non rfl)) (fun _ => rfl))) (d1_forE (G := (fun (s : Int) => [some (vl PyData.int first_), some (vl (dQ PyData.int) ins_), some (vl PyData.int bound_), some (vl PyData.int s), none])) (enc := (vl (dO PyData.int))) level_ rfl PassesOwn.never ⟨rfl, rfl, rfl, rfl, trivial⟩ (dg_name (f := PyData.int) 4) (pg_name (i := 4) sc_full_by.nd rfl (by first | exact Or.inl rfl | exact Or.inr rfl)) (fun s1 x2 => (ds_augN ip_add 3 s1 sc_full_by.nd rfl (fun level_ => (ds_ifR (φ' := nort (vl (dO PyData.int))) (ds_nil (b := (Sum.inl level_)) ([some (vl PyData.int first_), some (vl (dQ PyData.int) ins_), some (vl PyData.int bound_), some (vl PyData.int level_), none]) rfl ⟨rfl, rfl, rfl, rfl, trivial⟩) (ds_ret (j := Sum.inr) (de_coe some (e1 := vl PyData.int) (e2 := vl (dO PyData.int)) (fun _ => rfl) (dv 4 PyData.int x2 rfl)) (fun _ => rfl)) (dt_cmp op_gt oc_gt (fun _ => (dv 2 PyData.int bound_ rfl)) (dv 3 PyData.int level_ rfl)) hE)) (de_ix (fun _ => (dv 4 PyData.int x2 rfl)) (dv 1 (dQ PyData.int) ins_ rfl)))) (di_rngL T.n_range T.n_len (dv 1 (dQ PyData.int) ins_ rfl))) (fun _ => rfl))) (dv 0 PyData.int first_ rfl))) rfl

theorem g_law_draws (T : Tp K mg) : Gd P w K mg base "_law_draws" ["script", "many"] 1 (spD (A := (List Int) × Int × Unit) (fun a => [vl (dL PyData.int) a.1, vl PyData.int a.2.1]) (fun a Q => Mo.holds (m_law_draws a.1 a.2.1) Q) (ow PyData.int)) := by
  refine fn_ok (N := ["script", "many", "cells", "rest", "drawn", "k", "at", "once", "cell"]) T.a_law_draws sc_law_draws (fun _ => rfl) fun f cdv A0 outer s H E a hr => ?_
  obtain ⟨script_, many_, _⟩ := a
  exact ds_cast ((ds_setLcN (own := [("cell", 8)]) 2 rfl sc_law_draws.nd (by show blkC ["script", "many", "cells", "rest", "drawn", "k", "at", "once", "cell"] (defScope st_law_draws) _ _ = true; decide +kernel) (fun cells_ => (ds_seq (G := (fun (s : (List Int)) => [some (vl (dL PyData.int) script_), some (vl PyData.int many_), some (ow PyData.int s), none, none, none, none, none, none])) (fun s1 => (ds_setN (enc := (ow PyData.int)) 3 sc_law_draws.nd (fun rest_ => (ds_setN (enc := (ow PyData.int)) 4 sc_law_draws.nd (fun drawn_ => (ds_seq (G := (fun (s : (List Int) × (List Int)) => [some (vl (dL PyData.int) script_), some (vl PyData.int many_), some (ow PyData.int s1), some (ow PyData.int s.2), some (ow PyData.int s.1), none, none, none, none])) (fun s14 => (ds_reverse 4 s14.1 rfl (ds_retOwn 4 (List.reverse s14.1) rfl (fun _ => rfl)))) (d1_for (G := (fun (s : (List Int) × (List Int)) => [some (vl (dL PyData.int) script_), some (vl PyData.int many_), some (ow PyData.int s1), some (ow PyData.int s.2), some (ow PyData.int s.1), none, none, none, none])) (drawn_, rest_) rfl PassesOwn.never ⟨rfl, rfl, rfl, rfl, rfl, trivial⟩ (dg_name (f := PyData.int) 5) (pg_name (i := 5) sc_law_draws.nd rfl (by first | exact Or.inl rfl | exact Or.inr rfl)) (fun s2 x3 => (ds_setN (enc := (vl PyData.int)) 6 sc_law_draws.nd (fun at_ => (ds_seq (G := (fun (s : (List Int) × (List Int)) => [some (vl (dL PyData.int) script_), some (vl PyData.int many_), some (ow PyData.int s1), some (ow PyData.int s.2), some (ow PyData.int s.1), some (vl PyData.int x3), some (vl PyData.int at_), none, none])) (fun s11 => (ds_nil (b := (s11.1, s11.2)) ([some (vl (dL PyData.int) script_), some (vl PyData.int many_), some (ow PyData.int s1), some (ow PyData.int s11.2), some (ow PyData.int s11.1), none, none, none, none]) rfl ⟨rfl, rfl, rfl, rfl, rfl, trivial⟩)) (d1_if (ds_append 4 s2.1 rfl (fun drawn_ => (ds_setIx 3 s2.2 rfl (fun rest_ => (ds_nil (b := (drawn_, rest_)) ([some (vl (dL PyData.int) script_), some (vl PyData.int many_), some (ow PyData.int s1), some (ow PyData.int rest_), some (ow PyData.int drawn_), some (vl PyData.int x3), some (vl PyData.int at_), none, none]) rfl ⟨rfl, rfl, rfl, rfl, rfl, rfl, rfl, trivial⟩)) (fun _ => (dv 6 PyData.int at_ rfl)) (de_divr (by decide) (de_ix (fun _ => (dv 6 PyData.int at_ rfl)) (dvb 3 PyData.int s2.2 rfl))))) (de_modr (by decide) (de_intI T.n_int (de_ix (fun _ => (dv 6 PyData.int at_ rfl)) (dvb 3 PyData.int s2.2 rfl))))) (ds_setN (enc := (vl PyData.int)) 7 sc_law_draws.nd (fun once_ => (ds_append 4 s2.1 rfl (fun drawn_ => (ds_nil (b := (drawn_, s2.2)) ([some (vl (dL PyData.int) script_), some (vl PyData.int many_), some (ow PyData.int s1), some (ow PyData.int s2.2), some (ow PyData.int drawn_), some (vl PyData.int x3), some (vl PyData.int at_), none, none]) rfl ⟨rfl, rfl, rfl, rfl, rfl, rfl, rfl, trivial⟩)) (de_modr (by decide) (de_intI T.n_int (de_add (fun _ => (dv 5 PyData.int x3 rfl)) (de_add (fun _ => (de_mull (by decide) (dv 7 PyData.int once_ rfl))) (de_mul (fun _ => (dv 7 PyData.int once_ rfl)) (dv 7 PyData.int once_ rfl)))))))) (de_modr (by decide) (de_intI T.n_int (de_add (fun _ => (k_int rfl)) (de_add (fun _ => (de_mulr (by decide) (dv 5 PyData.int x3 rfl))) (de_mulr (by decide) (de_ix (fun _ => (dv 6 PyData.int at_ rfl)) (dvb 2 PyData.int s1 rfl)))))))) (dt_w (dw_andM (dw_1 (dt_cmp op_gt oc_gt (fun _ => (k_int rfl)) (de_ix (fun _ => (dv 6 PyData.int at_ rfl)) (dvb 3 PyData.int s2.2 rfl)))) (dt_cmp op_ge oc_ge (fun _ => (de_powc (by decide))) (de_ix (fun _ => (dv 6 PyData.int at_ rfl)) (dvb 2 PyData.int s1 rfl)))))))) (de_mod (fun _ => (de_len T.n_len (dvb 2 PyData.int s1 rfl))) (dv 5 PyData.int x3 rfl)))) (di_rng1 T.n_range (dv 1 PyData.int many_ rfl))))) (de_lst (f := PyData.int) (g := fun (y : Unit) => ([] : List Int)) (fun _ => rfl) (fun _ => Nat.le_of_ble_eq_true rfl) da_nil))) (de_list T.n_list (dvb 2 PyData.int s1 rfl)))) (d1_if (ds_append 2 cells_ rfl (fun cells_ => (ds_nil (b := cells_) ([some (vl (dL PyData.int) script_), some (vl PyData.int many_), some (ow PyData.int cells_), none, none, none, none, none, none]) rfl ⟨rfl, rfl, rfl, trivial⟩)) (k_int rfl)) (ds_nil (b := cells_) ([some (vl (dL PyData.int) script_), some (vl PyData.int many_), some (ow PyData.int cells_), none, none, none, none, none, none]) rfl ⟨rfl, rfl, rfl, trivial⟩) (dt_cmp op_eq oc_eqI (fun _ => (k_int rfl)) (de_len T.n_len (dvb 2 PyData.int cells_ rfl)))))) (fun _ _ _ _ _ => (pg_name (i := 8) sc_law_draws.nd rfl (by first | exact Or.inl rfl | exact Or.inr rfl))) (dc_P (h := fun (x15 : Int) => x15) (dg_name (f := PyData.int) 8) (fun x15 _ _ _ _ _ _ => (de_intI T.n_int (dv 8 PyData.int x15 rfl))) (DI.c (di_lst (dv 0 (dL PyData.int) script_ rfl)))))) rfl

theorem g_draws (T : Tp K mg) : Gd P w K mg base "_law_draws" ["script", "many"] 1 (spD (A := (List Int) × Int × Unit) (fun a => [vl (dL PyData.int) a.1, vl PyData.int a.2.1]) (fun a Q => Mo.holds (drawsW (m_law_draws a.1 a.2.1)) Q) dr) := gd_draws (g_law_draws T)

theorem g_law_take (T : Tp K mg) : Gd P w K mg base "_law_take" ["draws", "many"] 1 (spD (A := Unit × Int × Unit) (fun a => [R.dr, vl PyData.int a.2.1]) (fun a Q => Mo.holds (takeW a.2.1) Q) (vl PyData.int)) :=
  fn_ok (N := ["draws", "many"]) T.a_law_take sc_law_take (fun _ => rfl) fun f cdv A0 outer s H E ⟨_, many_, _⟩ hr =>
    ds_take rfl rfl rfl T.n_len T.n_int rfl rfl rfl (Or.inl rfl) rfl (Or.inl rfl) (by decide) (by decide) (by decide) (by decide) rfl rfl rfl rfl

theorem g_law_cell (T : Tp K mg) : Gd P w K mg base "_law_cell" ["script", "draws"] 2 (spD (A := (List Int) × Unit × Unit) (fun a => [vl (dL PyData.int) a.1, R.dr]) (fun a Q => Mo.holds (m_law_cell a.1) Q) (vl PyData.int)) := by
  refine fn_ok (N := ["script", "draws", "cell"]) T.a_law_cell sc_law_cell (fun _ => rfl) fun f cdv A0 outer s H E a hr => ?_
  obtain ⟨script_, draws_, _⟩ := a
  exact ds_cast ((ds_ifR (ds_setN (enc := (vl PyData.int)) 2 sc_law_cell.nd (fun cell_ => (ds_ret (j := fun x => x) (de_mul (fun _ => (de_ix (fun _ => (de_intB T.n_int (de_cmp op_lt oc_lt (fun _ => (k_int rfl)) (dv 2 PyData.int cell_ rfl)))) (de_lst (f := PyData.int) (g := fun (y : Int × Int × Unit) => ([y.1, y.2.1] : List Int)) (fun _ => rfl) (fun _ => Nat.le_of_ble_eq_true rfl) (da_cons (fun _ => (da_cons (fun _ => da_nil) (de_neg (k_int rfl)))) (k_int rfl))))) (de_mod (fun _ => (de_powc (by decide))) (de_abs T.n_abs (dv 2 PyData.int cell_ rfl)))) (fun _ => rfl))) (de_intI T.n_int (de_ix (fun _ => (dcall (fun (y : Unit × Int × Unit) => takeW y.2.1) wW (g_law_take T) (hr.mono (by decide)) (da_cons (fun _ => (da_cons (fun _ => da_nil) (de_len T.n_len (dv 0 (dL PyData.int) script_ rfl)))) (dvd 1 rfl)) (fun _ => .inl rfl))) (dv 0 (dL PyData.int) script_ rfl)))) (ds_ret (j := fun x => x) (k_int rfl) (fun _ => rfl)) (dt_cmp op_eq oc_eqI (fun _ => (k_int rfl)) (de_len T.n_len (dv 0 (dL PyData.int) script_ rfl))) hF)) rfl

theorem g_law_same (T : Tp K mg) : ∀ n : Nat, Gd P w K mg base "_law_same" ["actual", "due"] (n + 1) (spD (A := PyData × PyData × Unit) (fun a => [vl dD a.1, vl dD a.2.1]) (fun a Q => Mo.holds (m_law_same n a.1 a.2.1) Q) (vl PyData.bool))
  | 0 => fn_ok (N := ["actual", "due", "k"]) T.a_law_same sc_law_same (fun _ => rfl) fun f cdv A0 outer s H E ⟨_, _, _⟩ hr => ds_none
  | n + 1 => by
    have ih := g_law_same T n
    refine fn_ok (N := ["actual", "due", "k"]) T.a_law_same sc_law_same (fun _ => rfl) fun f cdv A0 outer s H E a hr => ?_
    obtain ⟨actual_, due_, _⟩ := a
    exact ds_cast ((ds_ifR (ds_ifR (ds_ifR (ds_ifR (ds_ifR (ds_seqE (G := (fun (s : Unit) => [some (vl dD actual_), some (vl dD due_), none])) (enc := (vl PyData.bool)) (j := (fun x => x)) (fun s15 => (ds_ret (j := fun x => x) (k_bl rfl) (fun _ => rfl))) (d1_forE (G := (fun (s : Unit) => [some (vl dD actual_), some (vl dD due_), none])) (enc := (vl PyData.bool)) () rfl PassesOwn.never ⟨rfl, rfl, trivial⟩ (dg_name (f := PyData.int) 2) (pg_name (i := 2) sc_law_same.nd rfl (by first | exact Or.inl rfl | exact Or.inr rfl)) (fun s8 x9 => (ds_ifR (φ' := nort (vl PyData.bool)) (ds_nil (b := (Sum.inl ())) ([some (vl dD actual_), some (vl dD due_), none]) rfl ⟨rfl, rfl, trivial⟩) (ds_ret (j := Sum.inr) (k_bl rfl) (fun _ => rfl)) (dt_not (dt_val (dcall (fun (y : PyData × PyData × Unit) => m_law_same n y.1 y.2.1) wO ih (hr.mono (Nat.le_refl _)) (da_cons (fun _ => (da_cons (fun _ => da_nil) (de_ixD (fun _ => (dv 2 PyData.int x9 rfl)) (dv 1 dD due_ rfl)))) (de_ixD (fun _ => (dv 2 PyData.int x9 rfl)) (dv 0 dD actual_ rfl))) (fun _ => .inl rfl)))) hE)) (di_rng1 T.n_range (de_lenD T.n_len (dv 1 dD due_ rfl)))) (fun _ => rfl)) (ds_ret (j := fun x => x) (k_bl rfl) (fun _ => rfl)) (dt_w (dw_orM (dw_1 (dt_cmp op_ne oc_neI (fun _ => (de_lenD T.n_len (dv 1 dD due_ rfl))) (de_lenD T.n_len (dv 0 dD actual_ rfl)))) (dt_not (dt_val (de_isi kit_tuple T.n_isinstance T.n_tuple (by decide +kernel) (dv 0 dD actual_ rfl)))))) hF) (ds_ret (j := fun x => x) (de_andM (de_one (de_cmpO (op_eqD (hu64 hr)) oc_eqD (fun _ => (dv 1 dD due_ rfl)) (dv 0 dD actual_ rfl))) (de_isi kit_str T.n_isinstance T.n_str (by decide +kernel) (dv 0 dD actual_ rfl))) (fun _ => rfl)) (dt_val (de_isi kit_str T.n_isinstance T.n_str (by decide +kernel) (dv 1 dD due_ rfl))) hF) (ds_ret (j := fun x => x) (de_andM (de_andM (de_one (de_cmpO (op_eqD (hu64 hr)) oc_eqD (fun _ => (dv 1 dD due_ rfl)) (dv 0 dD actual_ rfl))) (de_notV (de_isi kit_bool T.n_isinstance T.n_bool (by decide +kernel) (dv 0 dD actual_ rfl)))) (de_isi kit_int T.n_isinstance T.n_int (by decide +kernel) (dv 0 dD actual_ rfl))) (fun _ => rfl)) (dt_val (de_isi kit_int T.n_isinstance T.n_int (by decide +kernel) (dv 1 dD due_ rfl))) hF) (ds_ret (j := fun x => x) (de_andM (de_one (de_cmpO (op_eqD (hu64 hr)) oc_eqD (fun _ => (dv 1 dD due_ rfl)) (dv 0 dD actual_ rfl))) (de_isi kit_bool T.n_isinstance T.n_bool (by decide +kernel) (dv 0 dD actual_ rfl))) (fun _ => rfl)) (dt_val (de_isi kit_bool T.n_isinstance T.n_bool (by decide +kernel) (dv 1 dD due_ rfl))) hF) (ds_ret (j := fun x => x) (de_cmp op_isN oc_isN (fun _ => k_non rfl) (dv 0 dD actual_ rfl)) (fun _ => rfl)) (dt_cmp op_isN oc_isN (fun _ => k_non rfl) (dv 1 dD due_ rfl)) hF)) rfl

theorem g_law_run (T : Tp K mg) : Gd P w K mg base "_law_run" ["first", "pumps", "ins"] 1 (spD (A := Int × (List (List Int)) × (List Int) × Unit) (fun a => [vl PyData.int a.1, vl (dL (dQ PyData.int)) a.2.1, vl (dQ PyData.int) a.2.2.1]) (fun a Q => Mo.holds (m_law_run a.1 a.2.1 a.2.2.1) Q) (ow (dT2 (dQ PyData.bool) PyData.int))) := by
  refine fn_ok (N := ["first", "pumps", "ins", "found", "level", "goes", "much", "at", "here", "pump"]) T.a_law_run sc_law_run (fun _ => rfl) fun f cdv A0 outer s H E a hr => ?_
  obtain ⟨first_, pumps_, ins_, _⟩ := a
  exact ds_cast ((ds_setN (enc := (ow (dT2 (dQ PyData.bool) PyData.int))) 3 sc_law_run.nd (fun found_ => (ds_par2N (e1 := (vl PyData.int)) (e2 := (ow PyData.bool)) 4 5 rfl sc_law_run.nd (by decide) (fun level_ goes_ => (ds_seq (G := (fun (s : (List Bool) × Int × (List ((List Bool) × Int))) => [some (vl PyData.int first_), some (vl (dL (dQ PyData.int)) pumps_), some (vl (dQ PyData.int) ins_), some (ow (dT2 (dQ PyData.bool) PyData.int) s.2.2), some (vl PyData.int s.2.1), some (ow PyData.bool s.1), none, none, none, none])) (fun s19 => (ds_retOwn 3 s19.2.2 rfl (fun _ => rfl))) (d1_for (G := (fun (s : (List Bool) × Int × (List ((List Bool) × Int))) => [some (vl PyData.int first_), some (vl (dL (dQ PyData.int)) pumps_), some (vl (dQ PyData.int) ins_), some (ow (dT2 (dQ PyData.bool) PyData.int) s.2.2), some (vl PyData.int s.2.1), some (ow PyData.bool s.1), none, none, none, none])) (goes_, level_, found_) rfl PassesOwn.never ⟨rfl, rfl, rfl, rfl, rfl, rfl, trivial⟩ (dg_name (f := PyData.int) 6) (pg_name (i := 6) sc_law_run.nd rfl (by first | exact Or.inl rfl | exact Or.inr rfl)) (fun s1 x2 => (ds_seq (G := (fun (s : (List Bool)) => [some (vl PyData.int first_), some (vl (dL (dQ PyData.int)) pumps_), some (vl (dQ PyData.int) ins_), some (ow (dT2 (dQ PyData.bool) PyData.int) s1.2.2), some (vl PyData.int s1.2.1), some (ow PyData.bool s), some (vl PyData.int x2), none, none, none])) (fun s11 => (ds_setN (enc := (vl PyData.int)) 8 sc_law_run.nd (fun here_ => (ds_seq (G := (fun (s : Int) => [some (vl PyData.int first_), some (vl (dL (dQ PyData.int)) pumps_), some (vl (dQ PyData.int) ins_), some (ow (dT2 (dQ PyData.bool) PyData.int) s1.2.2), some (vl PyData.int s1.2.1), some (ow PyData.bool s11), some (vl PyData.int x2), none, some (vl PyData.int s), none])) (fun s18 => (ds_setN (enc := (vl PyData.int)) 4 sc_law_run.nd (fun level_ => (ds_append 3 s1.2.2 rfl (fun found_ => (ds_nil (b := (s11, level_, found_)) ([some (vl PyData.int first_), some (vl (dL (dQ PyData.int)) pumps_), some (vl (dQ PyData.int) ins_), some (ow (dT2 (dQ PyData.bool) PyData.int) found_), some (vl PyData.int level_), some (ow PyData.bool s11), none, none, none, none]) rfl ⟨rfl, rfl, rfl, rfl, rfl, rfl, trivial⟩)) (de_tup (g := fun (y : (List Bool) × Int × Unit) => [(dQ PyData.bool) y.1, PyData.int y.2.1]) (ff := fun (y : (List Bool) × Int × Unit) => (y.1, y.2.1)) (fe := (dT2 (dQ PyData.bool) PyData.int)) (fun _ => rfl) (fun _ => Nat.le_of_ble_eq_true rfl) (fun _ => rfl) (da_cons (fun _ => (da_cons (fun _ => da_nil) (dv 4 PyData.int level_ rfl))) (de_tupleL T.n_tuple (dvb 5 PyData.bool s11 rfl)))))) (dv 8 PyData.int s18 rfl))) (d1_for (G := (fun (s : Int) => [some (vl PyData.int first_), some (vl (dL (dQ PyData.int)) pumps_), some (vl (dQ PyData.int) ins_), some (ow (dT2 (dQ PyData.bool) PyData.int) s1.2.2), some (vl PyData.int s1.2.1), some (ow PyData.bool s11), some (vl PyData.int x2), none, some (vl PyData.int s), none])) here_ rfl PassesOwn.never ⟨rfl, rfl, rfl, rfl, rfl, rfl, rfl, rfl, trivial⟩ (dg_name (f := PyData.int) 7) (pg_name (i := 7) sc_law_run.nd rfl (by first | exact Or.inl rfl | exact Or.inr rfl)) (fun s12 x13 => (ds_seq (G := (fun (s : Int) => [some (vl PyData.int first_), some (vl (dL (dQ PyData.int)) pumps_), some (vl (dQ PyData.int) ins_), some (ow (dT2 (dQ PyData.bool) PyData.int) s1.2.2), some (vl PyData.int s1.2.1), some (ow PyData.bool s11), some (vl PyData.int x2), some (vl PyData.int x13), some (vl PyData.int s), none])) (fun s17 => (ds_nil (b := s17) ([some (vl PyData.int first_), some (vl (dL (dQ PyData.int)) pumps_), some (vl (dQ PyData.int) ins_), some (ow (dT2 (dQ PyData.bool) PyData.int) s1.2.2), some (vl PyData.int s1.2.1), some (ow PyData.bool s11), some (vl PyData.int x2), none, some (vl PyData.int s17), none]) rfl ⟨rfl, rfl, rfl, rfl, rfl, rfl, rfl, rfl, trivial⟩)) (d1_if (ds_setN (enc := (vl PyData.int)) 8 sc_law_run.nd (fun here_ => (ds_nil (b := here_) ([some (vl PyData.int first_), some (vl (dL (dQ PyData.int)) pumps_), some (vl (dQ PyData.int) ins_), some (ow (dT2 (dQ PyData.bool) PyData.int) s1.2.2), some (vl PyData.int s1.2.1), some (ow PyData.bool s11), some (vl PyData.int x2), some (vl PyData.int x13), some (vl PyData.int here_), none]) rfl ⟨rfl, rfl, rfl, rfl, rfl, rfl, rfl, rfl, rfl, trivial⟩)) (de_max2 rfl T.n_max (fun _ => (de_sub (fun _ => (de_ix (fun _ => (k_int rfl)) (de_ix (fun _ => (dv 7 PyData.int x13 rfl)) (dv 1 (dL (dQ PyData.int)) pumps_ rfl)))) (dv 8 PyData.int s12 rfl))) (k_int rfl))) (ds_nil (b := s12) ([some (vl PyData.int first_), some (vl (dL (dQ PyData.int)) pumps_), some (vl (dQ PyData.int) ins_), some (ow (dT2 (dQ PyData.bool) PyData.int) s1.2.2), some (vl PyData.int s1.2.1), some (ow PyData.bool s11), some (vl PyData.int x2), some (vl PyData.int x13), some (vl PyData.int s12), none]) rfl ⟨rfl, rfl, rfl, rfl, rfl, rfl, rfl, rfl, rfl, trivial⟩) (dt_val (de_ix (fun _ => (dv 7 PyData.int x13 rfl)) (dvb 5 PyData.bool s11 rfl)))))) (di_rngL T.n_range T.n_len (dv 1 (dL (dQ PyData.int)) pumps_ rfl))))) (de_add (fun _ => (dv 6 PyData.int x2 rfl)) (dv 4 PyData.int s1.2.1 rfl)))) (d1_for (G := (fun (s : (List Bool)) => [some (vl PyData.int first_), some (vl (dL (dQ PyData.int)) pumps_), some (vl (dQ PyData.int) ins_), some (ow (dT2 (dQ PyData.bool) PyData.int) s1.2.2), some (vl PyData.int s1.2.1), some (ow PyData.bool s), some (vl PyData.int x2), none, none, none])) s1.1 rfl PassesOwn.never ⟨rfl, rfl, rfl, rfl, rfl, rfl, rfl, trivial⟩ (dg_name (f := PyData.int) 7) (pg_name (i := 7) sc_law_run.nd rfl (by first | exact Or.inl rfl | exact Or.inr rfl)) (fun s3 x4 => (ds_seq (G := (fun (s : (List Bool)) => [some (vl PyData.int first_), some (vl (dL (dQ PyData.int)) pumps_), some (vl (dQ PyData.int) ins_), some (ow (dT2 (dQ PyData.bool) PyData.int) s1.2.2), some (vl PyData.int s1.2.1), some (ow PyData.bool s), some (vl PyData.int x2), some (vl PyData.int x4), none, none])) (fun s10 => (ds_nil (b := s10) ([some (vl PyData.int first_), some (vl (dL (dQ PyData.int)) pumps_), some (vl (dQ PyData.int) ins_), some (ow (dT2 (dQ PyData.bool) PyData.int) s1.2.2), some (vl PyData.int s1.2.1), some (ow PyData.bool s10), some (vl PyData.int x2), none, none, none]) rfl ⟨rfl, rfl, rfl, rfl, rfl, rfl, rfl, trivial⟩)) (d1_if (ds_setIx 5 s3 rfl (fun goes_ => (ds_nil (b := goes_) ([some (vl PyData.int first_), some (vl (dL (dQ PyData.int)) pumps_), some (vl (dQ PyData.int) ins_), some (ow (dT2 (dQ PyData.bool) PyData.int) s1.2.2), some (vl PyData.int s1.2.1), some (ow PyData.bool goes_), some (vl PyData.int x2), some (vl PyData.int x4), none, none]) rfl ⟨rfl, rfl, rfl, rfl, rfl, rfl, rfl, rfl, trivial⟩)) (fun _ => (dv 7 PyData.int x4 rfl)) (k_bl rfl)) (ds_seq (G := (fun (s : (List Bool)) => [some (vl PyData.int first_), some (vl (dL (dQ PyData.int)) pumps_), some (vl (dQ PyData.int) ins_), some (ow (dT2 (dQ PyData.bool) PyData.int) s1.2.2), some (vl PyData.int s1.2.1), some (ow PyData.bool s), some (vl PyData.int x2), some (vl PyData.int x4), none, none])) (fun s7 => (ds_nil (b := s7) ([some (vl PyData.int first_), some (vl (dL (dQ PyData.int)) pumps_), some (vl (dQ PyData.int) ins_), some (ow (dT2 (dQ PyData.bool) PyData.int) s1.2.2), some (vl PyData.int s1.2.1), some (ow PyData.bool s7), some (vl PyData.int x2), some (vl PyData.int x4), none, none]) rfl ⟨rfl, rfl, rfl, rfl, rfl, rfl, rfl, rfl, trivial⟩)) (d1_if (ds_setIx 5 s3 rfl (fun goes_ => (ds_nil (b := goes_) ([some (vl PyData.int first_), some (vl (dL (dQ PyData.int)) pumps_), some (vl (dQ PyData.int) ins_), some (ow (dT2 (dQ PyData.bool) PyData.int) s1.2.2), some (vl PyData.int s1.2.1), some (ow PyData.bool goes_), some (vl PyData.int x2), some (vl PyData.int x4), none, none]) rfl ⟨rfl, rfl, rfl, rfl, rfl, rfl, rfl, rfl, trivial⟩)) (fun _ => (dv 7 PyData.int x4 rfl)) (k_bl rfl)) (ds_nil (b := s3) ([some (vl PyData.int first_), some (vl (dL (dQ PyData.int)) pumps_), some (vl (dQ PyData.int) ins_), some (ow (dT2 (dQ PyData.bool) PyData.int) s1.2.2), some (vl PyData.int s1.2.1), some (ow PyData.bool s3), some (vl PyData.int x2), some (vl PyData.int x4), none, none]) rfl ⟨rfl, rfl, rfl, rfl, rfl, rfl, rfl, rfl, trivial⟩) (dt_cmp op_le oc_le (fun _ => (de_ix (fun _ => (k_int rfl)) (de_ix (fun _ => (dv 7 PyData.int x4 rfl)) (dv 1 (dL (dQ PyData.int)) pumps_ rfl)))) (dv 4 PyData.int s1.2.1 rfl)))) (dt_cmp op_ge oc_ge (fun _ => (de_ix (fun _ => (k_int rfl)) (de_ix (fun _ => (dv 7 PyData.int x4 rfl)) (dv 1 (dL (dQ PyData.int)) pumps_ rfl)))) (dv 4 PyData.int s1.2.1 rfl))))) (di_rngL T.n_range T.n_len (dv 1 (dL (dQ PyData.int)) pumps_ rfl))))) (di_tup (dv 2 (dQ PyData.int) ins_ rfl))))) (fun _ => (de_lc (own := [("pump", 9)]) rfl sc_law_run.nd (by show blkC ["first", "pumps", "ins", "found", "level", "goes", "much", "at", "here", "pump"] (defScope st_law_run) _ _ = true; decide +kernel) (fun _ _ _ _ _ => (pg_name (i := 9) sc_law_run.nd rfl (by first | exact Or.inl rfl | exact Or.inr rfl))) (dc_P (h := fun (x22 : List Int) => false) (dg_name (f := (dQ PyData.int)) 9) (fun x22 _ _ _ _ _ _ => (k_bl rfl)) (DI.c (di_lst (dv 1 (dL (dQ PyData.int)) pumps_ rfl)))))) (dv 0 PyData.int first_ rfl))) (de_lst (f := (dT2 (dQ PyData.bool) PyData.int)) (g := fun (y : Unit) => ([] : List ((List Bool) × Int))) (fun _ => rfl) (fun _ => Nat.le_of_ble_eq_true rfl) da_nil))) rfl

theorem g_law_pump (T : Tp K mg) : Gd P w K mg base "_law_pump" ["draws"] 2 (spD (A := Unit × Unit) (fun a => [R.dr]) (fun a Q => Mo.holds (m_law_pump ) Q) (vl (dT3 PyData.int PyData.int PyData.int))) := by
  refine fn_ok (N := ["draws", "on"]) T.a_law_pump sc_law_pump (fun _ => rfl) fun f cdv A0 outer s H E a hr => ?_
  obtain ⟨draws_, _⟩ := a
  exact ds_cast ((ds_setN (enc := (vl PyData.int)) 1 sc_law_pump.nd (fun on_ => (ds_ret (j := fun x => x) (de_tup (g := fun (y : Int × Int × Int × Unit) => [PyData.int y.1, PyData.int y.2.1, PyData.int y.2.2.1]) (ff := fun (y : Int × Int × Int × Unit) => (y.1, y.2.1, y.2.2.1)) (fe := (dT3 PyData.int PyData.int PyData.int)) (fun _ => rfl) (fun _ => Nat.le_of_ble_eq_true rfl) (fun _ => rfl) (da_cons (fun _ => (da_cons (fun _ => (da_cons (fun _ => da_nil) (dcall (fun (y : Unit × Int × Unit) => takeW y.2.1) wW (g_law_take T) (hr.mono (by decide)) (da_cons (fun _ => (da_cons (fun _ => da_nil) (k_int rfl))) (dvd 0 rfl)) (fun _ => .inl rfl)))) (de_sub (fun _ => (dcall (fun (y : Unit × Int × Unit) => takeW y.2.1) wW (g_law_take T) (hr.mono (by decide)) (da_cons (fun _ => (da_cons (fun _ => da_nil) (k_int rfl))) (dvd 0 rfl)) (fun _ => .inl rfl))) (de_sub (fun _ => (k_int rfl)) (dv 1 PyData.int on_ rfl))))) (dv 1 PyData.int on_ rfl))) (fun _ => rfl))) (de_add (fun _ => (dcall (fun (y : Unit × Int × Unit) => takeW y.2.1) wW (g_law_take T) (hr.mono (by decide)) (da_cons (fun _ => (da_cons (fun _ => da_nil) (k_int rfl))) (dvd 0 rfl)) (fun _ => .inl rfl))) (k_int rfl)))) rfl

theorem g_law_is_told (T : Tp K mg) : Gd P w K mg base "_law_is_told" ["first", "pump", "ins"] 13 (spD (A := Int × (List Int) × (List Int) × Unit) (fun a => [vl PyData.int a.1, vl (dQ PyData.int) a.2.1, vl (dQ PyData.int) a.2.2.1]) (fun a Q => Mo.holds (m_law_is_told a.1 a.2.1 a.2.2.1) Q) (vl PyData.bool)) := by
  refine fn_ok (N := ["first", "pump", "ins", "on", "off", "takes", "run", "goes", "starts", "own", "at"]) T.a_law_is_told sc_law_is_told (fun _ => rfl) fun f cdv A0 outer s H E a hr => ?_
  obtain ⟨first_, pump_, ins_, _⟩ := a
  exact ds_cast ((ds_unpN (dg_tup3 3 4 5 (by decide) (by decide) (by decide)) (pg_tup rfl (pgs_cons (pg_name (i := 3) sc_law_is_told.nd rfl (by first | exact Or.inl rfl | exact Or.inr rfl)) (pgs_cons (pg_name (i := 4) sc_law_is_told.nd rfl (by first | exact Or.inl rfl | exact Or.inr rfl)) (pgs_cons (pg_name (i := 5) sc_law_is_told.nd rfl (by first | exact Or.inl rfl | exact Or.inr rfl)) pgs_nil)))) (fun y1 => (ds_setN (enc := (vl (dL (dT2 (dQ PyData.bool) PyData.int)))) 6 sc_law_is_told.nd (fun run_ => (ds_ifR (ds_setN (enc := (vl (dL PyData.bool))) 7 sc_law_is_told.nd (fun goes_ => (ds_setLcFN (own := [("at", 10)]) 8 rfl sc_law_is_told.nd (by show blkC ["first", "pump", "ins", "on", "off", "takes", "run", "goes", "starts", "own", "at"] (defScope st_law_is_told) _ _ = true; decide +kernel) (fun starts_ => (ds_ifR (ds_ret (j := fun x => x) (dcall (fun (y : PyData × PyData × Unit) => m_law_same RN y.1 y.2.1) wO (g_law_same T RN) (hr.mono (by decide)) (da_cons (fun _ => (da_cons (fun _ => da_nil) (de_coe (PyData.int) (e1 := vl PyData.int) (e2 := vl dD) (fun _ => rfl) (de_len T.n_len (de_lc (own := [("own", 9)]) rfl sc_law_is_told.nd (by show blkC ["first", "pump", "ins", "on", "off", "takes", "run", "goes", "starts", "own", "at"] (defScope st_law_is_told) _ _ = true; decide +kernel) (fun _ _ _ _ _ => (pg_name (i := 9) sc_law_is_told.nd rfl (by first | exact Or.inl rfl | exact Or.inr rfl))) (dc_PF (h := fun (x4 : Bool) => x4) (p := fun (x4 : Bool) => x4) (dg_name (f := PyData.bool) 9) (fun x4 _ _ _ _ _ _ => (dv 9 PyData.bool x4 rfl)) (fun x4 _ _ _ _ _ _ => (dt_val (dv 9 PyData.bool x4 rfl))) (DI.c (di_lst (dv 7 (dL PyData.bool) goes_ rfl))))))))) (de_coe (PyData.int) (e1 := vl PyData.int) (e2 := vl dD) (fun _ => rfl) (dcall (fun (y : Int × Int × Int × Int × (List Int) × Unit) => m_minutes_going y.1 y.2.1 y.2.2.1 y.2.2.2.1 y.2.2.2.2.1) wO (g_minutes_going T) (hr.mono (by decide)) (da_cons (fun _ => (da_cons (fun _ => (da_cons (fun _ => (da_cons (fun _ => (da_cons (fun _ => da_nil) (dv 2 (dQ PyData.int) ins_ rfl))) (dv 5 PyData.int y1.2.2 rfl))) (dv 4 PyData.int y1.2.1 rfl))) (dv 3 PyData.int y1.1 rfl))) (dv 0 PyData.int first_ rfl)) (fun _ => .inl rfl)))) (fun _ => .inl rfl)) (fun _ => rfl)) (ds_ret (j := fun x => x) (k_bl rfl) (fun _ => rfl)) (dt_not (dt_val (dcall (fun (y : PyData × PyData × Unit) => m_law_same RN y.1 y.2.1) wO (g_law_same T RN) (hr.mono (by decide)) (da_cons (fun _ => (da_cons (fun _ => da_nil) (de_coe (PyData.int) (e1 := vl PyData.int) (e2 := vl dD) (fun _ => rfl) (de_len T.n_len (dv 8 (dL PyData.int) starts_ rfl))))) (de_coe (PyData.int) (e1 := vl PyData.int) (e2 := vl dD) (fun _ => rfl) (dcall (fun (y : Int × Int × Int × Int × (List Int) × Unit) => m_starts_of y.1 y.2.1 y.2.2.1 y.2.2.2.1 y.2.2.2.2.1) wO (g_starts_of T) (hr.mono (by decide)) (da_cons (fun _ => (da_cons (fun _ => (da_cons (fun _ => (da_cons (fun _ => (da_cons (fun _ => da_nil) (dv 2 (dQ PyData.int) ins_ rfl))) (dv 5 PyData.int y1.2.2 rfl))) (dv 4 PyData.int y1.2.1 rfl))) (dv 3 PyData.int y1.1 rfl))) (dv 0 PyData.int first_ rfl)) (fun _ => .inl rfl)))) (fun _ => .inl rfl)))) hF)) (fun _ _ _ _ _ => (pg_name (i := 10) sc_law_is_told.nd rfl (by first | exact Or.inl rfl | exact Or.inr rfl))) (dc_MF (h := fun (x7 : Int) => (some x7)) (p := fun (x7 : Int) => (Option.bind (L2.atI goes_ x7) fun t10 => (Option.bind (if t10 = true then (Option.bind (L2.atI goes_ (x7 - (1 : Int))) fun t8 => (some (!t8))) else (some false)) fun t9 => (some t9)))) (dg_name (f := PyData.int) 10) (fun x7 _ _ _ _ _ => (dv 10 PyData.int x7 rfl)) (fun x7 _ _ _ _ _ => (dt_w (dw_andM (dw_1 (dt_not (dt_val (de_ix (fun _ => (de_sub (fun _ => (k_int rfl)) (dv 10 PyData.int x7 rfl))) (dv 7 (dL PyData.bool) goes_ rfl))))) (dt_val (de_ix (fun _ => (dv 10 PyData.int x7 rfl)) (dv 7 (dL PyData.bool) goes_ rfl)))))) (DI.c (di_rngL2 (by decide) T.n_range T.n_len (dv 7 (dL PyData.bool) goes_ rfl)))))) (de_frz (de_cat (fun _ => (de_lc (own := [("own", 9)]) rfl sc_law_is_told.nd (by show blkC ["first", "pump", "ins", "on", "off", "takes", "run", "goes", "starts", "own", "at"] (defScope st_law_is_told) _ _ = true; decide +kernel) (fun _ _ _ _ _ => (pg_name (i := 9) sc_law_is_told.nd rfl (by first | exact Or.inl rfl | exact Or.inr rfl))) (dc_M (h := fun (x13 : (List Bool) × Int) => (Option.bind (L2.atI x13.1 (0 : Int)) fun t14 => (some t14))) (dg_name (f := (dT2 (dQ PyData.bool) PyData.int)) 9) (fun x13 _ _ _ _ _ => (de_ix (fun _ => (k_int rfl)) (de_pt (e1 := vl (dT2 (dQ PyData.bool) PyData.int)) (g := fun (y : (List Bool) × Int) => [(dQ PyData.bool) y.1, PyData.int y.2]) (ff := fun (y : (List Bool) × Int) => y.1) (fe := (dQ PyData.bool)) (fun _ => rfl) (fun _ => rfl) (dv 9 (dT2 (dQ PyData.bool) PyData.int) x13 rfl)))) (DI.c (di_lst (dv 6 (dL (dT2 (dQ PyData.bool) PyData.int)) run_ rfl)))))) (de_lst (f := PyData.bool) (g := fun (y : Bool × Unit) => ([y.1] : List Bool)) (fun _ => rfl) (fun _ => Nat.le_of_ble_eq_true rfl) (da_cons (fun _ => da_nil) (k_bl rfl)))))) (ds_ret (j := fun x => x) (k_bl rfl) (fun _ => rfl)) (dt_not (dt_val (dcall (fun (y : PyData × PyData × Unit) => m_law_same RN y.1 y.2.1) wO (g_law_same T RN) (hr.mono (by decide)) (da_cons (fun _ => (da_cons (fun _ => da_nil) (de_coe ((dQ PyData.int)) (e1 := vl (dQ PyData.int)) (e2 := vl dD) (fun _ => rfl) (de_tupleL T.n_tuple (de_lc (own := [("own", 9)]) rfl sc_law_is_told.nd (by show blkC ["first", "pump", "ins", "on", "off", "takes", "run", "goes", "starts", "own", "at"] (defScope st_law_is_told) _ _ = true; decide +kernel) (fun _ _ _ _ _ => (pg_name (i := 9) sc_law_is_told.nd rfl (by first | exact Or.inl rfl | exact Or.inr rfl))) (dc_P (h := fun (x18 : (List Bool) × Int) => x18.2) (dg_name (f := (dT2 (dQ PyData.bool) PyData.int)) 9) (fun x18 _ _ _ _ _ _ => (de_pt (e1 := vl (dT2 (dQ PyData.bool) PyData.int)) (g := fun (y : (List Bool) × Int) => [(dQ PyData.bool) y.1, PyData.int y.2]) (ff := fun (y : (List Bool) × Int) => y.2) (fe := PyData.int) (fun _ => rfl) (fun _ => rfl) (dv 9 (dT2 (dQ PyData.bool) PyData.int) x18 rfl))) (DI.c (di_lst (dv 6 (dL (dT2 (dQ PyData.bool) PyData.int)) run_ rfl))))))))) (de_coe ((dQ PyData.int)) (e1 := vl (dQ PyData.int)) (e2 := vl dD) (fun _ => rfl) (dcall (fun (y : Int × Int × Int × Int × (List Int) × Unit) => m_levels_of y.1 y.2.1 y.2.2.1 y.2.2.2.1 y.2.2.2.2.1) wO (g_levels_of T) (hr.mono (by decide)) (da_cons (fun _ => (da_cons (fun _ => (da_cons (fun _ => (da_cons (fun _ => (da_cons (fun _ => da_nil) (dv 2 (dQ PyData.int) ins_ rfl))) (dv 5 PyData.int y1.2.2 rfl))) (dv 4 PyData.int y1.2.1 rfl))) (dv 3 PyData.int y1.1 rfl))) (dv 0 PyData.int first_ rfl)) (fun _ => .inl rfl)))) (fun _ => .inl rfl)))) hF)) (de_frz (dcall (fun (y : Int × (List (List Int)) × (List Int) × Unit) => m_law_run y.1 y.2.1 y.2.2.1) wO (g_law_run T) (hr.mono (by decide)) (da_cons (fun _ => (da_cons (fun _ => (da_cons (fun _ => da_nil) (dv 2 (dQ PyData.int) ins_ rfl))) (de_frz (de_lst (f := (dQ PyData.int)) (g := fun (y : (List Int) × Unit) => ([y.1] : List (List Int))) (fun _ => rfl) (fun _ => Nat.le_of_ble_eq_true rfl) (da_cons (fun _ => da_nil) (dv 1 (dQ PyData.int) pump_ rfl)))))) (dv 0 PyData.int first_ rfl)) (fun _ => .inl rfl))))) (de_un3 (dv 1 (dQ PyData.int) pump_ rfl)))) rfl

theorem g_law_is_least_right (T : Tp K mg) : Gd P w K mg base "_law_is_least_right" ["first", "pump", "ins", "bound"] 13 (spD (A := Int × (Int × Int × Int) × (List Int) × Int × Unit) (fun a => [vl PyData.int a.1, vl (dT3 PyData.int PyData.int PyData.int) a.2.1, vl (dQ PyData.int) a.2.2.1, vl PyData.int a.2.2.2.1]) (fun a Q => Mo.holds (m_law_is_least_right a.1 a.2.1 a.2.2.1 a.2.2.2.1) Q) (vl PyData.bool)) := by
  refine fn_ok (N := ["first", "pump", "ins", "bound", "due", "takes", "told", "own"]) T.a_law_is_least_right sc_law_is_least_right (fun _ => rfl) fun f cdv A0 outer s H E a hr => ?_
  obtain ⟨first_, pump_, ins_, bound_, _⟩ := a
  exact ds_cast ((ds_setN (enc := (vl (dO PyData.int))) 4 sc_law_is_least_right.nd (fun due_ => (ds_seq (G := (fun (s : (Option Int)) => [some (vl PyData.int first_), some (vl (dT3 PyData.int PyData.int PyData.int) pump_), some (vl (dQ PyData.int) ins_), some (vl PyData.int bound_), some (vl (dO PyData.int) s), none, none, none])) (fun s8 => (ds_setN (enc := (vl (dO PyData.int))) 6 sc_law_is_least_right.nd (fun told_ => (ds_ifR (ds_ret (j := fun x => x) (dcall (fun (y : PyData × PyData × Unit) => m_law_same RN y.1 y.2.1) wO (g_law_same T RN) (hr.mono (by decide)) (da_cons (fun _ => (da_cons (fun _ => da_nil) (de_coe ((dO PyData.int)) (e1 := vl (dO PyData.int)) (e2 := vl dD) (fun _ => rfl) (dv 4 (dO PyData.int) s8 rfl)))) (de_coe ((dO PyData.int)) (e1 := vl (dO PyData.int)) (e2 := vl dD) (fun _ => rfl) (dv 6 (dO PyData.int) told_ rfl))) (fun _ => .inl rfl)) (fun _ => rfl)) (ds_ret (j := fun x => x) (de_cmp op_isN oc_isN (fun _ => k_non rfl) (dv 6 (dO PyData.int) told_ rfl)) (fun _ => rfl)) (dt_cmp op_isN oc_isN (fun _ => k_non rfl) (dv 4 (dO PyData.int) s8 rfl)) hF)) (dcall (fun (y : Int × Int × Int × (List Int) × Int × Unit) => m_least_takes y.1 y.2.1 y.2.2.1 y.2.2.2.1 y.2.2.2.2.1) wO (g_least_takes T) (hr.mono (by decide)) (da_cons (fun _ => (da_cons (fun _ => (da_cons (fun _ => (da_cons (fun _ => (da_cons (fun _ => da_nil) (dv 3 PyData.int bound_ rfl))) (dv 2 (dQ PyData.int) ins_ rfl))) (de_pt (e1 := vl (dT3 PyData.int PyData.int PyData.int)) (g := fun (y : Int × Int × Int) => [PyData.int y.1, PyData.int y.2.1, PyData.int y.2.2]) (ff := fun (y : Int × Int × Int) => y.2.1) (fe := PyData.int) (fun _ => rfl) (fun _ => rfl) (dv 1 (dT3 PyData.int PyData.int PyData.int) pump_ rfl)))) (de_pt (e1 := vl (dT3 PyData.int PyData.int PyData.int)) (g := fun (y : Int × Int × Int) => [PyData.int y.1, PyData.int y.2.1, PyData.int y.2.2]) (ff := fun (y : Int × Int × Int) => y.1) (fe := PyData.int) (fun _ => rfl) (fun _ => rfl) (dv 1 (dT3 PyData.int PyData.int PyData.int) pump_ rfl)))) (dv 0 PyData.int first_ rfl)) (fun _ => .inl rfl)))) (d1_for (G := (fun (s : (Option Int)) => [some (vl PyData.int first_), some (vl (dT3 PyData.int PyData.int PyData.int) pump_), some (vl (dQ PyData.int) ins_), some (vl PyData.int bound_), some (vl (dO PyData.int) s), none, none, none])) due_ rfl PassesOwn.never ⟨rfl, rfl, rfl, rfl, rfl, trivial⟩ (dg_name (f := PyData.int) 5) (pg_name (i := 5) sc_law_is_least_right.nd rfl (by first | exact Or.inl rfl | exact Or.inr rfl)) (fun s1 x2 => (ds_seq (G := (fun (s : (Option Int)) => [some (vl PyData.int first_), some (vl (dT3 PyData.int PyData.int PyData.int) pump_), some (vl (dQ PyData.int) ins_), some (vl PyData.int bound_), some (vl (dO PyData.int) s), some (vl PyData.int x2), none, none])) (fun s6 => (ds_nil (b := s6) ([some (vl PyData.int first_), some (vl (dT3 PyData.int PyData.int PyData.int) pump_), some (vl (dQ PyData.int) ins_), some (vl PyData.int bound_), some (vl (dO PyData.int) s6), none, none, none]) rfl ⟨rfl, rfl, rfl, rfl, rfl, trivial⟩)) (d1_if (ds_setN (enc := (vl (dO PyData.int))) 4 sc_law_is_least_right.nd (fun due_ => (ds_nil (b := due_) ([some (vl PyData.int first_), some (vl (dT3 PyData.int PyData.int PyData.int) pump_), some (vl (dQ PyData.int) ins_), some (vl PyData.int bound_), some (vl (dO PyData.int) due_), some (vl PyData.int x2), none, none]) rfl ⟨rfl, rfl, rfl, rfl, rfl, rfl, trivial⟩)) (de_coe some (e1 := vl PyData.int) (e2 := vl (dO PyData.int)) (fun _ => rfl) (dv 5 PyData.int x2 rfl))) (ds_nil (b := s1) ([some (vl PyData.int first_), some (vl (dT3 PyData.int PyData.int PyData.int) pump_), some (vl (dQ PyData.int) ins_), some (vl PyData.int bound_), some (vl (dO PyData.int) s1), some (vl PyData.int x2), none, none]) rfl ⟨rfl, rfl, rfl, rfl, rfl, rfl, trivial⟩) (dt_w (dw_andM (dw_1 (dt_cmp op_eq oc_eqI (fun _ => (k_int rfl)) (de_len T.n_len (de_lc (own := [("own", 7)]) rfl sc_law_is_least_right.nd (by show blkC ["first", "pump", "ins", "bound", "due", "takes", "told", "own"] (defScope st_law_is_least_right) _ _ = true; decide +kernel) (fun _ _ _ _ _ => (pg_name (i := 7) sc_law_is_least_right.nd rfl (by first | exact Or.inl rfl | exact Or.inr rfl))) (dc_PF (h := fun (x3 : (List Bool) × Int) => x3) (p := fun (x3 : (List Bool) × Int) => (decide (bound_ < x3.2))) (dg_name (f := (dT2 (dQ PyData.bool) PyData.int)) 7) (fun x3 _ _ _ _ _ _ => (dv 7 (dT2 (dQ PyData.bool) PyData.int) x3 rfl)) (fun x3 _ _ _ _ _ _ => (dt_cmp op_gt oc_gt (fun _ => (dv 3 PyData.int bound_ rfl)) (de_pt (e1 := vl (dT2 (dQ PyData.bool) PyData.int)) (g := fun (y : (List Bool) × Int) => [(dQ PyData.bool) y.1, PyData.int y.2]) (ff := fun (y : (List Bool) × Int) => y.2) (fe := PyData.int) (fun _ => rfl) (fun _ => rfl) (dv 7 (dT2 (dQ PyData.bool) PyData.int) x3 rfl)))) (DI.c (di_own (dcall (fun (y : Int × (List (List Int)) × (List Int) × Unit) => m_law_run y.1 y.2.1 y.2.2.1) wO (g_law_run T) (hr.mono (by decide)) (da_cons (fun _ => (da_cons (fun _ => (da_cons (fun _ => da_nil) (dv 2 (dQ PyData.int) ins_ rfl))) (de_frz (de_lst (f := (dQ PyData.int)) (g := fun (y : (List Int) × Unit) => ([y.1] : List (List Int))) (fun _ => rfl) (fun _ => Nat.le_of_ble_eq_true rfl) (da_cons (fun _ => da_nil) (de_tup (g := fun (y : Int × Int × Int × Unit) => [PyData.int y.1, PyData.int y.2.1, PyData.int y.2.2.1]) (ff := fun (y : Int × Int × Int × Unit) => ([y.1, y.2.1, y.2.2.1] : List Int)) (fe := (dQ PyData.int)) (fun _ => rfl) (fun _ => Nat.le_of_ble_eq_true rfl) (fun _ => rfl) (da_cons (fun _ => (da_cons (fun _ => (da_cons (fun _ => da_nil) (dv 5 PyData.int x2 rfl))) (de_pt (e1 := vl (dT3 PyData.int PyData.int PyData.int)) (g := fun (y : Int × Int × Int) => [PyData.int y.1, PyData.int y.2.1, PyData.int y.2.2]) (ff := fun (y : Int × Int × Int) => y.2.1) (fe := PyData.int) (fun _ => rfl) (fun _ => rfl) (dv 1 (dT3 PyData.int PyData.int PyData.int) pump_ rfl)))) (de_pt (e1 := vl (dT3 PyData.int PyData.int PyData.int)) (g := fun (y : Int × Int × Int) => [PyData.int y.1, PyData.int y.2.1, PyData.int y.2.2]) (ff := fun (y : Int × Int × Int) => y.1) (fe := PyData.int) (fun _ => rfl) (fun _ => rfl) (dv 1 (dT3 PyData.int PyData.int PyData.int) pump_ rfl))))))))) (dv 0 PyData.int first_ rfl)) (fun _ => .inl rfl))))))))) (dt_cmp op_isN oc_isN (fun _ => k_non rfl) (dv 4 (dO PyData.int) s1 rfl))))))) (di_rng1 T.n_range (de_add (fun _ => (k_int rfl)) (de_min2 rfl T.n_min (fun _ => (de_add (fun _ => (de_sum rfl T.n_sum (dv 2 (dQ PyData.int) ins_ rfl))) (dv 0 PyData.int first_ rfl))) (k_int rfl))))))) (de_coe (fun _ => (none : Option Int)) (e1 := vl dN) (e2 := vl (dO PyData.int)) (fun _ => rfl) (k_non rfl)))) rfl

theorem g_law_is_full_right (T : Tp K mg) : Gd P w K mg base "_law_is_full_right" ["first", "ins", "bound"] 13 (spD (A := Int × (List Int) × Int × Unit) (fun a => [vl PyData.int a.1, vl (dQ PyData.int) a.2.1, vl PyData.int a.2.2.1]) (fun a Q => Mo.holds (m_law_is_full_right a.1 a.2.1 a.2.2.1) Q) (vl PyData.bool)) := by
  refine fn_ok (N := ["first", "ins", "bound", "over", "at"]) T.a_law_is_full_right sc_law_is_full_right (fun _ => rfl) fun f cdv A0 outer s H E a hr => ?_
  obtain ⟨first_, ins_, bound_, _⟩ := a
  exact ds_cast ((ds_setLcFN (own := [("at", 4)]) 3 rfl sc_law_is_full_right.nd (by show blkC ["first", "ins", "bound", "over", "at"] (defScope st_law_is_full_right) _ _ = true; decide +kernel) (fun over_ => (ds_ifR (ds_ret (j := fun x => x) (dcall (fun (y : PyData × PyData × Unit) => m_law_same RN y.1 y.2.1) wO (g_law_same T RN) (hr.mono (by decide)) (da_cons (fun _ => (da_cons (fun _ => da_nil) (de_coe (PyData.int) (e1 := vl PyData.int) (e2 := vl dD) (fun _ => rfl) (de_ix (fun _ => (k_int rfl)) (dv 3 (dL PyData.int) over_ rfl))))) (de_coe ((dO PyData.int)) (e1 := vl (dO PyData.int)) (e2 := vl dD) (fun _ => rfl) (dcall (fun (y : Int × (List Int) × Int × Unit) => m_full_by y.1 y.2.1 y.2.2.1) wO (g_full_by T) (hr.mono (by decide)) (da_cons (fun _ => (da_cons (fun _ => (da_cons (fun _ => da_nil) (dv 2 PyData.int bound_ rfl))) (dv 1 (dQ PyData.int) ins_ rfl))) (dv 0 PyData.int first_ rfl)) (fun _ => .inl rfl)))) (fun _ => .inl rfl)) (fun _ => rfl)) (ds_ret (j := fun x => x) (de_cmp op_isN oc_isN (fun _ => k_non rfl) (dcall (fun (y : Int × (List Int) × Int × Unit) => m_full_by y.1 y.2.1 y.2.2.1) wO (g_full_by T) (hr.mono (by decide)) (da_cons (fun _ => (da_cons (fun _ => (da_cons (fun _ => da_nil) (dv 2 PyData.int bound_ rfl))) (dv 1 (dQ PyData.int) ins_ rfl))) (dv 0 PyData.int first_ rfl)) (fun _ => .inl rfl))) (fun _ => rfl)) (dt_cmp op_eq oc_eqI (fun _ => (k_int rfl)) (de_len T.n_len (dv 3 (dL PyData.int) over_ rfl))) hF)) (fun _ _ _ _ _ => (pg_name (i := 4) sc_law_is_full_right.nd rfl (by first | exact Or.inl rfl | exact Or.inr rfl))) (dc_PF (h := fun (x5 : Int) => x5) (p := fun (x5 : Int) => (decide (bound_ < (first_ + (List.sum (cutP ins_ none (some (x5 + (1 : Int))))))))) (dg_name (f := PyData.int) 4) (fun x5 _ _ _ _ _ _ => (dv 4 PyData.int x5 rfl)) (fun x5 _ _ _ _ _ _ => (dt_cmp op_gt oc_gt (fun _ => (dv 2 PyData.int bound_ rfl)) (de_add (fun _ => (de_sum rfl T.n_sum (de_slT (fun _ _ => (do_some (de_add (fun _ => (k_int rfl)) (dv 4 PyData.int x5 rfl)))) (fun _ => do_none) (dv 1 (dQ PyData.int) ins_ rfl)))) (dv 0 PyData.int first_ rfl)))) (DI.c (di_rngL T.n_range T.n_len (dv 1 (dQ PyData.int) ins_ rfl)))))) rfl

theorem g_law (T : Tp K mg) : Gd P w K mg base "law" ["script"] 14 (spD (A := (List Int) × Unit) (fun a => [vl (dL PyData.int) a.1]) (fun a Q => Mo.holds (m_law a.1) Q) (vl PyData.bool)) := by
  refine fn_ok (N := ["script", "draws", "scale", "first", "pump", "other", "ins", "wide", "run", "few", "k", "own", "much"]) T.a_law sc_law (fun _ => rfl) fun f cdv A0 outer s H E a hr => ?_
  obtain ⟨script_, _⟩ := a
  exact ds_cast ((ds_setN (enc := dr) 1 sc_law.nd (fun draws_ => (ds_setN (enc := (vl PyData.int)) 2 sc_law.nd (fun scale_ => (ds_par3N (f1 := PyData.int) (f2 := (dT3 PyData.int PyData.int PyData.int)) (f3 := (dT3 PyData.int PyData.int PyData.int)) 3 4 5 rfl sc_law.nd (by decide) (by decide) (by decide) (fun first_ pump_ other_ => (ds_setN (enc := (vl (dQ PyData.int))) 6 sc_law.nd (fun ins_ => (ds_setN (enc := (vl (dT4 PyData.int (dQ PyData.int) (dQ PyData.int) (dQ PyData.int)))) 7 sc_law.nd (fun wide_ => (ds_ifR (ds_setN (enc := (vl (dL (dT2 (dQ PyData.bool) PyData.int)))) 8 sc_law.nd (fun run_ => (ds_ifR (ds_ifR (ds_setN (enc := (vl (dQ PyData.int))) 9 sc_law.nd (fun few_ => (ds_ifR (ds_ifR (ds_ifR (ds_ifR (ds_ifR (ds_ret (j := fun x => x) (de_andM (de_andM (de_andM (de_one (dcall (fun (y : PyData × PyData × Unit) => Mo.lft (m_law_same RN y.1 y.2.1)) wL (g_law_same T RN) (hr.mono (by decide)) (da_cons (fun _ => (da_cons (fun _ => da_nil) (de_coe (PyData.int) (e1 := vl PyData.int) (e2 := vl dD) (fun _ => rfl) (k_int rfl)))) (de_coe (PyData.int) (e1 := vl PyData.int) (e2 := vl dD) (fun _ => rfl) (dcall (fun (y : Int × Int × Int × Int × (List Int) × Unit) => Mo.lft (m_starts_of y.1 y.2.1 y.2.2.1 y.2.2.2.1 y.2.2.2.2.1)) wL (g_starts_of T) (hr.mono (by decide)) (da_cons (fun _ => (da_cons (fun _ => (da_cons (fun _ => (da_cons (fun _ => (da_cons (fun _ => da_nil) (de_tup (g := fun (y : Int × Int × Int × Int × Unit) => [PyData.int y.1, PyData.int y.2.1, PyData.int y.2.2.1, PyData.int y.2.2.2.1]) (ff := fun (y : Int × Int × Int × Int × Unit) => ([y.1, y.2.1, y.2.2.1, y.2.2.2.1] : List Int)) (fe := (dQ PyData.int)) (fun _ => rfl) (fun _ => Nat.le_of_ble_eq_true rfl) (fun _ => rfl) (da_cons (fun _ => (da_cons (fun _ => (da_cons (fun _ => (da_cons (fun _ => da_nil) (k_int rfl))) (k_int rfl))) (k_int rfl))) (k_int rfl))))) (k_int rfl))) (k_int rfl))) (k_int rfl))) (k_int rfl)) (fun _ => .inl rfl)))) (fun _ => .inl rfl))) (dcall (fun (y : Int × (List Int) × (List Int) × Unit) => Mo.lft (m_law_is_told y.1 y.2.1 y.2.2.1)) wL (g_law_is_told T) (hr.mono (by decide)) (da_cons (fun _ => (da_cons (fun _ => (da_cons (fun _ => da_nil) (de_tup (g := fun (y : Int × Int × Unit) => [PyData.int y.1, PyData.int y.2.1]) (ff := fun (y : Int × Int × Unit) => ([y.1, y.2.1] : List Int)) (fe := (dQ PyData.int)) (fun _ => rfl) (fun _ => Nat.le_of_ble_eq_true rfl) (fun _ => rfl) (da_cons (fun _ => (da_cons (fun _ => da_nil) (k_int rfl))) (k_int rfl))))) (de_tup (g := fun (y : Int × Int × Int × Unit) => [PyData.int y.1, PyData.int y.2.1, PyData.int y.2.2.1]) (ff := fun (y : Int × Int × Int × Unit) => ([y.1, y.2.1, y.2.2.1] : List Int)) (fe := (dQ PyData.int)) (fun _ => rfl) (fun _ => Nat.le_of_ble_eq_true rfl) (fun _ => rfl) (da_cons (fun _ => (da_cons (fun _ => (da_cons (fun _ => da_nil) (k_int rfl))) (k_int rfl))) (k_int rfl))))) (k_int rfl)) (fun _ => .inl rfl))) (dcall (fun (y : Int × (Int × Int × Int) × (List Int) × Int × Unit) => Mo.lft (m_law_is_least_right y.1 y.2.1 y.2.2.1 y.2.2.2.1)) wL (g_law_is_least_right T) (hr.mono (by decide)) (da_cons (fun _ => (da_cons (fun _ => (da_cons (fun _ => (da_cons (fun _ => da_nil) (k_int rfl))) (dv 9 (dQ PyData.int) few_ rfl))) (de_tup (g := fun (y : Int × Int × Int × Unit) => [PyData.int y.1, PyData.int y.2.1, PyData.int y.2.2.1]) (ff := fun (y : Int × Int × Int × Unit) => (y.1, y.2.1, y.2.2.1)) (fe := (dT3 PyData.int PyData.int PyData.int)) (fun _ => rfl) (fun _ => Nat.le_of_ble_eq_true rfl) (fun _ => rfl) (da_cons (fun _ => (da_cons (fun _ => (da_cons (fun _ => da_nil) (k_int rfl))) (k_int rfl))) (k_int rfl))))) (k_int rfl)) (fun _ => .inl rfl))) (dcall (fun (y : Int × (List Int) × (List Int) × Unit) => Mo.lft (m_law_is_told y.1 y.2.1 y.2.2.1)) wL (g_law_is_told T) (hr.mono (by decide)) (da_cons (fun _ => (da_cons (fun _ => (da_cons (fun _ => da_nil) (dv 9 (dQ PyData.int) few_ rfl))) (de_tup (g := fun (y : Int × Int × Int × Unit) => [PyData.int y.1, PyData.int y.2.1, PyData.int y.2.2.1]) (ff := fun (y : Int × Int × Int × Unit) => ([y.1, y.2.1, y.2.2.1] : List Int)) (fe := (dQ PyData.int)) (fun _ => rfl) (fun _ => Nat.le_of_ble_eq_true rfl) (fun _ => rfl) (da_cons (fun _ => (da_cons (fun _ => (da_cons (fun _ => da_nil) (k_int rfl))) (k_int rfl))) (k_int rfl))))) (k_int rfl)) (fun _ => .inl rfl))) (fun _ => rfl)) (ds_ret (j := fun x => x) (k_bl rfl) (fun _ => rfl)) (dt_w (dw_orM (dw_1 (dt_not (dt_val (dcall (fun (y : PyData × PyData × Unit) => Mo.lft (m_law_same RN y.1 y.2.1)) wL (g_law_same T RN) (hr.mono (by decide)) (da_cons (fun _ => (da_cons (fun _ => da_nil) (de_coe (PyData.int) (e1 := vl PyData.int) (e2 := vl dD) (fun _ => rfl) (k_int rfl)))) (de_coe ((dO PyData.int)) (e1 := vl (dO PyData.int)) (e2 := vl dD) (fun _ => rfl) (dcall (fun (y : Int × Int × Int × (List Int) × Int × Unit) => Mo.lft (m_least_takes y.1 y.2.1 y.2.2.1 y.2.2.2.1 y.2.2.2.2.1)) wL (g_least_takes T) (hr.mono (by decide)) (da_cons (fun _ => (da_cons (fun _ => (da_cons (fun _ => (da_cons (fun _ => (da_cons (fun _ => da_nil) (k_int rfl))) (de_tup (g := fun (y : Unit) => []) (ff := fun (y : Unit) => ([] : List Int)) (fe := (dQ PyData.int)) (fun _ => rfl) (fun _ => Nat.le_of_ble_eq_true rfl) (fun _ => rfl) da_nil))) (k_int rfl))) (k_int rfl))) (k_int rfl)) (fun _ => .inl rfl)))) (fun _ => .inl rfl))))) (dt_cmp op_notN oc_notN (fun _ => k_non rfl) (dcall (fun (y : Int × Int × Int × (List Int) × Int × Unit) => Mo.lft (m_least_takes y.1 y.2.1 y.2.2.1 y.2.2.2.1 y.2.2.2.2.1)) wL (g_least_takes T) (hr.mono (by decide)) (da_cons (fun _ => (da_cons (fun _ => (da_cons (fun _ => (da_cons (fun _ => (da_cons (fun _ => da_nil) (k_int rfl))) (de_tup (g := fun (y : Int × Unit) => [PyData.int y.1]) (ff := fun (y : Int × Unit) => ([y.1] : List Int)) (fe := (dQ PyData.int)) (fun _ => rfl) (fun _ => Nat.le_of_ble_eq_true rfl) (fun _ => rfl) (da_cons (fun _ => da_nil) (k_int rfl))))) (k_int rfl))) (k_int rfl))) (k_int rfl)) (fun _ => .inl rfl))))) hF) (ds_ret (j := fun x => x) (k_bl rfl) (fun _ => rfl)) (dt_w (dw_orM (dw_1 (dt_not (dt_val (dcall (fun (y : PyData × PyData × Unit) => Mo.lft (m_law_same RN y.1 y.2.1)) wL (g_law_same T RN) (hr.mono (by decide)) (da_cons (fun _ => (da_cons (fun _ => da_nil) (de_coe (PyData.int) (e1 := vl PyData.int) (e2 := vl dD) (fun _ => rfl) (k_int rfl)))) (de_coe ((dO PyData.int)) (e1 := vl (dO PyData.int)) (e2 := vl dD) (fun _ => rfl) (dcall (fun (y : Int × Int × Int × (List Int) × Int × Unit) => Mo.lft (m_least_takes y.1 y.2.1 y.2.2.1 y.2.2.2.1 y.2.2.2.2.1)) wL (g_least_takes T) (hr.mono (by decide)) (da_cons (fun _ => (da_cons (fun _ => (da_cons (fun _ => (da_cons (fun _ => (da_cons (fun _ => da_nil) (k_int rfl))) (dv 9 (dQ PyData.int) few_ rfl))) (k_int rfl))) (k_int rfl))) (k_int rfl)) (fun _ => .inl rfl)))) (fun _ => .inl rfl))))) (dt_not (dt_val (dcall (fun (y : PyData × PyData × Unit) => Mo.lft (m_law_same RN y.1 y.2.1)) wL (g_law_same T RN) (hr.mono (by decide)) (da_cons (fun _ => (da_cons (fun _ => da_nil) (de_coe ((dT3 PyData.int PyData.int PyData.int)) (e1 := vl (dT3 PyData.int PyData.int PyData.int)) (e2 := vl dD) (fun _ => rfl) (de_tup (g := fun (y : Int × Int × Int × Unit) => [PyData.int y.1, PyData.int y.2.1, PyData.int y.2.2.1]) (ff := fun (y : Int × Int × Int × Unit) => (y.1, y.2.1, y.2.2.1)) (fe := (dT3 PyData.int PyData.int PyData.int)) (fun _ => rfl) (fun _ => Nat.le_of_ble_eq_true rfl) (fun _ => rfl) (da_cons (fun _ => (da_cons (fun _ => (da_cons (fun _ => da_nil) (k_int rfl))) (k_int rfl))) (k_int rfl)))))) (de_coe ((dQ PyData.int)) (e1 := vl (dQ PyData.int)) (e2 := vl dD) (fun _ => rfl) (dcall (fun (y : Int × Int × Int × Int × (List Int) × Unit) => Mo.lft (m_levels_of y.1 y.2.1 y.2.2.1 y.2.2.2.1 y.2.2.2.2.1)) wL (g_levels_of T) (hr.mono (by decide)) (da_cons (fun _ => (da_cons (fun _ => (da_cons (fun _ => (da_cons (fun _ => (da_cons (fun _ => da_nil) (de_tup (g := fun (y : Int × Int × Int × Unit) => [PyData.int y.1, PyData.int y.2.1, PyData.int y.2.2.1]) (ff := fun (y : Int × Int × Int × Unit) => ([y.1, y.2.1, y.2.2.1] : List Int)) (fe := (dQ PyData.int)) (fun _ => rfl) (fun _ => Nat.le_of_ble_eq_true rfl) (fun _ => rfl) (da_cons (fun _ => (da_cons (fun _ => (da_cons (fun _ => da_nil) (k_int rfl))) (k_int rfl))) (k_int rfl))))) (k_int rfl))) (k_int rfl))) (k_int rfl))) (k_int rfl)) (fun _ => .inl rfl)))) (fun _ => .inl rfl)))))) hF) (ds_ret (j := fun x => x) (k_bl rfl) (fun _ => rfl)) (dt_w (dw_orM (dw_orM (dw_1 (dt_not (dt_val (dcall (fun (y : PyData × PyData × Unit) => Mo.lft (m_law_same RN y.1 y.2.1)) wL (g_law_same T RN) (hr.mono (by decide)) (da_cons (fun _ => (da_cons (fun _ => da_nil) (de_coe (PyData.int) (e1 := vl PyData.int) (e2 := vl dD) (fun _ => rfl) (k_int rfl)))) (de_coe ((dO PyData.int)) (e1 := vl (dO PyData.int)) (e2 := vl dD) (fun _ => rfl) (dcall (fun (y : Int × (List Int) × Int × Unit) => Mo.lft (m_full_by y.1 y.2.1 y.2.2.1)) wL (g_full_by T) (hr.mono (by decide)) (da_cons (fun _ => (da_cons (fun _ => (da_cons (fun _ => da_nil) (k_int rfl))) (de_tup (g := fun (y : Int × Int × Unit) => [PyData.int y.1, PyData.int y.2.1]) (ff := fun (y : Int × Int × Unit) => ([y.1, y.2.1] : List Int)) (fe := (dQ PyData.int)) (fun _ => rfl) (fun _ => Nat.le_of_ble_eq_true rfl) (fun _ => rfl) (da_cons (fun _ => (da_cons (fun _ => da_nil) (k_int rfl))) (k_int rfl))))) (k_int rfl)) (fun _ => .inl rfl)))) (fun _ => .inl rfl))))) (dt_cmp op_notN oc_notN (fun _ => k_non rfl) (dcall (fun (y : Int × (List Int) × Int × Unit) => Mo.lft (m_full_by y.1 y.2.1 y.2.2.1)) wL (g_full_by T) (hr.mono (by decide)) (da_cons (fun _ => (da_cons (fun _ => (da_cons (fun _ => da_nil) (k_int rfl))) (de_tup (g := fun (y : Int × Int × Int × Int × Unit) => [PyData.int y.1, PyData.int y.2.1, PyData.int y.2.2.1, PyData.int y.2.2.2.1]) (ff := fun (y : Int × Int × Int × Int × Unit) => ([y.1, y.2.1, y.2.2.1, y.2.2.2.1] : List Int)) (fe := (dQ PyData.int)) (fun _ => rfl) (fun _ => Nat.le_of_ble_eq_true rfl) (fun _ => rfl) (da_cons (fun _ => (da_cons (fun _ => (da_cons (fun _ => (da_cons (fun _ => da_nil) (k_int rfl))) (k_int rfl))) (k_int rfl))) (k_int rfl))))) (k_int rfl)) (fun _ => .inl rfl)))) (dt_not (dt_val (dcall (fun (y : PyData × PyData × Unit) => Mo.lft (m_law_same RN y.1 y.2.1)) wL (g_law_same T RN) (hr.mono (by decide)) (da_cons (fun _ => (da_cons (fun _ => da_nil) (de_coe (PyData.int) (e1 := vl PyData.int) (e2 := vl dD) (fun _ => rfl) (k_int rfl)))) (de_coe ((dO PyData.int)) (e1 := vl (dO PyData.int)) (e2 := vl dD) (fun _ => rfl) (dcall (fun (y : Int × (List Int) × Int × Unit) => Mo.lft (m_full_by y.1 y.2.1 y.2.2.1)) wL (g_full_by T) (hr.mono (by decide)) (da_cons (fun _ => (da_cons (fun _ => (da_cons (fun _ => da_nil) (k_int rfl))) (de_tup (g := fun (y : Int × Int × Int × Int × Unit) => [PyData.int y.1, PyData.int y.2.1, PyData.int y.2.2.1, PyData.int y.2.2.2.1]) (ff := fun (y : Int × Int × Int × Int × Unit) => ([y.1, y.2.1, y.2.2.1, y.2.2.2.1] : List Int)) (fe := (dQ PyData.int)) (fun _ => rfl) (fun _ => Nat.le_of_ble_eq_true rfl) (fun _ => rfl) (da_cons (fun _ => (da_cons (fun _ => (da_cons (fun _ => (da_cons (fun _ => da_nil) (k_int rfl))) (k_int rfl))) (k_int rfl))) (k_int rfl))))) (k_int rfl)) (fun _ => .inl rfl)))) (fun _ => .inl rfl)))))) hF) (ds_ret (j := fun x => x) (k_bl rfl) (fun _ => rfl)) (dt_w (dw_orM (dw_1 (dt_not (dt_val (dcall (fun (y : PyData × PyData × Unit) => Mo.lft (m_law_same RN y.1 y.2.1)) wL (g_law_same T RN) (hr.mono (by decide)) (da_cons (fun _ => (da_cons (fun _ => da_nil) (de_coe ((dT3 PyData.int PyData.int PyData.int)) (e1 := vl (dT3 PyData.int PyData.int PyData.int)) (e2 := vl dD) (fun _ => rfl) (de_tup (g := fun (y : Int × Int × Int × Unit) => [PyData.int y.1, PyData.int y.2.1, PyData.int y.2.2.1]) (ff := fun (y : Int × Int × Int × Unit) => (y.1, y.2.1, y.2.2.1)) (fe := (dT3 PyData.int PyData.int PyData.int)) (fun _ => rfl) (fun _ => Nat.le_of_ble_eq_true rfl) (fun _ => rfl) (da_cons (fun _ => (da_cons (fun _ => (da_cons (fun _ => da_nil) (k_int rfl))) (k_int rfl))) (k_int rfl)))))) (de_coe ((dQ PyData.int)) (e1 := vl (dQ PyData.int)) (e2 := vl dD) (fun _ => rfl) (dcall (fun (y : Int × Int × Int × Int × (List Int) × Unit) => Mo.lft (m_levels_of y.1 y.2.1 y.2.2.1 y.2.2.2.1 y.2.2.2.2.1)) wL (g_levels_of T) (hr.mono (by decide)) (da_cons (fun _ => (da_cons (fun _ => (da_cons (fun _ => (da_cons (fun _ => (da_cons (fun _ => da_nil) (de_tup (g := fun (y : Int × Int × Int × Unit) => [PyData.int y.1, PyData.int y.2.1, PyData.int y.2.2.1]) (ff := fun (y : Int × Int × Int × Unit) => ([y.1, y.2.1, y.2.2.1] : List Int)) (fe := (dQ PyData.int)) (fun _ => rfl) (fun _ => Nat.le_of_ble_eq_true rfl) (fun _ => rfl) (da_cons (fun _ => (da_cons (fun _ => (da_cons (fun _ => da_nil) (k_int rfl))) (k_int rfl))) (k_int rfl))))) (k_int rfl))) (k_int rfl))) (k_int rfl))) (k_int rfl)) (fun _ => .inl rfl)))) (fun _ => .inl rfl))))) (dt_not (dt_val (dcall (fun (y : PyData × PyData × Unit) => Mo.lft (m_law_same RN y.1 y.2.1)) wL (g_law_same T RN) (hr.mono (by decide)) (da_cons (fun _ => (da_cons (fun _ => da_nil) (de_coe ((dT4 PyData.int PyData.int PyData.int PyData.int)) (e1 := vl (dT4 PyData.int PyData.int PyData.int PyData.int)) (e2 := vl dD) (fun _ => rfl) (de_tup (g := fun (y : Int × Int × Int × Int × Unit) => [PyData.int y.1, PyData.int y.2.1, PyData.int y.2.2.1, PyData.int y.2.2.2.1]) (ff := fun (y : Int × Int × Int × Int × Unit) => (y.1, y.2.1, y.2.2.1, y.2.2.2.1)) (fe := (dT4 PyData.int PyData.int PyData.int PyData.int)) (fun _ => rfl) (fun _ => Nat.le_of_ble_eq_true rfl) (fun _ => rfl) (da_cons (fun _ => (da_cons (fun _ => (da_cons (fun _ => (da_cons (fun _ => da_nil) (k_int rfl))) (k_int rfl))) (k_int rfl))) (k_int rfl)))))) (de_coe ((dQ PyData.int)) (e1 := vl (dQ PyData.int)) (e2 := vl dD) (fun _ => rfl) (dcall (fun (y : Int × (Int × Int) × (Int × Int) × (Int × Int) × (List Int) × Unit) => Mo.lft (m_two_pumps y.1 y.2.1 y.2.2.1 y.2.2.2.1 y.2.2.2.2.1)) wL (g_two_pumps T) (hr.mono (by decide)) (da_cons (fun _ => (da_cons (fun _ => (da_cons (fun _ => (da_cons (fun _ => (da_cons (fun _ => da_nil) (de_tup (g := fun (y : Int × Int × Int × Int × Unit) => [PyData.int y.1, PyData.int y.2.1, PyData.int y.2.2.1, PyData.int y.2.2.2.1]) (ff := fun (y : Int × Int × Int × Int × Unit) => ([y.1, y.2.1, y.2.2.1, y.2.2.2.1] : List Int)) (fe := (dQ PyData.int)) (fun _ => rfl) (fun _ => Nat.le_of_ble_eq_true rfl) (fun _ => rfl) (da_cons (fun _ => (da_cons (fun _ => (da_cons (fun _ => (da_cons (fun _ => da_nil) (k_int rfl))) (k_int rfl))) (k_int rfl))) (k_int rfl))))) (de_tup (g := fun (y : Int × Int × Unit) => [PyData.int y.1, PyData.int y.2.1]) (ff := fun (y : Int × Int × Unit) => (y.1, y.2.1)) (fe := (dT2 PyData.int PyData.int)) (fun _ => rfl) (fun _ => Nat.le_of_ble_eq_true rfl) (fun _ => rfl) (da_cons (fun _ => (da_cons (fun _ => da_nil) (k_int rfl))) (k_int rfl))))) (de_tup (g := fun (y : Int × Int × Unit) => [PyData.int y.1, PyData.int y.2.1]) (ff := fun (y : Int × Int × Unit) => (y.1, y.2.1)) (fe := (dT2 PyData.int PyData.int)) (fun _ => rfl) (fun _ => Nat.le_of_ble_eq_true rfl) (fun _ => rfl) (da_cons (fun _ => (da_cons (fun _ => da_nil) (k_int rfl))) (k_int rfl))))) (de_tup (g := fun (y : Int × Int × Unit) => [PyData.int y.1, PyData.int y.2.1]) (ff := fun (y : Int × Int × Unit) => (y.1, y.2.1)) (fe := (dT2 PyData.int PyData.int)) (fun _ => rfl) (fun _ => Nat.le_of_ble_eq_true rfl) (fun _ => rfl) (da_cons (fun _ => (da_cons (fun _ => da_nil) (k_int rfl))) (k_int rfl))))) (k_int rfl)) (fun _ => .inl rfl)))) (fun _ => .inl rfl)))))) hF) (ds_ret (j := fun x => x) (k_bl rfl) (fun _ => rfl)) (dt_w (dw_orM (dw_orM (dw_1 (dt_not (dt_val (dcall (fun (y : PyData × PyData × Unit) => Mo.lft (m_law_same RN y.1 y.2.1)) wL (g_law_same T RN) (hr.mono (by decide)) (da_cons (fun _ => (da_cons (fun _ => da_nil) (de_coe (PyData.int) (e1 := vl PyData.int) (e2 := vl dD) (fun _ => rfl) (k_int rfl)))) (de_coe (PyData.int) (e1 := vl PyData.int) (e2 := vl dD) (fun _ => rfl) (dcall (fun (y : Int × Int × Int × Int × (List Int) × Unit) => Mo.lft (m_minutes_going y.1 y.2.1 y.2.2.1 y.2.2.2.1 y.2.2.2.2.1)) wL (g_minutes_going T) (hr.mono (by decide)) (da_cons (fun _ => (da_cons (fun _ => (da_cons (fun _ => (da_cons (fun _ => (da_cons (fun _ => da_nil) (dv 9 (dQ PyData.int) few_ rfl))) (k_int rfl))) (k_int rfl))) (k_int rfl))) (k_int rfl)) (fun _ => .inl rfl)))) (fun _ => .inl rfl))))) (dt_not (dt_val (dcall (fun (y : PyData × PyData × Unit) => Mo.lft (m_law_same RN y.1 y.2.1)) wL (g_law_same T RN) (hr.mono (by decide)) (da_cons (fun _ => (da_cons (fun _ => da_nil) (de_coe (PyData.int) (e1 := vl PyData.int) (e2 := vl dD) (fun _ => rfl) (k_int rfl)))) (de_coe (PyData.int) (e1 := vl PyData.int) (e2 := vl dD) (fun _ => rfl) (dcall (fun (y : Int × Int × Int × Int × (List Int) × Unit) => Mo.lft (m_starts_of y.1 y.2.1 y.2.2.1 y.2.2.2.1 y.2.2.2.2.1)) wL (g_starts_of T) (hr.mono (by decide)) (da_cons (fun _ => (da_cons (fun _ => (da_cons (fun _ => (da_cons (fun _ => (da_cons (fun _ => da_nil) (dv 9 (dQ PyData.int) few_ rfl))) (k_int rfl))) (k_int rfl))) (k_int rfl))) (k_int rfl)) (fun _ => .inl rfl)))) (fun _ => .inl rfl))))) (dt_not (dt_val (dcall (fun (y : PyData × PyData × Unit) => Mo.lft (m_law_same RN y.1 y.2.1)) wL (g_law_same T RN) (hr.mono (by decide)) (da_cons (fun _ => (da_cons (fun _ => da_nil) (de_coe ((dQ PyData.int)) (e1 := vl (dQ PyData.int)) (e2 := vl dD) (fun _ => rfl) (de_tup (g := fun (y : Int × Int × Int × Int × Int × Int × Int × Int × Int × Unit) => [PyData.int y.1, PyData.int y.2.1, PyData.int y.2.2.1, PyData.int y.2.2.2.1, PyData.int y.2.2.2.2.1, PyData.int y.2.2.2.2.2.1, PyData.int y.2.2.2.2.2.2.1, PyData.int y.2.2.2.2.2.2.2.1, PyData.int y.2.2.2.2.2.2.2.2.1]) (ff := fun (y : Int × Int × Int × Int × Int × Int × Int × Int × Int × Unit) => ([y.1, y.2.1, y.2.2.1, y.2.2.2.1, y.2.2.2.2.1, y.2.2.2.2.2.1, y.2.2.2.2.2.2.1, y.2.2.2.2.2.2.2.1, y.2.2.2.2.2.2.2.2.1] : List Int)) (fe := (dQ PyData.int)) (fun _ => rfl) (fun _ => Nat.le_of_ble_eq_true rfl) (fun _ => rfl) (da_cons (fun _ => (da_cons (fun _ => (da_cons (fun _ => (da_cons (fun _ => (da_cons (fun _ => (da_cons (fun _ => (da_cons (fun _ => (da_cons (fun _ => (da_cons (fun _ => da_nil) (k_int rfl))) (k_int rfl))) (k_int rfl))) (k_int rfl))) (k_int rfl))) (k_int rfl))) (k_int rfl))) (k_int rfl))) (k_int rfl)))))) (de_coe ((dQ PyData.int)) (e1 := vl (dQ PyData.int)) (e2 := vl dD) (fun _ => rfl) (dcall (fun (y : Int × Int × Int × Int × (List Int) × Unit) => Mo.lft (m_levels_of y.1 y.2.1 y.2.2.1 y.2.2.2.1 y.2.2.2.2.1)) wL (g_levels_of T) (hr.mono (by decide)) (da_cons (fun _ => (da_cons (fun _ => (da_cons (fun _ => (da_cons (fun _ => (da_cons (fun _ => da_nil) (dv 9 (dQ PyData.int) few_ rfl))) (k_int rfl))) (k_int rfl))) (k_int rfl))) (k_int rfl)) (fun _ => .inl rfl)))) (fun _ => .inl rfl)))))) hF)) (de_tup (g := fun (y : Int × Int × Int × Int × Int × Int × Int × Int × Int × Unit) => [PyData.int y.1, PyData.int y.2.1, PyData.int y.2.2.1, PyData.int y.2.2.2.1, PyData.int y.2.2.2.2.1, PyData.int y.2.2.2.2.2.1, PyData.int y.2.2.2.2.2.2.1, PyData.int y.2.2.2.2.2.2.2.1, PyData.int y.2.2.2.2.2.2.2.2.1]) (ff := fun (y : Int × Int × Int × Int × Int × Int × Int × Int × Int × Unit) => ([y.1, y.2.1, y.2.2.1, y.2.2.2.1, y.2.2.2.2.1, y.2.2.2.2.2.1, y.2.2.2.2.2.2.1, y.2.2.2.2.2.2.2.1, y.2.2.2.2.2.2.2.2.1] : List Int)) (fe := (dQ PyData.int)) (fun _ => rfl) (fun _ => Nat.le_of_ble_eq_true rfl) (fun _ => rfl) (da_cons (fun _ => (da_cons (fun _ => (da_cons (fun _ => (da_cons (fun _ => (da_cons (fun _ => (da_cons (fun _ => (da_cons (fun _ => (da_cons (fun _ => (da_cons (fun _ => da_nil) (k_int rfl))) (k_int rfl))) (k_int rfl))) (k_int rfl))) (k_int rfl))) (k_int rfl))) (k_int rfl))) (k_int rfl))) (k_int rfl)))) (ds_ret (j := fun x => x) (k_bl rfl) (fun _ => rfl)) (dt_not (dt_val (dcall (fun (y : Int × (Int × Int × Int) × (List Int) × Int × Unit) => Mo.lft (m_law_is_least_right y.1 y.2.1 y.2.2.1 y.2.2.2.1)) wL (g_law_is_least_right T) (hr.mono (by decide)) (da_cons (fun _ => (da_cons (fun _ => (da_cons (fun _ => (da_cons (fun _ => da_nil) (dcall (fun (y : Unit × Int × Unit) => takeW y.2.1) wW (g_law_take T) (hr.mono (by decide)) (da_cons (fun _ => (da_cons (fun _ => da_nil) (k_int rfl))) (dvd 1 rfl)) (fun _ => .inl rfl)))) (de_slT (fun _ _ => (do_some (k_int rfl))) (fun _ => do_none) (dv 6 (dQ PyData.int) ins_ rfl)))) (dv 4 (dT3 PyData.int PyData.int PyData.int) pump_ rfl))) (dv 3 PyData.int first_ rfl)) (fun _ => .inl rfl)))) hF) (ds_ret (j := fun x => x) (k_bl rfl) (fun _ => rfl)) (dt_not (dt_val (dcall (fun (y : PyData × PyData × Unit) => Mo.lft (m_law_same RN y.1 y.2.1)) wL (g_law_same T RN) (hr.mono (by decide)) (da_cons (fun _ => (da_cons (fun _ => da_nil) (de_coe ((dQ PyData.int)) (e1 := vl (dQ PyData.int)) (e2 := vl dD) (fun _ => rfl) (de_tupleL T.n_tuple (de_lc (own := [("own", 11)]) rfl sc_law.nd (by show blkC ["script", "draws", "scale", "first", "pump", "other", "ins", "wide", "run", "few", "k", "own", "much"] (defScope st_law) _ _ = true; decide +kernel) (fun _ _ _ _ _ => (pg_name (i := 11) sc_law.nd rfl (by first | exact Or.inl rfl | exact Or.inr rfl))) (dc_P (h := fun (x48 : (List Bool) × Int) => x48.2) (dg_name (f := (dT2 (dQ PyData.bool) PyData.int)) 11) (fun x48 _ _ _ _ _ _ => (de_pt (e1 := vl (dT2 (dQ PyData.bool) PyData.int)) (g := fun (y : (List Bool) × Int) => [(dQ PyData.bool) y.1, PyData.int y.2]) (ff := fun (y : (List Bool) × Int) => y.2) (fe := PyData.int) (fun _ => rfl) (fun _ => rfl) (dv 11 (dT2 (dQ PyData.bool) PyData.int) x48 rfl))) (DI.c (di_lst (dv 8 (dL (dT2 (dQ PyData.bool) PyData.int)) run_ rfl))))))))) (de_coe ((dQ PyData.int)) (e1 := vl (dQ PyData.int)) (e2 := vl dD) (fun _ => rfl) (dcall (fun (y : Int × (Int × Int) × (Int × Int) × (Int × Int) × (List Int) × Unit) => Mo.lft (m_two_pumps y.1 y.2.1 y.2.2.1 y.2.2.2.1 y.2.2.2.2.1)) wL (g_two_pumps T) (hr.mono (by decide)) (da_cons (fun _ => (da_cons (fun _ => (da_cons (fun _ => (da_cons (fun _ => (da_cons (fun _ => da_nil) (de_pt (e1 := vl (dT4 PyData.int (dQ PyData.int) (dQ PyData.int) (dQ PyData.int))) (g := fun (y : Int × (List Int) × (List Int) × (List Int)) => [PyData.int y.1, (dQ PyData.int) y.2.1, (dQ PyData.int) y.2.2.1, (dQ PyData.int) y.2.2.2]) (ff := fun (y : Int × (List Int) × (List Int) × (List Int)) => y.2.2.2) (fe := (dQ PyData.int)) (fun _ => rfl) (fun _ => rfl) (dv 7 (dT4 PyData.int (dQ PyData.int) (dQ PyData.int) (dQ PyData.int)) wide_ rfl)))) (de_tup (g := fun (y : Int × Int × Unit) => [PyData.int y.1, PyData.int y.2.1]) (ff := fun (y : Int × Int × Unit) => (y.1, y.2.1)) (fe := (dT2 PyData.int PyData.int)) (fun _ => rfl) (fun _ => Nat.le_of_ble_eq_true rfl) (fun _ => rfl) (da_cons (fun _ => (da_cons (fun _ => da_nil) (de_ix (fun _ => (k_int rfl)) (de_pt (e1 := vl (dT4 PyData.int (dQ PyData.int) (dQ PyData.int) (dQ PyData.int))) (g := fun (y : Int × (List Int) × (List Int) × (List Int)) => [PyData.int y.1, (dQ PyData.int) y.2.1, (dQ PyData.int) y.2.2.1, (dQ PyData.int) y.2.2.2]) (ff := fun (y : Int × (List Int) × (List Int) × (List Int)) => y.2.2.1) (fe := (dQ PyData.int)) (fun _ => rfl) (fun _ => rfl) (dv 7 (dT4 PyData.int (dQ PyData.int) (dQ PyData.int) (dQ PyData.int)) wide_ rfl))))) (de_ix (fun _ => (k_int rfl)) (de_pt (e1 := vl (dT4 PyData.int (dQ PyData.int) (dQ PyData.int) (dQ PyData.int))) (g := fun (y : Int × (List Int) × (List Int) × (List Int)) => [PyData.int y.1, (dQ PyData.int) y.2.1, (dQ PyData.int) y.2.2.1, (dQ PyData.int) y.2.2.2]) (ff := fun (y : Int × (List Int) × (List Int) × (List Int)) => y.2.1) (fe := (dQ PyData.int)) (fun _ => rfl) (fun _ => rfl) (dv 7 (dT4 PyData.int (dQ PyData.int) (dQ PyData.int) (dQ PyData.int)) wide_ rfl))))))) (de_tup (g := fun (y : Int × Int × Unit) => [PyData.int y.1, PyData.int y.2.1]) (ff := fun (y : Int × Int × Unit) => (y.1, y.2.1)) (fe := (dT2 PyData.int PyData.int)) (fun _ => rfl) (fun _ => Nat.le_of_ble_eq_true rfl) (fun _ => rfl) (da_cons (fun _ => (da_cons (fun _ => da_nil) (de_ix (fun _ => (k_int rfl)) (de_pt (e1 := vl (dT4 PyData.int (dQ PyData.int) (dQ PyData.int) (dQ PyData.int))) (g := fun (y : Int × (List Int) × (List Int) × (List Int)) => [PyData.int y.1, (dQ PyData.int) y.2.1, (dQ PyData.int) y.2.2.1, (dQ PyData.int) y.2.2.2]) (ff := fun (y : Int × (List Int) × (List Int) × (List Int)) => y.2.2.1) (fe := (dQ PyData.int)) (fun _ => rfl) (fun _ => rfl) (dv 7 (dT4 PyData.int (dQ PyData.int) (dQ PyData.int) (dQ PyData.int)) wide_ rfl))))) (de_ix (fun _ => (k_int rfl)) (de_pt (e1 := vl (dT4 PyData.int (dQ PyData.int) (dQ PyData.int) (dQ PyData.int))) (g := fun (y : Int × (List Int) × (List Int) × (List Int)) => [PyData.int y.1, (dQ PyData.int) y.2.1, (dQ PyData.int) y.2.2.1, (dQ PyData.int) y.2.2.2]) (ff := fun (y : Int × (List Int) × (List Int) × (List Int)) => y.2.1) (fe := (dQ PyData.int)) (fun _ => rfl) (fun _ => rfl) (dv 7 (dT4 PyData.int (dQ PyData.int) (dQ PyData.int) (dQ PyData.int)) wide_ rfl))))))) (de_tup (g := fun (y : Int × Int × Unit) => [PyData.int y.1, PyData.int y.2.1]) (ff := fun (y : Int × Int × Unit) => (y.1, y.2.1)) (fe := (dT2 PyData.int PyData.int)) (fun _ => rfl) (fun _ => Nat.le_of_ble_eq_true rfl) (fun _ => rfl) (da_cons (fun _ => (da_cons (fun _ => da_nil) (de_ix (fun _ => (k_int rfl)) (de_pt (e1 := vl (dT4 PyData.int (dQ PyData.int) (dQ PyData.int) (dQ PyData.int))) (g := fun (y : Int × (List Int) × (List Int) × (List Int)) => [PyData.int y.1, (dQ PyData.int) y.2.1, (dQ PyData.int) y.2.2.1, (dQ PyData.int) y.2.2.2]) (ff := fun (y : Int × (List Int) × (List Int) × (List Int)) => y.2.2.1) (fe := (dQ PyData.int)) (fun _ => rfl) (fun _ => rfl) (dv 7 (dT4 PyData.int (dQ PyData.int) (dQ PyData.int) (dQ PyData.int)) wide_ rfl))))) (de_ix (fun _ => (k_int rfl)) (de_pt (e1 := vl (dT4 PyData.int (dQ PyData.int) (dQ PyData.int) (dQ PyData.int))) (g := fun (y : Int × (List Int) × (List Int) × (List Int)) => [PyData.int y.1, (dQ PyData.int) y.2.1, (dQ PyData.int) y.2.2.1, (dQ PyData.int) y.2.2.2]) (ff := fun (y : Int × (List Int) × (List Int) × (List Int)) => y.2.1) (fe := (dQ PyData.int)) (fun _ => rfl) (fun _ => rfl) (dv 7 (dT4 PyData.int (dQ PyData.int) (dQ PyData.int) (dQ PyData.int)) wide_ rfl))))))) (de_pt (e1 := vl (dT4 PyData.int (dQ PyData.int) (dQ PyData.int) (dQ PyData.int))) (g := fun (y : Int × (List Int) × (List Int) × (List Int)) => [PyData.int y.1, (dQ PyData.int) y.2.1, (dQ PyData.int) y.2.2.1, (dQ PyData.int) y.2.2.2]) (ff := fun (y : Int × (List Int) × (List Int) × (List Int)) => y.1) (fe := PyData.int) (fun _ => rfl) (fun _ => rfl) (dv 7 (dT4 PyData.int (dQ PyData.int) (dQ PyData.int) (dQ PyData.int)) wide_ rfl))) (fun _ => .inl rfl)))) (fun _ => .inl rfl)))) hF)) (de_frz (dcall (fun (y : Int × (List (List Int)) × (List Int) × Unit) => Mo.lft (m_law_run y.1 y.2.1 y.2.2.1)) wL (g_law_run T) (hr.mono (by decide)) (da_cons (fun _ => (da_cons (fun _ => (da_cons (fun _ => da_nil) (de_pt (e1 := vl (dT4 PyData.int (dQ PyData.int) (dQ PyData.int) (dQ PyData.int))) (g := fun (y : Int × (List Int) × (List Int) × (List Int)) => [PyData.int y.1, (dQ PyData.int) y.2.1, (dQ PyData.int) y.2.2.1, (dQ PyData.int) y.2.2.2]) (ff := fun (y : Int × (List Int) × (List Int) × (List Int)) => y.2.2.2) (fe := (dQ PyData.int)) (fun _ => rfl) (fun _ => rfl) (dv 7 (dT4 PyData.int (dQ PyData.int) (dQ PyData.int) (dQ PyData.int)) wide_ rfl)))) (de_frz (de_lst (f := (dQ PyData.int)) (g := fun (y : (List Int) × (List Int) × Unit) => ([y.1, y.2.1] : List (List Int))) (fun _ => rfl) (fun _ => Nat.le_of_ble_eq_true rfl) (da_cons (fun _ => (da_cons (fun _ => da_nil) (de_pt (e1 := vl (dT4 PyData.int (dQ PyData.int) (dQ PyData.int) (dQ PyData.int))) (g := fun (y : Int × (List Int) × (List Int) × (List Int)) => [PyData.int y.1, (dQ PyData.int) y.2.1, (dQ PyData.int) y.2.2.1, (dQ PyData.int) y.2.2.2]) (ff := fun (y : Int × (List Int) × (List Int) × (List Int)) => y.2.2.1) (fe := (dQ PyData.int)) (fun _ => rfl) (fun _ => rfl) (dv 7 (dT4 PyData.int (dQ PyData.int) (dQ PyData.int) (dQ PyData.int)) wide_ rfl)))) (de_pt (e1 := vl (dT4 PyData.int (dQ PyData.int) (dQ PyData.int) (dQ PyData.int))) (g := fun (y : Int × (List Int) × (List Int) × (List Int)) => [PyData.int y.1, (dQ PyData.int) y.2.1, (dQ PyData.int) y.2.2.1, (dQ PyData.int) y.2.2.2]) (ff := fun (y : Int × (List Int) × (List Int) × (List Int)) => y.2.1) (fe := (dQ PyData.int)) (fun _ => rfl) (fun _ => rfl) (dv 7 (dT4 PyData.int (dQ PyData.int) (dQ PyData.int) (dQ PyData.int)) wide_ rfl))))))) (de_pt (e1 := vl (dT4 PyData.int (dQ PyData.int) (dQ PyData.int) (dQ PyData.int))) (g := fun (y : Int × (List Int) × (List Int) × (List Int)) => [PyData.int y.1, (dQ PyData.int) y.2.1, (dQ PyData.int) y.2.2.1, (dQ PyData.int) y.2.2.2]) (ff := fun (y : Int × (List Int) × (List Int) × (List Int)) => y.1) (fe := PyData.int) (fun _ => rfl) (fun _ => rfl) (dv 7 (dT4 PyData.int (dQ PyData.int) (dQ PyData.int) (dQ PyData.int)) wide_ rfl))) (fun _ => .inl rfl)))) (ds_ret (j := fun x => x) (k_bl rfl) (fun _ => rfl)) (dt_w (dw_orM (dw_1 (dt_not (dt_val (dcall (fun (y : Int × (List Int) × Int × Unit) => Mo.lft (m_law_is_full_right y.1 y.2.1 y.2.2.1)) wL (g_law_is_full_right T) (hr.mono (by decide)) (da_cons (fun _ => (da_cons (fun _ => (da_cons (fun _ => da_nil) (de_mul (fun _ => (dcall (fun (y : Unit × Int × Unit) => takeW y.2.1) wW (g_law_take T) (hr.mono (by decide)) (da_cons (fun _ => (da_cons (fun _ => da_nil) (k_int rfl))) (dvd 1 rfl)) (fun _ => .inl rfl))) (dv 2 PyData.int scale_ rfl)))) (de_pt (e1 := vl (dT4 PyData.int (dQ PyData.int) (dQ PyData.int) (dQ PyData.int))) (g := fun (y : Int × (List Int) × (List Int) × (List Int)) => [PyData.int y.1, (dQ PyData.int) y.2.1, (dQ PyData.int) y.2.2.1, (dQ PyData.int) y.2.2.2]) (ff := fun (y : Int × (List Int) × (List Int) × (List Int)) => y.2.2.2) (fe := (dQ PyData.int)) (fun _ => rfl) (fun _ => rfl) (dv 7 (dT4 PyData.int (dQ PyData.int) (dQ PyData.int) (dQ PyData.int)) wide_ rfl)))) (de_pt (e1 := vl (dT4 PyData.int (dQ PyData.int) (dQ PyData.int) (dQ PyData.int))) (g := fun (y : Int × (List Int) × (List Int) × (List Int)) => [PyData.int y.1, (dQ PyData.int) y.2.1, (dQ PyData.int) y.2.2.1, (dQ PyData.int) y.2.2.2]) (ff := fun (y : Int × (List Int) × (List Int) × (List Int)) => y.1) (fe := PyData.int) (fun _ => rfl) (fun _ => rfl) (dv 7 (dT4 PyData.int (dQ PyData.int) (dQ PyData.int) (dQ PyData.int)) wide_ rfl))) (fun _ => .inl rfl))))) (dt_not (dt_val (dcall (fun (y : Int × (List Int) × (List Int) × Unit) => Mo.lft (m_law_is_told y.1 y.2.1 y.2.2.1)) wL (g_law_is_told T) (hr.mono (by decide)) (da_cons (fun _ => (da_cons (fun _ => (da_cons (fun _ => da_nil) (de_pt (e1 := vl (dT4 PyData.int (dQ PyData.int) (dQ PyData.int) (dQ PyData.int))) (g := fun (y : Int × (List Int) × (List Int) × (List Int)) => [PyData.int y.1, (dQ PyData.int) y.2.1, (dQ PyData.int) y.2.2.1, (dQ PyData.int) y.2.2.2]) (ff := fun (y : Int × (List Int) × (List Int) × (List Int)) => y.2.2.2) (fe := (dQ PyData.int)) (fun _ => rfl) (fun _ => rfl) (dv 7 (dT4 PyData.int (dQ PyData.int) (dQ PyData.int) (dQ PyData.int)) wide_ rfl)))) (de_pt (e1 := vl (dT4 PyData.int (dQ PyData.int) (dQ PyData.int) (dQ PyData.int))) (g := fun (y : Int × (List Int) × (List Int) × (List Int)) => [PyData.int y.1, (dQ PyData.int) y.2.1, (dQ PyData.int) y.2.2.1, (dQ PyData.int) y.2.2.2]) (ff := fun (y : Int × (List Int) × (List Int) × (List Int)) => y.2.1) (fe := (dQ PyData.int)) (fun _ => rfl) (fun _ => rfl) (dv 7 (dT4 PyData.int (dQ PyData.int) (dQ PyData.int) (dQ PyData.int)) wide_ rfl)))) (de_pt (e1 := vl (dT4 PyData.int (dQ PyData.int) (dQ PyData.int) (dQ PyData.int))) (g := fun (y : Int × (List Int) × (List Int) × (List Int)) => [PyData.int y.1, (dQ PyData.int) y.2.1, (dQ PyData.int) y.2.2.1, (dQ PyData.int) y.2.2.2]) (ff := fun (y : Int × (List Int) × (List Int) × (List Int)) => y.1) (fe := PyData.int) (fun _ => rfl) (fun _ => rfl) (dv 7 (dT4 PyData.int (dQ PyData.int) (dQ PyData.int) (dQ PyData.int)) wide_ rfl))) (fun _ => .inl rfl)))))) hF)) (de_tup (g := fun (y : Int × (List Int) × (List Int) × (List Int) × Unit) => [PyData.int y.1, (dQ PyData.int) y.2.1, (dQ PyData.int) y.2.2.1, (dQ PyData.int) y.2.2.2.1]) (ff := fun (y : Int × (List Int) × (List Int) × (List Int) × Unit) => (y.1, y.2.1, y.2.2.1, y.2.2.2.1)) (fe := (dT4 PyData.int (dQ PyData.int) (dQ PyData.int) (dQ PyData.int))) (fun _ => rfl) (fun _ => Nat.le_of_ble_eq_true rfl) (fun _ => rfl) (da_cons (fun _ => (da_cons (fun _ => (da_cons (fun _ => (da_cons (fun _ => da_nil) (de_tupleL T.n_tuple (de_lc (own := [("much", 12)]) rfl sc_law.nd (by show blkC ["script", "draws", "scale", "first", "pump", "other", "ins", "wide", "run", "few", "k", "own", "much"] (defScope st_law) _ _ = true; decide +kernel) (fun _ _ _ _ _ => (pg_name (i := 12) sc_law.nd rfl (by first | exact Or.inl rfl | exact Or.inr rfl))) (dc_M (h := fun (x62 : Int) => (Mo.bnd (μ := W) (Mo.lft (mulO x62 scale_)) fun t63 => (Mo.pur (μ := W) t63))) (dg_name (f := PyData.int) 12) (fun x62 _ _ _ _ _ => (de_mul (fun _ => (dv 2 PyData.int scale_ rfl)) (dv 12 PyData.int x62 rfl))) (DI.c (di_tup (dv 6 (dQ PyData.int) ins_ rfl)))))))) (de_tupleL T.n_tuple (de_lc (own := [("own", 11)]) rfl sc_law.nd (by show blkC ["script", "draws", "scale", "first", "pump", "other", "ins", "wide", "run", "few", "k", "own", "much"] (defScope st_law) _ _ = true; decide +kernel) (fun _ _ _ _ _ => (pg_name (i := 11) sc_law.nd rfl (by first | exact Or.inl rfl | exact Or.inr rfl))) (dc_M (h := fun (x59 : Int) => (Mo.bnd (μ := W) (Mo.lft (mulO x59 scale_)) fun t60 => (Mo.pur (μ := W) t60))) (dg_name (f := PyData.int) 11) (fun x59 _ _ _ _ _ => (de_mul (fun _ => (dv 2 PyData.int scale_ rfl)) (dv 11 PyData.int x59 rfl))) (DI.c (di_tup (de_coe (fun (a : Int × Int × Int) => ([a.1, a.2.1, a.2.2] : List Int)) (e1 := vl (dT3 PyData.int PyData.int PyData.int)) (e2 := vl (dQ PyData.int)) (fun _ => rfl) (dv 5 (dT3 PyData.int PyData.int PyData.int) other_ rfl))))))))) (de_tupleL T.n_tuple (de_lc (own := [("own", 11)]) rfl sc_law.nd (by show blkC ["script", "draws", "scale", "first", "pump", "other", "ins", "wide", "run", "few", "k", "own", "much"] (defScope st_law) _ _ = true; decide +kernel) (fun _ _ _ _ _ => (pg_name (i := 11) sc_law.nd rfl (by first | exact Or.inl rfl | exact Or.inr rfl))) (dc_M (h := fun (x56 : Int) => (Mo.bnd (μ := W) (Mo.lft (mulO x56 scale_)) fun t57 => (Mo.pur (μ := W) t57))) (dg_name (f := PyData.int) 11) (fun x56 _ _ _ _ _ => (de_mul (fun _ => (dv 2 PyData.int scale_ rfl)) (dv 11 PyData.int x56 rfl))) (DI.c (di_tup (de_coe (fun (a : Int × Int × Int) => ([a.1, a.2.1, a.2.2] : List Int)) (e1 := vl (dT3 PyData.int PyData.int PyData.int)) (e2 := vl (dQ PyData.int)) (fun _ => rfl) (dv 4 (dT3 PyData.int PyData.int PyData.int) pump_ rfl))))))))) (de_mul (fun _ => (dv 2 PyData.int scale_ rfl)) (dv 3 PyData.int first_ rfl)))))) (de_tupleL T.n_tuple (de_lc (own := [("k", 10)]) rfl sc_law.nd (by show blkC ["script", "draws", "scale", "first", "pump", "other", "ins", "wide", "run", "few", "k", "own", "much"] (defScope st_law) _ _ = true; decide +kernel) (fun _ _ _ _ _ => (pg_name (i := 10) sc_law.nd rfl (by first | exact Or.inl rfl | exact Or.inr rfl))) (dc_M (h := fun (x65 : Int) => (Mo.bnd (μ := W) (takeW (12 : Int)) fun t67 => (Mo.bnd (μ := W) (takeW (4 : Int)) fun t68 => (Mo.bnd (μ := W) (Mo.lft (mulO t67 (b2n (decide ((0 : Int) < t68))))) fun t66 => (Mo.pur (μ := W) t66))))) (dg_name (f := PyData.int) 10) (fun x65 _ _ _ _ _ => (de_mul (fun _ => (de_intB T.n_int (de_cmp op_gt oc_gt (fun _ => (k_int rfl)) (dcall (fun (y : Unit × Int × Unit) => takeW y.2.1) wW (g_law_take T) (hr.mono (by decide)) (da_cons (fun _ => (da_cons (fun _ => da_nil) (k_int rfl))) (dvd 1 rfl)) (fun _ => .inl rfl))))) (dcall (fun (y : Unit × Int × Unit) => takeW y.2.1) wW (g_law_take T) (hr.mono (by decide)) (da_cons (fun _ => (da_cons (fun _ => da_nil) (k_int rfl))) (dvd 1 rfl)) (fun _ => .inl rfl)))) (DI.c (di_rng1 T.n_range (dcall (fun (y : Unit × Int × Unit) => takeW y.2.1) wW (g_law_take T) (hr.mono (by decide)) (da_cons (fun _ => (da_cons (fun _ => da_nil) (k_int rfl))) (dvd 1 rfl)) (fun _ => .inl rfl))))))))) (fun _ _ => (dcall (fun (y : Unit × Unit) => m_law_pump) wW (g_law_pump T) (hr.mono (by decide)) (da_cons (fun _ => da_nil) (dvd 1 rfl)) (fun _ => .inl rfl))) (fun _ => (dcall (fun (y : Unit × Unit) => m_law_pump) wW (g_law_pump T) (hr.mono (by decide)) (da_cons (fun _ => da_nil) (dvd 1 rfl)) (fun _ => .inl rfl))) (dcall (fun (y : Unit × Int × Unit) => takeW y.2.1) wW (g_law_take T) (hr.mono (by decide)) (da_cons (fun _ => (da_cons (fun _ => da_nil) (k_int rfl))) (dvd 1 rfl)) (fun _ => .inl rfl)))) (de_ix (fun _ => (dcall (fun (y : Unit × Int × Unit) => takeW y.2.1) wW (g_law_take T) (hr.mono (by decide)) (da_cons (fun _ => (da_cons (fun _ => da_nil) (k_int rfl))) (dvd 1 rfl)) (fun _ => .inl rfl))) (de_lst (f := PyData.int) (g := fun (y : Int × Int × Unit) => ([y.1, y.2.1] : List Int)) (fun _ => rfl) (fun _ => Nat.le_of_ble_eq_true rfl) (da_cons (fun _ => (da_cons (fun _ => da_nil) (de_add (fun _ => (de_mod (fun _ => (de_powc (by decide))) (de_abs T.n_abs (dcall (fun (y : (List Int) × Unit × Unit) => m_law_cell y.1) wW (g_law_cell T) (hr.mono (by decide)) (da_cons (fun _ => (da_cons (fun _ => da_nil) (dvd 1 rfl))) (dv 0 (dL PyData.int) script_ rfl)) (fun _ => .inl rfl))))) (k_int rfl)))) (k_int rfl)))))) (dcall (fun (y : (List Int) × Int × Unit) => drawsW (m_law_draws y.1 y.2.1)) wW (g_draws T) (hr.mono (by decide)) (da_cons (fun _ => (da_cons (fun _ => da_nil) (k_int rfl))) (dv 0 (dL PyData.int) script_ rfl)) (fun _ => .inl rfl)))) rfl

end
end K74

namespace DL
open PySem PySem.Spec L2
theorem fold_sim0 {α γ γ' : Type} {f : γ → α → Option γ} {f' : γ' → α → Option γ'} (R : Nat → γ → γ' → Prop) {xs : List α} {s : γ} {s' : γ'} (h : R xs.length s s') (hs : ∀ n s s' x, x ∈ xs → R (n + 1) s s' → ∃ t t', f s x = some t ∧ f' s' x = some t' ∧ R n t t') : ∃ t t', fold (μ := Option) f xs s = some t ∧ fold (μ := Option) f' xs s' = some t' ∧ R 0 t t' := by
  have := fold_sim (e := id) R xs s s' h hs
  simpa using this
theorem sim2 {α γ γ' β β' : Type} {F : γ → α → Option γ} {F' : γ' → α → Option γ'} {k : γ → Option β} {k' : γ' → Option β'} {P : β → β' → Prop} (R : Nat → γ → γ' → Prop) {xs : List α} {s : γ} {s' : γ'} (h : R xs.length s s') (hs : ∀ n s s' x, x ∈ xs → R (n + 1) s s' → ∃ t t', F s x = some t ∧ F' s' x = some t' ∧ R n t t') (hk : ∀ t t', R 0 t t' → ∃ b b', k t = some b ∧ k' t' = some b' ∧ P b b') : ∃ b b', (fold (μ := Option) F xs s).bind k = some b ∧ (fold (μ := Option) F' xs s').bind k' = some b' ∧ P b b' := by
  obtain ⟨t, t', h1, h2, h3⟩ := fold_sim0 R h hs
  obtain ⟨b, b', g1, g2, g3⟩ := hk t t' h3
  exact ⟨b, b', by rw [h1]; exact g1, by rw [h2]; exact g2, g3⟩
theorem sum_snoc : ∀ (xs : List Int) (a : Int), (xs ++ [a]).sum = xs.sum + a
  | [], a => by simp
  | x :: xs, a => by rw [List.cons_append, List.sum_cons, List.sum_cons, sum_snoc xs a]; omega
theorem rng_cons {i n : Int} (h : i < n) : rng i n = i :: rng (i + 1) n := by
  unfold rng
  have : (n - i).toNat = (n - (i + 1)).toNat + 1 := by omega
  rw [this, List.range_succ_eq_map, List.map_cons, List.map_map]
  simp
  intro a _
  omega
theorem rng_nil {i n : Int} (h : n ≤ i) : rng i n = [] := by
  unfold rng
  have : (n - i).toNat = 0 := by omega
  rw [this]; rfl
theorem forE_find {α γ ρ : Type} {f : γ → α → Option (γ ⊕ ρ)} {p : α → Bool} {j : α → ρ} (R : List α → γ → Prop) : ∀ (xs : List α) (s : γ), R xs s → (∀ s x xs', R (x :: xs') s → (p x = true → f s x = some (.inr (j x))) ∧ (p x = false → OH (f s x) fun r => ∃ t, r = .inl t ∧ R xs' t)) →
    OH (forE (μ := Option) f xs s) fun r => match xs.find? p with | some x => r = .inr (j x) | none => ∃ t, r = .inl t
  | [], s, _, _ => ⟨.inl s, rfl, s, rfl⟩
  | x :: xs, s, h, hs => by
    obtain ⟨h1, h2⟩ := hs s x xs h
    cases e : p x with
    | true =>
      refine ⟨.inr (j x), ?_, ?_⟩
      · simp [forE, Mo.bnd, h1 e, sel, Mo.pur]
      · simp [e]
    | false =>
      obtain ⟨r, h3, t, rfl, h4⟩ := h2 e
      obtain ⟨r', g1, g2⟩ := forE_find R xs t h4 hs
      refine ⟨r', ?_, ?_⟩
      · simp [forE, Mo.bnd, h3, sel]
        exact g1
      · simpa [e] using g2
theorem fold_first {α : Type} {f : Option α → α → Option (Option α)} {q : α → Bool} : ∀ (xs : List α) (d : Option α), (∀ d, ∀ x ∈ xs, f d x = some (if d = none ∧ q x = true then some x else d)) → fold (μ := Option) f xs d = some (d.or (xs.find? q))
  | [], d, _ => by simp [fold, Mo.pur]
  | x :: xs, d, h => by
    simp only [fold, Mo.bnd, h d x (List.mem_cons_self ..), Option.bind_some]
    rw [fold_first xs _ fun d y hy => h d y (List.mem_cons_of_mem _ hy)]
    cases d with
    | some a => simp
    | none =>
      cases e : q x <;> simp [e]
end DL
namespace K74
open PySem PySem.Spec L2 DL
def ison (l on off : Int) (g : Bool) : Bool := if on ≤ l then true else if l ≤ off then false else g
theorem ison_eq {l on off : Int} {g : Bool} : m_is_on_at l on off g = some (ison l on off g) := by
  unfold m_is_on_at ison
  by_cases h : on ≤ l <;> simp [h]
def lev (t l : Int) (g : Bool) : Int := if g = true then mx 0 (l - t) else l
theorem lev_eq {t l : Int} {g : Bool} : l - (if g = true then mn t l else 0) = lev t l g := by
  unfold lev mn mx
  cases g
  · simp
  · simp; split <;> split <;> omega
theorem mm_run (first on off takes : Int) (ins : List Int) (hz : ins.length ≤ 1000) : ∃ found, m_minute_by_minute first on off takes ins = some found ∧ m_law_run first [[on, off, takes]] ins = some (found.map fun p => ([p.1], p.2)) ∧ found.length = ins.length := by
  unfold m_minute_by_minute m_law_run
  simp only [letD, let2]
  refine Exists.elim (fold_sim0 (f := fun (s1 : Bool × Int × (List (Bool × Int))) (x2 : Int) => (Option.bind (m_is_on_at s1.2.1 on off s1.1) fun t3 => (Option.bind (appO s1.2.2 (t3, (s1.2.1 + x2) - (if t3 = true then (mn takes (s1.2.1 + x2)) else (0 : Int)))) fun found_ => (some (t3, (s1.2.1 + x2) - (if t3 = true then (mn takes (s1.2.1 + x2)) else (0 : Int)), found_))))) (f' := fun (s1 : List Bool × Int × List (List Bool × Int)) (x2 : Int) => (Option.bind (fold (μ := Option) (fun (s3 : (List Bool)) (x4 : Int) => (Option.bind ((Option.bind (L2.atI [[on, off, takes]] x4) fun t9 => (Option.bind (L2.atI t9 (0 : Int)) fun t8 => (if (decide (t8 ≤ s1.2.1)) = true then (Option.bind (setO s3 x4 true) fun goes_ => (some goes_)) else (Option.bind ((Option.bind (L2.atI [[on, off, takes]] x4) fun t6 => (Option.bind (L2.atI t6 (1 : Int)) fun t5 => (if (decide (s1.2.1 ≤ t5)) = true then (Option.bind (setO s3 x4 false) fun goes_ => (some goes_)) else (some s3))))) fun (s7 : (List Bool)) => (some s7)))))) fun (s10 : (List Bool)) => (some s10))) (rng 0 (List.length [[on, off, takes]])) s1.1) fun (s11 : (List Bool)) => ((Option.bind (fold (μ := Option) (fun (s12 : Int) (x13 : Int) => (Option.bind ((Option.bind (L2.atI s11 x13) fun t16 => (if t16 = true then (Option.bind (L2.atI [[on, off, takes]] x13) fun t15 => (Option.bind (L2.atI t15 (2 : Int)) fun t14 => ((some (mx (0 : Int) (s12 - t14)))))) else (some s12)))) fun (s17 : Int) => (some s17))) (rng 0 (List.length [[on, off, takes]])) (s1.2.1 + x2)) fun (s18 : Int) => ((Option.bind (appO s1.2.2 (s11, s18)) fun found_ => (some (s11, s18, found_)))))))) (fun (n : Nat) (s : Bool × Int × List (Bool × Int)) (s' : List Bool × Int × List (List Bool × Int)) => s'.1 = [s.1] ∧ s'.2.1 = s.2.1 ∧ s'.2.2 = s.2.2.map (fun p => ([p.1], p.2)) ∧ s.2.2.length + n = ins.length) (xs := ins) (s := (false, first, [])) (s' := ([false], first, [])) ⟨rfl, rfl, rfl, by simp⟩ ?_) ?_
  · rintro n ⟨g, l, fo⟩ ⟨gs, l', fo'⟩ x hx ⟨e1, e2, e3, e4⟩
    simp only at e1 e2 e3 e4
    subst e1 e2 e3
    have hr : rng 0 ((List.length [[on, off, takes]] : Nat) : Int) = [0] := by rfl
    refine ⟨(ison l' on off g, lev takes (l' + x) (ison l' on off g), fo ++ [(ison l' on off g, lev takes (l' + x) (ison l' on off g))]), ([ison l' on off g], lev takes (l' + x) (ison l' on off g), (fo ++ [(ison l' on off g, lev takes (l' + x) (ison l' on off g))]).map fun p => ([p.1], p.2)), ?_, ?_, rfl, rfl, rfl, by simp; omega⟩
    · simp only [ison_eq, Option.bind_some, lev_eq]
      rw [appO_some (by omega)]
      rfl
    · simp only [hr, fold, Mo.bnd, Mo.pur]
      have a0 : ∀ {α : Type} (a : α) , L2.atI [a] 0 = some a := fun a => rfl
      have b0 : L2.atI [on, off, takes] 0 = some on := rfl
      have b1 : L2.atI [on, off, takes] 1 = some off := rfl
      have b2 : L2.atI [on, off, takes] 2 = some takes := rfl
      have c0 : ∀ b : Bool, setO [g] 0 b = some [b] := fun b => rfl
      have hg : (if (decide (on ≤ l')) = true then (some [true] : Option (List Bool)) else (if (decide (l' ≤ off)) = true then some [false] else some [g])) = some [ison l' on off g] := by
        unfold ison
        by_cases h : on ≤ l' <;> by_cases h2 : l' ≤ off <;> simp [h, h2]
      simp only [a0, b0, b1, b2, c0, Option.bind_some, Option.bind_fun_some, hg]
      have hl : (if ison l' on off g = true then (some (mx 0 (l' + x - takes)) : Option Int) else some (l' + x)) = some (lev takes (l' + x) (ison l' on off g)) := by
        unfold lev
        split <;> rfl
      simp only [hl, Option.bind_some]
      rw [appO_some (by simp; omega)]
      simp
  · rintro t ⟨t', h1, h2, h3⟩
    refine ⟨t.2.2, ?_, ?_, by omega⟩
    · rw [h1]; rfl
    · obtain ⟨_, _, e3, _⟩ := h3
      rw [← e3]
      have : (List.map (fun (x22 : List Int) => false) [[on, off, takes]]) = [false] := rfl
      rw [this, h2]
      rfl
theorem two_run (first a1 a2 a3 b1 b2 b3 : Int) (ins : List Int) (hz : ins.length ≤ 1000) : ∃ found lv, m_law_run first [[a1, a2, a3], [b1, b2, b3]] ins = some found ∧ m_two_pumps first (a1, b1) (a2, b2) (a3, b3) ins = some lv ∧ (lv = found.map (fun p => p.2) ∧ found.length = ins.length) := by
  unfold m_two_pumps m_law_run
  simp only [letD, let2]
  refine sim2 (fun (n : Nat) (s' : List Bool × Int × List (List Bool × Int)) (s : List Bool × Int × List Int) => (∃ g h, s.1 = [g, h]) ∧ s'.1 = s.1 ∧ s'.2.1 = s.2.1 ∧ s.2.2 = s'.2.2.map (fun p => p.2) ∧ s'.2.2.length + n = ins.length) ⟨⟨false, false, rfl⟩, rfl, rfl, rfl, by simp⟩ ?_ ?_
  · rintro n ⟨gs, l, fo⟩ ⟨gs', l', fo'⟩ x hx ⟨⟨g, h, e0⟩, e1, e2, e3, e4⟩
    simp only at e0 e1 e2 e3 e4
    subst e0 e1 e2 e3
    have hr : rng 0 ((List.length [[a1, a2, a3], [b1, b2, b3]] : Nat) : Int) = [0, 1] := by rfl
    have hr2 : rngO 0 2 = some [0, 1] := by rfl
    have a0 : ∀ {α : Type} (a b : α) , L2.atI [a, b] 0 = some a := fun a b => rfl
    have a1' : ∀ {α : Type} (a b : α) , L2.atI [a, b] 1 = some b := fun a b => rfl
    have p0 : ∀ (a b c : Int), L2.atI [a, b, c] 0 = some a := fun a b c => rfl
    have p1 : ∀ (a b c : Int), L2.atI [a, b, c] 1 = some b := fun a b c => rfl
    have p2 : ∀ (a b c : Int), L2.atI [a, b, c] 2 = some c := fun a b c => rfl
    have c0 : ∀ a b c : Bool, setO [a, b] 0 c = some [c, b] := fun a b c => rfl
    have c1 : ∀ a b c : Bool, setO [a, b] 1 c = some [a, c] := fun a b c => rfl
    have hg : ∀ (on off : Int) (g b c d : Bool), b = ison l on off g → (if (decide (on ≤ l)) = true then (some [true, c] : Option (List Bool)) else (if (decide (l ≤ off)) = true then some [false, c] else some [g, c])) = some [ison l on off g, c] := fun on off g b c d _ => by
      unfold ison
      by_cases h : on ≤ l <;> by_cases h2 : l ≤ off <;> simp [h, h2]
    have hg0 := fun on off g c => hg on off g _ c c rfl
    have hg1 : ∀ (on off : Int) (g c : Bool), (if (decide (on ≤ l)) = true then (some [c, true] : Option (List Bool)) else (if (decide (l ≤ off)) = true then some [c, false] else some [c, g])) = some [c, ison l on off g] := fun on off g c => by
      unfold ison
      by_cases h : on ≤ l <;> by_cases h2 : l ≤ off <;> simp [h, h2]
    have hl : ∀ (t m : Int) (g : Bool), (if g = true then (some (mx 0 (m - t)) : Option Int) else some m) = some (lev t m g) := fun t m g => by
      unfold lev
      split <;> rfl
    have hl2 : ∀ (t m : Int) (g : Bool), (if g = true then (some (mn t m) : Option Int) else some 0) = some (if g = true then mn t m else 0) := fun t m g => by split <;> rfl
    simp only [hr, hr2, fold, mapMo, Mo.bnd, Mo.pur, a0, a1', p0, p1, p2, c0, c1, Option.bind_some, Option.bind_fun_some, hg0, hg1, hl, ison_eq, hl2, lev_eq]
    refine ⟨_, _, by rw [appO_some (by omega)]; rfl, by rw [appO_some (by simp; omega)]; rfl, ⟨_, _, rfl⟩, rfl, rfl, ?_, ?_⟩
    · simp
    · simp; omega
  · rintro ⟨gs, l, fo⟩ ⟨gs', l', fo'⟩ ⟨_, e1, e2, e3, e4⟩
    exact ⟨_, _, rfl, rfl, e3, by simpa using e4⟩
/-! ### full_by -/
theorem full_ok (first bound : Int) (ins : List Int) (hz : ins.length ≤ 1000) : m_law_is_full_right first ins bound = some true := by
  have key : m_full_by first ins bound = some ((rng 0 ins.length).find? fun x5 => decide (bound < first + (cutP ins none (some (x5 + 1))).sum)) := by
    unfold m_full_by
    simp only [letD]
    have cut : ∀ i : Nat, i < ins.length → cutP ins none (some ((i : Int) + 1)) = ins.take (i + 1) := fun i hi => by
      have e : (i : Int) + 1 = ((i + 1 : Nat) : Int) := by omega
      unfold cutP
      rw [e, HT.sIx_nat, HT.sIx_none, Nat.min_eq_left (by omega)]
      rfl
    have := forE_find (f := fun (s1 : Int) (x2 : Int) => (Option.bind (L2.atI ins x2) fun t3 => (if (decide (bound < s1 + t3)) = true then (some (Sum.inr (some x2))) else (some (Sum.inl (s1 + t3)))))) (j := fun x : Int => some x) (p := fun x5 => decide (bound < first + (cutP ins none (some (x5 + 1))).sum)) (fun (xs : List Int) (s : Int) => ∃ i : Nat, i ≤ ins.length ∧ xs = rng i ins.length ∧ s = first + (ins.take i).sum) (rng 0 ins.length) first ⟨0, by omega, rfl, by simp⟩ ?_
    · obtain ⟨r, h1, h2⟩ := this
      rw [h1]
      revert h2
      cases List.find? (fun x5 => decide (bound < first + (cutP ins none (some (x5 + 1))).sum)) (rng 0 ins.length) with
      | none => rintro ⟨t, rfl⟩; rfl
      | some x => rintro rfl; rfl
    · rintro s x xs' ⟨i, hi, e1, e2⟩
      have hlt : i < ins.length := by
        by_cases h : i < ins.length
        · exact h
        · rw [rng_nil (by omega)] at e1; cases e1
      rw [rng_cons (by omega)] at e1
      obtain ⟨e3, e4⟩ := List.cons.inj e1
      subst e3 e4
      have sm : first + (ins.take (i + 1)).sum = s + ins[i] := by
        rw [e2, List.take_succ, List.getElem?_eq_getElem hlt, Option.toList_some, sum_snoc]
        omega
      have ea : L2.atI ins (i : Int) = some ins[i] := by rw [DL.atI_nat, List.getElem?_eq_getElem hlt]
      simp only [ea, Option.bind_some]
      rw [cut i hlt, sm]
      refine ⟨fun h => by rw [if_pos h], fun h => ?_⟩
      rw [if_neg (by rw [h]; decide)]
      exact ⟨_, rfl, _, rfl, i + 1, by omega, rfl, by omega⟩
  unfold m_law_is_full_right
  simp only [letD, key, Option.bind_some, List.map_id']
  rw [← List.head?_filter]
  cases e : List.filter (fun x5 => decide (bound < first + (cutP ins none (some (x5 + 1))).sum)) (rng 0 ↑ins.length) with
  | nil => simp [isN, dO]
  | cons x r =>
    have h1 : L2.atI (x :: r) 0 = some x := by
      rw [atI_ok (by omega) (by simp)]; rfl
    simp only [h1, Option.bind_some, List.head?_cons, dO]
    rw [if_neg (by simp; omega)]
    exact sameM_ok 10 (.int x) trivial
/-! ### is_told -/
theorem okS_ints : ∀ xs : List Int, xs.length ≤ 1000 → okS 10 (dQ PyData.int xs) := fun xs h => by
  refine ⟨by simp; omega, fun d hd => ?_⟩
  obtain ⟨i, _, rfl⟩ := List.mem_map.mp hd
  exact trivial
theorem told_ok (first on off takes : Int) (ins : List Int) (hz : ins.length ≤ 1000) : m_law_is_told first [on, off, takes] ins = some true := by
  obtain ⟨found, h1, h2, h3⟩ := mm_run first on off takes ins hz
  have hun : un3 [on, off, takes] = some (on, off, takes) := rfl
  have hlv : m_levels_of first on off takes ins = some (found.map fun p => p.2) := by
    unfold m_levels_of
    rw [h1]; rfl
  have hmap : mapMo (μ := Option) (fun (x13 : (List Bool) × Int) => (Option.bind (L2.atI x13.1 (0 : Int)) fun t14 => (some t14))) (found.map fun p => ([p.1], p.2)) = some (found.map fun p => p.1) := by
    rw [mapMo_some (g := fun p : List Bool × Int => p.1.headD false)]
    · rw [List.map_map]; rfl
    · intro x hx
      obtain ⟨p, _, rfl⟩ := List.mem_map.mp hx
      rfl
  have hcat : catO [false] (found.map fun p => p.1) = some ([false] ++ found.map fun p => p.1) := catO_some (by simp; omega)
  generalize hgo : ([false] ++ found.map fun p => p.1) = goes at hcat
  have hgl : goes.length ≤ 1001 := by rw [← hgo]; simp; omega
  have hc : ∀ x ∈ rng 1 (goes.length : Int), (Option.bind (L2.atI goes x) fun t10 => (Option.bind (if t10 = true then (Option.bind (L2.atI goes (x - (1 : Int))) fun t8 => (some (!t8))) else (some false)) fun t9 => (some t9))) = some ((goes[x.toNat]?.getD false) && !(goes[(x - 1).toNat]?.getD false)) := fun x hx => by
    obtain ⟨x0, x1⟩ := mem_rng.mp hx
    rw [atI_ok (by omega) x1, atI_ok (by omega) (by omega), List.getElem?_eq_getElem (by omega), List.getElem?_eq_getElem (by omega)]
    simp only [Option.bind_some, Option.getD_some]
    cases goes[x.toNat]'(by omega) <;> simp
  have hst : m_starts_of first on off takes ins = some (((rng 1 (goes.length : Int)).filter fun x => (goes[x.toNat]?.getD false) && !(goes[(x - 1).toNat]?.getD false)).length : Int) := by
    unfold m_starts_of
    simp only [h1, hcat, Option.bind_some, letD]
    rw [mapFM_some (p := fun x => (goes[x.toNat]?.getD false) && !(goes[(x - 1).toNat]?.getD false)) (g := fun _ => 1) _ hc (fun _ _ _ => rfl)]
    simp
  have hmg : m_minutes_going first on off takes ins = some ((goes.filter fun x => x).length : Int) := by
    unfold m_minutes_going
    rw [h1, ← hgo]
    simp only [Option.bind_some]
    congr 1
    simp [List.filter_map, Function.comp_def]
  unfold m_law_is_told
  have hrun : (List.map (fun (x18 : (List Bool) × Int) => x18.2) (found.map fun p => ([p.1], p.2))) = found.map fun p => p.2 := by rw [List.map_map]; rfl
  simp only [hun, h2, hlv, hrun, hmap, hcat, hst, hmg, Option.bind_some, letD, List.map_id']
  have s1 : m_law_same RN (dQ PyData.int (found.map fun p => p.2)) (dQ PyData.int (found.map fun p => p.2)) = some true := sameM_ok 10 _ (okS_ints _ (by simp; omega))
  have s2 : ∀ i : Int, m_law_same RN (PyData.int i) (PyData.int i) = some true := fun i => sameM_ok 10 _ trivial
  rw [mapFM_some (p := fun x => (goes[x.toNat]?.getD false) && !(goes[(x - 1).toNat]?.getD false)) (g := fun x => x) _ hc (fun _ _ _ => rfl)]
  simp only [s1, s2, Option.bind_some, List.map_id']
  rfl
/-! ### least_takes -/
theorem least_ok (first on off x2 bound : Int) (ins : List Int) (hz : ins.length ≤ 1000) (h0 : 0 ≤ first) (hi : ∀ i ∈ ins, (0 : Int) ≤ i) : m_law_is_least_right first (on, off, x2) ins bound = some true := by
  have hs : 0 ≤ ins.sum := by
    clear hz
    induction ins with
    | nil => simp
    | cons x r ih =>
      rw [List.sum_cons]
      have := ih fun i q => hi i (List.mem_cons_of_mem _ q)
      have := hi x (List.mem_cons_self ..)
      omega
  have hq : ∃ q : Int → Bool, (∀ t, ∃ run lv, m_law_run first [[on, off, t]] ins = some run ∧ m_levels_of first on off t ins = some lv ∧ m_stays_under lv bound = some (q t) ∧ (decide (((List.filter (fun (x3 : (List Bool) × Int) => (decide (bound < x3.2))) run).length : Int) = 0)) = q t) := by
    refine ⟨fun t => ((m_levels_of first on off t ins).getD []).all fun l => decide (l ≤ bound), fun t => ?_⟩
    obtain ⟨found, h1, h2, h3⟩ := mm_run first on off t ins hz
    have hlv : m_levels_of first on off t ins = some (found.map fun p => p.2) := by
      unfold m_levels_of
      rw [h1]; rfl
    refine ⟨_, _, h2, hlv, ?_, ?_⟩
    · show m_stays_under _ bound = some (((m_levels_of first on off t ins).getD []).all fun l => decide (l ≤ bound))
      rw [hlv]
      unfold m_stays_under
      simp
    · show _ = (((m_levels_of first on off t ins).getD []).all fun l => decide (l ≤ bound))
      rw [hlv]
      simp only [Option.getD_some]
      rw [Bool.eq_iff_iff, decide_eq_true_iff, List.all_eq_true]
      constructor
      · intro h l hl
        obtain ⟨p, hp, rfl⟩ := List.mem_map.mp hl
        have e := List.eq_nil_of_length_eq_zero (Int.ofNat.inj h)
        have := List.filter_eq_nil_iff.mp e ([p.1], p.2) (List.mem_map.mpr ⟨p, hp, rfl⟩)
        simpa using this
      · intro h
        rw [List.filter_eq_nil_iff.mpr]
        · rfl
        · intro x hx
          obtain ⟨p, hp, rfl⟩ := List.mem_map.mp hx
          have := h p.2 (List.mem_map.mpr ⟨p, hp, rfl⟩)
          simpa using this
  obtain ⟨q, hq⟩ := hq
  have em : mn (400 : Int) (first + ins.sum) = mn (ins.sum + first) 400 := by
    unfold mn
    split <;> split <;> omega
  have hm1 : mn (ins.sum + first) 400 ≤ 400 := by unfold mn; split <;> omega
  have hm2 : 0 ≤ mn (ins.sum + first) 400 := by unfold mn; split <;> omega
  generalize hM : mn (ins.sum + first) 400 = M at em hm1 hm2
  have hrg : rngO 0 (M + 1) = some (rng 0 (M + 1)) := rngO_some (by omega) (by omega)
  have htold : m_least_takes first on off ins bound = some ((rng 0 (M + 1)).find? q) := by
    unfold m_least_takes
    simp only [hM, hrg, Option.bind_some]
    have := forE_find (f := fun (s1 : Unit) (x2 : Int) => (Option.bind (m_levels_of first on off x2 ins) fun t4 => (Option.bind (m_stays_under t4 bound) fun t3 => (if t3 = true then (some (Sum.inr (some x2))) else (some (Sum.inl ())))))) (j := fun x : Int => some x) (p := q) (fun _ _ => True) (rng 0 (M + 1)) () trivial ?_
    · obtain ⟨r, h1, h2⟩ := this
      rw [h1]
      revert h2
      cases List.find? q (rng 0 (M + 1)) with
      | none => rintro ⟨t, rfl⟩; rfl
      | some x => rintro rfl; rfl
    · intro s x xs' _
      obtain ⟨run, lv, _, g2, g3, _⟩ := hq x
      rw [g2, Option.bind_some, g3, Option.bind_some]
      exact ⟨fun h => by rw [if_pos h], fun h => by rw [if_neg (by rw [h]; decide)]; exact ⟨_, rfl, _, rfl, trivial⟩⟩
  unfold m_law_is_least_right
  simp only [letD, em, hrg, htold, Option.bind_some]
  rw [fold_first (q := q)]
  · simp only [Option.bind_some, Option.or]
    cases List.find? q (rng 0 (M + 1)) with
    | none => rfl
    | some x =>
      have s2 : m_law_same RN (PyData.int x) (PyData.int x) = some true := sameM_ok 10 _ trivial
      change ((m_law_same RN (PyData.int x) (PyData.int x)).bind fun t9 => some t9) = some true
      rw [s2]
      rfl
  · intro d x hx
    obtain ⟨run, lv, g1, _, _, g4⟩ := hq x
    cases d with
    | some a => simp [isN, dO]
    | none =>
      simp only [isN, dO]
      rw [g1]
      simp only [List.map_id', Option.bind_some, g4]
      cases q x <;> simp
/-! ### the law -/
theorem _root_.DL.w_if {β : Type} {c : Prop} [Decidable c] {m1 m2 : W β} {Q : β → Prop} (h : ¬c) (q : m2.run Q) : (if c then m1 else m2).run Q := by rw [if_neg h]; exact q
theorem pump_ok : m_law_pump.run fun p => p.1.natAbs < 2 ^ 5 ∧ p.2.1.natAbs < 2 ^ 5 ∧ p.2.2.natAbs < 2 ^ 5 := by
  unfold m_law_pump
  refine w_take (by decide) fun a a0 a1 => ?_
  simp only [letD]
  refine w_take (by decide) fun b b0 b1 => w_take (by decide) fun c c0 c1 => ?_
  show (4 + a).natAbs < 2 ^ 5 ∧ (4 + a - 1 - b).natAbs < 2 ^ 5 ∧ c.natAbs < 2 ^ 5
  omega
theorem scaled {xs : List Int} {sc : Int} (hx : ∀ x ∈ xs, x.natAbs < 2 ^ 5) (hs : sc.natAbs < 2 ^ 68) : (mapMo (μ := W) (fun (x : Int) => (Mo.bnd (μ := W) (Mo.lft (mulO x sc)) fun t => (Mo.pur (μ := W) t))) xs) = Mo.lft (some (xs.map fun x => x * sc)) := by
  have : (fun (x : Int) => (Mo.bnd (μ := W) (Mo.lft (mulO x sc)) fun t => (Mo.pur (μ := W) t))) = fun x => Mo.lft ((mulO x sc).bind fun t => some t) := by
    funext x
    rw [← lft_bnd]
    simp only [lft_pur]
  rw [this]
  exact mapMoW_some xs fun x hxs => by rw [mulO_small (j := 4) (k := 67) (hx x hxs) hs]; rfl
theorem law_true (ns : List Int) (hns : ns.length ≤ 63) : (m_law ns).run fun b => b = true := by
  unfold m_law
  refine w_draws (drawsM_ok (by decide) (by decide)) ?_
  refine w_sub (cellM_ok hns) fun c hc => ?_
  have hf : (absI c).fmod (10 ^ 20) = absI c % 10 ^ 20 := Int.fmod_eq_emod_of_nonneg _ (by decide)
  refine w_lft _ (modO_some (by decide)) ?_
  rw [show ((10 : Int) ^ (20 : Int).toNat) = 10 ^ 20 from rfl, hf]
  have l1 := Int.emod_nonneg (absI c) (b := 10 ^ 20) (by decide)
  have l2 := Int.emod_lt_of_pos (absI c) (b := 10 ^ 20) (by decide)
  generalize absI c % 10 ^ 20 = u at l1 l2
  refine w_take (by decide) fun r r0 r1 => ?_
  refine w_lft _ (atI_ok r0 (by simpa using r1)) ?_
  have hsc : 0 ≤ ([1, 1 + u] : List Int)[r.toNat]'(by simp; omega) ∧ (([1, 1 + u] : List Int)[r.toNat]'(by simp; omega)).natAbs < 2 ^ 68 := by
    have : r = 0 ∨ r = 1 := by omega
    rcases this with rfl | rfl
    · exact ⟨(by decide : (0 : Int) ≤ 1), (by decide : (1 : Int).natAbs < 2 ^ 68)⟩
    · show 0 ≤ 1 + u ∧ (1 + u).natAbs < 2 ^ 68
      omega
  generalize ([1, 1 + u] : List Int)[r.toNat]'(by simp; omega) = scale at hsc
  obtain ⟨hs0, hs1⟩ := hsc
  simp only [letD]
  refine w_take (by decide) fun first f0 f1 => ?_
  refine w_sub pump_ok fun pump hp => ?_
  refine w_sub pump_ok fun other ho => ?_
  obtain ⟨p1, p2, p3⟩ := pump
  obtain ⟨o1, o2, o3⟩ := other
  simp only [let3]
  refine w_take (by decide) fun m m0 m1 => ?_
  refine w_lft _ (rngO_some (by omega) (by omega)) ?_
  refine w_sub (w_mapMo (P := fun y : Int => 0 ≤ y ∧ y.natAbs < 2 ^ 5) _ fun x _ => ?_) fun ins hins => ?_
  · refine w_take (by decide) fun a a0 a1 => w_take (by decide) fun b b0 b1 => ?_
    by_cases hb : 0 < b
    · refine w_lft (a * 1) (by rw [show b2n (decide (0 < b)) = 1 by simp [hb, b2n]]; exact mulO_small (j := 4) (k := 1) (by omega) (by decide)) ?_
      show 0 ≤ a * 1 ∧ (a * 1).natAbs < 2 ^ 5
      omega
    · refine w_lft (a * 0) (by rw [show b2n (decide (0 < b)) = 0 by simp [hb, b2n]]; exact mulO_small (j := 4) (k := 1) (by omega) (by decide)) ?_
      show 0 ≤ a * 0 ∧ (a * 0).natAbs < 2 ^ 5
      omega
  obtain ⟨hil, hiv⟩ := hins
  have hil2 : ins.length ≤ 1000 := by rw [hil, rng_len]; omega
  refine w_lft _ (mulO_small (j := 4) (k := 67) (by omega) hs1) ?_
  rw [scaled (by simp; exact hp) hs1]
  refine w_lft _ rfl ?_
  rw [scaled (by simp; exact ho) hs1]
  refine w_lft _ rfl ?_
  rw [scaled (fun x hx => (hiv x hx).2) hs1]
  refine w_lft _ rfl ?_
  simp only [List.map_cons, List.map_nil]
  refine w_lft true (told_ok _ _ _ _ _ (by simpa using hil2)) ?_
  refine w_ite (fun e => absurd e (by decide)) fun _ => ?_
  refine w_sub (P := fun t : Bool => t = false) (w_take (by decide) fun t t0 t1 => w_lft _ (mulO_small (j := 67) (k := 6) hs1 (by omega)) (w_lft true (full_ok _ _ _ (by simpa using hil2)) rfl)) fun t ht => ?_
  subst ht
  refine w_if (by decide) ?_
  obtain ⟨found, lv, g1, g2, g3, g4⟩ := two_run (first * scale) (p1 * scale) (p2 * scale) (p3 * scale) (o1 * scale) (o2 * scale) (o3 * scale) (ins.map fun x => x * scale) (by simpa using hil2)
  refine w_lft _ g1 ?_
  refine w_lft (p1 * scale) rfl (w_lft (o1 * scale) rfl (w_lft (p2 * scale) rfl (w_lft (o2 * scale) rfl (w_lft (p3 * scale) rfl (w_lft (o3 * scale) rfl ?_)))))
  refine w_lft _ g2 ?_
  refine w_lft true (by rw [g3]; exact sameM_ok 10 _ (okS_ints _ (by rw [List.length_map, g4]; simpa using hil2))) ?_
  refine w_if (by decide) ?_
  refine w_take (by decide) fun t t0 t1 => ?_
  refine w_lft true (least_ok _ _ _ _ _ _ ?_ f0 ?_) ?_
  · unfold cutP
    simp
    omega
  · intro i hi
    exact (hiv i (List.mem_of_mem_drop (List.mem_of_mem_take hi))).1
  refine w_if (by decide) ?_
  simp only [lft_pur, lft_bnd, lft_ite]
  exact lft_run true (by decide +kernel) rfl
end K74

open PySem PySem.W PyProof.Rows
set_option maxHeartbeats 0 in
theorem PySem.Challenge.cw_surelyflowed_k74_pumps_and_sumps_holds : PySem.Challenge.rw_surelyflowed_k74_pumps_and_sumps.Holds := by
  w_on; o_law; k_head; (case hw => w_witness2)
  k_fill
  refine L2.walk_of (l := PySem.Challenge.rw_surelyflowed_k74_pumps_and_sumps) (n := 63) (k := 14) (x := "script") (CX := fun _ => L2.CX0) (sp := fun w => DL.spL 63 _) rfl (by decide) rfl ⟨rfl, by decide, by decide⟩ (fun w h Y => PySem.W.kIn_of Y) ?F (fun _ _ a ns hl _ hS => ⟨a, ns, rfl, hS, hl, fun _ => rfl⟩) (fun _ _ _ _ _ h => h)
  case F =>
    intro w mg fa h KX G hmg
    refine' (fun (T : K74.Tp _ _) => DL.law_end (by decide) KX G hmg T.a_law (fun _ _ _ _ _ _ us hl => match us, hl with | [_], _ => rfl) (fun base _ _ => K74.g_law T) (K74.law_true)) ?T
    case T =>
      constructor
      · refine' PySem.W.mg_none_of KX G ?_; k_is
      · refine' PySem.W.mg_none_of KX G ?_; k_is
      · refine' PySem.W.mg_none_of KX G ?_; k_is
      · refine' PySem.W.mg_none_of KX G ?_; k_is
      · refine' PySem.W.mg_none_of KX G ?_; k_is
      · refine' PySem.W.mg_none_of KX G ?_; k_is
      · refine' PySem.W.mg_none_of KX G ?_; k_is
      · refine' PySem.W.mg_none_of KX G ?_; k_is
      · refine' PySem.W.mg_none_of KX G ?_; k_is
      · refine' PySem.W.mg_none_of KX G ?_; k_is
      · refine' PySem.W.mg_none_of KX G ?_; k_is
      · refine' PySem.W.mg_none_of KX G ?_; k_is
      · refine' PySem.W.mg_none_of KX G ?_; k_is
      · refine' DL.c_mk (PySem.W.mg_of KX G ?a) ?b; (case a => k_is); (case b => exact ⟨_, rfl⟩)
      · refine' DL.at_mk KX G ?a ?l ?c ?k (fun _ _ _ _ _ _ us hl => match us, hl with | [_, _, _, _], _ => rfl); (case a => k_is); (case l => k_is); (case c => k_is); (case k => k_is)
      · refine' DL.at_mk KX G ?a ?l ?c ?k (fun _ _ _ _ _ _ us hl => match us, hl with | [_, _, _, _, _], _ => rfl); (case a => k_is); (case l => k_is); (case c => k_is); (case k => k_is)
      · refine' DL.at_mk KX G ?a ?l ?c ?k (fun _ _ _ _ _ _ us hl => match us, hl with | [_, _, _, _, _], _ => rfl); (case a => k_is); (case l => k_is); (case c => k_is); (case k => k_is)
      · refine' DL.at_mk KX G ?a ?l ?c ?k (fun _ _ _ _ _ _ us hl => match us, hl with | [_, _, _, _, _], _ => rfl); (case a => k_is); (case l => k_is); (case c => k_is); (case k => k_is)
      · refine' DL.at_mk KX G ?a ?l ?c ?k (fun _ _ _ _ _ _ us hl => match us, hl with | [_, _, _, _, _], _ => rfl); (case a => k_is); (case l => k_is); (case c => k_is); (case k => k_is)
      · refine' DL.at_mk KX G ?a ?l ?c ?k (fun _ _ _ _ _ _ us hl => match us, hl with | [_, _], _ => rfl); (case a => k_is); (case l => k_is); (case c => k_is); (case k => k_is)
      · refine' DL.at_mk KX G ?a ?l ?c ?k (fun _ _ _ _ _ _ us hl => match us, hl with | [_, _, _, _, _], _ => rfl); (case a => k_is); (case l => k_is); (case c => k_is); (case k => k_is)
      · refine' DL.at_mk KX G ?a ?l ?c ?k (fun _ _ _ _ _ _ us hl => match us, hl with | [_, _, _, _, _], _ => rfl); (case a => k_is); (case l => k_is); (case c => k_is); (case k => k_is)
      · refine' DL.at_mk KX G ?a ?l ?c ?k (fun _ _ _ _ _ _ us hl => match us, hl with | [_, _, _], _ => rfl); (case a => k_is); (case l => k_is); (case c => k_is); (case k => k_is)
      · refine' DL.at_mk KX G ?a ?l ?c ?k (fun _ _ _ _ _ _ us hl => match us, hl with | [_, _], _ => rfl); (case a => k_is); (case l => k_is); (case c => k_is); (case k => k_is)
      · refine' DL.at_mk KX G ?a ?l ?c ?k (fun _ _ _ _ _ _ us hl => match us, hl with | [_, _], _ => rfl); (case a => k_is); (case l => k_is); (case c => k_is); (case k => k_is)
      · refine' DL.at_mk KX G ?a ?l ?c ?k (fun _ _ _ _ _ _ us hl => match us, hl with | [_, _], _ => rfl); (case a => k_is); (case l => k_is); (case c => k_is); (case k => k_is)
      · refine' DL.at_mk KX G ?a ?l ?c ?k (fun _ _ _ _ _ _ us hl => match us, hl with | [_, _], _ => rfl); (case a => k_is); (case l => k_is); (case c => k_is); (case k => k_is)
      · refine' DL.at_mk KX G ?a ?l ?c ?k (fun _ _ _ _ _ _ us hl => match us, hl with | [_, _, _], _ => rfl); (case a => k_is); (case l => k_is); (case c => k_is); (case k => k_is)
      · refine' DL.at_mk KX G ?a ?l ?c ?k (fun _ _ _ _ _ _ us hl => match us, hl with | [_], _ => rfl); (case a => k_is); (case l => k_is); (case c => k_is); (case k => k_is)
      · refine' DL.at_mk KX G ?a ?l ?c ?k (fun _ _ _ _ _ _ us hl => match us, hl with | [_, _, _], _ => rfl); (case a => k_is); (case l => k_is); (case c => k_is); (case k => k_is)
      · refine' DL.at_mk KX G ?a ?l ?c ?k (fun _ _ _ _ _ _ us hl => match us, hl with | [_, _, _, _], _ => rfl); (case a => k_is); (case l => k_is); (case c => k_is); (case k => k_is)
      · refine' DL.at_mk KX G ?a ?l ?c ?k (fun _ _ _ _ _ _ us hl => match us, hl with | [_, _, _], _ => rfl); (case a => k_is); (case l => k_is); (case c => k_is); (case k => k_is)
      · refine' DL.at_mk KX G ?a ?l ?c ?k (fun _ _ _ _ _ _ us hl => match us, hl with | [_], _ => rfl); (case a => k_is); (case l => k_is); (case c => k_is); (case k => k_is)
