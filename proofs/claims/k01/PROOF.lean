import PyProof.Rows.All
import Wide.All
import OpenK.AllK
import Wide.FinOn
import HandS.ForMost
import HandS.Exc
import HandS.CallSlots
import HandS.Defaults
import HandS.Small
import HandS.Wide
import HandS.IsInst
import HandS.Style
import HandS.TupMul
import HandS.ExcOwn
import HandS.WordsExc
import HandS.RaiseMore
import PyProof.StrLawsRepr
import PyProof.ReprLen
import PySem.Challenge.RW_frontnest_k01_names_and_depths
set_option Elab.async false
set_option linter.all false
set_option maxRecDepth 100000
set_option maxHeartbeats 4000000
/-! DL: data instead of heaps. A value stands for a datum over a frozen part F of the heap; a slot may own an object that is not frozen. -/
namespace DL
open PySem PySem.Spec PyProof.Rows L2

inductive D where
  | non | bl (b : Bool) | int (i : Int) | str (x : Str) | ty (n : String) | con (a : Addr)
  | tup (ds : List D) | lst (ds : List D) | ro (ds : List D) | dct (ks : List Key) (ds : List D) | obj (C : Addr) (fs : List Str) (ds : List D)

section
variable (K : PySem.W.Frag) (F : Hp)
mutual
inductive Dat : V → D → Prop
  | non : Dat .non .non
  | bl (b : Bool) : Dat (.bl b) (.bl b)
  | int (i : Int) : Dat (.int i) (.int i)
  | str (x : Str) : Dat (.str x) (.str x)
  | ty (n : String) : Dat (.ty n) (.ty n)
  | con (a : Addr) : Dat (.ref a) (.con a)
  | tup {a : Addr} {xs : List V} {ds : List D} : SqT K F a xs → DatL xs ds → Dat (.ref a) (.tup ds)
  | lst {a : Addr} {xs : List V} {ds : List D} : F a = some (.lst xs) → DatL xs ds → Dat (.ref a) (.lst ds)
  | ro {a : Addr} {xs : List V} {ds : List D} : SqL K F a xs → DatL xs ds → Dat (.ref a) (.ro ds)
  | dct {a : Addr} {kvs : List (Key × V)} {ds : List D} : Rd F a (.dK kvs) → DatL (kvs.map (·.2)) ds → Dat (.ref a) (.dct (kvs.map (·.1)) ds)
  | obj {a C dx : Addr} {fvs : List (Str × V)} {ds : List D} : F a = some (.ins C dx fvs) → DatL (fvs.map (·.2)) ds → Dat (.ref a) (.obj C (fvs.map (·.1)) ds)
inductive DatL : List V → List D → Prop
  | nil : DatL [] []
  | cons {x : V} {d : D} {xs : List V} {ds : List D} : Dat x d → DatL xs ds → DatL (x :: xs) (d :: ds)
end
end

theorem Same.seqT {K : PySem.W.Frag} {H H' : Hp} {a : Addr} {xs : List V} (e : Same H H') (h : SqT K H a xs) : SqT K H' a xs := by
  rcases h with (h | ⟨o, h⟩) | h
  · exact .inl (.inl (e _ _ h))
  · exact .inl (.inr ⟨o, e _ _ h⟩)
  · exact .inr h
theorem Same.rd {H H' : Hp} {a : Addr} {u : HO} (e : Same H H') (h : Rd H a u) : Rd H' a u := by
  rcases h with h | ⟨o, h⟩
  · exact .inl (e _ _ h)
  · exact .inr ⟨o, e _ _ h⟩
section
variable {K : PySem.W.Frag} {F F' H H' : Hp}
mutual
theorem Dat.mono (s : Same F F') : ∀ {v : V} {d : D}, Dat K F v d → Dat K F' v d
  | _, _, .non => .non
  | _, _, .bl b => .bl b
  | _, _, .int i => .int i
  | _, _, .str x => .str x
  | _, _, .ty n => .ty n
  | _, _, .con a => .con a
  | _, _, .tup h l => .tup (Same.seqT s h) (DatL.mono s l)
  | _, _, .lst h l => .lst (s _ _ h) (DatL.mono s l)
  | _, _, .ro h l => .ro (s.seq h) (DatL.mono s l)
  | _, _, .dct h l => .dct (Same.rd s h) (DatL.mono s l)
  | _, _, .obj h l => .obj (s _ _ h) (DatL.mono s l)
theorem DatL.mono (s : Same F F') : ∀ {vs : List V} {ds : List D}, DatL K F vs ds → DatL K F' vs ds
  | _, _, .nil => .nil
  | _, _, .cons h l => .cons (Dat.mono s h) (DatL.mono s l)
end
theorem DatL.len : ∀ {vs : List V} {ds : List D}, DatL K F vs ds → vs.length = ds.length
  | _, _, .nil => rfl
  | _, _, .cons _ t => by simp [DatL.len t]
theorem DatL.get : ∀ {vs : List V} {ds : List D} {i : Nat} {d : D}, DatL K F vs ds → ds[i]? = some d → ∃ v, vs[i]? = some v ∧ Dat K F v d
  | _, _, _, _, .nil, e => by simp at e
  | _, _, 0, _, .cons r _, e => by simp at e; subst e; exact ⟨_, rfl, r⟩
  | _, _, i + 1, _, .cons _ t, e => by
    obtain ⟨v, h1, h2⟩ := DatL.get (i := i) t (by simpa using e)
    exact ⟨v, by simpa using h1, h2⟩
theorem DatL.getV : ∀ {vs : List V} {ds : List D} {i : Nat} {v : V}, DatL K F vs ds → vs[i]? = some v → ∃ d, ds[i]? = some d ∧ Dat K F v d
  | _, _, _, _, .nil, e => by simp at e
  | _, _, 0, _, .cons r _, e => by simp at e; subst e; exact ⟨_, rfl, r⟩
  | _, _, i + 1, _, .cons _ t, e => by
    obtain ⟨v, h1, h2⟩ := DatL.getV (i := i) t (by simpa using e)
    exact ⟨v, by simpa using h1, h2⟩
theorem DatL.app : ∀ {vs ws : List V} {ds es : List D}, DatL K F vs ds → DatL K F ws es → DatL K F (vs ++ ws) (ds ++ es)
  | _, _, _, _, .nil, s => s
  | _, _, _, _, .cons r t, s => .cons r (DatL.app t s)
theorem DatL.set : ∀ {vs : List V} {ds : List D} {v : V} {d : D} (i : Nat), DatL K F vs ds → Dat K F v d → DatL K F (vs.set i v) (ds.set i d)
  | _, _, _, _, _, .nil, _ => .nil
  | _, _, _, _, 0, .cons _ t, r => .cons r t
  | _, _, _, _, i + 1, .cons q t, r => .cons q (DatL.set i t r)
theorem DatL.take : ∀ {vs : List V} {ds : List D} (n : Nat), DatL K F vs ds → DatL K F (vs.take n) (ds.take n)
  | _, _, 0, _ => .nil
  | _, _, _ + 1, .nil => .nil
  | _, _, n + 1, .cons r t => .cons r (DatL.take n t)
theorem DatL.drop : ∀ {vs : List V} {ds : List D} (n : Nat), DatL K F vs ds → DatL K F (vs.drop n) (ds.drop n)
  | _, _, 0, r => r
  | _, _, _ + 1, .nil => .nil
  | _, _, n + 1, .cons _ t => DatL.drop n t
theorem DatL.rev : ∀ {vs : List V} {ds : List D}, DatL K F vs ds → DatL K F vs.reverse ds.reverse
  | _, _, .nil => .nil
  | _, _, .cons r t => by
    rw [List.reverse_cons, List.reverse_cons]
    exact DatL.app (DatL.rev t) (.cons r .nil)
theorem DatL.single {v : V} {d : D} (h : Dat K F v d) : DatL K F [v] [d] := .cons h .nil
end

/-! ### slots -/
inductive Ow where | frz | own | lent
  deriving DecidableEq
structure Sl where
  d : D
  k : Ow
abbrev Dl := List (Option Sl)

section
variable (K : PySem.W.Frag) (F H : Hp)
def OwnAt (a : Addr) : D → Prop
  | .lst ds => ∃ xs, H a = some (.lst xs) ∧ DatL K F xs ds
  | .dct ks ds => ∃ kvs, H a = some (.dK kvs) ∧ kvs.map (·.1) = ks ∧ DatL K F (kvs.map (·.2)) ds
  | .obj C fs ds => ∃ dx fvs, H a = some (.ins C dx fvs) ∧ fvs.map (·.1) = fs ∧ DatL K F (fvs.map (·.2)) ds
  | _ => False
def SlV (v : V) (s : Sl) : Prop := match s.k with
  | .frz => Dat K F v s.d
  | _ => ∃ a, v = .ref a ∧ F a = none ∧ OwnAt K F H a s.d
end

/-- address a is what slot i owns -/
def OwnsI (σ : L2.St) (δ : Dl) (i : Nat) (a : Addr) : Prop := ∃ s : Sl, δ[i]? = some (some s) ∧ s.k ≠ .frz ∧ σ[i]? = some (some (.ref a))
def Owned (σ : L2.St) (δ : Dl) (a : Addr) : Prop := ∃ i, OwnsI σ δ i a
/-- owned and not lent -/
def Mine (σ : L2.St) (δ : Dl) (a : Addr) : Prop := ∃ (i : Nat) (s : Sl), δ[i]? = some (some s) ∧ s.k = .own ∧ σ[i]? = some (some (.ref a))

structure SR (K : PySem.W.Frag) (F H : Hp) (σ : L2.St) (δ : Dl) : Prop where
  ex : Same F H
  sl : ∀ (i : Nat) (s : Sl), δ[i]? = some (some s) → ∃ x, σ[i]? = some (some x) ∧ SlV K F H x s
  inj : ∀ i j a, OwnsI σ δ i a → OwnsI σ δ j a → i = j
  len : σ.length = δ.length

/-- from one state to a later one -/
structure Step (σ : L2.St) (δ : Dl) (F H : Hp) (σ' : L2.St) (δ' : Dl) (F' H' : Hp) : Prop where
  exF : Same F F'
  keep : ∀ a o, H a = some o → ¬ Owned σ δ a → H' a = some o ∧ (F a = none → F' a = none)
  own : ∀ a, Mine σ' δ' a → Mine σ δ a ∨ H a = none
  lent : ∀ (i : Nat) (s : Sl), δ'[i]? = some (some s) → s.k = .lent → σ'[i]? = σ[i]? ∧ ∃ s0, δ[i]? = some (some s0) ∧ s0.k = .lent
  dom : ∀ a o, H a = some o → ∃ o', H' a = some o'

theorem Owned.cases {σ : L2.St} {δ : Dl} {a : Addr} (h : Owned σ δ a) : Mine σ δ a ∨ ∃ (i : Nat) (s : Sl), δ[i]? = some (some s) ∧ s.k = .lent ∧ σ[i]? = some (some (.ref a)) := by
  obtain ⟨i, s, h1, h2, h3⟩ := h
  cases hk : s.k with
  | frz => exact absurd hk h2
  | own => exact .inl ⟨i, s, h1, hk, h3⟩
  | lent => exact .inr ⟨i, s, h1, hk, h3⟩
theorem Mine.owned {σ : L2.St} {δ : Dl} {a : Addr} (h : Mine σ δ a) : Owned σ δ a := by
  obtain ⟨i, s, h1, h2, h3⟩ := h
  exact ⟨i, s, h1, by rw [h2]; decide, h3⟩
section
variable {σ σ1 σ2 : L2.St} {δ δ1 δ2 : Dl} {F F1 F2 H H1 H2 : Hp}
theorem Step.refl : Step σ δ F H σ δ F H := ⟨fun _ _ h => h, fun _ _ h _ => ⟨h, fun n => n⟩, fun _ h => .inl h, fun i s h1 h2 => ⟨rfl, s, h1, h2⟩, fun a o h => ⟨o, h⟩⟩
theorem Step.owned (p : Step σ δ F H σ1 δ1 F1 H1) {a : Addr} (h : Owned σ1 δ1 a) : Owned σ δ a ∨ H a = none := by
  rcases h.cases with h | ⟨i, s, h1, h2, h3⟩
  · rcases p.own a h with h | h
    · exact .inl h.owned
    · exact .inr h
  · obtain ⟨e, s0, g1, g2⟩ := p.lent i s h1 h2
    exact .inl ⟨i, s0, g1, by rw [g2]; decide, e ▸ h3⟩
theorem Step.trans (p : Step σ δ F H σ1 δ1 F1 H1) (q : Step σ1 δ1 F1 H1 σ2 δ2 F2 H2) : Step σ δ F H σ2 δ2 F2 H2 where
  exF := p.exF.trans q.exF
  keep := fun a o h n => by
    obtain ⟨h1, n1⟩ := p.keep a o h n
    obtain ⟨h2, n2⟩ := q.keep a o h1 fun ow => by
      rcases p.owned ow with z | z
      · exact n z
      · rw [z] at h; cases h
    exact ⟨h2, fun z => n2 (n1 z)⟩
  own := fun a h => by
    rcases q.own a h with h | h
    · exact p.own a h
    · cases e : H a with
      | none => exact .inr rfl
      | some o =>
        obtain ⟨o', e'⟩ := p.dom a o e
        rw [h] at e'; cases e'
  lent := fun i s h1 h2 => by
    obtain ⟨e, s0, g1, g2⟩ := q.lent i s h1 h2
    obtain ⟨e', s1, g3, g4⟩ := p.lent i s0 g1 g2
    exact ⟨e.trans e', s1, g3, g4⟩
  dom := fun a o h => by
    obtain ⟨o', h'⟩ := p.dom a o h
    exact q.dom a o' h'
end

/-! ### results -/
structure Exc where
  C : Addr
  fs : List Str
  ds : List D
inductive Res (α : Type) where
  | ok (a : α) (δ : Dl)
  | exc (x : Exc) (δ : Dl)
  | stuck
abbrev DM (α : Type) := Dl → Res α
def DM.pure {α : Type} (a : α) : DM α := fun δ => .ok a δ
def DM.bind {α β : Type} (m : DM α) (f : α → DM β) : DM β := fun δ => match m δ with
  | .ok a δ' => f a δ'
  | .exc x δ' => .exc x δ'
  | .stuck => .stuck
def DM.stop {α : Type} : DM α := fun _ => .stuck
instance : Monad DM where
  pure := DM.pure
  bind := DM.bind
theorem bind_def {α β : Type} (m : DM α) (f : α → DM β) (δ : Dl) : (m >>= f) δ = match m δ with
  | .ok a δ' => f a δ'
  | .exc x δ' => .exc x δ'
  | .stuck => .stuck := rfl
theorem pure_def {α : Type} (a : α) (δ : Dl) : (pure a : DM α) δ = .ok a δ := rfl
def DM.lift {α : Type} (o : Option α) : DM α := fun δ => match o with
  | some a => .ok a δ
  | none => .stuck

inductive RV where
  | frz (d : D) | slot (i : Nat) | own (d : D)

/-- a result's value, over the heap H0 ahead -/
def VR (K : PySem.W.Frag) (H0 F H : Hp) (σ : L2.St) (δ : Dl) (v : V) : RV → Prop
  | .frz d => Dat K F v d
  | .slot i => σ[i]? = some (some v) ∧ ∃ s, δ[i]? = some (some s) ∧ s.k ≠ .frz
  | .own d => ∃ p, v = .ref p ∧ H0 p = none ∧ F p = none ∧ OwnAt K F H p d ∧ ¬ Owned σ δ p
/-- an exception's own dict -/
def XR (F : Hp) (K : PySem.W.Frag) (d : Addr) (x : Exc) : Prop := ∃ fvs : List (Str × V), F d = some (.xd fvs) ∧ fvs.map (·.1) = x.fs ∧ DatL K F (fvs.map (·.2)) x.ds

/-- a reading by a denotation; R: what a result's value must be -/
def tG {α β : Type} (K : PySem.W.Frag) (W : WX) (R : Hp → Hp → Hp → L2.St → Dl → β → α → Prop) (m : DM α) : L2.St → Hp → (β → Hp → Prop) → Prop := fun σ H Q => ∃ F δ, SR K F H σ δ ∧ match m δ with
  | .ok r δ' => ∀ v F' H', Step σ δ F H σ δ' F' H' → SR K F' H' σ δ' → R H F' H' σ δ' v r → Q v H'
  | .exc x δ' => ∀ F' H' d, Step σ δ F H σ δ' F' H' → SR K F' H' σ δ' → XR F' K d x → W (.ref x.C) (some d) σ H'
  | .stuck => False
abbrev tD (K : PySem.W.Frag) (W : WX) (m : DM RV) : TE := tG K W (VR K) m
abbrev tF (K : PySem.W.Frag) (W : WX) (m : DM D) : TE := tG K W (fun _ F' _ _ _ v d => Dat K F' v d) m
abbrev PD (X : Cx) (W : WX) (e : Expr) (m : DM RV) : Prop := PE X e (tD X.K W m)
abbrev PF (X : Cx) (W : WX) (e : Expr) (m : DM D) : Prop := PE X e (tF X.K W m)

theorem pe_imp {X : Cx} {e : Expr} {t t' : TE} (h : PE X e t) (hi : ∀ σ H Q, t' σ H Q → t σ H Q) : PE X e t' :=
  ⟨fun pins s σ H Q I q => h.run pins s σ H Q I (hi σ H Q q)⟩

/-! ### freezing -/
def frzR : RV → DM D
  | .frz d => DM.pure d
  | .own d => DM.pure d
  | .slot i => fun δ => match δ[i]? with
    | some (some s) => .ok s.d (δ.set i (some ⟨s.d, .frz⟩))
    | _ => .stuck
def dFrz (m : DM RV) : DM D := m >>= frzR

section
variable {K : PySem.W.Frag} {F H F' H' : Hp} {σ : L2.St} {δ : Dl}
/-- the owned thing at a, frozen -/
theorem OwnAt.freeze {a : Addr} {d : D} (h : OwnAt K F H a d) (n : F a = none) (ex : Same F H) : ∃ o, H a = some o ∧ Dat K (upd F a o) (.ref a) d ∧ Same F (upd F a o) ∧ Same (upd F a o) H := by
  have key : ∀ o, H a = some o → Same F (upd F a o) ∧ Same (upd F a o) H := fun o e => by
    refine ⟨fun b u q => ?_, fun b u q => ?_⟩
    · rw [upd_ne (ne_of_none q n)]; exact q
    · by_cases hb : b = a
      · subst hb; rw [upd_same] at q; cases q; exact e
      · rw [upd_ne hb] at q; exact ex _ _ q
  cases d with
  | lst ds =>
    obtain ⟨xs, e, l⟩ := h
    obtain ⟨k1, k2⟩ := key _ e
    exact ⟨_, e, .lst upd_same (l.mono k1), k1, k2⟩
  | dct ks ds =>
    obtain ⟨kvs, e, rfl, l⟩ := h
    obtain ⟨k1, k2⟩ := key _ e
    exact ⟨_, e, .dct (.inl upd_same) (l.mono k1), k1, k2⟩
  | obj C fs ds =>
    obtain ⟨dx, fvs, e, rfl, l⟩ := h
    obtain ⟨k1, k2⟩ := key _ e
    exact ⟨_, e, .obj upd_same (l.mono k1), k1, k2⟩
  | _ => exact h.elim

theorem OwnAt.mono {a : Addr} {d : D} (h : OwnAt K F H a d) (s : Same F F') (e : H' a = H a) : OwnAt K F' H' a d := by
  cases d with
  | lst ds =>
    obtain ⟨xs, q, l⟩ := h
    exact ⟨xs, e.trans q, l.mono s⟩
  | dct ks ds =>
    obtain ⟨kvs, q, r, l⟩ := h
    exact ⟨kvs, e.trans q, r, l.mono s⟩
  | obj C fs ds =>
    obtain ⟨dx, fvs, q, r, l⟩ := h
    exact ⟨dx, fvs, e.trans q, r, l.mono s⟩
  | _ => exact h.elim
theorem OwnAt.some {a : Addr} {d : D} (h : OwnAt K F H a d) : ∃ o, H a = some o := by
  cases d with
  | lst ds => obtain ⟨xs, q, l⟩ := h; exact ⟨_, q⟩
  | dct ks ds => obtain ⟨kvs, q, r, l⟩ := h; exact ⟨_, q⟩
  | obj C fs ds => obtain ⟨dx, fvs, q, r, l⟩ := h; exact ⟨_, q⟩
  | _ => exact h.elim
theorem SlV.mono {v : V} {s : Sl} (h : SlV K F H v s) (sF : Same F F') (e : ∀ a, v = .ref a → s.k ≠ .frz → H' a = H a ∧ (F a = none → F' a = none)) : SlV K F' H' v s := by
  obtain ⟨d, k⟩ := s
  cases k with
  | frz => exact Dat.mono sF h
  | own =>
    obtain ⟨a, rfl, n, o⟩ := h
    obtain ⟨e1, e2⟩ := e a rfl (by intro z; cases z)
    exact ⟨a, rfl, e2 n, o.mono sF e1⟩
  | lent =>
    obtain ⟨a, rfl, n, o⟩ := h
    obtain ⟨e1, e2⟩ := e a rfl (by intro z; cases z)
    exact ⟨a, rfl, e2 n, o.mono sF e1⟩
theorem SlV.own {v : V} {s : Sl} (h : SlV K F H v s) (n : s.k ≠ .frz) : ∃ a, v = .ref a ∧ F a = none ∧ OwnAt K F H a s.d := by
  obtain ⟨d, k⟩ := s
  cases k with
  | frz => exact absurd rfl n
  | own => exact h
  | lent => exact h
theorem SlV.frz {v : V} {s : Sl} (h : SlV K F H v s) (n : s.k = .frz) : Dat K F v s.d := by
  obtain ⟨d, k⟩ := s
  cases n
  exact h

theorem get_set_some {α : Type} {l : List α} {i j : Nat} {x y : α} (h : (l.set i x)[j]? = some y) : (i = j ∧ y = x) ∨ (i ≠ j ∧ l[j]? = some y) := by
  rw [List.getElem?_set] at h
  split at h
  · rename_i e
    split at h
    · cases h; exact .inl ⟨e, rfl⟩
    · cases h
  · rename_i e
    exact .inr ⟨e, h⟩

/-- slot i is given another datum, of the same kind or frozen: what is owned does not grow -/
theorem OwnsI.of_set {i : Nat} {s0 s : Sl} (h0 : δ[i]? = some (some s0)) (hk : s.k ≠ .frz → s0.k ≠ .frz) {j : Nat} {a : Addr} (h : OwnsI σ (δ.set i (some s)) j a) : OwnsI σ δ j a := by
  obtain ⟨t, h1, h2, h3⟩ := h
  rcases get_set_some h1 with ⟨rfl, e⟩ | ⟨_, e⟩
  · cases e
    exact ⟨s0, h0, hk h2, h3⟩
  · exact ⟨t, e, h2, h3⟩

theorem SR.freeze (r : SR K F H σ δ) {i : Nat} {s : Sl} (h : δ[i]? = some (some s)) (hk : s.k ≠ .frz) {v : V} (hv : σ[i]? = some (some v)) :
    ∃ F', SR K F' H σ (δ.set i (some ⟨s.d, .frz⟩)) ∧ Step σ δ F H σ (δ.set i (some ⟨s.d, .frz⟩)) F' H ∧ Dat K F' v s.d := by
  obtain ⟨x, e, q⟩ := r.sl i s h
  rw [hv] at e; cases e
  obtain ⟨a, rfl, n, ow⟩ := q.own hk
  obtain ⟨o, ho, hd, k1, k2⟩ := ow.freeze n r.ex
  have own' : ∀ j b, OwnsI σ (δ.set i (some ⟨s.d, .frz⟩)) j b → OwnsI σ δ j b ∧ j ≠ i := fun j b z => by
    refine ⟨OwnsI.of_set h (fun z => absurd rfl z) z, ?_⟩
    rintro rfl
    obtain ⟨t, h1, h2, h3⟩ := z
    rcases get_set_some h1 with ⟨_, e⟩ | ⟨ne, _⟩
    · cases e; exact h2 rfl
    · exact ne rfl
  refine ⟨upd F a o, ⟨k2, fun j t ht => ?_, fun j l b h1 h2 => r.inj j l b (own' j b h1).1 (own' l b h2).1, by rw [List.length_set]; exact r.len⟩, ⟨k1, fun b u hb nb => ⟨hb, fun z => ?_⟩, fun b hb => .inl ?_, fun j t h1 h2 => ?_, fun b u hb => ⟨u, hb⟩⟩, hd⟩
  · rcases get_set_some ht with ⟨rfl, e⟩ | ⟨ne, e⟩
    · cases e
      exact ⟨_, hv, hd⟩
    · obtain ⟨x, e1, q1⟩ := r.sl j t e
      refine ⟨x, e1, q1.mono k1 fun b eb hk' => ⟨rfl, fun z => ?_⟩⟩
      subst eb
      have : b ≠ a := fun e2 => by
        subst e2
        exact ne (r.inj i j b ⟨s, h, hk, hv⟩ ⟨t, e, hk', e1⟩)
      rw [upd_ne this]; exact z
  · have : b ≠ a := fun e2 => by
      subst e2
      exact nb ⟨i, s, h, hk, hv⟩
    rw [upd_ne this]; exact z
  · obtain ⟨j, t, h1, h2, h3⟩ := hb
    rcases get_set_some h1 with ⟨rfl, e⟩ | ⟨ne, e⟩
    · cases e; cases h2
    · exact ⟨j, t, e, h2, h3⟩
  · rcases get_set_some h1 with ⟨rfl, e⟩ | ⟨ne, e⟩
    · cases e; cases h2
    · exact ⟨rfl, t, e, h2⟩

/-- a result made frozen -/
theorem SR.frzR {σ0 : L2.St} {δ0 : Dl} {F0 H0 : Hp} (p0 : Step σ0 δ0 F0 H0 σ δ F H) (r : SR K F H σ δ) {v : V} {x : RV} (h : VR K H0 F H σ δ v x) : ∃ d δ' F', DL.frzR x δ = .ok d δ' ∧ SR K F' H σ δ' ∧ Step σ0 δ0 F0 H0 σ δ' F' H ∧ Dat K F' v d := by
  cases x with
  | frz d => exact ⟨d, δ, F, rfl, r, p0, h⟩
  | slot i =>
    obtain ⟨hv, s, hs, hk⟩ := h
    obtain ⟨F', r', p, hd⟩ := r.freeze hs hk hv
    refine ⟨s.d, _, F', ?_, r', p0.trans p, hd⟩
    unfold DL.frzR
    simp only [hs]
  | own d =>
    obtain ⟨p, rfl, hp, n, ow, no⟩ := h
    obtain ⟨o, ho, hd, k1, k2⟩ := ow.freeze n r.ex
    have hu : ∀ b, b ≠ p → upd F p o b = F b := fun b q => upd_ne q
    refine ⟨d, δ, upd F p o, rfl, ⟨k2, fun j t ht => ?_, r.inj, r.len⟩, ⟨p0.exF.trans k1, fun b u hb nb => ⟨(p0.keep b u hb nb).1, fun z => ?_⟩, p0.own, p0.lent, p0.dom⟩, hd⟩
    · obtain ⟨x, e1, q1⟩ := r.sl j t ht
      refine ⟨x, e1, q1.mono k1 fun b eb hk' => ⟨rfl, fun z => ?_⟩⟩
      subst eb
      have : b ≠ p := fun e2 => by
        subst e2
        exact no ⟨j, t, ht, hk', e1⟩
      rw [upd_ne this]; exact z
    · rw [hu b (ne_of_none hb hp)]
      exact (p0.keep b u hb nb).2 z
end

section
variable {K : PySem.W.Frag} {W : WX}
/-- from a result to a frozen one -/
theorem tF_of {m : DM RV} {σ : L2.St} {H : Hp} {Q : VK} (h : tF K W (dFrz m) σ H Q) : tD K W m σ H Q := by
  obtain ⟨F, δ, r, h⟩ := h
  refine ⟨F, δ, r, ?_⟩
  unfold dFrz at h
  rw [bind_def] at h
  cases hm : m δ with
  | ok x δ' =>
    rw [hm] at h
    intro v F' H' p r' hv
    obtain ⟨d, δ2, F2, e, r2, p2, hd⟩ := SR.frzR p r' hv
    simp only [e] at h
    exact h v F2 H' p2 r2 hd
  | exc x δ' => rw [hm] at h; exact h
  | stuck => rw [hm] at h; exact h
theorem pf_of {X : Cx} {e : Expr} {m : DM RV} (h : PD X W e m) : PF X W e (dFrz m) := pe_imp h fun _ _ _ q => tF_of q
/-- a frozen one is a result -/
theorem pd_of {X : Cx} {e : Expr} {m : DM D} (h : PF X W e m) : PD X W e (RV.frz <$> m) := pe_imp h fun σ H Q ⟨F, δ, r, q⟩ => by
  refine ⟨F, δ, r, ?_⟩
  have e : (RV.frz <$> m) δ = match m δ with
    | .ok a δ' => .ok (RV.frz a) δ'
    | .exc x δ' => .exc x δ'
    | .stuck => .stuck := by
    show (DM.bind m fun a => DM.pure (RV.frz a)) δ = _
    unfold DM.bind
    cases m δ <;> rfl
  rw [e] at q
  cases hm : m δ with
  | ok x δ' => rw [hm] at q; exact q
  | exc x δ' => rw [hm] at q; exact q
  | stuck => rw [hm] at q; exact q
end
end DL

set_option Elab.async false
set_option linter.all false
set_option maxRecDepth 100000
set_option maxHeartbeats 4000000
namespace DL
open PySem PySem.Spec PyProof.Rows L2

/-- the state ahead -/
structure Org where
  δ : Dl
  F : Hp
  H : Hp
/-- a later state of the same slots' values -/
structure At (K : PySem.W.Frag) (σ : L2.St) (o : Org) (δ : Dl) (F H : Hp) : Prop where
  step : Step σ o.δ o.F o.H σ δ F H
  sr : SR K F H σ δ
def run {α β : Type} (K : PySem.W.Frag) (W : WX) (R : Hp → Hp → Hp → L2.St → Dl → β → α → Prop) (σ : L2.St) (o : Org) (r : Res α) (Q : β → Hp → Prop) : Prop := match r with
  | .ok r δ' => ∀ v F' H', At K σ o δ' F' H' → R o.H F' H' σ δ' v r → Q v H'
  | .exc x δ' => ∀ F' H' d, At K σ o δ' F' H' → XR F' K d x → W (.ref x.C) (some d) σ H'
  | .stuck => False
abbrev RB : Hp → Hp → Hp → L2.St → Dl → Bool → Bool → Prop := fun _ _ _ _ _ b b' => b = b'
abbrev tB (K : PySem.W.Frag) (W : WX) (m : DM Bool) : TT := tG K W RB m
abbrev PB (X : Cx) (W : WX) (e : Expr) (m : DM Bool) : Prop := PT X e (tB X.K W m)
abbrev PBw (X : Cx) (W : WX) (e : Expr) (m : DM Bool) : Prop := PW X e (tB X.K W m)

section
variable {K : PySem.W.Frag} {W : WX} {σ : L2.St} {o : Org} {δ : Dl} {F H : Hp} {α β ι κ : Type} {R : Hp → Hp → Hp → L2.St → Dl → ι → α → Prop} {R2 : Hp → Hp → Hp → L2.St → Dl → κ → β → Prop}
theorem At.start (r : SR K F H σ δ) : At K σ ⟨δ, F, H⟩ δ F H := ⟨.refl, r⟩
theorem At.trans {δ1 δ2 : Dl} {F1 F2 H1 H2 : Hp} (a : At K σ o δ1 F1 H1) (b : At K σ ⟨δ1, F1, H1⟩ δ2 F2 H2) : At K σ o δ2 F2 H2 := ⟨a.step.trans b.step, b.sr⟩
theorem tG_mk {m : DM α} {Q : ι → Hp → Prop} (r : SR K F H σ δ) (h : run K W R σ ⟨δ, F, H⟩ (m δ) Q) : tG K W R m σ H Q := by
  refine ⟨F, δ, r, ?_⟩
  unfold run at h
  cases hm : m δ with
  | ok x δ' => rw [hm] at h; exact fun v F' H' p r' q => h v F' H' ⟨p, r'⟩ q
  | exc x δ' => rw [hm] at h; exact fun F' H' d p r' q => h F' H' d ⟨p, r'⟩ q
  | stuck => rw [hm] at h; exact h
theorem tG_out {m : DM α} {Q : ι → Hp → Prop} (h : tG K W R m σ H Q) : ∃ F δ, SR K F H σ δ ∧ run K W R σ ⟨δ, F, H⟩ (m δ) Q := by
  obtain ⟨F, δ, r, h⟩ := h
  refine ⟨F, δ, r, ?_⟩
  unfold run
  cases hm : m δ with
  | ok x δ' => rw [hm] at h; exact fun v F' H' p q => h v F' H' p.step p.sr q
  | exc x δ' => rw [hm] at h; exact fun F' H' d p q => h F' H' d p.step p.sr q
  | stuck => rw [hm] at h; exact h
theorem tG_mono {m : DM α} {Q Q' : ι → Hp → Prop} (h : tG K W R m σ H Q) (q : ∀ v H', Q v H' → Q' v H') : tG K W R m σ H Q' := by
  obtain ⟨F, δ, r, h⟩ := h
  refine ⟨F, δ, r, ?_⟩
  cases hm : m δ with
  | ok x δ' => rw [hm] at h; exact fun v F' H' p r' z => q _ _ (h v F' H' p r' z)
  | exc x δ' => rw [hm] at h; exact h
  | stuck => rw [hm] at h; exact h

/-- ONE STEP: m is run in the state, k is what follows -/
theorem go1 {m : DM α} {k : α → DM β} {Q : κ → Hp → Prop} (at1 : At K σ o δ F H) (h : run K W R2 σ o ((m >>= k) δ) Q) :
    run K W R σ ⟨δ, F, H⟩ (m δ) fun v H2 => ∃ d δ2 F2, At K σ o δ2 F2 H2 ∧ At K σ ⟨δ, F, H⟩ δ2 F2 H2 ∧ R H F2 H2 σ δ2 v d ∧ run K W R2 σ o (k d δ2) Q := by
  rw [bind_def] at h
  unfold run
  cases hm : m δ with
  | ok x δ' =>
    rw [hm] at h
    exact fun v F' H' p q => ⟨x, δ', F', at1.trans p, p, q, h⟩
  | exc x δ' =>
    rw [hm] at h
    exact fun F' H' d p q => h F' H' d (at1.trans p) q
  | stuck => rw [hm] at h; exact h
theorem go {m : DM α} {k : α → DM β} {Q : κ → Hp → Prop} (at1 : At K σ o δ F H) (h : run K W R2 σ o ((m >>= k) δ) Q) :
    tG K W R m σ H fun v H2 => ∃ d δ2 F2, At K σ o δ2 F2 H2 ∧ At K σ ⟨δ, F, H⟩ δ2 F2 H2 ∧ R H F2 H2 σ δ2 v d ∧ run K W R2 σ o (k d δ2) Q := tG_mk at1.sr (go1 at1 h)
/-- the end at a frozen datum -/
theorem fin {d : D} {Q : VK} {v : V} (at1 : At K σ o δ F H) (h : run K W (fun _ F' _ _ _ v d => Dat K F' v d) σ o ((pure d : DM D) δ) Q) (hd : Dat K F v d) : Q v H := h v F H at1 hd
theorem finR {r : RV} {Q : VK} {v : V} (at1 : At K σ o δ F H) (h : run K W (VR K) σ o ((pure r : DM RV) δ) Q) (hd : VR K o.H F H σ δ v r) : Q v H := h v F H at1 hd
theorem lift_none {Q : ι → Hp → Prop} {A : Prop} (h : run K W R σ o ((DM.lift none : DM α) δ) Q) : A := False.elim h
theorem stuck_elim {Q : ι → Hp → Prop} {A : Prop} (h : run K W R σ o (.stuck : Res α) Q) : A := False.elim h

/-- a new object, owned by nobody yet -/
theorem At.new (a : At K σ o δ F H) {p : Addr} (hp : H p = none) (ob : HO) : At K σ o δ F (upd H p ob) ∧ F p = none ∧ o.H p = none ∧ ¬ Owned σ δ p := by
  have hF : F p = none := by
    cases e : F p with
    | none => rfl
    | some u => rw [a.sr.ex _ _ e] at hp; cases hp
  have h0 : o.H p = none := by
    cases e : o.H p with
    | none => rfl
    | some u =>
      obtain ⟨u', e'⟩ := a.step.dom _ _ e
      rw [hp] at e'; cases e'
  have no : ¬ Owned σ δ p := fun ⟨i, s, h1, h2, h3⟩ => by
    obtain ⟨x, e, q⟩ := a.sr.sl i s h1
    rw [h3] at e; cases e
    obtain ⟨b, eb, _, ow⟩ := q.own h2
    cases eb
    obtain ⟨u, hu⟩ := ow.some
    rw [hp] at hu; cases hu
  have hu : ∀ b, b ≠ p → upd H p ob b = H b := fun b q => upd_ne q
  refine ⟨⟨⟨a.step.exF, fun b u hb nb => ?_, a.step.own, a.step.lent, fun b u hb => ?_⟩, ⟨fun b u hb => ?_, fun i s h => ?_, a.sr.inj, a.sr.len⟩⟩, hF, h0, no⟩
  · have := a.step.keep b u hb nb
    rw [hu b (ne_of_none hb h0)]
    exact this
  · obtain ⟨u', e'⟩ := a.step.dom _ _ hb
    exact ⟨u', by rw [hu b (ne_of_none hb h0)]; exact e'⟩
  · rw [hu b (ne_of_none hb hF)]
    exact a.sr.ex _ _ hb
  · obtain ⟨x, e, q⟩ := a.sr.sl i s h
    refine ⟨x, e, q.mono (fun _ _ z => z) fun b eb hk => ⟨?_, fun z => z⟩⟩
    subst eb
    refine hu b fun e2 => no ⟨i, s, h, hk, by rw [← e2]; exact e⟩
/-- a new object, frozen at once -/
theorem At.newF (a : At K σ o δ F H) {p : Addr} (hp : H p = none) (ob : HO) : At K σ o δ (upd F p ob) (upd H p ob) ∧ Same F (upd F p ob) := by
  obtain ⟨b, hF, h0, no⟩ := a.new hp ob
  have sF : Same F (upd F p ob) := fun c u q => by rw [upd_ne (ne_of_none q hF)]; exact q
  refine ⟨⟨⟨b.step.exF.trans sF, fun c u hc nc => ⟨(b.step.keep c u hc nc).1, fun z => ?_⟩, b.step.own, b.step.lent, b.step.dom⟩, ⟨fun c u hc => ?_, fun i s h => ?_, b.sr.inj, b.sr.len⟩⟩, sF⟩
  · rw [upd_ne (ne_of_none hc h0)]
    exact (b.step.keep c u hc nc).2 z
  · by_cases e : c = p
    · subst e; rw [upd_same] at hc ⊢; exact hc
    · rw [upd_ne e] at hc
      exact b.sr.ex _ _ hc
  · obtain ⟨x, e, q⟩ := b.sr.sl i s h
    refine ⟨x, e, q.mono sF fun c eb hk => ⟨rfl, fun z => ?_⟩⟩
    subst eb
    rw [upd_ne (fun e2 => no ⟨i, s, h, hk, by rw [← e2]; exact e⟩)]
    exact z
end

/-! ### operands -/
inductive AV where
  | frz (d : D) | slot (i : Nat)
def AR (K : PySem.W.Frag) (F : Hp) (σ : L2.St) (v : V) : AV → Prop
  | .frz d => Dat K F v d
  | .slot i => σ[i]? = some (some v)
abbrev tV (K : PySem.W.Frag) (W : WX) (m : DM AV) : TE := tG K W (fun _ F' _ σ _ v d => AR K F' σ v d) m
/-- an operand -/
abbrev PV (X : Cx) (W : WX) (e : Expr) (m : DM AV) : Prop := PE X e (tV X.K W m)
def argR : RV → DM AV
  | .frz d => pure (.frz d)
  | .own d => pure (.frz d)
  | .slot i => pure (.slot i)
def slotD (i : Nat) : DM D := fun δ => match δ[i]? with
  | some (some s) => .ok s.d δ
  | _ => .stuck
def peek : AV → DM D
  | .frz d => pure d
  | .slot i => slotD i
/-- read, frozen or owned -/
def Pk (K : PySem.W.Frag) (F H : Hp) (v : V) (d : D) : Prop := Dat K F v d ∨ ∃ a, v = .ref a ∧ OwnAt K F H a d
theorem Pk.dat {K : PySem.W.Frag} {F H : Hp} {v : V} {d : D} (h : Pk K F H v d) (s : Same F H) : Dat K H v d := by
  rcases h with h | ⟨a, rfl, h⟩
  · exact h.mono s
  · cases d with
    | lst ds => obtain ⟨xs, e, l⟩ := h; exact .lst e (l.mono s)
    | dct ks ds => obtain ⟨kvs, e, rfl, l⟩ := h; exact .dct (.inl e) (l.mono s)
    | obj C fs ds => obtain ⟨dx, fvs, e, rfl, l⟩ := h; exact .obj e (l.mono s)
    | _ => exact h.elim
theorem AR.mono {K : PySem.W.Frag} {F F' : Hp} {σ : L2.St} {v : V} {x : AV} (h : AR K F σ v x) (s : Same F F') : AR K F' σ v x := by
  cases x with
  | frz d => exact Dat.mono s h
  | slot i => exact h
section
variable {K : PySem.W.Frag} {W : WX} {σ : L2.St} {o : Org} {δ : Dl} {F H : Hp} {β κ : Type} {R2 : Hp → Hp → Hp → L2.St → Dl → κ → β → Prop}
theorem peek_ok {v : V} {x : AV} (r : SR K F H σ δ) (h : AR K F σ v x) : (peek x δ = .stuck) ∨ ∃ d, peek x δ = .ok d δ ∧ Pk K F H v d := by
  cases x with
  | frz d => exact .inr ⟨d, rfl, .inl h⟩
  | slot i =>
    show slotD i δ = _ ∨ ∃ d, slotD i δ = _ ∧ _
    unfold slotD
    cases hs : δ[i]? with
    | none => exact .inl (by simp only)
    | some q =>
      cases q with
      | none => exact .inl (by simp only)
      | some s =>
        refine .inr ⟨s.d, by simp only, ?_⟩
        obtain ⟨x, e, q⟩ := r.sl i s hs
        have h' : σ[i]? = some (some v) := h
        rw [h'] at e; cases e
        cases hk : s.k with
        | frz => exact .inl (q.frz hk)
        | own => obtain ⟨a, e, _, ow⟩ := q.own (by rw [hk]; decide); exact .inr ⟨a, e, ow⟩
        | lent => obtain ⟨a, e, _, ow⟩ := q.own (by rw [hk]; decide); exact .inr ⟨a, e, ow⟩
/-- what stands at a slot is looked at -/
theorem peek_go {v : V} {x : AV} {k : D → DM β} {Q : κ → Hp → Prop} (r : SR K F H σ δ) (h : AR K F σ v x) (q : run K W R2 σ o ((peek x >>= k) δ) Q) : ∃ d, Pk K F H v d ∧ run K W R2 σ o (k d δ) Q := by
  rw [bind_def] at q
  rcases peek_ok r h with e | ⟨d, e, p⟩
  · rw [e] at q; exact q.elim
  · rw [e] at q; exact ⟨d, p, q⟩
theorem argR_own {H0 : Hp} {v : V} {x : RV} (a : At K σ o δ F H) (h : VR K o.H F H σ δ v x) : ∃ y F', argR x δ = .ok y δ ∧ At K σ o δ F' H ∧ Same F F' ∧ AR K F' σ v y := by
  cases x with
  | frz d => exact ⟨_, F, rfl, a, fun _ _ z => z, h⟩
  | slot i => exact ⟨.slot i, F, rfl, a, fun _ _ z => z, h.1⟩
  | own d =>
    obtain ⟨p, rfl, hp, n, ow, no⟩ := h
    obtain ⟨ob, ho, hd2, k1, k2⟩ := ow.freeze n a.sr.ex
    have hu : ∀ b, b ≠ p → upd F p ob b = F b := fun b q => upd_ne q
    refine ⟨.frz d, upd F p ob, rfl, ⟨⟨a.step.exF.trans k1, fun b u hb nb => ⟨(a.step.keep b u hb nb).1, fun z => ?_⟩, a.step.own, a.step.lent, a.step.dom⟩, ⟨k2, fun j t ht => ?_, a.sr.inj, a.sr.len⟩⟩, k1, hd2⟩
    · show upd F p ob b = none
      rw [hu b (ne_of_none hb hp)]
      exact (a.step.keep b u hb nb).2 z
    · obtain ⟨x, e1, q1⟩ := a.sr.sl j t ht
      refine ⟨x, e1, q1.mono k1 fun b eb hk' => ⟨rfl, fun z => ?_⟩⟩
      subst eb
      rw [hu b fun e2 => no ⟨j, t, ht, hk', by rw [← e2]; exact e1⟩]
      exact z
end
section
variable {X : Cx} {W : WX} {e : Expr}
theorem tV_of {K : PySem.W.Frag} {m : DM RV} {σ : L2.St} {H : Hp} {Q : VK} (h : tV K W (m >>= argR) σ H Q) : tD K W m σ H Q := by
  obtain ⟨F, δ, r, h⟩ := tG_out h
  refine tG_mk r ?_
  rw [bind_def] at h
  unfold run
  cases hm : m δ with
  | ok x δ' =>
    rw [hm] at h
    intro v F' H' a q
    obtain ⟨y, F2, e, a2, s2, hy⟩ := argR_own (H0 := H) a q
    simp only [e] at h
    exact h v F2 H' a2 hy
  | exc x δ' => rw [hm] at h; exact h
  | stuck => rw [hm] at h; exact h
theorem pv_of {m : DM RV} (h : PD X W e m) : PV X W e (m >>= argR) := pe_imp h fun _ _ _ q => tV_of q
theorem pv_f {m : DM D} (h : PF X W e m) : PV X W e (m >>= fun d => pure (AV.frz d)) := pe_imp h fun σ H Q q => by
  obtain ⟨F, δ, r, q⟩ := tG_out q
  refine tG_mk r ?_
  rw [bind_def] at q
  unfold run
  cases hm : m δ with
  | ok x δ' => rw [hm] at q; exact q
  | exc x δ' => rw [hm] at q; exact q
  | stuck => rw [hm] at q; exact q
end

/-! ### names, constants -/
def dName (i : Nat) : DM RV := fun δ => match δ[i]? with
  | some (some ⟨d, .frz⟩) => .ok (.frz d) δ
  | some (some _) => .ok (.slot i) δ
  | _ => .stuck
section
variable {X : Cx} {W : WX}
theorem pd_name (i : Nat) {x : Str} {pos : Pos} (h : PE X (.Name x pos) (tVar i)) : PD X W (.Name x pos) (dName i) := pe_imp h fun σ H Q q => by
  obtain ⟨F, δ, r, q⟩ := tG_out q
  unfold dName at q
  cases hs : δ[i]? with
  | none => simp only [hs] at q; exact q.elim
  | some z =>
    cases z with
    | none => simp only [hs] at q; exact q.elim
    | some s =>
      obtain ⟨v, e, sv⟩ := r.sl i s hs
      refine ⟨v, e, ?_⟩
      obtain ⟨d, k⟩ := s
      cases k with
      | frz => simp only [hs] at q; exact q v F H (.start r) sv
      | own => simp only [hs] at q; exact q v F H (.start r) ⟨e, _, hs, by intro z; cases z⟩
      | lent => simp only [hs] at q; exact q v F H (.start r) ⟨e, _, hs, by intro z; cases z⟩
/-- a constant value -/
theorem pf_val {e : Expr} {v : V} {d : D} (h : PE X e (tC v)) (hd : ∀ F, Dat X.K F v d) : PF X W e (pure d) := pe_imp h fun σ H Q q => by
  obtain ⟨F, δ, r, q⟩ := tG_out q
  exact q v F H (.start r) (hd F)
theorem pf_int {i : Int} {j pos} : PF X W (.Constant (.int i) j pos) (pure (.int i)) := pf_val pe_int fun _ => .int i
theorem pf_bl {b : Bool} {j pos} : PF X W (.Constant (.bool b) j pos) (pure (.bl b)) := pf_val pe_bl fun _ => .bl b
theorem pf_non {j pos} : PF X W (.Constant .none j pos) (pure .non) := pf_val pe_non fun _ => .non
theorem pf_str {x : Str} {j pos} : PF X W (.Constant (.str x) j pos) (pure (.str x)) := pf_val pe_str fun _ => .str x
end

/-! ### two operands -/
/-- what a primitive of two values asks, by data -/
def Pr2 (K : PySem.W.Frag) (r : L2.R2) (g : D → D → DM RV) : Prop := ∀ (W : WX) (σ : L2.St) (o : Org) (δ : Dl) (F H : Hp) (x y : V) (d e : D) (Q : VK), At K σ o δ F H → Pk K F H x d → Pk K F H y e → run K W (VR K) σ o (g d e δ) Q → r x y H Q
def d2 (g : D → D → DM RV) (m1 m2 : DM AV) : DM RV := do
  let a ← m1
  let b ← m2
  let d ← peek a
  let e ← peek b
  g d e
theorem t2_of {K : PySem.W.Frag} {W : WX} {r : L2.R2} {g : D → D → DM RV} {m1 m2 : DM AV} (hr : Pr2 K r g) {σ : L2.St} {H : Hp} {Q : VK} (q : tD K W (d2 g m1 m2) σ H Q) : tV K W m1 σ H fun x H1 => tV K W m2 σ H1 fun y H2 => r x y H2 Q := by
  obtain ⟨F, δ, s, q⟩ := tG_out q
  refine tG_mono (go (At.start s) q) fun x H1 ⟨a, δ1, F1, at1, _, ha, q1⟩ => ?_
  refine tG_mono (go at1 q1) fun y H2 ⟨b, δ2, F2, at2, at12, hb, q2⟩ => ?_
  obtain ⟨d, hd, q3⟩ := peek_go at2.sr (ha.mono at12.step.exF) q2
  obtain ⟨e, he, q4⟩ := peek_go at2.sr hb q3
  exact hr W σ _ δ2 F2 H2 x y d e Q at2 hd he q4
section
variable {X : Cx} {W : WX} {a b : Expr} {pos : Pos} {m1 m2 : DM AV}
theorem pd_op {op : Operator} {r : L2.R2} {g : D → D → DM RV} (ho : OpR X (binaryOp op) r) (hr : Pr2 X.K r g) (ha : PV X W a m1) (hb : PV X W b m2) : PD X W (.BinOp a op b pos) (d2 g m1 m2) :=
  pe_imp (pe_op ho ha hb) fun _ _ _ q => t2_of hr q
theorem pd_cmp {op : CmpOp} {r : L2.R2} {g : D → D → DM RV} (ho : OpR X (compareOp op) r) (hr : Pr2 X.K r g) (ha : PV X W a m1) (hb : PV X W b m2) (hm : behindInMarks op b = false) : PD X W (.Compare a [op] [b] pos) (d2 g m1 m2) :=
  pe_imp (pe_cmpR ho ha hb hm) fun _ _ _ q => t2_of hr q
end
theorem OpR.or {X : Cx} {f : Value → Value → Sem Value} {r1 r2 : L2.R2} (h1 : OpR X f r1) (h2 : OpR X f r2) : OpR X f fun x y H Q => r1 x y H Q ∨ r2 x y H Q := fun pins s σ H x y v u Q I rx ry h => by
  rcases h with h | h
  · exact h1 pins s σ H x y v u Q I rx ry h
  · exact h2 pins s σ H x y v u Q I rx ry h
end DL

set_option Elab.async false
set_option linter.all false
set_option maxRecDepth 100000
set_option maxHeartbeats 4000000
namespace DL
open PySem PySem.Spec PyProof.Rows L2

/-! ### what a looked-at value is -/
section
variable {K : PySem.W.Frag} {F H : Hp} {x : V}
theorem Pk.int {i : Int} (h : Pk K F H x (.int i)) : x = .int i := by
  rcases h with h | ⟨a, _, h⟩
  · cases h; rfl
  · exact h.elim
theorem Pk.str {i : Str} (h : Pk K F H x (.str i)) : x = .str i := by
  rcases h with h | ⟨a, _, h⟩
  · cases h; rfl
  · exact h.elim
theorem Pk.bl {i : Bool} (h : Pk K F H x (.bl i)) : x = .bl i := by
  rcases h with h | ⟨a, _, h⟩
  · cases h; rfl
  · exact h.elim
theorem Pk.non (h : Pk K F H x .non) : x = .non := by
  rcases h with h | ⟨a, _, h⟩
  · cases h; rfl
  · exact h.elim
theorem Pk.lst {ds : List D} (h : Pk K F H x (.lst ds)) (s : Same F H) : ∃ a xs, x = .ref a ∧ H a = some (.lst xs) ∧ DatL K F xs ds := by
  rcases h with h | ⟨a, e, xs, h1, h2⟩
  · cases h with
    | lst h1 h2 => exact ⟨_, _, rfl, s _ _ h1, h2⟩
  · exact ⟨a, xs, e, h1, h2⟩
theorem Pk.tup {ds : List D} (h : Pk K F H x (.tup ds)) (s : Same F H) : ∃ a xs, x = .ref a ∧ SqT K H a xs ∧ DatL K F xs ds ∧ Dat K F x (.tup ds) := by
  rcases h with h | ⟨a, _, h⟩
  · cases h with
    | tup h1 h2 => exact ⟨_, _, rfl, Same.seqT s h1, h2, .tup h1 h2⟩
  · exact h.elim
theorem Pk.ro {ds : List D} (h : Pk K F H x (.ro ds)) (s : Same F H) : ∃ a xs, x = .ref a ∧ SqL K H a xs ∧ DatL K F xs ds := by
  rcases h with h | ⟨a, _, h⟩
  · cases h with
    | ro h1 h2 => exact ⟨_, _, rfl, s.seq h1, h2⟩
  · exact h.elim
theorem Pk.dct {ks : List Key} {ds : List D} (h : Pk K F H x (.dct ks ds)) (s : Same F H) : ∃ a kvs, x = .ref a ∧ Rd H a (.dK kvs) ∧ kvs.map (·.1) = ks ∧ DatL K F (kvs.map (·.2)) ds := by
  rcases h with h | ⟨a, e, kvs, h1, h2, h3⟩
  · cases h with
    | dct h1 h2 => exact ⟨_, _, rfl, Same.rd s h1, rfl, h2⟩
  · exact ⟨a, kvs, e, .inl h1, h2, h3⟩
theorem Pk.obj {C : Addr} {fs : List Str} {ds : List D} (h : Pk K F H x (.obj C fs ds)) (s : Same F H) : ∃ a dx fvs, x = .ref a ∧ H a = some (.ins C dx fvs) ∧ fvs.map (·.1) = fs ∧ DatL K F (fvs.map (·.2)) ds := by
  rcases h with h | ⟨a, e, dx, fvs, h1, h2, h3⟩
  · cases h with
    | obj h1 h2 => exact ⟨_, _, _, rfl, s _ _ h1, rfl, h2⟩
  · exact ⟨a, dx, fvs, e, h1, h2, h3⟩
theorem DatL.map_of {α : Type} {f : α → V} {g : α → D} (inv : ∀ a v, Dat K F v (g a) → v = f a) : ∀ {as : List α} {vs : List V}, DatL K F vs (as.map g) → vs = as.map f
  | [], _, .nil => rfl
  | a :: as, _, .cons h t => by rw [List.map_cons, inv _ _ h, DatL.map_of inv t]
theorem DatL.of_map {α : Type} {f : α → V} {g : α → D} (mk : ∀ a, Dat K F (f a) (g a)) : ∀ as : List α, DatL K F (as.map f) (as.map g)
  | [] => .nil
  | a :: as => .cons (mk a) (DatL.of_map mk as)
end
theorem datInt {K : PySem.W.Frag} {F : Hp} {v : V} {i : Int} (h : Dat K F v (.int i)) : v = .int i := by cases h; rfl
theorem datStr {K : PySem.W.Frag} {F : Hp} {v : V} {i : Str} (h : Dat K F v (.str i)) : v = .str i := by cases h; rfl
theorem datBl {K : PySem.W.Frag} {F : Hp} {v : V} {i : Bool} (h : Dat K F v (.bl i)) : v = .bl i := by cases h; rfl

/-! ### new objects at an end -/
section
variable {K : PySem.W.Frag} {W : WX} {σ : L2.St} {o : Org} {δ : Dl} {F H : Hp} {Q : VK}
theorem own_lst {xs : List V} {ds : List D} (at1 : At K σ o δ F H) (h : run K W (VR K) σ o ((pure (.own (.lst ds)) : DM RV) δ) Q) (l : DatL K F xs ds) (p : Addr) (hp : H p = none) : Q (.ref p) (upd H p (.lst xs)) := by
  obtain ⟨a, hF, h0, no⟩ := at1.new hp (.lst xs)
  exact finR a h ⟨p, rfl, h0, hF, ⟨xs, upd_same, l⟩, no⟩
theorem own_dct {kvs : List (Key × V)} {ks : List Key} {ds : List D} (at1 : At K σ o δ F H) (h : run K W (VR K) σ o ((pure (.own (.dct ks ds)) : DM RV) δ) Q) (e : kvs.map (·.1) = ks) (l : DatL K F (kvs.map (·.2)) ds) (p : Addr) (hp : H p = none) : Q (.ref p) (upd H p (.dK kvs)) := by
  obtain ⟨a, hF, h0, no⟩ := at1.new hp (.dK kvs)
  exact finR a h ⟨p, rfl, h0, hF, ⟨kvs, upd_same, e, l⟩, no⟩
theorem frz_tup {xs : List V} {ds : List D} (at1 : At K σ o δ F H) (h : run K W (VR K) σ o ((pure (.frz (.tup ds)) : DM RV) δ) Q) (l : DatL K F xs ds) (p : Addr) (hp : H p = none) : Q (.ref p) (upd H p (.tup xs)) := by
  obtain ⟨a, s⟩ := at1.newF hp (.tup xs)
  exact finR a h (.tup (SqT.of upd_same) (l.mono s))
theorem finF {d : D} {v : V} (at1 : At K σ o δ F H) (h : run K W (VR K) σ o ((pure (.frz d) : DM RV) δ) Q) (hd : Dat K F v d) : Q v H := finR at1 h hd
end

/-! ### binary operators -/
def ok (d : D) : DM RV := pure (.frz d)
def okO (d : D) : DM RV := pure (.own d)
def guard (b : Bool) (m : DM RV) : DM RV := if b then m else DM.stop
section
variable {K : PySem.W.Frag} {W : WX} {σ : L2.St} {o : Org} {δ : Dl} {Q : VK}
theorem guard_run {b : Bool} {m : DM RV} (h : run K W (VR K) σ o (guard b m δ) Q) : b = true ∧ run K W (VR K) σ o (m δ) Q := by
  cases b with
  | true => exact ⟨rfl, h⟩
  | false => exact h.elim
theorem stop_run {A : Prop} (h : run K W (VR K) σ o ((DM.stop : DM RV) δ) Q) : A := False.elim h
end
def gAdd : D → D → DM RV
  | .int i, .int j => ok (.int (i + j))
  | .str a, .str b => guard (decide (a.length + b.length ≤ sizeLine)) (ok (.str (a ++ b)))
  | .lst xs, .lst ys => guard (decide (xs.length + ys.length ≤ sizeLine)) (okO (.lst (xs ++ ys)))
  | .tup xs, .tup ys => guard (decide (xs.length + ys.length ≤ sizeLine) && !xs.isEmpty) (ok (.tup (xs ++ ys)))
  | _, _ => DM.stop
abbrev rAddU (K : PySem.W.Frag) : L2.R2 := fun x y H Q => (rI0 (fun i j => V.int (i + j)) x y H Q ∨ ∃ i j, x = .str i ∧ y = .str j ∧ i.length + j.length ≤ sizeLine ∧ Q (.str (i ++ j)) H) ∨ rCat x y H Q ∨ rCatT K x y H Q
theorem op_addU {X : Cx} : OpR X (binaryOp .Add) (rAddU X.K) := OpR.or (OpR.or op_add op_add_str) (OpR.or op_cat op_catT)
theorem pr_add {K : PySem.W.Frag} : Pr2 K (rAddU K) gAdd := by
  intro W σ o δ F H x y d e Q a hx hy q
  unfold gAdd at q
  split at q
  · cases hx.int; cases hy.int
    exact .inl (.inl ⟨_, _, rfl, rfl, finF a q (.int _)⟩)
  · cases hx.str; cases hy.str
    obtain ⟨g, q⟩ := guard_run q
    exact .inl (.inr ⟨_, _, rfl, rfl, of_decide_eq_true g, finF a q (.str _)⟩)
  · obtain ⟨g, q⟩ := guard_run q
    obtain ⟨p1, xs, rfl, h1, l1⟩ := hx.lst a.sr.ex
    obtain ⟨p2, ys, rfl, h2, l2⟩ := hy.lst a.sr.ex
    refine .inr (.inl ⟨p1, p2, xs, ys, rfl, rfl, h1, h2, ?_, own_lst a q (l1.app l2)⟩)
    rw [l1.len, l2.len]; exact of_decide_eq_true g
  · obtain ⟨g, q⟩ := guard_run q
    rw [Bool.and_eq_true] at g
    obtain ⟨p1, xs, rfl, h1, l1, t1⟩ := hx.tup a.sr.ex
    obtain ⟨p2, ys, rfl, h2, l2, _⟩ := hy.tup a.sr.ex
    refine .inr (.inr ⟨p1, p2, xs, ys, rfl, rfl, h1, h2, ?_, ?_, fun e => ?_, fun _ => frz_tup a q (l1.app l2)⟩)
    · rintro rfl
      cases l1
      have := g.2
      simp at this
    · rw [l1.len, l2.len]; exact of_decide_eq_true g.1
    · subst e
      cases l2
      rw [List.append_nil] at q
      exact finF a q t1
  · exact stop_run q

def gSub : D → D → DM RV
  | .int i, .int j => ok (.int (i - j))
  | _, _ => DM.stop
theorem pr_sub {K : PySem.W.Frag} : Pr2 K (rI0 fun i j => .int (i - j)) gSub := by
  intro W σ o δ F H x y d e Q a hx hy q
  unfold gSub at q
  split at q
  · cases hx.int; cases hy.int
    exact ⟨_, _, rfl, rfl, finF a q (.int _)⟩
  · exact stop_run q

/-- one factor small -/
def mulOk (i j : Int) : Bool := decide ((-(2 ^ 64) < i ∧ i < 2 ^ 64) ∨ (-(2 ^ 64) < j ∧ j < 2 ^ 64)) || decide (i.natAbs.log2 + j.natAbs.log2 < 1000000)
def gMul : D → D → DM RV
  | .int i, .int j => guard (mulOk i j) (ok (.int (i * j)))
  | .lst xs, .int k => guard (decide (-(2 ^ 63) ≤ k ∧ k < 2 ^ 63 ∧ xs.length * k.toNat ≤ sizeLine)) (okO (.lst (List.replicate k.toNat xs).flatten))
  | _, _ => DM.stop
abbrev rMulU : L2.R2 := fun x y H Q => (rI CMul (fun i j => V.int (i * j)) x y H Q ∨ rI CMulW (fun i j => V.int (i * j)) x y H Q) ∨ rRep x y H Q
theorem op_mulU {X : Cx} : OpR X (binaryOp .Mult) rMulU := OpR.or (OpR.or op_mul op_mulW) op_rep
theorem DatL.rep {K : PySem.W.Frag} {F : Hp} {xs : List V} {ds : List D} (l : DatL K F xs ds) : ∀ n : Nat, DatL K F (List.replicate n xs).flatten (List.replicate n ds).flatten
  | 0 => .nil
  | n + 1 => by
    rw [List.replicate_succ, List.replicate_succ, List.flatten_cons, List.flatten_cons]
    exact l.app (DatL.rep l n)
theorem pr_mul {K : PySem.W.Frag} : Pr2 K rMulU gMul := by
  intro W σ o δ F H x y d e Q a hx hy q
  unfold gMul at q
  split at q
  · cases hx.int; cases hy.int
    obtain ⟨g, q⟩ := guard_run q
    unfold mulOk at g
    rcases Bool.or_eq_true_iff.mp g with g | g
    · exact .inl (.inl ⟨_, _, rfl, rfl, (by have g := of_decide_eq_true g; exact g), finF a q (.int _)⟩)
    · exact .inl (.inr ⟨_, _, rfl, rfl, (by have g := of_decide_eq_true g; exact g), finF a q (.int _)⟩)
  · obtain ⟨g, q⟩ := guard_run q
    obtain ⟨p1, xs, rfl, h1, l1⟩ := hx.lst a.sr.ex
    cases hy.int
    obtain ⟨g1, g2, g3⟩ := of_decide_eq_true g
    exact .inr ⟨p1, _, xs, rfl, rfl, h1, g1, g2, by rw [l1.len]; exact g3, own_lst a q (l1.rep _)⟩
  · exact stop_run q

def gDiv : D → D → DM RV
  | .int i, .int j => guard (decide (0 < j ∧ j.natAbs.log2 < 9000)) (ok (.int (i / j)))
  | _, _ => DM.stop
theorem pr_div {K : PySem.W.Frag} : Pr2 K (rI CDivW fun i j => .int (i / j)) gDiv := by
  intro W σ o δ F H x y d e Q a hx hy q
  unfold gDiv at q
  split at q
  · cases hx.int; cases hy.int
    obtain ⟨g, q⟩ := guard_run q
    exact ⟨_, _, rfl, rfl, (by have g := of_decide_eq_true g; exact g), finF a q (.int _)⟩
  · exact stop_run q
def gMod : D → D → DM RV
  | .int i, .int j => guard (decide (0 < j)) (ok (.int (i % j)))
  | _, _ => DM.stop
theorem pr_mod {K : PySem.W.Frag} : Pr2 K (rI (fun _ j => 0 < j) fun i j => .int (i % j)) gMod := by
  intro W σ o δ F H x y d e Q a hx hy q
  unfold gMod at q
  split at q
  · cases hx.int; cases hy.int
    obtain ⟨g, q⟩ := guard_run q
    exact ⟨_, _, rfl, rfl, (by have g := of_decide_eq_true g; exact g), finF a q (.int _)⟩
  · exact stop_run q
def gPow : D → D → DM RV
  | .int i, .int j => guard (decide (0 ≤ j ∧ j ≤ 1000000 ∧ i.natAbs < 2 ^ 64)) (ok (.int (i ^ j.toNat)))
  | _, _ => DM.stop
theorem pr_pow {K : PySem.W.Frag} : Pr2 K (rI CPow fun i j => .int (i ^ j.toNat)) gPow := by
  intro W σ o δ F H x y d e Q a hx hy q
  unfold gPow at q
  split at q
  · cases hx.int; cases hy.int
    obtain ⟨g, q⟩ := guard_run q
    exact ⟨_, _, rfl, rfl, (by have g := of_decide_eq_true g; exact g), finF a q (.int _)⟩
  · exact stop_run q

/-! ### comparisons -/
abbrev bl (b : Bool) : DM RV := ok (.bl b)
def gLt : D → D → DM RV
  | .int i, .int j => bl (decide (i < j))
  | .str a, .str b => bl (decide (a.cps.toList < b.cps.toList))
  | _, _ => DM.stop
def gLe : D → D → DM RV
  | .int i, .int j => bl (decide (i ≤ j))
  | .str a, .str b => bl (!decide (b.cps.toList < a.cps.toList))
  | _, _ => DM.stop
def gGt : D → D → DM RV
  | .int i, .int j => bl (decide (j < i))
  | .str a, .str b => bl (decide (b.cps.toList < a.cps.toList))
  | _, _ => DM.stop
def gGe : D → D → DM RV
  | .int i, .int j => bl (decide (j ≤ i))
  | .str a, .str b => bl (!decide (a.cps.toList < b.cps.toList))
  | _, _ => DM.stop
abbrev rLtU : L2.R2 := fun x y H Q => rI0 (fun i j => .bl (decide (i < j))) x y H Q ∨ ∃ i j, x = .str i ∧ y = .str j ∧ Q (.bl (decide (i.cps.toList < j.cps.toList))) H
theorem op_ltU {X : Cx} : OpR X (compareOp .Lt) rLtU := OpR.or op_lt op_lt_str
abbrev rLeU : L2.R2 := fun x y H Q => rI0 (fun i j => .bl (decide (i ≤ j))) x y H Q ∨ ∃ i j, x = .str i ∧ y = .str j ∧ Q (.bl (!decide (j.cps.toList < i.cps.toList))) H
theorem op_leU {X : Cx} : OpR X (compareOp .LtE) rLeU := OpR.or op_le op_le_str
abbrev rGtU : L2.R2 := fun x y H Q => rI0 (fun i j => .bl (decide (j < i))) x y H Q ∨ ∃ i j, x = .str i ∧ y = .str j ∧ Q (.bl (decide (j.cps.toList < i.cps.toList))) H
theorem op_gtU {X : Cx} : OpR X (compareOp .Gt) rGtU := OpR.or op_gt op_gt_str
abbrev rGeU : L2.R2 := fun x y H Q => rI0 (fun i j => .bl (decide (j ≤ i))) x y H Q ∨ ∃ i j, x = .str i ∧ y = .str j ∧ Q (.bl (!decide (i.cps.toList < j.cps.toList))) H
theorem op_geU {X : Cx} : OpR X (compareOp .GtE) rGeU := OpR.or op_ge op_ge_str
theorem pr_lt {K : PySem.W.Frag} : Pr2 K rLtU gLt := by
  intro W σ o δ F H x y d e Q a hx hy q
  unfold gLt at q
  split at q
  · cases hx.int; cases hy.int; exact .inl ⟨_, _, rfl, rfl, finF a q (.bl _)⟩
  · cases hx.str; cases hy.str; exact .inr ⟨_, _, rfl, rfl, finF a q (.bl _)⟩
  · exact stop_run q
theorem pr_le {K : PySem.W.Frag} : Pr2 K rLeU gLe := by
  intro W σ o δ F H x y d e Q a hx hy q
  unfold gLe at q
  split at q
  · cases hx.int; cases hy.int; exact .inl ⟨_, _, rfl, rfl, finF a q (.bl _)⟩
  · cases hx.str; cases hy.str; exact .inr ⟨_, _, rfl, rfl, finF a q (.bl _)⟩
  · exact stop_run q
theorem pr_gt {K : PySem.W.Frag} : Pr2 K rGtU gGt := by
  intro W σ o δ F H x y d e Q a hx hy q
  unfold gGt at q
  split at q
  · cases hx.int; cases hy.int; exact .inl ⟨_, _, rfl, rfl, finF a q (.bl _)⟩
  · cases hx.str; cases hy.str; exact .inr ⟨_, _, rfl, rfl, finF a q (.bl _)⟩
  · exact stop_run q
theorem pr_ge {K : PySem.W.Frag} : Pr2 K rGeU gGe := by
  intro W σ o δ F H x y d e Q a hx hy q
  unfold gGe at q
  split at q
  · cases hx.int; cases hy.int; exact .inl ⟨_, _, rfl, rfl, finF a q (.bl _)⟩
  · cases hx.str; cases hy.str; exact .inr ⟨_, _, rfl, rfl, finF a q (.bl _)⟩
  · exact stop_run q

/-! ### data as PyData -/
mutual
def py : D → Option PyData
  | .non => some .none
  | .bl b => some (.bool b)
  | .int i => some (.int i)
  | .str x => some (.str x)
  | .lst ds => (pyL ds).map .list
  | .tup ds => (pyL ds).map .tuple
  | _ => none
def pyL : List D → Option (List PyData)
  | [] => some []
  | d :: ds => match py d, pyL ds with
    | some x, some xs => some (x :: xs)
    | _, _ => none
end
section
variable {K : PySem.W.Frag} {F H : Hp}
mutual
theorem Dat.dp (s : Same F H) : ∀ {v : V} {d : D}, Dat K F v d → ∀ {p : PyData}, py d = some p → Dp K H v p
  | _, _, .non, _, e => by cases e; exact .non
  | _, _, .bl b, _, e => by cases e; exact .bl b
  | _, _, .int i, _, e => by cases e; exact .int i
  | _, _, .str x, _, e => by cases e; exact .str x
  | _, _, .ty n, _, e => by simp [py] at e
  | _, _, .con a, _, e => by simp [py] at e
  | _, _, .ro h l, _, e => by simp [py] at e
  | _, _, .dct h l, _, e => by simp [py] at e
  | _, _, .obj h l, _, e => by simp [py] at e
  | _, _, .tup (ds := ds) h l, _, e => by
    cases hq : pyL ds with
    | none => simp [py, hq] at e
    | some ps => simp [py, hq] at e; subst e; exact .tup (Same.seqT s h) (DatL.dp s l hq)
  | _, _, .lst (ds := ds) h l, _, e => by
    cases hq : pyL ds with
    | none => simp [py, hq] at e
    | some ps => simp [py, hq] at e; subst e; exact .lst (SqL.of (s _ _ h)) (DatL.dp s l hq)
theorem DatL.dp (s : Same F H) : ∀ {vs : List V} {ds : List D}, DatL K F vs ds → ∀ {ps : List PyData}, pyL ds = some ps → DpAll K H vs ps
  | _, _, .nil, _, e => by cases e; exact .nil
  | _, _, .cons (d := d) (ds := ds) h l, _, e => by
    cases h1 : py d with
    | none => simp [pyL, h1] at e
    | some x =>
      cases h2 : pyL ds with
      | none => simp [pyL, h1, h2] at e
      | some xs =>
        simp [pyL, h1, h2] at e
        subst e
        exact .cons (Dat.dp s h h1) (DatL.dp s l h2)
end
theorem Pk.dp {v : V} {d : D} (h : Pk K F H v d) (s : Same F H) {p : PyData} (e : py d = some p) : Dp K H v p := (h.dat s).dp (fun _ _ z => z) e
end
/-- == of data -/
def eqD0 (d e : D) : Option Bool := match py d, py e with
  | some p, some q => if SeqAt.shaped p && SeqAt.shaped q then some (PyData.eqv p q) else none
  | _, _ => none
def eqD : D → D → Option Bool
  | .str a, .str b => some (a == b)
  | d, e => eqD0 d e
def gEq (d e : D) : DM RV := match eqD d e with
  | some b => bl b
  | none => DM.stop
def gNe (d e : D) : DM RV := match eqD d e with
  | some b => bl (!b)
  | none => DM.stop
theorem eqD0_some {d e : D} {b : Bool} (h : eqD0 d e = some b) : ∃ p q, py d = some p ∧ py e = some q ∧ SeqAt.shaped p = true ∧ SeqAt.shaped q = true ∧ PyData.eqv p q = b := by
  unfold eqD0 at h
  split at h
  · rename_i p q h1 h2
    split at h
    · rename_i hs
      rw [Bool.and_eq_true] at hs
      exact ⟨p, q, h1, h2, hs.1, hs.2, Option.some.inj h⟩
    · cases h
  · cases h
theorem eqD_cases {d e : D} {b : Bool} (h : eqD d e = some b) : (∃ x y, d = .str x ∧ e = .str y ∧ b = (x == y)) ∨ eqD0 d e = some b := by
  cases d <;> first | exact .inr h | skip
  cases e <;> first | exact .inr h | skip
  exact .inl ⟨_, _, rfl, rfl, (Option.some.inj h).symm⟩
abbrev rEqU (K : PySem.W.Frag) : L2.R2 := fun x y H Q => rEq x y H Q ∨ rEqD K x y H Q
abbrev rNeU (K : PySem.W.Frag) : L2.R2 := fun x y H Q => rNe x y H Q ∨ rNeD K x y H Q
theorem op_eqU {X : Cx} (hu : X.A.units + 64 < cLine) : OpR X (compareOp .Eq) (rEqU X.K) := OpR.or op_eq (op_eqD hu)
theorem op_neU {X : Cx} (hu : X.A.units + 64 < cLine) : OpR X (compareOp .NotEq) (rNeU X.K) := OpR.or op_ne (op_neD hu)
theorem pr_eq {K : PySem.W.Frag} : Pr2 K (rEqU K) gEq := by
  intro W σ o δ F H x y d e Q a hx hy q
  unfold gEq at q
  cases hb : eqD d e with
  | none => rw [hb] at q; exact stop_run q
  | some b =>
    rw [hb] at q
    rcases eqD_cases hb with ⟨u, v, rfl, rfl, rfl⟩ | hb
    · cases hx.str
      cases hy.str
      refine .inl ⟨rfl, ?_⟩
      rw [dec_str]
      exact finF a q (.bl _)
    · obtain ⟨p1, p2, e1, e2, s1, s2, rfl⟩ := eqD0_some hb
      exact .inr ⟨p1, p2, hx.dp a.sr.ex e1, hy.dp a.sr.ex e2, s1, s2, finF a q (.bl _)⟩
theorem pr_ne {K : PySem.W.Frag} : Pr2 K (rNeU K) gNe := by
  intro W σ o δ F H x y d e Q a hx hy q
  unfold gNe at q
  cases hb : eqD d e with
  | none => rw [hb] at q; exact stop_run q
  | some b =>
    rw [hb] at q
    rcases eqD_cases hb with ⟨u, v, rfl, rfl, rfl⟩ | hb
    · cases hx.str
      cases hy.str
      refine .inl ⟨rfl, ?_⟩
      rw [dec_str]
      exact finF a q (.bl _)
    · obtain ⟨p1, p2, e1, e2, s1, s2, rfl⟩ := eqD0_some hb
      exact .inr ⟨p1, p2, hx.dp a.sr.ex e1, hy.dp a.sr.ex e2, s1, s2, finF a q (.bl _)⟩
/-- is None; is of truth values -/
def isNone : D → Bool
  | .non => true
  | _ => false
theorem isNone_iff {K : PySem.W.Frag} {F H : Hp} {x : V} {d : D} (h : Pk K F H x d) : decide (x = .non) = isNone d := by
  rcases h with h | ⟨a, rfl, h⟩
  · cases h <;> rfl
  · cases d <;> first | exact h.elim | rfl
def gIs (d e : D) : DM RV := match d, e with
  | d, .non => bl (isNone d)
  | .bl a, .bl b => bl (decide (a = b))
  | _, _ => DM.stop
def gIsNot (d e : D) : DM RV := match d, e with
  | d, .non => bl (!isNone d)
  | .bl a, .bl b => bl (!decide (a = b))
  | _, _ => DM.stop
abbrev rIsU : L2.R2 := fun x y H Q => (y = .non ∧ Q (.bl (decide (x = .non))) H) ∨ rIsB x y H Q
theorem op_isU {X : Cx} : OpR X (compareOp .Is) rIsU := OpR.or op_isN op_isBl
abbrev rIsNotU : L2.R2 := fun x y H Q => (y = .non ∧ Q (.bl (!decide (x = .non))) H) ∨ rNotB x y H Q
theorem op_isNotU {X : Cx} : OpR X (compareOp .IsNot) rIsNotU := OpR.or op_notN op_notBl
theorem pr_is {K : PySem.W.Frag} : Pr2 K rIsU gIs := by
  intro W σ o δ F H x y d e Q a hx hy q
  unfold gIs at q
  split at q
  · cases hy.non
    refine .inl ⟨rfl, ?_⟩
    rw [isNone_iff hx]
    exact finF a q (.bl _)
  · cases hx.bl; cases hy.bl; exact .inr ⟨_, _, rfl, rfl, finF a q (.bl _)⟩
  · exact stop_run q
theorem pr_isNot {K : PySem.W.Frag} : Pr2 K rIsNotU gIsNot := by
  intro W σ o δ F H x y d e Q a hx hy q
  unfold gIsNot at q
  split at q
  · cases hy.non
    refine .inl ⟨rfl, ?_⟩
    rw [isNone_iff hx]
    exact finF a q (.bl _)
  · cases hx.bl; cases hy.bl; exact .inr ⟨_, _, rfl, rfl, finF a q (.bl _)⟩
  · exact stop_run q
/-- flat data, their == -/
def flatD : D → Bool
  | .non => true
  | .bl _ => true
  | .int _ => true
  | .str _ => true
  | _ => false
def eqF : D → D → Bool
  | .non, .non => true
  | .bl a, .bl b => a == b
  | .bl a, .int b => (if a then 1 else 0) == b
  | .int a, .bl b => a == (if b then 1 else 0)
  | .int a, .int b => a == b
  | .str a, .str b => a == b
  | _, _ => false
def inD (d : D) (ds : List D) : Bool := ds.any fun e => eqF e d
theorem flat_of {K : PySem.W.Frag} {F : Hp} {v : V} {d : D} (h : Dat K F v d) : flatV v = flatD d := by cases h <;> rfl
theorem eqF_of {K : PySem.W.Frag} {F : Hp} {v w : V} {d e : D} (h : Dat K F v d) (h2 : Dat K F w e) : eqV v w = eqF d e := by
  cases h <;> cases h2 <;> rfl
theorem flatL_of {K : PySem.W.Frag} {F : Hp} : ∀ {vs : List V} {ds : List D}, DatL K F vs ds → vs.all flatV = ds.all flatD
  | _, _, .nil => rfl
  | _, _, .cons h t => by rw [List.all_cons, List.all_cons, flat_of h, flatL_of t]
theorem inD_of {K : PySem.W.Frag} {F : Hp} {v : V} {d : D} (h : Dat K F v d) : ∀ {vs : List V} {ds : List D}, DatL K F vs ds → inV v vs = inD d ds
  | _, _, .nil => rfl
  | _, _, .cons h1 t => by
    have ih := inD_of h t
    unfold inV inD at ih ⊢
    rw [List.any_cons, List.any_cons, eqF_of h1 h, ih]
theorem Pk.flat {K : PySem.W.Frag} {F H : Hp} {v : V} {d : D} (h : Pk K F H v d) (f : flatD d = true) : Dat K F v d := by
  rcases h with h | ⟨a, rfl, h⟩
  · exact h
  · cases d <;> first | exact h.elim | cases f
/-- c in s, s a text: one sign; x in xs -/
def gInN (neg : Bool) (d e : D) : DM RV := match d, e with
  | .str c, .str z => guard (decide (c.cps.size = 1)) (bl (xor neg (decide (c.cps.getD 0 0 ∈ z.cps.toList))))
  | d, .lst ds => guard (flatD d && ds.all flatD) (bl (xor neg (inD d ds)))
  | d, .tup ds => guard (flatD d && ds.all flatD) (bl (xor neg (inD d ds)))
  | _, _ => DM.stop
abbrev rInU (K : PySem.W.Frag) : L2.R2 := fun x y H Q => rIn K false x y H Q ∨ ∃ (c : Nat) (z : Str), x = .str ⟨#[c]⟩ ∧ y = .str z ∧ Q (.bl (decide (c ∈ z.cps.toList))) H
abbrev rNotInU (K : PySem.W.Frag) : L2.R2 := fun x y H Q => rIn K true x y H Q ∨ ∃ (c : Nat) (z : Str), x = .str ⟨#[c]⟩ ∧ y = .str z ∧ Q (.bl (!decide (c ∈ z.cps.toList))) H
theorem op_inU {X : Cx} : OpR X (compareOp .In) (rInU X.K) := OpR.or op_in_seq op_in_sign
theorem op_notInU {X : Cx} : OpR X (compareOp .NotIn) (rNotInU X.K) := OpR.or op_notIn_seq op_notIn_sign
theorem one_sign {c : Str} (h : c.cps.size = 1) : c = ⟨#[c.cps.getD 0 0]⟩ := by
  obtain ⟨a⟩ := c
  obtain ⟨l⟩ := a
  match l, h with
  | [x], _ => rfl
theorem pr_in {K : PySem.W.Frag} : Pr2 K (rInU K) (gInN false) := by
  intro W σ o δ F H x y d e Q a hx hy q
  unfold gInN at q
  split at q
  · obtain ⟨g, q⟩ := guard_run q
    cases hx.str; cases hy.str
    have e1 := one_sign (of_decide_eq_true g)
    refine .inr ⟨_, _, congrArg V.str e1, rfl, ?_⟩
    rw [Bool.false_xor] at q
    exact finF a q (.bl _)
  · obtain ⟨g, q⟩ := guard_run q
    rw [Bool.and_eq_true] at g
    obtain ⟨p, xs, rfl, h1, l1⟩ := hy.lst a.sr.ex
    have hd := hx.flat g.1
    refine .inl ⟨p, xs, rfl, .inl (SqL.of h1), (flat_of hd).trans g.1, (flatL_of l1).trans g.2, ?_⟩
    rw [Bool.false_xor] at q
    rw [if_neg Bool.false_ne_true, inD_of hd l1]
    exact finF a q (.bl _)
  · obtain ⟨g, q⟩ := guard_run q
    rw [Bool.and_eq_true] at g
    obtain ⟨p, xs, rfl, h1, l1, _⟩ := hy.tup a.sr.ex
    have hd := hx.flat g.1
    refine .inl ⟨p, xs, rfl, .inr h1, (flat_of hd).trans g.1, (flatL_of l1).trans g.2, ?_⟩
    rw [Bool.false_xor] at q
    rw [if_neg Bool.false_ne_true, inD_of hd l1]
    exact finF a q (.bl _)
  · exact stop_run q
theorem pr_notIn {K : PySem.W.Frag} : Pr2 K (rNotInU K) (gInN true) := by
  intro W σ o δ F H x y d e Q a hx hy q
  unfold gInN at q
  split at q
  · obtain ⟨g, q⟩ := guard_run q
    cases hx.str; cases hy.str
    have e1 := one_sign (of_decide_eq_true g)
    refine .inr ⟨_, _, congrArg V.str e1, rfl, ?_⟩
    rw [Bool.true_xor] at q
    exact finF a q (.bl _)
  · obtain ⟨g, q⟩ := guard_run q
    rw [Bool.and_eq_true] at g
    obtain ⟨p, xs, rfl, h1, l1⟩ := hy.lst a.sr.ex
    have hd := hx.flat g.1
    refine .inl ⟨p, xs, rfl, .inl (SqL.of h1), (flat_of hd).trans g.1, (flatL_of l1).trans g.2, ?_⟩
    rw [Bool.true_xor] at q
    rw [if_pos rfl, inD_of hd l1]
    exact finF a q (.bl _)
  · obtain ⟨g, q⟩ := guard_run q
    rw [Bool.and_eq_true] at g
    obtain ⟨p, xs, rfl, h1, l1, _⟩ := hy.tup a.sr.ex
    have hd := hx.flat g.1
    refine .inl ⟨p, xs, rfl, .inr h1, (flat_of hd).trans g.1, (flatL_of l1).trans g.2, ?_⟩
    rw [Bool.true_xor] at q
    rw [if_pos rfl, inD_of hd l1]
    exact finF a q (.bl _)
  · exact stop_run q
end DL

set_option Elab.async false
set_option linter.all false
set_option maxRecDepth 100000
set_option maxHeartbeats 4000000
namespace DL
open PySem PySem.Spec PyProof.Rows L2

theorem run_mono {K : PySem.W.Frag} {W : WX} {α κ : Type} {R : Hp → Hp → Hp → L2.St → Dl → κ → α → Prop} {σ : L2.St} {o : Org} {r : Res α} {Q Q' : κ → Hp → Prop} (h : run K W R σ o r Q) (q : ∀ v H', Q v H' → Q' v H') : run K W R σ o r Q' := by
  cases r with
  | ok x δ' => exact fun v F' H' p z => q _ _ (h v F' H' p z)
  | exc x δ' => exact h
  | stuck => exact h
/-! ### an item -/
theorem DatL.atI {K : PySem.W.Frag} {F : Hp} {xs : List V} {ds : List D} {i : Int} {d : D} (l : DatL K F xs ds) (h : L2.atI ds i = some d) : ∃ v, L2.atI xs i = some v ∧ Dat K F v d := by
  unfold L2.atI at h ⊢
  rw [l.len]
  cases e : ixN ds.length i with
  | none => rw [e] at h; cases h
  | some j =>
    rw [e] at h
    exact l.get h
def optD {α : Type} (o : Option α) (f : α → DM RV) : DM RV := match o with
  | some a => f a
  | none => DM.stop
def gIx : D → D → DM RV
  | .lst ds, .int i => optD (L2.atI ds i) ok
  | .tup ds, .int i => optD (L2.atI ds i) ok
  | .str z, .int i => guard (decide (z.length ≤ sizeLine)) (optD (L2.atI z.cps.toList i) fun c => ok (.str ⟨#[c]⟩))
  | _, _ => DM.stop
section
variable {K : PySem.W.Frag} {W : WX} {σ : L2.St} {o : Org} {δ : Dl} {Q : VK}
theorem optD_run {α : Type} {x : Option α} {f : α → DM RV} (h : run K W (VR K) σ o (optD x f δ) Q) : ∃ a, x = some a ∧ run K W (VR K) σ o (f a δ) Q := by
  cases x with
  | none => exact h.elim
  | some a => exact ⟨a, rfl, h⟩
end
theorem pr_ix {K : PySem.W.Frag} : Pr2 K (rIx K) gIx := by
  intro W σ o δ F H x y d e Q a hx hy q
  unfold gIx at q
  split at q
  · obtain ⟨d, he, q⟩ := optD_run q
    obtain ⟨p, xs, rfl, h1, l1⟩ := hx.lst a.sr.ex
    cases hy.int
    obtain ⟨v, hv, hd⟩ := l1.atI he
    exact .inl ⟨p, xs, _, v, rfl, rfl, SqL.of h1, hv, finF a q hd⟩
  · obtain ⟨d, he, q⟩ := optD_run q
    obtain ⟨p, xs, rfl, h1, l1, _⟩ := hx.tup a.sr.ex
    cases hy.int
    obtain ⟨v, hv, hd⟩ := l1.atI he
    exact .inr (.inl ⟨p, xs, _, v, rfl, rfl, h1, hv, finF a q hd⟩)
  · obtain ⟨g, q⟩ := guard_run q
    obtain ⟨c, he, q⟩ := optD_run q
    cases hx.str
    cases hy.int
    exact .inr (.inr ⟨_, _, c, rfl, rfl, of_decide_eq_true g, he, finF a q (.str _)⟩)
  · exact stop_run q
theorem pd_ix {X : Cx} {W : WX} {a b : Expr} {pos : Pos} {m1 m2 : DM AV} (ha : PV X W a m1) (hb : PV X W b m2) (hs : PlainIx b) : PD X W (.Subscript a b pos) (d2 gIx m1 m2) :=
  pe_imp (pe_ix ix_seq ha hb hs) fun _ _ _ q => t2_of pr_ix q

/-! ### a slice -/
def cutL {α : Type} (xs : List α) (lo hi : Option Int) : List α := (xs.drop (HT.sIx xs.length 0 lo)).take (HT.sIx xs.length xs.length hi - HT.sIx xs.length 0 lo)
theorem DatL.cut {K : PySem.W.Frag} {F : Hp} {xs : List V} {ds : List D} (l : DatL K F xs ds) (lo hi : Option Int) : DatL K F (cutV xs lo hi) (cutL ds lo hi) := by
  unfold cutV cutL
  rw [l.len]
  exact (l.drop _).take _
abbrev RO : Hp → Hp → Hp → L2.St → Dl → Option Int → Option Int → Prop := fun _ _ _ _ _ b b' => b = b'
abbrev PIo (X : Cx) (W : WX) (e : Option Expr) (m : DM (Option Int)) : Prop := PO X e (tG X.K W RO m)
theorem po_imp {X : Cx} {e : Option Expr} {t t' : TO} (h : PO X e t) (hi : ∀ σ H Q, t' σ H Q → t σ H Q) : PO X e t' :=
  ⟨fun pins s σ H Q I q => h.run pins s σ H Q I (hi σ H Q q)⟩
def toI : D → DM (Option Int)
  | .int i => pure (some i)
  | _ => DM.stop
section
variable {X : Cx} {W : WX} {e : Expr}
theorem pio_none : PIo X W none (pure none) := po_imp po_none fun σ H Q q => by
  obtain ⟨F, δ, r, q⟩ := tG_out q
  exact q _ F H (.start r) rfl
theorem pio_some {m : DM AV} (h : PV X W e m) : PIo X W (some e) (do let a ← m; let d ← peek a; toI d) := po_imp (po_some h) fun σ H Q q => by
  obtain ⟨F, δ, r, q⟩ := tG_out q
  unfold tPart
  refine tG_mono (go (At.start r) q) fun x H1 ⟨a, δ1, F1, at1, _, ha, q1⟩ => ?_
  obtain ⟨d, hd, q2⟩ := peek_go at1.sr ha q1
  unfold toI at q2
  split at q2
  · exact ⟨_, hd.int, q2 _ F1 H1 at1 rfl⟩
  · exact q2.elim
end
def gSl (d : D) (lo hi : Option Int) : DM RV := match d with
  | .lst ds => okO (.lst (cutL ds lo hi))
  | .ro ds => okO (.lst (cutL ds lo hi))
  | .str z => guard (decide (z.length ≤ sizeLine)) (ok (.str (cutS z lo hi)))
  | .tup ds => guard (!decide (HT.sIx ds.length 0 lo = 0 ∧ HT.sIx ds.length ds.length hi = ds.length)) (ok (.tup (cutL ds lo hi)))
  | _ => DM.stop
def dSl (m : DM AV) (ml mh : DM (Option Int)) : DM RV := do
  let a ← m
  let lo ← ml
  let hi ← mh
  let d ← peek a
  gSl d lo hi
theorem pd_sl {X : Cx} {W : WX} {e : Expr} {lo hi : Option Expr} {p2 pos : Pos} {m : DM AV} {ml mh : DM (Option Int)} (he : PV X W e m) (hl : PIo X W lo ml) (hh : PIo X W hi mh) : PD X W (.Subscript e (.Slice lo hi none p2) pos) (dSl m ml mh) :=
  pe_imp (pe_slice (sl_list.or (sl_str.or sl_tup)) he hl hh) fun σ H Q q => by
    obtain ⟨F, δ, r, q⟩ := tG_out q
    unfold tSl
    refine tG_mono (go (At.start r) q) fun x H1 ⟨a, δ1, F1, at1, _, ha, q1⟩ => ?_
    refine tG_mono (go at1 q1) fun l H2 ⟨l', δ2, F2, at2, at12, hl, q2⟩ => ?_
    refine tG_mono (go at2 q2) fun u H3 ⟨u', δ3, F3, at3, at23, hu, q3⟩ => ?_
    cases hl; cases hu
    obtain ⟨d, hx, q4⟩ := peek_go at3.sr ((ha.mono at12.step.exF).mono at23.step.exF) q3
    unfold gSl at q4
    split at q4
    · obtain ⟨p, xs, rfl, h1, l1⟩ := hx.lst at3.sr.ex
      exact .inl ⟨p, xs, rfl, SqL.of h1, own_lst at3 q4 (l1.cut _ _)⟩
    · obtain ⟨p, xs, rfl, h1, l1⟩ := hx.ro at3.sr.ex
      exact .inl ⟨p, xs, rfl, h1, own_lst at3 q4 (l1.cut _ _)⟩
    · obtain ⟨g, q4⟩ := guard_run q4
      cases hx.str
      exact .inr (.inl ⟨_, rfl, of_decide_eq_true g, finF at3 q4 (.str _)⟩)
    · rename_i ds
      obtain ⟨g, q4⟩ := guard_run q4
      obtain ⟨p, xs, rfl, h1, l1, _⟩ := hx.tup at3.sr.ex
      refine .inr (.inr ⟨p, xs, rfl, h1, ?_, frz_tup at3 q4 (l1.cut _ _)⟩)
      rw [l1.len]
      exact of_decide_eq_false (by cases hh : decide (HT.sIx ds.length 0 l = 0 ∧ HT.sIx ds.length ds.length u = ds.length) with
        | false => rfl
        | true => rw [hh] at g; cases g)
    · exact stop_run q4

/-! ### written lists and tuples -/
abbrev RL (K : PySem.W.Frag) : Hp → Hp → Hp → L2.St → Dl → List V → List D → Prop := fun _ F' _ _ _ vs ds => DatL K F' vs ds
abbrev PFs (X : Cx) (W : WX) (es : List Expr) (m : DM (List D)) : Prop := PA X es (tG X.K W (RL X.K) m)
theorem pa_imp {X : Cx} {e : List Expr} {t t' : TA} (h : PA X e t) (hi : ∀ σ H Q, t' σ H Q → t σ H Q) : PA X e t' :=
  ⟨fun pos pins s σ H Q I q => h.run pos pins s σ H Q I (hi σ H Q q)⟩
section
variable {X : Cx} {W : WX} {e : Expr} {es : List Expr} {pos : Pos}
theorem pfs_nil : PFs X W [] (pure []) := pa_imp pa_nil fun σ H Q q => by
  obtain ⟨F, δ, r, q⟩ := tG_out q
  exact q _ F H (.start r) .nil
theorem pfs_cons {m : DM D} {ms : DM (List D)} (h : PF X W e m) (hs : PFs X W es ms) (hst : starEach (e :: es) X.env = (false, eval e X.env) :: starEach es X.env := by rfl) : PFs X W (e :: es) (do let d ← m; let ds ← ms; pure (d :: ds)) :=
  pa_imp (pa_cons h hs hst) fun σ H Q q => by
    obtain ⟨F, δ, r, q⟩ := tG_out q
    unfold tCons
    refine tG_mono (go (At.start r) q) fun x H1 ⟨d, δ1, F1, at1, _, hd, q1⟩ => ?_
    refine tG_mono (go at1 q1) fun xs H2 ⟨ds, δ2, F2, at2, at12, hds, q2⟩ => ?_
    exact q2 (x :: xs) F2 H2 at2 (.cons (hd.mono at12.step.exF) hds)
def dLst (ms : DM (List D)) : DM RV := do
  let ds ← ms
  guard (decide (ds.length ≤ sizeLine)) (okO (.lst ds))
def dTup (ms : DM (List D)) : DM RV := do
  let ds ← ms
  guard (decide (ds.length ≤ sizeLine)) (ok (.tup ds))
theorem pd_lst {ms : DM (List D)} (h : PFs X W es ms) : PD X W (.List es pos) (dLst ms) := pe_imp (pe_lst h) fun σ H Q q => by
  obtain ⟨F, δ, r, q⟩ := tG_out q
  refine tG_mono (go (At.start r) q) fun xs H1 ⟨ds, δ1, F1, at1, _, hd, q1⟩ => ?_
  obtain ⟨g, q1⟩ := guard_run q1
  exact ⟨by rw [DatL.len hd]; exact of_decide_eq_true g, own_lst at1 q1 hd⟩
theorem pd_tup {ms : DM (List D)} {k : Nat} (h : PFs X W es ms) : PD X W (.Tuple es k pos) (dTup ms) := pe_imp (pe_tup h) fun σ H Q q => by
  obtain ⟨F, δ, r, q⟩ := tG_out q
  refine tG_mono (go (At.start r) q) fun xs H1 ⟨ds, δ1, F1, at1, _, hd, q1⟩ => ?_
  obtain ⟨g, q1⟩ := guard_run q1
  exact ⟨by rw [DatL.len hd]; exact of_decide_eq_true g, frz_tup at1 q1 hd⟩

/-! ### operands in a row -/
def ARs (K : PySem.W.Frag) (F : Hp) (σ : L2.St) : List V → List AV → Prop
  | [], [] => True
  | v :: vs, a :: as => AR K F σ v a ∧ ARs K F σ vs as
  | _, _ => False
theorem ARs.mono {K : PySem.W.Frag} {F F' : Hp} {σ : L2.St} (s : Same F F') : ∀ {vs : List V} {as : List AV}, ARs K F σ vs as → ARs K F' σ vs as
  | [], [], h => h
  | v :: vs, a :: as, h => ⟨h.1.mono s, ARs.mono s h.2⟩
  | [], _ :: _, h => h.elim
  | _ :: _, [], h => h.elim
abbrev RVs (K : PySem.W.Frag) : Hp → Hp → Hp → L2.St → Dl → List V → List AV → Prop := fun _ F' _ σ _ vs ds => ARs K F' σ vs ds
abbrev PVs (X : Cx) (W : WX) (es : List Expr) (m : DM (List AV)) : Prop := PA X es (tG X.K W (RVs X.K) m)
theorem pvs_nil : PVs X W [] (pure []) := pa_imp pa_nil fun σ H Q q => by
  obtain ⟨F, δ, r, q⟩ := tG_out q
  exact q _ F H (.start r) True.intro
def dCons (m : DM AV) (ms : DM (List AV)) : DM (List AV) := do
  let d ← m
  let ds ← ms
  pure (d :: ds)
theorem pvs_cons {m : DM AV} {ms : DM (List AV)} (h : PV X W e m) (hs : PVs X W es ms) (hst : starEach (e :: es) X.env = (false, eval e X.env) :: starEach es X.env := by rfl) : PVs X W (e :: es) (dCons m ms) :=
  pa_imp (pa_cons h hs hst) fun σ H Q q => by
    obtain ⟨F, δ, r, q⟩ := tG_out q
    unfold tCons
    refine tG_mono (go (At.start r) q) fun x H1 ⟨d, δ1, F1, at1, _, hd, q1⟩ => ?_
    refine tG_mono (go at1 q1) fun xs H2 ⟨ds, δ2, F2, at2, at12, hds, q2⟩ => ?_
    exact q2 (x :: xs) F2 H2 at2 ⟨hd.mono at12.step.exF, hds⟩
def peeks : List AV → DM (List D)
  | [] => pure []
  | a :: as => do
    let d ← peek a
    let ds ← peeks as
    pure (d :: ds)
def Pks (K : PySem.W.Frag) (F H : Hp) : List V → List D → Prop
  | [], [] => True
  | v :: vs, d :: ds => Pk K F H v d ∧ Pks K F H vs ds
  | _, _ => False
end
section
variable {K : PySem.W.Frag} {W : WX} {σ : L2.St} {o : Org} {δ : Dl} {F H : Hp} {β κ : Type} {R2 : Hp → Hp → Hp → L2.St → Dl → κ → β → Prop}
theorem bind_assoc' {α β γ : Type} (m : DM α) (f : α → DM β) (g : β → DM γ) (δ : Dl) : ((m >>= f) >>= g) δ = (m >>= fun a => f a >>= g) δ := by
  simp only [bind_def]
  cases m δ <;> rfl
theorem pure_bind' {α β : Type} (a : α) (f : α → DM β) (δ : Dl) : ((pure a : DM α) >>= f) δ = f a δ := rfl
theorem peeks_go : ∀ {vs : List V} {as : List AV} {k : List D → DM β} {Q : κ → Hp → Prop}, SR K F H σ δ → ARs K F σ vs as → run K W R2 σ o ((peeks as >>= k) δ) Q → ∃ ds, Pks K F H vs ds ∧ run K W R2 σ o (k ds δ) Q
  | [], [], k, Q, r, h, q => ⟨[], True.intro, q⟩
  | v :: vs, a :: as, k, Q, r, h, q => by
    unfold peeks at q
    rw [bind_assoc'] at q
    obtain ⟨d, hd, q1⟩ := peek_go r h.1 q
    rw [bind_assoc'] at q1
    obtain ⟨ds, hds, q2⟩ := peeks_go r h.2 q1
    exact ⟨d :: ds, ⟨hd, hds⟩, q2⟩
  | [], _ :: _, k, Q, r, h, q => h.elim
  | _ :: _, [], k, Q, r, h, q => h.elim
theorem Pks.one {vs : List V} {d : D} (h : Pks K F H vs [d]) : ∃ v, vs = [v] ∧ Pk K F H v d := by
  match vs, h with
  | [v], h => exact ⟨v, rfl, h.1⟩
theorem Pks.two {vs : List V} {d e : D} (h : Pks K F H vs [d, e]) : ∃ v w, vs = [v, w] ∧ Pk K F H v d ∧ Pk K F H w e := by
  match vs, h with
  | [v, w], h => exact ⟨v, w, rfl, h.1, h.2.1⟩
end

/-! ### built-in functions of values -/
def PrC (K : PySem.W.Frag) (r : List V → Hp → VK → Prop) (g : List D → DM RV) : Prop := ∀ (W : WX) (σ : L2.St) (o : Org) (δ : Dl) (F H : Hp) (vs : List V) (ds : List D) (Q : VK), At K σ o δ F H → Pks K F H vs ds → run K W (VR K) σ o (g ds δ) Q → r vs H Q
def dC (g : List D → DM RV) (ms : DM (List AV)) : DM RV := do
  let as ← ms
  let ds ← peeks as
  g ds
theorem CallR.or {X : Cx} {f : Value} {r1 r2 : List V → Hp → VK → Prop} (h1 : CallR X f r1) (h2 : CallR X f r2) : CallR X f fun x H Q => r1 x H Q ∨ r2 x H Q := fun pins s σ H x us Q I rx h => by
  rcases h with h | h
  · exact h1 pins s σ H x us Q I rx h
  · exact h2 pins s σ H x us Q I rx h
section
variable {X : Cx} {W : WX} {x : Str} {p pos : Pos} {e : Expr} {es : List Expr} {ms : DM (List AV)} {id T : String} {r : List V → Hp → VK → Prop} {g : List D → DM RV}
theorem tC_of {K : PySem.W.Frag} (hr : PrC K r g) {σ : L2.St} {H : Hp} {Q : VK} (q : tD K W (dC g ms) σ H Q) : tCB r (tG K W (RVs K) ms) σ H Q := by
  obtain ⟨F, δ, s, q⟩ := tG_out q
  refine tG_mono (go (At.start s) q) fun xs H1 ⟨as, δ1, F1, at1, _, ha, q1⟩ => ?_
  obtain ⟨ds, hd, q2⟩ := peeks_go at1.sr ha q1
  exact hr W σ _ δ1 F1 H1 xs ds Q at1 hd q2
theorem pd_callB (hc : CallR X (.builtin id) r) (hr : PrC X.K r g) (hg : Gl X x) (hm : X.mg x = none) (hv : bootBuiltins x = some (.builtin id)) (ha : PVs X W (e :: es) ms) (hn : x ≠ "__name__" := by decide) (hdb : (x == ("__debug__" : Str)) = false := by decide)
    (he : starEach (e :: es) X.env = (false, eval e X.env) :: starEach es X.env := by rfl) (hpl : (backTo pos (starEach es X.env)).any (·.1) = false := by rfl) : PD X W (.Call (.Name x p) (e :: es) [] pos) (dC g ms) :=
  pe_imp (pe_callB hc hg hm hv ha hn hdb he hpl) fun _ _ _ q => tC_of hr q
theorem pd_callTy (hc : CallR X (.type T) r) (hr : PrC X.K r g) (hg : Gl X x) (hm : X.mg x = none) (hv : bootBuiltins x = some (.type T)) (ha : PVs X W (e :: es) ms) (hn : x ≠ "__name__" := by decide) (hdb : (x == ("__debug__" : Str)) = false := by decide)
    (he : starEach (e :: es) X.env = (false, eval e X.env) :: starEach es X.env := by rfl) (hpl : (backTo pos (starEach es X.env)).any (·.1) = false := by rfl) : PD X W (.Call (.Name x p) (e :: es) [] pos) (dC g ms) :=
  pe_imp (pe_callTy hc hg hm hv ha hn hdb he hpl) fun _ _ _ q => tC_of hr q
end
def gLen : List D → DM RV
  | [.lst ds] => ok (.int ds.length)
  | [.tup ds] => ok (.int ds.length)
  | [.ro ds] => ok (.int ds.length)
  | [.str z] => guard (decide (z.length ≤ sizeLine)) (ok (.int z.length))
  | _ => DM.stop
theorem pr_len {K : PySem.W.Frag} : PrC K (fun xs H Q => ∃ x n, xs = [x] ∧ LenV K x H n ∧ Q (.int n) H) gLen := by
  intro W σ o δ F H vs ds Q a h q
  unfold gLen at q
  split at q
  · obtain ⟨v, rfl, hv⟩ := h.one
    obtain ⟨p, xs, rfl, h1, l1⟩ := hv.lst a.sr.ex
    exact ⟨_, _, rfl, .inl ⟨xs, SqL.of h1, l1.len.symm⟩, finF a q (.int _)⟩
  · obtain ⟨v, rfl, hv⟩ := h.one
    obtain ⟨p, xs, rfl, h1, l1, _⟩ := hv.tup a.sr.ex
    exact ⟨_, _, rfl, .inr ⟨xs, h1, l1.len.symm⟩, finF a q (.int _)⟩
  · obtain ⟨v, rfl, hv⟩ := h.one
    obtain ⟨p, xs, rfl, h1, l1⟩ := hv.ro a.sr.ex
    exact ⟨_, _, rfl, .inl ⟨xs, h1, l1.len.symm⟩, finF a q (.int _)⟩
  · obtain ⟨g, q⟩ := guard_run q
    obtain ⟨v, rfl, hv⟩ := h.one
    cases hv.str
    exact ⟨_, _, rfl, ⟨of_decide_eq_true g, rfl⟩, finF a q (.int _)⟩
  · exact stop_run q
def gAbs : List D → DM RV
  | [.int i] => ok (.int (if i < 0 then -i else i))
  | _ => DM.stop
theorem pr_abs {K : PySem.W.Frag} : PrC K (fun xs H Q => ∃ i, xs = [.int i] ∧ Q (.int (if i < 0 then -i else i)) H) gAbs := by
  intro W σ o δ F H vs ds Q a h q
  unfold gAbs at q
  split at q
  · obtain ⟨v, rfl, hv⟩ := h.one
    cases hv.int
    exact ⟨_, rfl, finF a q (.int _)⟩
  · exact stop_run q
def gMin2 : List D → DM RV
  | [.int i, .int j] => ok (.int (if j < i then j else i))
  | _ => DM.stop
theorem pr_min2 {K : PySem.W.Frag} : PrC K (fun xs H Q => ∃ i j, xs = [.int i, .int j] ∧ Q (.int (if j < i then j else i)) H) gMin2 := by
  intro W σ o δ F H vs ds Q a h q
  unfold gMin2 at q
  split at q
  · obtain ⟨v, w, rfl, hv, hw⟩ := h.two
    cases hv.int; cases hw.int
    exact ⟨_, _, rfl, finF a q (.int _)⟩
  · exact stop_run q
def gMax2 : List D → DM RV
  | [.int i, .int j] => ok (.int (if j > i then j else i))
  | _ => DM.stop
theorem pr_max2 {K : PySem.W.Frag} : PrC K (fun xs H Q => ∃ i j, xs = [.int i, .int j] ∧ Q (.int (if j > i then j else i)) H) gMax2 := by
  intro W σ o δ F H vs ds Q a h q
  unfold gMax2 at q
  split at q
  · obtain ⟨v, w, rfl, hv, hw⟩ := h.two
    cases hv.int; cases hw.int
    exact ⟨_, _, rfl, finF a q (.int _)⟩
  · exact stop_run q
/-- int(..) -/
def gInt : List D → DM RV
  | [.int i] => ok (.int i)
  | [.bl b] => ok (.int (if b then 1 else 0))
  | [.str z] => guard (decide (z.length ≤ 640)) (optD (PySem.intText? z) fun n => ok (.int n))
  | _ => DM.stop
abbrev rIntU : List V → Hp → VK → Prop := fun xs H Q => ((∃ i, xs = [.int i] ∧ Q (.int i) H) ∨ ∃ k, xs = [.bl k] ∧ Q (.int (if k then 1 else 0)) H) ∨ ∃ a n, xs = [.str a] ∧ PySem.intText? a = some n ∧ a.length ≤ 640 ∧ Q (.int n) H
theorem call_intU {X : Cx} : CallR X (.type "int") rIntU := CallR.or call_int1 call_int_str
theorem pr_int {K : PySem.W.Frag} : PrC K rIntU gInt := by
  intro W σ o δ F H vs ds Q a h q
  unfold gInt at q
  split at q
  · obtain ⟨v, rfl, hv⟩ := h.one
    cases hv.int
    exact .inl (.inl ⟨_, rfl, finF a q (.int _)⟩)
  · obtain ⟨v, rfl, hv⟩ := h.one
    cases hv.bl
    exact .inl (.inr ⟨_, rfl, finF a q (.int _)⟩)
  · obtain ⟨v, rfl, hv⟩ := h.one
    cases hv.str
    obtain ⟨g, q⟩ := guard_run q
    obtain ⟨n, hn, q⟩ := optD_run q
    exact .inr ⟨_, _, rfl, hn, of_decide_eq_true g, finF a q (.int _)⟩
  · exact stop_run q
/-- str(int), str(text) -/
def gStr : List D → DM RV
  | [.int i] => guard (decide (i.natAbs.log2 < 1920)) (ok (.str (toString i)))
  | _ => DM.stop
theorem pr_str {K : PySem.W.Frag} : PrC K (fun xs H Q => ∃ i : Int, xs = [.int i] ∧ i.natAbs.log2 < 1920 ∧ Q (.str (toString i)) H) gStr := by
  intro W σ o δ F H vs ds Q a h q
  unfold gStr at q
  split at q
  · obtain ⟨v, rfl, hv⟩ := h.one
    cases hv.int
    obtain ⟨g, q⟩ := guard_run q
    exact ⟨_, rfl, of_decide_eq_true g, finF a q (.str _)⟩
  · exact stop_run q
/-- list(..) -/
def gList : List D → DM RV
  | [.lst ds] => okO (.lst ds)
  | [.tup ds] => okO (.lst ds)
  | [.ro ds] => okO (.lst ds)
  | _ => DM.stop
theorem pr_list {K : PySem.W.Frag} : PrC K (fun xs H Q => ∃ p ys, xs = [.ref p] ∧ (SqL K H p ys ∨ SqT K H p ys) ∧ ∀ l, H l = none → Q (.ref l) (upd H l (.lst ys))) gList := by
  intro W σ o δ F H vs ds Q a h q
  unfold gList at q
  split at q
  · obtain ⟨v, rfl, hv⟩ := h.one
    obtain ⟨p, xs, rfl, h1, l1⟩ := hv.lst a.sr.ex
    exact ⟨_, _, rfl, .inl (SqL.of h1), own_lst a q l1⟩
  · obtain ⟨v, rfl, hv⟩ := h.one
    obtain ⟨p, xs, rfl, h1, l1, _⟩ := hv.tup a.sr.ex
    exact ⟨_, _, rfl, .inr h1, own_lst a q l1⟩
  · obtain ⟨v, rfl, hv⟩ := h.one
    obtain ⟨p, xs, rfl, h1, l1⟩ := hv.ro a.sr.ex
    exact ⟨_, _, rfl, .inl h1, own_lst a q l1⟩
  · exact stop_run q
/-- tuple(..) -/
def gTuple : List D → DM RV
  | [.lst ds] => ok (.tup ds)
  | [.tup ds] => ok (.tup ds)
  | _ => DM.stop
theorem pr_tuple {K : PySem.W.Frag} : PrC K (fun xs H Q => ∃ p ys, xs = [.ref p] ∧ ((SqL K H p ys ∧ ∀ l, H l = none → Q (.ref l) (upd H l (.tup ys))) ∨ (SqT K H p ys ∧ Q (.ref p) H))) gTuple := by
  intro W σ o δ F H vs ds Q a h q
  unfold gTuple at q
  split at q
  · obtain ⟨v, rfl, hv⟩ := h.one
    obtain ⟨p, xs, rfl, h1, l1⟩ := hv.lst a.sr.ex
    exact ⟨_, _, rfl, .inl ⟨SqL.of h1, frz_tup a q l1⟩⟩
  · obtain ⟨v, rfl, hv⟩ := h.one
    obtain ⟨p, xs, rfl, h1, l1, t1⟩ := hv.tup a.sr.ex
    exact ⟨_, _, rfl, .inr ⟨h1, finF a q t1⟩⟩
  · exact stop_run q
/-- all(..) of truth values -/
def bools : List D → Option (List Bool)
  | [] => some []
  | .bl b :: ds => (bools ds).map (b :: ·)
  | _ :: _ => none
theorem bools_of {K : PySem.W.Frag} {F : Hp} : ∀ {vs : List V} {ds : List D} {bs : List Bool}, DatL K F vs ds → bools ds = some bs → vs = bs.map V.bl
  | _, _, _, .nil, e => by cases e; rfl
  | _, _, _, .cons (d := d) (ds := ds) h t, e => by
    cases h with
    | bl b =>
      cases e2 : bools ds with
      | none => simp [bools, e2] at e
      | some cs =>
        simp [bools, e2] at e
        subst e
        rw [List.map_cons, bools_of t e2]
    | _ => cases e
def gAll : List D → DM RV
  | [.lst ds] => optD (bools ds) fun bs => bl (bs.all id)
  | _ => DM.stop
theorem pr_all {K : PySem.W.Frag} : PrC K (rAll K) gAll := by
  intro W σ o δ F H vs ds Q a h q
  unfold gAll at q
  split at q
  · obtain ⟨v, rfl, hv⟩ := h.one
    obtain ⟨bs, hb, q⟩ := optD_run q
    obtain ⟨p, xs, rfl, h1, l1⟩ := hv.lst a.sr.ex
    exact ⟨p, bs, rfl, by rw [← bools_of l1 hb]; exact SqL.of h1, finF a q (.bl _)⟩
  · exact stop_run q
/-- isinstance(x, T) of a built-in T -/
def tyD : D → Option String
  | .non => some "NoneType"
  | .bl _ => some "bool"
  | .int _ => some "int"
  | .str _ => some "str"
  | .tup _ => some "tuple"
  | .lst _ => some "list"
  | .dct _ _ => some "dict"
  | _ => none
def gIsi : List D → DM RV
  | [d, .ty n] => optD (tyD d) fun t => optD (kitB t n) bl
  | _ => DM.stop
theorem Pk.ty {K : PySem.W.Frag} {F H : Hp} {x : V} {n : String} (h : Pk K F H x (.ty n)) : x = .ty n := by
  rcases h with h | ⟨a, _, h⟩
  · cases h; rfl
  · exact h.elim
theorem tyX_of {K : PySem.W.Frag} {F H : Hp} {x : V} {d : D} {t : String} (h : Pk K F H x d) (s : Same F H) (e : tyD d = some t) : TyX K H x (.type t) := by
  cases d with
  | non => cases e; cases h.non; exact .base .non
  | bl b => cases e; cases h.bl; exact .base (.bl b)
  | int b => cases e; cases h.int; exact .base (.int b)
  | str b => cases e; cases h.str; exact .base (.str b)
  | tup ds =>
    cases e
    obtain ⟨a, xs, rfl, h1, _⟩ := h.tup s
    rcases h1 with (h1 | ⟨o, h1⟩) | ⟨o, its, n, hk, hc, _⟩
    · exact .base (.tup h1)
    · exact .fTuple h1
    · exact .kTuple hk hc
  | lst ds =>
    cases e
    obtain ⟨a, xs, rfl, h1, _⟩ := h.lst s
    exact .base (.lst h1)
  | dct ks ds =>
    cases e
    obtain ⟨a, kvs, rfl, h1, _⟩ := h.dct s
    rcases h1 with h1 | ⟨o, h1⟩
    · exact .base (.dK h1)
    · exact .fDict h1
  | _ => cases e
theorem pr_isi {K : PySem.W.Frag} : PrC K (rIsi K) gIsi := by
  intro W σ o δ F H vs ds Q a h q
  unfold gIsi at q
  split at q
  · obtain ⟨t, ht, q⟩ := optD_run q
    obtain ⟨b, hb, q⟩ := optD_run q
    obtain ⟨v, w, rfl, hv, hw⟩ := h.two
    cases hw.ty
    exact ⟨v, _, _, _, b, rfl, .ty _, tyX_of hv a.sr.ex ht, kit_ty hb, finF a q (.bl _)⟩
  · exact stop_run q

/-! ### tests -/
def toB : RV → DM Bool
  | .frz (.bl b) => pure b
  | _ => DM.stop
theorem pt_imp {X : Cx} {e : Expr} {t t' : TT} (h : PT X e t) (hi : ∀ σ H Q, t' σ H Q → t σ H Q) : PT X e t' :=
  ⟨fun pins s σ H Q I q => h.run pins s σ H Q I (hi σ H Q q)⟩
theorem pw_imp {X : Cx} {e : Expr} {t t' : TT} (h : PW X e t) (hi : ∀ σ H Q, t' σ H Q → t σ H Q) : PW X e t' :=
  ⟨fun wh pins s σ H Q I q => h.run wh pins s σ H Q I (hi σ H Q q)⟩
section
variable {X : Cx} {W : WX} {a b c e : Expr} {pos : Pos}
theorem toB_run {K : PySem.W.Frag} {σ : L2.St} {o : Org} {δ : Dl} {F H : Hp} {r : RV} {v : V} {κ β : Type} {R2 : Hp → Hp → Hp → L2.St → Dl → κ → β → Prop} {k : Bool → DM β} {Q : κ → Hp → Prop} {H0 : Hp} {σ' : L2.St} (hv : VR K H0 F H σ' δ v r)
    (q : run K W R2 σ o ((toB r >>= k) δ) Q) : ∃ b, v = .bl b ∧ r = .frz (.bl b) ∧ run K W R2 σ o (k b δ) Q := by
  unfold toB at q
  split at q
  · exact ⟨_, datBl hv, rfl, q⟩
  · exact q.elim
theorem toB_run0 {K : PySem.W.Frag} {σ : L2.St} {o : Org} {δ : Dl} {F H : Hp} {r : RV} {v : V} {Q : Bool → Hp → Prop} {H0 : Hp} {σ' : L2.St} (hv : VR K H0 F H σ' δ v r)
    (q : run K W RB σ o (toB r δ) Q) : ∃ b, v = .bl b ∧ run K W RB σ o ((pure b : DM Bool) δ) Q := by
  unfold toB at q
  split at q
  · exact ⟨_, datBl hv, q⟩
  · exact q.elim
/-- an expression that gives a truth value -/
theorem pb_val {m : DM RV} (h : PD X W e m) (he : ∀ whole, isTrue e X.env whole = (do let v ← whole; standAt e.pos; holding [v] (truthy v)) := by intro _; rfl) : PB X W e (m >>= toB) :=
  pt_imp (pt_val h he) fun σ H Q q => by
    obtain ⟨F, δ, r, q⟩ := tG_out q
    refine tG_mono (go (At.start r) q) fun x H1 ⟨d, δ1, F1, at1, _, hd, q1⟩ => ?_
    obtain ⟨b, rfl, q2⟩ := toB_run0 hd q1
    exact ⟨b, rfl, q2 b F1 H1 at1 rfl⟩
theorem pb_cmp {op : CmpOp} {r : L2.R2} {g : D → D → DM RV} {m1 m2 : DM AV} (ho : OpR X (compareOp op) r) (hr : Pr2 X.K r g) (ha : PV X W a m1) (hb : PV X W b m2) (hm : behindInMarks op b = false) : PB X W (.Compare a [op] [b] pos) (d2 g m1 m2 >>= toB) :=
  pt_imp (pt_cmpR ho ha hb hm) fun σ H Q q => by
    have q' : tD X.K W (d2 g m1 m2) σ H fun x H' => ∃ k, x = .bl k ∧ Q k H' := by
      obtain ⟨F, δ, r, q⟩ := tG_out q
      refine tG_mono (go (At.start r) q) fun x H1 ⟨d, δ1, F1, at1, _, hd, q1⟩ => ?_
      obtain ⟨b, rfl, q2⟩ := toB_run0 hd q1
      exact ⟨b, rfl, q2 b F1 H1 at1 rfl⟩
    exact t2_of hr q'
/-- a op b op' c -/
def dChain (g g' : D → D → DM RV) (m1 m2 m3 : DM AV) : DM RV := do
  let a ← m1
  let b ← m2
  let x ← peek a
  let y ← peek b
  let r ← g x y
  let t ← toB r
  if t then do
    let c ← m3
    let y ← peek b
    let z ← peek c
    g' y z
  else bl false
theorem tChain_of {K : PySem.W.Frag} {r r' : L2.R2} {g g' : D → D → DM RV} {m1 m2 m3 : DM AV} (hr : Pr2 K r g) (hr' : Pr2 K r' g') {σ : L2.St} {H : Hp} {Q : VK} (q : tD K W (dChain g g' m1 m2 m3) σ H Q) : tChain r r' (tV K W m1) (tV K W m2) (tV K W m3) σ H Q := by
  obtain ⟨F, δ, s, q⟩ := tG_out q
  unfold tChain
  refine tG_mono (go (At.start s) q) fun x H1 ⟨a, δ1, F1, at1, _, ha, q1⟩ => ?_
  refine tG_mono (go at1 q1) fun y H2 ⟨b, δ2, F2, at2, at12, hb, q2⟩ => ?_
  obtain ⟨d, hd, q3⟩ := peek_go at2.sr (ha.mono at12.step.exF) q2
  obtain ⟨e, he, q4⟩ := peek_go at2.sr hb q3
  refine hr W σ ⟨δ2, F2, H2⟩ δ2 F2 H2 x y d e _ (.start at2.sr) hd he (run_mono (go1 at2 q4) fun z H3 ⟨r3, δ3, F3, at3, at23, hr3, q5⟩ => ?_)
  obtain ⟨k, rfl, _, q6⟩ := toB_run hr3 q5
  refine ⟨k, rfl, ?_⟩
  cases k with
  | false =>
    rw [if_neg Bool.false_ne_true] at q6 ⊢
    exact finF at3 q6 (.bl _)
  | true =>
    rw [if_pos rfl] at q6 ⊢
    refine tG_mono (go at3 q6) fun w' H4 ⟨c, δ4, F4, at4, at34, hc, q7⟩ => ?_
    obtain ⟨e', he', q8⟩ := peek_go at4.sr ((hb.mono at23.step.exF).mono at34.step.exF) q7
    obtain ⟨f, hf, q9⟩ := peek_go at4.sr hc q8
    exact hr' W σ _ δ4 F4 H4 y w' e' f Q at4 he' hf q9
theorem pd_chain {op op' : CmpOp} {r r' : L2.R2} {g g' : D → D → DM RV} {m1 m2 m3 : DM AV} (ho : OpR X (compareOp op) r) (ho' : OpR X (compareOp op') r') (hr : Pr2 X.K r g) (hr' : Pr2 X.K r' g') (ha : PV X W a m1) (hb : PV X W b m2) (hc : PV X W c m3)
    (hm : lastMarks [op, op'] [b, c] = false := by with_unfolding_all rfl) : PD X W (.Compare a [op, op'] [b, c] pos) (dChain g g' m1 m2 m3) := pe_imp (pe_chain ho ho' ha hb hc hm) fun _ _ _ q => tChain_of hr hr' q
theorem tTest_of {K : PySem.W.Frag} {m : DM RV} {σ : L2.St} {H : Hp} {Q : Bool → Hp → Prop} (q : tB K W (m >>= toB) σ H Q) : tD K W m σ H fun x H' => ∃ k, x = .bl k ∧ Q k H' := by
  obtain ⟨F, δ, r, q⟩ := tG_out q
  refine tG_mono (go (At.start r) q) fun x H1 ⟨d, δ1, F1, at1, _, hd, q1⟩ => ?_
  obtain ⟨b, rfl, q2⟩ := toB_run0 hd q1
  exact ⟨b, rfl, q2 b F1 H1 at1 rfl⟩
theorem pb_chain {op op' : CmpOp} {r r' : L2.R2} {g g' : D → D → DM RV} {m1 m2 m3 : DM AV} (ho : OpR X (compareOp op) r) (ho' : OpR X (compareOp op') r') (hr : Pr2 X.K r g) (hr' : Pr2 X.K r' g') (ha : PV X W a m1) (hb : PV X W b m2) (hc : PV X W c m3)
    (hm : lastMarks [op, op'] [b, c] = false := by with_unfolding_all rfl) : PB X W (.Compare a [op, op'] [b, c] pos) (dChain g g' m1 m2 m3 >>= toB) := pt_imp (pt_chain ho ho' ha hb hc hm) fun _ _ _ q => tChain_of hr hr' (tTest_of q)
/-- truth -/
def truD : D → DM Bool
  | .non => pure false
  | .bl b => pure b
  | .int i => pure (i != 0)
  | .str x => if x.length ≤ sizeLine then pure ((x.length : Int) != 0) else DM.stop
  | .lst ds => pure (!ds.isEmpty)
  | .tup ds => pure (!ds.isEmpty)
  | _ => DM.stop
theorem DatL.empty {K : PySem.W.Frag} {F : Hp} {xs : List V} {ds : List D} (l : DatL K F xs ds) : xs.isEmpty = ds.isEmpty := by cases l <;> rfl
theorem pb_tru {m : DM AV} (h : PV X W e m) (he : ∀ whole, isTrue e X.env whole = (do let v ← whole; standAt e.pos; holding [v] (truthy v)) := by intro _; rfl) : PB X W e (do let a ← m; let d ← peek a; truD d) :=
  pt_imp (pt_truth h he) fun σ H Q q => by
    obtain ⟨F, δ, r, q⟩ := tG_out q
    refine tG_mono (go (At.start r) q) fun x H1 ⟨a, δ1, F1, at1, _, ha, q1⟩ => ?_
    obtain ⟨d, hd, q2⟩ := peek_go at1.sr ha q1
    unfold truD at q2
    split at q2
    · cases hd.non; exact ⟨_, rfl, q2 _ F1 H1 at1 rfl⟩
    · cases hd.bl; exact ⟨_, rfl, q2 _ F1 H1 at1 rfl⟩
    · cases hd.int; exact ⟨_, rfl, q2 _ F1 H1 at1 rfl⟩
    · cases hd.str
      split at q2
      · rename_i hz
        exact ⟨_, ⟨hz, rfl⟩, q2 _ F1 H1 at1 rfl⟩
      · exact q2.elim
    · obtain ⟨p, xs, rfl, h1, l1⟩ := hd.lst at1.sr.ex
      exact ⟨_, .inl ⟨xs, SqL.of h1, rfl⟩, by rw [l1.empty]; exact q2 _ F1 H1 at1 rfl⟩
    · obtain ⟨p, xs, rfl, h1, l1, _⟩ := hd.tup at1.sr.ex
      exact ⟨_, .inr (.inl ⟨xs, h1, rfl⟩), by rw [l1.empty]; exact q2 _ F1 H1 at1 rfl⟩
    · exact q2.elim
variable {rest : List Expr}
theorem tail_runB {K : PySem.W.Frag} {σ : L2.St} {o : Org} {δ : Dl} {F H : Hp} {m : DM Bool} {Q : Bool → Hp → Prop} (at1 : At K σ o δ F H) (q : run K W RB σ o (m δ) Q) : tB K W m σ H Q :=
  tG_mk at1.sr (by
    unfold run at q ⊢
    cases hm : m δ with
    | ok x δ' => rw [hm] at q; exact fun v F' H' p hv => q v F' H' (at1.trans p) hv
    | exc x δ' => rw [hm] at q; exact fun F' H' d p h => q F' H' d (at1.trans p) h
    | stuck => rw [hm] at q; exact q)
theorem pbw_and1 {m : DM Bool} (ha : PB X W a m) : PBw X W (.BoolOp .And [a] pos) m := pw_and1 ha
theorem pbw_or1 {m : DM Bool} (ha : PB X W a m) : PBw X W (.BoolOp .Or [a] pos) m := pw_or1 ha
def dAnd (m1 m2 : DM Bool) : DM Bool := do
  let b ← m1
  if b then m2 else pure false
def dOr (m1 m2 : DM Bool) : DM Bool := do
  let b ← m1
  if b then pure true else m2
def dNot (m : DM Bool) : DM Bool := do
  let b ← m
  pure (!b)
theorem pbw_and {m1 m2 : DM Bool} (ha : PB X W a m1) (hb : PBw X W (.BoolOp .And (b :: rest) pos) m2) : PBw X W (.BoolOp .And (a :: b :: rest) pos) (dAnd m1 m2) := pw_imp (pw_and ha hb) fun σ H Q q => by
  obtain ⟨F, δ, r, q⟩ := tG_out q
  refine tG_mono (go (At.start r) q) fun c H1 ⟨c', δ1, F1, at1, _, hc, q1⟩ => ?_
  cases hc
  cases c with
  | true => rw [if_pos rfl] at q1 ⊢; exact tail_runB at1 q1
  | false => rw [if_neg Bool.false_ne_true] at q1 ⊢; exact q1 _ F1 H1 at1 rfl
theorem pbw_or {m1 m2 : DM Bool} (ha : PB X W a m1) (hb : PBw X W (.BoolOp .Or (b :: rest) pos) m2) : PBw X W (.BoolOp .Or (a :: b :: rest) pos) (dOr m1 m2) := pw_imp (pw_or ha hb) fun σ H Q q => by
  obtain ⟨F, δ, r, q⟩ := tG_out q
  refine tG_mono (go (At.start r) q) fun c H1 ⟨c', δ1, F1, at1, _, hc, q1⟩ => ?_
  cases hc
  cases c with
  | false => rw [if_neg Bool.false_ne_true] at q1 ⊢; exact tail_runB at1 q1
  | true => rw [if_pos rfl] at q1 ⊢; exact q1 _ F1 H1 at1 rfl
theorem pb_not {m : DM Bool} (ha : PB X W a m) : PB X W (.UnaryOp .Not a pos) (dNot m) := pt_imp (pt_not ha) fun σ H Q q => by
  obtain ⟨F, δ, r, q⟩ := tG_out q
  refine tG_mono (go (At.start r) q) fun c H1 ⟨c', δ1, F1, at1, _, hc, q1⟩ => ?_
  cases hc
  exact q1 _ F1 H1 at1 rfl
/-- and, or, not of truth values, as values -/
def dAndV (m1 m2 : DM RV) : DM RV := do
  let r ← m1
  let b ← toB r
  if b then m2 else bl false
def dOrV (m1 m2 : DM RV) : DM RV := do
  let r ← m1
  let b ← toB r
  if b then bl true else m2
def dNotV (m : DM RV) : DM RV := do
  let r ← m
  let b ← toB r
  bl (!b)
theorem run_pure {K : PySem.W.Frag} {σ : L2.St} {o : Org} {δ : Dl} {α κ : Type} {R2 : Hp → Hp → Hp → L2.St → Dl → κ → α → Prop} {m : DM α} {Q : κ → Hp → Prop} (q : run K W R2 σ o (m δ) Q) : run K W R2 σ o ((m >>= fun a => (pure a : DM α)) δ) Q := by
  rw [bind_def]
  cases hm : m δ <;> rw [hm] at q <;> exact q
theorem tail_run {K : PySem.W.Frag} {σ : L2.St} {o : Org} {δ : Dl} {F H : Hp} {m : DM RV} {Q : VK} (at1 : At K σ o δ F H) (q : run K W (VR K) σ o (m δ) Q) : tD K W m σ H Q :=
  tG_mk at1.sr (by
    unfold run at q ⊢
    cases hm : m δ with
    | ok x δ' =>
      rw [hm] at q
      intro v F' H' p hv
      refine q v F' H' (at1.trans p) ?_
      cases x with
      | frz d => exact hv
      | slot i => exact hv
      | own d =>
        obtain ⟨p', e, h0, h⟩ := hv
        refine ⟨p', e, ?_, h⟩
        cases e0 : o.H p' with
        | none => rfl
        | some u =>
          obtain ⟨u', e1⟩ := at1.step.dom _ _ e0
          exact absurd (e1.symm.trans (show H p' = none from h0)) (by simp)
    | exc x δ' => rw [hm] at q; exact fun F' H' d p h => q F' H' d (at1.trans p) h
    | stuck => rw [hm] at q; exact q)
theorem pd_one {op} {m : DM RV} (h : PD X W a m) : PD X W (.BoolOp op [a] pos) m := pe_one h
theorem pd_and {m1 m2 : DM RV} (ha : PD X W a m1) (hb : PD X W (.BoolOp .And (b :: rest) pos) m2) : PD X W (.BoolOp .And (a :: b :: rest) pos) (dAndV m1 m2) := pe_imp (pe_and ha hb) fun σ H Q q => by
  obtain ⟨F, δ, r, q⟩ := tG_out q
  refine tG_mono (go (At.start r) q) fun v H1 ⟨x, δ1, F1, at1, _, hx, q1⟩ => ?_
  obtain ⟨b, rfl, _, q2⟩ := toB_run hx q1
  refine ⟨b, rfl, ?_⟩
  cases b with
  | true => rw [if_pos rfl] at q2 ⊢; exact tail_run at1 q2
  | false => rw [if_neg Bool.false_ne_true] at q2 ⊢; exact finF at1 q2 (.bl _)
theorem pd_or {m1 m2 : DM RV} (ha : PD X W a m1) (hb : PD X W (.BoolOp .Or (b :: rest) pos) m2) : PD X W (.BoolOp .Or (a :: b :: rest) pos) (dOrV m1 m2) := pe_imp (pe_or ha hb) fun σ H Q q => by
  obtain ⟨F, δ, r, q⟩ := tG_out q
  refine tG_mono (go (At.start r) q) fun v H1 ⟨x, δ1, F1, at1, _, hx, q1⟩ => ?_
  obtain ⟨b, rfl, _, q2⟩ := toB_run hx q1
  refine ⟨b, rfl, ?_⟩
  cases b with
  | true => rw [if_pos rfl] at q2 ⊢; exact finF at1 q2 (.bl _)
  | false => rw [if_neg Bool.false_ne_true] at q2 ⊢; exact tail_run at1 q2
theorem pd_not {m : DM RV} (ha : PD X W a m) : PD X W (.UnaryOp .Not a pos) (dNotV m) := pe_imp (pe_not ha) fun σ H Q q => by
  obtain ⟨F, δ, r, q⟩ := tG_out q
  refine tG_mono (go (At.start r) q) fun v H1 ⟨x, δ1, F1, at1, _, hx, q1⟩ => ?_
  obtain ⟨b, rfl, _, q2⟩ := toB_run hx q1
  exact ⟨b, rfl, finF at1 q2 (.bl _)⟩
/-- a if t else b -/
def dIfE (t : DM Bool) (m1 m2 : DM RV) : DM RV := do
  let b ← t
  if b then m1 else m2
theorem pd_if {t : DM Bool} {m1 m2 : DM RV} (hc : PB X W c t) (ha : PD X W a m1) (hb : PD X W b m2) : PD X W (.IfExp c a b pos) (dIfE t m1 m2) := pe_imp (pe_ifExp hc ha hb) fun σ H Q q => by
  obtain ⟨F, δ, r, q⟩ := tG_out q
  refine tG_mono (go (At.start r) q) fun v H1 ⟨x, δ1, F1, at1, _, hx, q1⟩ => ?_
  cases hx
  cases v with
  | true => rw [if_pos rfl] at q1 ⊢; exact tail_run at1 q1
  | false => rw [if_neg Bool.false_ne_true] at q1 ⊢; exact tail_run at1 q1
/-- -a -/
def gNeg : D → DM RV
  | .int i => ok (.int (-i))
  | _ => DM.stop
theorem pd_neg {m : DM AV} (ha : PV X W a m) : PD X W (.UnaryOp .USub a pos) (do let x ← m; let d ← peek x; gNeg d) := pe_imp (pe_un un_neg ha) fun σ H Q q => by
  obtain ⟨F, δ, r, q⟩ := tG_out q
  unfold tUn
  refine tG_mono (go (At.start r) q) fun v H1 ⟨x, δ1, F1, at1, _, hx, q1⟩ => ?_
  obtain ⟨d, hd, q2⟩ := peek_go at1.sr hx q1
  unfold gNeg at q2
  split at q2
  · exact ⟨_, hd.int, finF at1 q2 (.int _)⟩
  · exact stop_run q2
end
end DL

set_option Elab.async false
set_option linter.all false
set_option maxRecDepth 100000
set_option maxHeartbeats 4000000
namespace DL
open PySem PySem.Spec PyProof.Rows L2

/-! ### what is walked -/
structure SrcOk (K : PySem.W.Frag) (ds : List D) (F0 : Hp) (J : It) : Prop where
  go : ∀ (i : Nat) (d : D) (σ : L2.St) (δ : Dl) (F H : Hp), Same F0 F → SR K F H σ δ → ds[i]? = some d → J.go i H ∧ ∀ x H', J.yld i H x H' → ∃ F', Step σ δ F H σ δ F' H' ∧ SR K F' H' σ δ ∧ Dat K F' x d
  stop : ∀ (F H : Hp), Same F0 F → Same F H → J.stop ds.length H
theorem SrcOk.mono {K : PySem.W.Frag} {ds : List D} {F0 F1 : Hp} {J : It} (h : SrcOk K ds F0 J) (s : Same F0 F1) : SrcOk K ds F1 J :=
  ⟨fun i d σ δ F H s1 => h.go i d σ δ F H (s.trans s1), fun F H s1 => h.stop F H (s.trans s1)⟩
abbrev RI (K : PySem.W.Frag) : Hp → Hp → Hp → L2.St → Dl → It → List D → Prop := fun _ F' _ _ _ J ds => SrcOk K ds F' J
abbrev PSrc (X : Cx) (W : WX) (tg e : Expr) (m : DM (List D)) : Prop := PI X tg e (tG X.K W (RI X.K) m)
theorem pi_imp {X : Cx} {tg e : Expr} {t t' : TI} (h : PI X tg e t) (hi : ∀ σ H Q, t' σ H Q → t σ H Q) : PI X tg e t' :=
  ⟨fun pins s σ H Q I q => h.run pins s σ H Q I (hi σ H Q q)⟩
theorem nth_eq {xs ys : List V} {i : Nat} {x : V} (e : xs = ys) (h : ys[i]? = some x) : xs[i]? = some x := by rw [e]; exact h

section
variable {K : PySem.W.Frag}
theorem src_list {F0 : Hp} {a : Addr} {xs : List V} {ds : List D} (h : F0 a = some (.lst xs)) (l : DatL K F0 xs ds) : SrcOk K ds F0 (Itl K a) where
  go := fun i d σ δ F H s r hd => by
    obtain ⟨v, hv, hdat⟩ := l.get hd
    have hH : SqL K H a xs := SqL.of (r.ex _ _ (s _ _ h))
    refine ⟨⟨xs, v, hH, hv⟩, fun x H' ⟨e, y⟩ => ⟨F, ?_⟩⟩
    subst e
    have hx := y xs hH
    rw [hv] at hx; cases hx
    exact ⟨.refl, r, hdat.mono s⟩
  stop := fun F H s r => ⟨xs, SqL.of (r _ _ (s _ _ h)), by rw [l.len]; exact Nat.le_refl _⟩
theorem src_ro {F0 : Hp} {a : Addr} {xs : List V} {ds : List D} (h : SqL K F0 a xs) (l : DatL K F0 xs ds) : SrcOk K ds F0 (Itl K a) where
  go := fun i d σ δ F H s r hd => by
    obtain ⟨v, hv, hdat⟩ := l.get hd
    have hH : SqL K H a xs := L2.Same.seq (s.trans r.ex) h
    refine ⟨⟨xs, v, hH, hv⟩, fun x H' ⟨e, y⟩ => ⟨F, ?_⟩⟩
    subst e
    have hx := y xs hH
    rw [hv] at hx; cases hx
    exact ⟨.refl, r, hdat.mono s⟩
  stop := fun F H s r => ⟨xs, L2.Same.seq (s.trans r) h, by rw [l.len]; exact Nat.le_refl _⟩
theorem src_tup {F0 : Hp} {a : Addr} {xs : List V} {ds : List D} (h : SqT K F0 a xs) (l : DatL K F0 xs ds) : SrcOk K ds F0 (Itt K a) where
  go := fun i d σ δ F H s r hd => by
    obtain ⟨v, hv, hdat⟩ := l.get hd
    have hH : SqT K H a xs := Same.seqT (s.trans r.ex) h
    refine ⟨⟨xs, v, hH, hv⟩, fun x H' ⟨e, y⟩ => ⟨F, ?_⟩⟩
    subst e
    have hx := y xs hH
    rw [hv] at hx; cases hx
    exact ⟨.refl, r, hdat.mono s⟩
  stop := fun F H s r => ⟨xs, Same.seqT (s.trans r) h, by rw [l.len]; exact Nat.le_refl _⟩
def rangeD (lo : Int) (n : Nat) : List D := (List.range n).map fun i => .int (lo + (i : Nat))
theorem src_range {F0 : Hp} (lo : Int) (n : Nat) : SrcOk K (rangeD lo n) F0 (Itr lo n) where
  go := fun i d σ δ F H s r hd => by
    have hi : i < n := by
      have := (List.getElem?_eq_some_iff.mp hd).1
      unfold rangeD at this
      rw [List.length_map, List.length_range] at this
      exact this
    have e : d = .int (lo + (i : Nat)) := by
      unfold rangeD at hd
      rw [List.getElem?_map, List.getElem?_range hi] at hd
      cases hd; rfl
    refine ⟨hi, fun x H' ⟨e1, e2⟩ => ⟨F, ?_⟩⟩
    subst e1 e2 e
    exact ⟨.refl, r, .int _⟩
  stop := fun F H s r => by
    unfold rangeD
    rw [List.length_map, List.length_range]
    exact Nat.le_refl _
def signs (x : Str) : List D := x.cps.toList.map fun c => .str ⟨#[c]⟩
theorem src_str {F0 : Hp} (z : Str) : SrcOk K (signs z) F0 (Its z) where
  go := fun i d σ δ F H s r hd => by
    unfold signs at hd
    rw [List.getElem?_map] at hd
    cases e : z.cps.toList[i]? with
    | none => rw [e] at hd; cases hd
    | some c =>
      rw [e] at hd
      cases hd
      have e2 : z.cps[i]? = some c := by rw [← Array.getElem?_toList]; exact e
      refine ⟨(Array.getElem?_eq_some_iff.mp e2).1, fun x H' ⟨e1, c', hc, hx⟩ => ⟨F, ?_⟩⟩
      rw [e2] at hc; cases hc
      subst e1 hx
      exact ⟨.refl, r, .str _⟩
  stop := fun F H s r => by
    unfold signs
    rw [List.length_map, Array.length_toList]
    exact Nat.le_refl _
end
section
variable {X : Cx} {W : WX} {tg e a b : Expr} {p pos : Pos}
/-- a walked value: a list, a tuple, a text -/
def srcD : D → DM (List D)
  | .lst ds => pure ds
  | .tup ds => pure ds
  | .ro ds => pure ds
  | _ => DM.stop
theorem psrc_list {m : DM D} (h : PF X W e m) : PSrc X W tg e (do let d ← m; match d with | .lst ds => pure ds | .ro ds => pure ds | _ => DM.stop) :=
  pi_imp (pi_list h) fun σ H Q q => by
    obtain ⟨F, δ, r, q⟩ := tG_out q
    unfold iList
    refine tG_mono (go (At.start r) q) fun x H1 ⟨d, δ1, F1, at1, _, hd, q1⟩ => ?_
    split at q1
    · cases hd with
      | lst h1 h2 => exact ⟨_, rfl, ⟨_, SqL.of (at1.sr.ex _ _ h1)⟩, q1 _ F1 H1 at1 (src_list h1 h2)⟩
    · cases hd with
      | ro h1 h2 => exact ⟨_, rfl, ⟨_, L2.Same.seq at1.sr.ex h1⟩, q1 _ F1 H1 at1 (src_ro h1 h2)⟩
    · exact q1.elim
theorem psrc_tup {m : DM D} (h : PF X W e m) : PSrc X W tg e (do let d ← m; match d with | .tup ds => pure ds | _ => DM.stop) :=
  pi_imp (pi_tup h) fun σ H Q q => by
    obtain ⟨F, δ, r, q⟩ := tG_out q
    unfold iTup
    refine tG_mono (go (At.start r) q) fun x H1 ⟨d, δ1, F1, at1, _, hd, q1⟩ => ?_
    split at q1
    · cases hd with
      | tup h1 h2 => exact ⟨_, rfl, ⟨_, Same.seqT at1.sr.ex h1⟩, q1 _ F1 H1 at1 (src_tup h1 h2)⟩
    · exact q1.elim
theorem psrc_str {m : DM D} (h : PF X W e m) : PSrc X W tg e (do let d ← m; match d with | .str z => pure (signs z) | _ => DM.stop) :=
  pi_imp (pi_str h) fun σ H Q q => by
    obtain ⟨F, δ, r, q⟩ := tG_out q
    unfold iStr
    refine tG_mono (go (At.start r) q) fun x H1 ⟨d, δ1, F1, at1, _, hd, q1⟩ => ?_
    split at q1
    · exact ⟨_, datStr hd, q1 _ F1 H1 at1 (src_str _)⟩
    · exact q1.elim
def srcR1 : List D → DM (List D)
  | [.int j] => if -(2 ^ 62) ≤ j ∧ j < 2 ^ 62 then pure (rangeD 0 j.toNat) else DM.stop
  | _ => DM.stop
def srcR2 : List D → DM (List D)
  | [.int i, .int j] => if -(2 ^ 62) ≤ i ∧ i < 2 ^ 62 ∧ -(2 ^ 62) ≤ j ∧ j < 2 ^ 62 then pure (rangeD i (j - i).toNat) else DM.stop
  | _ => DM.stop
theorem DatL.one {K : PySem.W.Frag} {F : Hp} {vs : List V} {d : D} (h : DatL K F vs [d]) : ∃ v, vs = [v] ∧ Dat K F v d := by
  cases h with
  | cons h t => cases t; exact ⟨_, rfl, h⟩
theorem DatL.two {K : PySem.W.Frag} {F : Hp} {vs : List V} {d e : D} (h : DatL K F vs [d, e]) : ∃ v w, vs = [v, w] ∧ Dat K F v d ∧ Dat K F w e := by
  cases h with
  | cons h t =>
    cases t with
    | cons h2 t => cases t; exact ⟨_, _, rfl, h, h2⟩
theorem psrc_r1 {m : DM (List D)} (hg : Gl X "range") (hm : X.mg "range" = none) (ha : PFs X W [a] m) (hs : starEach [a] X.env = [(false, eval a X.env)] := by rfl) : PSrc X W tg (.Call (.Name "range" p) [a] [] pos) (do let ds ← m; srcR1 ds) :=
  pi_imp (pi_range1 hg hm ha hs) fun σ H Q q => by
    obtain ⟨F, δ, r, q⟩ := tG_out q
    unfold iRng1
    refine tG_mono (go (At.start r) q) fun xs H1 ⟨ds, δ1, F1, at1, _, hd, q1⟩ => ?_
    unfold srcR1 at q1
    split at q1
    · obtain ⟨v, rfl, hv⟩ := DatL.one hd
      split at q1
      · rename_i hj
        exact ⟨_, by rw [datInt hv], hj.1, hj.2, q1 _ F1 H1 at1 (src_range _ _)⟩
      · exact q1.elim
    · exact q1.elim
theorem psrc_r2 {m : DM (List D)} (hg : Gl X "range") (hm : X.mg "range" = none) (ha : PFs X W [a, b] m) (hs : starEach [a, b] X.env = [(false, eval a X.env), (false, eval b X.env)] := by rfl) (hs2 : starEach [b] X.env = [(false, eval b X.env)] := by rfl) : PSrc X W tg (.Call (.Name "range" p) [a, b] [] pos) (do let ds ← m; srcR2 ds) :=
  pi_imp (pi_range2 hg hm ha hs hs2) fun σ H Q q => by
    obtain ⟨F, δ, r, q⟩ := tG_out q
    unfold iRng2
    refine tG_mono (go (At.start r) q) fun xs H1 ⟨ds, δ1, F1, at1, _, hd, q1⟩ => ?_
    unfold srcR2 at q1
    split at q1
    · obtain ⟨v, w, rfl, hv, hw⟩ := DatL.two hd
      split at q1
      · rename_i hj
        exact ⟨_, _, by rw [datInt hv, datInt hw], hj, q1 _ F1 H1 at1 (src_range _ _)⟩
      · exact q1.elim
    · exact q1.elim
end

/-! ### targets -/
inductive Tg where
  | nm (i : Nat) | tup (is : List Nat)
def setF (i : Nat) (d : D) (δ : Dl) : Dl := δ.set i (some ⟨d, .frz⟩)
def setFs : List Nat → List D → Dl → Option Dl
  | [], [], δ => some δ
  | i :: is, d :: ds, δ => setFs is ds (setF i d δ)
  | _, _, _ => none
def setTg : Tg → D → Dl → Option Dl
  | .nm i, d, δ => some (setF i d δ)
  | .tup is, .tup ds, δ => setFs is ds δ
  | _, _, _ => none
def gNames : List Nat → TGs
  | [] => gNil
  | i :: is => gCons (gName i) (gNames is)
def gTg (K : PySem.W.Frag) : Tg → TG
  | .nm i => gName i
  | .tup is => gTup K is.length (gNames is)
def Tg.slots : Tg → List Nat
  | .nm i => [i]
  | .tup is => is
section
variable {K : PySem.W.Frag} {F H : Hp} {σ : L2.St} {δ : Dl}
theorem SR.setF (r : SR K F H σ δ) (i : Nat) {v : V} {d : D} (h : Dat K F v d) : SR K F H (σ.set i (some v)) (DL.setF i d δ) := by
  have own' : ∀ j b, OwnsI (σ.set i (some v)) (DL.setF i d δ) j b → OwnsI σ δ j b := fun j b ⟨s, h1, h2, h3⟩ => by
    rcases get_set_some h1 with ⟨rfl, e⟩ | ⟨ne, e⟩
    · cases e; exact absurd rfl h2
    · rw [List.getElem?_set_ne ne] at h3
      exact ⟨s, e, h2, h3⟩
  refine ⟨r.ex, fun j s h1 => ?_, fun j l b h1 h2 => r.inj j l b (own' j b h1) (own' l b h2), by unfold DL.setF; rw [List.length_set, List.length_set]; exact r.len⟩
  rcases get_set_some h1 with ⟨rfl, e⟩ | ⟨ne, e⟩
  · cases e
    have hi : i < δ.length := by
      have := (List.getElem?_eq_some_iff.mp h1).1
      unfold DL.setF at this
      rw [List.length_set] at this
      exact this
    exact ⟨v, by rw [List.getElem?_set_self (by rw [r.len]; exact hi)], h⟩
  · obtain ⟨x, e1, q⟩ := r.sl j s e
    exact ⟨x, by rw [List.getElem?_set_ne ne]; exact e1, q⟩
theorem Step.setF (i : Nat) (v : V) (d : D) : Step σ δ F H (σ.set i (some v)) (DL.setF i d δ) F H where
  exF := fun _ _ h => h
  keep := fun _ _ h _ => ⟨h, fun n => n⟩
  own := fun b ⟨j, s, h1, h2, h3⟩ => by
    rcases get_set_some h1 with ⟨rfl, e⟩ | ⟨ne, e⟩
    · cases e; cases h2
    · rw [List.getElem?_set_ne ne] at h3
      exact .inl ⟨j, s, e, h2, h3⟩
  lent := fun j s h1 h2 => by
    rcases get_set_some h1 with ⟨rfl, e⟩ | ⟨ne, e⟩
    · cases e; cases h2
    · exact ⟨by rw [List.getElem?_set_ne ne], s, e, h2⟩
  dom := fun a o h => ⟨o, h⟩
theorem setFs_ok : ∀ {is : List Nat} {ds : List D} {vs : List V} {σ : L2.St} {δ δ' : Dl} {Q : L2.St → Hp → Prop}, SR K F H σ δ → DatL K F vs ds → setFs is ds δ = some δ' →
    (∀ σ', Step σ δ F H σ' δ' F H → SR K F H σ' δ' → (∀ j, j ∉ is → σ'[j]? = σ[j]?) ∧ σ'.length = σ.length → Q σ' H) → gNames is vs σ H Q
  | [], [], _, σ, δ, δ', Q, r, l, e, k => by
    cases l
    cases e
    exact ⟨rfl, k σ .refl r ⟨fun _ _ => rfl, rfl⟩⟩
  | i :: is, d :: ds, _, σ, δ, δ', Q, r, l, e, k => by
    cases l with
    | @cons v _ vs _ h t =>
      refine ⟨v, vs, rfl, ?_⟩
      refine setFs_ok (r.setF i h) t e fun σ' p r' ⟨hj, hl⟩ => k σ' ((Step.setF i v d).trans p) r' ⟨fun j hn => ?_, by rw [hl, List.length_set]⟩
      rw [hj j fun hm => hn (List.mem_cons_of_mem _ hm), List.getElem?_set_ne fun e => hn (by rw [← e]; exact List.mem_cons_self)]
  | [], _ :: _, _, _, _, _, _, _, _, e, _ => by cases e
  | _ :: _, [], _, _, _, _, _, _, _, e, _ => by cases e
theorem setTg_ok {tg : Tg} {d : D} {v : V} {δ' : Dl} {Q : L2.St → Hp → Prop} (r : SR K F H σ δ) (h : Dat K F v d) (e : setTg tg d δ = some δ')
    (k : ∀ σ', Step σ δ F H σ' δ' F H → SR K F H σ' δ' → (∀ j, j ∉ tg.slots → σ'[j]? = σ[j]?) ∧ σ'.length = σ.length → Q σ' H) : gTg K tg v σ H Q := by
  cases tg with
  | nm i =>
    cases e
    exact k _ (.setF i v d) (r.setF i h) ⟨fun j hn => List.getElem?_set_ne fun e => hn (by rw [e]; exact List.mem_singleton.mpr rfl), List.length_set⟩
  | tup is =>
    cases d with
    | tup ds =>
      have e : setFs is ds δ = some δ' := e
      cases h with
      | @tup a xs _ h1 h2 =>
        have hl : ∀ {is : List Nat} {ds : List D} {δ δ' : Dl}, setFs is ds δ = some δ' → ds.length = is.length := by
          intro is
          induction is with
          | nil => intro ds δ δ' e; cases ds with
            | nil => rfl
            | cons _ _ => cases e
          | cons i is ih => intro ds δ δ' e; cases ds with
            | nil => cases e
            | cons d ds => rw [List.length_cons, List.length_cons, ih e]
        exact ⟨a, xs, rfl, Same.seqT r.ex h1, by rw [h2.len]; exact hl e, setFs_ok r h2 e k⟩
    | _ => cases e
end

/-! ### statements -/
inductive SRes where
  | nx (δ : Dl) | rt (r : RV) (δ : Dl) | bk (δ : Dl) | ct (δ : Dl) | exc (x : Exc) (δ : Dl) | stuck
abbrev DS := Dl → SRes
structure OrgS where
  σ : L2.St
  δ : Dl
  F : Hp
  H : Hp
structure AtS (K : PySem.W.Frag) (o : OrgS) (σ : L2.St) (δ : Dl) (F H : Hp) : Prop where
  step : Step o.σ o.δ o.F o.H σ δ F H
  sr : SR K F H σ δ
/-- a returned value -/
def VT (K : PySem.W.Frag) (o : OrgS) (F H : Hp) (σ : L2.St) (δ : Dl) (v : V) : RV → Prop
  | .frz d => Dat K F v d
  | .slot _ => False
  | .own d => ∃ p, v = .ref p ∧ (Mine o.σ o.δ p ∨ o.H p = none) ∧ F p = none ∧ OwnAt K F H p d ∧ ¬ Owned σ δ p
def runS (K : PySem.W.Frag) (W : WX) (o : OrgS) (r : SRes) (E : Ends) : Prop := match r with
  | .nx δ' => ∀ σ' F' H', AtS K o σ' δ' F' H' → E.nx σ' H'
  | .bk δ' => ∀ σ' F' H', AtS K o σ' δ' F' H' → E.bk σ' H'
  | .ct δ' => ∀ σ' F' H', AtS K o σ' δ' F' H' → E.ct σ' H'
  | .rt r δ' => ∀ v σ' F' H', AtS K o σ' δ' F' H' → VT K o F' H' σ' δ' v r → E.rt v H'
  | .exc x δ' => ∀ σ' F' H' d, AtS K o σ' δ' F' H' → XR F' K d x → W (.ref x.C) (some d) σ' H'
  | .stuck => False
def tS (K : PySem.W.Frag) (W : WX) (m : DS) : TS := fun E σ H => ∃ F δ, SR K F H σ δ ∧ runS K W ⟨σ, δ, F, H⟩ (m δ) E
abbrev PSD (X : Cx) (W : WX) (st : Stmt) (m : DS) : Prop := PS X st (tS X.K W m)
abbrev PSDs (X : Cx) (W : WX) (st : List Stmt) (m : DS) : Prop := PSs X st (tS X.K W m)
theorem ps_imp {X : Cx} {st : Stmt} {t t' : TS} (h : PS X st t) (hi : ∀ E σ H, t' E σ H → t E σ H) : PS X st t' :=
  ⟨fun pins s σ H E I q => h.run pins s σ H E I (hi E σ H q)⟩
theorem pss_imp {X : Cx} {st : List Stmt} {t t' : TS} (h : PSs X st t) (hi : ∀ E σ H, t' E σ H → t E σ H) : PSs X st t' :=
  ⟨fun pins s σ H E I q => h.run pins s σ H E I (hi E σ H q)⟩
section
variable {K : PySem.W.Frag} {W : WX} {o : OrgS} {σ : L2.St} {δ : Dl} {F H : Hp} {E : Ends}
theorem AtS.start (r : SR K F H σ δ) : AtS K ⟨σ, δ, F, H⟩ σ δ F H := ⟨.refl, r⟩
theorem AtS.trans {σ1 σ2 : L2.St} {δ1 δ2 : Dl} {F1 F2 H1 H2 : Hp} (a : AtS K o σ1 δ1 F1 H1) (b : AtS K ⟨σ1, δ1, F1, H1⟩ σ2 δ2 F2 H2) : AtS K o σ2 δ2 F2 H2 := ⟨a.step.trans b.step, b.sr⟩
theorem AtS.of {δ1 : Dl} {F1 H1 : Hp} (a : At K σ ⟨δ, F, H⟩ δ1 F1 H1) : AtS K ⟨σ, δ, F, H⟩ σ δ1 F1 H1 := ⟨a.step, a.sr⟩
theorem VT.trans {σ1 σ2 : L2.St} {δ1 δ2 : Dl} {F1 F2 H1 H2 : Hp} {v : V} {r : RV} (a : AtS K o σ1 δ1 F1 H1) (h : VT K ⟨σ1, δ1, F1, H1⟩ F2 H2 σ2 δ2 v r) : VT K o F2 H2 σ2 δ2 v r := by
  cases r with
  | frz d => exact h
  | slot i => exact h
  | own d =>
    obtain ⟨p, e, h1, h2⟩ := h
    refine ⟨p, e, ?_, h2⟩
    rcases h1 with h1 | h1
    · exact a.step.own p h1
    · cases e0 : o.H p with
      | none => exact .inr rfl
      | some u =>
        exfalso
        obtain ⟨u', e1⟩ := a.step.dom _ _ e0
        exact absurd (e1.symm.trans (show H1 p = none from h1)) (by simp)
/-- the end of a part is the start of the next -/
theorem runS_of {r : SRes} (a : AtS K o σ δ F H) (h : runS K W o r E) : runS K W ⟨σ, δ, F, H⟩ r E := by
  cases r with
  | nx δ' => exact fun σ' F' H' p => h σ' F' H' (a.trans p)
  | bk δ' => exact fun σ' F' H' p => h σ' F' H' (a.trans p)
  | ct δ' => exact fun σ' F' H' p => h σ' F' H' (a.trans p)
  | rt x δ' => exact fun v σ' F' H' p q => h v σ' F' H' (a.trans p) (VT.trans a q)
  | exc x δ' => exact fun σ' F' H' d p q => h σ' F' H' d (a.trans p) q
  | stuck => exact h
theorem tS_at {m : DS} (a : AtS K o σ δ F H) (h : runS K W o (m δ) E) : tS K W m E σ H := ⟨F, δ, a.sr, runS_of a h⟩
/-- an expression, then the rest -/
def dThen {α : Type} (m : DM α) (k : α → DS) : DS := fun δ => match m δ with
  | .ok a δ' => k a δ'
  | .exc x δ' => .exc x δ'
  | .stuck => .stuck
theorem goS {α ι : Type} {R : Hp → Hp → Hp → L2.St → Dl → ι → α → Prop} {m : DM α} {k : α → DS} (r : SR K F H σ δ) (h : runS K W ⟨σ, δ, F, H⟩ (dThen m k δ) E) :
    tG K W R m σ H fun v H2 => ∃ d δ2 F2, AtS K ⟨σ, δ, F, H⟩ σ δ2 F2 H2 ∧ R H F2 H2 σ δ2 v d ∧ runS K W ⟨σ, δ, F, H⟩ (k d δ2) E := by
  refine tG_mk r ?_
  unfold dThen at h
  unfold run
  cases hm : m δ with
  | ok x δ' =>
    rw [hm] at h
    exact fun v F' H' p q => ⟨x, δ', F', .of p, q, h⟩
  | exc x δ' =>
    rw [hm] at h
    exact fun F' H' d p q => h σ F' H' d (.of p) q
  | stuck => rw [hm] at h; exact h
end
section
variable {X : Cx} {W : WX} {st : Stmt} {rest a b : List Stmt} {e c tg : Expr} {pos : Pos}
def dSeq (m1 m2 : DS) : DS := fun δ => match m1 δ with
  | .nx δ' => m2 δ'
  | r => r
theorem psd_nil : PSDs X W [] .nx := pss_imp pss_nil fun E σ H ⟨F, δ, r, q⟩ => q σ F H (.start r)
theorem psd_one {m : DS} (h : PSD X W st m) : PSDs X W [st] m := pss_one h
theorem psd_cons {m1 m2 : DS} (h1 : PSD X W st m1) (h2 : PSDs X W rest m2) : PSDs X W (st :: rest) (dSeq m1 m2) := pss_imp (pss_cons h1 h2) fun E σ H ⟨F, δ, r, q⟩ => by
  refine ⟨F, δ, r, ?_⟩
  unfold dSeq at q
  cases hm : m1 δ with
  | nx δ' => rw [hm] at q; exact fun σ' F' H' p => tS_at p q
  | bk δ' => rw [hm] at q; exact q
  | ct δ' => rw [hm] at q; exact q
  | rt x δ' => rw [hm] at q; exact q
  | exc x δ' => rw [hm] at q; exact q
  | stuck => rw [hm] at q; exact q
theorem psd_pass : PSD X W (.Pass pos) .nx := ps_imp ps_pass fun E σ H ⟨F, δ, r, q⟩ => q σ F H (.start r)
theorem psd_break : PSD X W (.Break pos) .bk := ps_imp ps_break fun E σ H ⟨F, δ, r, q⟩ => q σ F H (.start r)
theorem psd_continue : PSD X W (.Continue pos) .ct := ps_imp ps_continue fun E σ H ⟨F, δ, r, q⟩ => q σ F H (.start r)
/-- e alone -/
def dExpr (m : DM RV) : DS := dThen m fun _ => .nx
theorem psd_expr {m : DM RV} (h : PD X W e m) (hs : swapsWith e none pos.line X.env = pure false := by rfl) : PSD X W (.Expr e pos) (dExpr m) := ps_imp (ps_expr h hs) fun E σ H ⟨F, δ, r, q⟩ =>
  tG_mono (goS r q) fun v H1 ⟨x, δ1, F1, at1, hx, q1⟩ => q1 σ F1 H1 at1
/-- return -/
def retR : RV → DS
  | .frz d => .rt (.frz d)
  | .own d => .rt (.own d)
  | .slot i => fun δ => match δ[i]? with
    | some (some ⟨d, .own⟩) => .rt (.own d) (δ.set i none)
    | some (some ⟨d, .lent⟩) => .rt (.frz d) (δ.set i (some ⟨d, .frz⟩))
    | _ => .stuck
def dRet (m : DM RV) : DS := dThen m retR
theorem SR.drop {K : PySem.W.Frag} {F H : Hp} {σ : L2.St} {δ : Dl} (r : SR K F H σ δ) (i : Nat) : SR K F H σ (δ.set i none) ∧ Step σ δ F H σ (δ.set i none) F H := by
  have own' : ∀ j b, OwnsI σ (δ.set i none) j b → OwnsI σ δ j b := fun j b ⟨s, h1, h2, h3⟩ => by
    rcases get_set_some h1 with ⟨rfl, e⟩ | ⟨ne, e⟩
    · cases e
    · exact ⟨s, e, h2, h3⟩
  refine ⟨⟨r.ex, fun j s h1 => ?_, fun j l b h1 h2 => r.inj j l b (own' j b h1) (own' l b h2), by rw [List.length_set]; exact r.len⟩, ⟨fun _ _ h => h, fun _ _ h _ => ⟨h, fun n => n⟩, fun b ⟨j, s, h1, h2, h3⟩ => ?_, fun j s h1 h2 => ?_, fun a o h => ⟨o, h⟩⟩⟩
  · rcases get_set_some h1 with ⟨rfl, e⟩ | ⟨ne, e⟩
    · cases e
    · exact r.sl j s e
  · rcases get_set_some h1 with ⟨rfl, e⟩ | ⟨ne, e⟩
    · cases e
    · exact .inl ⟨j, s, e, h2, h3⟩
  · rcases get_set_some h1 with ⟨rfl, e⟩ | ⟨ne, e⟩
    · cases e
    · exact ⟨rfl, s, e, h2⟩
theorem psd_ret {m : DM RV} (h : PD X W e m) : PSD X W (.Return (some e) pos) (dRet m) := ps_imp (ps_ret h) fun E σ H ⟨F, δ, r, q⟩ =>
  tG_mono (goS r q) fun v H1 ⟨x, δ1, F1, at1, hx, q1⟩ => by
    cases x with
    | frz d => exact q1 v σ F1 H1 at1 hx
    | own d =>
      obtain ⟨p, e, h0, h1⟩ := hx
      exact q1 v σ F1 H1 at1 ⟨p, e, .inr h0, h1⟩
    | slot i =>
      obtain ⟨hv, s, hs, hk⟩ := hx
      unfold retR at q1
      obtain ⟨d, k⟩ := s
      cases k with
      | frz => exact absurd rfl hk
      | own =>
        simp only [hs] at q1
        obtain ⟨r2, p2⟩ := at1.sr.drop i
        obtain ⟨x, e, sv⟩ := at1.sr.sl i _ hs
        rw [hv] at e; cases e
        obtain ⟨a, rfl, n, ow⟩ := sv.own hk
        refine q1 _ σ F1 H1 ⟨at1.step.trans p2, r2⟩ ⟨a, rfl, at1.step.own a ⟨i, _, hs, rfl, hv⟩, n, ow, fun ⟨j, t, h1, h2, h3⟩ => ?_⟩
        rcases get_set_some h1 with ⟨rfl, e⟩ | ⟨ne, e⟩
        · cases e
        · exact ne (at1.sr.inj i j a ⟨_, hs, hk, hv⟩ ⟨t, e, h2, h3⟩)
      | lent =>
        simp only [hs] at q1
        obtain ⟨F2, r2, p2, hd⟩ := at1.sr.freeze hs hk hv
        exact q1 _ σ F2 H1 ⟨at1.step.trans p2, r2⟩ hd
theorem psd_retN : PSD X W (.Return none pos) (.rt (.frz .non)) := ps_imp ps_retN fun E σ H ⟨F, δ, r, q⟩ => q _ σ F H (.start r) .non
/-- if -/
def dIf (t : DM Bool) (m1 m2 : DS) : DS := dThen t fun b => if b then m1 else m2
theorem psd_if {t : DM Bool} {m1 m2 : DS} (hc : PB X W c t) (ha : PSDs X W a m1) (hb : PSDs X W b m2) : PSD X W (.If c a b pos) (dIf t m1 m2) := ps_imp (ps_if hc ha hb) fun E σ H ⟨F, δ, r, q⟩ =>
  tG_mono (goS r q) fun v H1 ⟨x, δ1, F1, at1, hx, q1⟩ => by
    cases hx
    cases v with
    | true => rw [if_pos rfl] at q1 ⊢; exact tS_at at1 q1
    | false => rw [if_neg Bool.false_ne_true] at q1 ⊢; exact tS_at at1 q1
/-- x = e -/
def setR (i : Nat) : RV → DS
  | .frz d => fun δ => .nx (setF i d δ)
  | .own d => fun δ => .nx (δ.set i (some ⟨d, .own⟩))
  | .slot j => fun δ => match δ[j]? with
    | some (some s) => .nx (setF i s.d (δ.set j (some ⟨s.d, .frz⟩)))
    | _ => .stuck
def dAsg (i : Nat) (m : DM RV) : DS := dThen m (setR i)
theorem SR.setO {K : PySem.W.Frag} {F H : Hp} {σ : L2.St} {δ : Dl} (r : SR K F H σ δ) (i : Nat) {p : Addr} {d : D} (n : F p = none) (ow : OwnAt K F H p d) (no : ¬ Owned σ δ p) : SR K F H (σ.set i (some (.ref p))) (δ.set i (some ⟨d, .own⟩)) := by
  have own' : ∀ j b, OwnsI (σ.set i (some (.ref p))) (δ.set i (some ⟨d, .own⟩)) j b → (i ≠ j ∧ OwnsI σ δ j b) ∨ (i = j ∧ b = p) := fun j b ⟨s, h1, h2, h3⟩ => by
    rcases get_set_some h1 with ⟨rfl, e⟩ | ⟨ne, e⟩
    · rcases get_set_some h3 with ⟨_, e⟩ | ⟨ne, _⟩
      · cases e; exact .inr ⟨rfl, rfl⟩
      · exact absurd rfl ne
    · rw [List.getElem?_set_ne ne] at h3
      exact .inl ⟨ne, s, e, h2, h3⟩
  refine ⟨r.ex, fun j s h1 => ?_, fun j l b h1 h2 => ?_, by rw [List.length_set, List.length_set]; exact r.len⟩
  · rcases get_set_some h1 with ⟨rfl, e⟩ | ⟨ne, e⟩
    · cases e
      have hi : i < δ.length := by
        have := (List.getElem?_eq_some_iff.mp h1).1
        rw [List.length_set] at this
        exact this
      exact ⟨_, by rw [List.getElem?_set_self (by rw [r.len]; exact hi)], p, rfl, n, ow⟩
    · obtain ⟨x, e1, q⟩ := r.sl j s e
      exact ⟨x, by rw [List.getElem?_set_ne ne]; exact e1, q⟩
  · rcases own' j b h1 with ⟨n1, g1⟩ | ⟨e1, e2⟩
    · rcases own' l b h2 with ⟨n2, g2⟩ | ⟨e3, e4⟩
      · exact r.inj j l b g1 g2
      · exact absurd ⟨j, e4 ▸ g1⟩ no
    · rcases own' l b h2 with ⟨n2, g2⟩ | ⟨e3, e4⟩
      · exact absurd ⟨l, e2 ▸ g2⟩ no
      · exact e1.symm.trans e3
theorem setR_ok {K : PySem.W.Frag} {W : WX} {o : OrgS} {E : Ends} {H0 F H : Hp} {σ : L2.St} {δ : Dl} {v : V} {x : RV} (i : Nat) (a : AtS K o σ δ F H) (h0 : ∀ p, H0 p = none → o.H p = none) (hx : VR K H0 F H σ δ v x) (q : runS K W o (setR i x δ) E) : E.nx (σ.set i (some v)) H := by
  cases x with
  | frz d => exact q _ F H ⟨a.step.trans (.setF i v d), a.sr.setF i hx⟩
  | own d =>
    obtain ⟨p, rfl, hp, n, ow, no⟩ := hx
    refine q _ F H ⟨⟨a.step.exF, a.step.keep, fun b ⟨j, s, h1, h2, h3⟩ => ?_, fun j s h1 h2 => ?_, a.step.dom⟩, a.sr.setO i n ow no⟩
    · rcases get_set_some h1 with ⟨rfl, e⟩ | ⟨ne, e⟩
      · rcases get_set_some h3 with ⟨_, e⟩ | ⟨ne, _⟩
        · cases e; exact .inr (h0 _ hp)
        · exact absurd rfl ne
      · rw [List.getElem?_set_ne ne] at h3
        exact a.step.own b ⟨j, s, e, h2, h3⟩
    · rcases get_set_some h1 with ⟨rfl, e⟩ | ⟨ne, e⟩
      · cases e; cases h2
      · rw [List.getElem?_set_ne ne]
        exact a.step.lent j s e h2
  | slot j =>
    obtain ⟨hv, s, hs, hk⟩ := hx
    unfold setR at q
    simp only [hs] at q
    obtain ⟨F2, r2, p2, hd⟩ := a.sr.freeze hs hk hv
    exact q _ F2 H ⟨(a.step.trans p2).trans (.setF i v s.d), r2.setF i hd⟩
theorem psd_asg {i : Nat} {m : DM RV} (he : PD X W e m) (hg : PG X tg (gName i)) (hs : swapsWithSole [tg] e pos.line X.env = pure false := by rfl) (hw : swappedStores [tg] e X.env = pure none := by rfl)
    (h1 : (assignEach [tg] X.env).map (·.2) = [assign tg X.env] := by rfl) : PSD X W (.Assign [tg] e pos) (dAsg i m) := ps_imp (ps_asg he hg hs hw h1) fun E σ H ⟨F, δ, r, q⟩ =>
  tG_mono (goS r q) fun v H1 ⟨x, δ1, F1, at1, hx, q1⟩ => setR_ok i at1 (fun _ z => z) hx q1
/-- a, b = e -/
def dAsgT (tg : Tg) (m : DM D) : DS := dThen m fun d δ => match setTg tg d δ with
  | some δ' => .nx δ'
  | none => .stuck
theorem psd_asgT {t : Tg} {m : DM D} (he : PF X W e m) (hg : PG X tg (gTg X.K t)) (hs : swapsWithSole [tg] e pos.line X.env = pure false := by rfl) (hw : swappedStores [tg] e X.env = pure none := by rfl)
    (h1 : (assignEach [tg] X.env).map (·.2) = [assign tg X.env] := by rfl) : PSD X W (.Assign [tg] e pos) (dAsgT t m) := ps_imp (ps_asg he hg hs hw h1) fun E σ H ⟨F, δ, r, q⟩ => by
    unfold tAsg
    refine tG_mono (goS r q) fun v H1 ⟨d, δ1, F1, at1, hd, q1⟩ => ?_
    cases ht : setTg t d δ1 with
    | none => simp only [ht] at q1; exact q1.elim
    | some δ2 =>
      simp only [ht] at q1
      exact setTg_ok at1.sr hd ht fun σ' p r' _ => q1 σ' F1 H1 ⟨at1.step.trans p, r'⟩
end
end DL

set_option Elab.async false
set_option linter.all false
set_option maxRecDepth 100000
set_option maxHeartbeats 4000000
namespace DL
open PySem PySem.Spec PyProof.Rows L2

/-! ### for -/
def endFor (r : SRes) (k : Dl → SRes) : SRes := match r with
  | .nx δ => k δ
  | .ct δ => k δ
  | .bk δ => .nx δ
  | r => r
def forL (tg : Tg) (body : DS) : List D → DS
  | [] => .nx
  | d :: ds => fun δ => match setTg tg d δ with
    | some δ' => endFor (body δ') (forL tg body ds)
    | none => .stuck
def dFor (src : DM (List D)) (tg : Tg) (body : DS) : DS := dThen src fun ds => forL tg body ds
section
variable {X : Cx} {W : WX} {tg iter c : Expr} {body : List Stmt} {pos : Pos}
theorem runS_end {K : PySem.W.Frag} {o : OrgS} {r : SRes} {k : DS} {E : Ends} (h : runS K W o (endFor r k) E) :
    runS K W o r { E with nx := fun σ H => ∃ δ F, AtS K o σ δ F H ∧ runS K W o (k δ) E, ct := fun σ H => ∃ δ F, AtS K o σ δ F H ∧ runS K W o (k δ) E, bk := E.nx } := by
  cases r with
  | nx δ' => exact fun σ' F' H' p => ⟨δ', F', p, h⟩
  | ct δ' => exact fun σ' F' H' p => ⟨δ', F', p, h⟩
  | bk δ' => exact h
  | rt x δ' => exact h
  | exc x δ' => exact h
  | stuck => exact h
theorem psd_for {t : Tg} {m : DM (List D)} {mb : DS} (hp : PassesOwn (model X.prog X.w) X.A X.env X.xe) (hc : X.calm = true) (hi : PSrc X W tg iter m) (hg : PG X tg (gTg X.K t)) (hb : PSDs X W body mb)
    (hs : ∀ x, foldedSetIterable iter X.env x = pure x := by intro _; rfl) : PSD X W (.For tg iter body [] pos) (dFor m t mb) := ps_imp (ps_for hp hc hi hg hb hs) fun E σ H ⟨F, δ, r, q⟩ => by
  unfold tFor
  refine tG_mono (goS r q) fun J H1 ⟨ds, δ1, F1, at1, src, q1⟩ => ?_
  refine ⟨fun i n σ' H' => ∃ δ' F', AtS X.K ⟨σ, δ, F, H⟩ σ' δ' F' H' ∧ Same F1 F' ∧ n = ds.length - i ∧ i ≤ ds.length ∧ runS X.K W ⟨σ, δ, F, H⟩ (forL t mb (ds.drop i) δ') E, ⟨_, δ1, F1, at1, fun _ _ z => z, rfl, Nat.zero_le _, q1⟩, ?_⟩
  rintro i n σ' H' ⟨δ', F', at', sF, rfl, hi, q'⟩
  by_cases hlt : i < ds.length
  · obtain ⟨d, hd⟩ : ∃ d, ds[i]? = some d := ⟨_, List.getElem?_eq_getElem hlt⟩
    have hdrop : ds.drop i = d :: ds.drop (i + 1) := by
      rw [List.drop_eq_getElem_cons hlt]
      rw [List.getElem?_eq_getElem hlt] at hd
      cases hd; rfl
    obtain ⟨hgo, hy⟩ := src.go i d σ' δ' F' H' sF at'.sr hd
    refine .inr ⟨hgo, fun σ2 H2 => ∃ δ2 F2, AtS X.K ⟨σ', δ', F', H'⟩ σ2 δ2 F2 H2 ∧ runS X.K W ⟨σ, δ, F, H⟩ (forL t mb (ds.drop (i + 1)) δ2) E, fun σ2 H2 ⟨δ2, F2, a2, q2⟩ => ⟨_, ?_, δ2, F2, at'.trans a2, sF.trans a2.step.exF, rfl, hlt, q2⟩, fun x Hx yx => ?_⟩
    · omega
    · rw [hdrop] at q'
      unfold forL at q'
      cases ht : setTg t d δ' with
      | none => simp only [ht] at q'; exact q'.elim
      | some δ2 =>
        simp only [ht] at q'
        obtain ⟨F3, p3, r3, hx⟩ := hy x Hx yx
        refine setTg_ok r3 hx ht fun σ2 p2 r2 _ => ?_
        have a2 : AtS X.K ⟨σ', δ', F', H'⟩ σ2 δ2 F3 Hx := ⟨p3.trans p2, r2⟩
        refine tS_at a2 ?_
        have q2 := runS_of at' (runS_end q')
        have conv : ∀ {σ4 : L2.St} {H4 : Hp} {δ4 : Dl} {F4 : Hp}, AtS X.K ⟨σ', δ', F', H'⟩ σ4 δ4 F4 H4 → runS X.K W ⟨σ, δ, F, H⟩ (forL t mb (ds.drop (i + 1)) δ4) E → ∃ δ2 F2, AtS X.K ⟨σ', δ', F', H'⟩ σ4 δ2 F2 H4 ∧ runS X.K W ⟨σ, δ, F, H⟩ (forL t mb (ds.drop (i + 1)) δ2) E := fun a b => ⟨_, _, a, b⟩
        cases hb : mb δ2 with
        | nx δ5 => rw [hb] at q'; exact fun σ5 F5 H5 p5 => ⟨δ5, F5, p5, q'⟩
        | ct δ5 => rw [hb] at q'; exact fun σ5 F5 H5 p5 => ⟨δ5, F5, p5, q'⟩
        | bk δ5 => rw [hb] at q'; exact fun σ5 F5 H5 p5 => q' σ5 F5 H5 (at'.trans p5)
        | rt x δ5 => rw [hb] at q'; exact fun v σ5 F5 H5 p5 z => q' v σ5 F5 H5 (at'.trans p5) (VT.trans at' z)
        | exc x δ5 => rw [hb] at q'; exact fun σ5 F5 H5 d5 p5 z => q' σ5 F5 H5 d5 (at'.trans p5) z
        | stuck => rw [hb] at q'; exact q'
  · have e : i = ds.length := by omega
    subst e
    rw [List.drop_length] at q'
    exact .inl ⟨src.stop F' H' sF at'.sr.ex, q' σ' F' H' at'⟩

/-! ### while -/
def whileL (t : DM Bool) (body : DS) : Nat → DS
  | 0 => fun _ => .stuck
  | n + 1 => dThen t fun b δ => if b then endFor (body δ) (whileL t body n) else .nx δ
theorem endFor_mono {r : SRes} {k k' : DS} (h : ∀ δ, k δ ≠ .stuck → k' δ = k δ) (hr : endFor r k ≠ .stuck) : endFor r k' = endFor r k := by
  cases r <;> first | rfl | exact h _ hr
theorem whileL_mono {t : DM Bool} {body : DS} : ∀ {n : Nat} {δ : Dl}, whileL t body n δ ≠ .stuck → whileL t body (n + 1) δ = whileL t body n δ
  | 0, δ, h => absurd rfl h
  | n + 1, δ, h => by
    show dThen t _ δ = dThen t _ δ
    unfold whileL at h
    unfold dThen at h ⊢
    cases ht : t δ with
    | ok b δ' =>
      rw [ht] at h
      cases b with
      | true => exact endFor_mono (fun δ hd => whileL_mono hd) h
      | false => rfl
    | exc x δ' => rfl
    | stuck => rfl
theorem whileL_le {t : DM Bool} {body : DS} {n m : Nat} {δ : Dl} (hnm : n ≤ m) (h : whileL t body n δ ≠ .stuck) : whileL t body m δ = whileL t body n δ := by
  induction m with
  | zero => have : n = 0 := by omega
            subst this; rfl
  | succ m ih =>
    by_cases e : n = m + 1
    · subst e; rfl
    · have h1 := ih (by omega)
      rw [whileL_mono (by rw [h1]; exact h), h1]
open Classical in
noncomputable def dWhile (t : DM Bool) (body : DS) : DS := fun δ => if h : ∃ n, whileL t body n δ ≠ .stuck then whileL t body h.choose δ else .stuck
theorem dWhile_eq {t : DM Bool} {body : DS} {n : Nat} {δ : Dl} {r : SRes} (h : whileL t body n δ = r) (hr : r ≠ .stuck) : dWhile t body δ = r := by
  have hn : ∃ n, whileL t body n δ ≠ .stuck := ⟨n, by rw [h]; exact hr⟩
  unfold dWhile
  rw [dif_pos hn]
  rcases Nat.le_total n hn.choose with l | l
  · rw [whileL_le l (by rw [h]; exact hr), h]
  · rw [← h, whileL_le l hn.choose_spec]
theorem dWhile_some {t : DM Bool} {body : DS} {δ : Dl} (h : dWhile t body δ ≠ .stuck) : ∃ n, whileL t body n δ = dWhile t body δ ∧ whileL t body n δ ≠ .stuck := by
  unfold dWhile at h ⊢
  by_cases hn : ∃ n, whileL t body n δ ≠ .stuck
  · rw [dif_pos hn]
    exact ⟨_, rfl, hn.choose_spec⟩
  · rw [dif_neg hn] at h; exact absurd rfl h
theorem psd_while {m : DM Bool} {mb : DS} (hp : PassesOwn (model X.prog X.w) X.A X.env X.xe) (hc : PB X W c m) (hb : PSDs X W body mb) : PSD X W (.While c body [] pos) (dWhile m mb) := ps_imp (ps_while hp hc hb) fun E σ H ⟨F, δ, r, q⟩ => by
  have hns : dWhile m mb δ ≠ .stuck := fun e => by rw [e] at q; exact q
  obtain ⟨n0, e0, _⟩ := dWhile_some hns
  rw [← e0] at q
  refine ⟨fun n σ' H' => tS X.K W (whileL m mb n) E σ' H', ⟨n0, F, δ, r, q⟩, ?_⟩
  rintro n σ' H' ⟨F', δ', r', q'⟩
  cases n with
  | zero => exact q'.elim
  | succ n =>
    unfold whileL at q'
    refine tG_mono (goS r' q') fun b H1 ⟨b', δ1, F1, at1, hb', q1⟩ => ?_
    cases hb'
    cases b with
    | false => rw [if_neg Bool.false_ne_true] at q1 ⊢; exact q1 σ' F1 H1 at1
    | true =>
      rw [if_pos rfl] at q1 ⊢
      refine ⟨fun σ2 H2 => tS X.K W (whileL m mb n) E σ2 H2, fun σ2 H2 qq => ⟨n, Nat.lt_succ_self n, qq⟩, tS_at at1 ?_⟩
      have q2 := runS_end q1
      cases hb : mb δ1 with
      | nx δ5 => rw [hb] at q1; exact fun σ5 F5 H5 p5 => tS_at p5 q1
      | ct δ5 => rw [hb] at q1; exact fun σ5 F5 H5 p5 => tS_at p5 q1
      | bk δ5 => rw [hb] at q1; exact q1
      | rt x δ5 => rw [hb] at q1; exact q1
      | exc x δ5 => rw [hb] at q1; exact q1
      | stuck => rw [hb] at q1; exact q1

/-! ### comprehensions -/
def wipeD (δ : Dl) : List Nat → Dl
  | [] => δ
  | v :: vs => (wipeD δ vs).set v none
def backD (vs : List Nat) (δ0 δ : Dl) : Dl := vs.foldl (fun δ v => δ.set v ((δ0[v]?).getD none)) δ
def lcL (vs : List Nat) (tg : Tg) (test : DM Bool) (elt : DM D) : List D → List D → Dl → Res (List D)
  | [], acc, δ => .ok acc δ
  | d :: ds, acc, δ => match setTg tg d (wipeD δ vs) with
    | none => .stuck
    | some δ1 => match test δ1 with
      | .ok false δ2 => lcL vs tg test elt ds acc δ2
      | .ok true δ2 => match elt δ2 with
        | .ok y δ3 => if acc.length < sizeLine then lcL vs tg test elt ds (acc ++ [y]) δ3 else .stuck
        | _ => .stuck
      | _ => .stuck
def dLc (vs : List Nat) (src : DM (List D)) (tg : Tg) (test : DM Bool) (elt : DM D) : DM RV := do
  let ds ← src
  fun δ => match lcL vs tg test elt ds [] (wipeD δ vs) with
    | .ok acc δ' => .ok (.own (.lst acc)) (backD vs δ (wipeD δ' vs))
    | _ => .stuck
theorem wipeD_length (δ : Dl) : ∀ vs : List Nat, (wipeD δ vs).length = δ.length
  | [] => rfl
  | v :: vs => by unfold wipeD; rw [List.length_set, wipeD_length δ vs]
theorem wipeD_some {δ : Dl} {i : Nat} {x : Sl} : ∀ {vs : List Nat}, (wipeD δ vs)[i]? = some (some x) → δ[i]? = some (some x) ∧ i ∉ vs
  | [], h => ⟨h, by simp⟩
  | v :: vs, h => by
    unfold wipeD at h
    rcases get_set_some h with ⟨_, e⟩ | ⟨ne, e⟩
    · cases e
    · obtain ⟨h1, h2⟩ := wipeD_some e
      exact ⟨h1, by simp [h2, Ne.symm ne]⟩
theorem wipeD_get {δ : Dl} {i : Nat} : ∀ {vs : List Nat}, i ∉ vs → (wipeD δ vs)[i]? = δ[i]?
  | [], _ => rfl
  | v :: vs, h => by
    unfold wipeD
    rw [List.getElem?_set_ne (fun e => h (by rw [e]; exact List.mem_cons_self)), wipeD_get fun hm => h (List.mem_cons_of_mem _ hm)]
theorem wipeD_at {δ : Dl} {i : Nat} : ∀ {vs : List Nat}, i ∈ vs → (wipeD δ vs)[i]? = if i < δ.length then some none else none
  | v :: vs, h => by
    unfold wipeD
    rw [List.getElem?_set]
    by_cases e : v = i
    · subst e
      rw [if_pos rfl, wipeD_length]
    · rw [if_neg e]
      exact wipeD_at ((List.mem_cons.mp h).resolve_left (Ne.symm e))
theorem wipeD_idem (δ : Dl) (vs : List Nat) : wipeD (wipeD δ vs) vs = wipeD δ vs := by
  apply List.ext_getElem?
  intro i
  by_cases hi : i ∈ vs
  · rw [wipeD_at hi, wipeD_at hi, wipeD_length]
  · rw [wipeD_get hi]
theorem wipe_get {σ : L2.St} {i : Nat} : ∀ {vs : List Nat}, i ∉ vs → (wipe σ vs)[i]? = σ[i]?
  | [], _ => rfl
  | v :: vs, h => by
    unfold wipe
    rw [List.getElem?_set_ne (fun e => h (by rw [e]; exact List.mem_cons_self)), wipe_get fun hm => h (List.mem_cons_of_mem _ hm)]
theorem wipe_at {σ : L2.St} {i : Nat} : ∀ {vs : List Nat}, i ∈ vs → (wipe σ vs)[i]? = if i < σ.length then some none else none
  | v :: vs, h => by
    unfold wipe
    rw [List.getElem?_set]
    by_cases e : v = i
    · subst e
      rw [if_pos rfl, wipe_length]
    · rw [if_neg e]
      exact wipe_at ((List.mem_cons.mp h).resolve_left (Ne.symm e))
/-- two slot lists that differ within the block's own names alone -/
theorem wipe_eq {σ σ' : L2.St} {vs : List Nat} (hl : σ'.length = σ.length) (h : ∀ j, j ∉ vs → σ'[j]? = σ[j]?) : wipe σ' vs = wipe σ vs := by
  apply List.ext_getElem?
  intro i
  by_cases hi : i ∈ vs
  · rw [wipe_at hi, wipe_at hi, hl]
  · rw [wipe_get hi, wipe_get hi, h i hi]
theorem backD_length (δ0 : Dl) : ∀ (vs : List Nat) (δ : Dl), (backD vs δ0 δ).length = δ.length
  | [], δ => rfl
  | v :: vs, δ => by
    show (backD vs δ0 (δ.set v ((δ0[v]?).getD none))).length = δ.length
    rw [backD_length δ0 vs, List.length_set]
theorem backD_some {δ0 : Dl} {i : Nat} {x : Sl} : ∀ {vs : List Nat} {δ : Dl}, (backD vs δ0 δ)[i]? = some (some x) → (i ∈ vs ∧ δ0[i]? = some (some x)) ∨ (i ∉ vs ∧ δ[i]? = some (some x))
  | [], δ, h => .inr ⟨by simp, h⟩
  | v :: vs, δ, h => by
    have h : (backD vs δ0 (δ.set v ((δ0[v]?).getD none)))[i]? = some (some x) := h
    rcases backD_some h with ⟨h1, h2⟩ | ⟨h1, h2⟩
    · exact .inl ⟨List.mem_cons_of_mem _ h1, h2⟩
    · rcases get_set_some h2 with ⟨e, h3⟩ | ⟨ne, h3⟩
      · subst e
        refine .inl ⟨List.mem_cons_self, ?_⟩
        cases hd : δ0[v]? with
        | none => rw [hd] at h3; cases h3
        | some y => rw [hd] at h3; exact congrArg some h3.symm
      · exact .inr ⟨by simp [h1, Ne.symm ne], h3⟩
section
variable {K : PySem.W.Frag} {F H : Hp} {σ : L2.St} {δ : Dl}
theorem OwnsI.wipe {vs : List Nat} {j : Nat} {b : Addr} (h : OwnsI (wipe σ vs) (wipeD δ vs) j b) : OwnsI σ δ j b ∧ j ∉ vs := by
  obtain ⟨s, h1, h2, h3⟩ := h
  obtain ⟨g1, g2⟩ := wipeD_some h1
  exact ⟨⟨s, g1, h2, by rw [← wipe_get (σ := σ) g2]; exact h3⟩, g2⟩
theorem SR.wipe (r : SR K F H σ δ) (vs : List Nat) : SR K F H (wipe σ vs) (wipeD δ vs) :=
  ⟨r.ex, fun j s h => by
    obtain ⟨g1, g2⟩ := wipeD_some h
    obtain ⟨x, e, q⟩ := r.sl j s g1
    exact ⟨x, by rw [wipe_get g2]; exact e, q⟩, fun i j a h1 h2 => r.inj i j a h1.wipe.1 h2.wipe.1, by rw [wipe_length, wipeD_length]; exact r.len⟩
theorem Step.wipe (vs : List Nat) : Step σ δ F H (L2.wipe σ vs) (wipeD δ vs) F H where
  exF := fun _ _ h => h
  keep := fun _ _ h _ => ⟨h, fun n => n⟩
  own := fun b ⟨j, s, h1, h2, h3⟩ => by
    obtain ⟨g1, g2⟩ := wipeD_some h1
    exact .inl ⟨j, s, g1, h2, by rw [← wipe_get (σ := σ) g2]; exact h3⟩
  lent := fun j s h1 h2 => by
    obtain ⟨g1, g2⟩ := wipeD_some h1
    exact ⟨wipe_get g2, s, g1, h2⟩
  dom := fun a o h => ⟨o, h⟩
end
/-- behind the block: the names' old slots again -/
theorem back_ok {K : PySem.W.Frag} {F1 H1 F H : Hp} {σ σ' : L2.St} {δ1 δ : Dl} {vs : List Nat} (r1 : SR K F1 H1 σ δ1) (p : Step (wipe σ vs) (wipeD δ1 vs) F1 H1 σ' δ F H) (r : SR K F H σ' δ) (hw : wipe σ' vs = wipe σ vs) :
    SR K F H σ (backD vs δ1 δ) ∧ Step σ δ1 F1 H1 σ (backD vs δ1 δ) F H := by
  have hl : σ'.length = σ.length := by
    have := congrArg List.length hw
    rw [wipe_length, wipe_length] at this
    exact this
  have same : ∀ j, j ∉ vs → σ'[j]? = σ[j]? := fun j hj => by rw [← wipe_get (σ := σ') hj, hw, wipe_get hj]
  -- what a name of the block owned ahead is kept
  have hid : ∀ j s x, j ∈ vs → δ1[j]? = some (some s) → σ[j]? = some (some x) → SlV K F1 H1 x s → SlV K F H x s := fun j s x hj h1 h2 q => q.mono p.exF fun a ea hk => by
    subst ea
    obtain ⟨b, eb, n, ow⟩ := q.own hk
    cases eb
    obtain ⟨u, hu⟩ := ow.some
    have nb : ¬ Owned (wipe σ vs) (wipeD δ1 vs) a := fun ⟨i, hi⟩ => by
      obtain ⟨g1, g2⟩ := hi.wipe
      exact g2 (r1.inj i j a g1 ⟨s, h1, hk, h2⟩ ▸ hj)
    obtain ⟨k1, k2⟩ := p.keep a u hu nb
    exact ⟨k1.trans hu.symm, k2⟩
  have own' : ∀ j b, OwnsI σ (backD vs δ1 δ) j b → (j ∈ vs ∧ OwnsI σ δ1 j b) ∨ (j ∉ vs ∧ OwnsI σ' δ j b) := fun j b ⟨s, h1, h2, h3⟩ => by
    rcases backD_some h1 with ⟨g1, g2⟩ | ⟨g1, g2⟩
    · exact .inl ⟨g1, s, g2, h2, h3⟩
    · exact .inr ⟨g1, s, g2, h2, by rw [same j g1]; exact h3⟩
  have apart : ∀ i j b, i ∈ vs → OwnsI σ δ1 i b → j ∉ vs → OwnsI σ' δ j b → False := fun i j b hi h1 hj h2 => by
    obtain ⟨s, g1, g2, g3⟩ := id h1
    obtain ⟨x, e, q⟩ := r1.sl i s g1
    rw [g3] at e; cases e
    obtain ⟨c, ec, n, ow⟩ := q.own g2
    cases ec
    obtain ⟨u, hu⟩ := ow.some
    rcases p.owned ⟨j, h2⟩ with ⟨l, hl⟩ | z
    · obtain ⟨k1, k2⟩ := hl.wipe
      exact k2 (r1.inj l i b k1 h1 ▸ hi)
    · rw [hu] at z; cases z
  refine ⟨⟨r.ex, fun j s h => ?_, fun i j b h1 h2 => ?_, by rw [backD_length, ← r.len, hl]⟩, ⟨p.exF, fun a o h n => p.keep a o h fun ⟨i, hi⟩ => n ⟨i, hi.wipe.1⟩, fun b ⟨j, s, h1, h2, h3⟩ => ?_, fun j s h1 h2 => ?_, p.dom⟩⟩
  · rcases backD_some h with ⟨g1, g2⟩ | ⟨g1, g2⟩
    · obtain ⟨x, e, q⟩ := r1.sl j s g2
      exact ⟨x, e, hid j s x g1 g2 e q⟩
    · obtain ⟨x, e, q⟩ := r.sl j s g2
      exact ⟨x, by rw [← same j g1]; exact e, q⟩
  · rcases own' i b h1 with ⟨i1, i2⟩ | ⟨i1, i2⟩
    · rcases own' j b h2 with ⟨j1, j2⟩ | ⟨j1, j2⟩
      · exact r1.inj i j b i2 j2
      · exact (apart i j b i1 i2 j1 j2).elim
    · rcases own' j b h2 with ⟨j1, j2⟩ | ⟨j1, j2⟩
      · exact (apart j i b j1 j2 i1 i2).elim
      · exact r.inj i j b i2 j2
  · rcases backD_some h1 with ⟨g1, g2⟩ | ⟨g1, g2⟩
    · exact .inl ⟨j, s, g2, h2, h3⟩
    · rcases p.own b ⟨j, s, g2, h2, by rw [same j g1]; exact h3⟩ with ⟨l, t, k1, k2, k3⟩ | z
      · obtain ⟨m1, m2⟩ := wipeD_some k1
        exact .inl ⟨l, t, m1, k2, by rw [← wipe_get (σ := σ) m2]; exact k3⟩
      · exact .inr z
  · rcases backD_some h1 with ⟨g1, g2⟩ | ⟨g1, g2⟩
    · exact ⟨rfl, s, g2, h2⟩
    · obtain ⟨k1, s0, k2, k3⟩ := p.lent j s g2 h2
      obtain ⟨m1, m2⟩ := wipeD_some k2
      exact ⟨rfl, s0, m1, k3⟩
theorem Step.hold {σ σ' : L2.St} {δ δ' : Dl} {F F' H H' : Hp} {a : Addr} {ob : HO} (p : Step σ δ F H σ' δ' F' H') (h : H a = some ob) (n : ¬ Owned σ δ a) (f : F a = none) : H' a = some ob ∧ F' a = none ∧ ¬ Owned σ' δ' a := by
  obtain ⟨k1, k2⟩ := p.keep a ob h n
  refine ⟨k1, k2 f, fun z => ?_⟩
  rcases p.owned z with z | z
  · exact n z
  · rw [h] at z; cases z
theorem SR.upd {K : PySem.W.Frag} {σ : L2.St} {δ : Dl} {F H : Hp} {a : Addr} (r : SR K F H σ δ) (ob : HO) (n : ¬ Owned σ δ a) (f : F a = none) : SR K F (L2.upd H a ob) σ δ :=
  ⟨fun b u q => by rw [upd_ne (ne_of_none q f)]; exact r.ex _ _ q, fun j s h => by
    obtain ⟨x, e, q⟩ := r.sl j s h
    refine ⟨x, e, q.mono (fun _ _ z => z) fun b eb hk => ⟨upd_ne fun z => n ⟨j, s, h, hk, ?_⟩, fun z => z⟩⟩
    rw [e, eb, z], r.inj, r.len⟩
theorem Step.upd {σ σ' : L2.St} {δ δ' : Dl} {F F' H H' : Hp} {a : Addr} (p : Step σ δ F H σ' δ' F' H') (ob : HO) (h : H a = none) : Step σ δ F H σ' δ' F' (L2.upd H' a ob) :=
  ⟨p.exF, fun b u hb nb => by rw [upd_ne (ne_of_none hb h)]; exact p.keep b u hb nb, p.own, p.lent, fun b u hb => by rw [upd_ne (ne_of_none hb h)]; exact p.dom b u hb⟩
theorem tLc_of {K : PySem.W.Frag} {W : WX} {vs : List Nat} {m : DM (List D)} {t : Tg} {mt : DM Bool} {me : DM D} (hsl : ∀ j ∈ t.slots, j ∈ vs) {σ : L2.St} {H : Hp} {Q : VK} (q : tD K W (dLc vs m t mt me) σ H Q) :
    tLc (tG K W (RI K) m) (gTg K t) (tB K (fun _ _ _ _ => False) mt) (tF K (fun _ _ _ _ => False) me) vs σ H Q := by
  obtain ⟨F, δ, r, q⟩ := tG_out q
  unfold tLc
  refine tG_mono (go (At.start r) q) fun J H1 ⟨ds, δ1, F1, at1, _, src, q1⟩ => ?_
  intro Dl hD
  have hres : ∃ res δe, lcL vs t mt me ds [] (wipeD δ1 vs) = .ok res δe ∧ run K W (VR K) σ ⟨δ, F, H⟩ (.ok (.own (.lst res)) (backD vs δ1 (wipeD δe vs))) Q := by
    cases e : lcL vs t mt me ds [] (wipeD δ1 vs) with
    | ok res δe => simp only [e] at q1; exact ⟨res, δe, rfl, q1⟩
    | exc x δe => simp only [e] at q1; exact q1.elim
    | stuck => simp only [e] at q1; exact q1.elim
  obtain ⟨aD, hFD, h0D, noD⟩ := at1.new hD (.lst [])
  have ww : ∀ τ : L2.St, wipe (wipe τ vs) vs = wipe τ vs := fun τ => wipe_eq (wipe_length _ _) fun j hj => wipe_get hj
  have noW : ∀ {δ' : DL.Dl}, ¬ Owned σ δ' Dl → ¬ Owned (wipe σ vs) (wipeD δ' vs) Dl := fun h ⟨i, hi⟩ => h ⟨i, hi.wipe.1⟩
  refine ⟨fun i n H' => ∃ (δ' : DL.Dl) (F' : Hp) (acc : List D) (xs : List V), n = ds.length - i ∧ i ≤ ds.length ∧ Step (wipe σ vs) (wipeD δ1 vs) F1 H1 (wipe σ vs) (wipeD δ' vs) F' H' ∧ SR K F' H' (wipe σ vs) (wipeD δ' vs) ∧ H' Dl = some (.lst xs) ∧ F' Dl = none ∧ DatL K F' xs acc ∧ ¬ Owned (wipe σ vs) (wipeD δ' vs) Dl ∧
    ∃ res δe, lcL vs t mt me (ds.drop i) acc δ' = .ok res δe ∧ run K W (VR K) σ ⟨δ, F, H⟩ (.ok (.own (.lst res)) (backD vs δ1 (wipeD δe vs))) Q, ⟨_, wipeD δ1 vs, F1, [], [], rfl, Nat.zero_le _, ?_⟩, ?_⟩
  · have e2 : wipeD (wipeD δ1 vs) vs = wipeD δ1 vs := by
      exact wipeD_idem _ _
    rw [e2]
    exact ⟨Step.refl.upd _ hD, (at1.sr.wipe vs).upd _ (noW noD) hFD, upd_same, hFD, .nil, noW noD, hres⟩
  · rintro i n H' ⟨δ', F', acc, xs, rfl, hi, p, r', hx, hF, hl, no, res, δe, hlc, hrun⟩
    by_cases hlt : i < ds.length
    · obtain ⟨d, hd⟩ : ∃ d, ds[i]? = some d := ⟨_, List.getElem?_eq_getElem hlt⟩
      have hdrop : ds.drop i = d :: ds.drop (i + 1) := by
        rw [List.drop_eq_getElem_cons hlt]
        rw [List.getElem?_eq_getElem hlt] at hd
        cases hd; rfl
      rw [hdrop] at hlc
      obtain ⟨hgo, hy⟩ := src.go i d _ _ F' H' p.exF r' hd
      refine .inr ⟨hgo, fun H2 => ∃ (δ' : DL.Dl) (F' : Hp) (acc : List D) (xs : List V), Step (wipe σ vs) (wipeD δ1 vs) F1 H1 (wipe σ vs) (wipeD δ' vs) F' H2 ∧ SR K F' H2 (wipe σ vs) (wipeD δ' vs) ∧ H2 Dl = some (.lst xs) ∧ F' Dl = none ∧ DatL K F' xs acc ∧ ¬ Owned (wipe σ vs) (wipeD δ' vs) Dl ∧
        ∃ res δe, lcL vs t mt me (ds.drop (i + 1)) acc δ' = .ok res δe ∧ run K W (VR K) σ ⟨δ, F, H⟩ (.ok (.own (.lst res)) (backD vs δ1 (wipeD δe vs))) Q, fun H2 ⟨δ2, F2, a2, x2, b1, b2, b3, b4, b5, b6, b7⟩ => ⟨_, by omega, δ2, F2, a2, x2, rfl, hlt, b1, b2, b3, b4, b5, b6, b7⟩, fun x Hx yx => ?_⟩
      obtain ⟨F3, p3, r3, hdx⟩ := hy x Hx yx
      obtain ⟨D3, D3F, D3n⟩ := p3.hold hx no hF
      unfold lcL at hlc
      cases ht : setTg t d (wipeD δ' vs) with
      | none => simp only [ht] at hlc; cases hlc
      | some δ2 =>
        simp only [ht] at hlc
        refine setTg_ok r3 hdx ht fun σ2 p2 r2 ⟨hsame, hlen⟩ => ?_
        have hw2 : wipe σ2 vs = wipe σ vs := by
          rw [wipe_eq hlen fun j hj => hsame j fun hm => hj (hsl j hm), ww]
        obtain ⟨D2, D2F, D2n⟩ := p2.hold D3 D3n D3F
        have p02 := (p.trans p3).trans p2
        refine ⟨hw2, tG_mk r2 ?_⟩
        cases hmt : mt δ2 with
        | exc x δ3 => simp only [hmt] at hlc; cases hlc
        | stuck => simp only [hmt] at hlc; cases hlc
        | ok b δ3 =>
          simp only [hmt] at hlc
          intro b' F4 H4 at4 eb
          subst eb
          obtain ⟨D4, D4F, D4n⟩ := at4.step.hold D2 D2n D2F
          have p04 := p02.trans at4.step
          cases b' with
          | false =>
            rw [if_neg Bool.false_ne_true]
            refine ⟨δ3, F4, acc, xs, ?_, ?_, D4, D4F, hl.mono ((p3.exF.trans p2.exF).trans at4.step.exF), ?_, res, δe, hlc, hrun⟩
            · have := p04.trans (Step.wipe vs)
              rw [hw2] at this; exact this
            · have := at4.sr.wipe vs
              rw [hw2] at this; exact this
            · intro z
              rw [← hw2] at z
              obtain ⟨j, hj⟩ := z
              exact D4n ⟨j, hj.wipe.1⟩
          | true =>
            rw [if_pos rfl]
            refine tG_mk at4.sr ?_
            cases hme : me δ3 with
            | exc x δ5 => simp only [hme] at hlc; cases hlc
            | stuck => simp only [hme] at hlc; cases hlc
            | ok y δ5 =>
              simp only [hme] at hlc
              intro yv F5 H5 at5 hyd
              obtain ⟨D5, D5F, D5n⟩ := at5.step.hold D4 D4n D4F
              have p05 := p04.trans at5.step
              have hl5 := hl.mono (((p3.exF.trans p2.exF).trans at4.step.exF).trans at5.step.exF)
              split at hlc
              · rename_i hz
                refine ⟨xs, D5, by rw [hl.len]; exact hz, δ5, F5, acc ++ [y], xs ++ [yv], ?_, ?_, upd_same, D5F, hl5.app (DatL.single hyd), ?_, res, δe, hlc, hrun⟩
                · have := p05.trans (Step.wipe vs)
                  rw [hw2] at this
                  exact this.upd _ hD
                · have := at5.sr.wipe vs
                  rw [hw2] at this
                  refine this.upd _ (fun z => ?_) D5F
                  rw [← hw2] at z
                  obtain ⟨j, hj⟩ := z
                  exact D5n ⟨j, hj.wipe.1⟩
                · intro z
                  rw [← hw2] at z
                  obtain ⟨j, hj⟩ := z
                  exact D5n ⟨j, hj.wipe.1⟩
              · cases hlc
    · have e : i = ds.length := by omega
      subst e
      rw [List.drop_length] at hlc
      cases hlc
      refine .inl ⟨src.stop F' H' p.exF r'.ex, ?_⟩
      obtain ⟨rb, pb⟩ := back_ok at1.sr p r' (ww σ)
      refine hrun _ F' H' ⟨at1.step.trans pb, rb⟩ ⟨Dl, rfl, h0D, hF, ⟨xs, hx, hl⟩, fun z => ?_⟩
      obtain ⟨j, s, h1, h2, h3⟩ := z
      rcases backD_some h1 with ⟨g1, g2⟩ | ⟨g1, g2⟩
      · exact noD ⟨j, s, g2, h2, h3⟩
      · exact no ⟨j, s, g2, h2, by rw [wipe_get g1]; exact h3⟩
section
variable {X : Cx} {W : WX} {elt tg iter : Expr} {ifs : List Expr} {scope : Scope} {own : List (Str × Nat)} {pos : Pos}
abbrev W0 : WX := fun _ _ _ _ => False
abbrev PTsB (X : Cx) (W : WX) (ifs : List Expr) (m : DM Bool) : Prop := PTs X ifs (tB X.K W m)
theorem pts_imp {X : Cx} {e : List Expr} {t t' : TT} (h : PTs X e t) (hi : ∀ σ H Q, t' σ H Q → t σ H Q) : PTs X e t' :=
  ⟨fun pins s σ H Q I q => h.run pins s σ H Q I (hi σ H Q q)⟩
theorem ptsb_nil {X : Cx} {W : WX} : PTsB X W [] (pure true) := pts_imp pts_nil fun σ H Q q => by
  obtain ⟨F, δ, r, q⟩ := tG_out q
  exact q true F H (.start r) rfl
theorem ptsb_one {X : Cx} {W : WX} {c : Expr} {m : DM Bool} (h : PB X W c m) : PTsB X W [c] m := pts_one h
theorem pd_lc {m : DM (List D)} {t : Tg} {mt : DM Bool} {me : DM D} {g : TG} (hc : X.calm = true) (hN : X.N.Nodup) (hi : PSrc X W tg iter m) (ok : BlkOk X.N X.env.scope scope own)
    (hg : ∀ (s : Shared) (H : Hp) (C : Addr) (cl : List (Str × Addr)) (fp : List Addr), PG (X.blk s H scope (compEnvC scope cl C X.env) fp) tg (gTg X.K t)) (ht : ∀ (s : Shared) (H : Hp) (C : Addr) (cl : List (Str × Addr)) (fp : List Addr), PTsB (X.blk s H scope (compEnvC scope cl C X.env) fp) W0 ifs mt)
    (he : ∀ (s : Shared) (H : Hp) (C : Addr) (cl : List (Str × Addr)) (fp : List Addr), PF (X.blk s H scope (compEnvC scope cl C X.env) fp) W0 elt me) (hsl : ∀ j ∈ t.slots, j ∈ own.map (·.2)) (hs : ∀ x, foldedSetIterable iter X.env x = pure x := by intro _; rfl) :
    PD X W (.ListComp elt [⟨tg, iter, ifs, 0⟩] scope pos) (dLc (own.map (·.2)) m t mt me) :=
  pe_imp (pe_lc hc hN hi ok hg ht he hs) fun σ H Q q => tLc_of hsl q
end
end
end DL

set_option Elab.async false
set_option linter.all false
set_option maxRecDepth 100000
set_option maxHeartbeats 4000000
namespace DL
open PySem PySem.Spec PyProof.Rows L2

/-! ### defs: what they do, by data -/
inductive CRes where
  | ok (r : RV) (as : Dl) | exc (x : Exc) (as : Dl) | stuck
abbrev Sem' := Dl → CRes
def VC (K : PySem.W.Frag) (H0 F H : Hp) (σ : L2.St) (δ : Dl) (v : V) : RV → Prop
  | .slot _ => False
  | r => VR K H0 F H σ δ v r
def spD (K : PySem.W.Frag) (np : Nat) (sem : Sem') : Sp := fun vs H Q E => vs.length = np ∧ ∃ F, ∃ as : Dl, SR K F H (vs.map some) as ∧ (∀ (i : Nat) (s : Sl), as[i]? = some (some s) → s.k ≠ .own) ∧ match sem as with
  | .ok r as' => ∀ v F' H', At K (vs.map some) ⟨as, F, H⟩ as' F' H' → VC K H F' H' (vs.map some) as' v r → Q v H'
  | .exc x as' => ∀ F' H' d, At K (vs.map some) ⟨as, F, H⟩ as' F' H' → XR F' K d x → E (.ref x.C) (some d) H'
  | .stuck => False

/-- as FnOk, where no repr is under way -/
structure FnG (P : Program) (w : World) (K : PySem.W.Frag) (mg : Str → Option Value) (base : Heap) (CX : CXT) (k : Nat) (f : Addr) (fd : FuncData) (ps : List Str) (sp : Sp) : Prop where
  len : ∀ vs H Q E, sp vs H Q E → vs.length = ps.length
  run : ∀ (A : Around) (outer : List Env) (s : Shared) (H : Hp) (args : Args) (us : List Value) (vs : List V) (Q : VK) (E : XK), Room k A → A.guards = some [] → Env0 P w K mg base A outer s H → BindsTo s fd args (ps.zip us) → Vals vs us → sp vs H Q E →
    codeAny (model P w) A (.call (.ref f) args) (CR CX outer P w H s Q E) s
theorem FnG.mono {P : Program} {w : World} {K : PySem.W.Frag} {mg : Str → Option Value} {base : Heap} {CX : CXT} {j k : Nat} {f : Addr} {fd : FuncData} {ps : List Str} {sp : Sp} (F : FnG P w K mg base CX j f fd ps sp) (h : j ≤ k) :
    FnG P w K mg base CX k f fd ps sp := ⟨F.len, fun A outer s H args us vs Q E hr => F.run A outer s H args us vs Q E (hr.mono h)⟩
theorem fn_ofG {CX : CXT} {P : Program} {w : World} {K : PySem.W.Frag} {mg : Str → Option Value} {base : Heap} {k : Nat} {f : Addr} {name qual : Str} {params : Arguments} {body : List Stmt} {scope : Scope} {dV kV doc pm cdv ct oc : Value} {an od : Option Addr}
    {osl : Array (Option Value)} {N ps : List Str} {sp : Sp} (lk : K.lookup f = some ⟨oc, od, .func (PySem.W.fnOf name qual params body scope dV kV doc pm an cdv ct), osl⟩) (hcd : PySem.W.codeIn K cdv qual = true) (S : FnScope N ps scope)
    (len : ∀ vs H Q E, sp vs H Q E → vs.length = ps.length)
    (hbody : ∀ (A : Around) (outer : List Env) (s : Shared) (H : Hp) (vs : List V) (Q : VK) (E : XK), Room k (A.deeper (envOfC qual scope s.heap.objs.size f cdv)) → A.guards = some [] → sp vs H Q E →
      ∃ t, PSs (cxOf CX P w K mg base N qual scope f cdv A outer s H E) body t ∧ t { nx := fun _ H' => Q .non H', rt := Q } (start N vs) H) :
    FnG P w K mg base CX (k + 1) f (PySem.W.fnOf name qual params body scope dV kV doc pm an cdv ct) ps sp := by
  refine ⟨len, fun A outer s H args us vs Q E hr hgd e0 hb r hsp => ?_⟩
  have hl := len _ _ _ _ hsp
  have KX : K.In s.heap := e0.mod.kin.keeps fun b o e => (e0.bs b o e).1
  have lim : s.heap.NoLimit := e0.mod.nolimit.keeps fun b o e => (e0.bs b o e).1
  have hkind : ∀ y ∈ ps.zip us, scope.names.lookup y.1 = some .local ∨ (scope.names.lookup y.1 = some .cell ∧ ((cellsFrom (s.heap.objs.size + 1) scope.names []).lookup y.1).isSome = true) := fun ⟨n, v⟩ hy => by
    rcases S.par n (List.of_mem_zip hy).1 with q | q
    · exact .inl q
    · exact .inr ⟨q, PySem.W.cellsFrom_some _ _ _ (.inl q)⟩
  refine codeAny_call_function hr.depth (KX _ _ lk) rfl S.co S.gen rfl (PySem.W.codeRec_of KX hcd) (hb _ _ _ _ ?_)
  refine wpAny_newFunctionEnv_cells S.kind hkind fun env he s1 x => ?_
  subst he
  refine ⟨lim.keeps x.toInCall.keep, codeAny_func ?_⟩
  obtain ⟨t, ht, hq⟩ := hbody A outer s H vs Q E (hr.deeper _) hgd hsp
  have I : Inv (cxOf CX P w K mg base N qual scope f cdv A outer s H E) [] (start N vs) H s1 := inv_start S hr.hd e0 hl r x
  refine wpAny_mono (ht.run [] s1 (start N vs) H _ I hq) (fun fl s' hs => ?_) fun e s' hs => hs
  have fin : ∀ {σ' : L2.St} {H' : Hp} {v : V} {u : Value}, Inv (cxOf CX P w K mg base N qual scope f cdv A outer s H E) [] σ' H' s' → RelV v u → Q v H' → CE outer P w H s Q u s' :=
    fun {σ' H' v u} J rv q => ⟨v, H', J.os, J.bare, J.base, J.hok, rv, q⟩
  cases fl with
  | ret u =>
    obtain ⟨v, σ', H', J, rv, q⟩ := hs
    exact fin J rv q
  | next =>
    obtain ⟨σ', H', J, q⟩ := hs
    exact fin (v := V.non) (u := Value.none) J rfl q
  | brk =>
    obtain ⟨_, _, _, q⟩ := hs
    exact False.elim q
  | cont =>
    obtain ⟨_, _, _, q⟩ := hs
    exact False.elim q

/-- the slots that are handed back -/
def keepLent : Option Sl → Option Sl
  | some ⟨d, .lent⟩ => some ⟨d, .lent⟩
  | _ => none
def cut (np : Nat) (δ : Dl) : Dl := (List.range np).map fun i => keepLent ((δ[i]?).getD none)
/-- what a def does, from its body -/
def semOf (n np : Nat) (body : DS) : Sem' := fun as => match body (as ++ List.replicate (n - np) none) with
  | .nx δ => .ok (.frz .non) (cut np δ)
  | .rt r δ => .ok r (cut np δ)
  | .exc x δ => .exc x (cut np δ)
  | _ => .stuck

theorem keepLent_some {x : Option Sl} {s : Sl} (h : keepLent x = some s) : x = some s ∧ s.k = .lent := by
  match x, h with
  | some ⟨d, .lent⟩, h => cases h; exact ⟨rfl, rfl⟩
theorem cut_some {np i : Nat} {δ : Dl} {s : Sl} (h : (cut np δ)[i]? = some (some s)) : i < np ∧ δ[i]? = some (some s) ∧ s.k = .lent := by
  unfold cut at h
  rw [List.getElem?_map] at h
  by_cases hi : i < np
  · rw [List.getElem?_range hi] at h
    have h : keepLent ((δ[i]?).getD none) = some s := Option.some.inj h
    obtain ⟨e, k⟩ := keepLent_some h
    refine ⟨hi, ?_, k⟩
    cases hd : δ[i]? with
    | none => rw [hd] at e; cases e
    | some x => rw [hd] at e; exact congrArg some e
  · rw [List.getElem?_eq_none (by rw [List.length_range]; omega)] at h
    cases h
section
variable {K : PySem.W.Frag} {F H F' H' : Hp} {vs : List V} {as δ' : Dl} {N : List Str} {σ' : L2.St}
theorem get_app_some {as : Dl} {n i : Nat} {s : Sl} (h : (as ++ List.replicate n (none : Option Sl))[i]? = some (some s)) : as[i]? = some (some s) ∧ i < as.length := by
  by_cases hi : i < as.length
  · rw [List.getElem?_append_left hi] at h
    exact ⟨h, hi⟩
  · rw [List.getElem?_append_right (by omega), List.getElem?_replicate] at h
    split at h <;> cases h
theorem start_get {i : Nat} (hi : i < vs.length) : (start N vs)[i]? = (vs.map some)[i]? := by
  unfold L2.start
  rw [List.getElem?_append_left (by rw [List.length_map]; exact hi)]
theorem SR.begin (r : SR K F H (vs.map some) as) (hl : vs.length ≤ N.length) : SR K F H (start N vs) (as ++ List.replicate (N.length - vs.length) none) := by
  have el : as.length = vs.length := by rw [← r.len, List.length_map]
  have own' : ∀ j b, OwnsI (start N vs) (as ++ List.replicate (N.length - vs.length) none) j b → OwnsI (vs.map some) as j b := fun j b ⟨s, h1, h2, h3⟩ => by
    obtain ⟨g1, g2⟩ := get_app_some h1
    exact ⟨s, g1, h2, by rw [← start_get (N := N) (by omega)]; exact h3⟩
  refine ⟨r.ex, fun i s h => ?_, fun i j b h1 h2 => r.inj i j b (own' i b h1) (own' j b h2), ?_⟩
  · obtain ⟨g1, g2⟩ := get_app_some h
    obtain ⟨x, e, q⟩ := r.sl i s g1
    exact ⟨x, by rw [start_get (by omega)]; exact e, q⟩
  · unfold L2.start
    rw [List.length_append, List.length_append, List.length_map, List.length_replicate, List.length_replicate, el]
/-- behind a body: the parameters' slots -/
theorem finish (r : SR K F H (vs.map some) as) (hl : vs.length ≤ N.length) (no : ∀ (i : Nat) (s : Sl), as[i]? = some (some s) → s.k ≠ .own)
    (a : AtS K ⟨start N vs, as ++ List.replicate (N.length - vs.length) none, F, H⟩ σ' δ' F' H') : At K (vs.map some) ⟨as, F, H⟩ (cut vs.length δ') F' H' ∧ (∀ p, ¬ Mine (start N vs) (as ++ List.replicate (N.length - vs.length) none) p) ∧ ∀ p, Owned (vs.map some) (cut vs.length δ') p → Owned σ' δ' p := by
  have el : as.length = vs.length := by rw [← r.len, List.length_map]
  have key : ∀ i s, (cut vs.length δ')[i]? = some (some s) → i < vs.length ∧ δ'[i]? = some (some s) ∧ s.k = .lent ∧ σ'[i]? = (vs.map some)[i]? ∧ ∃ s0, as[i]? = some (some s0) ∧ s0.k = .lent := fun i s h => by
    obtain ⟨h1, h2, h3⟩ := cut_some h
    obtain ⟨e, s0, g1, g2⟩ := a.step.lent i s h2 h3
    obtain ⟨g3, _⟩ := get_app_some g1
    exact ⟨h1, h2, h3, by rw [e]; exact start_get h1, s0, g3, g2⟩
  have own' : ∀ j b, OwnsI (vs.map some) (cut vs.length δ') j b → OwnsI σ' δ' j b := fun j b ⟨s, h1, h2, h3⟩ => by
    obtain ⟨k1, k2, k3, k4, _⟩ := key j s h1
    exact ⟨s, k2, h2, by rw [k4]; exact h3⟩
  have ownS : ∀ b, Owned (start N vs) (as ++ List.replicate (N.length - vs.length) none) b → Owned (vs.map some) as b := fun b ⟨j, s, h1, h2, h3⟩ => by
    obtain ⟨g1, g2⟩ := get_app_some h1
    exact ⟨j, s, g1, h2, by rw [← start_get (N := N) (by omega)]; exact h3⟩
  refine ⟨⟨⟨a.step.exF, fun b o h n => a.step.keep b o h fun z => n (ownS b z), fun b ⟨j, s, h1, h2, h3⟩ => ?_, fun i s h1 h2 => ?_, a.step.dom⟩, ⟨a.sr.ex, fun i s h => ?_, fun i j b h1 h2 => a.sr.inj i j b (own' i b h1) (own' j b h2), ?_⟩⟩, fun p ⟨j, s, h1, h2, h3⟩ => ?_, fun p ⟨j, hj⟩ => ⟨j, own' j p hj⟩⟩
  · obtain ⟨_, _, k3, _⟩ := key j s h1
    rw [k3] at h2; cases h2
  · obtain ⟨_, _, _, _, s0, k5, k6⟩ := key i s h1
    exact ⟨rfl, s0, k5, k6⟩
  · obtain ⟨k1, k2, k3, k4, _⟩ := key i s h
    obtain ⟨x, e, q⟩ := a.sr.sl i s k2
    exact ⟨x, by rw [← k4]; exact e, q⟩
  · unfold cut
    rw [List.length_map, List.length_map, List.length_range]
  · obtain ⟨g1, _⟩ := get_app_some h1
    exact no j s g1 h2
end

/-- THE RULE for a def, by its body -/
theorem fnD_of {P : Program} {w : World} {K : PySem.W.Frag} {mg : Str → Option Value} {base : Heap} {k : Nat} {f : Addr} {fd : FuncData} {x qual : Str} {st : Stmt} {N ps : List Str} {mb : DS} (Fn : Fun K x qual st f fd) (S : FnScope N ps (defScope st)) (hN : ps.length ≤ N.length)
    (hbody : ∀ (cdv : Value) (A : Around) (outer : List Env) (s : Shared) (H : Hp) (E : XK), Room k (A.deeper (envOfC qual (defScope st) s.heap.objs.size f cdv)) → A.guards = some [] →
      PSDs (cxOf (L2.CX P w) P w K mg base N qual (defScope st) f cdv A outer s H E) (fun cls d _ H' => E cls d H') (defBody st) mb) :
    FnG P w K mg base (L2.CX P w) (k + 1) f fd ps (spD K ps.length (semOf N.length ps.length mb)) := by
  obtain ⟨oc, od, kV, doc, pm, an, cdv, ct, osl, rfl, lk, hcd⟩ := Fn.ex
  refine fn_ofG lk hcd S (fun vs H Q E h => h.1) fun A outer s H vs Q E hr hgd hsp => ?_
  obtain ⟨hl, F, as, r, no, h⟩ := hsp
  refine ⟨_, hbody cdv A outer s H E hr hgd, F, as ++ List.replicate (N.length - vs.length) none, r.begin (by omega), ?_⟩
  unfold semOf at h
  rw [← hl] at h
  cases hm : mb (as ++ List.replicate (N.length - vs.length) none) with
  | nx δ' =>
    rw [hm] at h
    intro σ' F' H' a
    obtain ⟨a2, _, _⟩ := finish r (by omega) no a
    exact h _ F' H' a2 .non
  | rt x δ' =>
    rw [hm] at h
    intro v σ' F' H' a hv
    obtain ⟨a2, nm, ow⟩ := finish r (by omega) no a
    refine h v F' H' a2 ?_
    cases x with
    | frz d => exact hv
    | slot i => exact hv.elim
    | own d =>
      obtain ⟨p, e, h1, h2, h3, h4⟩ := hv
      exact ⟨p, e, h1.resolve_left (nm p), h2, h3, fun z => h4 (ow p z)⟩
  | exc x δ' =>
    rw [hm] at h
    intro σ' F' H' d a hx
    obtain ⟨a2, _, _⟩ := finish r (by omega) no a
    exact h F' H' d a2 hx
  | bk δ' => rw [hm] at h; exact h.elim
  | ct δ' => rw [hm] at h; exact h.elim
  | stuck => rw [hm] at h; exact h.elim

/-! ### calls -/
def slotsOf : List AV → List Nat
  | [] => []
  | .frz _ :: as => slotsOf as
  | .slot i :: as => i :: slotsOf as
/-- what is handed to a def; the kinds of the slots that are lent -/
def argsOf (δ : Dl) : List AV → Option (Dl × List Ow)
  | [] => some ([], [])
  | .frz d :: as => (argsOf δ as).map fun r => (some ⟨d, .frz⟩ :: r.1, .frz :: r.2)
  | .slot i :: as => match δ[i]? with
    | some (some ⟨_, .frz⟩) => none
    | some (some s) => (argsOf δ as).map fun r => (some ⟨s.d, .lent⟩ :: r.1, s.k :: r.2)
    | _ => none
def retS (k : Ow) : Option Sl → Option Sl
  | some ⟨d, .lent⟩ => some ⟨d, k⟩
  | _ => none
/-- what was lent comes back -/
def backS : List AV → List Ow → Dl → Dl → Dl
  | .frz _ :: as, _ :: ks, _ :: cs, δ => backS as ks cs δ
  | .slot i :: as, k :: ks, c :: cs, δ => backS as ks cs (δ.set i (retS k c))
  | _, _, _, δ => δ
def callS (sem : Sem') (as : List AV) : DM RV := fun δ => match argsOf δ as with
  | none => .stuck
  | some (cs, ks) => if (slotsOf as).Nodup then match sem cs with
      | .ok r cs' => .ok r (backS as ks cs' δ)
      | .exc x cs' => .exc x (backS as ks cs' δ)
      | .stuck => .stuck
    else .stuck
theorem backS_length : ∀ (as : List AV) (ks : List Ow) (cs δ : Dl), (backS as ks cs δ).length = δ.length
  | [], _, _, _ => by unfold backS; rfl
  | .frz _ :: as, [], _, _ => by unfold backS; rfl
  | .frz _ :: as, _ :: ks, [], _ => by unfold backS; rfl
  | .frz _ :: as, _ :: ks, _ :: cs, δ => by unfold backS; exact backS_length as ks cs δ
  | .slot _ :: as, [], _, _ => by unfold backS; rfl
  | .slot _ :: as, _ :: ks, [], _ => by unfold backS; rfl
  | .slot i :: as, k :: ks, c :: cs, δ => by unfold backS; rw [backS_length as ks cs, List.length_set]
theorem retS_some {k : Ow} {c : Option Sl} {s : Sl} (h : retS k c = some s) : c = some ⟨s.d, .lent⟩ ∧ s.k = k := by
  match c, h with
  | some ⟨d, .lent⟩, h => cases h; exact ⟨rfl, rfl⟩
theorem backS_some : ∀ {as : List AV} {ks : List Ow} {cs δ : Dl} {i : Nat} {s : Sl}, ks.length = as.length → cs.length = as.length → (backS as ks cs δ)[i]? = some (some s) →
    (i ∉ slotsOf as ∧ δ[i]? = some (some s)) ∨ ∃ j : Nat, as[j]? = some (.slot i) ∧ ks[j]? = some s.k ∧ cs[j]? = some (some ⟨s.d, .lent⟩)
  | [], _, _, _, _, _, _, _, h => .inl ⟨by simp [slotsOf], by unfold backS at h; exact h⟩
  | .frz _ :: as, k :: ks, c :: cs, δ, i, s, h1, h2, h => by
    unfold backS at h
    rcases backS_some (by simpa using h1) (by simpa using h2) h with ⟨g1, g2⟩ | ⟨j, g1, g2, g3⟩
    · exact .inl ⟨g1, g2⟩
    · exact .inr ⟨j + 1, by simpa using g1, by simpa using g2, by simpa using g3⟩
  | .slot i0 :: as, k :: ks, c :: cs, δ, i, s, h1, h2, h => by
    unfold backS at h
    rcases backS_some (by simpa using h1) (by simpa using h2) h with ⟨g1, g2⟩ | ⟨j, g1, g2, g3⟩
    · rcases get_set_some g2 with ⟨rfl, e⟩ | ⟨ne, e⟩
      · obtain ⟨e1, e2⟩ := retS_some e.symm
        exact .inr ⟨0, rfl, by rw [e2]; rfl, by rw [e1]; rfl⟩
      · exact .inl ⟨by simp [slotsOf, g1, Ne.symm ne], e⟩
    · exact .inr ⟨j + 1, by simpa using g1, by simpa using g2, by simpa using g3⟩
theorem argsOf_len : ∀ {as : List AV} {δ cs : Dl} {ks : List Ow}, argsOf δ as = some (cs, ks) → cs.length = as.length ∧ ks.length = as.length
  | [], _, _, _, h => by cases h; exact ⟨rfl, rfl⟩
  | .frz d :: as, δ, cs, ks, h => by
    unfold argsOf at h
    cases e : argsOf δ as with
    | none => rw [e] at h; cases h
    | some r =>
      rw [e] at h; cases h
      obtain ⟨l1, l2⟩ := argsOf_len e
      exact ⟨congrArg Nat.succ l1, congrArg Nat.succ l2⟩
  | .slot i :: as, δ, cs, ks, h => by
    unfold argsOf at h
    split at h
    · cases h
    · cases e : argsOf δ as with
      | none => rw [e] at h; cases h
      | some r =>
        rw [e] at h; cases h
        obtain ⟨l1, l2⟩ := argsOf_len e
        exact ⟨congrArg Nat.succ l1, congrArg Nat.succ l2⟩
    · cases h
theorem argsOf_get : ∀ {as : List AV} {δ cs : Dl} {ks : List Ow} {j : Nat} {a : AV}, argsOf δ as = some (cs, ks) → as[j]? = some a →
    (∃ d, a = .frz d ∧ cs[j]? = some (some ⟨d, .frz⟩)) ∨ ∃ i s, a = .slot i ∧ δ[i]? = some (some s) ∧ s.k ≠ .frz ∧ cs[j]? = some (some ⟨s.d, .lent⟩) ∧ ks[j]? = some s.k
  | .frz d :: as, δ, cs, ks, j, a, h, ha => by
    unfold argsOf at h
    cases e : argsOf δ as with
    | none => rw [e] at h; cases h
    | some r =>
      rw [e] at h; cases h
      cases j with
      | zero => cases ha; exact .inl ⟨d, rfl, rfl⟩
      | succ j => have z := argsOf_get (as := as) (j := j) (a := a) e (by simpa using ha); simpa using z
  | .slot i :: as, δ, cs, ks, j, a, h, ha => by
    unfold argsOf at h
    split at h
    · cases h
    · rename_i s hne hs
      cases e : argsOf δ as with
      | none => rw [e] at h; cases h
      | some r =>
        rw [e] at h; cases h
        cases j with
        | zero =>
          cases ha
          exact .inr ⟨i, s, rfl, hs, fun z => hne s.d (by obtain ⟨d, k⟩ := s; cases z; rfl), rfl, rfl⟩
        | succ j => have z := argsOf_get (as := as) (j := j) (a := a) e (by simpa using ha); simpa using z
    · cases h
theorem ARs.len {K : PySem.W.Frag} {F : Hp} {σ : L2.St} : ∀ {vs : List V} {as : List AV}, ARs K F σ vs as → vs.length = as.length
  | [], [], _ => rfl
  | v :: vs, a :: as, h => congrArg Nat.succ (ARs.len h.2)
  | [], _ :: _, h => h.elim
  | _ :: _, [], h => h.elim
theorem ARs.get {K : PySem.W.Frag} {F : Hp} {σ : L2.St} : ∀ {vs : List V} {as : List AV} {j : Nat} {a : AV}, ARs K F σ vs as → as[j]? = some a → ∃ v, vs[j]? = some v ∧ AR K F σ v a
  | v :: vs, b :: as, 0, a, h, e => by cases e; exact ⟨v, rfl, h.1⟩
  | v :: vs, b :: as, j + 1, a, h, e => by
    obtain ⟨w, h1, h2⟩ := ARs.get h.2 (by simpa using e)
    exact ⟨w, by simpa using h1, h2⟩
  | [], _ :: _, _, _, h, _ => h.elim
theorem slots_uniq : ∀ {as : List AV} {i j l : Nat}, (slotsOf as).Nodup → as[j]? = some (.slot i) → as[l]? = some (.slot i) → j = l
  | .frz _ :: as, i, 0, l, n, h1, h2 => by cases h1
  | .frz _ :: as, i, j + 1, 0, n, h1, h2 => by cases h2
  | .frz _ :: as, i, j + 1, l + 1, n, h1, h2 => congrArg Nat.succ (slots_uniq (as := as) n (by simpa using h1) (by simpa using h2))
  | .slot i0 :: as, i, 0, 0, n, h1, h2 => rfl
  | .slot i0 :: as, i, 0, l + 1, n, h1, h2 => by
    cases h1
    exact absurd (mem_slots (as := as) (j := l) (by simpa using h2)) (List.nodup_cons.mp n).1
  | .slot i0 :: as, i, j + 1, 0, n, h1, h2 => by
    cases h2
    exact absurd (mem_slots (as := as) (j := j) (by simpa using h1)) (List.nodup_cons.mp n).1
  | .slot i0 :: as, i, j + 1, l + 1, n, h1, h2 => congrArg Nat.succ (slots_uniq (as := as) (List.nodup_cons.mp n).2 (by simpa using h1) (by simpa using h2))
where
  mem_slots : ∀ {as : List AV} {i j : Nat}, as[j]? = some (.slot i) → i ∈ slotsOf as
  | .frz _ :: as, i, 0, h => by cases h
  | .frz _ :: as, i, j + 1, h => mem_slots (as := as) (j := j) (by simpa using h)
  | .slot i0 :: as, i, 0, h => by cases h; exact List.mem_cons_self
  | .slot i0 :: as, i, j + 1, h => List.mem_cons_of_mem _ (mem_slots (as := as) (j := j) (by simpa using h))
section
variable {K : PySem.W.Frag} {W : WX} {σ : L2.St} {o : Org} {δ : Dl} {F H : Hp} {vs : List V} {as : List AV} {cs : Dl} {ks : List Ow}
theorem call_in (r : SR K F H σ δ) (ha : ARs K F σ vs as) (e : argsOf δ as = some (cs, ks)) (nd : (slotsOf as).Nodup) :
    SR K F H (vs.map some) cs ∧ (∀ (i : Nat) (s : Sl), cs[i]? = some (some s) → s.k ≠ .own) ∧ (∀ b, Owned (vs.map some) cs b → ∃ i, i ∈ slotsOf as ∧ OwnsI σ δ i b) := by
  obtain ⟨l1, l2⟩ := argsOf_len e
  have key : ∀ (j : Nat) (s : Sl), cs[j]? = some (some s) → ∃ v, vs[j]? = some v ∧ ((s.k = .frz ∧ Dat K F v s.d) ∨ ∃ i s0, as[j]? = some (.slot i) ∧ δ[i]? = some (some s0) ∧ s0.k ≠ .frz ∧ s = ⟨s0.d, .lent⟩ ∧ σ[i]? = some (some v)) := fun j s h => by
    have hj : j < as.length := by
      have := (List.getElem?_eq_some_iff.mp h).1
      omega
    obtain ⟨a, haj⟩ : ∃ a, as[j]? = some a := ⟨_, List.getElem?_eq_getElem hj⟩
    obtain ⟨v, hv, har⟩ := ha.get haj
    refine ⟨v, hv, ?_⟩
    rcases argsOf_get e haj with ⟨d, rfl, g⟩ | ⟨i, s0, rfl, g1, g2, g3, g4⟩
    · rw [g] at h; cases h
      exact .inl ⟨rfl, har⟩
    · rw [g3] at h; cases h
      exact .inr ⟨i, s0, haj, g1, g2, rfl, har⟩
  have own' : ∀ j b, OwnsI (vs.map some) cs j b → ∃ i, as[j]? = some (.slot i) ∧ OwnsI σ δ i b := fun j b ⟨s, h1, h2, h3⟩ => by
    obtain ⟨v, hv, ⟨k, _⟩ | ⟨i, s0, g1, g2, g3, rfl, g4⟩⟩ := key j s h1
    · exact absurd k h2
    · rw [List.getElem?_map, hv] at h3
      cases h3
      exact ⟨i, g1, s0, g2, g3, g4⟩
  refine ⟨⟨r.ex, fun j s h => ?_, fun i j b h1 h2 => ?_, by rw [List.length_map, ha.len, l1]⟩, fun j s h z => ?_, fun b ⟨j, hj⟩ => ?_⟩
  · obtain ⟨v, hv, ⟨k, hd⟩ | ⟨i, s0, g1, g2, g3, rfl, g4⟩⟩ := key j s h
    · refine ⟨v, by rw [List.getElem?_map, hv]; rfl, ?_⟩
      obtain ⟨d, k'⟩ := s
      cases k
      exact hd
    · refine ⟨v, by rw [List.getElem?_map, hv]; rfl, ?_⟩
      obtain ⟨x, e1, q⟩ := r.sl i s0 g2
      rw [g4] at e1; cases e1
      exact q.own g3
  · obtain ⟨i1, a1, b1⟩ := own' i b h1
    obtain ⟨i2, a2, b2⟩ := own' j b h2
    have := r.inj i1 i2 b b1 b2
    subst this
    exact slots_uniq nd a1 a2
  · obtain ⟨v, hv, ⟨k, hd⟩ | ⟨i, s0, g1, g2, g3, rfl, g4⟩⟩ := key j s h
    · rw [k] at z; cases z
    · cases z
  · obtain ⟨i, a1, b1⟩ := own' j b hj
    exact ⟨i, slots_uniq.mem_slots a1, b1⟩
theorem call_out {cs' : Dl} {F' H' : Hp} (a : At K σ o δ F H) (ha : ARs K F σ vs as) (e : argsOf δ as = some (cs, ks)) (nd : (slotsOf as).Nodup) (b : At K (vs.map some) ⟨cs, F, H⟩ cs' F' H') :
    At K σ o (backS as ks cs' δ) F' H' ∧ ∀ p, Owned σ (backS as ks cs' δ) p → Owned σ δ p := by
  obtain ⟨l1, l2⟩ := argsOf_len e
  have l3 : cs'.length = as.length := by rw [← b.sr.len, List.length_map, ha.len]
  obtain ⟨ri, _, ow⟩ := call_in a.sr ha e nd
  have key : ∀ (i : Nat) (s : Sl), (backS as ks cs' δ)[i]? = some (some s) → (i ∉ slotsOf as ∧ δ[i]? = some (some s)) ∨
      ∃ (j : Nat) (s0 : Sl) (v : V), as[j]? = some (.slot i) ∧ δ[i]? = some (some s0) ∧ s0.k ≠ .frz ∧ s0.k = s.k ∧ cs'[j]? = some (some ⟨s.d, .lent⟩) ∧ vs[j]? = some v ∧ σ[i]? = some (some v) := fun i s h => by
    rcases backS_some l2 l3 h with g | ⟨j, g1, g2, g3⟩
    · exact .inl g
    · obtain ⟨v, hv, har⟩ := ha.get g1
      rcases argsOf_get e g1 with ⟨d, z, _⟩ | ⟨i', s0, z, h1, h2, h3, h4⟩
      · cases z
      · cases z
        rw [g2] at h4
        exact .inr ⟨j, s0, v, g1, h1, h2, (Option.some.inj h4).symm, g3, hv, har⟩
  have own' : ∀ i p, OwnsI σ (backS as ks cs' δ) i p → OwnsI σ δ i p := fun i p ⟨s, h1, h2, h3⟩ => by
    rcases key i s h1 with ⟨_, g⟩ | ⟨j, s0, v, g1, g2, g3, g4, g5, g6, g7⟩
    · exact ⟨s, g, h2, h3⟩
    · exact ⟨s0, g2, g3, h3⟩
  refine ⟨⟨⟨a.step.exF.trans b.step.exF, fun c u hc nc => ?_, fun p ⟨i, s, h1, h2, h3⟩ => ?_, fun i s h1 h2 => ?_, fun c u hc => ?_⟩, ⟨b.sr.ex, fun i s h => ?_, fun i j p h1 h2 => a.sr.inj i j p (own' i p h1) (own' j p h2), by rw [backS_length]; exact a.sr.len⟩⟩, fun p ⟨i, hi⟩ => ⟨i, own' i p hi⟩⟩
  · obtain ⟨k1, k2⟩ := a.step.keep c u hc nc
    have nb : ¬ Owned (vs.map some) cs c := fun z => by
      obtain ⟨i, _, hi⟩ := ow c z
      rcases a.step.owned ⟨i, hi⟩ with z | z
      · exact nc z
      · rw [hc] at z; cases z
    obtain ⟨k3, k4⟩ := b.step.keep c u k1 nb
    exact ⟨k3, fun z => k4 (k2 z)⟩
  · rcases key i s h1 with ⟨_, g⟩ | ⟨j, s0, v, g1, g2, g3, g4, g5, g6, g7⟩
    · exact a.step.own p ⟨i, s, g, h2, h3⟩
    · exact a.step.own p ⟨i, s0, g2, g4.trans h2, h3⟩
  · rcases key i s h1 with ⟨_, g⟩ | ⟨j, s0, v, g1, g2, g3, g4, g5, g6, g7⟩
    · exact a.step.lent i s g h2
    · exact a.step.lent i s0 g2 (g4.trans h2)
  · obtain ⟨u', h'⟩ := a.step.dom c u hc
    exact b.step.dom c u' h'
  · rcases key i s h with ⟨ni, g⟩ | ⟨j, s0, v, g1, g2, g3, g4, g5, g6, g7⟩
    · obtain ⟨x, e1, q⟩ := a.sr.sl i s g
      refine ⟨x, e1, q.mono b.step.exF fun c ec hk => ?_⟩
      subst ec
      obtain ⟨c', ec, n, own⟩ := q.own hk
      cases ec
      obtain ⟨u, hu⟩ := own.some
      have nb : ¬ Owned (vs.map some) cs c := fun z => by
        obtain ⟨i', hi', ho⟩ := ow c z
        exact ni (a.sr.inj i i' c ⟨s, g, hk, e1⟩ ho ▸ hi')
      obtain ⟨k3, k4⟩ := b.step.keep c u hu nb
      exact ⟨k3.trans hu.symm, k4⟩
    · obtain ⟨x, e1, q⟩ := b.sr.sl j _ g5
      rw [List.getElem?_map, g6] at e1
      cases e1
      refine ⟨v, g7, ?_⟩
      obtain ⟨d, k⟩ := s
      cases k with
      | frz => exact absurd g4 g3
      | own => exact q
      | lent => exact q
/-- a def's promise is given what it asks -/
theorem call_sp {np : Nat} {sem : Sem'} {Q : VK} (a : At K σ o δ F H) (ha : ARs K F σ vs as) (q : run K W (VR K) σ o (callS sem as δ) Q) (hl : vs.length = np) : spD K np sem vs H Q (WE W σ) := by
  unfold callS at q
  cases e : argsOf δ as with
  | none => rw [e] at q; exact q.elim
  | some c =>
    obtain ⟨cs, ks⟩ := c
    simp only [e] at q
    split at q
    · rename_i nd
      obtain ⟨r, no, ow⟩ := call_in a.sr ha e nd
      refine ⟨hl, F, cs, r, no, ?_⟩
      cases hs : sem cs with
      | ok x cs' =>
        simp only [hs] at q
        intro v F' H' b hv
        obtain ⟨a2, ow2⟩ := call_out a ha e nd b
        refine q v F' H' a2 ?_
        cases x with
        | frz d => exact hv
        | slot i => exact hv.elim
        | own d =>
          obtain ⟨p, ep, h0, h1, h2, h3⟩ := hv
          have h0' : o.H p = none := by
            cases e0 : o.H p with
            | none => rfl
            | some u =>
              exfalso
              obtain ⟨u', e1⟩ := a.step.dom _ _ e0
              exact absurd (e1.symm.trans h0) (by simp)
          refine ⟨p, ep, h0', h1, h2, fun z => ?_⟩
          obtain ⟨i, s, k1, k2, k3⟩ := ow2 p z
          obtain ⟨x, e1, sv⟩ := a.sr.sl i s k1
          rw [k3] at e1; cases e1
          obtain ⟨b', eb, _, own⟩ := sv.own k2
          cases eb
          obtain ⟨u, hu⟩ := own.some
          rw [h0] at hu; cases hu
      | exc x cs' =>
        simp only [hs] at q
        intro F' H' d b hx
        obtain ⟨a2, _⟩ := call_out a ha e nd b
        exact q F' H' d a2 hx
      | stuck => simp only [hs] at q; exact q.elim
    · exact q.elim
end
end DL

set_option Elab.async false
set_option linter.all false
set_option maxRecDepth 100000
set_option maxHeartbeats 4000000
namespace DL
open PySem PySem.Spec PyProof.Rows L2

/-! ### calls, as expressions -/
def OkX (X : Cx) (W : WX) : Prop := ∀ σ, PassesAt (L2.CX X.prog X.w) X σ (WE W σ)
theorem okx_of {X : Cx} {W : WX} (tk : Takes X W) : OkX X W := fun σ => passAt tk σ
theorem okx0 {X : Cx} : OkX X W0 := fun σ _ _ _ _ _ _ h => by
  obtain ⟨_, _, _, _, _, _, _, _, _, _, _, _, z⟩ := h
  exact z.elim
def dCall (np : Nat) (sem : Sem') (g : List AV → List AV → List AV) (ms ks : DM (List AV)) : DM RV := do
  let as ← ms
  let bs ← ks
  if (g as bs).length = np then callS sem (g as bs) else DM.stop
abbrev FnS (X : Cx) (k : Nat) (f : Addr) (fd : FuncData) (ps : List Str) (sem : Sem') : Prop := FnG X.prog X.w X.K X.mg X.base (L2.CX X.prog X.w) k f fd ps (spD X.K ps.length sem)
/-- how arguments bind, at data -/
structure KBd (K : PySem.W.Frag) (fd : FuncData) (ps ks : List Str) (n : Nat) (g : List AV → List AV → List AV) : Prop where
  to : ∃ (gu : List Value → List Value → List Value) (gv : List V → List V → List V),
    (∀ (s : Shared) (us ws : List Value), K.In s.heap → us.length = n → ws.length = ks.length → BindsTo s fd ⟨us, ks.zip ws⟩ (ps.zip (gu us ws))) ∧
    (∀ {vs : List V} {us : List Value} {zs : List V} {ws : List Value}, Vals vs us → Vals zs ws → Vals (gv vs zs) (gu us ws)) ∧
    ∀ {F : Hp} {σ : L2.St} {vs zs : List V} {as bs : List AV}, ARs K F σ vs as → ARs K F σ zs bs → as.length = n → bs.length = ks.length → ARs K F σ (gv vs zs) (g as bs)
theorem kbd_plain {K : PySem.W.Frag} {fd : FuncData} {ps : List Str} (h : Binds K fd ps []) : KBd K fd ps [] ps.length (fun as _ => as) :=
  ⟨fun us _ => us, fun vs _ => vs, fun s us ws X l1 l2 => by
    have := h s us X (by rw [List.append_nil]; exact l1)
    rw [List.append_nil] at this
    exact this, fun r _ => r, fun h _ _ _ => h⟩
section
variable {X : Cx} {W : WX} {k n : Nat} {f : Addr} {fd : FuncData} {ps ks : List Str} {sem : Sem'} {x : Str} {p pos : Pos} {e : Expr} {es : List Expr} {kws : List Keyword} {ms mk : DM (List AV)} {g : List AV → List AV → List AV}
def dCallN (n m np : Nat) (sem : Sem') (g : List AV → List AV → List AV) (ms ks : DM (List AV)) : DM RV := do
  let as ← ms
  let bs ← ks
  if as.length = n ∧ bs.length = m ∧ (g as bs).length = np then callS sem (g as bs) else DM.stop
theorem run_call {pins : List (Addr × Obj)} {σ : L2.St} {H : Hp} {s : Shared} {Q : VK} {us : List Value} {kw : List (Str × Value)} {ux : List Value} {vs : List V} {as : List AV} {o : Org} {δ : Dl} {F : Hp} (Fn : FnS X k f fd ps sem) (hr : Room k X.A) (hgd : X.A.guards = some []) (hx : OkX X W)
    (I : Inv X pins σ H s) (hb : BindsTo s fd ⟨us, kw⟩ (ps.zip ux)) (r : Vals vs ux) (a : At X.K σ o δ F H) (ha : ARs X.K F σ vs as) (hl : as.length = ps.length) (q : run X.K W (VR X.K) σ o (callS sem as δ) Q) :
    wpAny (model X.prog X.w) X.A (call (.ref f) us kw) (EP X pins σ Q) X.xe s := by
  refine wpAny_call (codeAny_mono (Fn.run X.A X.stack s H ⟨us, kw⟩ ux vs Q (WE W σ) hr hgd I.env0 hb r (call_sp a ha q (by rw [ha.len]; exact hl))) fun r s' hq => ?_)
  cases r with
  | error e => exact hx σ pins H s e s' I hq
  | ok fl =>
    cases fl with
    | ret u => exact I.after hq
    | next => exact False.elim hq
    | brk => exact False.elim hq
    | cont => exact False.elim hq
abbrev PKs (X : Cx) (W : WX) (kws : List Keyword) (m : DM (List AV)) : Prop := PK X kws (tG X.K W (RVs X.K) m)
theorem pk_imp {X : Cx} {e : List Keyword} {t t' : TA} (h : PK X e t) (hi : ∀ σ H Q, t' σ H Q → t σ H Q) : PK X e t' :=
  ⟨fun pos pins s σ H Q I q => h.run pos pins s σ H Q I (hi σ H Q q)⟩
theorem pks_nil : PKs X W [] (pure []) := pk_imp pk_nil fun σ H Q q => by
  obtain ⟨F, δ, r, q⟩ := tG_out q
  exact q _ F H (.start r) True.intro
theorem pks_cons {nm : Option Str} {kpos : Pos} {m : DM AV} (h : PV X W e m) (hs : PKs X W kws mk) : PKs X W (⟨nm, e, kpos⟩ :: kws) (dCons m mk) :=
  pk_imp (pk_cons h hs) fun σ H Q q => by
    obtain ⟨F, δ, r, q⟩ := tG_out q
    unfold tCons
    refine tG_mono (go (At.start r) q) fun x H1 ⟨d, δ1, F1, at1, _, hd, q1⟩ => ?_
    refine tG_mono (go at1 q1) fun xs H2 ⟨ds, δ2, F2, at2, at12, hds, q2⟩ => ?_
    exact q2 (x :: xs) F2 H2 at2 ⟨hd.mono at12.step.exF, hds⟩
theorem ifrun {K : PySem.W.Frag} {σ : L2.St} {o : Org} {δ : Dl} {Q : VK} {c : Prop} [Decidable c] {m : DM RV} (q : run K W (VR K) σ o ((if c then m else DM.stop) δ) Q) : c ∧ run K W (VR K) σ o (m δ) Q := by
  by_cases h : c
  · rw [if_pos h] at q; exact ⟨h, q⟩
  · rw [if_neg h] at q; exact q.elim
/-- f(e, ..) -/
theorem pd_call (Fn : FnS X k f fd ps sem) (hr : Room k X.A) (hgd : X.A.guards = some []) (hx : OkX X W) (hg : Gl X x) (hm : X.mg x = some (.ref f)) (hk : PySem.W.keepIn X.K (.ref f) = true) (hb : KBd X.K fd ps [] n g) (ha : PVs X W (e :: es) ms)
    (hdb : (x == ("__debug__" : Str)) = false := by decide) (he : starEach (e :: es) X.env = (false, eval e X.env) :: starEach es X.env := by rfl) (hpl : (backTo pos (starEach es X.env)).any (·.1) = false := by rfl) :
    PD X W (.Call (.Name x p) (e :: es) [] pos) (dCallN n 0 ps.length sem g ms (pure [])) := by
  refine ⟨fun pins s σ H Q I h => ?_⟩
  obtain ⟨F, δ, r, q⟩ := tG_out h
  obtain ⟨gu, gv, b1, b2, b3⟩ := hb.to
  refine wpAny_Call_Name_kw (ld_glob I hg hm ?_ hdb)
  refine PySem.W.callWith_K (h₀ := X.base) I.ok.mod.kin hk (thn (ha.run pos pins s σ H _ I (go (At.start r) q)) fun us s1 ⟨vs, H1, I1, rv, as, δ1, F1, at1, _, har, q1⟩ => ⟨I1.kIn, ?_⟩) he hpl
  obtain ⟨⟨l1, l2, l3⟩, q2⟩ := ifrun q1
  have hu : us.length = n := by rw [← rv.length, har.len]; exact l1
  exact run_call Fn hr hgd hx I1 (b1 s1 us [] I1.kIn hu rfl) (b2 rv .nil) at1 (b3 har (bs := []) True.intro l1 rfl) l3 q2
theorem pd_call0 (Fn : FnS X k f fd ps sem) (hr : Room k X.A) (hgd : X.A.guards = some []) (hx : OkX X W) (hg : Gl X x) (hm : X.mg x = some (.ref f)) (hk : PySem.W.keepIn X.K (.ref f) = true) (hb : KBd X.K fd ps [] n g)
    (hdb : (x == ("__debug__" : Str)) = false := by decide) : PD X W (.Call (.Name x p) [] [] pos) (dCallN n 0 ps.length sem g (pure []) (pure [])) := by
  refine ⟨fun pins s σ H Q I h => ?_⟩
  obtain ⟨F, δ, r, q⟩ := tG_out h
  obtain ⟨gu, gv, b1, b2, b3⟩ := hb.to
  refine wpAny_Call_Name_kw (ld_glob I hg hm ?_ hdb)
  obtain ⟨⟨l1, l2, l3⟩, q2⟩ := ifrun q
  exact PySem.W.callWith_K0 I.kIn hk (run_call Fn hr hgd hx I (b1 s [] [] I.kIn l1 rfl) (b2 .nil .nil) (.start r) (b3 (as := []) (bs := []) True.intro True.intro l1 rfl) l3 q2)
/-- f(.., k = v, ..) -/
theorem pd_callK (Fn : FnS X k f fd ps sem) (hr : Room k X.A) (hgd : X.A.guards = some []) (hx : OkX X W) (hg : Gl X x) (hm : X.mg x = some (.ref f)) (hk : PySem.W.keepIn X.K (.ref f) = true) (hb : KBd X.K fd ps ks n g) (ha : PVs X W (e :: es) ms) (hkw : PKs X W kws mk)
    (hall : (backToKw pos (keywordEach kws X.env)).all (·.1.isSome) = true := by rfl) (hks : (backToKw pos (keywordEach kws X.env)).filterMap (·.1) = ks := by rfl)
    (hdb : (x == ("__debug__" : Str)) = false := by decide) (he : starEach (e :: es) X.env = (false, eval e X.env) :: starEach es X.env := by rfl)
    (hpl : ((backTo pos (starEach (e :: es) X.env)).any (·.1) || (backToKw pos (keywordEach kws X.env)).any (·.1.isNone)) = false := by rfl) :
    PD X W (.Call (.Name x p) (e :: es) kws pos) (dCallN n ks.length ps.length sem g ms mk) := by
  refine ⟨fun pins s σ H Q I h => ?_⟩
  obtain ⟨F, δ, r, q⟩ := tG_out h
  obtain ⟨gu, gv, b1, b2, b3⟩ := hb.to
  refine wpAny_Call_Name_kw (ld_glob I hg hm ?_ hdb)
  refine PySem.W.callWith_KW (h₀ := X.base) I.ok.mod.kin hk hall (thn (ha.run pos pins s σ H _ I (go (At.start r) q)) fun us s1 ⟨vs, H1, I1, rv, as, δ1, F1, at1, _, har, q1⟩ => ?_) hpl he
  refine thn (hkw.run pos pins s1 σ H1 _ I1 (go at1 q1)) fun ws s2 ⟨zs, H2, I2, rz, bs, δ2, F2, at2, at12, hbr, q2⟩ => ⟨I2.kIn, ?_⟩
  rw [hks]
  obtain ⟨⟨l1, l2, l3⟩, q3⟩ := ifrun q2
  have hu : us.length = n := by rw [← rv.length, har.len]; exact l1
  have hw : ws.length = ks.length := by rw [← rz.length, hbr.len]; exact l2
  exact run_call Fn hr hgd hx I2 (b1 s2 us ws I2.kIn hu hw) (b2 rv rz) at2 (b3 (har.mono at12.step.exF) hbr l1 l2) l3 q3
theorem pd_callK0 (Fn : FnS X k f fd ps sem) (hr : Room k X.A) (hgd : X.A.guards = some []) (hx : OkX X W) (hg : Gl X x) (hm : X.mg x = some (.ref f)) (hk : PySem.W.keepIn X.K (.ref f) = true) (hb : KBd X.K fd ps ks n g) (hkw : PKs X W kws mk)
    (hall : (backToKw pos (keywordEach kws X.env)).all (·.1.isSome) = true := by rfl) (hks : (backToKw pos (keywordEach kws X.env)).filterMap (·.1) = ks := by rfl)
    (hdb : (x == ("__debug__" : Str)) = false := by decide) (hpl : ((backTo pos (starEach [] X.env)).any (·.1) || (backToKw pos (keywordEach kws X.env)).any (·.1.isNone)) = false := by rfl) :
    PD X W (.Call (.Name x p) [] kws pos) (dCallN n ks.length ps.length sem g (pure []) mk) := by
  refine ⟨fun pins s σ H Q I h => ?_⟩
  obtain ⟨F, δ, r, q⟩ := tG_out h
  obtain ⟨gu, gv, b1, b2, b3⟩ := hb.to
  refine wpAny_Call_Name_kw (ld_glob I hg hm ?_ hdb)
  refine PySem.W.callWith_KW0 (h₀ := X.base) I.ok.mod.kin hk hall (thn (hkw.run pos pins s σ H _ I (go (At.start r) q)) fun ws s2 ⟨zs, H2, I2, rz, bs, δ2, F2, at2, at12, hbr, q2⟩ => ⟨I2.kIn, ?_⟩) hpl
  rw [hks]
  obtain ⟨⟨l1, l2, l3⟩, q3⟩ := ifrun q2
  have hw : ws.length = ks.length := by rw [← rz.length, hbr.len]; exact l2
  exact run_call Fn hr hgd hx I2 (b1 s2 [] ws I2.kIn l1 hw) (b2 .nil rz) at2 (b3 (as := []) True.intro hbr l1 l2) l3 q3
end

/-! ### what is owned is changed -/
section
variable {K : PySem.W.Frag} {W : WX} {F H : Hp} {σ : L2.St} {δ : Dl} {j : Nat} {a : Addr} {s : Sl}
theorem SR.write (r : SR K F H σ δ) (hs : δ[j]? = some (some s)) (hk : s.k ≠ .frz) (hv : σ[j]? = some (some (.ref a))) {d' : D} {ob : HO} (ow : OwnAt K F (L2.upd H a ob) a d') :
    SR K F (L2.upd H a ob) σ (δ.set j (some ⟨d', s.k⟩)) ∧ Step σ δ F H σ (δ.set j (some ⟨d', s.k⟩)) F (L2.upd H a ob) := by
  obtain ⟨x, e, q⟩ := r.sl j s hs
  rw [hv] at e; cases e
  obtain ⟨a', ea, n, ow0⟩ := q.own hk
  cases ea
  have own' : ∀ i b, OwnsI σ (δ.set j (some ⟨d', s.k⟩)) i b → OwnsI σ δ i b := fun i b h => OwnsI.of_set hs (fun _ => hk) h
  have ne : ∀ b, ¬ Owned σ δ b → b ≠ a := fun b h e => h ⟨j, s, hs, hk, by rw [e]; exact hv⟩
  refine ⟨⟨fun b u h => ?_, fun i t h => ?_, fun i l b h1 h2 => r.inj i l b (own' i b h1) (own' l b h2), by rw [List.length_set]; exact r.len⟩, ⟨fun _ _ h => h, fun b u h nb => ⟨by rw [upd_ne (ne b nb)]; exact h, fun z => z⟩, fun b ⟨i, t, h1, h2, h3⟩ => ?_, fun i t h1 h2 => ?_, fun b u h => ?_⟩⟩
  · rw [upd_ne (ne_of_none h n)]; exact r.ex _ _ h
  · rcases get_set_some h with ⟨rfl, e⟩ | ⟨ne', e⟩
    · cases e
      refine ⟨_, hv, ?_⟩
      obtain ⟨d, k⟩ := s
      cases k with
      | frz => exact absurd rfl hk
      | own => exact ⟨a, rfl, n, ow⟩
      | lent => exact ⟨a, rfl, n, ow⟩
    · obtain ⟨x, e1, q1⟩ := r.sl i t e
      refine ⟨x, e1, q1.mono (fun _ _ z => z) fun b eb hk' => ⟨upd_ne fun z => ?_, fun z => z⟩⟩
      subst eb z
      exact ne' (r.inj j i b ⟨s, hs, hk, hv⟩ ⟨t, e, hk', e1⟩)
  · rcases get_set_some h1 with ⟨rfl, e⟩ | ⟨ne', e⟩
    · cases e; exact .inl ⟨j, s, hs, h2, h3⟩
    · exact .inl ⟨i, t, e, h2, h3⟩
  · rcases get_set_some h1 with ⟨rfl, e⟩ | ⟨ne', e⟩
    · cases e; exact ⟨rfl, s, hs, h2⟩
    · exact ⟨rfl, t, e, h2⟩
  · by_cases e : b = a
    · subst e; exact ⟨_, upd_same⟩
    · exact ⟨u, by rw [upd_ne e]; exact h⟩
/-- the list that a slot owns -/
def ownL (a : AV) (δ : Dl) : Option (Nat × List D × Ow) := match a with
  | .frz _ => none
  | .slot j => match δ[j]? with
    | some (some ⟨.lst ds, .own⟩) => some (j, ds, .own)
    | some (some ⟨.lst ds, .lent⟩) => some (j, ds, .lent)
    | _ => none
theorem ownL_some {a : AV} {j : Nat} {ds : List D} {k : Ow} (h : ownL a δ = some (j, ds, k)) : a = .slot j ∧ δ[j]? = some (some ⟨.lst ds, k⟩) ∧ k ≠ .frz := by
  unfold ownL at h
  split at h
  · cases h
  · split at h
    · rename_i hs; cases h; exact ⟨rfl, hs, by intro z; cases z⟩
    · rename_i hs; cases h; exact ⟨rfl, hs, by intro z; cases z⟩
    · cases h
theorem ownL_at {av : AV} {v : V} {ds : List D} {k : Ow} (r : SR K F H σ δ) (ha : AR K F σ v av) (h : ownL av δ = some (j, ds, k)) : ∃ a xs, v = .ref a ∧ σ[j]? = some (some (.ref a)) ∧ H a = some (.lst xs) ∧ DatL K F xs ds := by
  obtain ⟨rfl, hs, hk⟩ := ownL_some h
  obtain ⟨x, e, q⟩ := r.sl j _ hs
  have ha : σ[j]? = some (some v) := ha
  rw [ha] at e; cases e
  obtain ⟨a, rfl, n, xs, h1, h2⟩ := q.own hk
  exact ⟨a, xs, rfl, ha, h1, h2⟩
end
section
variable {K : PySem.W.Frag} {W : WX} {o : OrgS} {σ : L2.St} {δ : Dl} {F H : Hp} {E : Ends}
theorem goS2 {α ι : Type} {R : Hp → Hp → Hp → L2.St → Dl → ι → α → Prop} {m : DM α} {k : α → DS} (at1 : AtS K o σ δ F H) (h : runS K W o (dThen m k δ) E) :
    tG K W R m σ H fun v H2 => ∃ d δ2 F2, AtS K o σ δ2 F2 H2 ∧ At K σ ⟨δ, F, H⟩ δ2 F2 H2 ∧ R H F2 H2 σ δ2 v d ∧ runS K W o (k d δ2) E := by
  refine tG_mk at1.sr ?_
  unfold dThen at h
  unfold run
  cases hm : m δ with
  | ok x δ' =>
    rw [hm] at h
    exact fun v F' H' p q => ⟨x, δ', F', ⟨at1.step.trans p.step, p.sr⟩, p, q, h⟩
  | exc x δ' =>
    rw [hm] at h
    exact fun F' H' d p q => h σ F' H' d ⟨at1.step.trans p.step, p.sr⟩ q
  | stuck => rw [hm] at h; exact h
theorem peek_goS {v : V} {x : AV} {k : D → DS} (r : SR K F H σ δ) (h : AR K F σ v x) (q : runS K W o (dThen (peek x) k δ) E) : ∃ d, Pk K F H v d ∧ runS K W o (k d δ) E := by
  unfold dThen at q
  rcases peek_ok r h with e | ⟨d, e, p⟩
  · rw [e] at q; exact q.elim
  · rw [e] at q; exact ⟨d, p, q⟩
end
section
variable {X : Cx} {W : WX} {oe ie e : Expr} {es : List Expr} {pos p1 apos cpos : Pos}
/-- o[i] = e, a list -/
def storeK (a : AV) (i : D) (v : D) : DS := fun δ => match i, ownL a δ with
  | .int i, some (j, ds, k) => match ixN ds.length i with
    | some n => .nx (δ.set j (some ⟨.lst (ds.set n v), k⟩))
    | none => .stuck
  | _, _ => .stuck
def dStore (m : DM D) (mo mi : DM AV) : DS := dThen m fun v => dThen mo fun a => dThen mi fun b => dThen (peek b) fun i => storeK a i v
theorem psd_store {m : DM D} {mo mi : DM AV} (he : PF X W e m) (ho : PV X W oe mo) (hi : PV X W ie mi) (hpg : ∀ {to ti : TE}, PE X oe to → PE X ie ti → PG X (.Subscript oe ie p1) (L2.gSub to ti rSetL))
    (hs : swapsWithSole [.Subscript oe ie p1] e pos.line X.env = pure false := by rfl) (hw : swappedStores [.Subscript oe ie p1] e X.env = pure none := by rfl) (h1 : (assignEach [.Subscript oe ie p1] X.env).map (·.2) = [assign (.Subscript oe ie p1) X.env] := by rfl) :
    PSD X W (.Assign [.Subscript oe ie p1] e pos) (dStore m mo mi) := ps_imp (ps_asg he (hpg ho hi) hs hw h1) fun E σ H ⟨F, δ, r, q⟩ => by
  unfold tAsg L2.gSub
  refine tG_mono (goS2 (AtS.start r) q) fun v H1 ⟨d, δ1, F1, at1, _, hd, q1⟩ => ?_
  refine tG_mono (goS2 at1 q1) fun ov H2 ⟨a, δ2, F2, at2, at12, ha, q2⟩ => ?_
  refine tG_mono (goS2 at2 q2) fun iv H3 ⟨b, δ3, F3, at3, at23, hb, q3⟩ => ?_
  obtain ⟨i, hi, q4⟩ := peek_goS at3.sr hb q3
  unfold storeK at q4
  split at q4
  · rename_i i j ds k how
    obtain ⟨ad, xs, rfl, hσ, hH, hl⟩ := ownL_at at3.sr (ha.mono at23.step.exF) how
    obtain ⟨rfl, hsl, hk⟩ := ownL_some how
    cases hi.int
    split at q4
    · rename_i n hn
      have hd3 : Dat X.K F3 v d := hd.mono (at12.step.exF.trans at23.step.exF)
      obtain ⟨r4, p4⟩ := at3.sr.write (ob := .lst (xs.set n v)) (d' := .lst (ds.set n d)) hsl hk hσ ⟨_, upd_same, hl.set n hd3⟩
      exact ⟨ad, xs, _, n, rfl, rfl, hH, by rw [hl.len]; exact hn, q4 σ F3 _ ⟨at3.step.trans p4, r4⟩⟩
    · exact q4.elim
  · exact q4.elim
/-- o.append(e) -/
def appK (a : AV) (d : D) : DM RV := fun δ => match ownL a δ with
  | some (j, ds, k) => if ds.length < sizeLine then .ok (.frz .non) (δ.set j (some ⟨.lst (ds ++ [d]), k⟩)) else .stuck
  | none => .stuck
def dApp (mo : DM AV) (m : DM D) : DM RV := do
  let a ← mo
  let d ← peek a
  match d with
  | .lst _ => do
    let v ← m
    appK a v
  | _ => DM.stop
theorem pd_append {m : DM D} {mo : DM AV} (ho : PV X W oe mo) (he : PF X W e m) (hbase : attributeBase oe "append" X.env (eval oe X.env) = eval oe X.env := by rfl)
    (hfew : ((backTo cpos (starEach [e] X.env)).all (fun x => !x.1) && (backToKw cpos (keywordEach [] X.env)).all (fun x => x.1.isSome)
      && decide (([e] : List Expr).length + ([] : List Keyword).length + (if ([] : List Keyword).isEmpty then 0 else 1) < 30)) = true := by rfl)
    (hline : (apos.endLine == cpos.line) = true := by rfl) (hs : starEach [e] X.env = (false, eval e X.env) :: starEach [] X.env := by rfl) :
    PD X W (.Call (.Attribute oe "append" apos) [e] [] cpos) (dApp mo m) :=
  pe_imp (pe_bm PySem.F.plainAttrs_list PySem.F.slot_list_append PySem.F.type_list_append mt_append ho (pa_cons he pa_nil hs) hbase hfew hline hs) fun σ H Q q => by
    obtain ⟨F, δ, r, q⟩ := tG_out q
    unfold tBM tCons tNil
    refine tG_mono (go (At.start r) q) fun ov H1 ⟨a, δ1, F1, at1, _, ha, q1⟩ => ?_
    obtain ⟨d, hd, q2⟩ := peek_go at1.sr ha q1
    split at q2
    · refine ⟨?_, ?_⟩
      · obtain ⟨p, xs, rfl, h1, _⟩ := hd.lst at1.sr.ex
        exact .inl ⟨rfl, xs, SqL.of h1⟩
      · refine tG_mono (go at1 q2) fun v H2 ⟨d2, δ2, F2, at2, at12, hd2, q3⟩ => ?_
        unfold appK at q3
        split at q3
        · rename_i j ds k how
          obtain ⟨ad, xs, rfl, hσ, hH, hl⟩ := ownL_at at2.sr (ha.mono at12.step.exF) how
          obtain ⟨rfl, hsl, hk⟩ := ownL_some how
          split at q3
          · rename_i hz
            obtain ⟨r4, p4⟩ := at2.sr.write (ob := .lst (xs ++ [v])) (d' := .lst (ds ++ [d2])) hsl hk hσ ⟨_, upd_same, hl.app (DatL.single hd2)⟩
            exact ⟨ad, xs, v, rfl, rfl, hH, by rw [hl.len]; exact hz, q3 .non F2 _ ⟨at2.step.trans p4, r4⟩ .non⟩
          · exact q3.elim
        · exact q3.elim
    · exact stop_run q2

/-! ### join, repr -/
def txts : List D → Option (List Str)
  | [] => some []
  | .str s :: ds => (txts ds).map (s :: ·)
  | _ :: _ => none
theorem txts_of {K : PySem.W.Frag} {F : Hp} : ∀ {vs : List V} {ds : List D} {bs : List Str}, DatL K F vs ds → txts ds = some bs → vs = bs.map V.str
  | _, _, _, .nil, e => by cases e; rfl
  | _, _, _, .cons (d := d) (ds := ds) h t, e => by
    cases h with
    | str b =>
      cases e2 : txts ds with
      | none => simp [txts, e2] at e
      | some cs =>
        simp [txts, e2] at e
        subst e
        rw [List.map_cons, txts_of t e2]
    | _ => cases e
def joinK (s : Str) (ds : List D) : DM RV := optD (txts ds) fun ys => guard (decide ((ys.map fun x => x.length).sum + ys.length * s.length ≤ 16777216)) (ok (.str (Txt.join s ys)))
def dJoin (mo : DM AV) (m : DM AV) : DM RV := do
  let a ← mo
  let d ← peek a
  match d with
  | .str s => do
    let b ← m
    let e ← peek b
    match e with
    | .lst ds => joinK s ds
    | .tup ds => joinK s ds
    | _ => DM.stop
  | _ => DM.stop
theorem pd_join {m mo : DM AV} (ho : PV X W oe mo) (he : PV X W e m) (h1 : starEach [e] X.env = [(false, eval e X.env)] := by rfl) (hbase : attributeBase oe (Str.ofString "join") X.env (eval oe X.env) = eval oe X.env := by rfl) (hline : (apos.endLine == cpos.line) = true := by rfl) :
    PD X W (.Call (.Attribute oe (Str.ofString "join") apos) [e] [] cpos) (dJoin mo m) :=
  pe_imp (pe_join ho he h1 hbase hline) fun σ H Q q => by
    obtain ⟨F, δ, r, q⟩ := tG_out q
    unfold tM1
    refine tG_mono (go (At.start r) q) fun ov H1 ⟨a, δ1, F1, at1, _, ha, q1⟩ => ?_
    obtain ⟨d, hd, q2⟩ := peek_go at1.sr ha q1
    split at q2
    · cases hd.str
      refine ⟨⟨_, rfl⟩, ?_⟩
      refine tG_mono (go at1 q2) fun v H2 ⟨b, δ2, F2, at2, at12, hb, q3⟩ => ?_
      obtain ⟨e', he', q4⟩ := peek_go at2.sr hb q3
      split at q4
      · unfold joinK at q4
        obtain ⟨ys, hys, q5⟩ := optD_run q4
        obtain ⟨g, q5⟩ := guard_run q5
        obtain ⟨p, xs, rfl, h1, l1⟩ := he'.lst at2.sr.ex
        exact ⟨_, p, ys, rfl, rfl, .inl (by rw [← txts_of l1 hys]; exact SqL.of h1), of_decide_eq_true g, finF at2 q5 (.str _)⟩
      · unfold joinK at q4
        obtain ⟨ys, hys, q5⟩ := optD_run q4
        obtain ⟨g, q5⟩ := guard_run q5
        obtain ⟨p, xs, rfl, h1, l1, _⟩ := he'.tup at2.sr.ex
        exact ⟨_, p, ys, rfl, rfl, .inr (by rw [← txts_of l1 hys]; exact h1), of_decide_eq_true g, finF at2 q5 (.str _)⟩
      · exact stop_run q4
    · exact stop_run q2
end
end DL

set_option Elab.async false
set_option linter.all false
set_option maxRecDepth 100000
set_option maxHeartbeats 4000000
namespace DL
open PySem PySem.Spec PyProof.Rows L2

/-! ### repr -/
def kPy : Key → PyData
  | .inl i => .int i
  | .inr x => .str x
mutual
def pyR : D → Option PyData
  | .non => some .none
  | .bl b => some (.bool b)
  | .int i => some (.int i)
  | .str x => some (.str x)
  | .lst ds => (pyRL ds).map .list
  | .tup ds => (pyRL ds).map .tuple
  | .dct ks ds => if ks.length = ds.length then (pyRL ds).map fun ps => .dict ((ks.map kPy).zip ps) else none
  | _ => none
def pyRL : List D → Option (List PyData)
  | [] => some []
  | d :: ds => match pyR d, pyRL ds with
    | some x, some xs => some (x :: xs)
    | _, _ => none
end
theorem pyRL_len : ∀ {ds : List D} {ps : List PyData}, pyRL ds = some ps → ps.length = ds.length
  | [], _, h => by simp [pyRL] at h; subst h; rfl
  | d :: ds, _, h => by
    cases h1 : pyR d with
    | none => simp [pyRL, h1] at h
    | some x =>
      cases h2 : pyRL ds with
      | none => simp [pyRL, h1, h2] at h
      | some xs =>
        simp [pyRL, h1, h2] at h
        subst h
        simp [pyRL_len h2]
section
variable {X : Cx} {pins : List (Addr × Obj)} {σ : L2.St} {H : Hp} {s : Shared}
theorem read_keys {P : Program} {w : World} {h : Heap} : ∀ {es : List DictEntry} {kvs : List (Key × Value)}, Pairs (mixKind P w) es kvs → ReadsAll h (es.map (·.key)) ((kvs.map (·.1)).map kPy) []
  | _, _, .nil => .nil
  | _, _, .cons (e := e) (kv := kv) h1 h2 t => by
    have ih := read_keys (h := h) t
    have h1 : keyIs kv.1 e.key = true := h1
    have hk : Reads h e.key (kPy kv.1) [] := by
      rcases keyIs_shape h1 with ⟨i, u, e1, e2⟩ | ⟨x, u, e1, e2⟩
      · rw [e1, e2]; exact .int i u
      · rw [e1, e2]; exact .str x u
    exact .cons hk ih
theorem pairs_vals {P : Program} {w : World} : ∀ {es : List DictEntry} {kvs : List (Key × Value)}, Pairs (mixKind P w) es kvs → es.map (·.val) = kvs.map (·.2)
  | _, _, .nil => rfl
  | _, _, .cons h1 h2 t => by rw [List.map_cons, List.map_cons, pairs_vals t, h2]
theorem kv_vals : ∀ {kvs : List (Key × V)} {vs : List (Key × Value)}, KV kvs vs → Vals (kvs.map (·.2)) (vs.map (·.2))
  | _, _, .nil => .nil
  | _, _, .cons h t => .cons h.2 (kv_vals t)
/-- a value that reads as `p`, with what its text needs: the addresses under it lie no deeper, and its kept text -/
def Sh (X : Cx) (h : Heap) (u : Value) (p : PyData) : Prop := ∃ as bs, Reads h u p as ∧ ReadAtMost h p.depth bs ∧ ReprK X.prog X.w bs h p.depth u p.shown
def ShA (X : Cx) (h : Heap) (us : List Value) (ps : List PyData) : Prop := ∃ as bs, ReadsAll h us ps as ∧ ReadAtMost h (PyData.depthAll ps) bs ∧ ReprAllK X.prog X.w bs h (PyData.depthAll ps) us (PyData.shownAll ps)
inductive Leaf : Value → PyData → Prop
  | none : Leaf .none .none
  | bool (b : Bool) : Leaf (.bool b) (.bool b)
  | int (i : Int) (t : Tok) : (PyData.int i).showable = true → Leaf (.int i t) (.int i)
  | str (x : Str) (t : Tok) : (PyData.str x).shown.length ≤ sizeLine → Leaf (.str x t) (.str x)
theorem Leaf.sh {u : Value} {p : PyData} (l : Leaf u p) (h : Heap) : Sh X h u p := by
  cases l with
  | none => exact ⟨[], [], .none, (fun _ z => nomatch z), by simp only [PyData.shown]; exact .of_is .none _ _ _⟩
  | bool b => exact ⟨[], [], .bool b, (fun _ z => nomatch z), by simp only [PyData.shown]; exact .of_is (.bool b) _ _ _⟩
  | int i t z => exact ⟨[], [], .int i t, (fun _ z => nomatch z), by simp only [PyData.shown]; exact .of_is (.int t (by simpa [PyData.showable] using z)) _ _ _⟩
  | str x t z => exact ⟨[], [], .str x t, (fun _ z => nomatch z), by simp only [PyData.shown]; exact .of_is (.str x t (by simpa only [PyData.shown] using z)) _ _ _⟩
theorem sha_cons {h : Heap} {u : Value} {us : List Value} {p : PyData} {ps : List PyData} (a : Sh X h u p) (b : ShA X h us ps) : ShA X h (u :: us) (p :: ps) := by
  obtain ⟨as, bs, r, m, k⟩ := a
  obtain ⟨as', bs', r', m', k'⟩ := b
  refine ⟨as ++ as', bs ++ bs', .cons r r', ?_, ?_⟩
  · simp only [PyData.depthAll]
    exact (m.mono (Nat.le_max_left _ _)).append (m'.mono (Nat.le_max_right _ _))
  · simp only [PyData.depthAll, PyData.shownAll]
    exact .cons ((k.more fun b hb => List.mem_append_left _ hb).level_le (Nat.le_max_left _ _)) (k'.more_le (fun b hb => List.mem_append_right _ hb) (Nat.le_max_right _ _))
theorem showAll_cons {p : PyData} {ps : List PyData} (h : PyData.showableAll (p :: ps) = true) : p.showable = true ∧ PyData.showableAll ps = true := by
  simp only [PyData.showableAll, Bool.and_eq_true] at h
  exact h
/-- what a container's text asks of its parts -/
def partsOk : PyData → Prop
  | .list xs => PyData.showableAll xs = true ∧ ∀ t ∈ PyData.shownAll xs, t.length ≤ sizeLine
  | .tuple xs => PyData.showableAll xs = true ∧ ∀ t ∈ PyData.shownAll xs, t.length ≤ sizeLine
  | .dict kvs => (PyData.showableAll (kvs.map (·.1)) = true ∧ PyData.showableAll (kvs.map (·.2)) = true) ∧ (∀ t ∈ PyData.shownAll (kvs.map (·.1)), t.length ≤ sizeLine) ∧ ∀ t ∈ PyData.shownAll (kvs.map (·.2)), t.length ≤ sizeLine
  | _ => True
theorem partsOk_of : ∀ {p : PyData}, p.showable = true → p.shown.length ≤ sizeLine → partsOk p
  | .list xs, h, z => ⟨by simpa only [PyData.showable] using h, fun t ht => Nat.le_trans (listText_mem_le ht) (by simpa only [PyData.shown] using z)⟩
  | .tuple xs, h, z => ⟨by simpa only [PyData.showable] using h, fun t ht => Nat.le_trans (tupleText_mem_le ht) (by simpa only [PyData.shown] using z)⟩
  | .dict kvs, h, z => by
    have z : (dictText (PyData.shownKv kvs)).length ≤ sizeLine := by simpa only [PyData.shown] using z
    refine ⟨PyData.showableKv_split kvs (by simpa only [PyData.showable] using h), fun t ht => ?_, fun t ht => ?_⟩
    · obtain ⟨q, hq, l⟩ := PyData.shownKv_key_le kvs t ht
      have := dictText_mem_le hq
      omega
    · obtain ⟨q, hq, l⟩ := PyData.shownKv_val_le kvs t ht
      have := dictText_mem_le hq
      omega
  | .none, _, _ => trivial
  | .bool _, _, _ => trivial
  | .int _, _, _ => trivial
  | .str _, _, _ => trivial
theorem sha_keys {h : Heap} : ∀ {us : List Value} {ks : List Key} , ReadsAll h us (ks.map kPy) [] → PyData.showableAll (ks.map kPy) = true → (∀ t ∈ PyData.shownAll (ks.map kPy), t.length ≤ sizeLine) → ShA X h us (ks.map kPy)
  | us, [], r, _, _ => by
    cases r
    exact ⟨[], [], .nil, (fun _ z => nomatch z), .nil⟩
  | us, k :: ks, r, hs, hz => by
    generalize he : ([] : List Addr) = as0 at r
    cases r with
    | cons r1 r2 =>
      rename_i as1 as2
      obtain ⟨e1, e2⟩ := List.append_eq_nil_iff.mp he.symm
      subst e1; subst e2
      have hs := showAll_cons hs
      refine sha_cons ?_ (sha_keys r2 hs.2 fun t ht => hz t (List.mem_cons_of_mem _ ht))
      cases k with
      | inl i => cases r1; exact (Leaf.int i _ hs.1).sh h
      | inr x => cases r1; exact (Leaf.str x _ (hz _ (List.mem_cons_self ..))).sh h
/-- a container with its parts shown -/
inductive Box (X : Cx) (h : Heap) : Value → PyData → Prop
  | list {a o us n xs} (h1 : h.get? a = some o) (h2 : o.cls = .type "list") (h3 : o.data = .seq us n) (p : ShA X h us.toList xs) : Box X h (.ref a) (.list xs)
  | tuple {a o us n xs} (h1 : h.get? a = some o) (h2 : o.cls = .type "tuple") (h3 : o.data = .seq us n) (p : ShA X h us.toList xs) : Box X h (.ref a) (.tuple xs)
  | dict {a o es n kvs} (ns : (a == sysModules) = false) (h1 : h.get? a = some o) (h2 : o.cls = .type "dict") (h3 : o.data = .dict es n) (k : ShA X h (es.toList.map (·.key)) (kvs.map (·.1))) (v : ShA X h (es.toList.map (·.val)) (kvs.map (·.2))) : Box X h (.ref a) (.dict kvs)
theorem Box.sh {h : Heap} {u : Value} {p : PyData} (b : Box X h u p) : Sh X h u p := by
  cases b with
  | list h1 h2 h3 q =>
    rename_i a o us n xs
    obtain ⟨as, bs, r, m, k⟩ := q
    have rd : Reads h (.ref a) (.list xs) _ := .list h1 h2 h3 r
    have nin := not_mem_of_deeper rd (by simp only [PyData.depth]; omega) m
    refine ⟨_, a :: bs, rd, ReadAtMost.cons rd (by simp only [PyData.depth]; omega) m, ?_⟩
    simp only [PyData.depth, PyData.shown]
    obtain ⟨l⟩ := us
    cases l with
    | nil =>
      have r : ReadsAll h [] xs _ := r
      cases r
      simp only [PyData.shownAll, listText_nil]
      exact .listEmpty h1 h2 h3
    | cons y l => exact .list h1 h2 h3 nin (by simpa using k.length_eq) fun i y e => k.item i y (by simpa using e)
  | tuple h1 h2 h3 q =>
    rename_i a o us n xs
    obtain ⟨as, bs, r, m, k⟩ := q
    have rd : Reads h (.ref a) (.tuple xs) _ := .tuple h1 h2 h3 r
    have nin := not_mem_of_deeper rd (by simp only [PyData.depth]; omega) m
    refine ⟨_, a :: bs, rd, ReadAtMost.cons rd (by simp only [PyData.depth]; omega) m, ?_⟩
    simp only [PyData.depth, PyData.shown]
    exact .tuple h1 h2 h3 nin k
  | dict ns h1 h2 h3 q q' =>
    rename_i a o es n kvs
    obtain ⟨as, bs, r, m, k⟩ := q
    obtain ⟨as', bs', r', m', k'⟩ := q'
    have rd : Reads h (.ref a) (.dict kvs) _ := .dict h1 h2 h3 r r'
    have mm := (m.mono (PyData.depthAll_keys_le kvs)).append (m'.mono (PyData.depthAll_vals_le kvs))
    have nin := not_mem_of_deeper rd (by simp only [PyData.depth]; omega) mm
    refine ⟨_, a :: (bs ++ bs'), rd, ReadAtMost.cons rd (by simp only [PyData.depth]; omega) mm, ?_⟩
    simp only [PyData.depth, PyData.shown, PyData.shownKv_eq]
    exact .dict h1 h2 h3 ns nin (.of_two es.toList _ _ (k.more_le (fun b hb => List.mem_append_left _ hb) (PyData.depthAll_keys_le kvs)) (k'.more_le (fun b hb => List.mem_append_right _ hb) (PyData.depthAll_vals_le kvs)))
/-- the call of `repr` at a container -/
theorem Box.call {s : Shared} {u : Value} {p : PyData} (b : Box X s.heap u p) {Q : Value → Shared → Prop} {E : Value → Shared → Prop} (hg : X.A.guards = some []) (hu : X.A.units + 64 < cLine) (hd : p.depth ≤ 62) (hz : p.shown.length ≤ sizeLine)
    (hQ : ∀ h' t tk, (∀ b o, s.heap.get? b = some o → h'.get? b = some o) → Q (.str p.shown t) { s with heap := h', toks := tk }) : wpAny (model X.prog X.w) X.A (call (.builtin "repr") [u]) Q E s := by
  have same : ∀ b o, s.heap.get? b = some o → s.heap.get? b = some o := fun _ _ e => e
  cases b with
  | list h1 h2 h3 q =>
    rename_i a o us n xs
    obtain ⟨as, bs, r, m, k⟩ := q
    have nin := not_mem_of_deeper (.list h1 h2 h3 r) (by simp only [PyData.depth]; omega) m
    simp only [PyData.depth] at hd
    simp only [PyData.shown] at hQ hz
    refine call_repr_slot (by omega) ⟨_, h1, h2⟩ F.slot_list_repr.toG ?_
    obtain ⟨l⟩ := us
    cases l with
    | nil =>
      have r : ReadsAll s.heap [] xs _ := r
      cases r
      simp only [PyData.shownAll, listText_nil] at hQ
      exact call_list_repr_empty ⟨_, h1, h2⟩ h1 h3 ⟨_, _, rfl, hQ s.heap _ _ same⟩
    | cons y l => exact call_list_reprK h1 h2 h3 nin (by simpa using k.length_eq) (fun i y e => k.item i y (by simpa using e)) hg (fun b _ => Clear.nil b) (by show X.A.units + 1 + _ < _; omega) same (fun h' t tk hk => ⟨_, _, rfl, hQ h' t tk hk⟩) hz
  | tuple h1 h2 h3 q =>
    rename_i a o us n xs
    obtain ⟨as, bs, r, m, k⟩ := q
    have nin := not_mem_of_deeper (.tuple h1 h2 h3 r) (by simp only [PyData.depth]; omega) m
    simp only [PyData.depth] at hd
    simp only [PyData.shown] at hQ hz
    exact call_repr_slot (by omega) ⟨_, h1, h2⟩ F.slot_tuple_repr (call_tuple_reprK h1 h2 h3 nin k hg (fun b _ => Clear.nil b) (by show X.A.units + 1 + _ < _; omega) same (fun h' t tk hk => ⟨_, _, rfl, hQ h' t tk hk⟩) hz)
  | dict ns h1 h2 h3 q q' =>
    rename_i a o es n kvs
    obtain ⟨as, bs, r, m, k⟩ := q
    obtain ⟨as', bs', r', m', k'⟩ := q'
    have mm := (m.mono (PyData.depthAll_keys_le kvs)).append (m'.mono (PyData.depthAll_vals_le kvs))
    have nin := not_mem_of_deeper (.dict h1 h2 h3 r r') (by simp only [PyData.depth]; omega) mm
    simp only [PyData.depth] at hd
    simp only [PyData.shown, PyData.shownKv_eq] at hQ hz
    exact call_repr_slot (by omega) ⟨_, h1, h2⟩ F.slot_dict_repr (call_dict_reprK h1 h2 h3 ns nin (.of_two es.toList _ _ (k.more_le (fun b hb => List.mem_append_left _ hb) (PyData.depthAll_keys_le kvs)) (k'.more_le (fun b hb => List.mem_append_right _ hb) (PyData.depthAll_vals_le kvs))) hg (fun b _ => Clear.nil b) (by show X.A.units + 1 + _ < _; omega) same (fun h' t tk hk => ⟨_, _, rfl, hQ h' t tk hk⟩) hz)
mutual
theorem Dat.box (I : Inv X pins σ H s) : ∀ {v : V} {d : D}, Dat X.K H v d → ∀ {u : Value} {p : PyData}, RelV v u → pyR d = some p → p.showable = true → p.shown.length ≤ sizeLine → Leaf u p ∨ Box X s.heap u p
  | _, _, .non, _, _, r, e, _, _ => by simp [pyR] at e; subst e; cases r; exact .inl .none
  | _, _, .bl b, _, _, r, e, _, _ => by simp [pyR] at e; subst e; cases r; exact .inl (.bool b)
  | _, _, .int i, _, _, r, e, h, _ => by simp [pyR] at e; subst e; obtain ⟨t, rfl⟩ := r; exact .inl (.int i t h)
  | _, _, .str x, _, _, r, e, _, z => by simp [pyR] at e; subst e; obtain ⟨t, rfl⟩ := r; exact .inl (.str x t z)
  | _, _, .ty n, _, _, _, e, _, _ => by simp [pyR] at e
  | _, _, .con a, _, _, _, e, _, _ => by simp [pyR] at e
  | _, _, .ro h l, _, _, _, e, _, _ => by simp [pyR] at e
  | _, _, .obj h l, _, _, _, e, _, _ => by simp [pyR] at e
  | _, _, .tup (ds := ds) h l, _, _, r, e, hs, hz => by
    cases hq : pyRL ds with
    | none => simp [pyR, hq] at e
    | some ps =>
      simp [pyR, hq] at e; subst e
      cases r
      obtain ⟨its, rv, ⟨o, ho, hc, n, hd⟩, _⟩ := I.tuple h
      obtain ⟨c1, c2⟩ := partsOk_of hs hz
      exact .inr (.tuple ho hc hd (DatL.shA I l rv hq c1 c2))
  | _, _, .lst (a := a) (ds := ds) h l, _, _, r, e, hs, hz => by
    cases hq : pyRL ds with
    | none => simp [pyR, hq] at e
    | some ps =>
      simp [pyR, hq] at e; subst e
      cases r
      obtain ⟨its, rv, ⟨o, n, ho, hc, _, hd⟩, _⟩ := I.list (SqL.of h)
      obtain ⟨c1, c2⟩ := partsOk_of hs hz
      exact .inr (.list ho hc hd (DatL.shA I l rv hq c1 c2))
  | _, _, .dct (a := a) (kvs := kvs) (ds := ds) h l, _, _, r, e, hs, hz => by
    have hlen : kvs.length = ds.length := by have := DatL.len l; rw [List.length_map] at this; exact this
    cases hq : pyRL ds with
    | none => simp [pyR, hq, hlen] at e
    | some ps =>
      simp [pyR, hq, hlen, -List.map_map] at e; subst e
      cases r
      obtain ⟨_, ns, vs, rkv, o, es, ep, ho, hex, hd, _, hp, _⟩ := h.ok I.hok
      have hv : Vals (kvs.map (·.2)) (es.toList.map (·.val)) := by rw [pairs_vals hp]; exact kv_vals rkv
      have lz : ((kvs.map (·.1)).map kPy).length = ps.length := by rw [List.length_map, List.length_map, hlen, pyRL_len hq]
      have hk := read_keys (h := s.heap) hp
      rw [← KV.keys rkv] at hk
      obtain ⟨⟨c1, c2⟩, c3, c4⟩ := partsOk_of hs hz
      rw [List.map_fst_zip (by omega)] at c1 c3
      rw [List.map_snd_zip (by omega)] at c2 c4
      refine .inr (.dict ns ho hex.1 hd ?_ ?_)
      · rw [List.map_fst_zip (by omega)]
        exact sha_keys hk c1 c3
      · rw [List.map_snd_zip (by omega)]
        exact DatL.shA I l hv hq c2 c4
theorem DatL.shA (I : Inv X pins σ H s) : ∀ {vs : List V} {ds : List D}, DatL X.K H vs ds → ∀ {us : List Value} {ps : List PyData}, Vals vs us → pyRL ds = some ps → PyData.showableAll ps = true → (∀ t ∈ PyData.shownAll ps, t.length ≤ sizeLine) → ShA X s.heap us ps
  | _, _, .nil, _, _, r, e, _, _ => by simp [pyRL] at e; subst e; cases r; exact ⟨[], [], .nil, (fun _ z => nomatch z), .nil⟩
  | _, _, .cons (d := d) (ds := ds) h l, _, _, r, e, hs, hz => by
    cases h2 : pyR d with
    | none => simp [pyRL, h2] at e
    | some x =>
      cases h3 : pyRL ds with
      | none => simp [pyRL, h2, h3] at e
      | some xs =>
        simp [pyRL, h2, h3] at e
        subst e
        cases r with
        | cons r1 r2 =>
          obtain ⟨g1, g2⟩ := showAll_cons hs
          have z1 := hz _ (by simp only [PyData.shownAll]; exact List.mem_cons_self ..)
          have t2 := DatL.shA I l r2 h3 g2 fun t ht => hz t (by simp only [PyData.shownAll]; exact List.mem_cons_of_mem _ ht)
          rcases Dat.box I h r1 h2 g1 z1 with q | b
          · exact sha_cons (q.sh _) t2
          · exact sha_cons b.sh t2
end
def rReprD (K : PySem.W.Frag) : List V → Hp → VK → Prop := fun xs H Q => ∃ (x : V) (d : D) (p : PyData), xs = [x] ∧ Dat K H x d ∧ pyR d = some p ∧ p.showable = true ∧ p.shown.length ≤ sizeLine ∧ p.depth ≤ 62 ∧ Q (.str p.shown) H
theorem call_reprD (hgd : X.A.guards = some []) (hu : X.A.units + 64 < cLine) : CallR X (.builtin "repr") (rReprD X.K) := by
  intro pins s σ H xs us Q I r h
  obtain ⟨x, d, p, rfl, hd, hp, hs, hz, hdp, q⟩ := h
  obtain ⟨u, rfl, ru⟩ := r.one
  have fin : ∀ {h' : Heap} {t tk : Nat}, (∀ b o, s.heap.get? b = some o → h'.get? b = some o) → EP X pins σ Q (.str p.shown t) { s with heap := h', toks := tk } := fun hk => ⟨.str p.shown, H, I.kept hk, ⟨_, rfl⟩, q⟩
  rcases hd.box I ru hp hs hz with q | b
  · cases q with
    | none => exact PySem.P.repr_of_none (fin fun _ _ z => z)
    | bool b => exact PySem.P.repr_of_bool (fin fun _ _ z => z)
    | int i t z => exact PySem.P.repr_of_int (by simpa [PyData.showable] using hs) (fin fun _ _ z => z)
    | str x t z => exact PySem.P.repr_of_str (fin fun _ _ z => z) hz
  · exact b.call hgd hu hdp hz fun h' t tk hk => fin hk
end
/-- the text of a datum -/
def reprD (d : D) : Option Str := match pyR d with
  | some p => if p.showable = true ∧ p.shown.length ≤ sizeLine ∧ p.depth ≤ 62 then some p.shown else none
  | none => none
def gRepr : List D → DM RV
  | [d] => optD (reprD d) fun z => ok (.str z)
  | _ => DM.stop
theorem pr_repr {K : PySem.W.Frag} : PrC K (rReprD K) gRepr := by
  intro W σ o δ F H vs ds Q a h q
  unfold gRepr at q
  split at q
  · obtain ⟨v, rfl, hv⟩ := h.one
    obtain ⟨z, hz, q⟩ := optD_run q
    unfold reprD at hz
    split at hz
    · rename_i p hp
      split at hz
      · rename_i hc
        cases hz
        exact ⟨v, _, p, rfl, hv.dat a.sr.ex, hp, hc.1, hc.2.1, hc.2.2, finF a q (.str _)⟩
      · cases hz
    · cases hz
  · exact stop_run q

/-! ### a written dict -/
def keyD : D → Option Key
  | .int i => some (.inl i)
  | .str x => some (.inr x)
  | _ => none
theorem keyD_of {K : PySem.W.Frag} {F : Hp} {v : V} {d : D} {k : Key} (h : Dat K F v d) (e : keyD d = some k) : v = kV k := by
  cases h <;> first | (cases e; rfl) | cases e
def dPairs : List (DM D × DM D) → DM (List Key × List D)
  | [] => pure ([], [])
  | (mk, mv) :: r => do
    let k ← mk
    let v ← mv
    let rest ← dPairs r
    match keyD k with
    | some k => pure (k :: rest.1, v :: rest.2)
    | none => DM.stop
def dDisp (mps : List (DM D × DM D)) : DM RV := do
  let r ← dPairs mps
  if r.1.Nodup ∧ r.1.length = r.2.length ∧ r.1.length ≤ 15 then okO (.dct r.1 r.2) else DM.stop
section
variable {X : Cx} {W : WX} {pos : Pos}
abbrev trs (K : PySem.W.Frag) (W : WX) (mps : List (DM D × DM D)) : List (TE × TE) := mps.map fun p => (tF K W p.1, tF K W p.2)
theorem tPairs_mono {K : PySem.W.Frag} : ∀ {mps : List (DM D × DM D)} {σ : L2.St} {H : Hp} {Q Q' : List (V × V) → Hp → Prop}, tPairs (trs K W mps) σ H Q → (∀ ps H', Q ps H' → Q' ps H') → tPairs (trs K W mps) σ H Q'
  | [], σ, H, Q, Q', h, q => q [] H h
  | (mk, mv) :: r, σ, H, Q, Q', h, q => by
    have h : tF K W mk σ H fun x H1 => tF K W mv σ H1 fun y H2 => tPairs (trs K W r) σ H2 fun ps H3 => Q ((x, y) :: ps) H3 := h
    show tF K W mk σ H fun x H1 => tF K W mv σ H1 fun y H2 => tPairs (trs K W r) σ H2 fun ps H3 => Q' ((x, y) :: ps) H3
    exact tG_mono h fun x H1 h1 => tG_mono h1 fun y H2 h2 => tPairs_mono h2 fun ps H3 h3 => q _ _ h3
theorem pairs_of {K : PySem.W.Frag} {κ β : Type} {R2 : Hp → Hp → Hp → L2.St → Dl → κ → β → Prop} {σ : L2.St} {o : Org} : ∀ {mps : List (DM D × DM D)} {δ : Dl} {F H : Hp} {k : List Key × List D → DM β} {Q : κ → Hp → Prop}, At K σ o δ F H → run K W R2 σ o ((dPairs mps >>= k) δ) Q →
    tPairs (trs K W mps) σ H fun ps H' => ∃ (kvs : List (Key × V)) (ds : List D) (δ' : Dl) (F' : Hp), ps = kvs.map (fun kv => (kV kv.1, kv.2)) ∧ DatL K F' (kvs.map (·.2)) ds ∧ At K σ o δ' F' H' ∧ At K σ ⟨δ, F, H⟩ δ' F' H' ∧ run K W R2 σ o (k (kvs.map (·.1), ds) δ') Q
  | [], δ, F, H, k, Q, a, q => ⟨[], [], δ, F, rfl, .nil, a, .start a.sr, q⟩
  | (mk, mv) :: r, δ, F, H, k, Q, a, q => by
    unfold dPairs at q
    rw [bind_assoc'] at q
    show tF K W mk σ H fun x H1 => tF K W mv σ H1 fun y H2 => tPairs (trs K W r) σ H2 fun ps H3 => _
    refine tG_mono (go a q) fun x H1 ⟨kd, δ1, F1, at1, at01, hk, q1⟩ => ?_
    rw [bind_assoc'] at q1
    refine tG_mono (go at1 q1) fun y H2 ⟨vd, δ2, F2, at2, at12, hv, q2⟩ => ?_
    rw [bind_assoc'] at q2
    have ih := pairs_of at2 q2
    refine tPairs_mono ih fun ps H3 ⟨kvs, ds, δ3, F3, e, l, at3, at23, q3⟩ => ?_
    cases hkd : keyD kd with
    | none => simp only [hkd] at q3; exact q3.elim
    | some kk =>
      simp only [hkd] at q3
      have ek := keyD_of hk hkd
      exact ⟨(kk, y) :: kvs, vd :: ds, δ3, F3, by rw [List.map_cons, ← e, ← ek], .cons (hv.mono at23.step.exF) l, at3, (at01.trans at12).trans at23, q3⟩
theorem merge_app : ∀ {more kvs : List (Key × V)}, ((kvs ++ more).map (·.1)).Nodup → mergeK kvs more = kvs ++ more
  | [], kvs, _ => by rw [List.append_nil]; rfl
  | p :: more, kvs, h => by
    have hp : (kvs.any fun kv => decide (kv.1 = p.1)) = false := by
      rw [List.any_eq_false]
      intro q hq he
      rw [List.map_append, List.nodup_append] at h
      exact h.2.2 _ (List.mem_map_of_mem hq) _ (List.mem_map_of_mem List.mem_cons_self) (of_decide_eq_true he)
    have e : putK kvs p.1 p.2 = kvs ++ [p] := by
      unfold putK
      rw [if_neg (by rw [hp]; decide)]
    show mergeK (putK kvs p.1 p.2) more = _
    rw [e, merge_app (by rw [List.append_assoc]; exact h), List.append_assoc]
    rfl
theorem pd_disp {keys : List (Option Expr)} {values : List Expr} {mps : List (DM D × DM D)} (h : PPs X pos keys values (trs X.K W mps)) (hall : keys.all (·.isSome) = true) (hl : keys.length = values.length) (h0 : keys ≠ []) (h15 : keys.length ≤ 15) :
    PD X W (.Dict keys values pos) (dDisp mps) := pe_imp (pe_disp h hall hl h0 h15) fun σ H Q q => by
  obtain ⟨F, δ, r, q⟩ := tG_out q
  intro p hp
  obtain ⟨a0, hF, h0, no⟩ := (At.start r).new hp (.dK [])
  have q' : run X.K W (VR X.K) σ ⟨δ, F, H⟩ ((dPairs mps >>= fun r => if r.1.Nodup ∧ r.1.length = r.2.length ∧ r.1.length ≤ 15 then okO (.dct r.1 r.2) else DM.stop) δ) Q := q
  refine tPairs_mono (pairs_of a0 q') fun ps H2 ⟨kvs, ds, δ2, F2, e, l, at2, at02, q2⟩ => ?_
  obtain ⟨d1, d2, d3⟩ := at02.step.hold upd_same no hF
  refine ⟨d1, kvs, e, ?_⟩
  obtain ⟨⟨n1, n2, n3⟩, q3⟩ := ifrun q2
  have n1 : (kvs.map (·.1)).Nodup := n1
  have n3 : (kvs.map (·.1)).length ≤ 15 := n3
  rw [List.length_map] at n3
  refine ⟨n3, ?_⟩
  have em : mergeK [] kvs = kvs := merge_app (kvs := []) n1
  rw [em]
  refine q3 (.ref p) F2 (upd H2 p (.dK kvs)) ⟨at2.step.upd _ hp, at2.sr.upd _ d3 d2⟩ ⟨p, rfl, hp, d2, ⟨kvs, upd_same, rfl, l⟩, d3⟩
theorem pps_consD {k v : Expr} {ks : List (Option Expr)} {vs : List Expr} {mk mv : DM D} {mps : List (DM D × DM D)} (hk : PF X W k mk) (hv : PF X W v mv) (hr : PPs X pos ks vs (trs X.K W mps)) : PPs X pos (some k :: ks) (v :: vs) (trs X.K W ((mk, mv) :: mps)) := pps_cons hk hv hr
end

/-! ### the law itself -/
/-- what is told of the heap at the start: the script, if it is no object of the module -/
def onlyScript (K : PySem.W.Frag) (a : Addr) (o : Obj) (xs : List V) : Hp := fun b => if b = a ∧ K.lookup a = none then some (.frz o (.lst xs)) else none
theorem onlyScript_of {K : PySem.W.Frag} {a b : Addr} {o : Obj} {xs : List V} {u : HO} (h : onlyScript K a o xs b = some u) : b = a ∧ K.lookup a = none ∧ u = .frz o (.lst xs) := by
  unfold onlyScript at h
  split at h
  · rename_i hc
    cases h
    exact ⟨hc.1, hc.2, rfl⟩
  · cases h
theorem datL_ints {K : PySem.W.Frag} {F : Hp} : ∀ {ns : List Int}, DatL K F (ns.map V.int) (ns.map D.int)
  | [] => .nil
  | n :: ns => .cons (.int n) datL_ints
theorem law_callG {P : Program} {w : World} {K : PySem.W.Frag} {mg mb : Str → Option Value} {k : Nat} {fa a : Addr} {fd : FuncData} {x : Str} {sem : Sem'} {s₁ : Shared} {vs : List Value} {ns : List Int}
    (KX : K.In s₁.heap) (hns : s₁.heap.Ns mainGlobals mg) (hb : s₁.heap.Ns builtinsNs mb) (hbb : ∀ x : Str, x ≠ "__name__" → mb x = bootBuiltins x) (hlim : s₁.heap.NoLimit) (hg : s₁.gens = #[])
    (ha : s₁.heap.get? a = some { cls := .type "list", data := .seq vs.toArray }) (hi : IntsAre vs ns) (hl : ns.length ≤ sizeLine) (hr : Room k callerA)
    (F : ∀ base : Heap, K.In base → base.Ns mainGlobals mg → FnG P w K mg base (L2.CX P w) k fa fd [x] (spD K 1 sem)) (hbind : ∀ (s : Shared) (u : Value), BindsTo s fd ⟨[u], []⟩ [(x, u)])
    (hsem : ∃ as, sem [some ⟨.ro (ns.map .int), .frz⟩] = .ok (.frz (.bl true)) as) :
    codeAny (model P w) callerA (.call (.ref fa) ⟨[.ref a], []⟩) (fun r s' => r = .ok (.ret (.bool true)) ∧ OldK s₁.heap s'.heap ∧ s'.os = s₁.os ∧ AllBare s'.gens) s₁ := by
  have rv := L2.vals_ints hi
  have len := hi.length
  generalize hH : onlyScript K a { cls := .type "list", data := .seq vs.toArray } (ns.map V.int) = H
  have told : ∀ {b : Addr} {u : HO}, H b = some u → b = a ∧ K.lookup a = none ∧ u = .frz { cls := .type "list", data := .seq vs.toArray } (.lst (ns.map V.int)) := fun h => onlyScript_of (hH ▸ h)
  have quiet : ∀ {b : Addr}, (b = a → K.lookup a = none → False) → H b = none := fun {b} n => by
    cases q : H b with
    | none => rfl
    | some u => exact (n (told q).1 (told q).2.1).elim
  -- the script can be read
  have scr : SqL K H a (ns.map V.int) := by
    cases hk : K.lookup a with
    | none => exact .inl (.inr ⟨_, by rw [← hH]; exact if_pos ⟨rfl, hk⟩⟩)
    | some o =>
      have e := KX a o hk
      rw [ha] at e
      cases e
      exact .inr ⟨_, vs.toArray, _, hk, rfl, rfl, rfl, by rw [List.size_toArray, len]; exact hl, by simpa using rv⟩
  have hok : HOk P w H s₁.heap := fun b u z => by
    obtain ⟨rfl, _, rfl⟩ := told z
    exact ⟨ha, by rw [List.length_map]; exact hl, vs, _, rv, ha⟩
  -- the part of the heap that the module stands on
  have stay : ∀ {b : Addr} {o : Obj}, s₁.heap.get? b = some o → H b = none → (hidT s₁.heap H).get? b = some o := fun e n => hidT_get e n
  have nsStay : ∀ {b : Addr} {m : Str → Option Value}, s₁.heap.Ns b m → (hidT s₁.heap H).Ns b m := fun {b m} ⟨o, es, ep, e, d, r⟩ => ⟨o, es, ep, stay e (quiet fun z _ => by
    subst z
    rw [ha] at e; cases e
    have d : Data.seq vs.toArray _ = Data.dict es ep := d
    cases d), d, r⟩
  have kStay : K.In (hidT s₁.heap H) := fun b o e => stay (KX b o e) (quiet fun z n => by
    subst z
    rw [e] at n; cases n)
  have e0 : Env0 P w K mg (hidT s₁.heap H) callerA [] s₁ H := ⟨rfl, ⟨kStay, nsStay hns, ⟨mb, nsStay hb, hbb⟩, let ⟨mc, h1, h2⟩ := hlim; ⟨mc, nsStay h1, h2⟩⟩, fun b o e => of_hidT e, Nat.le_of_eq (hidT_size _ _), trivial, fun b hb => absurd (show b ∈ ([] : List Addr) from hb) (by simp), hok, .of_eq hg⟩
  obtain ⟨as', hs⟩ := hsem
  have hsp : spD K 1 sem [.ref a] H (fun v _ => v = .bl true) (fun _ _ _ => False) := by
    refine ⟨rfl, H, [some ⟨.ro (ns.map .int), .frz⟩], ⟨fun _ _ z => z, fun i s h => ?_, fun i j b ⟨s, h1, h2, _⟩ => ?_, rfl⟩, fun i s h => ?_, ?_⟩
    · match i, h with
      | 0, h => cases h; exact ⟨.ref a, rfl, .ro scr datL_ints⟩
    · match i, h1 with
      | 0, h1 => cases h1; exact absurd rfl h2
    · match i, h with
      | 0, h => cases h; exact fun z => by cases z
    · rw [hs]
      intro v F' H' _ hv
      have hv : Dat K F' v (.bl true) := hv
      cases hv
      rfl
  refine codeAny_mono ((F _ kStay (nsStay hns)).run callerA [] s₁ H ⟨[.ref a], []⟩ [.ref a] [.ref a] _ _ hr rfl e0 (hbind s₁ (.ref a)) (.cons rfl .nil) hsp) fun r s' h => ?_
  cases r with
  | error e =>
    obtain ⟨_, _, _, _, _, _, _, _, _, _, _, _, z⟩ := h
    exact False.elim z
  | ok fl =>
    cases fl with
    | ret u =>
      obtain ⟨v, H', os, bare, un, hok', r', q⟩ := h
      have q : v = .bl true := q
      subst q
      obtain rfl : u = Value.bool true := r'
      refine ⟨rfl, OldK.of_keep fun b o e => ?_, os, bare⟩
      cases q : H b with
      | none => exact un.keep b o e q (fun z => nomatch z) (by simp)
      | some u =>
        obtain ⟨_, _, rfl⟩ := told q
        obtain ⟨e1, _⟩ := hok b _ q
        obtain ⟨e2, _⟩ := hok' b _ (un.frzs b _ _ q)
        rw [e] at e1; cases e1
        exact e2
    | next => exact False.elim h
    | brk => exact False.elim h
    | cont => exact False.elim h
/-- a law's walk, from what its def computes -/
theorem walk_ofG {l : PySem.W.OpenLaw} {n k : Nat} {q : Program} {loose : List Str} {XP : (Str → Option Value) → Heap → Prop} {YP : World → Heap → Prop} {d : PySem.DefRec} {K : Params → PySem.W.Frag} {x : Str} {sem : World → Sem'}
    (hn : l.most = some n) (hn2 : n ≤ sizeLine) (hdf : d.params.defaults = []) (hr : Room k callerA)
    (hY : ∀ (w : World) (h : Heap), YP w h → (K w.params).In h)
    (F : ∀ (w : World) (mg : Str → Option Value) (fa : Addr) (h : Heap), (K w.params).In h → h.Ns mainGlobals mg → mg d.name = some (.ref fa) →
      ∃ fd : FuncData, (∀ (s : Shared) (u : Value), BindsTo s fd ⟨[u], []⟩ [(x, u)]) ∧
        ∀ base : Heap, (K w.params).In base → base.Ns mainGlobals mg → FnG l.prog w (K w.params) mg base (L2.CX l.prog w) k fa fd [x] (spD (K w.params) 1 (sem w)))
    (hsem : ∀ (w : World) (ns : List Int), ns.length ≤ n → ∃ as, sem w [some ⟨.ro (ns.map .int), .frz⟩] = .ok (.frz (.bl true)) as) :
    PySem.W.WalkO q loose XP YP l.row.toRowW d [] (fun f vs => PySem.call f vs) := by
  refine Att.attach_call hn hdf fun w s₀ s₁ mg mb fa o pm cd doc a vs ns G Y ho hd hcd hmg hobj hints hlen hg => ?_
  have KX := hY w _ Y
  obtain ⟨fd, hb, hF⟩ := F w mg fa _ KX G.T.g hmg
  exact law_callG KX G.T.g G.T.b G.T.builtins G.T.nolimit hg hobj hints (Nat.le_trans hlen hn2) hr hF hb (hsem w ns hlen)
end DL

set_option Elab.async false
set_option linter.all false
set_option maxRecDepth 100000
set_option maxHeartbeats 4000000
namespace DL
open PySem PySem.Spec PyProof.Rows L2

/-! ### small words for a walk -/
section
variable {X : Cx} {W : WX} {x : Str} {pos p : Pos} {e : Expr} {es : List Expr} {ms : DM (List AV)}
theorem pf_globV {v : V} {d : D} (h : ∃ u, X.mg x = some u ∧ RelV v u) (hg : Gl X x) (hd : ∀ F, Dat X.K F v d) (hdb : (x == ("__debug__" : Str)) = false := by decide) : PF X W (.Name x pos) (pure d) := by
  obtain ⟨u, h1, h2⟩ := h
  exact pf_val (pe_glob hg h1 h2 hdb) hd
theorem pf_globS {z : Str} (h : ∃ u, X.mg x = some u ∧ RelV (.str z) u) (hg : Gl X x) (hdb : (x == ("__debug__" : Str)) = false := by decide) : PF X W (.Name x pos) (pure (.str z)) := pf_globV h hg (fun _ => .str z) hdb
theorem pf_globI {z : Int} (h : ∃ u, X.mg x = some u ∧ RelV (.int z) u) (hg : Gl X x) (hdb : (x == ("__debug__" : Str)) = false := by decide) : PF X W (.Name x pos) (pure (.int z)) := pf_globV h hg (fun _ => .int z) hdb
/-- a built-in type, named -/
theorem pf_ty {T : String} (hm : X.mg x = none) (hg : Gl X x) (hv : bootBuiltins x = some (.type T)) (hn : x ≠ "__name__" := by decide) (hdb : (x == ("__debug__" : Str)) = false := by decide) : PF X W (.Name x pos) (pure (.ty T)) :=
  pf_val (pe_bltn (v := .ty T) hg hm hv rfl hn hdb) fun _ => .ty T
end
/-- keywords behind the written arguments, in the parameters' order -/
theorem ARs.app {K : PySem.W.Frag} {F : Hp} {σ : L2.St} : ∀ {vs : List V} {as : List AV} {zs : List V} {bs : List AV}, ARs K F σ vs as → ARs K F σ zs bs → ARs K F σ (vs ++ zs) (as ++ bs)
  | [], [], _, _, _, h => h
  | _ :: _, _ :: _, _, _, h, h2 => ⟨h.1, ARs.app h.2 h2⟩
  | [], _ :: _, _, _, h, _ => h.elim
  | _ :: _, [], _, _, h, _ => h.elim
theorem kbd_kw {K : PySem.W.Frag} {fd : FuncData} {ps ks : List Str} {n : Nat} (h : ∀ (s : Shared) (us ws : List Value), K.In s.heap → us.length = n → ws.length = ks.length → BindsTo s fd ⟨us, ks.zip ws⟩ (ps.zip (us ++ ws))) : KBd K fd ps ks n (fun as bs => as ++ bs) :=
  ⟨fun us ws => us ++ ws, fun vs zs => vs ++ zs, h, fun r r2 => r.append r2, fun h1 h2 _ _ => h1.app h2⟩
/-- a def of the module, its promise at no depth -/
theorem fnG_zero {P : Program} {w : World} {K : PySem.W.Frag} {mg : Str → Option Value} {base : Heap} {CX : CXT} {k : Nat} {f : Addr} {fd : FuncData} {ps : List Str} : FnG P w K mg base CX k f fd ps (spD K ps.length fun _ => .stuck) :=
  ⟨fun _ _ _ _ h => h.1, fun A outer s H args us vs Q E _ _ _ _ _ h => by
    obtain ⟨_, F, as, _, _, z⟩ := h
    exact z.elim⟩
abbrev plain2 : List AV → List AV → List AV := fun as _ => as
abbrev both2 : List AV → List AV → List AV := fun as bs => as ++ bs
end DL
namespace DL
open PySem PySem.Spec PyProof.Rows L2
/-! ### names for the parts of what is printed -/
def dNegV (m : DM AV) : DM RV := do let x ← m; let d ← peek x; gNeg d
def dConsF (m : DM D) (ms : DM (List D)) : DM (List D) := do let d ← m; let ds ← ms; pure (d :: ds)
def dSome (m : DM AV) : DM (Option Int) := do let a ← m; let d ← peek a; toI d
def dTru (m : DM AV) : DM Bool := do let a ← m; let d ← peek a; truD d
def dR1 (m : DM (List D)) : DM (List D) := do let ds ← m; srcR1 ds
def dR2 (m : DM (List D)) : DM (List D) := do let ds ← m; srcR2 ds
def dS_list (m : DM D) : DM (List D) := do let d ← m; match d with | .lst ds => pure ds | .ro ds => pure ds | _ => DM.stop
def dS_tup (m : DM D) : DM (List D) := do let d ← m; match d with | .tup ds => pure ds | _ => DM.stop
def dS_str (m : DM D) : DM (List D) := do let d ← m; match d with | .str z => pure (signs z) | _ => DM.stop
end DL
namespace DL
open PySem PySem.Spec PyProof.Rows L2
section
variable {X : Cx} {W : WX} {elt tg iter : Expr} {ifs : List Expr} {scope : Scope} {own : List (Str × Nat)} {pos : Pos}
theorem pd_lcV {vs : List Nat} {m : DM (List D)} {t : Tg} {mt : DM Bool} {me : DM D} (hc : X.calm = true) (hN : X.N.Nodup) (hi : PSrc X W tg iter m) (ok : BlkOk X.N X.env.scope scope own)
    (hg : ∀ (s : Shared) (H : Hp) (C : Addr) (cl : List (Str × Addr)) (fp : List Addr), PG (X.blk s H scope (compEnvC scope cl C X.env) fp) tg (gTg X.K t)) (ht : ∀ (s : Shared) (H : Hp) (C : Addr) (cl : List (Str × Addr)) (fp : List Addr), PTsB (X.blk s H scope (compEnvC scope cl C X.env) fp) W0 ifs mt)
    (he : ∀ (s : Shared) (H : Hp) (C : Addr) (cl : List (Str × Addr)) (fp : List Addr), PF (X.blk s H scope (compEnvC scope cl C X.env) fp) W0 elt me) (hsl : ∀ j ∈ t.slots, j ∈ own.map (·.2)) (hv : own.map (·.2) = vs := by rfl) (hs : ∀ x, foldedSetIterable iter X.env x = pure x := by intro _; rfl) :
    PD X W (.ListComp elt [⟨tg, iter, ifs, 0⟩] scope pos) (dLc vs m t mt me) := by
  subst hv
  exact pd_lc (g := gName 0) hc hN hi ok hg ht he hsl hs
end
end DL
namespace DL
open PySem PySem.Spec PyProof.Rows L2
section
variable {X : Cx} {W : WX} {k n : Nat} {f : Addr} {fd : FuncData} {ps ks : List Str} {sem : Sem'} {x : Str} {p pos : Pos} {e : Expr} {es : List Expr} {kws : List Keyword} {ms mk : DM (List AV)} {g : List AV → List AV → List AV} {np : Nat}
theorem pd_callV (Fn : FnG X.prog X.w X.K X.mg X.base (L2.CX X.prog X.w) k f fd ps (spD X.K np sem)) (hnp : ps.length = np) (hr : Room k X.A) (hgd : X.A.guards = some []) (hx : OkX X W) (hm : X.mg x = some (.ref f)) (hk : PySem.W.keepIn X.K (.ref f) = true) (hb : KBd X.K fd ps [] n g) (hg : Gl X x) (ha : PVs X W (e :: es) ms)
    (hdb : (x == ("__debug__" : Str)) = false := by decide) (he : starEach (e :: es) X.env = (false, eval e X.env) :: starEach es X.env := by rfl) (hpl : (backTo pos (starEach es X.env)).any (·.1) = false := by rfl) :
    PD X W (.Call (.Name x p) (e :: es) [] pos) (dCallN n 0 np sem g ms (pure [])) := by
  subst hnp
  exact pd_call Fn hr hgd hx hg hm hk hb ha hdb he hpl
theorem pd_call0V (Fn : FnG X.prog X.w X.K X.mg X.base (L2.CX X.prog X.w) k f fd ps (spD X.K np sem)) (hnp : ps.length = np) (hr : Room k X.A) (hgd : X.A.guards = some []) (hx : OkX X W) (hm : X.mg x = some (.ref f)) (hk : PySem.W.keepIn X.K (.ref f) = true) (hb : KBd X.K fd ps [] n g) (hg : Gl X x)
    (hdb : (x == ("__debug__" : Str)) = false := by decide) : PD X W (.Call (.Name x p) [] [] pos) (dCallN n 0 np sem g (pure []) (pure [])) := by
  subst hnp
  exact pd_call0 Fn hr hgd hx hg hm hk hb hdb
theorem pd_callKV {nk : Nat} (Fn : FnG X.prog X.w X.K X.mg X.base (L2.CX X.prog X.w) k f fd ps (spD X.K np sem)) (hnp : ps.length = np) (hr : Room k X.A) (hgd : X.A.guards = some []) (hx : OkX X W) (hm : X.mg x = some (.ref f)) (hk : PySem.W.keepIn X.K (.ref f) = true) (hb : KBd X.K fd ps ks n g) (hnk : ks.length = nk) (hg : Gl X x) (ha : PVs X W (e :: es) ms) (hkw : PKs X W kws mk)
    (hall : (backToKw pos (keywordEach kws X.env)).all (·.1.isSome) = true := by rfl) (hks : (backToKw pos (keywordEach kws X.env)).filterMap (·.1) = ks := by rfl)
    (hdb : (x == ("__debug__" : Str)) = false := by decide) (he : starEach (e :: es) X.env = (false, eval e X.env) :: starEach es X.env := by rfl)
    (hpl : ((backTo pos (starEach (e :: es) X.env)).any (·.1) || (backToKw pos (keywordEach kws X.env)).any (·.1.isNone)) = false := by rfl) :
    PD X W (.Call (.Name x p) (e :: es) kws pos) (dCallN n nk np sem g ms mk) := by
  subst hnp hnk
  exact pd_callK Fn hr hgd hx hg hm hk hb ha hkw hall hks hdb he hpl
theorem pd_callK0V {nk : Nat} (Fn : FnG X.prog X.w X.K X.mg X.base (L2.CX X.prog X.w) k f fd ps (spD X.K np sem)) (hnp : ps.length = np) (hr : Room k X.A) (hgd : X.A.guards = some []) (hx : OkX X W) (hm : X.mg x = some (.ref f)) (hk : PySem.W.keepIn X.K (.ref f) = true) (hb : KBd X.K fd ps ks n g) (hnk : ks.length = nk) (hg : Gl X x) (hkw : PKs X W kws mk)
    (hall : (backToKw pos (keywordEach kws X.env)).all (·.1.isSome) = true := by rfl) (hks : (backToKw pos (keywordEach kws X.env)).filterMap (·.1) = ks := by rfl)
    (hdb : (x == ("__debug__" : Str)) = false := by decide) (hpl : ((backTo pos (starEach [] X.env)).any (·.1) || (backToKw pos (keywordEach kws X.env)).any (·.1.isNone)) = false := by rfl) :
    PD X W (.Call (.Name x p) [] kws pos) (dCallN n nk np sem g (pure []) mk) := by
  subst hnp hnk
  exact pd_callK0 Fn hr hgd hx hg hm hk hb hkw hall hks hdb hpl
end
end DL

set_option Elab.async false
set_option linter.all false
set_option maxRecDepth 100000
set_option maxHeartbeats 4000000
namespace DL
open PySem PySem.Spec PyProof.Rows L2

/-! ### what a denotation gives, by postconditions -/
def EW {α : Type} (r : Res α) (Q : α → Dl → Prop) : Prop := match r with
  | .ok a δ => Q a δ
  | _ => False
structure Po where
  nx : Dl → Prop
  rt : RV → Dl → Prop
  bk : Dl → Prop
  ct : Dl → Prop
def SW (r : SRes) (P : Po) : Prop := match r with
  | .nx δ => P.nx δ
  | .rt x δ => P.rt x δ
  | .bk δ => P.bk δ
  | .ct δ => P.ct δ
  | _ => False
def CW (r : CRes) (Q : RV → Dl → Prop) : Prop := match r with
  | .ok x as => Q x as
  | _ => False
section
variable {α β : Type} {δ : Dl} {Q : α → Dl → Prop} {P : Po}
theorem EW.mono {r : Res α} {Q' : α → Dl → Prop} (h : EW r Q) (q : ∀ a δ, Q a δ → Q' a δ) : EW r Q' := by
  cases r with
  | ok a δ => exact q _ _ h
  | _ => exact h
theorem SW.mono {r : SRes} {P' : Po} (h : SW r P) (n : ∀ δ, P.nx δ → P'.nx δ) (t : ∀ x δ, P.rt x δ → P'.rt x δ) (b : ∀ δ, P.bk δ → P'.bk δ) (c : ∀ δ, P.ct δ → P'.ct δ) : SW r P' := by
  cases r with
  | nx δ => exact n _ h
  | rt x δ => exact t _ _ h
  | bk δ => exact b _ h
  | ct δ => exact c _ h
  | _ => exact h
theorem CW.mono {r : CRes} {Q Q' : RV → Dl → Prop} (h : CW r Q) (q : ∀ a δ, Q a δ → Q' a δ) : CW r Q' := by
  cases r with
  | ok a δ => exact q _ _ h
  | _ => exact h
theorem ew_pure (a : α) : EW ((pure a : DM α) δ) Q = Q a δ := rfl
theorem ew_bind (m : DM β) (f : β → DM α) : EW ((m >>= f) δ) Q = EW (m δ) fun a δ' => EW (f a δ') Q := by
  rw [bind_def]
  cases m δ <;> rfl
theorem ew_map (f : β → α) (m : DM β) : EW ((f <$> m) δ) Q = EW (m δ) fun a δ' => Q (f a) δ' := by
  show EW ((m >>= fun a => (pure (f a) : DM α)) δ) Q = _
  rw [ew_bind]
  rfl
theorem ew_stop : EW ((DM.stop : DM α) δ) Q = False := rfl
theorem ew_ok (d : D) {Q : RV → Dl → Prop} : EW (ok d δ) Q = Q (.frz d) δ := rfl
theorem ew_okO (d : D) {Q : RV → Dl → Prop} : EW (okO d δ) Q = Q (.own d) δ := rfl
theorem ew_guard (b : Bool) (m : DM RV) {Q : RV → Dl → Prop} : EW (guard b m δ) Q = (b = true ∧ EW (m δ) Q) := by
  cases b with
  | true => exact propext ⟨fun h => ⟨rfl, h⟩, fun h => h.2⟩
  | false => exact propext ⟨fun h => h.elim, fun h => nomatch h.1⟩
theorem ew_some (a : β) (f : β → DM RV) {Q : RV → Dl → Prop} : EW (optD (some a) f δ) Q = EW (f a δ) Q := rfl
theorem ew_none (f : β → DM RV) {Q : RV → Dl → Prop} : EW (optD none f δ) Q = False := rfl
theorem ew_ite (c : Prop) [Decidable c] (m1 m2 : DM α) : EW ((if c then m1 else m2) δ) Q = if c then EW (m1 δ) Q else EW (m2 δ) Q := by
  split <;> rfl
/-- what stands at a slot -/
def nameQ (x : Option (Option Sl)) (i : Nat) (δ : Dl) (Q : RV → Dl → Prop) : Prop := match x with
  | some (some ⟨d, .frz⟩) => Q (.frz d) δ
  | some (some ⟨_, .own⟩) => Q (.slot i) δ
  | some (some ⟨_, .lent⟩) => Q (.slot i) δ
  | _ => False
theorem ew_name (i : Nat) {Q : RV → Dl → Prop} : EW (dName i δ) Q = nameQ δ[i]? i δ Q := by
  unfold dName
  cases δ[i]? with
  | none => rfl
  | some s =>
    cases s with
    | none => rfl
    | some s =>
      obtain ⟨d, k⟩ := s
      cases k <;> rfl
def slotQ (x : Option (Option Sl)) (Q : D → Prop) : Prop := match x with
  | some (some ⟨d, _⟩) => Q d
  | _ => False
theorem ew_slotD (i : Nat) {Q : D → Dl → Prop} : EW (slotD i δ) Q = slotQ δ[i]? fun d => Q d δ := by
  unfold slotD
  cases δ[i]? with
  | none => rfl
  | some s => cases s <;> rfl
theorem ew_peekF (d : D) {Q : D → Dl → Prop} : EW (peek (.frz d) δ) Q = Q d δ := rfl
theorem ew_peekS (i : Nat) {Q : D → Dl → Prop} : EW (peek (.slot i) δ) Q = slotQ δ[i]? fun d => Q d δ := ew_slotD i
theorem ew_argF (d : D) {Q : AV → Dl → Prop} : EW (argR (.frz d) δ) Q = Q (.frz d) δ := rfl
theorem ew_argS (i : Nat) {Q : AV → Dl → Prop} : EW (argR (.slot i) δ) Q = Q (.slot i) δ := rfl
theorem ew_argO (d : D) {Q : AV → Dl → Prop} : EW (argR (.own d) δ) Q = Q (.frz d) δ := rfl
theorem ew_frzF (d : D) {Q : D → Dl → Prop} : EW (frzR (.frz d) δ) Q = Q d δ := rfl
theorem ew_frzO (d : D) {Q : D → Dl → Prop} : EW (frzR (.own d) δ) Q = Q d δ := rfl
theorem ew_frzS (i : Nat) {Q : D → Dl → Prop} : EW (frzR (.slot i) δ) Q = slotQ δ[i]? fun d => Q d (δ.set i (some ⟨d, .frz⟩)) := by
  show EW ((match δ[i]? with | some (some s) => Res.ok s.d (δ.set i (some ⟨s.d, .frz⟩)) | _ => .stuck)) Q = _
  cases δ[i]? with
  | none => rfl
  | some s => cases s <;> rfl
theorem ew_toB (b : Bool) {Q : Bool → Dl → Prop} : EW (toB (.frz (.bl b)) δ) Q = Q b δ := rfl
theorem sw_seq (m1 m2 : DS) : SW (dSeq m1 m2 δ) P = SW (m1 δ) { P with nx := fun δ' => SW (m2 δ') P } := by
  unfold dSeq
  cases m1 δ <;> rfl
theorem sw_thn (m : DM α) (k : α → DS) : SW (dThen m k δ) P = EW (m δ) fun a δ' => SW (k a δ') P := by
  unfold dThen
  cases m δ <;> rfl
theorem sw_nx : SW (.nx δ) P = P.nx δ := rfl
theorem sw_rt (x : RV) : SW (.rt x δ) P = P.rt x δ := rfl
theorem sw_ite (c : Prop) [Decidable c] (m1 m2 : DS) : SW ((if c then m1 else m2) δ) P = if c then SW (m1 δ) P else SW (m2 δ) P := by
  split <;> rfl
theorem sw_setF (i : Nat) (d : D) : SW (setR i (.frz d) δ) P = P.nx (δ.set i (some ⟨d, .frz⟩)) := rfl
theorem sw_setO (i : Nat) (d : D) : SW (setR i (.own d) δ) P = P.nx (δ.set i (some ⟨d, .own⟩)) := rfl
theorem sw_setS (i j : Nat) : SW (setR i (.slot j) δ) P = slotQ δ[j]? fun d => P.nx ((δ.set j (some ⟨d, .frz⟩)).set i (some ⟨d, .frz⟩)) := by
  show SW (match δ[j]? with | some (some s) => SRes.nx (setF i s.d (δ.set j (some ⟨s.d, .frz⟩))) | _ => .stuck) P = _
  cases δ[j]? with
  | none => rfl
  | some s => cases s <;> rfl
theorem sw_retF (d : D) : SW (retR (.frz d) δ) P = P.rt (.frz d) δ := rfl
theorem sw_retO (d : D) : SW (retR (.own d) δ) P = P.rt (.own d) δ := rfl
def retQ (x : Option (Option Sl)) (i : Nat) (δ : Dl) (Q : RV → Dl → Prop) : Prop := match x with
  | some (some ⟨d, .own⟩) => Q (.own d) (δ.set i none)
  | some (some ⟨d, .lent⟩) => Q (.frz d) (δ.set i (some ⟨d, .frz⟩))
  | _ => False
theorem sw_retS (i : Nat) : SW (retR (.slot i) δ) P = retQ δ[i]? i δ P.rt := by
  show SW ((match δ[i]? with | some (some ⟨d, .own⟩) => SRes.rt (.own d) (δ.set i none) | some (some ⟨d, .lent⟩) => .rt (.frz d) (δ.set i (some ⟨d, .frz⟩)) | _ => .stuck)) P = _
  cases δ[i]? with
  | none => rfl
  | some s =>
    cases s with
    | none => rfl
    | some s =>
      obtain ⟨d, k⟩ := s
      cases k <;> rfl
/-- the list that a slot owns is changed -/
def ownQ (x : Option (Option Sl)) (Q : List D → Ow → Prop) : Prop := match x with
  | some (some ⟨.lst ds, .own⟩) => Q ds .own
  | some (some ⟨.lst ds, .lent⟩) => Q ds .lent
  | _ => False
theorem sw_store (j : Nat) (i : Int) (v : D) : SW (storeK (.slot j) (.int i) v δ) P = ownQ δ[j]? fun ds k => ∃ n, ixN ds.length i = some n ∧ P.nx (δ.set j (some ⟨.lst (ds.set n v), k⟩)) := by
  have key : ∀ x, δ[j]? = x → SW (storeK (.slot j) (.int i) v δ) P = ownQ x fun ds k => ∃ n, ixN ds.length i = some n ∧ P.nx (δ.set j (some ⟨.lst (ds.set n v), k⟩)) := fun x e => by
    have fin : ∀ {ds : List D} {k : Ow}, ownL (.slot j) δ = some (j, ds, k) → SW (storeK (.slot j) (.int i) v δ) P = ∃ n, ixN ds.length i = some n ∧ P.nx (δ.set j (some ⟨.lst (ds.set n v), k⟩)) := fun {ds k} ho => by
      unfold storeK
      simp only [ho]
      cases ixN ds.length i with
      | none => exact propext ⟨fun h => h.elim, fun ⟨n, e, _⟩ => by cases e⟩
      | some n => exact propext ⟨fun h => ⟨n, rfl, h⟩, fun ⟨n', e, h⟩ => by cases e; exact h⟩
    have non : ownL (.slot j) δ = none → SW (storeK (.slot j) (.int i) v δ) P = False := fun ho => by
      unfold storeK
      simp only [ho]
      rfl
    cases x with
    | none => exact non (by simp only [ownL, e])
    | some s =>
      cases s with
      | none => exact non (by simp only [ownL, e])
      | some s =>
        obtain ⟨d, k⟩ := s
        cases d with
        | lst ds =>
          cases k with
          | frz => exact non (by simp only [ownL, e])
          | own => exact fin (by simp only [ownL, e])
          | lent => exact fin (by simp only [ownL, e])
        | _ => cases k <;> exact non (by simp only [ownL, e])
  exact key _ rfl
theorem cw_semOf {n np : Nat} {body : DS} {as : Dl} {Q : RV → Dl → Prop} : CW (semOf n np body as) Q = SW (body (as ++ List.replicate (n - np) none)) ⟨fun δ => Q (.frz .non) (cut np δ), fun r δ => Q r (cut np δ), fun _ => False, fun _ => False⟩ := by
  unfold semOf
  cases body (as ++ List.replicate (n - np) none) <;> rfl
theorem CW.ex {r : CRes} {Q : RV → Dl → Prop} (h : CW r Q) : ∃ x as, r = .ok x as ∧ Q x as := by
  cases r with
  | ok x as => exact ⟨x, as, rfl, h⟩
  | _ => exact h.elim
/-- a call, as its def's promise tells -/
theorem ew_call {n m np : Nat} {sem : Sem'} {g : List AV → List AV → List AV} {ms ks : DM (List AV)} {Q : RV → Dl → Prop} :
    EW (dCallN n m np sem g ms ks δ) Q = EW (ms δ) fun as δ1 => EW (ks δ1) fun bs δ2 => (as.length = n ∧ bs.length = m ∧ (g as bs).length = np) ∧ ∃ cs kk, argsOf δ2 (g as bs) = some (cs, kk) ∧ (slotsOf (g as bs)).Nodup ∧ CW (sem cs) fun x cs' => Q x (backS (g as bs) kk cs' δ2) := by
  unfold dCallN
  rw [ew_bind]
  congr 1
  funext as δ1
  rw [ew_bind]
  congr 1
  funext bs δ2
  by_cases h : as.length = n ∧ bs.length = m ∧ (g as bs).length = np
  · rw [if_pos h]
    unfold callS
    cases e : argsOf δ2 (g as bs) with
    | none => exact propext ⟨fun z => z.elim, fun ⟨_, _, _, e, _⟩ => by cases e⟩
    | some r =>
      obtain ⟨cs, kk⟩ := r
      simp only
      by_cases nd : (slotsOf (g as bs)).Nodup
      · rw [if_pos nd]
        cases es : sem cs with
        | ok x cs' => exact propext ⟨fun z => ⟨h, cs, kk, rfl, nd, by rw [es]; exact z⟩, fun ⟨_, cs2, kk2, e2, _, z⟩ => by cases e2; rw [es] at z; exact z⟩
        | exc x cs' => exact propext ⟨fun z => z.elim, fun ⟨_, cs2, kk2, e2, _, z⟩ => by cases e2; rw [es] at z; exact z⟩
        | stuck => exact propext ⟨fun z => z.elim, fun ⟨_, cs2, kk2, e2, _, z⟩ => by cases e2; rw [es] at z; exact z⟩
      · rw [if_neg nd]
        exact propext ⟨fun z => z.elim, fun ⟨_, cs2, kk2, e2, z, _⟩ => (nd z).elim⟩
  · rw [if_neg h]
    exact propext ⟨fun z => z.elim, fun z => (h z.1).elim⟩
/-- a for loop, by an invariant -/
theorem sw_forL {I : Nat → Dl → Prop} {tg : Tg} {body : DS} {ds : List D} (step : ∀ i d δ, ds[i]? = some d → I i δ → ∃ δ1, setTg tg d δ = some δ1 ∧ SW (body δ1) ⟨I (i + 1), P.rt, P.nx, I (i + 1)⟩) (stop : ∀ δ, I ds.length δ → P.nx δ) (h : I 0 δ) : SW (forL tg body ds δ) P := by
  induction ds generalizing I δ with
  | nil => exact stop δ h
  | cons d ds ih =>
    obtain ⟨δ1, e, w⟩ := step 0 d δ rfl h
    unfold forL
    simp only [e]
    have rest : ∀ δ2, I 1 δ2 → SW (forL tg body ds δ2) P := fun δ2 h2 => ih (I := fun i => I (i + 1)) (fun i d δ hd hi => step (i + 1) d δ hd hi) stop h2
    cases hb : body δ1 with
    | nx δ2 => rw [hb] at w; exact rest δ2 w
    | ct δ2 => rw [hb] at w; exact rest δ2 w
    | bk δ2 => rw [hb] at w; exact w
    | rt x δ2 => rw [hb] at w; exact w
    | exc x δ2 => rw [hb] at w; exact w
    | stuck => rw [hb] at w; exact w
/-- a comprehension, by an invariant -/
theorem ew_lcL {J : Nat → List D → Dl → Prop} {vs : List Nat} {tg : Tg} {test : DM Bool} {elt : DM D} {ds : List D} (step : ∀ i d acc δ, ds[i]? = some d → J i acc δ → ∃ δ1, setTg tg d (wipeD δ vs) = some δ1 ∧ EW (test δ1) fun b δ2 => if b = true then EW (elt δ2) fun y δ3 => acc.length < sizeLine ∧ J (i + 1) (acc ++ [y]) δ3 else J (i + 1) acc δ2)
    {acc : List D} (h : J 0 acc δ) : EW (lcL vs tg test elt ds acc δ) (J ds.length) := by
  induction ds generalizing J δ acc with
  | nil => exact h
  | cons d ds ih =>
    obtain ⟨δ1, e, w⟩ := step 0 d acc δ rfl h
    have rest : ∀ acc2 δ2, J 1 acc2 δ2 → EW (lcL vs tg test elt ds acc2 δ2) (J (ds.length + 1)) := fun acc2 δ2 h2 => ih (J := fun i => J (i + 1)) (fun i d acc δ hd hi => step (i + 1) d acc δ hd hi) h2
    unfold lcL
    simp only [e]
    cases ht : test δ1 with
    | ok b δ2 =>
      rw [ht] at w
      cases b with
      | false =>
        have w : J 1 acc δ2 := by simpa [EW] using w
        exact rest _ _ w
      | true =>
        have w : EW (elt δ2) fun y δ3 => acc.length < sizeLine ∧ J 1 (acc ++ [y]) δ3 := by simpa [EW] using w
        cases he : elt δ2 with
        | ok y δ3 =>
          rw [he] at w
          have w1 : acc.length < sizeLine := w.1
          simp only [he, if_pos w1]
          exact rest _ _ w.2
        | exc x δ3 => rw [he] at w; exact w.elim
        | stuck => rw [he] at w; exact w.elim
    | exc x δ2 => rw [ht] at w; exact w.elim
    | stuck => rw [ht] at w; exact w.elim
theorem ew_lc {vs : List Nat} {src : DM (List D)} {tg : Tg} {test : DM Bool} {elt : DM D} {Q : RV → Dl → Prop} :
    EW (dLc vs src tg test elt δ) Q = EW (src δ) fun ds δ1 => EW (lcL vs tg test elt ds [] (wipeD δ1 vs)) fun acc δ' => Q (.own (.lst acc)) (backD vs δ1 (wipeD δ' vs)) := by
  unfold dLc
  rw [ew_bind]
  congr 1
  funext ds δ1
  cases lcL vs tg test elt ds [] (wipeD δ1 vs) <;> rfl
end
end DL

set_option Elab.async false
set_option linter.all false
set_option maxRecDepth 100000
set_option maxHeartbeats 4000000
namespace DL
open PySem PySem.Spec PyProof.Rows L2

/-! ### evaluation, head first -/
section
variable {α β : Type} {δ : Dl} {P : Po} {Q : RV → Dl → Prop}
theorem ev_name (i : Nat) : EW (dName i δ) Q = nameQ δ[i]? i δ Q := ew_name i
theorem nameQ_s (x : Option Sl) (l : Dl) (i j : Nat) : nameQ ((x :: l)[i + 1]?) j δ Q = nameQ (l[i]?) j δ Q := rfl
theorem nameQ_f (d : D) (l : Dl) (j : Nat) : nameQ ((some (Sl.mk d .frz) :: l)[0]?) j δ Q = Q (.frz d) δ := rfl
theorem nameQ_o (d : D) (l : Dl) (j : Nat) : nameQ ((some (Sl.mk d .own) :: l)[0]?) j δ Q = Q (.slot j) δ := rfl
theorem nameQ_l (d : D) (l : Dl) (j : Nat) : nameQ ((some (Sl.mk d .lent) :: l)[0]?) j δ Q = Q (.slot j) δ := rfl
theorem slotQ_s (x : Option Sl) (l : Dl) (i : Nat) {Q : D → Prop} : slotQ ((x :: l)[i + 1]?) Q = slotQ (l[i]?) Q := rfl
theorem slotQ_z (d : D) (k : Ow) (l : Dl) {Q : D → Prop} : slotQ ((some (Sl.mk d k) :: l)[0]?) Q = Q d := rfl
theorem retQ_s (x : Option Sl) (l : Dl) (i j : Nat) : retQ ((x :: l)[i + 1]?) j δ Q = retQ (l[i]?) j δ Q := rfl
theorem retQ_o (d : D) (l : Dl) (j : Nat) : retQ ((some (Sl.mk d .own) :: l)[0]?) j δ Q = Q (.own d) (δ.set j none) := rfl
theorem retQ_l (d : D) (l : Dl) (j : Nat) : retQ ((some (Sl.mk d .lent) :: l)[0]?) j δ Q = Q (.frz d) (δ.set j (some ⟨d, .frz⟩)) := rfl
theorem ownQ_s (x : Option Sl) (l : Dl) (i : Nat) {Q : List D → Ow → Prop} : ownQ ((x :: l)[i + 1]?) Q = ownQ (l[i]?) Q := rfl
theorem ownQ_o (ds : List D) (l : Dl) {Q : List D → Ow → Prop} : ownQ ((some (Sl.mk (.lst ds) .own) :: l)[0]?) Q = Q ds .own := rfl
theorem ownQ_l (ds : List D) (l : Dl) {Q : List D → Ow → Prop} : ownQ ((some (Sl.mk (.lst ds) .lent) :: l)[0]?) Q = Q ds .lent := rfl
/-- a slot is set -/
def upQ (δ : Dl) (i : Nat) (s : Option Sl) (Q : Dl → Prop) : Prop := Q (δ.set i s)
theorem upQ_s (x : Option Sl) (l : Dl) (i : Nat) (s : Option Sl) {Q : Dl → Prop} : upQ (x :: l) (i + 1) s Q = upQ l i s fun l' => Q (x :: l') := rfl
theorem upQ_z (x : Option Sl) (l : Dl) (s : Option Sl) {Q : Dl → Prop} : upQ (x :: l) 0 s Q = Q (s :: l) := rfl
theorem ev_frzS (i : Nat) {Q : D → Dl → Prop} : EW (frzR (.slot i) δ) Q = slotQ δ[i]? fun d => upQ δ i (some ⟨d, .frz⟩) fun δ' => Q d δ' := ew_frzS i
theorem sv_setF (i : Nat) (d : D) : SW (setR i (.frz d) δ) P = upQ δ i (some ⟨d, .frz⟩) P.nx := rfl
theorem sv_setO (i : Nat) (d : D) : SW (setR i (.own d) δ) P = upQ δ i (some ⟨d, .own⟩) P.nx := rfl
theorem sv_setS (i j : Nat) : SW (setR i (.slot j) δ) P = slotQ δ[j]? fun d => upQ δ j (some ⟨d, .frz⟩) fun δ' => upQ δ' i (some ⟨d, .frz⟩) P.nx := sw_setS i j
def retU (x : Option (Option Sl)) (i : Nat) (δ : Dl) (Q : RV → Dl → Prop) : Prop := retQ x i δ Q
theorem sv_retS (i : Nat) : SW (retR (.slot i) δ) P = retU δ[i]? i δ P.rt := sw_retS i
theorem retU_s (x : Option Sl) (l : Dl) (i j : Nat) : retU ((x :: l)[i + 1]?) j δ Q = retU (l[i]?) j δ Q := rfl
theorem retU_o (d : D) (l : Dl) (j : Nat) : retU ((some (Sl.mk d .own) :: l)[0]?) j δ Q = upQ δ j none (Q (.own d)) := rfl
theorem retU_l (d : D) (l : Dl) (j : Nat) : retU ((some (Sl.mk d .lent) :: l)[0]?) j δ Q = upQ δ j (some ⟨d, .frz⟩) (Q (.frz d)) := rfl
/-- an item -/
def atQ {α : Type} (o : Option α) (Q : α → Prop) : Prop := match o with
  | some d => Q d
  | none => False
theorem optD_at {α : Type} (o : Option α) (f : α → DM RV) : EW (optD o f δ) Q = atQ o fun a => EW (f a δ) Q := by cases o <;> rfl
theorem atQ_some {α : Type} (a : α) {Q : α → Prop} : atQ (some a) Q = Q a := rfl
theorem at_0 {α : Type} (a : α) (l : List α) {Q : α → Prop} : atQ (L2.atI (a :: l) 0) Q = Q a := by
  have : ixN (a :: l).length 0 = some 0 := by unfold ixN; simp <;> omega
  unfold L2.atI; rw [this]; rfl
theorem at_1 {α : Type} (a b : α) (l : List α) {Q : α → Prop} : atQ (L2.atI (a :: b :: l) 1) Q = Q b := by
  have : ixN (a :: b :: l).length 1 = some 1 := by unfold ixN; simp; omega
  unfold L2.atI; rw [this]; rfl
theorem at_2 {α : Type} (a b c : α) (l : List α) {Q : α → Prop} : atQ (L2.atI (a :: b :: c :: l) 2) Q = Q c := by
  have : ixN (a :: b :: c :: l).length 2 = some 2 := by unfold ixN; simp; omega
  unfold L2.atI; rw [this]; rfl
theorem at_3 {α : Type} (a b c d : α) (l : List α) {Q : α → Prop} : atQ (L2.atI (a :: b :: c :: d :: l) 3) Q = Q d := by
  have : ixN (a :: b :: c :: d :: l).length 3 = some 3 := by unfold ixN; simp; omega
  unfold L2.atI; rw [this]; rfl
theorem ixN_of {n : Nat} {i : Int} (h0 : 0 ≤ i) (h1 : i < n) : ixN n i = some i.toNat := by
  unfold ixN
  split <;> first | rfl | omega | (simp; omega)
theorem atI_of {α : Type} {l : List α} {i : Int} (h0 : 0 ≤ i) (h1 : i < l.length) : ∃ a ∈ l, L2.atI l i = some a := by
  have hi : i.toNat < l.length := by omega
  refine ⟨l[i.toNat], List.getElem_mem hi, ?_⟩
  unfold L2.atI
  rw [ixN_of h0 h1]
  exact List.getElem?_eq_getElem hi
/-- list stores by number -/
def stQ (n : Nat) (i : Int) (Q : Nat → Prop) : Prop := ∃ k, ixN n i = some k ∧ Q k
def lsQ (ds : List D) (n : Nat) (v : D) (Q : List D → Prop) : Prop := Q (ds.set n v)
theorem lsQ_s (x : D) (l : List D) (i : Nat) (v : D) {Q : List D → Prop} : lsQ (x :: l) (i + 1) v Q = lsQ l i v fun l' => Q (x :: l') := rfl
theorem lsQ_z (x : D) (l : List D) (v : D) {Q : List D → Prop} : lsQ (x :: l) 0 v Q = Q (v :: l) := rfl
theorem sv_store (j : Nat) (i : Int) (v : D) : SW (storeK (.slot j) (.int i) v δ) P = ownQ δ[j]? fun ds k => stQ ds.length i fun n => lsQ ds n v fun ds' => upQ δ j (some ⟨.lst ds', k⟩) P.nx := sw_store j i v
theorem st_lit {α : Type} {l : List α} {i : Nat} {Q : Nat → Prop} (h : i < l.length) : stQ l.length (i : Int) Q = Q i := by
  unfold stQ
  rw [ixN_of (by omega) (by omega)]
  exact propext ⟨fun ⟨k, e, q⟩ => by cases e; exact q, fun q => ⟨_, rfl, q⟩⟩
theorem st_1 {α : Type} (a b : α) (l : List α) {Q : Nat → Prop} : stQ (a :: b :: l).length 1 Q = Q 1 := st_lit (l := a :: b :: l) (i := 1) (by simp)
theorem st_2 {α : Type} (a b c : α) (l : List α) {Q : Nat → Prop} : stQ (a :: b :: c :: l).length 2 Q = Q 2 := st_lit (l := a :: b :: c :: l) (i := 2) (by simp)
theorem st_3 {α : Type} (a b c d : α) (l : List α) {Q : Nat → Prop} : stQ (a :: b :: c :: d :: l).length 3 Q = Q 3 := st_lit (l := a :: b :: c :: d :: l) (i := 3) (by simp)
theorem ev_d2 (g : D → D → DM RV) (m1 m2 : DM AV) : EW (d2 g m1 m2 δ) Q = EW (m1 δ) fun a δ1 => EW (m2 δ1) fun b δ2 => EW (peek a δ2) fun d δ3 => EW (peek b δ3) fun e δ4 => EW (g d e δ4) Q := by
  simp only [d2, ew_bind]
theorem ev_frz (m : DM RV) {Q : D → Dl → Prop} : EW (dFrz m δ) Q = EW (m δ) fun a δ' => EW (frzR a δ') Q := ew_bind m frzR
theorem ev_consF (m : DM D) (ms : DM (List D)) {Q : List D → Dl → Prop} : EW (dConsF m ms δ) Q = EW (m δ) fun a δ1 => EW (ms δ1) fun as δ2 => Q (a :: as) δ2 := by
  simp only [dConsF, ew_bind, ew_pure]
theorem ev_cons (m : DM AV) (ms : DM (List AV)) {Q : List AV → Dl → Prop} : EW (dCons m ms δ) Q = EW (m δ) fun a δ1 => EW (ms δ1) fun as δ2 => Q (a :: as) δ2 := by
  simp only [dCons, ew_bind, ew_pure]
theorem ev_lst (ms : DM (List D)) : EW (dLst ms δ) Q = EW (ms δ) fun ds δ1 => ds.length ≤ sizeLine ∧ Q (.own (.lst ds)) δ1 := by
  simp only [dLst, ew_bind, ew_guard, ew_okO, decide_eq_true_eq]
theorem ev_tup (ms : DM (List D)) : EW (dTup ms δ) Q = EW (ms δ) fun ds δ1 => ds.length ≤ sizeLine ∧ Q (.frz (.tup ds)) δ1 := by
  simp only [dTup, ew_bind, ew_guard, ew_ok, decide_eq_true_eq]
theorem ev_dC (g : List D → DM RV) (ms : DM (List AV)) : EW (dC g ms δ) Q = EW (ms δ) fun as δ1 => EW (peeks as δ1) fun ds δ2 => EW (g ds δ2) Q := by
  simp only [dC, ew_bind]
theorem ev_peeks0 {Q : List D → Dl → Prop} : EW (peeks [] δ) Q = Q [] δ := rfl
theorem ev_peeks1 (a : AV) (as : List AV) {Q : List D → Dl → Prop} : EW (peeks (a :: as) δ) Q = EW (peek a δ) fun d δ1 => EW (peeks as δ1) fun ds δ2 => Q (d :: ds) δ2 := by
  simp only [peeks, ew_bind, ew_pure]
theorem ev_toBm (m : DM RV) {Q : Bool → Dl → Prop} : EW ((m >>= toB) δ) Q = EW (m δ) fun a δ' => EW (toB a δ') Q := ew_bind m toB
theorem ev_not (m : DM Bool) {Q : Bool → Dl → Prop} : EW (dNot m δ) Q = EW (m δ) fun b δ' => Q (!b) δ' := by
  simp only [dNot, ew_bind, ew_pure]
/-- a choice by a truth value -/
def chQ (b : Bool) (A B : Prop) : Prop := if b = true then A else B
theorem ch_t {b : Bool} {A B : Prop} (h : b = true) : chQ b A B = A := if_pos h
theorem ch_f {b : Bool} {A B : Prop} (h : b = false) : chQ b A B = B := if_neg (by rw [h]; decide)
theorem ch_tt {A B : Prop} : chQ true A B = A := rfl
theorem ch_ff {A B : Prop} : chQ false A B = B := rfl
theorem ch_of {b : Bool} {A B : Prop} (h1 : b = true → A) (h2 : b = false → B) : chQ b A B := by
  cases b with
  | true => exact h1 rfl
  | false => exact h2 rfl
theorem ev_and (m1 m2 : DM Bool) {Q : Bool → Dl → Prop} : EW (dAnd m1 m2 δ) Q = EW (m1 δ) fun b δ1 => chQ b (EW (m2 δ1) Q) (Q false δ1) := by
  simp only [dAnd, ew_bind]
  congr 1
  funext b δ1
  cases b <;> rfl
theorem ev_or (m1 m2 : DM Bool) {Q : Bool → Dl → Prop} : EW (dOr m1 m2 δ) Q = EW (m1 δ) fun b δ1 => chQ b (Q true δ1) (EW (m2 δ1) Q) := by
  simp only [dOr, ew_bind]
  congr 1
  funext b δ1
  cases b <;> rfl
theorem ev_andV (m1 m2 : DM RV) : EW (dAndV m1 m2 δ) Q = EW (m1 δ) fun a δ1 => EW (toB a δ1) fun b δ2 => chQ b (EW (m2 δ2) Q) (Q (.frz (.bl false)) δ2) := by
  simp only [dAndV, ew_bind]
  congr 1
  funext a δ1
  congr 1
  funext b δ2
  cases b <;> rfl
theorem ev_orV (m1 m2 : DM RV) : EW (dOrV m1 m2 δ) Q = EW (m1 δ) fun a δ1 => EW (toB a δ1) fun b δ2 => chQ b (Q (.frz (.bl true)) δ2) (EW (m2 δ2) Q) := by
  simp only [dOrV, ew_bind]
  congr 1
  funext a δ1
  congr 1
  funext b δ2
  cases b <;> rfl
theorem ev_notV (m : DM RV) : EW (dNotV m δ) Q = EW (m δ) fun a δ1 => EW (toB a δ1) fun b δ2 => Q (.frz (.bl (!b))) δ2 := by
  simp only [dNotV, ew_bind, ew_ok]
theorem ev_negV (m : DM AV) : EW (dNegV m δ) Q = EW (m δ) fun a δ1 => EW (peek a δ1) fun d δ2 => EW (gNeg d δ2) Q := by
  simp only [dNegV, ew_bind]
theorem ev_ifE (t : DM Bool) (m1 m2 : DM RV) : EW (dIfE t m1 m2 δ) Q = EW (t δ) fun b δ1 => chQ b (EW (m1 δ1) Q) (EW (m2 δ1) Q) := by
  simp only [dIfE, ew_bind]
  congr 1
  funext b δ1
  cases b <;> rfl
theorem ev_chain (g g' : D → D → DM RV) (m1 m2 m3 : DM AV) : EW (dChain g g' m1 m2 m3 δ) Q = EW (m1 δ) fun a δ1 => EW (m2 δ1) fun b δ2 => EW (peek a δ2) fun x δ3 => EW (peek b δ3) fun y δ4 => EW (g x y δ4) fun r δ5 => EW (toB r δ5) fun t δ6 => chQ t (EW (m3 δ6) fun c δ7 => EW (peek b δ7) fun y δ8 => EW (peek c δ8) fun z δ9 => EW (g' y z δ9) Q) (Q (.frz (.bl false)) δ6) := by
  simp only [dChain, ew_bind]
  repeat (first | rfl | (congr 1; funext _ _))
  rename_i t _
  cases t
  · rfl
  · simp only [ew_bind, chQ, if_true]
theorem sv_if (t : DM Bool) (m1 m2 : DS) : SW (dIf t m1 m2 δ) P = EW (t δ) fun b δ1 => chQ b (SW (m1 δ1) P) (SW (m2 δ1) P) := by
  simp only [dIf, sw_thn]
  congr 1
  funext b δ1
  cases b <;> rfl
theorem sv_asg (i : Nat) (m : DM RV) : SW (dAsg i m δ) P = EW (m δ) fun a δ' => SW (setR i a δ') P := sw_thn m _
theorem sv_ret (m : DM RV) : SW (dRet m δ) P = EW (m δ) fun a δ' => SW (retR a δ') P := sw_thn m _
theorem sv_expr (m : DM RV) : SW (dExpr m δ) P = EW (m δ) fun _ δ' => P.nx δ' := sw_thn m _
theorem sv_st (m : DM D) (mo mi : DM AV) : SW (dStore m mo mi δ) P = EW (m δ) fun v δ1 => EW (mo δ1) fun a δ2 => EW (mi δ2) fun b δ3 => EW (peek b δ3) fun i δ4 => SW (storeK a i v δ4) P := by
  simp only [dStore, sw_thn]
theorem sv_for (src : DM (List D)) (tg : Tg) (body : DS) : SW (dFor src tg body δ) P = EW (src δ) fun ds δ1 => SW (forL tg body ds δ1) P := sw_thn src _
theorem ev_R1 (m : DM (List D)) {Q : List D → Dl → Prop} : EW (dR1 m δ) Q = EW (m δ) fun ds δ1 => EW (srcR1 ds δ1) Q := by simp only [dR1, ew_bind]
theorem ev_R2 (m : DM (List D)) {Q : List D → Dl → Prop} : EW (dR2 m δ) Q = EW (m δ) fun ds δ1 => EW (srcR2 ds δ1) Q := by simp only [dR2, ew_bind]
theorem ev_srcR1 (j : Int) {Q : List D → Dl → Prop} : EW (srcR1 [.int j] δ) Q = ((-(2 ^ 62) ≤ j ∧ j < 2 ^ 62) ∧ Q (rangeD 0 j.toNat) δ) := by
  unfold srcR1
  simp only [ew_ite, ew_pure, ew_stop]
  split
  · rename_i h; exact propext ⟨fun q => ⟨h, q⟩, fun q => q.2⟩
  · rename_i h; exact propext ⟨fun q => q.elim, fun q => (h q.1).elim⟩
theorem ev_SL (m : DM D) {Q : List D → Dl → Prop} : EW (dS_list m δ) Q = EW (m δ) fun d δ1 => match d with | .lst ds => Q ds δ1 | .ro ds => Q ds δ1 | _ => False := by
  simp only [dS_list, ew_bind]
  congr 1
  funext d δ1
  cases d <;> rfl
theorem ev_SS (m : DM D) {Q : List D → Dl → Prop} : EW (dS_str m δ) Q = EW (m δ) fun d δ1 => match d with | .str z => Q (signs z) δ1 | _ => False := by
  simp only [dS_str, ew_bind]
  congr 1
  funext d δ1
  cases d <;> rfl
theorem ev_ST (m : DM D) {Q : List D → Dl → Prop} : EW (dS_tup m δ) Q = EW (m δ) fun d δ1 => match d with | .tup ds => Q ds δ1 | _ => False := by
  simp only [dS_tup, ew_bind]
  congr 1
  funext d δ1
  cases d <;> rfl
theorem ev_sl (m : DM AV) (ml mh : DM (Option Int)) : EW (dSl m ml mh δ) Q = EW (m δ) fun a δ1 => EW (ml δ1) fun lo δ2 => EW (mh δ2) fun hi δ3 => EW (peek a δ3) fun d δ4 => EW (gSl d lo hi δ4) Q := by
  simp only [dSl, ew_bind]
theorem ev_some (m : DM AV) {Q : Option Int → Dl → Prop} : EW (dSome m δ) Q = EW (m δ) fun a δ1 => EW (peek a δ1) fun d δ2 => EW (toI d δ2) Q := by
  simp only [dSome, ew_bind]
theorem ev_toI (i : Int) {Q : Option Int → Dl → Prop} : EW (toI (.int i) δ) Q = Q (some i) δ := rfl
theorem ev_join (mo m : DM AV) : EW (dJoin mo m δ) Q = EW (mo δ) fun a δ1 => EW (peek a δ1) fun d δ2 => match d with
    | .str s => EW (m δ2) fun b δ3 => EW (peek b δ3) fun e δ4 => (match e with | .lst ds => EW (joinK s ds δ4) Q | .tup ds => EW (joinK s ds δ4) Q | _ => False)
    | _ => False := by
  simp only [dJoin, ew_bind]
  congr 1
  funext a δ1
  congr 1
  funext d δ2
  cases d <;> first | rfl | skip
  simp only [ew_bind]
  congr 1
  funext b δ3
  congr 1
  funext e δ4
  cases e <;> rfl
-- values
theorem g_ixl (ds : List D) (i : Int) : EW (gIx (.lst ds) (.int i) δ) Q = atQ (L2.atI ds i) fun d => Q (.frz d) δ := by show EW (optD _ _ δ) Q = _; rw [optD_at]; rfl
theorem g_ixt (ds : List D) (i : Int) : EW (gIx (.tup ds) (.int i) δ) Q = atQ (L2.atI ds i) fun d => Q (.frz d) δ := by show EW (optD _ _ δ) Q = _; rw [optD_at]; rfl
theorem g_ixs (z : Str) (i : Int) : EW (gIx (.str z) (.int i) δ) Q = (z.length ≤ sizeLine ∧ atQ (L2.atI z.cps.toList i) fun c => Q (.frz (.str ⟨#[c]⟩)) δ) := by
  show EW (guard _ (optD _ _) δ) Q = _
  rw [ew_guard, optD_at, decide_eq_true_eq]; rfl
theorem g_addi (i j : Int) : EW (gAdd (.int i) (.int j) δ) Q = Q (.frz (.int (i + j))) δ := rfl
theorem g_adds (a b : Str) : EW (gAdd (.str a) (.str b) δ) Q = (a.length + b.length ≤ sizeLine ∧ Q (.frz (.str (a ++ b))) δ) := by
  show EW (guard _ _ δ) Q = _
  rw [ew_guard, decide_eq_true_eq]; rfl
theorem g_addl (a b : List D) : EW (gAdd (.lst a) (.lst b) δ) Q = (a.length + b.length ≤ sizeLine ∧ Q (.own (.lst (a ++ b))) δ) := by
  show EW (guard _ _ δ) Q = _
  rw [ew_guard, decide_eq_true_eq]; rfl
theorem g_sub (i j : Int) : EW (DL.gSub (.int i) (.int j) δ) Q = Q (.frz (.int (i - j))) δ := rfl
theorem g_mul (i j : Int) : EW (gMul (.int i) (.int j) δ) Q = (mulOk i j = true ∧ Q (.frz (.int (i * j))) δ) := by
  show EW (guard _ _ δ) Q = _
  rw [ew_guard]; rfl
theorem g_mull (xs : List D) (k : Int) : EW (gMul (.lst xs) (.int k) δ) Q = ((-(2 ^ 63) ≤ k ∧ k < 2 ^ 63 ∧ xs.length * k.toNat ≤ sizeLine) ∧ Q (.own (.lst (List.replicate k.toNat xs).flatten)) δ) := by
  show EW (guard _ _ δ) Q = _
  rw [ew_guard, decide_eq_true_eq]; rfl
theorem g_div (i j : Int) : EW (gDiv (.int i) (.int j) δ) Q = ((0 < j ∧ j.natAbs.log2 < 9000) ∧ Q (.frz (.int (i / j))) δ) := by
  show EW (guard _ _ δ) Q = _
  rw [ew_guard, decide_eq_true_eq]; rfl
theorem g_mod (i j : Int) : EW (gMod (.int i) (.int j) δ) Q = (0 < j ∧ Q (.frz (.int (i % j))) δ) := by
  show EW (guard _ _ δ) Q = _
  rw [ew_guard, decide_eq_true_eq]; rfl
theorem g_pow (i j : Int) : EW (gPow (.int i) (.int j) δ) Q = ((0 ≤ j ∧ j ≤ 1000000 ∧ i.natAbs < 2 ^ 64) ∧ Q (.frz (.int (i ^ j.toNat))) δ) := by
  show EW (guard _ _ δ) Q = _
  rw [ew_guard, decide_eq_true_eq]; rfl
theorem g_lt (i j : Int) : EW (gLt (.int i) (.int j) δ) Q = Q (.frz (.bl (decide (i < j)))) δ := rfl
theorem g_le (i j : Int) : EW (gLe (.int i) (.int j) δ) Q = Q (.frz (.bl (decide (i ≤ j)))) δ := rfl
theorem g_gt (i j : Int) : EW (gGt (.int i) (.int j) δ) Q = Q (.frz (.bl (decide (j < i)))) δ := rfl
theorem g_ge (i j : Int) : EW (gGe (.int i) (.int j) δ) Q = Q (.frz (.bl (decide (j ≤ i)))) δ := rfl
theorem g_les (a b : Str) : EW (gLe (.str a) (.str b) δ) Q = Q (.frz (.bl (!decide (b.cps.toList < a.cps.toList)))) δ := rfl
theorem g_neg (i : Int) : EW (gNeg (.int i) δ) Q = Q (.frz (.int (-i))) δ := rfl
theorem g_eq (d e : D) : EW (gEq d e δ) Q = atQ (eqD d e) fun b => Q (.frz (.bl b)) δ := by
  unfold gEq
  cases eqD d e <;> rfl
theorem g_ne (d e : D) : EW (gNe d e δ) Q = atQ (eqD d e) fun b => Q (.frz (.bl (!b))) δ := by
  unfold gNe
  cases eqD d e <;> rfl
theorem g_lenl (ds : List D) : EW (gLen [.lst ds] δ) Q = Q (.frz (.int ds.length)) δ := rfl
theorem g_lent (ds : List D) : EW (gLen [.tup ds] δ) Q = Q (.frz (.int ds.length)) δ := rfl
theorem g_lenr (ds : List D) : EW (gLen [.ro ds] δ) Q = Q (.frz (.int ds.length)) δ := rfl
theorem g_lens (z : Str) : EW (gLen [.str z] δ) Q = (z.length ≤ sizeLine ∧ Q (.frz (.int z.length)) δ) := by
  show EW (guard _ _ δ) Q = _
  rw [ew_guard, decide_eq_true_eq]; rfl
theorem g_abs (i : Int) : EW (gAbs [.int i] δ) Q = Q (.frz (.int (if i < 0 then -i else i))) δ := rfl
theorem g_inti (i : Int) : EW (gInt [.int i] δ) Q = Q (.frz (.int i)) δ := rfl
theorem g_intb (b : Bool) : EW (gInt [.bl b] δ) Q = Q (.frz (.int (if b then 1 else 0))) δ := rfl
theorem g_stri (i : Int) : EW (gStr [.int i] δ) Q = (i.natAbs.log2 < 1920 ∧ Q (.frz (.str (toString i))) δ) := by
  show EW (guard _ _ δ) Q = _
  rw [ew_guard, decide_eq_true_eq]; rfl
theorem g_listl (ds : List D) : EW (gList [.lst ds] δ) Q = Q (.own (.lst ds)) δ := rfl
theorem g_listt (ds : List D) : EW (gList [.tup ds] δ) Q = Q (.own (.lst ds)) δ := rfl
theorem g_tupl (ds : List D) : EW (gTuple [.lst ds] δ) Q = Q (.frz (.tup ds)) δ := rfl
theorem g_all (ds : List D) : EW (gAll [.lst ds] δ) Q = atQ (bools ds) fun bs => Q (.frz (.bl (bs.all id))) δ := by show EW (optD _ _ δ) Q = _; rw [optD_at]; rfl
theorem g_isi (d : D) (n : String) : EW (gIsi [d, .ty n] δ) Q = atQ (tyD d) fun t => atQ (kitB t n) fun b => Q (.frz (.bl b)) δ := by
  show EW (optD _ _ δ) Q = _
  rw [optD_at]
  congr 1
  funext t
  rw [optD_at]
  rfl
theorem g_repr (d : D) : EW (gRepr [d] δ) Q = atQ (reprD d) fun z => Q (.frz (.str z)) δ := by show EW (optD _ _ δ) Q = _; rw [optD_at]; rfl
theorem g_slr (ds : List D) (lo hi : Option Int) : EW (gSl (.ro ds) lo hi δ) Q = Q (.own (.lst (cutL ds lo hi))) δ := rfl
theorem g_sll (ds : List D) (lo hi : Option Int) : EW (gSl (.lst ds) lo hi δ) Q = Q (.own (.lst (cutL ds lo hi))) δ := rfl
theorem g_sls (z : Str) (lo hi : Option Int) : EW (gSl (.str z) lo hi δ) Q = (z.length ≤ sizeLine ∧ Q (.frz (.str (cutS z lo hi))) δ) := by
  show EW (guard _ _ δ) Q = _
  rw [ew_guard, decide_eq_true_eq]; rfl
end
end DL
namespace DL
open PySem PySem.Spec PyProof.Rows L2
section
variable {δ : Dl} {P : Po} {Q : RV → Dl → Prop}
/-! ### with what they ask known -/
theorem and_t {a b : Prop} (h : a) : (a ∧ b) = b := propext ⟨fun q => q.2, fun q => ⟨h, q⟩⟩
theorem k_mul {i j : Int} (h : (-(2 ^ 64) < i ∧ i < 2 ^ 64) ∨ (-(2 ^ 64) < j ∧ j < 2 ^ 64)) : EW (gMul (.int i) (.int j) δ) Q = Q (.frz (.int (i * j))) δ := by
  rw [g_mul]
  refine and_t ?_
  unfold mulOk
  rw [decide_eq_true h]
  rfl
theorem k_div {i j : Int} (h : 0 < j) (h2 : j.natAbs.log2 < 9000) : EW (gDiv (.int i) (.int j) δ) Q = Q (.frz (.int (i / j))) δ := by
  rw [g_div]
  exact and_t ⟨h, h2⟩
theorem k_mod {i j : Int} (h : 0 < j) : EW (gMod (.int i) (.int j) δ) Q = Q (.frz (.int (i % j))) δ := by
  rw [g_mod]
  exact and_t h
theorem k_pow {i j : Int} (h : 0 ≤ j ∧ j ≤ 1000000 ∧ i.natAbs < 2 ^ 64) : EW (gPow (.int i) (.int j) δ) Q = Q (.frz (.int (i ^ j.toNat))) δ := by
  rw [g_pow]
  exact and_t h
theorem k_eq {d e : D} {b : Bool} (h : eqD d e = some b) : EW (gEq d e δ) Q = Q (.frz (.bl b)) δ := by rw [g_eq, h]; rfl
theorem k_ne {d e : D} {b : Bool} (h : eqD d e = some b) : EW (gNe d e δ) Q = Q (.frz (.bl (!b))) δ := by rw [g_ne, h]; rfl
theorem k_at {α : Type} {l : List α} {i : Int} {a : α} (h : L2.atI l i = some a) {Q : α → Prop} : atQ (L2.atI l i) Q = Q a := by rw [h]; rfl
theorem eqD_int (i j : Int) : eqD (.int i) (.int j) = some (i == j) := rfl
theorem eqD_intE {i j : Int} (h : i = j) : eqD (.int i) (.int j) = some true := by rw [eqD_int, h]; simp
theorem eqD_intN {i j : Int} (h : ¬ i = j) : eqD (.int i) (.int j) = some false := by rw [eqD_int]; simp [h]
theorem pyL_ints : ∀ cs : List Int, pyL (cs.map .int) = some (cs.map .int)
  | [] => rfl
  | c :: cs => by
    rw [List.map_cons, pyL, pyL_ints cs]
    rfl
end
end DL
namespace DL
open PySem PySem.Spec PyProof.Rows L2
theorem lay_ints : ∀ cs : List Int, PyData.canLayAll0 (cs.map .int) = true ∧ PyData.depthAll (cs.map .int) ≤ 1
  | [] => ⟨rfl, by decide⟩
  | c :: cs => by
    obtain ⟨h1, h2⟩ := lay_ints cs
    refine ⟨?_, ?_⟩
    · rw [List.map_cons, PyData.canLayAll0, h1]
      simp [PyData.canLay0]
    · rw [List.map_cons, PyData.depthAll]
      simp [PyData.depth]
      omega
theorem eqD_ints {cs : List Int} : eqD (.lst (cs.map .int)) (.lst []) = some cs.isEmpty := by
  show eqD0 _ _ = _
  unfold eqD0
  rw [py, py, pyL_ints]
  obtain ⟨h1, h2⟩ := lay_ints cs
  have s1 : SeqAt.shaped (.list (cs.map .int)) = true := by
    unfold SeqAt.shaped
    rw [PyData.canLay0, h1, PyData.depth]
    simp
    omega
  have s2 : SeqAt.shaped (.list []) = true := by decide
  show (if SeqAt.shaped (.list (cs.map .int)) && SeqAt.shaped (.list []) then some (PyData.eqv (.list (cs.map .int)) (.list [])) else none) = _
  rw [s1, s2]
  cases cs <;> simp [PyData.eqv, PyData.eqvAll]
end DL

set_option Elab.async false
set_option linter.all false
set_option maxRecDepth 100000
set_option maxHeartbeats 4000000
namespace DL
open PySem PySem.Spec PyProof.Rows L2

/-! ### calls, comprehensions, steps -/
section
variable {δ : Dl} {P : Po} {Q : RV → Dl → Prop} {n m np : Nat} {sem : Sem'} {g : List AV → List AV → List AV}
def clQ (n m np : Nat) (sem : Sem') (g : List AV → List AV → List AV) (as bs : List AV) (δ : Dl) (Q : RV → Dl → Prop) : Prop :=
  (as.length = n ∧ bs.length = m ∧ (g as bs).length = np) ∧ ∃ cs kk, argsOf δ (g as bs) = some (cs, kk) ∧ (slotsOf (g as bs)).Nodup ∧ CW (sem cs) fun x cs' => Q x (backS (g as bs) kk cs' δ)
theorem ev_call (ms ks : DM (List AV)) : EW (dCallN n m np sem g ms ks δ) Q = EW (ms δ) fun as δ1 => EW (ks δ1) fun bs δ2 => clQ n m np sem g as bs δ2 Q := ew_call
theorem cl_of {as bs : List AV} {cs : Dl} {kk : List Ow} (hl : as.length = n ∧ bs.length = m ∧ (g as bs).length = np) (e : argsOf δ (g as bs) = some (cs, kk)) (nd : (slotsOf (g as bs)).Nodup) (h : CW (sem cs) fun x cs' => Q x (backS (g as bs) kk cs' δ)) : clQ n m np sem g as bs δ Q :=
  ⟨hl, cs, kk, e, nd, h⟩
def lcQ (vs : List Nat) (tg : Tg) (test : DM Bool) (elt : DM D) (ds : List D) (δ : Dl) (Q : RV → Dl → Prop) : Prop := EW (lcL vs tg test elt ds [] (wipeD δ vs)) fun acc δ' => Q (.own (.lst acc)) (backD vs δ (wipeD δ' vs))
theorem ev_lc (vs : List Nat) (src : DM (List D)) (tg : Tg) (test : DM Bool) (elt : DM D) : EW (dLc vs src tg test elt δ) Q = EW (src δ) fun ds δ1 => lcQ vs tg test elt ds δ1 Q := ew_lc
theorem tg_nm (i : Nat) (d : D) (l : Dl) {Q : Dl → Prop} : atQ (setTg (.nm i) d l) Q = upQ l i (some ⟨d, .frz⟩) Q := rfl
/-- the block's own names get their old values back -/
def gdQ (x : Option (Option Sl)) (Q : Option Sl → Prop) : Prop := Q (x.getD none)
theorem gd_s (x : Option Sl) (l : Dl) (i : Nat) {Q : Option Sl → Prop} : gdQ ((x :: l)[i + 1]?) Q = gdQ (l[i]?) Q := rfl
theorem gd_z (x : Option Sl) (l : Dl) {Q : Option Sl → Prop} : gdQ ((x :: l)[0]?) Q = Q x := rfl
def bkQ (vs : List Nat) (δ0 δ : Dl) (Q : Dl → Prop) : Prop := Q (backD vs δ0 δ)
theorem bk_0 {δ0 : Dl} {Q : Dl → Prop} : bkQ [] δ0 δ Q = Q δ := rfl
theorem bk_1 (v : Nat) (vs : List Nat) {δ0 : Dl} {Q : Dl → Prop} : bkQ (v :: vs) δ0 δ Q = gdQ δ0[v]? fun x => upQ δ v x fun δ' => bkQ vs δ0 δ' Q := rfl
theorem lc_of {S : Type} {L : S → Dl} {J : Nat → List D → S → Prop} {vs : List Nat} {tg : Tg} {test : DM Bool} {elt : DM D} {ds : List D} (s0 : S) (h0 : wipeD δ vs = L s0) (hJ : J 0 [] s0) (hi : wipeD (wipeD δ vs) vs = wipeD δ vs := wipeD_idem δ vs)
    (step : ∀ i d acc s, ds[i]? = some d → J i acc s → atQ (setTg tg d (L s)) fun δ1 => EW (test δ1) fun b δ2 => chQ b (EW (elt δ2) fun y δ3 => acc.length < sizeLine ∧ ∃ s', wipeD δ3 vs = L s' ∧ J (i + 1) (acc ++ [y]) s') (∃ s', wipeD δ2 vs = L s' ∧ J (i + 1) acc s'))
    (fin : ∀ acc s, J ds.length acc s → bkQ vs δ (L s) (Q (.own (.lst acc)))) : lcQ vs tg test elt ds δ Q := by
  unfold lcQ
  refine EW.mono (ew_lcL (J := fun i acc δ' => ∃ s, wipeD δ' vs = L s ∧ J i acc s) (fun i d acc δ' hd ⟨s, e, hs⟩ => ?_) ⟨s0, by rw [hi]; exact h0, hJ⟩) fun acc δ' ⟨s, e, hs⟩ => by rw [e]; exact fin acc s hs
  have st := step i d acc s hd hs
  rw [e]
  cases ht : setTg tg d (L s) with
  | none => rw [ht] at st; exact st.elim
  | some δ1 =>
    rw [ht] at st
    refine ⟨δ1, rfl, ?_⟩
    exact EW.mono (show EW (test δ1) _ from st) fun b δ2 q => by
      cases b with
      | true => rw [if_pos rfl]; exact q
      | false => rw [if_neg Bool.false_ne_true]; exact q
/-- the rest of a block is put aside -/
theorem sw_step {m1 m2 : DS} (h : ∀ N : Dl → Prop, (∀ δ', SW (m2 δ') P → N δ') → SW (m1 δ) ⟨N, P.rt, P.bk, P.ct⟩) : SW (dSeq m1 m2 δ) P := by
  rw [sw_seq]
  exact h _ fun _ q => q
theorem CW.of {r : CRes} {x : RV} {as : Dl} (h : r = .ok x as) {Q : RV → Dl → Prop} (q : Q x as) : CW r Q := by rw [h]; exact q
end

/-! ### what a text of it can be made of -/
structure Fine (w dep : Nat) (d : D) : Prop where
  ex : ∃ p, pyR d = some p ∧ p.showable = true ∧ p.leavesShort 100 = true ∧ p.weight ≤ w ∧ p.depth ≤ dep
theorem Fine.mono {w w' dep dep' : Nat} {d : D} (h : Fine w dep d) (h1 : w ≤ w') (h2 : dep ≤ dep') : Fine w' dep' d := by
  obtain ⟨p, a, b, c, e, f⟩ := h.ex
  exact ⟨p, a, b, c, by omega, by omega⟩
theorem Fine.repr {w dep : Nat} {d : D} (h : Fine w dep d) (hw : w ≤ 100000) (hd : dep ≤ 62) : ∃ z, reprD d = some z ∧ z.length ≤ 102 * w + 100 := by
  obtain ⟨p, a, b, c, e, f⟩ := h.ex
  have l := PyData.shown_le 100 (by decide) p c
  refine ⟨p.shown, ?_, by omega⟩
  unfold reprD
  rw [a]
  have : p.shown.length ≤ sizeLine := by
    have : sizeLine = 16777216 := rfl
    omega
  exact if_pos ⟨b, this, by omega⟩
theorem fine_non : Fine 0 0 .non := ⟨.none, rfl, by rfl, by rfl, by simp [PyData.weight], by simp [PyData.depth]⟩
theorem fine_bl (b : Bool) : Fine 0 0 (.bl b) := ⟨.bool b, rfl, by rfl, by rfl, by simp [PyData.weight], by simp [PyData.depth]⟩
theorem log2_lt {n k : Nat} (hk : 0 < k) (h : n < 2 ^ k) : n.log2 < k := by
  by_cases h0 : n = 0
  · rw [h0]; simpa using hk
  · exact (Nat.log2_lt h0).mpr h
theorem strOfString_length (x : String) : (Str.ofString x).length = x.length := by
  rw [Str.ofString_eq_toList]
  show (x.toList.map Char.toNat).toArray.size = _
  rw [List.size_toArray, List.length_map]
  rfl
theorem fine_int {i : Int} (h : i.natAbs < 10 ^ 60) : Fine 200 0 (.int i) := by
  have h2 : i.natAbs.log2 < 200 := log2_lt (by decide) (Nat.lt_trans h (by decide))
  refine ⟨.int i, rfl, ?_, ?_, ?_, ?_⟩
  · unfold PyData.showable
    exact decide_eq_true (by omega)
  · unfold PyData.leavesShort
    have := int_text_length_le10 (a := i) (k := 60) (by decide) h
    refine decide_eq_true ?_
    have e : (PyData.int i).shown.length = (toString i).length := by
      simp only [PyData.shown]
      exact strOfString_length _
    omega
  · simp only [PyData.weight]
    split <;> omega
  · simp [PyData.depth]
theorem fine_str {z : Str} {w : Nat} (h : ∀ c ∈ z.cps.toList, c < 16 ^ 8) (hl : z.length ≤ w) : Fine w 0 (.str z) := by
  refine ⟨.str z, rfl, by rfl, ?_, ?_, ?_⟩
  · simp only [PyData.leavesShort, List.all_eq_true, decide_eq_true_eq]
    exact h
  · simp only [PyData.weight]
    exact hl
  · simp [PyData.depth]
theorem fine_all {w dep : Nat} : ∀ {ds : List D}, (∀ d ∈ ds, Fine w dep d) → ∃ ps, pyRL ds = some ps ∧ PyData.showableAll ps = true ∧ PyData.leavesShortAll 100 ps = true ∧ PyData.weightAll ps ≤ ds.length * (w + 1) ∧ PyData.depthAll ps ≤ dep ∧ ps.length = ds.length
  | [], _ => ⟨[], rfl, by rfl, by rfl, by simp [PyData.weightAll], by simp [PyData.depthAll], rfl⟩
  | d :: ds, h => by
    obtain ⟨p, a, b, c, e, f⟩ := (h d List.mem_cons_self).ex
    obtain ⟨ps, a', b', c', e', f', l'⟩ := fine_all fun x hx => h x (List.mem_cons_of_mem _ hx)
    refine ⟨p :: ps, ?_, ?_, ?_, ?_, ?_, by rw [List.length_cons, List.length_cons, l']⟩
    · rw [pyRL, a, a']
    · rw [PyData.showableAll, b, b']; rfl
    · rw [PyData.leavesShortAll, c, c']; rfl
    · rw [PyData.weightAll, List.length_cons, Nat.succ_mul]
      omega
    · rw [PyData.depthAll]
      omega
theorem fine_lst {w dep n : Nat} {ds : List D} (h : ∀ d ∈ ds, Fine w dep d) (hn : ds.length ≤ n) : Fine (n * (w + 1)) (dep + 1) (.lst ds) := by
  obtain ⟨ps, a, b, c, e, f, l⟩ := fine_all h
  refine ⟨.list ps, by rw [pyR, a]; rfl, by rw [PyData.showable]; exact b, by rw [PyData.leavesShort]; exact c, ?_, by rw [PyData.depth]; omega⟩
  rw [PyData.weight]
  exact Nat.le_trans e (Nat.mul_le_mul_right _ hn)
theorem fine_tup {w dep n : Nat} {ds : List D} (h : ∀ d ∈ ds, Fine w dep d) (hn : ds.length ≤ n) : Fine (n * (w + 1)) (dep + 1) (.tup ds) := by
  obtain ⟨ps, a, b, c, e, f, l⟩ := fine_all h
  refine ⟨.tuple ps, by rw [pyR, a]; rfl, by rw [PyData.showable]; exact b, by rw [PyData.leavesShort]; exact c, ?_, by rw [PyData.depth]; omega⟩
  rw [PyData.weight]
  exact Nat.le_trans e (Nat.mul_le_mul_right _ hn)
theorem fine_dct1 {w dep : Nat} {k : Str} {d : D} (hk : ∀ c ∈ k.cps.toList, c < 16 ^ 8) (h : Fine w dep d) : Fine (w + k.length + 2) (dep + 1) (.dct [.inr k] [d]) := by
  obtain ⟨p, a, b, c, e, f⟩ := h.ex
  refine ⟨.dict [(.str k, p)], ?_, ?_, ?_, ?_, ?_⟩
  · have e1 : pyRL [d] = some [p] := by rw [pyRL, a]; rfl
    rw [pyR, if_pos (by rfl), e1]
    rfl
  · rw [PyData.showable, PyData.showableKv, b]
    rfl
  · rw [PyData.leavesShort, PyData.leavesShortKv, c]
    have : PyData.leavesShort 100 (.str k) = true := by
      simp only [PyData.leavesShort, List.all_eq_true, decide_eq_true_eq]
      exact hk
    rw [this]
    rfl
  · rw [PyData.weight, PyData.weightKv, PyData.weightKv]
    have : (PyData.str k).weight = k.length := by rw [PyData.weight]; rfl
    omega
  · rw [PyData.depth, PyData.depthKv, PyData.depthKv, PyData.depth]
    omega
theorem ofString_lt (x : String) : ∀ c ∈ (Str.ofString x).cps.toList, c < 16 ^ 8 := by
  intro c hc
  have e : (Str.ofString x).cps.toList = x.toList.map Char.toNat := by
    rw [Str.ofString_eq_toList]
  rw [e] at hc
  obtain ⟨ch, _, rfl⟩ := List.mem_map.mp hc
  have := ch.valid
  have h2 : ch.toNat < 1114112 := by
    unfold Char.toNat
    rcases this with h | ⟨_, h⟩ <;> omega
  omega
theorem sz : sizeLine = 16777216 := rfl
section
variable {δ : Dl} {Q : RV → Dl → Prop}
theorem g_eqi (i j : Int) : EW (gEq (.int i) (.int j) δ) Q = Q (.frz (.bl (i == j))) δ := rfl
theorem g_eqs (i j : Str) : EW (gEq (.str i) (.str j) δ) Q = Q (.frz (.bl (i == j))) δ := rfl
theorem g_nei (i j : Int) : EW (gNe (.int i) (.int j) δ) Q = Q (.frz (.bl (!(i == j)))) δ := rfl
theorem g_nes (i j : Str) : EW (gNe (.str i) (.str j) δ) Q = Q (.frz (.bl (!(i == j)))) δ := rfl
end
theorem cutS_sub (z : Str) (lo hi : Option Int) : ∀ c ∈ (cutS z lo hi).cps.toList, c ∈ z.cps.toList := by
  intro c hc
  have hc : c ∈ ((z.cps.toList.drop (HT.sIx z.length 0 lo)).take (HT.sIx z.length z.length hi - HT.sIx z.length 0 lo)) := hc
  exact List.mem_of_mem_drop (List.mem_of_mem_take hc)
theorem cutS_len (z : Str) (lo hi : Option Int) : (cutS z lo hi).cps.toList.length ≤ z.cps.toList.length := by
  show ((z.cps.toList.drop (HT.sIx z.length 0 lo)).take (HT.sIx z.length z.length hi - HT.sIx z.length 0 lo)).length ≤ _
  rw [List.length_take, List.length_drop]
  omega
end DL

set_option Elab.async false
set_option linter.all false
set_option maxRecDepth 100000
set_option maxHeartbeats 4000000
namespace DL
open PySem PySem.Spec PyProof.Rows L2
section
variable {δ : Dl} {Q : RV → Dl → Prop}
theorem k_isi {d : D} {n t : String} {b : Bool} (h1 : tyD d = some t) (h2 : kitB t n = some b) : EW (gIsi [d, .ty n] δ) Q = Q (.frz (.bl b)) δ := by
  rw [g_isi, h1, atQ_some, h2, atQ_some]
theorem k_repr {d : D} {z : Str} (h : reprD d = some z) : EW (gRepr [d] δ) Q = Q (.frz (.str z)) δ := by
  rw [g_repr, h, atQ_some]
theorem g_in1 (c : Nat) (z : Str) : EW (gInN false (.str ⟨#[c]⟩) (.str z) δ) Q = Q (.frz (.bl (decide (c ∈ z.cps.toList)))) δ := by
  show EW (guard (decide (1 = 1)) _ δ) Q = _
  rw [ew_guard, and_t (by simp)]
  show Q (.frz (.bl (xor false _))) δ = _
  rw [Bool.false_xor]
  rfl
end
def isS : D → Bool
  | .str _ => true
  | _ => false
def isI : D → Bool
  | .int _ => true
  | .bl _ => true
  | _ => false
def isB : D → Bool
  | .bl _ => true
  | _ => false
theorem isi_ev {w k : Nat} {d : D} (h : Fine w k d) : ∃ t, tyD d = some t ∧ kitB t "str" = some (isS d) ∧ kitB t "int" = some (isI d) ∧ kitB t "bool" = some (isB d) := by
  obtain ⟨p, a, _⟩ := h.ex
  cases d with
  | non => exact ⟨_, rfl, by decide +kernel, by decide +kernel, by decide +kernel⟩
  | bl b => exact ⟨_, rfl, by show kitB "bool" "str" = some false; decide +kernel, by show kitB "bool" "int" = some true; decide +kernel, by show kitB "bool" "bool" = some true; decide +kernel⟩
  | int b => exact ⟨_, rfl, by show kitB "int" "str" = some false; decide +kernel, by show kitB "int" "int" = some true; decide +kernel, by show kitB "int" "bool" = some false; decide +kernel⟩
  | str b => exact ⟨_, rfl, by show kitB "str" "str" = some true; decide +kernel, by show kitB "str" "int" = some false; decide +kernel, by show kitB "str" "bool" = some false; decide +kernel⟩
  | tup b => exact ⟨_, rfl, by show kitB "tuple" "str" = some false; decide +kernel, by show kitB "tuple" "int" = some false; decide +kernel, by show kitB "tuple" "bool" = some false; decide +kernel⟩
  | lst b => exact ⟨_, rfl, by show kitB "list" "str" = some false; decide +kernel, by show kitB "list" "int" = some false; decide +kernel, by show kitB "list" "bool" = some false; decide +kernel⟩
  | dct b c => exact ⟨_, rfl, by show kitB "dict" "str" = some false; decide +kernel, by show kitB "dict" "int" = some false; decide +kernel, by show kitB "dict" "bool" = some false; decide +kernel⟩
  | ty n => simp [pyR] at a
  | con n => simp [pyR] at a
  | ro n => simp [pyR] at a
  | obj a1 b1 c1 => simp [pyR] at a
theorem fine_len {w k : Nat} {z : Str} (h : Fine w k (.str z)) : z.length ≤ w := by
  obtain ⟨p, a, _, _, e, _⟩ := h.ex
  cases a
  rw [PyData.weight] at e
  exact e
theorem bools_map : ∀ bs : List Bool, bools (bs.map D.bl) = some bs
  | [] => rfl
  | b :: bs => by
    rw [List.map_cons, bools, bools_map bs]
    rfl
theorem eqD_signs {cs : List Nat} (h : ∀ c ∈ cs, c < 1114112) : eqD (.lst (cs.map fun c => D.str ⟨#[c]⟩)) (.lst []) = some cs.isEmpty := by
  show eqD0 _ _ = _
  have p1 : ∀ cs : List Nat, pyL (cs.map fun c => D.str ⟨#[c]⟩) = some (cs.map fun c => PyData.str ⟨#[c]⟩) := fun cs => by
    induction cs with
    | nil => rfl
    | cons c cs ih => rw [List.map_cons, pyL, ih]; rfl
  have p2 : ∀ cs : List Nat, (∀ c ∈ cs, c < 1114112) → PyData.canLayAll0 (cs.map fun c => PyData.str ⟨#[c]⟩) = true ∧ PyData.depthAll (cs.map fun c => PyData.str ⟨#[c]⟩) ≤ 1 := fun cs => by
    induction cs with
    | nil => exact fun _ => ⟨rfl, by decide⟩
    | cons c cs ih =>
      intro hc
      obtain ⟨h1, h2⟩ := ih fun x hx => hc x (List.mem_cons_of_mem _ hx)
      refine ⟨?_, ?_⟩
      · rw [List.map_cons, PyData.canLayAll0, h1, PyData.canLay0]
        have : PyData.strOk ⟨#[c]⟩ = true := by
          unfold PyData.strOk
          simp
          exact hc c List.mem_cons_self
        rw [this]
        rfl
      · rw [List.map_cons, PyData.depthAll]
        simp [PyData.depth]
        omega
  unfold eqD0
  rw [py, py, p1]
  obtain ⟨h1, h2⟩ := p2 cs h
  have s1 : SeqAt.shaped (.list (cs.map fun c => PyData.str ⟨#[c]⟩)) = true := by
    unfold SeqAt.shaped
    rw [PyData.canLay0, h1, PyData.depth]
    simp
    omega
  have s2 : SeqAt.shaped (.list []) = true := by decide
  show (if SeqAt.shaped (.list (cs.map fun c => PyData.str ⟨#[c]⟩)) && SeqAt.shaped (.list []) then some (PyData.eqv (.list (cs.map fun c => PyData.str ⟨#[c]⟩)) (.list [])) else none) = _
  rw [s1, s2]
  cases cs <;> simp [PyData.eqv, PyData.eqvAll]
theorem one_lt {c d : Nat} : decide ([c] < [d]) = decide (c < d) := by
  have e : ([c] < [d]) ↔ c < d := by
    constructor
    · intro h
      cases h with
      | rel h => exact h
      | cons h => cases h
    · intro h
      exact .rel h
  exact decide_eq_decide.mpr e
end DL

set_option Elab.async false
set_option linter.all false
set_option maxRecDepth 100000
set_option maxHeartbeats 1000000
namespace K01
open PySem PySem.Spec PyProof.Rows L2 DL
def top (i : Nat) : Stmt := PySem.Challenge.pw_frontnest_k01_names_and_depths.main.body.getD i (.Pass ⟨0, 0, 0, 0⟩)
abbrev s_pen : Stmt := top 7
abbrev s_draw : Stmt := top 8
abbrev s_word : Stmt := top 10
abbrev s_any : Stmt := top 9
abbrev s_is_name : Stmt := top 4
abbrev s_is_integer : Stmt := top 3
abbrev s_is_depth : Stmt := top 5
abbrev s_is_word : Stmt := top 11
abbrev s_law : Stmt := top 12
/-- _law_pen -/
def d_pen : DS :=
    (dRet (dLst (dConsF (dFrz (dC gList (dCons ((dSl ((dName 0) >>= argR) (pure none) (dSome ((pure (.int 63)) >>= fun d => pure (AV.frz d)))) >>= argR) (pure [])))) (dConsF (pure (.int 0)) (dConsF (pure (.int 0)) (dConsF (pure (.int 0)) (pure [])))))))
def sem_pen : Sem' := semOf 1 1 d_pen
/-- _law_draw -/
def d_draw : DS :=
    (dSeq (dStore (dFrz (d2 gAdd ((d2 gIx ((dName 0) >>= argR) ((pure (.int 3)) >>= fun d => pure (AV.frz d))) >>= argR) ((pure (.int 1)) >>= fun d => pure (AV.frz d)))) ((dName 0) >>= argR) ((pure (.int 3)) >>= fun d => pure (AV.frz d)))
    (dSeq (dIf (d2 gGt ((d2 gIx ((dName 0) >>= argR) ((pure (.int 2)) >>= fun d => pure (AV.frz d))) >>= argR) ((pure (.int 0)) >>= fun d => pure (AV.frz d)) >>= toB) (dSeq (dAsg 2 (d2 gMod ((d2 gIx ((dName 0) >>= argR) ((pure (.int 2)) >>= fun d => pure (AV.frz d))) >>= argR) ((dName 1) >>= argR)))
    (dSeq (dStore (dFrz (d2 gDiv ((d2 gIx ((dName 0) >>= argR) ((pure (.int 2)) >>= fun d => pure (AV.frz d))) >>= argR) ((dName 1) >>= argR))) ((dName 0) >>= argR) ((pure (.int 2)) >>= fun d => pure (AV.frz d)))
    (dRet (dName 2)))) SRes.nx)
    (dSeq (dAsg 3 (d2 gIx ((dName 0) >>= argR) ((pure (.int 1)) >>= fun d => pure (AV.frz d))))
    (dSeq (dStore (dFrz (d2 gAdd ((dName 3) >>= argR) ((pure (.int 1)) >>= fun d => pure (AV.frz d)))) ((dName 0) >>= argR) ((pure (.int 1)) >>= fun d => pure (AV.frz d)))
    (dSeq (dAsg 4 (d2 gAdd ((d2 gMul ((pure (.int 7411)) >>= fun d => pure (AV.frz d)) ((dName 3) >>= argR)) >>= argR) ((pure (.int 29)) >>= fun d => pure (AV.frz d))))
    (dSeq (dIf (d2 gNe ((d2 gIx ((dName 0) >>= argR) ((pure (.int 0)) >>= fun d => pure (AV.frz d))) >>= argR) ((dLst (pure [])) >>= argR) >>= toB) (dAsg 4 (d2 gIx ((d2 gIx ((dName 0) >>= argR) ((pure (.int 0)) >>= fun d => pure (AV.frz d))) >>= argR) ((d2 gMod ((dName 3) >>= argR) ((dC gLen (dCons ((d2 gIx ((dName 0) >>= argR) ((pure (.int 0)) >>= fun d => pure (AV.frz d))) >>= argR) (pure []))) >>= argR)) >>= argR))) SRes.nx)
    (dSeq (dIf (dAnd (d2 gLt ((dName 3) >>= argR) ((dC gLen (dCons ((d2 gIx ((dName 0) >>= argR) ((pure (.int 0)) >>= fun d => pure (AV.frz d))) >>= argR) (pure []))) >>= argR) >>= toB) (d2 gGe ((dC gAbs (dCons ((dName 4) >>= argR) (pure []))) >>= argR) ((d2 gPow ((pure (.int 10)) >>= fun d => pure (AV.frz d)) ((pure (.int 18)) >>= fun d => pure (AV.frz d))) >>= argR) >>= toB)) (dSeq (dAsg 5 (d2 gAdd ((d2 gMul ((pure (.int 2)) >>= fun d => pure (AV.frz d)) ((dC gAbs (dCons ((dName 4) >>= argR) (pure []))) >>= argR)) >>= argR) ((dC gInt (dCons ((d2 gLt ((dName 4) >>= argR) ((pure (.int 0)) >>= fun d => pure (AV.frz d))) >>= argR) (pure []))) >>= argR)))
    (dSeq (dStore (dFrz (d2 gDiv ((dName 5) >>= argR) ((dName 1) >>= argR))) ((dName 0) >>= argR) ((pure (.int 2)) >>= fun d => pure (AV.frz d)))
    (dRet (d2 gMod ((dName 5) >>= argR) ((dName 1) >>= argR))))) SRes.nx)
    (dSeq (dAsg 6 (d2 gAdd ((d2 gMod ((dName 4) >>= argR) ((pure (.int 2147483629)) >>= fun d => pure (AV.frz d))) >>= argR) ((d2 gMul ((d2 gMul ((pure (.int 52361)) >>= fun d => pure (AV.frz d)) ((d2 gIx ((dName 0) >>= argR) ((pure (.int 3)) >>= fun d => pure (AV.frz d))) >>= argR)) >>= argR) ((d2 gIx ((dName 0) >>= argR) ((pure (.int 3)) >>= fun d => pure (AV.frz d))) >>= argR)) >>= argR)))
    (dSeq (dAsg 6 (d2 gMod ((d2 gPow ((d2 gAdd ((d2 gAdd ((dName 6) >>= argR) ((d2 gMul ((pure (.int 7919)) >>= fun d => pure (AV.frz d)) ((dName 3) >>= argR)) >>= argR)) >>= argR) ((pure (.int 17)) >>= fun d => pure (AV.frz d))) >>= argR) ((pure (.int 5)) >>= fun d => pure (AV.frz d))) >>= argR) ((pure (.int 2147483647)) >>= fun d => pure (AV.frz d))))
    (dSeq (dAsg 6 (d2 gMod ((d2 gPow ((d2 gAdd ((dName 6) >>= argR) ((d2 gMul ((pure (.int 60013)) >>= fun d => pure (AV.frz d)) ((d2 gIx ((dName 0) >>= argR) ((pure (.int 3)) >>= fun d => pure (AV.frz d))) >>= argR)) >>= argR)) >>= argR) ((pure (.int 3)) >>= fun d => pure (AV.frz d))) >>= argR) ((pure (.int 2147483587)) >>= fun d => pure (AV.frz d))))
    (dRet (d2 gMod ((d2 gDiv ((dName 6) >>= argR) ((pure (.int 32)) >>= fun d => pure (AV.frz d))) >>= argR) ((dName 1) >>= argR)))))))))))))
def sem_draw : Sem' := semOf 7 2 d_draw
/-- _law_word -/
def d_word : DS :=
    (dSeq (dAsg 1 (RV.frz <$> (pure (.str "abcdefghijklmnopqrstuvwxyz"))))
    (dSeq (dAsg 2 (dJoin ((pure (.str "")) >>= fun d => pure (AV.frz d)) ((dLc [3] (dR1 (dConsF (dFrz (d2 gIx ((dLst (dConsF (pure (.int 1)) (dConsF (pure (.int 8)) (dConsF (pure (.int 9)) (dConsF (pure (.int 0)) (dConsF (dFrz (dCallN 2 0 2 sem_draw plain2 (dCons ((dName 0) >>= argR) (dCons ((pure (.int 11)) >>= fun d => pure (AV.frz d)) (pure []))) (pure []))) (pure []))))))) >>= argR) ((dCallN 2 0 2 sem_draw plain2 (dCons ((dName 0) >>= argR) (dCons ((pure (.int 5)) >>= fun d => pure (AV.frz d)) (pure []))) (pure [])) >>= argR))) (pure []))) (Tg.nm 3) (pure true) (dFrz (d2 gIx ((dName 1) >>= argR) ((dCallN 2 0 2 sem_draw plain2 (dCons ((dName 0) >>= argR) (dCons ((pure (.int 26)) >>= fun d => pure (AV.frz d)) (pure []))) (pure [])) >>= argR)))) >>= argR)))
    (dSeq (dIf (dOr (d2 gEq ((dCallN 2 0 2 sem_draw plain2 (dCons ((dName 0) >>= argR) (dCons ((pure (.int 2)) >>= fun d => pure (AV.frz d)) (pure []))) (pure [])) >>= argR) ((pure (.int 0)) >>= fun d => pure (AV.frz d)) >>= toB) (d2 gEq ((dName 2) >>= argR) ((pure (.str "")) >>= fun d => pure (AV.frz d)) >>= toB)) (dRet (dName 2)) SRes.nx)
    (dSeq (dAsg 4 (d2 gAdd ((pure (.str "ABCDEFGHIJKLMNOPQRSTUVWXYZ0123456789 !#$&'()*+,-./:;<=>?\x40[]^_{|}~\n")) >>= fun d => pure (AV.frz d)) ((pure (.str "\"")) >>= fun d => pure (AV.frz d))))
    (dSeq (dAsg 5 (dCallN 2 0 2 sem_draw plain2 (dCons ((dName 0) >>= argR) (dCons ((dC gLen (dCons ((dName 2) >>= argR) (pure []))) >>= argR) (pure []))) (pure [])))
    (dRet (d2 gAdd ((d2 gAdd ((dSl ((dName 2) >>= argR) (pure none) (dSome ((dName 5) >>= argR))) >>= argR) ((d2 gIx ((dName 4) >>= argR) ((dCallN 2 0 2 sem_draw plain2 (dCons ((dName 0) >>= argR) (dCons ((dC gLen (dCons ((dName 4) >>= argR) (pure []))) >>= argR) (pure []))) (pure [])) >>= argR)) >>= argR)) >>= argR) ((dSl ((dName 2) >>= argR) (dSome ((d2 gAdd ((dName 5) >>= argR) ((pure (.int 1)) >>= fun d => pure (AV.frz d))) >>= argR)) (pure none)) >>= argR))))))))
def sem_word : Sem' := semOf 6 1 d_word
/-- _law_any -/
def d_any (rec : Sem') : DS :=
    (dSeq (dAsg 2 (dCallN 2 0 2 sem_draw plain2 (dCons ((dName 0) >>= argR) (dCons ((pure (.int 14)) >>= fun d => pure (AV.frz d)) (pure []))) (pure [])))
    (dSeq (dIf (dAnd (d2 gEq ((dName 2) >>= argR) ((pure (.int 0)) >>= fun d => pure (AV.frz d)) >>= toB) (d2 gGt ((dName 1) >>= argR) ((pure (.int 0)) >>= fun d => pure (AV.frz d)) >>= toB)) (dRet (dLc [3] (dR1 (dConsF (dFrz (dCallN 2 0 2 sem_draw plain2 (dCons ((dName 0) >>= argR) (dCons ((pure (.int 3)) >>= fun d => pure (AV.frz d)) (pure []))) (pure []))) (pure []))) (Tg.nm 3) (pure true) (dFrz (dCallN 2 0 2 rec plain2 (dCons ((dName 0) >>= argR) (dCons ((d2 DL.gSub ((dName 1) >>= argR) ((pure (.int 1)) >>= fun d => pure (AV.frz d))) >>= argR) (pure []))) (pure []))))) SRes.nx)
    (dSeq (dIf (dAnd (d2 gEq ((dName 2) >>= argR) ((pure (.int 1)) >>= fun d => pure (AV.frz d)) >>= toB) (d2 gGt ((dName 1) >>= argR) ((pure (.int 0)) >>= fun d => pure (AV.frz d)) >>= toB)) (dRet (dC gTuple (dCons ((dLc [3] (dR1 (dConsF (dFrz (dCallN 2 0 2 sem_draw plain2 (dCons ((dName 0) >>= argR) (dCons ((pure (.int 3)) >>= fun d => pure (AV.frz d)) (pure []))) (pure []))) (pure []))) (Tg.nm 3) (pure true) (dFrz (dCallN 2 0 2 rec plain2 (dCons ((dName 0) >>= argR) (dCons ((d2 DL.gSub ((dName 1) >>= argR) ((pure (.int 1)) >>= fun d => pure (AV.frz d))) >>= argR) (pure []))) (pure [])))) >>= argR) (pure [])))) SRes.nx)
    (dSeq (dIf (dAnd (d2 gEq ((dName 2) >>= argR) ((pure (.int 2)) >>= fun d => pure (AV.frz d)) >>= toB) (d2 gGt ((dName 1) >>= argR) ((pure (.int 0)) >>= fun d => pure (AV.frz d)) >>= toB)) (dRet (dDisp [((pure (.str "a")), (dFrz (dCallN 2 0 2 rec plain2 (dCons ((dName 0) >>= argR) (dCons ((d2 DL.gSub ((dName 1) >>= argR) ((pure (.int 1)) >>= fun d => pure (AV.frz d))) >>= argR) (pure []))) (pure []))))])) SRes.nx)
    (dSeq (dAsg 4 (dLst (dConsF (pure .non) (dConsF (pure (.bl true)) (dConsF (pure (.bl false)) (dConsF (pure (.int 0)) (dConsF (pure (.int 1)) (dConsF (dFrz (dNegV ((pure (.int 1)) >>= fun d => pure (AV.frz d)))) (dConsF (dFrz (d2 gPow ((pure (.int 10)) >>= fun d => pure (AV.frz d)) ((pure (.int 59)) >>= fun d => pure (AV.frz d)))) (dConsF (pure (.str "")) (dConsF (pure (.str "a")) (dConsF (pure (.str "A")) (dConsF (pure (.str "a b")) (dConsF (pure (.str "zzzzzzzz")) (dConsF (pure (.str "zzzzzzzzz")) (dConsF (pure (.str "a1")) (pure [])))))))))))))))))
    (dRet (d2 gIx ((dName 4) >>= argR) ((dName 2) >>= argR))))))))
def sem_any : Nat → Sem'
  | 0 => fun _ => .stuck
  | k + 1 => semOf 5 2 (d_any (sem_any k))
/-- is_name -/
def d_is_name : DS :=
    (dSeq (dIf (dOr (dNot ((dC gIsi (dCons ((dName 0) >>= argR) (dCons ((pure (.ty "str")) >>= fun d => pure (AV.frz d)) (pure [])))) >>= toB)) (dNot (dChain gLe gLe ((pure (.int 1)) >>= fun d => pure (AV.frz d)) ((dC gLen (dCons ((dName 0) >>= argR) (pure []))) >>= argR) ((pure (.int 8)) >>= fun d => pure (AV.frz d)) >>= toB))) (dRet (RV.frz <$> (pure (.bl false)))) SRes.nx)
    (dRet (dC gAll (dCons ((dLc [1] (dS_str (dFrz (dName 0))) (Tg.nm 1) (pure true) (dFrz (d2 (gInN false) ((dName 1) >>= argR) ((pure (.str "abcdefghijklmnopqrstuvwxyz")) >>= fun d => pure (AV.frz d))))) >>= argR) (pure [])))))
def sem_is_name : Sem' := semOf 2 1 d_is_name
/-- is_integer -/
def d_is_integer : DS :=
    (dRet (dAndV (dC gIsi (dCons ((dName 0) >>= argR) (dCons ((pure (.ty "int")) >>= fun d => pure (AV.frz d)) (pure [])))) (dNotV (dC gIsi (dCons ((dName 0) >>= argR) (dCons ((pure (.ty "bool")) >>= fun d => pure (AV.frz d)) (pure [])))))))
def sem_is_integer : Sem' := semOf 1 1 d_is_integer
/-- is_depth -/
def d_is_depth : DS :=
    (dRet (dCallN 1 0 1 sem_is_integer plain2 (dCons ((dName 0) >>= argR) (pure [])) (pure [])))
def sem_is_depth : Sem' := semOf 1 1 d_is_depth
/-- _law_is_word -/
def d_is_word : DS :=
    (dSeq (dIf (dOr (dNot ((dC gIsi (dCons ((dName 0) >>= argR) (dCons ((pure (.ty "str")) >>= fun d => pure (AV.frz d)) (pure [])))) >>= toB)) (dOr (d2 gEq ((dC gLen (dCons ((dName 0) >>= argR) (pure []))) >>= argR) ((pure (.int 0)) >>= fun d => pure (AV.frz d)) >>= toB) (d2 gGt ((dC gLen (dCons ((dName 0) >>= argR) (pure []))) >>= argR) ((pure (.int 8)) >>= fun d => pure (AV.frz d)) >>= toB))) (dRet (RV.frz <$> (pure (.bl false)))) SRes.nx)
    (dRet (d2 gEq ((dLc [1] (dS_str (dFrz (dName 0))) (Tg.nm 1) (dNot (dChain gLe gLe ((pure (.str "a")) >>= fun d => pure (AV.frz d)) ((dName 1) >>= argR) ((pure (.str "z")) >>= fun d => pure (AV.frz d)) >>= toB)) (dFrz (dName 1))) >>= argR) ((dLst (pure [])) >>= argR))))
def sem_is_word : Sem' := semOf 2 1 d_is_word
/-- law -/
def d_law : DS :=
    (dSeq (dAsg 1 (dCallN 1 0 1 sem_pen plain2 (dCons ((dName 0) >>= argR) (pure [])) (pure [])))
    (dSeq (dFor (dR1 (dConsF (pure (.int 12)) (pure []))) (Tg.nm 2) (dSeq (dAsg 3 (d2 gIx ((dLst (dConsF (pure (.int 10)) (dConsF (pure (.int 100)) (dConsF (dFrz (d2 gPow ((pure (.int 10)) >>= fun d => pure (AV.frz d)) ((pure (.int 9)) >>= fun d => pure (AV.frz d)))) (dConsF (dFrz (d2 gPow ((pure (.int 10)) >>= fun d => pure (AV.frz d)) ((pure (.int 30)) >>= fun d => pure (AV.frz d)))) (dConsF (dFrz (d2 gPow ((pure (.int 10)) >>= fun d => pure (AV.frz d)) ((pure (.int 59)) >>= fun d => pure (AV.frz d)))) (pure []))))))) >>= argR) ((dCallN 2 0 2 sem_draw plain2 (dCons ((dName 1) >>= argR) (dCons ((pure (.int 5)) >>= fun d => pure (AV.frz d)) (pure []))) (pure [])) >>= argR)))
    (dSeq (dAsg 4 (d2 gMul ((dCallN 2 0 2 sem_draw plain2 (dCons ((dName 1) >>= argR) (dCons ((dName 3) >>= argR) (pure []))) (pure [])) >>= argR) ((d2 gIx ((dLst (dConsF (pure (.int 1)) (dConsF (dFrz (dNegV ((pure (.int 1)) >>= fun d => pure (AV.frz d)))) (pure [])))) >>= argR) ((dCallN 2 0 2 sem_draw plain2 (dCons ((dName 1) >>= argR) (dCons ((pure (.int 2)) >>= fun d => pure (AV.frz d)) (pure []))) (pure [])) >>= argR)) >>= argR)))
    (dFor (dS_list (dFrz (dLst (dConsF (dFrz (dCallN 1 0 1 sem_word plain2 (dCons ((dName 1) >>= argR) (pure [])) (pure []))) (dConsF (dFrz (dName 4)) (dConsF (dFrz (dC gStr (dCons ((dName 4) >>= argR) (pure [])))) (dConsF (dFrz (dCallN 2 0 2 (sem_any 4) plain2 (dCons ((dName 1) >>= argR) (dCons ((pure (.int 3)) >>= fun d => pure (AV.frz d)) (pure []))) (pure []))) (dConsF (dFrz (dLst (dConsF (dFrz (dCallN 1 0 1 sem_word plain2 (dCons ((dName 1) >>= argR) (pure [])) (pure []))) (pure [])))) (pure []))))))))) (Tg.nm 5) (dSeq (dAsg 6 (dC gRepr (dCons ((dName 5) >>= argR) (pure []))))
    (dSeq (dAsg 7 (dAndV (dC gIsi (dCons ((dName 5) >>= argR) (dCons ((pure (.ty "int")) >>= fun d => pure (AV.frz d)) (pure [])))) (dNotV (dC gIsi (dCons ((dName 5) >>= argR) (dCons ((pure (.ty "bool")) >>= fun d => pure (AV.frz d)) (pure [])))))))
    (dSeq (dAsg 8 (dLst (dConsF (dFrz (dCallN 1 0 1 sem_is_name plain2 (dCons ((dName 5) >>= argR) (pure [])) (pure []))) (dConsF (dFrz (dCallN 0 1 1 sem_is_name both2 (pure []) (dCons ((dName 5) >>= argR) (pure [])))) (dConsF (dFrz (dCallN 1 0 1 sem_is_depth plain2 (dCons ((dName 5) >>= argR) (pure [])) (pure []))) (dConsF (dFrz (dCallN 0 1 1 sem_is_depth both2 (pure []) (dCons ((dName 5) >>= argR) (pure [])))) (pure [])))))))
    (dSeq (dAsg 9 (d2 gAdd ((d2 gMul ((dLst (dConsF (dFrz (dCallN 1 0 1 sem_is_word plain2 (dCons ((dName 5) >>= argR) (pure [])) (pure []))) (pure []))) >>= argR) ((pure (.int 2)) >>= fun d => pure (AV.frz d))) >>= argR) ((d2 gMul ((dLst (dConsF (dFrz (dName 7)) (pure []))) >>= argR) ((pure (.int 2)) >>= fun d => pure (AV.frz d))) >>= argR)))
    (dIf (dOr (d2 gNe ((dC gRepr (dCons ((dName 8) >>= argR) (pure []))) >>= argR) ((dC gRepr (dCons ((dName 9) >>= argR) (pure []))) >>= argR) >>= toB) (d2 gNe ((dC gRepr (dCons ((dName 5) >>= argR) (pure []))) >>= argR) ((dName 6) >>= argR) >>= toB)) (dRet (RV.frz <$> (pure (.bl false)))) SRes.nx)))))))))
    (dRet (RV.frz <$> (pure (.bl true))))))
def sem_law : Sem' := semOf 10 1 d_law
/-- what the top has left -/
structure Tx (K : PySem.W.Frag) (mg : Str → Option Value) where
  f_pen : Addr
  fd_pen : FuncData
  F_pen : Fun K "_law_pen" "_law_pen" s_pen f_pen fd_pen
  m_pen : mg "_law_pen" = some (.ref f_pen)
  f_draw : Addr
  fd_draw : FuncData
  F_draw : Fun K "_law_draw" "_law_draw" s_draw f_draw fd_draw
  m_draw : mg "_law_draw" = some (.ref f_draw)
  f_word : Addr
  fd_word : FuncData
  F_word : Fun K "_law_word" "_law_word" s_word f_word fd_word
  m_word : mg "_law_word" = some (.ref f_word)
  f_any : Addr
  fd_any : FuncData
  F_any : Fun K "_law_any" "_law_any" s_any f_any fd_any
  m_any : mg "_law_any" = some (.ref f_any)
  f_is_name : Addr
  fd_is_name : FuncData
  F_is_name : Fun K "is_name" "is_name" s_is_name f_is_name fd_is_name
  m_is_name : mg "is_name" = some (.ref f_is_name)
  f_is_integer : Addr
  fd_is_integer : FuncData
  F_is_integer : Fun K "is_integer" "is_integer" s_is_integer f_is_integer fd_is_integer
  m_is_integer : mg "is_integer" = some (.ref f_is_integer)
  f_is_depth : Addr
  fd_is_depth : FuncData
  F_is_depth : Fun K "is_depth" "is_depth" s_is_depth f_is_depth fd_is_depth
  m_is_depth : mg "is_depth" = some (.ref f_is_depth)
  f_is_word : Addr
  fd_is_word : FuncData
  F_is_word : Fun K "_law_is_word" "_law_is_word" s_is_word f_is_word fd_is_word
  m_is_word : mg "_law_is_word" = some (.ref f_is_word)
  f_law : Addr
  fd_law : FuncData
  F_law : Fun K "law" "law" s_law f_law fd_law
  n_abs : mg "abs" = none
  n_all : mg "all" = none
  n_bool : mg "bool" = none
  n_int : mg "int" = none
  n_isinstance : mg "isinstance" = none
  n_len : mg "len" = none
  n_list : mg "list" = none
  n_range : mg "range" = none
  n_repr : mg "repr" = none
  n_str : mg "str" = none
  n_tuple : mg "tuple" = none
  c_LETTERS : ∃ u, mg "LETTERS" = some u ∧ RelV (.str "abcdefghijklmnopqrstuvwxyz") u
  c_LONGEST_NAME : ∃ u, mg "LONGEST_NAME" = some u ∧ RelV (.int 8) u
section
variable {P : Program} {w : World} {K : PySem.W.Frag} {mg : Str → Option Value} {base : Heap}
theorem sc_pen : FnScope ["_law_script"] ["_law_script"] (defScope s_pen) := ⟨rfl, rfl, rfl, by decide +kernel, rfl, by decide +kernel, by decide +kernel⟩
theorem b_pen (T : Tx K mg) : Binds K T.fd_pen ["_law_script"] [] := T.F_pen.binds (ps := ["_law_script"]) fun _ _ _ _ _ _ us hl => match us, hl with | [_], _ => rfl
theorem ok_pen (T : Tx K mg) : FnG P w K mg base (L2.CX P w) 1 T.f_pen T.fd_pen ["_law_script"] (spD K 1 sem_pen) :=
  fnD_of (ps := ["_law_script"]) (N := ["_law_script"]) T.F_pen sc_pen (by decide) fun cdv A outer s H E HR HG => by
    have OX := okx_of (takes_of (X := cxOf (L2.CX P w) P w K mg base ["_law_script"] "_law_pen" (defScope s_pen) T.f_pen cdv A outer s H E) rfl rfl rfl rfl)
    refine psd_one ?_
    refine psd_ret ?_
    refine pd_lst ?_
    refine pfs_cons ?_ ?_
    · refine pf_of ?_
      refine pd_callTy call_list_of pr_list rfl T.n_list boot_list ?_
      refine pvs_cons ?_ ?_
      · refine pv_of ?_
        refine pd_sl ?_ ?_ ?_
        · refine pv_of ?_
          exact pd_name 0 (pv 0)
        · exact pio_none
        · refine pio_some ?_
          refine pv_f ?_
          exact pf_int
      · exact pvs_nil
    · refine pfs_cons ?_ ?_
      · exact pf_int
      · refine pfs_cons ?_ ?_
        · exact pf_int
        · refine pfs_cons ?_ ?_
          · exact pf_int
          · exact pfs_nil
theorem sc_draw : FnScope ["_law_pen_here", "_law_many", "_law_digit", "_law_at", "_law_cell", "_law_great", "_law_mixed"] ["_law_pen_here", "_law_many"] (defScope s_draw) := ⟨rfl, rfl, rfl, by decide +kernel, rfl, by decide +kernel, by decide +kernel⟩
theorem b_draw (T : Tx K mg) : Binds K T.fd_draw ["_law_pen_here", "_law_many"] [] := T.F_draw.binds (ps := ["_law_pen_here", "_law_many"]) fun _ _ _ _ _ _ us hl => match us, hl with | [_, _], _ => rfl
theorem ok_draw (T : Tx K mg) : FnG P w K mg base (L2.CX P w) 1 T.f_draw T.fd_draw ["_law_pen_here", "_law_many"] (spD K 2 sem_draw) :=
  fnD_of (ps := ["_law_pen_here", "_law_many"]) (N := ["_law_pen_here", "_law_many", "_law_digit", "_law_at", "_law_cell", "_law_great", "_law_mixed"]) T.F_draw sc_draw (by decide) fun cdv A outer s H E HR HG => by
    have OX := okx_of (takes_of (X := cxOf (L2.CX P w) P w K mg base ["_law_pen_here", "_law_many", "_law_digit", "_law_at", "_law_cell", "_law_great", "_law_mixed"] "_law_draw" (defScope s_draw) T.f_draw cdv A outer s H E) rfl rfl rfl rfl)
    refine psd_cons ?_ ?_
    · refine psd_store ?_ ?_ ?_ (fun ho hi => pg_sub ho hi set_list)
      · refine pf_of ?_
        refine pd_op op_addU pr_add ?_ ?_
        · refine pv_of ?_
          refine pd_ix ?_ ?_ (fun _ _ => rfl)
          · refine pv_of ?_
            exact pd_name 0 (pv 0)
          · refine pv_f ?_
            exact pf_int
        · refine pv_f ?_
          exact pf_int
      · refine pv_of ?_
        exact pd_name 0 (pv 0)
      · refine pv_f ?_
        exact pf_int
    · refine psd_cons ?_ ?_
      · refine psd_if ?_ ?_ ?_
        · refine pb_cmp op_gtU pr_gt ?_ ?_ (nomark _)
          · refine pv_of ?_
            refine pd_ix ?_ ?_ (fun _ _ => rfl)
            · refine pv_of ?_
              exact pd_name 0 (pv 0)
            · refine pv_f ?_
              exact pf_int
          · refine pv_f ?_
            exact pf_int
        · refine psd_cons ?_ ?_
          · refine psd_asg (i := 2) ?_ (pg_name sc_draw.nd rfl (by first | exact Or.inl rfl | exact Or.inr rfl))
            refine pd_op op_mod pr_mod ?_ ?_
            · refine pv_of ?_
              refine pd_ix ?_ ?_ (fun _ _ => rfl)
              · refine pv_of ?_
                exact pd_name 0 (pv 0)
              · refine pv_f ?_
                exact pf_int
            · refine pv_of ?_
              exact pd_name 1 (pv 1)
          · refine psd_cons ?_ ?_
            · refine psd_store ?_ ?_ ?_ (fun ho hi => pg_sub ho hi set_list)
              · refine pf_of ?_
                refine pd_op op_fdivW pr_div ?_ ?_
                · refine pv_of ?_
                  refine pd_ix ?_ ?_ (fun _ _ => rfl)
                  · refine pv_of ?_
                    exact pd_name 0 (pv 0)
                  · refine pv_f ?_
                    exact pf_int
                · refine pv_of ?_
                  exact pd_name 1 (pv 1)
              · refine pv_of ?_
                exact pd_name 0 (pv 0)
              · refine pv_f ?_
                exact pf_int
            · refine psd_one ?_
              refine psd_ret ?_
              exact pd_name 2 (pv 2)
        · exact psd_nil
      · refine psd_cons ?_ ?_
        · refine psd_asg (i := 3) ?_ (pg_name sc_draw.nd rfl (by first | exact Or.inl rfl | exact Or.inr rfl))
          refine pd_ix ?_ ?_ (fun _ _ => rfl)
          · refine pv_of ?_
            exact pd_name 0 (pv 0)
          · refine pv_f ?_
            exact pf_int
        · refine psd_cons ?_ ?_
          · refine psd_store ?_ ?_ ?_ (fun ho hi => pg_sub ho hi set_list)
            · refine pf_of ?_
              refine pd_op op_addU pr_add ?_ ?_
              · refine pv_of ?_
                exact pd_name 3 (pv 3)
              · refine pv_f ?_
                exact pf_int
            · refine pv_of ?_
              exact pd_name 0 (pv 0)
            · refine pv_f ?_
              exact pf_int
          · refine psd_cons ?_ ?_
            · refine psd_asg (i := 4) ?_ (pg_name sc_draw.nd rfl (by first | exact Or.inl rfl | exact Or.inr rfl))
              refine pd_op op_addU pr_add ?_ ?_
              · refine pv_of ?_
                refine pd_op op_mulU pr_mul ?_ ?_
                · refine pv_f ?_
                  exact pf_int
                · refine pv_of ?_
                  exact pd_name 3 (pv 3)
              · refine pv_f ?_
                exact pf_int
            · refine psd_cons ?_ ?_
              · refine psd_if ?_ ?_ ?_
                · refine pb_cmp (op_neU HR.units) pr_ne ?_ ?_ (nomark _)
                  · refine pv_of ?_
                    refine pd_ix ?_ ?_ (fun _ _ => rfl)
                    · refine pv_of ?_
                      exact pd_name 0 (pv 0)
                    · refine pv_f ?_
                      exact pf_int
                  · refine pv_of ?_
                    refine pd_lst ?_
                    exact pfs_nil
                · refine psd_one ?_
                  refine psd_asg (i := 4) ?_ (pg_name sc_draw.nd rfl (by first | exact Or.inl rfl | exact Or.inr rfl))
                  refine pd_ix ?_ ?_ (fun _ _ => rfl)
                  · refine pv_of ?_
                    refine pd_ix ?_ ?_ (fun _ _ => rfl)
                    · refine pv_of ?_
                      exact pd_name 0 (pv 0)
                    · refine pv_f ?_
                      exact pf_int
                  · refine pv_of ?_
                    refine pd_op op_mod pr_mod ?_ ?_
                    · refine pv_of ?_
                      exact pd_name 3 (pv 3)
                    · refine pv_of ?_
                      refine pd_callB call_len pr_len rfl T.n_len PySem.boot_len ?_
                      refine pvs_cons ?_ ?_
                      · refine pv_of ?_
                        refine pd_ix ?_ ?_ (fun _ _ => rfl)
                        · refine pv_of ?_
                          exact pd_name 0 (pv 0)
                        · refine pv_f ?_
                          exact pf_int
                      · exact pvs_nil
                · exact psd_nil
              · refine psd_cons ?_ ?_
                · refine psd_if ?_ ?_ ?_
                  · refine PW.pt ?_
                    refine pbw_and ?_ ?_
                    · refine pb_cmp op_ltU pr_lt ?_ ?_ (nomark _)
                      · refine pv_of ?_
                        exact pd_name 3 (pv 3)
                      · refine pv_of ?_
                        refine pd_callB call_len pr_len rfl T.n_len PySem.boot_len ?_
                        refine pvs_cons ?_ ?_
                        · refine pv_of ?_
                          refine pd_ix ?_ ?_ (fun _ _ => rfl)
                          · refine pv_of ?_
                            exact pd_name 0 (pv 0)
                          · refine pv_f ?_
                            exact pf_int
                        · exact pvs_nil
                    · refine pbw_and1 ?_
                      refine pb_cmp op_geU pr_ge ?_ ?_ (nomark _)
                      · refine pv_of ?_
                        refine pd_callB call_abs pr_abs rfl T.n_abs boot_abs ?_
                        refine pvs_cons ?_ ?_
                        · refine pv_of ?_
                          exact pd_name 4 (pv 4)
                        · exact pvs_nil
                      · refine pv_of ?_
                        refine pd_op op_pow pr_pow ?_ ?_
                        · refine pv_f ?_
                          exact pf_int
                        · refine pv_f ?_
                          exact pf_int
                  · refine psd_cons ?_ ?_
                    · refine psd_asg (i := 5) ?_ (pg_name sc_draw.nd rfl (by first | exact Or.inl rfl | exact Or.inr rfl))
                      refine pd_op op_addU pr_add ?_ ?_
                      · refine pv_of ?_
                        refine pd_op op_mulU pr_mul ?_ ?_
                        · refine pv_f ?_
                          exact pf_int
                        · refine pv_of ?_
                          refine pd_callB call_abs pr_abs rfl T.n_abs boot_abs ?_
                          refine pvs_cons ?_ ?_
                          · refine pv_of ?_
                            exact pd_name 4 (pv 4)
                          · exact pvs_nil
                      · refine pv_of ?_
                        refine pd_callTy call_intU pr_int rfl T.n_int boot_int ?_
                        refine pvs_cons ?_ ?_
                        · refine pv_of ?_
                          refine pd_cmp op_ltU pr_lt ?_ ?_ (nomark _)
                          · refine pv_of ?_
                            exact pd_name 4 (pv 4)
                          · refine pv_f ?_
                            exact pf_int
                        · exact pvs_nil
                    · refine psd_cons ?_ ?_
                      · refine psd_store ?_ ?_ ?_ (fun ho hi => pg_sub ho hi set_list)
                        · refine pf_of ?_
                          refine pd_op op_fdivW pr_div ?_ ?_
                          · refine pv_of ?_
                            exact pd_name 5 (pv 5)
                          · refine pv_of ?_
                            exact pd_name 1 (pv 1)
                        · refine pv_of ?_
                          exact pd_name 0 (pv 0)
                        · refine pv_f ?_
                          exact pf_int
                      · refine psd_one ?_
                        refine psd_ret ?_
                        refine pd_op op_mod pr_mod ?_ ?_
                        · refine pv_of ?_
                          exact pd_name 5 (pv 5)
                        · refine pv_of ?_
                          exact pd_name 1 (pv 1)
                  · exact psd_nil
                · refine psd_cons ?_ ?_
                  · refine psd_asg (i := 6) ?_ (pg_name sc_draw.nd rfl (by first | exact Or.inl rfl | exact Or.inr rfl))
                    refine pd_op op_addU pr_add ?_ ?_
                    · refine pv_of ?_
                      refine pd_op op_mod pr_mod ?_ ?_
                      · refine pv_of ?_
                        exact pd_name 4 (pv 4)
                      · refine pv_f ?_
                        exact pf_int
                    · refine pv_of ?_
                      refine pd_op op_mulU pr_mul ?_ ?_
                      · refine pv_of ?_
                        refine pd_op op_mulU pr_mul ?_ ?_
                        · refine pv_f ?_
                          exact pf_int
                        · refine pv_of ?_
                          refine pd_ix ?_ ?_ (fun _ _ => rfl)
                          · refine pv_of ?_
                            exact pd_name 0 (pv 0)
                          · refine pv_f ?_
                            exact pf_int
                      · refine pv_of ?_
                        refine pd_ix ?_ ?_ (fun _ _ => rfl)
                        · refine pv_of ?_
                          exact pd_name 0 (pv 0)
                        · refine pv_f ?_
                          exact pf_int
                  · refine psd_cons ?_ ?_
                    · refine psd_asg (i := 6) ?_ (pg_name sc_draw.nd rfl (by first | exact Or.inl rfl | exact Or.inr rfl))
                      refine pd_op op_mod pr_mod ?_ ?_
                      · refine pv_of ?_
                        refine pd_op op_pow pr_pow ?_ ?_
                        · refine pv_of ?_
                          refine pd_op op_addU pr_add ?_ ?_
                          · refine pv_of ?_
                            refine pd_op op_addU pr_add ?_ ?_
                            · refine pv_of ?_
                              exact pd_name 6 (pv 6)
                            · refine pv_of ?_
                              refine pd_op op_mulU pr_mul ?_ ?_
                              · refine pv_f ?_
                                exact pf_int
                              · refine pv_of ?_
                                exact pd_name 3 (pv 3)
                          · refine pv_f ?_
                            exact pf_int
                        · refine pv_f ?_
                          exact pf_int
                      · refine pv_f ?_
                        exact pf_int
                    · refine psd_cons ?_ ?_
                      · refine psd_asg (i := 6) ?_ (pg_name sc_draw.nd rfl (by first | exact Or.inl rfl | exact Or.inr rfl))
                        refine pd_op op_mod pr_mod ?_ ?_
                        · refine pv_of ?_
                          refine pd_op op_pow pr_pow ?_ ?_
                          · refine pv_of ?_
                            refine pd_op op_addU pr_add ?_ ?_
                            · refine pv_of ?_
                              exact pd_name 6 (pv 6)
                            · refine pv_of ?_
                              refine pd_op op_mulU pr_mul ?_ ?_
                              · refine pv_f ?_
                                exact pf_int
                              · refine pv_of ?_
                                refine pd_ix ?_ ?_ (fun _ _ => rfl)
                                · refine pv_of ?_
                                  exact pd_name 0 (pv 0)
                                · refine pv_f ?_
                                  exact pf_int
                          · refine pv_f ?_
                            exact pf_int
                        · refine pv_f ?_
                          exact pf_int
                      · refine psd_one ?_
                        refine psd_ret ?_
                        refine pd_op op_mod pr_mod ?_ ?_
                        · refine pv_of ?_
                          refine pd_op op_fdivW pr_div ?_ ?_
                          · refine pv_of ?_
                            exact pd_name 6 (pv 6)
                          · refine pv_f ?_
                            exact pf_int
                        · refine pv_of ?_
                          exact pd_name 1 (pv 1)
theorem sc_word : FnScope ["_law_pen_here", "_law_letters", "_law_word_here", "_law_k", "_law_signs", "_law_at"] ["_law_pen_here"] (defScope s_word) := ⟨rfl, rfl, rfl, by decide +kernel, rfl, by decide +kernel, by decide +kernel⟩
theorem b_word (T : Tx K mg) : Binds K T.fd_word ["_law_pen_here"] [] := T.F_word.binds (ps := ["_law_pen_here"]) fun _ _ _ _ _ _ us hl => match us, hl with | [_], _ => rfl
theorem ok_word (T : Tx K mg) : FnG P w K mg base (L2.CX P w) 2 T.f_word T.fd_word ["_law_pen_here"] (spD K 1 sem_word) :=
  fnD_of (ps := ["_law_pen_here"]) (N := ["_law_pen_here", "_law_letters", "_law_word_here", "_law_k", "_law_signs", "_law_at"]) T.F_word sc_word (by decide) fun cdv A outer s H E HR HG => by
    have OX := okx_of (takes_of (X := cxOf (L2.CX P w) P w K mg base ["_law_pen_here", "_law_letters", "_law_word_here", "_law_k", "_law_signs", "_law_at"] "_law_word" (defScope s_word) T.f_word cdv A outer s H E) rfl rfl rfl rfl)
    refine psd_cons ?_ ?_
    · refine psd_asg (i := 1) ?_ (pg_name sc_word.nd rfl (by first | exact Or.inl rfl | exact Or.inr rfl))
      refine pd_of ?_
      exact pf_str
    · refine psd_cons ?_ ?_
      · refine psd_asg (i := 2) ?_ (pg_name sc_word.nd rfl (by first | exact Or.inl rfl | exact Or.inr rfl))
        refine pd_join ?_ ?_
        · refine pv_f ?_
          exact pf_str
        · refine pv_of ?_
          refine pd_lcV (own := [("_law_k", 3)]) (t := (Tg.nm 3)) rfl sc_word.nd ?_ ?_ (fun _ _ _ _ _ => ?_) (fun _ _ _ _ _ => ?_) (fun _ _ _ _ _ => ?_) (by decide)
          · refine psrc_r1 rfl T.n_range ?_
            refine pfs_cons ?_ ?_
            · refine pf_of ?_
              refine pd_ix ?_ ?_ (fun _ _ => rfl)
              · refine pv_of ?_
                refine pd_lst ?_
                refine pfs_cons ?_ ?_
                · exact pf_int
                · refine pfs_cons ?_ ?_
                  · exact pf_int
                  · refine pfs_cons ?_ ?_
                    · exact pf_int
                    · refine pfs_cons ?_ ?_
                      · exact pf_int
                      · refine pfs_cons ?_ ?_
                        · refine pf_of ?_
                          refine pd_callV (ok_draw T) rfl (HR.mono (by omega)) HG OX T.m_draw T.F_draw.kp (kbd_plain (b_draw T)) rfl ?_
                          refine pvs_cons ?_ ?_
                          · refine pv_of ?_
                            exact pd_name 0 (pv 0)
                          · refine pvs_cons ?_ ?_
                            · refine pv_f ?_
                              exact pf_int
                            · exact pvs_nil
                        · exact pfs_nil
              · refine pv_of ?_
                refine pd_callV (ok_draw T) rfl (HR.mono (by omega)) HG OX T.m_draw T.F_draw.kp (kbd_plain (b_draw T)) rfl ?_
                refine pvs_cons ?_ ?_
                · refine pv_of ?_
                  exact pd_name 0 (pv 0)
                · refine pvs_cons ?_ ?_
                  · refine pv_f ?_
                    exact pf_int
                  · exact pvs_nil
            · exact pfs_nil
          · exact (show BlkOk ["_law_pen_here", "_law_letters", "_law_word_here", "_law_k", "_law_signs", "_law_at"] (defScope s_word) _ _ from ⟨rfl, by decide +kernel, by decide +kernel, by decide +kernel, by decide +kernel⟩)
          · exact pg_name (i := 3) sc_word.nd rfl (by first | exact Or.inl rfl | exact Or.inr rfl)
          · exact ptsb_nil
          · refine pf_of ?_
            refine pd_ix ?_ ?_ (fun _ _ => rfl)
            · refine pv_of ?_
              exact pd_name 1 (pv 1)
            · refine pv_of ?_
              refine pd_callV (ok_draw T) rfl (HR.mono (by omega)) HG okx0 T.m_draw T.F_draw.kp (kbd_plain (b_draw T)) rfl ?_
              refine pvs_cons ?_ ?_
              · refine pv_of ?_
                exact pd_name 0 (pv 0)
              · refine pvs_cons ?_ ?_
                · refine pv_f ?_
                  exact pf_int
                · exact pvs_nil
      · refine psd_cons ?_ ?_
        · refine psd_if ?_ ?_ ?_
          · refine PW.pt ?_
            refine pbw_or ?_ ?_
            · refine pb_cmp (op_eqU HR.units) pr_eq ?_ ?_ (nomark _)
              · refine pv_of ?_
                refine pd_callV (ok_draw T) rfl (HR.mono (by omega)) HG OX T.m_draw T.F_draw.kp (kbd_plain (b_draw T)) rfl ?_
                refine pvs_cons ?_ ?_
                · refine pv_of ?_
                  exact pd_name 0 (pv 0)
                · refine pvs_cons ?_ ?_
                  · refine pv_f ?_
                    exact pf_int
                  · exact pvs_nil
              · refine pv_f ?_
                exact pf_int
            · refine pbw_or1 ?_
              refine pb_cmp (op_eqU HR.units) pr_eq ?_ ?_ (nomark _)
              · refine pv_of ?_
                exact pd_name 2 (pv 2)
              · refine pv_f ?_
                exact pf_str
          · refine psd_one ?_
            refine psd_ret ?_
            exact pd_name 2 (pv 2)
          · exact psd_nil
        · refine psd_cons ?_ ?_
          · refine psd_asg (i := 4) ?_ (pg_name sc_word.nd rfl (by first | exact Or.inl rfl | exact Or.inr rfl))
            refine pd_op op_addU pr_add ?_ ?_
            · refine pv_f ?_
              exact pf_str
            · refine pv_f ?_
              exact pf_str
          · refine psd_cons ?_ ?_
            · refine psd_asg (i := 5) ?_ (pg_name sc_word.nd rfl (by first | exact Or.inl rfl | exact Or.inr rfl))
              refine pd_callV (ok_draw T) rfl (HR.mono (by omega)) HG OX T.m_draw T.F_draw.kp (kbd_plain (b_draw T)) rfl ?_
              refine pvs_cons ?_ ?_
              · refine pv_of ?_
                exact pd_name 0 (pv 0)
              · refine pvs_cons ?_ ?_
                · refine pv_of ?_
                  refine pd_callB call_len pr_len rfl T.n_len PySem.boot_len ?_
                  refine pvs_cons ?_ ?_
                  · refine pv_of ?_
                    exact pd_name 2 (pv 2)
                  · exact pvs_nil
                · exact pvs_nil
            · refine psd_one ?_
              refine psd_ret ?_
              refine pd_op op_addU pr_add ?_ ?_
              · refine pv_of ?_
                refine pd_op op_addU pr_add ?_ ?_
                · refine pv_of ?_
                  refine pd_sl ?_ ?_ ?_
                  · refine pv_of ?_
                    exact pd_name 2 (pv 2)
                  · exact pio_none
                  · refine pio_some ?_
                    refine pv_of ?_
                    exact pd_name 5 (pv 5)
                · refine pv_of ?_
                  refine pd_ix ?_ ?_ (fun _ _ => rfl)
                  · refine pv_of ?_
                    exact pd_name 4 (pv 4)
                  · refine pv_of ?_
                    refine pd_callV (ok_draw T) rfl (HR.mono (by omega)) HG OX T.m_draw T.F_draw.kp (kbd_plain (b_draw T)) rfl ?_
                    refine pvs_cons ?_ ?_
                    · refine pv_of ?_
                      exact pd_name 0 (pv 0)
                    · refine pvs_cons ?_ ?_
                      · refine pv_of ?_
                        refine pd_callB call_len pr_len rfl T.n_len PySem.boot_len ?_
                        refine pvs_cons ?_ ?_
                        · refine pv_of ?_
                          exact pd_name 4 (pv 4)
                        · exact pvs_nil
                      · exact pvs_nil
              · refine pv_of ?_
                refine pd_sl ?_ ?_ ?_
                · refine pv_of ?_
                  exact pd_name 2 (pv 2)
                · refine pio_some ?_
                  refine pv_of ?_
                  refine pd_op op_addU pr_add ?_ ?_
                  · refine pv_of ?_
                    exact pd_name 5 (pv 5)
                  · refine pv_f ?_
                    exact pf_int
                · exact pio_none
theorem sc_any : FnScope ["_law_pen_here", "_law_deep", "_law_sort", "_law_k", "_law_some"] ["_law_pen_here", "_law_deep"] (defScope s_any) := ⟨rfl, rfl, rfl, by decide +kernel, rfl, by decide +kernel, by decide +kernel⟩
theorem b_any (T : Tx K mg) : Binds K T.fd_any ["_law_pen_here", "_law_deep"] [] := T.F_any.binds (ps := ["_law_pen_here", "_law_deep"]) fun _ _ _ _ _ _ us hl => match us, hl with | [_, _], _ => rfl
theorem ok_any (T : Tx K mg) : ∀ n : Nat, FnG P w K mg base (L2.CX P w) (2 + n) T.f_any T.fd_any ["_law_pen_here", "_law_deep"] (spD K 2 (sem_any n))
  | 0 => fnG_zero (ps := ["_law_pen_here", "_law_deep"])
  | n + 1 => fnD_of (k := 2 + n) (ps := ["_law_pen_here", "_law_deep"]) (N := ["_law_pen_here", "_law_deep", "_law_sort", "_law_k", "_law_some"]) T.F_any sc_any (by decide) fun cdv A outer s H E HR HG => by
    have IH := ok_any T n
    generalize hs : sem_any n = rec at IH
    have OX := okx_of (takes_of (X := cxOf (L2.CX P w) P w K mg base ["_law_pen_here", "_law_deep", "_law_sort", "_law_k", "_law_some"] "_law_any" (defScope s_any) T.f_any cdv A outer s H E) rfl rfl rfl rfl)
    refine psd_cons ?_ ?_
    · refine psd_asg (i := 2) ?_ (pg_name sc_any.nd rfl (by first | exact Or.inl rfl | exact Or.inr rfl))
      refine pd_callV (ok_draw T) rfl (HR.mono (by omega)) HG OX T.m_draw T.F_draw.kp (kbd_plain (b_draw T)) rfl ?_
      refine pvs_cons ?_ ?_
      · refine pv_of ?_
        exact pd_name 0 (pv 0)
      · refine pvs_cons ?_ ?_
        · refine pv_f ?_
          exact pf_int
        · exact pvs_nil
    · refine psd_cons ?_ ?_
      · refine psd_if ?_ ?_ ?_
        · refine PW.pt ?_
          refine pbw_and ?_ ?_
          · refine pb_cmp (op_eqU HR.units) pr_eq ?_ ?_ (nomark _)
            · refine pv_of ?_
              exact pd_name 2 (pv 2)
            · refine pv_f ?_
              exact pf_int
          · refine pbw_and1 ?_
            refine pb_cmp op_gtU pr_gt ?_ ?_ (nomark _)
            · refine pv_of ?_
              exact pd_name 1 (pv 1)
            · refine pv_f ?_
              exact pf_int
        · refine psd_one ?_
          refine psd_ret ?_
          refine pd_lcV (own := [("_law_k", 3)]) (t := (Tg.nm 3)) rfl sc_any.nd ?_ ?_ (fun _ _ _ _ _ => ?_) (fun _ _ _ _ _ => ?_) (fun _ _ _ _ _ => ?_) (by decide)
          · refine psrc_r1 rfl T.n_range ?_
            refine pfs_cons ?_ ?_
            · refine pf_of ?_
              refine pd_callV (ok_draw T) rfl (HR.mono (by omega)) HG OX T.m_draw T.F_draw.kp (kbd_plain (b_draw T)) rfl ?_
              refine pvs_cons ?_ ?_
              · refine pv_of ?_
                exact pd_name 0 (pv 0)
              · refine pvs_cons ?_ ?_
                · refine pv_f ?_
                  exact pf_int
                · exact pvs_nil
            · exact pfs_nil
          · exact (show BlkOk ["_law_pen_here", "_law_deep", "_law_sort", "_law_k", "_law_some"] (defScope s_any) _ _ from ⟨rfl, by decide +kernel, by decide +kernel, by decide +kernel, by decide +kernel⟩)
          · exact pg_name (i := 3) sc_any.nd rfl (by first | exact Or.inl rfl | exact Or.inr rfl)
          · exact ptsb_nil
          · refine pf_of ?_
            refine pd_callV IH rfl (HR.mono (by omega)) HG okx0 T.m_any T.F_any.kp (kbd_plain (b_any T)) rfl ?_
            refine pvs_cons ?_ ?_
            · refine pv_of ?_
              exact pd_name 0 (pv 0)
            · refine pvs_cons ?_ ?_
              · refine pv_of ?_
                refine pd_op op_sub pr_sub ?_ ?_
                · refine pv_of ?_
                  exact pd_name 1 (pv 1)
                · refine pv_f ?_
                  exact pf_int
              · exact pvs_nil
        · exact psd_nil
      · refine psd_cons ?_ ?_
        · refine psd_if ?_ ?_ ?_
          · refine PW.pt ?_
            refine pbw_and ?_ ?_
            · refine pb_cmp (op_eqU HR.units) pr_eq ?_ ?_ (nomark _)
              · refine pv_of ?_
                exact pd_name 2 (pv 2)
              · refine pv_f ?_
                exact pf_int
            · refine pbw_and1 ?_
              refine pb_cmp op_gtU pr_gt ?_ ?_ (nomark _)
              · refine pv_of ?_
                exact pd_name 1 (pv 1)
              · refine pv_f ?_
                exact pf_int
          · refine psd_one ?_
            refine psd_ret ?_
            refine pd_callTy call_tuple_of pr_tuple rfl T.n_tuple boot_tuple ?_
            refine pvs_cons ?_ ?_
            · refine pv_of ?_
              refine pd_lcV (own := [("_law_k", 3)]) (t := (Tg.nm 3)) rfl sc_any.nd ?_ ?_ (fun _ _ _ _ _ => ?_) (fun _ _ _ _ _ => ?_) (fun _ _ _ _ _ => ?_) (by decide)
              · refine psrc_r1 rfl T.n_range ?_
                refine pfs_cons ?_ ?_
                · refine pf_of ?_
                  refine pd_callV (ok_draw T) rfl (HR.mono (by omega)) HG OX T.m_draw T.F_draw.kp (kbd_plain (b_draw T)) rfl ?_
                  refine pvs_cons ?_ ?_
                  · refine pv_of ?_
                    exact pd_name 0 (pv 0)
                  · refine pvs_cons ?_ ?_
                    · refine pv_f ?_
                      exact pf_int
                    · exact pvs_nil
                · exact pfs_nil
              · exact (show BlkOk ["_law_pen_here", "_law_deep", "_law_sort", "_law_k", "_law_some"] (defScope s_any) _ _ from ⟨rfl, by decide +kernel, by decide +kernel, by decide +kernel, by decide +kernel⟩)
              · exact pg_name (i := 3) sc_any.nd rfl (by first | exact Or.inl rfl | exact Or.inr rfl)
              · exact ptsb_nil
              · refine pf_of ?_
                refine pd_callV IH rfl (HR.mono (by omega)) HG okx0 T.m_any T.F_any.kp (kbd_plain (b_any T)) rfl ?_
                refine pvs_cons ?_ ?_
                · refine pv_of ?_
                  exact pd_name 0 (pv 0)
                · refine pvs_cons ?_ ?_
                  · refine pv_of ?_
                    refine pd_op op_sub pr_sub ?_ ?_
                    · refine pv_of ?_
                      exact pd_name 1 (pv 1)
                    · refine pv_f ?_
                      exact pf_int
                  · exact pvs_nil
            · exact pvs_nil
          · exact psd_nil
        · refine psd_cons ?_ ?_
          · refine psd_if ?_ ?_ ?_
            · refine PW.pt ?_
              refine pbw_and ?_ ?_
              · refine pb_cmp (op_eqU HR.units) pr_eq ?_ ?_ (nomark _)
                · refine pv_of ?_
                  exact pd_name 2 (pv 2)
                · refine pv_f ?_
                  exact pf_int
              · refine pbw_and1 ?_
                refine pb_cmp op_gtU pr_gt ?_ ?_ (nomark _)
                · refine pv_of ?_
                  exact pd_name 1 (pv 1)
                · refine pv_f ?_
                  exact pf_int
            · refine psd_one ?_
              refine psd_ret ?_
              refine pd_disp ?_ rfl rfl (List.cons_ne_nil _ _) (by decide)
              refine pps_consD ?_ ?_ ?_
              · exact pf_str
              · refine pf_of ?_
                refine pd_callV IH rfl (HR.mono (by omega)) HG OX T.m_any T.F_any.kp (kbd_plain (b_any T)) rfl ?_
                refine pvs_cons ?_ ?_
                · refine pv_of ?_
                  exact pd_name 0 (pv 0)
                · refine pvs_cons ?_ ?_
                  · refine pv_of ?_
                    refine pd_op op_sub pr_sub ?_ ?_
                    · refine pv_of ?_
                      exact pd_name 1 (pv 1)
                    · refine pv_f ?_
                      exact pf_int
                  · exact pvs_nil
              · exact pps_nil
            · exact psd_nil
          · refine psd_cons ?_ ?_
            · refine psd_asg (i := 4) ?_ (pg_name sc_any.nd rfl (by first | exact Or.inl rfl | exact Or.inr rfl))
              refine pd_lst ?_
              refine pfs_cons ?_ ?_
              · exact pf_non
              · refine pfs_cons ?_ ?_
                · exact pf_bl
                · refine pfs_cons ?_ ?_
                  · exact pf_bl
                  · refine pfs_cons ?_ ?_
                    · exact pf_int
                    · refine pfs_cons ?_ ?_
                      · exact pf_int
                      · refine pfs_cons ?_ ?_
                        · refine pf_of ?_
                          refine pd_neg ?_
                          refine pv_f ?_
                          exact pf_int
                        · refine pfs_cons ?_ ?_
                          · refine pf_of ?_
                            refine pd_op op_pow pr_pow ?_ ?_
                            · refine pv_f ?_
                              exact pf_int
                            · refine pv_f ?_
                              exact pf_int
                          · refine pfs_cons ?_ ?_
                            · exact pf_str
                            · refine pfs_cons ?_ ?_
                              · exact pf_str
                              · refine pfs_cons ?_ ?_
                                · exact pf_str
                                · refine pfs_cons ?_ ?_
                                  · exact pf_str
                                  · refine pfs_cons ?_ ?_
                                    · exact pf_str
                                    · refine pfs_cons ?_ ?_
                                      · exact pf_str
                                      · refine pfs_cons ?_ ?_
                                        · exact pf_str
                                        · exact pfs_nil
            · refine psd_one ?_
              refine psd_ret ?_
              refine pd_ix ?_ ?_ (fun _ _ => rfl)
              · refine pv_of ?_
                exact pd_name 4 (pv 4)
              · refine pv_of ?_
                exact pd_name 2 (pv 2)
theorem sc_is_name : FnScope ["thing", "letter"] ["thing"] (defScope s_is_name) := ⟨rfl, rfl, rfl, by decide +kernel, rfl, by decide +kernel, by decide +kernel⟩
theorem b_is_name (T : Tx K mg) : Binds K T.fd_is_name ["thing"] [] := T.F_is_name.binds (ps := ["thing"]) fun _ _ _ _ _ _ us hl => match us, hl with | [_], _ => rfl
theorem kb_is_name_thing (T : Tx K mg) : KBd K T.fd_is_name ["thing"] ["thing"] 0 both2 := kbd_kw fun s us ws X h1 h2 => by
  obtain ⟨oc, od, kV, doc, pm, an, cdv, ct, osl, e, _⟩ := T.F_is_name.ex
  rw [e]
  exact match us, h1, ws, h2 with | [], _, [_], _ => .of_eq rfl
theorem ok_is_name (T : Tx K mg) : FnG P w K mg base (L2.CX P w) 1 T.f_is_name T.fd_is_name ["thing"] (spD K 1 sem_is_name) :=
  fnD_of (ps := ["thing"]) (N := ["thing", "letter"]) T.F_is_name sc_is_name (by decide) fun cdv A outer s H E HR HG => by
    have OX := okx_of (takes_of (X := cxOf (L2.CX P w) P w K mg base ["thing", "letter"] "is_name" (defScope s_is_name) T.f_is_name cdv A outer s H E) rfl rfl rfl rfl)
    refine psd_cons ?_ ?_
    · refine psd_if ?_ ?_ ?_
      · refine PW.pt ?_
        refine pbw_or ?_ ?_
        · refine pb_not ?_
          refine pb_val ?_
          refine pd_callB call_isi pr_isi rfl T.n_isinstance boot_isinstance ?_
          refine pvs_cons ?_ ?_
          · refine pv_of ?_
            exact pd_name 0 (pv 0)
          · refine pvs_cons ?_ ?_
            · refine pv_f ?_
              exact pf_ty T.n_str rfl boot_str
            · exact pvs_nil
        · refine pbw_or1 ?_
          refine pb_not ?_
          refine pb_chain op_leU op_leU pr_le pr_le ?_ ?_ ?_
          · refine pv_f ?_
            exact pf_int
          · refine pv_of ?_
            refine pd_callB call_len pr_len rfl T.n_len PySem.boot_len ?_
            refine pvs_cons ?_ ?_
            · refine pv_of ?_
              exact pd_name 0 (pv 0)
            · exact pvs_nil
          · refine pv_f ?_
            exact pf_globI T.c_LONGEST_NAME rfl
      · refine psd_one ?_
        refine psd_ret ?_
        refine pd_of ?_
        exact pf_bl
      · exact psd_nil
    · refine psd_one ?_
      refine psd_ret ?_
      refine pd_callB (cr_all rfl) pr_all rfl T.n_all boot_all ?_
      refine pvs_cons ?_ ?_
      · refine pv_of ?_
        refine pd_lcV (own := [("letter", 1)]) (t := (Tg.nm 1)) rfl sc_is_name.nd ?_ ?_ (fun _ _ _ _ _ => ?_) (fun _ _ _ _ _ => ?_) (fun _ _ _ _ _ => ?_) (by decide)
        · refine psrc_str ?_
          refine pf_of ?_
          exact pd_name 0 (pv 0)
        · exact (show BlkOk ["thing", "letter"] (defScope s_is_name) _ _ from ⟨rfl, by decide +kernel, by decide +kernel, by decide +kernel, by decide +kernel⟩)
        · exact pg_name (i := 1) sc_is_name.nd rfl (by first | exact Or.inl rfl | exact Or.inr rfl)
        · exact ptsb_nil
        · refine pf_of ?_
          refine pd_cmp op_inU pr_in ?_ ?_ (by with_unfolding_all rfl)
          · refine pv_of ?_
            exact pd_name 1 (pv 1)
          · refine pv_f ?_
            exact pf_globS T.c_LETTERS rfl
      · exact pvs_nil
theorem sc_is_integer : FnScope ["thing"] ["thing"] (defScope s_is_integer) := ⟨rfl, rfl, rfl, by decide +kernel, rfl, by decide +kernel, by decide +kernel⟩
theorem b_is_integer (T : Tx K mg) : Binds K T.fd_is_integer ["thing"] [] := T.F_is_integer.binds (ps := ["thing"]) fun _ _ _ _ _ _ us hl => match us, hl with | [_], _ => rfl
theorem ok_is_integer (T : Tx K mg) : FnG P w K mg base (L2.CX P w) 1 T.f_is_integer T.fd_is_integer ["thing"] (spD K 1 sem_is_integer) :=
  fnD_of (ps := ["thing"]) (N := ["thing"]) T.F_is_integer sc_is_integer (by decide) fun cdv A outer s H E HR HG => by
    have OX := okx_of (takes_of (X := cxOf (L2.CX P w) P w K mg base ["thing"] "is_integer" (defScope s_is_integer) T.f_is_integer cdv A outer s H E) rfl rfl rfl rfl)
    refine psd_one ?_
    refine psd_ret ?_
    refine pd_and ?_ ?_
    · refine pd_callB call_isi pr_isi rfl T.n_isinstance boot_isinstance ?_
      refine pvs_cons ?_ ?_
      · refine pv_of ?_
        exact pd_name 0 (pv 0)
      · refine pvs_cons ?_ ?_
        · refine pv_f ?_
          exact pf_ty T.n_int rfl boot_int
        · exact pvs_nil
    · refine pd_one ?_
      refine pd_not ?_
      refine pd_callB call_isi pr_isi rfl T.n_isinstance boot_isinstance ?_
      refine pvs_cons ?_ ?_
      · refine pv_of ?_
        exact pd_name 0 (pv 0)
      · refine pvs_cons ?_ ?_
        · refine pv_f ?_
          exact pf_ty T.n_bool rfl boot_bool
        · exact pvs_nil
theorem sc_is_depth : FnScope ["thing"] ["thing"] (defScope s_is_depth) := ⟨rfl, rfl, rfl, by decide +kernel, rfl, by decide +kernel, by decide +kernel⟩
theorem b_is_depth (T : Tx K mg) : Binds K T.fd_is_depth ["thing"] [] := T.F_is_depth.binds (ps := ["thing"]) fun _ _ _ _ _ _ us hl => match us, hl with | [_], _ => rfl
theorem kb_is_depth_thing (T : Tx K mg) : KBd K T.fd_is_depth ["thing"] ["thing"] 0 both2 := kbd_kw fun s us ws X h1 h2 => by
  obtain ⟨oc, od, kV, doc, pm, an, cdv, ct, osl, e, _⟩ := T.F_is_depth.ex
  rw [e]
  exact match us, h1, ws, h2 with | [], _, [_], _ => .of_eq rfl
theorem ok_is_depth (T : Tx K mg) : FnG P w K mg base (L2.CX P w) 2 T.f_is_depth T.fd_is_depth ["thing"] (spD K 1 sem_is_depth) :=
  fnD_of (ps := ["thing"]) (N := ["thing"]) T.F_is_depth sc_is_depth (by decide) fun cdv A outer s H E HR HG => by
    have OX := okx_of (takes_of (X := cxOf (L2.CX P w) P w K mg base ["thing"] "is_depth" (defScope s_is_depth) T.f_is_depth cdv A outer s H E) rfl rfl rfl rfl)
    refine psd_one ?_
    refine psd_ret ?_
    refine pd_callV (ok_is_integer T) rfl (HR.mono (by omega)) HG OX T.m_is_integer T.F_is_integer.kp (kbd_plain (b_is_integer T)) rfl ?_
    refine pvs_cons ?_ ?_
    · refine pv_of ?_
      exact pd_name 0 (pv 0)
    · exact pvs_nil
theorem sc_is_word : FnScope ["_law_item", "_law_sign"] ["_law_item"] (defScope s_is_word) := ⟨rfl, rfl, rfl, by decide +kernel, rfl, by decide +kernel, by decide +kernel⟩
theorem b_is_word (T : Tx K mg) : Binds K T.fd_is_word ["_law_item"] [] := T.F_is_word.binds (ps := ["_law_item"]) fun _ _ _ _ _ _ us hl => match us, hl with | [_], _ => rfl
theorem ok_is_word (T : Tx K mg) : FnG P w K mg base (L2.CX P w) 1 T.f_is_word T.fd_is_word ["_law_item"] (spD K 1 sem_is_word) :=
  fnD_of (ps := ["_law_item"]) (N := ["_law_item", "_law_sign"]) T.F_is_word sc_is_word (by decide) fun cdv A outer s H E HR HG => by
    have OX := okx_of (takes_of (X := cxOf (L2.CX P w) P w K mg base ["_law_item", "_law_sign"] "_law_is_word" (defScope s_is_word) T.f_is_word cdv A outer s H E) rfl rfl rfl rfl)
    refine psd_cons ?_ ?_
    · refine psd_if ?_ ?_ ?_
      · refine PW.pt ?_
        refine pbw_or ?_ ?_
        · refine pb_not ?_
          refine pb_val ?_
          refine pd_callB call_isi pr_isi rfl T.n_isinstance boot_isinstance ?_
          refine pvs_cons ?_ ?_
          · refine pv_of ?_
            exact pd_name 0 (pv 0)
          · refine pvs_cons ?_ ?_
            · refine pv_f ?_
              exact pf_ty T.n_str rfl boot_str
            · exact pvs_nil
        · refine pbw_or ?_ ?_
          · refine pb_cmp (op_eqU HR.units) pr_eq ?_ ?_ (nomark _)
            · refine pv_of ?_
              refine pd_callB call_len pr_len rfl T.n_len PySem.boot_len ?_
              refine pvs_cons ?_ ?_
              · refine pv_of ?_
                exact pd_name 0 (pv 0)
              · exact pvs_nil
            · refine pv_f ?_
              exact pf_int
          · refine pbw_or1 ?_
            refine pb_cmp op_gtU pr_gt ?_ ?_ (nomark _)
            · refine pv_of ?_
              refine pd_callB call_len pr_len rfl T.n_len PySem.boot_len ?_
              refine pvs_cons ?_ ?_
              · refine pv_of ?_
                exact pd_name 0 (pv 0)
              · exact pvs_nil
            · refine pv_f ?_
              exact pf_int
      · refine psd_one ?_
        refine psd_ret ?_
        refine pd_of ?_
        exact pf_bl
      · exact psd_nil
    · refine psd_one ?_
      refine psd_ret ?_
      refine pd_cmp (op_eqU HR.units) pr_eq ?_ ?_ (nomark _)
      · refine pv_of ?_
        refine pd_lcV (own := [("_law_sign", 1)]) (t := (Tg.nm 1)) rfl sc_is_word.nd ?_ ?_ (fun _ _ _ _ _ => ?_) (fun _ _ _ _ _ => ?_) (fun _ _ _ _ _ => ?_) (by decide)
        · refine psrc_str ?_
          refine pf_of ?_
          exact pd_name 0 (pv 0)
        · exact (show BlkOk ["_law_item", "_law_sign"] (defScope s_is_word) _ _ from ⟨rfl, by decide +kernel, by decide +kernel, by decide +kernel, by decide +kernel⟩)
        · exact pg_name (i := 1) sc_is_word.nd rfl (by first | exact Or.inl rfl | exact Or.inr rfl)
        · refine ptsb_one ?_
          refine pb_not ?_
          refine pb_chain op_leU op_leU pr_le pr_le ?_ ?_ ?_
          · refine pv_f ?_
            exact pf_str
          · refine pv_of ?_
            exact pd_name 1 (pv 1)
          · refine pv_f ?_
            exact pf_str
        · refine pf_of ?_
          exact pd_name 1 (pv 1)
      · refine pv_of ?_
        refine pd_lst ?_
        exact pfs_nil
theorem sc_law : FnScope ["_law_script", "_law_pen_here", "_law_turn", "_law_most", "_law_number", "_law_item", "_law_kept", "_law_is_number", "_law_told", "_law_due"] ["_law_script"] (defScope s_law) := ⟨rfl, rfl, rfl, by decide +kernel, rfl, by decide +kernel, by decide +kernel⟩
theorem b_law (T : Tx K mg) : Binds K T.fd_law ["_law_script"] [] := T.F_law.binds (ps := ["_law_script"]) fun _ _ _ _ _ _ us hl => match us, hl with | [_], _ => rfl
theorem ok_law (T : Tx K mg) : FnG P w K mg base (L2.CX P w) 7 T.f_law T.fd_law ["_law_script"] (spD K 1 sem_law) :=
  fnD_of (ps := ["_law_script"]) (N := ["_law_script", "_law_pen_here", "_law_turn", "_law_most", "_law_number", "_law_item", "_law_kept", "_law_is_number", "_law_told", "_law_due"]) T.F_law sc_law (by decide) fun cdv A outer s H E HR HG => by
    have OX := okx_of (takes_of (X := cxOf (L2.CX P w) P w K mg base ["_law_script", "_law_pen_here", "_law_turn", "_law_most", "_law_number", "_law_item", "_law_kept", "_law_is_number", "_law_told", "_law_due"] "law" (defScope s_law) T.f_law cdv A outer s H E) rfl rfl rfl rfl)
    refine psd_cons ?_ ?_
    · refine psd_asg (i := 1) ?_ (pg_name sc_law.nd rfl (by first | exact Or.inl rfl | exact Or.inr rfl))
      refine pd_callV (ok_pen T) rfl (HR.mono (by omega)) HG OX T.m_pen T.F_pen.kp (kbd_plain (b_pen T)) rfl ?_
      refine pvs_cons ?_ ?_
      · refine pv_of ?_
        exact pd_name 0 (pv 0)
      · exact pvs_nil
    · refine psd_cons ?_ ?_
      · refine psd_for (t := (Tg.nm 2)) (passes_of rfl) rfl ?_ ?_ ?_
        · refine psrc_r1 rfl T.n_range ?_
          refine pfs_cons ?_ ?_
          · exact pf_int
          · exact pfs_nil
        · exact pg_name (i := 2) sc_law.nd rfl (by first | exact Or.inl rfl | exact Or.inr rfl)
        · refine psd_cons ?_ ?_
          · refine psd_asg (i := 3) ?_ (pg_name sc_law.nd rfl (by first | exact Or.inl rfl | exact Or.inr rfl))
            refine pd_ix ?_ ?_ (fun _ _ => rfl)
            · refine pv_of ?_
              refine pd_lst ?_
              refine pfs_cons ?_ ?_
              · exact pf_int
              · refine pfs_cons ?_ ?_
                · exact pf_int
                · refine pfs_cons ?_ ?_
                  · refine pf_of ?_
                    refine pd_op op_pow pr_pow ?_ ?_
                    · refine pv_f ?_
                      exact pf_int
                    · refine pv_f ?_
                      exact pf_int
                  · refine pfs_cons ?_ ?_
                    · refine pf_of ?_
                      refine pd_op op_pow pr_pow ?_ ?_
                      · refine pv_f ?_
                        exact pf_int
                      · refine pv_f ?_
                        exact pf_int
                    · refine pfs_cons ?_ ?_
                      · refine pf_of ?_
                        refine pd_op op_pow pr_pow ?_ ?_
                        · refine pv_f ?_
                          exact pf_int
                        · refine pv_f ?_
                          exact pf_int
                      · exact pfs_nil
            · refine pv_of ?_
              refine pd_callV (ok_draw T) rfl (HR.mono (by omega)) HG OX T.m_draw T.F_draw.kp (kbd_plain (b_draw T)) rfl ?_
              refine pvs_cons ?_ ?_
              · refine pv_of ?_
                exact pd_name 1 (pv 1)
              · refine pvs_cons ?_ ?_
                · refine pv_f ?_
                  exact pf_int
                · exact pvs_nil
          · refine psd_cons ?_ ?_
            · refine psd_asg (i := 4) ?_ (pg_name sc_law.nd rfl (by first | exact Or.inl rfl | exact Or.inr rfl))
              refine pd_op op_mulU pr_mul ?_ ?_
              · refine pv_of ?_
                refine pd_callV (ok_draw T) rfl (HR.mono (by omega)) HG OX T.m_draw T.F_draw.kp (kbd_plain (b_draw T)) rfl ?_
                refine pvs_cons ?_ ?_
                · refine pv_of ?_
                  exact pd_name 1 (pv 1)
                · refine pvs_cons ?_ ?_
                  · refine pv_of ?_
                    exact pd_name 3 (pv 3)
                  · exact pvs_nil
              · refine pv_of ?_
                refine pd_ix ?_ ?_ (fun _ _ => rfl)
                · refine pv_of ?_
                  refine pd_lst ?_
                  refine pfs_cons ?_ ?_
                  · exact pf_int
                  · refine pfs_cons ?_ ?_
                    · refine pf_of ?_
                      refine pd_neg ?_
                      refine pv_f ?_
                      exact pf_int
                    · exact pfs_nil
                · refine pv_of ?_
                  refine pd_callV (ok_draw T) rfl (HR.mono (by omega)) HG OX T.m_draw T.F_draw.kp (kbd_plain (b_draw T)) rfl ?_
                  refine pvs_cons ?_ ?_
                  · refine pv_of ?_
                    exact pd_name 1 (pv 1)
                  · refine pvs_cons ?_ ?_
                    · refine pv_f ?_
                      exact pf_int
                    · exact pvs_nil
            · refine psd_one ?_
              refine psd_for (t := (Tg.nm 5)) (passes_of rfl) rfl ?_ ?_ ?_
              · refine psrc_list ?_
                refine pf_of ?_
                refine pd_lst ?_
                refine pfs_cons ?_ ?_
                · refine pf_of ?_
                  refine pd_callV (ok_word T) rfl (HR.mono (by omega)) HG OX T.m_word T.F_word.kp (kbd_plain (b_word T)) rfl ?_
                  refine pvs_cons ?_ ?_
                  · refine pv_of ?_
                    exact pd_name 1 (pv 1)
                  · exact pvs_nil
                · refine pfs_cons ?_ ?_
                  · refine pf_of ?_
                    exact pd_name 4 (pv 4)
                  · refine pfs_cons ?_ ?_
                    · refine pf_of ?_
                      refine pd_callTy call_str_int pr_str rfl T.n_str boot_str ?_
                      refine pvs_cons ?_ ?_
                      · refine pv_of ?_
                        exact pd_name 4 (pv 4)
                      · exact pvs_nil
                    · refine pfs_cons ?_ ?_
                      · refine pf_of ?_
                        refine pd_callV (ok_any T 4) rfl (HR.mono (by omega)) HG OX T.m_any T.F_any.kp (kbd_plain (b_any T)) rfl ?_
                        refine pvs_cons ?_ ?_
                        · refine pv_of ?_
                          exact pd_name 1 (pv 1)
                        · refine pvs_cons ?_ ?_
                          · refine pv_f ?_
                            exact pf_int
                          · exact pvs_nil
                      · refine pfs_cons ?_ ?_
                        · refine pf_of ?_
                          refine pd_lst ?_
                          refine pfs_cons ?_ ?_
                          · refine pf_of ?_
                            refine pd_callV (ok_word T) rfl (HR.mono (by omega)) HG OX T.m_word T.F_word.kp (kbd_plain (b_word T)) rfl ?_
                            refine pvs_cons ?_ ?_
                            · refine pv_of ?_
                              exact pd_name 1 (pv 1)
                            · exact pvs_nil
                          · exact pfs_nil
                        · exact pfs_nil
              · exact pg_name (i := 5) sc_law.nd rfl (by first | exact Or.inl rfl | exact Or.inr rfl)
              · refine psd_cons ?_ ?_
                · refine psd_asg (i := 6) ?_ (pg_name sc_law.nd rfl (by first | exact Or.inl rfl | exact Or.inr rfl))
                  refine pd_callB (call_reprD HG HR.units) pr_repr rfl T.n_repr boot_repr ?_
                  refine pvs_cons ?_ ?_
                  · refine pv_of ?_
                    exact pd_name 5 (pv 5)
                  · exact pvs_nil
                · refine psd_cons ?_ ?_
                  · refine psd_asg (i := 7) ?_ (pg_name sc_law.nd rfl (by first | exact Or.inl rfl | exact Or.inr rfl))
                    refine pd_and ?_ ?_
                    · refine pd_callB call_isi pr_isi rfl T.n_isinstance boot_isinstance ?_
                      refine pvs_cons ?_ ?_
                      · refine pv_of ?_
                        exact pd_name 5 (pv 5)
                      · refine pvs_cons ?_ ?_
                        · refine pv_f ?_
                          exact pf_ty T.n_int rfl boot_int
                        · exact pvs_nil
                    · refine pd_one ?_
                      refine pd_not ?_
                      refine pd_callB call_isi pr_isi rfl T.n_isinstance boot_isinstance ?_
                      refine pvs_cons ?_ ?_
                      · refine pv_of ?_
                        exact pd_name 5 (pv 5)
                      · refine pvs_cons ?_ ?_
                        · refine pv_f ?_
                          exact pf_ty T.n_bool rfl boot_bool
                        · exact pvs_nil
                  · refine psd_cons ?_ ?_
                    · refine psd_asg (i := 8) ?_ (pg_name sc_law.nd rfl (by first | exact Or.inl rfl | exact Or.inr rfl))
                      refine pd_lst ?_
                      refine pfs_cons ?_ ?_
                      · refine pf_of ?_
                        refine pd_callV (ok_is_name T) rfl (HR.mono (by omega)) HG OX T.m_is_name T.F_is_name.kp (kbd_plain (b_is_name T)) rfl ?_
                        refine pvs_cons ?_ ?_
                        · refine pv_of ?_
                          exact pd_name 5 (pv 5)
                        · exact pvs_nil
                      · refine pfs_cons ?_ ?_
                        · refine pf_of ?_
                          refine pd_callK0V (ok_is_name T) rfl (HR.mono (by omega)) HG OX T.m_is_name T.F_is_name.kp (kb_is_name_thing T) rfl rfl ?_
                          refine pks_cons ?_ ?_
                          · refine pv_of ?_
                            exact pd_name 5 (pv 5)
                          · exact pks_nil
                        · refine pfs_cons ?_ ?_
                          · refine pf_of ?_
                            refine pd_callV (ok_is_depth T) rfl (HR.mono (by omega)) HG OX T.m_is_depth T.F_is_depth.kp (kbd_plain (b_is_depth T)) rfl ?_
                            refine pvs_cons ?_ ?_
                            · refine pv_of ?_
                              exact pd_name 5 (pv 5)
                            · exact pvs_nil
                          · refine pfs_cons ?_ ?_
                            · refine pf_of ?_
                              refine pd_callK0V (ok_is_depth T) rfl (HR.mono (by omega)) HG OX T.m_is_depth T.F_is_depth.kp (kb_is_depth_thing T) rfl rfl ?_
                              refine pks_cons ?_ ?_
                              · refine pv_of ?_
                                exact pd_name 5 (pv 5)
                              · exact pks_nil
                            · exact pfs_nil
                    · refine psd_cons ?_ ?_
                      · refine psd_asg (i := 9) ?_ (pg_name sc_law.nd rfl (by first | exact Or.inl rfl | exact Or.inr rfl))
                        refine pd_op op_addU pr_add ?_ ?_
                        · refine pv_of ?_
                          refine pd_op op_mulU pr_mul ?_ ?_
                          · refine pv_of ?_
                            refine pd_lst ?_
                            refine pfs_cons ?_ ?_
                            · refine pf_of ?_
                              refine pd_callV (ok_is_word T) rfl (HR.mono (by omega)) HG OX T.m_is_word T.F_is_word.kp (kbd_plain (b_is_word T)) rfl ?_
                              refine pvs_cons ?_ ?_
                              · refine pv_of ?_
                                exact pd_name 5 (pv 5)
                              · exact pvs_nil
                            · exact pfs_nil
                          · refine pv_f ?_
                            exact pf_int
                        · refine pv_of ?_
                          refine pd_op op_mulU pr_mul ?_ ?_
                          · refine pv_of ?_
                            refine pd_lst ?_
                            refine pfs_cons ?_ ?_
                            · refine pf_of ?_
                              exact pd_name 7 (pv 7)
                            · exact pfs_nil
                          · refine pv_f ?_
                            exact pf_int
                      · refine psd_one ?_
                        refine psd_if ?_ ?_ ?_
                        · refine PW.pt ?_
                          refine pbw_or ?_ ?_
                          · refine pb_cmp (op_neU HR.units) pr_ne ?_ ?_ (nomark _)
                            · refine pv_of ?_
                              refine pd_callB (call_reprD HG HR.units) pr_repr rfl T.n_repr boot_repr ?_
                              refine pvs_cons ?_ ?_
                              · refine pv_of ?_
                                exact pd_name 8 (pv 8)
                              · exact pvs_nil
                            · refine pv_of ?_
                              refine pd_callB (call_reprD HG HR.units) pr_repr rfl T.n_repr boot_repr ?_
                              refine pvs_cons ?_ ?_
                              · refine pv_of ?_
                                exact pd_name 9 (pv 9)
                              · exact pvs_nil
                          · refine pbw_or1 ?_
                            refine pb_cmp (op_neU HR.units) pr_ne ?_ ?_ (nomark _)
                            · refine pv_of ?_
                              refine pd_callB (call_reprD HG HR.units) pr_repr rfl T.n_repr boot_repr ?_
                              refine pvs_cons ?_ ?_
                              · refine pv_of ?_
                                exact pd_name 5 (pv 5)
                              · exact pvs_nil
                            · refine pv_of ?_
                              exact pd_name 6 (pv 6)
                        · refine psd_one ?_
                          refine psd_ret ?_
                          refine pd_of ?_
                          exact pf_bl
                        · exact psd_nil
      · refine psd_one ?_
        refine psd_ret ?_
        refine pd_of ?_
        exact pf_bl
end
end K01

set_option Elab.async false
set_option linter.all false
set_option maxRecDepth 100000
set_option maxHeartbeats 1000000
namespace K01
open PySem PySem.Spec PyProof.Rows L2 DL

/-- a pen, with at most n draws made -/
structure Pen (n : Int) (p : D) : Prop where
  ex : ∃ (cs : List Int) (at_ rest turn : Int), p = .lst [.lst (cs.map .int), .int at_, .int rest, .int turn] ∧ cs.length ≤ 63 ∧ 0 ≤ at_ ∧ at_ ≤ n ∧ 0 ≤ turn ∧ turn ≤ n
theorem draw_ok {n many : Int} {p : D} {Q : RV → Dl → Prop} (h : Pen n p) (hn : n ≤ 100000) (h0 : 0 < many) (h1 : many.natAbs.log2 < 9000)
    (hQ : ∀ r p', 0 ≤ r → r < many → Pen (n + 1) p' → Q (.frz (.int r)) [some ⟨p', .lent⟩, none]) : CW (sem_draw [some ⟨p, .lent⟩, some ⟨.int many, .frz⟩]) Q := by
  obtain ⟨cs, at_, rest, turn, rfl, hl, a0, a1, t0, t1⟩ := h.ex
  clear h
  unfold sem_draw
  rw [cw_semOf]
  show SW (d_draw [some ⟨_, .lent⟩, some ⟨_, .frz⟩, none, none, none, none, none]) _
  unfold d_draw
  by_cases hr : 0 < rest
  · simp (disch := (first | (simp only [decide_eq_true_eq, decide_eq_false_iff_not, Bool.not_eq_true]; first | assumption | omega) | assumption | omega | decide)) only [↓ew_pure, ↓ew_bind, ↓ew_map, ↓ev_name, ↓nameQ_s, ↓nameQ_f, ↓nameQ_o, ↓nameQ_l, ↓slotQ_s, ↓slotQ_z, ↓ownQ_s, ↓ownQ_o, ↓ownQ_l, ↓upQ_s, ↓upQ_z, ↓ew_argF, ↓ew_argS, ↓ew_argO, ↓ew_frzF, ↓ew_frzO, ↓ev_frzS, ↓ew_peekF, ↓ew_peekS, ↓sw_seq, ↓sv_asg, ↓sv_ret, ↓sv_expr, ↓sv_st, ↓sv_if, ↓sv_for, ↓sv_setF, ↓sv_setO, ↓sv_setS, ↓sw_retF, ↓sw_retO, ↓sv_retS, ↓retU_s, ↓retU_o, ↓retU_l, ↓sw_nx, ↓sv_store, ↓lsQ_s, ↓lsQ_z, ↓st_1, ↓st_2, ↓st_3, ↓atQ_some, ↓at_0, ↓at_1, ↓at_2, ↓at_3, ↓ev_d2, ↓ev_frz, ↓ev_consF, ↓ev_cons, ↓ev_lst, ↓ev_tup, ↓ev_dC, ↓ev_peeks0, ↓ev_peeks1, ↓ev_toBm, ↓ew_toB, ↓ev_not, ↓ev_and, ↓ev_or, ↓ev_andV, ↓ev_orV, ↓ev_notV, ↓ev_negV, ↓ev_ifE, ↓ev_chain, ↓ev_R1, ↓ev_R2, ↓ev_srcR1, ↓ev_sl, ↓ev_some, ↓ev_toI, ↓g_ixl, ↓g_ixt, ↓g_ixs, ↓g_addi, ↓g_adds, ↓g_addl, ↓g_sub, ↓k_mul, ↓g_mull, ↓k_div, ↓k_mod, ↓k_pow, ↓g_lt, ↓g_le, ↓g_gt, ↓g_ge, ↓g_les, ↓g_neg, ↓g_lenl, ↓g_lent, ↓g_lenr, ↓g_lens, ↓g_abs, ↓g_inti, ↓g_intb, ↓g_stri, ↓g_listl, ↓g_listt, ↓g_tupl, ↓g_all, ↓g_isi, ↓g_repr, ↓g_slr, ↓g_sll, ↓g_sls, ↓ch_t, ↓ch_f, ↓ch_tt, ↓ch_ff, ↓and_t]
    exact hQ _ _ (Int.emod_nonneg _ (by omega)) (Int.emod_lt_of_pos _ h0) ⟨cs, at_, rest / many, turn + 1, rfl, hl, a0, by omega, by omega, by omega⟩
  · have hsq : 0 ≤ 52361 * (turn + 1) * (turn + 1) ∧ 52361 * (turn + 1) * (turn + 1) ≤ 100000000000000000 := by
      have e1 : 0 ≤ (turn + 1) * (turn + 1) := Int.mul_nonneg (by omega) (by omega)
      have e2 : (turn + 1) * (turn + 1) ≤ 100001 * 100001 := Int.mul_le_mul (by omega) (by omega) (by omega) (by omega)
      rw [Int.mul_assoc]
      omega
    have fin : ∀ (x : Int), Q (.frz (.int (x % many))) [some ⟨.lst [.lst (cs.map .int), .int (at_ + 1), .int rest, .int (turn + 1)], .lent⟩, none] := fun x =>
      hQ _ _ (Int.emod_nonneg _ (by omega)) (Int.emod_lt_of_pos _ h0) ⟨cs, at_ + 1, rest, turn + 1, rfl, hl, by omega, by omega, by omega, by omega⟩
    by_cases he : cs = []
    · subst he
      have hE : eqD (.lst (List.map D.int [])) (.lst []) = some true := eqD_ints
      have hat : ¬ at_ < ((List.map D.int []).length : Int) := by simp; omega
      simp (disch := (first | (simp only [decide_eq_true_eq, decide_eq_false_iff_not, Bool.not_eq_true]; first | assumption | omega) | assumption | omega | decide)) only [↓ew_pure, ↓ew_bind, ↓ew_map, ↓ev_name, ↓nameQ_s, ↓nameQ_f, ↓nameQ_o, ↓nameQ_l, ↓slotQ_s, ↓slotQ_z, ↓ownQ_s, ↓ownQ_o, ↓ownQ_l, ↓upQ_s, ↓upQ_z, ↓ew_argF, ↓ew_argS, ↓ew_argO, ↓ew_frzF, ↓ew_frzO, ↓ev_frzS, ↓ew_peekF, ↓ew_peekS, ↓sw_seq, ↓sv_asg, ↓sv_ret, ↓sv_expr, ↓sv_st, ↓sv_if, ↓sv_for, ↓sv_setF, ↓sv_setO, ↓sv_setS, ↓sw_retF, ↓sw_retO, ↓sv_retS, ↓retU_s, ↓retU_o, ↓retU_l, ↓sw_nx, ↓sv_store, ↓lsQ_s, ↓lsQ_z, ↓st_1, ↓st_2, ↓st_3, ↓atQ_some, ↓at_0, ↓at_1, ↓at_2, ↓at_3, ↓ev_d2, ↓ev_frz, ↓ev_consF, ↓ev_cons, ↓ev_lst, ↓ev_tup, ↓ev_dC, ↓ev_peeks0, ↓ev_peeks1, ↓ev_toBm, ↓ew_toB, ↓ev_not, ↓ev_and, ↓ev_or, ↓ev_andV, ↓ev_orV, ↓ev_notV, ↓ev_negV, ↓ev_ifE, ↓ev_chain, ↓ev_R1, ↓ev_R2, ↓ev_srcR1, ↓ev_sl, ↓ev_some, ↓ev_toI, ↓g_ixl, ↓g_ixt, ↓g_ixs, ↓g_addi, ↓g_adds, ↓g_addl, ↓g_sub, ↓k_mul, ↓g_mull, ↓k_div, ↓k_mod, ↓k_pow, ↓g_lt, ↓g_le, ↓g_gt, ↓g_ge, ↓g_les, ↓g_neg, ↓g_lenl, ↓g_lent, ↓g_lenr, ↓g_lens, ↓g_abs, ↓g_inti, ↓g_intb, ↓g_stri, ↓g_listl, ↓g_listt, ↓g_tupl, ↓g_all, ↓g_isi, ↓g_repr, ↓g_slr, ↓g_sll, ↓g_sls, ↓ch_t, ↓ch_f, ↓ch_tt, ↓ch_ff, ↓and_t, ↓k_ne hE]
      exact fin _
    · have hE : eqD (.lst (List.map D.int cs)) (.lst []) = some false := by rw [eqD_ints]; cases cs <;> first | rfl | exact absurd rfl he
      have hL : 0 < ((List.map D.int cs).length : Int) := by rw [List.length_map]; have := List.length_pos_iff.mpr he; omega
      obtain ⟨d, hm, hA⟩ := atI_of (l := List.map D.int cs) (Int.emod_nonneg at_ (by omega)) (Int.emod_lt_of_pos at_ hL)
      obtain ⟨c, _, rfl⟩ := List.mem_map.mp hm
      by_cases hat : at_ < ((List.map D.int cs).length : Int)
      · by_cases hb : 10 ^ Int.toNat 18 ≤ if c < 0 then -c else c
        · simp (disch := (first | (simp only [decide_eq_true_eq, decide_eq_false_iff_not, Bool.not_eq_true]; first | assumption | omega) | assumption | omega | decide)) only [↓ew_pure, ↓ew_bind, ↓ew_map, ↓ev_name, ↓nameQ_s, ↓nameQ_f, ↓nameQ_o, ↓nameQ_l, ↓slotQ_s, ↓slotQ_z, ↓ownQ_s, ↓ownQ_o, ↓ownQ_l, ↓upQ_s, ↓upQ_z, ↓ew_argF, ↓ew_argS, ↓ew_argO, ↓ew_frzF, ↓ew_frzO, ↓ev_frzS, ↓ew_peekF, ↓ew_peekS, ↓sw_seq, ↓sv_asg, ↓sv_ret, ↓sv_expr, ↓sv_st, ↓sv_if, ↓sv_for, ↓sv_setF, ↓sv_setO, ↓sv_setS, ↓sw_retF, ↓sw_retO, ↓sv_retS, ↓retU_s, ↓retU_o, ↓retU_l, ↓sw_nx, ↓sv_store, ↓lsQ_s, ↓lsQ_z, ↓st_1, ↓st_2, ↓st_3, ↓atQ_some, ↓at_0, ↓at_1, ↓at_2, ↓at_3, ↓ev_d2, ↓ev_frz, ↓ev_consF, ↓ev_cons, ↓ev_lst, ↓ev_tup, ↓ev_dC, ↓ev_peeks0, ↓ev_peeks1, ↓ev_toBm, ↓ew_toB, ↓ev_not, ↓ev_and, ↓ev_or, ↓ev_andV, ↓ev_orV, ↓ev_notV, ↓ev_negV, ↓ev_ifE, ↓ev_chain, ↓ev_R1, ↓ev_R2, ↓ev_srcR1, ↓ev_sl, ↓ev_some, ↓ev_toI, ↓g_ixl, ↓g_ixt, ↓g_ixs, ↓g_addi, ↓g_adds, ↓g_addl, ↓g_sub, ↓k_mul, ↓g_mull, ↓k_div, ↓k_mod, ↓k_pow, ↓g_lt, ↓g_le, ↓g_gt, ↓g_ge, ↓g_les, ↓g_neg, ↓g_lenl, ↓g_lent, ↓g_lenr, ↓g_lens, ↓g_abs, ↓g_inti, ↓g_intb, ↓g_stri, ↓g_listl, ↓g_listt, ↓g_tupl, ↓g_all, ↓g_isi, ↓g_repr, ↓g_slr, ↓g_sll, ↓g_sls, ↓ch_t, ↓ch_f, ↓ch_tt, ↓ch_ff, ↓and_t, ↓k_ne hE, ↓k_at hA]
          exact hQ _ _ (Int.emod_nonneg _ (by omega)) (Int.emod_lt_of_pos _ h0) ⟨cs, at_ + 1, _, turn + 1, rfl, hl, by omega, by omega, by omega, by omega⟩
        · simp (disch := (first | (simp only [decide_eq_true_eq, decide_eq_false_iff_not, Bool.not_eq_true]; first | assumption | omega) | assumption | omega | decide)) only [↓ew_pure, ↓ew_bind, ↓ew_map, ↓ev_name, ↓nameQ_s, ↓nameQ_f, ↓nameQ_o, ↓nameQ_l, ↓slotQ_s, ↓slotQ_z, ↓ownQ_s, ↓ownQ_o, ↓ownQ_l, ↓upQ_s, ↓upQ_z, ↓ew_argF, ↓ew_argS, ↓ew_argO, ↓ew_frzF, ↓ew_frzO, ↓ev_frzS, ↓ew_peekF, ↓ew_peekS, ↓sw_seq, ↓sv_asg, ↓sv_ret, ↓sv_expr, ↓sv_st, ↓sv_if, ↓sv_for, ↓sv_setF, ↓sv_setO, ↓sv_setS, ↓sw_retF, ↓sw_retO, ↓sv_retS, ↓retU_s, ↓retU_o, ↓retU_l, ↓sw_nx, ↓sv_store, ↓lsQ_s, ↓lsQ_z, ↓st_1, ↓st_2, ↓st_3, ↓atQ_some, ↓at_0, ↓at_1, ↓at_2, ↓at_3, ↓ev_d2, ↓ev_frz, ↓ev_consF, ↓ev_cons, ↓ev_lst, ↓ev_tup, ↓ev_dC, ↓ev_peeks0, ↓ev_peeks1, ↓ev_toBm, ↓ew_toB, ↓ev_not, ↓ev_and, ↓ev_or, ↓ev_andV, ↓ev_orV, ↓ev_notV, ↓ev_negV, ↓ev_ifE, ↓ev_chain, ↓ev_R1, ↓ev_R2, ↓ev_srcR1, ↓ev_sl, ↓ev_some, ↓ev_toI, ↓g_ixl, ↓g_ixt, ↓g_ixs, ↓g_addi, ↓g_adds, ↓g_addl, ↓g_sub, ↓k_mul, ↓g_mull, ↓k_div, ↓k_mod, ↓k_pow, ↓g_lt, ↓g_le, ↓g_gt, ↓g_ge, ↓g_les, ↓g_neg, ↓g_lenl, ↓g_lent, ↓g_lenr, ↓g_lens, ↓g_abs, ↓g_inti, ↓g_intb, ↓g_stri, ↓g_listl, ↓g_listt, ↓g_tupl, ↓g_all, ↓g_isi, ↓g_repr, ↓g_slr, ↓g_sll, ↓g_sls, ↓ch_t, ↓ch_f, ↓ch_tt, ↓ch_ff, ↓and_t, ↓k_ne hE, ↓k_at hA]
          exact fin _
      · simp (disch := (first | (simp only [decide_eq_true_eq, decide_eq_false_iff_not, Bool.not_eq_true]; first | assumption | omega) | assumption | omega | decide)) only [↓ew_pure, ↓ew_bind, ↓ew_map, ↓ev_name, ↓nameQ_s, ↓nameQ_f, ↓nameQ_o, ↓nameQ_l, ↓slotQ_s, ↓slotQ_z, ↓ownQ_s, ↓ownQ_o, ↓ownQ_l, ↓upQ_s, ↓upQ_z, ↓ew_argF, ↓ew_argS, ↓ew_argO, ↓ew_frzF, ↓ew_frzO, ↓ev_frzS, ↓ew_peekF, ↓ew_peekS, ↓sw_seq, ↓sv_asg, ↓sv_ret, ↓sv_expr, ↓sv_st, ↓sv_if, ↓sv_for, ↓sv_setF, ↓sv_setO, ↓sv_setS, ↓sw_retF, ↓sw_retO, ↓sv_retS, ↓retU_s, ↓retU_o, ↓retU_l, ↓sw_nx, ↓sv_store, ↓lsQ_s, ↓lsQ_z, ↓st_1, ↓st_2, ↓st_3, ↓atQ_some, ↓at_0, ↓at_1, ↓at_2, ↓at_3, ↓ev_d2, ↓ev_frz, ↓ev_consF, ↓ev_cons, ↓ev_lst, ↓ev_tup, ↓ev_dC, ↓ev_peeks0, ↓ev_peeks1, ↓ev_toBm, ↓ew_toB, ↓ev_not, ↓ev_and, ↓ev_or, ↓ev_andV, ↓ev_orV, ↓ev_notV, ↓ev_negV, ↓ev_ifE, ↓ev_chain, ↓ev_R1, ↓ev_R2, ↓ev_srcR1, ↓ev_sl, ↓ev_some, ↓ev_toI, ↓g_ixl, ↓g_ixt, ↓g_ixs, ↓g_addi, ↓g_adds, ↓g_addl, ↓g_sub, ↓k_mul, ↓g_mull, ↓k_div, ↓k_mod, ↓k_pow, ↓g_lt, ↓g_le, ↓g_gt, ↓g_ge, ↓g_les, ↓g_neg, ↓g_lenl, ↓g_lent, ↓g_lenr, ↓g_lens, ↓g_abs, ↓g_inti, ↓g_intb, ↓g_stri, ↓g_listl, ↓g_listt, ↓g_tupl, ↓g_all, ↓g_isi, ↓g_repr, ↓g_slr, ↓g_sll, ↓g_sls, ↓ch_t, ↓ch_f, ↓ch_tt, ↓ch_ff, ↓and_t, ↓k_ne hE, ↓k_at hA]
        exact fin _
end K01

set_option Elab.async false
set_option linter.all false
set_option maxRecDepth 100000
set_option maxHeartbeats 1000000
namespace K01
open PySem PySem.Spec PyProof.Rows L2 DL

theorem Pen.mono {n m : Int} {p : D} (h : Pen n p) (hm : n ≤ m) : Pen m p := by
  obtain ⟨cs, a, b, c, e, h1, h2, h3, h4, h5⟩ := h.ex
  exact ⟨cs, a, b, c, e, h1, h2, by omega, h4, by omega⟩
/-- a draw in an expression -/
theorem draw_ev {i : Nat} {δ : Dl} {p : D} {k : Ow} {n many : Int} {Q : RV → Dl → Prop} (hs : δ[i]? = some (some ⟨p, k⟩)) (hk : k ≠ .frz) (hp : Pen n p) (hn : n ≤ 100000) (h0 : 0 < many) (h1 : many.natAbs.log2 < 9000)
    (hQ : ∀ r p', 0 ≤ r → r < many → Pen (n + 1) p' → upQ δ i (some ⟨p', k⟩) (Q (.frz (.int r)))) : clQ 2 0 2 sem_draw plain2 [.slot i, .frz (.int many)] [] δ Q := by
  refine cl_of (cs := [some ⟨p, .lent⟩, some ⟨.int many, .frz⟩]) (kk := [k, .frz]) ⟨rfl, rfl, rfl⟩ ?_ (by simp [slotsOf]) (draw_ok hp hn h0 h1 fun r p' r0 r1 hp' => ?_)
  · show argsOf δ [.slot i, .frz (.int many)] = _
    cases k with
    | frz => exact absurd rfl hk
    | own => simp [argsOf, hs]
    | lent => simp [argsOf, hs]
  · exact hQ r p' r0 r1 hp'
theorem pen_ok {ns : List Int} {Q : RV → Dl → Prop} (hl : ns.length ≤ 63) (hQ : ∀ p, Pen 0 p → Q (.own p) [none]) : CW (sem_pen [some ⟨.ro (ns.map .int), .frz⟩]) Q := by
  unfold sem_pen
  rw [cw_semOf]
  show SW (d_pen [some ⟨_, .frz⟩]) _
  unfold d_pen
  simp (disch := (first | (simp only [decide_eq_true_eq, decide_eq_false_iff_not, Bool.not_eq_true]; first | assumption | omega) | assumption | omega | decide | (simp only [List.length_cons, List.length_nil, DL.sz]; omega))) only [↓ew_pure, ↓ew_bind, ↓ew_map, ↓ev_name, ↓nameQ_s, ↓nameQ_f, ↓nameQ_o, ↓nameQ_l, ↓slotQ_s, ↓slotQ_z, ↓ownQ_s, ↓ownQ_o, ↓ownQ_l, ↓upQ_s, ↓upQ_z, ↓ew_argF, ↓ew_argS, ↓ew_argO, ↓ew_frzF, ↓ew_frzO, ↓ev_frzS, ↓ew_peekF, ↓ew_peekS, ↓sw_seq, ↓sv_asg, ↓sv_ret, ↓sv_expr, ↓sv_st, ↓sv_if, ↓sv_for, ↓sv_setF, ↓sv_setO, ↓sv_setS, ↓sw_retF, ↓sw_retO, ↓sv_retS, ↓retU_s, ↓retU_o, ↓retU_l, ↓sw_nx, ↓sv_store, ↓lsQ_s, ↓lsQ_z, ↓st_1, ↓st_2, ↓st_3, ↓atQ_some, ↓at_0, ↓at_1, ↓at_2, ↓at_3, ↓ev_d2, ↓ev_frz, ↓ev_consF, ↓ev_cons, ↓ev_lst, ↓ev_tup, ↓ev_dC, ↓ev_peeks0, ↓ev_peeks1, ↓ev_toBm, ↓ew_toB, ↓ev_not, ↓ev_and, ↓ev_or, ↓ev_andV, ↓ev_orV, ↓ev_notV, ↓ev_negV, ↓ev_ifE, ↓ev_chain, ↓ev_R1, ↓ev_R2, ↓ev_srcR1, ↓ev_sl, ↓g_eqi, ↓g_eqs, ↓g_nei, ↓g_nes, ↓ev_call, ↓ev_lc, ↓tg_nm, ↓gd_s, ↓gd_z, ↓bk_0, ↓bk_1, ↓ev_some, ↓ev_toI, ↓g_ixl, ↓g_ixt, ↓g_ixs, ↓g_addi, ↓g_adds, ↓g_addl, ↓g_sub, ↓k_mul, ↓g_mull, ↓k_div, ↓k_mod, ↓k_pow, ↓g_lt, ↓g_le, ↓g_gt, ↓g_ge, ↓g_les, ↓g_neg, ↓g_lenl, ↓g_lent, ↓g_lenr, ↓g_lens, ↓g_abs, ↓g_inti, ↓g_intb, ↓g_stri, ↓g_listl, ↓g_listt, ↓g_tupl, ↓g_all, ↓g_isi, ↓g_repr, ↓g_slr, ↓g_sll, ↓g_sls, ↓ch_t, ↓ch_f, ↓ch_tt, ↓ch_ff, ↓and_t]
  refine hQ _ ⟨⟨((ns.drop (HT.sIx (ns.map D.int).length 0 none)).take (HT.sIx (ns.map D.int).length (ns.map D.int).length (some 63) - HT.sIx (ns.map D.int).length 0 none)), 0, 0, 0, ?_, ?_, by omega, by omega, by omega, by omega⟩⟩
  · unfold cutL
    rw [List.map_take, List.map_drop]
  · rw [List.length_take, List.length_drop]
    omega
/-! ### words -/
theorem lg {i : Int} (h0 : 0 ≤ i) (h : i < 100) : i.natAbs.log2 < 9000 := by
  have := log2_lt (k := 200) (by decide) (show i.natAbs < 2 ^ 200 by omega)
  omega
structure WordS (z : Str) : Prop where
  lo : ∀ c ∈ z.cps.toList, c < 200
  len : z.cps.toList.length ≤ 40
theorem toList_app (a b : Str) : (a ++ b).cps.toList = a.cps.toList ++ b.cps.toList := by
  show (a.cps ++ b.cps).toList = _
  simp
theorem join_signs (cs : List Nat) : (Txt.join (Str.ofString "") (cs.map fun c => (⟨#[c]⟩ : Str))).cps.toList = cs := by
  rw [TL.join_eq]
  induction cs with
  | nil => rfl
  | cons c cs ih =>
    cases cs with
    | nil => rfl
    | cons c2 cs =>
      show ((⟨#[c]⟩ : Str) ++ Str.ofString "" ++ Str.join (Str.ofString "") ((c2 :: cs).map fun c => (⟨#[c]⟩ : Str))).cps.toList = _
      rw [toList_app, toList_app, ih]
      rfl
theorem txts_signs : ∀ cs : List Nat, txts (cs.map fun c => D.str ⟨#[c]⟩) = some (cs.map fun c => (⟨#[c]⟩ : Str))
  | [] => rfl
  | c :: cs => by
    rw [List.map_cons, txts, txts_signs cs]
    rfl
theorem ev_joinC {δ : Dl} {Q : RV → Dl → Prop} (s : Str) (m : DM AV) : EW (dJoin ((pure (.str s) : DM D) >>= fun d => (pure (AV.frz d) : DM AV)) m δ) Q = EW (m δ) fun b δ3 => EW (peek b δ3) fun e δ4 => match e with | .lst ds => EW (joinK s ds δ4) Q | .tup ds => EW (joinK s ds δ4) Q | _ => False := by
  rw [ev_join, ew_bind]
  rfl
theorem join_signs_ev {δ : Dl} {Q : RV → Dl → Prop} {cs : List Nat} (hl : cs.length ≤ 100) (q : ∀ z : Str, z.cps.toList = cs → Q (.frz (.str z)) δ) : EW (joinK (Str.ofString "") (cs.map fun c => D.str ⟨#[c]⟩) δ) Q := by
  unfold joinK
  rw [txts_signs, ew_some, ew_guard, decide_eq_true_eq]
  refine ⟨?_, q _ (join_signs cs)⟩
  have : ((cs.map fun c => (⟨#[c]⟩ : Str)).map fun x => x.length).sum = cs.length := by
    clear q hl
    induction cs with
    | nil => rfl
    | cons c cs ih =>
      rw [List.map_cons, List.map_cons, List.sum_cons, ih, List.length_cons]
      show 1 + _ = _
      omega
  rw [this]
  show cs.length + _ * 0 ≤ _
  omega
theorem len_of (z : Str) : z.length = z.cps.toList.length := by
  show z.cps.size = _
  simp
theorem letters_at {r : Int} (h0 : 0 ≤ r) (h1 : r < 26) : ∃ c, L2.atI (Str.ofString "abcdefghijklmnopqrstuvwxyz").cps.toList r = some c ∧ c < 200 := by
  have hall : ∀ c ∈ (Str.ofString "abcdefghijklmnopqrstuvwxyz").cps.toList, c < 200 := by decide +kernel
  have hlen : (Str.ofString "abcdefghijklmnopqrstuvwxyz").cps.toList.length = 26 := by decide +kernel
  obtain ⟨c, hc, e⟩ := atI_of (l := (Str.ofString "abcdefghijklmnopqrstuvwxyz").cps.toList) h0 (by omega)
  exact ⟨c, e, hall c hc⟩
theorem word_ok {n : Int} {p : D} {Q : RV → Dl → Prop} (h : Pen n p) (hn : n ≤ 90000) (hn0 : 0 ≤ n) (hQ : ∀ z p', WordS z → Pen (n + 20) p' → Q (.frz (.str z)) [some ⟨p', .lent⟩]) : CW (sem_word [some ⟨p, .lent⟩]) Q := by
  unfold sem_word
  rw [cw_semOf]
  show SW (d_word [some ⟨_, .lent⟩, none, none, none, none, none]) _
  have hQ' : ∀ z p' (l : Dl), WordS z → Pen (n + 20) p' → Q (.frz (.str z)) (cut 1 (some ⟨p', .lent⟩ :: l)) := fun z p' l h1 h2 => hQ z p' h1 h2
  generalize hP : Po.mk (fun δ => Q (.frz .non) (cut 1 δ)) (fun r δ => Q r (cut 1 δ)) (fun _ => False) (fun _ => False) = P
  have hR : ∀ z p' (l : Dl), WordS z → Pen (n + 20) p' → P.rt (.frz (.str z)) (some ⟨p', .lent⟩ :: l) := by subst hP; exact hQ'
  clear hP hQ' hQ
  unfold d_word
  refine sw_step fun N hN => ?_
  simp (disch := (first | (simp only [decide_eq_true_eq, decide_eq_false_iff_not, Bool.not_eq_true]; first | assumption | omega) | assumption | omega | decide | (simp only [List.length_cons, List.length_nil, DL.sz]; omega))) only [↓ew_pure, ↓ew_bind, ↓ew_map, ↓ev_name, ↓nameQ_s, ↓nameQ_f, ↓nameQ_o, ↓nameQ_l, ↓slotQ_s, ↓slotQ_z, ↓ownQ_s, ↓ownQ_o, ↓ownQ_l, ↓upQ_s, ↓upQ_z, ↓ew_argF, ↓ew_argS, ↓ew_argO, ↓ew_frzF, ↓ew_frzO, ↓ev_frzS, ↓ew_peekF, ↓ew_peekS, ↓sw_seq, ↓sv_asg, ↓sv_ret, ↓sv_expr, ↓sv_st, ↓sv_if, ↓sv_for, ↓sv_setF, ↓sv_setO, ↓sv_setS, ↓sw_retF, ↓sw_retO, ↓sv_retS, ↓retU_s, ↓retU_o, ↓retU_l, ↓sw_nx, ↓sv_store, ↓lsQ_s, ↓lsQ_z, ↓st_1, ↓st_2, ↓st_3, ↓atQ_some, ↓at_0, ↓at_1, ↓at_2, ↓at_3, ↓ev_d2, ↓ev_frz, ↓ev_consF, ↓ev_cons, ↓ev_lst, ↓ev_tup, ↓ev_dC, ↓ev_peeks0, ↓ev_peeks1, ↓ev_toBm, ↓ew_toB, ↓ev_not, ↓ev_and, ↓ev_or, ↓ev_andV, ↓ev_orV, ↓ev_notV, ↓ev_negV, ↓ev_ifE, ↓ev_chain, ↓ev_R1, ↓ev_R2, ↓ev_srcR1, ↓ev_sl, ↓g_eqi, ↓g_eqs, ↓g_nei, ↓g_nes, ↓ev_call, ↓ev_lc, ↓tg_nm, ↓gd_s, ↓gd_z, ↓bk_0, ↓bk_1, ↓ev_some, ↓ev_toI, ↓g_ixl, ↓g_ixt, ↓g_ixs, ↓g_addi, ↓g_adds, ↓g_addl, ↓g_sub, ↓k_mul, ↓g_mull, ↓k_div, ↓k_mod, ↓k_pow, ↓g_lt, ↓g_le, ↓g_gt, ↓g_ge, ↓g_les, ↓g_neg, ↓g_lenl, ↓g_lent, ↓g_lenr, ↓g_lens, ↓g_abs, ↓g_inti, ↓g_intb, ↓g_stri, ↓g_listl, ↓g_listt, ↓g_tupl, ↓g_all, ↓g_isi, ↓g_repr, ↓g_slr, ↓g_sll, ↓g_sls, ↓ch_t, ↓ch_f, ↓ch_tt, ↓ch_ff, ↓and_t]
  refine hN _ ?_
  clear hN N
  refine sw_step fun N hN => ?_
  simp (disch := (first | (simp only [decide_eq_true_eq, decide_eq_false_iff_not, Bool.not_eq_true]; first | assumption | omega) | assumption | omega | decide | (simp only [List.length_cons, List.length_nil, DL.sz]; omega))) only [↓ew_pure, ↓ew_bind, ↓ew_map, ↓ev_name, ↓nameQ_s, ↓nameQ_f, ↓nameQ_o, ↓nameQ_l, ↓slotQ_s, ↓slotQ_z, ↓ownQ_s, ↓ownQ_o, ↓ownQ_l, ↓upQ_s, ↓upQ_z, ↓ew_argF, ↓ew_argS, ↓ew_argO, ↓ew_frzF, ↓ew_frzO, ↓ev_frzS, ↓ew_peekF, ↓ew_peekS, ↓sw_seq, ↓sv_asg, ↓sv_ret, ↓sv_expr, ↓sv_st, ↓sv_if, ↓sv_for, ↓sv_setF, ↓sv_setO, ↓sv_setS, ↓sw_retF, ↓sw_retO, ↓sv_retS, ↓retU_s, ↓retU_o, ↓retU_l, ↓sw_nx, ↓sv_store, ↓lsQ_s, ↓lsQ_z, ↓st_1, ↓st_2, ↓st_3, ↓atQ_some, ↓at_0, ↓at_1, ↓at_2, ↓at_3, ↓ev_d2, ↓ev_frz, ↓ev_consF, ↓ev_cons, ↓ev_lst, ↓ev_tup, ↓ev_dC, ↓ev_peeks0, ↓ev_peeks1, ↓ev_toBm, ↓ew_toB, ↓ev_not, ↓ev_and, ↓ev_or, ↓ev_andV, ↓ev_orV, ↓ev_notV, ↓ev_negV, ↓ev_ifE, ↓ev_chain, ↓ev_R1, ↓ev_R2, ↓ev_srcR1, ↓ev_sl, ↓g_eqi, ↓g_eqs, ↓g_nei, ↓g_nes, ↓ev_call, ↓ev_lc, ↓tg_nm, ↓gd_s, ↓gd_z, ↓bk_0, ↓bk_1, ↓ev_some, ↓ev_toI, ↓g_ixl, ↓g_ixt, ↓g_ixs, ↓g_addi, ↓g_adds, ↓g_addl, ↓g_sub, ↓k_mul, ↓g_mull, ↓k_div, ↓k_mod, ↓k_pow, ↓g_lt, ↓g_le, ↓g_gt, ↓g_ge, ↓g_les, ↓g_neg, ↓g_lenl, ↓g_lent, ↓g_lenr, ↓g_lens, ↓g_abs, ↓g_inti, ↓g_intb, ↓g_stri, ↓g_listl, ↓g_listt, ↓g_tupl, ↓g_all, ↓g_isi, ↓g_repr, ↓g_slr, ↓g_sll, ↓g_sls, ↓ch_t, ↓ch_f, ↓ch_tt, ↓ch_ff, ↓and_t, ↓ev_joinC]
  refine draw_ev rfl (by decide) h (by omega) (by decide) (by decide) fun r1 p1 a0 a1 hp1 => ?_
  simp (disch := (first | (simp only [decide_eq_true_eq, decide_eq_false_iff_not, Bool.not_eq_true]; first | assumption | omega) | assumption | omega | decide | (simp only [List.length_cons, List.length_nil, DL.sz]; omega))) only [↓ew_pure, ↓ew_bind, ↓ew_map, ↓ev_name, ↓nameQ_s, ↓nameQ_f, ↓nameQ_o, ↓nameQ_l, ↓slotQ_s, ↓slotQ_z, ↓ownQ_s, ↓ownQ_o, ↓ownQ_l, ↓upQ_s, ↓upQ_z, ↓ew_argF, ↓ew_argS, ↓ew_argO, ↓ew_frzF, ↓ew_frzO, ↓ev_frzS, ↓ew_peekF, ↓ew_peekS, ↓sw_seq, ↓sv_asg, ↓sv_ret, ↓sv_expr, ↓sv_st, ↓sv_if, ↓sv_for, ↓sv_setF, ↓sv_setO, ↓sv_setS, ↓sw_retF, ↓sw_retO, ↓sv_retS, ↓retU_s, ↓retU_o, ↓retU_l, ↓sw_nx, ↓sv_store, ↓lsQ_s, ↓lsQ_z, ↓st_1, ↓st_2, ↓st_3, ↓atQ_some, ↓at_0, ↓at_1, ↓at_2, ↓at_3, ↓ev_d2, ↓ev_frz, ↓ev_consF, ↓ev_cons, ↓ev_lst, ↓ev_tup, ↓ev_dC, ↓ev_peeks0, ↓ev_peeks1, ↓ev_toBm, ↓ew_toB, ↓ev_not, ↓ev_and, ↓ev_or, ↓ev_andV, ↓ev_orV, ↓ev_notV, ↓ev_negV, ↓ev_ifE, ↓ev_chain, ↓ev_R1, ↓ev_R2, ↓ev_srcR1, ↓ev_sl, ↓g_eqi, ↓g_eqs, ↓g_nei, ↓g_nes, ↓ev_call, ↓ev_lc, ↓tg_nm, ↓gd_s, ↓gd_z, ↓bk_0, ↓bk_1, ↓ev_some, ↓ev_toI, ↓g_ixl, ↓g_ixt, ↓g_ixs, ↓g_addi, ↓g_adds, ↓g_addl, ↓g_sub, ↓k_mul, ↓g_mull, ↓k_div, ↓k_mod, ↓k_pow, ↓g_lt, ↓g_le, ↓g_gt, ↓g_ge, ↓g_les, ↓g_neg, ↓g_lenl, ↓g_lent, ↓g_lenr, ↓g_lens, ↓g_abs, ↓g_inti, ↓g_intb, ↓g_stri, ↓g_listl, ↓g_listt, ↓g_tupl, ↓g_all, ↓g_isi, ↓g_repr, ↓g_slr, ↓g_sll, ↓g_sls, ↓ch_t, ↓ch_f, ↓ch_tt, ↓ch_ff, ↓and_t]
  refine draw_ev rfl (by decide) hp1 (by omega) (by decide) (by decide) fun r2 p2 b0 b1 hp2 => ?_
  obtain ⟨d, hm, e⟩ := atI_of (l := [D.int 1, D.int 8, D.int 9, D.int 0, D.int r1]) b0 (by simp; omega)
  obtain ⟨m, rfl, m0, m1⟩ : ∃ m, d = D.int m ∧ 0 ≤ m ∧ m ≤ 10 := by
    simp only [List.mem_cons, List.not_mem_nil, or_false] at hm
    rcases hm with h | h | h | h | h <;> exact ⟨_, h, by omega, by omega⟩
  simp (disch := (first | (simp only [decide_eq_true_eq, decide_eq_false_iff_not, Bool.not_eq_true]; first | assumption | omega) | assumption | omega | decide | (simp only [List.length_cons, List.length_nil, DL.sz]; omega))) only [↓ew_pure, ↓ew_bind, ↓ew_map, ↓ev_name, ↓nameQ_s, ↓nameQ_f, ↓nameQ_o, ↓nameQ_l, ↓slotQ_s, ↓slotQ_z, ↓ownQ_s, ↓ownQ_o, ↓ownQ_l, ↓upQ_s, ↓upQ_z, ↓ew_argF, ↓ew_argS, ↓ew_argO, ↓ew_frzF, ↓ew_frzO, ↓ev_frzS, ↓ew_peekF, ↓ew_peekS, ↓sw_seq, ↓sv_asg, ↓sv_ret, ↓sv_expr, ↓sv_st, ↓sv_if, ↓sv_for, ↓sv_setF, ↓sv_setO, ↓sv_setS, ↓sw_retF, ↓sw_retO, ↓sv_retS, ↓retU_s, ↓retU_o, ↓retU_l, ↓sw_nx, ↓sv_store, ↓lsQ_s, ↓lsQ_z, ↓st_1, ↓st_2, ↓st_3, ↓atQ_some, ↓at_0, ↓at_1, ↓at_2, ↓at_3, ↓ev_d2, ↓ev_frz, ↓ev_consF, ↓ev_cons, ↓ev_lst, ↓ev_tup, ↓ev_dC, ↓ev_peeks0, ↓ev_peeks1, ↓ev_toBm, ↓ew_toB, ↓ev_not, ↓ev_and, ↓ev_or, ↓ev_andV, ↓ev_orV, ↓ev_notV, ↓ev_negV, ↓ev_ifE, ↓ev_chain, ↓ev_R1, ↓ev_R2, ↓ev_srcR1, ↓ev_sl, ↓g_eqi, ↓g_eqs, ↓g_nei, ↓g_nes, ↓ev_call, ↓ev_lc, ↓tg_nm, ↓gd_s, ↓gd_z, ↓bk_0, ↓bk_1, ↓ev_some, ↓ev_toI, ↓g_ixl, ↓g_ixt, ↓g_ixs, ↓g_addi, ↓g_adds, ↓g_addl, ↓g_sub, ↓k_mul, ↓g_mull, ↓k_div, ↓k_mod, ↓k_pow, ↓g_lt, ↓g_le, ↓g_gt, ↓g_ge, ↓g_les, ↓g_neg, ↓g_lenl, ↓g_lent, ↓g_lenr, ↓g_lens, ↓g_abs, ↓g_inti, ↓g_intb, ↓g_stri, ↓g_listl, ↓g_listt, ↓g_tupl, ↓g_all, ↓g_isi, ↓g_repr, ↓g_slr, ↓g_sll, ↓g_sls, ↓ch_t, ↓ch_f, ↓ch_tt, ↓ch_ff, ↓and_t, ↓k_at e]
  have hz : (Str.ofString "abcdefghijklmnopqrstuvwxyz").length ≤ sizeLine := by decide +kernel
  refine lc_of (S := D) (L := fun s => [some ⟨s, .lent⟩, some ⟨.str "abcdefghijklmnopqrstuvwxyz", .frz⟩, none, none, none, none]) (J := fun i acc s => Pen (n + 2 + i) s ∧ ∃ cs : List Nat, acc = cs.map (fun c => D.str ⟨#[c]⟩) ∧ cs.length = i ∧ ∀ c ∈ cs, c < 200) p2 rfl ⟨hp2.mono (by omega), [], rfl, rfl, by simp⟩ (wipeD_idem _ _) (fun i d acc s hd hJ => ?_) (fun acc s hJ => ?_)
  · obtain ⟨hp, cs, rfl, hc, hlo⟩ := hJ
    have hi : i < m.toNat := by
      have := (List.getElem?_eq_some_iff.mp hd).1
      unfold rangeD at this
      rw [List.length_map, List.length_range] at this
      exact this
    simp (disch := (first | (simp only [decide_eq_true_eq, decide_eq_false_iff_not, Bool.not_eq_true]; first | assumption | omega) | assumption | omega | decide | (simp only [List.length_cons, List.length_nil, DL.sz]; omega))) only [↓ew_pure, ↓ew_bind, ↓ew_map, ↓ev_name, ↓nameQ_s, ↓nameQ_f, ↓nameQ_o, ↓nameQ_l, ↓slotQ_s, ↓slotQ_z, ↓ownQ_s, ↓ownQ_o, ↓ownQ_l, ↓upQ_s, ↓upQ_z, ↓ew_argF, ↓ew_argS, ↓ew_argO, ↓ew_frzF, ↓ew_frzO, ↓ev_frzS, ↓ew_peekF, ↓ew_peekS, ↓sw_seq, ↓sv_asg, ↓sv_ret, ↓sv_expr, ↓sv_st, ↓sv_if, ↓sv_for, ↓sv_setF, ↓sv_setO, ↓sv_setS, ↓sw_retF, ↓sw_retO, ↓sv_retS, ↓retU_s, ↓retU_o, ↓retU_l, ↓sw_nx, ↓sv_store, ↓lsQ_s, ↓lsQ_z, ↓st_1, ↓st_2, ↓st_3, ↓atQ_some, ↓at_0, ↓at_1, ↓at_2, ↓at_3, ↓ev_d2, ↓ev_frz, ↓ev_consF, ↓ev_cons, ↓ev_lst, ↓ev_tup, ↓ev_dC, ↓ev_peeks0, ↓ev_peeks1, ↓ev_toBm, ↓ew_toB, ↓ev_not, ↓ev_and, ↓ev_or, ↓ev_andV, ↓ev_orV, ↓ev_notV, ↓ev_negV, ↓ev_ifE, ↓ev_chain, ↓ev_R1, ↓ev_R2, ↓ev_srcR1, ↓ev_sl, ↓g_eqi, ↓g_eqs, ↓g_nei, ↓g_nes, ↓ev_call, ↓ev_lc, ↓tg_nm, ↓gd_s, ↓gd_z, ↓bk_0, ↓bk_1, ↓ev_some, ↓ev_toI, ↓g_ixl, ↓g_ixt, ↓g_ixs, ↓g_addi, ↓g_adds, ↓g_addl, ↓g_sub, ↓k_mul, ↓g_mull, ↓k_div, ↓k_mod, ↓k_pow, ↓g_lt, ↓g_le, ↓g_gt, ↓g_ge, ↓g_les, ↓g_neg, ↓g_lenl, ↓g_lent, ↓g_lenr, ↓g_lens, ↓g_abs, ↓g_inti, ↓g_intb, ↓g_stri, ↓g_listl, ↓g_listt, ↓g_tupl, ↓g_all, ↓g_isi, ↓g_repr, ↓g_slr, ↓g_sll, ↓g_sls, ↓ch_t, ↓ch_f, ↓ch_tt, ↓ch_ff, ↓and_t]
    refine draw_ev rfl (by decide) hp (by omega) (by decide) (by decide) fun r3 p3 c0 c1 hp3 => ?_
    obtain ⟨c, e3, hc3⟩ := letters_at c0 c1
    simp (disch := (first | (simp only [decide_eq_true_eq, decide_eq_false_iff_not, Bool.not_eq_true]; first | assumption | omega) | assumption | omega | decide | (simp only [List.length_cons, List.length_nil, DL.sz]; omega))) only [↓ew_pure, ↓ew_bind, ↓ew_map, ↓ev_name, ↓nameQ_s, ↓nameQ_f, ↓nameQ_o, ↓nameQ_l, ↓slotQ_s, ↓slotQ_z, ↓ownQ_s, ↓ownQ_o, ↓ownQ_l, ↓upQ_s, ↓upQ_z, ↓ew_argF, ↓ew_argS, ↓ew_argO, ↓ew_frzF, ↓ew_frzO, ↓ev_frzS, ↓ew_peekF, ↓ew_peekS, ↓sw_seq, ↓sv_asg, ↓sv_ret, ↓sv_expr, ↓sv_st, ↓sv_if, ↓sv_for, ↓sv_setF, ↓sv_setO, ↓sv_setS, ↓sw_retF, ↓sw_retO, ↓sv_retS, ↓retU_s, ↓retU_o, ↓retU_l, ↓sw_nx, ↓sv_store, ↓lsQ_s, ↓lsQ_z, ↓st_1, ↓st_2, ↓st_3, ↓atQ_some, ↓at_0, ↓at_1, ↓at_2, ↓at_3, ↓ev_d2, ↓ev_frz, ↓ev_consF, ↓ev_cons, ↓ev_lst, ↓ev_tup, ↓ev_dC, ↓ev_peeks0, ↓ev_peeks1, ↓ev_toBm, ↓ew_toB, ↓ev_not, ↓ev_and, ↓ev_or, ↓ev_andV, ↓ev_orV, ↓ev_notV, ↓ev_negV, ↓ev_ifE, ↓ev_chain, ↓ev_R1, ↓ev_R2, ↓ev_srcR1, ↓ev_sl, ↓g_eqi, ↓g_eqs, ↓g_nei, ↓g_nes, ↓ev_call, ↓ev_lc, ↓tg_nm, ↓gd_s, ↓gd_z, ↓bk_0, ↓bk_1, ↓ev_some, ↓ev_toI, ↓g_ixl, ↓g_ixt, ↓g_ixs, ↓g_addi, ↓g_adds, ↓g_addl, ↓g_sub, ↓k_mul, ↓g_mull, ↓k_div, ↓k_mod, ↓k_pow, ↓g_lt, ↓g_le, ↓g_gt, ↓g_ge, ↓g_les, ↓g_neg, ↓g_lenl, ↓g_lent, ↓g_lenr, ↓g_lens, ↓g_abs, ↓g_inti, ↓g_intb, ↓g_stri, ↓g_listl, ↓g_listt, ↓g_tupl, ↓g_all, ↓g_isi, ↓g_repr, ↓g_slr, ↓g_sll, ↓g_sls, ↓ch_t, ↓ch_f, ↓ch_tt, ↓ch_ff, ↓and_t, ↓k_at e3]
    refine ⟨by rw [List.length_map, sz]; omega, p3, rfl, hp3.mono (by omega), cs ++ [c], by rw [List.map_append]; rfl, by rw [List.length_append, hc]; rfl, fun x hx => ?_⟩
    rcases List.mem_append.mp hx with hx | hx
    · exact hlo x hx
    · rw [List.mem_singleton.mp hx]; exact hc3
  · obtain ⟨hp, cs, rfl, hc, hlo⟩ := hJ
    have hl : (rangeD 0 m.toNat).length = m.toNat := by unfold rangeD; rw [List.length_map, List.length_range]
    rw [hl] at hc hp
    simp (disch := (first | (simp only [decide_eq_true_eq, decide_eq_false_iff_not, Bool.not_eq_true]; first | assumption | omega) | assumption | omega | decide | (simp only [List.length_cons, List.length_nil, DL.sz]; omega))) only [↓ew_pure, ↓ew_bind, ↓ew_map, ↓ev_name, ↓nameQ_s, ↓nameQ_f, ↓nameQ_o, ↓nameQ_l, ↓slotQ_s, ↓slotQ_z, ↓ownQ_s, ↓ownQ_o, ↓ownQ_l, ↓upQ_s, ↓upQ_z, ↓ew_argF, ↓ew_argS, ↓ew_argO, ↓ew_frzF, ↓ew_frzO, ↓ev_frzS, ↓ew_peekF, ↓ew_peekS, ↓sw_seq, ↓sv_asg, ↓sv_ret, ↓sv_expr, ↓sv_st, ↓sv_if, ↓sv_for, ↓sv_setF, ↓sv_setO, ↓sv_setS, ↓sw_retF, ↓sw_retO, ↓sv_retS, ↓retU_s, ↓retU_o, ↓retU_l, ↓sw_nx, ↓sv_store, ↓lsQ_s, ↓lsQ_z, ↓st_1, ↓st_2, ↓st_3, ↓atQ_some, ↓at_0, ↓at_1, ↓at_2, ↓at_3, ↓ev_d2, ↓ev_frz, ↓ev_consF, ↓ev_cons, ↓ev_lst, ↓ev_tup, ↓ev_dC, ↓ev_peeks0, ↓ev_peeks1, ↓ev_toBm, ↓ew_toB, ↓ev_not, ↓ev_and, ↓ev_or, ↓ev_andV, ↓ev_orV, ↓ev_notV, ↓ev_negV, ↓ev_ifE, ↓ev_chain, ↓ev_R1, ↓ev_R2, ↓ev_srcR1, ↓ev_sl, ↓g_eqi, ↓g_eqs, ↓g_nei, ↓g_nes, ↓ev_call, ↓ev_lc, ↓tg_nm, ↓gd_s, ↓gd_z, ↓bk_0, ↓bk_1, ↓ev_some, ↓ev_toI, ↓g_ixl, ↓g_ixt, ↓g_ixs, ↓g_addi, ↓g_adds, ↓g_addl, ↓g_sub, ↓k_mul, ↓g_mull, ↓k_div, ↓k_mod, ↓k_pow, ↓g_lt, ↓g_le, ↓g_gt, ↓g_ge, ↓g_les, ↓g_neg, ↓g_lenl, ↓g_lent, ↓g_lenr, ↓g_lens, ↓g_abs, ↓g_inti, ↓g_intb, ↓g_stri, ↓g_listl, ↓g_listt, ↓g_tupl, ↓g_all, ↓g_isi, ↓g_repr, ↓g_slr, ↓g_sll, ↓g_sls, ↓ch_t, ↓ch_f, ↓ch_tt, ↓ch_ff, ↓and_t]
    refine join_signs_ev (by omega) fun z hz2 => ?_
    simp (disch := (first | (simp only [decide_eq_true_eq, decide_eq_false_iff_not, Bool.not_eq_true]; first | assumption | omega) | assumption | omega | decide | (simp only [List.length_cons, List.length_nil, DL.sz]; omega))) only [↓ew_pure, ↓ew_bind, ↓ew_map, ↓ev_name, ↓nameQ_s, ↓nameQ_f, ↓nameQ_o, ↓nameQ_l, ↓slotQ_s, ↓slotQ_z, ↓ownQ_s, ↓ownQ_o, ↓ownQ_l, ↓upQ_s, ↓upQ_z, ↓ew_argF, ↓ew_argS, ↓ew_argO, ↓ew_frzF, ↓ew_frzO, ↓ev_frzS, ↓ew_peekF, ↓ew_peekS, ↓sw_seq, ↓sv_asg, ↓sv_ret, ↓sv_expr, ↓sv_st, ↓sv_if, ↓sv_for, ↓sv_setF, ↓sv_setO, ↓sv_setS, ↓sw_retF, ↓sw_retO, ↓sv_retS, ↓retU_s, ↓retU_o, ↓retU_l, ↓sw_nx, ↓sv_store, ↓lsQ_s, ↓lsQ_z, ↓st_1, ↓st_2, ↓st_3, ↓atQ_some, ↓at_0, ↓at_1, ↓at_2, ↓at_3, ↓ev_d2, ↓ev_frz, ↓ev_consF, ↓ev_cons, ↓ev_lst, ↓ev_tup, ↓ev_dC, ↓ev_peeks0, ↓ev_peeks1, ↓ev_toBm, ↓ew_toB, ↓ev_not, ↓ev_and, ↓ev_or, ↓ev_andV, ↓ev_orV, ↓ev_notV, ↓ev_negV, ↓ev_ifE, ↓ev_chain, ↓ev_R1, ↓ev_R2, ↓ev_srcR1, ↓ev_sl, ↓g_eqi, ↓g_eqs, ↓g_nei, ↓g_nes, ↓ev_call, ↓ev_lc, ↓tg_nm, ↓gd_s, ↓gd_z, ↓bk_0, ↓bk_1, ↓ev_some, ↓ev_toI, ↓g_ixl, ↓g_ixt, ↓g_ixs, ↓g_addi, ↓g_adds, ↓g_addl, ↓g_sub, ↓k_mul, ↓g_mull, ↓k_div, ↓k_mod, ↓k_pow, ↓g_lt, ↓g_le, ↓g_gt, ↓g_ge, ↓g_les, ↓g_neg, ↓g_lenl, ↓g_lent, ↓g_lenr, ↓g_lens, ↓g_abs, ↓g_inti, ↓g_intb, ↓g_stri, ↓g_listl, ↓g_listt, ↓g_tupl, ↓g_all, ↓g_isi, ↓g_repr, ↓g_slr, ↓g_sll, ↓g_sls, ↓ch_t, ↓ch_f, ↓ch_tt, ↓ch_ff, ↓and_t]
    refine hN _ ?_
    clear hN N e hm
    have hp : Pen (n + 12) s := hp.mono (by omega)
    have hlz : z.cps.toList.length ≤ 10 := by rw [hz2]; omega
    have hloz : ∀ c ∈ z.cps.toList, c < 200 := by rw [hz2]; exact hlo
    clear hz2 hl hc hlo
    refine sw_step fun N hN => ?_
    simp (disch := (first | (simp only [decide_eq_true_eq, decide_eq_false_iff_not, Bool.not_eq_true]; first | assumption | omega) | assumption | omega | decide | (simp only [List.length_cons, List.length_nil, DL.sz]; omega))) only [↓ew_pure, ↓ew_bind, ↓ew_map, ↓ev_name, ↓nameQ_s, ↓nameQ_f, ↓nameQ_o, ↓nameQ_l, ↓slotQ_s, ↓slotQ_z, ↓ownQ_s, ↓ownQ_o, ↓ownQ_l, ↓upQ_s, ↓upQ_z, ↓ew_argF, ↓ew_argS, ↓ew_argO, ↓ew_frzF, ↓ew_frzO, ↓ev_frzS, ↓ew_peekF, ↓ew_peekS, ↓sw_seq, ↓sv_asg, ↓sv_ret, ↓sv_expr, ↓sv_st, ↓sv_if, ↓sv_for, ↓sv_setF, ↓sv_setO, ↓sv_setS, ↓sw_retF, ↓sw_retO, ↓sv_retS, ↓retU_s, ↓retU_o, ↓retU_l, ↓sw_nx, ↓sv_store, ↓lsQ_s, ↓lsQ_z, ↓st_1, ↓st_2, ↓st_3, ↓atQ_some, ↓at_0, ↓at_1, ↓at_2, ↓at_3, ↓ev_d2, ↓ev_frz, ↓ev_consF, ↓ev_cons, ↓ev_lst, ↓ev_tup, ↓ev_dC, ↓ev_peeks0, ↓ev_peeks1, ↓ev_toBm, ↓ew_toB, ↓ev_not, ↓ev_and, ↓ev_or, ↓ev_andV, ↓ev_orV, ↓ev_notV, ↓ev_negV, ↓ev_ifE, ↓ev_chain, ↓ev_R1, ↓ev_R2, ↓ev_srcR1, ↓ev_sl, ↓g_eqi, ↓g_eqs, ↓g_nei, ↓g_nes, ↓ev_call, ↓ev_lc, ↓tg_nm, ↓gd_s, ↓gd_z, ↓bk_0, ↓bk_1, ↓ev_some, ↓ev_toI, ↓g_ixl, ↓g_ixt, ↓g_ixs, ↓g_addi, ↓g_adds, ↓g_addl, ↓g_sub, ↓k_mul, ↓g_mull, ↓k_div, ↓k_mod, ↓k_pow, ↓g_lt, ↓g_le, ↓g_gt, ↓g_ge, ↓g_les, ↓g_neg, ↓g_lenl, ↓g_lent, ↓g_lenr, ↓g_lens, ↓g_abs, ↓g_inti, ↓g_intb, ↓g_stri, ↓g_listl, ↓g_listt, ↓g_tupl, ↓g_all, ↓g_isi, ↓g_repr, ↓g_slr, ↓g_sll, ↓g_sls, ↓ch_t, ↓ch_f, ↓ch_tt, ↓ch_ff, ↓and_t]
    refine draw_ev rfl (by decide) hp (by omega) (by decide) (by decide) fun r4 p4 d0 d1 hp4 => ?_
    simp (disch := (first | (simp only [decide_eq_true_eq, decide_eq_false_iff_not, Bool.not_eq_true]; first | assumption | omega) | assumption | omega | decide | (simp only [List.length_cons, List.length_nil, DL.sz]; omega))) only [↓ew_pure, ↓ew_bind, ↓ew_map, ↓ev_name, ↓nameQ_s, ↓nameQ_f, ↓nameQ_o, ↓nameQ_l, ↓slotQ_s, ↓slotQ_z, ↓ownQ_s, ↓ownQ_o, ↓ownQ_l, ↓upQ_s, ↓upQ_z, ↓ew_argF, ↓ew_argS, ↓ew_argO, ↓ew_frzF, ↓ew_frzO, ↓ev_frzS, ↓ew_peekF, ↓ew_peekS, ↓sw_seq, ↓sv_asg, ↓sv_ret, ↓sv_expr, ↓sv_st, ↓sv_if, ↓sv_for, ↓sv_setF, ↓sv_setO, ↓sv_setS, ↓sw_retF, ↓sw_retO, ↓sv_retS, ↓retU_s, ↓retU_o, ↓retU_l, ↓sw_nx, ↓sv_store, ↓lsQ_s, ↓lsQ_z, ↓st_1, ↓st_2, ↓st_3, ↓atQ_some, ↓at_0, ↓at_1, ↓at_2, ↓at_3, ↓ev_d2, ↓ev_frz, ↓ev_consF, ↓ev_cons, ↓ev_lst, ↓ev_tup, ↓ev_dC, ↓ev_peeks0, ↓ev_peeks1, ↓ev_toBm, ↓ew_toB, ↓ev_not, ↓ev_and, ↓ev_or, ↓ev_andV, ↓ev_orV, ↓ev_notV, ↓ev_negV, ↓ev_ifE, ↓ev_chain, ↓ev_R1, ↓ev_R2, ↓ev_srcR1, ↓ev_sl, ↓g_eqi, ↓g_eqs, ↓g_nei, ↓g_nes, ↓ev_call, ↓ev_lc, ↓tg_nm, ↓gd_s, ↓gd_z, ↓bk_0, ↓bk_1, ↓ev_some, ↓ev_toI, ↓g_ixl, ↓g_ixt, ↓g_ixs, ↓g_addi, ↓g_adds, ↓g_addl, ↓g_sub, ↓k_mul, ↓g_mull, ↓k_div, ↓k_mod, ↓k_pow, ↓g_lt, ↓g_le, ↓g_gt, ↓g_ge, ↓g_les, ↓g_neg, ↓g_lenl, ↓g_lent, ↓g_lenr, ↓g_lens, ↓g_abs, ↓g_inti, ↓g_intb, ↓g_stri, ↓g_listl, ↓g_listt, ↓g_tupl, ↓g_all, ↓g_isi, ↓g_repr, ↓g_slr, ↓g_sll, ↓g_sls, ↓ch_t, ↓ch_f, ↓ch_tt, ↓ch_ff, ↓and_t]
    refine ch_of (fun hb => ?_) (fun hb => ?_)
    · try (simp (disch := (first | (simp only [decide_eq_true_eq, decide_eq_false_iff_not, Bool.not_eq_true]; first | assumption | omega) | assumption | omega | decide | (simp only [List.length_cons, List.length_nil, DL.sz]; omega))) only [↓ew_pure, ↓ew_bind, ↓ew_map, ↓ev_name, ↓nameQ_s, ↓nameQ_f, ↓nameQ_o, ↓nameQ_l, ↓slotQ_s, ↓slotQ_z, ↓ownQ_s, ↓ownQ_o, ↓ownQ_l, ↓upQ_s, ↓upQ_z, ↓ew_argF, ↓ew_argS, ↓ew_argO, ↓ew_frzF, ↓ew_frzO, ↓ev_frzS, ↓ew_peekF, ↓ew_peekS, ↓sw_seq, ↓sv_asg, ↓sv_ret, ↓sv_expr, ↓sv_st, ↓sv_if, ↓sv_for, ↓sv_setF, ↓sv_setO, ↓sv_setS, ↓sw_retF, ↓sw_retO, ↓sv_retS, ↓retU_s, ↓retU_o, ↓retU_l, ↓sw_nx, ↓sv_store, ↓lsQ_s, ↓lsQ_z, ↓st_1, ↓st_2, ↓st_3, ↓atQ_some, ↓at_0, ↓at_1, ↓at_2, ↓at_3, ↓ev_d2, ↓ev_frz, ↓ev_consF, ↓ev_cons, ↓ev_lst, ↓ev_tup, ↓ev_dC, ↓ev_peeks0, ↓ev_peeks1, ↓ev_toBm, ↓ew_toB, ↓ev_not, ↓ev_and, ↓ev_or, ↓ev_andV, ↓ev_orV, ↓ev_notV, ↓ev_negV, ↓ev_ifE, ↓ev_chain, ↓ev_R1, ↓ev_R2, ↓ev_srcR1, ↓ev_sl, ↓g_eqi, ↓g_eqs, ↓g_nei, ↓g_nes, ↓ev_call, ↓ev_lc, ↓tg_nm, ↓gd_s, ↓gd_z, ↓bk_0, ↓bk_1, ↓ev_some, ↓ev_toI, ↓g_ixl, ↓g_ixt, ↓g_ixs, ↓g_addi, ↓g_adds, ↓g_addl, ↓g_sub, ↓k_mul, ↓g_mull, ↓k_div, ↓k_mod, ↓k_pow, ↓g_lt, ↓g_le, ↓g_gt, ↓g_ge, ↓g_les, ↓g_neg, ↓g_lenl, ↓g_lent, ↓g_lenr, ↓g_lens, ↓g_abs, ↓g_inti, ↓g_intb, ↓g_stri, ↓g_listl, ↓g_listt, ↓g_tupl, ↓g_all, ↓g_isi, ↓g_repr, ↓g_slr, ↓g_sll, ↓g_sls, ↓ch_t, ↓ch_f, ↓ch_tt, ↓ch_ff, ↓and_t])
      exact hR _ _ _ ⟨hloz, by omega⟩ (hp4.mono (by omega))
    · try (simp (disch := (first | (simp only [decide_eq_true_eq, decide_eq_false_iff_not, Bool.not_eq_true]; first | assumption | omega) | assumption | omega | decide | (simp only [List.length_cons, List.length_nil, DL.sz]; omega))) only [↓ew_pure, ↓ew_bind, ↓ew_map, ↓ev_name, ↓nameQ_s, ↓nameQ_f, ↓nameQ_o, ↓nameQ_l, ↓slotQ_s, ↓slotQ_z, ↓ownQ_s, ↓ownQ_o, ↓ownQ_l, ↓upQ_s, ↓upQ_z, ↓ew_argF, ↓ew_argS, ↓ew_argO, ↓ew_frzF, ↓ew_frzO, ↓ev_frzS, ↓ew_peekF, ↓ew_peekS, ↓sw_seq, ↓sv_asg, ↓sv_ret, ↓sv_expr, ↓sv_st, ↓sv_if, ↓sv_for, ↓sv_setF, ↓sv_setO, ↓sv_setS, ↓sw_retF, ↓sw_retO, ↓sv_retS, ↓retU_s, ↓retU_o, ↓retU_l, ↓sw_nx, ↓sv_store, ↓lsQ_s, ↓lsQ_z, ↓st_1, ↓st_2, ↓st_3, ↓atQ_some, ↓at_0, ↓at_1, ↓at_2, ↓at_3, ↓ev_d2, ↓ev_frz, ↓ev_consF, ↓ev_cons, ↓ev_lst, ↓ev_tup, ↓ev_dC, ↓ev_peeks0, ↓ev_peeks1, ↓ev_toBm, ↓ew_toB, ↓ev_not, ↓ev_and, ↓ev_or, ↓ev_andV, ↓ev_orV, ↓ev_notV, ↓ev_negV, ↓ev_ifE, ↓ev_chain, ↓ev_R1, ↓ev_R2, ↓ev_srcR1, ↓ev_sl, ↓g_eqi, ↓g_eqs, ↓g_nei, ↓g_nes, ↓ev_call, ↓ev_lc, ↓tg_nm, ↓gd_s, ↓gd_z, ↓bk_0, ↓bk_1, ↓ev_some, ↓ev_toI, ↓g_ixl, ↓g_ixt, ↓g_ixs, ↓g_addi, ↓g_adds, ↓g_addl, ↓g_sub, ↓k_mul, ↓g_mull, ↓k_div, ↓k_mod, ↓k_pow, ↓g_lt, ↓g_le, ↓g_gt, ↓g_ge, ↓g_les, ↓g_neg, ↓g_lenl, ↓g_lent, ↓g_lenr, ↓g_lens, ↓g_abs, ↓g_inti, ↓g_intb, ↓g_stri, ↓g_listl, ↓g_listt, ↓g_tupl, ↓g_all, ↓g_isi, ↓g_repr, ↓g_slr, ↓g_sll, ↓g_sls, ↓ch_t, ↓ch_f, ↓ch_tt, ↓ch_ff, ↓and_t])
      refine ch_of (fun hb2 => ?_) (fun hb2 => ?_)
      · try (simp (disch := (first | (simp only [decide_eq_true_eq, decide_eq_false_iff_not, Bool.not_eq_true]; first | assumption | omega) | assumption | omega | decide | (simp only [List.length_cons, List.length_nil, DL.sz]; omega))) only [↓ew_pure, ↓ew_bind, ↓ew_map, ↓ev_name, ↓nameQ_s, ↓nameQ_f, ↓nameQ_o, ↓nameQ_l, ↓slotQ_s, ↓slotQ_z, ↓ownQ_s, ↓ownQ_o, ↓ownQ_l, ↓upQ_s, ↓upQ_z, ↓ew_argF, ↓ew_argS, ↓ew_argO, ↓ew_frzF, ↓ew_frzO, ↓ev_frzS, ↓ew_peekF, ↓ew_peekS, ↓sw_seq, ↓sv_asg, ↓sv_ret, ↓sv_expr, ↓sv_st, ↓sv_if, ↓sv_for, ↓sv_setF, ↓sv_setO, ↓sv_setS, ↓sw_retF, ↓sw_retO, ↓sv_retS, ↓retU_s, ↓retU_o, ↓retU_l, ↓sw_nx, ↓sv_store, ↓lsQ_s, ↓lsQ_z, ↓st_1, ↓st_2, ↓st_3, ↓atQ_some, ↓at_0, ↓at_1, ↓at_2, ↓at_3, ↓ev_d2, ↓ev_frz, ↓ev_consF, ↓ev_cons, ↓ev_lst, ↓ev_tup, ↓ev_dC, ↓ev_peeks0, ↓ev_peeks1, ↓ev_toBm, ↓ew_toB, ↓ev_not, ↓ev_and, ↓ev_or, ↓ev_andV, ↓ev_orV, ↓ev_notV, ↓ev_negV, ↓ev_ifE, ↓ev_chain, ↓ev_R1, ↓ev_R2, ↓ev_srcR1, ↓ev_sl, ↓g_eqi, ↓g_eqs, ↓g_nei, ↓g_nes, ↓ev_call, ↓ev_lc, ↓tg_nm, ↓gd_s, ↓gd_z, ↓bk_0, ↓bk_1, ↓ev_some, ↓ev_toI, ↓g_ixl, ↓g_ixt, ↓g_ixs, ↓g_addi, ↓g_adds, ↓g_addl, ↓g_sub, ↓k_mul, ↓g_mull, ↓k_div, ↓k_mod, ↓k_pow, ↓g_lt, ↓g_le, ↓g_gt, ↓g_ge, ↓g_les, ↓g_neg, ↓g_lenl, ↓g_lent, ↓g_lenr, ↓g_lens, ↓g_abs, ↓g_inti, ↓g_intb, ↓g_stri, ↓g_listl, ↓g_listt, ↓g_tupl, ↓g_all, ↓g_isi, ↓g_repr, ↓g_slr, ↓g_sll, ↓g_sls, ↓ch_t, ↓ch_f, ↓ch_tt, ↓ch_ff, ↓and_t])
        exact hR _ _ _ ⟨hloz, by omega⟩ (hp4.mono (by omega))
      · try (simp (disch := (first | (simp only [decide_eq_true_eq, decide_eq_false_iff_not, Bool.not_eq_true]; first | assumption | omega) | assumption | omega | decide | (simp only [List.length_cons, List.length_nil, DL.sz]; omega))) only [↓ew_pure, ↓ew_bind, ↓ew_map, ↓ev_name, ↓nameQ_s, ↓nameQ_f, ↓nameQ_o, ↓nameQ_l, ↓slotQ_s, ↓slotQ_z, ↓ownQ_s, ↓ownQ_o, ↓ownQ_l, ↓upQ_s, ↓upQ_z, ↓ew_argF, ↓ew_argS, ↓ew_argO, ↓ew_frzF, ↓ew_frzO, ↓ev_frzS, ↓ew_peekF, ↓ew_peekS, ↓sw_seq, ↓sv_asg, ↓sv_ret, ↓sv_expr, ↓sv_st, ↓sv_if, ↓sv_for, ↓sv_setF, ↓sv_setO, ↓sv_setS, ↓sw_retF, ↓sw_retO, ↓sv_retS, ↓retU_s, ↓retU_o, ↓retU_l, ↓sw_nx, ↓sv_store, ↓lsQ_s, ↓lsQ_z, ↓st_1, ↓st_2, ↓st_3, ↓atQ_some, ↓at_0, ↓at_1, ↓at_2, ↓at_3, ↓ev_d2, ↓ev_frz, ↓ev_consF, ↓ev_cons, ↓ev_lst, ↓ev_tup, ↓ev_dC, ↓ev_peeks0, ↓ev_peeks1, ↓ev_toBm, ↓ew_toB, ↓ev_not, ↓ev_and, ↓ev_or, ↓ev_andV, ↓ev_orV, ↓ev_notV, ↓ev_negV, ↓ev_ifE, ↓ev_chain, ↓ev_R1, ↓ev_R2, ↓ev_srcR1, ↓ev_sl, ↓g_eqi, ↓g_eqs, ↓g_nei, ↓g_nes, ↓ev_call, ↓ev_lc, ↓tg_nm, ↓gd_s, ↓gd_z, ↓bk_0, ↓bk_1, ↓ev_some, ↓ev_toI, ↓g_ixl, ↓g_ixt, ↓g_ixs, ↓g_addi, ↓g_adds, ↓g_addl, ↓g_sub, ↓k_mul, ↓g_mull, ↓k_div, ↓k_mod, ↓k_pow, ↓g_lt, ↓g_le, ↓g_gt, ↓g_ge, ↓g_les, ↓g_neg, ↓g_lenl, ↓g_lent, ↓g_lenr, ↓g_lens, ↓g_abs, ↓g_inti, ↓g_intb, ↓g_stri, ↓g_listl, ↓g_listt, ↓g_tupl, ↓g_all, ↓g_isi, ↓g_repr, ↓g_slr, ↓g_sll, ↓g_sls, ↓ch_t, ↓ch_f, ↓ch_tt, ↓ch_ff, ↓and_t])
        refine hN _ ?_
        clear hN N
        have hzl : 0 < z.length := by
          rw [len_of]
          by_cases h0 : z.cps.toList.length = 0
          · exfalso
            have : z = Str.ofString "" := by
              obtain ⟨⟨l⟩⟩ := z
              have : l = [] := List.length_eq_zero_iff.mp h0
              rw [this]; rfl
            rw [this] at hb2
            exact absurd hb2 (by decide)
          · omega
        refine sw_step fun N hN => ?_
        have hs1 : (Str.ofString "ABCDEFGHIJKLMNOPQRSTUVWXYZ0123456789 !#$&'()*+,-./:;<=>?\x40[]^_{|}~\n").length + (Str.ofString "\"").length ≤ sizeLine := by decide +kernel
        try (simp (disch := (first | (simp only [decide_eq_true_eq, decide_eq_false_iff_not, Bool.not_eq_true]; first | assumption | omega) | assumption | omega | decide | (simp only [List.length_cons, List.length_nil, DL.sz]; omega))) only [↓ew_pure, ↓ew_bind, ↓ew_map, ↓ev_name, ↓nameQ_s, ↓nameQ_f, ↓nameQ_o, ↓nameQ_l, ↓slotQ_s, ↓slotQ_z, ↓ownQ_s, ↓ownQ_o, ↓ownQ_l, ↓upQ_s, ↓upQ_z, ↓ew_argF, ↓ew_argS, ↓ew_argO, ↓ew_frzF, ↓ew_frzO, ↓ev_frzS, ↓ew_peekF, ↓ew_peekS, ↓sw_seq, ↓sv_asg, ↓sv_ret, ↓sv_expr, ↓sv_st, ↓sv_if, ↓sv_for, ↓sv_setF, ↓sv_setO, ↓sv_setS, ↓sw_retF, ↓sw_retO, ↓sv_retS, ↓retU_s, ↓retU_o, ↓retU_l, ↓sw_nx, ↓sv_store, ↓lsQ_s, ↓lsQ_z, ↓st_1, ↓st_2, ↓st_3, ↓atQ_some, ↓at_0, ↓at_1, ↓at_2, ↓at_3, ↓ev_d2, ↓ev_frz, ↓ev_consF, ↓ev_cons, ↓ev_lst, ↓ev_tup, ↓ev_dC, ↓ev_peeks0, ↓ev_peeks1, ↓ev_toBm, ↓ew_toB, ↓ev_not, ↓ev_and, ↓ev_or, ↓ev_andV, ↓ev_orV, ↓ev_notV, ↓ev_negV, ↓ev_ifE, ↓ev_chain, ↓ev_R1, ↓ev_R2, ↓ev_srcR1, ↓ev_sl, ↓g_eqi, ↓g_eqs, ↓g_nei, ↓g_nes, ↓ev_call, ↓ev_lc, ↓tg_nm, ↓gd_s, ↓gd_z, ↓bk_0, ↓bk_1, ↓ev_some, ↓ev_toI, ↓g_ixl, ↓g_ixt, ↓g_ixs, ↓g_addi, ↓g_adds, ↓g_addl, ↓g_sub, ↓k_mul, ↓g_mull, ↓k_div, ↓k_mod, ↓k_pow, ↓g_lt, ↓g_le, ↓g_gt, ↓g_ge, ↓g_les, ↓g_neg, ↓g_lenl, ↓g_lent, ↓g_lenr, ↓g_lens, ↓g_abs, ↓g_inti, ↓g_intb, ↓g_stri, ↓g_listl, ↓g_listt, ↓g_tupl, ↓g_all, ↓g_isi, ↓g_repr, ↓g_slr, ↓g_sll, ↓g_sls, ↓ch_t, ↓ch_f, ↓ch_tt, ↓ch_ff, ↓and_t])
        refine hN _ ?_
        clear hN N
        obtain ⟨sg, hsg⟩ : ∃ sg : Str, sg = (Str.ofString "ABCDEFGHIJKLMNOPQRSTUVWXYZ0123456789 !#$&'()*+,-./:;<=>?\x40[]^_{|}~\n") ++ (Str.ofString "\"") := ⟨_, rfl⟩
        rw [← hsg]
        have hsl : sg.cps.toList.length = 67 := by rw [hsg]; decide +kernel
        have hslo : ∀ c ∈ sg.cps.toList, c < 200 := by rw [hsg]; decide +kernel
        have hsl2 : sg.length = 67 := by rw [len_of]; exact hsl
        have hzz : z.length ≤ 10 := by rw [len_of]; exact hlz
        have szl : sizeLine = 16777216 := rfl
        refine sw_step fun N hN => ?_
        try (simp (disch := (first | (simp only [decide_eq_true_eq, decide_eq_false_iff_not, Bool.not_eq_true]; first | assumption | omega) | assumption | omega | decide | (simp only [List.length_cons, List.length_nil, DL.sz]; omega))) only [↓ew_pure, ↓ew_bind, ↓ew_map, ↓ev_name, ↓nameQ_s, ↓nameQ_f, ↓nameQ_o, ↓nameQ_l, ↓slotQ_s, ↓slotQ_z, ↓ownQ_s, ↓ownQ_o, ↓ownQ_l, ↓upQ_s, ↓upQ_z, ↓ew_argF, ↓ew_argS, ↓ew_argO, ↓ew_frzF, ↓ew_frzO, ↓ev_frzS, ↓ew_peekF, ↓ew_peekS, ↓sw_seq, ↓sv_asg, ↓sv_ret, ↓sv_expr, ↓sv_st, ↓sv_if, ↓sv_for, ↓sv_setF, ↓sv_setO, ↓sv_setS, ↓sw_retF, ↓sw_retO, ↓sv_retS, ↓retU_s, ↓retU_o, ↓retU_l, ↓sw_nx, ↓sv_store, ↓lsQ_s, ↓lsQ_z, ↓st_1, ↓st_2, ↓st_3, ↓atQ_some, ↓at_0, ↓at_1, ↓at_2, ↓at_3, ↓ev_d2, ↓ev_frz, ↓ev_consF, ↓ev_cons, ↓ev_lst, ↓ev_tup, ↓ev_dC, ↓ev_peeks0, ↓ev_peeks1, ↓ev_toBm, ↓ew_toB, ↓ev_not, ↓ev_and, ↓ev_or, ↓ev_andV, ↓ev_orV, ↓ev_notV, ↓ev_negV, ↓ev_ifE, ↓ev_chain, ↓ev_R1, ↓ev_R2, ↓ev_srcR1, ↓ev_sl, ↓g_eqi, ↓g_eqs, ↓g_nei, ↓g_nes, ↓ev_call, ↓ev_lc, ↓tg_nm, ↓gd_s, ↓gd_z, ↓bk_0, ↓bk_1, ↓ev_some, ↓ev_toI, ↓g_ixl, ↓g_ixt, ↓g_ixs, ↓g_addi, ↓g_adds, ↓g_addl, ↓g_sub, ↓k_mul, ↓g_mull, ↓k_div, ↓k_mod, ↓k_pow, ↓g_lt, ↓g_le, ↓g_gt, ↓g_ge, ↓g_les, ↓g_neg, ↓g_lenl, ↓g_lent, ↓g_lenr, ↓g_lens, ↓g_abs, ↓g_inti, ↓g_intb, ↓g_stri, ↓g_listl, ↓g_listt, ↓g_tupl, ↓g_all, ↓g_isi, ↓g_repr, ↓g_slr, ↓g_sll, ↓g_sls, ↓ch_t, ↓ch_f, ↓ch_tt, ↓ch_ff, ↓and_t])
        refine draw_ev rfl (by decide) hp4 (by omega) (by omega) (lg (by omega) (by omega)) fun r5 p5 e0 e1 hp5 => ?_
        try (simp (disch := (first | (simp only [decide_eq_true_eq, decide_eq_false_iff_not, Bool.not_eq_true]; first | assumption | omega) | assumption | omega | decide | (simp only [List.length_cons, List.length_nil, DL.sz]; omega))) only [↓ew_pure, ↓ew_bind, ↓ew_map, ↓ev_name, ↓nameQ_s, ↓nameQ_f, ↓nameQ_o, ↓nameQ_l, ↓slotQ_s, ↓slotQ_z, ↓ownQ_s, ↓ownQ_o, ↓ownQ_l, ↓upQ_s, ↓upQ_z, ↓ew_argF, ↓ew_argS, ↓ew_argO, ↓ew_frzF, ↓ew_frzO, ↓ev_frzS, ↓ew_peekF, ↓ew_peekS, ↓sw_seq, ↓sv_asg, ↓sv_ret, ↓sv_expr, ↓sv_st, ↓sv_if, ↓sv_for, ↓sv_setF, ↓sv_setO, ↓sv_setS, ↓sw_retF, ↓sw_retO, ↓sv_retS, ↓retU_s, ↓retU_o, ↓retU_l, ↓sw_nx, ↓sv_store, ↓lsQ_s, ↓lsQ_z, ↓st_1, ↓st_2, ↓st_3, ↓atQ_some, ↓at_0, ↓at_1, ↓at_2, ↓at_3, ↓ev_d2, ↓ev_frz, ↓ev_consF, ↓ev_cons, ↓ev_lst, ↓ev_tup, ↓ev_dC, ↓ev_peeks0, ↓ev_peeks1, ↓ev_toBm, ↓ew_toB, ↓ev_not, ↓ev_and, ↓ev_or, ↓ev_andV, ↓ev_orV, ↓ev_notV, ↓ev_negV, ↓ev_ifE, ↓ev_chain, ↓ev_R1, ↓ev_R2, ↓ev_srcR1, ↓ev_sl, ↓g_eqi, ↓g_eqs, ↓g_nei, ↓g_nes, ↓ev_call, ↓ev_lc, ↓tg_nm, ↓gd_s, ↓gd_z, ↓bk_0, ↓bk_1, ↓ev_some, ↓ev_toI, ↓g_ixl, ↓g_ixt, ↓g_ixs, ↓g_addi, ↓g_adds, ↓g_addl, ↓g_sub, ↓k_mul, ↓g_mull, ↓k_div, ↓k_mod, ↓k_pow, ↓g_lt, ↓g_le, ↓g_gt, ↓g_ge, ↓g_les, ↓g_neg, ↓g_lenl, ↓g_lent, ↓g_lenr, ↓g_lens, ↓g_abs, ↓g_inti, ↓g_intb, ↓g_stri, ↓g_listl, ↓g_listt, ↓g_tupl, ↓g_all, ↓g_isi, ↓g_repr, ↓g_slr, ↓g_sll, ↓g_sls, ↓ch_t, ↓ch_f, ↓ch_tt, ↓ch_ff, ↓and_t])
        refine hN _ ?_
        clear hN N
        try (simp (disch := (first | (simp only [decide_eq_true_eq, decide_eq_false_iff_not, Bool.not_eq_true]; first | assumption | omega) | assumption | omega | decide | (simp only [List.length_cons, List.length_nil, DL.sz]; omega))) only [↓ew_pure, ↓ew_bind, ↓ew_map, ↓ev_name, ↓nameQ_s, ↓nameQ_f, ↓nameQ_o, ↓nameQ_l, ↓slotQ_s, ↓slotQ_z, ↓ownQ_s, ↓ownQ_o, ↓ownQ_l, ↓upQ_s, ↓upQ_z, ↓ew_argF, ↓ew_argS, ↓ew_argO, ↓ew_frzF, ↓ew_frzO, ↓ev_frzS, ↓ew_peekF, ↓ew_peekS, ↓sw_seq, ↓sv_asg, ↓sv_ret, ↓sv_expr, ↓sv_st, ↓sv_if, ↓sv_for, ↓sv_setF, ↓sv_setO, ↓sv_setS, ↓sw_retF, ↓sw_retO, ↓sv_retS, ↓retU_s, ↓retU_o, ↓retU_l, ↓sw_nx, ↓sv_store, ↓lsQ_s, ↓lsQ_z, ↓st_1, ↓st_2, ↓st_3, ↓atQ_some, ↓at_0, ↓at_1, ↓at_2, ↓at_3, ↓ev_d2, ↓ev_frz, ↓ev_consF, ↓ev_cons, ↓ev_lst, ↓ev_tup, ↓ev_dC, ↓ev_peeks0, ↓ev_peeks1, ↓ev_toBm, ↓ew_toB, ↓ev_not, ↓ev_and, ↓ev_or, ↓ev_andV, ↓ev_orV, ↓ev_notV, ↓ev_negV, ↓ev_ifE, ↓ev_chain, ↓ev_R1, ↓ev_R2, ↓ev_srcR1, ↓ev_sl, ↓g_eqi, ↓g_eqs, ↓g_nei, ↓g_nes, ↓ev_call, ↓ev_lc, ↓tg_nm, ↓gd_s, ↓gd_z, ↓bk_0, ↓bk_1, ↓ev_some, ↓ev_toI, ↓g_ixl, ↓g_ixt, ↓g_ixs, ↓g_addi, ↓g_adds, ↓g_addl, ↓g_sub, ↓k_mul, ↓g_mull, ↓k_div, ↓k_mod, ↓k_pow, ↓g_lt, ↓g_le, ↓g_gt, ↓g_ge, ↓g_les, ↓g_neg, ↓g_lenl, ↓g_lent, ↓g_lenr, ↓g_lens, ↓g_abs, ↓g_inti, ↓g_intb, ↓g_stri, ↓g_listl, ↓g_listt, ↓g_tupl, ↓g_all, ↓g_isi, ↓g_repr, ↓g_slr, ↓g_sll, ↓g_sls, ↓ch_t, ↓ch_f, ↓ch_tt, ↓ch_ff, ↓and_t])
        refine draw_ev rfl (by decide) hp5 (by omega) (by omega) (lg (by omega) (by omega)) fun r6 p6 f0 f1 hp6 => ?_
        obtain ⟨c, hcm, e6⟩ := atI_of (l := sg.cps.toList) f0 (by rw [hsl]; omega)
        have l1 : (cutS z none (some r5)).length ≤ 10 := by rw [len_of]; exact Nat.le_trans (cutS_len _ _ _) hlz
        have l2 : (cutS z (some (r5 + 1)) none).length ≤ 10 := by rw [len_of]; exact Nat.le_trans (cutS_len _ _ _) hlz
        have l3 : (⟨#[c]⟩ : Str).length = 1 := rfl
        have l4 : (cutS z none (some r5)).length + (⟨#[c]⟩ : Str).length ≤ sizeLine := by omega
        have l5 : (cutS z none (some r5) ++ (⟨#[c]⟩ : Str)).length + (cutS z (some (r5 + 1)) none).length ≤ sizeLine := by rw [strLen_append]; omega
        try (simp (disch := (first | (simp only [decide_eq_true_eq, decide_eq_false_iff_not, Bool.not_eq_true]; first | assumption | omega) | assumption | omega | decide | (simp only [List.length_cons, List.length_nil, DL.sz]; omega))) only [↓ew_pure, ↓ew_bind, ↓ew_map, ↓ev_name, ↓nameQ_s, ↓nameQ_f, ↓nameQ_o, ↓nameQ_l, ↓slotQ_s, ↓slotQ_z, ↓ownQ_s, ↓ownQ_o, ↓ownQ_l, ↓upQ_s, ↓upQ_z, ↓ew_argF, ↓ew_argS, ↓ew_argO, ↓ew_frzF, ↓ew_frzO, ↓ev_frzS, ↓ew_peekF, ↓ew_peekS, ↓sw_seq, ↓sv_asg, ↓sv_ret, ↓sv_expr, ↓sv_st, ↓sv_if, ↓sv_for, ↓sv_setF, ↓sv_setO, ↓sv_setS, ↓sw_retF, ↓sw_retO, ↓sv_retS, ↓retU_s, ↓retU_o, ↓retU_l, ↓sw_nx, ↓sv_store, ↓lsQ_s, ↓lsQ_z, ↓st_1, ↓st_2, ↓st_3, ↓atQ_some, ↓at_0, ↓at_1, ↓at_2, ↓at_3, ↓ev_d2, ↓ev_frz, ↓ev_consF, ↓ev_cons, ↓ev_lst, ↓ev_tup, ↓ev_dC, ↓ev_peeks0, ↓ev_peeks1, ↓ev_toBm, ↓ew_toB, ↓ev_not, ↓ev_and, ↓ev_or, ↓ev_andV, ↓ev_orV, ↓ev_notV, ↓ev_negV, ↓ev_ifE, ↓ev_chain, ↓ev_R1, ↓ev_R2, ↓ev_srcR1, ↓ev_sl, ↓g_eqi, ↓g_eqs, ↓g_nei, ↓g_nes, ↓ev_call, ↓ev_lc, ↓tg_nm, ↓gd_s, ↓gd_z, ↓bk_0, ↓bk_1, ↓ev_some, ↓ev_toI, ↓g_ixl, ↓g_ixt, ↓g_ixs, ↓g_addi, ↓g_adds, ↓g_addl, ↓g_sub, ↓k_mul, ↓g_mull, ↓k_div, ↓k_mod, ↓k_pow, ↓g_lt, ↓g_le, ↓g_gt, ↓g_ge, ↓g_les, ↓g_neg, ↓g_lenl, ↓g_lent, ↓g_lenr, ↓g_lens, ↓g_abs, ↓g_inti, ↓g_intb, ↓g_stri, ↓g_listl, ↓g_listt, ↓g_tupl, ↓g_all, ↓g_isi, ↓g_repr, ↓g_slr, ↓g_sll, ↓g_sls, ↓ch_t, ↓ch_f, ↓ch_tt, ↓ch_ff, ↓and_t, ↓k_at e6])
        refine hR _ _ _ ⟨fun x hx => ?_, ?_⟩ (hp6.mono (by omega))
        · rw [toList_app, toList_app] at hx
          rcases List.mem_append.mp hx with hx | hx
          · rcases List.mem_append.mp hx with hx | hx
            · exact hloz _ (cutS_sub _ _ _ _ hx)
            · have hx : x ∈ [c] := hx
              rw [List.mem_singleton.mp hx]
              exact hslo _ hcm
          · exact hloz _ (cutS_sub _ _ _ _ hx)
        · rw [← len_of, strLen_append, strLen_append]
          omega
end K01

set_option Elab.async false
set_option linter.all false
set_option maxRecDepth 100000
set_option maxHeartbeats 1000000
namespace K01
open PySem PySem.Spec PyProof.Rows L2 DL

/-! ### any value -/
def wK : Nat → Nat
  | 0 => 200
  | k + 1 => 2 * (wK k + 1) + 10
def cK : Nat → Nat
  | 0 => 1
  | k + 1 => 2 + 2 * cK k
theorem wK_ge : ∀ k, 200 ≤ wK k
  | 0 => Nat.le_refl _
  | k + 1 => by have := wK_ge k; show 200 ≤ 2 * (wK k + 1) + 10; omega
theorem cK_ge : ∀ k, 1 ≤ cK k
  | 0 => Nat.le_refl _
  | k + 1 => by show 1 ≤ 2 + 2 * cK k; omega
structure AnyV (j : Nat) (d : D) : Prop where
  fine : Fine (wK j) j d
  ok : ∀ z, d = .str z → ∀ c ∈ z.cps.toList, c < 1000
theorem ev_disp1 {δ : Dl} {Q : RV → Dl → Prop} (z : Str) (mv : DM D) : EW (dDisp [((pure (.str z) : DM D), mv)] δ) Q = EW (mv δ) fun v δ1 => Q (.own (.dct [.inr z] [v])) δ1 := by
  simp only [dDisp, dPairs, ew_bind, ew_pure, keyD]
  congr 1
theorem atom_ok {j : Nat} {d : D} (hd : d ∈ [D.non, .bl true, .bl false, .int 0, .int 1, .int (-1), .int (10 ^ Int.toNat 59), .str "", .str "a", .str "A", .str "a b", .str "zzzzzzzz", .str "zzzzzzzzz", .str "a1"]) : AnyV j d := by
  have lo : ∀ z : Str, (z.cps.toList.all fun c => decide (c < 200)) = true → ∀ c ∈ z.cps.toList, c < 200 := fun z h c hc => of_decide_eq_true (List.all_eq_true.mp h c hc)
  have st : ∀ z : Str, (z.cps.toList.all fun c => decide (c < 200)) = true → z.length ≤ 20 → AnyV j (.str z) := fun z h hl => by
    refine ⟨(fine_str (w := 200) (fun c hc => ?_) (by omega)).mono (wK_ge j) (Nat.zero_le _), fun z' e => ?_⟩
    · have := lo z h c hc; omega
    · cases e
      exact fun c hc => by have := lo z h c hc; omega
  have it : ∀ i : Int, i.natAbs < 10 ^ 60 → AnyV j (.int i) := fun i h => ⟨(fine_int h).mono (wK_ge j) (Nat.zero_le _), fun z e => by cases e⟩
  simp only [List.mem_cons, List.not_mem_nil, or_false] at hd
  rcases hd with h | h | h | h | h | h | h | h | h | h | h | h | h | h <;> rw [h]
  · exact ⟨fine_non.mono (Nat.zero_le _) (Nat.zero_le _), fun z e => by cases e⟩
  · exact ⟨(fine_bl _).mono (Nat.zero_le _) (Nat.zero_le _), fun z e => by cases e⟩
  · exact ⟨(fine_bl _).mono (Nat.zero_le _) (Nat.zero_le _), fun z e => by cases e⟩
  · exact it _ (by decide)
  · exact it _ (by decide)
  · exact it _ (by decide)
  · exact it _ (by decide +kernel)
  all_goals exact st _ (by decide +kernel) (by decide +kernel)
theorem any_ok : ∀ (k j : Nat), j < k → ∀ {n : Int} {p : D} {Q : RV → Dl → Prop}, Pen n p → n + cK j ≤ 90000 → 0 ≤ n → (∀ x d p', (x = .frz d ∨ x = .own d) → AnyV j d → Pen (n + cK j) p' → Q x [some ⟨p', .lent⟩, none]) →
    CW (sem_any k [some ⟨p, .lent⟩, some ⟨.int (j : Nat), .frz⟩]) Q := by
  intro k
  induction k with
  | zero => intro j hj; omega
  | succ k ih =>
  intro j hj n p Q h hn hn0 hQ
  have cj := cK_ge j
  show CW (semOf 5 2 (d_any (sem_any k)) _) Q
  rw [cw_semOf]
  show SW (d_any (sem_any k) [some ⟨_, .lent⟩, some ⟨_, .frz⟩, none, none, none]) _
  have hQ' : ∀ x d p' s2 (l : Dl), (x = .frz d ∨ x = .own d) → AnyV j d → Pen (n + cK j) p' → Q x (cut 2 (some ⟨p', .lent⟩ :: some ⟨s2, .frz⟩ :: l)) := fun x d p' s2 l h1 h2 h3 => hQ x d p' h1 h2 h3
  generalize hP : Po.mk (fun δ => Q (.frz .non) (cut 2 δ)) (fun r δ => Q r (cut 2 δ)) (fun _ => False) (fun _ => False) = P
  have hR : ∀ x d p' s2 (l : Dl), (x = .frz d ∨ x = .own d) → AnyV j d → Pen (n + cK j) p' → P.rt x (some ⟨p', .lent⟩ :: some ⟨s2, .frz⟩ :: l) := by subst hP; exact hQ'
  clear hP hQ' hQ
  have szl : sizeLine = 16777216 := rfl
  -- a value of the next depth, in an expression
  have sub : ∀ {j' : Nat} {m : Int} {q : D} {l : Dl} {R : RV → Dl → Prop}, j = j' + 1 → Pen m q → 0 ≤ m → m + cK j' ≤ 90000 → (∀ x d p', (x = .frz d ∨ x = .own d) → AnyV j' d → Pen (m + cK j') p' → R x (some ⟨p', .lent⟩ :: l)) →
      clQ 2 0 2 (sem_any k) plain2 [.slot 0, .frz (.int ((j : Nat) - 1))] [] (some ⟨q, .lent⟩ :: l) R := fun {j' m q l R} ej hq hm0 hm hR' => by
    have e1 : ((j : Nat) : Int) - 1 = (j' : Nat) := by omega
    rw [e1]
    refine cl_of (cs := [some ⟨q, .lent⟩, some ⟨.int (j' : Nat), .frz⟩]) (kk := [.lent, .frz]) ⟨rfl, rfl, rfl⟩ rfl (by simp [slotsOf]) (ih j' (by omega) hq hm hm0 fun x d p' hx hd hp => ?_)
    exact hR' x d p' hx hd hp
  have cmp : ∀ {j' : Nat} {m r : Int} {q : D} {R : RV → Dl → Prop}, j = j' + 1 → Pen (n + 2) q → 0 ≤ m → m < 3 → (∀ acc p', (∀ d ∈ acc, AnyV j' d) → acc.length ≤ 2 → Pen (n + cK j) p' → R (.own (.lst acc)) [some ⟨p', .lent⟩, some ⟨.int (j : Nat), .frz⟩, some ⟨.int r, .frz⟩, none, none]) →
      lcQ [3] (.nm 3) (pure true) (dFrz (dCallN 2 0 2 (sem_any k) plain2 (dCons ((dName 0) >>= argR) (dCons ((d2 DL.gSub ((dName 1) >>= argR) ((pure (.int 1)) >>= fun d => pure (AV.frz d))) >>= argR) (pure []))) (pure []))) (rangeD 0 m.toNat) [some ⟨q, .lent⟩, some ⟨.int (j : Nat), .frz⟩, some ⟨.int r, .frz⟩, none, none] R := fun {j' m r q R} ej hq m0 m1 hR' => by
    subst ej
    have cj' : cK (j' + 1) = 2 + 2 * cK j' := rfl
    have hl : (rangeD 0 m.toNat).length = m.toNat := by unfold rangeD; rw [List.length_map, List.length_range]
    refine lc_of (S := D) (L := fun s => [some ⟨s, .lent⟩, some ⟨.int ((j' + 1 : Nat) : Int), .frz⟩, some ⟨.int r, .frz⟩, none, none]) (J := fun i acc s => Pen (n + 2 + (i * cK j' : Nat)) s ∧ (∀ d ∈ acc, AnyV j' d) ∧ acc.length = i) q rfl ⟨hq.mono (by omega), by simp, rfl⟩ (wipeD_idem _ _) (fun i d acc s hd hJ => ?_) (fun acc s hJ => ?_)
    · obtain ⟨hp, ha, hc⟩ := hJ
      have hi : i < m.toNat := by rw [← hl]; exact (List.getElem?_eq_some_iff.mp hd).1
      have hi2 : i * cK j' ≤ 1 * cK j' := Nat.mul_le_mul_right _ (by omega)
      have hi3 : (i + 1) * cK j' = i * cK j' + cK j' := Nat.succ_mul _ _
      simp (disch := (first | (simp only [decide_eq_true_eq, decide_eq_false_iff_not, Bool.not_eq_true]; first | assumption | omega) | assumption | omega | decide | (simp only [List.length_cons, List.length_nil, DL.sz]; omega))) only [↓ew_pure, ↓ew_bind, ↓ew_map, ↓ev_name, ↓nameQ_s, ↓nameQ_f, ↓nameQ_o, ↓nameQ_l, ↓slotQ_s, ↓slotQ_z, ↓ownQ_s, ↓ownQ_o, ↓ownQ_l, ↓upQ_s, ↓upQ_z, ↓ew_argF, ↓ew_argS, ↓ew_argO, ↓ew_frzF, ↓ew_frzO, ↓ev_frzS, ↓ew_peekF, ↓ew_peekS, ↓sw_seq, ↓sv_asg, ↓sv_ret, ↓sv_expr, ↓sv_st, ↓sv_if, ↓sv_for, ↓sv_setF, ↓sv_setO, ↓sv_setS, ↓sw_retF, ↓sw_retO, ↓sv_retS, ↓retU_s, ↓retU_o, ↓retU_l, ↓sw_nx, ↓sv_store, ↓lsQ_s, ↓lsQ_z, ↓st_1, ↓st_2, ↓st_3, ↓atQ_some, ↓at_0, ↓at_1, ↓at_2, ↓at_3, ↓ev_d2, ↓ev_frz, ↓ev_consF, ↓ev_cons, ↓ev_lst, ↓ev_tup, ↓ev_dC, ↓ev_peeks0, ↓ev_peeks1, ↓ev_toBm, ↓ew_toB, ↓ev_not, ↓ev_and, ↓ev_or, ↓ev_andV, ↓ev_orV, ↓ev_notV, ↓ev_negV, ↓ev_ifE, ↓ev_chain, ↓ev_R1, ↓ev_R2, ↓ev_srcR1, ↓ev_sl, ↓g_eqi, ↓g_eqs, ↓g_nei, ↓g_nes, ↓ev_call, ↓ev_lc, ↓tg_nm, ↓gd_s, ↓gd_z, ↓bk_0, ↓bk_1, ↓ev_some, ↓ev_toI, ↓g_ixl, ↓g_ixt, ↓g_ixs, ↓g_addi, ↓g_adds, ↓g_addl, ↓g_sub, ↓k_mul, ↓g_mull, ↓k_div, ↓k_mod, ↓k_pow, ↓g_lt, ↓g_le, ↓g_gt, ↓g_ge, ↓g_les, ↓g_neg, ↓g_lenl, ↓g_lent, ↓g_lenr, ↓g_lens, ↓g_abs, ↓g_inti, ↓g_intb, ↓g_stri, ↓g_listl, ↓g_listt, ↓g_tupl, ↓g_all, ↓g_isi, ↓g_repr, ↓g_slr, ↓g_sll, ↓g_sls, ↓ch_t, ↓ch_f, ↓ch_tt, ↓ch_ff, ↓and_t]
      refine sub rfl hp (by omega) (by omega) fun x d2 p3 hx hd2 hp3 => ?_
      rcases hx with rfl | rfl
      · try (simp (disch := (first | (simp only [decide_eq_true_eq, decide_eq_false_iff_not, Bool.not_eq_true]; first | assumption | omega) | assumption | omega | decide | (simp only [List.length_cons, List.length_nil, DL.sz]; omega))) only [↓ew_pure, ↓ew_bind, ↓ew_map, ↓ev_name, ↓nameQ_s, ↓nameQ_f, ↓nameQ_o, ↓nameQ_l, ↓slotQ_s, ↓slotQ_z, ↓ownQ_s, ↓ownQ_o, ↓ownQ_l, ↓upQ_s, ↓upQ_z, ↓ew_argF, ↓ew_argS, ↓ew_argO, ↓ew_frzF, ↓ew_frzO, ↓ev_frzS, ↓ew_peekF, ↓ew_peekS, ↓sw_seq, ↓sv_asg, ↓sv_ret, ↓sv_expr, ↓sv_st, ↓sv_if, ↓sv_for, ↓sv_setF, ↓sv_setO, ↓sv_setS, ↓sw_retF, ↓sw_retO, ↓sv_retS, ↓retU_s, ↓retU_o, ↓retU_l, ↓sw_nx, ↓sv_store, ↓lsQ_s, ↓lsQ_z, ↓st_1, ↓st_2, ↓st_3, ↓atQ_some, ↓at_0, ↓at_1, ↓at_2, ↓at_3, ↓ev_d2, ↓ev_frz, ↓ev_consF, ↓ev_cons, ↓ev_lst, ↓ev_tup, ↓ev_dC, ↓ev_peeks0, ↓ev_peeks1, ↓ev_toBm, ↓ew_toB, ↓ev_not, ↓ev_and, ↓ev_or, ↓ev_andV, ↓ev_orV, ↓ev_notV, ↓ev_negV, ↓ev_ifE, ↓ev_chain, ↓ev_R1, ↓ev_R2, ↓ev_srcR1, ↓ev_sl, ↓g_eqi, ↓g_eqs, ↓g_nei, ↓g_nes, ↓ev_call, ↓ev_lc, ↓tg_nm, ↓gd_s, ↓gd_z, ↓bk_0, ↓bk_1, ↓ev_some, ↓ev_toI, ↓g_ixl, ↓g_ixt, ↓g_ixs, ↓g_addi, ↓g_adds, ↓g_addl, ↓g_sub, ↓k_mul, ↓g_mull, ↓k_div, ↓k_mod, ↓k_pow, ↓g_lt, ↓g_le, ↓g_gt, ↓g_ge, ↓g_les, ↓g_neg, ↓g_lenl, ↓g_lent, ↓g_lenr, ↓g_lens, ↓g_abs, ↓g_inti, ↓g_intb, ↓g_stri, ↓g_listl, ↓g_listt, ↓g_tupl, ↓g_all, ↓g_isi, ↓g_repr, ↓g_slr, ↓g_sll, ↓g_sls, ↓ch_t, ↓ch_f, ↓ch_tt, ↓ch_ff, ↓and_t])
        refine ⟨p3, rfl, hp3.mono (by omega), fun y hy => ?_, by rw [List.length_append, hc]; rfl⟩
        rcases List.mem_append.mp hy with hy | hy
        · exact ha y hy
        · rw [List.mem_singleton.mp hy]; exact hd2
      · try (simp (disch := (first | (simp only [decide_eq_true_eq, decide_eq_false_iff_not, Bool.not_eq_true]; first | assumption | omega) | assumption | omega | decide | (simp only [List.length_cons, List.length_nil, DL.sz]; omega))) only [↓ew_pure, ↓ew_bind, ↓ew_map, ↓ev_name, ↓nameQ_s, ↓nameQ_f, ↓nameQ_o, ↓nameQ_l, ↓slotQ_s, ↓slotQ_z, ↓ownQ_s, ↓ownQ_o, ↓ownQ_l, ↓upQ_s, ↓upQ_z, ↓ew_argF, ↓ew_argS, ↓ew_argO, ↓ew_frzF, ↓ew_frzO, ↓ev_frzS, ↓ew_peekF, ↓ew_peekS, ↓sw_seq, ↓sv_asg, ↓sv_ret, ↓sv_expr, ↓sv_st, ↓sv_if, ↓sv_for, ↓sv_setF, ↓sv_setO, ↓sv_setS, ↓sw_retF, ↓sw_retO, ↓sv_retS, ↓retU_s, ↓retU_o, ↓retU_l, ↓sw_nx, ↓sv_store, ↓lsQ_s, ↓lsQ_z, ↓st_1, ↓st_2, ↓st_3, ↓atQ_some, ↓at_0, ↓at_1, ↓at_2, ↓at_3, ↓ev_d2, ↓ev_frz, ↓ev_consF, ↓ev_cons, ↓ev_lst, ↓ev_tup, ↓ev_dC, ↓ev_peeks0, ↓ev_peeks1, ↓ev_toBm, ↓ew_toB, ↓ev_not, ↓ev_and, ↓ev_or, ↓ev_andV, ↓ev_orV, ↓ev_notV, ↓ev_negV, ↓ev_ifE, ↓ev_chain, ↓ev_R1, ↓ev_R2, ↓ev_srcR1, ↓ev_sl, ↓g_eqi, ↓g_eqs, ↓g_nei, ↓g_nes, ↓ev_call, ↓ev_lc, ↓tg_nm, ↓gd_s, ↓gd_z, ↓bk_0, ↓bk_1, ↓ev_some, ↓ev_toI, ↓g_ixl, ↓g_ixt, ↓g_ixs, ↓g_addi, ↓g_adds, ↓g_addl, ↓g_sub, ↓k_mul, ↓g_mull, ↓k_div, ↓k_mod, ↓k_pow, ↓g_lt, ↓g_le, ↓g_gt, ↓g_ge, ↓g_les, ↓g_neg, ↓g_lenl, ↓g_lent, ↓g_lenr, ↓g_lens, ↓g_abs, ↓g_inti, ↓g_intb, ↓g_stri, ↓g_listl, ↓g_listt, ↓g_tupl, ↓g_all, ↓g_isi, ↓g_repr, ↓g_slr, ↓g_sll, ↓g_sls, ↓ch_t, ↓ch_f, ↓ch_tt, ↓ch_ff, ↓and_t])
        refine ⟨p3, rfl, hp3.mono (by omega), fun y hy => ?_, by rw [List.length_append, hc]; rfl⟩
        rcases List.mem_append.mp hy with hy | hy
        · exact ha y hy
        · rw [List.mem_singleton.mp hy]; exact hd2
    · obtain ⟨hp, ha, hc⟩ := hJ
      rw [hl] at hp hc
      have hi2 : m.toNat * cK j' ≤ 2 * cK j' := Nat.mul_le_mul_right _ (by omega)
      exact hR' acc s ha (by omega) (hp.mono (by omega))
  unfold d_any
  refine sw_step fun N hN => ?_
  simp (disch := (first | (simp only [decide_eq_true_eq, decide_eq_false_iff_not, Bool.not_eq_true]; first | assumption | omega) | assumption | omega | decide | (simp only [List.length_cons, List.length_nil, DL.sz]; omega))) only [↓ew_pure, ↓ew_bind, ↓ew_map, ↓ev_name, ↓nameQ_s, ↓nameQ_f, ↓nameQ_o, ↓nameQ_l, ↓slotQ_s, ↓slotQ_z, ↓ownQ_s, ↓ownQ_o, ↓ownQ_l, ↓upQ_s, ↓upQ_z, ↓ew_argF, ↓ew_argS, ↓ew_argO, ↓ew_frzF, ↓ew_frzO, ↓ev_frzS, ↓ew_peekF, ↓ew_peekS, ↓sw_seq, ↓sv_asg, ↓sv_ret, ↓sv_expr, ↓sv_st, ↓sv_if, ↓sv_for, ↓sv_setF, ↓sv_setO, ↓sv_setS, ↓sw_retF, ↓sw_retO, ↓sv_retS, ↓retU_s, ↓retU_o, ↓retU_l, ↓sw_nx, ↓sv_store, ↓lsQ_s, ↓lsQ_z, ↓st_1, ↓st_2, ↓st_3, ↓atQ_some, ↓at_0, ↓at_1, ↓at_2, ↓at_3, ↓ev_d2, ↓ev_frz, ↓ev_consF, ↓ev_cons, ↓ev_lst, ↓ev_tup, ↓ev_dC, ↓ev_peeks0, ↓ev_peeks1, ↓ev_toBm, ↓ew_toB, ↓ev_not, ↓ev_and, ↓ev_or, ↓ev_andV, ↓ev_orV, ↓ev_notV, ↓ev_negV, ↓ev_ifE, ↓ev_chain, ↓ev_R1, ↓ev_R2, ↓ev_srcR1, ↓ev_sl, ↓g_eqi, ↓g_eqs, ↓g_nei, ↓g_nes, ↓ev_call, ↓ev_lc, ↓tg_nm, ↓gd_s, ↓gd_z, ↓bk_0, ↓bk_1, ↓ev_some, ↓ev_toI, ↓g_ixl, ↓g_ixt, ↓g_ixs, ↓g_addi, ↓g_adds, ↓g_addl, ↓g_sub, ↓k_mul, ↓g_mull, ↓k_div, ↓k_mod, ↓k_pow, ↓g_lt, ↓g_le, ↓g_gt, ↓g_ge, ↓g_les, ↓g_neg, ↓g_lenl, ↓g_lent, ↓g_lenr, ↓g_lens, ↓g_abs, ↓g_inti, ↓g_intb, ↓g_stri, ↓g_listl, ↓g_listt, ↓g_tupl, ↓g_all, ↓g_isi, ↓g_repr, ↓g_slr, ↓g_sll, ↓g_sls, ↓ch_t, ↓ch_f, ↓ch_tt, ↓ch_ff, ↓and_t]
  refine draw_ev rfl (by decide) h (by omega) (by decide) (by decide) fun r p1 a0 a1 hp1 => ?_
  simp (disch := (first | (simp only [decide_eq_true_eq, decide_eq_false_iff_not, Bool.not_eq_true]; first | assumption | omega) | assumption | omega | decide | (simp only [List.length_cons, List.length_nil, DL.sz]; omega))) only [↓ew_pure, ↓ew_bind, ↓ew_map, ↓ev_name, ↓nameQ_s, ↓nameQ_f, ↓nameQ_o, ↓nameQ_l, ↓slotQ_s, ↓slotQ_z, ↓ownQ_s, ↓ownQ_o, ↓ownQ_l, ↓upQ_s, ↓upQ_z, ↓ew_argF, ↓ew_argS, ↓ew_argO, ↓ew_frzF, ↓ew_frzO, ↓ev_frzS, ↓ew_peekF, ↓ew_peekS, ↓sw_seq, ↓sv_asg, ↓sv_ret, ↓sv_expr, ↓sv_st, ↓sv_if, ↓sv_for, ↓sv_setF, ↓sv_setO, ↓sv_setS, ↓sw_retF, ↓sw_retO, ↓sv_retS, ↓retU_s, ↓retU_o, ↓retU_l, ↓sw_nx, ↓sv_store, ↓lsQ_s, ↓lsQ_z, ↓st_1, ↓st_2, ↓st_3, ↓atQ_some, ↓at_0, ↓at_1, ↓at_2, ↓at_3, ↓ev_d2, ↓ev_frz, ↓ev_consF, ↓ev_cons, ↓ev_lst, ↓ev_tup, ↓ev_dC, ↓ev_peeks0, ↓ev_peeks1, ↓ev_toBm, ↓ew_toB, ↓ev_not, ↓ev_and, ↓ev_or, ↓ev_andV, ↓ev_orV, ↓ev_notV, ↓ev_negV, ↓ev_ifE, ↓ev_chain, ↓ev_R1, ↓ev_R2, ↓ev_srcR1, ↓ev_sl, ↓g_eqi, ↓g_eqs, ↓g_nei, ↓g_nes, ↓ev_call, ↓ev_lc, ↓tg_nm, ↓gd_s, ↓gd_z, ↓bk_0, ↓bk_1, ↓ev_some, ↓ev_toI, ↓g_ixl, ↓g_ixt, ↓g_ixs, ↓g_addi, ↓g_adds, ↓g_addl, ↓g_sub, ↓k_mul, ↓g_mull, ↓k_div, ↓k_mod, ↓k_pow, ↓g_lt, ↓g_le, ↓g_gt, ↓g_ge, ↓g_les, ↓g_neg, ↓g_lenl, ↓g_lent, ↓g_lenr, ↓g_lens, ↓g_abs, ↓g_inti, ↓g_intb, ↓g_stri, ↓g_listl, ↓g_listt, ↓g_tupl, ↓g_all, ↓g_isi, ↓g_repr, ↓g_slr, ↓g_sll, ↓g_sls, ↓ch_t, ↓ch_f, ↓ch_tt, ↓ch_ff, ↓and_t]
  refine hN _ ?_
  clear hN N
  -- a list
  refine sw_step fun N hN => ?_
  simp (disch := (first | (simp only [decide_eq_true_eq, decide_eq_false_iff_not, Bool.not_eq_true]; first | assumption | omega) | assumption | omega | decide | (simp only [List.length_cons, List.length_nil, DL.sz]; omega))) only [↓ew_pure, ↓ew_bind, ↓ew_map, ↓ev_name, ↓nameQ_s, ↓nameQ_f, ↓nameQ_o, ↓nameQ_l, ↓slotQ_s, ↓slotQ_z, ↓ownQ_s, ↓ownQ_o, ↓ownQ_l, ↓upQ_s, ↓upQ_z, ↓ew_argF, ↓ew_argS, ↓ew_argO, ↓ew_frzF, ↓ew_frzO, ↓ev_frzS, ↓ew_peekF, ↓ew_peekS, ↓sw_seq, ↓sv_asg, ↓sv_ret, ↓sv_expr, ↓sv_st, ↓sv_if, ↓sv_for, ↓sv_setF, ↓sv_setO, ↓sv_setS, ↓sw_retF, ↓sw_retO, ↓sv_retS, ↓retU_s, ↓retU_o, ↓retU_l, ↓sw_nx, ↓sv_store, ↓lsQ_s, ↓lsQ_z, ↓st_1, ↓st_2, ↓st_3, ↓atQ_some, ↓at_0, ↓at_1, ↓at_2, ↓at_3, ↓ev_d2, ↓ev_frz, ↓ev_consF, ↓ev_cons, ↓ev_lst, ↓ev_tup, ↓ev_dC, ↓ev_peeks0, ↓ev_peeks1, ↓ev_toBm, ↓ew_toB, ↓ev_not, ↓ev_and, ↓ev_or, ↓ev_andV, ↓ev_orV, ↓ev_notV, ↓ev_negV, ↓ev_ifE, ↓ev_chain, ↓ev_R1, ↓ev_R2, ↓ev_srcR1, ↓ev_sl, ↓g_eqi, ↓g_eqs, ↓g_nei, ↓g_nes, ↓ev_call, ↓ev_lc, ↓tg_nm, ↓gd_s, ↓gd_z, ↓bk_0, ↓bk_1, ↓ev_some, ↓ev_toI, ↓g_ixl, ↓g_ixt, ↓g_ixs, ↓g_addi, ↓g_adds, ↓g_addl, ↓g_sub, ↓k_mul, ↓g_mull, ↓k_div, ↓k_mod, ↓k_pow, ↓g_lt, ↓g_le, ↓g_gt, ↓g_ge, ↓g_les, ↓g_neg, ↓g_lenl, ↓g_lent, ↓g_lenr, ↓g_lens, ↓g_abs, ↓g_inti, ↓g_intb, ↓g_stri, ↓g_listl, ↓g_listt, ↓g_tupl, ↓g_all, ↓g_isi, ↓g_repr, ↓g_slr, ↓g_sll, ↓g_sls, ↓ch_t, ↓ch_f, ↓ch_tt, ↓ch_ff, ↓and_t]
  have next : ∀ {b : Bool} {A B : Prop}, (b = true → 0 < (j : Int) → A) → B → chQ b (chQ (decide (0 < (j : Int))) A B) B := fun {b A B} h1 h2 => ch_of (fun hb => ch_of (fun hb2 => h1 hb (of_decide_eq_true hb2)) fun _ => h2) fun _ => h2
  refine next (fun hb hj0 => ?_) ?_
  · obtain ⟨j', ej⟩ : ∃ j', j = j' + 1 := ⟨j - 1, by omega⟩
    have cj' : cK j = 2 + 2 * cK j' := by rw [ej]; rfl
    refine draw_ev rfl (by decide) hp1 (by omega) (by decide) (by decide) fun m p2 b0 b1 hp2 => ?_
    try (simp (disch := (first | (simp only [decide_eq_true_eq, decide_eq_false_iff_not, Bool.not_eq_true]; first | assumption | omega) | assumption | omega | decide | (simp only [List.length_cons, List.length_nil, DL.sz]; omega))) only [↓ew_pure, ↓ew_bind, ↓ew_map, ↓ev_name, ↓nameQ_s, ↓nameQ_f, ↓nameQ_o, ↓nameQ_l, ↓slotQ_s, ↓slotQ_z, ↓ownQ_s, ↓ownQ_o, ↓ownQ_l, ↓upQ_s, ↓upQ_z, ↓ew_argF, ↓ew_argS, ↓ew_argO, ↓ew_frzF, ↓ew_frzO, ↓ev_frzS, ↓ew_peekF, ↓ew_peekS, ↓sw_seq, ↓sv_asg, ↓sv_ret, ↓sv_expr, ↓sv_st, ↓sv_if, ↓sv_for, ↓sv_setF, ↓sv_setO, ↓sv_setS, ↓sw_retF, ↓sw_retO, ↓sv_retS, ↓retU_s, ↓retU_o, ↓retU_l, ↓sw_nx, ↓sv_store, ↓lsQ_s, ↓lsQ_z, ↓st_1, ↓st_2, ↓st_3, ↓atQ_some, ↓at_0, ↓at_1, ↓at_2, ↓at_3, ↓ev_d2, ↓ev_frz, ↓ev_consF, ↓ev_cons, ↓ev_lst, ↓ev_tup, ↓ev_dC, ↓ev_peeks0, ↓ev_peeks1, ↓ev_toBm, ↓ew_toB, ↓ev_not, ↓ev_and, ↓ev_or, ↓ev_andV, ↓ev_orV, ↓ev_notV, ↓ev_negV, ↓ev_ifE, ↓ev_chain, ↓ev_R1, ↓ev_R2, ↓ev_srcR1, ↓ev_sl, ↓g_eqi, ↓g_eqs, ↓g_nei, ↓g_nes, ↓ev_call, ↓ev_lc, ↓tg_nm, ↓gd_s, ↓gd_z, ↓bk_0, ↓bk_1, ↓ev_some, ↓ev_toI, ↓g_ixl, ↓g_ixt, ↓g_ixs, ↓g_addi, ↓g_adds, ↓g_addl, ↓g_sub, ↓k_mul, ↓g_mull, ↓k_div, ↓k_mod, ↓k_pow, ↓g_lt, ↓g_le, ↓g_gt, ↓g_ge, ↓g_les, ↓g_neg, ↓g_lenl, ↓g_lent, ↓g_lenr, ↓g_lens, ↓g_abs, ↓g_inti, ↓g_intb, ↓g_stri, ↓g_listl, ↓g_listt, ↓g_tupl, ↓g_all, ↓g_isi, ↓g_repr, ↓g_slr, ↓g_sll, ↓g_sls, ↓ch_t, ↓ch_f, ↓ch_tt, ↓ch_ff, ↓and_t])
    refine cmp ej (hp2.mono (by omega)) b0 b1 fun acc p3 ha hl hp3 => ?_
    try (simp (disch := (first | (simp only [decide_eq_true_eq, decide_eq_false_iff_not, Bool.not_eq_true]; first | assumption | omega) | assumption | omega | decide | (simp only [List.length_cons, List.length_nil, DL.sz]; omega))) only [↓ew_pure, ↓ew_bind, ↓ew_map, ↓ev_name, ↓nameQ_s, ↓nameQ_f, ↓nameQ_o, ↓nameQ_l, ↓slotQ_s, ↓slotQ_z, ↓ownQ_s, ↓ownQ_o, ↓ownQ_l, ↓upQ_s, ↓upQ_z, ↓ew_argF, ↓ew_argS, ↓ew_argO, ↓ew_frzF, ↓ew_frzO, ↓ev_frzS, ↓ew_peekF, ↓ew_peekS, ↓sw_seq, ↓sv_asg, ↓sv_ret, ↓sv_expr, ↓sv_st, ↓sv_if, ↓sv_for, ↓sv_setF, ↓sv_setO, ↓sv_setS, ↓sw_retF, ↓sw_retO, ↓sv_retS, ↓retU_s, ↓retU_o, ↓retU_l, ↓sw_nx, ↓sv_store, ↓lsQ_s, ↓lsQ_z, ↓st_1, ↓st_2, ↓st_3, ↓atQ_some, ↓at_0, ↓at_1, ↓at_2, ↓at_3, ↓ev_d2, ↓ev_frz, ↓ev_consF, ↓ev_cons, ↓ev_lst, ↓ev_tup, ↓ev_dC, ↓ev_peeks0, ↓ev_peeks1, ↓ev_toBm, ↓ew_toB, ↓ev_not, ↓ev_and, ↓ev_or, ↓ev_andV, ↓ev_orV, ↓ev_notV, ↓ev_negV, ↓ev_ifE, ↓ev_chain, ↓ev_R1, ↓ev_R2, ↓ev_srcR1, ↓ev_sl, ↓g_eqi, ↓g_eqs, ↓g_nei, ↓g_nes, ↓ev_call, ↓ev_lc, ↓tg_nm, ↓gd_s, ↓gd_z, ↓bk_0, ↓bk_1, ↓ev_some, ↓ev_toI, ↓g_ixl, ↓g_ixt, ↓g_ixs, ↓g_addi, ↓g_adds, ↓g_addl, ↓g_sub, ↓k_mul, ↓g_mull, ↓k_div, ↓k_mod, ↓k_pow, ↓g_lt, ↓g_le, ↓g_gt, ↓g_ge, ↓g_les, ↓g_neg, ↓g_lenl, ↓g_lent, ↓g_lenr, ↓g_lens, ↓g_abs, ↓g_inti, ↓g_intb, ↓g_stri, ↓g_listl, ↓g_listt, ↓g_tupl, ↓g_all, ↓g_isi, ↓g_repr, ↓g_slr, ↓g_sll, ↓g_sls, ↓ch_t, ↓ch_f, ↓ch_tt, ↓ch_ff, ↓and_t])
    have fl := fine_lst (fun d hd => (ha d hd).fine) hl
    exact hR _ _ _ _ _ (.inr rfl) ⟨fl.mono (by rw [ej]; show _ ≤ 2 * (wK j' + 1) + 10; omega) (by omega), fun z e => by cases e⟩ hp3
  refine hN _ ?_
  clear hN N
  -- a tuple
  refine sw_step fun N hN => ?_
  simp (disch := (first | (simp only [decide_eq_true_eq, decide_eq_false_iff_not, Bool.not_eq_true]; first | assumption | omega) | assumption | omega | decide | (simp only [List.length_cons, List.length_nil, DL.sz]; omega))) only [↓ew_pure, ↓ew_bind, ↓ew_map, ↓ev_name, ↓nameQ_s, ↓nameQ_f, ↓nameQ_o, ↓nameQ_l, ↓slotQ_s, ↓slotQ_z, ↓ownQ_s, ↓ownQ_o, ↓ownQ_l, ↓upQ_s, ↓upQ_z, ↓ew_argF, ↓ew_argS, ↓ew_argO, ↓ew_frzF, ↓ew_frzO, ↓ev_frzS, ↓ew_peekF, ↓ew_peekS, ↓sw_seq, ↓sv_asg, ↓sv_ret, ↓sv_expr, ↓sv_st, ↓sv_if, ↓sv_for, ↓sv_setF, ↓sv_setO, ↓sv_setS, ↓sw_retF, ↓sw_retO, ↓sv_retS, ↓retU_s, ↓retU_o, ↓retU_l, ↓sw_nx, ↓sv_store, ↓lsQ_s, ↓lsQ_z, ↓st_1, ↓st_2, ↓st_3, ↓atQ_some, ↓at_0, ↓at_1, ↓at_2, ↓at_3, ↓ev_d2, ↓ev_frz, ↓ev_consF, ↓ev_cons, ↓ev_lst, ↓ev_tup, ↓ev_dC, ↓ev_peeks0, ↓ev_peeks1, ↓ev_toBm, ↓ew_toB, ↓ev_not, ↓ev_and, ↓ev_or, ↓ev_andV, ↓ev_orV, ↓ev_notV, ↓ev_negV, ↓ev_ifE, ↓ev_chain, ↓ev_R1, ↓ev_R2, ↓ev_srcR1, ↓ev_sl, ↓g_eqi, ↓g_eqs, ↓g_nei, ↓g_nes, ↓ev_call, ↓ev_lc, ↓tg_nm, ↓gd_s, ↓gd_z, ↓bk_0, ↓bk_1, ↓ev_some, ↓ev_toI, ↓g_ixl, ↓g_ixt, ↓g_ixs, ↓g_addi, ↓g_adds, ↓g_addl, ↓g_sub, ↓k_mul, ↓g_mull, ↓k_div, ↓k_mod, ↓k_pow, ↓g_lt, ↓g_le, ↓g_gt, ↓g_ge, ↓g_les, ↓g_neg, ↓g_lenl, ↓g_lent, ↓g_lenr, ↓g_lens, ↓g_abs, ↓g_inti, ↓g_intb, ↓g_stri, ↓g_listl, ↓g_listt, ↓g_tupl, ↓g_all, ↓g_isi, ↓g_repr, ↓g_slr, ↓g_sll, ↓g_sls, ↓ch_t, ↓ch_f, ↓ch_tt, ↓ch_ff, ↓and_t]
  refine next (fun hb hj0 => ?_) ?_
  · obtain ⟨j', ej⟩ : ∃ j', j = j' + 1 := ⟨j - 1, by omega⟩
    have cj' : cK j = 2 + 2 * cK j' := by rw [ej]; rfl
    refine draw_ev rfl (by decide) hp1 (by omega) (by decide) (by decide) fun m p2 b0 b1 hp2 => ?_
    try (simp (disch := (first | (simp only [decide_eq_true_eq, decide_eq_false_iff_not, Bool.not_eq_true]; first | assumption | omega) | assumption | omega | decide | (simp only [List.length_cons, List.length_nil, DL.sz]; omega))) only [↓ew_pure, ↓ew_bind, ↓ew_map, ↓ev_name, ↓nameQ_s, ↓nameQ_f, ↓nameQ_o, ↓nameQ_l, ↓slotQ_s, ↓slotQ_z, ↓ownQ_s, ↓ownQ_o, ↓ownQ_l, ↓upQ_s, ↓upQ_z, ↓ew_argF, ↓ew_argS, ↓ew_argO, ↓ew_frzF, ↓ew_frzO, ↓ev_frzS, ↓ew_peekF, ↓ew_peekS, ↓sw_seq, ↓sv_asg, ↓sv_ret, ↓sv_expr, ↓sv_st, ↓sv_if, ↓sv_for, ↓sv_setF, ↓sv_setO, ↓sv_setS, ↓sw_retF, ↓sw_retO, ↓sv_retS, ↓retU_s, ↓retU_o, ↓retU_l, ↓sw_nx, ↓sv_store, ↓lsQ_s, ↓lsQ_z, ↓st_1, ↓st_2, ↓st_3, ↓atQ_some, ↓at_0, ↓at_1, ↓at_2, ↓at_3, ↓ev_d2, ↓ev_frz, ↓ev_consF, ↓ev_cons, ↓ev_lst, ↓ev_tup, ↓ev_dC, ↓ev_peeks0, ↓ev_peeks1, ↓ev_toBm, ↓ew_toB, ↓ev_not, ↓ev_and, ↓ev_or, ↓ev_andV, ↓ev_orV, ↓ev_notV, ↓ev_negV, ↓ev_ifE, ↓ev_chain, ↓ev_R1, ↓ev_R2, ↓ev_srcR1, ↓ev_sl, ↓g_eqi, ↓g_eqs, ↓g_nei, ↓g_nes, ↓ev_call, ↓ev_lc, ↓tg_nm, ↓gd_s, ↓gd_z, ↓bk_0, ↓bk_1, ↓ev_some, ↓ev_toI, ↓g_ixl, ↓g_ixt, ↓g_ixs, ↓g_addi, ↓g_adds, ↓g_addl, ↓g_sub, ↓k_mul, ↓g_mull, ↓k_div, ↓k_mod, ↓k_pow, ↓g_lt, ↓g_le, ↓g_gt, ↓g_ge, ↓g_les, ↓g_neg, ↓g_lenl, ↓g_lent, ↓g_lenr, ↓g_lens, ↓g_abs, ↓g_inti, ↓g_intb, ↓g_stri, ↓g_listl, ↓g_listt, ↓g_tupl, ↓g_all, ↓g_isi, ↓g_repr, ↓g_slr, ↓g_sll, ↓g_sls, ↓ch_t, ↓ch_f, ↓ch_tt, ↓ch_ff, ↓and_t])
    refine cmp ej (hp2.mono (by omega)) b0 b1 fun acc p3 ha hl hp3 => ?_
    try (simp (disch := (first | (simp only [decide_eq_true_eq, decide_eq_false_iff_not, Bool.not_eq_true]; first | assumption | omega) | assumption | omega | decide | (simp only [List.length_cons, List.length_nil, DL.sz]; omega))) only [↓ew_pure, ↓ew_bind, ↓ew_map, ↓ev_name, ↓nameQ_s, ↓nameQ_f, ↓nameQ_o, ↓nameQ_l, ↓slotQ_s, ↓slotQ_z, ↓ownQ_s, ↓ownQ_o, ↓ownQ_l, ↓upQ_s, ↓upQ_z, ↓ew_argF, ↓ew_argS, ↓ew_argO, ↓ew_frzF, ↓ew_frzO, ↓ev_frzS, ↓ew_peekF, ↓ew_peekS, ↓sw_seq, ↓sv_asg, ↓sv_ret, ↓sv_expr, ↓sv_st, ↓sv_if, ↓sv_for, ↓sv_setF, ↓sv_setO, ↓sv_setS, ↓sw_retF, ↓sw_retO, ↓sv_retS, ↓retU_s, ↓retU_o, ↓retU_l, ↓sw_nx, ↓sv_store, ↓lsQ_s, ↓lsQ_z, ↓st_1, ↓st_2, ↓st_3, ↓atQ_some, ↓at_0, ↓at_1, ↓at_2, ↓at_3, ↓ev_d2, ↓ev_frz, ↓ev_consF, ↓ev_cons, ↓ev_lst, ↓ev_tup, ↓ev_dC, ↓ev_peeks0, ↓ev_peeks1, ↓ev_toBm, ↓ew_toB, ↓ev_not, ↓ev_and, ↓ev_or, ↓ev_andV, ↓ev_orV, ↓ev_notV, ↓ev_negV, ↓ev_ifE, ↓ev_chain, ↓ev_R1, ↓ev_R2, ↓ev_srcR1, ↓ev_sl, ↓g_eqi, ↓g_eqs, ↓g_nei, ↓g_nes, ↓ev_call, ↓ev_lc, ↓tg_nm, ↓gd_s, ↓gd_z, ↓bk_0, ↓bk_1, ↓ev_some, ↓ev_toI, ↓g_ixl, ↓g_ixt, ↓g_ixs, ↓g_addi, ↓g_adds, ↓g_addl, ↓g_sub, ↓k_mul, ↓g_mull, ↓k_div, ↓k_mod, ↓k_pow, ↓g_lt, ↓g_le, ↓g_gt, ↓g_ge, ↓g_les, ↓g_neg, ↓g_lenl, ↓g_lent, ↓g_lenr, ↓g_lens, ↓g_abs, ↓g_inti, ↓g_intb, ↓g_stri, ↓g_listl, ↓g_listt, ↓g_tupl, ↓g_all, ↓g_isi, ↓g_repr, ↓g_slr, ↓g_sll, ↓g_sls, ↓ch_t, ↓ch_f, ↓ch_tt, ↓ch_ff, ↓and_t])
    have fl := fine_tup (fun d hd => (ha d hd).fine) hl
    exact hR _ _ _ _ _ (.inl rfl) ⟨fl.mono (by rw [ej]; show _ ≤ 2 * (wK j' + 1) + 10; omega) (by omega), fun z e => by cases e⟩ hp3
  refine hN _ ?_
  clear hN N
  -- a dict
  refine sw_step fun N hN => ?_
  simp (disch := (first | (simp only [decide_eq_true_eq, decide_eq_false_iff_not, Bool.not_eq_true]; first | assumption | omega) | assumption | omega | decide | (simp only [List.length_cons, List.length_nil, DL.sz]; omega))) only [↓ew_pure, ↓ew_bind, ↓ew_map, ↓ev_name, ↓nameQ_s, ↓nameQ_f, ↓nameQ_o, ↓nameQ_l, ↓slotQ_s, ↓slotQ_z, ↓ownQ_s, ↓ownQ_o, ↓ownQ_l, ↓upQ_s, ↓upQ_z, ↓ew_argF, ↓ew_argS, ↓ew_argO, ↓ew_frzF, ↓ew_frzO, ↓ev_frzS, ↓ew_peekF, ↓ew_peekS, ↓sw_seq, ↓sv_asg, ↓sv_ret, ↓sv_expr, ↓sv_st, ↓sv_if, ↓sv_for, ↓sv_setF, ↓sv_setO, ↓sv_setS, ↓sw_retF, ↓sw_retO, ↓sv_retS, ↓retU_s, ↓retU_o, ↓retU_l, ↓sw_nx, ↓sv_store, ↓lsQ_s, ↓lsQ_z, ↓st_1, ↓st_2, ↓st_3, ↓atQ_some, ↓at_0, ↓at_1, ↓at_2, ↓at_3, ↓ev_d2, ↓ev_frz, ↓ev_consF, ↓ev_cons, ↓ev_lst, ↓ev_tup, ↓ev_dC, ↓ev_peeks0, ↓ev_peeks1, ↓ev_toBm, ↓ew_toB, ↓ev_not, ↓ev_and, ↓ev_or, ↓ev_andV, ↓ev_orV, ↓ev_notV, ↓ev_negV, ↓ev_ifE, ↓ev_chain, ↓ev_R1, ↓ev_R2, ↓ev_srcR1, ↓ev_sl, ↓g_eqi, ↓g_eqs, ↓g_nei, ↓g_nes, ↓ev_call, ↓ev_lc, ↓tg_nm, ↓gd_s, ↓gd_z, ↓bk_0, ↓bk_1, ↓ev_some, ↓ev_toI, ↓g_ixl, ↓g_ixt, ↓g_ixs, ↓g_addi, ↓g_adds, ↓g_addl, ↓g_sub, ↓k_mul, ↓g_mull, ↓k_div, ↓k_mod, ↓k_pow, ↓g_lt, ↓g_le, ↓g_gt, ↓g_ge, ↓g_les, ↓g_neg, ↓g_lenl, ↓g_lent, ↓g_lenr, ↓g_lens, ↓g_abs, ↓g_inti, ↓g_intb, ↓g_stri, ↓g_listl, ↓g_listt, ↓g_tupl, ↓g_all, ↓g_isi, ↓g_repr, ↓g_slr, ↓g_sll, ↓g_sls, ↓ch_t, ↓ch_f, ↓ch_tt, ↓ch_ff, ↓and_t, ↓ev_disp1]
  refine next (fun hb hj0 => ?_) ?_
  · obtain ⟨j', ej⟩ : ∃ j', j = j' + 1 := ⟨j - 1, by omega⟩
    have cj' : cK j = 2 + 2 * cK j' := by rw [ej]; rfl
    refine sub ej hp1 (by omega) (by omega) fun x d2 p3 hx hd2 hp3 => ?_
    have fl := fine_dct1 (k := "a") (by decide +kernel) hd2.fine
    have la : (Str.ofString "a").length = 1 := by decide +kernel
    have fin : AnyV j (.dct [.inr "a"] [d2]) := ⟨fl.mono (by rw [ej, la]; show _ ≤ 2 * (wK j' + 1) + 10; omega) (by omega), fun z e => by cases e⟩
    rcases hx with rfl | rfl
    · try (simp (disch := (first | (simp only [decide_eq_true_eq, decide_eq_false_iff_not, Bool.not_eq_true]; first | assumption | omega) | assumption | omega | decide | (simp only [List.length_cons, List.length_nil, DL.sz]; omega))) only [↓ew_pure, ↓ew_bind, ↓ew_map, ↓ev_name, ↓nameQ_s, ↓nameQ_f, ↓nameQ_o, ↓nameQ_l, ↓slotQ_s, ↓slotQ_z, ↓ownQ_s, ↓ownQ_o, ↓ownQ_l, ↓upQ_s, ↓upQ_z, ↓ew_argF, ↓ew_argS, ↓ew_argO, ↓ew_frzF, ↓ew_frzO, ↓ev_frzS, ↓ew_peekF, ↓ew_peekS, ↓sw_seq, ↓sv_asg, ↓sv_ret, ↓sv_expr, ↓sv_st, ↓sv_if, ↓sv_for, ↓sv_setF, ↓sv_setO, ↓sv_setS, ↓sw_retF, ↓sw_retO, ↓sv_retS, ↓retU_s, ↓retU_o, ↓retU_l, ↓sw_nx, ↓sv_store, ↓lsQ_s, ↓lsQ_z, ↓st_1, ↓st_2, ↓st_3, ↓atQ_some, ↓at_0, ↓at_1, ↓at_2, ↓at_3, ↓ev_d2, ↓ev_frz, ↓ev_consF, ↓ev_cons, ↓ev_lst, ↓ev_tup, ↓ev_dC, ↓ev_peeks0, ↓ev_peeks1, ↓ev_toBm, ↓ew_toB, ↓ev_not, ↓ev_and, ↓ev_or, ↓ev_andV, ↓ev_orV, ↓ev_notV, ↓ev_negV, ↓ev_ifE, ↓ev_chain, ↓ev_R1, ↓ev_R2, ↓ev_srcR1, ↓ev_sl, ↓g_eqi, ↓g_eqs, ↓g_nei, ↓g_nes, ↓ev_call, ↓ev_lc, ↓tg_nm, ↓gd_s, ↓gd_z, ↓bk_0, ↓bk_1, ↓ev_some, ↓ev_toI, ↓g_ixl, ↓g_ixt, ↓g_ixs, ↓g_addi, ↓g_adds, ↓g_addl, ↓g_sub, ↓k_mul, ↓g_mull, ↓k_div, ↓k_mod, ↓k_pow, ↓g_lt, ↓g_le, ↓g_gt, ↓g_ge, ↓g_les, ↓g_neg, ↓g_lenl, ↓g_lent, ↓g_lenr, ↓g_lens, ↓g_abs, ↓g_inti, ↓g_intb, ↓g_stri, ↓g_listl, ↓g_listt, ↓g_tupl, ↓g_all, ↓g_isi, ↓g_repr, ↓g_slr, ↓g_sll, ↓g_sls, ↓ch_t, ↓ch_f, ↓ch_tt, ↓ch_ff, ↓and_t])
      exact hR _ _ _ _ _ (.inr rfl) fin (hp3.mono (by omega))
    · try (simp (disch := (first | (simp only [decide_eq_true_eq, decide_eq_false_iff_not, Bool.not_eq_true]; first | assumption | omega) | assumption | omega | decide | (simp only [List.length_cons, List.length_nil, DL.sz]; omega))) only [↓ew_pure, ↓ew_bind, ↓ew_map, ↓ev_name, ↓nameQ_s, ↓nameQ_f, ↓nameQ_o, ↓nameQ_l, ↓slotQ_s, ↓slotQ_z, ↓ownQ_s, ↓ownQ_o, ↓ownQ_l, ↓upQ_s, ↓upQ_z, ↓ew_argF, ↓ew_argS, ↓ew_argO, ↓ew_frzF, ↓ew_frzO, ↓ev_frzS, ↓ew_peekF, ↓ew_peekS, ↓sw_seq, ↓sv_asg, ↓sv_ret, ↓sv_expr, ↓sv_st, ↓sv_if, ↓sv_for, ↓sv_setF, ↓sv_setO, ↓sv_setS, ↓sw_retF, ↓sw_retO, ↓sv_retS, ↓retU_s, ↓retU_o, ↓retU_l, ↓sw_nx, ↓sv_store, ↓lsQ_s, ↓lsQ_z, ↓st_1, ↓st_2, ↓st_3, ↓atQ_some, ↓at_0, ↓at_1, ↓at_2, ↓at_3, ↓ev_d2, ↓ev_frz, ↓ev_consF, ↓ev_cons, ↓ev_lst, ↓ev_tup, ↓ev_dC, ↓ev_peeks0, ↓ev_peeks1, ↓ev_toBm, ↓ew_toB, ↓ev_not, ↓ev_and, ↓ev_or, ↓ev_andV, ↓ev_orV, ↓ev_notV, ↓ev_negV, ↓ev_ifE, ↓ev_chain, ↓ev_R1, ↓ev_R2, ↓ev_srcR1, ↓ev_sl, ↓g_eqi, ↓g_eqs, ↓g_nei, ↓g_nes, ↓ev_call, ↓ev_lc, ↓tg_nm, ↓gd_s, ↓gd_z, ↓bk_0, ↓bk_1, ↓ev_some, ↓ev_toI, ↓g_ixl, ↓g_ixt, ↓g_ixs, ↓g_addi, ↓g_adds, ↓g_addl, ↓g_sub, ↓k_mul, ↓g_mull, ↓k_div, ↓k_mod, ↓k_pow, ↓g_lt, ↓g_le, ↓g_gt, ↓g_ge, ↓g_les, ↓g_neg, ↓g_lenl, ↓g_lent, ↓g_lenr, ↓g_lens, ↓g_abs, ↓g_inti, ↓g_intb, ↓g_stri, ↓g_listl, ↓g_listt, ↓g_tupl, ↓g_all, ↓g_isi, ↓g_repr, ↓g_slr, ↓g_sll, ↓g_sls, ↓ch_t, ↓ch_f, ↓ch_tt, ↓ch_ff, ↓and_t])
      exact hR _ _ _ _ _ (.inr rfl) fin (hp3.mono (by omega))
  refine hN _ ?_
  clear hN N
  -- some other
  refine sw_step fun N hN => ?_
  simp (disch := (first | (simp only [decide_eq_true_eq, decide_eq_false_iff_not, Bool.not_eq_true]; first | assumption | omega) | assumption | omega | decide | (simp only [List.length_cons, List.length_nil, DL.sz]; omega))) only [↓ew_pure, ↓ew_bind, ↓ew_map, ↓ev_name, ↓nameQ_s, ↓nameQ_f, ↓nameQ_o, ↓nameQ_l, ↓slotQ_s, ↓slotQ_z, ↓ownQ_s, ↓ownQ_o, ↓ownQ_l, ↓upQ_s, ↓upQ_z, ↓ew_argF, ↓ew_argS, ↓ew_argO, ↓ew_frzF, ↓ew_frzO, ↓ev_frzS, ↓ew_peekF, ↓ew_peekS, ↓sw_seq, ↓sv_asg, ↓sv_ret, ↓sv_expr, ↓sv_st, ↓sv_if, ↓sv_for, ↓sv_setF, ↓sv_setO, ↓sv_setS, ↓sw_retF, ↓sw_retO, ↓sv_retS, ↓retU_s, ↓retU_o, ↓retU_l, ↓sw_nx, ↓sv_store, ↓lsQ_s, ↓lsQ_z, ↓st_1, ↓st_2, ↓st_3, ↓atQ_some, ↓at_0, ↓at_1, ↓at_2, ↓at_3, ↓ev_d2, ↓ev_frz, ↓ev_consF, ↓ev_cons, ↓ev_lst, ↓ev_tup, ↓ev_dC, ↓ev_peeks0, ↓ev_peeks1, ↓ev_toBm, ↓ew_toB, ↓ev_not, ↓ev_and, ↓ev_or, ↓ev_andV, ↓ev_orV, ↓ev_notV, ↓ev_negV, ↓ev_ifE, ↓ev_chain, ↓ev_R1, ↓ev_R2, ↓ev_srcR1, ↓ev_sl, ↓g_eqi, ↓g_eqs, ↓g_nei, ↓g_nes, ↓ev_call, ↓ev_lc, ↓tg_nm, ↓gd_s, ↓gd_z, ↓bk_0, ↓bk_1, ↓ev_some, ↓ev_toI, ↓g_ixl, ↓g_ixt, ↓g_ixs, ↓g_addi, ↓g_adds, ↓g_addl, ↓g_sub, ↓k_mul, ↓g_mull, ↓k_div, ↓k_mod, ↓k_pow, ↓g_lt, ↓g_le, ↓g_gt, ↓g_ge, ↓g_les, ↓g_neg, ↓g_lenl, ↓g_lent, ↓g_lenr, ↓g_lens, ↓g_abs, ↓g_inti, ↓g_intb, ↓g_stri, ↓g_listl, ↓g_listt, ↓g_tupl, ↓g_all, ↓g_isi, ↓g_repr, ↓g_slr, ↓g_sll, ↓g_sls, ↓ch_t, ↓ch_f, ↓ch_tt, ↓ch_ff, ↓and_t]
  refine hN _ ?_
  clear hN N
  obtain ⟨d, hm, e⟩ := atI_of (l := [D.non, .bl true, .bl false, .int 0, .int 1, .int (-1), .int (10 ^ Int.toNat 59), .str "", .str "a", .str "A", .str "a b", .str "zzzzzzzz", .str "zzzzzzzzz", .str "a1"]) a0 (by simp; omega)
  simp (disch := (first | (simp only [decide_eq_true_eq, decide_eq_false_iff_not, Bool.not_eq_true]; first | assumption | omega) | assumption | omega | decide | (simp only [List.length_cons, List.length_nil, DL.sz]; omega))) only [↓ew_pure, ↓ew_bind, ↓ew_map, ↓ev_name, ↓nameQ_s, ↓nameQ_f, ↓nameQ_o, ↓nameQ_l, ↓slotQ_s, ↓slotQ_z, ↓ownQ_s, ↓ownQ_o, ↓ownQ_l, ↓upQ_s, ↓upQ_z, ↓ew_argF, ↓ew_argS, ↓ew_argO, ↓ew_frzF, ↓ew_frzO, ↓ev_frzS, ↓ew_peekF, ↓ew_peekS, ↓sw_seq, ↓sv_asg, ↓sv_ret, ↓sv_expr, ↓sv_st, ↓sv_if, ↓sv_for, ↓sv_setF, ↓sv_setO, ↓sv_setS, ↓sw_retF, ↓sw_retO, ↓sv_retS, ↓retU_s, ↓retU_o, ↓retU_l, ↓sw_nx, ↓sv_store, ↓lsQ_s, ↓lsQ_z, ↓st_1, ↓st_2, ↓st_3, ↓atQ_some, ↓at_0, ↓at_1, ↓at_2, ↓at_3, ↓ev_d2, ↓ev_frz, ↓ev_consF, ↓ev_cons, ↓ev_lst, ↓ev_tup, ↓ev_dC, ↓ev_peeks0, ↓ev_peeks1, ↓ev_toBm, ↓ew_toB, ↓ev_not, ↓ev_and, ↓ev_or, ↓ev_andV, ↓ev_orV, ↓ev_notV, ↓ev_negV, ↓ev_ifE, ↓ev_chain, ↓ev_R1, ↓ev_R2, ↓ev_srcR1, ↓ev_sl, ↓g_eqi, ↓g_eqs, ↓g_nei, ↓g_nes, ↓ev_call, ↓ev_lc, ↓tg_nm, ↓gd_s, ↓gd_z, ↓bk_0, ↓bk_1, ↓ev_some, ↓ev_toI, ↓g_ixl, ↓g_ixt, ↓g_ixs, ↓g_addi, ↓g_adds, ↓g_addl, ↓g_sub, ↓k_mul, ↓g_mull, ↓k_div, ↓k_mod, ↓k_pow, ↓g_lt, ↓g_le, ↓g_gt, ↓g_ge, ↓g_les, ↓g_neg, ↓g_lenl, ↓g_lent, ↓g_lenr, ↓g_lens, ↓g_abs, ↓g_inti, ↓g_intb, ↓g_stri, ↓g_listl, ↓g_listt, ↓g_tupl, ↓g_all, ↓g_isi, ↓g_repr, ↓g_slr, ↓g_sll, ↓g_sls, ↓ch_t, ↓ch_f, ↓ch_tt, ↓ch_ff, ↓and_t, ↓k_at e]
  exact hR _ _ _ _ _ (.inl rfl) (atom_ok hm) (hp1.mono (by omega))
end K01

set_option Elab.async false
set_option linter.all false
set_option maxRecDepth 100000
set_option maxHeartbeats 1000000
namespace K01
open PySem PySem.Spec PyProof.Rows L2 DL

/-! ### names, numbers -/
structure It (d : D) : Prop where
  fine : Fine 3000 10 d
  ok : ∀ z, d = .str z → ∀ c ∈ z.cps.toList, c < 1114112
def low (c : Nat) : Bool := decide (97 ≤ c) && decide (c ≤ 122)
def nameB : D → Bool
  | .str z => decide (1 ≤ z.cps.toList.length) && decide (z.cps.toList.length ≤ 8) && z.cps.toList.all low
  | _ => false
theorem nameB_str (z : Str) : nameB (.str z) = (decide (1 ≤ z.length) && decide (z.length ≤ 8) && z.cps.toList.all low) := by rw [len_of]; rfl
def numB (d : D) : Bool := isI d && !isB d
theorem letters_mem (c : Nat) : decide (c ∈ (Str.ofString "abcdefghijklmnopqrstuvwxyz").cps.toList) = low c := by
  have e : (Str.ofString "abcdefghijklmnopqrstuvwxyz").cps.toList = List.range' 97 26 := by decide +kernel
  rw [e]
  unfold low
  rw [Bool.eq_iff_iff]
  simp
  omega
theorem integer_ok {d : D} {Q : RV → Dl → Prop} (h : It d) (hQ : Q (.frz (.bl (numB d))) [none]) : CW (sem_is_integer [some ⟨d, .frz⟩]) Q := by
  obtain ⟨t, h1, h2, h3, h4⟩ := isi_ev h.fine
  unfold sem_is_integer
  rw [cw_semOf]
  show SW (d_is_integer [some ⟨_, .frz⟩]) _
  unfold d_is_integer
  simp (disch := (first | (simp only [decide_eq_true_eq, decide_eq_false_iff_not, Bool.not_eq_true]; first | assumption | omega) | assumption | omega | decide | (simp only [List.length_cons, List.length_nil, DL.sz]; omega))) only [↓ew_pure, ↓ew_bind, ↓ew_map, ↓ev_name, ↓nameQ_s, ↓nameQ_f, ↓nameQ_o, ↓nameQ_l, ↓slotQ_s, ↓slotQ_z, ↓ownQ_s, ↓ownQ_o, ↓ownQ_l, ↓upQ_s, ↓upQ_z, ↓ew_argF, ↓ew_argS, ↓ew_argO, ↓ew_frzF, ↓ew_frzO, ↓ev_frzS, ↓ew_peekF, ↓ew_peekS, ↓sw_seq, ↓sv_asg, ↓sv_ret, ↓sv_expr, ↓sv_st, ↓sv_if, ↓sv_for, ↓sv_setF, ↓sv_setO, ↓sv_setS, ↓sw_retF, ↓sw_retO, ↓sv_retS, ↓retU_s, ↓retU_o, ↓retU_l, ↓sw_nx, ↓sv_store, ↓lsQ_s, ↓lsQ_z, ↓st_1, ↓st_2, ↓st_3, ↓atQ_some, ↓at_0, ↓at_1, ↓at_2, ↓at_3, ↓ev_d2, ↓ev_frz, ↓ev_consF, ↓ev_cons, ↓ev_lst, ↓ev_tup, ↓ev_dC, ↓ev_peeks0, ↓ev_peeks1, ↓ev_toBm, ↓ew_toB, ↓ev_not, ↓ev_and, ↓ev_or, ↓ev_andV, ↓ev_orV, ↓ev_notV, ↓ev_negV, ↓ev_ifE, ↓ev_chain, ↓ev_SS, ↓ev_SL, ↓ev_ST, ↓g_in1, ↓ev_R1, ↓ev_R2, ↓ev_srcR1, ↓ev_sl, ↓g_eqi, ↓g_eqs, ↓g_nei, ↓g_nes, ↓ev_call, ↓ev_lc, ↓tg_nm, ↓gd_s, ↓gd_z, ↓bk_0, ↓bk_1, ↓ev_some, ↓ev_toI, ↓g_ixl, ↓g_ixt, ↓g_ixs, ↓g_addi, ↓g_adds, ↓g_addl, ↓g_sub, ↓k_mul, ↓g_mull, ↓k_div, ↓k_mod, ↓k_pow, ↓g_lt, ↓g_le, ↓g_gt, ↓g_ge, ↓g_les, ↓g_neg, ↓g_lenl, ↓g_lent, ↓g_lenr, ↓g_lens, ↓g_abs, ↓g_inti, ↓g_intb, ↓g_stri, ↓g_listl, ↓g_listt, ↓g_tupl, ↓g_all, ↓g_slr, ↓g_sll, ↓g_sls, ↓ch_t, ↓ch_f, ↓ch_tt, ↓ch_ff, ↓and_t, ↓k_isi h1 h3, ↓k_isi h1 h4]
  unfold numB at hQ
  refine ch_of (fun hb => ?_) (fun hb => ?_)
  · rw [hb] at hQ
    try (simp (disch := (first | (simp only [decide_eq_true_eq, decide_eq_false_iff_not, Bool.not_eq_true]; first | assumption | omega) | assumption | omega | decide | (simp only [List.length_cons, List.length_nil, DL.sz]; omega))) only [↓ew_pure, ↓ew_bind, ↓ew_map, ↓ev_name, ↓nameQ_s, ↓nameQ_f, ↓nameQ_o, ↓nameQ_l, ↓slotQ_s, ↓slotQ_z, ↓ownQ_s, ↓ownQ_o, ↓ownQ_l, ↓upQ_s, ↓upQ_z, ↓ew_argF, ↓ew_argS, ↓ew_argO, ↓ew_frzF, ↓ew_frzO, ↓ev_frzS, ↓ew_peekF, ↓ew_peekS, ↓sw_seq, ↓sv_asg, ↓sv_ret, ↓sv_expr, ↓sv_st, ↓sv_if, ↓sv_for, ↓sv_setF, ↓sv_setO, ↓sv_setS, ↓sw_retF, ↓sw_retO, ↓sv_retS, ↓retU_s, ↓retU_o, ↓retU_l, ↓sw_nx, ↓sv_store, ↓lsQ_s, ↓lsQ_z, ↓st_1, ↓st_2, ↓st_3, ↓atQ_some, ↓at_0, ↓at_1, ↓at_2, ↓at_3, ↓ev_d2, ↓ev_frz, ↓ev_consF, ↓ev_cons, ↓ev_lst, ↓ev_tup, ↓ev_dC, ↓ev_peeks0, ↓ev_peeks1, ↓ev_toBm, ↓ew_toB, ↓ev_not, ↓ev_and, ↓ev_or, ↓ev_andV, ↓ev_orV, ↓ev_notV, ↓ev_negV, ↓ev_ifE, ↓ev_chain, ↓ev_SS, ↓ev_SL, ↓ev_ST, ↓g_in1, ↓ev_R1, ↓ev_R2, ↓ev_srcR1, ↓ev_sl, ↓g_eqi, ↓g_eqs, ↓g_nei, ↓g_nes, ↓ev_call, ↓ev_lc, ↓tg_nm, ↓gd_s, ↓gd_z, ↓bk_0, ↓bk_1, ↓ev_some, ↓ev_toI, ↓g_ixl, ↓g_ixt, ↓g_ixs, ↓g_addi, ↓g_adds, ↓g_addl, ↓g_sub, ↓k_mul, ↓g_mull, ↓k_div, ↓k_mod, ↓k_pow, ↓g_lt, ↓g_le, ↓g_gt, ↓g_ge, ↓g_les, ↓g_neg, ↓g_lenl, ↓g_lent, ↓g_lenr, ↓g_lens, ↓g_abs, ↓g_inti, ↓g_intb, ↓g_stri, ↓g_listl, ↓g_listt, ↓g_tupl, ↓g_all, ↓g_slr, ↓g_sll, ↓g_sls, ↓ch_t, ↓ch_f, ↓ch_tt, ↓ch_ff, ↓and_t])
    exact hQ
  · rw [hb] at hQ
    try (simp (disch := (first | (simp only [decide_eq_true_eq, decide_eq_false_iff_not, Bool.not_eq_true]; first | assumption | omega) | assumption | omega | decide | (simp only [List.length_cons, List.length_nil, DL.sz]; omega))) only [↓ew_pure, ↓ew_bind, ↓ew_map, ↓ev_name, ↓nameQ_s, ↓nameQ_f, ↓nameQ_o, ↓nameQ_l, ↓slotQ_s, ↓slotQ_z, ↓ownQ_s, ↓ownQ_o, ↓ownQ_l, ↓upQ_s, ↓upQ_z, ↓ew_argF, ↓ew_argS, ↓ew_argO, ↓ew_frzF, ↓ew_frzO, ↓ev_frzS, ↓ew_peekF, ↓ew_peekS, ↓sw_seq, ↓sv_asg, ↓sv_ret, ↓sv_expr, ↓sv_st, ↓sv_if, ↓sv_for, ↓sv_setF, ↓sv_setO, ↓sv_setS, ↓sw_retF, ↓sw_retO, ↓sv_retS, ↓retU_s, ↓retU_o, ↓retU_l, ↓sw_nx, ↓sv_store, ↓lsQ_s, ↓lsQ_z, ↓st_1, ↓st_2, ↓st_3, ↓atQ_some, ↓at_0, ↓at_1, ↓at_2, ↓at_3, ↓ev_d2, ↓ev_frz, ↓ev_consF, ↓ev_cons, ↓ev_lst, ↓ev_tup, ↓ev_dC, ↓ev_peeks0, ↓ev_peeks1, ↓ev_toBm, ↓ew_toB, ↓ev_not, ↓ev_and, ↓ev_or, ↓ev_andV, ↓ev_orV, ↓ev_notV, ↓ev_negV, ↓ev_ifE, ↓ev_chain, ↓ev_SS, ↓ev_SL, ↓ev_ST, ↓g_in1, ↓ev_R1, ↓ev_R2, ↓ev_srcR1, ↓ev_sl, ↓g_eqi, ↓g_eqs, ↓g_nei, ↓g_nes, ↓ev_call, ↓ev_lc, ↓tg_nm, ↓gd_s, ↓gd_z, ↓bk_0, ↓bk_1, ↓ev_some, ↓ev_toI, ↓g_ixl, ↓g_ixt, ↓g_ixs, ↓g_addi, ↓g_adds, ↓g_addl, ↓g_sub, ↓k_mul, ↓g_mull, ↓k_div, ↓k_mod, ↓k_pow, ↓g_lt, ↓g_le, ↓g_gt, ↓g_ge, ↓g_les, ↓g_neg, ↓g_lenl, ↓g_lent, ↓g_lenr, ↓g_lens, ↓g_abs, ↓g_inti, ↓g_intb, ↓g_stri, ↓g_listl, ↓g_listt, ↓g_tupl, ↓g_all, ↓g_slr, ↓g_sll, ↓g_sls, ↓ch_t, ↓ch_f, ↓ch_tt, ↓ch_ff, ↓and_t])
    exact hQ
theorem integer_ev {d : D} {δ : Dl} {Q : RV → Dl → Prop} (h : It d) (hQ : Q (.frz (.bl (numB d))) δ) : clQ 1 0 1 sem_is_integer plain2 [.frz d] [] δ Q :=
  cl_of (cs := [some ⟨d, .frz⟩]) (kk := [.frz]) ⟨rfl, rfl, rfl⟩ rfl (by simp [slotsOf]) (integer_ok h hQ)
theorem depth_ok {d : D} {Q : RV → Dl → Prop} (h : It d) (hQ : Q (.frz (.bl (numB d))) [none]) : CW (sem_is_depth [some ⟨d, .frz⟩]) Q := by
  unfold sem_is_depth
  rw [cw_semOf]
  show SW (d_is_depth [some ⟨_, .frz⟩]) _
  unfold d_is_depth
  simp (disch := (first | (simp only [decide_eq_true_eq, decide_eq_false_iff_not, Bool.not_eq_true]; first | assumption | omega) | assumption | omega | decide | (simp only [List.length_cons, List.length_nil, DL.sz]; omega))) only [↓ew_pure, ↓ew_bind, ↓ew_map, ↓ev_name, ↓nameQ_s, ↓nameQ_f, ↓nameQ_o, ↓nameQ_l, ↓slotQ_s, ↓slotQ_z, ↓ownQ_s, ↓ownQ_o, ↓ownQ_l, ↓upQ_s, ↓upQ_z, ↓ew_argF, ↓ew_argS, ↓ew_argO, ↓ew_frzF, ↓ew_frzO, ↓ev_frzS, ↓ew_peekF, ↓ew_peekS, ↓sw_seq, ↓sv_asg, ↓sv_ret, ↓sv_expr, ↓sv_st, ↓sv_if, ↓sv_for, ↓sv_setF, ↓sv_setO, ↓sv_setS, ↓sw_retF, ↓sw_retO, ↓sv_retS, ↓retU_s, ↓retU_o, ↓retU_l, ↓sw_nx, ↓sv_store, ↓lsQ_s, ↓lsQ_z, ↓st_1, ↓st_2, ↓st_3, ↓atQ_some, ↓at_0, ↓at_1, ↓at_2, ↓at_3, ↓ev_d2, ↓ev_frz, ↓ev_consF, ↓ev_cons, ↓ev_lst, ↓ev_tup, ↓ev_dC, ↓ev_peeks0, ↓ev_peeks1, ↓ev_toBm, ↓ew_toB, ↓ev_not, ↓ev_and, ↓ev_or, ↓ev_andV, ↓ev_orV, ↓ev_notV, ↓ev_negV, ↓ev_ifE, ↓ev_chain, ↓ev_SS, ↓ev_SL, ↓ev_ST, ↓g_in1, ↓ev_R1, ↓ev_R2, ↓ev_srcR1, ↓ev_sl, ↓g_eqi, ↓g_eqs, ↓g_nei, ↓g_nes, ↓ev_call, ↓ev_lc, ↓tg_nm, ↓gd_s, ↓gd_z, ↓bk_0, ↓bk_1, ↓ev_some, ↓ev_toI, ↓g_ixl, ↓g_ixt, ↓g_ixs, ↓g_addi, ↓g_adds, ↓g_addl, ↓g_sub, ↓k_mul, ↓g_mull, ↓k_div, ↓k_mod, ↓k_pow, ↓g_lt, ↓g_le, ↓g_gt, ↓g_ge, ↓g_les, ↓g_neg, ↓g_lenl, ↓g_lent, ↓g_lenr, ↓g_lens, ↓g_abs, ↓g_inti, ↓g_intb, ↓g_stri, ↓g_listl, ↓g_listt, ↓g_tupl, ↓g_all, ↓g_slr, ↓g_sll, ↓g_sls, ↓ch_t, ↓ch_f, ↓ch_tt, ↓ch_ff, ↓and_t]
  refine integer_ev h ?_
  simp (disch := (first | (simp only [decide_eq_true_eq, decide_eq_false_iff_not, Bool.not_eq_true]; first | assumption | omega) | assumption | omega | decide | (simp only [List.length_cons, List.length_nil, DL.sz]; omega))) only [↓ew_pure, ↓ew_bind, ↓ew_map, ↓ev_name, ↓nameQ_s, ↓nameQ_f, ↓nameQ_o, ↓nameQ_l, ↓slotQ_s, ↓slotQ_z, ↓ownQ_s, ↓ownQ_o, ↓ownQ_l, ↓upQ_s, ↓upQ_z, ↓ew_argF, ↓ew_argS, ↓ew_argO, ↓ew_frzF, ↓ew_frzO, ↓ev_frzS, ↓ew_peekF, ↓ew_peekS, ↓sw_seq, ↓sv_asg, ↓sv_ret, ↓sv_expr, ↓sv_st, ↓sv_if, ↓sv_for, ↓sv_setF, ↓sv_setO, ↓sv_setS, ↓sw_retF, ↓sw_retO, ↓sv_retS, ↓retU_s, ↓retU_o, ↓retU_l, ↓sw_nx, ↓sv_store, ↓lsQ_s, ↓lsQ_z, ↓st_1, ↓st_2, ↓st_3, ↓atQ_some, ↓at_0, ↓at_1, ↓at_2, ↓at_3, ↓ev_d2, ↓ev_frz, ↓ev_consF, ↓ev_cons, ↓ev_lst, ↓ev_tup, ↓ev_dC, ↓ev_peeks0, ↓ev_peeks1, ↓ev_toBm, ↓ew_toB, ↓ev_not, ↓ev_and, ↓ev_or, ↓ev_andV, ↓ev_orV, ↓ev_notV, ↓ev_negV, ↓ev_ifE, ↓ev_chain, ↓ev_SS, ↓ev_SL, ↓ev_ST, ↓g_in1, ↓ev_R1, ↓ev_R2, ↓ev_srcR1, ↓ev_sl, ↓g_eqi, ↓g_eqs, ↓g_nei, ↓g_nes, ↓ev_call, ↓ev_lc, ↓tg_nm, ↓gd_s, ↓gd_z, ↓bk_0, ↓bk_1, ↓ev_some, ↓ev_toI, ↓g_ixl, ↓g_ixt, ↓g_ixs, ↓g_addi, ↓g_adds, ↓g_addl, ↓g_sub, ↓k_mul, ↓g_mull, ↓k_div, ↓k_mod, ↓k_pow, ↓g_lt, ↓g_le, ↓g_gt, ↓g_ge, ↓g_les, ↓g_neg, ↓g_lenl, ↓g_lent, ↓g_lenr, ↓g_lens, ↓g_abs, ↓g_inti, ↓g_intb, ↓g_stri, ↓g_listl, ↓g_listt, ↓g_tupl, ↓g_all, ↓g_slr, ↓g_sll, ↓g_sls, ↓ch_t, ↓ch_f, ↓ch_tt, ↓ch_ff, ↓and_t]
  exact hQ
theorem name_ok {d : D} {Q : RV → Dl → Prop} (h : It d) (hQ : Q (.frz (.bl (nameB d))) [none]) : CW (sem_is_name [some ⟨d, .frz⟩]) Q := by
  obtain ⟨t, h1, h2, h3, h4⟩ := isi_ev h.fine
  unfold sem_is_name
  rw [cw_semOf]
  show SW (d_is_name [some ⟨_, .frz⟩, none]) _
  have hQ' : ∀ l : Dl, Q (.frz (.bl (nameB d))) (cut 1 (some ⟨d, .frz⟩ :: l)) := fun _ => hQ
  generalize hP : Po.mk (fun δ => Q (.frz .non) (cut 1 δ)) (fun r δ => Q r (cut 1 δ)) (fun _ => False) (fun _ => False) = P
  have hR : ∀ l : Dl, P.rt (.frz (.bl (nameB d))) (some ⟨d, .frz⟩ :: l) := by subst hP; exact hQ'
  clear hP hQ' hQ
  have szl : sizeLine = 16777216 := rfl
  unfold d_is_name
  by_cases hs : isS d = true
  · obtain ⟨z, rfl⟩ : ∃ z, d = .str z := by cases d <;> first | exact ⟨_, rfl⟩ | cases hs
    have hl := fine_len h.fine
    refine sw_step fun N hN => ?_
    simp (disch := (first | (simp only [decide_eq_true_eq, decide_eq_false_iff_not, Bool.not_eq_true]; first | assumption | omega) | assumption | omega | decide | (simp only [List.length_cons, List.length_nil, DL.sz]; omega))) only [↓ew_pure, ↓ew_bind, ↓ew_map, ↓ev_name, ↓nameQ_s, ↓nameQ_f, ↓nameQ_o, ↓nameQ_l, ↓slotQ_s, ↓slotQ_z, ↓ownQ_s, ↓ownQ_o, ↓ownQ_l, ↓upQ_s, ↓upQ_z, ↓ew_argF, ↓ew_argS, ↓ew_argO, ↓ew_frzF, ↓ew_frzO, ↓ev_frzS, ↓ew_peekF, ↓ew_peekS, ↓sw_seq, ↓sv_asg, ↓sv_ret, ↓sv_expr, ↓sv_st, ↓sv_if, ↓sv_for, ↓sv_setF, ↓sv_setO, ↓sv_setS, ↓sw_retF, ↓sw_retO, ↓sv_retS, ↓retU_s, ↓retU_o, ↓retU_l, ↓sw_nx, ↓sv_store, ↓lsQ_s, ↓lsQ_z, ↓st_1, ↓st_2, ↓st_3, ↓atQ_some, ↓at_0, ↓at_1, ↓at_2, ↓at_3, ↓ev_d2, ↓ev_frz, ↓ev_consF, ↓ev_cons, ↓ev_lst, ↓ev_tup, ↓ev_dC, ↓ev_peeks0, ↓ev_peeks1, ↓ev_toBm, ↓ew_toB, ↓ev_not, ↓ev_and, ↓ev_or, ↓ev_andV, ↓ev_orV, ↓ev_notV, ↓ev_negV, ↓ev_ifE, ↓ev_chain, ↓ev_SS, ↓ev_SL, ↓ev_ST, ↓g_in1, ↓ev_R1, ↓ev_R2, ↓ev_srcR1, ↓ev_sl, ↓g_eqi, ↓g_eqs, ↓g_nei, ↓g_nes, ↓ev_call, ↓ev_lc, ↓tg_nm, ↓gd_s, ↓gd_z, ↓bk_0, ↓bk_1, ↓ev_some, ↓ev_toI, ↓g_ixl, ↓g_ixt, ↓g_ixs, ↓g_addi, ↓g_adds, ↓g_addl, ↓g_sub, ↓k_mul, ↓g_mull, ↓k_div, ↓k_mod, ↓k_pow, ↓g_lt, ↓g_le, ↓g_gt, ↓g_ge, ↓g_les, ↓g_neg, ↓g_lenl, ↓g_lent, ↓g_lenr, ↓g_lens, ↓g_abs, ↓g_inti, ↓g_intb, ↓g_stri, ↓g_listl, ↓g_listt, ↓g_tupl, ↓g_all, ↓g_slr, ↓g_sll, ↓g_sls, ↓ch_t, ↓ch_f, ↓ch_tt, ↓ch_ff, ↓and_t, ↓k_isi h1 h2]
    have e : isS (.str z) = true := rfl
    refine ch_of (fun hb => (by rw [e] at hb; cases hb)) (fun _ => ?_)
    try (simp (disch := (first | (simp only [decide_eq_true_eq, decide_eq_false_iff_not, Bool.not_eq_true]; first | assumption | omega) | assumption | omega | decide | (simp only [List.length_cons, List.length_nil, DL.sz]; omega))) only [↓ew_pure, ↓ew_bind, ↓ew_map, ↓ev_name, ↓nameQ_s, ↓nameQ_f, ↓nameQ_o, ↓nameQ_l, ↓slotQ_s, ↓slotQ_z, ↓ownQ_s, ↓ownQ_o, ↓ownQ_l, ↓upQ_s, ↓upQ_z, ↓ew_argF, ↓ew_argS, ↓ew_argO, ↓ew_frzF, ↓ew_frzO, ↓ev_frzS, ↓ew_peekF, ↓ew_peekS, ↓sw_seq, ↓sv_asg, ↓sv_ret, ↓sv_expr, ↓sv_st, ↓sv_if, ↓sv_for, ↓sv_setF, ↓sv_setO, ↓sv_setS, ↓sw_retF, ↓sw_retO, ↓sv_retS, ↓retU_s, ↓retU_o, ↓retU_l, ↓sw_nx, ↓sv_store, ↓lsQ_s, ↓lsQ_z, ↓st_1, ↓st_2, ↓st_3, ↓atQ_some, ↓at_0, ↓at_1, ↓at_2, ↓at_3, ↓ev_d2, ↓ev_frz, ↓ev_consF, ↓ev_cons, ↓ev_lst, ↓ev_tup, ↓ev_dC, ↓ev_peeks0, ↓ev_peeks1, ↓ev_toBm, ↓ew_toB, ↓ev_not, ↓ev_and, ↓ev_or, ↓ev_andV, ↓ev_orV, ↓ev_notV, ↓ev_negV, ↓ev_ifE, ↓ev_chain, ↓ev_SS, ↓ev_SL, ↓ev_ST, ↓g_in1, ↓ev_R1, ↓ev_R2, ↓ev_srcR1, ↓ev_sl, ↓g_eqi, ↓g_eqs, ↓g_nei, ↓g_nes, ↓ev_call, ↓ev_lc, ↓tg_nm, ↓gd_s, ↓gd_z, ↓bk_0, ↓bk_1, ↓ev_some, ↓ev_toI, ↓g_ixl, ↓g_ixt, ↓g_ixs, ↓g_addi, ↓g_adds, ↓g_addl, ↓g_sub, ↓k_mul, ↓g_mull, ↓k_div, ↓k_mod, ↓k_pow, ↓g_lt, ↓g_le, ↓g_gt, ↓g_ge, ↓g_les, ↓g_neg, ↓g_lenl, ↓g_lent, ↓g_lenr, ↓g_lens, ↓g_abs, ↓g_inti, ↓g_intb, ↓g_stri, ↓g_listl, ↓g_listt, ↓g_tupl, ↓g_all, ↓g_slr, ↓g_sll, ↓g_sls, ↓ch_t, ↓ch_f, ↓ch_tt, ↓ch_ff, ↓and_t])
    refine ch_of (fun hb => ?_) (fun hb => ?_)
    · try (simp (disch := (first | (simp only [decide_eq_true_eq, decide_eq_false_iff_not, Bool.not_eq_true]; first | assumption | omega) | assumption | omega | decide | (simp only [List.length_cons, List.length_nil, DL.sz]; omega))) only [↓ew_pure, ↓ew_bind, ↓ew_map, ↓ev_name, ↓nameQ_s, ↓nameQ_f, ↓nameQ_o, ↓nameQ_l, ↓slotQ_s, ↓slotQ_z, ↓ownQ_s, ↓ownQ_o, ↓ownQ_l, ↓upQ_s, ↓upQ_z, ↓ew_argF, ↓ew_argS, ↓ew_argO, ↓ew_frzF, ↓ew_frzO, ↓ev_frzS, ↓ew_peekF, ↓ew_peekS, ↓sw_seq, ↓sv_asg, ↓sv_ret, ↓sv_expr, ↓sv_st, ↓sv_if, ↓sv_for, ↓sv_setF, ↓sv_setO, ↓sv_setS, ↓sw_retF, ↓sw_retO, ↓sv_retS, ↓retU_s, ↓retU_o, ↓retU_l, ↓sw_nx, ↓sv_store, ↓lsQ_s, ↓lsQ_z, ↓st_1, ↓st_2, ↓st_3, ↓atQ_some, ↓at_0, ↓at_1, ↓at_2, ↓at_3, ↓ev_d2, ↓ev_frz, ↓ev_consF, ↓ev_cons, ↓ev_lst, ↓ev_tup, ↓ev_dC, ↓ev_peeks0, ↓ev_peeks1, ↓ev_toBm, ↓ew_toB, ↓ev_not, ↓ev_and, ↓ev_or, ↓ev_andV, ↓ev_orV, ↓ev_notV, ↓ev_negV, ↓ev_ifE, ↓ev_chain, ↓ev_SS, ↓ev_SL, ↓ev_ST, ↓g_in1, ↓ev_R1, ↓ev_R2, ↓ev_srcR1, ↓ev_sl, ↓g_eqi, ↓g_eqs, ↓g_nei, ↓g_nes, ↓ev_call, ↓ev_lc, ↓tg_nm, ↓gd_s, ↓gd_z, ↓bk_0, ↓bk_1, ↓ev_some, ↓ev_toI, ↓g_ixl, ↓g_ixt, ↓g_ixs, ↓g_addi, ↓g_adds, ↓g_addl, ↓g_sub, ↓k_mul, ↓g_mull, ↓k_div, ↓k_mod, ↓k_pow, ↓g_lt, ↓g_le, ↓g_gt, ↓g_ge, ↓g_les, ↓g_neg, ↓g_lenl, ↓g_lent, ↓g_lenr, ↓g_lens, ↓g_abs, ↓g_inti, ↓g_intb, ↓g_stri, ↓g_listl, ↓g_listt, ↓g_tupl, ↓g_all, ↓g_slr, ↓g_sll, ↓g_sls, ↓ch_t, ↓ch_f, ↓ch_tt, ↓ch_ff, ↓and_t])
      refine ch_of (fun hb2 => ?_) (fun hb2 => ?_)
      · have n1 : ¬ (z.length : Int) ≤ 8 := by
          intro h8
          rw [decide_eq_true h8] at hb2
          cases hb2
        have nb : nameB (.str z) = false := by
          rw [nameB_str, decide_eq_false (show ¬ z.length ≤ 8 by omega)]
          simp
        try (simp (disch := (first | (simp only [decide_eq_true_eq, decide_eq_false_iff_not, Bool.not_eq_true]; first | assumption | omega) | assumption | omega | decide | (simp only [List.length_cons, List.length_nil, DL.sz]; omega))) only [↓ew_pure, ↓ew_bind, ↓ew_map, ↓ev_name, ↓nameQ_s, ↓nameQ_f, ↓nameQ_o, ↓nameQ_l, ↓slotQ_s, ↓slotQ_z, ↓ownQ_s, ↓ownQ_o, ↓ownQ_l, ↓upQ_s, ↓upQ_z, ↓ew_argF, ↓ew_argS, ↓ew_argO, ↓ew_frzF, ↓ew_frzO, ↓ev_frzS, ↓ew_peekF, ↓ew_peekS, ↓sw_seq, ↓sv_asg, ↓sv_ret, ↓sv_expr, ↓sv_st, ↓sv_if, ↓sv_for, ↓sv_setF, ↓sv_setO, ↓sv_setS, ↓sw_retF, ↓sw_retO, ↓sv_retS, ↓retU_s, ↓retU_o, ↓retU_l, ↓sw_nx, ↓sv_store, ↓lsQ_s, ↓lsQ_z, ↓st_1, ↓st_2, ↓st_3, ↓atQ_some, ↓at_0, ↓at_1, ↓at_2, ↓at_3, ↓ev_d2, ↓ev_frz, ↓ev_consF, ↓ev_cons, ↓ev_lst, ↓ev_tup, ↓ev_dC, ↓ev_peeks0, ↓ev_peeks1, ↓ev_toBm, ↓ew_toB, ↓ev_not, ↓ev_and, ↓ev_or, ↓ev_andV, ↓ev_orV, ↓ev_notV, ↓ev_negV, ↓ev_ifE, ↓ev_chain, ↓ev_SS, ↓ev_SL, ↓ev_ST, ↓g_in1, ↓ev_R1, ↓ev_R2, ↓ev_srcR1, ↓ev_sl, ↓g_eqi, ↓g_eqs, ↓g_nei, ↓g_nes, ↓ev_call, ↓ev_lc, ↓tg_nm, ↓gd_s, ↓gd_z, ↓bk_0, ↓bk_1, ↓ev_some, ↓ev_toI, ↓g_ixl, ↓g_ixt, ↓g_ixs, ↓g_addi, ↓g_adds, ↓g_addl, ↓g_sub, ↓k_mul, ↓g_mull, ↓k_div, ↓k_mod, ↓k_pow, ↓g_lt, ↓g_le, ↓g_gt, ↓g_ge, ↓g_les, ↓g_neg, ↓g_lenl, ↓g_lent, ↓g_lenr, ↓g_lens, ↓g_abs, ↓g_inti, ↓g_intb, ↓g_stri, ↓g_listl, ↓g_listt, ↓g_tupl, ↓g_all, ↓g_slr, ↓g_sll, ↓g_sls, ↓ch_t, ↓ch_f, ↓ch_tt, ↓ch_ff, ↓and_t])
        rw [← nb]
        exact hR _
      · have n1 : (z.length : Int) ≤ 8 := by
          refine Decidable.byContradiction fun h8 => ?_
          rw [decide_eq_false h8] at hb2
          cases hb2
        have n0 := of_decide_eq_true hb
        try (simp (disch := (first | (simp only [decide_eq_true_eq, decide_eq_false_iff_not, Bool.not_eq_true]; first | assumption | omega) | assumption | omega | decide | (simp only [List.length_cons, List.length_nil, DL.sz]; omega))) only [↓ew_pure, ↓ew_bind, ↓ew_map, ↓ev_name, ↓nameQ_s, ↓nameQ_f, ↓nameQ_o, ↓nameQ_l, ↓slotQ_s, ↓slotQ_z, ↓ownQ_s, ↓ownQ_o, ↓ownQ_l, ↓upQ_s, ↓upQ_z, ↓ew_argF, ↓ew_argS, ↓ew_argO, ↓ew_frzF, ↓ew_frzO, ↓ev_frzS, ↓ew_peekF, ↓ew_peekS, ↓sw_seq, ↓sv_asg, ↓sv_ret, ↓sv_expr, ↓sv_st, ↓sv_if, ↓sv_for, ↓sv_setF, ↓sv_setO, ↓sv_setS, ↓sw_retF, ↓sw_retO, ↓sv_retS, ↓retU_s, ↓retU_o, ↓retU_l, ↓sw_nx, ↓sv_store, ↓lsQ_s, ↓lsQ_z, ↓st_1, ↓st_2, ↓st_3, ↓atQ_some, ↓at_0, ↓at_1, ↓at_2, ↓at_3, ↓ev_d2, ↓ev_frz, ↓ev_consF, ↓ev_cons, ↓ev_lst, ↓ev_tup, ↓ev_dC, ↓ev_peeks0, ↓ev_peeks1, ↓ev_toBm, ↓ew_toB, ↓ev_not, ↓ev_and, ↓ev_or, ↓ev_andV, ↓ev_orV, ↓ev_notV, ↓ev_negV, ↓ev_ifE, ↓ev_chain, ↓ev_SS, ↓ev_SL, ↓ev_ST, ↓g_in1, ↓ev_R1, ↓ev_R2, ↓ev_srcR1, ↓ev_sl, ↓g_eqi, ↓g_eqs, ↓g_nei, ↓g_nes, ↓ev_call, ↓ev_lc, ↓tg_nm, ↓gd_s, ↓gd_z, ↓bk_0, ↓bk_1, ↓ev_some, ↓ev_toI, ↓g_ixl, ↓g_ixt, ↓g_ixs, ↓g_addi, ↓g_adds, ↓g_addl, ↓g_sub, ↓k_mul, ↓g_mull, ↓k_div, ↓k_mod, ↓k_pow, ↓g_lt, ↓g_le, ↓g_gt, ↓g_ge, ↓g_les, ↓g_neg, ↓g_lenl, ↓g_lent, ↓g_lenr, ↓g_lens, ↓g_abs, ↓g_inti, ↓g_intb, ↓g_stri, ↓g_listl, ↓g_listt, ↓g_tupl, ↓g_all, ↓g_slr, ↓g_sll, ↓g_sls, ↓ch_t, ↓ch_f, ↓ch_tt, ↓ch_ff, ↓and_t])
        refine hN _ ?_
        clear hN N
        simp (disch := (first | (simp only [decide_eq_true_eq, decide_eq_false_iff_not, Bool.not_eq_true]; first | assumption | omega) | assumption | omega | decide | (simp only [List.length_cons, List.length_nil, DL.sz]; omega))) only [↓ew_pure, ↓ew_bind, ↓ew_map, ↓ev_name, ↓nameQ_s, ↓nameQ_f, ↓nameQ_o, ↓nameQ_l, ↓slotQ_s, ↓slotQ_z, ↓ownQ_s, ↓ownQ_o, ↓ownQ_l, ↓upQ_s, ↓upQ_z, ↓ew_argF, ↓ew_argS, ↓ew_argO, ↓ew_frzF, ↓ew_frzO, ↓ev_frzS, ↓ew_peekF, ↓ew_peekS, ↓sw_seq, ↓sv_asg, ↓sv_ret, ↓sv_expr, ↓sv_st, ↓sv_if, ↓sv_for, ↓sv_setF, ↓sv_setO, ↓sv_setS, ↓sw_retF, ↓sw_retO, ↓sv_retS, ↓retU_s, ↓retU_o, ↓retU_l, ↓sw_nx, ↓sv_store, ↓lsQ_s, ↓lsQ_z, ↓st_1, ↓st_2, ↓st_3, ↓atQ_some, ↓at_0, ↓at_1, ↓at_2, ↓at_3, ↓ev_d2, ↓ev_frz, ↓ev_consF, ↓ev_cons, ↓ev_lst, ↓ev_tup, ↓ev_dC, ↓ev_peeks0, ↓ev_peeks1, ↓ev_toBm, ↓ew_toB, ↓ev_not, ↓ev_and, ↓ev_or, ↓ev_andV, ↓ev_orV, ↓ev_notV, ↓ev_negV, ↓ev_ifE, ↓ev_chain, ↓ev_SS, ↓ev_SL, ↓ev_ST, ↓g_in1, ↓ev_R1, ↓ev_R2, ↓ev_srcR1, ↓ev_sl, ↓g_eqi, ↓g_eqs, ↓g_nei, ↓g_nes, ↓ev_call, ↓ev_lc, ↓tg_nm, ↓gd_s, ↓gd_z, ↓bk_0, ↓bk_1, ↓ev_some, ↓ev_toI, ↓g_ixl, ↓g_ixt, ↓g_ixs, ↓g_addi, ↓g_adds, ↓g_addl, ↓g_sub, ↓k_mul, ↓g_mull, ↓k_div, ↓k_mod, ↓k_pow, ↓g_lt, ↓g_le, ↓g_gt, ↓g_ge, ↓g_les, ↓g_neg, ↓g_lenl, ↓g_lent, ↓g_lenr, ↓g_lens, ↓g_abs, ↓g_inti, ↓g_intb, ↓g_stri, ↓g_listl, ↓g_listt, ↓g_tupl, ↓g_all, ↓g_slr, ↓g_sll, ↓g_sls, ↓ch_t, ↓ch_f, ↓ch_tt, ↓ch_ff, ↓and_t]
        refine lc_of (S := Unit) (L := fun _ => [some ⟨.str z, .frz⟩, none]) (J := fun i acc _ => acc = (z.cps.toList.take i).map fun c => D.bl (low c)) () rfl rfl (wipeD_idem _ _) (fun i d acc s hd hJ => ?_) (fun acc s hJ => ?_)
        · unfold DL.signs at hd
          rw [List.getElem?_map] at hd
          cases hc : z.cps.toList[i]? with
          | none => rw [hc] at hd; cases hd
          | some c =>
            rw [hc] at hd
            cases hd
            simp (disch := (first | (simp only [decide_eq_true_eq, decide_eq_false_iff_not, Bool.not_eq_true]; first | assumption | omega) | assumption | omega | decide | (simp only [List.length_cons, List.length_nil, DL.sz]; omega))) only [↓ew_pure, ↓ew_bind, ↓ew_map, ↓ev_name, ↓nameQ_s, ↓nameQ_f, ↓nameQ_o, ↓nameQ_l, ↓slotQ_s, ↓slotQ_z, ↓ownQ_s, ↓ownQ_o, ↓ownQ_l, ↓upQ_s, ↓upQ_z, ↓ew_argF, ↓ew_argS, ↓ew_argO, ↓ew_frzF, ↓ew_frzO, ↓ev_frzS, ↓ew_peekF, ↓ew_peekS, ↓sw_seq, ↓sv_asg, ↓sv_ret, ↓sv_expr, ↓sv_st, ↓sv_if, ↓sv_for, ↓sv_setF, ↓sv_setO, ↓sv_setS, ↓sw_retF, ↓sw_retO, ↓sv_retS, ↓retU_s, ↓retU_o, ↓retU_l, ↓sw_nx, ↓sv_store, ↓lsQ_s, ↓lsQ_z, ↓st_1, ↓st_2, ↓st_3, ↓atQ_some, ↓at_0, ↓at_1, ↓at_2, ↓at_3, ↓ev_d2, ↓ev_frz, ↓ev_consF, ↓ev_cons, ↓ev_lst, ↓ev_tup, ↓ev_dC, ↓ev_peeks0, ↓ev_peeks1, ↓ev_toBm, ↓ew_toB, ↓ev_not, ↓ev_and, ↓ev_or, ↓ev_andV, ↓ev_orV, ↓ev_notV, ↓ev_negV, ↓ev_ifE, ↓ev_chain, ↓ev_SS, ↓ev_SL, ↓ev_ST, ↓g_in1, ↓ev_R1, ↓ev_R2, ↓ev_srcR1, ↓ev_sl, ↓g_eqi, ↓g_eqs, ↓g_nei, ↓g_nes, ↓ev_call, ↓ev_lc, ↓tg_nm, ↓gd_s, ↓gd_z, ↓bk_0, ↓bk_1, ↓ev_some, ↓ev_toI, ↓g_ixl, ↓g_ixt, ↓g_ixs, ↓g_addi, ↓g_adds, ↓g_addl, ↓g_sub, ↓k_mul, ↓g_mull, ↓k_div, ↓k_mod, ↓k_pow, ↓g_lt, ↓g_le, ↓g_gt, ↓g_ge, ↓g_les, ↓g_neg, ↓g_lenl, ↓g_lent, ↓g_lenr, ↓g_lens, ↓g_abs, ↓g_inti, ↓g_intb, ↓g_stri, ↓g_listl, ↓g_listt, ↓g_tupl, ↓g_all, ↓g_slr, ↓g_sll, ↓g_sls, ↓ch_t, ↓ch_f, ↓ch_tt, ↓ch_ff, ↓and_t]
            refine ⟨?_, (), rfl, ?_⟩
            · rw [hJ, List.length_map, List.length_take, sz]
              rw [← len_of]
              omega
            · rw [hJ, letters_mem, List.take_add_one, hc]
              simp
        · unfold DL.signs at hJ
          rw [List.length_map, List.take_length] at hJ
          subst hJ
          have eb : bools (z.cps.toList.map fun c => D.bl (low c)) = some (z.cps.toList.map low) := by
            have := bools_map (z.cps.toList.map low)
            rw [List.map_map] at this
            exact this
          simp (disch := (first | (simp only [decide_eq_true_eq, decide_eq_false_iff_not, Bool.not_eq_true]; first | assumption | omega) | assumption | omega | decide | (simp only [List.length_cons, List.length_nil, DL.sz]; omega))) only [↓ew_pure, ↓ew_bind, ↓ew_map, ↓ev_name, ↓nameQ_s, ↓nameQ_f, ↓nameQ_o, ↓nameQ_l, ↓slotQ_s, ↓slotQ_z, ↓ownQ_s, ↓ownQ_o, ↓ownQ_l, ↓upQ_s, ↓upQ_z, ↓ew_argF, ↓ew_argS, ↓ew_argO, ↓ew_frzF, ↓ew_frzO, ↓ev_frzS, ↓ew_peekF, ↓ew_peekS, ↓sw_seq, ↓sv_asg, ↓sv_ret, ↓sv_expr, ↓sv_st, ↓sv_if, ↓sv_for, ↓sv_setF, ↓sv_setO, ↓sv_setS, ↓sw_retF, ↓sw_retO, ↓sv_retS, ↓retU_s, ↓retU_o, ↓retU_l, ↓sw_nx, ↓sv_store, ↓lsQ_s, ↓lsQ_z, ↓st_1, ↓st_2, ↓st_3, ↓atQ_some, ↓at_0, ↓at_1, ↓at_2, ↓at_3, ↓ev_d2, ↓ev_frz, ↓ev_consF, ↓ev_cons, ↓ev_lst, ↓ev_tup, ↓ev_dC, ↓ev_peeks0, ↓ev_peeks1, ↓ev_toBm, ↓ew_toB, ↓ev_not, ↓ev_and, ↓ev_or, ↓ev_andV, ↓ev_orV, ↓ev_notV, ↓ev_negV, ↓ev_ifE, ↓ev_chain, ↓ev_SS, ↓ev_SL, ↓ev_ST, ↓g_in1, ↓ev_R1, ↓ev_R2, ↓ev_srcR1, ↓ev_sl, ↓g_eqi, ↓g_eqs, ↓g_nei, ↓g_nes, ↓ev_call, ↓ev_lc, ↓tg_nm, ↓gd_s, ↓gd_z, ↓bk_0, ↓bk_1, ↓ev_some, ↓ev_toI, ↓g_ixl, ↓g_ixt, ↓g_ixs, ↓g_addi, ↓g_adds, ↓g_addl, ↓g_sub, ↓k_mul, ↓g_mull, ↓k_div, ↓k_mod, ↓k_pow, ↓g_lt, ↓g_le, ↓g_gt, ↓g_ge, ↓g_les, ↓g_neg, ↓g_lenl, ↓g_lent, ↓g_lenr, ↓g_lens, ↓g_abs, ↓g_inti, ↓g_intb, ↓g_stri, ↓g_listl, ↓g_listt, ↓g_tupl, ↓g_all, ↓g_slr, ↓g_sll, ↓g_sls, ↓ch_t, ↓ch_f, ↓ch_tt, ↓ch_ff, ↓and_t, eb]
          have nb : nameB (.str z) = (z.cps.toList.map low).all id := by
            rw [nameB_str, decide_eq_true (show 1 ≤ z.length by omega), decide_eq_true (show z.length ≤ 8 by omega)]
            simp
          rw [← nb]
          exact hR _
    · have n1 : ¬ (1 : Int) ≤ (z.length : Int) := of_decide_eq_false hb
      have nb : nameB (.str z) = false := by
        rw [nameB_str, decide_eq_false (show ¬ 1 ≤ z.length by omega)]
        simp
      try (simp (disch := (first | (simp only [decide_eq_true_eq, decide_eq_false_iff_not, Bool.not_eq_true]; first | assumption | omega) | assumption | omega | decide | (simp only [List.length_cons, List.length_nil, DL.sz]; omega))) only [↓ew_pure, ↓ew_bind, ↓ew_map, ↓ev_name, ↓nameQ_s, ↓nameQ_f, ↓nameQ_o, ↓nameQ_l, ↓slotQ_s, ↓slotQ_z, ↓ownQ_s, ↓ownQ_o, ↓ownQ_l, ↓upQ_s, ↓upQ_z, ↓ew_argF, ↓ew_argS, ↓ew_argO, ↓ew_frzF, ↓ew_frzO, ↓ev_frzS, ↓ew_peekF, ↓ew_peekS, ↓sw_seq, ↓sv_asg, ↓sv_ret, ↓sv_expr, ↓sv_st, ↓sv_if, ↓sv_for, ↓sv_setF, ↓sv_setO, ↓sv_setS, ↓sw_retF, ↓sw_retO, ↓sv_retS, ↓retU_s, ↓retU_o, ↓retU_l, ↓sw_nx, ↓sv_store, ↓lsQ_s, ↓lsQ_z, ↓st_1, ↓st_2, ↓st_3, ↓atQ_some, ↓at_0, ↓at_1, ↓at_2, ↓at_3, ↓ev_d2, ↓ev_frz, ↓ev_consF, ↓ev_cons, ↓ev_lst, ↓ev_tup, ↓ev_dC, ↓ev_peeks0, ↓ev_peeks1, ↓ev_toBm, ↓ew_toB, ↓ev_not, ↓ev_and, ↓ev_or, ↓ev_andV, ↓ev_orV, ↓ev_notV, ↓ev_negV, ↓ev_ifE, ↓ev_chain, ↓ev_SS, ↓ev_SL, ↓ev_ST, ↓g_in1, ↓ev_R1, ↓ev_R2, ↓ev_srcR1, ↓ev_sl, ↓g_eqi, ↓g_eqs, ↓g_nei, ↓g_nes, ↓ev_call, ↓ev_lc, ↓tg_nm, ↓gd_s, ↓gd_z, ↓bk_0, ↓bk_1, ↓ev_some, ↓ev_toI, ↓g_ixl, ↓g_ixt, ↓g_ixs, ↓g_addi, ↓g_adds, ↓g_addl, ↓g_sub, ↓k_mul, ↓g_mull, ↓k_div, ↓k_mod, ↓k_pow, ↓g_lt, ↓g_le, ↓g_gt, ↓g_ge, ↓g_les, ↓g_neg, ↓g_lenl, ↓g_lent, ↓g_lenr, ↓g_lens, ↓g_abs, ↓g_inti, ↓g_intb, ↓g_stri, ↓g_listl, ↓g_listt, ↓g_tupl, ↓g_all, ↓g_slr, ↓g_sll, ↓g_sls, ↓ch_t, ↓ch_f, ↓ch_tt, ↓ch_ff, ↓and_t])
      rw [← nb]
      exact hR _
  · have hs' : isS d = false := by cases e : isS d <;> first | rfl | exact absurd e hs
    rw [hs'] at h2
    have nb : nameB d = false := by cases d <;> first | rfl | cases hs'
    refine sw_step fun N hN => ?_
    simp (disch := (first | (simp only [decide_eq_true_eq, decide_eq_false_iff_not, Bool.not_eq_true]; first | assumption | omega) | assumption | omega | decide | (simp only [List.length_cons, List.length_nil, DL.sz]; omega))) only [↓ew_pure, ↓ew_bind, ↓ew_map, ↓ev_name, ↓nameQ_s, ↓nameQ_f, ↓nameQ_o, ↓nameQ_l, ↓slotQ_s, ↓slotQ_z, ↓ownQ_s, ↓ownQ_o, ↓ownQ_l, ↓upQ_s, ↓upQ_z, ↓ew_argF, ↓ew_argS, ↓ew_argO, ↓ew_frzF, ↓ew_frzO, ↓ev_frzS, ↓ew_peekF, ↓ew_peekS, ↓sw_seq, ↓sv_asg, ↓sv_ret, ↓sv_expr, ↓sv_st, ↓sv_if, ↓sv_for, ↓sv_setF, ↓sv_setO, ↓sv_setS, ↓sw_retF, ↓sw_retO, ↓sv_retS, ↓retU_s, ↓retU_o, ↓retU_l, ↓sw_nx, ↓sv_store, ↓lsQ_s, ↓lsQ_z, ↓st_1, ↓st_2, ↓st_3, ↓atQ_some, ↓at_0, ↓at_1, ↓at_2, ↓at_3, ↓ev_d2, ↓ev_frz, ↓ev_consF, ↓ev_cons, ↓ev_lst, ↓ev_tup, ↓ev_dC, ↓ev_peeks0, ↓ev_peeks1, ↓ev_toBm, ↓ew_toB, ↓ev_not, ↓ev_and, ↓ev_or, ↓ev_andV, ↓ev_orV, ↓ev_notV, ↓ev_negV, ↓ev_ifE, ↓ev_chain, ↓ev_SS, ↓ev_SL, ↓ev_ST, ↓g_in1, ↓ev_R1, ↓ev_R2, ↓ev_srcR1, ↓ev_sl, ↓g_eqi, ↓g_eqs, ↓g_nei, ↓g_nes, ↓ev_call, ↓ev_lc, ↓tg_nm, ↓gd_s, ↓gd_z, ↓bk_0, ↓bk_1, ↓ev_some, ↓ev_toI, ↓g_ixl, ↓g_ixt, ↓g_ixs, ↓g_addi, ↓g_adds, ↓g_addl, ↓g_sub, ↓k_mul, ↓g_mull, ↓k_div, ↓k_mod, ↓k_pow, ↓g_lt, ↓g_le, ↓g_gt, ↓g_ge, ↓g_les, ↓g_neg, ↓g_lenl, ↓g_lent, ↓g_lenr, ↓g_lens, ↓g_abs, ↓g_inti, ↓g_intb, ↓g_stri, ↓g_listl, ↓g_listt, ↓g_tupl, ↓g_all, ↓g_slr, ↓g_sll, ↓g_sls, ↓ch_t, ↓ch_f, ↓ch_tt, ↓ch_ff, ↓and_t, ↓k_isi h1 h2]
    rw [← nb]
    exact hR _
end K01

set_option Elab.async false
set_option linter.all false
set_option maxRecDepth 100000
set_option maxHeartbeats 1000000
namespace K01
open PySem PySem.Spec PyProof.Rows L2 DL
theorem low_a (c : Nat) : (!decide ((⟨#[c]⟩ : Str).cps.toList < (Str.ofString "a").cps.toList)) = decide (97 ≤ c) := by
  have e : (Str.ofString "a").cps.toList = [97] := by decide +kernel
  rw [e]
  show (!decide ([c] < [97])) = _
  rw [one_lt, Bool.eq_iff_iff]
  simp
theorem low_z (c : Nat) : (!decide ((Str.ofString "z").cps.toList < (⟨#[c]⟩ : Str).cps.toList)) = decide (c ≤ 122) := by
  have e : (Str.ofString "z").cps.toList = [122] := by decide +kernel
  rw [e]
  show (!decide ([122] < [c])) = _
  rw [one_lt, Bool.eq_iff_iff]
  simp
theorem is_word_ok {d : D} {Q : RV → Dl → Prop} (h : It d) (hQ : Q (.frz (.bl (nameB d))) [none]) : CW (sem_is_word [some ⟨d, .frz⟩]) Q := by
  obtain ⟨t, h1, h2, h3, h4⟩ := isi_ev h.fine
  unfold sem_is_word
  rw [cw_semOf]
  show SW (d_is_word [some ⟨_, .frz⟩, none]) _
  have hQ' : ∀ l : Dl, Q (.frz (.bl (nameB d))) (cut 1 (some ⟨d, .frz⟩ :: l)) := fun _ => hQ
  generalize hP : Po.mk (fun δ => Q (.frz .non) (cut 1 δ)) (fun r δ => Q r (cut 1 δ)) (fun _ => False) (fun _ => False) = P
  have hR : ∀ l : Dl, P.rt (.frz (.bl (nameB d))) (some ⟨d, .frz⟩ :: l) := by subst hP; exact hQ'
  clear hP hQ' hQ
  have szl : sizeLine = 16777216 := rfl
  unfold d_is_word
  by_cases hs : isS d = true
  · obtain ⟨z, rfl⟩ : ∃ z, d = .str z := by cases d <;> first | exact ⟨_, rfl⟩ | cases hs
    have hl := fine_len h.fine
    have hz := h.ok z rfl
    refine sw_step fun N hN => ?_
    simp (disch := (first | (simp only [decide_eq_true_eq, decide_eq_false_iff_not, Bool.not_eq_true]; first | assumption | omega) | assumption | omega | decide | (simp only [List.length_cons, List.length_nil, DL.sz]; omega))) only [↓ew_pure, ↓ew_bind, ↓ew_map, ↓ev_name, ↓nameQ_s, ↓nameQ_f, ↓nameQ_o, ↓nameQ_l, ↓slotQ_s, ↓slotQ_z, ↓ownQ_s, ↓ownQ_o, ↓ownQ_l, ↓upQ_s, ↓upQ_z, ↓ew_argF, ↓ew_argS, ↓ew_argO, ↓ew_frzF, ↓ew_frzO, ↓ev_frzS, ↓ew_peekF, ↓ew_peekS, ↓sw_seq, ↓sv_asg, ↓sv_ret, ↓sv_expr, ↓sv_st, ↓sv_if, ↓sv_for, ↓sv_setF, ↓sv_setO, ↓sv_setS, ↓sw_retF, ↓sw_retO, ↓sv_retS, ↓retU_s, ↓retU_o, ↓retU_l, ↓sw_nx, ↓sv_store, ↓lsQ_s, ↓lsQ_z, ↓st_1, ↓st_2, ↓st_3, ↓atQ_some, ↓at_0, ↓at_1, ↓at_2, ↓at_3, ↓ev_d2, ↓ev_frz, ↓ev_consF, ↓ev_cons, ↓ev_lst, ↓ev_tup, ↓ev_dC, ↓ev_peeks0, ↓ev_peeks1, ↓ev_toBm, ↓ew_toB, ↓ev_not, ↓ev_and, ↓ev_or, ↓ev_andV, ↓ev_orV, ↓ev_notV, ↓ev_negV, ↓ev_ifE, ↓ev_chain, ↓ev_SS, ↓ev_SL, ↓ev_ST, ↓g_in1, ↓ev_R1, ↓ev_R2, ↓ev_srcR1, ↓ev_sl, ↓g_eqi, ↓g_eqs, ↓g_nei, ↓g_nes, ↓ev_call, ↓ev_lc, ↓tg_nm, ↓gd_s, ↓gd_z, ↓bk_0, ↓bk_1, ↓ev_some, ↓ev_toI, ↓g_ixl, ↓g_ixt, ↓g_ixs, ↓g_addi, ↓g_adds, ↓g_addl, ↓g_sub, ↓k_mul, ↓g_mull, ↓k_div, ↓k_mod, ↓k_pow, ↓g_lt, ↓g_le, ↓g_gt, ↓g_ge, ↓g_les, ↓g_neg, ↓g_lenl, ↓g_lent, ↓g_lenr, ↓g_lens, ↓g_abs, ↓g_inti, ↓g_intb, ↓g_stri, ↓g_listl, ↓g_listt, ↓g_tupl, ↓g_all, ↓g_slr, ↓g_sll, ↓g_sls, ↓ch_t, ↓ch_f, ↓ch_tt, ↓ch_ff, ↓and_t, ↓k_isi h1 h2]
    have e : isS (.str z) = true := rfl
    refine ch_of (fun hb => (by rw [e] at hb; cases hb)) (fun _ => ?_)
    try (simp (disch := (first | (simp only [decide_eq_true_eq, decide_eq_false_iff_not, Bool.not_eq_true]; first | assumption | omega) | assumption | omega | decide | (simp only [List.length_cons, List.length_nil, DL.sz]; omega))) only [↓ew_pure, ↓ew_bind, ↓ew_map, ↓ev_name, ↓nameQ_s, ↓nameQ_f, ↓nameQ_o, ↓nameQ_l, ↓slotQ_s, ↓slotQ_z, ↓ownQ_s, ↓ownQ_o, ↓ownQ_l, ↓upQ_s, ↓upQ_z, ↓ew_argF, ↓ew_argS, ↓ew_argO, ↓ew_frzF, ↓ew_frzO, ↓ev_frzS, ↓ew_peekF, ↓ew_peekS, ↓sw_seq, ↓sv_asg, ↓sv_ret, ↓sv_expr, ↓sv_st, ↓sv_if, ↓sv_for, ↓sv_setF, ↓sv_setO, ↓sv_setS, ↓sw_retF, ↓sw_retO, ↓sv_retS, ↓retU_s, ↓retU_o, ↓retU_l, ↓sw_nx, ↓sv_store, ↓lsQ_s, ↓lsQ_z, ↓st_1, ↓st_2, ↓st_3, ↓atQ_some, ↓at_0, ↓at_1, ↓at_2, ↓at_3, ↓ev_d2, ↓ev_frz, ↓ev_consF, ↓ev_cons, ↓ev_lst, ↓ev_tup, ↓ev_dC, ↓ev_peeks0, ↓ev_peeks1, ↓ev_toBm, ↓ew_toB, ↓ev_not, ↓ev_and, ↓ev_or, ↓ev_andV, ↓ev_orV, ↓ev_notV, ↓ev_negV, ↓ev_ifE, ↓ev_chain, ↓ev_SS, ↓ev_SL, ↓ev_ST, ↓g_in1, ↓ev_R1, ↓ev_R2, ↓ev_srcR1, ↓ev_sl, ↓g_eqi, ↓g_eqs, ↓g_nei, ↓g_nes, ↓ev_call, ↓ev_lc, ↓tg_nm, ↓gd_s, ↓gd_z, ↓bk_0, ↓bk_1, ↓ev_some, ↓ev_toI, ↓g_ixl, ↓g_ixt, ↓g_ixs, ↓g_addi, ↓g_adds, ↓g_addl, ↓g_sub, ↓k_mul, ↓g_mull, ↓k_div, ↓k_mod, ↓k_pow, ↓g_lt, ↓g_le, ↓g_gt, ↓g_ge, ↓g_les, ↓g_neg, ↓g_lenl, ↓g_lent, ↓g_lenr, ↓g_lens, ↓g_abs, ↓g_inti, ↓g_intb, ↓g_stri, ↓g_listl, ↓g_listt, ↓g_tupl, ↓g_all, ↓g_slr, ↓g_sll, ↓g_sls, ↓ch_t, ↓ch_f, ↓ch_tt, ↓ch_ff, ↓and_t])
    refine ch_of (fun hb => ?_) (fun hb => ?_)
    · have n0 : z.length = 0 := by have := eq_of_beq hb; omega
      have nb : nameB (.str z) = false := by
        rw [nameB_str, n0]
        simp
      try (simp (disch := (first | (simp only [decide_eq_true_eq, decide_eq_false_iff_not, Bool.not_eq_true]; first | assumption | omega) | assumption | omega | decide | (simp only [List.length_cons, List.length_nil, DL.sz]; omega))) only [↓ew_pure, ↓ew_bind, ↓ew_map, ↓ev_name, ↓nameQ_s, ↓nameQ_f, ↓nameQ_o, ↓nameQ_l, ↓slotQ_s, ↓slotQ_z, ↓ownQ_s, ↓ownQ_o, ↓ownQ_l, ↓upQ_s, ↓upQ_z, ↓ew_argF, ↓ew_argS, ↓ew_argO, ↓ew_frzF, ↓ew_frzO, ↓ev_frzS, ↓ew_peekF, ↓ew_peekS, ↓sw_seq, ↓sv_asg, ↓sv_ret, ↓sv_expr, ↓sv_st, ↓sv_if, ↓sv_for, ↓sv_setF, ↓sv_setO, ↓sv_setS, ↓sw_retF, ↓sw_retO, ↓sv_retS, ↓retU_s, ↓retU_o, ↓retU_l, ↓sw_nx, ↓sv_store, ↓lsQ_s, ↓lsQ_z, ↓st_1, ↓st_2, ↓st_3, ↓atQ_some, ↓at_0, ↓at_1, ↓at_2, ↓at_3, ↓ev_d2, ↓ev_frz, ↓ev_consF, ↓ev_cons, ↓ev_lst, ↓ev_tup, ↓ev_dC, ↓ev_peeks0, ↓ev_peeks1, ↓ev_toBm, ↓ew_toB, ↓ev_not, ↓ev_and, ↓ev_or, ↓ev_andV, ↓ev_orV, ↓ev_notV, ↓ev_negV, ↓ev_ifE, ↓ev_chain, ↓ev_SS, ↓ev_SL, ↓ev_ST, ↓g_in1, ↓ev_R1, ↓ev_R2, ↓ev_srcR1, ↓ev_sl, ↓g_eqi, ↓g_eqs, ↓g_nei, ↓g_nes, ↓ev_call, ↓ev_lc, ↓tg_nm, ↓gd_s, ↓gd_z, ↓bk_0, ↓bk_1, ↓ev_some, ↓ev_toI, ↓g_ixl, ↓g_ixt, ↓g_ixs, ↓g_addi, ↓g_adds, ↓g_addl, ↓g_sub, ↓k_mul, ↓g_mull, ↓k_div, ↓k_mod, ↓k_pow, ↓g_lt, ↓g_le, ↓g_gt, ↓g_ge, ↓g_les, ↓g_neg, ↓g_lenl, ↓g_lent, ↓g_lenr, ↓g_lens, ↓g_abs, ↓g_inti, ↓g_intb, ↓g_stri, ↓g_listl, ↓g_listt, ↓g_tupl, ↓g_all, ↓g_slr, ↓g_sll, ↓g_sls, ↓ch_t, ↓ch_f, ↓ch_tt, ↓ch_ff, ↓and_t])
      rw [← nb]
      exact hR _
    · have n0 : z.length ≠ 0 := fun h0 => by rw [h0] at hb; exact absurd hb (by decide)
      try (simp (disch := (first | (simp only [decide_eq_true_eq, decide_eq_false_iff_not, Bool.not_eq_true]; first | assumption | omega) | assumption | omega | decide | (simp only [List.length_cons, List.length_nil, DL.sz]; omega))) only [↓ew_pure, ↓ew_bind, ↓ew_map, ↓ev_name, ↓nameQ_s, ↓nameQ_f, ↓nameQ_o, ↓nameQ_l, ↓slotQ_s, ↓slotQ_z, ↓ownQ_s, ↓ownQ_o, ↓ownQ_l, ↓upQ_s, ↓upQ_z, ↓ew_argF, ↓ew_argS, ↓ew_argO, ↓ew_frzF, ↓ew_frzO, ↓ev_frzS, ↓ew_peekF, ↓ew_peekS, ↓sw_seq, ↓sv_asg, ↓sv_ret, ↓sv_expr, ↓sv_st, ↓sv_if, ↓sv_for, ↓sv_setF, ↓sv_setO, ↓sv_setS, ↓sw_retF, ↓sw_retO, ↓sv_retS, ↓retU_s, ↓retU_o, ↓retU_l, ↓sw_nx, ↓sv_store, ↓lsQ_s, ↓lsQ_z, ↓st_1, ↓st_2, ↓st_3, ↓atQ_some, ↓at_0, ↓at_1, ↓at_2, ↓at_3, ↓ev_d2, ↓ev_frz, ↓ev_consF, ↓ev_cons, ↓ev_lst, ↓ev_tup, ↓ev_dC, ↓ev_peeks0, ↓ev_peeks1, ↓ev_toBm, ↓ew_toB, ↓ev_not, ↓ev_and, ↓ev_or, ↓ev_andV, ↓ev_orV, ↓ev_notV, ↓ev_negV, ↓ev_ifE, ↓ev_chain, ↓ev_SS, ↓ev_SL, ↓ev_ST, ↓g_in1, ↓ev_R1, ↓ev_R2, ↓ev_srcR1, ↓ev_sl, ↓g_eqi, ↓g_eqs, ↓g_nei, ↓g_nes, ↓ev_call, ↓ev_lc, ↓tg_nm, ↓gd_s, ↓gd_z, ↓bk_0, ↓bk_1, ↓ev_some, ↓ev_toI, ↓g_ixl, ↓g_ixt, ↓g_ixs, ↓g_addi, ↓g_adds, ↓g_addl, ↓g_sub, ↓k_mul, ↓g_mull, ↓k_div, ↓k_mod, ↓k_pow, ↓g_lt, ↓g_le, ↓g_gt, ↓g_ge, ↓g_les, ↓g_neg, ↓g_lenl, ↓g_lent, ↓g_lenr, ↓g_lens, ↓g_abs, ↓g_inti, ↓g_intb, ↓g_stri, ↓g_listl, ↓g_listt, ↓g_tupl, ↓g_all, ↓g_slr, ↓g_sll, ↓g_sls, ↓ch_t, ↓ch_f, ↓ch_tt, ↓ch_ff, ↓and_t])
      refine ch_of (fun hb2 => ?_) (fun hb2 => ?_)
      · have n8 := of_decide_eq_true hb2
        have nb : nameB (.str z) = false := by
          rw [nameB_str, decide_eq_false (show ¬ z.length ≤ 8 by omega)]
          simp
        try (simp (disch := (first | (simp only [decide_eq_true_eq, decide_eq_false_iff_not, Bool.not_eq_true]; first | assumption | omega) | assumption | omega | decide | (simp only [List.length_cons, List.length_nil, DL.sz]; omega))) only [↓ew_pure, ↓ew_bind, ↓ew_map, ↓ev_name, ↓nameQ_s, ↓nameQ_f, ↓nameQ_o, ↓nameQ_l, ↓slotQ_s, ↓slotQ_z, ↓ownQ_s, ↓ownQ_o, ↓ownQ_l, ↓upQ_s, ↓upQ_z, ↓ew_argF, ↓ew_argS, ↓ew_argO, ↓ew_frzF, ↓ew_frzO, ↓ev_frzS, ↓ew_peekF, ↓ew_peekS, ↓sw_seq, ↓sv_asg, ↓sv_ret, ↓sv_expr, ↓sv_st, ↓sv_if, ↓sv_for, ↓sv_setF, ↓sv_setO, ↓sv_setS, ↓sw_retF, ↓sw_retO, ↓sv_retS, ↓retU_s, ↓retU_o, ↓retU_l, ↓sw_nx, ↓sv_store, ↓lsQ_s, ↓lsQ_z, ↓st_1, ↓st_2, ↓st_3, ↓atQ_some, ↓at_0, ↓at_1, ↓at_2, ↓at_3, ↓ev_d2, ↓ev_frz, ↓ev_consF, ↓ev_cons, ↓ev_lst, ↓ev_tup, ↓ev_dC, ↓ev_peeks0, ↓ev_peeks1, ↓ev_toBm, ↓ew_toB, ↓ev_not, ↓ev_and, ↓ev_or, ↓ev_andV, ↓ev_orV, ↓ev_notV, ↓ev_negV, ↓ev_ifE, ↓ev_chain, ↓ev_SS, ↓ev_SL, ↓ev_ST, ↓g_in1, ↓ev_R1, ↓ev_R2, ↓ev_srcR1, ↓ev_sl, ↓g_eqi, ↓g_eqs, ↓g_nei, ↓g_nes, ↓ev_call, ↓ev_lc, ↓tg_nm, ↓gd_s, ↓gd_z, ↓bk_0, ↓bk_1, ↓ev_some, ↓ev_toI, ↓g_ixl, ↓g_ixt, ↓g_ixs, ↓g_addi, ↓g_adds, ↓g_addl, ↓g_sub, ↓k_mul, ↓g_mull, ↓k_div, ↓k_mod, ↓k_pow, ↓g_lt, ↓g_le, ↓g_gt, ↓g_ge, ↓g_les, ↓g_neg, ↓g_lenl, ↓g_lent, ↓g_lenr, ↓g_lens, ↓g_abs, ↓g_inti, ↓g_intb, ↓g_stri, ↓g_listl, ↓g_listt, ↓g_tupl, ↓g_all, ↓g_slr, ↓g_sll, ↓g_sls, ↓ch_t, ↓ch_f, ↓ch_tt, ↓ch_ff, ↓and_t])
        rw [← nb]
        exact hR _
      · have n8 := of_decide_eq_false hb2
        try (simp (disch := (first | (simp only [decide_eq_true_eq, decide_eq_false_iff_not, Bool.not_eq_true]; first | assumption | omega) | assumption | omega | decide | (simp only [List.length_cons, List.length_nil, DL.sz]; omega))) only [↓ew_pure, ↓ew_bind, ↓ew_map, ↓ev_name, ↓nameQ_s, ↓nameQ_f, ↓nameQ_o, ↓nameQ_l, ↓slotQ_s, ↓slotQ_z, ↓ownQ_s, ↓ownQ_o, ↓ownQ_l, ↓upQ_s, ↓upQ_z, ↓ew_argF, ↓ew_argS, ↓ew_argO, ↓ew_frzF, ↓ew_frzO, ↓ev_frzS, ↓ew_peekF, ↓ew_peekS, ↓sw_seq, ↓sv_asg, ↓sv_ret, ↓sv_expr, ↓sv_st, ↓sv_if, ↓sv_for, ↓sv_setF, ↓sv_setO, ↓sv_setS, ↓sw_retF, ↓sw_retO, ↓sv_retS, ↓retU_s, ↓retU_o, ↓retU_l, ↓sw_nx, ↓sv_store, ↓lsQ_s, ↓lsQ_z, ↓st_1, ↓st_2, ↓st_3, ↓atQ_some, ↓at_0, ↓at_1, ↓at_2, ↓at_3, ↓ev_d2, ↓ev_frz, ↓ev_consF, ↓ev_cons, ↓ev_lst, ↓ev_tup, ↓ev_dC, ↓ev_peeks0, ↓ev_peeks1, ↓ev_toBm, ↓ew_toB, ↓ev_not, ↓ev_and, ↓ev_or, ↓ev_andV, ↓ev_orV, ↓ev_notV, ↓ev_negV, ↓ev_ifE, ↓ev_chain, ↓ev_SS, ↓ev_SL, ↓ev_ST, ↓g_in1, ↓ev_R1, ↓ev_R2, ↓ev_srcR1, ↓ev_sl, ↓g_eqi, ↓g_eqs, ↓g_nei, ↓g_nes, ↓ev_call, ↓ev_lc, ↓tg_nm, ↓gd_s, ↓gd_z, ↓bk_0, ↓bk_1, ↓ev_some, ↓ev_toI, ↓g_ixl, ↓g_ixt, ↓g_ixs, ↓g_addi, ↓g_adds, ↓g_addl, ↓g_sub, ↓k_mul, ↓g_mull, ↓k_div, ↓k_mod, ↓k_pow, ↓g_lt, ↓g_le, ↓g_gt, ↓g_ge, ↓g_les, ↓g_neg, ↓g_lenl, ↓g_lent, ↓g_lenr, ↓g_lens, ↓g_abs, ↓g_inti, ↓g_intb, ↓g_stri, ↓g_listl, ↓g_listt, ↓g_tupl, ↓g_all, ↓g_slr, ↓g_sll, ↓g_sls, ↓ch_t, ↓ch_f, ↓ch_tt, ↓ch_ff, ↓and_t])
        refine hN _ ?_
        clear hN N
        simp (disch := (first | (simp only [decide_eq_true_eq, decide_eq_false_iff_not, Bool.not_eq_true]; first | assumption | omega) | assumption | omega | decide | (simp only [List.length_cons, List.length_nil, DL.sz]; omega))) only [↓ew_pure, ↓ew_bind, ↓ew_map, ↓ev_name, ↓nameQ_s, ↓nameQ_f, ↓nameQ_o, ↓nameQ_l, ↓slotQ_s, ↓slotQ_z, ↓ownQ_s, ↓ownQ_o, ↓ownQ_l, ↓upQ_s, ↓upQ_z, ↓ew_argF, ↓ew_argS, ↓ew_argO, ↓ew_frzF, ↓ew_frzO, ↓ev_frzS, ↓ew_peekF, ↓ew_peekS, ↓sw_seq, ↓sv_asg, ↓sv_ret, ↓sv_expr, ↓sv_st, ↓sv_if, ↓sv_for, ↓sv_setF, ↓sv_setO, ↓sv_setS, ↓sw_retF, ↓sw_retO, ↓sv_retS, ↓retU_s, ↓retU_o, ↓retU_l, ↓sw_nx, ↓sv_store, ↓lsQ_s, ↓lsQ_z, ↓st_1, ↓st_2, ↓st_3, ↓atQ_some, ↓at_0, ↓at_1, ↓at_2, ↓at_3, ↓ev_d2, ↓ev_frz, ↓ev_consF, ↓ev_cons, ↓ev_lst, ↓ev_tup, ↓ev_dC, ↓ev_peeks0, ↓ev_peeks1, ↓ev_toBm, ↓ew_toB, ↓ev_not, ↓ev_and, ↓ev_or, ↓ev_andV, ↓ev_orV, ↓ev_notV, ↓ev_negV, ↓ev_ifE, ↓ev_chain, ↓ev_SS, ↓ev_SL, ↓ev_ST, ↓g_in1, ↓ev_R1, ↓ev_R2, ↓ev_srcR1, ↓ev_sl, ↓g_eqi, ↓g_eqs, ↓g_nei, ↓g_nes, ↓ev_call, ↓ev_lc, ↓tg_nm, ↓gd_s, ↓gd_z, ↓bk_0, ↓bk_1, ↓ev_some, ↓ev_toI, ↓g_ixl, ↓g_ixt, ↓g_ixs, ↓g_addi, ↓g_adds, ↓g_addl, ↓g_sub, ↓k_mul, ↓g_mull, ↓k_div, ↓k_mod, ↓k_pow, ↓g_lt, ↓g_le, ↓g_gt, ↓g_ge, ↓g_les, ↓g_neg, ↓g_lenl, ↓g_lent, ↓g_lenr, ↓g_lens, ↓g_abs, ↓g_inti, ↓g_intb, ↓g_stri, ↓g_listl, ↓g_listt, ↓g_tupl, ↓g_all, ↓g_slr, ↓g_sll, ↓g_sls, ↓ch_t, ↓ch_f, ↓ch_tt, ↓ch_ff, ↓and_t]
        refine lc_of (S := Unit) (L := fun _ => [some ⟨.str z, .frz⟩, none]) (J := fun i acc _ => acc = ((z.cps.toList.take i).filter fun c => !low c).map fun c => D.str ⟨#[c]⟩) () rfl rfl (wipeD_idem _ _) (fun i d acc s hd hJ => ?_) (fun acc s hJ => ?_)
        · unfold DL.signs at hd
          rw [List.getElem?_map] at hd
          cases hc : z.cps.toList[i]? with
          | none => rw [hc] at hd; cases hd
          | some c =>
            rw [hc] at hd
            cases hd
            have la : acc.length ≤ z.cps.toList.length := by
              rw [hJ, List.length_map]
              refine Nat.le_trans (List.length_filter_le _ _) ?_
              rw [List.length_take]
              omega
            rw [← len_of] at la
            have keep : low c = false → acc ++ [D.str ⟨#[c]⟩] = ((z.cps.toList.take (i + 1)).filter fun c => !low c).map fun c => D.str ⟨#[c]⟩ := fun hlc => by
              rw [hJ, List.take_add_one, hc]
              simp [hlc]
            have drop : low c = true → acc = ((z.cps.toList.take (i + 1)).filter fun c => !low c).map fun c => D.str ⟨#[c]⟩ := fun hlc => by
              rw [hJ, List.take_add_one, hc]
              simp [hlc]
            simp (disch := (first | (simp only [decide_eq_true_eq, decide_eq_false_iff_not, Bool.not_eq_true]; first | assumption | omega) | assumption | omega | decide | (simp only [List.length_cons, List.length_nil, DL.sz]; omega))) only [↓ew_pure, ↓ew_bind, ↓ew_map, ↓ev_name, ↓nameQ_s, ↓nameQ_f, ↓nameQ_o, ↓nameQ_l, ↓slotQ_s, ↓slotQ_z, ↓ownQ_s, ↓ownQ_o, ↓ownQ_l, ↓upQ_s, ↓upQ_z, ↓ew_argF, ↓ew_argS, ↓ew_argO, ↓ew_frzF, ↓ew_frzO, ↓ev_frzS, ↓ew_peekF, ↓ew_peekS, ↓sw_seq, ↓sv_asg, ↓sv_ret, ↓sv_expr, ↓sv_st, ↓sv_if, ↓sv_for, ↓sv_setF, ↓sv_setO, ↓sv_setS, ↓sw_retF, ↓sw_retO, ↓sv_retS, ↓retU_s, ↓retU_o, ↓retU_l, ↓sw_nx, ↓sv_store, ↓lsQ_s, ↓lsQ_z, ↓st_1, ↓st_2, ↓st_3, ↓atQ_some, ↓at_0, ↓at_1, ↓at_2, ↓at_3, ↓ev_d2, ↓ev_frz, ↓ev_consF, ↓ev_cons, ↓ev_lst, ↓ev_tup, ↓ev_dC, ↓ev_peeks0, ↓ev_peeks1, ↓ev_toBm, ↓ew_toB, ↓ev_not, ↓ev_and, ↓ev_or, ↓ev_andV, ↓ev_orV, ↓ev_notV, ↓ev_negV, ↓ev_ifE, ↓ev_chain, ↓ev_SS, ↓ev_SL, ↓ev_ST, ↓g_in1, ↓ev_R1, ↓ev_R2, ↓ev_srcR1, ↓ev_sl, ↓g_eqi, ↓g_eqs, ↓g_nei, ↓g_nes, ↓ev_call, ↓ev_lc, ↓tg_nm, ↓gd_s, ↓gd_z, ↓bk_0, ↓bk_1, ↓ev_some, ↓ev_toI, ↓g_ixl, ↓g_ixt, ↓g_ixs, ↓g_addi, ↓g_adds, ↓g_addl, ↓g_sub, ↓k_mul, ↓g_mull, ↓k_div, ↓k_mod, ↓k_pow, ↓g_lt, ↓g_le, ↓g_gt, ↓g_ge, ↓g_les, ↓g_neg, ↓g_lenl, ↓g_lent, ↓g_lenr, ↓g_lens, ↓g_abs, ↓g_inti, ↓g_intb, ↓g_stri, ↓g_listl, ↓g_listt, ↓g_tupl, ↓g_all, ↓g_slr, ↓g_sll, ↓g_sls, ↓ch_t, ↓ch_f, ↓ch_tt, ↓ch_ff, ↓and_t]
            rw [low_a]
            refine ch_of (fun hb3 => ?_) (fun hb3 => ?_)
            · try (simp (disch := (first | (simp only [decide_eq_true_eq, decide_eq_false_iff_not, Bool.not_eq_true]; first | assumption | omega) | assumption | omega | decide | (simp only [List.length_cons, List.length_nil, DL.sz]; omega))) only [↓ew_pure, ↓ew_bind, ↓ew_map, ↓ev_name, ↓nameQ_s, ↓nameQ_f, ↓nameQ_o, ↓nameQ_l, ↓slotQ_s, ↓slotQ_z, ↓ownQ_s, ↓ownQ_o, ↓ownQ_l, ↓upQ_s, ↓upQ_z, ↓ew_argF, ↓ew_argS, ↓ew_argO, ↓ew_frzF, ↓ew_frzO, ↓ev_frzS, ↓ew_peekF, ↓ew_peekS, ↓sw_seq, ↓sv_asg, ↓sv_ret, ↓sv_expr, ↓sv_st, ↓sv_if, ↓sv_for, ↓sv_setF, ↓sv_setO, ↓sv_setS, ↓sw_retF, ↓sw_retO, ↓sv_retS, ↓retU_s, ↓retU_o, ↓retU_l, ↓sw_nx, ↓sv_store, ↓lsQ_s, ↓lsQ_z, ↓st_1, ↓st_2, ↓st_3, ↓atQ_some, ↓at_0, ↓at_1, ↓at_2, ↓at_3, ↓ev_d2, ↓ev_frz, ↓ev_consF, ↓ev_cons, ↓ev_lst, ↓ev_tup, ↓ev_dC, ↓ev_peeks0, ↓ev_peeks1, ↓ev_toBm, ↓ew_toB, ↓ev_not, ↓ev_and, ↓ev_or, ↓ev_andV, ↓ev_orV, ↓ev_notV, ↓ev_negV, ↓ev_ifE, ↓ev_chain, ↓ev_SS, ↓ev_SL, ↓ev_ST, ↓g_in1, ↓ev_R1, ↓ev_R2, ↓ev_srcR1, ↓ev_sl, ↓g_eqi, ↓g_eqs, ↓g_nei, ↓g_nes, ↓ev_call, ↓ev_lc, ↓tg_nm, ↓gd_s, ↓gd_z, ↓bk_0, ↓bk_1, ↓ev_some, ↓ev_toI, ↓g_ixl, ↓g_ixt, ↓g_ixs, ↓g_addi, ↓g_adds, ↓g_addl, ↓g_sub, ↓k_mul, ↓g_mull, ↓k_div, ↓k_mod, ↓k_pow, ↓g_lt, ↓g_le, ↓g_gt, ↓g_ge, ↓g_les, ↓g_neg, ↓g_lenl, ↓g_lent, ↓g_lenr, ↓g_lens, ↓g_abs, ↓g_inti, ↓g_intb, ↓g_stri, ↓g_listl, ↓g_listt, ↓g_tupl, ↓g_all, ↓g_slr, ↓g_sll, ↓g_sls, ↓ch_t, ↓ch_f, ↓ch_tt, ↓ch_ff, ↓and_t])
              rw [low_z]
              refine ch_of (fun hb4 => ?_) (fun hb4 => ?_)
              · have hlc : low c = false := by unfold low; rw [hb3]; simpa using hb4
                try (simp (disch := (first | (simp only [decide_eq_true_eq, decide_eq_false_iff_not, Bool.not_eq_true]; first | assumption | omega) | assumption | omega | decide | (simp only [List.length_cons, List.length_nil, DL.sz]; omega))) only [↓ew_pure, ↓ew_bind, ↓ew_map, ↓ev_name, ↓nameQ_s, ↓nameQ_f, ↓nameQ_o, ↓nameQ_l, ↓slotQ_s, ↓slotQ_z, ↓ownQ_s, ↓ownQ_o, ↓ownQ_l, ↓upQ_s, ↓upQ_z, ↓ew_argF, ↓ew_argS, ↓ew_argO, ↓ew_frzF, ↓ew_frzO, ↓ev_frzS, ↓ew_peekF, ↓ew_peekS, ↓sw_seq, ↓sv_asg, ↓sv_ret, ↓sv_expr, ↓sv_st, ↓sv_if, ↓sv_for, ↓sv_setF, ↓sv_setO, ↓sv_setS, ↓sw_retF, ↓sw_retO, ↓sv_retS, ↓retU_s, ↓retU_o, ↓retU_l, ↓sw_nx, ↓sv_store, ↓lsQ_s, ↓lsQ_z, ↓st_1, ↓st_2, ↓st_3, ↓atQ_some, ↓at_0, ↓at_1, ↓at_2, ↓at_3, ↓ev_d2, ↓ev_frz, ↓ev_consF, ↓ev_cons, ↓ev_lst, ↓ev_tup, ↓ev_dC, ↓ev_peeks0, ↓ev_peeks1, ↓ev_toBm, ↓ew_toB, ↓ev_not, ↓ev_and, ↓ev_or, ↓ev_andV, ↓ev_orV, ↓ev_notV, ↓ev_negV, ↓ev_ifE, ↓ev_chain, ↓ev_SS, ↓ev_SL, ↓ev_ST, ↓g_in1, ↓ev_R1, ↓ev_R2, ↓ev_srcR1, ↓ev_sl, ↓g_eqi, ↓g_eqs, ↓g_nei, ↓g_nes, ↓ev_call, ↓ev_lc, ↓tg_nm, ↓gd_s, ↓gd_z, ↓bk_0, ↓bk_1, ↓ev_some, ↓ev_toI, ↓g_ixl, ↓g_ixt, ↓g_ixs, ↓g_addi, ↓g_adds, ↓g_addl, ↓g_sub, ↓k_mul, ↓g_mull, ↓k_div, ↓k_mod, ↓k_pow, ↓g_lt, ↓g_le, ↓g_gt, ↓g_ge, ↓g_les, ↓g_neg, ↓g_lenl, ↓g_lent, ↓g_lenr, ↓g_lens, ↓g_abs, ↓g_inti, ↓g_intb, ↓g_stri, ↓g_listl, ↓g_listt, ↓g_tupl, ↓g_all, ↓g_slr, ↓g_sll, ↓g_sls, ↓ch_t, ↓ch_f, ↓ch_tt, ↓ch_ff, ↓and_t])
                exact ⟨(), rfl, keep hlc⟩
              · have hlc : low c = true := by unfold low; rw [hb3]; simpa using hb4
                try (simp (disch := (first | (simp only [decide_eq_true_eq, decide_eq_false_iff_not, Bool.not_eq_true]; first | assumption | omega) | assumption | omega | decide | (simp only [List.length_cons, List.length_nil, DL.sz]; omega))) only [↓ew_pure, ↓ew_bind, ↓ew_map, ↓ev_name, ↓nameQ_s, ↓nameQ_f, ↓nameQ_o, ↓nameQ_l, ↓slotQ_s, ↓slotQ_z, ↓ownQ_s, ↓ownQ_o, ↓ownQ_l, ↓upQ_s, ↓upQ_z, ↓ew_argF, ↓ew_argS, ↓ew_argO, ↓ew_frzF, ↓ew_frzO, ↓ev_frzS, ↓ew_peekF, ↓ew_peekS, ↓sw_seq, ↓sv_asg, ↓sv_ret, ↓sv_expr, ↓sv_st, ↓sv_if, ↓sv_for, ↓sv_setF, ↓sv_setO, ↓sv_setS, ↓sw_retF, ↓sw_retO, ↓sv_retS, ↓retU_s, ↓retU_o, ↓retU_l, ↓sw_nx, ↓sv_store, ↓lsQ_s, ↓lsQ_z, ↓st_1, ↓st_2, ↓st_3, ↓atQ_some, ↓at_0, ↓at_1, ↓at_2, ↓at_3, ↓ev_d2, ↓ev_frz, ↓ev_consF, ↓ev_cons, ↓ev_lst, ↓ev_tup, ↓ev_dC, ↓ev_peeks0, ↓ev_peeks1, ↓ev_toBm, ↓ew_toB, ↓ev_not, ↓ev_and, ↓ev_or, ↓ev_andV, ↓ev_orV, ↓ev_notV, ↓ev_negV, ↓ev_ifE, ↓ev_chain, ↓ev_SS, ↓ev_SL, ↓ev_ST, ↓g_in1, ↓ev_R1, ↓ev_R2, ↓ev_srcR1, ↓ev_sl, ↓g_eqi, ↓g_eqs, ↓g_nei, ↓g_nes, ↓ev_call, ↓ev_lc, ↓tg_nm, ↓gd_s, ↓gd_z, ↓bk_0, ↓bk_1, ↓ev_some, ↓ev_toI, ↓g_ixl, ↓g_ixt, ↓g_ixs, ↓g_addi, ↓g_adds, ↓g_addl, ↓g_sub, ↓k_mul, ↓g_mull, ↓k_div, ↓k_mod, ↓k_pow, ↓g_lt, ↓g_le, ↓g_gt, ↓g_ge, ↓g_les, ↓g_neg, ↓g_lenl, ↓g_lent, ↓g_lenr, ↓g_lens, ↓g_abs, ↓g_inti, ↓g_intb, ↓g_stri, ↓g_listl, ↓g_listt, ↓g_tupl, ↓g_all, ↓g_slr, ↓g_sll, ↓g_sls, ↓ch_t, ↓ch_f, ↓ch_tt, ↓ch_ff, ↓and_t])
                exact ⟨(), rfl, drop hlc⟩
            · have hlc : low c = false := by unfold low; rw [hb3]; rfl
              try (simp (disch := (first | (simp only [decide_eq_true_eq, decide_eq_false_iff_not, Bool.not_eq_true]; first | assumption | omega) | assumption | omega | decide | (simp only [List.length_cons, List.length_nil, DL.sz]; omega))) only [↓ew_pure, ↓ew_bind, ↓ew_map, ↓ev_name, ↓nameQ_s, ↓nameQ_f, ↓nameQ_o, ↓nameQ_l, ↓slotQ_s, ↓slotQ_z, ↓ownQ_s, ↓ownQ_o, ↓ownQ_l, ↓upQ_s, ↓upQ_z, ↓ew_argF, ↓ew_argS, ↓ew_argO, ↓ew_frzF, ↓ew_frzO, ↓ev_frzS, ↓ew_peekF, ↓ew_peekS, ↓sw_seq, ↓sv_asg, ↓sv_ret, ↓sv_expr, ↓sv_st, ↓sv_if, ↓sv_for, ↓sv_setF, ↓sv_setO, ↓sv_setS, ↓sw_retF, ↓sw_retO, ↓sv_retS, ↓retU_s, ↓retU_o, ↓retU_l, ↓sw_nx, ↓sv_store, ↓lsQ_s, ↓lsQ_z, ↓st_1, ↓st_2, ↓st_3, ↓atQ_some, ↓at_0, ↓at_1, ↓at_2, ↓at_3, ↓ev_d2, ↓ev_frz, ↓ev_consF, ↓ev_cons, ↓ev_lst, ↓ev_tup, ↓ev_dC, ↓ev_peeks0, ↓ev_peeks1, ↓ev_toBm, ↓ew_toB, ↓ev_not, ↓ev_and, ↓ev_or, ↓ev_andV, ↓ev_orV, ↓ev_notV, ↓ev_negV, ↓ev_ifE, ↓ev_chain, ↓ev_SS, ↓ev_SL, ↓ev_ST, ↓g_in1, ↓ev_R1, ↓ev_R2, ↓ev_srcR1, ↓ev_sl, ↓g_eqi, ↓g_eqs, ↓g_nei, ↓g_nes, ↓ev_call, ↓ev_lc, ↓tg_nm, ↓gd_s, ↓gd_z, ↓bk_0, ↓bk_1, ↓ev_some, ↓ev_toI, ↓g_ixl, ↓g_ixt, ↓g_ixs, ↓g_addi, ↓g_adds, ↓g_addl, ↓g_sub, ↓k_mul, ↓g_mull, ↓k_div, ↓k_mod, ↓k_pow, ↓g_lt, ↓g_le, ↓g_gt, ↓g_ge, ↓g_les, ↓g_neg, ↓g_lenl, ↓g_lent, ↓g_lenr, ↓g_lens, ↓g_abs, ↓g_inti, ↓g_intb, ↓g_stri, ↓g_listl, ↓g_listt, ↓g_tupl, ↓g_all, ↓g_slr, ↓g_sll, ↓g_sls, ↓ch_t, ↓ch_f, ↓ch_tt, ↓ch_ff, ↓and_t])
              exact ⟨(), rfl, keep hlc⟩
        · unfold DL.signs at hJ
          rw [List.length_map, List.take_length] at hJ
          subst hJ
          have eb := eqD_signs (cs := z.cps.toList.filter fun c => !low c) fun c hc => hz c (List.mem_filter.mp hc).1
          simp (disch := (first | (simp only [decide_eq_true_eq, decide_eq_false_iff_not, Bool.not_eq_true]; first | assumption | omega) | assumption | omega | decide | (simp only [List.length_cons, List.length_nil, DL.sz]; omega))) only [↓ew_pure, ↓ew_bind, ↓ew_map, ↓ev_name, ↓nameQ_s, ↓nameQ_f, ↓nameQ_o, ↓nameQ_l, ↓slotQ_s, ↓slotQ_z, ↓ownQ_s, ↓ownQ_o, ↓ownQ_l, ↓upQ_s, ↓upQ_z, ↓ew_argF, ↓ew_argS, ↓ew_argO, ↓ew_frzF, ↓ew_frzO, ↓ev_frzS, ↓ew_peekF, ↓ew_peekS, ↓sw_seq, ↓sv_asg, ↓sv_ret, ↓sv_expr, ↓sv_st, ↓sv_if, ↓sv_for, ↓sv_setF, ↓sv_setO, ↓sv_setS, ↓sw_retF, ↓sw_retO, ↓sv_retS, ↓retU_s, ↓retU_o, ↓retU_l, ↓sw_nx, ↓sv_store, ↓lsQ_s, ↓lsQ_z, ↓st_1, ↓st_2, ↓st_3, ↓atQ_some, ↓at_0, ↓at_1, ↓at_2, ↓at_3, ↓ev_d2, ↓ev_frz, ↓ev_consF, ↓ev_cons, ↓ev_lst, ↓ev_tup, ↓ev_dC, ↓ev_peeks0, ↓ev_peeks1, ↓ev_toBm, ↓ew_toB, ↓ev_not, ↓ev_and, ↓ev_or, ↓ev_andV, ↓ev_orV, ↓ev_notV, ↓ev_negV, ↓ev_ifE, ↓ev_chain, ↓ev_SS, ↓ev_SL, ↓ev_ST, ↓g_in1, ↓ev_R1, ↓ev_R2, ↓ev_srcR1, ↓ev_sl, ↓g_eqi, ↓g_eqs, ↓g_nei, ↓g_nes, ↓ev_call, ↓ev_lc, ↓tg_nm, ↓gd_s, ↓gd_z, ↓bk_0, ↓bk_1, ↓ev_some, ↓ev_toI, ↓g_ixl, ↓g_ixt, ↓g_ixs, ↓g_addi, ↓g_adds, ↓g_addl, ↓g_sub, ↓k_mul, ↓g_mull, ↓k_div, ↓k_mod, ↓k_pow, ↓g_lt, ↓g_le, ↓g_gt, ↓g_ge, ↓g_les, ↓g_neg, ↓g_lenl, ↓g_lent, ↓g_lenr, ↓g_lens, ↓g_abs, ↓g_inti, ↓g_intb, ↓g_stri, ↓g_listl, ↓g_listt, ↓g_tupl, ↓g_all, ↓g_slr, ↓g_sll, ↓g_sls, ↓ch_t, ↓ch_f, ↓ch_tt, ↓ch_ff, ↓and_t, ↓k_eq eb]
          have nb : nameB (.str z) = (z.cps.toList.filter fun c => !low c).isEmpty := by
            rw [nameB_str, decide_eq_true (show 1 ≤ z.length by omega), decide_eq_true (show z.length ≤ 8 by omega), Bool.eq_iff_iff]
            generalize z.cps.toList = l
            simp
          rw [← nb]
          exact hR _
  · have hs' : isS d = false := by cases e : isS d <;> first | rfl | exact absurd e hs
    rw [hs'] at h2
    have nb : nameB d = false := by cases d <;> first | rfl | cases hs'
    refine sw_step fun N hN => ?_
    simp (disch := (first | (simp only [decide_eq_true_eq, decide_eq_false_iff_not, Bool.not_eq_true]; first | assumption | omega) | assumption | omega | decide | (simp only [List.length_cons, List.length_nil, DL.sz]; omega))) only [↓ew_pure, ↓ew_bind, ↓ew_map, ↓ev_name, ↓nameQ_s, ↓nameQ_f, ↓nameQ_o, ↓nameQ_l, ↓slotQ_s, ↓slotQ_z, ↓ownQ_s, ↓ownQ_o, ↓ownQ_l, ↓upQ_s, ↓upQ_z, ↓ew_argF, ↓ew_argS, ↓ew_argO, ↓ew_frzF, ↓ew_frzO, ↓ev_frzS, ↓ew_peekF, ↓ew_peekS, ↓sw_seq, ↓sv_asg, ↓sv_ret, ↓sv_expr, ↓sv_st, ↓sv_if, ↓sv_for, ↓sv_setF, ↓sv_setO, ↓sv_setS, ↓sw_retF, ↓sw_retO, ↓sv_retS, ↓retU_s, ↓retU_o, ↓retU_l, ↓sw_nx, ↓sv_store, ↓lsQ_s, ↓lsQ_z, ↓st_1, ↓st_2, ↓st_3, ↓atQ_some, ↓at_0, ↓at_1, ↓at_2, ↓at_3, ↓ev_d2, ↓ev_frz, ↓ev_consF, ↓ev_cons, ↓ev_lst, ↓ev_tup, ↓ev_dC, ↓ev_peeks0, ↓ev_peeks1, ↓ev_toBm, ↓ew_toB, ↓ev_not, ↓ev_and, ↓ev_or, ↓ev_andV, ↓ev_orV, ↓ev_notV, ↓ev_negV, ↓ev_ifE, ↓ev_chain, ↓ev_SS, ↓ev_SL, ↓ev_ST, ↓g_in1, ↓ev_R1, ↓ev_R2, ↓ev_srcR1, ↓ev_sl, ↓g_eqi, ↓g_eqs, ↓g_nei, ↓g_nes, ↓ev_call, ↓ev_lc, ↓tg_nm, ↓gd_s, ↓gd_z, ↓bk_0, ↓bk_1, ↓ev_some, ↓ev_toI, ↓g_ixl, ↓g_ixt, ↓g_ixs, ↓g_addi, ↓g_adds, ↓g_addl, ↓g_sub, ↓k_mul, ↓g_mull, ↓k_div, ↓k_mod, ↓k_pow, ↓g_lt, ↓g_le, ↓g_gt, ↓g_ge, ↓g_les, ↓g_neg, ↓g_lenl, ↓g_lent, ↓g_lenr, ↓g_lens, ↓g_abs, ↓g_inti, ↓g_intb, ↓g_stri, ↓g_listl, ↓g_listt, ↓g_tupl, ↓g_all, ↓g_slr, ↓g_sll, ↓g_sls, ↓ch_t, ↓ch_f, ↓ch_tt, ↓ch_ff, ↓and_t, ↓k_isi h1 h2]
    rw [← nb]
    exact hR _
end K01

set_option Elab.async false
set_option linter.all false
set_option maxRecDepth 100000
set_option maxHeartbeats 1000000
namespace K01
open PySem PySem.Spec PyProof.Rows L2 DL
theorem word_ev {i : Nat} {δ : Dl} {p : D} {k : Ow} {n : Int} {Q : RV → Dl → Prop} (hs : δ[i]? = some (some ⟨p, k⟩)) (hk : k ≠ .frz) (h : Pen n p) (hn : n ≤ 90000) (hn0 : 0 ≤ n) (hQ : ∀ z p', WordS z → Pen (n + 20) p' → upQ δ i (some ⟨p', k⟩) (Q (.frz (.str z)))) :
    clQ 1 0 1 sem_word plain2 [.slot i] [] δ Q := by
  refine cl_of (cs := [some ⟨p, .lent⟩]) (kk := [k]) ⟨rfl, rfl, rfl⟩ ?_ (by simp [slotsOf]) (word_ok h hn hn0 fun z p' hz hp' => ?_)
  · show argsOf δ [.slot i] = _
    cases k with
    | frz => exact absurd rfl hk
    | own => simp [argsOf, hs]
    | lent => simp [argsOf, hs]
  · exact hQ z p' hz hp'
theorem any_ev {i : Nat} {δ : Dl} {p : D} {k : Ow} {n : Int} {Q : RV → Dl → Prop} (hs : δ[i]? = some (some ⟨p, k⟩)) (hk : k ≠ .frz) (h : Pen n p) (hn : n ≤ 80000) (hn0 : 0 ≤ n) (hQ : ∀ x d p', (x = .frz d ∨ x = .own d) → AnyV 3 d → Pen (n + 30) p' → upQ δ i (some ⟨p', k⟩) (Q x)) :
    clQ 2 0 2 (sem_any 4) plain2 [.slot i, .frz (.int 3)] [] δ Q := by
  have c3 : cK 3 = 22 := rfl
  refine cl_of (cs := [some ⟨p, .lent⟩, some ⟨.int 3, .frz⟩]) (kk := [k, .frz]) ⟨rfl, rfl, rfl⟩ ?_ (by simp [slotsOf]) (any_ok 4 3 (by decide) h (by omega) hn0 fun x d p' hx hd hp' => ?_)
  · show argsOf δ [.slot i, .frz (.int 3)] = _
    cases k with
    | frz => exact absurd rfl hk
    | own => simp [argsOf, hs]
    | lent => simp [argsOf, hs]
  · exact hQ x d p' hx hd (hp'.mono (by omega))
theorem pen_ev {δ : Dl} {ns : List Int} {Q : RV → Dl → Prop} (hl : ns.length ≤ 63) (hQ : ∀ p, Pen 0 p → Q (.own p) δ) : clQ 1 0 1 sem_pen plain2 [.frz (.ro (ns.map .int))] [] δ Q :=
  cl_of (cs := [some ⟨.ro (ns.map .int), .frz⟩]) (kk := [.frz]) ⟨rfl, rfl, rfl⟩ rfl (by simp [slotsOf]) (pen_ok hl fun p hp => hQ p hp)
theorem name_ev {d : D} {δ : Dl} {Q : RV → Dl → Prop} (h : It d) (hQ : Q (.frz (.bl (nameB d))) δ) : clQ 1 0 1 sem_is_name plain2 [.frz d] [] δ Q :=
  cl_of (cs := [some ⟨d, .frz⟩]) (kk := [.frz]) ⟨rfl, rfl, rfl⟩ rfl (by simp [slotsOf]) (name_ok h hQ)
theorem name_evK {d : D} {δ : Dl} {Q : RV → Dl → Prop} (h : It d) (hQ : Q (.frz (.bl (nameB d))) δ) : clQ 0 1 1 sem_is_name both2 [] [.frz d] δ Q :=
  cl_of (cs := [some ⟨d, .frz⟩]) (kk := [.frz]) ⟨rfl, rfl, rfl⟩ rfl (by simp [slotsOf]) (name_ok h hQ)
theorem depth_ev {d : D} {δ : Dl} {Q : RV → Dl → Prop} (h : It d) (hQ : Q (.frz (.bl (numB d))) δ) : clQ 1 0 1 sem_is_depth plain2 [.frz d] [] δ Q :=
  cl_of (cs := [some ⟨d, .frz⟩]) (kk := [.frz]) ⟨rfl, rfl, rfl⟩ rfl (by simp [slotsOf]) (depth_ok h hQ)
theorem depth_evK {d : D} {δ : Dl} {Q : RV → Dl → Prop} (h : It d) (hQ : Q (.frz (.bl (numB d))) δ) : clQ 0 1 1 sem_is_depth both2 [] [.frz d] δ Q :=
  cl_of (cs := [some ⟨d, .frz⟩]) (kk := [.frz]) ⟨rfl, rfl, rfl⟩ rfl (by simp [slotsOf]) (depth_ok h hQ)
theorem is_word_ev {d : D} {δ : Dl} {Q : RV → Dl → Prop} (h : It d) (hQ : Q (.frz (.bl (nameB d))) δ) : clQ 1 0 1 sem_is_word plain2 [.frz d] [] δ Q :=
  cl_of (cs := [some ⟨d, .frz⟩]) (kk := [.frz]) ⟨rfl, rfl, rfl⟩ rfl (by simp [slotsOf]) (is_word_ok h hQ)
theorem it_word {z : Str} (h : WordS z) : It (.str z) := by
  refine ⟨(fine_str (w := 40) (fun c hc => ?_) (by rw [len_of]; exact h.len)).mono (by omega) (by omega), fun z' e c hc => ?_⟩
  · have := h.lo c hc; omega
  · cases e; have := h.lo c hc; omega
theorem it_int {i : Int} (h : i.natAbs < 10 ^ 60) : It (.int i) := ⟨(fine_int h).mono (by omega) (by omega), fun z e => by cases e⟩
theorem it_txt {i : Int} (h : i.natAbs < 10 ^ 60) : It (.str (toString i)) := by
  have l := int_text_length_le10 (a := i) (k := 60) (by decide) h
  refine ⟨(fine_str (w := 100) (fun c hc => ofString_lt _ c hc) ?_).mono (by omega) (by omega), fun z' e c hc => ?_⟩
  · show (Str.ofString (toString i)).length ≤ 100
    rw [strOfString_length]
    omega
  · cases e
    have hc : c ∈ (Str.ofString (toString i)).cps.toList := hc
    rw [Str.ofString_eq_toList] at hc
    obtain ⟨ch, _, rfl⟩ := List.mem_map.mp hc
    have := ch.valid
    unfold Char.toNat
    rcases this with h | ⟨_, h⟩ <;> omega
theorem it_any {d : D} (h : AnyV 3 d) : It d := by
  have w3 : wK 3 = 1684 := rfl
  exact ⟨h.fine.mono (by omega) (by omega), fun z e c hc => by have := h.ok z e c hc; omega⟩
theorem it_one {z : Str} (h : WordS z) : It (.lst [.str z]) := by
  have f := fine_lst (w := 40) (dep := 0) (n := 1) (ds := [.str z]) (fun d hd => by rw [List.mem_singleton.mp hd]; exact fine_str (fun c hc => by have := h.lo c hc; omega) (by rw [len_of]; exact h.len)) (by simp)
  exact ⟨f.mono (by omega) (by omega), fun z e => by cases e⟩
theorem ch_num {d : D} {f : Bool → Prop} (h : f (numB d)) : chQ (isI d) (f (!isB d)) (f false) := by
  unfold numB at h
  cases e : isI d with
  | true => rw [e] at h; exact h
  | false => rw [e] at h; exact h
theorem law_ok {ns : List Int} (hl : ns.length ≤ 63) : ∃ as, sem_law [some ⟨.ro (ns.map .int), .frz⟩] = .ok (.frz (.bl true)) as := by
  suffices h : CW (sem_law [some ⟨.ro (ns.map .int), .frz⟩]) fun x _ => x = .frz (.bl true) by
    obtain ⟨x, as, e, rfl⟩ := h.ex
    exact ⟨as, e⟩
  unfold sem_law
  rw [cw_semOf]
  show SW (d_law [some ⟨_, .frz⟩, none, none, none, none, none, none, none, none, none]) _
  generalize hP : Po.mk (fun δ => RV.frz D.non = .frz (.bl true)) (fun r δ => r = RV.frz (.bl true)) (fun _ => False) (fun _ => False) = P
  have hR : ∀ l : Dl, P.rt (.frz (.bl true)) l := by subst hP; exact fun _ => rfl
  clear hP
  have szl : sizeLine = 16777216 := rfl
  unfold d_law
  refine sw_step fun N hN => ?_
  simp (disch := (first | (simp only [decide_eq_true_eq, decide_eq_false_iff_not, Bool.not_eq_true]; first | assumption | omega) | assumption | omega | decide | (simp only [List.length_cons, List.length_nil, DL.sz]; omega))) only [↓ew_pure, ↓ew_bind, ↓ew_map, ↓ev_name, ↓nameQ_s, ↓nameQ_f, ↓nameQ_o, ↓nameQ_l, ↓slotQ_s, ↓slotQ_z, ↓ownQ_s, ↓ownQ_o, ↓ownQ_l, ↓upQ_s, ↓upQ_z, ↓ew_argF, ↓ew_argS, ↓ew_argO, ↓ew_frzF, ↓ew_frzO, ↓ev_frzS, ↓ew_peekF, ↓ew_peekS, ↓sw_seq, ↓sv_asg, ↓sv_ret, ↓sv_expr, ↓sv_st, ↓sv_if, ↓sv_for, ↓sv_setF, ↓sv_setO, ↓sv_setS, ↓sw_retF, ↓sw_retO, ↓sv_retS, ↓retU_s, ↓retU_o, ↓retU_l, ↓sw_nx, ↓sv_store, ↓lsQ_s, ↓lsQ_z, ↓st_1, ↓st_2, ↓st_3, ↓atQ_some, ↓at_0, ↓at_1, ↓at_2, ↓at_3, ↓ev_d2, ↓ev_frz, ↓ev_consF, ↓ev_cons, ↓ev_lst, ↓ev_tup, ↓ev_dC, ↓ev_peeks0, ↓ev_peeks1, ↓ev_toBm, ↓ew_toB, ↓ev_not, ↓ev_and, ↓ev_or, ↓ev_andV, ↓ev_orV, ↓ev_notV, ↓ev_negV, ↓ev_ifE, ↓ev_chain, ↓ev_SS, ↓ev_SL, ↓ev_ST, ↓g_in1, ↓ev_R1, ↓ev_R2, ↓ev_srcR1, ↓ev_sl, ↓g_eqi, ↓g_eqs, ↓g_nei, ↓g_nes, ↓ev_call, ↓ev_lc, ↓tg_nm, ↓gd_s, ↓gd_z, ↓bk_0, ↓bk_1, ↓ev_some, ↓ev_toI, ↓g_ixl, ↓g_ixt, ↓g_ixs, ↓g_addi, ↓g_adds, ↓g_addl, ↓g_sub, ↓k_mul, ↓g_mull, ↓k_div, ↓k_mod, ↓k_pow, ↓g_lt, ↓g_le, ↓g_gt, ↓g_ge, ↓g_les, ↓g_neg, ↓g_lenl, ↓g_lent, ↓g_lenr, ↓g_lens, ↓g_abs, ↓g_inti, ↓g_intb, ↓g_stri, ↓g_listl, ↓g_listt, ↓g_tupl, ↓g_all, ↓g_slr, ↓g_sll, ↓g_sls, ↓ch_t, ↓ch_f, ↓ch_tt, ↓ch_ff, ↓and_t]
  refine pen_ev hl fun p0 hp0 => ?_
  simp (disch := (first | (simp only [decide_eq_true_eq, decide_eq_false_iff_not, Bool.not_eq_true]; first | assumption | omega) | assumption | omega | decide | (simp only [List.length_cons, List.length_nil, DL.sz]; omega))) only [↓ew_pure, ↓ew_bind, ↓ew_map, ↓ev_name, ↓nameQ_s, ↓nameQ_f, ↓nameQ_o, ↓nameQ_l, ↓slotQ_s, ↓slotQ_z, ↓ownQ_s, ↓ownQ_o, ↓ownQ_l, ↓upQ_s, ↓upQ_z, ↓ew_argF, ↓ew_argS, ↓ew_argO, ↓ew_frzF, ↓ew_frzO, ↓ev_frzS, ↓ew_peekF, ↓ew_peekS, ↓sw_seq, ↓sv_asg, ↓sv_ret, ↓sv_expr, ↓sv_st, ↓sv_if, ↓sv_for, ↓sv_setF, ↓sv_setO, ↓sv_setS, ↓sw_retF, ↓sw_retO, ↓sv_retS, ↓retU_s, ↓retU_o, ↓retU_l, ↓sw_nx, ↓sv_store, ↓lsQ_s, ↓lsQ_z, ↓st_1, ↓st_2, ↓st_3, ↓atQ_some, ↓at_0, ↓at_1, ↓at_2, ↓at_3, ↓ev_d2, ↓ev_frz, ↓ev_consF, ↓ev_cons, ↓ev_lst, ↓ev_tup, ↓ev_dC, ↓ev_peeks0, ↓ev_peeks1, ↓ev_toBm, ↓ew_toB, ↓ev_not, ↓ev_and, ↓ev_or, ↓ev_andV, ↓ev_orV, ↓ev_notV, ↓ev_negV, ↓ev_ifE, ↓ev_chain, ↓ev_SS, ↓ev_SL, ↓ev_ST, ↓g_in1, ↓ev_R1, ↓ev_R2, ↓ev_srcR1, ↓ev_sl, ↓g_eqi, ↓g_eqs, ↓g_nei, ↓g_nes, ↓ev_call, ↓ev_lc, ↓tg_nm, ↓gd_s, ↓gd_z, ↓bk_0, ↓bk_1, ↓ev_some, ↓ev_toI, ↓g_ixl, ↓g_ixt, ↓g_ixs, ↓g_addi, ↓g_adds, ↓g_addl, ↓g_sub, ↓k_mul, ↓g_mull, ↓k_div, ↓k_mod, ↓k_pow, ↓g_lt, ↓g_le, ↓g_gt, ↓g_ge, ↓g_les, ↓g_neg, ↓g_lenl, ↓g_lent, ↓g_lenr, ↓g_lens, ↓g_abs, ↓g_inti, ↓g_intb, ↓g_stri, ↓g_listl, ↓g_listt, ↓g_tupl, ↓g_all, ↓g_slr, ↓g_sll, ↓g_sls, ↓ch_t, ↓ch_f, ↓ch_tt, ↓ch_ff, ↓and_t]
  refine hN _ ?_
  clear hN N
  refine sw_step fun N hN => ?_
  simp (disch := (first | (simp only [decide_eq_true_eq, decide_eq_false_iff_not, Bool.not_eq_true]; first | assumption | omega) | assumption | omega | decide | (simp only [List.length_cons, List.length_nil, DL.sz]; omega))) only [↓ew_pure, ↓ew_bind, ↓ew_map, ↓ev_name, ↓nameQ_s, ↓nameQ_f, ↓nameQ_o, ↓nameQ_l, ↓slotQ_s, ↓slotQ_z, ↓ownQ_s, ↓ownQ_o, ↓ownQ_l, ↓upQ_s, ↓upQ_z, ↓ew_argF, ↓ew_argS, ↓ew_argO, ↓ew_frzF, ↓ew_frzO, ↓ev_frzS, ↓ew_peekF, ↓ew_peekS, ↓sw_seq, ↓sv_asg, ↓sv_ret, ↓sv_expr, ↓sv_st, ↓sv_if, ↓sv_for, ↓sv_setF, ↓sv_setO, ↓sv_setS, ↓sw_retF, ↓sw_retO, ↓sv_retS, ↓retU_s, ↓retU_o, ↓retU_l, ↓sw_nx, ↓sv_store, ↓lsQ_s, ↓lsQ_z, ↓st_1, ↓st_2, ↓st_3, ↓atQ_some, ↓at_0, ↓at_1, ↓at_2, ↓at_3, ↓ev_d2, ↓ev_frz, ↓ev_consF, ↓ev_cons, ↓ev_lst, ↓ev_tup, ↓ev_dC, ↓ev_peeks0, ↓ev_peeks1, ↓ev_toBm, ↓ew_toB, ↓ev_not, ↓ev_and, ↓ev_or, ↓ev_andV, ↓ev_orV, ↓ev_notV, ↓ev_negV, ↓ev_ifE, ↓ev_chain, ↓ev_SS, ↓ev_SL, ↓ev_ST, ↓g_in1, ↓ev_R1, ↓ev_R2, ↓ev_srcR1, ↓ev_sl, ↓g_eqi, ↓g_eqs, ↓g_nei, ↓g_nes, ↓ev_call, ↓ev_lc, ↓tg_nm, ↓gd_s, ↓gd_z, ↓bk_0, ↓bk_1, ↓ev_some, ↓ev_toI, ↓g_ixl, ↓g_ixt, ↓g_ixs, ↓g_addi, ↓g_adds, ↓g_addl, ↓g_sub, ↓k_mul, ↓g_mull, ↓k_div, ↓k_mod, ↓k_pow, ↓g_lt, ↓g_le, ↓g_gt, ↓g_ge, ↓g_les, ↓g_neg, ↓g_lenl, ↓g_lent, ↓g_lenr, ↓g_lens, ↓g_abs, ↓g_inti, ↓g_intb, ↓g_stri, ↓g_listl, ↓g_listt, ↓g_tupl, ↓g_all, ↓g_slr, ↓g_sll, ↓g_sls, ↓ch_t, ↓ch_f, ↓ch_tt, ↓ch_ff, ↓and_t]
  refine sw_forL (I := fun i δ => ∃ p x2 x3 x4 x5 x6 x7 x8 x9, Pen (100 * i) p ∧ δ = [some ⟨.ro (ns.map .int), .frz⟩, some ⟨p, .own⟩, x2, x3, x4, x5, x6, x7, x8, x9]) (fun i d δ hd hI => ?_) (fun δ hI => ?_) ⟨p0, _, _, _, _, _, _, _, _, hp0.mono (by omega), rfl⟩
  · obtain ⟨p, x2, x3, x4, x5, x6, x7, x8, x9, hp, rfl⟩ := hI
    have hi : i < 12 := by
      have := (List.getElem?_eq_some_iff.mp hd).1
      unfold rangeD at this
      rw [List.length_map, List.length_range] at this
      omega
    refine ⟨[some ⟨.ro (ns.map .int), .frz⟩, some ⟨p, .own⟩, some ⟨d, .frz⟩, x3, x4, x5, x6, x7, x8, x9], rfl, ?_⟩
    clear hN
    generalize hP2 : Po.mk _ P.rt _ _ = P2
    have hI2 : ∀ p x2 x3 x4 x5 x6 x7 x8 x9, Pen (100 * (i + 1 : Nat)) p → P2.nx [some ⟨.ro (ns.map .int), .frz⟩, some ⟨p, .own⟩, x2, x3, x4, x5, x6, x7, x8, x9] := by
      subst hP2
      exact fun p x2 x3 x4 x5 x6 x7 x8 x9 hp => ⟨p, x2, x3, x4, x5, x6, x7, x8, x9, hp, rfl⟩
    clear hP2
    -- how great
    refine sw_step fun N hN => ?_
    simp (disch := (first | (simp only [decide_eq_true_eq, decide_eq_false_iff_not, Bool.not_eq_true]; first | assumption | omega) | assumption | omega | decide | (simp only [List.length_cons, List.length_nil, DL.sz]; omega))) only [↓ew_pure, ↓ew_bind, ↓ew_map, ↓ev_name, ↓nameQ_s, ↓nameQ_f, ↓nameQ_o, ↓nameQ_l, ↓slotQ_s, ↓slotQ_z, ↓ownQ_s, ↓ownQ_o, ↓ownQ_l, ↓upQ_s, ↓upQ_z, ↓ew_argF, ↓ew_argS, ↓ew_argO, ↓ew_frzF, ↓ew_frzO, ↓ev_frzS, ↓ew_peekF, ↓ew_peekS, ↓sw_seq, ↓sv_asg, ↓sv_ret, ↓sv_expr, ↓sv_st, ↓sv_if, ↓sv_for, ↓sv_setF, ↓sv_setO, ↓sv_setS, ↓sw_retF, ↓sw_retO, ↓sv_retS, ↓retU_s, ↓retU_o, ↓retU_l, ↓sw_nx, ↓sv_store, ↓lsQ_s, ↓lsQ_z, ↓st_1, ↓st_2, ↓st_3, ↓atQ_some, ↓at_0, ↓at_1, ↓at_2, ↓at_3, ↓ev_d2, ↓ev_frz, ↓ev_consF, ↓ev_cons, ↓ev_lst, ↓ev_tup, ↓ev_dC, ↓ev_peeks0, ↓ev_peeks1, ↓ev_toBm, ↓ew_toB, ↓ev_not, ↓ev_and, ↓ev_or, ↓ev_andV, ↓ev_orV, ↓ev_notV, ↓ev_negV, ↓ev_ifE, ↓ev_chain, ↓ev_SS, ↓ev_SL, ↓ev_ST, ↓g_in1, ↓ev_R1, ↓ev_R2, ↓ev_srcR1, ↓ev_sl, ↓g_eqi, ↓g_eqs, ↓g_nei, ↓g_nes, ↓ev_call, ↓ev_lc, ↓tg_nm, ↓gd_s, ↓gd_z, ↓bk_0, ↓bk_1, ↓ev_some, ↓ev_toI, ↓g_ixl, ↓g_ixt, ↓g_ixs, ↓g_addi, ↓g_adds, ↓g_addl, ↓g_sub, ↓k_mul, ↓g_mull, ↓k_div, ↓k_mod, ↓k_pow, ↓g_lt, ↓g_le, ↓g_gt, ↓g_ge, ↓g_les, ↓g_neg, ↓g_lenl, ↓g_lent, ↓g_lenr, ↓g_lens, ↓g_abs, ↓g_inti, ↓g_intb, ↓g_stri, ↓g_listl, ↓g_listt, ↓g_tupl, ↓g_all, ↓g_slr, ↓g_sll, ↓g_sls, ↓ch_t, ↓ch_f, ↓ch_tt, ↓ch_ff, ↓and_t]
    refine draw_ev rfl (by decide) hp (by omega) (by decide) (by decide) fun r1 p1 a0 a1 hp1 => ?_
    obtain ⟨e, hm, e1⟩ := atI_of (l := [D.int 10, D.int 100, D.int (10 ^ Int.toNat 9), D.int (10 ^ Int.toNat 30), D.int (10 ^ Int.toNat 59)]) a0 (by simp; omega)
    obtain ⟨M, rfl, M0, M1⟩ : ∃ m, e = D.int m ∧ 0 < m ∧ m ≤ 10 ^ 59 := by
      simp only [List.mem_cons, List.not_mem_nil, or_false] at hm
      rcases hm with h | h | h | h | h <;> exact ⟨_, h, by decide +kernel, by decide +kernel⟩
    try (simp (disch := (first | (simp only [decide_eq_true_eq, decide_eq_false_iff_not, Bool.not_eq_true]; first | assumption | omega) | assumption | omega | decide | (simp only [List.length_cons, List.length_nil, DL.sz]; omega))) only [↓ew_pure, ↓ew_bind, ↓ew_map, ↓ev_name, ↓nameQ_s, ↓nameQ_f, ↓nameQ_o, ↓nameQ_l, ↓slotQ_s, ↓slotQ_z, ↓ownQ_s, ↓ownQ_o, ↓ownQ_l, ↓upQ_s, ↓upQ_z, ↓ew_argF, ↓ew_argS, ↓ew_argO, ↓ew_frzF, ↓ew_frzO, ↓ev_frzS, ↓ew_peekF, ↓ew_peekS, ↓sw_seq, ↓sv_asg, ↓sv_ret, ↓sv_expr, ↓sv_st, ↓sv_if, ↓sv_for, ↓sv_setF, ↓sv_setO, ↓sv_setS, ↓sw_retF, ↓sw_retO, ↓sv_retS, ↓retU_s, ↓retU_o, ↓retU_l, ↓sw_nx, ↓sv_store, ↓lsQ_s, ↓lsQ_z, ↓st_1, ↓st_2, ↓st_3, ↓atQ_some, ↓at_0, ↓at_1, ↓at_2, ↓at_3, ↓ev_d2, ↓ev_frz, ↓ev_consF, ↓ev_cons, ↓ev_lst, ↓ev_tup, ↓ev_dC, ↓ev_peeks0, ↓ev_peeks1, ↓ev_toBm, ↓ew_toB, ↓ev_not, ↓ev_and, ↓ev_or, ↓ev_andV, ↓ev_orV, ↓ev_notV, ↓ev_negV, ↓ev_ifE, ↓ev_chain, ↓ev_SS, ↓ev_SL, ↓ev_ST, ↓g_in1, ↓ev_R1, ↓ev_R2, ↓ev_srcR1, ↓ev_sl, ↓g_eqi, ↓g_eqs, ↓g_nei, ↓g_nes, ↓ev_call, ↓ev_lc, ↓tg_nm, ↓gd_s, ↓gd_z, ↓bk_0, ↓bk_1, ↓ev_some, ↓ev_toI, ↓g_ixl, ↓g_ixt, ↓g_ixs, ↓g_addi, ↓g_adds, ↓g_addl, ↓g_sub, ↓k_mul, ↓g_mull, ↓k_div, ↓k_mod, ↓k_pow, ↓g_lt, ↓g_le, ↓g_gt, ↓g_ge, ↓g_les, ↓g_neg, ↓g_lenl, ↓g_lent, ↓g_lenr, ↓g_lens, ↓g_abs, ↓g_inti, ↓g_intb, ↓g_stri, ↓g_listl, ↓g_listt, ↓g_tupl, ↓g_all, ↓g_slr, ↓g_sll, ↓g_sls, ↓ch_t, ↓ch_f, ↓ch_tt, ↓ch_ff, ↓and_t, ↓k_at e1])
    refine hN _ ?_
    clear hN N hm e1
    -- the number
    refine sw_step fun N hN => ?_
    simp (disch := (first | (simp only [decide_eq_true_eq, decide_eq_false_iff_not, Bool.not_eq_true]; first | assumption | omega) | assumption | omega | decide | (simp only [List.length_cons, List.length_nil, DL.sz]; omega))) only [↓ew_pure, ↓ew_bind, ↓ew_map, ↓ev_name, ↓nameQ_s, ↓nameQ_f, ↓nameQ_o, ↓nameQ_l, ↓slotQ_s, ↓slotQ_z, ↓ownQ_s, ↓ownQ_o, ↓ownQ_l, ↓upQ_s, ↓upQ_z, ↓ew_argF, ↓ew_argS, ↓ew_argO, ↓ew_frzF, ↓ew_frzO, ↓ev_frzS, ↓ew_peekF, ↓ew_peekS, ↓sw_seq, ↓sv_asg, ↓sv_ret, ↓sv_expr, ↓sv_st, ↓sv_if, ↓sv_for, ↓sv_setF, ↓sv_setO, ↓sv_setS, ↓sw_retF, ↓sw_retO, ↓sv_retS, ↓retU_s, ↓retU_o, ↓retU_l, ↓sw_nx, ↓sv_store, ↓lsQ_s, ↓lsQ_z, ↓st_1, ↓st_2, ↓st_3, ↓atQ_some, ↓at_0, ↓at_1, ↓at_2, ↓at_3, ↓ev_d2, ↓ev_frz, ↓ev_consF, ↓ev_cons, ↓ev_lst, ↓ev_tup, ↓ev_dC, ↓ev_peeks0, ↓ev_peeks1, ↓ev_toBm, ↓ew_toB, ↓ev_not, ↓ev_and, ↓ev_or, ↓ev_andV, ↓ev_orV, ↓ev_notV, ↓ev_negV, ↓ev_ifE, ↓ev_chain, ↓ev_SS, ↓ev_SL, ↓ev_ST, ↓g_in1, ↓ev_R1, ↓ev_R2, ↓ev_srcR1, ↓ev_sl, ↓g_eqi, ↓g_eqs, ↓g_nei, ↓g_nes, ↓ev_call, ↓ev_lc, ↓tg_nm, ↓gd_s, ↓gd_z, ↓bk_0, ↓bk_1, ↓ev_some, ↓ev_toI, ↓g_ixl, ↓g_ixt, ↓g_ixs, ↓g_addi, ↓g_adds, ↓g_addl, ↓g_sub, ↓k_mul, ↓g_mull, ↓k_div, ↓k_mod, ↓k_pow, ↓g_lt, ↓g_le, ↓g_gt, ↓g_ge, ↓g_les, ↓g_neg, ↓g_lenl, ↓g_lent, ↓g_lenr, ↓g_lens, ↓g_abs, ↓g_inti, ↓g_intb, ↓g_stri, ↓g_listl, ↓g_listt, ↓g_tupl, ↓g_all, ↓g_slr, ↓g_sll, ↓g_sls, ↓ch_t, ↓ch_f, ↓ch_tt, ↓ch_ff, ↓and_t]
    have lgM : M.natAbs.log2 < 9000 := by
      have := log2_lt (k := 200) (n := M.natAbs) (by decide) (by omega)
      omega
    refine draw_ev rfl (by decide) hp1 (by omega) M0 lgM fun r2 p2 b0 b1 hp2 => ?_
    try (simp (disch := (first | (simp only [decide_eq_true_eq, decide_eq_false_iff_not, Bool.not_eq_true]; first | assumption | omega) | assumption | omega | decide | (simp only [List.length_cons, List.length_nil, DL.sz]; omega))) only [↓ew_pure, ↓ew_bind, ↓ew_map, ↓ev_name, ↓nameQ_s, ↓nameQ_f, ↓nameQ_o, ↓nameQ_l, ↓slotQ_s, ↓slotQ_z, ↓ownQ_s, ↓ownQ_o, ↓ownQ_l, ↓upQ_s, ↓upQ_z, ↓ew_argF, ↓ew_argS, ↓ew_argO, ↓ew_frzF, ↓ew_frzO, ↓ev_frzS, ↓ew_peekF, ↓ew_peekS, ↓sw_seq, ↓sv_asg, ↓sv_ret, ↓sv_expr, ↓sv_st, ↓sv_if, ↓sv_for, ↓sv_setF, ↓sv_setO, ↓sv_setS, ↓sw_retF, ↓sw_retO, ↓sv_retS, ↓retU_s, ↓retU_o, ↓retU_l, ↓sw_nx, ↓sv_store, ↓lsQ_s, ↓lsQ_z, ↓st_1, ↓st_2, ↓st_3, ↓atQ_some, ↓at_0, ↓at_1, ↓at_2, ↓at_3, ↓ev_d2, ↓ev_frz, ↓ev_consF, ↓ev_cons, ↓ev_lst, ↓ev_tup, ↓ev_dC, ↓ev_peeks0, ↓ev_peeks1, ↓ev_toBm, ↓ew_toB, ↓ev_not, ↓ev_and, ↓ev_or, ↓ev_andV, ↓ev_orV, ↓ev_notV, ↓ev_negV, ↓ev_ifE, ↓ev_chain, ↓ev_SS, ↓ev_SL, ↓ev_ST, ↓g_in1, ↓ev_R1, ↓ev_R2, ↓ev_srcR1, ↓ev_sl, ↓g_eqi, ↓g_eqs, ↓g_nei, ↓g_nes, ↓ev_call, ↓ev_lc, ↓tg_nm, ↓gd_s, ↓gd_z, ↓bk_0, ↓bk_1, ↓ev_some, ↓ev_toI, ↓g_ixl, ↓g_ixt, ↓g_ixs, ↓g_addi, ↓g_adds, ↓g_addl, ↓g_sub, ↓k_mul, ↓g_mull, ↓k_div, ↓k_mod, ↓k_pow, ↓g_lt, ↓g_le, ↓g_gt, ↓g_ge, ↓g_les, ↓g_neg, ↓g_lenl, ↓g_lent, ↓g_lenr, ↓g_lens, ↓g_abs, ↓g_inti, ↓g_intb, ↓g_stri, ↓g_listl, ↓g_listt, ↓g_tupl, ↓g_all, ↓g_slr, ↓g_sll, ↓g_sls, ↓ch_t, ↓ch_f, ↓ch_tt, ↓ch_ff, ↓and_t])
    refine draw_ev rfl (by decide) hp2 (by omega) (by decide) (by decide) fun r3 p3 c0 c1 hp3 => ?_
    obtain ⟨e, hm, e1⟩ := atI_of (l := [D.int 1, D.int (-1)]) c0 (by simp; omega)
    obtain ⟨sg, rfl, sg1⟩ : ∃ m, e = D.int m ∧ (m = 1 ∨ m = -1) := by
      simp only [List.mem_cons, List.not_mem_nil, or_false] at hm
      rcases hm with h | h
      · exact ⟨_, h, .inl rfl⟩
      · exact ⟨_, h, .inr rfl⟩
    have hsg : (-(2 ^ 64) < r2 ∧ r2 < 2 ^ 64) ∨ (-(2 ^ 64) < sg ∧ sg < 2 ^ 64) := .inr (by omega)
    try (simp (disch := (first | (simp only [decide_eq_true_eq, decide_eq_false_iff_not, Bool.not_eq_true]; first | assumption | omega) | assumption | omega | decide | (simp only [List.length_cons, List.length_nil, DL.sz]; omega))) only [↓ew_pure, ↓ew_bind, ↓ew_map, ↓ev_name, ↓nameQ_s, ↓nameQ_f, ↓nameQ_o, ↓nameQ_l, ↓slotQ_s, ↓slotQ_z, ↓ownQ_s, ↓ownQ_o, ↓ownQ_l, ↓upQ_s, ↓upQ_z, ↓ew_argF, ↓ew_argS, ↓ew_argO, ↓ew_frzF, ↓ew_frzO, ↓ev_frzS, ↓ew_peekF, ↓ew_peekS, ↓sw_seq, ↓sv_asg, ↓sv_ret, ↓sv_expr, ↓sv_st, ↓sv_if, ↓sv_for, ↓sv_setF, ↓sv_setO, ↓sv_setS, ↓sw_retF, ↓sw_retO, ↓sv_retS, ↓retU_s, ↓retU_o, ↓retU_l, ↓sw_nx, ↓sv_store, ↓lsQ_s, ↓lsQ_z, ↓st_1, ↓st_2, ↓st_3, ↓atQ_some, ↓at_0, ↓at_1, ↓at_2, ↓at_3, ↓ev_d2, ↓ev_frz, ↓ev_consF, ↓ev_cons, ↓ev_lst, ↓ev_tup, ↓ev_dC, ↓ev_peeks0, ↓ev_peeks1, ↓ev_toBm, ↓ew_toB, ↓ev_not, ↓ev_and, ↓ev_or, ↓ev_andV, ↓ev_orV, ↓ev_notV, ↓ev_negV, ↓ev_ifE, ↓ev_chain, ↓ev_SS, ↓ev_SL, ↓ev_ST, ↓g_in1, ↓ev_R1, ↓ev_R2, ↓ev_srcR1, ↓ev_sl, ↓g_eqi, ↓g_eqs, ↓g_nei, ↓g_nes, ↓ev_call, ↓ev_lc, ↓tg_nm, ↓gd_s, ↓gd_z, ↓bk_0, ↓bk_1, ↓ev_some, ↓ev_toI, ↓g_ixl, ↓g_ixt, ↓g_ixs, ↓g_addi, ↓g_adds, ↓g_addl, ↓g_sub, ↓k_mul, ↓g_mull, ↓k_div, ↓k_mod, ↓k_pow, ↓g_lt, ↓g_le, ↓g_gt, ↓g_ge, ↓g_les, ↓g_neg, ↓g_lenl, ↓g_lent, ↓g_lenr, ↓g_lens, ↓g_abs, ↓g_inti, ↓g_intb, ↓g_stri, ↓g_listl, ↓g_listt, ↓g_tupl, ↓g_all, ↓g_slr, ↓g_sll, ↓g_sls, ↓ch_t, ↓ch_f, ↓ch_tt, ↓ch_ff, ↓and_t, ↓k_at e1])
    obtain ⟨num, hnum⟩ : ∃ num, num = r2 * sg := ⟨_, rfl⟩
    rw [← hnum]
    have hn60 : num.natAbs < 10 ^ 60 := by
      rw [hnum, Int.natAbs_mul]
      have : sg.natAbs = 1 := by omega
      rw [this]
      omega
    refine hN _ ?_
    clear hN N hm e1 hnum
    -- the items
    rw [sv_for]
    have lg2 : num.natAbs.log2 < 1920 := by
      have := log2_lt (k := 200) (n := num.natAbs) (by decide) (by omega)
      omega
    simp (disch := (first | (simp only [decide_eq_true_eq, decide_eq_false_iff_not, Bool.not_eq_true]; first | assumption | omega) | assumption | omega | decide | (simp only [List.length_cons, List.length_nil, DL.sz]; omega))) only [↓ew_pure, ↓ew_bind, ↓ew_map, ↓ev_name, ↓nameQ_s, ↓nameQ_f, ↓nameQ_o, ↓nameQ_l, ↓slotQ_s, ↓slotQ_z, ↓ownQ_s, ↓ownQ_o, ↓ownQ_l, ↓upQ_s, ↓upQ_z, ↓ew_argF, ↓ew_argS, ↓ew_argO, ↓ew_frzF, ↓ew_frzO, ↓ev_frzS, ↓ew_peekF, ↓ew_peekS, ↓sw_seq, ↓sv_asg, ↓sv_ret, ↓sv_expr, ↓sv_st, ↓sv_if, ↓sv_for, ↓sv_setF, ↓sv_setO, ↓sv_setS, ↓sw_retF, ↓sw_retO, ↓sv_retS, ↓retU_s, ↓retU_o, ↓retU_l, ↓sw_nx, ↓sv_store, ↓lsQ_s, ↓lsQ_z, ↓st_1, ↓st_2, ↓st_3, ↓atQ_some, ↓at_0, ↓at_1, ↓at_2, ↓at_3, ↓ev_d2, ↓ev_frz, ↓ev_consF, ↓ev_cons, ↓ev_lst, ↓ev_tup, ↓ev_dC, ↓ev_peeks0, ↓ev_peeks1, ↓ev_toBm, ↓ew_toB, ↓ev_not, ↓ev_and, ↓ev_or, ↓ev_andV, ↓ev_orV, ↓ev_notV, ↓ev_negV, ↓ev_ifE, ↓ev_chain, ↓ev_SS, ↓ev_SL, ↓ev_ST, ↓g_in1, ↓ev_R1, ↓ev_R2, ↓ev_srcR1, ↓ev_sl, ↓g_eqi, ↓g_eqs, ↓g_nei, ↓g_nes, ↓ev_call, ↓ev_lc, ↓tg_nm, ↓gd_s, ↓gd_z, ↓bk_0, ↓bk_1, ↓ev_some, ↓ev_toI, ↓g_ixl, ↓g_ixt, ↓g_ixs, ↓g_addi, ↓g_adds, ↓g_addl, ↓g_sub, ↓k_mul, ↓g_mull, ↓k_div, ↓k_mod, ↓k_pow, ↓g_lt, ↓g_le, ↓g_gt, ↓g_ge, ↓g_les, ↓g_neg, ↓g_lenl, ↓g_lent, ↓g_lenr, ↓g_lens, ↓g_abs, ↓g_inti, ↓g_intb, ↓g_stri, ↓g_listl, ↓g_listt, ↓g_tupl, ↓g_all, ↓g_slr, ↓g_sll, ↓g_sls, ↓ch_t, ↓ch_f, ↓ch_tt, ↓ch_ff, ↓and_t]
    refine word_ev rfl (by decide) hp3 (by omega) (by omega) fun z1 p4 hz1 hp4 => ?_
    try (simp (disch := (first | (simp only [decide_eq_true_eq, decide_eq_false_iff_not, Bool.not_eq_true]; first | assumption | omega) | assumption | omega | decide | (simp only [List.length_cons, List.length_nil, DL.sz]; omega))) only [↓ew_pure, ↓ew_bind, ↓ew_map, ↓ev_name, ↓nameQ_s, ↓nameQ_f, ↓nameQ_o, ↓nameQ_l, ↓slotQ_s, ↓slotQ_z, ↓ownQ_s, ↓ownQ_o, ↓ownQ_l, ↓upQ_s, ↓upQ_z, ↓ew_argF, ↓ew_argS, ↓ew_argO, ↓ew_frzF, ↓ew_frzO, ↓ev_frzS, ↓ew_peekF, ↓ew_peekS, ↓sw_seq, ↓sv_asg, ↓sv_ret, ↓sv_expr, ↓sv_st, ↓sv_if, ↓sv_for, ↓sv_setF, ↓sv_setO, ↓sv_setS, ↓sw_retF, ↓sw_retO, ↓sv_retS, ↓retU_s, ↓retU_o, ↓retU_l, ↓sw_nx, ↓sv_store, ↓lsQ_s, ↓lsQ_z, ↓st_1, ↓st_2, ↓st_3, ↓atQ_some, ↓at_0, ↓at_1, ↓at_2, ↓at_3, ↓ev_d2, ↓ev_frz, ↓ev_consF, ↓ev_cons, ↓ev_lst, ↓ev_tup, ↓ev_dC, ↓ev_peeks0, ↓ev_peeks1, ↓ev_toBm, ↓ew_toB, ↓ev_not, ↓ev_and, ↓ev_or, ↓ev_andV, ↓ev_orV, ↓ev_notV, ↓ev_negV, ↓ev_ifE, ↓ev_chain, ↓ev_SS, ↓ev_SL, ↓ev_ST, ↓g_in1, ↓ev_R1, ↓ev_R2, ↓ev_srcR1, ↓ev_sl, ↓g_eqi, ↓g_eqs, ↓g_nei, ↓g_nes, ↓ev_call, ↓ev_lc, ↓tg_nm, ↓gd_s, ↓gd_z, ↓bk_0, ↓bk_1, ↓ev_some, ↓ev_toI, ↓g_ixl, ↓g_ixt, ↓g_ixs, ↓g_addi, ↓g_adds, ↓g_addl, ↓g_sub, ↓k_mul, ↓g_mull, ↓k_div, ↓k_mod, ↓k_pow, ↓g_lt, ↓g_le, ↓g_gt, ↓g_ge, ↓g_les, ↓g_neg, ↓g_lenl, ↓g_lent, ↓g_lenr, ↓g_lens, ↓g_abs, ↓g_inti, ↓g_intb, ↓g_stri, ↓g_listl, ↓g_listt, ↓g_tupl, ↓g_all, ↓g_slr, ↓g_sll, ↓g_sls, ↓ch_t, ↓ch_f, ↓ch_tt, ↓ch_ff, ↓and_t])
    refine any_ev rfl (by decide) hp4 (by omega) (by omega) fun x dv p5 hx hdv hp5 => ?_
    have ef : ∀ (δ : Dl) (R : D → Dl → Prop), EW (frzR x δ) R = R dv δ := by rcases hx with rfl | rfl <;> intros <;> rfl
    try (simp (disch := (first | (simp only [decide_eq_true_eq, decide_eq_false_iff_not, Bool.not_eq_true]; first | assumption | omega) | assumption | omega | decide | (simp only [List.length_cons, List.length_nil, DL.sz]; omega))) only [↓ew_pure, ↓ew_bind, ↓ew_map, ↓ev_name, ↓nameQ_s, ↓nameQ_f, ↓nameQ_o, ↓nameQ_l, ↓slotQ_s, ↓slotQ_z, ↓ownQ_s, ↓ownQ_o, ↓ownQ_l, ↓upQ_s, ↓upQ_z, ↓ew_argF, ↓ew_argS, ↓ew_argO, ↓ew_frzF, ↓ew_frzO, ↓ev_frzS, ↓ew_peekF, ↓ew_peekS, ↓sw_seq, ↓sv_asg, ↓sv_ret, ↓sv_expr, ↓sv_st, ↓sv_if, ↓sv_for, ↓sv_setF, ↓sv_setO, ↓sv_setS, ↓sw_retF, ↓sw_retO, ↓sv_retS, ↓retU_s, ↓retU_o, ↓retU_l, ↓sw_nx, ↓sv_store, ↓lsQ_s, ↓lsQ_z, ↓st_1, ↓st_2, ↓st_3, ↓atQ_some, ↓at_0, ↓at_1, ↓at_2, ↓at_3, ↓ev_d2, ↓ev_frz, ↓ev_consF, ↓ev_cons, ↓ev_lst, ↓ev_tup, ↓ev_dC, ↓ev_peeks0, ↓ev_peeks1, ↓ev_toBm, ↓ew_toB, ↓ev_not, ↓ev_and, ↓ev_or, ↓ev_andV, ↓ev_orV, ↓ev_notV, ↓ev_negV, ↓ev_ifE, ↓ev_chain, ↓ev_SS, ↓ev_SL, ↓ev_ST, ↓g_in1, ↓ev_R1, ↓ev_R2, ↓ev_srcR1, ↓ev_sl, ↓g_eqi, ↓g_eqs, ↓g_nei, ↓g_nes, ↓ev_call, ↓ev_lc, ↓tg_nm, ↓gd_s, ↓gd_z, ↓bk_0, ↓bk_1, ↓ev_some, ↓ev_toI, ↓g_ixl, ↓g_ixt, ↓g_ixs, ↓g_addi, ↓g_adds, ↓g_addl, ↓g_sub, ↓k_mul, ↓g_mull, ↓k_div, ↓k_mod, ↓k_pow, ↓g_lt, ↓g_le, ↓g_gt, ↓g_ge, ↓g_les, ↓g_neg, ↓g_lenl, ↓g_lent, ↓g_lenr, ↓g_lens, ↓g_abs, ↓g_inti, ↓g_intb, ↓g_stri, ↓g_listl, ↓g_listt, ↓g_tupl, ↓g_all, ↓g_slr, ↓g_sll, ↓g_sls, ↓ch_t, ↓ch_f, ↓ch_tt, ↓ch_ff, ↓and_t, ↓ef])
    refine word_ev rfl (by decide) hp5 (by omega) (by omega) fun z2 p6 hz2 hp6 => ?_
    try (simp (disch := (first | (simp only [decide_eq_true_eq, decide_eq_false_iff_not, Bool.not_eq_true]; first | assumption | omega) | assumption | omega | decide | (simp only [List.length_cons, List.length_nil, DL.sz]; omega))) only [↓ew_pure, ↓ew_bind, ↓ew_map, ↓ev_name, ↓nameQ_s, ↓nameQ_f, ↓nameQ_o, ↓nameQ_l, ↓slotQ_s, ↓slotQ_z, ↓ownQ_s, ↓ownQ_o, ↓ownQ_l, ↓upQ_s, ↓upQ_z, ↓ew_argF, ↓ew_argS, ↓ew_argO, ↓ew_frzF, ↓ew_frzO, ↓ev_frzS, ↓ew_peekF, ↓ew_peekS, ↓sw_seq, ↓sv_asg, ↓sv_ret, ↓sv_expr, ↓sv_st, ↓sv_if, ↓sv_for, ↓sv_setF, ↓sv_setO, ↓sv_setS, ↓sw_retF, ↓sw_retO, ↓sv_retS, ↓retU_s, ↓retU_o, ↓retU_l, ↓sw_nx, ↓sv_store, ↓lsQ_s, ↓lsQ_z, ↓st_1, ↓st_2, ↓st_3, ↓atQ_some, ↓at_0, ↓at_1, ↓at_2, ↓at_3, ↓ev_d2, ↓ev_frz, ↓ev_consF, ↓ev_cons, ↓ev_lst, ↓ev_tup, ↓ev_dC, ↓ev_peeks0, ↓ev_peeks1, ↓ev_toBm, ↓ew_toB, ↓ev_not, ↓ev_and, ↓ev_or, ↓ev_andV, ↓ev_orV, ↓ev_notV, ↓ev_negV, ↓ev_ifE, ↓ev_chain, ↓ev_SS, ↓ev_SL, ↓ev_ST, ↓g_in1, ↓ev_R1, ↓ev_R2, ↓ev_srcR1, ↓ev_sl, ↓g_eqi, ↓g_eqs, ↓g_nei, ↓g_nes, ↓ev_call, ↓ev_lc, ↓tg_nm, ↓gd_s, ↓gd_z, ↓bk_0, ↓bk_1, ↓ev_some, ↓ev_toI, ↓g_ixl, ↓g_ixt, ↓g_ixs, ↓g_addi, ↓g_adds, ↓g_addl, ↓g_sub, ↓k_mul, ↓g_mull, ↓k_div, ↓k_mod, ↓k_pow, ↓g_lt, ↓g_le, ↓g_gt, ↓g_ge, ↓g_les, ↓g_neg, ↓g_lenl, ↓g_lent, ↓g_lenr, ↓g_lens, ↓g_abs, ↓g_inti, ↓g_intb, ↓g_stri, ↓g_listl, ↓g_listt, ↓g_tupl, ↓g_all, ↓g_slr, ↓g_sll, ↓g_sls, ↓ch_t, ↓ch_f, ↓ch_tt, ↓ch_ff, ↓and_t])
    have items : ∀ d ∈ [D.str z1, D.int num, D.str (toString num), dv, D.lst [D.str z2]], It d := fun d hd => by
      simp only [List.mem_cons, List.not_mem_nil, or_false] at hd
      rcases hd with h | h | h | h | h <;> rw [h]
      · exact it_word hz1
      · exact it_int hn60
      · exact it_txt hn60
      · exact it_any hdv
      · exact it_one hz2
    refine sw_forL (I := fun _ δ => ∃ x5 x6 x7 x8 x9, δ = [some ⟨.ro (ns.map .int), .frz⟩, some ⟨p6, .own⟩, some ⟨d, .frz⟩, some ⟨.int M, .frz⟩, some ⟨.int num, .frz⟩, x5, x6, x7, x8, x9]) (fun i2 t δ ht hI => ?_) (fun δ hI => ?_) ⟨_, _, _, _, _, rfl⟩
    · obtain ⟨x5, x6, x7, x8, x9, rfl⟩ := hI
      have it : It t := items t (List.mem_of_getElem? ht)
      obtain ⟨z, hz, _⟩ := it.fine.repr (by omega) (by omega)
      obtain ⟨ty, h1, h2, h3, h4⟩ := isi_ev it.fine
      refine ⟨[some ⟨.ro (ns.map .int), .frz⟩, some ⟨p6, .own⟩, some ⟨d, .frz⟩, some ⟨.int M, .frz⟩, some ⟨.int num, .frz⟩, some ⟨t, .frz⟩, x6, x7, x8, x9], rfl, ?_⟩
      generalize hP3 : Po.mk _ P2.rt _ _ = P3
      have hI3 : ∀ x5 x6 x7 x8 x9, P3.nx [some ⟨.ro (ns.map .int), .frz⟩, some ⟨p6, .own⟩, some ⟨d, .frz⟩, some ⟨.int M, .frz⟩, some ⟨.int num, .frz⟩, x5, x6, x7, x8, x9] := by
        subst hP3
        exact fun x5 x6 x7 x8 x9 => ⟨x5, x6, x7, x8, x9, rfl⟩
      clear hP3
      refine sw_step fun N hN => ?_
      simp (disch := (first | (simp only [decide_eq_true_eq, decide_eq_false_iff_not, Bool.not_eq_true]; first | assumption | omega) | assumption | omega | decide | (simp only [List.length_cons, List.length_nil, DL.sz]; omega))) only [↓ew_pure, ↓ew_bind, ↓ew_map, ↓ev_name, ↓nameQ_s, ↓nameQ_f, ↓nameQ_o, ↓nameQ_l, ↓slotQ_s, ↓slotQ_z, ↓ownQ_s, ↓ownQ_o, ↓ownQ_l, ↓upQ_s, ↓upQ_z, ↓ew_argF, ↓ew_argS, ↓ew_argO, ↓ew_frzF, ↓ew_frzO, ↓ev_frzS, ↓ew_peekF, ↓ew_peekS, ↓sw_seq, ↓sv_asg, ↓sv_ret, ↓sv_expr, ↓sv_st, ↓sv_if, ↓sv_for, ↓sv_setF, ↓sv_setO, ↓sv_setS, ↓sw_retF, ↓sw_retO, ↓sv_retS, ↓retU_s, ↓retU_o, ↓retU_l, ↓sw_nx, ↓sv_store, ↓lsQ_s, ↓lsQ_z, ↓st_1, ↓st_2, ↓st_3, ↓atQ_some, ↓at_0, ↓at_1, ↓at_2, ↓at_3, ↓ev_d2, ↓ev_frz, ↓ev_consF, ↓ev_cons, ↓ev_lst, ↓ev_tup, ↓ev_dC, ↓ev_peeks0, ↓ev_peeks1, ↓ev_toBm, ↓ew_toB, ↓ev_not, ↓ev_and, ↓ev_or, ↓ev_andV, ↓ev_orV, ↓ev_notV, ↓ev_negV, ↓ev_ifE, ↓ev_chain, ↓ev_SS, ↓ev_SL, ↓ev_ST, ↓g_in1, ↓ev_R1, ↓ev_R2, ↓ev_srcR1, ↓ev_sl, ↓g_eqi, ↓g_eqs, ↓g_nei, ↓g_nes, ↓ev_call, ↓ev_lc, ↓tg_nm, ↓gd_s, ↓gd_z, ↓bk_0, ↓bk_1, ↓ev_some, ↓ev_toI, ↓g_ixl, ↓g_ixt, ↓g_ixs, ↓g_addi, ↓g_adds, ↓g_addl, ↓g_sub, ↓k_mul, ↓g_mull, ↓k_div, ↓k_mod, ↓k_pow, ↓g_lt, ↓g_le, ↓g_gt, ↓g_ge, ↓g_les, ↓g_neg, ↓g_lenl, ↓g_lent, ↓g_lenr, ↓g_lens, ↓g_abs, ↓g_inti, ↓g_intb, ↓g_stri, ↓g_listl, ↓g_listt, ↓g_tupl, ↓g_all, ↓g_slr, ↓g_sll, ↓g_sls, ↓ch_t, ↓ch_f, ↓ch_tt, ↓ch_ff, ↓and_t, ↓k_repr hz]
      refine hN _ ?_
      clear hN N
      refine sw_step fun N hN => ?_
      simp (disch := (first | (simp only [decide_eq_true_eq, decide_eq_false_iff_not, Bool.not_eq_true]; first | assumption | omega) | assumption | omega | decide | (simp only [List.length_cons, List.length_nil, DL.sz]; omega))) only [↓ew_pure, ↓ew_bind, ↓ew_map, ↓ev_name, ↓nameQ_s, ↓nameQ_f, ↓nameQ_o, ↓nameQ_l, ↓slotQ_s, ↓slotQ_z, ↓ownQ_s, ↓ownQ_o, ↓ownQ_l, ↓upQ_s, ↓upQ_z, ↓ew_argF, ↓ew_argS, ↓ew_argO, ↓ew_frzF, ↓ew_frzO, ↓ev_frzS, ↓ew_peekF, ↓ew_peekS, ↓sw_seq, ↓sv_asg, ↓sv_ret, ↓sv_expr, ↓sv_st, ↓sv_if, ↓sv_for, ↓sv_setF, ↓sv_setO, ↓sv_setS, ↓sw_retF, ↓sw_retO, ↓sv_retS, ↓retU_s, ↓retU_o, ↓retU_l, ↓sw_nx, ↓sv_store, ↓lsQ_s, ↓lsQ_z, ↓st_1, ↓st_2, ↓st_3, ↓atQ_some, ↓at_0, ↓at_1, ↓at_2, ↓at_3, ↓ev_d2, ↓ev_frz, ↓ev_consF, ↓ev_cons, ↓ev_lst, ↓ev_tup, ↓ev_dC, ↓ev_peeks0, ↓ev_peeks1, ↓ev_toBm, ↓ew_toB, ↓ev_not, ↓ev_and, ↓ev_or, ↓ev_andV, ↓ev_orV, ↓ev_notV, ↓ev_negV, ↓ev_ifE, ↓ev_chain, ↓ev_SS, ↓ev_SL, ↓ev_ST, ↓g_in1, ↓ev_R1, ↓ev_R2, ↓ev_srcR1, ↓ev_sl, ↓g_eqi, ↓g_eqs, ↓g_nei, ↓g_nes, ↓ev_call, ↓ev_lc, ↓tg_nm, ↓gd_s, ↓gd_z, ↓bk_0, ↓bk_1, ↓ev_some, ↓ev_toI, ↓g_ixl, ↓g_ixt, ↓g_ixs, ↓g_addi, ↓g_adds, ↓g_addl, ↓g_sub, ↓k_mul, ↓g_mull, ↓k_div, ↓k_mod, ↓k_pow, ↓g_lt, ↓g_le, ↓g_gt, ↓g_ge, ↓g_les, ↓g_neg, ↓g_lenl, ↓g_lent, ↓g_lenr, ↓g_lens, ↓g_abs, ↓g_inti, ↓g_intb, ↓g_stri, ↓g_listl, ↓g_listt, ↓g_tupl, ↓g_all, ↓g_slr, ↓g_sll, ↓g_sls, ↓ch_t, ↓ch_f, ↓ch_tt, ↓ch_ff, ↓and_t, ↓k_isi h1 h3, ↓k_isi h1 h4]
      refine ch_num (f := fun b => N [some ⟨.ro (ns.map .int), .frz⟩, some ⟨p6, .own⟩, some ⟨d, .frz⟩, some ⟨.int M, .frz⟩, some ⟨.int num, .frz⟩, some ⟨t, .frz⟩, some ⟨.str z, .frz⟩, some ⟨.bl b, .frz⟩, x8, x9]) ?_
      refine hN _ ?_
      clear hN N
      refine sw_step fun N hN => ?_
      simp (disch := (first | (simp only [decide_eq_true_eq, decide_eq_false_iff_not, Bool.not_eq_true]; first | assumption | omega) | assumption | omega | decide | (simp only [List.length_cons, List.length_nil, DL.sz]; omega))) only [↓ew_pure, ↓ew_bind, ↓ew_map, ↓ev_name, ↓nameQ_s, ↓nameQ_f, ↓nameQ_o, ↓nameQ_l, ↓slotQ_s, ↓slotQ_z, ↓ownQ_s, ↓ownQ_o, ↓ownQ_l, ↓upQ_s, ↓upQ_z, ↓ew_argF, ↓ew_argS, ↓ew_argO, ↓ew_frzF, ↓ew_frzO, ↓ev_frzS, ↓ew_peekF, ↓ew_peekS, ↓sw_seq, ↓sv_asg, ↓sv_ret, ↓sv_expr, ↓sv_st, ↓sv_if, ↓sv_for, ↓sv_setF, ↓sv_setO, ↓sv_setS, ↓sw_retF, ↓sw_retO, ↓sv_retS, ↓retU_s, ↓retU_o, ↓retU_l, ↓sw_nx, ↓sv_store, ↓lsQ_s, ↓lsQ_z, ↓st_1, ↓st_2, ↓st_3, ↓atQ_some, ↓at_0, ↓at_1, ↓at_2, ↓at_3, ↓ev_d2, ↓ev_frz, ↓ev_consF, ↓ev_cons, ↓ev_lst, ↓ev_tup, ↓ev_dC, ↓ev_peeks0, ↓ev_peeks1, ↓ev_toBm, ↓ew_toB, ↓ev_not, ↓ev_and, ↓ev_or, ↓ev_andV, ↓ev_orV, ↓ev_notV, ↓ev_negV, ↓ev_ifE, ↓ev_chain, ↓ev_SS, ↓ev_SL, ↓ev_ST, ↓g_in1, ↓ev_R1, ↓ev_R2, ↓ev_srcR1, ↓ev_sl, ↓g_eqi, ↓g_eqs, ↓g_nei, ↓g_nes, ↓ev_call, ↓ev_lc, ↓tg_nm, ↓gd_s, ↓gd_z, ↓bk_0, ↓bk_1, ↓ev_some, ↓ev_toI, ↓g_ixl, ↓g_ixt, ↓g_ixs, ↓g_addi, ↓g_adds, ↓g_addl, ↓g_sub, ↓k_mul, ↓g_mull, ↓k_div, ↓k_mod, ↓k_pow, ↓g_lt, ↓g_le, ↓g_gt, ↓g_ge, ↓g_les, ↓g_neg, ↓g_lenl, ↓g_lent, ↓g_lenr, ↓g_lens, ↓g_abs, ↓g_inti, ↓g_intb, ↓g_stri, ↓g_listl, ↓g_listt, ↓g_tupl, ↓g_all, ↓g_slr, ↓g_sll, ↓g_sls, ↓ch_t, ↓ch_f, ↓ch_tt, ↓ch_ff, ↓and_t]
      refine name_ev it ?_
      try (simp (disch := (first | (simp only [decide_eq_true_eq, decide_eq_false_iff_not, Bool.not_eq_true]; first | assumption | omega) | assumption | omega | decide | (simp only [List.length_cons, List.length_nil, DL.sz]; omega))) only [↓ew_pure, ↓ew_bind, ↓ew_map, ↓ev_name, ↓nameQ_s, ↓nameQ_f, ↓nameQ_o, ↓nameQ_l, ↓slotQ_s, ↓slotQ_z, ↓ownQ_s, ↓ownQ_o, ↓ownQ_l, ↓upQ_s, ↓upQ_z, ↓ew_argF, ↓ew_argS, ↓ew_argO, ↓ew_frzF, ↓ew_frzO, ↓ev_frzS, ↓ew_peekF, ↓ew_peekS, ↓sw_seq, ↓sv_asg, ↓sv_ret, ↓sv_expr, ↓sv_st, ↓sv_if, ↓sv_for, ↓sv_setF, ↓sv_setO, ↓sv_setS, ↓sw_retF, ↓sw_retO, ↓sv_retS, ↓retU_s, ↓retU_o, ↓retU_l, ↓sw_nx, ↓sv_store, ↓lsQ_s, ↓lsQ_z, ↓st_1, ↓st_2, ↓st_3, ↓atQ_some, ↓at_0, ↓at_1, ↓at_2, ↓at_3, ↓ev_d2, ↓ev_frz, ↓ev_consF, ↓ev_cons, ↓ev_lst, ↓ev_tup, ↓ev_dC, ↓ev_peeks0, ↓ev_peeks1, ↓ev_toBm, ↓ew_toB, ↓ev_not, ↓ev_and, ↓ev_or, ↓ev_andV, ↓ev_orV, ↓ev_notV, ↓ev_negV, ↓ev_ifE, ↓ev_chain, ↓ev_SS, ↓ev_SL, ↓ev_ST, ↓g_in1, ↓ev_R1, ↓ev_R2, ↓ev_srcR1, ↓ev_sl, ↓g_eqi, ↓g_eqs, ↓g_nei, ↓g_nes, ↓ev_call, ↓ev_lc, ↓tg_nm, ↓gd_s, ↓gd_z, ↓bk_0, ↓bk_1, ↓ev_some, ↓ev_toI, ↓g_ixl, ↓g_ixt, ↓g_ixs, ↓g_addi, ↓g_adds, ↓g_addl, ↓g_sub, ↓k_mul, ↓g_mull, ↓k_div, ↓k_mod, ↓k_pow, ↓g_lt, ↓g_le, ↓g_gt, ↓g_ge, ↓g_les, ↓g_neg, ↓g_lenl, ↓g_lent, ↓g_lenr, ↓g_lens, ↓g_abs, ↓g_inti, ↓g_intb, ↓g_stri, ↓g_listl, ↓g_listt, ↓g_tupl, ↓g_all, ↓g_slr, ↓g_sll, ↓g_sls, ↓ch_t, ↓ch_f, ↓ch_tt, ↓ch_ff, ↓and_t])
      refine name_evK it ?_
      try (simp (disch := (first | (simp only [decide_eq_true_eq, decide_eq_false_iff_not, Bool.not_eq_true]; first | assumption | omega) | assumption | omega | decide | (simp only [List.length_cons, List.length_nil, DL.sz]; omega))) only [↓ew_pure, ↓ew_bind, ↓ew_map, ↓ev_name, ↓nameQ_s, ↓nameQ_f, ↓nameQ_o, ↓nameQ_l, ↓slotQ_s, ↓slotQ_z, ↓ownQ_s, ↓ownQ_o, ↓ownQ_l, ↓upQ_s, ↓upQ_z, ↓ew_argF, ↓ew_argS, ↓ew_argO, ↓ew_frzF, ↓ew_frzO, ↓ev_frzS, ↓ew_peekF, ↓ew_peekS, ↓sw_seq, ↓sv_asg, ↓sv_ret, ↓sv_expr, ↓sv_st, ↓sv_if, ↓sv_for, ↓sv_setF, ↓sv_setO, ↓sv_setS, ↓sw_retF, ↓sw_retO, ↓sv_retS, ↓retU_s, ↓retU_o, ↓retU_l, ↓sw_nx, ↓sv_store, ↓lsQ_s, ↓lsQ_z, ↓st_1, ↓st_2, ↓st_3, ↓atQ_some, ↓at_0, ↓at_1, ↓at_2, ↓at_3, ↓ev_d2, ↓ev_frz, ↓ev_consF, ↓ev_cons, ↓ev_lst, ↓ev_tup, ↓ev_dC, ↓ev_peeks0, ↓ev_peeks1, ↓ev_toBm, ↓ew_toB, ↓ev_not, ↓ev_and, ↓ev_or, ↓ev_andV, ↓ev_orV, ↓ev_notV, ↓ev_negV, ↓ev_ifE, ↓ev_chain, ↓ev_SS, ↓ev_SL, ↓ev_ST, ↓g_in1, ↓ev_R1, ↓ev_R2, ↓ev_srcR1, ↓ev_sl, ↓g_eqi, ↓g_eqs, ↓g_nei, ↓g_nes, ↓ev_call, ↓ev_lc, ↓tg_nm, ↓gd_s, ↓gd_z, ↓bk_0, ↓bk_1, ↓ev_some, ↓ev_toI, ↓g_ixl, ↓g_ixt, ↓g_ixs, ↓g_addi, ↓g_adds, ↓g_addl, ↓g_sub, ↓k_mul, ↓g_mull, ↓k_div, ↓k_mod, ↓k_pow, ↓g_lt, ↓g_le, ↓g_gt, ↓g_ge, ↓g_les, ↓g_neg, ↓g_lenl, ↓g_lent, ↓g_lenr, ↓g_lens, ↓g_abs, ↓g_inti, ↓g_intb, ↓g_stri, ↓g_listl, ↓g_listt, ↓g_tupl, ↓g_all, ↓g_slr, ↓g_sll, ↓g_sls, ↓ch_t, ↓ch_f, ↓ch_tt, ↓ch_ff, ↓and_t])
      refine depth_ev it ?_
      try (simp (disch := (first | (simp only [decide_eq_true_eq, decide_eq_false_iff_not, Bool.not_eq_true]; first | assumption | omega) | assumption | omega | decide | (simp only [List.length_cons, List.length_nil, DL.sz]; omega))) only [↓ew_pure, ↓ew_bind, ↓ew_map, ↓ev_name, ↓nameQ_s, ↓nameQ_f, ↓nameQ_o, ↓nameQ_l, ↓slotQ_s, ↓slotQ_z, ↓ownQ_s, ↓ownQ_o, ↓ownQ_l, ↓upQ_s, ↓upQ_z, ↓ew_argF, ↓ew_argS, ↓ew_argO, ↓ew_frzF, ↓ew_frzO, ↓ev_frzS, ↓ew_peekF, ↓ew_peekS, ↓sw_seq, ↓sv_asg, ↓sv_ret, ↓sv_expr, ↓sv_st, ↓sv_if, ↓sv_for, ↓sv_setF, ↓sv_setO, ↓sv_setS, ↓sw_retF, ↓sw_retO, ↓sv_retS, ↓retU_s, ↓retU_o, ↓retU_l, ↓sw_nx, ↓sv_store, ↓lsQ_s, ↓lsQ_z, ↓st_1, ↓st_2, ↓st_3, ↓atQ_some, ↓at_0, ↓at_1, ↓at_2, ↓at_3, ↓ev_d2, ↓ev_frz, ↓ev_consF, ↓ev_cons, ↓ev_lst, ↓ev_tup, ↓ev_dC, ↓ev_peeks0, ↓ev_peeks1, ↓ev_toBm, ↓ew_toB, ↓ev_not, ↓ev_and, ↓ev_or, ↓ev_andV, ↓ev_orV, ↓ev_notV, ↓ev_negV, ↓ev_ifE, ↓ev_chain, ↓ev_SS, ↓ev_SL, ↓ev_ST, ↓g_in1, ↓ev_R1, ↓ev_R2, ↓ev_srcR1, ↓ev_sl, ↓g_eqi, ↓g_eqs, ↓g_nei, ↓g_nes, ↓ev_call, ↓ev_lc, ↓tg_nm, ↓gd_s, ↓gd_z, ↓bk_0, ↓bk_1, ↓ev_some, ↓ev_toI, ↓g_ixl, ↓g_ixt, ↓g_ixs, ↓g_addi, ↓g_adds, ↓g_addl, ↓g_sub, ↓k_mul, ↓g_mull, ↓k_div, ↓k_mod, ↓k_pow, ↓g_lt, ↓g_le, ↓g_gt, ↓g_ge, ↓g_les, ↓g_neg, ↓g_lenl, ↓g_lent, ↓g_lenr, ↓g_lens, ↓g_abs, ↓g_inti, ↓g_intb, ↓g_stri, ↓g_listl, ↓g_listt, ↓g_tupl, ↓g_all, ↓g_slr, ↓g_sll, ↓g_sls, ↓ch_t, ↓ch_f, ↓ch_tt, ↓ch_ff, ↓and_t])
      refine depth_evK it ?_
      try (simp (disch := (first | (simp only [decide_eq_true_eq, decide_eq_false_iff_not, Bool.not_eq_true]; first | assumption | omega) | assumption | omega | decide | (simp only [List.length_cons, List.length_nil, DL.sz]; omega))) only [↓ew_pure, ↓ew_bind, ↓ew_map, ↓ev_name, ↓nameQ_s, ↓nameQ_f, ↓nameQ_o, ↓nameQ_l, ↓slotQ_s, ↓slotQ_z, ↓ownQ_s, ↓ownQ_o, ↓ownQ_l, ↓upQ_s, ↓upQ_z, ↓ew_argF, ↓ew_argS, ↓ew_argO, ↓ew_frzF, ↓ew_frzO, ↓ev_frzS, ↓ew_peekF, ↓ew_peekS, ↓sw_seq, ↓sv_asg, ↓sv_ret, ↓sv_expr, ↓sv_st, ↓sv_if, ↓sv_for, ↓sv_setF, ↓sv_setO, ↓sv_setS, ↓sw_retF, ↓sw_retO, ↓sv_retS, ↓retU_s, ↓retU_o, ↓retU_l, ↓sw_nx, ↓sv_store, ↓lsQ_s, ↓lsQ_z, ↓st_1, ↓st_2, ↓st_3, ↓atQ_some, ↓at_0, ↓at_1, ↓at_2, ↓at_3, ↓ev_d2, ↓ev_frz, ↓ev_consF, ↓ev_cons, ↓ev_lst, ↓ev_tup, ↓ev_dC, ↓ev_peeks0, ↓ev_peeks1, ↓ev_toBm, ↓ew_toB, ↓ev_not, ↓ev_and, ↓ev_or, ↓ev_andV, ↓ev_orV, ↓ev_notV, ↓ev_negV, ↓ev_ifE, ↓ev_chain, ↓ev_SS, ↓ev_SL, ↓ev_ST, ↓g_in1, ↓ev_R1, ↓ev_R2, ↓ev_srcR1, ↓ev_sl, ↓g_eqi, ↓g_eqs, ↓g_nei, ↓g_nes, ↓ev_call, ↓ev_lc, ↓tg_nm, ↓gd_s, ↓gd_z, ↓bk_0, ↓bk_1, ↓ev_some, ↓ev_toI, ↓g_ixl, ↓g_ixt, ↓g_ixs, ↓g_addi, ↓g_adds, ↓g_addl, ↓g_sub, ↓k_mul, ↓g_mull, ↓k_div, ↓k_mod, ↓k_pow, ↓g_lt, ↓g_le, ↓g_gt, ↓g_ge, ↓g_les, ↓g_neg, ↓g_lenl, ↓g_lent, ↓g_lenr, ↓g_lens, ↓g_abs, ↓g_inti, ↓g_intb, ↓g_stri, ↓g_listl, ↓g_listt, ↓g_tupl, ↓g_all, ↓g_slr, ↓g_sll, ↓g_sls, ↓ch_t, ↓ch_f, ↓ch_tt, ↓ch_ff, ↓and_t])
      refine hN _ ?_
      clear hN N
      have hbl : ∀ l : List Bool, l.length ≤ 4 → ∃ z, reprD (.lst (l.map D.bl)) = some z := fun l hl => by
        have f := fine_lst (w := 0) (dep := 0) (n := 4) (ds := l.map D.bl) (fun d hd => by obtain ⟨b, _, rfl⟩ := List.mem_map.mp hd; exact fine_bl b) (by rw [List.length_map]; exact hl)
        obtain ⟨z, hz, _⟩ := f.repr (by omega) (by omega)
        exact ⟨z, hz⟩
      obtain ⟨z8, hz8⟩ := hbl [nameB t, nameB t, numB t, numB t] (by simp)
      have hz8 : reprD (.lst [D.bl (nameB t), D.bl (nameB t), D.bl (numB t), D.bl (numB t)]) = some z8 := hz8
      have hz9 : reprD (.lst ((List.replicate (Int.toNat 2) [D.bl (nameB t)]).flatten ++ (List.replicate (Int.toNat 2) [D.bl (numB t)]).flatten)) = some z8 := hz8
      have hfl : (List.replicate (Int.toNat 2) [D.bl (nameB t)]).flatten.length + (List.replicate (Int.toNat 2) [D.bl (numB t)]).flatten.length ≤ sizeLine := by show 2 + 2 ≤ _; decide
      refine sw_step fun N hN => ?_
      simp (disch := (first | (simp only [decide_eq_true_eq, decide_eq_false_iff_not, Bool.not_eq_true]; first | assumption | omega) | assumption | omega | decide | (simp only [List.length_cons, List.length_nil, DL.sz]; omega))) only [↓ew_pure, ↓ew_bind, ↓ew_map, ↓ev_name, ↓nameQ_s, ↓nameQ_f, ↓nameQ_o, ↓nameQ_l, ↓slotQ_s, ↓slotQ_z, ↓ownQ_s, ↓ownQ_o, ↓ownQ_l, ↓upQ_s, ↓upQ_z, ↓ew_argF, ↓ew_argS, ↓ew_argO, ↓ew_frzF, ↓ew_frzO, ↓ev_frzS, ↓ew_peekF, ↓ew_peekS, ↓sw_seq, ↓sv_asg, ↓sv_ret, ↓sv_expr, ↓sv_st, ↓sv_if, ↓sv_for, ↓sv_setF, ↓sv_setO, ↓sv_setS, ↓sw_retF, ↓sw_retO, ↓sv_retS, ↓retU_s, ↓retU_o, ↓retU_l, ↓sw_nx, ↓sv_store, ↓lsQ_s, ↓lsQ_z, ↓st_1, ↓st_2, ↓st_3, ↓atQ_some, ↓at_0, ↓at_1, ↓at_2, ↓at_3, ↓ev_d2, ↓ev_frz, ↓ev_consF, ↓ev_cons, ↓ev_lst, ↓ev_tup, ↓ev_dC, ↓ev_peeks0, ↓ev_peeks1, ↓ev_toBm, ↓ew_toB, ↓ev_not, ↓ev_and, ↓ev_or, ↓ev_andV, ↓ev_orV, ↓ev_notV, ↓ev_negV, ↓ev_ifE, ↓ev_chain, ↓ev_SS, ↓ev_SL, ↓ev_ST, ↓g_in1, ↓ev_R1, ↓ev_R2, ↓ev_srcR1, ↓ev_sl, ↓g_eqi, ↓g_eqs, ↓g_nei, ↓g_nes, ↓ev_call, ↓ev_lc, ↓tg_nm, ↓gd_s, ↓gd_z, ↓bk_0, ↓bk_1, ↓ev_some, ↓ev_toI, ↓g_ixl, ↓g_ixt, ↓g_ixs, ↓g_addi, ↓g_adds, ↓g_addl, ↓g_sub, ↓k_mul, ↓g_mull, ↓k_div, ↓k_mod, ↓k_pow, ↓g_lt, ↓g_le, ↓g_gt, ↓g_ge, ↓g_les, ↓g_neg, ↓g_lenl, ↓g_lent, ↓g_lenr, ↓g_lens, ↓g_abs, ↓g_inti, ↓g_intb, ↓g_stri, ↓g_listl, ↓g_listt, ↓g_tupl, ↓g_all, ↓g_slr, ↓g_sll, ↓g_sls, ↓ch_t, ↓ch_f, ↓ch_tt, ↓ch_ff, ↓and_t]
      refine is_word_ev it ?_
      try (simp (disch := (first | (simp only [decide_eq_true_eq, decide_eq_false_iff_not, Bool.not_eq_true]; first | assumption | omega) | assumption | omega | decide | (simp only [List.length_cons, List.length_nil, DL.sz]; omega))) only [↓ew_pure, ↓ew_bind, ↓ew_map, ↓ev_name, ↓nameQ_s, ↓nameQ_f, ↓nameQ_o, ↓nameQ_l, ↓slotQ_s, ↓slotQ_z, ↓ownQ_s, ↓ownQ_o, ↓ownQ_l, ↓upQ_s, ↓upQ_z, ↓ew_argF, ↓ew_argS, ↓ew_argO, ↓ew_frzF, ↓ew_frzO, ↓ev_frzS, ↓ew_peekF, ↓ew_peekS, ↓sw_seq, ↓sv_asg, ↓sv_ret, ↓sv_expr, ↓sv_st, ↓sv_if, ↓sv_for, ↓sv_setF, ↓sv_setO, ↓sv_setS, ↓sw_retF, ↓sw_retO, ↓sv_retS, ↓retU_s, ↓retU_o, ↓retU_l, ↓sw_nx, ↓sv_store, ↓lsQ_s, ↓lsQ_z, ↓st_1, ↓st_2, ↓st_3, ↓atQ_some, ↓at_0, ↓at_1, ↓at_2, ↓at_3, ↓ev_d2, ↓ev_frz, ↓ev_consF, ↓ev_cons, ↓ev_lst, ↓ev_tup, ↓ev_dC, ↓ev_peeks0, ↓ev_peeks1, ↓ev_toBm, ↓ew_toB, ↓ev_not, ↓ev_and, ↓ev_or, ↓ev_andV, ↓ev_orV, ↓ev_notV, ↓ev_negV, ↓ev_ifE, ↓ev_chain, ↓ev_SS, ↓ev_SL, ↓ev_ST, ↓g_in1, ↓ev_R1, ↓ev_R2, ↓ev_srcR1, ↓ev_sl, ↓g_eqi, ↓g_eqs, ↓g_nei, ↓g_nes, ↓ev_call, ↓ev_lc, ↓tg_nm, ↓gd_s, ↓gd_z, ↓bk_0, ↓bk_1, ↓ev_some, ↓ev_toI, ↓g_ixl, ↓g_ixt, ↓g_ixs, ↓g_addi, ↓g_adds, ↓g_addl, ↓g_sub, ↓k_mul, ↓g_mull, ↓k_div, ↓k_mod, ↓k_pow, ↓g_lt, ↓g_le, ↓g_gt, ↓g_ge, ↓g_les, ↓g_neg, ↓g_lenl, ↓g_lent, ↓g_lenr, ↓g_lens, ↓g_abs, ↓g_inti, ↓g_intb, ↓g_stri, ↓g_listl, ↓g_listt, ↓g_tupl, ↓g_all, ↓g_slr, ↓g_sll, ↓g_sls, ↓ch_t, ↓ch_f, ↓ch_tt, ↓ch_ff, ↓and_t])
      refine hN _ ?_
      clear hN N
      simp (disch := (first | (simp only [decide_eq_true_eq, decide_eq_false_iff_not, Bool.not_eq_true]; first | assumption | omega) | assumption | omega | decide | (simp only [List.length_cons, List.length_nil, DL.sz]; omega))) only [↓ew_pure, ↓ew_bind, ↓ew_map, ↓ev_name, ↓nameQ_s, ↓nameQ_f, ↓nameQ_o, ↓nameQ_l, ↓slotQ_s, ↓slotQ_z, ↓ownQ_s, ↓ownQ_o, ↓ownQ_l, ↓upQ_s, ↓upQ_z, ↓ew_argF, ↓ew_argS, ↓ew_argO, ↓ew_frzF, ↓ew_frzO, ↓ev_frzS, ↓ew_peekF, ↓ew_peekS, ↓sw_seq, ↓sv_asg, ↓sv_ret, ↓sv_expr, ↓sv_st, ↓sv_if, ↓sv_for, ↓sv_setF, ↓sv_setO, ↓sv_setS, ↓sw_retF, ↓sw_retO, ↓sv_retS, ↓retU_s, ↓retU_o, ↓retU_l, ↓sw_nx, ↓sv_store, ↓lsQ_s, ↓lsQ_z, ↓st_1, ↓st_2, ↓st_3, ↓atQ_some, ↓at_0, ↓at_1, ↓at_2, ↓at_3, ↓ev_d2, ↓ev_frz, ↓ev_consF, ↓ev_cons, ↓ev_lst, ↓ev_tup, ↓ev_dC, ↓ev_peeks0, ↓ev_peeks1, ↓ev_toBm, ↓ew_toB, ↓ev_not, ↓ev_and, ↓ev_or, ↓ev_andV, ↓ev_orV, ↓ev_notV, ↓ev_negV, ↓ev_ifE, ↓ev_chain, ↓ev_SS, ↓ev_SL, ↓ev_ST, ↓g_in1, ↓ev_R1, ↓ev_R2, ↓ev_srcR1, ↓ev_sl, ↓g_eqi, ↓g_eqs, ↓g_nei, ↓g_nes, ↓ev_call, ↓ev_lc, ↓tg_nm, ↓gd_s, ↓gd_z, ↓bk_0, ↓bk_1, ↓ev_some, ↓ev_toI, ↓g_ixl, ↓g_ixt, ↓g_ixs, ↓g_addi, ↓g_adds, ↓g_addl, ↓g_sub, ↓k_mul, ↓g_mull, ↓k_div, ↓k_mod, ↓k_pow, ↓g_lt, ↓g_le, ↓g_gt, ↓g_ge, ↓g_les, ↓g_neg, ↓g_lenl, ↓g_lent, ↓g_lenr, ↓g_lens, ↓g_abs, ↓g_inti, ↓g_intb, ↓g_stri, ↓g_listl, ↓g_listt, ↓g_tupl, ↓g_all, ↓g_slr, ↓g_sll, ↓g_sls, ↓ch_t, ↓ch_f, ↓ch_tt, ↓ch_ff, ↓and_t, ↓k_repr hz8, ↓k_repr hz9]
      refine ch_of (fun hb => by simp at hb) (fun _ => ?_)
      try (simp (disch := (first | (simp only [decide_eq_true_eq, decide_eq_false_iff_not, Bool.not_eq_true]; first | assumption | omega) | assumption | omega | decide | (simp only [List.length_cons, List.length_nil, DL.sz]; omega))) only [↓ew_pure, ↓ew_bind, ↓ew_map, ↓ev_name, ↓nameQ_s, ↓nameQ_f, ↓nameQ_o, ↓nameQ_l, ↓slotQ_s, ↓slotQ_z, ↓ownQ_s, ↓ownQ_o, ↓ownQ_l, ↓upQ_s, ↓upQ_z, ↓ew_argF, ↓ew_argS, ↓ew_argO, ↓ew_frzF, ↓ew_frzO, ↓ev_frzS, ↓ew_peekF, ↓ew_peekS, ↓sw_seq, ↓sv_asg, ↓sv_ret, ↓sv_expr, ↓sv_st, ↓sv_if, ↓sv_for, ↓sv_setF, ↓sv_setO, ↓sv_setS, ↓sw_retF, ↓sw_retO, ↓sv_retS, ↓retU_s, ↓retU_o, ↓retU_l, ↓sw_nx, ↓sv_store, ↓lsQ_s, ↓lsQ_z, ↓st_1, ↓st_2, ↓st_3, ↓atQ_some, ↓at_0, ↓at_1, ↓at_2, ↓at_3, ↓ev_d2, ↓ev_frz, ↓ev_consF, ↓ev_cons, ↓ev_lst, ↓ev_tup, ↓ev_dC, ↓ev_peeks0, ↓ev_peeks1, ↓ev_toBm, ↓ew_toB, ↓ev_not, ↓ev_and, ↓ev_or, ↓ev_andV, ↓ev_orV, ↓ev_notV, ↓ev_negV, ↓ev_ifE, ↓ev_chain, ↓ev_SS, ↓ev_SL, ↓ev_ST, ↓g_in1, ↓ev_R1, ↓ev_R2, ↓ev_srcR1, ↓ev_sl, ↓g_eqi, ↓g_eqs, ↓g_nei, ↓g_nes, ↓ev_call, ↓ev_lc, ↓tg_nm, ↓gd_s, ↓gd_z, ↓bk_0, ↓bk_1, ↓ev_some, ↓ev_toI, ↓g_ixl, ↓g_ixt, ↓g_ixs, ↓g_addi, ↓g_adds, ↓g_addl, ↓g_sub, ↓k_mul, ↓g_mull, ↓k_div, ↓k_mod, ↓k_pow, ↓g_lt, ↓g_le, ↓g_gt, ↓g_ge, ↓g_les, ↓g_neg, ↓g_lenl, ↓g_lent, ↓g_lenr, ↓g_lens, ↓g_abs, ↓g_inti, ↓g_intb, ↓g_stri, ↓g_listl, ↓g_listt, ↓g_tupl, ↓g_all, ↓g_slr, ↓g_sll, ↓g_sls, ↓ch_t, ↓ch_f, ↓ch_tt, ↓ch_ff, ↓and_t, ↓k_repr hz])
      refine ch_of (fun hb => by simp at hb) (fun _ => ?_)
      try (simp (disch := (first | (simp only [decide_eq_true_eq, decide_eq_false_iff_not, Bool.not_eq_true]; first | assumption | omega) | assumption | omega | decide | (simp only [List.length_cons, List.length_nil, DL.sz]; omega))) only [↓ew_pure, ↓ew_bind, ↓ew_map, ↓ev_name, ↓nameQ_s, ↓nameQ_f, ↓nameQ_o, ↓nameQ_l, ↓slotQ_s, ↓slotQ_z, ↓ownQ_s, ↓ownQ_o, ↓ownQ_l, ↓upQ_s, ↓upQ_z, ↓ew_argF, ↓ew_argS, ↓ew_argO, ↓ew_frzF, ↓ew_frzO, ↓ev_frzS, ↓ew_peekF, ↓ew_peekS, ↓sw_seq, ↓sv_asg, ↓sv_ret, ↓sv_expr, ↓sv_st, ↓sv_if, ↓sv_for, ↓sv_setF, ↓sv_setO, ↓sv_setS, ↓sw_retF, ↓sw_retO, ↓sv_retS, ↓retU_s, ↓retU_o, ↓retU_l, ↓sw_nx, ↓sv_store, ↓lsQ_s, ↓lsQ_z, ↓st_1, ↓st_2, ↓st_3, ↓atQ_some, ↓at_0, ↓at_1, ↓at_2, ↓at_3, ↓ev_d2, ↓ev_frz, ↓ev_consF, ↓ev_cons, ↓ev_lst, ↓ev_tup, ↓ev_dC, ↓ev_peeks0, ↓ev_peeks1, ↓ev_toBm, ↓ew_toB, ↓ev_not, ↓ev_and, ↓ev_or, ↓ev_andV, ↓ev_orV, ↓ev_notV, ↓ev_negV, ↓ev_ifE, ↓ev_chain, ↓ev_SS, ↓ev_SL, ↓ev_ST, ↓g_in1, ↓ev_R1, ↓ev_R2, ↓ev_srcR1, ↓ev_sl, ↓g_eqi, ↓g_eqs, ↓g_nei, ↓g_nes, ↓ev_call, ↓ev_lc, ↓tg_nm, ↓gd_s, ↓gd_z, ↓bk_0, ↓bk_1, ↓ev_some, ↓ev_toI, ↓g_ixl, ↓g_ixt, ↓g_ixs, ↓g_addi, ↓g_adds, ↓g_addl, ↓g_sub, ↓k_mul, ↓g_mull, ↓k_div, ↓k_mod, ↓k_pow, ↓g_lt, ↓g_le, ↓g_gt, ↓g_ge, ↓g_les, ↓g_neg, ↓g_lenl, ↓g_lent, ↓g_lenr, ↓g_lens, ↓g_abs, ↓g_inti, ↓g_intb, ↓g_stri, ↓g_listl, ↓g_listt, ↓g_tupl, ↓g_all, ↓g_slr, ↓g_sll, ↓g_sls, ↓ch_t, ↓ch_f, ↓ch_tt, ↓ch_ff, ↓and_t])
      exact hI3 _ _ _ _ _
    · obtain ⟨x5, x6, x7, x8, x9, rfl⟩ := hI
      exact hI2 _ _ _ _ _ _ _ _ _ (hp6.mono (by omega))
  · obtain ⟨p, x2, x3, x4, x5, x6, x7, x8, x9, hp, rfl⟩ := hI
    refine hN _ ?_
    simp (disch := (first | (simp only [decide_eq_true_eq, decide_eq_false_iff_not, Bool.not_eq_true]; first | assumption | omega) | assumption | omega | decide | (simp only [List.length_cons, List.length_nil, DL.sz]; omega))) only [↓ew_pure, ↓ew_bind, ↓ew_map, ↓ev_name, ↓nameQ_s, ↓nameQ_f, ↓nameQ_o, ↓nameQ_l, ↓slotQ_s, ↓slotQ_z, ↓ownQ_s, ↓ownQ_o, ↓ownQ_l, ↓upQ_s, ↓upQ_z, ↓ew_argF, ↓ew_argS, ↓ew_argO, ↓ew_frzF, ↓ew_frzO, ↓ev_frzS, ↓ew_peekF, ↓ew_peekS, ↓sw_seq, ↓sv_asg, ↓sv_ret, ↓sv_expr, ↓sv_st, ↓sv_if, ↓sv_for, ↓sv_setF, ↓sv_setO, ↓sv_setS, ↓sw_retF, ↓sw_retO, ↓sv_retS, ↓retU_s, ↓retU_o, ↓retU_l, ↓sw_nx, ↓sv_store, ↓lsQ_s, ↓lsQ_z, ↓st_1, ↓st_2, ↓st_3, ↓atQ_some, ↓at_0, ↓at_1, ↓at_2, ↓at_3, ↓ev_d2, ↓ev_frz, ↓ev_consF, ↓ev_cons, ↓ev_lst, ↓ev_tup, ↓ev_dC, ↓ev_peeks0, ↓ev_peeks1, ↓ev_toBm, ↓ew_toB, ↓ev_not, ↓ev_and, ↓ev_or, ↓ev_andV, ↓ev_orV, ↓ev_notV, ↓ev_negV, ↓ev_ifE, ↓ev_chain, ↓ev_SS, ↓ev_SL, ↓ev_ST, ↓g_in1, ↓ev_R1, ↓ev_R2, ↓ev_srcR1, ↓ev_sl, ↓g_eqi, ↓g_eqs, ↓g_nei, ↓g_nes, ↓ev_call, ↓ev_lc, ↓tg_nm, ↓gd_s, ↓gd_z, ↓bk_0, ↓bk_1, ↓ev_some, ↓ev_toI, ↓g_ixl, ↓g_ixt, ↓g_ixs, ↓g_addi, ↓g_adds, ↓g_addl, ↓g_sub, ↓k_mul, ↓g_mull, ↓k_div, ↓k_mod, ↓k_pow, ↓g_lt, ↓g_le, ↓g_gt, ↓g_ge, ↓g_les, ↓g_neg, ↓g_lenl, ↓g_lent, ↓g_lenr, ↓g_lens, ↓g_abs, ↓g_inti, ↓g_intb, ↓g_stri, ↓g_listl, ↓g_listt, ↓g_tupl, ↓g_all, ↓g_slr, ↓g_sll, ↓g_sls, ↓ch_t, ↓ch_f, ↓ch_tt, ↓ch_ff, ↓and_t]
    exact hR _
end K01

set_option Elab.async false
set_option linter.all false
set_option maxRecDepth 100000
set_option maxHeartbeats 1000000
namespace K01
open PySem PySem.Spec PyProof.Rows L2 DL
theorem all_mk {l : PySem.W.OpenLaw} {w : World} {K : PySem.W.Frag} {h : Heap} {mg : Str → Option Value} {fa f1 f2 f3 f4 f5 f6 f7 f8 f9 : Addr} (X : K.In h) (G : h.Ns mainGlobals mg) (hfa : mg "law" = some (.ref fa))
    {od1 an1 od2 an2 od3 an3 od4 an4 od5 an5 od6 an6 od7 an7 od8 an8 od9 an9 : Option Addr} {sl1 sl2 sl3 sl4 sl5 sl6 sl7 sl8 sl9 : Array (Option Value)} {oc1 kV1 dc1 pm1 cd1 ct1 oc2 kV2 dc2 pm2 cd2 ct2 oc3 kV3 dc3 pm3 cd3 ct3 oc4 kV4 dc4 pm4 cd4 ct4 oc5 kV5 dc5 pm5 cd5 ct5 oc6 kV6 dc6 pm6 cd6 ct6 oc7 kV7 dc7 pm7 cd7 ct7 oc8 kV8 dc8 pm8 cd8 ct8 oc9 kV9 dc9 pm9 cd9 ct9 : Value} {u0 u1 : Value}
    (a1 : PySem.W.nsIn K mainGlobals "_law_pen" = some (some (.ref f1))) (l1 : K.lookup f1 = some ⟨oc1, od1, .func (PySem.W.fnOf "_law_pen" "_law_pen" (defArgs s_pen) (defBody s_pen) (defScope s_pen) .none kV1 dc1 pm1 an1 cd1 ct1), sl1⟩) (c1 : PySem.W.codeIn K cd1 "_law_pen" = true) (k1 : PySem.W.keepIn K (.ref f1) = true)
    (a2 : PySem.W.nsIn K mainGlobals "_law_draw" = some (some (.ref f2))) (l2 : K.lookup f2 = some ⟨oc2, od2, .func (PySem.W.fnOf "_law_draw" "_law_draw" (defArgs s_draw) (defBody s_draw) (defScope s_draw) .none kV2 dc2 pm2 an2 cd2 ct2), sl2⟩) (c2 : PySem.W.codeIn K cd2 "_law_draw" = true) (k2 : PySem.W.keepIn K (.ref f2) = true)
    (a3 : PySem.W.nsIn K mainGlobals "_law_word" = some (some (.ref f3))) (l3 : K.lookup f3 = some ⟨oc3, od3, .func (PySem.W.fnOf "_law_word" "_law_word" (defArgs s_word) (defBody s_word) (defScope s_word) .none kV3 dc3 pm3 an3 cd3 ct3), sl3⟩) (c3 : PySem.W.codeIn K cd3 "_law_word" = true) (k3 : PySem.W.keepIn K (.ref f3) = true)
    (a4 : PySem.W.nsIn K mainGlobals "_law_any" = some (some (.ref f4))) (l4 : K.lookup f4 = some ⟨oc4, od4, .func (PySem.W.fnOf "_law_any" "_law_any" (defArgs s_any) (defBody s_any) (defScope s_any) .none kV4 dc4 pm4 an4 cd4 ct4), sl4⟩) (c4 : PySem.W.codeIn K cd4 "_law_any" = true) (k4 : PySem.W.keepIn K (.ref f4) = true)
    (a5 : PySem.W.nsIn K mainGlobals "is_name" = some (some (.ref f5))) (l5 : K.lookup f5 = some ⟨oc5, od5, .func (PySem.W.fnOf "is_name" "is_name" (defArgs s_is_name) (defBody s_is_name) (defScope s_is_name) .none kV5 dc5 pm5 an5 cd5 ct5), sl5⟩) (c5 : PySem.W.codeIn K cd5 "is_name" = true) (k5 : PySem.W.keepIn K (.ref f5) = true)
    (a6 : PySem.W.nsIn K mainGlobals "is_integer" = some (some (.ref f6))) (l6 : K.lookup f6 = some ⟨oc6, od6, .func (PySem.W.fnOf "is_integer" "is_integer" (defArgs s_is_integer) (defBody s_is_integer) (defScope s_is_integer) .none kV6 dc6 pm6 an6 cd6 ct6), sl6⟩) (c6 : PySem.W.codeIn K cd6 "is_integer" = true) (k6 : PySem.W.keepIn K (.ref f6) = true)
    (a7 : PySem.W.nsIn K mainGlobals "is_depth" = some (some (.ref f7))) (l7 : K.lookup f7 = some ⟨oc7, od7, .func (PySem.W.fnOf "is_depth" "is_depth" (defArgs s_is_depth) (defBody s_is_depth) (defScope s_is_depth) .none kV7 dc7 pm7 an7 cd7 ct7), sl7⟩) (c7 : PySem.W.codeIn K cd7 "is_depth" = true) (k7 : PySem.W.keepIn K (.ref f7) = true)
    (a8 : PySem.W.nsIn K mainGlobals "_law_is_word" = some (some (.ref f8))) (l8 : K.lookup f8 = some ⟨oc8, od8, .func (PySem.W.fnOf "_law_is_word" "_law_is_word" (defArgs s_is_word) (defBody s_is_word) (defScope s_is_word) .none kV8 dc8 pm8 an8 cd8 ct8), sl8⟩) (c8 : PySem.W.codeIn K cd8 "_law_is_word" = true) (k8 : PySem.W.keepIn K (.ref f8) = true)
    (a9 : PySem.W.nsIn K mainGlobals "law" = some (some (.ref f9))) (l9 : K.lookup f9 = some ⟨oc9, od9, .func (PySem.W.fnOf "law" "law" (defArgs s_law) (defBody s_law) (defScope s_law) .none kV9 dc9 pm9 an9 cd9 ct9), sl9⟩) (c9 : PySem.W.codeIn K cd9 "law" = true) (k9 : PySem.W.keepIn K (.ref f9) = true)
    (z_abs : PySem.W.nsIn K mainGlobals "abs" = some none)
    (z_all : PySem.W.nsIn K mainGlobals "all" = some none)
    (z_bool : PySem.W.nsIn K mainGlobals "bool" = some none)
    (z_int : PySem.W.nsIn K mainGlobals "int" = some none)
    (z_isinstance : PySem.W.nsIn K mainGlobals "isinstance" = some none)
    (z_len : PySem.W.nsIn K mainGlobals "len" = some none)
    (z_list : PySem.W.nsIn K mainGlobals "list" = some none)
    (z_range : PySem.W.nsIn K mainGlobals "range" = some none)
    (z_repr : PySem.W.nsIn K mainGlobals "repr" = some none)
    (z_str : PySem.W.nsIn K mainGlobals "str" = some none)
    (z_tuple : PySem.W.nsIn K mainGlobals "tuple" = some none)
    (g0 : PySem.W.nsIn K mainGlobals "LETTERS" = some (some u0)) (r0 : RelV (.str "abcdefghijklmnopqrstuvwxyz") u0)
    (g1 : PySem.W.nsIn K mainGlobals "LONGEST_NAME" = some (some u1)) (r1 : RelV (.int 8) u1)
    : ∃ fd : FuncData, (∀ (s : Shared) (v : Value), BindsTo s fd ⟨[v], []⟩ [("_law_script", v)]) ∧ ∀ base : Heap, K.In base → base.Ns mainGlobals mg → FnG l.prog w K mg base (L2.CX l.prog w) 7 fa fd ["_law_script"] (spD K 1 sem_law) := by
  have e := hfa.symm.trans (PySem.W.mg_of X G a9)
  cases e
  refine ⟨PySem.W.fnOf "law" "law" (defArgs s_law) (defBody s_law) (defScope s_law) .none kV9 dc9 pm9 an9 cd9 ct9, fun s v => .of_eq rfl, fun base _ _ => ?_⟩
  exact ok_law (T := { f_pen := f1, fd_pen := _, F_pen := fun_mk (st := s_pen) l1 c1 k1, m_pen := PySem.W.mg_of X G a1, f_draw := f2, fd_draw := _, F_draw := fun_mk (st := s_draw) l2 c2 k2, m_draw := PySem.W.mg_of X G a2, f_word := f3, fd_word := _, F_word := fun_mk (st := s_word) l3 c3 k3, m_word := PySem.W.mg_of X G a3, f_any := f4, fd_any := _, F_any := fun_mk (st := s_any) l4 c4 k4, m_any := PySem.W.mg_of X G a4, f_is_name := f5, fd_is_name := _, F_is_name := fun_mk (st := s_is_name) l5 c5 k5, m_is_name := PySem.W.mg_of X G a5, f_is_integer := f6, fd_is_integer := _, F_is_integer := fun_mk (st := s_is_integer) l6 c6 k6, m_is_integer := PySem.W.mg_of X G a6, f_is_depth := f7, fd_is_depth := _, F_is_depth := fun_mk (st := s_is_depth) l7 c7 k7, m_is_depth := PySem.W.mg_of X G a7, f_is_word := f8, fd_is_word := _, F_is_word := fun_mk (st := s_is_word) l8 c8 k8, m_is_word := PySem.W.mg_of X G a8, f_law := _, fd_law := _, F_law := fun_mk (st := s_law) l9 c9 k9, n_abs := PySem.W.mg_none_of X G z_abs, n_all := PySem.W.mg_none_of X G z_all, n_bool := PySem.W.mg_none_of X G z_bool, n_int := PySem.W.mg_none_of X G z_int, n_isinstance := PySem.W.mg_none_of X G z_isinstance, n_len := PySem.W.mg_none_of X G z_len, n_list := PySem.W.mg_none_of X G z_list, n_range := PySem.W.mg_none_of X G z_range, n_repr := PySem.W.mg_none_of X G z_repr, n_str := PySem.W.mg_none_of X G z_str, n_tuple := PySem.W.mg_none_of X G z_tuple, c_LETTERS := ⟨u0, PySem.W.mg_of X G g0, r0⟩, c_LONGEST_NAME := ⟨u1, PySem.W.mg_of X G g1, r1⟩ })
theorem walk {l : PySem.W.OpenLaw} {q : Program} {loose : List Str} {XP : (Str → Option Value) → Heap → Prop} {YP : World → Heap → Prop} {d : DefRec} {K : Params → PySem.W.Frag} (hn : l.most = some 63) (hdf : d.params.defaults = [])
    (hY : ∀ (w : World) (h : Heap), YP w h → (K w.params).In h)
    (F : ∀ (w : World) (mg : Str → Option Value) (fa : Addr) (h : Heap), (K w.params).In h → h.Ns mainGlobals mg → mg d.name = some (.ref fa) →
      ∃ fd : FuncData, (∀ (s : Shared) (u : Value), BindsTo s fd ⟨[u], []⟩ [("_law_script", u)]) ∧ ∀ base : Heap, (K w.params).In base → base.Ns mainGlobals mg → FnG l.prog w (K w.params) mg base (L2.CX l.prog w) 7 fa fd ["_law_script"] (spD (K w.params) 1 sem_law)) :
    PySem.W.WalkO q loose XP YP l.row.toRowW d [] (fun f vs => PySem.call f vs) :=
  walk_ofG (n := 63) (k := 7) (x := "_law_script") (sem := fun _ => sem_law) hn (by decide) hdf ⟨rfl, by decide, by decide⟩ hY F fun _ ns hl => law_ok hl
end K01

open PySem PySem.W PyProof.Rows in
set_option maxRecDepth 100000 in
set_option maxHeartbeats 0 in
theorem PySem.Challenge.cw_frontnest_k01_names_and_depths_holds : PySem.Challenge.rw_frontnest_k01_names_and_depths.Holds := by
  w_on; o_law; k_head; (case hw => w_witness2)
  k_fill
  refine K01.walk (l := PySem.Challenge.rw_frontnest_k01_names_and_depths) rfl rfl (fun w h Y => PySem.W.kIn_of Y) ?F
  case F =>
    intro w mg fa h KX G hmg
    refine' K01.all_mk KX G hmg ?a1 ?l1 ?c1 ?k1 ?a2 ?l2 ?c2 ?k2 ?a3 ?l3 ?c3 ?k3 ?a4 ?l4 ?c4 ?k4 ?a5 ?l5 ?c5 ?k5 ?a6 ?l6 ?c6 ?k6 ?a7 ?l7 ?c7 ?k7 ?a8 ?l8 ?c8 ?k8 ?a9 ?l9 ?c9 ?k9 ?z_abs ?z_all ?z_bool ?z_int ?z_isinstance ?z_len ?z_list ?z_range ?z_repr ?z_str ?z_tuple ?cst0 ?rst0 ?cst1 ?rst1
    (case a1 => k_is)
    (case l1 => k_is)
    (case c1 => k_is)
    (case k1 => k_is)
    (case a2 => k_is)
    (case l2 => k_is)
    (case c2 => k_is)
    (case k2 => k_is)
    (case a3 => k_is)
    (case l3 => k_is)
    (case c3 => k_is)
    (case k3 => k_is)
    (case a4 => k_is)
    (case l4 => k_is)
    (case c4 => k_is)
    (case k4 => k_is)
    (case a5 => k_is)
    (case l5 => k_is)
    (case c5 => k_is)
    (case k5 => k_is)
    (case a6 => k_is)
    (case l6 => k_is)
    (case c6 => k_is)
    (case k6 => k_is)
    (case a7 => k_is)
    (case l7 => k_is)
    (case c7 => k_is)
    (case k7 => k_is)
    (case a8 => k_is)
    (case l8 => k_is)
    (case c8 => k_is)
    (case k8 => k_is)
    (case a9 => k_is)
    (case l9 => k_is)
    (case c9 => k_is)
    (case k9 => k_is)
    (case z_abs => k_is)
    (case z_all => k_is)
    (case z_bool => k_is)
    (case z_int => k_is)
    (case z_isinstance => k_is)
    (case z_len => k_is)
    (case z_list => k_is)
    (case z_range => k_is)
    (case z_repr => k_is)
    (case z_str => k_is)
    (case z_tuple => k_is)
    (case cst0 => k_is)
    (case cst1 => k_is)
    (case rst0 => first | exact ⟨_, rfl⟩ | rfl)
    (case rst1 => first | exact ⟨_, rfl⟩ | rfl)
#print axioms PySem.Challenge.cw_frontnest_k01_names_and_depths_holds
