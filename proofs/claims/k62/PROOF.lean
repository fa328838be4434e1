import PyProof.Rows.All
import Wide.All
import OpenK.AllK
import Wide.FinOn
import HandS.ForMost
import HandS.TupAny
import HandS.IsInst
import HandS.Zip
import HandS.Style
import HandS.Deep
import HandS.Flow
import HandS.Conv
import HandS.Wide
import KE.KRevSl
import HandS.WordsDict
import HandS.More
import PySem.Challenge.RW_pileruns_k62_exchanges_counted
set_option Elab.async false
set_option linter.all false
set_option maxRecDepth 100000
set_option maxHeartbeats 1000000
namespace DL
open PySem L2

/-! values with their tuples written out; what may change stands in a store M -/
inductive D where
  | non | bl (b : Bool) | int (i : Int) | str (x : Str) | tup (xs : List D) | ref (a : Addr) | ty (n : String)

mutual
inductive VR (K : PySem.W.Frag) (H : Hp) : D → V → Prop
  | non : VR K H .non .non
  | bl (b : Bool) : VR K H (.bl b) (.bl b)
  | int (i : Int) : VR K H (.int i) (.int i)
  | str (x : Str) : VR K H (.str x) (.str x)
  | ref (a : Addr) : VR K H (.ref a) (.ref a)
  | ty (n : String) : VR K H (.ty n) (.ty n)
  | tup {ds : List D} {a : Addr} {vs : List V} : SqT K H a vs → VRs K H ds vs → VR K H (.tup ds) (.ref a)
inductive VRs (K : PySem.W.Frag) (H : Hp) : List D → List V → Prop
  | nil : VRs K H [] []
  | cons {d : D} {ds : List D} {v : V} {vs : List V} : VR K H d v → VRs K H ds vs → VRs K H (d :: ds) (v :: vs)
end

/-- the tuples stay -/
def TX (K : PySem.W.Frag) (H H' : Hp) : Prop := ∀ a xs, SqT K H a xs → SqT K H' a xs

section
variable {K : PySem.W.Frag} {H H' H2 : Hp}
theorem TX.refl : TX K H H := fun _ _ h => h
theorem TX.trans (a : TX K H H') (b : TX K H' H2) : TX K H H2 := fun x y h => b x y (a x y h)
mutual
theorem VR.mono (t : TX K H H') : ∀ (d : D) (v : V), VR K H d v → VR K H' d v
  | _, _, .non => .non
  | _, _, .bl b => .bl b
  | _, _, .int b => .int b
  | _, _, .str b => .str b
  | _, _, .ref b => .ref b
  | _, _, .ty b => .ty b
  | _, _, .tup h q => .tup (t _ _ h) (VRs.mono t _ _ q)
theorem VRs.mono (t : TX K H H') : ∀ (ds : List D) (vs : List V), VRs K H ds vs → VRs K H' ds vs
  | _, _, .nil => .nil
  | _, _, .cons h q => .cons (VR.mono t _ _ h) (VRs.mono t _ _ q)
end
theorem VRs.length : ∀ {ds : List D} {vs : List V}, VRs K H ds vs → ds.length = vs.length
  | _, _, .nil => rfl
  | _, _, .cons _ q => by simp [VRs.length q]
theorem VRs.get : ∀ {ds : List D} {vs : List V} {i : Nat} {d : D}, VRs K H ds vs → ds[i]? = some d → ∃ v, vs[i]? = some v ∧ VR K H d v
  | _, _, _, _, .nil, e => by simp at e
  | _, _, 0, _, .cons r _, e => by simp at e; subst e; exact ⟨_, rfl, r⟩
  | _, _, i + 1, x, .cons _ t, e => by
    obtain ⟨u, h1, h2⟩ := VRs.get (i := i) (d := x) t (by simpa using e)
    exact ⟨u, by simpa using h1, h2⟩
theorem VRs.getV : ∀ {ds : List D} {vs : List V} {i : Nat} {v : V}, VRs K H ds vs → vs[i]? = some v → ∃ d, ds[i]? = some d ∧ VR K H d v
  | _, _, _, _, .nil, e => by simp at e
  | _, _, 0, _, .cons r _, e => by simp at e; subst e; exact ⟨_, rfl, r⟩
  | _, _, i + 1, x, .cons _ t, e => by
    obtain ⟨u, h1, h2⟩ := VRs.getV (i := i) (v := x) t (by simpa using e)
    exact ⟨u, by simpa using h1, h2⟩
theorem VRs.append : ∀ {ds es : List D} {vs ws : List V}, VRs K H ds vs → VRs K H es ws → VRs K H (ds ++ es) (vs ++ ws)
  | _, _, _, _, .nil, s => s
  | _, _, _, _, .cons r t, s => .cons r (VRs.append t s)
theorem VRs.take : ∀ {ds : List D} {vs : List V} (n : Nat), VRs K H ds vs → VRs K H (ds.take n) (vs.take n)
  | _, _, 0, _ => .nil
  | _, _, _ + 1, .nil => .nil
  | _, _, n + 1, .cons r t => .cons r (VRs.take n t)
theorem VRs.drop : ∀ {ds : List D} {vs : List V} (n : Nat), VRs K H ds vs → VRs K H (ds.drop n) (vs.drop n)
  | _, _, 0, r => r
  | _, _, _ + 1, .nil => .nil
  | _, _, n + 1, .cons _ t => VRs.drop n t
theorem VRs.set {d : D} {v : V} (r : VR K H d v) : ∀ {ds : List D} {vs : List V} (i : Nat), VRs K H ds vs → VRs K H (ds.set i d) (vs.set i v)
  | _, _, _, .nil => .nil
  | _, _, 0, .cons _ t => .cons r t
  | _, _, i + 1, .cons q t => .cons q (VRs.set r i t)
theorem VRs.eraseIdx : ∀ {ds : List D} {vs : List V} (i : Nat), VRs K H ds vs → VRs K H (ds.eraseIdx i) (vs.eraseIdx i)
  | _, _, _, .nil => .nil
  | _, _, 0, .cons _ t => t
  | _, _, i + 1, .cons q t => .cons q (VRs.eraseIdx i t)
theorem VRs.reverse {ds : List D} {vs : List V} (h : VRs K H ds vs) : VRs K H ds.reverse vs.reverse := by
  induction ds generalizing vs with
  | nil => cases h; exact .nil
  | cons d ds ih =>
    cases h with
    | cons r t =>
      rw [List.reverse_cons, List.reverse_cons]
      exact VRs.append (ih t) (.cons r .nil)
theorem VRs.dropLast {ds : List D} {vs : List V} (h : VRs K H ds vs) : VRs K H ds.dropLast vs.dropLast := by
  rw [List.dropLast_eq_take, List.dropLast_eq_take, h.length]
  exact h.take _
end

/-! ### the store -/
inductive MO where
  | lst (xs : List D)
  | dic (kvs : List (Key × D))
  | ins (C : Addr) (fs : List (Str × D))
abbrev Mm := Addr → Option MO
def mup (M : Mm) (a : Addr) (o : MO) : Mm := fun b => if b = a then some o else M b
theorem mup_same {M : Mm} {a : Addr} {o : MO} : mup M a o a = some o := by unfold mup; rw [if_pos rfl]
theorem mup_ne {M : Mm} {a b : Addr} {o : MO} (h : b ≠ a) : mup M a o b = M b := by unfold mup; rw [if_neg h]
theorem mup_mup {M : Mm} {a : Addr} {o u : MO} : mup (mup M a o) a u = mup M a u := by
  funext b; unfold mup; split <;> rfl
theorem mup_comm {M : Mm} {a b : Addr} {o u : MO} (h : a ≠ b) : mup (mup M a o) b u = mup (mup M b u) a o := by
  funext c; unfold mup; split <;> split <;> simp_all
inductive FR (K : PySem.W.Frag) (H : Hp) {κ : Type} : List (κ × D) → List (κ × V) → Prop
  | nil : FR K H [] []
  | cons {k : κ} {d : D} {ds : List (κ × D)} {v : V} {vs : List (κ × V)} : VR K H d v → FR K H ds vs → FR K H ((k, d) :: ds) ((k, v) :: vs)
def OR (K : PySem.W.Frag) (H : Hp) (a : Addr) : MO → Prop
  | .lst ds => ∃ vs, H a = some (.lst vs) ∧ VRs K H ds vs
  | .dic kvs => ∃ vs, H a = some (.dK vs) ∧ FR K H kvs vs
  | .ins C fs => ∃ dx vs, H a = some (.ins C dx vs) ∧ FR K H fs vs
def MR (K : PySem.W.Frag) (M : Mm) (H : Hp) : Prop := ∀ a o, M a = some o → OR K H a o
/-- what the store doesn't know stays as it was, and is not known behind -/
structure GG (M : Mm) (H : Hp) (M' : Mm) (H' : Hp) : Prop where
  fr : ∀ a o, H a = some o → M a = none → H' a = some o ∧ M' a = none
  al : ∀ a o, H a = some o → ∃ u, H' a = some u
def Sub (M M' : Mm) : Prop := ∀ a o, M a = some o → M' a = some o

section
variable {K : PySem.W.Frag} {H H' H2 : Hp} {M M' M2 : Mm} {a : Addr} {o : MO}
theorem FR.mono {κ : Type} (t : TX K H H') : ∀ {ds : List (κ × D)} {vs : List (κ × V)}, FR K H ds vs → FR K H' ds vs
  | _, _, .nil => .nil
  | _, _, .cons h q => .cons (VR.mono t _ _ h) (FR.mono t q)
theorem Sub.refl : Sub M M := fun _ _ h => h
theorem Sub.trans (x : Sub M M') (y : Sub M' M2) : Sub M M2 := fun a o h => y a o (x a o h)
theorem Sub.mup (h : M a = none) : Sub M (mup M a o) := fun b u e => by
  rw [mup_ne]
  · exact e
  · rintro rfl; rw [h] at e; cases e
theorem MR.sub (m : MR K M' H) (s : Sub M M') : MR K M H := fun a o e => m a o (s a o e)
theorem GG.refl : GG M H M H := ⟨fun _ _ h n => ⟨h, n⟩, fun _ o h => ⟨o, h⟩⟩
theorem GG.trans (x : GG M H M' H') (y : GG M' H' M2 H2) : GG M H M2 H2 := ⟨fun a o h n => by
  obtain ⟨h1, n1⟩ := x.fr a o h n
  exact y.fr a o h1 n1, fun a o h => by
  obtain ⟨u, h1⟩ := x.al a o h
  exact y.al a u h1⟩
theorem GG.sub (g : GG M H M' H') (s : Sub M2 M') : GG M H M2 H' := by
  refine ⟨fun a o h n => ?_, g.al⟩
  obtain ⟨h1, n1⟩ := g.fr a o h n
  refine ⟨h1, ?_⟩
  cases e : M2 a with
  | none => rfl
  | some u =>
    rw [s a u e] at n1
    cases n1
theorem GG.free (g : GG M H M' H') {p : Addr} (h : H' p = none) : H p = none := by
  cases e : H p with
  | none => rfl
  | some o =>
    obtain ⟨u, h1⟩ := g.al p o e
    rw [h] at h1
    cases h1
theorem MR.no_tup (m : MR K M H) {xs : List V} (h : H a = some (.tup xs)) : M a = none := by
  cases e : M a with
  | none => rfl
  | some u =>
    have q := m a u e
    cases u with
    | lst _ => obtain ⟨_, q, _⟩ := q; rw [h] at q; cases q
    | dic _ => obtain ⟨_, q, _⟩ := q; rw [h] at q; cases q
    | ins _ _ => obtain ⟨_, _, q, _⟩ := q; rw [h] at q; cases q
theorem MR.no_frz (m : MR K M H) {ob : Obj} {u : HO} (h : H a = some (.frz ob u)) : M a = none := by
  cases e : M a with
  | none => rfl
  | some u =>
    have q := m a u e
    cases u with
    | lst _ => obtain ⟨_, q, _⟩ := q; rw [h] at q; cases q
    | dic _ => obtain ⟨_, q, _⟩ := q; rw [h] at q; cases q
    | ins _ _ => obtain ⟨_, _, q, _⟩ := q; rw [h] at q; cases q
theorem MR.free (m : MR K M H) (h : H a = none) : M a = none := by
  cases e : M a with
  | none => rfl
  | some u =>
    have q := m a u e
    cases u with
    | lst _ => obtain ⟨_, q, _⟩ := q; rw [h] at q; cases q
    | dic _ => obtain ⟨_, q, _⟩ := q; rw [h] at q; cases q
    | ins _ _ => obtain ⟨_, _, q, _⟩ := q; rw [h] at q; cases q
theorem GG.tx (g : GG M H M' H') (m : MR K M H) : TX K H H' := fun b xs h => by
  rcases h with (h | ⟨ob, h⟩) | h
  · exact .inl (.inl (g.fr b _ h (m.no_tup h)).1)
  · exact .inl (.inr ⟨ob, (g.fr b _ h (m.no_frz h)).1⟩)
  · exact .inr h
theorem OR.mono (t : TX K H H') (e : H' a = H a) : ∀ {o : MO}, OR K H a o → OR K H' a o
  | .lst _, ⟨vs, h, r⟩ => ⟨vs, e.trans h, VRs.mono t _ _ r⟩
  | .dic _, ⟨vs, h, r⟩ => ⟨vs, e.trans h, r.mono t⟩
  | .ins _ _, ⟨dx, vs, h, r⟩ => ⟨dx, vs, e.trans h, r.mono t⟩
/-- a new object -/
theorem TX.new {p : Addr} {u : HO} (h : H p = none) : TX K H (upd H p u) := fun b xs q => by
  have hb : ∀ w, H b = some w → upd H p u b = some w := fun w e => by rw [upd_ne]; exact e; rintro rfl; rw [h] at e; cases e
  rcases q with (q | ⟨ob, q⟩) | q
  · exact .inl (.inl (hb _ q))
  · exact .inl (.inr ⟨ob, hb _ q⟩)
  · exact .inr q
/-- an object of the store is written -/
theorem TX.put (m : MR K M H) {u : HO} (h : M a = some o) : TX K H (upd H a u) := fun b xs q => by
  have hb : ∀ w, H b = some w → M b = none → upd H a u b = some w := fun w e n => by rw [upd_ne]; exact e; rintro rfl; rw [h] at n; cases n
  rcases q with (q | ⟨ob, q⟩) | q
  · exact .inl (.inl (hb _ q (m.no_tup q)))
  · exact .inl (.inr ⟨ob, hb _ q (m.no_frz q)⟩)
  · exact .inr q
theorem MR.newT (m : MR K M H) {p : Addr} {u : HO} (h : H p = none) : MR K M (upd H p u) := fun b w e => by
  have : b ≠ p := by rintro rfl; rw [m.free h] at e; cases e
  exact (m b w e).mono (TX.new h) (upd_ne this)
theorem upd_al {p : Addr} {u : HO} (a : Addr) (o : HO) (h : H a = some o) : ∃ w, upd H p u a = some w := by
  by_cases e : a = p
  · subst e; exact ⟨u, upd_same⟩
  · exact ⟨o, by rw [upd_ne e]; exact h⟩
theorem GG.newT {p : Addr} {u : HO} (h : H p = none) : GG M H M (upd H p u) := ⟨fun b w e n => by
  have : b ≠ p := by rintro rfl; rw [h] at e; cases e
  exact ⟨by rw [upd_ne this]; exact e, n⟩, upd_al⟩
theorem MR.new (m : MR K M H) {p : Addr} {u : HO} {w : MO} (h : H p = none) (r : OR K (upd H p u) p w) : MR K (mup M p w) (upd H p u) := fun b z e => by
  by_cases hb : b = p
  · subst hb; rw [mup_same] at e; cases e; exact r
  · rw [mup_ne hb] at e
    exact (m b z e).mono (TX.new h) (upd_ne hb)
theorem GG.new {p : Addr} {u : HO} {w : MO} (h : H p = none) : GG M H (mup M p w) (upd H p u) := ⟨fun b z e n => by
  have : b ≠ p := by rintro rfl; rw [h] at e; cases e
  exact ⟨by rw [upd_ne this]; exact e, by rw [mup_ne this]; exact n⟩, upd_al⟩
theorem MR.put (m : MR K M H) {u : HO} {w : MO} (h : M a = some o) (r : OR K (upd H a u) a w) : MR K (mup M a w) (upd H a u) := fun b z e => by
  by_cases hb : b = a
  · subst hb; rw [mup_same] at e; cases e; exact r
  · rw [mup_ne hb] at e
    exact (m b z e).mono (TX.put m h) (upd_ne hb)
theorem GG.put {u : HO} {w : MO} (h : M a = some o) : GG M H (mup M a w) (upd H a u) := ⟨fun b z e n => by
  have : b ≠ a := by rintro rfl; rw [h] at n; cases n
  exact ⟨by rw [upd_ne this]; exact e, by rw [mup_ne this]; exact n⟩, upd_al⟩
end
end DL

namespace DL
open PySem L2

/-! slots, readings, judgements -/
abbrev DSt := List (Option D)
abbrev DQ := D → Mm → Prop
abbrev TDE := DSt → Mm → DQ → Prop
abbrev TDT := DSt → Mm → (Bool → Mm → Prop) → Prop
abbrev TDA := DSt → Mm → (List D → Mm → Prop) → Prop
structure DEnds where
  nx : DSt → Mm → Prop
  rt : DQ
  bk : DSt → Mm → Prop := fun _ _ => False
  ct : DSt → Mm → Prop := fun _ _ => False
abbrev TDS := DEnds → DSt → Mm → Prop
def SR (K : PySem.W.Frag) (H : Hp) (ds : DSt) (σ : St) : Prop := ds.length = σ.length ∧ ∀ (i : Nat) (d : D), ds[i]? = some (some d) → ∃ v, σ[i]? = some (some v) ∧ VR K H d v
section
variable {K : PySem.W.Frag} {H H' : Hp} {M M' : Mm} {ds : DSt} {σ : St}
theorem SR.mono (s : SR K H ds σ) (t : TX K H H') : SR K H' ds σ := ⟨s.1, fun i d e => by
  obtain ⟨v, h1, h2⟩ := s.2 i d e
  exact ⟨v, h1, VR.mono t _ _ h2⟩⟩
theorem SR.gg (s : SR K H ds σ) (m : MR K M H) (g : GG M H M' H') : SR K H' ds σ := s.mono (g.tx m)
theorem SR.set (s : SR K H ds σ) {d : D} {v : V} (r : VR K H d v) (i : Nat) : SR K H (ds.set i (some d)) (σ.set i (some v)) := by
  refine ⟨by rw [List.length_set, List.length_set]; exact s.1, fun j e h => ?_⟩
  by_cases hij : i = j
  · subst hij
    by_cases hl : i < ds.length
    · rw [List.getElem?_set_self hl] at h
      cases h
      exact ⟨v, by rw [List.getElem?_set_self (by rw [← s.1]; exact hl)], r⟩
    · rw [List.getElem?_eq_none (by rw [List.length_set]; omega)] at h
      cases h
  · rw [List.getElem?_set_ne hij] at h ⊢
    exact s.2 j e h
theorem SR.forget (s : SR K H ds σ) (i : Nat) : SR K H (ds.set i none) (σ.set i none) := by
  refine ⟨by rw [List.length_set, List.length_set]; exact s.1, fun j e h => ?_⟩
  by_cases hij : i = j
  · subst hij
    by_cases hl : i < ds.length
    · rw [List.getElem?_set_self hl] at h
      cases h
    · rw [List.getElem?_eq_none (by rw [List.length_set]; omega)] at h
      cases h
  · rw [List.getElem?_set_ne hij] at h ⊢
    exact s.2 j e h
end
structure JE (X : Cx) (e : Expr) (t : TDE) : Prop where
  go : ∃ t0, PE X e t0 ∧ ∀ (ds : DSt) (σ : St) (H : Hp) (M : Mm) (Q : DQ) (Q0 : VK), SR X.K H ds σ → MR X.K M H → t ds M Q →
    (∀ v H' d M', VR X.K H' d v → MR X.K M' H' → GG M H M' H' → Q d M' → Q0 v H') → t0 σ H Q0
structure JT (X : Cx) (e : Expr) (t : TDT) : Prop where
  go : ∃ t0, PT X e t0 ∧ ∀ (ds : DSt) (σ : St) (H : Hp) (M : Mm) (Q : Bool → Mm → Prop) (Q0 : Bool → Hp → Prop), SR X.K H ds σ → MR X.K M H → t ds M Q →
    (∀ b H' M', MR X.K M' H' → GG M H M' H' → Q b M' → Q0 b H') → t0 σ H Q0
structure JW (X : Cx) (e : Expr) (t : TDT) : Prop where
  go : ∃ t0, PW X e t0 ∧ ∀ (ds : DSt) (σ : St) (H : Hp) (M : Mm) (Q : Bool → Mm → Prop) (Q0 : Bool → Hp → Prop), SR X.K H ds σ → MR X.K M H → t ds M Q →
    (∀ b H' M', MR X.K M' H' → GG M H M' H' → Q b M' → Q0 b H') → t0 σ H Q0
structure JA (X : Cx) (es : List Expr) (t : TDA) : Prop where
  go : ∃ t0, PA X es t0 ∧ ∀ (ds : DSt) (σ : St) (H : Hp) (M : Mm) (Q : List D → Mm → Prop) (Q0 : List V → Hp → Prop), SR X.K H ds σ → MR X.K M H → t ds M Q →
    (∀ vs H' es M', VRs X.K H' es vs → MR X.K M' H' → GG M H M' H' → Q es M' → Q0 vs H') → t0 σ H Q0
/-- what is wanted behind, on both sides; H0, M0: as the def began -/
structure Link (K : PySem.W.Frag) (M0 : Mm) (H0 : Hp) (D0 : Ends) (D1 : DEnds) : Prop where
  nx : ∀ σ ds H M, GG M0 H0 M H → SR K H ds σ → MR K M H → D1.nx ds M → D0.nx σ H
  rt : ∀ v d H M, GG M0 H0 M H → VR K H d v → MR K M H → D1.rt d M → D0.rt v H
  bk : ∀ σ ds H M, GG M0 H0 M H → SR K H ds σ → MR K M H → D1.bk ds M → D0.bk σ H
  ct : ∀ σ ds H M, GG M0 H0 M H → SR K H ds σ → MR K M H → D1.ct ds M → D0.ct σ H
structure JS (X : Cx) (st : Stmt) (t : TDS) : Prop where
  go : ∃ t0, PS X st t0 ∧ ∀ (M0 : Mm) (H0 : Hp) (D0 : Ends) (D1 : DEnds), Link X.K M0 H0 D0 D1 → ∀ (ds : DSt) (σ : St) (H : Hp) (M : Mm), GG M0 H0 M H → SR X.K H ds σ → MR X.K M H → t D1 ds M → t0 D0 σ H
structure JB (X : Cx) (st : List Stmt) (t : TDS) : Prop where
  go : ∃ t0, PSs X st t0 ∧ ∀ (M0 : Mm) (H0 : Hp) (D0 : Ends) (D1 : DEnds), Link X.K M0 H0 D0 D1 → ∀ (ds : DSt) (σ : St) (H : Hp) (M : Mm), GG M0 H0 M H → SR X.K H ds σ → MR X.K M H → t D1 ds M → t0 D0 σ H

/-! ### expressions -/
def dget (ds : DSt) (i : Nat) : Option D := (ds[i]?).getD none
@[simp] theorem dget_zero (x : Option D) (r : DSt) : dget (x :: r) 0 = x := rfl
@[simp] theorem dget_succ (x : Option D) (r : DSt) (i : Nat) : dget (x :: r) (i + 1) = dget r i := rfl
def dVar (i : Nat) : TDE := fun ds M Q => match dget ds i with | some d => Q d M | none => False
def dC (d : D) : TDE := fun _ M Q => Q d M
section
variable {X : Cx}
theorem je_pe {e : Expr} {t0 : TE} {t : TDE} (h : PE X e t0) (g : ∀ (ds : DSt) (σ : St) (H : Hp) (M : Mm) (Q : DQ) (Q0 : VK), SR X.K H ds σ → MR X.K M H → t ds M Q →
    (∀ v H' d M', VR X.K H' d v → MR X.K M' H' → GG M H M' H' → Q d M' → Q0 v H') → t0 σ H Q0) : JE X e t := ⟨t0, h, g⟩
theorem je_var {e : Expr} {i : Nat} (h : PE X e (tVar i)) : JE X e (dVar i) := je_pe h fun ds σ H M Q Q0 s m q k => by
  unfold dVar dget at q
  cases e : ds[i]? with
  | none => rw [e] at q; exact q.elim
  | some o =>
    cases o with
    | none => rw [e] at q; exact q.elim
    | some d =>
      rw [e] at q
      obtain ⟨v, h1, h2⟩ := s.2 i d e
      exact ⟨v, h1, k v H d M h2 m GG.refl q⟩
/-- the name that stands in the i-th slot -/
theorem jv (i : Nat) {x : Str} {pos : Pos} (hN : X.N[i]? = some x := by rfl) (hv : Vis X.env.scope x := by first | exact Or.inl rfl | exact Or.inr (Or.inl rfl) | exact Or.inr (Or.inr rfl)) (hd : (x == ("__debug__" : Str)) = false := by decide)
    (hcd : (x == ("__classdict__" : Str)) = false := by decide) : JE X (.Name x pos) (dVar i) := je_var (pe_var hN hv hd hcd)
theorem je_c {e : Expr} {d : D} {v : V} (h : PE X e (tC v)) (r : ∀ H, VR X.K H d v) : JE X e (dC d) := je_pe h fun _ _ H M _ _ _ m q k => k v H d M (r H) m GG.refl q
theorem je_int {i j pos} : JE X (.Constant (.int i) j pos) (dC (.int i)) := je_c pe_int fun _ => .int i
theorem je_bl {b j pos} : JE X (.Constant (.bool b) j pos) (dC (.bl b)) := je_c pe_bl fun _ => .bl b
theorem je_non {j pos} : JE X (.Constant .none j pos) (dC .non) := je_c pe_non fun _ => .non
theorem je_str {x j pos} : JE X (.Constant (.str x) j pos) (dC (.str x)) := je_c pe_str fun _ => .str x
/-- a module's constant -/
theorem je_gstr {x : Str} {z : Str} {t : Tok} {pos : Pos} (hg : Gl X x) (hm : X.mg x = some (.str z t)) (hd : (x == ("__debug__" : Str)) = false := by decide) : JE X (.Name x pos) (dC (.str z)) := je_c (pe_glob (v := .str z) hg hm ⟨_, rfl⟩ hd) fun _ => .str z
theorem je_gint {x : Str} {z : Int} {t : Tok} {pos : Pos} (hg : Gl X x) (hm : X.mg x = some (.int z t)) (hd : (x == ("__debug__" : Str)) = false := by decide) : JE X (.Name x pos) (dC (.int z)) := je_c (pe_glob (v := .int z) hg hm ⟨_, rfl⟩ hd) fun _ => .int z
theorem je_ty {x : Str} {n : String} {pos : Pos} (hg : Gl X x) (hm : X.mg x = none) (hv : bootBuiltins x = some (.type n)) (hn : x ≠ "__name__" := by decide) (hd : (x == ("__debug__" : Str)) = false := by decide) : JE X (.Name x pos) (dC (.ty n)) :=
  je_c (pe_bltn (v := .ty n) hg hm hv rfl hn hd) fun _ => .ty n

/-- arguments -/
def dNil : TDA := fun _ M Q => Q [] M
def dCons (ta : TDE) (tr : TDA) : TDA := fun ds M Q => ta ds M fun x M1 => tr ds M1 fun xs M2 => Q (x :: xs) M2
theorem ja_nil : JA X [] dNil := ⟨_, pa_nil, fun _ _ H M _ _ _ m q k => k [] H [] M .nil m GG.refl q⟩
theorem ja_cons {e : Expr} {es : List Expr} {te : TDE} {t : TDA} (ha : JE X e te) (hr : JA X es t) (hs : starEach (e :: es) X.env = (false, eval e X.env) :: starEach es X.env := by rfl) : JA X (e :: es) (dCons te t) := by
  obtain ⟨t0, p, g⟩ := ha
  obtain ⟨u0, p', g'⟩ := hr
  refine ⟨_, pa_cons p p' hs, fun ds σ H M Q Q0 s m q k => ?_⟩
  refine g ds σ H M _ _ s m q fun v H1 d M1 r1 m1 g1 q1 => ?_
  refine g' ds σ H1 M1 _ _ (s.gg m g1) m1 q1 fun vs H2 es M2 r2 m2 g2 q2 => ?_
  exact k _ H2 _ M2 (.cons (VR.mono (g2.tx m1) _ _ r1) r2) m2 (g1.trans g2) q2

/-- displays -/
def dTup (t : TDA) : TDE := fun ds M Q => t ds M fun xs M1 => xs.length ≤ sizeLine ∧ Q (.tup xs) M1
def dLst (t : TDA) : TDE := fun ds M Q => t ds M fun xs M1 => xs.length ≤ sizeLine ∧ ∀ p, M1 p = none → Q (.ref p) (mup M1 p (.lst xs))
theorem je_tup {es : List Expr} {x1} {pos : Pos} {t : TDA} (h : JA X es t) : JE X (.Tuple es x1 pos) (dTup t) := by
  obtain ⟨t0, p, g⟩ := h
  refine je_pe (pe_tup p) fun ds σ H M Q Q0 s m q k => ?_
  refine g ds σ H M _ _ s m q fun vs H1 es M1 r1 m1 g1 q1 => ⟨by rw [← r1.length]; exact q1.1, fun a ha => ?_⟩
  exact k _ _ _ M1 (.tup (SqT.of upd_same) (VRs.mono (TX.new ha) _ _ r1)) (m1.newT ha) (g1.trans (GG.newT ha)) q1.2
theorem je_lst {es : List Expr} {pos : Pos} {t : TDA} (h : JA X es t) : JE X (.List es pos) (dLst t) := by
  obtain ⟨t0, p, g⟩ := h
  refine je_pe (pe_lst p) fun ds σ H M Q Q0 s m q k => ?_
  refine g ds σ H M _ _ s m q fun vs H1 es M1 r1 m1 g1 q1 => ⟨by rw [← r1.length]; exact q1.1, fun a ha => ?_⟩
  exact k _ _ _ _ (.ref a) (m1.new (w := .lst es) ha ⟨vs, upd_same, VRs.mono (TX.new ha) _ _ r1⟩) (g1.trans (GG.new ha)) (q1.2 a (m1.free ha))
end

/-! ### operators -/
abbrev DR2 := D → D → Mm → DQ → Prop
def Lift2 (K : PySem.W.Frag) (r : R2) (dr : DR2) : Prop := ∀ (x y : V) (dx dy : D) (H : Hp) (M : Mm) (Q : DQ) (Q0 : VK), VR K H dx x → VR K H dy y → MR K M H → dr dx dy M Q →
  (∀ v H' d M', VR K H' d v → MR K M' H' → GG M H M' H' → Q d M' → Q0 v H') → r x y H Q0
def dOp (r : DR2) (ta tb : TDE) : TDE := fun ds M Q => ta ds M fun x M1 => tb ds M1 fun y M2 => r x y M2 Q
section
variable {X : Cx} {a b : Expr} {ta tb : TDE} {pos : Pos}
theorem op2 {ua ub : TE} {r : R2} {dr : DR2} (hl : Lift2 X.K r dr) (ga : ∀ (ds : DSt) (σ : St) (H : Hp) (M : Mm) (Q : DQ) (Q0 : VK), SR X.K H ds σ → MR X.K M H → ta ds M Q →
    (∀ v H' d M', VR X.K H' d v → MR X.K M' H' → GG M H M' H' → Q d M' → Q0 v H') → ua σ H Q0) (gb : ∀ (ds : DSt) (σ : St) (H : Hp) (M : Mm) (Q : DQ) (Q0 : VK), SR X.K H ds σ → MR X.K M H → tb ds M Q →
    (∀ v H' d M', VR X.K H' d v → MR X.K M' H' → GG M H M' H' → Q d M' → Q0 v H') → ub σ H Q0) (ds : DSt) (σ : St) (H : Hp) (M : Mm) (Q : DQ) (Q0 : VK) (s : SR X.K H ds σ) (m : MR X.K M H) (q : dOp dr ta tb ds M Q)
    (k : ∀ v H' d M', VR X.K H' d v → MR X.K M' H' → GG M H M' H' → Q d M' → Q0 v H') : tOp r ua ub σ H Q0 := by
  refine ga ds σ H M _ _ s m q fun v H1 d M1 r1 m1 g1 q1 => ?_
  refine gb ds σ H1 M1 _ _ (s.gg m g1) m1 q1 fun u H2 e M2 r2 m2 g2 q2 => ?_
  exact hl v u d e H2 M2 Q Q0 (VR.mono (g2.tx m1) _ _ r1) r2 m2 q2 fun w H3 f M3 r3 m3 g3 q3 => k w H3 f M3 r3 m3 ((g1.trans g2).trans g3) q3
theorem je_op {op : Operator} {r : R2} {dr : DR2} (ho : OpR X (binaryOp op) r) (hl : Lift2 X.K r dr) (ha : JE X a ta) (hb : JE X b tb) : JE X (.BinOp a op b pos) (dOp dr ta tb) := by
  obtain ⟨u, p, g⟩ := ha
  obtain ⟨u', p', g'⟩ := hb
  exact je_pe (pe_op ho p p') (op2 hl g g')
theorem je_cmpR {op : CmpOp} {r : R2} {dr : DR2} (ho : OpR X (compareOp op) r) (hl : Lift2 X.K r dr) (ha : JE X a ta) (hb : JE X b tb) (hm : behindInMarks op b = false) : JE X (.Compare a [op] [b] pos) (dOp dr ta tb) := by
  obtain ⟨u, p, g⟩ := ha
  obtain ⟨u', p', g'⟩ := hb
  exact je_pe (pe_cmpR ho p p' hm) (op2 hl g g')
/-- a value as a test: a bool -/
def isB (d : D) (Q : Bool → Prop) : Prop := match d with | .bl b => Q b | _ => False
def dTest (t : TDE) : TDT := fun ds M Q => t ds M fun x M1 => isB x fun b => Q b M1
theorem isB_out {K : PySem.W.Frag} {H : Hp} {d : D} {v : V} {Q : Bool → Prop} (r : VR K H d v) (q : isB d Q) : ∃ k, v = .bl k ∧ Q k := by
  cases r with
  | bl b => exact ⟨b, rfl, q⟩
  | _ => exact q.elim
theorem jt_cmpR {op : CmpOp} {r : R2} {dr : DR2} (ho : OpR X (compareOp op) r) (hl : Lift2 X.K r dr) (ha : JE X a ta) (hb : JE X b tb) (hm : behindInMarks op b = false) : JT X (.Compare a [op] [b] pos) (dTest (dOp dr ta tb)) := by
  obtain ⟨u, p, g⟩ := ha
  obtain ⟨u', p', g'⟩ := hb
  refine ⟨_, pt_cmpR ho p p' hm, fun ds σ H M Q Q0 s m q k => ?_⟩
  refine op2 hl g g' ds σ H M _ _ s m q fun v H' d M' r m' gg q' => ?_
  obtain ⟨b, e, q⟩ := isB_out r q'
  exact ⟨b, e, k b H' M' m' gg q⟩
theorem jt_val {e : Expr} {t : TDE} (h : JE X e t) (he : ∀ whole, isTrue e X.env whole = (do let v ← whole; standAt e.pos; holding [v] (truthy v)) := by intro _; rfl) : JT X e (dTest t) := by
  obtain ⟨u, p, g⟩ := h
  refine ⟨_, pt_val p he, fun ds σ H M Q Q0 s m q k => ?_⟩
  refine g ds σ H M _ _ s m q fun v H' d M' r m' gg q' => ?_
  obtain ⟨b, e, q⟩ := isB_out r q'
  exact ⟨b, e, k b H' M' m' gg q⟩
/-- and, or, not as tests -/
def dAnd (t u : TDT) : TDT := fun ds M Q => t ds M fun c M1 => if c = true then u ds M1 Q else Q false M1
def dOr (t u : TDT) : TDT := fun ds M Q => t ds M fun c M1 => if c = true then Q true M1 else u ds M1 Q
def dNot (t : TDT) : TDT := fun ds M Q => t ds M fun c M1 => Q (!c) M1
variable {t t' : TDT} {rest : List Expr}
theorem jw_and1 (ha : JT X a t) : JW X (.BoolOp .And [a] pos) t := by
  obtain ⟨u, p, g⟩ := ha
  exact ⟨_, pw_and1 p, g⟩
theorem jw_or1 (ha : JT X a t) : JW X (.BoolOp .Or [a] pos) t := by
  obtain ⟨u, p, g⟩ := ha
  exact ⟨_, pw_or1 p, g⟩
theorem jw_and (ha : JT X a t) (hb : JW X (.BoolOp .And (b :: rest) pos) t') : JW X (.BoolOp .And (a :: b :: rest) pos) (dAnd t t') := by
  obtain ⟨u, p, g⟩ := ha
  obtain ⟨u', p', g'⟩ := hb
  refine ⟨_, pw_and p p', fun ds σ H M Q Q0 s m q k => ?_⟩
  refine g ds σ H M _ _ s m q fun c H1 M1 m1 g1 q1 => ?_
  cases c with
  | true => exact g' ds σ H1 M1 _ _ (s.gg m g1) m1 q1 fun b H2 M2 m2 g2 q2 => k b H2 M2 m2 (g1.trans g2) q2
  | false => exact k false H1 M1 m1 g1 q1
theorem jw_or (ha : JT X a t) (hb : JW X (.BoolOp .Or (b :: rest) pos) t') : JW X (.BoolOp .Or (a :: b :: rest) pos) (dOr t t') := by
  obtain ⟨u, p, g⟩ := ha
  obtain ⟨u', p', g'⟩ := hb
  refine ⟨_, pw_or p p', fun ds σ H M Q Q0 s m q k => ?_⟩
  refine g ds σ H M _ _ s m q fun c H1 M1 m1 g1 q1 => ?_
  cases c with
  | false => exact g' ds σ H1 M1 _ _ (s.gg m g1) m1 q1 fun b H2 M2 m2 g2 q2 => k b H2 M2 m2 (g1.trans g2) q2
  | true => exact k true H1 M1 m1 g1 q1
theorem JW.jt {e : Expr} (h : JW X e t) : JT X e t := by
  obtain ⟨u, p, g⟩ := h
  exact ⟨u, p.pt, g⟩
theorem jt_not (ha : JT X a t) : JT X (.UnaryOp .Not a pos) (dNot t) := by
  obtain ⟨u, p, g⟩ := ha
  exact ⟨_, pt_not p, fun ds σ H M Q Q0 s m q k => g ds σ H M _ _ s m q fun c H1 M1 m1 g1 q1 => k _ H1 M1 m1 g1 q1⟩
/-- and, or, not as values: all but the last bools -/
def dAndV (ta tb : TDE) : TDE := fun ds M Q => ta ds M fun x M1 => isB x fun c => if c = true then tb ds M1 Q else Q (.bl false) M1
def dOrV (ta tb : TDE) : TDE := fun ds M Q => ta ds M fun x M1 => isB x fun c => if c = true then Q (.bl true) M1 else tb ds M1 Q
def dNotV (ta : TDE) : TDE := fun ds M Q => ta ds M fun x M1 => isB x fun c => Q (.bl (!c)) M1
theorem je_one {op} (h : JE X a ta) : JE X (.BoolOp op [a] pos) ta := by
  obtain ⟨u, p, g⟩ := h
  exact ⟨u, pe_one p, g⟩
theorem je_and (ha : JE X a ta) (hb : JE X (.BoolOp .And (b :: rest) pos) tb) : JE X (.BoolOp .And (a :: b :: rest) pos) (dAndV ta tb) := by
  obtain ⟨u, p, g⟩ := ha
  obtain ⟨u', p', g'⟩ := hb
  refine je_pe (pe_and p p') fun ds σ H M Q Q0 s m q k => ?_
  refine g ds σ H M _ _ s m q fun v H1 d M1 r1 m1 g1 q1 => ?_
  obtain ⟨c, e, q1⟩ := isB_out r1 q1
  refine ⟨c, e, ?_⟩
  cases c with
  | true => exact g' ds σ H1 M1 _ _ (s.gg m g1) m1 q1 fun v H2 d M2 r2 m2 g2 q2 => k v H2 d M2 r2 m2 (g1.trans g2) q2
  | false => exact k _ H1 _ M1 (.bl false) m1 g1 q1
theorem je_or (ha : JE X a ta) (hb : JE X (.BoolOp .Or (b :: rest) pos) tb) : JE X (.BoolOp .Or (a :: b :: rest) pos) (dOrV ta tb) := by
  obtain ⟨u, p, g⟩ := ha
  obtain ⟨u', p', g'⟩ := hb
  refine je_pe (pe_or p p') fun ds σ H M Q Q0 s m q k => ?_
  refine g ds σ H M _ _ s m q fun v H1 d M1 r1 m1 g1 q1 => ?_
  obtain ⟨c, e, q1⟩ := isB_out r1 q1
  refine ⟨c, e, ?_⟩
  cases c with
  | false => exact g' ds σ H1 M1 _ _ (s.gg m g1) m1 q1 fun v H2 d M2 r2 m2 g2 q2 => k v H2 d M2 r2 m2 (g1.trans g2) q2
  | true => exact k _ H1 _ M1 (.bl true) m1 g1 q1
theorem je_not (ha : JE X a ta) : JE X (.UnaryOp .Not a pos) (dNotV ta) := by
  obtain ⟨u, p, g⟩ := ha
  refine je_pe (pe_not p) fun ds σ H M Q Q0 s m q k => ?_
  refine g ds σ H M _ _ s m q fun v H1 d M1 r1 m1 g1 q1 => ?_
  obtain ⟨c, e, q1⟩ := isB_out r1 q1
  exact ⟨c, e, k _ H1 _ M1 (.bl _) m1 g1 q1⟩
def dIf (t : TDT) (ta tb : TDE) : TDE := fun ds M Q => t ds M fun c M1 => if c = true then ta ds M1 Q else tb ds M1 Q
theorem je_ifExp {c : Expr} (hc : JT X c t) (ha : JE X a ta) (hb : JE X b tb) : JE X (.IfExp c a b pos) (dIf t ta tb) := by
  obtain ⟨u, p, g⟩ := hc
  obtain ⟨u1, p1, g1⟩ := ha
  obtain ⟨u2, p2, g2⟩ := hb
  refine je_pe (pe_ifExp p p1 p2) fun ds σ H M Q Q0 s m q k => ?_
  refine g ds σ H M _ _ s m q fun c H1 M1 m1 gg1 q1 => ?_
  cases c with
  | true => exact g1 ds σ H1 M1 _ _ (s.gg m gg1) m1 q1 fun v H2 d M2 r2 m2 gg2 q2 => k v H2 d M2 r2 m2 (gg1.trans gg2) q2
  | false => exact g2 ds σ H1 M1 _ _ (s.gg m gg1) m1 q1 fun v H2 d M2 r2 m2 gg2 q2 => k v H2 d M2 r2 m2 (gg1.trans gg2) q2
end
end DL

namespace DL
open PySem L2
open PyProof.Rows (b2i)

/-! ### what a value of a kind looks like below -/
section
variable {K : PySem.W.Frag} {H : Hp} {M : Mm}
theorem VR.int_v {i : Int} {v : V} (r : VR K H (.int i) v) : v = .int i := by cases r; rfl
theorem VR.bl_v {i : Bool} {v : V} (r : VR K H (.bl i) v) : v = .bl i := by cases r; rfl
theorem VR.str_v {i : Str} {v : V} (r : VR K H (.str i) v) : v = .str i := by cases r; rfl
theorem VR.ref_v {i : Addr} {v : V} (r : VR K H (.ref i) v) : v = .ref i := by cases r; rfl
theorem VR.non_v {v : V} (r : VR K H .non v) : v = .non := by cases r; rfl
theorem VR.ty_v {n : String} {v : V} (r : VR K H (.ty n) v) : v = .ty n := by cases r; rfl
theorem VR.tup_v {ds : List D} {v : V} (r : VR K H (.tup ds) v) : ∃ a vs, v = .ref a ∧ SqT K H a vs ∧ VRs K H ds vs := by
  cases r with
  | tup h q => exact ⟨_, _, rfl, h, q⟩
end

/-! ### arithmetic -/
def lstOf (M : Mm) (a : Addr) : Option (List D) := match M a with | some (.lst xs) => some xs | _ => none
theorem lstOf_some {M : Mm} {a : Addr} {xs : List D} (h : M a = some (.lst xs)) : lstOf M a = some xs := by unfold lstOf; rw [h]
theorem of_lstOf {M : Mm} {a : Addr} {xs : List D} (h : lstOf M a = some xs) : M a = some (.lst xs) := by
  unfold lstOf at h
  split at h
  · cases h; assumption
  · cases h
theorem lstOf_mup_same {M : Mm} {a : Addr} {xs : List D} : lstOf (mup M a (.lst xs)) a = some xs := lstOf_some mup_same
theorem lstOf_mup_ne {M : Mm} {a b : Addr} {o : MO} (h : b ≠ a) : lstOf (mup M a o) b = lstOf M b := by unfold lstOf; rw [mup_ne h]

def addR : DR2 := fun x y M Q => match x, y with
  | .int i, .int j => Q (.int (i + j)) M
  | .str i, .str j => i.length + j.length ≤ sizeLine ∧ Q (.str (i ++ j)) M
  | .tup i, .tup j => i.length + j.length ≤ sizeLine ∧ Q (.tup (i ++ j)) M
  | .ref a, .ref b => (match lstOf M a, lstOf M b with
    | some i, some j => i.length + j.length ≤ sizeLine ∧ ∀ p, M p = none → Q (.ref p) (mup M p (.lst (i ++ j)))
    | _, _ => False)
  | .int i, .bl k => Q (.int (i + b2i k)) M
  | _, _ => False
def addT (K : PySem.W.Frag) : R2 := fun x y H Q => (∃ i j, x = .int i ∧ y = .int j ∧ Q (.int (i + j)) H) ∨ (∃ i j, x = .str i ∧ y = .str j ∧ i.length + j.length ≤ sizeLine ∧ Q (.str (i ++ j)) H) ∨
  rCatA K x y H Q ∨ rCat x y H Q ∨ ∃ i k, x = .int i ∧ y = .bl k ∧ Q (.int (i + b2i k)) H
theorem op_addT {X : Cx} : OpR X (binaryOp .Add) (addT X.K) := op_add.or (op_add_str.or (op_catA.or (op_cat.or op_add_ib)))
theorem lift_add {K : PySem.W.Frag} : Lift2 K (addT K) addR := by
  intro x y dx dy H M Q Q0 rx ry m h k
  cases dx with
  | int i =>
    cases dy with
    | int j =>
      cases rx.int_v
      cases ry.int_v
      exact .inl ⟨i, j, rfl, rfl, k _ H _ M (.int _) m GG.refl h⟩
    | bl j =>
      cases rx.int_v
      cases ry.bl_v
      exact .inr (.inr (.inr (.inr ⟨i, j, rfl, rfl, k _ H _ M (.int _) m GG.refl h⟩)))
    | _ => exact h.elim
  | str i =>
    cases dy with
    | str j =>
      cases rx.str_v
      cases ry.str_v
      exact .inr (.inl ⟨i, j, rfl, rfl, h.1, k _ H _ M (.str _) m GG.refl h.2⟩)
    | _ => exact h.elim
  | tup i =>
    cases dy with
    | tup j =>
      obtain ⟨a, vs, rfl, sa, ra⟩ := rx.tup_v
      obtain ⟨b, ws, rfl, sb, rb⟩ := ry.tup_v
      obtain ⟨hz, q⟩ := h
      refine .inr (.inr (.inl ⟨a, b, vs, ws, rfl, rfl, sa, sb, by rw [← ra.length, ← rb.length]; exact hz, fun e => ?_, fun _ e => ?_, fun _ _ p hp => ?_⟩))
      · subst e
        cases ra
        exact k _ H _ M ry m GG.refl q
      · subst e
        cases rb
        rw [List.append_nil] at q
        exact k _ H _ M rx m GG.refl q
      · exact k _ _ _ M (.tup (SqT.of upd_same) (VRs.append (VRs.mono (TX.new hp) _ _ ra) (VRs.mono (TX.new hp) _ _ rb))) (m.newT hp) (GG.newT hp) q
    | _ => exact h.elim
  | ref a =>
    cases dy with
    | ref b =>
      unfold addR at h
      simp only at h
      split at h
      · rename_i i j e1 e2
        obtain ⟨hz, q⟩ := h
        cases rx.ref_v
        cases ry.ref_v
        obtain ⟨vs, h1, r1⟩ := m a _ (of_lstOf e1)
        obtain ⟨ws, h2, r2⟩ := m b _ (of_lstOf e2)
        refine .inr (.inr (.inr (.inl ⟨a, b, vs, ws, rfl, rfl, h1, h2, by rw [← r1.length, ← r2.length]; exact hz, fun p hp => ?_⟩)))
        exact k _ _ _ _ (.ref p) (m.new (w := .lst (i ++ j)) hp ⟨_, upd_same, VRs.append (VRs.mono (TX.new hp) _ _ r1) (VRs.mono (TX.new hp) _ _ r2)⟩) (GG.new hp) (q p (m.free hp))
      · exact h.elim
    | _ => exact h.elim
  | _ => cases dy <;> exact h.elim

/-- on two ints, under a condition -/
def intR (C : Int → Int → Prop) (g : Int → Int → D) : DR2 := fun x y M Q => match x, y with
  | .int i, .int j => C i j ∧ Q (g i j) M
  | _, _ => False
theorem lift_int {K : PySem.W.Frag} {C : Int → Int → Prop} {g : Int → Int → V} {g' : Int → Int → D} (hg : ∀ i j H, VR K H (g' i j) (g i j)) : Lift2 K (rI C g) (intR C g') := by
  intro x y dx dy H M Q Q0 rx ry m h k
  cases dx with
  | int i =>
    cases dy with
    | int j =>
      cases rx.int_v
      cases ry.int_v
      exact ⟨i, j, rfl, rfl, h.1, k _ H _ M (hg i j H) m GG.refl h.2⟩
    | _ => exact h.elim
  | _ => cases dy <;> exact h.elim
def int0R (g : Int → Int → D) : DR2 := fun x y M Q => match x, y with
  | .int i, .int j => Q (g i j) M
  | _, _ => False
theorem lift_int0 {K : PySem.W.Frag} {g : Int → Int → V} {g' : Int → Int → D} (hg : ∀ i j H, VR K H (g' i j) (g i j)) : Lift2 K (rI0 g) (int0R g') := by
  intro x y dx dy H M Q Q0 rx ry m h k
  cases dx with
  | int i =>
    cases dy with
    | int j =>
      cases rx.int_v
      cases ry.int_v
      exact ⟨i, j, rfl, rfl, k _ H _ M (hg i j H) m GG.refl h⟩
    | _ => exact h.elim
  | _ => cases dy <;> exact h.elim
abbrev subR : DR2 := int0R fun i j => .int (i - j)
abbrev mulR : DR2 := intR CMulW fun i j => .int (i * j)
abbrev modR : DR2 := intR (fun _ j => 0 < j) fun i j => .int (i % j)
abbrev fdivR : DR2 := intR CDivW fun i j => .int (i / j)
abbrev powR : DR2 := intR CPow fun i j => .int (i ^ j.toNat)
abbrev shlR : DR2 := intR CPow fun i j => .int (i * 2 ^ j.toNat)
abbrev orR : DR2 := int0R fun i j => .int (Builtin.bitOr i j)
section
variable {X : Cx} {a b : Expr} {ta tb : TDE} {pos : Pos}
theorem je_add (ha : JE X a ta) (hb : JE X b tb) : JE X (.BinOp a .Add b pos) (dOp addR ta tb) := je_op op_addT lift_add ha hb
theorem je_sub (ha : JE X a ta) (hb : JE X b tb) : JE X (.BinOp a .Sub b pos) (dOp subR ta tb) := je_op op_sub (lift_int0 fun _ _ _ => .int _) ha hb
theorem je_mul (ha : JE X a ta) (hb : JE X b tb) : JE X (.BinOp a .Mult b pos) (dOp mulR ta tb) := je_op op_mulW (lift_int fun _ _ _ => .int _) ha hb
theorem je_mod (ha : JE X a ta) (hb : JE X b tb) : JE X (.BinOp a .Mod b pos) (dOp modR ta tb) := je_op op_mod (lift_int fun _ _ _ => .int _) ha hb
theorem je_fdiv (ha : JE X a ta) (hb : JE X b tb) : JE X (.BinOp a .FloorDiv b pos) (dOp fdivR ta tb) := je_op op_fdivW (lift_int fun _ _ _ => .int _) ha hb
theorem je_pow (ha : JE X a ta) (hb : JE X b tb) : JE X (.BinOp a .Pow b pos) (dOp powR ta tb) := je_op op_pow (lift_int fun _ _ _ => .int _) ha hb
theorem je_shl (ha : JE X a ta) (hb : JE X b tb) : JE X (.BinOp a .LShift b pos) (dOp shlR ta tb) := je_op op_shl (lift_int fun _ _ _ => .int _) ha hb
theorem je_bor (ha : JE X a ta) (hb : JE X b tb) : JE X (.BinOp a .BitOr b pos) (dOp orR ta tb) := je_op op_or (lift_int0 fun _ _ _ => .int _) ha hb
/-- -a -/
def dNeg (ta : TDE) : TDE := fun ds M Q => ta ds M fun x M1 => match x with | .int i => Q (.int (-i)) M1 | _ => False
theorem je_neg (ha : JE X a ta) : JE X (.UnaryOp .USub a pos) (dNeg ta) := by
  obtain ⟨u, p, g⟩ := ha
  refine je_pe (pe_un un_neg p) fun ds σ H M Q Q0 s m q k => ?_
  refine g ds σ H M _ _ s m q fun v H1 d M1 r1 m1 g1 q1 => ?_
  cases d with
  | int i =>
    cases r1.int_v
    exact ⟨i, rfl, k _ H1 _ M1 (.int _) m1 g1 q1⟩
  | _ => exact q1.elim
end

/-! ### == at any depth -/
mutual
def pureD : D → Bool
  | .ref _ => false
  | .ty _ => false
  | .tup xs => pureDs xs
  | _ => true
def pureDs : List D → Bool
  | [] => true
  | x :: xs => pureD x && pureDs xs
end
mutual
def depD : D → Nat
  | .tup xs => 1 + depDs xs
  | _ => 1
def depDs : List D → Nat
  | [] => 1
  | x :: xs => max (depD x) (depDs xs)
end
mutual
def eqvD : D → D → Bool
  | .non, .non => true
  | .bl a, .bl b => a == b
  | .bl a, .int b => (if a then 1 else 0) == b
  | .int a, .bl b => a == (if b then 1 else 0)
  | .int a, .int b => a == b
  | .str a, .str b => a == b
  | .tup xs, .tup ys => eqvDs xs ys
  | _, _ => false
def eqvDs : List D → List D → Bool
  | [], [] => true
  | x :: xs, y :: ys => eqvD x y && eqvDs xs ys
  | _, _ => false
end
theorem eqvDs_len : ∀ {xs ys : List D}, eqvDs xs ys = true → xs.length = ys.length
  | [], [], _ => rfl
  | x :: xs, y :: ys, h => by
    have h' : (eqvD x y && eqvDs xs ys) = true := by simpa [eqvDs] using h
    rw [Bool.and_eq_true] at h'
    simp [eqvDs_len h'.2]
  | [], _ :: _, h => by simp [eqvDs] at h
  | _ :: _, [], h => by simp [eqvDs] at h
/-- place by place -/
def eqAtN (xs ys : List D) (j : Nat) : Bool := match xs[j]?, ys[j]? with | some x, some y => eqvD x y | _, _ => false
theorem eqvDs_range : ∀ (xs ys : List D), ((List.range (min xs.length ys.length)).all (eqAtN xs ys) && xs.length == ys.length) = eqvDs xs ys
  | [], [] => by simp [eqvDs]
  | [], _ :: _ => by simp [eqvDs]
  | _ :: _, [] => by simp [eqvDs]
  | x :: xs, y :: ys => by
    have ih := eqvDs_range xs ys
    have hm : min (x :: xs).length (y :: ys).length = min xs.length ys.length + 1 := by simp only [List.length_cons]; omega
    rw [hm, List.range_succ_eq_map, List.all_cons, List.all_map]
    have e0 : eqAtN (x :: xs) (y :: ys) 0 = eqvD x y := rfl
    have e1 : (eqAtN (x :: xs) (y :: ys) ∘ Nat.succ) = eqAtN xs ys := rfl
    have e2 : ((x :: xs).length == (y :: ys).length) = (xs.length == ys.length) := by simp
    rw [e0, e1, e2, eqvDs, ← ih, Bool.and_assoc]
theorem pureDs_get : ∀ {xs : List D} {j : Nat} {x : D}, pureDs xs = true → xs[j]? = some x → pureD x = true
  | [], _, _, _, e => by simp at e
  | y :: ys, 0, x, h, e => by
    simp at e; subst e
    have : (pureD y && pureDs ys) = true := by simpa [pureDs] using h
    exact (Bool.and_eq_true_iff.mp this).1
  | y :: ys, j + 1, x, h, e => by
    have : (pureD y && pureDs ys) = true := by simpa [pureDs] using h
    exact pureDs_get (j := j) (Bool.and_eq_true_iff.mp this).2 (by simpa using e)
theorem depDs_get : ∀ {xs : List D} {j : Nat} {x : D}, xs[j]? = some x → depD x ≤ depDs xs
  | [], _, _, e => by simp at e
  | y :: ys, 0, x, e => by
    simp at e; subst e
    show depD y ≤ max (depD y) (depDs ys)
    omega
  | y :: ys, j + 1, x, e => by
    have := depDs_get (xs := ys) (j := j) (x := x) (by simpa using e)
    show depD x ≤ max (depD y) (depDs ys)
    omega
theorem depD_pos : ∀ d : D, 1 ≤ depD d
  | .tup xs => by simp [depD]
  | .non => by simp [depD]
  | .bl _ => by simp [depD]
  | .int _ => by simp [depD]
  | .str _ => by simp [depD]
  | .ref _ => by simp [depD]
  | .ty _ => by simp [depD]
section
variable {X : Cx} {pins : List (Addr × Obj)} {σ : St} {H : Hp} {s : Shared}
mutual
theorem eqv_same (I : Inv X pins σ H s) : ∀ (d e : D) (v : V), VR X.K H d v → VR X.K H e v → pureD d = true → pureD e = true → eqvD d e = true
  | .non, e, _, r, q, _, _ => by cases r; cases q; simp [eqvD]
  | .bl _, e, _, r, q, _, _ => by cases r; cases q; simp [eqvD]
  | .int _, e, _, r, q, _, _ => by cases r; cases q; simp [eqvD]
  | .str _, e, _, r, q, _, _ => by cases r; cases q; simp [eqvD]
  | .ref _, _, _, _, _, h, _ => by simp [pureD] at h
  | .ty _, _, _, _, _, h, _ => by simp [pureD] at h
  | .tup xs, e, _, r, q, h, h' => by
    obtain ⟨a, vs, rfl, sa, ra⟩ := r.tup_v
    cases q with
    | ref _ => simp [pureD] at h'
    | @tup ys _ ws sb rb =>
      have := I.tuple_inj sa sb
      subst this
      simp only [eqvD]
      exact eqvs_same I xs ys vs ra rb (by simpa [pureD] using h) (by simpa [pureD] using h')
theorem eqvs_same (I : Inv X pins σ H s) : ∀ (ds es : List D) (vs : List V), VRs X.K H ds vs → VRs X.K H es vs → pureDs ds = true → pureDs es = true → eqvDs ds es = true
  | [], es, _, r, q, _, _ => by cases r; cases q; simp [eqvDs]
  | d :: ds, es, _, r, q, h, h' => by
    cases r with
    | cons r1 r2 =>
      cases q with
      | cons q1 q2 =>
        have h1 := Bool.and_eq_true_iff.mp (show (pureD d && pureDs ds) = true by simpa [pureDs] using h)
        have h2 := Bool.and_eq_true_iff.mp (show (pureD _ && pureDs _) = true by simpa [pureDs] using h')
        simp only [eqvDs, Bool.and_eq_true]
        exact ⟨eqv_same I d _ _ r1 q1 h1.1 h2.1, eqvs_same I ds _ _ r2 q2 h1.2 h2.2⟩
end
open PySem.SeqAt in
theorem tup_at (I : Inv X pins σ H s) {a : Addr} {vs : List V} (h : SqT X.K H a vs) : ∃ its : List Value, Vals vs its ∧ s.heap.IsTuple a its.toArray := by
  obtain ⟨its, r, ⟨o, h1, h2, n, h3⟩, _⟩ := I.tuple h
  exact ⟨its, r, o, h1, h2, n, h3⟩
open PySem.SeqAt in
theorem lst_at (I : Inv X pins σ H s) {a : Addr} {vs : List V} (h : SqL X.K H a vs) : ∃ its : List Value, Vals vs its ∧ s.heap.IsList a its.toArray := by
  obtain ⟨its, r, p, _⟩ := I.list h
  exact ⟨its, r, p.isList⟩
mutual
theorem eqAt_D (I : Inv X pins σ H s) : ∀ (d e : D) (v w : V) (u t : Value) (A : Around), VR X.K H d v → VR X.K H e w → RelV v u → RelV w t → pureD d = true → pureD e = true → A.units + depD d < cLine → SeqAt.EqAt A s u t (eqvD d e)
  | .tup xs, e, v, w, u, t, A, rd, re, ru, rt, h, h', hu => by
    obtain ⟨a, vs, rfl, sa, ra⟩ := rd.tup_v
    cases ru
    obtain ⟨its, rv, ht⟩ := tup_at I sa
    have hd : A.units + 1 + depDs xs < cLine := by simp only [depD] at hu; omega
    have hu0 : A.units < cLine := by omega
    cases re with
    | ref _ => simp [pureD] at h'
    | ty _ => simp [pureD] at h'
    | non => cases rt; exact SeqAt.EqAt.tuple_none ht hu0
    | bl b => cases rt; exact SeqAt.EqAt.tuple_bool b ht hu0
    | int i => obtain ⟨k, rfl⟩ := rt; exact SeqAt.EqAt.tuple_int i k ht hu0
    | str i => obtain ⟨k, rfl⟩ := rt; exact SeqAt.EqAt.tuple_str i k ht hu0
    | @tup ys b ws sb rb =>
      cases rt
      by_cases hab : a = b
      · subst hab
        have e1 : eqvD (.tup xs) (.tup ys) = true := eqv_same I _ _ (.ref a) rd (.tup sb rb) h h'
        rw [e1]
        exact SeqAt.EqAt.same _
      · obtain ⟨its2, rv2, ht2⟩ := tup_at I sb
        refine SeqAt.EqAt.of_refs hab ?_
        have key := SeqAt.RcAt.tuples (e := eqAtN xs ys) ht ht2 hu0 fun j h1 h2 => eqAts_D I xs ys vs ws its its2 A.in1 j ra rb rv rv2 (by simpa [pureD] using h) (by simpa [pureD] using h') (by show A.units + 1 + depDs xs < cLine; exact hd) h1 h2
        rw [List.size_toArray, List.size_toArray, ← rv.length, ← rv2.length, ← ra.length, ← rb.length, eqvDs_range] at key
        simp only [eqvD]
        exact key
  | .non, e, v, w, u, t, A, rd, re, ru, rt, h, h', hu => by
    cases rd.non_v; cases ru
    have hu0 : A.units < cLine := by omega
    cases re with
    | ref _ => simp [pureD] at h'
    | ty _ => simp [pureD] at h'
    | tup sb rb =>
      cases rt
      obtain ⟨its2, rv2, ht2⟩ := tup_at I sb
      exact SeqAt.EqAt.none_tuple ht2 hu0
    | non => simp only [eqvD]; exact eqAt_V (y := .non) (x := .non) rfl rt rfl rfl
    | bl b => simp only [eqvD]; exact eqAt_V (y := .non) (x := .bl b) rfl rt rfl rfl
    | int i => simp only [eqvD]; exact eqAt_V (y := .non) (x := .int i) rfl rt rfl rfl
    | str i => simp only [eqvD]; exact eqAt_V (y := .non) (x := .str i) rfl rt rfl rfl
  | .bl c, e, v, w, u, t, A, rd, re, ru, rt, h, h', hu => by
    cases rd.bl_v
    have hu0 : A.units < cLine := by omega
    cases re with
    | ref _ => simp [pureD] at h'
    | ty _ => simp [pureD] at h'
    | tup sb rb =>
      cases ru
      cases rt
      obtain ⟨its2, rv2, ht2⟩ := tup_at I sb
      exact SeqAt.EqAt.bool_tuple c ht2 hu0
    | non => simp only [eqvD]; exact eqAt_V (y := .bl c) (x := .non) ru rt rfl rfl
    | bl b => simp only [eqvD]; exact eqAt_V (y := .bl c) (x := .bl b) ru rt rfl rfl
    | int i => simp only [eqvD]; exact eqAt_V (y := .bl c) (x := .int i) ru rt rfl rfl
    | str i => simp only [eqvD]; exact eqAt_V (y := .bl c) (x := .str i) ru rt rfl rfl
  | .int c, e, v, w, u, t, A, rd, re, ru, rt, h, h', hu => by
    cases rd.int_v
    have hu0 : A.units < cLine := by omega
    cases re with
    | ref _ => simp [pureD] at h'
    | ty _ => simp [pureD] at h'
    | tup sb rb =>
      obtain ⟨k, rfl⟩ := ru
      cases rt
      obtain ⟨its2, rv2, ht2⟩ := tup_at I sb
      exact SeqAt.EqAt.int_tuple c k ht2 hu0
    | non => simp only [eqvD]; exact eqAt_V (y := .int c) (x := .non) ru rt rfl rfl
    | bl b => simp only [eqvD]; exact eqAt_V (y := .int c) (x := .bl b) ru rt rfl rfl
    | int i => simp only [eqvD]; exact eqAt_V (y := .int c) (x := .int i) ru rt rfl rfl
    | str i => simp only [eqvD]; exact eqAt_V (y := .int c) (x := .str i) ru rt rfl rfl
  | .str c, e, v, w, u, t, A, rd, re, ru, rt, h, h', hu => by
    cases rd.str_v
    have hu0 : A.units < cLine := by omega
    cases re with
    | ref _ => simp [pureD] at h'
    | ty _ => simp [pureD] at h'
    | tup sb rb =>
      obtain ⟨k, rfl⟩ := ru
      cases rt
      obtain ⟨its2, rv2, ht2⟩ := tup_at I sb
      exact SeqAt.EqAt.str_tuple c k ht2 hu0
    | non => simp only [eqvD]; exact eqAt_V (y := .str c) (x := .non) ru rt rfl rfl
    | bl b => simp only [eqvD]; exact eqAt_V (y := .str c) (x := .bl b) ru rt rfl rfl
    | int i => simp only [eqvD]; exact eqAt_V (y := .str c) (x := .int i) ru rt rfl rfl
    | str i => simp only [eqvD]; exact eqAt_V (y := .str c) (x := .str i) ru rt rfl rfl
  | .ref _, _, _, _, _, _, _, _, _, _, _, h, _, _ => by simp [pureD] at h
  | .ty _, _, _, _, _, _, _, _, _, _, _, h, _, _ => by simp [pureD] at h
theorem eqAts_D (I : Inv X pins σ H s) : ∀ (xs ys : List D) (vs ws : List V) (us ts : List Value) (A : Around) (j : Nat), VRs X.K H xs vs → VRs X.K H ys ws → Vals vs us → Vals ws ts → pureDs xs = true → pureDs ys = true → A.units + depDs xs < cLine →
    ∀ (h1 : j < us.toArray.size) (h2 : j < ts.toArray.size), SeqAt.EqAt A s us.toArray[j] ts.toArray[j] (eqAtN xs ys j)
  | [], _, _, _, _, _, _, _, rx, _, ru, _, _, _, _, h1, _ => by
    cases rx; cases ru; simp at h1
  | x :: xs, ys, _, _, _, _, A, j, rx, ry, ru, rt, px, py, hu, h1, h2 => by
    have hx : A.units + depD x < cLine := by
      have : depD x ≤ depDs (x :: xs) := by show depD x ≤ max (depD x) (depDs xs); omega
      omega
    have hxs : A.units + depDs xs < cLine := by
      have : depDs xs ≤ depDs (x :: xs) := by show depDs xs ≤ max (depD x) (depDs xs); omega
      omega
    have pp := Bool.and_eq_true_iff.mp (show (pureD x && pureDs xs) = true by simpa [pureDs] using px)
    cases rx with
    | cons rx1 rx2 =>
      cases ru with
      | cons ru1 ru2 =>
        cases ry with
        | nil => cases rt; simp at h2
        | @cons y ys w ws ry1 ry2 =>
          cases rt with
          | cons rt1 rt2 =>
            have pq := Bool.and_eq_true_iff.mp (show (pureD y && pureDs ys) = true by simpa [pureDs] using py)
            cases j with
            | zero => exact eqAt_D I x y _ _ _ _ A rx1 ry1 ru1 rt1 pp.1 pq.1 hx
            | succ j =>
              have key := eqAts_D I xs ys _ _ _ _ A j rx2 ry2 ru2 rt2 pp.2 pq.2 hxs (by simpa using h1) (by simpa using h2)
              simpa [eqAtN] using key
end
end
end DL

namespace DL
open PySem L2
open PyProof.Rows (b2i)
open PySem.SeqAt (EqAt RcAt RcNeAt)

section
variable {X : Cx} {pins : List (Addr × Obj)} {σ : L2.St} {H : Hp} {s : Shared} {M : Mm}
theorem rcAt_V {A : Around} {y x : V} {u v : Value} (ry : RelV y u) (rx : RelV x v) (fy : flatV y = true) (fx : flatV x = true) : RcAt A s u v (eqV y x) ∧ RcNeAt A s u v (!eqV y x) := by
  cases y with
  | non =>
    cases ry
    cases x with
    | non => cases rx; exact ⟨RcAt.none_none, RcNeAt.none_none⟩
    | bl b => cases rx; exact ⟨RcAt.none_bool b, RcNeAt.none_bool b⟩
    | int b => obtain ⟨t, rfl⟩ := rx; exact ⟨RcAt.none_int b t, RcNeAt.none_int b t⟩
    | str b => obtain ⟨t, rfl⟩ := rx; exact ⟨RcAt.none_str b t, RcNeAt.none_str b t⟩
    | _ => exact absurd (show false = true from fx) Bool.false_ne_true
  | bl a =>
    cases ry
    cases x with
    | non => cases rx; exact ⟨RcAt.bool_none a, RcNeAt.bool_none a⟩
    | bl b => cases rx; exact ⟨RcAt.bool_bool a b, RcNeAt.bool_bool a b⟩
    | int b => obtain ⟨t, rfl⟩ := rx; exact ⟨RcAt.bool_int a b t, RcNeAt.bool_int a b t⟩
    | str b => obtain ⟨t, rfl⟩ := rx; exact ⟨RcAt.bool_str a b t, RcNeAt.bool_str a b t⟩
    | _ => exact absurd (show false = true from fx) Bool.false_ne_true
  | int a =>
    obtain ⟨t', rfl⟩ := ry
    cases x with
    | non => cases rx; exact ⟨RcAt.int_none a t', RcNeAt.int_none a t'⟩
    | bl b => cases rx; exact ⟨RcAt.int_bool a t' b, RcNeAt.int_bool a t' b⟩
    | int b => obtain ⟨t, rfl⟩ := rx; exact ⟨RcAt.int_int a t' b t, RcNeAt.int_int a t' b t⟩
    | str b => obtain ⟨t, rfl⟩ := rx; exact ⟨RcAt.int_str a t' b t, RcNeAt.int_str a t' b t⟩
    | _ => exact absurd (show false = true from fx) Bool.false_ne_true
  | str a =>
    obtain ⟨t', rfl⟩ := ry
    cases x with
    | non => cases rx; exact ⟨RcAt.str_none a t', RcNeAt.str_none a t'⟩
    | bl b => cases rx; exact ⟨RcAt.str_bool a t' b, RcNeAt.str_bool a t' b⟩
    | int b => obtain ⟨t, rfl⟩ := rx; exact ⟨RcAt.str_int a t' b t, RcNeAt.str_int a t' b t⟩
    | str b => obtain ⟨t, rfl⟩ := rx; exact ⟨RcAt.str_str a t' b t, RcNeAt.str_str a t' b t⟩
    | _ => exact absurd (show false = true from fx) Bool.false_ne_true
  | _ => exact absurd (show false = true from fy) Bool.false_ne_true

/-- the kinds that == serves -/
inductive EK (K : PySem.W.Frag) (M : Mm) (H : Hp) : D → V → Prop
  | flat {d : D} {v : V} : VR K H d v → flatV v = true → EK K M H d v
  | tup {xs : List D} {a : Addr} {vs : List V} : SqT K H a vs → VRs K H xs vs → EK K M H (.tup xs) (.ref a)
  | lst {a : Addr} {xs : List D} {vs : List V} : M a = some (.lst xs) → H a = some (.lst vs) → VRs K H xs vs → EK K M H (.ref a) (.ref a)
def eqM (M : Mm) : D → D → Bool
  | .ref a, .ref b => (match lstOf M a, lstOf M b with | some xs, some ys => eqvDs xs ys | _, _ => false)
  | d, e => eqvD d e
def okD (M : Mm) : D → Prop
  | .ref a => (match lstOf M a with | some xs => pureDs xs = true ∧ depDs xs ≤ 100 | none => False)
  | d => pureD d = true ∧ depD d ≤ 100
theorem EK.of {K : PySem.W.Frag} (m : MR K M H) {d : D} {v : V} (r : VR K H d v) (h : okD M d) : EK K M H d v := by
  cases r with
  | tup sa ra => exact .tup sa ra
  | ref a =>
    unfold okD at h
    simp only at h
    split at h
    · rename_i xs e
      obtain ⟨vs, h1, r1⟩ := m a _ (of_lstOf e)
      exact .lst (of_lstOf e) h1 r1
    · exact h.elim
  | ty n => simp [okD, pureD] at h
  | _ => exact .flat (by constructor) rfl
theorem flat_eqM {K : PySem.W.Frag} {d e : D} {v w : V} (r : VR K H d v) (r' : VR K H e w) (f : flatV v = true) (f' : flatV w = true) : eqM M d e = eqV v w := by
  cases r <;> cases r' <;> first | rfl | (simp [flatV] at f) | (simp [flatV] at f')
theorem eqM_pure {d e : D} (h : ∀ a, d ≠ .ref a) : eqM M d e = eqvD d e := by
  unfold eqM
  split
  · exact absurd rfl (h _)
  · rfl
theorem eqM_pure' {d e : D} (h : ∀ a, e ≠ .ref a) : eqM M d e = eqvD d e := by
  unfold eqM
  split
  · exact absurd rfl (h _)
  · rfl
open PySem.SeqAt in
theorem rc_D (I : Inv X pins σ H s) (m : MR X.K M H) {d e : D} {v w : V} {u t : Value} (rd : VR X.K H d v) (re : VR X.K H e w) (ru : RelV v u) (rt : RelV w t) (h : okD M d) (h' : okD M e) (hu : X.A.units + 150 < cLine) :
    RcAt X.A s u t (eqM M d e) ∧ RcNeAt X.A s u t (!eqM M d e) := by
  have hu0 : X.A.units < cLine := by omega
  cases EK.of m rd h with
  | flat r1 f1 =>
    cases EK.of m re h' with
    | flat r2 f2 => rw [flat_eqM r1 r2 f1 f2]; exact rcAt_V ru rt f1 f2
    | tup sb rb =>
      obtain ⟨its2, rv2, ht2⟩ := tup_at I sb
      cases rt
      rw [eqM_pure' (fun a q => by cases q)]
      cases r1 with
      | non => cases ru; exact ⟨RcAt.none_tuple ht2 hu0, RcNeAt.none_tuple ht2 hu0⟩
      | bl b => cases ru; exact ⟨RcAt.bool_tuple b ht2 hu0, RcNeAt.bool_tuple b ht2 hu0⟩
      | int b => obtain ⟨k, rfl⟩ := ru; exact ⟨RcAt.int_tuple b k ht2 hu0, RcNeAt.int_tuple b k ht2 hu0⟩
      | str b => obtain ⟨k, rfl⟩ := ru; exact ⟨RcAt.str_tuple b k ht2 hu0, RcNeAt.str_tuple b k ht2 hu0⟩
      | _ => simp [flatV] at f1
    | lst e1 h1 rb =>
      obtain ⟨its2, rv2, ht2⟩ := lst_at I (SqL.of h1)
      cases rt
      cases r1 with
      | non => cases ru; exact ⟨RcAt.none_list ht2 hu0, RcNeAt.none_list ht2 hu0⟩
      | bl b => cases ru; exact ⟨RcAt.bool_list b ht2 hu0, RcNeAt.bool_list b ht2 hu0⟩
      | int b => obtain ⟨k, rfl⟩ := ru; exact ⟨RcAt.int_list b k ht2 hu0, RcNeAt.int_list b k ht2 hu0⟩
      | str b => obtain ⟨k, rfl⟩ := ru; exact ⟨RcAt.str_list b k ht2 hu0, RcNeAt.str_list b k ht2 hu0⟩
      | _ => simp [flatV] at f1
  | @tup xs a vs sa ra =>
    obtain ⟨its, rv, ht⟩ := tup_at I sa
    cases ru
    rw [eqM_pure (fun a q => by cases q)]
    obtain ⟨p1, p2⟩ : pureDs xs = true ∧ 1 + depDs xs ≤ 100 := by simpa [okD, pureD, depD] using h
    cases EK.of m re h' with
    | flat r2 f2 =>
      cases r2 with
      | non => cases rt; exact ⟨RcAt.tuple_none ht hu0, RcNeAt.tuple_none ht hu0⟩
      | bl b => cases rt; exact ⟨RcAt.tuple_bool b ht hu0, RcNeAt.tuple_bool b ht hu0⟩
      | int b => obtain ⟨k, rfl⟩ := rt; exact ⟨RcAt.tuple_int b k ht hu0, RcNeAt.tuple_int b k ht hu0⟩
      | str b => obtain ⟨k, rfl⟩ := rt; exact ⟨RcAt.tuple_str b k ht hu0, RcNeAt.tuple_str b k ht hu0⟩
      | _ => simp [flatV] at f2
    | @tup ys b ws sb rb =>
      obtain ⟨its2, rv2, ht2⟩ := tup_at I sb
      cases rt
      obtain ⟨q1, q2⟩ : pureDs ys = true ∧ 1 + depDs ys ≤ 100 := by simpa [okD, pureD, depD] using h'
      have hx : X.A.in1.units + depDs xs < cLine := by show X.A.units + 1 + depDs xs < cLine; omega
      have k1 := RcAt.tuples (e := eqAtN xs ys) ht ht2 hu0 fun j h1 h2 => eqAts_D I xs ys vs ws its its2 X.A.in1 j ra rb rv rv2 p1 q1 hx h1 h2
      have k2 := RcNeAt.tuples (e := eqAtN xs ys) ht ht2 hu0 fun j h1 h2 => eqAts_D I xs ys vs ws its its2 X.A.in1 j ra rb rv rv2 p1 q1 hx h1 h2
      rw [List.size_toArray, List.size_toArray, ← rv.length, ← rv2.length, ← ra.length, ← rb.length, eqvDs_range] at k1 k2
      simp only [eqvD]
      exact ⟨k1, k2⟩
    | lst e1 h1 rb =>
      obtain ⟨its2, rv2, ht2⟩ := lst_at I (SqL.of h1)
      cases rt
      exact ⟨RcAt.tuple_list ht ht2 hu0, RcNeAt.tuple_list ht ht2 hu0⟩
  | @lst a xs vs e1 h1 ra =>
    obtain ⟨its, rv, ht⟩ := lst_at I (SqL.of h1)
    cases ru
    cases EK.of m re h' with
    | flat r2 f2 =>
      cases r2 with
      | non => cases rt; exact ⟨RcAt.list_none ht hu0, RcNeAt.list_none ht hu0⟩
      | bl b => cases rt; exact ⟨RcAt.list_bool b ht hu0, RcNeAt.list_bool b ht hu0⟩
      | int b => obtain ⟨k, rfl⟩ := rt; exact ⟨RcAt.list_int b k ht hu0, RcNeAt.list_int b k ht hu0⟩
      | str b => obtain ⟨k, rfl⟩ := rt; exact ⟨RcAt.list_str b k ht hu0, RcNeAt.list_str b k ht hu0⟩
      | _ => simp [flatV] at f2
    | @tup ys b ws sb rb =>
      obtain ⟨its2, rv2, ht2⟩ := tup_at I sb
      cases rt
      exact ⟨RcAt.list_tuple ht ht2 hu0, RcNeAt.list_tuple ht ht2 hu0⟩
    | @lst b ys ws e2 h2 rb =>
      obtain ⟨its2, rv2, ht2⟩ := lst_at I (SqL.of h2)
      cases rt
      obtain ⟨p1, p2⟩ : pureDs xs = true ∧ depDs xs ≤ 100 := by simpa [okD, lstOf_some e1] using h
      obtain ⟨q1, q2⟩ : pureDs ys = true ∧ depDs ys ≤ 100 := by simpa [okD, lstOf_some e2] using h'
      have hx : X.A.in1.units + depDs xs < cLine := by show X.A.units + 1 + depDs xs < cLine; omega
      have hev : eqM M (.ref a) (.ref b) = eqvDs xs ys := by simp only [eqM, lstOf_some e1, lstOf_some e2]
      rw [hev]
      by_cases hsz : xs.length = ys.length
      · have hs : its.toArray.size = its2.toArray.size := by rw [List.size_toArray, List.size_toArray, ← rv.length, ← rv2.length, ← ra.length, ← rb.length]; exact hsz
        have k1 := RcAt.lists (e := eqAtN xs ys) ht ht2 hs hu0 fun j h1 h2 => eqAts_D I xs ys vs ws its its2 X.A.in1 j ra rb rv rv2 p1 q1 hx h1 h2
        have k2 := RcNeAt.lists (e := eqAtN xs ys) ht ht2 hs hu0 fun j h1 h2 => eqAts_D I xs ys vs ws its its2 X.A.in1 j ra rb rv rv2 p1 q1 hx h1 h2
        have e3 := eqvDs_range xs ys
        rw [show min xs.length ys.length = xs.length by omega, show (xs.length == ys.length) = true by simp [hsz], Bool.and_true] at e3
        rw [List.size_toArray, ← rv.length, ← ra.length, e3] at k1 k2
        exact ⟨k1, k2⟩
      · have hs : (its.toArray.size != its2.toArray.size) = true := by
          rw [List.size_toArray, List.size_toArray, ← rv.length, ← rv2.length, ← ra.length, ← rb.length]
          simpa using hsz
        have e3 : eqvDs xs ys = false := by
          cases q : eqvDs xs ys with
          | false => rfl
          | true => exact absurd (eqvDs_len q) hsz
        rw [e3]
        exact ⟨RcAt.lists_lengths ht ht2 hs hu0, RcNeAt.lists_lengths ht ht2 hs hu0⟩
end

/-! ### rules straight over the machine: an operation on two values -/
/-- by the values' descriptions -/
def OpD (X : Cx) (f : Value → Value → Sem Value) (dr : DR2) : Prop :=
  ∀ (pins : List (Addr × Obj)) (s : Shared) (σ : L2.St) (H : Hp) (M : Mm) (d e : D) (x y : V) (v u : Value) (Q : DQ) (Q0 : VK), Inv X pins σ H s → MR X.K M H → VR X.K H d x → VR X.K H e y → RelV x v → RelV y u → dr d e M Q →
    (∀ v H' d M', VR X.K H' d v → MR X.K M' H' → GG M H M' H' → Q d M' → Q0 v H') → wpAny (model X.prog X.w) X.A (f v u) (EP X pins σ Q0) X.xe s
/-- as a rule of the layer beneath: what is wanted there -/
def rOf (K : PySem.W.Frag) (dr : DR2) : R2 := fun x y H Q0 => ∃ (d e : D) (M : Mm) (Q : DQ), MR K M H ∧ VR K H d x ∧ VR K H e y ∧ dr d e M Q ∧ ∀ v H' d M', VR K H' d v → MR K M' H' → GG M H M' H' → Q d M' → Q0 v H'
theorem OpD.opR {X : Cx} {f : Value → Value → Sem Value} {dr : DR2} (h : OpD X f dr) : OpR X f (rOf X.K dr) := by
  intro pins s σ H x y v u Q0 I rx ry q
  obtain ⟨d, e, M, Q, m, rd, re, hq, k⟩ := q
  exact h pins s σ H M d e x y v u Q Q0 I m rd re rx ry hq k
theorem lift_of {K : PySem.W.Frag} {dr : DR2} : Lift2 K (rOf K dr) dr := by
  intro x y dx dy H M Q Q0 rx ry m h k
  exact ⟨dx, dy, M, Q, m, rx, ry, h, k⟩

def eqR : DR2 := fun d e M Q => (okD M d ∧ okD M e) ∧ Q (.bl (eqM M d e)) M
def neR : DR2 := fun d e M Q => (okD M d ∧ okD M e) ∧ Q (.bl (!eqM M d e)) M
theorem op_eqT {X : Cx} (hu : X.A.units + 150 < cLine) : OpD X (compareOp .Eq) eqR := by
  intro pins s σ H M d e x y v u Q Q0 I m rd re rx ry hq k
  exact (rc_D I m rd re rx ry hq.1.1 hq.1.2 hu).1 X.prog X.w _ _ ⟨.bl _, H, I, rfl, k _ H _ M (.bl _) m GG.refl hq.2⟩
theorem op_neT {X : Cx} (hu : X.A.units + 150 < cLine) : OpD X (compareOp .NotEq) neR := by
  intro pins s σ H M d e x y v u Q Q0 I m rd re rx ry hq k
  exact (rc_D I m rd re rx ry hq.1.1 hq.1.2 hu).2 X.prog X.w _ _ ⟨.bl _, H, I, rfl, k _ H _ M (.bl _) m GG.refl hq.2⟩
theorem hu150 {A : Around} {k : Nat} (hr : Room k A) : A.units + 150 < cLine := by have := hr.un; omega
section
variable {X : Cx} {a b : Expr} {ta tb : TDE} {pos : Pos} {k : Nat}
theorem je_eq (hr : Room k X.A) (ha : JE X a ta) (hb : JE X b tb) : JE X (.Compare a [.Eq] [b] pos) (dOp eqR ta tb) := je_cmpR (op_eqT (hu150 hr)).opR lift_of ha hb (nomark _)
theorem je_ne (hr : Room k X.A) (ha : JE X a ta) (hb : JE X b tb) : JE X (.Compare a [.NotEq] [b] pos) (dOp neR ta tb) := je_cmpR (op_neT (hu150 hr)).opR lift_of ha hb (nomark _)
theorem jt_eq (hr : Room k X.A) (ha : JE X a ta) (hb : JE X b tb) : JT X (.Compare a [.Eq] [b] pos) (dTest (dOp eqR ta tb)) := jt_cmpR (op_eqT (hu150 hr)).opR lift_of ha hb (nomark _)
theorem jt_ne (hr : Room k X.A) (ha : JE X a ta) (hb : JE X b tb) : JT X (.Compare a [.NotEq] [b] pos) (dTest (dOp neR ta tb)) := jt_cmpR (op_neT (hu150 hr)).opR lift_of ha hb (nomark _)
/-- order of ints -/
abbrev ltR : DR2 := int0R fun i j => .bl (decide (i < j))
abbrev leR : DR2 := int0R fun i j => .bl (decide (i ≤ j))
abbrev gtR : DR2 := int0R fun i j => .bl (decide (j < i))
abbrev geR : DR2 := int0R fun i j => .bl (decide (j ≤ i))
theorem je_lt (ha : JE X a ta) (hb : JE X b tb) : JE X (.Compare a [.Lt] [b] pos) (dOp ltR ta tb) := je_cmpR op_lt (lift_int0 fun _ _ _ => .bl _) ha hb (nomark _)
theorem je_le (ha : JE X a ta) (hb : JE X b tb) : JE X (.Compare a [.LtE] [b] pos) (dOp leR ta tb) := je_cmpR op_le (lift_int0 fun _ _ _ => .bl _) ha hb (nomark _)
theorem je_gt (ha : JE X a ta) (hb : JE X b tb) : JE X (.Compare a [.Gt] [b] pos) (dOp gtR ta tb) := je_cmpR op_gt (lift_int0 fun _ _ _ => .bl _) ha hb (nomark _)
theorem je_ge (ha : JE X a ta) (hb : JE X b tb) : JE X (.Compare a [.GtE] [b] pos) (dOp geR ta tb) := je_cmpR op_ge (lift_int0 fun _ _ _ => .bl _) ha hb (nomark _)
theorem jt_lt (ha : JE X a ta) (hb : JE X b tb) : JT X (.Compare a [.Lt] [b] pos) (dTest (dOp ltR ta tb)) := jt_cmpR op_lt (lift_int0 fun _ _ _ => .bl _) ha hb (nomark _)
theorem jt_le (ha : JE X a ta) (hb : JE X b tb) : JT X (.Compare a [.LtE] [b] pos) (dTest (dOp leR ta tb)) := jt_cmpR op_le (lift_int0 fun _ _ _ => .bl _) ha hb (nomark _)
theorem jt_gt (ha : JE X a ta) (hb : JE X b tb) : JT X (.Compare a [.Gt] [b] pos) (dTest (dOp gtR ta tb)) := jt_cmpR op_gt (lift_int0 fun _ _ _ => .bl _) ha hb (nomark _)
theorem jt_ge (ha : JE X a ta) (hb : JE X b tb) : JT X (.Compare a [.GtE] [b] pos) (dTest (dOp geR ta tb)) := jt_cmpR op_ge (lift_int0 fun _ _ _ => .bl _) ha hb (nomark _)
end
end DL

namespace DL
open PySem L2
open PyProof.Rows (b2i)

/-! ### a < b < c -/
def dChain (r r' : DR2) (ta tb tc : TDE) : TDE := fun ds M Q => ta ds M fun x M1 => tb ds M1 fun y M2 => r x y M2 fun z M3 => isB z fun k => if k = true then tc ds M3 fun w M4 => r' y w M4 Q else Q (.bl false) M3
section
variable {X : Cx} {a b c : Expr} {ta tb tc : TDE} {pos : Pos}
theorem chain_go {r r' : R2} {dr dr' : DR2} {ua ub uc : TE} (hl : Lift2 X.K r dr) (hl' : Lift2 X.K r' dr')
    (ga : ∀ (ds : DSt) (σ : L2.St) (H : Hp) (M : Mm) (Q : DQ) (Q0 : VK), SR X.K H ds σ → MR X.K M H → ta ds M Q → (∀ v H' d M', VR X.K H' d v → MR X.K M' H' → GG M H M' H' → Q d M' → Q0 v H') → ua σ H Q0)
    (gb : ∀ (ds : DSt) (σ : L2.St) (H : Hp) (M : Mm) (Q : DQ) (Q0 : VK), SR X.K H ds σ → MR X.K M H → tb ds M Q → (∀ v H' d M', VR X.K H' d v → MR X.K M' H' → GG M H M' H' → Q d M' → Q0 v H') → ub σ H Q0)
    (gc : ∀ (ds : DSt) (σ : L2.St) (H : Hp) (M : Mm) (Q : DQ) (Q0 : VK), SR X.K H ds σ → MR X.K M H → tc ds M Q → (∀ v H' d M', VR X.K H' d v → MR X.K M' H' → GG M H M' H' → Q d M' → Q0 v H') → uc σ H Q0)
    (ds : DSt) (σ : L2.St) (H : Hp) (M : Mm) (Q : DQ) (Q0 : VK) (s : SR X.K H ds σ) (m : MR X.K M H) (q : dChain dr dr' ta tb tc ds M Q)
    (k : ∀ v H' d M', VR X.K H' d v → MR X.K M' H' → GG M H M' H' → Q d M' → Q0 v H') : tChain r r' ua ub uc σ H Q0 := by
  refine ga ds σ H M _ _ s m q fun v H1 d M1 r1 m1 g1 q1 => ?_
  refine gb ds σ H1 M1 _ _ (s.gg m g1) m1 q1 fun u H2 e M2 r2 m2 g2 q2 => ?_
  refine hl v u d e H2 M2 _ _ (VR.mono (g2.tx m1) _ _ r1) r2 m2 q2 fun z H3 f M3 r3 m3 g3 q3 => ?_
  obtain ⟨j, e3, q3⟩ := isB_out r3 q3
  refine ⟨j, e3, ?_⟩
  cases j with
  | false => exact k _ H3 _ M3 (.bl false) m3 ((g1.trans g2).trans g3) q3
  | true =>
    refine gc ds σ H3 M3 _ _ (s.gg m ((g1.trans g2).trans g3)) m3 q3 fun w H4 f4 M4 r4 m4 g4 q4 => ?_
    exact hl' u w e f4 H4 M4 Q Q0 (VR.mono ((g3.trans g4).tx m2) _ _ r2) r4 m4 q4 fun w5 H5 f5 M5 r5 m5 g5 q5 => k w5 H5 f5 M5 r5 m5 ((((g1.trans g2).trans g3).trans g4).trans g5) q5
theorem je_chain {op op' : CmpOp} {r r' : R2} {dr dr' : DR2} (ho : OpR X (compareOp op) r) (ho' : OpR X (compareOp op') r') (hl : Lift2 X.K r dr) (hl' : Lift2 X.K r' dr') (ha : JE X a ta) (hb : JE X b tb) (hc : JE X c tc)
    (hm : lastMarks [op, op'] [b, c] = false := by with_unfolding_all rfl) : JE X (.Compare a [op, op'] [b, c] pos) (dChain dr dr' ta tb tc) := by
  obtain ⟨ua, pa, ga⟩ := ha
  obtain ⟨ub, pb, gb⟩ := hb
  obtain ⟨uc, pc, gc⟩ := hc
  exact je_pe (pe_chain ho ho' pa pb pc hm) (chain_go hl hl' ga gb gc)
theorem jt_chain {op op' : CmpOp} {r r' : R2} {dr dr' : DR2} (ho : OpR X (compareOp op) r) (ho' : OpR X (compareOp op') r') (hl : Lift2 X.K r dr) (hl' : Lift2 X.K r' dr') (ha : JE X a ta) (hb : JE X b tb) (hc : JE X c tc)
    (hm : lastMarks [op, op'] [b, c] = false := by with_unfolding_all rfl) : JT X (.Compare a [op, op'] [b, c] pos) (dTest (dChain dr dr' ta tb tc)) := by
  obtain ⟨ua, pa, ga⟩ := ha
  obtain ⟨ub, pb, gb⟩ := hb
  obtain ⟨uc, pc, gc⟩ := hc
  refine ⟨_, pt_chain ho ho' pa pb pc hm, fun ds σ H M Q Q0 s m q k => ?_⟩
  refine chain_go hl hl' ga gb gc ds σ H M _ _ s m q fun v H' d M' r m' gg q' => ?_
  obtain ⟨b, e, q⟩ := isB_out r q'
  exact ⟨b, e, k b H' M' m' gg q⟩
/-- the two orders of ints that stand in chains -/
theorem l_le {K : PySem.W.Frag} : Lift2 K (rI0 fun i j => .bl (decide (i ≤ j))) leR := lift_int0 fun _ _ _ => .bl _
theorem l_lt {K : PySem.W.Frag} : Lift2 K (rI0 fun i j => .bl (decide (i < j))) ltR := lift_int0 fun _ _ _ => .bl _
end

/-! ### subscripts -/
def ixR : DR2 := fun x y M Q => match x, y with
  | .tup xs, .int i => (match atI xs i with | some d => Q d M | none => False)
  | .str z, .int i => z.length ≤ sizeLine ∧ (match atI z.cps.toList i with | some c => Q (.str ⟨#[c]⟩) M | none => False)
  | .ref a, .int i => (match lstOf M a with | some xs => (match atI xs i with | some d => Q d M | none => False) | none => False)
  | _, _ => False
theorem VRs.atI {K : PySem.W.Frag} {H : Hp} {ds : List D} {vs : List V} (r : VRs K H ds vs) {i : Int} {d : D} (h : L2.atI ds i = some d) : ∃ v, L2.atI vs i = some v ∧ VR K H d v := by
  unfold L2.atI at h ⊢
  rw [r.length] at h
  cases e : ixN vs.length i with
  | none => rw [e] at h; cases h
  | some j =>
    rw [e] at h
    exact r.get h
theorem lift_ix {K : PySem.W.Frag} : Lift2 K (rIx K) ixR := by
  intro x y dx dy H M Q Q0 rx ry m h k
  cases dy with
  | int i =>
    cases ry.int_v
    cases dx with
    | tup xs =>
      obtain ⟨a, vs, rfl, sa, ra⟩ := rx.tup_v
      unfold ixR at h
      simp only at h
      split at h
      · rename_i d e
        obtain ⟨v, e', r'⟩ := ra.atI e
        exact .inr (.inl ⟨a, vs, i, v, rfl, rfl, sa, e', k v H d M r' m GG.refl h⟩)
      · exact h.elim
    | str z =>
      cases rx.str_v
      unfold ixR at h
      simp only at h
      obtain ⟨hz, h⟩ := h
      split at h
      · rename_i c e
        exact .inr (.inr ⟨z, i, c, rfl, rfl, hz, e, k _ H _ M (.str _) m GG.refl h⟩)
      · exact h.elim
    | ref a =>
      cases rx.ref_v
      unfold ixR at h
      simp only at h
      split at h
      · rename_i xs e
        split at h
        · rename_i d e'
          obtain ⟨vs, h1, r1⟩ := m a _ (of_lstOf e)
          obtain ⟨v, e2, r2⟩ := r1.atI e'
          exact .inl ⟨a, vs, i, v, rfl, rfl, SqL.of h1, e2, k v H d M r2 m GG.refl h⟩
        · exact h.elim
      · exact h.elim
    | _ => exact h.elim
  | _ => cases dx <;> exact h.elim
section
variable {X : Cx} {a b : Expr} {ta tb : TDE} {pos : Pos}
theorem je_ix (ha : JE X a ta) (hb : JE X b tb) (hs : PlainIx b := by exact fun _ _ => rfl) : JE X (.Subscript a b pos) (dOp ixR ta tb) := by
  obtain ⟨u, p, g⟩ := ha
  obtain ⟨u', p', g'⟩ := hb
  exact je_pe (pe_ix ix_seq p p' hs) (op2 lift_ix g g')
end

/-! ### slices -/
abbrev TDO := DSt → Mm → (Option Int → Mm → Prop) → Prop
structure JO (X : Cx) (e : Option Expr) (t : TDO) : Prop where
  go : ∃ t0, PO X e t0 ∧ ∀ (ds : DSt) (σ : L2.St) (H : Hp) (M : Mm) (Q : Option Int → Mm → Prop) (Q0 : Option Int → Hp → Prop), SR X.K H ds σ → MR X.K M H → t ds M Q →
    (∀ o H' M', MR X.K M' H' → GG M H M' H' → Q o M' → Q0 o H') → t0 σ H Q0
def dNoPart : TDO := fun _ M Q => Q none M
def isI (d : D) (Q : Int → Prop) : Prop := match d with | .int i => Q i | _ => False
theorem isI_out {K : PySem.W.Frag} {H : Hp} {d : D} {v : V} {Q : Int → Prop} (r : VR K H d v) (q : isI d Q) : ∃ k, v = .int k ∧ Q k := by
  cases r with
  | int b => exact ⟨b, rfl, q⟩
  | _ => exact q.elim
def dPart (t : TDE) : TDO := fun ds M Q => t ds M fun x M1 => isI x fun i => Q (some i) M1
section
variable {X : Cx} {e : Expr} {te : TDE}
theorem jo_none : JO X none dNoPart := ⟨_, po_none, fun _ _ H M _ _ _ m q k => k none H M m GG.refl q⟩
theorem jo_some (h : JE X e te) : JO X (some e) (dPart te) := by
  obtain ⟨u, p, g⟩ := h
  refine ⟨_, po_some p, fun ds σ H M Q Q0 s m q k => ?_⟩
  refine g ds σ H M _ _ s m q fun v H' d M' r m' gg q' => ?_
  obtain ⟨b, e, q⟩ := isI_out r q'
  exact ⟨b, e, k _ H' M' m' gg q⟩
end
def cutL {α : Type} (xs : List α) (lo hi : Option Int) : List α := (xs.drop (HT.sIx xs.length 0 lo)).take (HT.sIx xs.length xs.length hi - HT.sIx xs.length 0 lo)
theorem VRs.cut {K : PySem.W.Frag} {H : Hp} {ds : List D} {vs : List V} (r : VRs K H ds vs) (lo hi : Option Int) : VRs K H (cutL ds lo hi) (cutV vs lo hi) := by
  unfold cutL cutV
  rw [r.length]
  exact (r.drop _).take _
theorem cutL_whole {α : Type} {xs : List α} {lo hi : Option Int} (h : HT.sIx xs.length 0 lo = 0 ∧ HT.sIx xs.length xs.length hi = xs.length) : cutL xs lo hi = xs := by
  unfold cutL
  rw [h.1, h.2]
  simp
def slR (x : D) (lo hi : Option Int) (M : Mm) (Q : DQ) : Prop := match x with
  | .tup xs => Q (.tup (cutL xs lo hi)) M
  | .str z => z.length ≤ sizeLine ∧ Q (.str (cutS z lo hi)) M
  | .ref a => (match lstOf M a with | some xs => ∀ p, M p = none → Q (.ref p) (mup M p (.lst (cutL xs lo hi))) | none => False)
  | _ => False
def dSl (te : TDE) (tl th : TDO) : TDE := fun ds M Q => te ds M fun x M1 => tl ds M1 fun l M2 => th ds M2 fun u M3 => slR x l u M3 Q
section
variable {X : Cx} {e : Expr} {te : TDE} {tl th : TDO} {lo hi : Option Expr} {pos p2 : Pos}
def slT (K : PySem.W.Frag) : V → Option Int → Option Int → Hp → VK → Prop := fun x lo hi H Q => rSlA K x lo hi H Q ∨ rSlS x lo hi H Q ∨ rSlL K x lo hi H Q
theorem sl_all : SlR X (slT X.K) := sl_tupA.or (sl_str.or sl_list)
theorem lift_sl {K : PySem.W.Frag} (x : V) (dx : D) (lo hi : Option Int) (H : Hp) (M : Mm) (Q : DQ) (Q0 : VK) (rx : VR K H dx x) (m : MR K M H) (h : slR dx lo hi M Q)
    (k : ∀ v H' d M', VR K H' d v → MR K M' H' → GG M H M' H' → Q d M' → Q0 v H') : slT K x lo hi H Q0 := by
  cases dx with
  | tup xs =>
    obtain ⟨a, vs, rfl, sa, ra⟩ := rx.tup_v
    have q : Q (.tup (cutL xs lo hi)) M := h
    refine .inl ⟨a, vs, rfl, sa, fun hw => ?_, fun hw p hp => ?_⟩
    · rw [← ra.length] at hw
      rw [cutL_whole hw] at q
      exact k _ H _ M rx m GG.refl q
    · exact k _ _ _ M (.tup (SqT.of upd_same) (VRs.mono (TX.new hp) _ _ (ra.cut lo hi))) (m.newT hp) (GG.newT hp) q
  | str z =>
    cases rx.str_v
    exact .inr (.inl ⟨z, rfl, h.1, k _ H _ M (.str _) m GG.refl h.2⟩)
  | ref a =>
    cases rx.ref_v
    unfold slR at h
    simp only at h
    split at h
    · rename_i xs e
      obtain ⟨vs, h1, r1⟩ := m a _ (of_lstOf e)
      refine .inr (.inr ⟨a, vs, rfl, SqL.of h1, fun p hp => ?_⟩)
      exact k _ _ _ _ (.ref p) (m.new (w := .lst (cutL xs lo hi)) hp ⟨_, upd_same, VRs.mono (TX.new hp) _ _ (r1.cut lo hi)⟩) (GG.new hp) (h p (m.free hp))
    · exact h.elim
  | _ => exact h.elim
theorem je_slice (he : JE X e te) (hl : JO X lo tl) (hu : JO X hi th) : JE X (.Subscript e (.Slice lo hi none p2) pos) (dSl te tl th) := by
  obtain ⟨u, p, g⟩ := he
  obtain ⟨u1, p1, g1⟩ := hl
  obtain ⟨u2, p2, g2⟩ := hu
  refine je_pe (pe_slice sl_all p p1 p2) fun ds σ H M Q Q0 s m q k => ?_
  refine g ds σ H M _ _ s m q fun v H1 d M1 r1 m1 gg1 q1 => ?_
  refine g1 ds σ H1 M1 _ _ (s.gg m gg1) m1 q1 fun l H2 M2 m2 gg2 q2 => ?_
  refine g2 ds σ H2 M2 _ _ (s.gg m (gg1.trans gg2)) m2 q2 fun u H3 M3 m3 gg3 q3 => ?_
  exact lift_sl v d l u H3 M3 Q Q0 (VR.mono ((gg2.trans gg3).tx m1) _ _ r1) m3 q3 fun w H4 f M4 r4 m4 gg4 q4 => k w H4 f M4 r4 m4 (((gg1.trans gg2).trans gg3).trans gg4) q4
end

/-! ### t[::-1] -/
section
open PySem.Builtin.Slice
variable {prog : Program} {w : World} {A : Around} {E : Value → Shared → Prop} {s : Shared}
theorem slice_back {sl : Addr} {vl vu vs : Value} {n : Nat} {Q : Int × Int × Nat → Shared → Prop} (hs : s.heap.IsSliceOf sl vl vu vs) (pl : IsPart vl none) (pu : IsPart vu none) (ps : IsPart vs (some (-1)))
    (h : Q ((n : Int) - 1, -1, n) s) : wpAny (model prog w) A (sliceApplied (.ref sl) (pure (n : Int))) Q E s := by
  obtain ⟨os, hos, hcs, hds⟩ := id hs
  unfold sliceApplied sliceFields
  refine wpAny_bind (wpAny_bind (wpAny_field hos hds (x := vl) rfl (wpAny_bind (wpAny_field hos hds (x := vu) rfl (wpAny_bind (wpAny_field hos hds (x := vs) rfl (wpAny_pure ?_)))))))
  refine wpAny_bind (HT.slicePart_ ps ?_)
  show wpAny _ _ (if ((-1 : Int) == 0) = true then _ else _) _ _ s
  rw [if_neg (by decide)]
  refine wpAny_bind (HT.slicePart_ pl (wpAny_bind (HT.slicePart_ pu (wpAny_bind (wpAny_pure ?_)))))
  have e1 : sliceAdjust none none (-1) (n : Int) = ((n : Int) - 1, -1) := by
    unfold sliceAdjust
    simp
  show wpAny _ _ (match sliceAdjust none none (-1) (n : Int) with | (lo, hi) => pure (lo, (-1 : Int), slicePlaces lo hi (-1))) _ _ s
  rw [e1]
  have e2 : slicePlaces ((n : Int) - 1) (-1) (-1) = n := by
    unfold slicePlaces
    have h1 : ¬ ((-1 : Int) > 0) := by decide
    simp only [h1, if_false]
    by_cases h0 : (n : Int) - 1 > -1
    · simp only [h0, if_true]
      rw [show (-(-1) : Int) = 1 by decide, Int.ediv_one]
      omega
    · simp only [h0, if_false]
      omega
  show wpAny _ _ (pure ((n : Int) - 1, (-1 : Int), slicePlaces ((n : Int) - 1) (-1) (-1))) _ _ s
  rw [e2]
  exact wpAny_pure h
theorem fm_congr {α β : Type} (f g : α → Option β) : ∀ (l : List α), (∀ a ∈ l, f a = g a) → l.filterMap f = l.filterMap g
  | [], _ => rfl
  | a :: l, h => by
    rw [List.filterMap_cons, List.filterMap_cons, h a List.mem_cons_self, fm_congr f g l fun b hb => h b (List.mem_cons_of_mem _ hb)]
theorem pick_back (xs : Array Value) : ((List.range xs.size).filterMap fun (m : Nat) => xs[((xs.size : Int) - 1 + (m : Int) * -1).toNat]?).toArray = xs.toList.reverse.toArray := by
  have h := PySem.W.krv_all xs
  have e : (List.range xs.size).filterMap (fun (m : Nat) => xs[((xs.size : Int) - 1 + (m : Int) * -1).toNat]?) = ((List.range xs.size).map fun k => xs.size - 1 - k).filterMap (xs[·]?) := by
    rw [List.filterMap_map]
    refine fm_congr _ _ _ fun m hm => ?_
    show xs[_]? = xs[xs.size - 1 - m]?
    have := List.mem_range.mp hm
    rw [show ((xs.size : Int) - 1 + (m : Int) * -1).toNat = xs.size - 1 - m by omega]
  rw [e, PySem.W.krv_range, List.filterMap_reverse, h]
open PyProof.Rows in
theorem getItem_tuple_back {t sl : Addr} {items : Array Value} {vl vu vs : Value} {Q : Value → Shared → Prop} (ht : IsTup s.heap t items) (hs : s.heap.IsSliceOf sl vl vu vs) (pl : IsPart vl none) (pu : IsPart vu none) (ps : IsPart vs (some (-1)))
    (h : Q (.ref s.heap.objs.size) { s with heap := s.heap.push { cls := .type "tuple", data := .seq items.toList.reverse.toArray } })
    (hsz : items.size ≤ sizeLine) : wpAny (model prog w) A (getItem (.ref t) (.ref sl)) Q E s := by
  have htake : sizeOk (.seq items.toList.reverse.toArray) := by
    show items.toList.reverse.toArray.size ≤ sizeLine
    rw [List.size_toArray, List.length_reverse, Array.length_toList]
    exact hsz
  obtain ⟨os, hos, hcs, hds⟩ := id hs
  have hTs : s.TypeIs (.ref sl) "slice" := ⟨os, hos, hcs⟩
  unfold getItem
  try with_reducible refine wpAny_holding ?_
  first | refine wpAny_bind (wpAny_pure ?_) | skip
  refine wpAny_bind (wpAny_sequenceKey ht.typeIs (by decide) ?_)
  refine wpAny_bind (wpAny_callSpecial?_slot (name := Str.ofString "__getitem__") ht.typeIs PyProof.Rows.slot_tuple_getitem
    (wpAny_call_entry PyProof.Rows.slot_tuple_getitem ht.typeIs entry_tuple_getitem ?_ (args_tuple_getitem _ _)))
  show wpAny _ _ (Builtin.Tuple.tupleItemsOf (.ref t) >>= _) _ _ s
  refine wpAny_bind (tupleItemsOf_ ht ?_)
  refine wpAny_bind (wpAny_typeOf hTs ?_)
  rw [if_pos (by decide)]
  refine wpAny_bind (slice_back hs pl pu ps ?_)
  have hno : ¬ ((((items.size : Int) - 1) == 0 && (-1 : Int) == 1 && items.size == items.size) = true) := by
    intro q
    rw [Bool.and_eq_true, Bool.and_eq_true] at q
    exact absurd q.1.2 (by decide)
  show wpAny _ _ (if (((items.size : Int) - 1) == 0 && (-1 : Int) == 1 && items.size == items.size) = true then _ else _) _ _ s
  rw [if_neg hno, pick_back]
  first
    | exact wpAny_bind (m := Builtin.Tuple.tupleExact _) (wpAny_newObj_type (wpAny_pure ⟨_, rfl, wpAny_pure h⟩) htake)
    | exact wpAny_bind (m := Builtin.Tuple.tupleExact _) (wpAny_newObj_type (wpAny_bind (wpAny_pure (wpAny_pure ⟨_, rfl, wpAny_pure h⟩))) htake)
    | exact wpAny_bind (wpAny_bind (m := Builtin.Tuple.tupleExact _) (wpAny_newObj_type (wpAny_pure (wpAny_pure ⟨_, rfl, wpAny_pure h⟩)) htake))
    | exact wpAny_bind (wpAny_bind (m := Builtin.Tuple.tupleExact _) (wpAny_newObj_type (wpAny_pure ⟨_, rfl, wpAny_pure h⟩) htake))
end
section
variable {X : Cx} {e : Expr} {te : TDE} {k : Nat} {p1 p2 p3 pos : Pos}
def revR (x : D) (M : Mm) (Q : DQ) : Prop := match x with
  | .tup xs => Q (.tup xs.reverse) M
  | .ref a => (match lstOf M a with | some xs => ∀ p, M p = none → Q (.ref p) (mup M p (.lst xs.reverse)) | none => False)
  | _ => False
def dRev (te : TDE) : TDE := fun ds M Q => te ds M fun x M1 => revR x M1 Q
def tRevA (K : PySem.W.Frag) (te : TE) : TE := fun σ H Q => te σ H fun x H1 => (∃ a xs, x = .ref a ∧ SqL K H1 a xs ∧ ∀ p, H1 p = none → Q (.ref p) (upd H1 p (.lst xs.reverse))) ∨ ∃ a xs, x = .ref a ∧ SqT K H1 a xs ∧ ∀ p, H1 p = none → Q (.ref p) (upd H1 p (.tup xs.reverse))
theorem pe_revA {e : Expr} {te : TE} (he : PE X e te) : PE X (.Subscript e (.Slice none none (some (.UnaryOp .USub (.Constant (.int 1) k p1) p2)) p3) pos) (tRevA X.K te) := by
  refine ⟨fun pins s σ H Q I h => ?_⟩
  refine PyProof.Rows.Subscript_ (thn (he.run pins s σ H _ I h) fun v s1 ⟨x, H1, I1, r1, q1⟩ => ?_)
  have hst : PO X (some (.UnaryOp .USub (.Constant (.int 1) k p1) p2)) (tPart (tUn (rU fun i => .int (-i)) (tC (.int 1)))) := po_some (pe_un un_neg pe_int)
  refine wpAny_Slice (thn (po_none.run pins s1 σ H1 (fun o H2 => o = none ∧ H2 = H1) I1 ⟨rfl, rfl⟩) fun vl s2 ⟨l, H2, I2, pl, el, e2⟩ => ?_)
  subst el e2
  refine thn (po_none.run pins s2 σ H2 (fun o H3 => o = none ∧ H3 = H2) I2 ⟨rfl, rfl⟩) fun vu s3 ⟨u, H3, I3, pu, eu, e3⟩ => ?_
  subst eu e3
  refine thn (hst.run pins s3 σ H3 (fun o H4 => o = some (-1) ∧ H4 = H3) I3 ⟨1, rfl, -1, rfl, rfl, rfl⟩) fun vs s4 ⟨o, H4, I4, ps, eo, e4⟩ => ?_
  subst eo e4
  have I5 : Inv X pins σ H4 { s4 with heap := s4.heap.push { cls := .type "slice", data := .fields #[vl, vu, vs] } } := I4.kept (t' := s4.toks) fun b ob q => Heap.get?_push_of_some _ q
  rcases q1 with ⟨a, xs, ex, hx, q⟩ | ⟨a, xs, ex, hx, q⟩
  · subst ex
    cases r1
    obtain ⟨its, r, ht, hz⟩ := I5.list hx
    have hlen := r.length
    show wpAny (model X.prog X.w) X.A (PyProof.Rows.subscriptTail e (.Slice none none (some (.UnaryOp .USub (.Constant (.int 1) k p1) p2)) p3) (.ref a) (.ref s4.heap.objs.size)) (EP X pins σ Q) X.xe { s4 with heap := s4.heap.push { cls := .type "slice", data := .fields #[vl, vu, vs] } }
    refine PyProof.Rows.tail_any (ops := [.ref a, .ref s4.heap.objs.size]) ht.isList.typeIs (PySem.slot_list_getitem.lookup) ?_ (by with_unfolding_all rfl)
    refine wpAny_getItem_list_slice ht.isList (Heap.IsSliceOf.new _ vl vu vs) pl pu ps (by decide) ?_ (by rw [List.size_toArray]; omega)
    rw [PySem.W.krv_pick]
    refine ⟨.ref _, _, I5.laid (t' := s4.toks) (o := .lst xs.reverse) (fun b ob q => Heap.get?_push_of_some _ q) (Nat.le_refl _) ?_, rfl, q _ (I5.hok.fresh (Nat.le_refl _))⟩
    exact ⟨by rw [List.length_reverse]; exact hz, _, 0, r.reverse, Heap.get?_push_size _ rfl⟩
  · subst ex
    cases r1
    obtain ⟨its, r, ht, hz⟩ := I5.tuple hx
    have hlen := r.length
    show wpAny (model X.prog X.w) X.A (PyProof.Rows.subscriptTail e (.Slice none none (some (.UnaryOp .USub (.Constant (.int 1) k p1) p2)) p3) (.ref a) (.ref s4.heap.objs.size)) (EP X pins σ Q) X.xe { s4 with heap := s4.heap.push { cls := .type "slice", data := .fields #[vl, vu, vs] } }
    refine PyProof.Rows.tail_any (ops := [.ref a, .ref s4.heap.objs.size]) ht.typeIs (PyProof.Rows.slot_tuple_getitem.lookup) ?_ (by with_unfolding_all rfl)
    refine getItem_tuple_back ht (Heap.IsSliceOf.new _ vl vu vs) pl pu ps ?_ (by rw [List.size_toArray]; omega)
    refine ⟨.ref _, _, I5.laid (t' := s4.toks) (o := .tup xs.reverse) (fun b ob q => Heap.get?_push_of_some _ q) (Nat.le_refl _) ?_, rfl, q _ (I5.hok.fresh (Nat.le_refl _))⟩
    exact ⟨by rw [List.length_reverse]; exact hz, _, by simpa using r.reverse, PyProof.Rows.IsTup.new _ _⟩
theorem je_rev (he : JE X e te) : JE X (.Subscript e (.Slice none none (some (.UnaryOp .USub (.Constant (.int 1) k p1) p2)) p3) pos) (dRev te) := by
  obtain ⟨u, p, g⟩ := he
  refine je_pe (pe_revA p) fun ds σ H M Q Q0 s m q kk => ?_
  refine g ds σ H M _ _ s m q fun v H1 d M1 r1 m1 gg1 q1 => ?_
  cases d with
  | tup xs =>
    obtain ⟨a, vs, rfl, sa, ra⟩ := r1.tup_v
    refine .inr ⟨a, vs, rfl, sa, fun p hp => ?_⟩
    exact kk _ _ _ M1 (.tup (SqT.of upd_same) (VRs.mono (TX.new hp) _ _ ra.reverse)) (m1.newT hp) (gg1.trans (GG.newT hp)) q1
  | ref a =>
    cases r1.ref_v
    unfold revR at q1
    simp only at q1
    split at q1
    · rename_i xs e
      obtain ⟨vs, h1, r2⟩ := m1 a _ (of_lstOf e)
      refine .inl ⟨a, vs, rfl, SqL.of h1, fun p hp => ?_⟩
      exact kk _ _ _ _ (.ref p) (m1.new (w := .lst xs.reverse) hp ⟨_, upd_same, VRs.mono (TX.new hp) _ _ r2.reverse⟩) (gg1.trans (GG.new hp)) (q1 p (m1.free hp))
    · exact q1.elim
  | _ => exact q1.elim
end
end DL

namespace DL
open PySem L2
open PyProof.Rows (b2i)

/-! ### targets -/
abbrev TDG := D → DSt → Mm → (DSt → Mm → Prop) → Prop
abbrev TDGs := List D → DSt → Mm → (DSt → Mm → Prop) → Prop
structure JG (X : Cx) (target : Expr) (t : TDG) : Prop where
  go : ∃ t0, PG X target t0 ∧ ∀ (d : D) (v : V) (ds : DSt) (σ : L2.St) (H : Hp) (M : Mm) (Q : DSt → Mm → Prop) (Q0 : L2.St → Hp → Prop), VR X.K H d v → SR X.K H ds σ → MR X.K M H → t d ds M Q →
    (∀ ds' σ' H' M', SR X.K H' ds' σ' → MR X.K M' H' → GG M H M' H' → Q ds' M' → Q0 σ' H') → t0 v σ H Q0
structure JGs (X : Cx) (ts : List Expr) (t : TDGs) : Prop where
  go : ∃ t0, PGs X ts t0 ∧ ∀ (es : List D) (vs : List V) (ds : DSt) (σ : L2.St) (H : Hp) (M : Mm) (Q : DSt → Mm → Prop) (Q0 : L2.St → Hp → Prop), VRs X.K H es vs → SR X.K H ds σ → MR X.K M H → t es ds M Q →
    (∀ ds' σ' H' M', SR X.K H' ds' σ' → MR X.K M' H' → GG M H M' H' → Q ds' M' → Q0 σ' H') → t0 vs σ H Q0
def dgName (i : Nat) : TDG := fun d ds M Q => Q (ds.set i (some d)) M
def dgNil : TDGs := fun es ds M Q => match es with | [] => Q ds M | _ => False
def dgCons (t : TDG) (u : TDGs) : TDGs := fun es ds M Q => match es with | d :: r => t d ds M fun ds' M' => u r ds' M' Q | [] => False
def dgTup (n : Nat) (t : TDGs) : TDG := fun d ds M Q => match d with | .tup xs => xs.length = n ∧ t xs ds M Q | _ => False
section
variable {X : Cx} {pos : Pos}
theorem jg_name {i : Nat} {x : Str} (hN : X.N.Nodup) (hi : X.N[i]? = some x := by rfl) (hx : Loc X.env.scope x := by first | exact Or.inl rfl | exact Or.inr rfl) (hf : X.fn x = true ∨ X.env.scope.names.lookup x = some .local := by first | exact .inl rfl | exact .inr rfl | assumption) : JG X (.Name x pos) (dgName i) :=
  ⟨_, pg_name hN hi hx hf, fun d v ds σ H M Q Q0 r s m q k => k _ _ H M (s.set r i) m GG.refl q⟩
theorem jgs_nil : JGs X [] dgNil := ⟨_, pgs_nil, fun es vs ds σ H M Q Q0 r s m q k => by
  cases r with
  | nil => exact ⟨rfl, k ds σ H M s m GG.refl q⟩
  | cons _ _ => exact q.elim⟩
theorem jgs_cons {e : Expr} {es : List Expr} {t : TDG} {u : TDGs} (h1 : JG X e t) (h2 : JGs X es u)
    (hs : (assignEach (e :: es) X.env).map (·.2) = assign e X.env :: (assignEach es X.env).map (·.2) := by rfl) : JGs X (e :: es) (dgCons t u) := by
  obtain ⟨t0, p, g⟩ := h1
  obtain ⟨u0, p', g'⟩ := h2
  refine ⟨_, pgs_cons p p' hs, fun es vs ds σ H M Q Q0 r s m q k => ?_⟩
  cases r with
  | nil => exact q.elim
  | cons r1 r2 =>
    refine ⟨_, _, rfl, ?_⟩
    refine g _ _ ds σ H M _ _ r1 s m q fun ds' σ' H' M' s' m' gg q' => ?_
    exact g' _ _ ds' σ' H' M' _ _ (VRs.mono (gg.tx m) _ _ r2) s' m' q' fun ds2 σ2 H2 M2 s2 m2 gg2 q2 => k ds2 σ2 H2 M2 s2 m2 (gg.trans gg2) q2
theorem jg_tup {es : List Expr} {k : Nat} {t : TDGs} {n : Nat} (hc : X.calm = true) (h : JGs X es t)
    (hn : (assignEach es X.env).length = n := by rfl) (hst : (assignEach es X.env).findIdx? (·.1) = none := by rfl) : JG X (.Tuple es k pos) (dgTup n t) := by
  obtain ⟨t0, p, g⟩ := h
  refine ⟨_, pg_tup hc p hn hst, fun d v ds σ H M Q Q0 r s m q k => ?_⟩
  cases d with
  | tup xs =>
    obtain ⟨a, vs, rfl, sa, ra⟩ := r.tup_v
    obtain ⟨hl, q⟩ := q
    exact ⟨a, vs, rfl, sa, by rw [← ra.length]; exact hl, g xs vs ds σ H M Q Q0 ra s m q k⟩
  | _ => exact q.elim
end

/-! ### list-valued expressions: a list of its own -/
abbrev TDL := DSt → Mm → (List D → Mm → Prop) → Prop
structure JL (X : Cx) (e : Expr) (t : TDL) : Prop where
  go : ∃ t0, PE X e t0 ∧ ∀ (ds : DSt) (σ : L2.St) (H : Hp) (M : Mm) (Q : List D → Mm → Prop) (Q0 : VK), SR X.K H ds σ → MR X.K M H → t ds M Q →
    (∀ p H' xs vs M', H p = none → H' p = some (.lst vs) → VRs X.K H' xs vs → M' p = none → MR X.K M' H' → GG M H M' H' → Q xs M' → Q0 (.ref p) H') → t0 σ H Q0
def dFresh (t : TDL) : TDE := fun ds M Q => t ds M fun xs M1 => ∀ p, M1 p = none → Q (.ref p) (mup M1 p (.lst xs))
theorem MR.known {K : PySem.W.Frag} {M : Mm} {H : Hp} {p : Addr} {vs : List V} {xs : List D} (m : MR K M H) (h : H p = some (.lst vs)) (r : VRs K H xs vs) : MR K (mup M p (.lst xs)) H := fun b o e => by
  by_cases hb : b = p
  · subst hb
    rw [mup_same] at e
    cases e
    exact ⟨vs, h, r⟩
  · rw [mup_ne hb] at e
    exact m b o e
theorem GG.known {M M' : Mm} {H H' : Hp} {p : Addr} {o : MO} (g : GG M H M' H') (h : H p = none) : GG M H (mup M' p o) H' := by
  refine ⟨fun a u e n => ?_, g.al⟩
  obtain ⟨h1, n1⟩ := g.fr a u e n
  refine ⟨h1, ?_⟩
  rw [mup_ne]
  · exact n1
  · rintro rfl
    rw [h] at e
    cases e
section
variable {X : Cx} {e : Expr} {t : TDL}
theorem je_fresh (h : JL X e t) : JE X e (dFresh t) := by
  obtain ⟨u, p, g⟩ := h
  refine je_pe p fun ds σ H M Q Q0 s m q k => ?_
  refine g ds σ H M _ _ s m q fun p H' xs vs M' hp hp' r n m' gg q' => ?_
  exact k _ H' _ _ (.ref p) (m'.known hp' r) (gg.known hp) (q' p n)
/-- [a, b, ..] -/
def dDisp (t : TDA) : TDL := fun ds M Q => t ds M fun xs M1 => xs.length ≤ sizeLine ∧ Q xs M1
theorem jl_disp {es : List Expr} {pos : Pos} {t : TDA} (h : JA X es t) : JL X (.List es pos) (dDisp t) := by
  obtain ⟨t0, p, g⟩ := h
  refine ⟨_, pe_lst p, fun ds σ H M Q Q0 s m q k => ?_⟩
  refine g ds σ H M _ _ s m q fun vs H1 es M1 r1 m1 g1 q1 => ⟨by rw [← r1.length]; exact q1.1, fun a ha => ?_⟩
  have hH : H a = none := g1.free ha
  exact k a _ _ vs M1 hH upd_same (VRs.mono (TX.new ha) _ _ r1) (m1.free ha) (m1.newT ha) (g1.trans (GG.newT ha)) q1.2
end
/-! ### what is walked -/
structure DIt where
  xs : List D
  ok : Mm → Prop := fun _ => True
/-- the walk below yields these items, as long as ok holds; M1, H1: as it began -/
structure ItOk (K : PySem.W.Frag) (J : It) (it : DIt) (M1 : Mm) (H1 : Hp) : Prop where
  go : ∀ (i : Nat) (d : D) (M : Mm) (H : Hp), GG M1 H1 M H → MR K M H → it.ok M → it.xs[i]? = some d → J.go i H
  yld : ∀ (i : Nat) (d : D) (M : Mm) (H : Hp) (x : V) (H' : Hp), GG M1 H1 M H → MR K M H → it.ok M → it.xs[i]? = some d → J.yld i H x H' → VR K H' d x ∧ MR K M H' ∧ GG M H M H'
  stop : ∀ (M : Mm) (H : Hp), GG M1 H1 M H → MR K M H → it.ok M → J.stop it.xs.length H
abbrev TDI := DSt → Mm → (DIt → Mm → Prop) → Prop
structure JI (X : Cx) (tg iter : Expr) (t : TDI) : Prop where
  go : ∃ wi, PI X tg iter wi ∧ ∀ (ds : DSt) (σ : L2.St) (H : Hp) (M : Mm) (Q : DIt → Mm → Prop) (R0 : It → Hp → Prop), SR X.K H ds σ → MR X.K M H → t ds M Q →
    (∀ J H' it M', ItOk X.K J it M' H' → MR X.K M' H' → GG M H M' H' → Q it M' → R0 J H') → wi σ H R0
section
variable {K : PySem.W.Frag} {M M' : Mm} {H H' : Hp}
/-- a list that the store knows -/
theorem it_lst {a : Addr} {xs : List D} : ItOk K (Itl K a) ⟨xs, fun M => lstOf M a = some xs⟩ M H where
  go := fun i d M2 H2 g m ok e => by
    obtain ⟨vs, h1, r1⟩ := m a _ (of_lstOf ok)
    obtain ⟨v, e1, _⟩ := r1.get e
    exact ⟨vs, v, SqL.of h1, e1⟩
  yld := fun i d M2 H2 x H3 g m ok e y => by
    obtain ⟨vs, h1, r1⟩ := m a _ (of_lstOf ok)
    obtain ⟨v, e1, r⟩ := r1.get e
    obtain ⟨eH, y⟩ := y
    subst eH
    have := y vs (SqL.of h1)
    rw [e1] at this
    cases this
    exact ⟨r, m, GG.refl⟩
  stop := fun M2 H2 g m ok => by
    obtain ⟨vs, h1, r1⟩ := m a _ (of_lstOf ok)
    exact ⟨vs, SqL.of h1, by rw [← r1.length]; exact Nat.le_refl _⟩
/-- a list of its own, that the store doesn't know -/
theorem it_own {a : Addr} {xs : List D} {vs : List V} (h1 : H a = some (.lst vs)) (r1 : VRs K H xs vs) (n : M a = none) (m0 : MR K M H) : ItOk K (Itl K a) ⟨xs, fun _ => True⟩ M H where
  go := fun i d M2 H2 g m _ e => by
    obtain ⟨v, e1, _⟩ := r1.get e
    exact ⟨vs, v, SqL.of (g.fr a _ h1 n).1, e1⟩
  yld := fun i d M2 H2 x H3 g m _ e y => by
    obtain ⟨v, e1, r⟩ := r1.get e
    obtain ⟨eH, y⟩ := y
    subst eH
    have := y vs (SqL.of (g.fr a _ h1 n).1)
    rw [e1] at this
    cases this
    exact ⟨VR.mono (g.tx m0) _ _ r, m, GG.refl⟩
  stop := fun M2 H2 g m _ => ⟨vs, SqL.of (g.fr a _ h1 n).1, by rw [← r1.length]; exact Nat.le_refl _⟩
theorem it_tup {a : Addr} {xs : List D} {vs : List V} (h1 : SqT K H a vs) (r1 : VRs K H xs vs) (m0 : MR K M H) : ItOk K (Itt K a) ⟨xs, fun _ => True⟩ M H where
  go := fun i d M2 H2 g m _ e => by
    obtain ⟨v, e1, _⟩ := r1.get e
    exact ⟨vs, v, g.tx m0 _ _ h1, e1⟩
  yld := fun i d M2 H2 x H3 g m _ e y => by
    obtain ⟨v, e1, r⟩ := r1.get e
    obtain ⟨eH, y⟩ := y
    subst eH
    have := y vs (g.tx m0 _ _ h1)
    rw [e1] at this
    cases this
    exact ⟨VR.mono (g.tx m0) _ _ r, m, GG.refl⟩
  stop := fun M2 H2 g m _ => ⟨vs, g.tx m0 _ _ h1, by rw [← r1.length]; exact Nat.le_refl _⟩
def rangeD (lo : Int) (n : Nat) : List D := (List.range n).map fun (i : Nat) => D.int (lo + (i : Int))
theorem rangeD_get {lo : Int} {n i : Nat} {d : D} (h : (rangeD lo n)[i]? = some d) : i < n ∧ d = .int (lo + (i : Int)) := by
  unfold rangeD at h
  rw [List.getElem?_map] at h
  obtain ⟨j, h1, h2⟩ := Option.map_eq_some_iff.mp h
  rw [List.getElem?_range (by
    rcases Nat.lt_or_ge i n with q | q
    · exact q
    · rw [List.getElem?_eq_none (by simpa using q)] at h1; cases h1)] at h1
  cases h1
  refine ⟨?_, h2.symm⟩
  rcases Nat.lt_or_ge i n with q | q
  · exact q
  · rw [List.getElem?_eq_none (by simpa using q)] at h
    cases h
theorem it_rng {lo : Int} {n : Nat} : ItOk K (Itr lo n) ⟨rangeD lo n, fun _ => True⟩ M H where
  go := fun i d M2 H2 g m _ e => (rangeD_get e).1
  yld := fun i d M2 H2 x H3 g m _ e y => by
    obtain ⟨eH, y⟩ := y
    subst eH y
    rw [(rangeD_get e).2]
    exact ⟨.int _, m, GG.refl⟩
  stop := fun M2 H2 g m _ => by
    show n ≤ (rangeD lo n).length
    simp [rangeD]
/-- the signs of a text -/
def signs (z : Str) : List D := z.cps.toList.map fun c => .str ⟨#[c]⟩
theorem it_str {z : Str} : ItOk K (Its z) ⟨signs z, fun _ => True⟩ M H where
  go := fun i d M2 H2 g m _ e => by
    unfold signs at e
    rw [List.getElem?_map] at e
    obtain ⟨c, h1, _⟩ := Option.map_eq_some_iff.mp e
    have := (List.getElem?_eq_some_iff.mp h1).1
    show i < z.cps.size
    simpa using this
  yld := fun i d M2 H2 x H3 g m _ e y => by
    obtain ⟨eH, c, y1, y2⟩ := y
    subst eH y2
    unfold signs at e
    rw [List.getElem?_map] at e
    obtain ⟨c', h1, h2⟩ := Option.map_eq_some_iff.mp e
    rw [Array.getElem?_toList, y1] at h1
    cases h1
    subst h2
    exact ⟨.str _, m, GG.refl⟩
  stop := fun M2 H2 g m _ => by
    show z.cps.size ≤ (signs z).length
    simp [signs]
end
def seqI (x : D) (M : Mm) (Q : DIt → Mm → Prop) : Prop := match x with
  | .tup xs => Q ⟨xs, fun _ => True⟩ M
  | .ref a => (match lstOf M a with | some xs => Q ⟨xs, fun M' => lstOf M' a = some xs⟩ M | none => False)
  | _ => False
def diList (te : TDE) : TDI := fun ds M Q => te ds M fun x M1 => (match x with | .ref a => (match lstOf M1 a with | some xs => Q ⟨xs, fun M' => lstOf M' a = some xs⟩ M1 | none => False) | _ => False)
def diTup (te : TDE) : TDI := fun ds M Q => te ds M fun x M1 => (match x with | .tup xs => Q ⟨xs, fun _ => True⟩ M1 | _ => False)
def diStr (te : TDE) : TDI := fun ds M Q => te ds M fun x M1 => (match x with | .str z => Q ⟨signs z, fun _ => True⟩ M1 | _ => False)
def diOwn (t : TDL) : TDI := fun ds M Q => t ds M fun xs M1 => Q ⟨xs, fun _ => True⟩ M1
def inLine (i : Int) : Prop := -(2 ^ 62) ≤ i ∧ i < 2 ^ 62
def diRng1 (te : TDE) : TDI := fun ds M Q => te ds M fun x M1 => isI x fun j => inLine j ∧ Q ⟨rangeD 0 j.toNat, fun _ => True⟩ M1
def diRng2 (ta tb : TDE) : TDI := fun ds M Q => ta ds M fun x M1 => tb ds M1 fun y M2 => isI x fun i => isI y fun j => inLine i ∧ inLine j ∧ Q ⟨rangeD i (j - i).toNat, fun _ => True⟩ M2
section
variable {X : Cx} {tg e : Expr} {te : TDE}
theorem ji_list (h : JE X e te) : JI X tg e (diList te) := by
  obtain ⟨u, p, g⟩ := h
  refine ⟨_, pi_list p, fun ds σ H M Q R0 s m q k => ?_⟩
  refine g ds σ H M _ _ s m q fun v H1 d M1 r1 m1 g1 q1 => ?_
  cases d with
  | ref a =>
    cases r1.ref_v
    simp only at q1
    split at q1
    · rename_i xs e
      obtain ⟨vs, h1, r2⟩ := m1 a _ (of_lstOf e)
      exact ⟨a, rfl, ⟨vs, SqL.of h1⟩, k _ H1 _ M1 it_lst m1 g1 q1⟩
    · exact q1.elim
  | _ => exact q1.elim
theorem ji_tup (h : JE X e te) : JI X tg e (diTup te) := by
  obtain ⟨u, p, g⟩ := h
  refine ⟨_, pi_tup p, fun ds σ H M Q R0 s m q k => ?_⟩
  refine g ds σ H M _ _ s m q fun v H1 d M1 r1 m1 g1 q1 => ?_
  cases d with
  | tup xs =>
    obtain ⟨a, vs, rfl, sa, ra⟩ := r1.tup_v
    exact ⟨a, rfl, ⟨vs, sa⟩, k _ H1 _ M1 (it_tup sa ra m1) m1 g1 q1⟩
  | _ => exact q1.elim
theorem ji_str (h : JE X e te) : JI X tg e (diStr te) := by
  obtain ⟨u, p, g⟩ := h
  refine ⟨_, pi_str p, fun ds σ H M Q R0 s m q k => ?_⟩
  refine g ds σ H M _ _ s m q fun v H1 d M1 r1 m1 g1 q1 => ?_
  cases d with
  | str z =>
    cases r1.str_v
    exact ⟨z, rfl, k _ H1 _ M1 it_str m1 g1 q1⟩
  | _ => exact q1.elim
theorem ji_own {t : TDL} (h : JL X e t) : JI X tg e (diOwn t) := by
  obtain ⟨u, p, g⟩ := h
  refine ⟨_, pi_list p, fun ds σ H M Q R0 s m q k => ?_⟩
  refine g ds σ H M _ _ s m q fun a H1 xs vs M1 hp hp1 r1 n1 m1 g1 q1 => ?_
  exact ⟨a, rfl, ⟨vs, SqL.of hp1⟩, k _ H1 _ M1 (it_own hp1 r1 n1 m1) m1 g1 q1⟩
theorem ji_rng1 {p pos : Pos} (hg : Gl X "range") (hm : X.mg "range" = none) (h : JE X e te) (hs : starEach [e] X.env = [(false, eval e X.env)] := by rfl) (hs' : starEach (e :: []) X.env = (false, eval e X.env) :: starEach [] X.env := by rfl) :
    JI X tg (.Call (.Name "range" p) [e] [] pos) (diRng1 te) := by
  obtain ⟨u, q, g⟩ := h
  refine ⟨_, pi_range1 hg hm (pa_cons q pa_nil hs') hs, fun ds σ H M Q R0 s m q k => ?_⟩
  refine g ds σ H M _ _ s m q fun v H1 d M1 r1 m1 g1 q1 => ?_
  obtain ⟨j, rfl, ⟨l1, l2⟩, q1⟩ := isI_out r1 q1
  exact ⟨j, rfl, l1, l2, k _ H1 _ M1 it_rng m1 g1 q1⟩
theorem ji_rng2 {f : Expr} {tf : TDE} {p pos : Pos} (hg : Gl X "range") (hm : X.mg "range" = none) (h : JE X e te) (h' : JE X f tf) (hs : starEach [e, f] X.env = [(false, eval e X.env), (false, eval f X.env)] := by rfl)
    (hs2 : starEach [f] X.env = [(false, eval f X.env)] := by rfl) (hs3 : starEach [e, f] X.env = (false, eval e X.env) :: starEach [f] X.env := by rfl) (hs4 : starEach [f] X.env = (false, eval f X.env) :: starEach [] X.env := by rfl) :
    JI X tg (.Call (.Name "range" p) [e, f] [] pos) (diRng2 te tf) := by
  obtain ⟨u, q, g⟩ := h
  obtain ⟨u', q', g'⟩ := h'
  refine ⟨_, pi_range2 hg hm (pa_cons q (pa_cons q' pa_nil hs4) hs3) hs hs2, fun ds σ H M Q R0 s m q k => ?_⟩
  refine g ds σ H M _ _ s m q fun v H1 d M1 r1 m1 g1 q1 => ?_
  refine g' ds σ H1 M1 _ _ (s.gg m g1) m1 q1 fun w H2 d2 M2 r2 m2 g2 q2 => ?_
  obtain ⟨i, rfl, q2⟩ := isI_out r1 q2
  obtain ⟨j, rfl, ⟨l1, l2⟩, ⟨l3, l4⟩, q2⟩ := isI_out r2 q2
  exact ⟨i, j, rfl, ⟨l1, l2, l3, l4⟩, k _ H2 _ M2 it_rng m2 (g1.trans g2) q2⟩
end

/-! ### statements -/
def dNext : TDS := fun D ds M => D.nx ds M
def dSeq (t u : TDS) : TDS := fun D ds M => t { D with nx := u D } ds M
def dBreak : TDS := fun D ds M => D.bk ds M
def dCont : TDS := fun D ds M => D.ct ds M
def dDrop (te : TDE) : TDS := fun D ds M => te ds M fun _ M1 => D.nx ds M1
def dRet (te : TDE) : TDS := fun D ds M => te ds M D.rt
def dRetN : TDS := fun D _ M => D.rt .non M
def dIfS (c : TDT) (t u : TDS) : TDS := fun D ds M => c ds M fun b M1 => if b = true then t D ds M1 else u D ds M1
def dAsg (te : TDE) (g : TDG) : TDS := fun D ds M => te ds M fun x M1 => g x ds M1 D.nx
/-- through the items -/
def forW (ok : Mm → Prop) (g : TDG) (tb : TDS) (D : DEnds) : List DL.D → DSt → Mm → Prop
  | [], ds, M => ok M ∧ D.nx ds M
  | x :: r, ds, M => ok M ∧ g x ds M fun ds' M' => tb { D with nx := forW ok g tb D r, ct := forW ok g tb D r, bk := D.nx } ds' M'
def dFor (ti : TDI) (g : TDG) (tb : TDS) : TDS := fun D ds M => ti ds M fun it M1 => forW it.ok g tb D it.xs ds M1
def whileN (c : TDT) (tb : TDS) (D : DEnds) : Nat → DSt → Mm → Prop
  | 0, _, _ => False
  | n + 1, ds, M => c ds M fun b M1 => if b = true then tb { D with nx := whileN c tb D n, ct := whileN c tb D n, bk := D.nx } ds M1 else D.nx ds M1
def dWhile (c : TDT) (tb : TDS) : TDS := fun D ds M => ∃ n, whileN c tb D n ds M
section
variable {X : Cx} {st : Stmt} {rest : List Stmt} {t u : TDS} {e : Expr} {te : TDE} {pos : Pos}
theorem Link.with_nx {K : PySem.W.Frag} {M0 : Mm} {H0 : Hp} {D0 : Ends} {D1 : DEnds} (l : Link K M0 H0 D0 D1) {n0 : L2.St → Hp → Prop} {n1 : DSt → Mm → Prop}
    (h : ∀ σ ds H M, GG M0 H0 M H → SR K H ds σ → MR K M H → n1 ds M → n0 σ H) : Link K M0 H0 { D0 with nx := n0 } { D1 with nx := n1 } := ⟨h, l.rt, l.bk, l.ct⟩
theorem jb_nil : JB X [] dNext := ⟨_, pss_nil, fun M0 H0 D0 D1 l ds σ H M g s m q => l.nx σ ds H M g s m q⟩
theorem jb_cons (h1 : JS X st t) (h2 : JB X rest u) : JB X (st :: rest) (dSeq t u) := by
  obtain ⟨t0, p, g⟩ := h1
  obtain ⟨u0, p', g'⟩ := h2
  refine ⟨_, pss_cons p p', fun M0 H0 D0 D1 l ds σ H M gg s m q => ?_⟩
  exact g M0 H0 _ _ (l.with_nx fun σ' ds' H' M' g1 s1 m1 q1 => g' M0 H0 D0 D1 l ds' σ' H' M' g1 s1 m1 q1) ds σ H M gg s m q
theorem jb_one (h1 : JS X st t) : JB X [st] t := by
  obtain ⟨t0, p, g⟩ := h1
  exact ⟨_, pss_one p, g⟩
theorem js_pass : JS X (.Pass pos) dNext := ⟨_, ps_pass, fun M0 H0 D0 D1 l ds σ H M g s m q => l.nx σ ds H M g s m q⟩
theorem js_break : JS X (.Break pos) dBreak := ⟨_, ps_break, fun M0 H0 D0 D1 l ds σ H M g s m q => l.bk σ ds H M g s m q⟩
theorem js_continue : JS X (.Continue pos) dCont := ⟨_, ps_continue, fun M0 H0 D0 D1 l ds σ H M g s m q => l.ct σ ds H M g s m q⟩
theorem js_expr (he : JE X e te) (hs : swapsWith e none pos.line X.env = pure false := by rfl) : JS X (.Expr e pos) (dDrop te) := by
  obtain ⟨t0, p, g⟩ := he
  refine ⟨_, ps_expr p hs, fun M0 H0 D0 D1 l ds σ H M gg s m q => ?_⟩
  exact g ds σ H M _ _ s m q fun v H1 d M1 r1 m1 g1 q1 => l.nx σ ds H1 M1 (gg.trans g1) (s.gg m g1) m1 q1
theorem js_ret (he : JE X e te) : JS X (.Return (some e) pos) (dRet te) := by
  obtain ⟨t0, p, g⟩ := he
  refine ⟨_, ps_ret p, fun M0 H0 D0 D1 l ds σ H M gg s m q => ?_⟩
  exact g ds σ H M _ _ s m q fun v H1 d M1 r1 m1 g1 q1 => l.rt v d H1 M1 (gg.trans g1) r1 m1 q1
theorem js_retN : JS X (.Return none pos) dRetN := ⟨_, ps_retN, fun M0 H0 D0 D1 l ds σ H M g s m q => l.rt _ _ H M g .non m q⟩
theorem js_if {c : Expr} {a b : List Stmt} {tc : TDT} (hc : JT X c tc) (ha : JB X a t) (hb : JB X b u) : JS X (.If c a b pos) (dIfS tc t u) := by
  obtain ⟨t0, p, g⟩ := hc
  obtain ⟨t1, p1, g1⟩ := ha
  obtain ⟨t2, p2, g2⟩ := hb
  refine ⟨_, ps_if p p1 p2, fun M0 H0 D0 D1 l ds σ H M gg s m q => ?_⟩
  refine g ds σ H M _ _ s m q fun b H1 M1 m1 gg1 q1 => ?_
  cases b with
  | true => exact g1 M0 H0 D0 D1 l ds σ H1 M1 (gg.trans gg1) (s.gg m gg1) m1 q1
  | false => exact g2 M0 H0 D0 D1 l ds σ H1 M1 (gg.trans gg1) (s.gg m gg1) m1 q1
/-- target = value -/
theorem js_asg {tg : Expr} {g : TDG} (he : JE X e te) (hg : JG X tg g) (hs : swapsWithSole [tg] e pos.line X.env = pure false := by rfl) (hw : swappedStores [tg] e X.env = pure none := by rfl)
    (h1 : (assignEach [tg] X.env).map (·.2) = [assign tg X.env] := by rfl) : JS X (.Assign [tg] e pos) (dAsg te g) := by
  obtain ⟨t0, p, ge⟩ := he
  obtain ⟨g0, p', gg'⟩ := hg
  refine ⟨_, ps_asg p p' hs hw h1, fun M0 H0 D0 D1 l ds σ H M gg s m q => ?_⟩
  refine ge ds σ H M _ _ s m q fun v H1 d M1 r1 m1 g1 q1 => ?_
  exact gg' d v ds σ H1 M1 _ _ r1 (s.gg m g1) m1 q1 fun ds' σ' H' M' s' m' g2 q2 => l.nx σ' ds' H' M' ((gg.trans g1).trans g2) s' m' q2
/-- name = value -/
theorem js_set {i : Nat} {x : Str} {pos' : Pos} (hN : X.N.Nodup) (he : JE X e te) (hi : X.N[i]? = some x := by rfl) (hx : Loc X.env.scope x := by first | exact Or.inl rfl | exact Or.inr rfl) (hs : swapsWith e (some (.Name x pos')) pos.line X.env = pure false := by rfl) (hf : X.fn x = true ∨ X.env.scope.names.lookup x = some .local := by first | exact .inl rfl | exact .inr rfl | assumption) :
    JS X (.Assign [.Name x pos'] e pos) (dAsg te (dgName i)) := by
  obtain ⟨t0, p, ge⟩ := he
  refine ⟨_, ps_set hN hi hx p hs hf, fun M0 H0 D0 D1 l ds σ H M gg s m q => ?_⟩
  refine ge ds σ H M _ _ s m q fun v H1 d M1 r1 m1 g1 q1 => ?_
  exact l.nx _ _ H1 M1 (gg.trans g1) ((s.gg m g1).set r1 i) m1 q1
theorem js_for {tg iter : Expr} {body : List Stmt} {ti : TDI} {g : TDG} {tb : TDS} (hp : PassesOwn (model X.prog X.w) X.A X.env X.xe) (hc : X.calm = true) (hi : JI X tg iter ti) (hg : JG X tg g) (hb : JB X body tb)
    (hs : ∀ x, foldedSetIterable iter X.env x = pure x := by intro _; rfl) : JS X (.For tg iter body [] pos) (dFor ti g tb) := by
  obtain ⟨wi, p, gi⟩ := hi
  obtain ⟨g0, pg, gg⟩ := hg
  obtain ⟨b0, pb, gb⟩ := hb
  refine ⟨_, ps_for hp hc p pg pb hs, fun M0 H0 D0 D1 l ds σ H M gg0 s m q => ?_⟩
  refine gi ds σ H M _ _ s m q fun J H1 it M1 io m1 g1 q1 => ?_
  refine ⟨fun i n σ2 H2 => n = it.xs.length - i ∧ i ≤ it.xs.length ∧ ∃ ds2 M2, GG M1 H1 M2 H2 ∧ GG M0 H0 M2 H2 ∧ SR X.K H2 ds2 σ2 ∧ MR X.K M2 H2 ∧ forW it.ok g tb D1 (it.xs.drop i) ds2 M2,
    ⟨_, rfl, Nat.zero_le _, ds, M1, GG.refl, gg0.trans g1, s.gg m g1, m1, by simpa using q1⟩, ?_⟩
  rintro i n σ2 H2 ⟨rfl, hi, ds2, M2, ga, gb2, s2, m2, q2⟩
  by_cases hlt : i < it.xs.length
  · have e : it.xs.drop i = it.xs[i] :: it.xs.drop (i + 1) := List.drop_eq_getElem_cons hlt
    rw [e] at q2
    obtain ⟨ok, q2⟩ := q2
    have ei : it.xs[i]? = some it.xs[i] := List.getElem?_eq_getElem hlt
    refine .inr ⟨io.go i _ M2 H2 ga m2 ok ei, fun σ' H' => i + 1 ≤ it.xs.length ∧ ∃ ds' M', GG M1 H1 M' H' ∧ GG M0 H0 M' H' ∧ SR X.K H' ds' σ' ∧ MR X.K M' H' ∧ forW it.ok g tb D1 (it.xs.drop (i + 1)) ds' M',
      fun σ' H' h => ⟨it.xs.length - (i + 1), by omega, rfl, h.1, h.2⟩, fun x H' y => ?_⟩
    obtain ⟨r', m', g'⟩ := io.yld i _ M2 H2 x H' ga m2 ok ei y
    refine gg _ x ds2 σ2 H' M2 _ _ r' (s2.gg m2 g') m' q2 fun ds3 σ3 H3 M3 s3 m3 g3 q3 => ?_
    -- the body, seen from the loop's start
    have G1 : GG M1 H1 M3 H3 := (ga.trans g').trans g3
    have G0 : GG M0 H0 M3 H3 := (gb2.trans g').trans g3
    refine gb M3 H3 _ _ ⟨?_, ?_, ?_, ?_⟩ ds3 σ3 H3 M3 GG.refl s3 m3 q3
    · exact fun σ4 ds4 H4 M4 g4 s4 m4 q4 => ⟨hlt, ds4, M4, G1.trans g4, G0.trans g4, s4, m4, q4⟩
    · exact fun v d H4 M4 g4 r4 m4 q4 => l.rt v d H4 M4 (G0.trans g4) r4 m4 q4
    · exact fun σ4 ds4 H4 M4 g4 s4 m4 q4 => l.nx σ4 ds4 H4 M4 (G0.trans g4) s4 m4 q4
    · exact fun σ4 ds4 H4 M4 g4 s4 m4 q4 => ⟨hlt, ds4, M4, G1.trans g4, G0.trans g4, s4, m4, q4⟩
  · have e : i = it.xs.length := by omega
    subst e
    rw [List.drop_length] at q2
    exact .inl ⟨io.stop M2 H2 ga m2 q2.1, l.nx σ2 ds2 H2 M2 gb2 s2 m2 q2.2⟩
theorem js_while {c : Expr} {body : List Stmt} {tc : TDT} {tb : TDS} (hp : PassesOwn (model X.prog X.w) X.A X.env X.xe) (hc : JT X c tc) (hb : JB X body tb) : JS X (.While c body [] pos) (dWhile tc tb) := by
  obtain ⟨c0, pc, gc⟩ := hc
  obtain ⟨b0, pb, gb⟩ := hb
  refine ⟨_, ps_while hp pc pb, fun M0 H0 D0 D1 l ds σ H M gg0 s m q => ?_⟩
  obtain ⟨n0, q⟩ := q
  refine ⟨fun n σ2 H2 => ∃ ds2 M2, GG M0 H0 M2 H2 ∧ SR X.K H2 ds2 σ2 ∧ MR X.K M2 H2 ∧ whileN tc tb D1 n ds2 M2, ⟨n0, ds, M, gg0, s, m, q⟩, ?_⟩
  rintro n σ2 H2 ⟨ds2, M2, g2, s2, m2, q2⟩
  cases n with
  | zero => exact q2.elim
  | succ n =>
    refine gc ds2 σ2 H2 M2 _ _ s2 m2 q2 fun b H3 M3 m3 g3 q3 => ?_
    cases b with
    | false => exact l.nx σ2 ds2 H3 M3 (g2.trans g3) (s2.gg m2 g3) m3 q3
    | true =>
      refine ⟨fun σ' H' => ∃ ds' M', GG M0 H0 M' H' ∧ SR X.K H' ds' σ' ∧ MR X.K M' H' ∧ whileN tc tb D1 n ds' M', fun σ' H' h => ⟨n, Nat.lt_succ_self _, h⟩, ?_⟩
      refine gb M0 H0 _ _ ⟨?_, ?_, ?_, ?_⟩ ds2 σ2 H3 M3 (g2.trans g3) (s2.gg m2 g3) m3 q3
      · exact fun σ4 ds4 H4 M4 g4 s4 m4 q4 => ⟨ds4, M4, g4, s4, m4, q4⟩
      · exact fun v d H4 M4 g4 r4 m4 q4 => l.rt v d H4 M4 g4 r4 m4 q4
      · exact fun σ4 ds4 H4 M4 g4 s4 m4 q4 => l.nx σ4 ds4 H4 M4 g4 s4 m4 q4
      · exact fun σ4 ds4 H4 M4 g4 s4 m4 q4 => ⟨ds4, M4, g4, s4, m4, q4⟩
end
end DL

namespace DL
open PySem L2
open PyProof.Rows (b2i)

/-! ### comprehensions -/
def wipeD (ds : DSt) : List Nat → DSt
  | [] => ds
  | v :: vs => (wipeD ds vs).set v none
theorem SR.wipe {K : PySem.W.Frag} {H : Hp} {ds : DSt} {σ : L2.St} (s : SR K H ds σ) : ∀ vs : List Nat, SR K H (wipeD ds vs) (L2.wipe σ vs)
  | [] => s
  | v :: vs => (SR.wipe s vs).forget v
/-- a target that stores to the block's own names alone -/
structure JGv (X : Cx) (target : Expr) (vs : List Nat) (t : TDG) : Prop where
  go : ∃ t0, PG X target t0 ∧ ∀ (d : D) (v : V) (ds : DSt) (σ : L2.St) (H : Hp) (M : Mm) (Q : DSt → Mm → Prop) (Q0 : L2.St → Hp → Prop), VR X.K H d v → SR X.K H ds σ → MR X.K M H → t d ds M Q →
    (∀ ds' σ' H' M', L2.wipe σ' vs = L2.wipe σ vs → SR X.K H' ds' σ' → MR X.K M' H' → GG M H M' H' → Q ds' M' → Q0 σ' H') → t0 v σ H Q0
structure JGvs (X : Cx) (ts : List Expr) (vs : List Nat) (t : TDGs) : Prop where
  go : ∃ t0, PGs X ts t0 ∧ ∀ (es : List D) (us : List V) (ds : DSt) (σ : L2.St) (H : Hp) (M : Mm) (Q : DSt → Mm → Prop) (Q0 : L2.St → Hp → Prop), VRs X.K H es us → SR X.K H ds σ → MR X.K M H → t es ds M Q →
    (∀ ds' σ' H' M', L2.wipe σ' vs = L2.wipe σ vs → SR X.K H' ds' σ' → MR X.K M' H' → GG M H M' H' → Q ds' M' → Q0 σ' H') → t0 us σ H Q0
theorem wipe_set {i : Nat} {x : Option V} : ∀ {vs : List Nat} {σ : L2.St}, i ∈ vs → L2.wipe (σ.set i x) vs = L2.wipe σ vs
  | [], _, h => by cases h
  | v :: vs, σ, h => by
    show (L2.wipe (σ.set i x) vs).set v none = (L2.wipe σ vs).set v none
    by_cases hv : i ∈ vs
    · rw [wipe_set hv]
    · have e : i = v := by
        rcases List.mem_cons.mp h with e | e
        · exact e
        · exact absurd e hv
      subst e
      have comm : ∀ (ws : List Nat), i ∉ ws → L2.wipe (σ.set i x) ws = (L2.wipe σ ws).set i x := by
        intro ws
        induction ws with
        | nil => intro _; rfl
        | cons w ws ih =>
          intro hw
          show (L2.wipe (σ.set i x) ws).set w none = ((L2.wipe σ ws).set w none).set i x
          rw [ih fun z => hw (List.mem_cons_of_mem _ z), List.set_comm]
          intro z
          exact hw (by rw [z]; exact List.mem_cons_self)
      rw [comm vs hv, List.set_set]
section
variable {X : Cx} {pos : Pos}
theorem jgv_name {i : Nat} {x : Str} {vs : List Nat} (hN : X.N.Nodup) (hv : i ∈ vs) (hi : X.N[i]? = some x := by rfl) (hx : Loc X.env.scope x := by first | exact Or.inl rfl | exact Or.inr rfl) (hf : X.fn x = true ∨ X.env.scope.names.lookup x = some .local := by first | exact .inl rfl | exact .inr rfl | assumption) : JGv X (.Name x pos) vs (dgName i) :=
  ⟨_, pg_name hN hi hx hf, fun d v ds σ H M Q Q0 r s m q k => k _ _ H M (wipe_set hv) (s.set r i) m GG.refl q⟩
theorem jgvs_nil {vs : List Nat} : JGvs X [] vs dgNil := ⟨_, pgs_nil, fun es us ds σ H M Q Q0 r s m q k => by
  cases r with
  | nil => exact ⟨rfl, k ds σ H M rfl s m GG.refl q⟩
  | cons _ _ => exact q.elim⟩
theorem jgvs_cons {e : Expr} {es : List Expr} {vs : List Nat} {t : TDG} {u : TDGs} (h1 : JGv X e vs t) (h2 : JGvs X es vs u)
    (hs : (assignEach (e :: es) X.env).map (·.2) = assign e X.env :: (assignEach es X.env).map (·.2) := by rfl) : JGvs X (e :: es) vs (dgCons t u) := by
  obtain ⟨t0, p, g⟩ := h1
  obtain ⟨u0, p', g'⟩ := h2
  refine ⟨_, pgs_cons p p' hs, fun es us ds σ H M Q Q0 r s m q k => ?_⟩
  cases r with
  | nil => exact q.elim
  | cons r1 r2 =>
    refine ⟨_, _, rfl, ?_⟩
    refine g _ _ ds σ H M _ _ r1 s m q fun ds' σ' H' M' hw s' m' gg q' => ?_
    exact g' _ _ ds' σ' H' M' _ _ (VRs.mono (gg.tx m) _ _ r2) s' m' q' fun ds2 σ2 H2 M2 hw2 s2 m2 gg2 q2 => k ds2 σ2 H2 M2 (hw2.trans hw) s2 m2 (gg.trans gg2) q2
theorem jgv_tup {es : List Expr} {k : Nat} {t : TDGs} {n : Nat} {vs : List Nat} (hc : X.calm = true) (h : JGvs X es vs t)
    (hn : (assignEach es X.env).length = n := by rfl) (hst : (assignEach es X.env).findIdx? (·.1) = none := by rfl) : JGv X (.Tuple es k pos) vs (dgTup n t) := by
  obtain ⟨t0, p, g⟩ := h
  refine ⟨_, pg_tup hc p hn hst, fun d v ds σ H M Q Q0 r s m q k => ?_⟩
  cases d with
  | tup xs =>
    obtain ⟨a, us, rfl, sa, ra⟩ := r.tup_v
    obtain ⟨hl, q⟩ := q
    exact ⟨a, us, rfl, sa, by rw [← ra.length]; exact hl, g xs us ds σ H M Q Q0 ra s m q k⟩
  | _ => exact q.elim
/-- the tests of a comprehension -/
structure JTs (X : Cx) (ifs : List Expr) (t : TDT) : Prop where
  go : ∃ t0, PTs X ifs t0 ∧ ∀ (ds : DSt) (σ : L2.St) (H : Hp) (M : Mm) (Q : Bool → Mm → Prop) (Q0 : Bool → Hp → Prop), SR X.K H ds σ → MR X.K M H → t ds M Q →
    (∀ b H' M', MR X.K M' H' → GG M H M' H' → Q b M' → Q0 b H') → t0 σ H Q0
def dYes : TDT := fun _ M Q => Q true M
theorem jts_nil : JTs X [] dYes := ⟨_, pts_nil, fun ds σ H M Q Q0 s m q k => k true H M m GG.refl q⟩
theorem jts_one {c : Expr} {t : TDT} (h : JT X c t) : JTs X [c] t := by
  obtain ⟨u, p, g⟩ := h
  exact ⟨_, pts_one p, g⟩
end
def lcW (ok : Mm → Prop) (g : TDG) (tt : TDT) (te : TDE) (ds0 : DSt) (Q : List D → Mm → Prop) : List D → List D → Mm → Prop
  | [], acc, M => ok M ∧ Q acc M
  | x :: r, acc, M => ok M ∧ g x ds0 M fun ds' M2 => tt ds' M2 fun b M3 => if b = true then te ds' M3 fun d M4 => acc.length < sizeLine ∧ lcW ok g tt te ds0 Q r (acc ++ [d]) M4 else lcW ok g tt te ds0 Q r acc M3
def dLc (ti : TDI) (g : TDG) (tt : TDT) (te : TDE) (vs : List Nat) : TDL := fun ds M Q => ti ds M fun it M1 => lcW it.ok g tt te (wipeD ds vs) Q it.xs [] M1
/-- the blocks of a comprehension -/
abbrev Blk (X : Cx) (scope : Scope) (s : Shared) (H : Hp) (C : Addr) (cl : List (Str × Addr)) (fp : List Addr) : Cx := X.blk s H scope (compEnvC scope cl C X.env) fp
structure JLC (X : Cx) (elt tg iter : Expr) (ifs : List Expr) (scope : Scope) (own : List (Str × Nat)) (t : TDL) : Prop where
  go : ∃ (wi : TI) (g : TG) (tt : TT) (te : TE), PI X tg iter wi ∧ BlkOk X.N X.env.scope scope own ∧ (∀ s H C cl fp, PG (Blk X scope s H C cl fp) tg g) ∧ (∀ s H C cl fp, PTs (Blk X scope s H C cl fp) ifs tt) ∧ (∀ s H C cl fp, PE (Blk X scope s H C cl fp) elt te) ∧
    ∀ (ds : DSt) (σ : L2.St) (H : Hp) (M : Mm) (Q : List D → Mm → Prop) (Q0 : VK), SR X.K H ds σ → MR X.K M H → t ds M Q →
    (∀ p H' xs vs M', H p = none → H' p = some (.lst vs) → VRs X.K H' xs vs → M' p = none → MR X.K M' H' → GG M H M' H' → Q xs M' → Q0 (.ref p) H') → tLc wi g tt te (own.map (·.2)) σ H Q0
theorem MR.hidden {K : PySem.W.Frag} {M : Mm} {H : Hp} {p : Addr} {vs : List V} {u : HO} (m : MR K M H) (h : H p = some (.lst vs)) (n : M p = none) : MR K M (upd H p u) := fun b w e => by
  have hb : b ≠ p := by rintro rfl; rw [n] at e; cases e
  refine (m b w e).mono (fun a xs q => ?_) (upd_ne hb)
  have ha : ∀ w, H a = some w → (∀ vs, w ≠ .lst vs) → upd H p u a = some w := fun w e nl => by
    rw [upd_ne]
    · exact e
    · rintro rfl
      rw [h] at e
      exact nl vs (Option.some.inj e).symm
  rcases q with (q | ⟨ob, q⟩) | q
  · exact .inl (.inl (ha _ q fun _ z => by cases z))
  · exact .inl (.inr ⟨ob, ha _ q fun _ z => by cases z⟩)
  · exact .inr q
theorem TX.hidden {K : PySem.W.Frag} {H : Hp} {p : Addr} {vs : List V} {u : HO} (h : H p = some (.lst vs)) : TX K H (upd H p u) := fun a xs q => by
  have ha : ∀ w, H a = some w → (∀ vs, w ≠ .lst vs) → upd H p u a = some w := fun w e nl => by
    rw [upd_ne]
    · exact e
    · rintro rfl
      rw [h] at e
      exact nl vs (Option.some.inj e).symm
  rcases q with (q | ⟨ob, q⟩) | q
  · exact .inl (.inl (ha _ q fun _ z => by cases z))
  · exact .inl (.inr ⟨ob, ha _ q fun _ z => by cases z⟩)
  · exact .inr q
theorem GG.hidden {M M' : Mm} {H H' : Hp} {p : Addr} {u : HO} (g : GG M H M' H') (h : H p = none) : GG M H M' (upd H' p u) := by
  refine ⟨fun a o e n => ?_, fun a o e => ?_⟩
  · have ha : a ≠ p := by rintro rfl; rw [h] at e; cases e
    obtain ⟨h1, n1⟩ := g.fr a o e n
    exact ⟨by rw [upd_ne ha]; exact h1, n1⟩
  · obtain ⟨w, h1⟩ := g.al a o e
    exact upd_al a w h1
theorem jlc {X : Cx} {elt tg iter : Expr} {ifs : List Expr} {scope : Scope} {own : List (Str × Nat)} {ti : TDI} {g : TDG} {tt : TDT} {te : TDE} (hi : JI X tg iter ti) (ok : BlkOk X.N X.env.scope scope own)
    (hg : ∀ s H C cl fp, JGv (Blk X scope s H C cl fp) tg (own.map (·.2)) g) (ht : ∀ s H C cl fp, JTs (Blk X scope s H C cl fp) ifs tt) (he : ∀ s H C cl fp, JE (Blk X scope s H C cl fp) elt te) :
    JLC X elt tg iter ifs scope own (dLc ti g tt te (own.map (·.2))) := by
  obtain ⟨wi, pi, gi⟩ := hi
  refine ⟨wi, fun v σ H Q => ∀ s H' C cl fp, (hg s H' C cl fp).go.choose v σ H Q, fun σ H Q => ∀ s H' C cl fp, (ht s H' C cl fp).go.choose σ H Q, fun σ H Q => ∀ s H' C cl fp, (he s H' C cl fp).go.choose σ H Q, pi, ok, ?_, ?_, ?_, ?_⟩
  · exact fun s H C cl fp => ⟨fun pins s' σ H' v u Q I r h => (hg s H C cl fp).go.choose_spec.1.run pins s' σ H' v u Q I r (h s H C cl fp)⟩
  · exact fun s H C cl fp => ⟨fun pins s' σ H' Q I h => (ht s H C cl fp).go.choose_spec.1.run pins s' σ H' Q I (h s H C cl fp)⟩
  · exact fun s H C cl fp => ⟨fun pins s' σ H' Q I h => (he s H C cl fp).go.choose_spec.1.run pins s' σ H' Q I (h s H C cl fp)⟩
  · intro ds σ H M Q Q0 s m q k
    refine gi ds σ H M _ _ s m q fun J H1 it M1 io m1 g1 q1 => ?_
    intro p hp
    refine ⟨fun i n H2 => n = it.xs.length - i ∧ i ≤ it.xs.length ∧ ∃ M2 acc va, GG M1 H1 M2 H2 ∧ MR X.K M2 H2 ∧ H2 p = some (.lst va) ∧ M2 p = none ∧ VRs X.K H2 acc va ∧ lcW it.ok g tt te (wipeD ds (own.map (·.2))) Q (it.xs.drop i) acc M2,
      ⟨_, rfl, Nat.zero_le _, M1, [], [], GG.newT hp, m1.newT hp, upd_same, m1.free hp, .nil, by simpa using q1⟩, ?_⟩
    rintro i n H2 ⟨rfl, hi, M2, acc, va, g2, m2, hD, nD, ra, q2⟩
    have s2 : SR X.K H2 (wipeD ds (own.map (·.2))) (L2.wipe σ (own.map (·.2))) := ((s.gg m (g1.trans g2))).wipe _
    by_cases hlt : i < it.xs.length
    · have e : it.xs.drop i = it.xs[i] :: it.xs.drop (i + 1) := List.drop_eq_getElem_cons hlt
      rw [e] at q2
      obtain ⟨okM, q2⟩ := q2
      have ei : it.xs[i]? = some it.xs[i] := List.getElem?_eq_getElem hlt
      refine .inr ⟨io.go i _ M2 H2 g2 m2 okM ei, fun H' => i + 1 ≤ it.xs.length ∧ ∃ M2 acc va, GG M1 H1 M2 H' ∧ MR X.K M2 H' ∧ H' p = some (.lst va) ∧ M2 p = none ∧ VRs X.K H' acc va ∧ lcW it.ok g tt te (wipeD ds (own.map (·.2))) Q (it.xs.drop (i + 1)) acc M2,
        fun H' h => ⟨it.xs.length - (i + 1), by omega, rfl, h.1, h.2⟩, fun x H' y => ?_⟩
      obtain ⟨r', m', g'⟩ := io.yld i _ M2 H2 x H' g2 m2 okM ei y
      intro s' H'' C cl fp
      refine (hg s' H'' C cl fp).go.choose_spec.2 _ x _ _ H' M2 _ _ r' (s2.gg m2 g') m' q2 fun ds3 σ3 H3 M3 hw s3 m3 g3 q3 => ⟨?_, ?_⟩
      · rw [hw]
        have idem : ∀ (vs ws : List Nat), (∀ v ∈ ws, v ∈ vs) → L2.wipe (L2.wipe σ vs) ws = L2.wipe σ vs := by
          intro vs ws
          induction ws with
          | nil => intro _; rfl
          | cons w ws ih =>
            intro hs
            show (L2.wipe (L2.wipe σ vs) ws).set w none = L2.wipe σ vs
            rw [ih fun v hv => hs v (List.mem_cons_of_mem _ hv)]
            have hw := hs w List.mem_cons_self
            -- the slot is forgotten already
            have gone : ∀ (us : List Nat), w ∈ us → (L2.wipe σ us).set w none = L2.wipe σ us := by
              intro us
              induction us with
              | nil => intro z; cases z
              | cons u us ih2 =>
                intro z
                show ((L2.wipe σ us).set u none).set w none = (L2.wipe σ us).set u none
                by_cases hwu : w = u
                · subst hwu; rw [List.set_set]
                · have hz : w ∈ us := by
                    rcases List.mem_cons.mp z with z | z
                    · exact absurd z hwu
                    · exact z
                  rw [List.set_comm _ _ (Ne.symm hwu), ih2 hz]
            exact gone vs hw
        exact idem _ _ fun v hv => hv
      · intro s' H'' C cl fp
        refine (ht s' H'' C cl fp).go.choose_spec.2 ds3 σ3 H3 M3 _ _ s3 m3 q3 fun b H4 M4 m4 g4 q4 => ?_
        have g24 : GG M2 H2 M4 H4 := (g'.trans g3).trans g4
        cases b with
        | false =>
          rw [if_neg Bool.false_ne_true] at q4 ⊢
          obtain ⟨hD4, nD4⟩ := g24.fr p _ hD nD
          exact ⟨hlt, M4, acc, va, g2.trans g24, m4, hD4, nD4, VRs.mono (g24.tx m2) _ _ ra, q4⟩
        | true =>
          rw [if_pos rfl] at q4 ⊢
          intro s' H'' C cl fp
          refine (he s' H'' C cl fp).go.choose_spec.2 ds3 σ3 H4 M4 _ _ (s3.gg m3 g4) m4 q4 fun y H5 d M5 r5 m5 g5 q5 => ?_
          have g25 : GG M2 H2 M5 H5 := g24.trans g5
          obtain ⟨hD5, nD5⟩ := g25.fr p _ hD nD
          have ra5 := VRs.mono (g25.tx m2) _ _ ra
          refine ⟨va, hD5, by rw [← ra5.length]; exact q5.1, hlt, M5, acc ++ [d], va ++ [y], (g2.trans g25).hidden hp, m5.hidden hD5 nD5, upd_same, nD5, ?_, q5.2⟩
          exact VRs.append (VRs.mono (TX.hidden hD5) _ _ ra5) (.cons (VR.mono (TX.hidden hD5) _ _ r5) .nil)
    · have e : i = it.xs.length := by omega
      subst e
      rw [List.drop_length] at q2
      exact .inl ⟨io.stop M2 H2 g2 m2 q2.1, k p H2 acc va M2 (g1.free hp) hD ra nD m2 (g1.trans g2) q2.2⟩
section
variable {X : Cx} {elt tg iter : Expr} {ifs : List Expr} {scope : Scope} {own : List (Str × Nat)} {t : TDL} {pos spos : Pos}
theorem jl_lc (hc : X.calm = true) (hN : X.N.Nodup) (h : JLC X elt tg iter ifs scope own t) (hs : ∀ x, foldedSetIterable iter X.env x = pure x := by intro _; rfl) : JL X (.ListComp elt [⟨tg, iter, ifs, 0⟩] scope pos) t := by
  obtain ⟨wi, g, tt, te, h1, h2, h3, h4, h5, h6⟩ := h
  exact ⟨_, pe_lc hc hN h1 h2 h3 h4 h5 hs, h6⟩
theorem js_setLc {i : Nat} {y : Str} {py : Pos} (hc : X.calm = true) (hN : X.N.Nodup) (h : JLC X elt tg iter ifs scope own t) (hsw : swapsWith (.ListComp elt [⟨tg, iter, ifs, 0⟩] scope pos) (some (.Name y py)) spos.line X.env = pure true)
    (hy : X.N[i]? = some y := by rfl) (hyl : X.env.scope.names.lookup y = some .local := by rfl) (hs : ∀ x, foldedSetIterable iter X.env x = pure x := by intro _; rfl) :
    JS X (.Assign [.Name y py] (.ListComp elt [⟨tg, iter, ifs, 0⟩] scope pos) spos) (dAsg (dFresh t) (dgName i)) := by
  obtain ⟨wi, g, tt, te, h1, h2, h3, h4, h5, h6⟩ := h
  refine ⟨_, ps_setLc hc hN hy hyl hsw h1 h2 h3 h4 h5 hs, fun M0 H0 D0 D1 l ds σ H M gg s m q => ?_⟩
  refine h6 ds σ H M _ _ s m q fun p H' xs vs M' hp hp' r n m' g' q' => ?_
  exact l.nx _ _ H' _ (gg.trans (g'.known hp)) ((s.gg m g').set (.ref p) i) (m'.known hp' r) (q' p n)
end

/-! ### defs -/
abbrev DSp := List D → Mm → DQ → Prop
def toSp (K : PySem.W.Frag) (sp : DSp) : Sp := fun vs H Q _ => ∃ ds M R, VRs K H ds vs ∧ MR K M H ∧ sp ds M R ∧ ∀ v H' d M', VR K H' d v → MR K M' H' → GG M H M' H' → R d M' → Q v H'
def dCall (sp : DSp) (t : TDA) : TDE := fun ds M Q => t ds M fun xs M1 => sp xs M1 Q
section
variable {X : Cx} {k : Nat} {f : Addr} {fd : FuncData} {ps : List Str} {sp : DSp} {x : Str} {p pos : Pos} {e : Expr} {es : List Expr} {t : TDA}
theorem je_call (F : FnOk X.prog X.w X.K X.mg X.base CX0 k f fd ps (toSp X.K sp)) (hr : Room k X.A) (hg : Gl X x) (hm : X.mg x = some (.ref f)) (hk : PySem.W.keepIn X.K (.ref f) = true) (hb : Binds X.K fd ps [])
    (ha : JA X (e :: es) t) (hdb : (x == ("__debug__" : Str)) = false := by decide) (he : starEach (e :: es) X.env = (false, eval e X.env) :: starEach es X.env := by rfl) (hpl : (backTo pos (starEach es X.env)).any (·.1) = false := by rfl) :
    JE X (.Call (.Name x p) (e :: es) [] pos) (dCall sp t) := by
  obtain ⟨u, q, g⟩ := ha
  refine je_pe (pe_call F hr hg hm hk hb .nil pass0 q hdb he hpl) fun ds σ H M Q Q0 s m q k => ?_
  refine g ds σ H M _ _ s m q fun vs H1 es M1 r1 m1 g1 q1 => ?_
  rw [List.append_nil]
  exact ⟨es, M1, Q, r1, m1, q1, fun v H' d M' r' m' g' q' => k v H' d M' r' m' (g1.trans g') q'⟩
theorem je_call0 (F : FnOk X.prog X.w X.K X.mg X.base CX0 k f fd ps (toSp X.K sp)) (hr : Room k X.A) (hg : Gl X x) (hm : X.mg x = some (.ref f)) (hk : PySem.W.keepIn X.K (.ref f) = true) (hb : Binds X.K fd ps [])
    (hdb : (x == ("__debug__" : Str)) = false := by decide) :
    JE X (.Call (.Name x p) [] [] pos) (dCall sp dNil) := by
  refine je_pe (pe_call0 F hr hg hm hk hb .nil pass0 hdb) fun ds σ H M Q Q0 s m q k => ?_
  exact ⟨[], M, Q, .nil, m, q, fun v H' d M' r' m' g' q' => k v H' d M' r' m' g' q'⟩
end
/-- at a def's end the store may be forgotten in part -/
def Shr (R : DQ) : DQ := fun d M' => ∃ M2, Sub M2 M' ∧ R d M2
theorem Shr.of {R : DQ} {d : D} {M' M2 : Mm} (h : R d M2) (s : Sub M2 M') : Shr R d M' := ⟨M2, s, h⟩
theorem Shr.all {R : DQ} {d : D} {M : Mm} (h : R d M) : Shr R d M := ⟨M, Sub.refl, h⟩
def dstart (N : List Str) (ds : List D) : DSt := ds.map some ++ List.replicate (N.length - ds.length) none
theorem SR.start {K : PySem.W.Frag} {H : Hp} {N : List Str} {ds : List D} {vs : List V} (r : VRs K H ds vs) : SR K H (dstart N ds) (L2.start N vs) := by
  unfold dstart L2.start
  rw [r.length]
  refine ⟨by simp [r.length], fun i d h => ?_⟩
  by_cases hi : i < vs.length
  · rw [List.getElem?_append_left (by rw [List.length_map, r.length]; exact hi), List.getElem?_map] at h
    obtain ⟨d', h1, h2⟩ := Option.map_eq_some_iff.mp h
    cases h2
    obtain ⟨v, h3, h4⟩ := r.get h1
    exact ⟨v, by rw [List.getElem?_append_left (by rw [List.length_map]; exact hi), List.getElem?_map, h3] <;> rfl, h4⟩
  · rw [List.getElem?_append_right (by rw [List.length_map, r.length]; omega)] at h
    rw [List.getElem?_replicate] at h
    split at h
    · cases h
    · cases h
section
variable {P : Program} {w : World} {K : PySem.W.Frag} {mg : Str → Option Value} {base : Heap}
/-- THE RULE for a def, its promise by data -/
theorem fn_ok {x qual : Str} {st : Stmt} {f : Addr} {fd : FuncData} {N ps : List Str} {k : Nat} {sp : DSp} (F : Fun K x qual st f fd) (S : FnScope N ps (defScope st)) (len : ∀ ds M R, sp ds M R → ds.length = ps.length)
    (body : ∀ (cdv : Value) (A : Around) (outer : List Env) (s : Shared) (H : Hp) (E : XK), Room k (A.deeper (PyProof.Rows.envOfC qual (defScope st) s.heap.objs.size f cdv)) →
      ∃ t, JB (cxOf CX0 P w K mg base N qual (defScope st) f cdv A outer s H E).nox (defBody st) t ∧ ∀ (ds : List D) (M : Mm) (R : DQ), sp ds M R → t { nx := fun _ M' => Shr R .non M', rt := Shr R } (dstart N ds) M) : FnOk P w K mg base CX0 (k + 1) f fd ps (toSp K sp) := by
  refine F.ok S (fun vs H Q E h => ?_) fun cdv A outer s H vs Q E hr h => ?_
  · obtain ⟨ds, M, R, r, _, h, _⟩ := h
    rw [← r.length]
    exact len ds M R h
  · obtain ⟨ds, M, R, r, m, h, k⟩ := h
    obtain ⟨t, ⟨t0, p, g⟩, hb⟩ := body cdv A outer s H E hr
    refine ⟨t0, p, ?_⟩
    refine g M H _ _ ⟨?_, ?_, ?_, ?_⟩ (dstart N ds) (L2.start N vs) H M GG.refl (SR.start r) m (hb ds M R h)
    · rintro σ ds' H' M' gg s' m' ⟨M2, sb, q⟩
      exact k _ H' _ M2 .non (m'.sub sb) (gg.sub sb) q
    · rintro v d H' M' gg r' m' ⟨M2, sb, q⟩
      exact k v H' d M2 r' (m'.sub sb) (gg.sub sb) q
    · intro _ _ _ _ _ _ _ q
      exact q.elim
    · intro _ _ _ _ _ _ _ q
      exact q.elim
end
end DL

namespace DL
open PySem L2
open PyProof.Rows (b2i)

/-! ### calls of built-ins -/
abbrev DRC := List D → Mm → DQ → Prop
def LiftC (K : PySem.W.Frag) (r : List V → Hp → VK → Prop) (dr : DRC) : Prop := ∀ (vs : List V) (ds : List D) (H : Hp) (M : Mm) (Q : DQ) (Q0 : VK), VRs K H ds vs → MR K M H → dr ds M Q →
  (∀ v H' d M', VR K H' d v → MR K M' H' → GG M H M' H' → Q d M' → Q0 v H') → r vs H Q0
def dCB (r : DRC) (t : TDA) : TDE := fun ds M Q => t ds M fun xs M1 => r xs M1 Q
/-- over a list of its own -/
def LiftL (K : PySem.W.Frag) (r : List V → Hp → VK → Prop) (lr : DRC) : Prop := ∀ (p : Addr) (vs : List V) (xs : List D) (H : Hp) (M : Mm) (Q : DQ) (Q0 : VK), H p = some (.lst vs) → VRs K H xs vs → M p = none → MR K M H → lr xs M Q →
  (∀ v H' d M', VR K H' d v → MR K M' H' → GG M H M' H' → Q d M' → Q0 v H') → r [.ref p] H Q0
def dCBL (r : DRC) (t : TDL) : TDE := fun ds M Q => t ds M fun xs M1 => r xs M1 Q
section
variable {X : Cx} {id T : String} {x : Str} {r : List V → Hp → VK → Prop} {dr : DRC} {p pos : Pos} {e : Expr} {es : List Expr} {t : TDA}
theorem je_callB (hc : CallR X (.builtin id) r) (hl : LiftC X.K r dr) (hg : Gl X x) (hm : X.mg x = none) (hv : bootBuiltins x = some (.builtin id)) (ha : JA X (e :: es) t) (hn : x ≠ "__name__" := by decide) (hdb : (x == ("__debug__" : Str)) = false := by decide)
    (he : starEach (e :: es) X.env = (false, eval e X.env) :: starEach es X.env := by rfl) (hpl : (backTo pos (starEach es X.env)).any (·.1) = false := by rfl) : JE X (.Call (.Name x p) (e :: es) [] pos) (dCB dr t) := by
  obtain ⟨u, q, g⟩ := ha
  refine je_pe (pe_callB hc hg hm hv q hn hdb he hpl) fun ds σ H M Q Q0 s m q k => ?_
  refine g ds σ H M _ _ s m q fun vs H1 es M1 r1 m1 g1 q1 => ?_
  exact hl vs es H1 M1 Q Q0 r1 m1 q1 fun v H' d M' r' m' g' q' => k v H' d M' r' m' (g1.trans g') q'
theorem je_callTy (hc : CallR X (.type T) r) (hl : LiftC X.K r dr) (hg : Gl X x) (hm : X.mg x = none) (hv : bootBuiltins x = some (.type T)) (ha : JA X (e :: es) t) (hn : x ≠ "__name__" := by decide) (hdb : (x == ("__debug__" : Str)) = false := by decide)
    (he : starEach (e :: es) X.env = (false, eval e X.env) :: starEach es X.env := by rfl) (hpl : (backTo pos (starEach es X.env)).any (·.1) = false := by rfl) : JE X (.Call (.Name x p) (e :: es) [] pos) (dCB dr t) := by
  obtain ⟨u, q, g⟩ := ha
  refine je_pe (pe_callTy hc hg hm hv q hn hdb he hpl) fun ds σ H M Q Q0 s m q k => ?_
  refine g ds σ H M _ _ s m q fun vs H1 es M1 r1 m1 g1 q1 => ?_
  exact hl vs es H1 M1 Q Q0 r1 m1 q1 fun v H' d M' r' m' g' q' => k v H' d M' r' m' (g1.trans g') q'
variable {tl : TDL}
theorem je_callBL (hc : CallR X (.builtin id) r) (hl : LiftL X.K r dr) (hg : Gl X x) (hm : X.mg x = none) (hv : bootBuiltins x = some (.builtin id)) (ha : JL X e tl) (hn : x ≠ "__name__" := by decide) (hdb : (x == ("__debug__" : Str)) = false := by decide)
    (he : starEach (e :: []) X.env = (false, eval e X.env) :: starEach [] X.env := by rfl) (hpl : (backTo pos (starEach [] X.env)).any (·.1) = false := by rfl) : JE X (.Call (.Name x p) [e] [] pos) (dCBL dr tl) := by
  obtain ⟨u, q, g⟩ := ha
  refine je_pe (pe_callB hc hg hm hv (pa_cons q pa_nil he) hn hdb he hpl) fun ds σ H M Q Q0 s m q k => ?_
  refine g ds σ H M _ _ s m q fun a H1 xs vs M1 hp hp1 r1 n1 m1 g1 q1 => ?_
  exact hl a vs xs H1 M1 Q Q0 hp1 r1 n1 m1 q1 fun v H' d M' r' m' g' q' => k v H' d M' r' m' (g1.trans g') q'
theorem je_callTyL (hc : CallR X (.type T) r) (hl : LiftL X.K r dr) (hg : Gl X x) (hm : X.mg x = none) (hv : bootBuiltins x = some (.type T)) (ha : JL X e tl) (hn : x ≠ "__name__" := by decide) (hdb : (x == ("__debug__" : Str)) = false := by decide)
    (he : starEach (e :: []) X.env = (false, eval e X.env) :: starEach [] X.env := by rfl) (hpl : (backTo pos (starEach [] X.env)).any (·.1) = false := by rfl) : JE X (.Call (.Name x p) [e] [] pos) (dCBL dr tl) := by
  obtain ⟨u, q, g⟩ := ha
  refine je_pe (pe_callTy hc hg hm hv (pa_cons q pa_nil he) hn hdb he hpl) fun ds σ H M Q Q0 s m q k => ?_
  refine g ds σ H M _ _ s m q fun a H1 xs vs M1 hp hp1 r1 n1 m1 g1 q1 => ?_
  exact hl a vs xs H1 M1 Q Q0 hp1 r1 n1 m1 q1 fun v H' d M' r' m' g' q' => k v H' d M' r' m' (g1.trans g') q'
end

/-! len -/
def lenR : DRC := fun xs M Q => match xs with
  | [.tup ys] => Q (.int ys.length) M
  | [.str z] => z.length ≤ sizeLine ∧ Q (.int z.length) M
  | [.ref a] => (match M a with | some (.lst ys) => Q (.int ys.length) M | some (.dic kvs) => Q (.int kvs.length) M | _ => False)
  | _ => False
def lenT (K : PySem.W.Frag) : List V → Hp → VK → Prop := fun xs H Q => (∃ x n, xs = [x] ∧ LenV K x H n ∧ Q (.int n) H) ∨ ∃ a kvs, xs = [V.ref a] ∧ H a = some (.dK kvs) ∧ Q (.int kvs.length) H
theorem call_lenT {X : Cx} : CallR X (.builtin "len") (lenT X.K) := call_len.or call_lenD
theorem VRs.one {K : PySem.W.Frag} {H : Hp} {d : D} {vs : List V} (r : VRs K H [d] vs) : ∃ v, vs = [v] ∧ VR K H d v := by
  cases r with
  | cons r1 r2 => cases r2; exact ⟨_, rfl, r1⟩
theorem VRs.two {K : PySem.W.Frag} {H : Hp} {d e : D} {vs : List V} (r : VRs K H [d, e] vs) : ∃ v w, vs = [v, w] ∧ VR K H d v ∧ VR K H e w := by
  cases r with
  | cons r1 r2 =>
    obtain ⟨w, rfl, r4⟩ := r2.one
    exact ⟨_, _, rfl, r1, r4⟩
theorem FR.length {K : PySem.W.Frag} {H : Hp} {κ : Type} : ∀ {ds : List (κ × D)} {vs : List (κ × V)}, FR K H ds vs → ds.length = vs.length
  | _, _, .nil => rfl
  | _, _, .cons _ q => by simp [FR.length q]
theorem lift_len {K : PySem.W.Frag} : LiftC K (lenT K) lenR := by
  intro vs ds H M Q Q0 r m h k
  cases r with
  | nil => exact h.elim
  | cons r1 r2 =>
    rename_i d v _ _
    cases r2 with
    | cons _ _ => cases d <;> exact h.elim
    | nil =>
      cases d with
      | tup ys =>
        obtain ⟨a, us, rfl, sa, ra⟩ := r1.tup_v
        exact .inl ⟨_, _, rfl, .inr ⟨us, sa, rfl⟩, by rw [← ra.length]; exact k _ H _ M (.int _) m GG.refl h⟩
      | str z =>
        cases r1.str_v
        exact .inl ⟨_, _, rfl, ⟨h.1, rfl⟩, k _ H _ M (.int _) m GG.refl h.2⟩
      | ref a =>
        cases r1.ref_v
        unfold lenR at h
        simp only at h
        split at h
        · rename_i ys e
          obtain ⟨us, h1, r3⟩ := m a _ e
          exact .inl ⟨_, _, rfl, .inl ⟨us, SqL.of h1, rfl⟩, by rw [← r3.length]; exact k _ H _ M (.int _) m GG.refl h⟩
        · rename_i kvs e
          obtain ⟨us, h1, r3⟩ := m a _ e
          exact .inr ⟨a, us, rfl, h1, by rw [← r3.length]; exact k _ H _ M (.int _) m GG.refl h⟩
        · exact h.elim
      | _ => exact h.elim
/-! int, str of an int -/
def int1R : DRC := fun xs M Q => match xs with
  | [.int i] => Q (.int i) M
  | [.bl b] => Q (.int (if b then 1 else 0)) M
  | _ => False
theorem lift_int1 {K : PySem.W.Frag} : LiftC K (fun xs H Q => (∃ i, xs = [.int i] ∧ Q (.int i) H) ∨ ∃ k, xs = [.bl k] ∧ Q (.int (if k then 1 else 0)) H) int1R := by
  intro vs ds H M Q Q0 r m h k
  cases r with
  | nil => exact h.elim
  | cons r1 r2 =>
    rename_i d v _ _
    cases r2 with
    | cons _ _ => cases d <;> exact h.elim
    | nil =>
      cases d with
      | int i => cases r1.int_v; exact .inl ⟨i, rfl, k _ H _ M (.int _) m GG.refl h⟩
      | bl i => cases r1.bl_v; exact .inr ⟨i, rfl, k _ H _ M (.int _) m GG.refl h⟩
      | _ => exact h.elim
def str1R : DRC := fun xs M Q => match xs with
  | [.int i] => i.natAbs.log2 < 1920 ∧ Q (.str (toString i)) M
  | _ => False
theorem lift_str1 {K : PySem.W.Frag} : LiftC K (fun xs H Q => ∃ i, xs = [.int i] ∧ i.natAbs.log2 < 1920 ∧ Q (.str (toString i)) H) str1R := by
  intro vs ds H M Q Q0 r m h k
  cases r with
  | nil => exact h.elim
  | cons r1 r2 =>
    rename_i d v _ _
    cases r2 with
    | cons _ _ => cases d <;> exact h.elim
    | nil =>
      cases d with
      | int i => cases r1.int_v; exact ⟨i, rfl, h.1, k _ H _ M (.str _) m GG.refl h.2⟩
      | _ => exact h.elim
/-! isinstance -/
def tyName (M : Mm) : D → String
  | .non => "NoneType"
  | .bl _ => "bool"
  | .int _ => "int"
  | .str _ => "str"
  | .tup _ => "tuple"
  | .ref a => (match M a with | some (.lst _) => "list" | some (.dic _) => "dict" | _ => "?")
  | .ty _ => "?"
def isiB (a n : String) : Bool := a == n || (a == "bool" && n == "int")
def isiOk (a n : String) : Bool := ["NoneType", "bool", "int", "str", "tuple", "list", "dict"].contains a && ["bool", "int", "str", "tuple", "list", "dict"].contains n
theorem isi_tab : ∀ a ∈ ["NoneType", "bool", "int", "str", "tuple", "list", "dict"], ∀ n ∈ ["bool", "int", "str", "tuple", "list", "dict"], kitB a n = some (isiB a n) := by decide +kernel
theorem kitB_of {a n : String} (h : isiOk a n = true) : kitB a n = some (isiB a n) := by
  unfold isiOk at h
  rw [Bool.and_eq_true] at h
  exact isi_tab a (by simpa using h.1) n (by simpa using h.2)
def isiR : DRC := fun xs M Q => match xs with
  | [x, .ty n] => isiOk (tyName M x) n = true ∧ Q (.bl (isiB (tyName M x) n)) M
  | _ => False
theorem tyX_of {K : PySem.W.Frag} {H : Hp} {M : Mm} {d : D} {v : V} (r : VR K H d v) (m : MR K M H) (h : tyName M d ≠ "?") : TyX K H v (.type (tyName M d)) := by
  cases r with
  | non => exact .base .non
  | bl b => exact .base (.bl b)
  | int b => exact .base (.int b)
  | str b => exact .base (.str b)
  | ty n => exact absurd rfl h
  | tup sa ra =>
    show TyX K H _ (.type "tuple")
    rcases sa with (sa | ⟨o, sa⟩) | ⟨o, its, n, hk, hc, _⟩
    · exact .base (.tup sa)
    · exact .fTuple sa
    · exact .kTuple hk hc
  | ref a =>
    have e0 : tyName M (.ref a) = (match M a with | some (.lst _) => "list" | some (.dic _) => "dict" | _ => "?") := by unfold tyName; rfl
    rw [e0] at h ⊢
    cases e : M a with
    | none => rw [e] at h; exact absurd rfl h
    | some o =>
      cases o with
      | lst ys =>
        obtain ⟨us, h1, r3⟩ := m a _ e
        exact .base (.lst h1)
      | dic kvs =>
        obtain ⟨us, h1, r3⟩ := m a _ e
        exact .base (.dK h1)
      | ins _ _ => rw [e] at h; exact absurd rfl h
theorem lift_isi {K : PySem.W.Frag} : LiftC K (rIsi K) isiR := by
  intro vs ds H M Q Q0 r m h k
  cases r with
  | nil => exact h.elim
  | cons r1 r2 =>
    cases r2 with
    | nil => exact h.elim
    | cons r2 r3 =>
      rename_i d v e w _ _
      cases r3 with
      | cons _ _ => cases e <;> exact h.elim
      | nil =>
        cases e with
        | ty n =>
          cases r2.ty_v
          obtain ⟨ok, h⟩ := h
          have hne : tyName M d ≠ "?" := by
            intro z
            rw [z] at ok
            unfold isiOk at ok
            rw [Bool.and_eq_true] at ok
            exact absurd ok.1 (by decide)
          exact ⟨v, .ty n, _, _, _, rfl, .ty n, tyX_of r1 m hne, kit_ty (kitB_of ok), k _ H _ M (.bl _) m GG.refl h⟩
        | _ => exact h.elim
/-! tuple, list, sum, all, any -/
def tup1R : DRC := fun xs M Q => match xs with
  | [.tup ys] => Q (.tup ys) M
  | [.ref a] => (match lstOf M a with | some ys => Q (.tup ys) M | none => False)
  | _ => False
def tup1T (K : PySem.W.Frag) : List V → Hp → VK → Prop := fun xs H Q => ∃ p ys, xs = [.ref p] ∧ ((SqL K H p ys ∧ ∀ l, H l = none → Q (.ref l) (upd H l (.tup ys))) ∨ (SqT K H p ys ∧ Q (.ref p) H))
theorem lift_tup1 {K : PySem.W.Frag} : LiftC K (tup1T K) tup1R := by
  intro vs ds H M Q Q0 r m h k
  cases r with
  | nil => exact h.elim
  | cons r1 r2 =>
    rename_i d v _ _
    cases r2 with
    | cons _ _ => cases d <;> exact h.elim
    | nil =>
      cases d with
      | tup ys =>
        have r1' := r1
        obtain ⟨a, us, rfl, sa, ra⟩ := r1.tup_v
        exact ⟨a, us, rfl, .inr ⟨sa, k _ H _ M r1' m GG.refl h⟩⟩
      | ref a =>
        cases r1.ref_v
        unfold tup1R at h
        simp only at h
        split at h
        · rename_i ys e
          obtain ⟨us, h1, r3⟩ := m a _ (of_lstOf e)
          exact ⟨a, us, rfl, .inl ⟨SqL.of h1, fun l hl => k _ _ _ M (.tup (SqT.of upd_same) (VRs.mono (TX.new hl) _ _ r3)) (m.newT hl) (GG.newT hl) h⟩⟩
        · exact h.elim
      | _ => exact h.elim
def tupLR : DRC := fun xs M Q => Q (.tup xs) M
theorem lift_tupL {K : PySem.W.Frag} : LiftL K (tup1T K) tupLR := by
  intro p vs xs H M Q Q0 hp r n m h k
  exact ⟨p, vs, rfl, .inl ⟨SqL.of hp, fun l hl => k _ _ _ M (.tup (SqT.of upd_same) (VRs.mono (TX.new hl) _ _ r)) (m.newT hl) (GG.newT hl) h⟩⟩
/-- the ints, bools, texts of a list -/
def intsOf : List D → Option (List Int)
  | [] => some []
  | .int i :: r => (intsOf r).map (i :: ·)
  | _ => none
def blsOf : List D → Option (List Bool)
  | [] => some []
  | .bl i :: r => (blsOf r).map (i :: ·)
  | _ => none
def strsOf : List D → Option (List Str)
  | [] => some []
  | .str i :: r => (strsOf r).map (i :: ·)
  | _ => none
theorem intsOf_v {K : PySem.W.Frag} {H : Hp} : ∀ {ds : List D} {vs : List V} {ns : List Int}, VRs K H ds vs → intsOf ds = some ns → vs = ns.map V.int
  | [], _, _, r, h => by cases r; simp [intsOf] at h; subst h; rfl
  | d :: ds, _, ns, r, h => by
    cases r with
    | cons r1 r2 =>
      cases d with
      | int i =>
        simp only [intsOf, Option.map_eq_some_iff] at h
        obtain ⟨ms, h1, rfl⟩ := h
        rw [r1.int_v, intsOf_v r2 h1]
        rfl
      | _ => simp [intsOf] at h
theorem blsOf_v {K : PySem.W.Frag} {H : Hp} : ∀ {ds : List D} {vs : List V} {ns : List Bool}, VRs K H ds vs → blsOf ds = some ns → vs = ns.map V.bl
  | [], _, _, r, h => by cases r; simp [blsOf] at h; subst h; rfl
  | d :: ds, _, ns, r, h => by
    cases r with
    | cons r1 r2 =>
      cases d with
      | bl i =>
        simp only [blsOf, Option.map_eq_some_iff] at h
        obtain ⟨ms, h1, rfl⟩ := h
        rw [r1.bl_v, blsOf_v r2 h1]
        rfl
      | _ => simp [blsOf] at h
theorem strsOf_v {K : PySem.W.Frag} {H : Hp} : ∀ {ds : List D} {vs : List V} {ns : List Str}, VRs K H ds vs → strsOf ds = some ns → vs = ns.map V.str
  | [], _, _, r, h => by cases r; simp [strsOf] at h; subst h; rfl
  | d :: ds, _, ns, r, h => by
    cases r with
    | cons r1 r2 =>
      cases d with
      | str i =>
        simp only [strsOf, Option.map_eq_some_iff] at h
        obtain ⟨ms, h1, rfl⟩ := h
        rw [r1.str_v, strsOf_v r2 h1]
        rfl
      | _ => simp [strsOf] at h
theorem intsOf_map {α : Type} (f : α → Int) : ∀ l : List α, intsOf (l.map fun x => D.int (f x)) = some (l.map f)
  | [] => rfl
  | a :: l => by rw [List.map_cons, intsOf, intsOf_map f l]; rfl
theorem blsOf_map {α : Type} (f : α → Bool) : ∀ l : List α, blsOf (l.map fun x => D.bl (f x)) = some (l.map f)
  | [] => rfl
  | a :: l => by rw [List.map_cons, blsOf, blsOf_map f l]; rfl
theorem strsOf_map {α : Type} (f : α → Str) : ∀ l : List α, strsOf (l.map fun x => D.str (f x)) = some (l.map f)
  | [] => rfl
  | a :: l => by rw [List.map_cons, strsOf, strsOf_map f l]; rfl
def sumLR : DRC := fun xs M Q => match intsOf xs with | some ns => Q (.int ns.sum) M | none => False
def allLR : DRC := fun xs M Q => match blsOf xs with | some bs => Q (.bl (bs.all id)) M | none => False
def anyLR : DRC := fun xs M Q => match blsOf xs with | some bs => Q (.bl (bs.any id)) M | none => False
/-- a built-in over one list, the store's own one -/
def ofLst (r : DRC) : DRC := fun xs M Q => match xs with
  | [.ref a] => (match lstOf M a with | some ys => r ys M Q | none => False)
  | _ => False
theorem lift_sumL {K : PySem.W.Frag} : LiftL K (rSum K) sumLR := by
  intro p vs xs H M Q Q0 hp r n m h k
  unfold sumLR at h
  split at h
  · rename_i ns e
    exact ⟨p, ns, rfl, by rw [← intsOf_v r e]; exact SqL.of hp, k _ H _ M (.int _) m GG.refl h⟩
  · exact h.elim
theorem lift_allL {K : PySem.W.Frag} : LiftL K (rAll K) allLR := by
  intro p vs xs H M Q Q0 hp r n m h k
  unfold allLR at h
  split at h
  · rename_i ns e
    exact ⟨p, ns, rfl, by rw [← blsOf_v r e]; exact SqL.of hp, k _ H _ M (.bl _) m GG.refl h⟩
  · exact h.elim
theorem lift_anyL {K : PySem.W.Frag} : LiftL K (rAny K) anyLR := by
  intro p vs xs H M Q Q0 hp r n m h k
  unfold anyLR at h
  split at h
  · rename_i ns e
    exact ⟨p, ns, rfl, by rw [← blsOf_v r e]; exact SqL.of hp, k _ H _ M (.bl _) m GG.refl h⟩
  · exact h.elim
theorem lift_sumR {K : PySem.W.Frag} : LiftC K (rSum K) (ofLst sumLR) := by
  intro vs ds H M Q Q0 r m h k
  cases r with
  | nil => exact h.elim
  | cons r1 r2 =>
    rename_i d v _ _
    cases r2 with
    | cons _ _ => cases d <;> exact h.elim
    | nil =>
      cases d with
      | ref a =>
        cases r1.ref_v
        unfold ofLst at h
        simp only at h
        split at h
        · rename_i ys e
          unfold sumLR at h
          split at h
          · rename_i ns e2
            obtain ⟨us, h1, r3⟩ := m a _ (of_lstOf e)
            exact ⟨a, ns, rfl, by rw [← intsOf_v r3 e2]; exact SqL.of h1, k _ H _ M (.int _) m GG.refl h⟩
          · exact h.elim
        · exact h.elim
      | _ => exact h.elim
/-! max, min of two ints -/
def max2R : DRC := fun xs M Q => match xs with | [.int i, .int j] => Q (.int (if j > i then j else i)) M | _ => False
def min2R : DRC := fun xs M Q => match xs with | [.int i, .int j] => Q (.int (if j < i then j else i)) M | _ => False
theorem lift_max2 {K : PySem.W.Frag} : LiftC K (fun xs H Q => ∃ i j, xs = [.int i, .int j] ∧ Q (.int (if j > i then j else i)) H) max2R := by
  intro vs ds H M Q Q0 r m h k
  unfold max2R at h
  split at h
  · obtain ⟨v, w, rfl, r1, r2⟩ := r.two
    cases r1.int_v
    cases r2.int_v
    exact ⟨_, _, rfl, k _ H _ M (.int _) m GG.refl h⟩
  · exact h.elim
theorem lift_min2 {K : PySem.W.Frag} : LiftC K (fun xs H Q => ∃ i j, xs = [.int i, .int j] ∧ Q (.int (if j < i then j else i)) H) min2R := by
  intro vs ds H M Q Q0 r m h k
  unfold min2R at h
  split at h
  · obtain ⟨v, w, rfl, r1, r2⟩ := r.two
    cases r1.int_v
    cases r2.int_v
    exact ⟨_, _, rfl, k _ H _ M (.int _) m GG.refl h⟩
  · exact h.elim
section
variable {X : Cx} {p pos : Pos} {e f : Expr} {es : List Expr} {t : TDA} {tl : TDL}
theorem je_len (hm : X.mg "len" = none) (ha : JA X (e :: es) t) (hg : Gl X "len" := by rfl) (he : starEach (e :: es) X.env = (false, eval e X.env) :: starEach es X.env := by rfl) (hpl : (backTo pos (starEach es X.env)).any (·.1) = false := by rfl) :
    JE X (.Call (.Name "len" p) (e :: es) [] pos) (dCB lenR t) := je_callB call_lenT lift_len hg hm PySem.boot_len ha (by decide) (by decide) he hpl
theorem je_int1 (hm : X.mg "int" = none) (ha : JA X (e :: es) t) (hg : Gl X "int" := by rfl) (he : starEach (e :: es) X.env = (false, eval e X.env) :: starEach es X.env := by rfl) (hpl : (backTo pos (starEach es X.env)).any (·.1) = false := by rfl) :
    JE X (.Call (.Name "int" p) (e :: es) [] pos) (dCB int1R t) := je_callTy call_int1 lift_int1 hg hm PyProof.Rows.boot_int ha (by decide) (by decide) he hpl
theorem je_str1 (hm : X.mg "str" = none) (ha : JA X (e :: es) t) (hg : Gl X "str" := by rfl) (he : starEach (e :: es) X.env = (false, eval e X.env) :: starEach es X.env := by rfl) (hpl : (backTo pos (starEach es X.env)).any (·.1) = false := by rfl) :
    JE X (.Call (.Name "str" p) (e :: es) [] pos) (dCB str1R t) := je_callTy call_str_int lift_str1 hg hm PyProof.Rows.boot_str ha (by decide) (by decide) he hpl
theorem je_isi (hm : X.mg "isinstance" = none) (ha : JA X (e :: es) t) (hg : Gl X "isinstance" := by rfl) (he : starEach (e :: es) X.env = (false, eval e X.env) :: starEach es X.env := by rfl) (hpl : (backTo pos (starEach es X.env)).any (·.1) = false := by rfl) :
    JE X (.Call (.Name "isinstance" p) (e :: es) [] pos) (dCB isiR t) := je_callB call_isi lift_isi hg hm PyProof.Rows.boot_isinstance ha (by decide) (by decide) he hpl
theorem je_tuple (hm : X.mg "tuple" = none) (ha : JA X (e :: es) t) (hg : Gl X "tuple" := by rfl) (he : starEach (e :: es) X.env = (false, eval e X.env) :: starEach es X.env := by rfl) (hpl : (backTo pos (starEach es X.env)).any (·.1) = false := by rfl) :
    JE X (.Call (.Name "tuple" p) (e :: es) [] pos) (dCB tup1R t) := je_callTy call_tuple_of lift_tup1 hg hm PyProof.Rows.boot_tuple ha (by decide) (by decide) he hpl
theorem je_tupleL (hm : X.mg "tuple" = none) (ha : JL X e tl) (hg : Gl X "tuple" := by rfl) (he : starEach (e :: []) X.env = (false, eval e X.env) :: starEach [] X.env := by rfl) (hpl : (backTo pos (starEach [] X.env)).any (·.1) = false := by rfl) :
    JE X (.Call (.Name "tuple" p) [e] [] pos) (dCBL tupLR tl) := je_callTyL call_tuple_of lift_tupL hg hm PyProof.Rows.boot_tuple ha (by decide) (by decide) he hpl
theorem je_sumL (hc : X.calm = true) (hm : X.mg "sum" = none) (ha : JL X e tl) (hg : Gl X "sum" := by rfl) (he : starEach (e :: []) X.env = (false, eval e X.env) :: starEach [] X.env := by rfl) (hpl : (backTo pos (starEach [] X.env)).any (·.1) = false := by rfl) :
    JE X (.Call (.Name "sum" p) [e] [] pos) (dCBL sumLR tl) := je_callBL (cr_sum hc) lift_sumL hg hm PyProof.Rows.boot_sum ha (by decide) (by decide) he hpl
theorem je_allL (hc : X.calm = true) (hm : X.mg "all" = none) (ha : JL X e tl) (hg : Gl X "all" := by rfl) (he : starEach (e :: []) X.env = (false, eval e X.env) :: starEach [] X.env := by rfl) (hpl : (backTo pos (starEach [] X.env)).any (·.1) = false := by rfl) :
    JE X (.Call (.Name "all" p) [e] [] pos) (dCBL allLR tl) := je_callBL (cr_all hc) lift_allL hg hm PyProof.Rows.boot_all ha (by decide) (by decide) he hpl
theorem je_anyL (hc : X.calm = true) (hm : X.mg "any" = none) (ha : JL X e tl) (hg : Gl X "any" := by rfl) (he : starEach (e :: []) X.env = (false, eval e X.env) :: starEach [] X.env := by rfl) (hpl : (backTo pos (starEach [] X.env)).any (·.1) = false := by rfl) :
    JE X (.Call (.Name "any" p) [e] [] pos) (dCBL anyLR tl) := je_callBL (cr_any hc) lift_anyL hg hm PyProof.Rows.boot_any ha (by decide) (by decide) he hpl
theorem je_sum (hc : X.calm = true) (hm : X.mg "sum" = none) (ha : JA X (e :: es) t) (hg : Gl X "sum" := by rfl) (he : starEach (e :: es) X.env = (false, eval e X.env) :: starEach es X.env := by rfl) (hpl : (backTo pos (starEach es X.env)).any (·.1) = false := by rfl) :
    JE X (.Call (.Name "sum" p) (e :: es) [] pos) (dCB (ofLst sumLR) t) := je_callB (cr_sum hc) lift_sumR hg hm PyProof.Rows.boot_sum ha (by decide) (by decide) he hpl
theorem je_max2 (hc : X.calm = true) (hm : X.mg "max" = none) (ha : JA X (e :: es) t) (hg : Gl X "max" := by rfl) (he : starEach (e :: es) X.env = (false, eval e X.env) :: starEach es X.env := by rfl) (hpl : (backTo pos (starEach es X.env)).any (·.1) = false := by rfl) :
    JE X (.Call (.Name "max" p) (e :: es) [] pos) (dCB max2R t) := je_callB (call_max2 hc) lift_max2 hg hm PyProof.Rows.boot_max ha (by decide) (by decide) he hpl
theorem je_min2 (hc : X.calm = true) (hm : X.mg "min" = none) (ha : JA X (e :: es) t) (hg : Gl X "min" := by rfl) (he : starEach (e :: es) X.env = (false, eval e X.env) :: starEach es X.env := by rfl) (hpl : (backTo pos (starEach es X.env)).any (·.1) = false := by rfl) :
    JE X (.Call (.Name "min" p) (e :: es) [] pos) (dCB min2R t) := je_callB (call_min2 hc) lift_min2 hg hm PyProof.Rows.boot_min ha (by decide) (by decide) he hpl
/-- list(x): a new list -/
def dListOf (t : TDA) : TDL := fun ds M Q => t ds M fun xs M1 => match xs with
  | [.tup ys] => Q ys M1
  | [.ref a] => (match lstOf M1 a with | some ys => Q ys M1 | none => False)
  | _ => False
theorem jl_list (hm : X.mg "list" = none) (ha : JA X (e :: es) t) (hg : Gl X "list" := by rfl) (he : starEach (e :: es) X.env = (false, eval e X.env) :: starEach es X.env := by rfl) (hpl : (backTo pos (starEach es X.env)).any (·.1) = false := by rfl) :
    JL X (.Call (.Name "list" p) (e :: es) [] pos) (dListOf t) := by
  obtain ⟨u, q, g⟩ := ha
  refine ⟨_, pe_callTy call_list_of hg hm PyProof.Rows.boot_list q (by decide) (by decide) he hpl, fun ds σ H M Q Q0 s m q k => ?_⟩
  refine g ds σ H M _ _ s m q fun vs H1 es M1 r1 m1 g1 q1 => ?_
  split at q1
  · obtain ⟨v, rfl, r5⟩ := r1.one
    obtain ⟨a, us, rfl, sa, ra⟩ := r5.tup_v
    exact ⟨a, us, rfl, .inr sa, fun l hl => k l _ _ us M1 (g1.free hl) upd_same (VRs.mono (TX.new hl) _ _ ra) (m1.free hl) (m1.newT hl) (g1.trans (GG.newT hl)) q1⟩
  · obtain ⟨v, rfl, r5⟩ := r1.one
    cases r5.ref_v
    split at q1
    · rename_i ys e
      obtain ⟨us, h1, r3⟩ := m1 _ _ (of_lstOf e)
      exact ⟨_, us, rfl, .inl (SqL.of h1), fun l hl => k l _ _ us M1 (g1.free hl) upd_same (VRs.mono (TX.new hl) _ _ r3) (m1.free hl) (m1.newT hl) (g1.trans (GG.newT hl)) q1⟩
    · exact q1.elim
  · exact q1.elim
end
end DL

namespace DL
open PySem L2
open PyProof.Rows (b2i)

/-! ### zip -/
def zipD (xs ys : List D) : List D := (xs.zip ys).map fun p => .tup [p.1, p.2]
theorem zipD_get {xs ys : List D} {i : Nat} {d : D} (h : (zipD xs ys)[i]? = some d) : ∃ x y, xs[i]? = some x ∧ ys[i]? = some y ∧ d = .tup [x, y] := by
  unfold zipD at h
  rw [List.getElem?_map] at h
  obtain ⟨p, h1, rfl⟩ := Option.map_eq_some_iff.mp h
  rw [List.getElem?_zip_eq_some] at h1
  exact ⟨p.1, p.2, h1.1, h1.2, rfl⟩
theorem zipD_len {xs ys : List D} : (zipD xs ys).length = min xs.length ys.length := by simp [zipD]
section
variable {K : PySem.W.Frag} {M M1 : Mm} {H H1 : Hp}
theorem it_zipT {a b : Addr} {xs ys : List D} {vs ws : List V} (sa : SqT K H a vs) (ra : VRs K H xs vs) (sb : SqT K H b ws) (rb : VRs K H ys ws) (m0 : MR K M H) : ItOk K (RZ.ItzT K a b) ⟨zipD xs ys, fun _ => True⟩ M H where
  go := fun i d M2 H2 g m _ e => by
    obtain ⟨x, y, h1, h2, rfl⟩ := zipD_get e
    obtain ⟨v, e1, _⟩ := ra.get h1
    obtain ⟨w, e2, _⟩ := rb.get h2
    exact ⟨vs, ws, v, w, g.tx m0 _ _ sa, g.tx m0 _ _ sb, e1, e2⟩
  yld := fun i d M2 H2 x H3 g m _ e y => by
    obtain ⟨x', y', h1, h2, rfl⟩ := zipD_get e
    obtain ⟨v, e1, r1⟩ := ra.get h1
    obtain ⟨w, e2, r2⟩ := rb.get h2
    obtain ⟨T, p, q, rfl, hT, rfl, hx, hy⟩ := y
    have f1 := hx vs (g.tx m0 _ _ sa)
    have f2 := hy ws (g.tx m0 _ _ sb)
    rw [e1] at f1
    rw [e2] at f2
    cases f1
    cases f2
    exact ⟨.tup (SqT.of upd_same) (.cons (VR.mono (TX.new hT) _ _ (VR.mono (g.tx m0) _ _ r1)) (.cons (VR.mono (TX.new hT) _ _ (VR.mono (g.tx m0) _ _ r2)) .nil)), m.newT hT, GG.newT hT⟩
  stop := fun M2 H2 g m _ => by
    refine ⟨vs, ws, g.tx m0 _ _ sa, g.tx m0 _ _ sb, ?_⟩
    have : (zipD xs ys).length = min vs.length ws.length := by rw [zipD_len, ra.length, rb.length]
    show vs.length ≤ (zipD xs ys).length ∨ ws.length ≤ (zipD xs ys).length
    omega
theorem it_zipL {a b : Addr} {xs ys : List D} : ItOk K (Itz K a b) ⟨zipD xs ys, fun M' => lstOf M' a = some xs ∧ lstOf M' b = some ys⟩ M H where
  go := fun i d M2 H2 g m ok e => by
    obtain ⟨x, y, h1, h2, rfl⟩ := zipD_get e
    obtain ⟨vs, q1, r1⟩ := m a _ (of_lstOf ok.1)
    obtain ⟨ws, q2, r2⟩ := m b _ (of_lstOf ok.2)
    obtain ⟨v, e1, _⟩ := r1.get h1
    obtain ⟨w, e2, _⟩ := r2.get h2
    exact ⟨vs, ws, v, w, SqL.of q1, SqL.of q2, e1, e2⟩
  yld := fun i d M2 H2 x H3 g m ok e y => by
    obtain ⟨x', y', h1, h2, rfl⟩ := zipD_get e
    obtain ⟨vs, q1, r1⟩ := m a _ (of_lstOf ok.1)
    obtain ⟨ws, q2, r2⟩ := m b _ (of_lstOf ok.2)
    obtain ⟨v, e1, s1⟩ := r1.get h1
    obtain ⟨w, e2, s2⟩ := r2.get h2
    obtain ⟨T, p, q, rfl, hT, rfl, hx, hy⟩ := y
    have f1 := hx vs (SqL.of q1)
    have f2 := hy ws (SqL.of q2)
    rw [e1] at f1
    rw [e2] at f2
    cases f1
    cases f2
    exact ⟨.tup (SqT.of upd_same) (.cons (VR.mono (TX.new hT) _ _ s1) (.cons (VR.mono (TX.new hT) _ _ s2) .nil)), m.newT hT, GG.newT hT⟩
  stop := fun M2 H2 g m ok => by
    obtain ⟨vs, q1, r1⟩ := m a _ (of_lstOf ok.1)
    obtain ⟨ws, q2, r2⟩ := m b _ (of_lstOf ok.2)
    refine ⟨vs, ws, SqL.of q1, SqL.of q2, ?_⟩
    have : (zipD xs ys).length = min vs.length ws.length := by rw [zipD_len, r1.length, r2.length]
    show vs.length ≤ (zipD xs ys).length ∨ ws.length ≤ (zipD xs ys).length
    omega
end
def diZip (ta tb : TDE) : TDI := fun ds M Q => ta ds M fun x M1 => tb ds M1 fun y M2 => match x, y with
  | .tup xs, .tup ys => Q ⟨zipD xs ys, fun _ => True⟩ M2
  | .ref a, .ref b => (match lstOf M2 a, lstOf M2 b with | some xs, some ys => Q ⟨zipD xs ys, fun M' => lstOf M' a = some xs ∧ lstOf M' b = some ys⟩ M2 | _, _ => False)
  | _, _ => False
theorem ji_zip {X : Cx} {e f : Expr} {te tf : TDE} {p pos tpos : Pos} {elts : List Expr} {kk : Nat} (hm : X.mg "zip" = none) (h : JE X e te) (h' : JE X f tf) (hg : Gl X "zip" := by rfl)
    (hs : starEach [e, f] X.env = (false, eval e X.env) :: starEach [f] X.env := by rfl) (hs2 : starEach [f] X.env = (false, eval f X.env) :: starEach [] X.env := by rfl) (hpl : (backTo pos (starEach [f] X.env)).any (·.1) = false := by rfl) :
    JI X (.Tuple elts kk tpos) (.Call (.Name "zip" p) [e, f] [] pos) (diZip te tf) := by
  obtain ⟨u, q, g⟩ := h
  obtain ⟨u', q', g'⟩ := h'
  refine ⟨_, RZ.pi_zipA hg hm (pa_cons q (pa_cons q' pa_nil hs2) hs) hs hpl, fun ds σ H M Q R0 s m q k => ?_⟩
  refine g ds σ H M _ _ s m q fun v H1 d M1 r1 m1 g1 q1 => ?_
  refine g' ds σ H1 M1 _ _ (s.gg m g1) m1 q1 fun w H2 d2 M2 r2 m2 g2 q2 => ?_
  have r1 := VR.mono (g2.tx m1) _ _ r1
  split at q2
  · obtain ⟨a, vs, rfl, sa, ra⟩ := r1.tup_v
    obtain ⟨b, ws, rfl, sb, rb⟩ := r2.tup_v
    exact ⟨a, b, vs, ws, rfl, .inr ⟨sa, sb, k _ H2 _ M2 (it_zipT sa ra sb rb m2) m2 (g1.trans g2) q2⟩⟩
  · cases r1.ref_v
    cases r2.ref_v
    split at q2
    · rename_i xs ys e1 e2
      obtain ⟨vs, h1, _⟩ := m2 _ _ (of_lstOf e1)
      obtain ⟨ws, h2, _⟩ := m2 _ _ (of_lstOf e2)
      exact ⟨_, _, vs, ws, rfl, .inl ⟨SqL.of h1, SqL.of h2, k _ H2 _ M2 it_zipL m2 (g1.trans g2) q2⟩⟩
    · exact q2.elim
  · exact q2.elim

/-! ### methods of lists -/
abbrev DRM := D → List D → Mm → DQ → Prop
def LiftM (K : PySem.W.Frag) (r : V → List V → Hp → VK → Prop) (dr : DRM) : Prop := ∀ (x : V) (vs : List V) (dx : D) (ds : List D) (H : Hp) (M : Mm) (Q : DQ) (Q0 : VK), VR K H dx x → VRs K H ds vs → MR K M H → dr dx ds M Q →
  (∀ v H' d M', VR K H' d v → MR K M' H' → GG M H M' H' → Q d M' → Q0 v H') → r x vs H Q0
def isLst (x : D) (M : Mm) : Prop := match x with | .ref a => (lstOf M a).isSome = true | _ => False
theorem isLst_ty {K : PySem.W.Frag} {M : Mm} {H : Hp} {x : D} {v : V} (r : VR K H x v) (m : MR K M H) (h : isLst x M) : tyV K "list" v H := by
  cases r with
  | ref a =>
    have h' : (lstOf M a).isSome = true := h
    obtain ⟨xs, e⟩ := Option.isSome_iff_exists.mp h'
    obtain ⟨vs, h1, _⟩ := m a _ (of_lstOf e)
    exact .inl ⟨rfl, vs, SqL.of h1⟩
  | _ => exact h.elim
def dBM (r : DRM) (to : TDE) (t : TDA) : TDE := fun ds M Q => to ds M fun x M1 => isLst x M1 ∧ t ds M1 fun xs M2 => r x xs M2 Q
def dBM0 (r : DRM) (to : TDE) : TDE := fun ds M Q => to ds M fun x M1 => isLst x M1 ∧ r x [] M1 Q
section
variable {X : Cx} {o e : Expr} {es : List Expr} {to : TDE} {t : TDA} {name : Str} {apos cpos : Pos} {id : String} {r : V → List V → Hp → VK → Prop} {dr : DRM}
theorem je_bm0 (slot : Slot "list" name id) (hty : typeOf (.builtin id) = pure (.type "method_descriptor")) (hm : MtR X id r) (hl : LiftM X.K r dr) (ho : JE X o to)
    (hbase : attributeBase o name X.env (eval o X.env) = eval o X.env := by rfl) (hline : (apos.endLine == cpos.line) = true := by rfl) : JE X (.Call (.Attribute o name apos) [] [] cpos) (dBM0 dr to) := by
  obtain ⟨u, p, g⟩ := ho
  refine je_pe (pe_bm0 PySem.F.plainAttrs_list slot hty hm p hbase hline) fun ds σ H M Q Q0 s m q k => ?_
  refine g ds σ H M _ _ s m q fun v H1 d M1 r1 m1 g1 q1 => ⟨isLst_ty r1 m1 q1.1, ?_⟩
  exact hl v [] d [] H1 M1 Q Q0 r1 .nil m1 q1.2 fun w H2 d2 M2 r2 m2 g2 q2 => k w H2 d2 M2 r2 m2 (g1.trans g2) q2
theorem je_bm (slot : Slot "list" name id) (hty : typeOf (.builtin id) = pure (.type "method_descriptor")) (hm : MtR X id r) (hl : LiftM X.K r dr) (ho : JE X o to) (ha : JA X (e :: es) t)
    (hbase : attributeBase o name X.env (eval o X.env) = eval o X.env := by rfl)
    (hfew : ((backTo cpos (starEach (e :: es) X.env)).all (fun x => !x.1) && (backToKw cpos (keywordEach [] X.env)).all (fun x => x.1.isSome)
      && decide ((e :: es).length + ([] : List Keyword).length + (if ([] : List Keyword).isEmpty then 0 else 1) < 30)) = true := by rfl)
    (hline : (apos.endLine == cpos.line) = true := by rfl) (hs : starEach (e :: es) X.env = (false, eval e X.env) :: starEach es X.env := by rfl) (hplain : (backTo cpos (starEach es X.env)).any (·.1) = false := by rfl) :
    JE X (.Call (.Attribute o name apos) (e :: es) [] cpos) (dBM dr to t) := by
  obtain ⟨u, p, g⟩ := ho
  obtain ⟨u', p', g'⟩ := ha
  refine je_pe (pe_bm PySem.F.plainAttrs_list slot hty hm p p' hbase hfew hline hs hplain) fun ds σ H M Q Q0 s m q k => ?_
  refine g ds σ H M _ _ s m q fun v H1 d M1 r1 m1 g1 q1 => ⟨isLst_ty r1 m1 q1.1, ?_⟩
  refine g' ds σ H1 M1 _ _ (s.gg m g1) m1 q1.2 fun vs H2 xs M2 r2 m2 g2 q2 => ?_
  exact hl v vs d xs H2 M2 Q Q0 (VR.mono (g2.tx m1) _ _ r1) r2 m2 q2 fun w H3 d3 M3 r3 m3 g3 q3 => k w H3 d3 M3 r3 m3 ((g1.trans g2).trans g3) q3
end
def appendR : DRM := fun x xs M Q => match x, xs with
  | .ref a, [d] => (match lstOf M a with | some ys => ys.length < sizeLine ∧ Q .non (mup M a (.lst (ys ++ [d]))) | none => False)
  | _, _ => False
theorem lift_append {K : PySem.W.Frag} : LiftM K rAppend appendR := by
  intro x vs dx ds H M Q Q0 rx rs m h k
  unfold appendR at h
  split at h
  · rename_i a d
    cases rx.ref_v
    obtain ⟨v, rfl, r1⟩ := rs.one
    split at h
    · rename_i ys e
      obtain ⟨hz, h⟩ := h
      obtain ⟨us, h1, r2⟩ := m a _ (of_lstOf e)
      have t := TX.put (u := .lst (us ++ [v])) m (of_lstOf e)
      refine ⟨a, us, v, rfl, rfl, h1, by rw [← r2.length]; exact hz, ?_⟩
      exact k _ _ _ _ .non (m.put (w := .lst (ys ++ [d])) (of_lstOf e) ⟨_, upd_same, VRs.append (VRs.mono t _ _ r2) (.cons (VR.mono t _ _ r1) .nil)⟩) (GG.put (of_lstOf e)) h
    · exact h.elim
  · exact h.elim
def popR : DRM := fun x xs M Q => match x, xs with
  | .ref a, [] => (match lstOf M a with | some ys => (match ys[ys.length - 1]? with | some d => Q d (mup M a (.lst ys.dropLast)) | none => False) | none => False)
  | _, _ => False
theorem lift_pop {K : PySem.W.Frag} : LiftM K rPop popR := by
  intro x vs dx ds H M Q Q0 rx rs m h k
  unfold popR at h
  split at h
  · rename_i a
    cases rx.ref_v
    cases rs
    split at h
    · rename_i ys e
      split at h
      · rename_i d e2
        obtain ⟨us, h1, r2⟩ := m a _ (of_lstOf e)
        rw [r2.length] at e2
        obtain ⟨v, e3, r3⟩ := r2.get e2
        have t := TX.put (u := .lst us.dropLast) m (of_lstOf e)
        exact ⟨a, us, v, rfl, rfl, h1, e3, k _ _ _ _ (VR.mono t _ _ r3) (m.put (w := .lst ys.dropLast) (of_lstOf e) ⟨_, upd_same, (VRs.mono t _ _ r2).dropLast⟩) (GG.put (of_lstOf e)) h⟩
      · exact h.elim
    · exact h.elim
  · exact h.elim
def popAtR : DRM := fun x xs M Q => match x, xs with
  | .ref a, [.int i] => (match lstOf M a with | some ys => (0 ≤ i ∧ i < 2 ^ 62) ∧ (match ys[i.toNat]? with | some d => Q d (mup M a (.lst (ys.eraseIdx i.toNat))) | none => False) | none => False)
  | _, _ => False
theorem lift_popAt {K : PySem.W.Frag} : LiftM K rPopAt popAtR := by
  intro x vs dx ds H M Q Q0 rx rs m h k
  unfold popAtR at h
  split at h
  · rename_i a i
    cases rx.ref_v
    obtain ⟨v, rfl, r1⟩ := rs.one
    cases r1.int_v
    split at h
    · rename_i ys e
      obtain ⟨⟨h0, hi⟩, h⟩ := h
      split at h
      · rename_i d e2
        obtain ⟨us, h1, r2⟩ := m a _ (of_lstOf e)
        obtain ⟨v, e3, r3⟩ := r2.get e2
        have t := TX.put (u := .lst (us.eraseIdx i.toNat)) m (of_lstOf e)
        have hlt := (List.getElem?_eq_some_iff.mp e3).1
        refine ⟨a, us, i, i.toNat, v, rfl, rfl, h1, by omega, by omega, ?_, e3, ?_⟩
        · exact seqIndex_of h0 (by omega)
        · exact k _ _ _ _ (VR.mono t _ _ r3) (m.put (w := .lst (ys.eraseIdx i.toNat)) (of_lstOf e) ⟨_, upd_same, (VRs.mono t _ _ r2).eraseIdx _⟩) (GG.put (of_lstOf e)) h
      · exact h.elim
    · exact h.elim
  · exact h.elim
def insertR : DRM := fun x xs M Q => match x, xs with
  | .ref a, [.int i, d] => (match lstOf M a with | some ys => (ys.length < sizeLine ∧ 0 ≤ i ∧ i < 2 ^ 62) ∧ Q .non (mup M a (.lst (ys.take i.toNat ++ [d] ++ ys.drop i.toNat))) | none => False)
  | _, _ => False
def insertT : V → List V → Hp → VK → Prop := fun x vs H Q => ∃ (l : Addr) (xs : List V) (i : Int) (y : V), x = .ref l ∧ vs = [.int i, y] ∧ H l = some (.lst xs) ∧ xs.length < sizeLine ∧ 0 ≤ i ∧ i < 2 ^ 63 ∧
    Q .non (upd H l (.lst (xs.take i.toNat ++ [y] ++ xs.drop i.toNat)))
theorem lift_insert {K : PySem.W.Frag} : LiftM K insertT insertR := by
  intro x vs dx ds H M Q Q0 rx rs m h k
  unfold insertR at h
  split at h
  · rename_i a i d
    cases rx.ref_v
    obtain ⟨v, w, rfl, r1, r4⟩ := rs.two
    cases r1.int_v
    split at h
    · rename_i ys e
      obtain ⟨⟨hz, h0, hi⟩, h⟩ := h
      obtain ⟨us, h1, r2⟩ := m a _ (of_lstOf e)
      have t := TX.put (u := .lst (us.take i.toNat ++ [w] ++ us.drop i.toNat)) m (of_lstOf e)
      have r2' := VRs.mono t _ _ r2
      refine ⟨a, us, i, w, rfl, rfl, h1, by rw [← r2.length]; exact hz, h0, by omega, ?_⟩
      exact k _ _ _ _ .non (m.put (w := .lst (ys.take i.toNat ++ [d] ++ ys.drop i.toNat)) (of_lstOf e) ⟨_, upd_same, VRs.append (VRs.append (r2'.take _) (.cons (VR.mono t _ _ r4) .nil)) (r2'.drop _)⟩) (GG.put (of_lstOf e)) h
    · exact h.elim
  · exact h.elim
def extendR : DRM := fun x xs M Q => match x, xs with
  | .ref a, [.ref b] => (match lstOf M a, lstOf M b with | some ys, some zs => ys.length + zs.length ≤ sizeLine ∧ Q .non (mup M a (.lst (ys ++ zs))) | _, _ => False)
  | _, _ => False
theorem lift_extend {K : PySem.W.Frag} : LiftM K rExtend extendR := by
  intro x vs dx ds H M Q Q0 rx rs m h k
  unfold extendR at h
  split at h
  · rename_i a b
    cases rx.ref_v
    obtain ⟨v, rfl, r1⟩ := rs.one
    cases r1.ref_v
    split at h
    · rename_i ys zs e e2
      obtain ⟨hz, h⟩ := h
      obtain ⟨us, h1, r2⟩ := m a _ (of_lstOf e)
      obtain ⟨ws, h2, r3⟩ := m b _ (of_lstOf e2)
      have t := TX.put (u := .lst (us ++ ws)) m (of_lstOf e)
      refine ⟨a, b, us, ws, rfl, rfl, h1, h2, by rw [← r2.length, ← r3.length]; exact hz, ?_⟩
      exact k _ _ _ _ .non (m.put (w := .lst (ys ++ zs)) (of_lstOf e) ⟨_, upd_same, VRs.append (VRs.mono t _ _ r2) (VRs.mono t _ _ r3)⟩) (GG.put (of_lstOf e)) h
    · exact h.elim
  · exact h.elim
section
variable {X : Cx} {o e f : Expr} {to te tf : TDE} {apos cpos : Pos}
theorem je_append (ho : JE X o to) (ha : JE X e te) (hbase : attributeBase o "append" X.env (eval o X.env) = eval o X.env := by rfl)
    (hfew : ((backTo cpos (starEach [e] X.env)).all (fun x => !x.1) && (backToKw cpos (keywordEach [] X.env)).all (fun x => x.1.isSome)
      && decide (([e]).length + ([] : List Keyword).length + (if ([] : List Keyword).isEmpty then 0 else 1) < 30)) = true := by rfl)
    (hline : (apos.endLine == cpos.line) = true := by rfl) (hs : starEach [e] X.env = (false, eval e X.env) :: starEach [] X.env := by rfl) (hplain : (backTo cpos (starEach [] X.env)).any (·.1) = false := by rfl) :
    JE X (.Call (.Attribute o "append" apos) [e] [] cpos) (dBM appendR to (dCons te dNil)) := je_bm PySem.F.slot_list_append PySem.F.type_list_append mt_append lift_append ho (ja_cons ha ja_nil hs) hbase hfew hline hs hplain
theorem je_extend (ho : JE X o to) (ha : JE X e te) (hbase : attributeBase o "extend" X.env (eval o X.env) = eval o X.env := by rfl)
    (hfew : ((backTo cpos (starEach [e] X.env)).all (fun x => !x.1) && (backToKw cpos (keywordEach [] X.env)).all (fun x => x.1.isSome)
      && decide (([e]).length + ([] : List Keyword).length + (if ([] : List Keyword).isEmpty then 0 else 1) < 30)) = true := by rfl)
    (hline : (apos.endLine == cpos.line) = true := by rfl) (hs : starEach [e] X.env = (false, eval e X.env) :: starEach [] X.env := by rfl) (hplain : (backTo cpos (starEach [] X.env)).any (·.1) = false := by rfl) :
    JE X (.Call (.Attribute o "extend" apos) [e] [] cpos) (dBM extendR to (dCons te dNil)) := je_bm PySem.F.slot_list_extend PySem.F.type_list_extend mt_extend lift_extend ho (ja_cons ha ja_nil hs) hbase hfew hline hs hplain
theorem je_pop0 (ho : JE X o to) (hbase : attributeBase o "pop" X.env (eval o X.env) = eval o X.env := by rfl) (hline : (apos.endLine == cpos.line) = true := by rfl) :
    JE X (.Call (.Attribute o "pop" apos) [] [] cpos) (dBM0 popR to) := je_bm0 PySem.F.slot_list_pop PySem.F.type_list_pop mt_pop lift_pop ho hbase hline
theorem je_popAt (ho : JE X o to) (ha : JE X e te) (hbase : attributeBase o "pop" X.env (eval o X.env) = eval o X.env := by rfl)
    (hfew : ((backTo cpos (starEach [e] X.env)).all (fun x => !x.1) && (backToKw cpos (keywordEach [] X.env)).all (fun x => x.1.isSome)
      && decide (([e]).length + ([] : List Keyword).length + (if ([] : List Keyword).isEmpty then 0 else 1) < 30)) = true := by rfl)
    (hline : (apos.endLine == cpos.line) = true := by rfl) (hs : starEach [e] X.env = (false, eval e X.env) :: starEach [] X.env := by rfl) (hplain : (backTo cpos (starEach [] X.env)).any (·.1) = false := by rfl) :
    JE X (.Call (.Attribute o "pop" apos) [e] [] cpos) (dBM popAtR to (dCons te dNil)) := je_bm PySem.F.slot_list_pop PySem.F.type_list_pop mt_popAt lift_popAt ho (ja_cons ha ja_nil hs) hbase hfew hline hs hplain
theorem je_insert (ho : JE X o to) (ha : JE X e te) (hb : JE X f tf) (hbase : attributeBase o "insert" X.env (eval o X.env) = eval o X.env := by rfl)
    (hfew : ((backTo cpos (starEach [e, f] X.env)).all (fun x => !x.1) && (backToKw cpos (keywordEach [] X.env)).all (fun x => x.1.isSome)
      && decide (([e, f]).length + ([] : List Keyword).length + (if ([] : List Keyword).isEmpty then 0 else 1) < 30)) = true := by rfl)
    (hline : (apos.endLine == cpos.line) = true := by rfl) (hs : starEach [e, f] X.env = (false, eval e X.env) :: starEach [f] X.env := by rfl) (hs2 : starEach [f] X.env = (false, eval f X.env) :: starEach [] X.env := by rfl) (hplain : (backTo cpos (starEach [f] X.env)).any (·.1) = false := by rfl) :
    JE X (.Call (.Attribute o "insert" apos) [e, f] [] cpos) (dBM insertR to (dCons te (dCons tf dNil))) := je_bm PySem.F.slot_list_insert PySem.F.type_list_insert mt_insert lift_insert ho (ja_cons ha (ja_cons hb ja_nil hs2) hs) hbase hfew hline hs hplain
/-- sep.join(a list of its own of texts) -/
def dJoinL (to : TDE) (t : TDL) : TDE := fun ds M Q => to ds M fun x M1 => match x with
  | .str a => t ds M1 fun xs M2 => (match strsOf xs with | some ys => (ys.map (·.length)).sum + ys.length * a.length ≤ 16777216 ∧ Q (.str (Txt.join a ys)) M2 | none => False)
  | _ => False
theorem je_joinL {tl : TDL} (ho : JE X o to) (he : JL X e tl) (hs : starEach [e] X.env = [(false, eval e X.env)] := by rfl) (hbase : attributeBase o "join" X.env (eval o X.env) = eval o X.env := by rfl) (hline : (apos.endLine == cpos.line) = true := by rfl) :
    JE X (.Call (.Attribute o "join" apos) [e] [] cpos) (dJoinL to tl) := by
  obtain ⟨u, p, g⟩ := ho
  obtain ⟨u', p', g'⟩ := he
  refine je_pe (pe_join p p' hs hbase hline) fun ds σ H M Q Q0 s m q k => ?_
  refine g ds σ H M _ _ s m q fun v H1 d M1 r1 m1 g1 q1 => ?_
  cases d with
  | str a =>
    cases r1.str_v
    refine ⟨⟨a, rfl⟩, ?_⟩
    refine g' ds σ H1 M1 _ _ (s.gg m g1) m1 q1 fun p H2 xs vs M2 hp hp2 r2 n2 m2 g2 q2 => ?_
    split at q2
    · rename_i ys e
      exact ⟨a, p, ys, rfl, rfl, .inl (by rw [← strsOf_v r2 e]; exact SqL.of hp2), q2.1, k _ H2 _ M2 (.str _) m2 (g1.trans g2) q2.2⟩
    · exact q2.elim
  | _ => exact q1.elim
end

/-! ### dicts with keys that are ints and texts -/
def keyD : D → Option Key
  | .int i => some (.inl i)
  | .str x => some (.inr x)
  | _ => none
theorem keyD_v {K : PySem.W.Frag} {H : Hp} {d : D} {v : V} {k : Key} (r : VR K H d v) (h : keyD d = some k) : v = kV k := by
  cases r with
  | int i => cases h; rfl
  | str i => cases h; rfl
  | _ => cases h
def valD (kvs : List (Key × D)) (k : Key) : Option D := (kvs.find? fun kv => decide (kv.1 = k)).map (·.2)
def putD (kvs : List (Key × D)) (k : Key) (d : D) : List (Key × D) :=
  if (kvs.any fun kv => decide (kv.1 = k)) = true then kvs.map (fun kv => if kv.1 = k then (kv.1, d) else kv) else kvs ++ [(k, d)]
section
variable {K : PySem.W.Frag} {H : Hp}
theorem FR.val : ∀ {ds : List (Key × D)} {vs : List (Key × V)} {k : Key} {d : D}, FR K H ds vs → valD ds k = some d → ∃ v, valV vs k = some v ∧ VR K H d v
  | _, _, _, _, .nil, h => by simp [valD] at h
  | (k', d') :: ds, (_, v') :: vs, k, d, .cons r q, h => by
    unfold valD valV at *
    by_cases e : k' = k
    · simp [List.find?_cons, e] at h ⊢
      subst h
      exact r
    · simp only [List.find?_cons, e, decide_false] at h ⊢
      exact FR.val (k := k) (d := d) q h
theorem FR.valN : ∀ {ds : List (Key × D)} {vs : List (Key × V)} {k : Key}, FR K H ds vs → valD ds k = none → valV vs k = none
  | _, _, _, .nil, h => by simp [valV]
  | (k', d') :: ds, (_, v') :: vs, k, .cons r q, h => by
    unfold valD valV at *
    by_cases e : k' = k
    · simp [List.find?_cons, e] at h
    · simp only [List.find?_cons, e, decide_false] at h ⊢
      exact FR.valN (k := k) q h
theorem FR.any : ∀ {ds : List (Key × D)} {vs : List (Key × V)} {k : Key}, FR K H ds vs → (ds.any fun kv => decide (kv.1 = k)) = vs.any fun kv => decide (kv.1 = k)
  | _, _, _, .nil => rfl
  | (k', d') :: ds, (_, v') :: vs, k, .cons r q => by rw [List.any_cons, List.any_cons, FR.any q]
theorem FR.snoc {k : Key} {d : D} {v : V} (r : VR K H d v) : ∀ {ds : List (Key × D)} {vs : List (Key × V)}, FR K H ds vs → FR K H (ds ++ [(k, d)]) (vs ++ [(k, v)])
  | _, _, .nil => .cons r .nil
  | _, _, .cons q t => .cons q (FR.snoc r t)
theorem FR.repl {k : Key} {d : D} {v : V} (r : VR K H d v) : ∀ {ds : List (Key × D)} {vs : List (Key × V)}, FR K H ds vs → FR K H (ds.map fun kv => if kv.1 = k then (kv.1, d) else kv) (vs.map fun kv => if kv.1 = k then (kv.1, v) else kv)
  | _, _, .nil => .nil
  | (k', d') :: ds, (_, v') :: vs, .cons q t => by
    rw [List.map_cons, List.map_cons]
    by_cases e : k' = k
    · simp only [e, if_true]
      exact .cons r (FR.repl r t)
    · simp only [e, if_false]
      exact .cons q (FR.repl r t)
theorem FR.put {k : Key} {d : D} {v : V} (r : VR K H d v) {ds : List (Key × D)} {vs : List (Key × V)} (h : FR K H ds vs) : FR K H (putD ds k d) (putK vs k v) := by
  unfold putD putK
  rw [h.any]
  split
  · exact h.repl r
  · exact h.snoc r
end
def dicOf (M : Mm) (a : Addr) : Option (List (Key × D)) := match M a with | some (.dic kvs) => some kvs | _ => none
theorem dicOf_some {M : Mm} {a : Addr} {xs : List (Key × D)} (h : M a = some (.dic xs)) : dicOf M a = some xs := by unfold dicOf; rw [h]
theorem of_dicOf {M : Mm} {a : Addr} {xs : List (Key × D)} (h : dicOf M a = some xs) : M a = some (.dic xs) := by
  unfold dicOf at h
  split at h
  · cases h; assumption
  · cases h
def dgetR : DR2 := fun x y M Q => match x, keyD y with
  | .ref a, some k => (match dicOf M a with | some kvs => (match valD kvs k with | some d => Q d M | none => False) | none => False)
  | _, _ => False
section
variable {X : Cx} {o i e : Expr} {to ti te : TDE} {pos pos' : Pos} {k : Nat}
theorem je_dget (hr : Room k X.A) (ho : JE X o to) (hi : JE X i ti) (hs : NoSl i := by exact fun _ _ => rfl) : JE X (.Subscript o i pos) (dOp dgetR to ti) := by
  obtain ⟨u, p, g⟩ := ho
  obtain ⟨u', p', g'⟩ := hi
  refine je_pe (pe_dget (hu_of hr) p p' hs) fun ds σ H M Q Q0 s m q kk => ?_
  refine g ds σ H M _ _ s m q fun v H1 d M1 r1 m1 g1 q1 => ?_
  refine g' ds σ H1 M1 _ _ (s.gg m g1) m1 q1 fun w H2 d2 M2 r2 m2 g2 q2 => ?_
  unfold dgetR at q2
  split at q2
  · rename_i a k e1
    cases r1.ref_v
    split at q2
    · rename_i kvs e2
      split at q2
      · rename_i d3 e3
        obtain ⟨vs, h1, r3⟩ := m2 a _ (of_dicOf e2)
        obtain ⟨z, e4, r4⟩ := r3.val e3
        rw [keyD_v r2 e1]
        exact ⟨a, z, rfl, by rw [← e4]; exact DGet.k h1, kk _ H2 _ M2 r4 m2 (g1.trans g2) q2⟩
      · exact q2.elim
    · exact q2.elim
  · exact q2.elim
/-- o[i] = e, o a dict -/
def dputS (te to ti : TDE) : TDS := fun D ds M => te ds M fun v M1 => to ds M1 fun x M2 => ti ds M2 fun y M3 => match x, keyD y with
  | .ref a, some k => (match dicOf M3 a with | some kvs => kvs.length < sizeLine ∧ D.nx ds (mup M3 a (.dic (putD kvs k v))) | none => False)
  | _, _ => False
theorem js_dput (hr : Room k X.A) (ho : JE X o to) (hi : JE X i ti) (he : JE X e te) (hs : swapsWith e (some (.Subscript o i pos')) pos.line X.env = pure false := by rfl) : JS X (.Assign [.Subscript o i pos'] e pos) (dputS te to ti) := by
  obtain ⟨u, p, g⟩ := ho
  obtain ⟨u', p', g'⟩ := hi
  obtain ⟨ue, pe, ge⟩ := he
  refine ⟨_, ps_dput (hu_of hr) p p' pe hs, fun M0 H0 D0 D1 l ds σ H M gg s m q => ?_⟩
  refine ge ds σ H M _ _ s m q fun v H1 d M1 r1 m1 g1 q1 => ?_
  refine g ds σ H1 M1 _ _ (s.gg m g1) m1 q1 fun w H2 d2 M2 r2 m2 g2 q2 => ?_
  refine g' ds σ H2 M2 _ _ (s.gg m (g1.trans g2)) m2 q2 fun z H3 d3 M3 r3 m3 g3 q3 => ?_
  split at q3
  · rename_i a k e1
    cases r2.ref_v
    split at q3
    · rename_i kvs e2
      obtain ⟨hz, q3⟩ := q3
      obtain ⟨vs, h1, r4⟩ := m3 a _ (of_dicOf e2)
      rw [keyD_v r3 e1]
      refine ⟨a, _, rfl, DPut.k h1 (by rw [← r4.length]; exact hz), ?_⟩
      have t := TX.put (u := .dK (putK vs k v)) m3 (of_dicOf e2)
      have r1' : VR X.K H3 d v := VR.mono ((g2.trans g3).tx m1) _ _ r1
      have gp : GG M3 H3 (mup M3 a (.dic (putD kvs k d))) (upd H3 a (.dK (putK vs k v))) := GG.put (of_dicOf e2)
      exact l.nx σ ds _ _ ((((gg.trans g1).trans g2).trans g3).trans gp) ((s.gg m ((g1.trans g2).trans g3)).gg m3 gp)
        (m3.put (w := .dic (putD kvs k d)) (of_dicOf e2) ⟨_, upd_same, (r4.mono t).put (VR.mono t _ _ r1')⟩) q3
    · exact q3.elim
  · exact q3.elim
/-- {} -/
def dDict0 : TDE := fun _ M Q => ∀ p, M p = none → Q (.ref p) (mup M p (.dic []))
theorem je_dict0 : JE X (.Dict [] [] pos) dDict0 := je_pe pe_dnewK fun ds σ H M Q Q0 s m q k p hp => k _ _ _ _ (.ref p) (m.new (w := .dic []) hp ⟨[], upd_same, .nil⟩) (GG.new hp) (q p (m.free hp))
end
end DL

namespace DL
open PySem L2
open PyProof.Rows (b2i)

/-! ### a list, a tuple or a text that is walked -/
theorem pi_any {X : Cx} {tg l : Expr} {tl : TE} (hl : PE X l tl) : PI X tg l (fun σ H R => tl σ H fun x H1 => (∃ a, x = .ref a ∧ (∃ xs, SqL X.K H1 a xs) ∧ R (Itl X.K a) H1) ∨ (∃ a, x = .ref a ∧ (∃ xs, SqT X.K H1 a xs) ∧ R (Itt X.K a) H1) ∨ ∃ z, x = .str z ∧ R (Its z) H1) := by
  refine ⟨fun pins s σ H R I h => ?_⟩
  refine thn (hl.run pins s σ H _ I h) fun v s1 ⟨x, H1, I1, r1, q1⟩ => ?_
  rcases q1 with ⟨a, e, ⟨xs, hq⟩, q⟩ | ⟨a, e, ⟨xs, hq⟩, q⟩ | ⟨z, e, q⟩
  · subst e
    cases r1
    obtain ⟨its, rv, p, hz⟩ := I1.list hq
    refine wpAny_pyIter_list p.isList ?_
    refine ⟨s1.heap.objs.size, [s1.heap.objs.size], _, _, H1, rfl, I1.kept (t' := s1.toks) fun b o e => Heap.get?_push_of_some _ e, turn_list a _, ⟨_, Heap.get?_push_size _ rfl, rfl, rfl⟩, fun b hb => ?_, q⟩
    have e : b = s1.heap.objs.size := by simpa using hb
    subst e
    exact I1.fpOk (Nat.le_refl _) (I1.hok.fresh (Nat.le_refl _))
  · subst e
    cases r1
    obtain ⟨its, rv, p, hz⟩ := I1.tuple hq
    refine wpAny_pyIter_tuple (show s1.heap.IsTuple a its.toArray from p) ?_
    refine ⟨s1.heap.objs.size, [s1.heap.objs.size], _, _, H1, rfl, I1.kept (t' := s1.toks) fun b o e => Heap.get?_push_of_some _ e, turn_tuple a _, ⟨_, Heap.get?_push_size _ rfl, rfl, rfl⟩, fun b hb => ?_, q⟩
    have e : b = s1.heap.objs.size := by simpa using hb
    subst e
    exact I1.fpOk (Nat.le_refl _) (I1.hok.fresh (Nat.le_refl _))
  · subst e
    obtain ⟨t, rfl⟩ := r1
    cases ha : z.cps.all (· < 128)
    · exact wpAny_pyIter_wide ha (pi_one (tk := s1.toks) I1 _ (turn_str _ z t "str_iterator" (.inr rfl)) ⟨_, Heap.get?_push_size _ rfl, rfl, rfl⟩ q)
    · exact wpAny_pyIter_ascii ha (pi_one (tk := s1.toks) I1 _ (turn_str _ z t "str_ascii_iterator" (.inl rfl)) ⟨_, Heap.get?_push_size _ rfl, rfl, rfl⟩ q)
def diAny (te : TDE) : TDI := fun ds M Q => te ds M fun x M1 => match x with
  | .tup xs => Q ⟨xs, fun _ => True⟩ M1
  | .str z => Q ⟨signs z, fun _ => True⟩ M1
  | .ref a => (match lstOf M1 a with | some xs => Q ⟨xs, fun M' => lstOf M' a = some xs⟩ M1 | none => False)
  | _ => False
theorem ji_any {X : Cx} {tg e : Expr} {te : TDE} (h : JE X e te) : JI X tg e (diAny te) := by
  obtain ⟨u, p, g⟩ := h
  refine ⟨_, pi_any p, fun ds σ H M Q R0 s m q k => ?_⟩
  refine g ds σ H M _ _ s m q fun v H1 d M1 r1 m1 g1 q1 => ?_
  cases d with
  | tup xs =>
    obtain ⟨a, vs, rfl, sa, ra⟩ := r1.tup_v
    exact .inr (.inl ⟨a, rfl, ⟨vs, sa⟩, k _ H1 _ M1 (it_tup sa ra m1) m1 g1 q1⟩)
  | str z =>
    cases r1.str_v
    exact .inr (.inr ⟨z, rfl, k _ H1 _ M1 it_str m1 g1 q1⟩)
  | ref a =>
    cases r1.ref_v
    simp only at q1
    split at q1
    · rename_i xs e
      obtain ⟨vs, h1, r2⟩ := m1 a _ (of_lstOf e)
      exact .inl ⟨a, rfl, ⟨vs, SqL.of h1⟩, k _ H1 _ M1 it_lst m1 g1 q1⟩
    · exact q1.elim
  | _ => exact q1.elim

/-! ### subscripts of sequences and dicts -/
open PyProof.Rows in
theorem ix_dict {X : Cx} (hu : X.A.units + 1 < cLine) : IxR X (fun x y H Q => ∃ a v, x = .ref a ∧ DGet H a y (some v) ∧ Q v H) := by
  intro value slice pins s σ H x y v u Q I rx ry h hs
  obtain ⟨a, z, rfl, g, q⟩ := h
  obtain rfl : v = Value.ref a := rx
  have hT := dict_typeIs I g
  have h₂ : wpAny (model X.prog X.w) X.A (getItem (.ref a) u) (EP X pins σ Q) X.xe s := d_getItem hu I g ry fun w' s3 I3 rw' => ⟨z, H, I3, rw', q⟩
  unfold subscriptTail
  refine wpAny_bind ?_
  rw [getitemInPython_of_ne hT.not_modules]
  refine wpAny_bind (wpAny_specialOf hT PySem.F.slot_dict_getitem.lookup ?_)
  have fin : wpAny (model X.prog X.w) X.A (subscripted slice false (.ref a) u) (fun r s₃ => wpAny (model X.prog X.w) X.A (letTemporaryGo value (.ref a) r >>= fun _ => pure r) (EP X pins σ Q) X.xe s₃) X.xe s := by
    rw [hs]
    exact wpAny_operating (wpAny_mono h₂ (fun r s₃ h₃ => wpAny_bind (wpAny_letTemporaryGo (wpAny_pure h₃))) fun _ _ x => x)
  first
    | exact wpAny_pure (wpAny_bind fin)
    | exact wpAny_bind (wpAny_pure (wpAny_bind fin))
    | exact wpAny_bind fin
def ixA : DR2 := fun x y M Q => match x with
  | .ref a => (match M a with
    | some (.lst xs) => (match y with | .int i => (match atI xs i with | some d => Q d M | none => False) | _ => False)
    | some (.dic kvs) => (match keyD y with | some k => (match valD kvs k with | some d => Q d M | none => False) | none => False)
    | _ => False)
  | _ => ixR x y M Q
theorem lift_ixA {K : PySem.W.Frag} : Lift2 K (fun x y H Q => rIx K x y H Q ∨ ∃ a v, x = .ref a ∧ DGet H a y (some v) ∧ Q v H) ixA := by
  intro x y dx dy H M Q Q0 rx ry m h k
  by_cases hd : ∃ a kvs, dx = .ref a ∧ M a = some (.dic kvs)
  · obtain ⟨a, kvs, rfl, e⟩ := hd
    cases rx.ref_v
    unfold ixA at h
    simp only [e] at h
    split at h
    · rename_i kk e1
      split at h
      · rename_i d3 e3
        obtain ⟨vs, h1, r3⟩ := m a _ e
        obtain ⟨z, e4, r4⟩ := r3.val e3
        rw [keyD_v ry e1]
        exact .inr ⟨a, z, rfl, by rw [← e4]; exact DGet.k h1, k _ H _ M r4 m GG.refl h⟩
      · exact h.elim
    · exact h.elim
  · refine .inl (lift_ix x y dx dy H M Q Q0 rx ry m ?_ k)
    cases dx with
    | ref a =>
      unfold ixA at h
      simp only at h
      split at h
      · rename_i xs e
        split at h
        · split at h
          · rename_i i d e2
            unfold ixR
            simp only [lstOf_some e, e2]
            exact h
          · exact h.elim
        · exact h.elim
      · rename_i kvs e
        exact absurd ⟨a, kvs, rfl, e⟩ hd
      · exact h.elim
    | _ => exact h
theorem je_ixA {X : Cx} {a b : Expr} {ta tb : TDE} {pos : Pos} {k : Nat} (hr : Room k X.A) (ha : JE X a ta) (hb : JE X b tb) (hs : PlainIx b := by exact fun _ _ => rfl) : JE X (.Subscript a b pos) (dOp ixA ta tb) := by
  obtain ⟨u, p, g⟩ := ha
  obtain ⟨u', p', g'⟩ := hb
  exact je_pe (pe_ix (ix_seq.or (ix_dict (hu_of hr))) p p' hs) (op2 lift_ixA g g')

/-! ### what a pure value is, is told by the heap -/
section
variable {X : Cx} {pins : List (Addr × Obj)} {σ : L2.St} {H : Hp} {s : Shared}
mutual
theorem VR_inj (I : Inv X pins σ H s) : ∀ (d e : D) (v : V), VR X.K H d v → VR X.K H e v → pureD d = true → pureD e = true → d = e
  | .non, e, _, r, q, _, _ => by cases r; cases q; rfl
  | .bl _, e, _, r, q, _, _ => by cases r; cases q; rfl
  | .int _, e, _, r, q, _, _ => by cases r; cases q; rfl
  | .str _, e, _, r, q, _, _ => by cases r; cases q; rfl
  | .ref _, _, _, _, _, h, _ => by simp [pureD] at h
  | .ty _, _, _, _, _, h, _ => by simp [pureD] at h
  | .tup xs, e, _, r, q, h, h' => by
    obtain ⟨a, vs, rfl, sa, ra⟩ := r.tup_v
    cases q with
    | ref _ => simp [pureD] at h'
    | @tup ys _ ws sb rb =>
      have := I.tuple_inj sa sb
      subst this
      rw [VRs_inj I xs ys vs ra rb (by simpa [pureD] using h) (by simpa [pureD] using h')]
theorem VRs_inj (I : Inv X pins σ H s) : ∀ (ds es : List D) (vs : List V), VRs X.K H ds vs → VRs X.K H es vs → pureDs ds = true → pureDs es = true → ds = es
  | [], es, _, r, q, _, _ => by cases r; cases q; rfl
  | d :: ds, es, _, r, q, h, h' => by
    cases r with
    | cons r1 r2 =>
      cases q with
      | cons q1 q2 =>
        have h1 := Bool.and_eq_true_iff.mp (show (pureD d && pureDs ds) = true by simpa [pureDs] using h)
        have h2 := Bool.and_eq_true_iff.mp (show (pureD _ && pureDs _) = true by simpa [pureDs] using h')
        rw [VR_inj I d _ _ r1 q1 h1.1 h2.1, VRs_inj I ds _ _ r2 q2 h1.2 h2.2]
end
/-- the answers by the items' values -/
noncomputable def eqBy (ys : List D) (us : List Value) (d : D) (u : Value) : Bool := by
  classical
  exact if h : ∃ j : Nat, us[j]? = some u ∧ j < ys.length then (match ys[h.choose]? with | some y => eqvD y d | none => false) else false
theorem eqBy_of (I : Inv X pins σ H s) {ys : List D} {vs : List V} {us : List Value} {d : D} (r : VRs X.K H ys vs) (rv : Vals vs us) (hp : pureDs ys = true) {j : Nat} {y : D} {u : Value} (hy : ys[j]? = some y) (hu : us[j]? = some u) : eqBy ys us d u = eqvD y d := by
  have hj : j < ys.length := (List.getElem?_eq_some_iff.mp hy).1
  have h : ∃ j : Nat, us[j]? = some u ∧ j < ys.length := ⟨j, hu, hj⟩
  unfold eqBy
  rw [dif_pos h]
  obtain ⟨h1, h2⟩ := h.choose_spec
  obtain ⟨y', hy'⟩ : ∃ y', ys[h.choose]? = some y' := ⟨_, List.getElem?_eq_getElem h2⟩
  rw [hy']
  obtain ⟨v, hv, q⟩ := r.get hy
  obtain ⟨v', hv', q'⟩ := r.get hy'
  obtain ⟨w, hw, rw1⟩ := rv.get hv
  obtain ⟨w', hw', rw2⟩ := rv.get hv'
  rw [hu] at hw
  rw [h1] at hw'
  cases hw
  cases hw'
  have e := rw1.inj rw2
  subst e
  show eqvD y' d = eqvD y d
  rw [VR_inj I y y' v q q' (pureDs_get hp hy) (pureDs_get hp hy')]
theorem any_eqBy (I : Inv X pins σ H s) {ys : List D} {vs : List V} {us : List Value} {d : D} (r : VRs X.K H ys vs) (rv : Vals vs us) (hp : pureDs ys = true) : us.toArray.any (eqBy ys us d) = ys.any fun y => eqvD y d := by
  have hl : us.length = ys.length := by rw [← rv.length, ← r.length]
  have e : us.toArray.any (eqBy ys us d) = us.any (eqBy ys us d) := by simp
  rw [e, Bool.eq_iff_iff, List.any_eq_true, List.any_eq_true]
  constructor
  · rintro ⟨u, hu, h⟩
    obtain ⟨j, hj, hj2⟩ := List.getElem_of_mem hu
    have h1 : us[j]? = some u := by rw [List.getElem?_eq_getElem hj, hj2]
    have h2 : ys[j]? = some ys[j] := List.getElem?_eq_getElem (by omega)
    rw [eqBy_of I r rv hp h2 h1] at h
    exact ⟨_, List.getElem_mem _, h⟩
  · rintro ⟨y, hy, h⟩
    obtain ⟨j, hj, hj2⟩ := List.getElem_of_mem hy
    have h1 : us[j]? = some us[j] := List.getElem?_eq_getElem (by omega)
    have h2 : ys[j]? = some y := by rw [List.getElem?_eq_getElem hj, hj2]
    exact ⟨_, List.getElem_mem _, by rw [eqBy_of I r rv hp h2 h1]; exact h⟩
theorem mem_eqBy (I : Inv X pins σ H s) {ys : List D} {vs : List V} {us : List Value} {d : D} {v : V} {t : Value} {A : Around} (r : VRs X.K H ys vs) (rv : Vals vs us) (hp : pureDs ys = true) (rd : VR X.K H d v) (rt : RelV v t) (hd : pureD d = true)
    (hu : A.units + 100 < cLine) (hb : depDs ys ≤ 100) : ∀ u, u ∈ us.toArray → SeqAt.EqAt A s u t (eqBy ys us d u) := by
  intro u hm
  have hl : us.length = ys.length := by rw [← rv.length, ← r.length]
  have hm' : u ∈ us := by simpa using hm
  obtain ⟨j, hj, hj2⟩ := List.getElem_of_mem hm'
  have h1 : us[j]? = some u := by rw [List.getElem?_eq_getElem hj, hj2]
  have h2 : ys[j]? = some ys[j] := List.getElem?_eq_getElem (by omega)
  rw [eqBy_of I r rv hp h2 h1]
  obtain ⟨z, hz, q⟩ := r.get h2
  obtain ⟨u', hu', q2⟩ := rv.get hz
  rw [h1] at hu'
  cases hu'
  have := depDs_get h2
  exact eqAt_D I _ d z v u t A q rd q2 rt (pureDs_get hp h2) hd (by omega)
end

/-! ### in, not in -/
def inStr (c z : Str) : Bool := !(Builtin.Str.occurrences z c 0 z.length 1).isEmpty
theorem inStr_sign (c : Nat) (z : Str) : inStr ⟨#[c]⟩ z = decide (c ∈ z.cps.toList) := PySem.StrLaws.found_one z c
def memC (ys : List D) (d : D) : Prop := pureD d = true ∧ pureDs ys = true ∧ depDs ys ≤ 100
def inAny (ys : List D) (d : D) : Bool := ys.any fun y => eqvD y d
def inQ (neg : Bool) : DR2 := fun x y M Q => match y with
  | .str z => (match x with | .str c => Q (.bl (neg != inStr c z)) M | _ => False)
  | .tup ys => memC ys x ∧ Q (.bl (neg != inAny ys x)) M
  | .ref a => (match M a with
    | some (.lst ys) => memC ys x ∧ Q (.bl (neg != inAny ys x)) M
    | some (.dic kvs) => (match keyD x with | some k => Q (.bl (neg != (valD kvs k).isSome)) M | none => False)
    | _ => False)
  | _ => False
abbrev inR : DR2 := inQ false
abbrev notInR : DR2 := inQ true
theorem op_inT {X : Cx} (hu : X.A.units + 150 < cLine) : OpD X (compareOp .In) inR := by
  intro pins s σ H M d e x y v u Q Q0 I m rd re rx ry hq k
  have hu1 : X.A.in1.units + 100 < cLine := by show X.A.units + 1 + 100 < cLine; omega
  cases e with
  | str z =>
    cases re.str_v
    obtain ⟨t, rfl⟩ := ry
    cases d with
    | str c =>
      cases rd.str_v
      obtain ⟨t', rfl⟩ := rx
      have hq' : Q (.bl (inStr c z)) M := by simpa [inQ] using hq
      exact PyProof.Rows.in_str ⟨.bl _, H, I, rfl, k _ H _ M (.bl _) m GG.refl hq'⟩
    | _ => exact hq.elim
  | tup ys =>
    obtain ⟨a, ws, rfl, sa, ra⟩ := re.tup_v
    obtain ⟨its, rv, ht⟩ := tup_at I sa
    cases ry
    obtain ⟨⟨p1, p2, p3⟩, hq'⟩ : memC ys d ∧ Q (.bl (inAny ys d)) M := by simpa [inQ] using hq
    refine SeqAt.in_tupleAt (eqBy ys its d) ht (mem_eqBy I ra rv p2 rd rx p1 hu1 p3) ?_
    rw [any_eqBy I ra rv p2]
    exact ⟨.bl _, H, I, rfl, k _ H _ M (.bl _) m GG.refl hq'⟩
  | ref a =>
    cases re.ref_v
    cases ry
    cases eM : M a with
    | none => simp [inQ, eM] at hq
    | some o =>
      cases o with
      | lst ys =>
        obtain ⟨ws, h1, ra⟩ := m a _ eM
        obtain ⟨its, rv, ht⟩ := lst_at I (SqL.of h1)
        obtain ⟨⟨p1, p2, p3⟩, hq'⟩ : memC ys d ∧ Q (.bl (inAny ys d)) M := by simpa [inQ, eM] using hq
        refine SeqAt.in_listAt (eqBy ys its d) ht (mem_eqBy I ra rv p2 rd rx p1 hu1 p3) ?_
        rw [any_eqBy I ra rv p2]
        exact ⟨.bl _, H, I, rfl, k _ H _ M (.bl _) m GG.refl hq'⟩
      | dic kvs =>
        obtain ⟨ws, h1, ra⟩ := m a _ eM
        cases ek : keyD d with
        | none => simp [inQ, eM, ek] at hq
        | some kk =>
          have hq' : Q (.bl (valD kvs kk).isSome) M := by simpa [inQ, eM, ek] using hq
          have hv := keyD_v rd ek
          subst hv
          refine d_in (by omega) I (DGet.k h1) rx fun s' I' => ⟨.bl _, H, I', rfl, ?_⟩
          have : (valV ws kk).isSome = (valD kvs kk).isSome := by
            cases e3 : valD kvs kk with
            | none => rw [ra.valN e3]; rfl
            | some d3 => obtain ⟨z, e4, _⟩ := ra.val e3; rw [e4]; rfl
          rw [this]
          exact k _ H _ M (.bl _) m GG.refl hq'
      | ins _ _ => simp [inQ, eM] at hq
  | _ => exact hq.elim
theorem op_notInT {X : Cx} (hu : X.A.units + 150 < cLine) : OpD X (compareOp .NotIn) notInR := by
  intro pins s σ H M d e x y v u Q Q0 I m rd re rx ry hq k
  have hu1 : X.A.in1.units + 100 < cLine := by show X.A.units + 1 + 100 < cLine; omega
  cases e with
  | str z =>
    cases re.str_v
    obtain ⟨t, rfl⟩ := ry
    cases d with
    | str c =>
      cases rd.str_v
      obtain ⟨t', rfl⟩ := rx
      have hq' : Q (.bl (!inStr c z)) M := by simpa [inQ] using hq
      exact PyProof.Rows.notIn_str ⟨.bl _, H, I, rfl, k _ H _ M (.bl _) m GG.refl hq'⟩
    | _ => exact hq.elim
  | tup ys =>
    obtain ⟨a, ws, rfl, sa, ra⟩ := re.tup_v
    obtain ⟨its, rv, ht⟩ := tup_at I sa
    cases ry
    obtain ⟨⟨p1, p2, p3⟩, hq'⟩ : memC ys d ∧ Q (.bl (!inAny ys d)) M := by simpa [inQ] using hq
    refine SeqAt.notIn_tupleAt (eqBy ys its d) ht (mem_eqBy I ra rv p2 rd rx p1 hu1 p3) ?_
    rw [any_eqBy I ra rv p2]
    exact ⟨.bl _, H, I, rfl, k _ H _ M (.bl _) m GG.refl hq'⟩
  | ref a =>
    cases re.ref_v
    cases ry
    cases eM : M a with
    | none => simp [inQ, eM] at hq
    | some o =>
      cases o with
      | lst ys =>
        obtain ⟨ws, h1, ra⟩ := m a _ eM
        obtain ⟨its, rv, ht⟩ := lst_at I (SqL.of h1)
        obtain ⟨⟨p1, p2, p3⟩, hq'⟩ : memC ys d ∧ Q (.bl (!inAny ys d)) M := by simpa [inQ, eM] using hq
        refine SeqAt.notIn_listAt (eqBy ys its d) ht (mem_eqBy I ra rv p2 rd rx p1 hu1 p3) ?_
        rw [any_eqBy I ra rv p2]
        exact ⟨.bl _, H, I, rfl, k _ H _ M (.bl _) m GG.refl hq'⟩
      | dic kvs =>
        obtain ⟨ws, h1, ra⟩ := m a _ eM
        cases ek : keyD d with
        | none => simp [inQ, eM, ek] at hq
        | some kk =>
          have hq' : Q (.bl (!(valD kvs kk).isSome)) M := by simpa [inQ, eM, ek] using hq
          have hv := keyD_v rd ek
          subst hv
          refine d_notIn (by omega) I (DGet.k h1) rx fun s' I' => ⟨.bl _, H, I', rfl, ?_⟩
          have : (valV ws kk).isSome = (valD kvs kk).isSome := by
            cases e3 : valD kvs kk with
            | none => rw [ra.valN e3]; rfl
            | some d3 => obtain ⟨z, e4, _⟩ := ra.val e3; rw [e4]; rfl
          rw [this]
          exact k _ H _ M (.bl _) m GG.refl hq'
      | ins _ _ => simp [inQ, eM] at hq
  | _ => exact hq.elim

/-! ### is, is not: None, truths -/
def isNonD : D → Bool | .non => true | _ => false
def isQ (neg : Bool) : DR2 := fun x y M Q => match y with
  | .non => Q (.bl (neg != isNonD x)) M
  | .bl b => (match x with | .bl a => Q (.bl (neg != decide (a = b))) M | _ => False)
  | _ => False
abbrev isR : DR2 := isQ false
abbrev isNotR : DR2 := isQ true
theorem dec_non {K : PySem.W.Frag} {H : Hp} {x : D} {v : V} (r : VR K H x v) : decide (v = .non) = isNonD x := by
  cases r <;> rfl
theorem lift_is {K : PySem.W.Frag} : Lift2 K (fun x y H Q => (y = .non ∧ Q (.bl (decide (x = .non))) H) ∨ rIsB x y H Q) isR := by
  intro x y dx dy H M Q Q0 rx ry m h k
  cases dy with
  | non =>
    cases ry.non_v
    refine .inl ⟨rfl, ?_⟩
    rw [dec_non rx]
    exact k _ H _ M (.bl _) m GG.refl (by simpa [isQ] using h)
  | bl b =>
    cases ry.bl_v
    cases dx with
    | bl a =>
      cases rx.bl_v
      exact .inr ⟨a, b, rfl, rfl, k _ H _ M (.bl _) m GG.refl (by simpa [isQ] using h)⟩
    | _ => exact h.elim
  | _ => exact h.elim
theorem lift_isNot {K : PySem.W.Frag} : Lift2 K (fun x y H Q => (y = .non ∧ Q (.bl (!decide (x = .non))) H) ∨ rNotB x y H Q) isNotR := by
  intro x y dx dy H M Q Q0 rx ry m h k
  cases dy with
  | non =>
    cases ry.non_v
    refine .inl ⟨rfl, ?_⟩
    rw [dec_non rx]
    exact k _ H _ M (.bl _) m GG.refl (by simpa [isQ] using h)
  | bl b =>
    cases ry.bl_v
    cases dx with
    | bl a =>
      cases rx.bl_v
      exact .inr ⟨a, b, rfl, rfl, k _ H _ M (.bl _) m GG.refl (by simpa [isQ] using h)⟩
    | _ => exact h.elim
  | _ => exact h.elim
section
variable {X : Cx} {a b : Expr} {ta tb : TDE} {pos : Pos} {k : Nat}
theorem je_in (hr : Room k X.A) (ha : JE X a ta) (hb : JE X b tb) (hm : behindInMarks .In b = false := by rfl) : JE X (.Compare a [.In] [b] pos) (dOp inR ta tb) := je_cmpR (op_inT (hu150 hr)).opR lift_of ha hb hm
theorem je_notin (hr : Room k X.A) (ha : JE X a ta) (hb : JE X b tb) (hm : behindInMarks .NotIn b = false := by rfl) : JE X (.Compare a [.NotIn] [b] pos) (dOp notInR ta tb) := je_cmpR (op_notInT (hu150 hr)).opR lift_of ha hb hm
theorem jt_in (hr : Room k X.A) (ha : JE X a ta) (hb : JE X b tb) (hm : behindInMarks .In b = false := by rfl) : JT X (.Compare a [.In] [b] pos) (dTest (dOp inR ta tb)) := jt_cmpR (op_inT (hu150 hr)).opR lift_of ha hb hm
theorem jt_notin (hr : Room k X.A) (ha : JE X a ta) (hb : JE X b tb) (hm : behindInMarks .NotIn b = false := by rfl) : JT X (.Compare a [.NotIn] [b] pos) (dTest (dOp notInR ta tb)) := jt_cmpR (op_notInT (hu150 hr)).opR lift_of ha hb hm
theorem je_is (ha : JE X a ta) (hb : JE X b tb) : JE X (.Compare a [.Is] [b] pos) (dOp isR ta tb) := je_cmpR (op_isN.or op_isBl) lift_is ha hb (nomark _)
theorem je_isnot (ha : JE X a ta) (hb : JE X b tb) : JE X (.Compare a [.IsNot] [b] pos) (dOp isNotR ta tb) := je_cmpR (op_notN.or op_notBl) lift_isNot ha hb (nomark _)
theorem jt_is (ha : JE X a ta) (hb : JE X b tb) : JT X (.Compare a [.Is] [b] pos) (dTest (dOp isR ta tb)) := jt_cmpR (op_isN.or op_isBl) lift_is ha hb (nomark _)
theorem jt_isnot (ha : JE X a ta) (hb : JE X b tb) : JT X (.Compare a [.IsNot] [b] pos) (dTest (dOp isNotR ta tb)) := jt_cmpR (op_notN.or op_notBl) lift_isNot ha hb (nomark _)
end
end DL

namespace DL
open PySem L2
open PyProof.Rows (b2i)

/-! ### the deck of draws -/
structure DeckS where
  cs : List Int
  at_ : Int
  sum : Int
def DeckS.ok (S : DeckS) (r : Nat) : Prop := S.cs.length ≤ 63 ∧ 0 ≤ S.at_ ∧ S.at_ + (r : Int) ≤ 2 ^ 60
def deckD (c : Addr) (S : DeckS) : List (Key × D) := [(.inr "cells", .ref c), (.inr "at", .int S.at_), (.inr "sum", .int S.sum)]
/-- the deck at d, its cells at c; r draws at least are left -/
def Deck (M : Mm) (d c : Addr) (r : Nat) : Prop := d ≠ c ∧ ∃ S : DeckS, S.ok r ∧ M d = some (.dic (deckD c S)) ∧ M c = some (.lst (S.cs.map D.int))
/-- all but the deck stays -/
def Upto (d c : Addr) (M M' : Mm) : Prop := ∀ a, a ≠ d → a ≠ c → M' a = M a
theorem Upto.refl {d c : Addr} {M : Mm} : Upto d c M M := fun _ _ _ => rfl
theorem Upto.trans {d c : Addr} {M M1 M2 : Mm} (a : Upto d c M M1) (b : Upto d c M1 M2) : Upto d c M M2 := fun x h1 h2 => (b x h1 h2).trans (a x h1 h2)
theorem Deck.mono {M : Mm} {d c : Addr} {r r' : Nat} (h : Deck M d c r) (e : r' ≤ r) : Deck M d c r' := by
  obtain ⟨n, S, ⟨o1, o2, o3⟩, h1, h2⟩ := h
  exact ⟨n, S, ⟨o1, o2, by omega⟩, h1, h2⟩
theorem Deck.new {M : Mm} {d c p : Addr} {r : Nat} {o : MO} (h : Deck M d c r) (hp : M p = none) : Deck (mup M p o) d c r ∧ p ≠ d ∧ p ≠ c := by
  obtain ⟨n, S, ok, h1, h2⟩ := h
  have hd : p ≠ d := by rintro rfl; rw [hp] at h1; cases h1
  have hc : p ≠ c := by rintro rfl; rw [hp] at h2; cases h2
  exact ⟨⟨n, S, ok, by rw [mup_ne hd.symm]; exact h1, by rw [mup_ne hc.symm]; exact h2⟩, hd, hc⟩
theorem Deck.put {M : Mm} {d c p : Addr} {r : Nat} {o : MO} (h : Deck M d c r) (hd : p ≠ d) (hc : p ≠ c) : Deck (mup M p o) d c r := by
  obtain ⟨n, S, ok, h1, h2⟩ := h
  exact ⟨n, S, ok, by rw [mup_ne hd.symm]; exact h1, by rw [mup_ne hc.symm]; exact h2⟩
/-- what a draw is worth -/
def spDraw : DSp := fun ds M Q => match ds with
  | [.ref d, .int most] => ∃ c r, Deck M d c (r + 1) ∧ (0 < most ∧ most ≤ 2 ^ 62) ∧ ∀ n M', 0 ≤ n → n < most → Deck M' d c r → Upto d c M M' → Q (.int n) M'
  | _ => False
/-- what the deck's making is worth -/
def spDeckH (K : PySem.W.Frag) : Sp := fun vs H Q _ => ∃ (a : Addr) (ns : List Int), vs = [.ref a] ∧ SqL K H a (ns.map V.int) ∧ ns.length ≤ 63 ∧
  ∀ (d c : Addr) (H' : Hp) (S : DeckS), H c = none → H d = none → d ≠ c → S.ok (2 ^ 59) → H' c = some (.lst (S.cs.map V.int)) → H' d = some (.dK [(.inr "cells", .ref c), (.inr "at", .int S.at_), (.inr "sum", .int S.sum)]) → (∀ b o, H b = some o → H' b = some o) → Q (.ref d) H'
def spLawH (K : PySem.W.Frag) : Sp := fun vs H Q _ => ∃ (a : Addr) (ns : List Int), vs = [.ref a] ∧ SqL K H a (ns.map V.int) ∧ ns.length ≤ 63 ∧ ∀ H', Q (.bl true) H'

section
variable {P : Program} {w : World} {K : PySem.W.Frag} {mg : Str → Option Value} {base : Heap}
theorem vrs_ints {H : Hp} : ∀ ns : List Int, VRs K H (ns.map D.int) (ns.map V.int)
  | [] => .nil
  | n :: ns => .cons (.int n) (vrs_ints ns)
theorem cut63 {ns : List Int} (h : ns.length ≤ 63) : cutV (ns.map V.int) none (some 63) = ns.map V.int := by
  unfold cutV
  rw [HT.sIx_none, show HT.sIx (ns.map V.int).length (ns.map V.int).length (some 63) = min 63 (ns.map V.int).length from HT.sIx_nat _ _ 63]
  rw [List.length_map]
  rw [List.drop_zero, Nat.sub_zero, List.take_of_length_le (by rw [List.length_map]; omega)]
theorem ok_deck {st : Stmt} {f : Addr} {fd : FuncData} (F : Fun K "_law_deck" "_law_deck" st f fd) (S : FnScope ["_law_script", "_law_cells"] ["_law_script"] (defScope st))
    (body : ∀ (cdv : Value) (A : Around) (outer : List Env) (s : Shared) (H : Hp) (E : XK),
      PSs (cxOf CX0 P w K mg base ["_law_script", "_law_cells"] "_law_deck" (defScope st) f cdv A outer s H E).nox (defBody st)
        (tSeq (tAsg (tCB (fun xs H Q => ∃ p ys, xs = [.ref p] ∧ (SqL K H p ys ∨ SqT K H p ys) ∧ ∀ l, H l = none → Q (.ref l) (upd H l (.lst ys))) (tCons (tSl (rSlL K) (tVar 0) tNoPart (tPart (tC (.int 63)))) tNil)) (gName 1))
        (tRet (tDisp [(tC (.str "cells"), tVar 1), (tC (.str "at"), tC (.int 0)), (tC (.str "sum"), tOp (rI0 fun i j => .int (i + j)) (tOp (rI (fun _ j => 0 < j) fun i j => .int (i % j)) (tCB (rSum K) (tCons (tVar 1) tNil)) (tC (.int 2147483629)))
          (tCB (fun xs H Q => ∃ p ys, xs = [.ref p] ∧ (SqL K H p ys ∨ SqT K H p ys) ∧ Q (.int ys.length) H) (tCons (tVar 1) tNil)))])))) :
    FnOk P w K mg base CX0 1 f fd ["_law_script"] (spDeckH K) := by
  refine F.ok S (fun vs H Q E h => ?_) fun cdv A outer s H vs Q E hr h => ?_
  · obtain ⟨a, ns, rfl, _⟩ := h
    rfl
  · obtain ⟨a, ns, rfl, hS, hlen, k⟩ := h
    have hb := body cdv A outer s H E
    refine ⟨_, hb, ?_⟩
    refine ⟨_, rfl, 63, rfl, a, ns.map V.int, rfl, hS, fun p hp => ?_⟩
    rw [cut63 hlen]
    have hS1 : SqL K (upd H p (.lst (ns.map V.int))) p (ns.map V.int) := SqL.of upd_same
    refine ⟨p, ns.map V.int, rfl, .inl hS1, fun c hc => ?_⟩
    have hpc : p ≠ c := by rintro rfl; rw [upd_same] at hc; cases hc
    have hHc : H c = none := by rw [upd_ne hpc.symm] at hc; exact hc
    intro d hd
    have hdc : d ≠ c := by rintro rfl; rw [upd_same] at hd; cases hd
    have hdp : d ≠ p := by rintro rfl; rw [upd_ne hpc, upd_same] at hd; cases hd
    have hHd : H d = none := by rw [upd_ne hdc, upd_ne hdp] at hd; exact hd
    have hC : SqL K (upd (upd (upd H p (.lst (ns.map V.int))) c (.lst (ns.map V.int))) d (.dK [])) c (ns.map V.int) := SqL.of (by rw [upd_ne hdc.symm, upd_same])
    refine ⟨.ref c, rfl, .ref c, rfl, c, ns, rfl, hC, _, _, rfl, rfl, (by show (0:Int) < 2147483629; decide), .ref c, rfl, c, _, rfl, .inl hC, _, _, rfl, rfl, upd_same, ?_⟩
    refine ⟨[(.inr "cells", .ref c), (.inr "at", .int 0), (.inr "sum", .int (ns.sum % 2147483629 + ((ns.map V.int).length : Nat)))], rfl, (by show 3 ≤ 15; decide), ?_⟩
    refine k d c _ ⟨ns, 0, ns.sum % 2147483629 + ((ns.map V.int).length : Nat)⟩ hHc hHd hdc ⟨hlen, by simp, by simp⟩ ?_ ?_ fun b o e => ?_
    · rw [upd_ne hdc.symm, upd_ne hdc.symm, upd_same]
    · rw [upd_same]
      rfl
    · have b1 : b ≠ d := by rintro rfl; rw [hHd] at e; cases e
      have b2 : b ≠ c := by rintro rfl; rw [hHc] at e; cases e
      have b3 : b ≠ p := by rintro rfl; rw [hp] at e; cases e
      rw [upd_ne b1, upd_ne b1, upd_ne b2, upd_ne b3]
      exact e
theorem law_ok {st st0 : Stmt} {rest : List Stmt} {f : Addr} {fd : FuncData} {N : List Str} {k : Nat} (F : Fun K "law" "law" st f fd) (S : FnScope N ["_law_script"] (defScope st)) (hN : 2 ≤ N.length) (hbd : defBody st = st0 :: rest)
    (body : ∀ (cdv : Value) (A : Around) (outer : List Env) (s : Shared) (H : Hp) (E : XK), Room k (A.deeper (PyProof.Rows.envOfC "law" (defScope st) s.heap.objs.size f cdv)) →
      ∃ t, PS (cxOf CX0 P w K mg base N "law" (defScope st) f cdv A outer s H E).nox st0 (tAsg (tCall (spDeckH K) [] E0 (tCons (tVar 0) tNil)) (gName 1)) ∧
        JB (cxOf CX0 P w K mg base N "law" (defScope st) f cdv A outer s H E).nox rest t ∧
        ∀ (M : Mm) (d c : Addr), Deck M d c (2 ^ 59) → t { nx := fun _ _ => False, rt := fun v _ => v = .bl true } (none :: some (.ref d) :: List.replicate (N.length - 2) none) M) :
    FnOk P w K mg base CX0 (k + 1) f fd ["_law_script"] (spLawH K) := by
  refine F.ok S (fun vs H Q E h => ?_) fun cdv A outer s H vs Q E hr h => ?_
  · obtain ⟨a, ns, rfl, _⟩ := h
    rfl
  · obtain ⟨a, ns, rfl, hS, hlen, kk⟩ := h
    obtain ⟨t, h1, ⟨t0, p, g⟩, hb⟩ := body cdv A outer s H E hr
    rw [hbd]
    refine ⟨_, pss_cons h1 p, ?_⟩
    obtain ⟨x1, x2, N', rfl⟩ : ∃ x1 x2 N', N = x1 :: x2 :: N' := by
      match N, hN with
      | x1 :: x2 :: N', _ => exact ⟨x1, x2, N', rfl⟩
    refine ⟨.ref a, rfl, a, ns, rfl, hS, hlen, fun d c H' Sd hc hd hdc ok e1 e2 hk => ?_⟩
    let M : Mm := mup (mup (fun _ => none) d (.dic (deckD c Sd))) c (.lst (Sd.cs.map D.int))
    have hM : MR K M H' := by
      intro b o e
      by_cases hbc : b = c
      · subst hbc
        have : o = .lst (Sd.cs.map D.int) := by
          have e' : M b = some (.lst (Sd.cs.map D.int)) := mup_same
          rw [e'] at e
          exact (Option.some.inj e).symm
        subst this
        exact ⟨_, e1, vrs_ints _⟩
      · by_cases hbd : b = d
        · subst hbd
          have : o = .dic (deckD c Sd) := by
            have e' : M b = some (.dic (deckD c Sd)) := by show mup _ c _ b = _; rw [mup_ne hbc, mup_same]
            rw [e'] at e
            exact (Option.some.inj e).symm
          subst this
          exact ⟨_, e2, .cons (.ref c) (.cons (.int _) (.cons (.int _) .nil))⟩
        · have e' : M b = none := by show mup _ c _ b = _; rw [mup_ne hbc, mup_ne hbd]
          rw [e'] at e
          cases e
    have hD : Deck M d c (2 ^ 59) := ⟨hdc, Sd, ok, by show mup _ c _ d = _; rw [mup_ne hdc, mup_same], mup_same⟩
    refine g M H' _ _ ⟨?_, ?_, ?_, ?_⟩ _ _ H' M GG.refl ?_ hM (hb M d c hD)
    · intro _ _ _ _ _ _ _ q
      exact q.elim
    · rintro v d' H2 M2 _ r2 _ rfl
      cases r2
      exact kk H2
    · intro _ _ _ _ _ _ _ q
      exact q.elim
    · intro _ _ _ _ _ _ _ q
      exact q.elim
    · refine ⟨by simp [L2.start], fun i e h => ?_⟩
      match i with
      | 0 => simp at h
      | 1 =>
        simp at h
        subst h
        exact ⟨.ref d, by simp [L2.start, List.replicate_succ], .ref d⟩
      | i + 2 =>
        simp only [List.getElem?_cons_succ] at h
        rw [List.getElem?_replicate] at h
        split at h <;> cases h
end
end DL

namespace DL
open PySem L2
open PyProof.Rows (b2i)

/-! ### loops by invariants -/
section
variable {ok : Mm → Prop} {g : TDG} {tb : TDS} {D : DEnds} {c : TDT}
theorem forW_go (I : Nat → DSt → Mm → Prop) (xs : List DL.D) (hok : ∀ i ds M, I i ds M → ok M)
    (step : ∀ (i : Nat) (x : DL.D) (N : DSt → Mm → Prop), xs[i]? = some x → (∀ ds M, I (i + 1) ds M → N ds M) → ∀ ds M, I i ds M → g x ds M fun ds' M' => tb { D with nx := N, ct := N, bk := D.nx } ds' M')
    (fin : ∀ ds M, I xs.length ds M → D.nx ds M) : ∀ ds M, I 0 ds M → forW ok g tb D xs ds M := by
  have key : ∀ (n i : Nat), xs.length - i = n → i ≤ xs.length → ∀ ds M, I i ds M → forW ok g tb D (xs.drop i) ds M := by
    intro n
    induction n with
    | zero =>
      intro i e hi ds M h
      have : i = xs.length := by omega
      subst this
      rw [List.drop_length]
      exact ⟨hok _ _ _ h, fin ds M h⟩
    | succ n ih =>
      intro i e hi ds M h
      have hlt : i < xs.length := by omega
      rw [List.drop_eq_getElem_cons hlt]
      exact ⟨hok _ _ _ h, step i _ _ (List.getElem?_eq_getElem hlt) (fun ds M h => ih (i + 1) (by omega) (by omega) ds M h) ds M h⟩
  intro ds M h
  have := key xs.length 0 (by simp) (Nat.zero_le _) ds M h
  rwa [List.drop_zero] at this
/-- through a range -/
theorem forW_rng (I : Nat → DSt → Mm → Prop) {lo : Int} {n : Nat}
    (step : ∀ (i : Nat) (N : DSt → Mm → Prop), i < n → (∀ ds M, I (i + 1) ds M → N ds M) → ∀ ds M, I i ds M → g (.int (lo + (i : Int))) ds M fun ds' M' => tb { D with nx := N, ct := N, bk := D.nx } ds' M')
    (fin : ∀ ds M, I n ds M → D.nx ds M) : ∀ ds M, I 0 ds M → forW (fun _ => True) g tb D (rangeD lo n) ds M := by
  have hl : (rangeD lo n).length = n := by simp [rangeD]
  refine forW_go I (rangeD lo n) (fun _ _ _ _ => trivial) (fun i x N e hN ds M h => ?_) (fun ds M h => fin ds M (by rw [hl] at h; exact h))
  obtain ⟨h1, rfl⟩ := rangeD_get e
  exact step i N h1 hN ds M h
theorem whileN_go (I : Nat → DSt → Mm → Prop)
    (base : ∀ (N : DSt → Mm → Prop) ds M, I 0 ds M → c ds M fun b M1 => if b = true then tb { D with nx := N, ct := N, bk := D.nx } ds M1 else D.nx ds M1)
    (step : ∀ (m : Nat) (N : DSt → Mm → Prop), (∀ ds M, I m ds M → N ds M) → ∀ ds M, I (m + 1) ds M → c ds M fun b M1 => if b = true then tb { D with nx := N, ct := N, bk := D.nx } ds M1 else D.nx ds M1) :
    ∀ (m : Nat) ds M, I m ds M → dWhile c tb D ds M := by
  have key : ∀ (m : Nat) ds M, I m ds M → whileN c tb D (m + 1) ds M := by
    intro m
    induction m with
    | zero => exact fun ds M h => base _ ds M h
    | succ m ih => exact fun ds M h => step m _ ih ds M h
  exact fun m ds M h => ⟨m + 1, key m ds M h⟩
end
section
variable {ok : Mm → Prop} {g : TDG} {tt : TDT} {te : TDE} {ds0 : DSt} {Q : List D → Mm → Prop}
theorem lcW_go (I : Nat → List D → Mm → Prop) (xs : List D) (hok : ∀ i acc M, I i acc M → ok M)
    (step : ∀ (i : Nat) (x : D) (N : List D → Mm → Prop), xs[i]? = some x → (∀ acc M, I (i + 1) acc M → N acc M) → ∀ acc M, I i acc M →
      g x ds0 M fun ds' M2 => tt ds' M2 fun b M3 => if b = true then te ds' M3 fun d M4 => acc.length < sizeLine ∧ N (acc ++ [d]) M4 else N acc M3)
    (fin : ∀ acc M, I xs.length acc M → Q acc M) : ∀ M, I 0 [] M → lcW ok g tt te ds0 Q xs [] M := by
  have key : ∀ (n i : Nat), xs.length - i = n → i ≤ xs.length → ∀ acc M, I i acc M → lcW ok g tt te ds0 Q (xs.drop i) acc M := by
    intro n
    induction n with
    | zero =>
      intro i e hi acc M h
      have : i = xs.length := by omega
      subst this
      rw [List.drop_length]
      exact ⟨hok _ _ _ h, fin acc M h⟩
    | succ n ih =>
      intro i e hi acc M h
      have hlt : i < xs.length := by omega
      rw [List.drop_eq_getElem_cons hlt]
      exact ⟨hok _ _ _ h, step i _ _ (List.getElem?_eq_getElem hlt) (fun acc M h => ih (i + 1) (by omega) (by omega) acc M h) acc M h⟩
  intro M h
  have := key xs.length 0 (by simp) (Nat.zero_le _) [] M h
  rwa [List.drop_zero] at this
/-- each item's answer alone: the store stays -/
theorem lcW_pure (f : D → Option D) {xs : List D} {M : Mm} (hz : xs.length ≤ sizeLine) (hok : ok M)
    (h : ∀ x ∈ xs, ∀ (N1 : DQ) (N2 : Mm → Prop), (∀ d, f x = some d → N1 d M) → (f x = none → N2 M) → g x ds0 M fun ds' M2 => tt ds' M2 fun b M3 => if b = true then te ds' M3 N1 else N2 M3)
    (fin : Q (xs.filterMap f) M) : lcW ok g tt te ds0 Q xs [] M := by
  refine lcW_go (fun i acc M' => M' = M ∧ acc = (xs.take i).filterMap f) xs (fun i acc M' h => by rw [h.1]; exact hok) (fun i x N e hN acc M' hI => ?_) (fun acc M' hI => ?_) M ⟨rfl, by simp⟩
  · obtain ⟨rfl, rfl⟩ := hI
    have hx : x ∈ xs := List.mem_of_getElem? e
    have hlt : i < xs.length := (List.getElem?_eq_some_iff.mp e).1
    have et : xs.take (i + 1) = xs.take i ++ [x] := by rw [List.take_add_one, e]; rfl
    refine h x hx _ _ (fun d hd => ⟨?_, hN _ _ ⟨rfl, ?_⟩⟩) (fun hn => hN _ _ ⟨rfl, ?_⟩)
    · refine Nat.lt_of_le_of_lt (List.length_filterMap_le _ _) ?_
      rw [List.length_take]
      omega
    · rw [et, List.filterMap_append]
      simp [hd]
    · rw [et, List.filterMap_append]
      simp [hn]
  · obtain ⟨rfl, rfl⟩ := hI
    rw [List.take_length]
    exact fin
theorem lcW_map (f : D → D) {xs : List D} {M : Mm} (hz : xs.length ≤ sizeLine) (hok : ok M)
    (h : ∀ x ∈ xs, ∀ (N1 : DQ), N1 (f x) M → g x ds0 M fun ds' M2 => te ds' M2 N1)
    (fin : Q (xs.map f) M) : lcW ok g dYes te ds0 Q xs [] M := by
  refine lcW_pure (fun x => some (f x)) hz hok (fun x hx N1 N2 h1 _ => ?_) ?_
  · exact h x hx _ (h1 _ rfl)
  · rw [show xs.filterMap (fun x => some (f x)) = xs.map f by simp]
    exact fin
end
/-! ### numbers -/
theorem log2_lt {n k : Nat} (hk : 0 < k) (h : n < 2 ^ k) : n.log2 < k := by
  by_cases h0 : n = 0
  · subst h0; simpa using hk
  · exact (Nat.log2_lt h0).mpr h
theorem cmul_ok {i j : Int} (hi : i.natAbs < 2 ^ 200) (hj : j.natAbs < 2 ^ 200) : CMulW i j := by
  have h1 := log2_lt (by decide) hi
  have h2 := log2_lt (by decide) hj
  show _ + _ < 1000000
  omega
theorem nabs_mul {i j : Int} {a b : Nat} (hi : i.natAbs < 2 ^ a) (hj : j.natAbs < 2 ^ b) : (i * j).natAbs < 2 ^ (a + b) := by
  rw [Int.natAbs_mul, Nat.pow_add]
  exact Nat.mul_lt_mul'' hi hj
theorem nabs_up {i : Int} {a b : Nat} (h : i.natAbs < 2 ^ a) (e : a ≤ b) : i.natAbs < 2 ^ b := Nat.lt_of_lt_of_le h (Nat.pow_le_pow_right (by decide) e)
theorem nabs64 {i : Int} (h : -(2 ^ 63) < i ∧ i < 2 ^ 63) : i.natAbs < 2 ^ 63 := by omega
theorem cdiv_ok {i j : Int} (h0 : 0 < j) (h : j < 2 ^ 63) : CDivW i j := by
  refine ⟨h0, ?_⟩
  have := log2_lt (n := j.natAbs) (k := 63) (by decide) (by omega)
  omega
/-! ### operations on known kinds -/
section
variable {i j : Int} {M : Mm} {Q : DQ} {x y : Str} {xs ys : List D} {a b : Bool}
theorem addR_ii : addR (.int i) (.int j) M Q = Q (.int (i + j)) M := rfl
theorem addR_ib : addR (.int i) (.bl b) M Q = Q (.int (i + b2i b)) M := rfl
theorem addR_ss : addR (.str x) (.str y) M Q = (x.length + y.length ≤ sizeLine ∧ Q (.str (x ++ y)) M) := rfl
theorem addR_tt : addR (.tup xs) (.tup ys) M Q = (xs.length + ys.length ≤ sizeLine ∧ Q (.tup (xs ++ ys)) M) := rfl
theorem subR_ii : subR (.int i) (.int j) M Q = Q (.int (i - j)) M := rfl
theorem mulR_ii : mulR (.int i) (.int j) M Q = (CMulW i j ∧ Q (.int (i * j)) M) := rfl
theorem modR_ii : modR (.int i) (.int j) M Q = (0 < j ∧ Q (.int (i % j)) M) := rfl
theorem fdivR_ii : fdivR (.int i) (.int j) M Q = (CDivW i j ∧ Q (.int (i / j)) M) := rfl
theorem powR_ii : powR (.int i) (.int j) M Q = (CPow i j ∧ Q (.int (i ^ j.toNat)) M) := rfl
theorem ltR_ii : ltR (.int i) (.int j) M Q = Q (.bl (decide (i < j))) M := rfl
theorem leR_ii : leR (.int i) (.int j) M Q = Q (.bl (decide (i ≤ j))) M := rfl
theorem gtR_ii : gtR (.int i) (.int j) M Q = Q (.bl (decide (j < i))) M := rfl
theorem geR_ii : geR (.int i) (.int j) M Q = Q (.bl (decide (j ≤ i))) M := rfl
theorem keyD_s : keyD (.str x) = some (.inr x) := rfl
theorem keyD_i : keyD (.int i) = some (.inl i) := rfl
theorem eqM_ii : eqM M (.int i) (.int j) = (i == j) := (rfl)
theorem eqM_ss : eqM M (.str x) (.str y) = (x == y) := (rfl)
theorem eqM_bb : eqM M (.bl a) (.bl b) = (a == b) := (rfl)
theorem eqM_tt : eqM M (.tup xs) (.tup ys) = eqvDs xs ys := (rfl)
theorem okD_i : okD M (.int i) = True := by simp [okD, pureD, depD]
theorem okD_s : okD M (.str x) = True := by simp [okD, pureD, depD]
theorem okD_b : okD M (.bl a) = True := by simp [okD, pureD, depD]
theorem okD_n : okD M .non = True := by simp [okD, pureD, depD]
theorem okD_t : okD M (.tup xs) = (pureDs xs = true ∧ depDs xs ≤ 99) := by
  simp only [okD, pureD, depD, eq_iff_iff]
  constructor <;> (rintro ⟨h1, h2⟩; exact ⟨h1, by omega⟩)
theorem okD_l {a : Addr} (e : lstOf M a = some xs) : okD M (.ref a) = (pureDs xs = true ∧ depDs xs ≤ 100) := by
  simp only [okD, e]
theorem eqM_ll {a b : Addr} (e : lstOf M a = some xs) (e2 : lstOf M b = some ys) : eqM M (.ref a) (.ref b) = eqvDs xs ys := by
  simp only [eqM, e, e2]
theorem eqvDs_nil : eqvDs xs [] = xs.isEmpty := by cases xs <;> simp [eqvDs]
theorem dicOf_mup_same {a : Addr} {xs : List (Key × D)} : dicOf (mup M a (.dic xs)) a = some xs := dicOf_some mup_same
theorem dicOf_mup_ne {a b : Addr} {o : MO} (h : b ≠ a) : dicOf (mup M a o) b = dicOf M b := by unfold dicOf; rw [mup_ne h]
end
theorem pureDs_map {α : Type} (f : α → D) (h : ∀ a, pureD (f a) = true) : ∀ l : List α, pureDs (l.map f) = true
  | [] => rfl
  | a :: l => by rw [List.map_cons, pureDs, h a, pureDs_map f h l]; rfl
theorem depDs_map {α : Type} (f : α → D) (k : Nat) (hk : 1 ≤ k) (h : ∀ a, depD (f a) ≤ k) : ∀ l : List α, depDs (l.map f) ≤ k
  | [] => hk
  | a :: l => by
    rw [List.map_cons, depDs]
    have h1 := h a
    have h2 := depDs_map f k hk h l
    omega
theorem pureDs_int (ns : List Int) : pureDs (ns.map D.int) = true := pureDs_map _ (fun _ => rfl) ns
theorem depDs_int (ns : List Int) : depDs (ns.map D.int) ≤ 1 := depDs_map _ 1 (Nat.le_refl _) (fun _ => by simp [depD]) ns
/-! ### the deck's fields -/
section
variable {c : Addr} {S : DeckS} {v : Int}
theorem deck_at : valD (deckD c S) (.inr "at") = some (.int S.at_) := rfl
theorem deck_sum : valD (deckD c S) (.inr "sum") = some (.int S.sum) := rfl
theorem deck_cells : valD (deckD c S) (.inr "cells") = some (.ref c) := rfl
theorem deck_len : (deckD c S).length = 3 := rfl
theorem deck_put : putD (deckD c S) (.inr "at") (.int v) = deckD c { S with at_ := v } := rfl
end
end DL

namespace DL
open PySem L2
open PyProof.Rows (b2i)

/-! ### the store grows; but the deck may change -/
def Ext (d c : Addr) (M M' : Mm) : Prop := ∀ a o, a ≠ d → a ≠ c → M a = some o → M' a = some o
theorem Upto.ext {d c : Addr} {M M' : Mm} (h : Upto d c M M') : Ext d c M M' := fun a o h1 h2 e => by rw [h a h1 h2]; exact e
theorem Ext.refl {d c : Addr} {M : Mm} : Ext d c M M := fun _ _ _ _ h => h
theorem Ext.trans {d c : Addr} {M M1 M2 : Mm} (x : Ext d c M M1) (y : Ext d c M1 M2) : Ext d c M M2 := fun a o h1 h2 e => y a o h1 h2 (x a o h1 h2 e)
theorem Ext.new {d c p : Addr} {M M1 : Mm} {o : MO} (x : Ext d c M M1) (hp : M1 p = none) : Ext d c M (mup M1 p o) := fun a u h1 h2 e => by
  have := x a u h1 h2 e
  rw [mup_ne]
  · exact this
  · rintro rfl; rw [hp] at this; cases this
/-- an object that came behind is written -/
theorem Ext.put {d c p : Addr} {M M1 : Mm} {o : MO} (x : Ext d c M M1) (hp : M p = none) : Ext d c M (mup M1 p o) := fun a u h1 h2 e => by
  rw [mup_ne]
  · exact x a u h1 h2 e
  · rintro rfl; rw [hp] at e; cases e
theorem Ext.lst {d c a : Addr} {M M' : Mm} {xs : List D} (x : Ext d c M M') (h1 : a ≠ d) (h2 : a ≠ c) (e : lstOf M a = some xs) : lstOf M' a = some xs := lstOf_some (x a _ h1 h2 (of_lstOf e))
theorem Ext.dic {d c a : Addr} {M M' : Mm} {xs : List (Key × D)} (x : Ext d c M M') (h1 : a ≠ d) (h2 : a ≠ c) (e : dicOf M a = some xs) : dicOf M' a = some xs := dicOf_some (x a _ h1 h2 (of_dicOf e))
theorem Deck.nd {M : Mm} {d c p : Addr} {r : Nat} (h : Deck M d c r) (hp : M p = none) : p ≠ d := (h.new (o := .lst []) hp).2.1
theorem Deck.nc {M : Mm} {d c p : Addr} {r : Nat} (h : Deck M d c r) (hp : M p = none) : p ≠ c := (h.new (o := .lst []) hp).2.2
theorem Deck.up {M : Mm} {d c p : Addr} {r : Nat} {o : MO} (h : Deck M d c r) (hp : M p = none) : Deck (mup M p o) d c r := (h.new hp).1
theorem Deck.nn {M : Mm} {d c : Addr} {r : Nat} (h : Deck M d c r) : M d ≠ none ∧ M c ≠ none := by
  obtain ⟨_, S, _, h1, h2⟩ := h
  exact ⟨by rw [h1]; simp, by rw [h2]; simp⟩
/-- a statement, what holds behind it, the others -/
theorem seq_cut {t u : TDS} {D : DEnds} {ds : DSt} {M : Mm} (J : DSt → Mm → Prop) (h1 : ∀ N : DSt → Mm → Prop, (∀ ds M, J ds M → N ds M) → t { D with nx := N } ds M) (h2 : ∀ ds M, J ds M → u D ds M) : dSeq t u D ds M := h1 (u D) h2
theorem seq_go {t u : TDS} {D : DEnds} {ds : DSt} {M : Mm} (h : t { D with nx := u D } ds M) : dSeq t u D ds M := h
theorem ifs {c : Prop} [Decidable c] {a b : Prop} (h1 : c → a) (h2 : ¬c → b) : if c then a else b := by
  split
  · exact h1 (by assumption)
  · exact h2 (by assumption)
instance (i : Int) : Decidable (inLine i) := by unfold inLine; infer_instance
/-! ### picking -/
section
variable {M : Mm} {Q : DQ} {p : Addr} {x y : D} {b : Bool} {xs : List D} {i : Int}
theorem int1R_b : int1R [.bl b] M Q = Q (.int (if b then 1 else 0)) M := rfl
theorem int1R_i : int1R [.int i] M Q = Q (.int i) M := rfl
theorem ix_pick (e : lstOf M p = some [x, y]) (h : Q (if b then y else x) M) : ixR (.ref p) (.int (if b then 1 else 0)) M Q := by
  unfold ixR
  simp only [e]
  cases b <;> exact h
theorem ix_l {d : D} (e : lstOf M p = some xs) (h0 : 0 ≤ i) (h1 : xs[i.toNat]? = some d) (h : Q d M) : ixR (.ref p) (.int i) M Q := by
  unfold ixR
  have e2 : atI xs i = some d := by
    have := atI_nat (j := i.toNat) h1
    rwa [show ((i.toNat : Nat) : Int) = i by omega] at this
  simp only [e, e2]
  exact h
theorem ix_t {d : D} (h0 : 0 ≤ i) (h1 : xs[i.toNat]? = some d) (h : Q d M) : ixR (.tup xs) (.int i) M Q := by
  unfold ixR
  have e2 : atI xs i = some d := by
    have := atI_nat (j := i.toNat) h1
    rwa [show ((i.toNat : Nat) : Int) = i by omega] at this
  simp only [e2]
  exact h
theorem ix_tn {d : D} {n : Nat} (h1 : xs[n]? = some d) (h : Q d M) : ixR (.tup xs) (.int (n : Int)) M Q := ix_t (by omega) (by simpa using h1) h
theorem ix_t0 {xs : List D} : ixR (.tup (x :: xs)) (.int 0) M Q = Q x M := by
  have e : atI (x :: xs) 0 = some x := atI_nat (j := 0) rfl
  unfold ixR
  simp only [e]
theorem ix_t1 {xs : List D} : ixR (.tup (x :: y :: xs)) (.int 1) M Q = Q y M := by
  have e : atI (x :: y :: xs) 1 = some y := atI_nat (j := 1) rfl
  unfold ixR
  simp only [e]
theorem ix_t2 {xs : List D} {z : D} : ixR (.tup (x :: y :: z :: xs)) (.int 2) M Q = Q z M := by
  have e : atI (x :: y :: z :: xs) 2 = some z := atI_nat (j := 2) rfl
  unfold ixR
  simp only [e]
theorem ix_t3 {xs : List D} {z u : D} : ixR (.tup (x :: y :: z :: u :: xs)) (.int 3) M Q = Q u M := by
  have e : atI (x :: y :: z :: u :: xs) 3 = some u := atI_nat (j := 3) rfl
  unfold ixR
  simp only [e]
theorem ix_t4 {xs : List D} {z u v : D} : ixR (.tup (x :: y :: z :: u :: v :: xs)) (.int 4) M Q = Q v M := by
  have e : atI (x :: y :: z :: u :: v :: xs) 4 = some v := atI_nat (j := 4) rfl
  unfold ixR
  simp only [e]
/-- the last one -/
theorem ix_tl {d : D} (h1 : xs[xs.length - 1]? = some d) (h : Q d M) : ixR (.tup xs) (.int (-1)) M Q := by
  unfold ixR
  have e2 : atI xs (-1) = some d := by
    obtain ⟨ys, rfl⟩ : ∃ ys, xs = ys ++ [d] := by
      have hne : xs ≠ [] := by rintro rfl; simp at h1
      refine ⟨xs.dropLast, ?_⟩
      have : xs.getLast hne = d := by
        rw [List.getLast_eq_getElem]
        rw [List.getElem?_eq_some_iff] at h1
        exact h1.2
      rw [← this, List.dropLast_concat_getLast]
    exact atI_last _ _
  simp only [e2]
  exact h
theorem revR_t : revR (.tup xs) M Q = Q (.tup xs.reverse) M := rfl
theorem lenR_t : lenR [.tup xs] M Q = Q (.int xs.length) M := rfl
theorem lenR_s {z : Str} : lenR [.str z] M Q = (z.length ≤ sizeLine ∧ Q (.int z.length) M) := rfl
theorem len_l (e : lstOf M p = some xs) (h : Q (.int xs.length) M) : lenR [.ref p] M Q := by
  unfold lenR
  simp only [of_lstOf e]
  exact h
theorem slR_t {lo hi : Option Int} : slR (.tup xs) lo hi M Q = Q (.tup (cutL xs lo hi)) M := rfl
theorem slR_s {z : Str} {lo hi : Option Int} : slR (.str z) lo hi M Q = (z.length ≤ sizeLine ∧ Q (.str (cutS z lo hi)) M) := rfl
end
theorem cutL_from {α : Type} (xs : List α) (n : Nat) : cutL xs (some (n : Int)) none = xs.drop n := by
  unfold cutL
  rw [show HT.sIx xs.length 0 (some (n : Int)) = min n xs.length from HT.sIx_nat xs.length 0 n, HT.sIx_none]
  by_cases h : n ≤ xs.length
  · rw [Nat.min_eq_left h, List.take_of_length_le (by rw [List.length_drop]; omega)]
  · rw [Nat.min_eq_right (by omega), List.drop_length, List.take_nil, List.drop_eq_nil_of_le (by omega)]
theorem cutL_from1 {α : Type} (xs : List α) : cutL xs (some 1) none = xs.drop 1 := cutL_from xs 1
theorem cutL_from2 {α : Type} (xs : List α) : cutL xs (some 2) none = xs.drop 2 := cutL_from xs 2
theorem cutL_to {α : Type} (xs : List α) (n : Nat) : cutL xs none (some (n : Int)) = xs.take n := by
  unfold cutL
  rw [show HT.sIx xs.length xs.length (some (n : Int)) = min n xs.length from HT.sIx_nat xs.length xs.length n, HT.sIx_none]
  rw [List.drop_zero, Nat.sub_zero]
  by_cases h : n ≤ xs.length
  · rw [Nat.min_eq_left h]
  · rw [Nat.min_eq_right (by omega), List.take_length, List.take_of_length_le (by omega)]
theorem cutL_mid {α : Type} (xs : List α) (m n : Nat) : cutL xs (some (m : Int)) (some (n : Int)) = (xs.drop m).take (n - m) := by
  unfold cutL
  rw [show HT.sIx xs.length xs.length (some (n : Int)) = min n xs.length from HT.sIx_nat xs.length xs.length n, show HT.sIx xs.length 0 (some (m : Int)) = min m xs.length from HT.sIx_nat xs.length 0 m]
  rcases Nat.le_total m xs.length with h | h
  · rw [Nat.min_eq_left h]
    rcases Nat.le_total n xs.length with h2 | h2
    · rw [Nat.min_eq_left h2]
    · rw [Nat.min_eq_right h2, List.take_of_length_le (by rw [List.length_drop]; omega), List.take_of_length_le (by rw [List.length_drop]; omega)]
  · rw [Nat.min_eq_right h, List.drop_length, List.take_nil, List.drop_eq_nil_of_le h, List.take_nil]
theorem inLine_nat {n : Nat} (h : n < 2 ^ 62) : inLine (n : Int) := ⟨by omega, by omega⟩
theorem small_line {n : Nat} (h : n ≤ 1000000) : n ≤ sizeLine := by rw [sizeLine_eq]; omega
theorem small_ltline {n : Nat} (h : n ≤ 1000000) : n < sizeLine := by rw [sizeLine_eq]; omega
end DL

namespace pileruns_k62_exchanges_counted
open PySem PySem.Spec PyProof.Rows L2 DL
open PyProof.Rows (b2i)

def topS (i : Nat) : Stmt := PySem.Challenge.pw_pileruns_k62_exchanges_counted.main.body.getD i (.Pass ⟨0, 0, 0, 0⟩)
abbrev st__law_deck : Stmt := topS 3
abbrev N__law_deck : List Str := ["_law_script", "_law_cells"]
theorem sc__law_deck : FnScope N__law_deck ["_law_script"] (defScope st__law_deck) := ⟨rfl, rfl, rfl, by decide +kernel, rfl, by decide +kernel, by decide +kernel⟩
abbrev st__law_draw : Stmt := topS 4
abbrev N__law_draw : List Str := ["_law_deck_here", "_law_most", "_law_at", "_law_cells", "_law_seed", "_law_number"]
theorem sc__law_draw : FnScope N__law_draw ["_law_deck_here", "_law_most"] (defScope st__law_draw) := ⟨rfl, rfl, rfl, by decide +kernel, rfl, by decide +kernel, by decide +kernel⟩
abbrev st__law_run : Stmt := topS 8
abbrev N__law_run : List Str := ["_law_deck_here", "_law_way", "_law_many", "_law_piles", "_law_run_here", "_law_k", "_law_at"]
theorem sc__law_run : FnScope N__law_run ["_law_deck_here"] (defScope st__law_run) := ⟨rfl, rfl, rfl, by decide +kernel, rfl, by decide +kernel, by decide +kernel⟩
abbrev st_exchanges_in : Stmt := topS 1
abbrev N_exchanges_in : List Str := ["run", "one", "other"]
theorem sc_exchanges_in : FnScope N_exchanges_in ["run"] (defScope st_exchanges_in) := ⟨rfl, rfl, rfl, by decide +kernel, rfl, by decide +kernel, by decide +kernel⟩
abbrev st__law_whole : Stmt := topS 7
abbrev N__law_whole : List Str := ["_law_thing"]
theorem sc__law_whole : FnScope N__law_whole ["_law_thing"] (defScope st__law_whole) := ⟨rfl, rfl, rfl, by decide +kernel, rfl, by decide +kernel, by decide +kernel⟩
abbrev st__law_due : Stmt := topS 9
abbrev N__law_due : List Str := ["_law_run_here", "_law_found", "_law_k"]
theorem sc__law_due : FnScope N__law_due ["_law_run_here"] (defScope st__law_due) := ⟨rfl, rfl, rfl, by decide +kernel, rfl, by decide +kernel, by decide +kernel⟩
abbrev st_law : Stmt := topS 10
abbrev N_law : List Str := ["_law_script", "_law_deck_here", "_law_last", "_law_turn", "_law_run_here", "_law_found", "_law_more"]
theorem sc_law : FnScope N_law ["_law_script"] (defScope st_law) := ⟨rfl, rfl, rfl, by decide +kernel, rfl, by decide +kernel, by decide +kernel⟩
section
variable {P : Program} {w : World} {K : PySem.W.Frag} {mg : Str → Option Value} {base : Heap}
theorem draw_small {a : Int} (h0 : 0 ≤ a) (h1 : a ≤ 2 ^ 61) : a.natAbs < 2 ^ 62 := by omega
theorem draw_mod (a : Int) {m : Int} (h0 : 0 < m) (h1 : m ≤ 2 ^ 62) : (a % m).natAbs < 2 ^ 62 := by
  have := Int.emod_nonneg a (by omega : m ≠ 0)
  have := Int.emod_lt_of_pos a h0
  omega
theorem draw_tail {t most : Int} (t0 : 0 ≤ t) (t1 : t ≤ 2 ^ 61) (m0 : 0 < most) (m1 : most ≤ 2 ^ 62) (seed : Int) {Q : Int → Prop} (h : ∀ n, 0 ≤ n → n < most → Q n) :
    (0 : Int) < 2147483647 ∧ CMulW (seed % 2147483647) 48271 ∧ CMulW 69621 t ∧ CMulW (69621 * t) t ∧ (0 : Int) < 2147483629 ∧
      CMulW ((seed % 2147483647 * 48271 + 69621 * t * t + 7919) % 2147483629) ((seed % 2147483647 * 48271 + 69621 * t * t + 7919) % 2147483629) ∧ (0 : Int) < 2147483587 ∧
      CMulW ((seed % 2147483647 * 48271 + 69621 * t * t + 7919) % 2147483629 * ((seed % 2147483647 * 48271 + 69621 * t * t + 7919) % 2147483629) % 2147483587)
        ((seed % 2147483647 * 48271 + 69621 * t * t + 7919) % 2147483629 * ((seed % 2147483647 * 48271 + 69621 * t * t + 7919) % 2147483629) % 2147483587 + 39373) ∧ (0 : Int) < 2147483563 ∧
      CDivW ((seed % 2147483647 * 48271 + 69621 * t * t + 7919) % 2147483629 * ((seed % 2147483647 * 48271 + 69621 * t * t + 7919) % 2147483629) % 2147483587 *
        ((seed % 2147483647 * 48271 + 69621 * t * t + 7919) % 2147483629 * ((seed % 2147483647 * 48271 + 69621 * t * t + 7919) % 2147483629) % 2147483587 + 39373) % 2147483563) 64 ∧ 0 < most ∧
      Q ((seed % 2147483647 * 48271 + 69621 * t * t + 7919) % 2147483629 * ((seed % 2147483647 * 48271 + 69621 * t * t + 7919) % 2147483629) % 2147483587 *
        ((seed % 2147483647 * 48271 + 69621 * t * t + 7919) % 2147483629 * ((seed % 2147483647 * 48271 + 69621 * t * t + 7919) % 2147483629) % 2147483587 + 39373) % 2147483563 / 64 % most) := by
  have b1 := draw_mod seed (m := 2147483647) (by decide) (by decide)
  have bt : t.natAbs < 2 ^ 62 := draw_small t0 t1
  have b2 : (69621 * t).natAbs < 2 ^ (62 + 62) := nabs_mul (by decide) bt
  generalize seed % 2147483647 * 48271 + 69621 * t * t + 7919 = u
  have b3 := draw_mod u (m := 2147483629) (by decide) (by decide)
  generalize u % 2147483629 = v at *
  have b4 := draw_mod (v * v) (m := 2147483587) (by decide) (by decide)
  have b5 : (v * v % 2147483587 + 39373).natAbs < 2 ^ 63 := by
    have := Int.emod_nonneg (v * v) (by decide : (2147483587 : Int) ≠ 0)
    have := Int.emod_lt_of_pos (v * v) (by decide : (0 : Int) < 2147483587)
    omega
  refine ⟨by decide, cmul_ok (nabs_up b1 (by decide)) (by decide), cmul_ok (by decide) (nabs_up bt (by decide)), cmul_ok (nabs_up b2 (by decide)) (nabs_up bt (by decide)), by decide, cmul_ok (nabs_up b3 (by decide)) (nabs_up b3 (by decide)), by decide,
    cmul_ok (nabs_up b4 (by decide)) (nabs_up b5 (by decide)), by decide, cdiv_ok (by decide) (by decide), m0, h _ (Int.emod_nonneg _ (by omega)) (Int.emod_lt_of_pos _ m0)⟩
/-- a draw: some number below most; one draw less is left -/
def sp__law_draw : DSp := fun ds M R => match ds with
  | [.ref d, .int most] => ∃ c r, Deck M d c (r + 1) ∧ (0 < most ∧ most ≤ 2 ^ 62) ∧ ∀ n M', 0 ≤ n → n < most → Deck M' d c r → Ext d c M M' → R (.int n) M'
  | _ => False
theorem ok__law_draw {f__law_draw : Addr} {fd__law_draw : FuncData} (F__law_draw : Fun K "_law_draw" "_law_draw" st__law_draw f__law_draw fd__law_draw) : FnOk P w K mg base CX0 1 f__law_draw fd__law_draw ["_law_deck_here", "_law_most"] (toSp K sp__law_draw) := by
  refine fn_ok (k := 0) F__law_draw sc__law_draw (fun ds M R h => ?_) (fun cdv A outer s H E hr => ⟨_, (jb_cons (js_dput hr (jv 0) je_str (je_add (je_dget hr (jv 0) je_str) je_int))
      (jb_cons (js_set (i := 2) sc__law_draw.nd (je_dget hr (jv 0) je_str))
      (jb_cons (js_set (i := 3) sc__law_draw.nd (je_dget hr (jv 0) je_str))
      (jb_cons (js_set (i := 4) sc__law_draw.nd (je_add (je_dget hr (jv 0) je_str) (jv 2)))
      (jb_cons (js_if (jt_ne hr (jv 3) (je_fresh (jl_disp ja_nil))) (jb_cons (js_set (i := 4) sc__law_draw.nd (je_popAt (jv 3) je_int)) (jb_one (js_if (jt_ge (jv 4) (je_pow je_int je_int)) (jb_cons (js_expr (je_insert (jv 3) je_int (je_fdiv (jv 4) (jv 1)))) (jb_one (js_ret (je_mod (jv 4) (jv 1))))) jb_nil))) jb_nil)
      (jb_cons (js_set (i := 5) sc__law_draw.nd (je_mod (je_add (je_add (je_mul (je_mod (jv 4) je_int) je_int) (je_mul (je_mul je_int (jv 2)) (jv 2))) je_int) je_int))
      (jb_cons (js_set (i := 5) sc__law_draw.nd (je_mod (je_mul (jv 5) (jv 5)) je_int))
      (jb_one (js_ret (je_mod (je_fdiv (je_mod (je_mul (jv 5) (je_add (jv 5) je_int)) je_int) je_int) (jv 1))))))))))), fun ds M R h => ?_⟩)
  · unfold sp__law_draw at h
    split at h <;> first | rfl | exact h.elim
  · unfold sp__law_draw at h
    split at h
    · rename_i d most
      obtain ⟨c, r, ⟨hdc, ⟨cs, at_, sm⟩, ⟨o1, o2, o3⟩, e1, e2⟩, ⟨hm0, hm1⟩, k⟩ := h
      simp only at o1 o2 o3 e1 e2
      have hcd := hdc.symm
      have f1 := dicOf_some e1
      simp only [dSeq, dNext, dBreak, dCont, dDrop, dRet, dRetN, dIfS, dAsg, dputS, dOp, dVar, dC, dget_zero, dget_succ, dTest, isB, dNil, dCons, dgName, dTup, dCB, dCBL, dFresh, dDisp, dBM, dBM0, dAndV, dOrV, dNotV, dAnd, dOr, dNot, dCall, dNeg, dIf, dFor, dSl, dPart, dNoPart, diRng1, diRng2, diAny, diOwn, isI, dstart, List.set_cons_zero, List.set_cons_succ, List.map_cons, List.map_nil, List.length_cons, List.length_nil, List.cons_append, List.nil_append, Nat.reduceAdd, Nat.reduceSub, List.replicate, isLst, dgTup, dgCons, dgNil, dListOf, dJoinL, dRev, diZip, dLc, wipeD, ite_true, ite_false, if_true, if_false, reduceIte, Bool.false_eq_true, Bool.true_eq_false, and_true, true_and, addR_ii, addR_ib, addR_ss, addR_tt, subR_ii, mulR_ii, modR_ii, fdivR_ii, powR_ii, ltR_ii, leR_ii, gtR_ii, geR_ii, keyD_s, keyD_i, dgetR, eqR, neR, eqM_ii, eqM_ss, eqM_bb, eqM_tt, okD_i, okD_s, okD_b, okD_n, okD_t, deck_at, deck_sum, deck_cells, deck_len, deck_put, dicOf_mup_same, lstOf_mup_same, int1R_b, int1R_i, ix_t0, ix_t1, ix_t2, ix_t3, ix_t4, lenR_t, lenR_s, slR_t, slR_s, cutL_from1, cutL_from2, revR_t, beq_self_eq_true, Bool.not_true, Bool.not_false, Option.isSome_some, N__law_draw, f1]
      refine ⟨by decide, by decide, fun p hp => ?_⟩
      have hpd : p ≠ d := by rintro rfl; rw [mup_same] at hp; cases hp
      have hMp : M p = none := by rw [mup_ne hpd] at hp; exact hp
      have hpc : p ≠ c := by rintro rfl; rw [e2] at hMp; cases hMp
      have g1 : lstOf (mup (mup M d (.dic (deckD c ⟨cs, at_ + 1, sm⟩))) p (.lst [])) c = some (cs.map D.int) := by
        rw [lstOf_mup_ne hpc.symm, lstOf_mup_ne hcd]
        exact lstOf_some e2
      rw [okD_l g1, okD_l lstOf_mup_same, eqM_ll g1 lstOf_mup_same, eqvDs_nil, g1]
      refine ⟨⟨⟨pureDs_int _, Nat.le_trans (depDs_int _) (by decide)⟩, rfl, by decide⟩, ?_⟩
      have t0 : 0 ≤ at_ + 1 := by omega
      have t1 : at_ + 1 ≤ 2 ^ 61 := by omega
      have t2 : at_ + 1 + (r : Int) ≤ 2 ^ 60 := by omega
      -- the answer, the deck's cells being cs'
      have fin : ∀ (cs' : List Int) (M1 : Mm), cs'.length ≤ 63 → (∀ a, a ≠ d → a ≠ c → a ≠ p → M1 a = M a) → M1 d = some (.dic (deckD c ⟨cs, at_ + 1, sm⟩)) → M1 c = some (.lst (cs'.map D.int)) → ∀ n, 0 ≤ n → n < most → Shr R (.int n) M1 := by
        intro cs' M1 hl hM h1 h2 n n0 n1
        refine ⟨fun a => if a = p then none else M1 a, fun a o e => ?_, k n _ n0 n1 ⟨hdc, ⟨cs', at_ + 1, sm⟩, ⟨hl, t0, t2⟩, ?_, ?_⟩ (Upto.ext fun a h1 h2 => ?_)⟩
        · simp only at e
          split at e
          · cases e
          · exact e
        · simp only [if_neg hpd.symm]; exact h1
        · simp only [if_neg hpc.symm]; exact h2
        · show (if a = p then none else M1 a) = M a
          split
          · rename_i e; subst e; exact hMp.symm
          · rename_i e; exact hM a h1 h2 e
      cases cs with
      | nil =>
        simp only [List.map_nil, List.isEmpty_nil, Bool.not_true, dSeq, dNext, dBreak, dCont, dDrop, dRet, dRetN, dIfS, dAsg, dputS, dOp, dVar, dC, dget_zero, dget_succ, dTest, isB, dNil, dCons, dgName, dTup, dCB, dCBL, dFresh, dDisp, dBM, dBM0, dAndV, dOrV, dNotV, dAnd, dOr, dNot, dCall, dNeg, dIf, dFor, dSl, dPart, dNoPart, diRng1, diRng2, diAny, diOwn, isI, dstart, List.set_cons_zero, List.set_cons_succ, List.map_cons, List.map_nil, List.length_cons, List.length_nil, List.cons_append, List.nil_append, Nat.reduceAdd, Nat.reduceSub, List.replicate, isLst, dgTup, dgCons, dgNil, dListOf, dJoinL, dRev, diZip, dLc, wipeD, ite_true, ite_false, if_true, if_false, reduceIte, Bool.false_eq_true, Bool.true_eq_false, and_true, true_and, addR_ii, addR_ib, addR_ss, addR_tt, subR_ii, mulR_ii, modR_ii, fdivR_ii, powR_ii, ltR_ii, leR_ii, gtR_ii, geR_ii, keyD_s, keyD_i, dgetR, eqR, neR, eqM_ii, eqM_ss, eqM_bb, eqM_tt, okD_i, okD_s, okD_b, okD_n, okD_t, deck_at, deck_sum, deck_cells, deck_len, deck_put, dicOf_mup_same, lstOf_mup_same, int1R_b, int1R_i, ix_t0, ix_t1, ix_t2, ix_t3, ix_t4, lenR_t, lenR_s, slR_t, slR_s, cutL_from1, cutL_from2, revR_t, beq_self_eq_true, Bool.not_true, Bool.not_false, Option.isSome_some]
        refine draw_tail t0 t1 hm0 hm1 _ fun n n0 n1 => fin [] _ (by decide) (fun a h1 h2 h3 => ?_) ?_ ?_ n n0 n1
        · rw [mup_ne h3, mup_ne h1]
        · rw [mup_ne hpd.symm, mup_same]
        · rw [mup_ne hpc.symm, mup_ne hcd]; exact e2
      | cons z zs =>
        rw [List.map_cons] at g1
        simp only [List.map_cons, List.isEmpty_cons, Bool.not_false, dSeq, dNext, dBreak, dCont, dDrop, dRet, dRetN, dIfS, dAsg, dputS, dOp, dVar, dC, dget_zero, dget_succ, dTest, isB, dNil, dCons, dgName, dTup, dCB, dCBL, dFresh, dDisp, dBM, dBM0, dAndV, dOrV, dNotV, dAnd, dOr, dNot, dCall, dNeg, dIf, dFor, dSl, dPart, dNoPart, diRng1, diRng2, diAny, diOwn, isI, dstart, List.set_cons_zero, List.set_cons_succ, List.map_cons, List.map_nil, List.length_cons, List.length_nil, List.cons_append, List.nil_append, Nat.reduceAdd, Nat.reduceSub, List.replicate, isLst, dgTup, dgCons, dgNil, dListOf, dJoinL, dRev, diZip, dLc, wipeD, ite_true, ite_false, if_true, if_false, reduceIte, Bool.false_eq_true, Bool.true_eq_false, and_true, true_and, addR_ii, addR_ib, addR_ss, addR_tt, subR_ii, mulR_ii, modR_ii, fdivR_ii, powR_ii, ltR_ii, leR_ii, gtR_ii, geR_ii, keyD_s, keyD_i, dgetR, eqR, neR, eqM_ii, eqM_ss, eqM_bb, eqM_tt, okD_i, okD_s, okD_b, okD_n, okD_t, deck_at, deck_sum, deck_cells, deck_len, deck_put, dicOf_mup_same, lstOf_mup_same, int1R_b, int1R_i, ix_t0, ix_t1, ix_t2, ix_t3, ix_t4, lenR_t, lenR_s, slR_t, slR_s, cutL_from1, cutL_from2, revR_t, beq_self_eq_true, Bool.not_true, Bool.not_false, Option.isSome_some, popAtR, g1]
        refine ⟨⟨by decide, by decide⟩, ?_⟩
        simp only [Int.toNat_zero, List.getElem?_cons_zero, List.eraseIdx_cons_zero, dSeq, dNext, dBreak, dCont, dDrop, dRet, dRetN, dIfS, dAsg, dputS, dOp, dVar, dC, dget_zero, dget_succ, dTest, isB, dNil, dCons, dgName, dTup, dCB, dCBL, dFresh, dDisp, dBM, dBM0, dAndV, dOrV, dNotV, dAnd, dOr, dNot, dCall, dNeg, dIf, dFor, dSl, dPart, dNoPart, diRng1, diRng2, diAny, diOwn, isI, dstart, List.set_cons_zero, List.set_cons_succ, List.map_cons, List.map_nil, List.length_cons, List.length_nil, List.cons_append, List.nil_append, Nat.reduceAdd, Nat.reduceSub, List.replicate, isLst, dgTup, dgCons, dgNil, dListOf, dJoinL, dRev, diZip, dLc, wipeD, ite_true, ite_false, if_true, if_false, reduceIte, Bool.false_eq_true, Bool.true_eq_false, and_true, true_and, addR_ii, addR_ib, addR_ss, addR_tt, subR_ii, mulR_ii, modR_ii, fdivR_ii, powR_ii, ltR_ii, leR_ii, gtR_ii, geR_ii, keyD_s, keyD_i, dgetR, eqR, neR, eqM_ii, eqM_ss, eqM_bb, eqM_tt, okD_i, okD_s, okD_b, okD_n, okD_t, deck_at, deck_sum, deck_cells, deck_len, deck_put, dicOf_mup_same, lstOf_mup_same, int1R_b, int1R_i, ix_t0, ix_t1, ix_t2, ix_t3, ix_t4, lenR_t, lenR_s, slR_t, slR_s, cutL_from1, cutL_from2, revR_t, beq_self_eq_true, Bool.not_true, Bool.not_false, Option.isSome_some, insertR]
        refine ⟨⟨by decide, by decide, by decide⟩, ?_⟩
        have o1' : zs.length ≤ 62 := by simpa using o1
        split
        · refine ⟨cdiv_ok hm0 (by omega), ⟨?_, by decide, by decide⟩, hm0, ?_⟩
          · rw [List.length_map]
            exact Nat.lt_of_le_of_lt o1' (by decide)
          · refine fin (z / most :: zs) _ (by simpa using o1') (fun a h1 h2 h3 => ?_) ?_ ?_ _ (Int.emod_nonneg _ (by omega)) (Int.emod_lt_of_pos _ hm0)
            · rw [mup_ne h2, mup_ne h2, mup_ne h3, mup_ne h1]
            · rw [mup_ne hdc, mup_ne hdc, mup_ne hpd.symm, mup_same]
            · rw [mup_same]
              rfl
        · refine draw_tail t0 t1 hm0 hm1 _ fun n n0 n1 => fin zs _ (by omega) (fun a h1 h2 h3 => ?_) ?_ ?_ n n0 n1
          · rw [mup_ne h2, mup_ne h3, mup_ne h1]
          · rw [mup_ne hdc, mup_ne hpd.symm, mup_same]
          · rw [mup_same]
    · exact h.elim
def pairD (p : Int × Int) : D := .tup [.int p.1, .int p.2]
theorem pairs_pure (xs : List (Int × Int)) : pureDs (xs.map pairD) = true := pureDs_map _ (fun _ => rfl) xs
theorem pairs_dep (xs : List (Int × Int)) : depDs (xs.map pairD) ≤ 2 := depDs_map _ 2 (by decide) (fun _ => by simp [pairD, depD, depDs]) xs
/-- a run of pairs of numbers, at most three hundred -/
def sp__law_run : DSp := fun ds M R => match ds with
  | [.ref d] => ∃ c r, Deck M d c (r + 1000) ∧ ∀ (xs : List (Int × Int)) M', xs.length ≤ 300 → Deck M' d c r → Ext d c M M' → R (.tup (xs.map pairD)) M'
  | _ => False
theorem ok__law_run {f__law_run f__law_draw : Addr} {fd__law_run fd__law_draw : FuncData} (F__law_run : Fun K "_law_run" "_law_run" st__law_run f__law_run fd__law_run) (G__law_draw : FnOk P w K mg base CX0 1 f__law_draw fd__law_draw ["_law_deck_here", "_law_most"] (toSp K sp__law_draw)) (g__law_draw : mg "_law_draw" = some (.ref f__law_draw)) (k__law_draw : PySem.W.keepIn K (.ref f__law_draw) = true) (b__law_draw : Binds K fd__law_draw ["_law_deck_here", "_law_most"] []) (z_int : mg "int" = none) (z_range : mg "range" = none) : FnOk P w K mg base CX0 2 f__law_run fd__law_run ["_law_deck_here"] (toSp K sp__law_run) := by
  refine fn_ok (k := 1) F__law_run sc__law_run (fun ds M R h => ?_) (fun cdv A outer s H E hr => ⟨_, (jb_cons (js_set (i := 1) sc__law_run.nd (je_call G__law_draw (hr.mono (by decide)) (by rfl) g__law_draw k__law_draw b__law_draw (ja_cons (jv 0) (ja_cons je_int ja_nil))))
      (jb_cons (js_set (i := 2) sc__law_run.nd (je_ix (je_fresh (jl_disp (ja_cons (je_call G__law_draw (hr.mono (by decide)) (by rfl) g__law_draw k__law_draw b__law_draw (ja_cons (jv 0) (ja_cons je_int ja_nil))) (ja_cons je_int ja_nil)))) (je_int1 z_int (ja_cons (je_eq hr (je_call G__law_draw (hr.mono (by decide)) (by rfl) g__law_draw k__law_draw b__law_draw (ja_cons (jv 0) (ja_cons je_int ja_nil))) je_int) ja_nil))))
      (jb_cons (js_set (i := 3) sc__law_run.nd (je_add je_int (je_call G__law_draw (hr.mono (by decide)) (by rfl) g__law_draw k__law_draw b__law_draw (ja_cons (jv 0) (ja_cons je_int ja_nil)))))
      (jb_cons (js_set (i := 4) sc__law_run.nd (je_tup ja_nil))
      (jb_cons (js_for PassesOwn.never rfl (ji_rng1 (by rfl) z_range (jv 2)) (jg_name (i := 5) sc__law_run.nd) (jb_cons (js_set (i := 6) sc__law_run.nd (je_call G__law_draw (hr.mono (by decide)) (by rfl) g__law_draw k__law_draw b__law_draw (ja_cons (jv 0) (ja_cons (jv 3) ja_nil)))) (jb_cons (js_if (JW.jt (jw_and (jt_lt (jv 1) je_int) (jw_and (jt_ne hr (jv 4) (je_tup ja_nil)) (jw_and1 (jt_gt (je_call G__law_draw (hr.mono (by decide)) (by rfl) g__law_draw k__law_draw b__law_draw (ja_cons (jv 0) (ja_cons je_int ja_nil))) je_int))))) (jb_one (js_set (i := 6) sc__law_run.nd (je_ix (je_ix (jv 4) (je_neg je_int)) je_int))) jb_nil) (jb_cons (js_if (jt_eq hr (jv 1) je_int) (jb_one (js_set (i := 6) sc__law_run.nd (je_mod (jv 5) (jv 3)))) jb_nil) (jb_one (js_set (i := 4) sc__law_run.nd (je_add (jv 4) (je_tup (ja_cons (je_tup (ja_cons (jv 6) (ja_cons (je_call G__law_draw (hr.mono (by decide)) (by rfl) g__law_draw k__law_draw b__law_draw (ja_cons (jv 0) (ja_cons je_int ja_nil))) ja_nil))) ja_nil)))))))))
      (jb_one (js_ret (jv 4)))))))), fun ds M R h => ?_⟩)
  · unfold sp__law_run at h
    split at h <;> first | rfl | exact h.elim
  · unfold sp__law_run at h
    split at h
    · rename_i d
      obtain ⟨c, r, hD, k⟩ := h
      simp only [dSeq, dNext, dBreak, dCont, dDrop, dRet, dRetN, dIfS, dAsg, dputS, dOp, dVar, dC, dget_zero, dget_succ, dTest, isB, dNil, dCons, dgName, dTup, dCB, dCBL, dFresh, dDisp, dBM, dBM0, dAndV, dOrV, dNotV, dAnd, dOr, dNot, dCall, dNeg, dIf, dFor, dSl, dPart, dNoPart, diRng1, diRng2, diAny, diOwn, isI, dstart, List.set_cons_zero, List.set_cons_succ, List.map_cons, List.map_nil, List.length_cons, List.length_nil, List.cons_append, List.nil_append, Nat.reduceAdd, Nat.reduceSub, List.replicate, isLst, dgTup, dgCons, dgNil, dListOf, dJoinL, dRev, diZip, dLc, wipeD, ite_true, ite_false, if_true, if_false, reduceIte, Bool.false_eq_true, Bool.true_eq_false, and_true, true_and, addR_ii, addR_ib, addR_ss, addR_tt, subR_ii, mulR_ii, modR_ii, fdivR_ii, powR_ii, ltR_ii, leR_ii, gtR_ii, geR_ii, keyD_s, keyD_i, dgetR, eqR, neR, eqM_ii, eqM_ss, eqM_bb, eqM_tt, okD_i, okD_s, okD_b, okD_n, okD_t, deck_at, deck_sum, deck_cells, deck_len, deck_put, dicOf_mup_same, lstOf_mup_same, int1R_b, int1R_i, ix_t0, ix_t1, ix_t2, ix_t3, ix_t4, lenR_t, lenR_s, slR_t, slR_s, cutL_from1, cutL_from2, revR_t, beq_self_eq_true, Bool.not_true, Bool.not_false, Option.isSome_some, N__law_run, sp__law_draw]
      refine ⟨c, _, hD, by decide, fun way M1 a1 b1 D1 X1 => ?_⟩
      refine ⟨c, _, D1, by decide, fun n2 M2 a2 b2 D2 X2 => ⟨by decide, fun p hp => ?_⟩⟩
      refine ⟨c, _, D2.up hp, by decide, fun n3 M3 a3 b3 D3 X3 => ?_⟩
      refine ix_pick (X3.lst (D2.nd hp) (D2.nc hp) lstOf_mup_same) ?_
      refine ⟨c, _, D3, by decide, fun n4 M4 a4 b4 D4 X4 => ⟨by decide, ?_⟩⟩
      obtain ⟨many, hm, hm2, hm3⟩ : ∃ many : Nat, (if (n3 == 5) = true then D.int 300 else D.int n2) = .int (many : Int) ∧ many ≤ 300 ∧ True := by
        split
        · exact ⟨300, rfl, by decide, trivial⟩
        · exact ⟨n2.toNat, by rw [show ((n2.toNat : Nat) : Int) = n2 by omega], by omega, trivial⟩
      rw [hm]
      refine ⟨inLine_nat (by omega), ?_⟩
      have X14 : Ext d c M M4 := ((X1.trans X2).trans ((Ext.refl.new hp).trans X3)).trans X4
      rw [Int.toNat_natCast]
      refine forW_rng (fun i ds M' => ∃ (xs : List (Int × Int)) (x5 x6 : Option D), ds = [some (.ref d), some (.int way), some (.int (many : Int)), some (.int (1 + n4)), some (.tup (xs.map pairD)), x5, x6] ∧ xs.length ≤ i ∧ i ≤ 300 ∧ Ext d c M M' ∧ Deck M' d c (r + 3 * (300 - i)))
        (fun i N hi hN ds M' hI => ?_) (fun ds M' hI => ?_) _ _ ⟨[], none, none, rfl, by decide, by omega, X14, D4.mono (by omega)⟩
      · obtain ⟨xs, x5, x6, rfl, hl, hi3, XX, DD⟩ := hI
        have DD : Deck M' d c (r + 3 * (300 - (i + 1)) + 1 + 1 + 1) := DD.mono (by omega)
        simp only [dNext, dBreak, dCont, dDrop, dRet, dRetN, dIfS, dAsg, dputS, dOp, dVar, dC, dget_zero, dget_succ, dTest, isB, dNil, dCons, dgName, dTup, dCB, dCBL, dFresh, dDisp, dBM, dBM0, dAndV, dOrV, dNotV, dAnd, dOr, dNot, dCall, dNeg, dIf, dFor, dSl, dPart, dNoPart, diRng1, diRng2, diAny, diOwn, isI, dstart, List.set_cons_zero, List.set_cons_succ, List.map_cons, List.map_nil, List.length_cons, List.length_nil, List.cons_append, List.nil_append, Nat.reduceAdd, Nat.reduceSub, List.replicate, isLst, dgTup, dgCons, dgNil, dListOf, dJoinL, dRev, diZip, dLc, wipeD, ite_true, ite_false, if_true, if_false, reduceIte, Bool.false_eq_true, Bool.true_eq_false, and_true, true_and, addR_ii, addR_ib, addR_ss, addR_tt, subR_ii, mulR_ii, modR_ii, fdivR_ii, powR_ii, ltR_ii, leR_ii, gtR_ii, geR_ii, keyD_s, keyD_i, dgetR, eqR, neR, eqM_ii, eqM_ss, eqM_bb, eqM_tt, okD_i, okD_s, okD_b, okD_n, okD_t, deck_at, deck_sum, deck_cells, deck_len, deck_put, dicOf_mup_same, lstOf_mup_same, int1R_b, int1R_i, ix_t0, ix_t1, ix_t2, ix_t3, ix_t4, lenR_t, lenR_s, slR_t, slR_s, cutL_from1, cutL_from2, revR_t, beq_self_eq_true, Bool.not_true, Bool.not_false, Option.isSome_some]
        refine seq_go ?_
        simp only [dNext, dBreak, dCont, dDrop, dRet, dRetN, dIfS, dAsg, dputS, dOp, dVar, dC, dget_zero, dget_succ, dTest, isB, dNil, dCons, dgName, dTup, dCB, dCBL, dFresh, dDisp, dBM, dBM0, dAndV, dOrV, dNotV, dAnd, dOr, dNot, dCall, dNeg, dIf, dFor, dSl, dPart, dNoPart, diRng1, diRng2, diAny, diOwn, isI, dstart, List.set_cons_zero, List.set_cons_succ, List.map_cons, List.map_nil, List.length_cons, List.length_nil, List.cons_append, List.nil_append, Nat.reduceAdd, Nat.reduceSub, List.replicate, isLst, dgTup, dgCons, dgNil, dListOf, dJoinL, dRev, diZip, dLc, wipeD, ite_true, ite_false, if_true, if_false, reduceIte, Bool.false_eq_true, Bool.true_eq_false, and_true, true_and, addR_ii, addR_ib, addR_ss, addR_tt, subR_ii, mulR_ii, modR_ii, fdivR_ii, powR_ii, ltR_ii, leR_ii, gtR_ii, geR_ii, keyD_s, keyD_i, dgetR, eqR, neR, eqM_ii, eqM_ss, eqM_bb, eqM_tt, okD_i, okD_s, okD_b, okD_n, okD_t, deck_at, deck_sum, deck_cells, deck_len, deck_put, dicOf_mup_same, lstOf_mup_same, int1R_b, int1R_i, ix_t0, ix_t1, ix_t2, ix_t3, ix_t4, lenR_t, lenR_s, slR_t, slR_s, cutL_from1, cutL_from2, revR_t, beq_self_eq_true, Bool.not_true, Bool.not_false, Option.isSome_some]
        refine ⟨c, _, DD, by omega, fun at1 M5 a5 b5 D5 X5 => ?_⟩
        refine seq_cut (fun ds M6 => ∃ (y : Int), ds = [some (.ref d), some (.int way), some (.int (many : Int)), some (.int (1 + n4)), some (.tup (xs.map pairD)), some (.int (0 + (i : Int))), some (.int y)] ∧ Ext d c M M6 ∧ Deck M6 d c (r + 3 * (300 - (i + 1)) + 1))
          (fun N hN2 => ?_) fun ds M6 hJ => ?_
        · have X05 := XX.trans X5
          simp only [dSeq, dNext, dBreak, dCont, dDrop, dRet, dRetN, dIfS, dAsg, dputS, dOp, dVar, dC, dget_zero, dget_succ, dTest, isB, dNil, dCons, dgName, dTup, dCB, dCBL, dFresh, dDisp, dBM, dBM0, dAndV, dOrV, dNotV, dAnd, dOr, dNot, dCall, dNeg, dIf, dFor, dSl, dPart, dNoPart, diRng1, diRng2, diAny, diOwn, isI, dstart, List.set_cons_zero, List.set_cons_succ, List.map_cons, List.map_nil, List.length_cons, List.length_nil, List.cons_append, List.nil_append, Nat.reduceAdd, Nat.reduceSub, List.replicate, isLst, dgTup, dgCons, dgNil, dListOf, dJoinL, dRev, diZip, dLc, wipeD, ite_true, ite_false, if_true, if_false, reduceIte, Bool.false_eq_true, Bool.true_eq_false, and_true, true_and, addR_ii, addR_ib, addR_ss, addR_tt, subR_ii, mulR_ii, modR_ii, fdivR_ii, powR_ii, ltR_ii, leR_ii, gtR_ii, geR_ii, keyD_s, keyD_i, dgetR, eqR, neR, eqM_ii, eqM_ss, eqM_bb, eqM_tt, okD_i, okD_s, okD_b, okD_n, okD_t, deck_at, deck_sum, deck_cells, deck_len, deck_put, dicOf_mup_same, lstOf_mup_same, int1R_b, int1R_i, ix_t0, ix_t1, ix_t2, ix_t3, ix_t4, lenR_t, lenR_s, slR_t, slR_s, cutL_from1, cutL_from2, revR_t, beq_self_eq_true, Bool.not_true, Bool.not_false, Option.isSome_some]
          split
          · refine ⟨by decide, ⟨⟨pairs_pure _, Nat.le_trans (pairs_dep _) (by decide)⟩, by decide, by decide⟩, ?_⟩
            split
            · rename_i hne
              refine ⟨c, _, D5, by decide, fun at2 M6 a6 b6 D6 X6 => ?_⟩
              simp only [dSeq, dNext, dBreak, dCont, dDrop, dRet, dRetN, dIfS, dAsg, dputS, dOp, dVar, dC, dget_zero, dget_succ, dTest, isB, dNil, dCons, dgName, dTup, dCB, dCBL, dFresh, dDisp, dBM, dBM0, dAndV, dOrV, dNotV, dAnd, dOr, dNot, dCall, dNeg, dIf, dFor, dSl, dPart, dNoPart, diRng1, diRng2, diAny, diOwn, isI, dstart, List.set_cons_zero, List.set_cons_succ, List.map_cons, List.map_nil, List.length_cons, List.length_nil, List.cons_append, List.nil_append, Nat.reduceAdd, Nat.reduceSub, List.replicate, isLst, dgTup, dgCons, dgNil, dListOf, dJoinL, dRev, diZip, dLc, wipeD, ite_true, ite_false, if_true, if_false, reduceIte, Bool.false_eq_true, Bool.true_eq_false, and_true, true_and, addR_ii, addR_ib, addR_ss, addR_tt, subR_ii, mulR_ii, modR_ii, fdivR_ii, powR_ii, ltR_ii, leR_ii, gtR_ii, geR_ii, keyD_s, keyD_i, dgetR, eqR, neR, eqM_ii, eqM_ss, eqM_bb, eqM_tt, okD_i, okD_s, okD_b, okD_n, okD_t, deck_at, deck_sum, deck_cells, deck_len, deck_put, dicOf_mup_same, lstOf_mup_same, int1R_b, int1R_i, ix_t0, ix_t1, ix_t2, ix_t3, ix_t4, lenR_t, lenR_s, slR_t, slR_s, cutL_from1, cutL_from2, revR_t, beq_self_eq_true, Bool.not_true, Bool.not_false, Option.isSome_some]
              split
              · obtain ⟨p, hp⟩ : ∃ p, xs[xs.length - 1]? = some p := by
                  cases xs with
                  | nil => simp [eqvDs] at hne
                  | cons z zs => exact ⟨_, List.getElem?_eq_getElem (by simp)⟩
                refine ix_tl (d := pairD p) (by rw [List.length_map, List.getElem?_map, hp]; rfl) ?_
                simp only [dSeq, dNext, dBreak, dCont, dDrop, dRet, dRetN, dIfS, dAsg, dputS, dOp, dVar, dC, dget_zero, dget_succ, dTest, isB, dNil, dCons, dgName, dTup, dCB, dCBL, dFresh, dDisp, dBM, dBM0, dAndV, dOrV, dNotV, dAnd, dOr, dNot, dCall, dNeg, dIf, dFor, dSl, dPart, dNoPart, diRng1, diRng2, diAny, diOwn, isI, dstart, List.set_cons_zero, List.set_cons_succ, List.map_cons, List.map_nil, List.length_cons, List.length_nil, List.cons_append, List.nil_append, Nat.reduceAdd, Nat.reduceSub, List.replicate, isLst, dgTup, dgCons, dgNil, dListOf, dJoinL, dRev, diZip, dLc, wipeD, ite_true, ite_false, if_true, if_false, reduceIte, Bool.false_eq_true, Bool.true_eq_false, and_true, true_and, addR_ii, addR_ib, addR_ss, addR_tt, subR_ii, mulR_ii, modR_ii, fdivR_ii, powR_ii, ltR_ii, leR_ii, gtR_ii, geR_ii, keyD_s, keyD_i, dgetR, eqR, neR, eqM_ii, eqM_ss, eqM_bb, eqM_tt, okD_i, okD_s, okD_b, okD_n, okD_t, deck_at, deck_sum, deck_cells, deck_len, deck_put, dicOf_mup_same, lstOf_mup_same, int1R_b, int1R_i, ix_t0, ix_t1, ix_t2, ix_t3, ix_t4, lenR_t, lenR_s, slR_t, slR_s, cutL_from1, cutL_from2, revR_t, beq_self_eq_true, Bool.not_true, Bool.not_false, Option.isSome_some, pairD]
                exact hN2 _ _ ⟨_, rfl, X05.trans X6, D6⟩
              · exact hN2 _ _ ⟨_, rfl, X05.trans X6, D6⟩
            · exact hN2 _ _ ⟨_, rfl, X05, D5.mono (by omega)⟩
          · exact hN2 _ _ ⟨_, rfl, X05, D5.mono (by omega)⟩
        · obtain ⟨y, rfl, X06, D6⟩ := hJ
          have fin : ∀ z : Int, ∃ c r_1, Deck M6 d c (r_1 + 1) ∧ ((0 : Int) < 8 ∧ (8 : Int) ≤ 2 ^ 62) ∧ ∀ (n : Int) (M' : Mm), 0 ≤ n → n < 8 → Deck M' d c r_1 → Ext d c M6 M' →
              2 ≤ sizeLine ∧ 1 ≤ sizeLine ∧ (xs.map pairD).length + 1 ≤ sizeLine ∧ N [some (.ref d), some (.int way), some (.int (many : Int)), some (.int (1 + n4)), some (.tup (xs.map pairD ++ [.tup [.int z, .int n]])), some (.int (0 + (i : Int))), some (.int z)] M' := by
            intro z
            refine ⟨c, _, D6, by decide, fun n M7 a7 b7 D7 X7 => ⟨by decide, by decide, small_line (by rw [List.length_map]; omega), ?_⟩⟩
            refine hN _ _ ⟨xs ++ [(z, n)], _, _, by rw [List.map_append]; rfl, by simp; omega, by omega, X06.trans X7, D7⟩
          simp only [dSeq, dNext, dBreak, dCont, dDrop, dRet, dRetN, dIfS, dAsg, dputS, dOp, dVar, dC, dget_zero, dget_succ, dTest, isB, dNil, dCons, dgName, dTup, dCB, dCBL, dFresh, dDisp, dBM, dBM0, dAndV, dOrV, dNotV, dAnd, dOr, dNot, dCall, dNeg, dIf, dFor, dSl, dPart, dNoPart, diRng1, diRng2, diAny, diOwn, isI, dstart, List.set_cons_zero, List.set_cons_succ, List.map_cons, List.map_nil, List.length_cons, List.length_nil, List.cons_append, List.nil_append, Nat.reduceAdd, Nat.reduceSub, List.replicate, isLst, dgTup, dgCons, dgNil, dListOf, dJoinL, dRev, diZip, dLc, wipeD, ite_true, ite_false, if_true, if_false, reduceIte, Bool.false_eq_true, Bool.true_eq_false, and_true, true_and, addR_ii, addR_ib, addR_ss, addR_tt, subR_ii, mulR_ii, modR_ii, fdivR_ii, powR_ii, ltR_ii, leR_ii, gtR_ii, geR_ii, keyD_s, keyD_i, dgetR, eqR, neR, eqM_ii, eqM_ss, eqM_bb, eqM_tt, okD_i, okD_s, okD_b, okD_n, okD_t, deck_at, deck_sum, deck_cells, deck_len, deck_put, dicOf_mup_same, lstOf_mup_same, int1R_b, int1R_i, ix_t0, ix_t1, ix_t2, ix_t3, ix_t4, lenR_t, lenR_s, slR_t, slR_s, cutL_from1, cutL_from2, revR_t, beq_self_eq_true, Bool.not_true, Bool.not_false, Option.isSome_some]
          exact ifs (fun _ => ⟨by omega, fin _⟩) (fun _ => fin _)
      · obtain ⟨xs, x5, x6, rfl, hl, hi, XX, DD⟩ := hI
        simp only [dSeq, dNext, dBreak, dCont, dDrop, dRet, dRetN, dIfS, dAsg, dputS, dOp, dVar, dC, dget_zero, dget_succ, dTest, isB, dNil, dCons, dgName, dTup, dCB, dCBL, dFresh, dDisp, dBM, dBM0, dAndV, dOrV, dNotV, dAnd, dOr, dNot, dCall, dNeg, dIf, dFor, dSl, dPart, dNoPart, diRng1, diRng2, diAny, diOwn, isI, dstart, List.set_cons_zero, List.set_cons_succ, List.map_cons, List.map_nil, List.length_cons, List.length_nil, List.cons_append, List.nil_append, Nat.reduceAdd, Nat.reduceSub, List.replicate, isLst, dgTup, dgCons, dgNil, dListOf, dJoinL, dRev, diZip, dLc, wipeD, ite_true, ite_false, if_true, if_false, reduceIte, Bool.false_eq_true, Bool.true_eq_false, and_true, true_and, addR_ii, addR_ib, addR_ss, addR_tt, subR_ii, mulR_ii, modR_ii, fdivR_ii, powR_ii, ltR_ii, leR_ii, gtR_ii, geR_ii, keyD_s, keyD_i, dgetR, eqR, neR, eqM_ii, eqM_ss, eqM_bb, eqM_tt, okD_i, okD_s, okD_b, okD_n, okD_t, deck_at, deck_sum, deck_cells, deck_len, deck_put, dicOf_mup_same, lstOf_mup_same, int1R_b, int1R_i, ix_t0, ix_t1, ix_t2, ix_t3, ix_t4, lenR_t, lenR_s, slR_t, slR_s, cutL_from1, cutL_from2, revR_t, beq_self_eq_true, Bool.not_true, Bool.not_false, Option.isSome_some]
        exact Shr.all (k xs M' (by omega) (DD.mono (by omega)) XX)
    · exact h.elim
def ex1 (x y : Int × Int) : Int := if x.1 ≠ y.1 then 1 else 0
def exch : List (Int × Int) → Int
  | x :: y :: r => ex1 x y + exch (y :: r)
  | _ => 0
theorem exch_zip : ∀ xs : List (Int × Int), ((xs.zip (xs.drop 1)).map fun q => ex1 q.1 q.2).sum = exch xs
  | [] => rfl
  | [_] => rfl
  | x :: y :: r => by
    have := exch_zip (y :: r)
    simp only [List.drop_one, List.tail_cons] at this ⊢
    rw [List.zip_cons_cons, List.map_cons, List.sum_cons, this]
    rfl
theorem zip_pairs (xs ys : List (Int × Int)) : zipD (xs.map pairD) (ys.map pairD) = (xs.zip ys).map fun q => .tup [pairD q.1, pairD q.2] := by
  unfold zipD
  rw [List.zip_map, List.map_map]
  rfl
/-- the exchanges of a run of pairs -/
def sp_exchanges_in : DSp := fun ds M R => match ds with
  | [.tup run] => ∃ xs : List (Int × Int), run = xs.map pairD ∧ xs.length ≤ 1000 ∧ R (.int (exch xs)) M
  | _ => False
theorem ok_exchanges_in {f_exchanges_in : Addr} {fd_exchanges_in : FuncData} (F_exchanges_in : Fun K "exchanges_in" "exchanges_in" st_exchanges_in f_exchanges_in fd_exchanges_in) (z_sum : mg "sum" = none) (z_zip : mg "zip" = none) (z_int : mg "int" = none) : FnOk P w K mg base CX0 1 f_exchanges_in fd_exchanges_in ["run"] (toSp K sp_exchanges_in) := by
  refine fn_ok (k := 0) F_exchanges_in sc_exchanges_in (fun ds M R h => ?_) (fun cdv A outer s H E hr => ⟨_, (jb_one (js_ret (je_sumL rfl z_sum (jl_lc rfl sc_exchanges_in.nd (jlc (ji_zip z_zip (jv 0) (je_slice (jv 0) (jo_some je_int) jo_none)) (blkOk_by (own := [("one", 1), ("other", 2)]) (N := N_exchanges_in) (sc := defScope st_exchanges_in) (by decide +kernel)) (fun _ _ _ _ _ => (jgv_tup (n := 2) rfl (jgvs_cons (jgv_name (i := 1) sc_exchanges_in.nd (by decide)) (jgvs_cons (jgv_name (i := 2) sc_exchanges_in.nd (by decide)) jgvs_nil)))) (fun _ _ _ _ _ => jts_nil) (fun _ _ _ _ _ => (je_int1 z_int (ja_cons (je_ne hr (je_ix (jv 1) je_int) (je_ix (jv 2) je_int)) ja_nil)))))))), fun ds M R h => ?_⟩)
  · unfold sp_exchanges_in at h
    split at h <;> first | rfl | exact h.elim
  · unfold sp_exchanges_in at h
    split at h
    · rename_i run
      obtain ⟨xs, rfl, hl, k⟩ := h
      simp only [dSeq, dNext, dBreak, dCont, dDrop, dRet, dRetN, dIfS, dAsg, dputS, dOp, dVar, dC, dget_zero, dget_succ, dTest, isB, dNil, dCons, dgName, dTup, dCB, dCBL, dFresh, dDisp, dBM, dBM0, dAndV, dOrV, dNotV, dAnd, dOr, dNot, dCall, dNeg, dIf, dFor, dSl, dPart, dNoPart, diRng1, diRng2, diAny, diOwn, isI, dstart, List.set_cons_zero, List.set_cons_succ, List.map_cons, List.map_nil, List.length_cons, List.length_nil, List.cons_append, List.nil_append, Nat.reduceAdd, Nat.reduceSub, List.replicate, isLst, dgTup, dgCons, dgNil, dListOf, dJoinL, dRev, diZip, dLc, wipeD, ite_true, ite_false, if_true, if_false, reduceIte, Bool.false_eq_true, Bool.true_eq_false, and_true, true_and, addR_ii, addR_ib, addR_ss, addR_tt, subR_ii, mulR_ii, modR_ii, fdivR_ii, powR_ii, ltR_ii, leR_ii, gtR_ii, geR_ii, keyD_s, keyD_i, dgetR, eqR, neR, eqM_ii, eqM_ss, eqM_bb, eqM_tt, okD_i, okD_s, okD_b, okD_n, okD_t, deck_at, deck_sum, deck_cells, deck_len, deck_put, dicOf_mup_same, lstOf_mup_same, int1R_b, int1R_i, ix_t0, ix_t1, ix_t2, ix_t3, ix_t4, lenR_t, lenR_s, slR_t, slR_s, cutL_from1, cutL_from2, revR_t, beq_self_eq_true, Bool.not_true, Bool.not_false, Option.isSome_some, N_exchanges_in]
      rw [← List.map_drop, zip_pairs]
      refine lcW_map (fun d => match d with | .tup [.tup [.int a, _], .tup [.int b, _]] => .int (if a ≠ b then 1 else 0) | _ => .non) (small_line (by simp; omega)) trivial (fun x hx N1 h1 => ?_) ?_
      · obtain ⟨q, _, rfl⟩ := List.mem_map.mp hx
        simp only [dSeq, dNext, dBreak, dCont, dDrop, dRet, dRetN, dIfS, dAsg, dputS, dOp, dVar, dC, dget_zero, dget_succ, dTest, isB, dNil, dCons, dgName, dTup, dCB, dCBL, dFresh, dDisp, dBM, dBM0, dAndV, dOrV, dNotV, dAnd, dOr, dNot, dCall, dNeg, dIf, dFor, dSl, dPart, dNoPart, diRng1, diRng2, diAny, diOwn, isI, dstart, List.set_cons_zero, List.set_cons_succ, List.map_cons, List.map_nil, List.length_cons, List.length_nil, List.cons_append, List.nil_append, Nat.reduceAdd, Nat.reduceSub, List.replicate, isLst, dgTup, dgCons, dgNil, dListOf, dJoinL, dRev, diZip, dLc, wipeD, ite_true, ite_false, if_true, if_false, reduceIte, Bool.false_eq_true, Bool.true_eq_false, and_true, true_and, addR_ii, addR_ib, addR_ss, addR_tt, subR_ii, mulR_ii, modR_ii, fdivR_ii, powR_ii, ltR_ii, leR_ii, gtR_ii, geR_ii, keyD_s, keyD_i, dgetR, eqR, neR, eqM_ii, eqM_ss, eqM_bb, eqM_tt, okD_i, okD_s, okD_b, okD_n, okD_t, deck_at, deck_sum, deck_cells, deck_len, deck_put, dicOf_mup_same, lstOf_mup_same, int1R_b, int1R_i, ix_t0, ix_t1, ix_t2, ix_t3, ix_t4, lenR_t, lenR_s, slR_t, slR_s, cutL_from1, cutL_from2, revR_t, beq_self_eq_true, Bool.not_true, Bool.not_false, Option.isSome_some, pairD]
        simpa [pairD] using h1
      · rw [List.map_map]
        unfold sumLR
        rw [show (List.map ((fun d => match d with | .tup [.tup [.int a, _], .tup [.int b, _]] => D.int (if a ≠ b then 1 else 0) | _ => .non) ∘ fun q => D.tup [pairD q.1, pairD q.2]) (xs.zip (xs.drop 1))) = (xs.zip (xs.drop 1)).map fun q => D.int (ex1 q.1 q.2) from rfl, intsOf_map]
        simp only [exch_zip]
        exact Shr.all k
    · exact h.elim
def isInt : D → Bool | .int _ => true | _ => false
/-- a whole number, and no truth -/
def sp__law_whole : DSp := fun ds M R => match ds with
  | [x] => tyName M x ≠ "?" ∧ R (.bl (isInt x)) M
  | _ => False
theorem ok__law_whole {f__law_whole : Addr} {fd__law_whole : FuncData} (F__law_whole : Fun K "_law_whole" "_law_whole" st__law_whole f__law_whole fd__law_whole) (z_isinstance : mg "isinstance" = none) (z_bool : mg "bool" = none) (z_int : mg "int" = none) : FnOk P w K mg base CX0 1 f__law_whole fd__law_whole ["_law_thing"] (toSp K sp__law_whole) := by
  refine fn_ok (k := 0) F__law_whole sc__law_whole (fun ds M R h => ?_) (fun cdv A outer s H E hr => ⟨_, (jb_one (js_ret (je_and (je_isi z_isinstance (ja_cons (jv 0) (ja_cons (je_ty (by rfl) z_int PyProof.Rows.boot_int) ja_nil))) (je_one (je_not (je_isi z_isinstance (ja_cons (jv 0) (ja_cons (je_ty (by rfl) z_bool PyProof.Rows.boot_bool) ja_nil)))))))), fun ds M R h => ?_⟩)
  · unfold sp__law_whole at h
    split at h <;> first | rfl | exact h.elim
  · unfold sp__law_whole at h
    split at h
    · rename_i x
      obtain ⟨h, k⟩ := h
      have hk := Shr.all k
      cases x with
      | ref a =>
        have e0 : tyName M (.ref a) = (match M a with | some (.lst _) => "list" | some (.dic _) => "dict" | _ => "?") := by unfold tyName; rfl
        simp only [dSeq, dNext, dBreak, dCont, dDrop, dRet, dRetN, dIfS, dAsg, dputS, dOp, dVar, dC, dget_zero, dget_succ, dTest, isB, dNil, dCons, dgName, dTup, dCB, dCBL, dFresh, dDisp, dBM, dBM0, dAndV, dOrV, dNotV, dAnd, dOr, dNot, dCall, dNeg, dIf, dFor, dSl, dPart, dNoPart, diRng1, diRng2, diAny, diOwn, isI, dstart, List.set_cons_zero, List.set_cons_succ, List.map_cons, List.map_nil, List.length_cons, List.length_nil, List.cons_append, List.nil_append, Nat.reduceAdd, Nat.reduceSub, List.replicate, isLst, dgTup, dgCons, dgNil, dListOf, dJoinL, dRev, diZip, dLc, wipeD, ite_true, ite_false, if_true, if_false, reduceIte, Bool.false_eq_true, Bool.true_eq_false, and_true, true_and, addR_ii, addR_ib, addR_ss, addR_tt, subR_ii, mulR_ii, modR_ii, fdivR_ii, powR_ii, ltR_ii, leR_ii, gtR_ii, geR_ii, keyD_s, keyD_i, dgetR, eqR, neR, eqM_ii, eqM_ss, eqM_bb, eqM_tt, okD_i, okD_s, okD_b, okD_n, okD_t, deck_at, deck_sum, deck_cells, deck_len, deck_put, dicOf_mup_same, lstOf_mup_same, int1R_b, int1R_i, ix_t0, ix_t1, ix_t2, ix_t3, ix_t4, lenR_t, lenR_s, slR_t, slR_s, cutL_from1, cutL_from2, revR_t, beq_self_eq_true, Bool.not_true, Bool.not_false, Option.isSome_some, N__law_whole, isiR]
        rw [e0] at h ⊢
        split at h
        · exact ⟨by decide, hk⟩
        · exact ⟨by decide, hk⟩
        · exact absurd rfl h
      | int i => simp only [dSeq, dNext, dBreak, dCont, dDrop, dRet, dRetN, dIfS, dAsg, dputS, dOp, dVar, dC, dget_zero, dget_succ, dTest, isB, dNil, dCons, dgName, dTup, dCB, dCBL, dFresh, dDisp, dBM, dBM0, dAndV, dOrV, dNotV, dAnd, dOr, dNot, dCall, dNeg, dIf, dFor, dSl, dPart, dNoPart, diRng1, diRng2, diAny, diOwn, isI, dstart, List.set_cons_zero, List.set_cons_succ, List.map_cons, List.map_nil, List.length_cons, List.length_nil, List.cons_append, List.nil_append, Nat.reduceAdd, Nat.reduceSub, List.replicate, isLst, dgTup, dgCons, dgNil, dListOf, dJoinL, dRev, diZip, dLc, wipeD, ite_true, ite_false, if_true, if_false, reduceIte, Bool.false_eq_true, Bool.true_eq_false, and_true, true_and, addR_ii, addR_ib, addR_ss, addR_tt, subR_ii, mulR_ii, modR_ii, fdivR_ii, powR_ii, ltR_ii, leR_ii, gtR_ii, geR_ii, keyD_s, keyD_i, dgetR, eqR, neR, eqM_ii, eqM_ss, eqM_bb, eqM_tt, okD_i, okD_s, okD_b, okD_n, okD_t, deck_at, deck_sum, deck_cells, deck_len, deck_put, dicOf_mup_same, lstOf_mup_same, int1R_b, int1R_i, ix_t0, ix_t1, ix_t2, ix_t3, ix_t4, lenR_t, lenR_s, slR_t, slR_s, cutL_from1, cutL_from2, revR_t, beq_self_eq_true, Bool.not_true, Bool.not_false, Option.isSome_some, N__law_whole, isiR, tyName]; exact ⟨by decide, ⟨by decide, hk⟩⟩
      | bl b => simp only [dSeq, dNext, dBreak, dCont, dDrop, dRet, dRetN, dIfS, dAsg, dputS, dOp, dVar, dC, dget_zero, dget_succ, dTest, isB, dNil, dCons, dgName, dTup, dCB, dCBL, dFresh, dDisp, dBM, dBM0, dAndV, dOrV, dNotV, dAnd, dOr, dNot, dCall, dNeg, dIf, dFor, dSl, dPart, dNoPart, diRng1, diRng2, diAny, diOwn, isI, dstart, List.set_cons_zero, List.set_cons_succ, List.map_cons, List.map_nil, List.length_cons, List.length_nil, List.cons_append, List.nil_append, Nat.reduceAdd, Nat.reduceSub, List.replicate, isLst, dgTup, dgCons, dgNil, dListOf, dJoinL, dRev, diZip, dLc, wipeD, ite_true, ite_false, if_true, if_false, reduceIte, Bool.false_eq_true, Bool.true_eq_false, and_true, true_and, addR_ii, addR_ib, addR_ss, addR_tt, subR_ii, mulR_ii, modR_ii, fdivR_ii, powR_ii, ltR_ii, leR_ii, gtR_ii, geR_ii, keyD_s, keyD_i, dgetR, eqR, neR, eqM_ii, eqM_ss, eqM_bb, eqM_tt, okD_i, okD_s, okD_b, okD_n, okD_t, deck_at, deck_sum, deck_cells, deck_len, deck_put, dicOf_mup_same, lstOf_mup_same, int1R_b, int1R_i, ix_t0, ix_t1, ix_t2, ix_t3, ix_t4, lenR_t, lenR_s, slR_t, slR_s, cutL_from1, cutL_from2, revR_t, beq_self_eq_true, Bool.not_true, Bool.not_false, Option.isSome_some, N__law_whole, isiR, tyName]; exact ⟨by decide, ⟨by decide, hk⟩⟩
      | non => simp only [dSeq, dNext, dBreak, dCont, dDrop, dRet, dRetN, dIfS, dAsg, dputS, dOp, dVar, dC, dget_zero, dget_succ, dTest, isB, dNil, dCons, dgName, dTup, dCB, dCBL, dFresh, dDisp, dBM, dBM0, dAndV, dOrV, dNotV, dAnd, dOr, dNot, dCall, dNeg, dIf, dFor, dSl, dPart, dNoPart, diRng1, diRng2, diAny, diOwn, isI, dstart, List.set_cons_zero, List.set_cons_succ, List.map_cons, List.map_nil, List.length_cons, List.length_nil, List.cons_append, List.nil_append, Nat.reduceAdd, Nat.reduceSub, List.replicate, isLst, dgTup, dgCons, dgNil, dListOf, dJoinL, dRev, diZip, dLc, wipeD, ite_true, ite_false, if_true, if_false, reduceIte, Bool.false_eq_true, Bool.true_eq_false, and_true, true_and, addR_ii, addR_ib, addR_ss, addR_tt, subR_ii, mulR_ii, modR_ii, fdivR_ii, powR_ii, ltR_ii, leR_ii, gtR_ii, geR_ii, keyD_s, keyD_i, dgetR, eqR, neR, eqM_ii, eqM_ss, eqM_bb, eqM_tt, okD_i, okD_s, okD_b, okD_n, okD_t, deck_at, deck_sum, deck_cells, deck_len, deck_put, dicOf_mup_same, lstOf_mup_same, int1R_b, int1R_i, ix_t0, ix_t1, ix_t2, ix_t3, ix_t4, lenR_t, lenR_s, slR_t, slR_s, cutL_from1, cutL_from2, revR_t, beq_self_eq_true, Bool.not_true, Bool.not_false, Option.isSome_some, N__law_whole, isiR, tyName]; exact ⟨by decide, hk⟩
      | str x => simp only [dSeq, dNext, dBreak, dCont, dDrop, dRet, dRetN, dIfS, dAsg, dputS, dOp, dVar, dC, dget_zero, dget_succ, dTest, isB, dNil, dCons, dgName, dTup, dCB, dCBL, dFresh, dDisp, dBM, dBM0, dAndV, dOrV, dNotV, dAnd, dOr, dNot, dCall, dNeg, dIf, dFor, dSl, dPart, dNoPart, diRng1, diRng2, diAny, diOwn, isI, dstart, List.set_cons_zero, List.set_cons_succ, List.map_cons, List.map_nil, List.length_cons, List.length_nil, List.cons_append, List.nil_append, Nat.reduceAdd, Nat.reduceSub, List.replicate, isLst, dgTup, dgCons, dgNil, dListOf, dJoinL, dRev, diZip, dLc, wipeD, ite_true, ite_false, if_true, if_false, reduceIte, Bool.false_eq_true, Bool.true_eq_false, and_true, true_and, addR_ii, addR_ib, addR_ss, addR_tt, subR_ii, mulR_ii, modR_ii, fdivR_ii, powR_ii, ltR_ii, leR_ii, gtR_ii, geR_ii, keyD_s, keyD_i, dgetR, eqR, neR, eqM_ii, eqM_ss, eqM_bb, eqM_tt, okD_i, okD_s, okD_b, okD_n, okD_t, deck_at, deck_sum, deck_cells, deck_len, deck_put, dicOf_mup_same, lstOf_mup_same, int1R_b, int1R_i, ix_t0, ix_t1, ix_t2, ix_t3, ix_t4, lenR_t, lenR_s, slR_t, slR_s, cutL_from1, cutL_from2, revR_t, beq_self_eq_true, Bool.not_true, Bool.not_false, Option.isSome_some, N__law_whole, isiR, tyName]; exact ⟨by decide, hk⟩
      | tup x => simp only [dSeq, dNext, dBreak, dCont, dDrop, dRet, dRetN, dIfS, dAsg, dputS, dOp, dVar, dC, dget_zero, dget_succ, dTest, isB, dNil, dCons, dgName, dTup, dCB, dCBL, dFresh, dDisp, dBM, dBM0, dAndV, dOrV, dNotV, dAnd, dOr, dNot, dCall, dNeg, dIf, dFor, dSl, dPart, dNoPart, diRng1, diRng2, diAny, diOwn, isI, dstart, List.set_cons_zero, List.set_cons_succ, List.map_cons, List.map_nil, List.length_cons, List.length_nil, List.cons_append, List.nil_append, Nat.reduceAdd, Nat.reduceSub, List.replicate, isLst, dgTup, dgCons, dgNil, dListOf, dJoinL, dRev, diZip, dLc, wipeD, ite_true, ite_false, if_true, if_false, reduceIte, Bool.false_eq_true, Bool.true_eq_false, and_true, true_and, addR_ii, addR_ib, addR_ss, addR_tt, subR_ii, mulR_ii, modR_ii, fdivR_ii, powR_ii, ltR_ii, leR_ii, gtR_ii, geR_ii, keyD_s, keyD_i, dgetR, eqR, neR, eqM_ii, eqM_ss, eqM_bb, eqM_tt, okD_i, okD_s, okD_b, okD_n, okD_t, deck_at, deck_sum, deck_cells, deck_len, deck_put, dicOf_mup_same, lstOf_mup_same, int1R_b, int1R_i, ix_t0, ix_t1, ix_t2, ix_t3, ix_t4, lenR_t, lenR_s, slR_t, slR_s, cutL_from1, cutL_from2, revR_t, beq_self_eq_true, Bool.not_true, Bool.not_false, Option.isSome_some, N__law_whole, isiR, tyName]; exact ⟨by decide, hk⟩
      | ty x => exact absurd (by unfold tyName; rfl) h
    · exact h.elim
theorem exch_take {xs : List (Int × Int)} {i : Nat} {x y : Int × Int} (h1 : xs[i]? = some x) (h2 : xs[i + 1]? = some y) : exch (xs.take (i + 2)) = exch (xs.take (i + 1)) + ex1 x y := by
  induction xs generalizing i with
  | nil => simp at h1
  | cons z zs ih =>
    cases i with
    | zero =>
      simp at h1; subst h1
      cases zs with
      | nil => simp at h2
      | cons w ws =>
        simp at h2; subst h2
        simp [exch]
    | succ i =>
      have e := ih (i := i) (by simpa using h1) (by simpa using h2)
      cases zs with
      | nil => simp at h1
      | cons w ws =>
        simp only [List.take_succ_cons, exch] at e ⊢
        omega
/-- the exchanges of a run of pairs -/
def sp__law_due : DSp := fun ds M R => match ds with
  | [.tup run] => ∃ xs : List (Int × Int), run = xs.map pairD ∧ xs.length ≤ 1000 ∧ R (.int (exch xs)) M
  | _ => False
theorem ok__law_due {f__law_due : Addr} {fd__law_due : FuncData} (F__law_due : Fun K "_law_due" "_law_due" st__law_due f__law_due fd__law_due) (z_range : mg "range" = none) (z_len : mg "len" = none) (z_int : mg "int" = none) : FnOk P w K mg base CX0 1 f__law_due fd__law_due ["_law_run_here"] (toSp K sp__law_due) := by
  refine fn_ok (k := 0) F__law_due sc__law_due (fun ds M R h => ?_) (fun cdv A outer s H E hr => ⟨_, (jb_cons (js_set (i := 1) sc__law_due.nd je_int)
      (jb_cons (js_for PassesOwn.never rfl (ji_rng2 (by rfl) z_range je_int (je_len z_len (ja_cons (jv 0) ja_nil))) (jg_name (i := 2) sc__law_due.nd) (jb_one (js_set (i := 1) sc__law_due.nd (je_add (jv 1) (je_int1 z_int (ja_cons (je_ne hr (je_ix (je_ix (jv 0) (jv 2)) je_int) (je_ix (je_ix (jv 0) (je_sub (jv 2) je_int)) je_int)) ja_nil))))))
      (jb_one (js_ret (jv 1))))), fun ds M R h => ?_⟩)
  · unfold sp__law_due at h
    split at h <;> first | rfl | exact h.elim
  · unfold sp__law_due at h
    split at h
    · rename_i run
      obtain ⟨xs, rfl, hl, k⟩ := h
      simp only [dSeq, dNext, dBreak, dCont, dDrop, dRet, dRetN, dIfS, dAsg, dputS, dOp, dVar, dC, dget_zero, dget_succ, dTest, isB, dNil, dCons, dgName, dTup, dCB, dCBL, dFresh, dDisp, dBM, dBM0, dAndV, dOrV, dNotV, dAnd, dOr, dNot, dCall, dNeg, dIf, dFor, dSl, dPart, dNoPart, diRng1, diRng2, diAny, diOwn, isI, dstart, List.set_cons_zero, List.set_cons_succ, List.map_cons, List.map_nil, List.length_cons, List.length_nil, List.cons_append, List.nil_append, Nat.reduceAdd, Nat.reduceSub, List.replicate, isLst, dgTup, dgCons, dgNil, dListOf, dJoinL, dRev, diZip, dLc, wipeD, ite_true, ite_false, if_true, if_false, reduceIte, Bool.false_eq_true, Bool.true_eq_false, and_true, true_and, addR_ii, addR_ib, addR_ss, addR_tt, subR_ii, mulR_ii, modR_ii, fdivR_ii, powR_ii, ltR_ii, leR_ii, gtR_ii, geR_ii, keyD_s, keyD_i, dgetR, eqR, neR, eqM_ii, eqM_ss, eqM_bb, eqM_tt, okD_i, okD_s, okD_b, okD_n, okD_t, deck_at, deck_sum, deck_cells, deck_len, deck_put, dicOf_mup_same, lstOf_mup_same, int1R_b, int1R_i, ix_t0, ix_t1, ix_t2, ix_t3, ix_t4, lenR_t, lenR_s, slR_t, slR_s, cutL_from1, cutL_from2, revR_t, beq_self_eq_true, Bool.not_true, Bool.not_false, Option.isSome_some, N__law_due]
      refine ⟨by decide, by rw [List.length_map]; exact inLine_nat (by omega), ?_⟩
      refine forW_rng (fun i ds M' => ∃ x2, ds = [some (.tup (xs.map pairD)), some (.int (exch (xs.take (i + 1)))), x2] ∧ M' = M) (fun i N hi hN ds M' hI => ?_) (fun ds M' hI => ?_) _ _ ⟨none, ?_, rfl⟩
      · obtain ⟨x2, rfl, rfl⟩ := hI
        rw [List.length_map] at hi
        have h1 : i + 1 < xs.length := by omega
        have e1 : xs[i]? = some xs[i] := List.getElem?_eq_getElem (by omega)
        have e2 : xs[i + 1]? = some xs[i + 1] := List.getElem?_eq_getElem h1
        simp only [dSeq, dNext, dBreak, dCont, dDrop, dRet, dRetN, dIfS, dAsg, dputS, dOp, dVar, dC, dget_zero, dget_succ, dTest, isB, dNil, dCons, dgName, dTup, dCB, dCBL, dFresh, dDisp, dBM, dBM0, dAndV, dOrV, dNotV, dAnd, dOr, dNot, dCall, dNeg, dIf, dFor, dSl, dPart, dNoPart, diRng1, diRng2, diAny, diOwn, isI, dstart, List.set_cons_zero, List.set_cons_succ, List.map_cons, List.map_nil, List.length_cons, List.length_nil, List.cons_append, List.nil_append, Nat.reduceAdd, Nat.reduceSub, List.replicate, isLst, dgTup, dgCons, dgNil, dListOf, dJoinL, dRev, diZip, dLc, wipeD, ite_true, ite_false, if_true, if_false, reduceIte, Bool.false_eq_true, Bool.true_eq_false, and_true, true_and, addR_ii, addR_ib, addR_ss, addR_tt, subR_ii, mulR_ii, modR_ii, fdivR_ii, powR_ii, ltR_ii, leR_ii, gtR_ii, geR_ii, keyD_s, keyD_i, dgetR, eqR, neR, eqM_ii, eqM_ss, eqM_bb, eqM_tt, okD_i, okD_s, okD_b, okD_n, okD_t, deck_at, deck_sum, deck_cells, deck_len, deck_put, dicOf_mup_same, lstOf_mup_same, int1R_b, int1R_i, ix_t0, ix_t1, ix_t2, ix_t3, ix_t4, lenR_t, lenR_s, slR_t, slR_s, cutL_from1, cutL_from2, revR_t, beq_self_eq_true, Bool.not_true, Bool.not_false, Option.isSome_some]
        refine ix_t (d := pairD xs[i + 1]) (by omega) (by rw [show (1 + (i : Int)).toNat = i + 1 by omega, List.getElem?_map, e2]; rfl) ?_
        simp only [dSeq, dNext, dBreak, dCont, dDrop, dRet, dRetN, dIfS, dAsg, dputS, dOp, dVar, dC, dget_zero, dget_succ, dTest, isB, dNil, dCons, dgName, dTup, dCB, dCBL, dFresh, dDisp, dBM, dBM0, dAndV, dOrV, dNotV, dAnd, dOr, dNot, dCall, dNeg, dIf, dFor, dSl, dPart, dNoPart, diRng1, diRng2, diAny, diOwn, isI, dstart, List.set_cons_zero, List.set_cons_succ, List.map_cons, List.map_nil, List.length_cons, List.length_nil, List.cons_append, List.nil_append, Nat.reduceAdd, Nat.reduceSub, List.replicate, isLst, dgTup, dgCons, dgNil, dListOf, dJoinL, dRev, diZip, dLc, wipeD, ite_true, ite_false, if_true, if_false, reduceIte, Bool.false_eq_true, Bool.true_eq_false, and_true, true_and, addR_ii, addR_ib, addR_ss, addR_tt, subR_ii, mulR_ii, modR_ii, fdivR_ii, powR_ii, ltR_ii, leR_ii, gtR_ii, geR_ii, keyD_s, keyD_i, dgetR, eqR, neR, eqM_ii, eqM_ss, eqM_bb, eqM_tt, okD_i, okD_s, okD_b, okD_n, okD_t, deck_at, deck_sum, deck_cells, deck_len, deck_put, dicOf_mup_same, lstOf_mup_same, int1R_b, int1R_i, ix_t0, ix_t1, ix_t2, ix_t3, ix_t4, lenR_t, lenR_s, slR_t, slR_s, cutL_from1, cutL_from2, revR_t, beq_self_eq_true, Bool.not_true, Bool.not_false, Option.isSome_some, pairD]
        refine ix_t (d := pairD xs[i]) (by omega) (by rw [show (1 + (i : Int) - 1).toNat = i by omega, List.getElem?_map, e1]; rfl) ?_
        simp only [dSeq, dNext, dBreak, dCont, dDrop, dRet, dRetN, dIfS, dAsg, dputS, dOp, dVar, dC, dget_zero, dget_succ, dTest, isB, dNil, dCons, dgName, dTup, dCB, dCBL, dFresh, dDisp, dBM, dBM0, dAndV, dOrV, dNotV, dAnd, dOr, dNot, dCall, dNeg, dIf, dFor, dSl, dPart, dNoPart, diRng1, diRng2, diAny, diOwn, isI, dstart, List.set_cons_zero, List.set_cons_succ, List.map_cons, List.map_nil, List.length_cons, List.length_nil, List.cons_append, List.nil_append, Nat.reduceAdd, Nat.reduceSub, List.replicate, isLst, dgTup, dgCons, dgNil, dListOf, dJoinL, dRev, diZip, dLc, wipeD, ite_true, ite_false, if_true, if_false, reduceIte, Bool.false_eq_true, Bool.true_eq_false, and_true, true_and, addR_ii, addR_ib, addR_ss, addR_tt, subR_ii, mulR_ii, modR_ii, fdivR_ii, powR_ii, ltR_ii, leR_ii, gtR_ii, geR_ii, keyD_s, keyD_i, dgetR, eqR, neR, eqM_ii, eqM_ss, eqM_bb, eqM_tt, okD_i, okD_s, okD_b, okD_n, okD_t, deck_at, deck_sum, deck_cells, deck_len, deck_put, dicOf_mup_same, lstOf_mup_same, int1R_b, int1R_i, ix_t0, ix_t1, ix_t2, ix_t3, ix_t4, lenR_t, lenR_s, slR_t, slR_s, cutL_from1, cutL_from2, revR_t, beq_self_eq_true, Bool.not_true, Bool.not_false, Option.isSome_some, pairD]
        have key : exch (xs.take (i + 1)) + (if (!xs[i + 1].1 == xs[i].1) = true then 1 else 0) = exch (xs.take (i + 1 + 1)) := by
          rw [exch_take e1 e2]
          unfold ex1
          by_cases hh : xs[i].1 = xs[i + 1].1
          · simp [hh]
          · simp [hh, Ne.symm hh]
        rw [key]
        exact hN _ _ ⟨_, rfl, rfl⟩
      · obtain ⟨x2, rfl, rfl⟩ := hI
        simp only [dSeq, dNext, dBreak, dCont, dDrop, dRet, dRetN, dIfS, dAsg, dputS, dOp, dVar, dC, dget_zero, dget_succ, dTest, isB, dNil, dCons, dgName, dTup, dCB, dCBL, dFresh, dDisp, dBM, dBM0, dAndV, dOrV, dNotV, dAnd, dOr, dNot, dCall, dNeg, dIf, dFor, dSl, dPart, dNoPart, diRng1, diRng2, diAny, diOwn, isI, dstart, List.set_cons_zero, List.set_cons_succ, List.map_cons, List.map_nil, List.length_cons, List.length_nil, List.cons_append, List.nil_append, Nat.reduceAdd, Nat.reduceSub, List.replicate, isLst, dgTup, dgCons, dgNil, dListOf, dJoinL, dRev, diZip, dLc, wipeD, ite_true, ite_false, if_true, if_false, reduceIte, Bool.false_eq_true, Bool.true_eq_false, and_true, true_and, addR_ii, addR_ib, addR_ss, addR_tt, subR_ii, mulR_ii, modR_ii, fdivR_ii, powR_ii, ltR_ii, leR_ii, gtR_ii, geR_ii, keyD_s, keyD_i, dgetR, eqR, neR, eqM_ii, eqM_ss, eqM_bb, eqM_tt, okD_i, okD_s, okD_b, okD_n, okD_t, deck_at, deck_sum, deck_cells, deck_len, deck_put, dicOf_mup_same, lstOf_mup_same, int1R_b, int1R_i, ix_t0, ix_t1, ix_t2, ix_t3, ix_t4, lenR_t, lenR_s, slR_t, slR_s, cutL_from1, cutL_from2, revR_t, beq_self_eq_true, Bool.not_true, Bool.not_false, Option.isSome_some]
        rw [List.length_map, show ((xs.length : Int) - 1).toNat + 1 = max xs.length 1 by omega] at *
        rw [List.take_of_length_le (by omega)]
        exact Shr.all k
      · cases xs with
        | nil => rfl
        | cons z zs => simp [exch]
    · exact h.elim
def lnk (xs ys : List (Int × Int)) : Int := match xs.getLast?, ys.head? with | some x, some y => ex1 x y | _, _ => 0
theorem exch_append : ∀ xs ys : List (Int × Int), exch (xs ++ ys) = exch xs + exch ys + lnk xs ys
  | [], ys => by simp [exch, lnk]
  | [x], [] => by simp [exch, lnk]
  | [x], y :: ys => by simp [exch, lnk]; omega
  | x :: y :: r, ys => by
    have e := exch_append (y :: r) ys
    have e2 : lnk (x :: y :: r) ys = lnk (y :: r) ys := by simp [lnk, List.getLast?_cons_cons]
    simp only [List.cons_append, exch] at e ⊢
    rw [e2]
    omega
theorem ex1_comm (x y : Int × Int) : ex1 x y = ex1 y x := by
  unfold ex1
  by_cases h : x.1 = y.1
  · simp [h]
  · have : ¬ y.1 = x.1 := fun e => h e.symm
    simp [h, this]
theorem exch_rev : ∀ xs : List (Int × Int), exch xs.reverse = exch xs
  | [] => rfl
  | [x] => rfl
  | x :: y :: r => by
    have e := exch_rev (y :: r)
    rw [List.reverse_cons, exch_append, e]
    have : lnk (y :: r).reverse [x] = ex1 y x := by simp [lnk]
    rw [this, ex1_comm y x]
    simp only [exch]
    omega
theorem ok_law {f_law f__law_run f_exchanges_in f__law_due f__law_whole f__law_deck : Addr} {fd_law fd__law_run fd_exchanges_in fd__law_due fd__law_whole fd__law_deck : FuncData} (F_law : Fun K "law" "law" st_law f_law fd_law) (G__law_run : FnOk P w K mg base CX0 2 f__law_run fd__law_run ["_law_deck_here"] (toSp K sp__law_run)) (g__law_run : mg "_law_run" = some (.ref f__law_run)) (k__law_run : PySem.W.keepIn K (.ref f__law_run) = true) (b__law_run : Binds K fd__law_run ["_law_deck_here"] []) (G_exchanges_in : FnOk P w K mg base CX0 1 f_exchanges_in fd_exchanges_in ["run"] (toSp K sp_exchanges_in)) (g_exchanges_in : mg "exchanges_in" = some (.ref f_exchanges_in)) (k_exchanges_in : PySem.W.keepIn K (.ref f_exchanges_in) = true) (b_exchanges_in : Binds K fd_exchanges_in ["run"] []) (G__law_due : FnOk P w K mg base CX0 1 f__law_due fd__law_due ["_law_run_here"] (toSp K sp__law_due)) (g__law_due : mg "_law_due" = some (.ref f__law_due)) (k__law_due : PySem.W.keepIn K (.ref f__law_due) = true) (b__law_due : Binds K fd__law_due ["_law_run_here"] []) (G__law_whole : FnOk P w K mg base CX0 1 f__law_whole fd__law_whole ["_law_thing"] (toSp K sp__law_whole)) (g__law_whole : mg "_law_whole" = some (.ref f__law_whole)) (k__law_whole : PySem.W.keepIn K (.ref f__law_whole) = true) (b__law_whole : Binds K fd__law_whole ["_law_thing"] []) (G__law_deck : FnOk P w K mg base CX0 1 f__law_deck fd__law_deck ["_law_script"] (spDeckH K)) (g__law_deck : mg "_law_deck" = some (.ref f__law_deck)) (k__law_deck : PySem.W.keepIn K (.ref f__law_deck) = true) (b__law_deck : Binds K fd__law_deck ["_law_script"] []) (z_range : mg "range" = none) (z_int : mg "int" = none) : FnOk P w K mg base CX0 3 f_law fd_law ["_law_script"] (spLawH K) := by
  refine law_ok (k := 2) F_law sc_law (by decide) (by rfl) fun cdv A outer s H E hr => ⟨_, (ps_set (i := 1) sc_law.nd rfl (.inl rfl) (pe_call G__law_deck (hr.mono (by decide)) (by rfl) g__law_deck k__law_deck b__law_deck .nil pass0 (pa_cons (pv 0) pa_nil))),
    (jb_cons (js_set (i := 2) sc_law.nd (je_tup ja_nil))
      (jb_cons (js_for PassesOwn.never rfl (ji_rng1 (by rfl) z_range je_int) (jg_name (i := 3) sc_law.nd) (jb_cons (js_set (i := 4) sc_law.nd (je_call G__law_run (hr.mono (by decide)) (by rfl) g__law_run k__law_run b__law_run (ja_cons (jv 1) ja_nil))) (jb_cons (js_set (i := 5) sc_law.nd (je_call G_exchanges_in (hr.mono (by decide)) (by rfl) g_exchanges_in k_exchanges_in b_exchanges_in (ja_cons (jv 4) ja_nil))) (jb_cons (js_if (JW.jt (jw_or (jt_not (jt_val (je_call G__law_whole (hr.mono (by decide)) (by rfl) g__law_whole k__law_whole b__law_whole (ja_cons (jv 5) ja_nil)))) (jw_or (jt_ne hr (jv 5) (je_call G__law_due (hr.mono (by decide)) (by rfl) g__law_due k__law_due b__law_due (ja_cons (jv 4) ja_nil))) (jw_or1 (jt_ne hr (je_call G_exchanges_in (hr.mono (by decide)) (by rfl) g_exchanges_in k_exchanges_in b_exchanges_in (ja_cons (je_rev (jv 4)) ja_nil)) (jv 5)))))) (jb_one (js_ret je_bl)) jb_nil) (jb_cons (js_set (i := 6) sc_law.nd je_int) (jb_cons (js_if (JW.jt (jw_and (jt_ne hr (jv 2) (je_tup ja_nil)) (jw_and1 (jt_ne hr (jv 4) (je_tup ja_nil))))) (jb_one (js_set (i := 6) sc_law.nd (je_int1 z_int (ja_cons (je_ne hr (je_ix (je_ix (jv 2) (je_neg je_int)) je_int) (je_ix (je_ix (jv 4) je_int) je_int)) ja_nil)))) jb_nil) (jb_cons (js_if (jt_ne hr (je_call G_exchanges_in (hr.mono (by decide)) (by rfl) g_exchanges_in k_exchanges_in b_exchanges_in (ja_cons (je_add (jv 2) (jv 4)) ja_nil)) (je_add (je_add (je_call G__law_due (hr.mono (by decide)) (by rfl) g__law_due k__law_due b__law_due (ja_cons (jv 2) ja_nil)) (jv 5)) (jv 6))) (jb_one (js_ret je_bl)) jb_nil) (jb_one (js_set (i := 2) sc_law.nd (jv 4))))))))))
      (jb_one (js_ret (je_eq hr (je_call G_exchanges_in (hr.mono (by decide)) (by rfl) g_exchanges_in k_exchanges_in b_exchanges_in (ja_cons (je_tup ja_nil) ja_nil)) je_int))))), fun M d c hD => ?_⟩
  simp only [dNext, dBreak, dCont, dDrop, dRet, dRetN, dIfS, dAsg, dputS, dOp, dVar, dC, dget_zero, dget_succ, dTest, isB, dNil, dCons, dgName, dTup, dCB, dCBL, dFresh, dDisp, dBM, dBM0, dAndV, dOrV, dNotV, dAnd, dOr, dNot, dCall, dNeg, dIf, dFor, dSl, dPart, dNoPart, diRng1, diRng2, diAny, diOwn, isI, dstart, List.set_cons_zero, List.set_cons_succ, List.map_cons, List.map_nil, List.length_cons, List.length_nil, List.cons_append, List.nil_append, Nat.reduceAdd, Nat.reduceSub, List.replicate, isLst, dgTup, dgCons, dgNil, dListOf, dJoinL, dRev, diZip, dLc, wipeD, ite_true, ite_false, if_true, if_false, reduceIte, Bool.false_eq_true, Bool.true_eq_false, and_true, true_and, addR_ii, addR_ib, addR_ss, addR_tt, subR_ii, mulR_ii, modR_ii, fdivR_ii, powR_ii, ltR_ii, leR_ii, gtR_ii, geR_ii, keyD_s, keyD_i, dgetR, eqR, neR, eqM_ii, eqM_ss, eqM_bb, eqM_tt, okD_i, okD_s, okD_b, okD_n, okD_t, deck_at, deck_sum, deck_cells, deck_len, deck_put, dicOf_mup_same, lstOf_mup_same, int1R_b, int1R_i, ix_t0, ix_t1, ix_t2, ix_t3, ix_t4, lenR_t, lenR_s, slR_t, slR_s, cutL_from1, cutL_from2, revR_t, beq_self_eq_true, Bool.not_true, Bool.not_false, Option.isSome_some, N_law]
  refine seq_go ?_
  simp only [dNext, dBreak, dCont, dDrop, dRet, dRetN, dIfS, dAsg, dputS, dOp, dVar, dC, dget_zero, dget_succ, dTest, isB, dNil, dCons, dgName, dTup, dCB, dCBL, dFresh, dDisp, dBM, dBM0, dAndV, dOrV, dNotV, dAnd, dOr, dNot, dCall, dNeg, dIf, dFor, dSl, dPart, dNoPart, diRng1, diRng2, diAny, diOwn, isI, dstart, List.set_cons_zero, List.set_cons_succ, List.map_cons, List.map_nil, List.length_cons, List.length_nil, List.cons_append, List.nil_append, Nat.reduceAdd, Nat.reduceSub, List.replicate, isLst, dgTup, dgCons, dgNil, dListOf, dJoinL, dRev, diZip, dLc, wipeD, ite_true, ite_false, if_true, if_false, reduceIte, Bool.false_eq_true, Bool.true_eq_false, and_true, true_and, addR_ii, addR_ib, addR_ss, addR_tt, subR_ii, mulR_ii, modR_ii, fdivR_ii, powR_ii, ltR_ii, leR_ii, gtR_ii, geR_ii, keyD_s, keyD_i, dgetR, eqR, neR, eqM_ii, eqM_ss, eqM_bb, eqM_tt, okD_i, okD_s, okD_b, okD_n, okD_t, deck_at, deck_sum, deck_cells, deck_len, deck_put, dicOf_mup_same, lstOf_mup_same, int1R_b, int1R_i, ix_t0, ix_t1, ix_t2, ix_t3, ix_t4, lenR_t, lenR_s, slR_t, slR_s, cutL_from1, cutL_from2, revR_t, beq_self_eq_true, Bool.not_true, Bool.not_false, Option.isSome_some]
  refine ⟨by decide, seq_go ?_⟩
  simp only [dNext, dBreak, dCont, dDrop, dRet, dRetN, dIfS, dAsg, dputS, dOp, dVar, dC, dget_zero, dget_succ, dTest, isB, dNil, dCons, dgName, dTup, dCB, dCBL, dFresh, dDisp, dBM, dBM0, dAndV, dOrV, dNotV, dAnd, dOr, dNot, dCall, dNeg, dIf, dFor, dSl, dPart, dNoPart, diRng1, diRng2, diAny, diOwn, isI, dstart, List.set_cons_zero, List.set_cons_succ, List.map_cons, List.map_nil, List.length_cons, List.length_nil, List.cons_append, List.nil_append, Nat.reduceAdd, Nat.reduceSub, List.replicate, isLst, dgTup, dgCons, dgNil, dListOf, dJoinL, dRev, diZip, dLc, wipeD, ite_true, ite_false, if_true, if_false, reduceIte, Bool.false_eq_true, Bool.true_eq_false, and_true, true_and, addR_ii, addR_ib, addR_ss, addR_tt, subR_ii, mulR_ii, modR_ii, fdivR_ii, powR_ii, ltR_ii, leR_ii, gtR_ii, geR_ii, keyD_s, keyD_i, dgetR, eqR, neR, eqM_ii, eqM_ss, eqM_bb, eqM_tt, okD_i, okD_s, okD_b, okD_n, okD_t, deck_at, deck_sum, deck_cells, deck_len, deck_put, dicOf_mup_same, lstOf_mup_same, int1R_b, int1R_i, ix_t0, ix_t1, ix_t2, ix_t3, ix_t4, lenR_t, lenR_s, slR_t, slR_s, cutL_from1, cutL_from2, revR_t, beq_self_eq_true, Bool.not_true, Bool.not_false, Option.isSome_some]
  refine ⟨by decide, ?_⟩
  refine forW_rng (fun i ds M' => ∃ (xs : List (Int × Int)) (x3 x4 x5 x6 : Option D), ds = [none, some (.ref d), some (.tup (xs.map pairD)), x3, x4, x5, x6] ∧ xs.length ≤ 300 ∧ i ≤ 6 ∧ Deck M' d c (1000 * (6 - i)))
    (fun i N hi hN ds M' hI => ?_) (fun ds M' hI => ?_) _ _ ⟨[], none, none, none, none, rfl, by decide, by decide, hD.mono (by decide)⟩
  · obtain ⟨xs, x3, x4, x5, x6, rfl, hl, hi6, DD⟩ := hI
    have DD : Deck M' d c (1000 * (6 - (i + 1)) + 1000) := DD.mono (by have : i < 6 := hi; omega)
    simp only [dNext, dBreak, dCont, dDrop, dRet, dRetN, dIfS, dAsg, dputS, dOp, dVar, dC, dget_zero, dget_succ, dTest, isB, dNil, dCons, dgName, dTup, dCB, dCBL, dFresh, dDisp, dBM, dBM0, dAndV, dOrV, dNotV, dAnd, dOr, dNot, dCall, dNeg, dIf, dFor, dSl, dPart, dNoPart, diRng1, diRng2, diAny, diOwn, isI, dstart, List.set_cons_zero, List.set_cons_succ, List.map_cons, List.map_nil, List.length_cons, List.length_nil, List.cons_append, List.nil_append, Nat.reduceAdd, Nat.reduceSub, List.replicate, isLst, dgTup, dgCons, dgNil, dListOf, dJoinL, dRev, diZip, dLc, wipeD, ite_true, ite_false, if_true, if_false, reduceIte, Bool.false_eq_true, Bool.true_eq_false, and_true, true_and, addR_ii, addR_ib, addR_ss, addR_tt, subR_ii, mulR_ii, modR_ii, fdivR_ii, powR_ii, ltR_ii, leR_ii, gtR_ii, geR_ii, keyD_s, keyD_i, dgetR, eqR, neR, eqM_ii, eqM_ss, eqM_bb, eqM_tt, okD_i, okD_s, okD_b, okD_n, okD_t, deck_at, deck_sum, deck_cells, deck_len, deck_put, dicOf_mup_same, lstOf_mup_same, int1R_b, int1R_i, ix_t0, ix_t1, ix_t2, ix_t3, ix_t4, lenR_t, lenR_s, slR_t, slR_s, cutL_from1, cutL_from2, revR_t, beq_self_eq_true, Bool.not_true, Bool.not_false, Option.isSome_some]
    refine seq_go ?_
    simp only [dNext, dBreak, dCont, dDrop, dRet, dRetN, dIfS, dAsg, dputS, dOp, dVar, dC, dget_zero, dget_succ, dTest, isB, dNil, dCons, dgName, dTup, dCB, dCBL, dFresh, dDisp, dBM, dBM0, dAndV, dOrV, dNotV, dAnd, dOr, dNot, dCall, dNeg, dIf, dFor, dSl, dPart, dNoPart, diRng1, diRng2, diAny, diOwn, isI, dstart, List.set_cons_zero, List.set_cons_succ, List.map_cons, List.map_nil, List.length_cons, List.length_nil, List.cons_append, List.nil_append, Nat.reduceAdd, Nat.reduceSub, List.replicate, isLst, dgTup, dgCons, dgNil, dListOf, dJoinL, dRev, diZip, dLc, wipeD, ite_true, ite_false, if_true, if_false, reduceIte, Bool.false_eq_true, Bool.true_eq_false, and_true, true_and, addR_ii, addR_ib, addR_ss, addR_tt, subR_ii, mulR_ii, modR_ii, fdivR_ii, powR_ii, ltR_ii, leR_ii, gtR_ii, geR_ii, keyD_s, keyD_i, dgetR, eqR, neR, eqM_ii, eqM_ss, eqM_bb, eqM_tt, okD_i, okD_s, okD_b, okD_n, okD_t, deck_at, deck_sum, deck_cells, deck_len, deck_put, dicOf_mup_same, lstOf_mup_same, int1R_b, int1R_i, ix_t0, ix_t1, ix_t2, ix_t3, ix_t4, lenR_t, lenR_s, slR_t, slR_s, cutL_from1, cutL_from2, revR_t, beq_self_eq_true, Bool.not_true, Bool.not_false, Option.isSome_some]
    refine ⟨c, _, DD, fun ys M1 hy D1 X1 => seq_go ?_⟩
    simp only [dNext, dBreak, dCont, dDrop, dRet, dRetN, dIfS, dAsg, dputS, dOp, dVar, dC, dget_zero, dget_succ, dTest, isB, dNil, dCons, dgName, dTup, dCB, dCBL, dFresh, dDisp, dBM, dBM0, dAndV, dOrV, dNotV, dAnd, dOr, dNot, dCall, dNeg, dIf, dFor, dSl, dPart, dNoPart, diRng1, diRng2, diAny, diOwn, isI, dstart, List.set_cons_zero, List.set_cons_succ, List.map_cons, List.map_nil, List.length_cons, List.length_nil, List.cons_append, List.nil_append, Nat.reduceAdd, Nat.reduceSub, List.replicate, isLst, dgTup, dgCons, dgNil, dListOf, dJoinL, dRev, diZip, dLc, wipeD, ite_true, ite_false, if_true, if_false, reduceIte, Bool.false_eq_true, Bool.true_eq_false, and_true, true_and, addR_ii, addR_ib, addR_ss, addR_tt, subR_ii, mulR_ii, modR_ii, fdivR_ii, powR_ii, ltR_ii, leR_ii, gtR_ii, geR_ii, keyD_s, keyD_i, dgetR, eqR, neR, eqM_ii, eqM_ss, eqM_bb, eqM_tt, okD_i, okD_s, okD_b, okD_n, okD_t, deck_at, deck_sum, deck_cells, deck_len, deck_put, dicOf_mup_same, lstOf_mup_same, int1R_b, int1R_i, ix_t0, ix_t1, ix_t2, ix_t3, ix_t4, lenR_t, lenR_s, slR_t, slR_s, cutL_from1, cutL_from2, revR_t, beq_self_eq_true, Bool.not_true, Bool.not_false, Option.isSome_some]
    refine ⟨ys, rfl, by omega, seq_go ?_⟩
    simp only [dNext, dBreak, dCont, dDrop, dRet, dRetN, dIfS, dAsg, dputS, dOp, dVar, dC, dget_zero, dget_succ, dTest, isB, dNil, dCons, dgName, dTup, dCB, dCBL, dFresh, dDisp, dBM, dBM0, dAndV, dOrV, dNotV, dAnd, dOr, dNot, dCall, dNeg, dIf, dFor, dSl, dPart, dNoPart, diRng1, diRng2, diAny, diOwn, isI, dstart, List.set_cons_zero, List.set_cons_succ, List.map_cons, List.map_nil, List.length_cons, List.length_nil, List.cons_append, List.nil_append, Nat.reduceAdd, Nat.reduceSub, List.replicate, isLst, dgTup, dgCons, dgNil, dListOf, dJoinL, dRev, diZip, dLc, wipeD, ite_true, ite_false, if_true, if_false, reduceIte, Bool.false_eq_true, Bool.true_eq_false, and_true, true_and, addR_ii, addR_ib, addR_ss, addR_tt, subR_ii, mulR_ii, modR_ii, fdivR_ii, powR_ii, ltR_ii, leR_ii, gtR_ii, geR_ii, keyD_s, keyD_i, dgetR, eqR, neR, eqM_ii, eqM_ss, eqM_bb, eqM_tt, okD_i, okD_s, okD_b, okD_n, okD_t, deck_at, deck_sum, deck_cells, deck_len, deck_put, dicOf_mup_same, lstOf_mup_same, int1R_b, int1R_i, ix_t0, ix_t1, ix_t2, ix_t3, ix_t4, lenR_t, lenR_s, slR_t, slR_s, cutL_from1, cutL_from2, revR_t, beq_self_eq_true, Bool.not_true, Bool.not_false, Option.isSome_some]
    refine ⟨by simp [tyName], ?_⟩
    simp only [dNext, dBreak, dCont, dDrop, dRet, dRetN, dIfS, dAsg, dputS, dOp, dVar, dC, dget_zero, dget_succ, dTest, isB, dNil, dCons, dgName, dTup, dCB, dCBL, dFresh, dDisp, dBM, dBM0, dAndV, dOrV, dNotV, dAnd, dOr, dNot, dCall, dNeg, dIf, dFor, dSl, dPart, dNoPart, diRng1, diRng2, diAny, diOwn, isI, dstart, List.set_cons_zero, List.set_cons_succ, List.map_cons, List.map_nil, List.length_cons, List.length_nil, List.cons_append, List.nil_append, Nat.reduceAdd, Nat.reduceSub, List.replicate, isLst, dgTup, dgCons, dgNil, dListOf, dJoinL, dRev, diZip, dLc, wipeD, ite_true, ite_false, if_true, if_false, reduceIte, Bool.false_eq_true, Bool.true_eq_false, and_true, true_and, addR_ii, addR_ib, addR_ss, addR_tt, subR_ii, mulR_ii, modR_ii, fdivR_ii, powR_ii, ltR_ii, leR_ii, gtR_ii, geR_ii, keyD_s, keyD_i, dgetR, eqR, neR, eqM_ii, eqM_ss, eqM_bb, eqM_tt, okD_i, okD_s, okD_b, okD_n, okD_t, deck_at, deck_sum, deck_cells, deck_len, deck_put, dicOf_mup_same, lstOf_mup_same, int1R_b, int1R_i, ix_t0, ix_t1, ix_t2, ix_t3, ix_t4, lenR_t, lenR_s, slR_t, slR_s, cutL_from1, cutL_from2, revR_t, beq_self_eq_true, Bool.not_true, Bool.not_false, Option.isSome_some, isInt]
    refine ⟨ys, rfl, by omega, ?_⟩
    simp only [dNext, dBreak, dCont, dDrop, dRet, dRetN, dIfS, dAsg, dputS, dOp, dVar, dC, dget_zero, dget_succ, dTest, isB, dNil, dCons, dgName, dTup, dCB, dCBL, dFresh, dDisp, dBM, dBM0, dAndV, dOrV, dNotV, dAnd, dOr, dNot, dCall, dNeg, dIf, dFor, dSl, dPart, dNoPart, diRng1, diRng2, diAny, diOwn, isI, dstart, List.set_cons_zero, List.set_cons_succ, List.map_cons, List.map_nil, List.length_cons, List.length_nil, List.cons_append, List.nil_append, Nat.reduceAdd, Nat.reduceSub, List.replicate, isLst, dgTup, dgCons, dgNil, dListOf, dJoinL, dRev, diZip, dLc, wipeD, ite_true, ite_false, if_true, if_false, reduceIte, Bool.false_eq_true, Bool.true_eq_false, and_true, true_and, addR_ii, addR_ib, addR_ss, addR_tt, subR_ii, mulR_ii, modR_ii, fdivR_ii, powR_ii, ltR_ii, leR_ii, gtR_ii, geR_ii, keyD_s, keyD_i, dgetR, eqR, neR, eqM_ii, eqM_ss, eqM_bb, eqM_tt, okD_i, okD_s, okD_b, okD_n, okD_t, deck_at, deck_sum, deck_cells, deck_len, deck_put, dicOf_mup_same, lstOf_mup_same, int1R_b, int1R_i, ix_t0, ix_t1, ix_t2, ix_t3, ix_t4, lenR_t, lenR_s, slR_t, slR_s, cutL_from1, cutL_from2, revR_t, beq_self_eq_true, Bool.not_true, Bool.not_false, Option.isSome_some]
    refine ⟨ys.reverse, by rw [List.map_reverse], by rw [List.length_reverse]; omega, ?_⟩
    simp only [dNext, dBreak, dCont, dDrop, dRet, dRetN, dIfS, dAsg, dputS, dOp, dVar, dC, dget_zero, dget_succ, dTest, isB, dNil, dCons, dgName, dTup, dCB, dCBL, dFresh, dDisp, dBM, dBM0, dAndV, dOrV, dNotV, dAnd, dOr, dNot, dCall, dNeg, dIf, dFor, dSl, dPart, dNoPart, diRng1, diRng2, diAny, diOwn, isI, dstart, List.set_cons_zero, List.set_cons_succ, List.map_cons, List.map_nil, List.length_cons, List.length_nil, List.cons_append, List.nil_append, Nat.reduceAdd, Nat.reduceSub, List.replicate, isLst, dgTup, dgCons, dgNil, dListOf, dJoinL, dRev, diZip, dLc, wipeD, ite_true, ite_false, if_true, if_false, reduceIte, Bool.false_eq_true, Bool.true_eq_false, and_true, true_and, addR_ii, addR_ib, addR_ss, addR_tt, subR_ii, mulR_ii, modR_ii, fdivR_ii, powR_ii, ltR_ii, leR_ii, gtR_ii, geR_ii, keyD_s, keyD_i, dgetR, eqR, neR, eqM_ii, eqM_ss, eqM_bb, eqM_tt, okD_i, okD_s, okD_b, okD_n, okD_t, deck_at, deck_sum, deck_cells, deck_len, deck_put, dicOf_mup_same, lstOf_mup_same, int1R_b, int1R_i, ix_t0, ix_t1, ix_t2, ix_t3, ix_t4, lenR_t, lenR_s, slR_t, slR_s, cutL_from1, cutL_from2, revR_t, beq_self_eq_true, Bool.not_true, Bool.not_false, Option.isSome_some, exch_rev]
    refine seq_go ?_
    simp only [dNext, dBreak, dCont, dDrop, dRet, dRetN, dIfS, dAsg, dputS, dOp, dVar, dC, dget_zero, dget_succ, dTest, isB, dNil, dCons, dgName, dTup, dCB, dCBL, dFresh, dDisp, dBM, dBM0, dAndV, dOrV, dNotV, dAnd, dOr, dNot, dCall, dNeg, dIf, dFor, dSl, dPart, dNoPart, diRng1, diRng2, diAny, diOwn, isI, dstart, List.set_cons_zero, List.set_cons_succ, List.map_cons, List.map_nil, List.length_cons, List.length_nil, List.cons_append, List.nil_append, Nat.reduceAdd, Nat.reduceSub, List.replicate, isLst, dgTup, dgCons, dgNil, dListOf, dJoinL, dRev, diZip, dLc, wipeD, ite_true, ite_false, if_true, if_false, reduceIte, Bool.false_eq_true, Bool.true_eq_false, and_true, true_and, addR_ii, addR_ib, addR_ss, addR_tt, subR_ii, mulR_ii, modR_ii, fdivR_ii, powR_ii, ltR_ii, leR_ii, gtR_ii, geR_ii, keyD_s, keyD_i, dgetR, eqR, neR, eqM_ii, eqM_ss, eqM_bb, eqM_tt, okD_i, okD_s, okD_b, okD_n, okD_t, deck_at, deck_sum, deck_cells, deck_len, deck_put, dicOf_mup_same, lstOf_mup_same, int1R_b, int1R_i, ix_t0, ix_t1, ix_t2, ix_t3, ix_t4, lenR_t, lenR_s, slR_t, slR_s, cutL_from1, cutL_from2, revR_t, beq_self_eq_true, Bool.not_true, Bool.not_false, Option.isSome_some]
    refine seq_cut (fun ds M3 => ds = [none, some (.ref d), some (.tup (xs.map pairD)), some (.int (0 + (i : Int))), some (.tup (ys.map pairD)), some (.int (exch ys)), some (.int (lnk xs ys))] ∧ M3 = M1) (fun N2 hN2 => ?_) fun ds M3 hJ => ?_
    · simp only [dSeq, dNext, dBreak, dCont, dDrop, dRet, dRetN, dIfS, dAsg, dputS, dOp, dVar, dC, dget_zero, dget_succ, dTest, isB, dNil, dCons, dgName, dTup, dCB, dCBL, dFresh, dDisp, dBM, dBM0, dAndV, dOrV, dNotV, dAnd, dOr, dNot, dCall, dNeg, dIf, dFor, dSl, dPart, dNoPart, diRng1, diRng2, diAny, diOwn, isI, dstart, List.set_cons_zero, List.set_cons_succ, List.map_cons, List.map_nil, List.length_cons, List.length_nil, List.cons_append, List.nil_append, Nat.reduceAdd, Nat.reduceSub, List.replicate, isLst, dgTup, dgCons, dgNil, dListOf, dJoinL, dRev, diZip, dLc, wipeD, ite_true, ite_false, if_true, if_false, reduceIte, Bool.false_eq_true, Bool.true_eq_false, and_true, true_and, addR_ii, addR_ib, addR_ss, addR_tt, subR_ii, mulR_ii, modR_ii, fdivR_ii, powR_ii, ltR_ii, leR_ii, gtR_ii, geR_ii, keyD_s, keyD_i, dgetR, eqR, neR, eqM_ii, eqM_ss, eqM_bb, eqM_tt, okD_i, okD_s, okD_b, okD_n, okD_t, deck_at, deck_sum, deck_cells, deck_len, deck_put, dicOf_mup_same, lstOf_mup_same, int1R_b, int1R_i, ix_t0, ix_t1, ix_t2, ix_t3, ix_t4, lenR_t, lenR_s, slR_t, slR_s, cutL_from1, cutL_from2, revR_t, beq_self_eq_true, Bool.not_true, Bool.not_false, Option.isSome_some]
      refine ⟨by decide, ⟨⟨pairs_pure _, Nat.le_trans (pairs_dep _) (by decide)⟩, by decide, by decide⟩, ?_⟩
      cases xs with
      | nil => rw [if_neg (by simp [eqvDs])]; refine hN2 _ _ ⟨?_, rfl⟩; simp [lnk]
      | cons x xs =>
        rw [if_pos (by simp [eqvDs])]
        refine ⟨by decide, ⟨⟨pairs_pure _, Nat.le_trans (pairs_dep _) (by decide)⟩, by decide, by decide⟩, ?_⟩
        cases ys with
        | nil => rw [if_neg (by simp [eqvDs])]; refine hN2 _ _ ⟨?_, rfl⟩; simp [lnk]
        | cons y ys =>
          rw [if_pos (by simp [eqvDs])]
          have e1 : (x :: xs).getLast? = some ((x :: xs).getLast (List.cons_ne_nil _ _)) := List.getLast?_eq_getLast _
          refine ix_tl (d := pairD ((x :: xs).getLast (List.cons_ne_nil _ _))) ?_ ?_
          · rw [List.length_map, List.getElem?_map, ← List.getLast?_eq_getElem?, e1]
            rfl
          · simp only [dSeq, dNext, dBreak, dCont, dDrop, dRet, dRetN, dIfS, dAsg, dputS, dOp, dVar, dC, dget_zero, dget_succ, dTest, isB, dNil, dCons, dgName, dTup, dCB, dCBL, dFresh, dDisp, dBM, dBM0, dAndV, dOrV, dNotV, dAnd, dOr, dNot, dCall, dNeg, dIf, dFor, dSl, dPart, dNoPart, diRng1, diRng2, diAny, diOwn, isI, dstart, List.set_cons_zero, List.set_cons_succ, List.map_cons, List.map_nil, List.length_cons, List.length_nil, List.cons_append, List.nil_append, Nat.reduceAdd, Nat.reduceSub, List.replicate, isLst, dgTup, dgCons, dgNil, dListOf, dJoinL, dRev, diZip, dLc, wipeD, ite_true, ite_false, if_true, if_false, reduceIte, Bool.false_eq_true, Bool.true_eq_false, and_true, true_and, addR_ii, addR_ib, addR_ss, addR_tt, subR_ii, mulR_ii, modR_ii, fdivR_ii, powR_ii, ltR_ii, leR_ii, gtR_ii, geR_ii, keyD_s, keyD_i, dgetR, eqR, neR, eqM_ii, eqM_ss, eqM_bb, eqM_tt, okD_i, okD_s, okD_b, okD_n, okD_t, deck_at, deck_sum, deck_cells, deck_len, deck_put, dicOf_mup_same, lstOf_mup_same, int1R_b, int1R_i, ix_t0, ix_t1, ix_t2, ix_t3, ix_t4, lenR_t, lenR_s, slR_t, slR_s, cutL_from1, cutL_from2, revR_t, beq_self_eq_true, Bool.not_true, Bool.not_false, Option.isSome_some, pairD]
            refine hN2 _ _ ⟨?_, rfl⟩
            simp only [lnk, e1, List.head?_cons, ex1]
            simp [pairD]
    · obtain ⟨rfl, rfl⟩ := hJ
      refine seq_go ?_
      simp only [dNext, dBreak, dCont, dDrop, dRet, dRetN, dIfS, dAsg, dputS, dOp, dVar, dC, dget_zero, dget_succ, dTest, isB, dNil, dCons, dgName, dTup, dCB, dCBL, dFresh, dDisp, dBM, dBM0, dAndV, dOrV, dNotV, dAnd, dOr, dNot, dCall, dNeg, dIf, dFor, dSl, dPart, dNoPart, diRng1, diRng2, diAny, diOwn, isI, dstart, List.set_cons_zero, List.set_cons_succ, List.map_cons, List.map_nil, List.length_cons, List.length_nil, List.cons_append, List.nil_append, Nat.reduceAdd, Nat.reduceSub, List.replicate, isLst, dgTup, dgCons, dgNil, dListOf, dJoinL, dRev, diZip, dLc, wipeD, ite_true, ite_false, if_true, if_false, reduceIte, Bool.false_eq_true, Bool.true_eq_false, and_true, true_and, addR_ii, addR_ib, addR_ss, addR_tt, subR_ii, mulR_ii, modR_ii, fdivR_ii, powR_ii, ltR_ii, leR_ii, gtR_ii, geR_ii, keyD_s, keyD_i, dgetR, eqR, neR, eqM_ii, eqM_ss, eqM_bb, eqM_tt, okD_i, okD_s, okD_b, okD_n, okD_t, deck_at, deck_sum, deck_cells, deck_len, deck_put, dicOf_mup_same, lstOf_mup_same, int1R_b, int1R_i, ix_t0, ix_t1, ix_t2, ix_t3, ix_t4, lenR_t, lenR_s, slR_t, slR_s, cutL_from1, cutL_from2, revR_t, beq_self_eq_true, Bool.not_true, Bool.not_false, Option.isSome_some]
      refine ⟨small_line (by simp; omega), xs ++ ys, by rw [List.map_append], by simp; omega, ?_⟩
      refine ⟨xs, rfl, by omega, ?_⟩
      simp only [dNext, dBreak, dCont, dDrop, dRet, dRetN, dIfS, dAsg, dputS, dOp, dVar, dC, dget_zero, dget_succ, dTest, isB, dNil, dCons, dgName, dTup, dCB, dCBL, dFresh, dDisp, dBM, dBM0, dAndV, dOrV, dNotV, dAnd, dOr, dNot, dCall, dNeg, dIf, dFor, dSl, dPart, dNoPart, diRng1, diRng2, diAny, diOwn, isI, dstart, List.set_cons_zero, List.set_cons_succ, List.map_cons, List.map_nil, List.length_cons, List.length_nil, List.cons_append, List.nil_append, Nat.reduceAdd, Nat.reduceSub, List.replicate, isLst, dgTup, dgCons, dgNil, dListOf, dJoinL, dRev, diZip, dLc, wipeD, ite_true, ite_false, if_true, if_false, reduceIte, Bool.false_eq_true, Bool.true_eq_false, and_true, true_and, addR_ii, addR_ib, addR_ss, addR_tt, subR_ii, mulR_ii, modR_ii, fdivR_ii, powR_ii, ltR_ii, leR_ii, gtR_ii, geR_ii, keyD_s, keyD_i, dgetR, eqR, neR, eqM_ii, eqM_ss, eqM_bb, eqM_tt, okD_i, okD_s, okD_b, okD_n, okD_t, deck_at, deck_sum, deck_cells, deck_len, deck_put, dicOf_mup_same, lstOf_mup_same, int1R_b, int1R_i, ix_t0, ix_t1, ix_t2, ix_t3, ix_t4, lenR_t, lenR_s, slR_t, slR_s, cutL_from1, cutL_from2, revR_t, beq_self_eq_true, Bool.not_true, Bool.not_false, Option.isSome_some]
      rw [if_neg]
      · exact hN _ _ ⟨ys, _, _, _, _, rfl, hy, hi, D1⟩
      · rw [exch_append]
        simp
  · obtain ⟨xs, x3, x4, x5, x6, rfl, hl, hi, DD⟩ := hI
    simp only [dNext, dBreak, dCont, dDrop, dRet, dRetN, dIfS, dAsg, dputS, dOp, dVar, dC, dget_zero, dget_succ, dTest, isB, dNil, dCons, dgName, dTup, dCB, dCBL, dFresh, dDisp, dBM, dBM0, dAndV, dOrV, dNotV, dAnd, dOr, dNot, dCall, dNeg, dIf, dFor, dSl, dPart, dNoPart, diRng1, diRng2, diAny, diOwn, isI, dstart, List.set_cons_zero, List.set_cons_succ, List.map_cons, List.map_nil, List.length_cons, List.length_nil, List.cons_append, List.nil_append, Nat.reduceAdd, Nat.reduceSub, List.replicate, isLst, dgTup, dgCons, dgNil, dListOf, dJoinL, dRev, diZip, dLc, wipeD, ite_true, ite_false, if_true, if_false, reduceIte, Bool.false_eq_true, Bool.true_eq_false, and_true, true_and, addR_ii, addR_ib, addR_ss, addR_tt, subR_ii, mulR_ii, modR_ii, fdivR_ii, powR_ii, ltR_ii, leR_ii, gtR_ii, geR_ii, keyD_s, keyD_i, dgetR, eqR, neR, eqM_ii, eqM_ss, eqM_bb, eqM_tt, okD_i, okD_s, okD_b, okD_n, okD_t, deck_at, deck_sum, deck_cells, deck_len, deck_put, dicOf_mup_same, lstOf_mup_same, int1R_b, int1R_i, ix_t0, ix_t1, ix_t2, ix_t3, ix_t4, lenR_t, lenR_s, slR_t, slR_s, cutL_from1, cutL_from2, revR_t, beq_self_eq_true, Bool.not_true, Bool.not_false, Option.isSome_some]
    refine ⟨by decide, [], rfl, by decide, ?_⟩
    simp only [dNext, dBreak, dCont, dDrop, dRet, dRetN, dIfS, dAsg, dputS, dOp, dVar, dC, dget_zero, dget_succ, dTest, isB, dNil, dCons, dgName, dTup, dCB, dCBL, dFresh, dDisp, dBM, dBM0, dAndV, dOrV, dNotV, dAnd, dOr, dNot, dCall, dNeg, dIf, dFor, dSl, dPart, dNoPart, diRng1, diRng2, diAny, diOwn, isI, dstart, List.set_cons_zero, List.set_cons_succ, List.map_cons, List.map_nil, List.length_cons, List.length_nil, List.cons_append, List.nil_append, Nat.reduceAdd, Nat.reduceSub, List.replicate, isLst, dgTup, dgCons, dgNil, dListOf, dJoinL, dRev, diZip, dLc, wipeD, ite_true, ite_false, if_true, if_false, reduceIte, Bool.false_eq_true, Bool.true_eq_false, and_true, true_and, addR_ii, addR_ib, addR_ss, addR_tt, subR_ii, mulR_ii, modR_ii, fdivR_ii, powR_ii, ltR_ii, leR_ii, gtR_ii, geR_ii, keyD_s, keyD_i, dgetR, eqR, neR, eqM_ii, eqM_ss, eqM_bb, eqM_tt, okD_i, okD_s, okD_b, okD_n, okD_t, deck_at, deck_sum, deck_cells, deck_len, deck_put, dicOf_mup_same, lstOf_mup_same, int1R_b, int1R_i, ix_t0, ix_t1, ix_t2, ix_t3, ix_t4, lenR_t, lenR_s, slR_t, slR_s, cutL_from1, cutL_from2, revR_t, beq_self_eq_true, Bool.not_true, Bool.not_false, Option.isSome_some, exch]
theorem ok__law_deck {f fd} (F : Fun K "_law_deck" "_law_deck" st__law_deck f fd) (z_list : mg "list" = none) (z_sum : mg "sum" = none) (z_len : mg "len" = none) : FnOk P w K mg base CX0 1 f fd ["_law_script"] (spDeckH K) := by
  refine ok_deck F sc__law_deck fun cdv A outer s H E => ?_
  exact pss_cons (ps_set (i := 1) sc__law_deck.nd rfl (.inl rfl) (pe_callTy call_list_of (by rfl) z_list PyProof.Rows.boot_list (pa_cons (pe_slice sl_list (pv 0) po_none (po_some pe_int)) pa_nil)))
    (pss_one (ps_ret (pe_disp (pps_cons pe_str (pv 1) (pps_cons pe_str pe_int (pps_cons pe_str (pe_op op_add (pe_op op_mod (pe_callB (cr_sum rfl) (by rfl) z_sum PyProof.Rows.boot_sum (pa_cons (pv 1) pa_nil)) pe_int) (pe_callB call_len_seq (by rfl) z_len PySem.boot_len (pa_cons (pv 1) pa_nil))) pps_nil))) rfl rfl (by simp) (by decide))))
theorem all_mk {fa : Addr} {h : Heap} {f__law_deck f__law_draw f__law_run f_exchanges_in f__law_whole f__law_due f_law : Addr} (XX : K.In h) (GG0 : h.Ns mainGlobals mg) (hfa : mg "law" = some (.ref fa)) {od__law_deck an__law_deck : Option Addr} {sl__law_deck : Array (Option Value)} {oc__law_deck kV__law_deck dc__law_deck pm__law_deck cd__law_deck ct__law_deck : Value} (a__law_deck : PySem.W.nsIn K mainGlobals "_law_deck" = some (some (.ref f__law_deck))) (l__law_deck : K.lookup f__law_deck = some ⟨oc__law_deck, od__law_deck, .func (PySem.W.fnOf "_law_deck" "_law_deck" (defArgs st__law_deck) (defBody st__law_deck) (defScope st__law_deck) .none kV__law_deck dc__law_deck pm__law_deck an__law_deck cd__law_deck ct__law_deck), sl__law_deck⟩) (c__law_deck : PySem.W.codeIn K cd__law_deck "_law_deck" = true) (k__law_deck : PySem.W.keepIn K (.ref f__law_deck) = true) {od__law_draw an__law_draw : Option Addr} {sl__law_draw : Array (Option Value)} {oc__law_draw kV__law_draw dc__law_draw pm__law_draw cd__law_draw ct__law_draw : Value} (a__law_draw : PySem.W.nsIn K mainGlobals "_law_draw" = some (some (.ref f__law_draw))) (l__law_draw : K.lookup f__law_draw = some ⟨oc__law_draw, od__law_draw, .func (PySem.W.fnOf "_law_draw" "_law_draw" (defArgs st__law_draw) (defBody st__law_draw) (defScope st__law_draw) .none kV__law_draw dc__law_draw pm__law_draw an__law_draw cd__law_draw ct__law_draw), sl__law_draw⟩) (c__law_draw : PySem.W.codeIn K cd__law_draw "_law_draw" = true) (k__law_draw : PySem.W.keepIn K (.ref f__law_draw) = true) {od__law_run an__law_run : Option Addr} {sl__law_run : Array (Option Value)} {oc__law_run kV__law_run dc__law_run pm__law_run cd__law_run ct__law_run : Value} (a__law_run : PySem.W.nsIn K mainGlobals "_law_run" = some (some (.ref f__law_run))) (l__law_run : K.lookup f__law_run = some ⟨oc__law_run, od__law_run, .func (PySem.W.fnOf "_law_run" "_law_run" (defArgs st__law_run) (defBody st__law_run) (defScope st__law_run) .none kV__law_run dc__law_run pm__law_run an__law_run cd__law_run ct__law_run), sl__law_run⟩) (c__law_run : PySem.W.codeIn K cd__law_run "_law_run" = true) (k__law_run : PySem.W.keepIn K (.ref f__law_run) = true) {od_exchanges_in an_exchanges_in : Option Addr} {sl_exchanges_in : Array (Option Value)} {oc_exchanges_in kV_exchanges_in dc_exchanges_in pm_exchanges_in cd_exchanges_in ct_exchanges_in : Value} (a_exchanges_in : PySem.W.nsIn K mainGlobals "exchanges_in" = some (some (.ref f_exchanges_in))) (l_exchanges_in : K.lookup f_exchanges_in = some ⟨oc_exchanges_in, od_exchanges_in, .func (PySem.W.fnOf "exchanges_in" "exchanges_in" (defArgs st_exchanges_in) (defBody st_exchanges_in) (defScope st_exchanges_in) .none kV_exchanges_in dc_exchanges_in pm_exchanges_in an_exchanges_in cd_exchanges_in ct_exchanges_in), sl_exchanges_in⟩) (c_exchanges_in : PySem.W.codeIn K cd_exchanges_in "exchanges_in" = true) (k_exchanges_in : PySem.W.keepIn K (.ref f_exchanges_in) = true) {od__law_whole an__law_whole : Option Addr} {sl__law_whole : Array (Option Value)} {oc__law_whole kV__law_whole dc__law_whole pm__law_whole cd__law_whole ct__law_whole : Value} (a__law_whole : PySem.W.nsIn K mainGlobals "_law_whole" = some (some (.ref f__law_whole))) (l__law_whole : K.lookup f__law_whole = some ⟨oc__law_whole, od__law_whole, .func (PySem.W.fnOf "_law_whole" "_law_whole" (defArgs st__law_whole) (defBody st__law_whole) (defScope st__law_whole) .none kV__law_whole dc__law_whole pm__law_whole an__law_whole cd__law_whole ct__law_whole), sl__law_whole⟩) (c__law_whole : PySem.W.codeIn K cd__law_whole "_law_whole" = true) (k__law_whole : PySem.W.keepIn K (.ref f__law_whole) = true) {od__law_due an__law_due : Option Addr} {sl__law_due : Array (Option Value)} {oc__law_due kV__law_due dc__law_due pm__law_due cd__law_due ct__law_due : Value} (a__law_due : PySem.W.nsIn K mainGlobals "_law_due" = some (some (.ref f__law_due))) (l__law_due : K.lookup f__law_due = some ⟨oc__law_due, od__law_due, .func (PySem.W.fnOf "_law_due" "_law_due" (defArgs st__law_due) (defBody st__law_due) (defScope st__law_due) .none kV__law_due dc__law_due pm__law_due an__law_due cd__law_due ct__law_due), sl__law_due⟩) (c__law_due : PySem.W.codeIn K cd__law_due "_law_due" = true) (k__law_due : PySem.W.keepIn K (.ref f__law_due) = true) {od_law an_law : Option Addr} {sl_law : Array (Option Value)} {oc_law kV_law dc_law pm_law cd_law ct_law : Value} (a_law : PySem.W.nsIn K mainGlobals "law" = some (some (.ref f_law))) (l_law : K.lookup f_law = some ⟨oc_law, od_law, .func (PySem.W.fnOf "law" "law" (defArgs st_law) (defBody st_law) (defScope st_law) .none kV_law dc_law pm_law an_law cd_law ct_law), sl_law⟩) (c_law : PySem.W.codeIn K cd_law "law" = true) (k_law : PySem.W.keepIn K (.ref f_law) = true) (n_list : PySem.W.nsIn K mainGlobals "list" = some none) (n_sum : PySem.W.nsIn K mainGlobals "sum" = some none) (n_len : PySem.W.nsIn K mainGlobals "len" = some none) (n_int : PySem.W.nsIn K mainGlobals "int" = some none) (n_range : PySem.W.nsIn K mainGlobals "range" = some none) (n_zip : PySem.W.nsIn K mainGlobals "zip" = some none) (n_isinstance : PySem.W.nsIn K mainGlobals "isinstance" = some none) (n_bool : PySem.W.nsIn K mainGlobals "bool" = some none) :
    ∃ fd : FuncData, (∀ (s : Shared) (v : Value), BindsTo s fd ⟨[v], []⟩ [("_law_script", v)]) ∧ ∀ base : Heap, K.In base → base.Ns mainGlobals mg → FnOk PySem.Challenge.pw_pileruns_k62_exchanges_counted w K mg base CX0 3 fa fd ["_law_script"] (spLawH K) := by
  have e := hfa.symm.trans (PySem.W.mg_of XX GG0 a_law)
  cases e
  have z_list := PySem.W.mg_none_of XX GG0 n_list
  have z_sum := PySem.W.mg_none_of XX GG0 n_sum
  have z_len := PySem.W.mg_none_of XX GG0 n_len
  have z_int := PySem.W.mg_none_of XX GG0 n_int
  have z_range := PySem.W.mg_none_of XX GG0 n_range
  have z_zip := PySem.W.mg_none_of XX GG0 n_zip
  have z_isinstance := PySem.W.mg_none_of XX GG0 n_isinstance
  have z_bool := PySem.W.mg_none_of XX GG0 n_bool
  have F__law_deck := fun_mk (st := st__law_deck) l__law_deck c__law_deck k__law_deck
  have g__law_deck := PySem.W.mg_of XX GG0 a__law_deck
  have b__law_deck := F__law_deck.binds (ps := ["_law_script"]) fun _ _ _ _ _ _ us hl => match us, hl with | [_], _ => rfl
  have F__law_draw := fun_mk (st := st__law_draw) l__law_draw c__law_draw k__law_draw
  have g__law_draw := PySem.W.mg_of XX GG0 a__law_draw
  have b__law_draw := F__law_draw.binds (ps := ["_law_deck_here", "_law_most"]) fun _ _ _ _ _ _ us hl => match us, hl with | [_, _], _ => rfl
  have F__law_run := fun_mk (st := st__law_run) l__law_run c__law_run k__law_run
  have g__law_run := PySem.W.mg_of XX GG0 a__law_run
  have b__law_run := F__law_run.binds (ps := ["_law_deck_here"]) fun _ _ _ _ _ _ us hl => match us, hl with | [_], _ => rfl
  have F_exchanges_in := fun_mk (st := st_exchanges_in) l_exchanges_in c_exchanges_in k_exchanges_in
  have g_exchanges_in := PySem.W.mg_of XX GG0 a_exchanges_in
  have b_exchanges_in := F_exchanges_in.binds (ps := ["run"]) fun _ _ _ _ _ _ us hl => match us, hl with | [_], _ => rfl
  have F__law_whole := fun_mk (st := st__law_whole) l__law_whole c__law_whole k__law_whole
  have g__law_whole := PySem.W.mg_of XX GG0 a__law_whole
  have b__law_whole := F__law_whole.binds (ps := ["_law_thing"]) fun _ _ _ _ _ _ us hl => match us, hl with | [_], _ => rfl
  have F__law_due := fun_mk (st := st__law_due) l__law_due c__law_due k__law_due
  have g__law_due := PySem.W.mg_of XX GG0 a__law_due
  have b__law_due := F__law_due.binds (ps := ["_law_run_here"]) fun _ _ _ _ _ _ us hl => match us, hl with | [_], _ => rfl
  have F_law := fun_mk (st := st_law) l_law c_law k_law
  have g_law := PySem.W.mg_of XX GG0 a_law
  refine ⟨PySem.W.fnOf "law" "law" (defArgs st_law) (defBody st_law) (defScope st_law) .none kV_law dc_law pm_law an_law cd_law ct_law, fun s v => .of_eq rfl, fun base _ _ => ?_⟩
  have G__law_deck : FnOk PySem.Challenge.pw_pileruns_k62_exchanges_counted w K mg base CX0 1 f__law_deck _ ["_law_script"] (spDeckH K) := ok__law_deck F__law_deck z_list z_sum z_len
  have G__law_draw : FnOk PySem.Challenge.pw_pileruns_k62_exchanges_counted w K mg base CX0 1 f__law_draw _ ["_law_deck_here", "_law_most"] (toSp K sp__law_draw) := ok__law_draw F__law_draw
  have G__law_run : FnOk PySem.Challenge.pw_pileruns_k62_exchanges_counted w K mg base CX0 2 f__law_run _ ["_law_deck_here"] (toSp K sp__law_run) := ok__law_run F__law_run G__law_draw g__law_draw k__law_draw b__law_draw z_int z_range
  have G_exchanges_in : FnOk PySem.Challenge.pw_pileruns_k62_exchanges_counted w K mg base CX0 1 f_exchanges_in _ ["run"] (toSp K sp_exchanges_in) := ok_exchanges_in F_exchanges_in z_sum z_zip z_int
  have G__law_whole : FnOk PySem.Challenge.pw_pileruns_k62_exchanges_counted w K mg base CX0 1 f__law_whole _ ["_law_thing"] (toSp K sp__law_whole) := ok__law_whole F__law_whole z_isinstance z_bool z_int
  have G__law_due : FnOk PySem.Challenge.pw_pileruns_k62_exchanges_counted w K mg base CX0 1 f__law_due _ ["_law_run_here"] (toSp K sp__law_due) := ok__law_due F__law_due z_range z_len z_int
  exact ok_law F_law G__law_run g__law_run k__law_run b__law_run G_exchanges_in g_exchanges_in k_exchanges_in b_exchanges_in G__law_due g__law_due k__law_due b__law_due G__law_whole g__law_whole k__law_whole b__law_whole G__law_deck g__law_deck k__law_deck b__law_deck z_range z_int
end
end pileruns_k62_exchanges_counted
open PySem PySem.W PyProof.Rows
set_option maxHeartbeats 0 in
theorem PySem.Challenge.cw_pileruns_k62_exchanges_counted_holds : PySem.Challenge.rw_pileruns_k62_exchanges_counted.Holds := by
  w_on; o_law; k_head; (case hw => w_witness2)
  k_fill
  refine L2.walk_of (l := PySem.Challenge.rw_pileruns_k62_exchanges_counted) (n := 63) (k := 3) (x := "_law_script") (CX := fun _ => L2.CX0) (sp := fun w => DL.spLawH _) rfl (by decide) rfl ⟨rfl, by decide, by decide⟩ (fun w h Y => PySem.W.kIn_of Y) ?F (fun _ _ a ns hl _ hS => ⟨a, ns, rfl, hS, hl, fun _ => rfl⟩) (fun _ _ _ _ _ h => h)
  case F =>
    intro w mg fa h KX G hmg
    refine' pileruns_k62_exchanges_counted.all_mk KX G hmg ?a__law_deck ?l__law_deck ?c__law_deck ?k__law_deck ?a__law_draw ?l__law_draw ?c__law_draw ?k__law_draw ?a__law_run ?l__law_run ?c__law_run ?k__law_run ?a_exchanges_in ?l_exchanges_in ?c_exchanges_in ?k_exchanges_in ?a__law_whole ?l__law_whole ?c__law_whole ?k__law_whole ?a__law_due ?l__law_due ?c__law_due ?k__law_due ?a_law ?l_law ?c_law ?k_law ?n_list ?n_sum ?n_len ?n_int ?n_range ?n_zip ?n_isinstance ?n_bool
    (case a__law_deck => k_is); (case l__law_deck => k_is); (case c__law_deck => k_is); (case k__law_deck => k_is); (case a__law_draw => k_is); (case l__law_draw => k_is); (case c__law_draw => k_is); (case k__law_draw => k_is); (case a__law_run => k_is); (case l__law_run => k_is); (case c__law_run => k_is); (case k__law_run => k_is); (case a_exchanges_in => k_is); (case l_exchanges_in => k_is); (case c_exchanges_in => k_is); (case k_exchanges_in => k_is); (case a__law_whole => k_is); (case l__law_whole => k_is); (case c__law_whole => k_is); (case k__law_whole => k_is); (case a__law_due => k_is); (case l__law_due => k_is); (case c__law_due => k_is); (case k__law_due => k_is); (case a_law => k_is); (case l_law => k_is); (case c_law => k_is); (case k_law => k_is); (case n_list => k_is); (case n_sum => k_is); (case n_len => k_is); (case n_int => k_is); (case n_range => k_is); (case n_zip => k_is); (case n_isinstance => k_is); (case n_bool => k_is)
