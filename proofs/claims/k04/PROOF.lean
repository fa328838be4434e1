import PyProof.Rows.All
import Wide.All
import OpenK.AllK
import Wide.FinOn
import HandS.ForMost
import HandS.TupAny
import HandS.IsInst
import HandS.Zip
import HandS.Style
import HandS.Deep
import HandS.Flow
import HandS.Conv
import HandS.Wide
import HandS.Exc
import HandS.ExcOwn
import HandS.WordsExc
import HandS.TryOnly
import KE.KRevSl
import HandS.WordsDict
import HandS.More
import HandS.TupMul
import HandS.Replace
import KE.GoesEnum
import HandS.ExcInit
import HandS.ExcIs
import HandS.ExcField
import HandS.RaiseMore
import PySem.Challenge.RW_pileruns_k04_runs_walked
set_option Elab.async false
set_option linter.all false
set_option maxRecDepth 100000
set_option maxHeartbeats 1000000
namespace DM
open PySem L2

/-! values with their tuples written out; what may change stands in a store M -/
inductive D where
  | non | bl (b : Bool) | int (i : Int) | str (x : Str) | tup (xs : List D) | ref (a : Addr) | ty (n : String) | lst (xs : List D) | dic (kvs : List (Key × D))
/-- the heap, and which of its objects are frozen (lists, dicts that nobody writes any more) -/
structure HF where
  h : Hp
  F : Addr → Prop
abbrev HF.up (H : HF) (p : Addr) (u : HO) : HF := ⟨upd H.h p u, H.F⟩
abbrev HF.fz (H : HF) (p : Addr) : HF := ⟨H.h, fun a => H.F a ∨ a = p⟩
abbrev HF.upz (H : HF) (p : Addr) (u : HO) : HF := ⟨upd H.h p u, fun a => H.F a ∨ a = p⟩

mutual
inductive VR (K : PySem.W.Frag) (H : HF) : D → V → Prop
  | non : VR K H .non .non
  | bl (b : Bool) : VR K H (.bl b) (.bl b)
  | int (i : Int) : VR K H (.int i) (.int i)
  | str (x : Str) : VR K H (.str x) (.str x)
  | ref (a : Addr) : VR K H (.ref a) (.ref a)
  | ty (n : String) : VR K H (.ty n) (.ty n)
  | tup {ds : List D} {a : Addr} {vs : List V} : SqT K H.h a vs → VRs K H ds vs → VR K H (.tup ds) (.ref a)
  | lst {ds : List D} {a : Addr} {vs : List V} : H.h a = some (.lst vs) → H.F a → VRs K H ds vs → VR K H (.lst ds) (.ref a)
  | dic {kvs : List (Key × D)} {a : Addr} {vs : List (Key × V)} : H.h a = some (.dK vs) → H.F a → KRs K H kvs vs → VR K H (.dic kvs) (.ref a)
inductive VRs (K : PySem.W.Frag) (H : HF) : List D → List V → Prop
  | nil : VRs K H [] []
  | cons {d : D} {ds : List D} {v : V} {vs : List V} : VR K H d v → VRs K H ds vs → VRs K H (d :: ds) (v :: vs)
inductive KRs (K : PySem.W.Frag) (H : HF) : List (Key × D) → List (Key × V) → Prop
  | nil : KRs K H [] []
  | cons {k : Key} {d : D} {ds : List (Key × D)} {v : V} {vs : List (Key × V)} : VR K H d v → KRs K H ds vs → KRs K H ((k, d) :: ds) ((k, v) :: vs)
end

/-- the tuples stay, and what is frozen -/
structure TX (K : PySem.W.Frag) (H H' : HF) : Prop where
  tu : ∀ a xs, SqT K H.h a xs → SqT K H'.h a xs
  fz : ∀ a o, H.F a → H.h a = some o → H'.F a ∧ H'.h a = some o

section
variable {K : PySem.W.Frag} {H H' H2 : HF}
theorem TX.refl : TX K H H := ⟨fun _ _ h => h, fun _ _ f h => ⟨f, h⟩⟩
theorem TX.trans (a : TX K H H') (b : TX K H' H2) : TX K H H2 := ⟨fun x y h => b.tu x y (a.tu x y h), fun x o f h => by
  obtain ⟨f1, h1⟩ := a.fz x o f h
  exact b.fz x o f1 h1⟩
mutual
theorem VR.mono (t : TX K H H') : ∀ (d : D) (v : V), VR K H d v → VR K H' d v
  | _, _, .non => .non
  | _, _, .bl b => .bl b
  | _, _, .int b => .int b
  | _, _, .str b => .str b
  | _, _, .ref b => .ref b
  | _, _, .ty b => .ty b
  | _, _, .tup h q => .tup (t.tu _ _ h) (VRs.mono t _ _ q)
  | _, _, .lst h f q => .lst (t.fz _ _ f h).2 (t.fz _ _ f h).1 (VRs.mono t _ _ q)
  | _, _, .dic h f q => .dic (t.fz _ _ f h).2 (t.fz _ _ f h).1 (KRs.mono t _ _ q)
theorem VRs.mono (t : TX K H H') : ∀ (ds : List D) (vs : List V), VRs K H ds vs → VRs K H' ds vs
  | _, _, .nil => .nil
  | _, _, .cons h q => .cons (VR.mono t _ _ h) (VRs.mono t _ _ q)
theorem KRs.mono (t : TX K H H') : ∀ (ds : List (Key × D)) (vs : List (Key × V)), KRs K H ds vs → KRs K H' ds vs
  | _, _, .nil => .nil
  | _, _, .cons h q => .cons (VR.mono t _ _ h) (KRs.mono t _ _ q)
end
theorem VRs.length : ∀ {ds : List D} {vs : List V}, VRs K H ds vs → ds.length = vs.length
  | _, _, .nil => rfl
  | _, _, .cons _ q => by simp [VRs.length q]
theorem VRs.get : ∀ {ds : List D} {vs : List V} {i : Nat} {d : D}, VRs K H ds vs → ds[i]? = some d → ∃ v, vs[i]? = some v ∧ VR K H d v
  | _, _, _, _, .nil, e => by simp at e
  | _, _, 0, _, .cons r _, e => by simp at e; subst e; exact ⟨_, rfl, r⟩
  | _, _, i + 1, x, .cons _ t, e => by
    obtain ⟨u, h1, h2⟩ := VRs.get (i := i) (d := x) t (by simpa using e)
    exact ⟨u, by simpa using h1, h2⟩
theorem VRs.getV : ∀ {ds : List D} {vs : List V} {i : Nat} {v : V}, VRs K H ds vs → vs[i]? = some v → ∃ d, ds[i]? = some d ∧ VR K H d v
  | _, _, _, _, .nil, e => by simp at e
  | _, _, 0, _, .cons r _, e => by simp at e; subst e; exact ⟨_, rfl, r⟩
  | _, _, i + 1, x, .cons _ t, e => by
    obtain ⟨u, h1, h2⟩ := VRs.getV (i := i) (v := x) t (by simpa using e)
    exact ⟨u, by simpa using h1, h2⟩
theorem VRs.append : ∀ {ds es : List D} {vs ws : List V}, VRs K H ds vs → VRs K H es ws → VRs K H (ds ++ es) (vs ++ ws)
  | _, _, _, _, .nil, s => s
  | _, _, _, _, .cons r t, s => .cons r (VRs.append t s)
theorem VRs.take : ∀ {ds : List D} {vs : List V} (n : Nat), VRs K H ds vs → VRs K H (ds.take n) (vs.take n)
  | _, _, 0, _ => .nil
  | _, _, _ + 1, .nil => .nil
  | _, _, n + 1, .cons r t => .cons r (VRs.take n t)
theorem VRs.drop : ∀ {ds : List D} {vs : List V} (n : Nat), VRs K H ds vs → VRs K H (ds.drop n) (vs.drop n)
  | _, _, 0, r => r
  | _, _, _ + 1, .nil => .nil
  | _, _, n + 1, .cons _ t => VRs.drop n t
theorem VRs.set {d : D} {v : V} (r : VR K H d v) : ∀ {ds : List D} {vs : List V} (i : Nat), VRs K H ds vs → VRs K H (ds.set i d) (vs.set i v)
  | _, _, _, .nil => .nil
  | _, _, 0, .cons _ t => .cons r t
  | _, _, i + 1, .cons q t => .cons q (VRs.set r i t)
theorem VRs.eraseIdx : ∀ {ds : List D} {vs : List V} (i : Nat), VRs K H ds vs → VRs K H (ds.eraseIdx i) (vs.eraseIdx i)
  | _, _, _, .nil => .nil
  | _, _, 0, .cons _ t => t
  | _, _, i + 1, .cons q t => .cons q (VRs.eraseIdx i t)
theorem VRs.reverse {ds : List D} {vs : List V} (h : VRs K H ds vs) : VRs K H ds.reverse vs.reverse := by
  induction ds generalizing vs with
  | nil => cases h; exact .nil
  | cons d ds ih =>
    cases h with
    | cons r t =>
      rw [List.reverse_cons, List.reverse_cons]
      exact VRs.append (ih t) (.cons r .nil)
theorem VRs.dropLast {ds : List D} {vs : List V} (h : VRs K H ds vs) : VRs K H ds.dropLast vs.dropLast := by
  rw [List.dropLast_eq_take, List.dropLast_eq_take, h.length]
  exact h.take _
end

/-! ### the store -/
inductive MO where
  | lst (xs : List D)
  | dic (kvs : List (Key × D))
  | ins (C : Addr) (fs : List (Str × D))
  | xd (fs : List (Str × D))
abbrev Mm := Addr → Option MO
def mup (M : Mm) (a : Addr) (o : MO) : Mm := fun b => if b = a then some o else M b
theorem mup_same {M : Mm} {a : Addr} {o : MO} : mup M a o a = some o := by unfold mup; rw [if_pos rfl]
theorem mup_ne {M : Mm} {a b : Addr} {o : MO} (h : b ≠ a) : mup M a o b = M b := by unfold mup; rw [if_neg h]
theorem mup_mup {M : Mm} {a : Addr} {o u : MO} : mup (mup M a o) a u = mup M a u := by
  funext b; unfold mup; split <;> rfl
theorem mup_comm {M : Mm} {a b : Addr} {o u : MO} (h : a ≠ b) : mup (mup M a o) b u = mup (mup M b u) a o := by
  funext c; unfold mup; split <;> split <;> simp_all
inductive FR (K : PySem.W.Frag) (H : HF) {κ : Type} : List (κ × D) → List (κ × V) → Prop
  | nil : FR K H [] []
  | cons {k : κ} {d : D} {ds : List (κ × D)} {v : V} {vs : List (κ × V)} : VR K H d v → FR K H ds vs → FR K H ((k, d) :: ds) ((k, v) :: vs)
def OR (K : PySem.W.Frag) (H : HF) (a : Addr) : MO → Prop
  | .lst ds => ∃ vs, H.h a = some (.lst vs) ∧ VRs K H ds vs
  | .dic kvs => ∃ vs, H.h a = some (.dK vs) ∧ FR K H kvs vs
  | .ins C fs => ∃ dx vs, H.h a = some (.ins C dx vs) ∧ FR K H fs vs
  | .xd fs => ∃ vs, H.h a = some (.xd vs) ∧ FR K H fs vs
structure MR (K : PySem.W.Frag) (M : Mm) (H : HF) : Prop where
  ob : ∀ a o, M a = some o → OR K H a o
  nf : ∀ a, H.F a → M a = none
  sm : ∀ a, H.F a → ∃ o, H.h a = some o
/-- what the store doesn't know stays as it was, and is not known behind -/
structure GG (M : Mm) (H : HF) (M' : Mm) (H' : HF) : Prop where
  fr : ∀ a o, H.h a = some o → M a = none → H'.h a = some o ∧ M' a = none ∧ (H'.F a ↔ H.F a)
  al : ∀ a o, H.h a = some o → ∃ u, H'.h a = some u
def Sub (M M' : Mm) : Prop := ∀ a o, M a = some o → M' a = some o

section
variable {K : PySem.W.Frag} {H H' H2 : HF} {M M' M2 : Mm} {a : Addr} {o : MO}
theorem FR.mono {κ : Type} (t : TX K H H') : ∀ {ds : List (κ × D)} {vs : List (κ × V)}, FR K H ds vs → FR K H' ds vs
  | _, _, .nil => .nil
  | _, _, .cons h q => .cons (VR.mono t _ _ h) (FR.mono t q)
theorem KRs.fr : ∀ {ds : List (Key × D)} {vs : List (Key × V)}, KRs K H ds vs → FR K H ds vs
  | _, _, .nil => .nil
  | _, _, .cons h q => .cons h (KRs.fr q)
theorem FR.kr : ∀ {ds : List (Key × D)} {vs : List (Key × V)}, FR K H ds vs → KRs K H ds vs
  | _, _, .nil => .nil
  | _, _, .cons h q => .cons h (FR.kr q)
theorem Sub.refl : Sub M M := fun _ _ h => h
theorem Sub.trans (x : Sub M M') (y : Sub M' M2) : Sub M M2 := fun a o h => y a o (x a o h)
theorem Sub.mup (h : M a = none) : Sub M (mup M a o) := fun b u e => by
  rw [mup_ne]
  · exact e
  · rintro rfl; rw [h] at e; cases e
theorem Sub.none (s : Sub M M') (h : M' a = none) : M a = none := by
  cases e : M a with
  | none => rfl
  | some u => rw [s a u e] at h; cases h
theorem MR.sub (m : MR K M' H) (s : Sub M M') : MR K M H := ⟨fun a o e => m.ob a o (s a o e), fun a f => s.none (m.nf a f), m.sm⟩
theorem GG.refl : GG M H M H := ⟨fun _ _ h n => ⟨h, n, Iff.rfl⟩, fun _ o h => ⟨o, h⟩⟩
theorem GG.trans (x : GG M H M' H') (y : GG M' H' M2 H2) : GG M H M2 H2 := ⟨fun a o h n => by
  obtain ⟨h1, n1, f1⟩ := x.fr a o h n
  obtain ⟨h2, n2, f2⟩ := y.fr a o h1 n1
  exact ⟨h2, n2, f2.trans f1⟩, fun a o h => by
  obtain ⟨u, h1⟩ := x.al a o h
  exact y.al a u h1⟩
theorem GG.sub (g : GG M H M' H') (s : Sub M2 M') : GG M H M2 H' := by
  refine ⟨fun a o h n => ?_, g.al⟩
  obtain ⟨h1, n1, f1⟩ := g.fr a o h n
  exact ⟨h1, s.none n1, f1⟩
theorem GG.free (g : GG M H M' H') {p : Addr} (h : H'.h p = none) : H.h p = none := by
  cases e : H.h p with
  | none => rfl
  | some o =>
    obtain ⟨u, h1⟩ := g.al p o e
    rw [h] at h1
    cases h1
/-- a hidden object stays so -/
theorem GG.nfr (g : GG M H M' H') {p : Addr} {o : HO} (h : H.h p = some o) (n : M p = none) (f : ¬H.F p) : H'.h p = some o ∧ M' p = none ∧ ¬H'.F p := by
  obtain ⟨h1, n1, f1⟩ := g.fr p o h n
  exact ⟨h1, n1, fun x => f (f1.mp x)⟩
theorem MR.ofree (m : MR K M H) (hx : ∀ u, ¬OR K H a u) : M a = none := by
  cases e : M a with
  | none => rfl
  | some u => exact absurd (m.ob a u e) (hx u)
theorem MR.no_tup (m : MR K M H) {xs : List V} (h : H.h a = some (.tup xs)) : M a = none := m.ofree fun u q => by
  cases u with
  | lst _ => obtain ⟨_, q, _⟩ := q; rw [h] at q; cases q
  | dic _ => obtain ⟨_, q, _⟩ := q; rw [h] at q; cases q
  | ins _ _ => obtain ⟨_, _, q, _⟩ := q; rw [h] at q; cases q
  | xd _ => obtain ⟨_, q, _⟩ := q; rw [h] at q; cases q
theorem MR.no_frz (m : MR K M H) {ob : Obj} {u : HO} (h : H.h a = some (.frz ob u)) : M a = none := m.ofree fun u q => by
  cases u with
  | lst _ => obtain ⟨_, q, _⟩ := q; rw [h] at q; cases q
  | dic _ => obtain ⟨_, q, _⟩ := q; rw [h] at q; cases q
  | ins _ _ => obtain ⟨_, _, q, _⟩ := q; rw [h] at q; cases q
  | xd _ => obtain ⟨_, q, _⟩ := q; rw [h] at q; cases q
theorem MR.free (m : MR K M H) (h : H.h a = none) : M a = none := m.ofree fun u q => by
  cases u with
  | lst _ => obtain ⟨_, q, _⟩ := q; rw [h] at q; cases q
  | dic _ => obtain ⟨_, q, _⟩ := q; rw [h] at q; cases q
  | ins _ _ => obtain ⟨_, _, q, _⟩ := q; rw [h] at q; cases q
  | xd _ => obtain ⟨_, q, _⟩ := q; rw [h] at q; cases q
theorem MR.freeF (m : MR K M H) (h : H.h a = none) : ¬H.F a := fun f => by
  obtain ⟨o, e⟩ := m.sm a f
  rw [h] at e
  cases e
theorem MR.knownF (m : MR K M H) (h : M a = some o) : ¬H.F a := fun f => by
  rw [m.nf a f] at h
  cases h
theorem GG.tx (g : GG M H M' H') (m : MR K M H) : TX K H H' := ⟨fun b xs h => by
  rcases h with (h | ⟨ob, h⟩) | h
  · exact .inl (.inl (g.fr b _ h (m.no_tup h)).1)
  · exact .inl (.inr ⟨ob, (g.fr b _ h (m.no_frz h)).1⟩)
  · exact .inr h, fun b o f h => by
  obtain ⟨h1, _, f1⟩ := g.fr b o h (m.nf b f)
  exact ⟨f1.mpr f, h1⟩⟩
theorem OR.mono (t : TX K H H') (e : H'.h a = H.h a) : ∀ {o : MO}, OR K H a o → OR K H' a o
  | .lst _, ⟨vs, h, r⟩ => ⟨vs, e.trans h, VRs.mono t _ _ r⟩
  | .dic _, ⟨vs, h, r⟩ => ⟨vs, e.trans h, r.mono t⟩
  | .ins _ _, ⟨dx, vs, h, r⟩ => ⟨dx, vs, e.trans h, r.mono t⟩
  | .xd _, ⟨vs, h, r⟩ => ⟨vs, e.trans h, r.mono t⟩
/-- the tuples and what is frozen stay when something else is written -/
theorem TX.upne {p : Addr} {u : HO} (ht : ∀ xs, H.h p ≠ some (.tup xs)) (hz : ∀ ob xs, H.h p ≠ some (.frz ob xs)) (hf : ¬H.F p) : TX K H (H.up p u) := ⟨fun b xs q => by
  rcases q with (q | ⟨ob, q⟩) | q
  · exact .inl (.inl (by show upd H.h p u b = _; rw [upd_ne]; exact q; rintro rfl; exact ht _ q))
  · exact .inl (.inr ⟨ob, by show upd H.h p u b = _; rw [upd_ne]; exact q; rintro rfl; exact hz _ _ q⟩)
  · exact .inr q, fun b o f h => ⟨f, by show upd H.h p u b = _; rw [upd_ne]; exact h; rintro rfl; exact hf f⟩⟩
theorem TX.fzz {p : Addr} : TX K H (H.fz p) := ⟨fun _ _ h => h, fun _ _ f h => ⟨.inl f, h⟩⟩
/-- a new object -/
theorem TX.new (m : MR K M H) {p : Addr} {u : HO} (h : H.h p = none) : TX K H (H.up p u) := TX.upne (fun _ e => by rw [h] at e; cases e) (fun _ _ e => by rw [h] at e; cases e) (m.freeF h)
/-- an object of the store is written -/
theorem TX.put (m : MR K M H) {u : HO} (h : M a = some o) : TX K H (H.up a u) := TX.upne (fun _ e => by rw [m.no_tup e] at h; cases h) (fun _ _ e => by rw [m.no_frz e] at h; cases h) (m.knownF h)
theorem upd_al {H : Hp} {p : Addr} {u : HO} (a : Addr) (o : HO) (h : H a = some o) : ∃ w, upd H p u a = some w := by
  by_cases e : a = p
  · subst e; exact ⟨u, upd_same⟩
  · exact ⟨o, by rw [upd_ne e]; exact h⟩
theorem MR.newT (m : MR K M H) {p : Addr} {u : HO} (h : H.h p = none) : MR K M (H.up p u) := ⟨fun b w e => by
  have : b ≠ p := by rintro rfl; rw [m.free h] at e; cases e
  exact (m.ob b w e).mono (TX.new m h) (upd_ne this), m.nf, fun b f => by
  obtain ⟨o, e⟩ := m.sm b f
  exact upd_al b o e⟩
theorem GG.newT {p : Addr} {u : HO} (h : H.h p = none) : GG M H M (H.up p u) := ⟨fun b w e n => by
  have : b ≠ p := by rintro rfl; rw [h] at e; cases e
  exact ⟨by show upd H.h p u b = _; rw [upd_ne this]; exact e, n, Iff.rfl⟩, upd_al⟩
theorem MR.new (m : MR K M H) {p : Addr} {u : HO} {w : MO} (h : H.h p = none) (r : OR K (H.up p u) p w) : MR K (mup M p w) (H.up p u) := ⟨fun b z e => by
  by_cases hb : b = p
  · subst hb; rw [mup_same] at e; cases e; exact r
  · rw [mup_ne hb] at e
    exact (m.ob b z e).mono (TX.new m h) (upd_ne hb), fun b f => by
  have : b ≠ p := by rintro rfl; exact m.freeF h f
  rw [mup_ne this]
  exact m.nf b f, (m.newT h).sm⟩
theorem GG.new {p : Addr} {u : HO} {w : MO} (h : H.h p = none) : GG M H (mup M p w) (H.up p u) := ⟨fun b z e n => by
  have : b ≠ p := by rintro rfl; rw [h] at e; cases e
  exact ⟨by show upd H.h p u b = _; rw [upd_ne this]; exact e, by rw [mup_ne this]; exact n, Iff.rfl⟩, upd_al⟩
theorem MR.put (m : MR K M H) {u : HO} {w : MO} (h : M a = some o) (r : OR K (H.up a u) a w) : MR K (mup M a w) (H.up a u) := ⟨fun b z e => by
  by_cases hb : b = a
  · subst hb; rw [mup_same] at e; cases e; exact r
  · rw [mup_ne hb] at e
    exact (m.ob b z e).mono (TX.put m h) (upd_ne hb), fun b f => by
  have : b ≠ a := by rintro rfl; exact m.knownF h f
  rw [mup_ne this]
  exact m.nf b f, fun b f => by
  obtain ⟨o, e⟩ := m.sm b f
  exact upd_al b o e⟩
theorem GG.put {u : HO} {w : MO} (h : M a = some o) : GG M H (mup M a w) (H.up a u) := ⟨fun b z e n => by
  have : b ≠ a := by rintro rfl; rw [h] at n; cases n
  exact ⟨by show upd H.h a u b = _; rw [upd_ne this]; exact e, by rw [mup_ne this]; exact n, Iff.rfl⟩, upd_al⟩
/-- a hidden object is frozen -/
theorem MR.fzz (m : MR K M H) {p : Addr} {u : HO} (h : H.h p = some u) (n : M p = none) : MR K M (H.fz p) := ⟨fun b w e => (m.ob b w e).mono TX.fzz rfl, fun b f => by
  rcases f with f | rfl
  · exact m.nf b f
  · exact n, fun b f => by
  rcases f with f | rfl
  · exact m.sm b f
  · exact ⟨u, h⟩⟩
theorem GG.fzz (g : GG M H M' H') {p : Addr} (h : H.h p = none) : GG M H M' (H'.fz p) := ⟨fun a o e n => by
  obtain ⟨h1, n1, f1⟩ := g.fr a o e n
  have : a ≠ p := by rintro rfl; rw [h] at e; cases e
  exact ⟨h1, n1, ⟨fun x => x.elim f1.mp (fun y => absurd y this), fun x => .inl (f1.mpr x)⟩⟩, g.al⟩
/-- a hidden object becomes known -/
theorem MR.known (m : MR K M H) {p : Addr} {w : MO} (r : OR K H p w) (f : ¬H.F p) : MR K (mup M p w) H := ⟨fun b o e => by
  by_cases hb : b = p
  · subst hb; rw [mup_same] at e; cases e; exact r
  · rw [mup_ne hb] at e
    exact m.ob b o e, fun b g => by
  have : b ≠ p := by rintro rfl; exact f g
  rw [mup_ne this]
  exact m.nf b g, m.sm⟩
theorem GG.known {p : Addr} {w : MO} (g : GG M H M' H') (h : H.h p = none) : GG M H (mup M' p w) H' := ⟨fun a o e n => by
  obtain ⟨h1, n1, f1⟩ := g.fr a o e n
  have : a ≠ p := by rintro rfl; rw [h] at e; cases e
  exact ⟨h1, by rw [mup_ne this]; exact n1, f1⟩, g.al⟩
/-- a hidden object is written -/
theorem TX.hidden {p : Addr} {u : HO} {vs : List V} (h : H.h p = some (.lst vs)) (f : ¬H.F p) : TX K H (H.up p u) := TX.upne (fun _ e => by rw [h] at e; cases e) (fun _ _ e => by rw [h] at e; cases e) f
theorem MR.hidden (m : MR K M H) {p : Addr} {u : HO} {vs : List V} (h : H.h p = some (.lst vs)) (n : M p = none) (f : ¬H.F p) : MR K M (H.up p u) := ⟨fun b w e => by
  have : b ≠ p := by rintro rfl; rw [n] at e; cases e
  exact (m.ob b w e).mono (TX.hidden h f) (upd_ne this), m.nf, fun b f => by
  obtain ⟨o, e⟩ := m.sm b f
  exact upd_al b o e⟩
theorem GG.hidden {p : Addr} {u : HO} (g : GG M H M' H') (h : H.h p = none) : GG M H M' (H'.up p u) := ⟨fun a o e n => by
  obtain ⟨h1, n1, f1⟩ := g.fr a o e n
  have : a ≠ p := by rintro rfl; rw [h] at e; cases e
  exact ⟨by show upd H'.h p u a = _; rw [upd_ne this]; exact h1, n1, f1⟩, fun a o e => by
  obtain ⟨u, e1⟩ := g.al a o e
  exact upd_al a u e1⟩
end
end DM

namespace DM
open PySem L2

/-! slots, readings, judgements -/
abbrev DSt := List (Option D)
abbrev DQ := D → Mm → Prop
abbrev TDE := DSt → Mm → DQ → Prop
abbrev TDT := DSt → Mm → (Bool → Mm → Prop) → Prop
abbrev TDA := DSt → Mm → (List D → Mm → Prop) → Prop
abbrev DX := Addr → List (Str × D) → DSt → Mm → Prop
structure DEnds where
  nx : DSt → Mm → Prop
  rt : DQ
  xc : DX := fun _ _ _ _ => False
  bk : DSt → Mm → Prop := fun _ _ => False
  ct : DSt → Mm → Prop := fun _ _ => False
abbrev TDS := DEnds → DSt → Mm → Prop
def SR (K : PySem.W.Frag) (H : HF) (ds : DSt) (σ : St) : Prop := ds.length = σ.length ∧ ∀ (i : Nat) (d : D), ds[i]? = some (some d) → ∃ v, σ[i]? = some (some v) ∧ VR K H d v
section
variable {K : PySem.W.Frag} {H H' : HF} {M M' : Mm} {ds : DSt} {σ : St}
theorem SR.mono (s : SR K H ds σ) (t : TX K H H') : SR K H' ds σ := ⟨s.1, fun i d e => by
  obtain ⟨v, h1, h2⟩ := s.2 i d e
  exact ⟨v, h1, VR.mono t _ _ h2⟩⟩
theorem SR.gg (s : SR K H ds σ) (m : MR K M H) (g : GG M H M' H') : SR K H' ds σ := s.mono (g.tx m)
theorem SR.set (s : SR K H ds σ) {d : D} {v : V} (r : VR K H d v) (i : Nat) : SR K H (ds.set i (some d)) (σ.set i (some v)) := by
  refine ⟨by rw [List.length_set, List.length_set]; exact s.1, fun j e h => ?_⟩
  by_cases hij : i = j
  · subst hij
    by_cases hl : i < ds.length
    · rw [List.getElem?_set_self hl] at h
      cases h
      exact ⟨v, by rw [List.getElem?_set_self (by rw [← s.1]; exact hl)], r⟩
    · rw [List.getElem?_eq_none (by rw [List.length_set]; omega)] at h
      cases h
  · rw [List.getElem?_set_ne hij] at h ⊢
    exact s.2 j e h
theorem SR.forget (s : SR K H ds σ) (i : Nat) : SR K H (ds.set i none) (σ.set i none) := by
  refine ⟨by rw [List.length_set, List.length_set]; exact s.1, fun j e h => ?_⟩
  by_cases hij : i = j
  · subst hij
    by_cases hl : i < ds.length
    · rw [List.getElem?_set_self hl] at h
      cases h
    · rw [List.getElem?_eq_none (by rw [List.length_set]; omega)] at h
      cases h
  · rw [List.getElem?_set_ne hij] at h ⊢
    exact s.2 j e h
end
structure JE (X : Cx) (e : Expr) (t : TDE) : Prop where
  go : ∃ t0, PE X e t0 ∧ ∀ (ds : DSt) (σ : St) (H : HF) (M : Mm) (Q : DQ) (Q0 : VK), SR X.K H ds σ → MR X.K M H → t ds M Q →
    (∀ v H' d M', VR X.K H' d v → MR X.K M' H' → GG M H M' H' → Q d M' → Q0 v H'.h) → t0 σ H.h Q0
structure JT (X : Cx) (e : Expr) (t : TDT) : Prop where
  go : ∃ t0, PT X e t0 ∧ ∀ (ds : DSt) (σ : St) (H : HF) (M : Mm) (Q : Bool → Mm → Prop) (Q0 : Bool → Hp → Prop), SR X.K H ds σ → MR X.K M H → t ds M Q →
    (∀ b H' M', MR X.K M' H' → GG M H M' H' → Q b M' → Q0 b H'.h) → t0 σ H.h Q0
structure JW (X : Cx) (e : Expr) (t : TDT) : Prop where
  go : ∃ t0, PW X e t0 ∧ ∀ (ds : DSt) (σ : St) (H : HF) (M : Mm) (Q : Bool → Mm → Prop) (Q0 : Bool → Hp → Prop), SR X.K H ds σ → MR X.K M H → t ds M Q →
    (∀ b H' M', MR X.K M' H' → GG M H M' H' → Q b M' → Q0 b H'.h) → t0 σ H.h Q0
structure JA (X : Cx) (es : List Expr) (t : TDA) : Prop where
  go : ∃ t0, PA X es t0 ∧ ∀ (ds : DSt) (σ : St) (H : HF) (M : Mm) (Q : List D → Mm → Prop) (Q0 : List V → Hp → Prop), SR X.K H ds σ → MR X.K M H → t ds M Q →
    (∀ vs H' es M', VRs X.K H' es vs → MR X.K M' H' → GG M H M' H' → Q es M' → Q0 vs H'.h) → t0 σ H.h Q0
/-- an exception's own dict -/
def XR (K : PySem.W.Frag) (M : Mm) (H : HF) (od : Option Addr) (fs : List (Str × D)) : Prop := match od with
  | none => fs = []
  | some a => M a = none ∧ ¬H.F a ∧ ∃ vs, H.h a = some (.xd vs) ∧ FR K H fs vs
def XF (H0 : HF) (od : Option Addr) : Prop := ∀ dd, od = some dd → H0.h dd = none
/-- what is wanted behind, on both sides; H0, M0: as the def began -/
structure Link (K : PySem.W.Frag) (W : WX) (M0 : Mm) (H0 : HF) (D0 : Ends) (D1 : DEnds) : Prop where
  nx : ∀ σ ds H M, GG M0 H0 M H → SR K H ds σ → MR K M H → D1.nx ds M → D0.nx σ H.h
  rt : ∀ v d H M, GG M0 H0 M H → VR K H d v → MR K M H → D1.rt d M → D0.rt v H.h
  bk : ∀ σ ds H M, GG M0 H0 M H → SR K H ds σ → MR K M H → D1.bk ds M → D0.bk σ H.h
  ct : ∀ σ ds H M, GG M0 H0 M H → SR K H ds σ → MR K M H → D1.ct ds M → D0.ct σ H.h
  xc : ∀ C od σ ds fs H M, XF H0 od → GG M0 H0 M H → SR K H ds σ → XR K M H od fs → MR K M H → D1.xc C fs ds M → W (.ref C) od σ H.h
structure JS (X : Cx) (W : WX) (st : Stmt) (t : TDS) : Prop where
  go : ∃ t0, PS X st t0 ∧ ∀ (M0 : Mm) (H0 : HF) (D0 : Ends) (D1 : DEnds), Link X.K W M0 H0 D0 D1 → ∀ (ds : DSt) (σ : St) (H : HF) (M : Mm), GG M0 H0 M H → SR X.K H ds σ → MR X.K M H → t D1 ds M → t0 D0 σ H.h
structure JB (X : Cx) (W : WX) (st : List Stmt) (t : TDS) : Prop where
  go : ∃ t0, PSs X st t0 ∧ ∀ (M0 : Mm) (H0 : HF) (D0 : Ends) (D1 : DEnds), Link X.K W M0 H0 D0 D1 → ∀ (ds : DSt) (σ : St) (H : HF) (M : Mm), GG M0 H0 M H → SR X.K H ds σ → MR X.K M H → t D1 ds M → t0 D0 σ H.h

/-! ### expressions -/
def dget (ds : DSt) (i : Nat) : Option D := (ds[i]?).getD none
@[simp] theorem dget_zero (x : Option D) (r : DSt) : dget (x :: r) 0 = x := rfl
@[simp] theorem dget_succ (x : Option D) (r : DSt) (i : Nat) : dget (x :: r) (i + 1) = dget r i := rfl
def dVar (i : Nat) : TDE := fun ds M Q => match dget ds i with | some d => Q d M | none => False
def dC (d : D) : TDE := fun _ M Q => Q d M
section
variable {X : Cx}
theorem je_pe {e : Expr} {t0 : TE} {t : TDE} (h : PE X e t0) (g : ∀ (ds : DSt) (σ : St) (H : HF) (M : Mm) (Q : DQ) (Q0 : VK), SR X.K H ds σ → MR X.K M H → t ds M Q →
    (∀ v H' d M', VR X.K H' d v → MR X.K M' H' → GG M H M' H' → Q d M' → Q0 v H'.h) → t0 σ H.h Q0) : JE X e t := ⟨t0, h, g⟩
theorem je_var {e : Expr} {i : Nat} (h : PE X e (tVar i)) : JE X e (dVar i) := je_pe h fun ds σ H M Q Q0 s m q k => by
  unfold dVar dget at q
  cases e : ds[i]? with
  | none => rw [e] at q; exact q.elim
  | some o =>
    cases o with
    | none => rw [e] at q; exact q.elim
    | some d =>
      rw [e] at q
      obtain ⟨v, h1, h2⟩ := s.2 i d e
      exact ⟨v, h1, k v H d M h2 m GG.refl q⟩
/-- the name that stands in the i-th slot -/
theorem jv (i : Nat) {x : Str} {pos : Pos} (hN : X.N[i]? = some x := by rfl) (hv : Vis X.env.scope x := by first | exact Or.inl rfl | exact Or.inr (Or.inl rfl) | exact Or.inr (Or.inr rfl)) (hd : (x == ("__debug__" : Str)) = false := by decide)
    (hcd : (x == ("__classdict__" : Str)) = false := by decide) : JE X (.Name x pos) (dVar i) := je_var (pe_var hN hv hd hcd)
theorem je_c {e : Expr} {d : D} {v : V} (h : PE X e (tC v)) (r : ∀ H, VR X.K H d v) : JE X e (dC d) := je_pe h fun _ _ H M _ _ _ m q k => k v H d M (r H) m GG.refl q
theorem je_int {i j pos} : JE X (.Constant (.int i) j pos) (dC (.int i)) := je_c pe_int fun _ => .int i
theorem je_bl {b j pos} : JE X (.Constant (.bool b) j pos) (dC (.bl b)) := je_c pe_bl fun _ => .bl b
theorem je_non {j pos} : JE X (.Constant .none j pos) (dC .non) := je_c pe_non fun _ => .non
theorem je_str {x j pos} : JE X (.Constant (.str x) j pos) (dC (.str x)) := je_c pe_str fun _ => .str x
/-- a module's constant -/
theorem je_gstr {x : Str} {z : Str} {t : Tok} {pos : Pos} (hg : Gl X x) (hm : X.mg x = some (.str z t)) (hd : (x == ("__debug__" : Str)) = false := by decide) : JE X (.Name x pos) (dC (.str z)) := je_c (pe_glob (v := .str z) hg hm ⟨_, rfl⟩ hd) fun _ => .str z
theorem je_gint {x : Str} {z : Int} {t : Tok} {pos : Pos} (hg : Gl X x) (hm : X.mg x = some (.int z t)) (hd : (x == ("__debug__" : Str)) = false := by decide) : JE X (.Name x pos) (dC (.int z)) := je_c (pe_glob (v := .int z) hg hm ⟨_, rfl⟩ hd) fun _ => .int z
theorem je_ty {x : Str} {n : String} {pos : Pos} (hg : Gl X x) (hm : X.mg x = none) (hv : bootBuiltins x = some (.type n)) (hn : x ≠ "__name__" := by decide) (hd : (x == ("__debug__" : Str)) = false := by decide) : JE X (.Name x pos) (dC (.ty n)) :=
  je_c (pe_bltn (v := .ty n) hg hm hv rfl hn hd) fun _ => .ty n

/-- arguments -/
def dNil : TDA := fun _ M Q => Q [] M
def dCons (ta : TDE) (tr : TDA) : TDA := fun ds M Q => ta ds M fun x M1 => tr ds M1 fun xs M2 => Q (x :: xs) M2
theorem ja_nil : JA X [] dNil := ⟨_, pa_nil, fun _ _ H M _ _ _ m q k => k [] H [] M .nil m GG.refl q⟩
theorem ja_cons {e : Expr} {es : List Expr} {te : TDE} {t : TDA} (ha : JE X e te) (hr : JA X es t) (hs : starEach (e :: es) X.env = (false, eval e X.env) :: starEach es X.env := by rfl) : JA X (e :: es) (dCons te t) := by
  obtain ⟨t0, p, g⟩ := ha
  obtain ⟨u0, p', g'⟩ := hr
  refine ⟨_, pa_cons p p' hs, fun ds σ H M Q Q0 s m q k => ?_⟩
  refine g ds σ H M _ _ s m q fun v H1 d M1 r1 m1 g1 q1 => ?_
  refine g' ds σ H1 M1 _ _ (s.gg m g1) m1 q1 fun vs H2 es M2 r2 m2 g2 q2 => ?_
  exact k _ H2 _ M2 (.cons (VR.mono (g2.tx m1) _ _ r1) r2) m2 (g1.trans g2) q2

/-- displays -/
def dTup (t : TDA) : TDE := fun ds M Q => t ds M fun xs M1 => xs.length ≤ sizeLine ∧ Q (.tup xs) M1
def dLst (t : TDA) : TDE := fun ds M Q => t ds M fun xs M1 => xs.length ≤ sizeLine ∧ ∀ p, M1 p = none → Q (.ref p) (mup M1 p (.lst xs))
theorem je_tup {es : List Expr} {x1} {pos : Pos} {t : TDA} (h : JA X es t) : JE X (.Tuple es x1 pos) (dTup t) := by
  obtain ⟨t0, p, g⟩ := h
  refine je_pe (pe_tup p) fun ds σ H M Q Q0 s m q k => ?_
  refine g ds σ H M _ _ s m q fun vs H1 es M1 r1 m1 g1 q1 => ⟨by rw [← r1.length]; exact q1.1, fun a ha => ?_⟩
  exact k _ _ _ M1 (.tup (SqT.of upd_same) (VRs.mono (TX.new m1 ha) _ _ r1)) (m1.newT ha) (g1.trans (GG.newT ha)) q1.2
theorem je_lst {es : List Expr} {pos : Pos} {t : TDA} (h : JA X es t) : JE X (.List es pos) (dLst t) := by
  obtain ⟨t0, p, g⟩ := h
  refine je_pe (pe_lst p) fun ds σ H M Q Q0 s m q k => ?_
  refine g ds σ H M _ _ s m q fun vs H1 es M1 r1 m1 g1 q1 => ⟨by rw [← r1.length]; exact q1.1, fun a ha => ?_⟩
  exact k _ _ _ _ (.ref a) (m1.new (w := .lst es) ha ⟨vs, upd_same, VRs.mono (TX.new m1 ha) _ _ r1⟩) (g1.trans (GG.new ha)) (q1.2 a (m1.free ha))
end

/-! ### operators -/
abbrev DR2 := D → D → Mm → DQ → Prop
def Lift2 (K : PySem.W.Frag) (r : R2) (dr : DR2) : Prop := ∀ (x y : V) (dx dy : D) (H : HF) (M : Mm) (Q : DQ) (Q0 : VK), VR K H dx x → VR K H dy y → MR K M H → dr dx dy M Q →
  (∀ v H' d M', VR K H' d v → MR K M' H' → GG M H M' H' → Q d M' → Q0 v H'.h) → r x y H.h Q0
def dOp (r : DR2) (ta tb : TDE) : TDE := fun ds M Q => ta ds M fun x M1 => tb ds M1 fun y M2 => r x y M2 Q
section
variable {X : Cx} {a b : Expr} {ta tb : TDE} {pos : Pos}
theorem op2 {ua ub : TE} {r : R2} {dr : DR2} (hl : Lift2 X.K r dr) (ga : ∀ (ds : DSt) (σ : St) (H : HF) (M : Mm) (Q : DQ) (Q0 : VK), SR X.K H ds σ → MR X.K M H → ta ds M Q →
    (∀ v H' d M', VR X.K H' d v → MR X.K M' H' → GG M H M' H' → Q d M' → Q0 v H'.h) → ua σ H.h Q0) (gb : ∀ (ds : DSt) (σ : St) (H : HF) (M : Mm) (Q : DQ) (Q0 : VK), SR X.K H ds σ → MR X.K M H → tb ds M Q →
    (∀ v H' d M', VR X.K H' d v → MR X.K M' H' → GG M H M' H' → Q d M' → Q0 v H'.h) → ub σ H.h Q0) (ds : DSt) (σ : St) (H : HF) (M : Mm) (Q : DQ) (Q0 : VK) (s : SR X.K H ds σ) (m : MR X.K M H) (q : dOp dr ta tb ds M Q)
    (k : ∀ v H' d M', VR X.K H' d v → MR X.K M' H' → GG M H M' H' → Q d M' → Q0 v H'.h) : tOp r ua ub σ H.h Q0 := by
  refine ga ds σ H M _ _ s m q fun v H1 d M1 r1 m1 g1 q1 => ?_
  refine gb ds σ H1 M1 _ _ (s.gg m g1) m1 q1 fun u H2 e M2 r2 m2 g2 q2 => ?_
  exact hl v u d e H2 M2 Q Q0 (VR.mono (g2.tx m1) _ _ r1) r2 m2 q2 fun w H3 f M3 r3 m3 g3 q3 => k w H3 f M3 r3 m3 ((g1.trans g2).trans g3) q3
theorem je_op {op : Operator} {r : R2} {dr : DR2} (ho : OpR X (binaryOp op) r) (hl : Lift2 X.K r dr) (ha : JE X a ta) (hb : JE X b tb) : JE X (.BinOp a op b pos) (dOp dr ta tb) := by
  obtain ⟨u, p, g⟩ := ha
  obtain ⟨u', p', g'⟩ := hb
  exact je_pe (pe_op ho p p') (op2 hl g g')
theorem je_cmpR {op : CmpOp} {r : R2} {dr : DR2} (ho : OpR X (compareOp op) r) (hl : Lift2 X.K r dr) (ha : JE X a ta) (hb : JE X b tb) (hm : behindInMarks op b = false) : JE X (.Compare a [op] [b] pos) (dOp dr ta tb) := by
  obtain ⟨u, p, g⟩ := ha
  obtain ⟨u', p', g'⟩ := hb
  exact je_pe (pe_cmpR ho p p' hm) (op2 hl g g')
/-- a value as a test: a bool -/
def isB (d : D) (Q : Bool → Prop) : Prop := match d with | .bl b => Q b | _ => False
def dTest (t : TDE) : TDT := fun ds M Q => t ds M fun x M1 => isB x fun b => Q b M1
theorem isB_out {K : PySem.W.Frag} {H : HF} {d : D} {v : V} {Q : Bool → Prop} (r : VR K H d v) (q : isB d Q) : ∃ k, v = .bl k ∧ Q k := by
  cases r with
  | bl b => exact ⟨b, rfl, q⟩
  | _ => exact q.elim
theorem jt_cmpR {op : CmpOp} {r : R2} {dr : DR2} (ho : OpR X (compareOp op) r) (hl : Lift2 X.K r dr) (ha : JE X a ta) (hb : JE X b tb) (hm : behindInMarks op b = false) : JT X (.Compare a [op] [b] pos) (dTest (dOp dr ta tb)) := by
  obtain ⟨u, p, g⟩ := ha
  obtain ⟨u', p', g'⟩ := hb
  refine ⟨_, pt_cmpR ho p p' hm, fun ds σ H M Q Q0 s m q k => ?_⟩
  refine op2 hl g g' ds σ H M _ _ s m q fun v H' d M' r m' gg q' => ?_
  obtain ⟨b, e, q⟩ := isB_out r q'
  exact ⟨b, e, k b H' M' m' gg q⟩
theorem jt_val {e : Expr} {t : TDE} (h : JE X e t) (he : ∀ whole, isTrue e X.env whole = (do let v ← whole; standAt e.pos; holding [v] (truthy v)) := by intro _; rfl) : JT X e (dTest t) := by
  obtain ⟨u, p, g⟩ := h
  refine ⟨_, pt_val p he, fun ds σ H M Q Q0 s m q k => ?_⟩
  refine g ds σ H M _ _ s m q fun v H' d M' r m' gg q' => ?_
  obtain ⟨b, e, q⟩ := isB_out r q'
  exact ⟨b, e, k b H' M' m' gg q⟩
/-- and, or, not as tests -/
def dAnd (t u : TDT) : TDT := fun ds M Q => t ds M fun c M1 => if c = true then u ds M1 Q else Q false M1
def dOr (t u : TDT) : TDT := fun ds M Q => t ds M fun c M1 => if c = true then Q true M1 else u ds M1 Q
def dNot (t : TDT) : TDT := fun ds M Q => t ds M fun c M1 => Q (!c) M1
variable {t t' : TDT} {rest : List Expr}
theorem jw_and1 (ha : JT X a t) : JW X (.BoolOp .And [a] pos) t := by
  obtain ⟨u, p, g⟩ := ha
  exact ⟨_, pw_and1 p, g⟩
theorem jw_or1 (ha : JT X a t) : JW X (.BoolOp .Or [a] pos) t := by
  obtain ⟨u, p, g⟩ := ha
  exact ⟨_, pw_or1 p, g⟩
theorem jw_and (ha : JT X a t) (hb : JW X (.BoolOp .And (b :: rest) pos) t') : JW X (.BoolOp .And (a :: b :: rest) pos) (dAnd t t') := by
  obtain ⟨u, p, g⟩ := ha
  obtain ⟨u', p', g'⟩ := hb
  refine ⟨_, pw_and p p', fun ds σ H M Q Q0 s m q k => ?_⟩
  refine g ds σ H M _ _ s m q fun c H1 M1 m1 g1 q1 => ?_
  cases c with
  | true => exact g' ds σ H1 M1 _ _ (s.gg m g1) m1 q1 fun b H2 M2 m2 g2 q2 => k b H2 M2 m2 (g1.trans g2) q2
  | false => exact k false H1 M1 m1 g1 q1
theorem jw_or (ha : JT X a t) (hb : JW X (.BoolOp .Or (b :: rest) pos) t') : JW X (.BoolOp .Or (a :: b :: rest) pos) (dOr t t') := by
  obtain ⟨u, p, g⟩ := ha
  obtain ⟨u', p', g'⟩ := hb
  refine ⟨_, pw_or p p', fun ds σ H M Q Q0 s m q k => ?_⟩
  refine g ds σ H M _ _ s m q fun c H1 M1 m1 g1 q1 => ?_
  cases c with
  | false => exact g' ds σ H1 M1 _ _ (s.gg m g1) m1 q1 fun b H2 M2 m2 g2 q2 => k b H2 M2 m2 (g1.trans g2) q2
  | true => exact k true H1 M1 m1 g1 q1
theorem JW.jt {e : Expr} (h : JW X e t) : JT X e t := by
  obtain ⟨u, p, g⟩ := h
  exact ⟨u, p.pt, g⟩
theorem jt_not (ha : JT X a t) : JT X (.UnaryOp .Not a pos) (dNot t) := by
  obtain ⟨u, p, g⟩ := ha
  exact ⟨_, pt_not p, fun ds σ H M Q Q0 s m q k => g ds σ H M _ _ s m q fun c H1 M1 m1 g1 q1 => k _ H1 M1 m1 g1 q1⟩
/-- and, or, not as values: all but the last bools -/
def dAndV (ta tb : TDE) : TDE := fun ds M Q => ta ds M fun x M1 => isB x fun c => if c = true then tb ds M1 Q else Q (.bl false) M1
def dOrV (ta tb : TDE) : TDE := fun ds M Q => ta ds M fun x M1 => isB x fun c => if c = true then Q (.bl true) M1 else tb ds M1 Q
def dNotV (ta : TDE) : TDE := fun ds M Q => ta ds M fun x M1 => isB x fun c => Q (.bl (!c)) M1
theorem je_one {op} (h : JE X a ta) : JE X (.BoolOp op [a] pos) ta := by
  obtain ⟨u, p, g⟩ := h
  exact ⟨u, pe_one p, g⟩
theorem je_and (ha : JE X a ta) (hb : JE X (.BoolOp .And (b :: rest) pos) tb) : JE X (.BoolOp .And (a :: b :: rest) pos) (dAndV ta tb) := by
  obtain ⟨u, p, g⟩ := ha
  obtain ⟨u', p', g'⟩ := hb
  refine je_pe (pe_and p p') fun ds σ H M Q Q0 s m q k => ?_
  refine g ds σ H M _ _ s m q fun v H1 d M1 r1 m1 g1 q1 => ?_
  obtain ⟨c, e, q1⟩ := isB_out r1 q1
  refine ⟨c, e, ?_⟩
  cases c with
  | true => exact g' ds σ H1 M1 _ _ (s.gg m g1) m1 q1 fun v H2 d M2 r2 m2 g2 q2 => k v H2 d M2 r2 m2 (g1.trans g2) q2
  | false => exact k _ H1 _ M1 (.bl false) m1 g1 q1
theorem je_or (ha : JE X a ta) (hb : JE X (.BoolOp .Or (b :: rest) pos) tb) : JE X (.BoolOp .Or (a :: b :: rest) pos) (dOrV ta tb) := by
  obtain ⟨u, p, g⟩ := ha
  obtain ⟨u', p', g'⟩ := hb
  refine je_pe (pe_or p p') fun ds σ H M Q Q0 s m q k => ?_
  refine g ds σ H M _ _ s m q fun v H1 d M1 r1 m1 g1 q1 => ?_
  obtain ⟨c, e, q1⟩ := isB_out r1 q1
  refine ⟨c, e, ?_⟩
  cases c with
  | false => exact g' ds σ H1 M1 _ _ (s.gg m g1) m1 q1 fun v H2 d M2 r2 m2 g2 q2 => k v H2 d M2 r2 m2 (g1.trans g2) q2
  | true => exact k _ H1 _ M1 (.bl true) m1 g1 q1
theorem je_not (ha : JE X a ta) : JE X (.UnaryOp .Not a pos) (dNotV ta) := by
  obtain ⟨u, p, g⟩ := ha
  refine je_pe (pe_not p) fun ds σ H M Q Q0 s m q k => ?_
  refine g ds σ H M _ _ s m q fun v H1 d M1 r1 m1 g1 q1 => ?_
  obtain ⟨c, e, q1⟩ := isB_out r1 q1
  exact ⟨c, e, k _ H1 _ M1 (.bl _) m1 g1 q1⟩
def dIf (t : TDT) (ta tb : TDE) : TDE := fun ds M Q => t ds M fun c M1 => if c = true then ta ds M1 Q else tb ds M1 Q
theorem je_ifExp {c : Expr} (hc : JT X c t) (ha : JE X a ta) (hb : JE X b tb) : JE X (.IfExp c a b pos) (dIf t ta tb) := by
  obtain ⟨u, p, g⟩ := hc
  obtain ⟨u1, p1, g1⟩ := ha
  obtain ⟨u2, p2, g2⟩ := hb
  refine je_pe (pe_ifExp p p1 p2) fun ds σ H M Q Q0 s m q k => ?_
  refine g ds σ H M _ _ s m q fun c H1 M1 m1 gg1 q1 => ?_
  cases c with
  | true => exact g1 ds σ H1 M1 _ _ (s.gg m gg1) m1 q1 fun v H2 d M2 r2 m2 gg2 q2 => k v H2 d M2 r2 m2 (gg1.trans gg2) q2
  | false => exact g2 ds σ H1 M1 _ _ (s.gg m gg1) m1 q1 fun v H2 d M2 r2 m2 gg2 q2 => k v H2 d M2 r2 m2 (gg1.trans gg2) q2
end
end DM

namespace DM
open PySem L2
open PyProof.Rows (b2i)

/-! ### what a value of a kind looks like below -/
section
variable {K : PySem.W.Frag} {H : HF} {M : Mm}
theorem VR.int_v {i : Int} {v : V} (r : VR K H (.int i) v) : v = .int i := by cases r; rfl
theorem VR.bl_v {i : Bool} {v : V} (r : VR K H (.bl i) v) : v = .bl i := by cases r; rfl
theorem VR.str_v {i : Str} {v : V} (r : VR K H (.str i) v) : v = .str i := by cases r; rfl
theorem VR.ref_v {i : Addr} {v : V} (r : VR K H (.ref i) v) : v = .ref i := by cases r; rfl
theorem VR.non_v {v : V} (r : VR K H .non v) : v = .non := by cases r; rfl
theorem VR.ty_v {n : String} {v : V} (r : VR K H (.ty n) v) : v = .ty n := by cases r; rfl
theorem VR.tup_v {ds : List D} {v : V} (r : VR K H (.tup ds) v) : ∃ a vs, v = .ref a ∧ SqT K H.h a vs ∧ VRs K H ds vs := by
  cases r with
  | tup h q => exact ⟨_, _, rfl, h, q⟩
theorem VR.lst_v {ds : List D} {v : V} (r : VR K H (.lst ds) v) : ∃ a vs, v = .ref a ∧ H.h a = some (.lst vs) ∧ H.F a ∧ VRs K H ds vs := by
  cases r with
  | lst h f q => exact ⟨_, _, rfl, h, f, q⟩
theorem VR.dic_v {ds : List (Key × D)} {v : V} (r : VR K H (.dic ds) v) : ∃ a vs, v = .ref a ∧ H.h a = some (.dK vs) ∧ H.F a ∧ FR K H ds vs := by
  cases r with
  | dic h f q => exact ⟨_, _, rfl, h, f, q.fr⟩
end

/-! ### arithmetic -/
def lstOf (M : Mm) (a : Addr) : Option (List D) := match M a with | some (.lst xs) => some xs | _ => none
theorem lstOf_some {M : Mm} {a : Addr} {xs : List D} (h : M a = some (.lst xs)) : lstOf M a = some xs := by unfold lstOf; rw [h]
theorem of_lstOf {M : Mm} {a : Addr} {xs : List D} (h : lstOf M a = some xs) : M a = some (.lst xs) := by
  unfold lstOf at h
  split at h
  · cases h; assumption
  · cases h
theorem lstOf_mup_same {M : Mm} {a : Addr} {xs : List D} : lstOf (mup M a (.lst xs)) a = some xs := lstOf_some mup_same
theorem lstOf_mup_ne {M : Mm} {a b : Addr} {o : MO} (h : b ≠ a) : lstOf (mup M a o) b = lstOf M b := by unfold lstOf; rw [mup_ne h]

/-- a list, frozen or in the store -/
def rdL (M : Mm) : D → Option (List D)
  | .lst xs => some xs
  | .ref a => lstOf M a
  | _ => none
@[simp] theorem rdL_lst {M : Mm} {xs : List D} : rdL M (.lst xs) = some xs := rfl
@[simp] theorem rdL_ref {M : Mm} {a : Addr} : rdL M (.ref a) = lstOf M a := rfl
theorem rdL_v {K : PySem.W.Frag} {M : Mm} {H : HF} {d : D} {v : V} {xs : List D} (m : MR K M H) (r : VR K H d v) (e : rdL M d = some xs) : ∃ a vs, v = .ref a ∧ H.h a = some (.lst vs) ∧ VRs K H xs vs := by
  cases d with
  | lst ys =>
    cases e
    obtain ⟨a, vs, rfl, h, _, q⟩ := r.lst_v
    exact ⟨a, vs, rfl, h, q⟩
  | ref a =>
    cases r.ref_v
    obtain ⟨vs, h1, r1⟩ := m.ob a _ (of_lstOf e)
    exact ⟨a, vs, rfl, h1, r1⟩
  | _ => cases e
def catR : DR2 := fun x y M Q => match rdL M x, rdL M y with
    | some i, some j => i.length + j.length ≤ sizeLine ∧ Q (.lst (i ++ j)) M
    | _, _ => False
theorem catR_out {x y : D} {M : Mm} {Q : DQ} (h : catR x y M Q) : ∃ i j, rdL M x = some i ∧ rdL M y = some j ∧ i.length + j.length ≤ sizeLine ∧ Q (.lst (i ++ j)) M := by
  unfold catR at h
  split at h
  · rename_i i j e1 e2
    exact ⟨i, j, e1, e2, h⟩
  · exact h.elim
def addR : DR2 := fun x y M Q => match x, y with
  | .int i, .int j => Q (.int (i + j)) M
  | .str i, .str j => i.length + j.length ≤ sizeLine ∧ Q (.str (i ++ j)) M
  | .tup i, .tup j => i.length + j.length ≤ sizeLine ∧ Q (.tup (i ++ j)) M
  | .int i, .bl k => Q (.int (i + b2i k)) M
  | x, y => catR x y M Q
def addT (K : PySem.W.Frag) : R2 := fun x y H Q => (∃ i j, x = .int i ∧ y = .int j ∧ Q (.int (i + j)) H) ∨ (∃ i j, x = .str i ∧ y = .str j ∧ i.length + j.length ≤ sizeLine ∧ Q (.str (i ++ j)) H) ∨
  rCatA K x y H Q ∨ rCat x y H Q ∨ ∃ i k, x = .int i ∧ y = .bl k ∧ Q (.int (i + b2i k)) H
theorem op_addT {X : Cx} : OpR X (binaryOp .Add) (addT X.K) := op_add.or (op_add_str.or (op_catA.or (op_cat.or op_add_ib)))
theorem catR_no1 {x y : D} {M : Mm} {Q : DQ} (e : rdL M x = none) : ¬catR x y M Q := fun h => by
  obtain ⟨i, _, e1, _⟩ := catR_out h
  rw [e] at e1
  cases e1
theorem catR_no2 {x y : D} {M : Mm} {Q : DQ} (e : rdL M y = none) : ¬catR x y M Q := fun h => by
  obtain ⟨_, j, _, e1, _⟩ := catR_out h
  rw [e] at e1
  cases e1
theorem lift_cat {K : PySem.W.Frag} {x y : V} {dx dy : D} {H : HF} {M : Mm} {Q : DQ} {Q0 : VK} (rx : VR K H dx x) (ry : VR K H dy y) (m : MR K M H) (h : catR dx dy M Q)
    (k : ∀ v H' d M', VR K H' d v → MR K M' H' → GG M H M' H' → Q d M' → Q0 v H'.h) : rCat x y H.h Q0 := by
  obtain ⟨i, j, e1, e2, hz, q⟩ := catR_out h
  obtain ⟨a, vs, rfl, h1, r1⟩ := rdL_v m rx e1
  obtain ⟨b, ws, rfl, h2, r2⟩ := rdL_v m ry e2
  refine ⟨a, b, vs, ws, rfl, rfl, h1, h2, by rw [← r1.length, ← r2.length]; exact hz, fun p hp => ?_⟩
  have t : TX K H ((H.up p (.lst (vs ++ ws))).fz p) := (TX.new m hp).trans TX.fzz
  exact k (.ref p) ((H.up p (.lst (vs ++ ws))).fz p) (.lst (i ++ j)) M (.lst upd_same (.inr rfl) (VRs.append (VRs.mono t _ _ r1) (VRs.mono t _ _ r2)))
    ((m.newT hp).fzz upd_same (m.free hp)) ((GG.newT hp).fzz hp) q
theorem lift_add {K : PySem.W.Frag} : Lift2 K (addT K) addR := by
  intro x y dx dy H M Q Q0 rx ry m h k
  cases dx with
  | int i =>
    cases dy with
    | int j =>
      cases rx.int_v
      cases ry.int_v
      exact .inl ⟨i, j, rfl, rfl, k _ H _ M (.int _) m GG.refl h⟩
    | bl j =>
      cases rx.int_v
      cases ry.bl_v
      exact .inr (.inr (.inr (.inr ⟨i, j, rfl, rfl, k _ H _ M (.int _) m GG.refl h⟩)))
    | _ => simp [addR, catR, rdL] at h
  | str i =>
    cases dy with
    | str j =>
      cases rx.str_v
      cases ry.str_v
      exact .inr (.inl ⟨i, j, rfl, rfl, h.1, k _ H _ M (.str _) m GG.refl h.2⟩)
    | _ => simp [addR, catR, rdL] at h
  | tup i =>
    cases dy with
    | tup j =>
      obtain ⟨a, vs, rfl, sa, ra⟩ := rx.tup_v
      obtain ⟨b, ws, rfl, sb, rb⟩ := ry.tup_v
      obtain ⟨hz, q⟩ := h
      refine .inr (.inr (.inl ⟨a, b, vs, ws, rfl, rfl, sa, sb, by rw [← ra.length, ← rb.length]; exact hz, fun e => ?_, fun _ e => ?_, fun _ _ p hp => ?_⟩))
      · subst e
        cases ra
        exact k _ H _ M ry m GG.refl q
      · subst e
        cases rb
        rw [List.append_nil] at q
        exact k _ H _ M rx m GG.refl q
      · exact k _ (H.up p _) _ M (.tup (SqT.of upd_same) (VRs.append (VRs.mono (TX.new m hp) _ _ ra) (VRs.mono (TX.new m hp) _ _ rb))) (m.newT hp) (GG.newT hp) q
    | _ => simp [addR, catR, rdL] at h
  | non => exact (catR_no1 (x := .non) (y := dy) (M := M) (Q := Q) rfl (by cases dy <;> exact h)).elim
  | bl z => exact (catR_no1 (x := .bl z) (y := dy) (M := M) (Q := Q) rfl (by cases dy <;> exact h)).elim
  | ty z => exact (catR_no1 (x := .ty z) (y := dy) (M := M) (Q := Q) rfl (by cases dy <;> exact h)).elim
  | dic z => exact (catR_no1 (x := .dic z) (y := dy) (M := M) (Q := Q) rfl (by cases dy <;> exact h)).elim
  | lst z =>
    have h : catR (.lst z) dy M Q := by cases dy <;> exact h
    exact .inr (.inr (.inr (.inl (lift_cat rx ry m h k))))
  | ref z =>
    have h : catR (.ref z) dy M Q := by cases dy <;> exact h
    exact .inr (.inr (.inr (.inl (lift_cat rx ry m h k))))

/-- on two ints, under a condition -/
def intR (C : Int → Int → Prop) (g : Int → Int → D) : DR2 := fun x y M Q => match x, y with
  | .int i, .int j => C i j ∧ Q (g i j) M
  | _, _ => False
theorem lift_int {K : PySem.W.Frag} {C : Int → Int → Prop} {g : Int → Int → V} {g' : Int → Int → D} (hg : ∀ i j H, VR K H (g' i j) (g i j)) : Lift2 K (rI C g) (intR C g') := by
  intro x y dx dy H M Q Q0 rx ry m h k
  cases dx with
  | int i =>
    cases dy with
    | int j =>
      cases rx.int_v
      cases ry.int_v
      exact ⟨i, j, rfl, rfl, h.1, k _ H _ M (hg i j H) m GG.refl h.2⟩
    | _ => exact h.elim
  | _ => cases dy <;> exact h.elim
def int0R (g : Int → Int → D) : DR2 := fun x y M Q => match x, y with
  | .int i, .int j => Q (g i j) M
  | _, _ => False
theorem lift_int0 {K : PySem.W.Frag} {g : Int → Int → V} {g' : Int → Int → D} (hg : ∀ i j H, VR K H (g' i j) (g i j)) : Lift2 K (rI0 g) (int0R g') := by
  intro x y dx dy H M Q Q0 rx ry m h k
  cases dx with
  | int i =>
    cases dy with
    | int j =>
      cases rx.int_v
      cases ry.int_v
      exact ⟨i, j, rfl, rfl, k _ H _ M (hg i j H) m GG.refl h⟩
    | _ => exact h.elim
  | _ => cases dy <;> exact h.elim
abbrev subR : DR2 := int0R fun i j => .int (i - j)
abbrev mulR : DR2 := intR CMulW fun i j => .int (i * j)
abbrev modR : DR2 := intR (fun _ j => 0 < j) fun i j => .int (i % j)
abbrev fdivR : DR2 := intR CDivW fun i j => .int (i / j)
abbrev powR : DR2 := intR CPow fun i j => .int (i ^ j.toNat)
abbrev shlR : DR2 := intR CPow fun i j => .int (i * 2 ^ j.toNat)
abbrev orR : DR2 := int0R fun i j => .int (Builtin.bitOr i j)
section
variable {X : Cx} {a b : Expr} {ta tb : TDE} {pos : Pos}
theorem je_add (ha : JE X a ta) (hb : JE X b tb) : JE X (.BinOp a .Add b pos) (dOp addR ta tb) := je_op op_addT lift_add ha hb
theorem je_sub (ha : JE X a ta) (hb : JE X b tb) : JE X (.BinOp a .Sub b pos) (dOp subR ta tb) := je_op op_sub (lift_int0 fun _ _ _ => .int _) ha hb
theorem je_mul (ha : JE X a ta) (hb : JE X b tb) : JE X (.BinOp a .Mult b pos) (dOp mulR ta tb) := je_op op_mulW (lift_int fun _ _ _ => .int _) ha hb
theorem je_mod (ha : JE X a ta) (hb : JE X b tb) : JE X (.BinOp a .Mod b pos) (dOp modR ta tb) := je_op op_mod (lift_int fun _ _ _ => .int _) ha hb
theorem je_fdiv (ha : JE X a ta) (hb : JE X b tb) : JE X (.BinOp a .FloorDiv b pos) (dOp fdivR ta tb) := je_op op_fdivW (lift_int fun _ _ _ => .int _) ha hb
theorem je_pow (ha : JE X a ta) (hb : JE X b tb) : JE X (.BinOp a .Pow b pos) (dOp powR ta tb) := je_op op_pow (lift_int fun _ _ _ => .int _) ha hb
theorem je_shl (ha : JE X a ta) (hb : JE X b tb) : JE X (.BinOp a .LShift b pos) (dOp shlR ta tb) := je_op op_shl (lift_int fun _ _ _ => .int _) ha hb
theorem je_bor (ha : JE X a ta) (hb : JE X b tb) : JE X (.BinOp a .BitOr b pos) (dOp orR ta tb) := je_op op_or (lift_int0 fun _ _ _ => .int _) ha hb
/-- -a -/
def dNeg (ta : TDE) : TDE := fun ds M Q => ta ds M fun x M1 => match x with | .int i => Q (.int (-i)) M1 | _ => False
theorem je_neg (ha : JE X a ta) : JE X (.UnaryOp .USub a pos) (dNeg ta) := by
  obtain ⟨u, p, g⟩ := ha
  refine je_pe (pe_un un_neg p) fun ds σ H M Q Q0 s m q k => ?_
  refine g ds σ H M _ _ s m q fun v H1 d M1 r1 m1 g1 q1 => ?_
  cases d with
  | int i =>
    cases r1.int_v
    exact ⟨i, rfl, k _ H1 _ M1 (.int _) m1 g1 q1⟩
  | _ => exact q1.elim
end

/-! ### == at any depth -/
mutual
def pureD : D → Bool
  | .ref _ => false
  | .ty _ => false
  | .dic _ => false
  | .tup xs => pureDs xs
  | .lst xs => pureDs xs
  | .non => true
  | .bl _ => true
  | .int _ => true
  | .str _ => true
def pureDs : List D → Bool
  | [] => true
  | x :: xs => pureD x && pureDs xs
end
mutual
def depD : D → Nat
  | .tup xs => 1 + depDs xs
  | .lst xs => 1 + depDs xs
  | .non => 1
  | .bl _ => 1
  | .int _ => 1
  | .str _ => 1
  | .ref _ => 1
  | .ty _ => 1
  | .dic _ => 1
def depDs : List D → Nat
  | [] => 1
  | x :: xs => max (depD x) (depDs xs)
end
mutual
def eqvD : D → D → Bool
  | .non, .non => true
  | .bl a, .bl b => a == b
  | .bl a, .int b => (if a then 1 else 0) == b
  | .int a, .bl b => a == (if b then 1 else 0)
  | .int a, .int b => a == b
  | .str a, .str b => a == b
  | .tup xs, .tup ys => eqvDs xs ys
  | .lst xs, .lst ys => eqvDs xs ys
  | _, _ => false
def eqvDs : List D → List D → Bool
  | [], [] => true
  | x :: xs, y :: ys => eqvD x y && eqvDs xs ys
  | _, _ => false
end
theorem eqvDs_len : ∀ {xs ys : List D}, eqvDs xs ys = true → xs.length = ys.length
  | [], [], _ => rfl
  | x :: xs, y :: ys, h => by
    have h' : (eqvD x y && eqvDs xs ys) = true := by simpa [eqvDs] using h
    rw [Bool.and_eq_true] at h'
    simp [eqvDs_len h'.2]
  | [], _ :: _, h => by simp [eqvDs] at h
  | _ :: _, [], h => by simp [eqvDs] at h
/-- place by place -/
def eqAtN (xs ys : List D) (j : Nat) : Bool := match xs[j]?, ys[j]? with | some x, some y => eqvD x y | _, _ => false
theorem eqvDs_range : ∀ (xs ys : List D), ((List.range (min xs.length ys.length)).all (eqAtN xs ys) && xs.length == ys.length) = eqvDs xs ys
  | [], [] => by simp [eqvDs]
  | [], _ :: _ => by simp [eqvDs]
  | _ :: _, [] => by simp [eqvDs]
  | x :: xs, y :: ys => by
    have ih := eqvDs_range xs ys
    have hm : min (x :: xs).length (y :: ys).length = min xs.length ys.length + 1 := by simp only [List.length_cons]; omega
    rw [hm, List.range_succ_eq_map, List.all_cons, List.all_map]
    have e0 : eqAtN (x :: xs) (y :: ys) 0 = eqvD x y := rfl
    have e1 : (eqAtN (x :: xs) (y :: ys) ∘ Nat.succ) = eqAtN xs ys := rfl
    have e2 : ((x :: xs).length == (y :: ys).length) = (xs.length == ys.length) := by simp
    rw [e0, e1, e2, eqvDs, ← ih, Bool.and_assoc]
theorem eqvDs_rangeL {xs ys : List D} (h : xs.length = ys.length) : (List.range xs.length).all (eqAtN xs ys) = eqvDs xs ys := by
  have := eqvDs_range xs ys
  rw [← h, Nat.min_self, show (xs.length == xs.length) = true by simp, Bool.and_true] at this
  exact this
theorem pureDs_get : ∀ {xs : List D} {j : Nat} {x : D}, pureDs xs = true → xs[j]? = some x → pureD x = true
  | [], _, _, _, e => by simp at e
  | y :: ys, 0, x, h, e => by
    simp at e; subst e
    have : (pureD y && pureDs ys) = true := by simpa [pureDs] using h
    exact (Bool.and_eq_true_iff.mp this).1
  | y :: ys, j + 1, x, h, e => by
    have : (pureD y && pureDs ys) = true := by simpa [pureDs] using h
    exact pureDs_get (j := j) (Bool.and_eq_true_iff.mp this).2 (by simpa using e)
theorem depDs_get : ∀ {xs : List D} {j : Nat} {x : D}, xs[j]? = some x → depD x ≤ depDs xs
  | [], _, _, e => by simp at e
  | y :: ys, 0, x, e => by
    simp at e; subst e
    show depD y ≤ max (depD y) (depDs ys)
    omega
  | y :: ys, j + 1, x, e => by
    have := depDs_get (xs := ys) (j := j) (x := x) (by simpa using e)
    show depD x ≤ max (depD y) (depDs ys)
    omega
theorem depD_pos : ∀ d : D, 1 ≤ depD d := fun d => by cases d <;> simp [depD]
section
variable {X : Cx} {pins : List (Addr × Obj)} {σ : St} {H : HF} {s : Shared}
open PySem.SeqAt in
theorem tup_at (I : Inv X pins σ H.h s) {a : Addr} {vs : List V} (h : SqT X.K H.h a vs) : ∃ its : List Value, Vals vs its ∧ s.heap.IsTuple a its.toArray := by
  obtain ⟨its, r, ⟨o, h1, h2, n, h3⟩, _⟩ := I.tuple h
  exact ⟨its, r, o, h1, h2, n, h3⟩
open PySem.SeqAt in
theorem lst_at (I : Inv X pins σ H.h s) {a : Addr} {vs : List V} (h : SqL X.K H.h a vs) : ∃ its : List Value, Vals vs its ∧ s.heap.IsList a its.toArray := by
  obtain ⟨its, r, p, _⟩ := I.list h
  exact ⟨its, r, p.isList⟩
/-- how a value stands below -/
inductive Cls (X : Cx) (H : HF) (s : Shared) : D → V → Value → Prop
  | fl {d : D} {v : V} {u : Value} : VR X.K H d v → flatV v = true → RelV v u → Cls X H s d v u
  | tu {xs : List D} {a : Addr} {vs : List V} {its : List Value} : SqT X.K H.h a vs → s.heap.IsTuple a its.toArray → VRs X.K H xs vs → Vals vs its → Cls X H s (.tup xs) (.ref a) (.ref a)
  | li {xs : List D} {a : Addr} {vs : List V} {its : List Value} : H.h a = some (.lst vs) → s.heap.IsList a its.toArray → VRs X.K H xs vs → Vals vs its → Cls X H s (.lst xs) (.ref a) (.ref a)
theorem Cls.of (I : Inv X pins σ H.h s) {d : D} {v : V} {u : Value} (r : VR X.K H d v) (ru : RelV v u) (p : pureD d = true) : Cls X H s d v u := by
  cases r with
  | ref _ => simp [pureD] at p
  | ty _ => simp [pureD] at p
  | dic _ _ _ => simp [pureD] at p
  | tup sa ra =>
    cases ru
    obtain ⟨its, rv, ht⟩ := tup_at I sa
    exact .tu sa ht ra rv
  | lst sa f ra =>
    cases ru
    obtain ⟨its, rv, ht⟩ := lst_at I (SqL.of sa)
    exact .li sa ht ra rv
  | non => exact .fl .non rfl ru
  | bl b => exact .fl (.bl b) rfl ru
  | int b => exact .fl (.int b) rfl ru
  | str b => exact .fl (.str b) rfl ru
theorem lst_inj (I : Inv X pins σ H.h s) {a : Addr} {vs ws : List V} (h : H.h a = some (.lst vs)) (h' : H.h a = some (.lst ws)) : vs = ws := by
  rw [h] at h'
  cases h'
  rfl
theorem tup_no_lst (I : Inv X pins σ H.h s) {a : Addr} {vs ws : List V} (h : SqT X.K H.h a vs) (h' : H.h a = some (.lst ws)) : False := by
  obtain ⟨its, rv, ht⟩ := tup_at I h
  obtain ⟨its2, rv2, ht2⟩ := lst_at I (SqL.of h')
  exact PySem.SeqAt.ne_of_list_tuple ht2 ht rfl
mutual
theorem eqv_same (I : Inv X pins σ H.h s) : ∀ (d e : D) (v : V), VR X.K H d v → VR X.K H e v → pureD d = true → pureD e = true → eqvD d e = true
  | .non, e, _, r, q, _, _ => by cases r; cases q; simp [eqvD]
  | .bl _, e, _, r, q, _, _ => by cases r; cases q; simp [eqvD]
  | .int _, e, _, r, q, _, _ => by cases r; cases q; simp [eqvD]
  | .str _, e, _, r, q, _, _ => by cases r; cases q; simp [eqvD]
  | .ref _, _, _, _, _, h, _ => by simp [pureD] at h
  | .ty _, _, _, _, _, h, _ => by simp [pureD] at h
  | .dic _, _, _, _, _, h, _ => by simp [pureD] at h
  | .tup xs, e, _, r, q, h, h' => by
    obtain ⟨a, vs, rfl, sa, ra⟩ := r.tup_v
    cases q with
    | ref _ => simp [pureD] at h'
    | dic _ _ _ => simp [pureD] at h'
    | @tup ys _ ws sb rb =>
      have := I.tuple_inj sa sb
      subst this
      simp only [eqvD]
      exact eqvs_same I xs ys vs ra rb (by simpa [pureD] using h) (by simpa [pureD] using h')
    | lst sb _ _ => exact (tup_no_lst I sa sb).elim
  | .lst xs, e, _, r, q, h, h' => by
    obtain ⟨a, vs, rfl, sa, _, ra⟩ := r.lst_v
    cases q with
    | ref _ => simp [pureD] at h'
    | dic _ _ _ => simp [pureD] at h'
    | tup sb _ => exact (tup_no_lst I sb sa).elim
    | @lst ys _ ws sb _ rb =>
      have := lst_inj I sa sb
      subst this
      simp only [eqvD]
      exact eqvs_same I xs ys vs ra rb (by simpa [pureD] using h) (by simpa [pureD] using h')
theorem eqvs_same (I : Inv X pins σ H.h s) : ∀ (ds es : List D) (vs : List V), VRs X.K H ds vs → VRs X.K H es vs → pureDs ds = true → pureDs es = true → eqvDs ds es = true
  | [], es, _, r, q, _, _ => by cases r; cases q; simp [eqvDs]
  | d :: ds, es, _, r, q, h, h' => by
    cases r with
    | cons r1 r2 =>
      cases q with
      | cons q1 q2 =>
        have h1 := Bool.and_eq_true_iff.mp (show (pureD d && pureDs ds) = true by simpa [pureDs] using h)
        have h2 := Bool.and_eq_true_iff.mp (show (pureD _ && pureDs _) = true by simpa [pureDs] using h')
        simp only [eqvDs, Bool.and_eq_true]
        exact ⟨eqv_same I d _ _ r1 q1 h1.1 h2.1, eqvs_same I ds _ _ r2 q2 h1.2 h2.2⟩
end
open PySem.SeqAt in
/-- flat things and others -/
theorem flat_cont {A : Around} {v : V} {u : Value} (r : RelV v u) (f : flatV v = true) {l : Addr} {its : Array Value} (h : s.heap.IsTuple l its ∨ s.heap.IsList l its) (hu : A.units < cLine) :
    EqAt A s u (.ref l) false ∧ RcAt A s u (.ref l) false ∧ RcNeAt A s u (.ref l) true ∧ EqAt A s (.ref l) u false ∧ RcAt A s (.ref l) u false ∧ RcNeAt A s (.ref l) u true := by
  cases v with
  | non => cases r; rcases h with h | h <;> exact ⟨by first | exact EqAt.none_tuple h hu | exact EqAt.none_list h hu, by first | exact RcAt.none_tuple h hu | exact RcAt.none_list h hu, by first | exact RcNeAt.none_tuple h hu | exact RcNeAt.none_list h hu, by first | exact EqAt.tuple_none h hu | exact EqAt.list_none h hu, by first | exact RcAt.tuple_none h hu | exact RcAt.list_none h hu, by first | exact RcNeAt.tuple_none h hu | exact RcNeAt.list_none h hu⟩
  | bl b => cases r; rcases h with h | h <;> exact ⟨by first | exact EqAt.bool_tuple b h hu | exact EqAt.bool_list b h hu, by first | exact RcAt.bool_tuple b h hu | exact RcAt.bool_list b h hu, by first | exact RcNeAt.bool_tuple b h hu | exact RcNeAt.bool_list b h hu, by first | exact EqAt.tuple_bool b h hu | exact EqAt.list_bool b h hu, by first | exact RcAt.tuple_bool b h hu | exact RcAt.list_bool b h hu, by first | exact RcNeAt.tuple_bool b h hu | exact RcNeAt.list_bool b h hu⟩
  | int b => obtain ⟨k, rfl⟩ := r; rcases h with h | h <;> exact ⟨by first | exact EqAt.int_tuple b k h hu | exact EqAt.int_list b k h hu, by first | exact RcAt.int_tuple b k h hu | exact RcAt.int_list b k h hu, by first | exact RcNeAt.int_tuple b k h hu | exact RcNeAt.int_list b k h hu, by first | exact EqAt.tuple_int b k h hu | exact EqAt.list_int b k h hu, by first | exact RcAt.tuple_int b k h hu | exact RcAt.list_int b k h hu, by first | exact RcNeAt.tuple_int b k h hu | exact RcNeAt.list_int b k h hu⟩
  | str b => obtain ⟨k, rfl⟩ := r; rcases h with h | h <;> exact ⟨by first | exact EqAt.str_tuple b k h hu | exact EqAt.str_list b k h hu, by first | exact RcAt.str_tuple b k h hu | exact RcAt.str_list b k h hu, by first | exact RcNeAt.str_tuple b k h hu | exact RcNeAt.str_list b k h hu, by first | exact EqAt.tuple_str b k h hu | exact EqAt.list_str b k h hu, by first | exact RcAt.tuple_str b k h hu | exact RcAt.list_str b k h hu, by first | exact RcNeAt.tuple_str b k h hu | exact RcNeAt.list_str b k h hu⟩
  | _ => simp [flatV] at f
theorem flat_eqv {K : PySem.W.Frag} {d e : D} {v w : V} (r : VR K H d v) (r' : VR K H e w) (f : flatV v = true) (f' : flatV w = true) : eqvD d e = eqV v w := by
  cases r <;> cases r' <;> first | rfl | (simp [flatV] at f; done) | (simp [flatV] at f'; done) | (simp [eqvD, eqV]; done)
theorem flat_tup {K : PySem.W.Frag} {d : D} {v : V} {xs : List D} (r : VR K H d v) (f : flatV v = true) : eqvD d (.tup xs) = false ∧ eqvD d (.lst xs) = false ∧ eqvD (.tup xs) d = false ∧ eqvD (.lst xs) d = false := by
  cases r <;> first | (simp [flatV] at f; done) | (simp [eqvD]; done)
end
end DM

namespace DM
open PySem L2
open PyProof.Rows (b2i)
section
variable {X : Cx} {pins : List (Addr × Obj)} {σ : St} {H : HF} {s : Shared}
mutual
theorem eqAt_D (I : Inv X pins σ H.h s) : ∀ (d e : D) (v w : V) (u t : Value) (A : Around), VR X.K H d v → VR X.K H e w → RelV v u → RelV w t → pureD d = true → pureD e = true → A.units + depD d < cLine → SeqAt.EqAt A s u t (eqvD d e)
  | d, e, v, w, u, t, A, rd, re, ru, rt, h, h', hu => by
    have hu0 : A.units < cLine := by omega
    cases Cls.of I rd ru h with
    | fl r1 f1 ru1 =>
      cases Cls.of I re rt h' with
      | fl r2 f2 rt2 => rw [flat_eqv r1 r2 f1 f2]; exact eqAt_V ru1 rt2 f1 f2
      | tu sb hb rb rv2 => rw [(flat_tup r1 f1).1]; exact (flat_cont ru1 f1 (.inl hb) hu0).1
      | li sb hb rb rv2 => rw [(flat_tup r1 f1).2.1]; exact (flat_cont ru1 f1 (.inr hb) hu0).1
    | @tu xs a vs its sa ha ra rv =>
      cases Cls.of I re rt h' with
      | fl r2 f2 rt2 => rw [(flat_tup r2 f2).2.2.1]; exact (flat_cont rt2 f2 (.inl ha) hu0).2.2.2.1
      | @tu ys b ws its2 sb hb rb rv2 =>
        by_cases hab : a = b
        · subst hab
          have e1 : eqvD (.tup xs) (.tup ys) = true := eqv_same I _ _ (.ref a) rd re h h'
          rw [e1]
          exact SeqAt.EqAt.same _
        · refine SeqAt.EqAt.of_refs hab ?_
          have key := SeqAt.RcAt.tuples (e := eqAtN xs ys) ha hb hu0 fun j h1 h2 => eqAts_D I xs ys vs ws its its2 A.in1 j ra rb rv rv2 (by simpa [pureD] using h) (by simpa [pureD] using h') (by show A.units + 1 + depDs xs < cLine; simp only [depD] at hu; omega) h1 h2
          rw [List.size_toArray, List.size_toArray, ← rv.length, ← rv2.length, ← ra.length, ← rb.length, eqvDs_range] at key
          simp only [eqvD]
          exact key
      | li sb hb rb rv2 => simp only [eqvD]; exact SeqAt.EqAt.tuple_list ha hb hu0
    | @li xs a vs its sa ha ra rv =>
      cases Cls.of I re rt h' with
      | fl r2 f2 rt2 => rw [(flat_tup r2 f2).2.2.2]; exact (flat_cont rt2 f2 (.inr ha) hu0).2.2.2.1
      | tu sb hb rb rv2 => simp only [eqvD]; exact SeqAt.EqAt.list_tuple ha hb hu0
      | @li ys b ws its2 sb hb rb rv2 =>
        by_cases hab : a = b
        · subst hab
          have e1 : eqvD (.lst xs) (.lst ys) = true := eqv_same I _ _ (.ref a) rd re h h'
          rw [e1]
          exact SeqAt.EqAt.same _
        · refine SeqAt.EqAt.of_refs hab ?_
          simp only [eqvD]
          by_cases hsz : xs.length = ys.length
          · have hs : its.toArray.size = its2.toArray.size := by rw [List.size_toArray, List.size_toArray, ← rv.length, ← rv2.length, ← ra.length, ← rb.length]; exact hsz
            have key := SeqAt.RcAt.lists (e := eqAtN xs ys) ha hb hs hu0 fun j h1 h2 => eqAts_D I xs ys vs ws its its2 A.in1 j ra rb rv rv2 (by simpa [pureD] using h) (by simpa [pureD] using h') (by show A.units + 1 + depDs xs < cLine; simp only [depD] at hu; omega) h1 h2
            rw [List.size_toArray, ← rv.length, ← ra.length, eqvDs_rangeL hsz] at key
            exact key
          · have hs : (its.toArray.size != its2.toArray.size) = true := by
              rw [List.size_toArray, List.size_toArray, ← rv.length, ← rv2.length, ← ra.length, ← rb.length]
              simpa using hsz
            have e3 : eqvDs xs ys = false := by
              cases q : eqvDs xs ys with
              | false => rfl
              | true => exact absurd (eqvDs_len q) hsz
            rw [e3]
            exact SeqAt.RcAt.lists_lengths ha hb hs hu0
  termination_by d => (sizeOf d, 0)
theorem eqAts_D (I : Inv X pins σ H.h s) : ∀ (xs ys : List D) (vs ws : List V) (us ts : List Value) (A : Around) (j : Nat), VRs X.K H xs vs → VRs X.K H ys ws → Vals vs us → Vals ws ts → pureDs xs = true → pureDs ys = true → A.units + depDs xs < cLine →
    ∀ (h1 : j < us.toArray.size) (h2 : j < ts.toArray.size), SeqAt.EqAt A s us.toArray[j] ts.toArray[j] (eqAtN xs ys j)
  | [], _, _, _, _, _, _, _, rx, _, ru, _, _, _, _, h1, _ => by
    cases rx; cases ru; simp at h1
  | x :: xs, ys, _, _, _, _, A, j, rx, ry, ru, rt, px, py, hu, h1, h2 => by
    have hx : A.units + depD x < cLine := by
      have : depD x ≤ depDs (x :: xs) := by show depD x ≤ max (depD x) (depDs xs); omega
      omega
    have hxs : A.units + depDs xs < cLine := by
      have : depDs xs ≤ depDs (x :: xs) := by show depDs xs ≤ max (depD x) (depDs xs); omega
      omega
    have pp := Bool.and_eq_true_iff.mp (show (pureD x && pureDs xs) = true by simpa [pureDs] using px)
    cases rx with
    | cons rx1 rx2 =>
      cases ru with
      | cons ru1 ru2 =>
        cases ry with
        | nil => cases rt; simp at h2
        | @cons y ys w ws ry1 ry2 =>
          cases rt with
          | cons rt1 rt2 =>
            have pq := Bool.and_eq_true_iff.mp (show (pureD y && pureDs ys) = true by simpa [pureDs] using py)
            cases j with
            | zero => exact eqAt_D I x y _ _ _ _ A rx1 ry1 ru1 rt1 pp.1 pq.1 hx
            | succ j =>
              have key := eqAts_D I xs ys _ _ _ _ A j rx2 ry2 ru2 rt2 pp.2 pq.2 hxs (by simpa using h1) (by simpa using h2)
              simpa [eqAtN] using key
  termination_by xs => (sizeOf xs, 1)
end
end
end DM

namespace DM
open PySem L2
open PyProof.Rows (b2i)
open PySem.SeqAt (EqAt RcAt RcNeAt)

section
variable {X : Cx} {pins : List (Addr × Obj)} {σ : L2.St} {H : HF} {s : Shared} {M : Mm}
theorem rcAt_V {A : Around} {y x : V} {u v : Value} (ry : RelV y u) (rx : RelV x v) (fy : flatV y = true) (fx : flatV x = true) : RcAt A s u v (eqV y x) ∧ RcNeAt A s u v (!eqV y x) := by
  cases y with
  | non =>
    cases ry
    cases x with
    | non => cases rx; exact ⟨RcAt.none_none, RcNeAt.none_none⟩
    | bl b => cases rx; exact ⟨RcAt.none_bool b, RcNeAt.none_bool b⟩
    | int b => obtain ⟨t, rfl⟩ := rx; exact ⟨RcAt.none_int b t, RcNeAt.none_int b t⟩
    | str b => obtain ⟨t, rfl⟩ := rx; exact ⟨RcAt.none_str b t, RcNeAt.none_str b t⟩
    | _ => exact absurd (show false = true from fx) Bool.false_ne_true
  | bl a =>
    cases ry
    cases x with
    | non => cases rx; exact ⟨RcAt.bool_none a, RcNeAt.bool_none a⟩
    | bl b => cases rx; exact ⟨RcAt.bool_bool a b, RcNeAt.bool_bool a b⟩
    | int b => obtain ⟨t, rfl⟩ := rx; exact ⟨RcAt.bool_int a b t, RcNeAt.bool_int a b t⟩
    | str b => obtain ⟨t, rfl⟩ := rx; exact ⟨RcAt.bool_str a b t, RcNeAt.bool_str a b t⟩
    | _ => exact absurd (show false = true from fx) Bool.false_ne_true
  | int a =>
    obtain ⟨t', rfl⟩ := ry
    cases x with
    | non => cases rx; exact ⟨RcAt.int_none a t', RcNeAt.int_none a t'⟩
    | bl b => cases rx; exact ⟨RcAt.int_bool a t' b, RcNeAt.int_bool a t' b⟩
    | int b => obtain ⟨t, rfl⟩ := rx; exact ⟨RcAt.int_int a t' b t, RcNeAt.int_int a t' b t⟩
    | str b => obtain ⟨t, rfl⟩ := rx; exact ⟨RcAt.int_str a t' b t, RcNeAt.int_str a t' b t⟩
    | _ => exact absurd (show false = true from fx) Bool.false_ne_true
  | str a =>
    obtain ⟨t', rfl⟩ := ry
    cases x with
    | non => cases rx; exact ⟨RcAt.str_none a t', RcNeAt.str_none a t'⟩
    | bl b => cases rx; exact ⟨RcAt.str_bool a t' b, RcNeAt.str_bool a t' b⟩
    | int b => obtain ⟨t, rfl⟩ := rx; exact ⟨RcAt.str_int a t' b t, RcNeAt.str_int a t' b t⟩
    | str b => obtain ⟨t, rfl⟩ := rx; exact ⟨RcAt.str_str a t' b t, RcNeAt.str_str a t' b t⟩
    | _ => exact absurd (show false = true from fx) Bool.false_ne_true
  | _ => exact absurd (show false = true from fy) Bool.false_ne_true

/-- a list in the store as it is read -/
def resD (M : Mm) : D → D
  | .ref a => (match lstOf M a with | some xs => .lst xs | none => .ref a)
  | d => d
def eqM (M : Mm) (d e : D) : Bool := eqvD (resD M d) (resD M e)
def okD (M : Mm) (d : D) : Prop := pureD (resD M d) = true ∧ depD (resD M d) ≤ 100
theorem Cls.res {M : Mm} (I : Inv X pins σ H.h s) (m : MR X.K M H) {d : D} {v : V} {u : Value} (r : VR X.K H d v) (ru : RelV v u) (p : pureD (resD M d) = true) : Cls X H s (resD M d) v u := by
  cases d with
  | ref a =>
    cases r.ref_v
    cases ru
    cases e : lstOf M a with
    | none => simp [resD, e, pureD] at p
    | some xs =>
      obtain ⟨vs, h1, r1⟩ := m.ob a _ (of_lstOf e)
      obtain ⟨its, rv, ht⟩ := lst_at I (SqL.of h1)
      rw [show resD M (.ref a) = .lst xs by simp [resD, e]]
      exact .li h1 ht r1 rv
  | _ => exact Cls.of I r ru p
open PySem.SeqAt in
theorem rc_D {M : Mm} (I : Inv X pins σ H.h s) (m : MR X.K M H) {d e : D} {v w : V} {u t : Value} (rd : VR X.K H d v) (re : VR X.K H e w) (ru : RelV v u) (rt : RelV w t) (h : okD M d) (h' : okD M e) (hu : X.A.units + 150 < cLine) :
    RcAt X.A s u t (eqM M d e) ∧ RcNeAt X.A s u t (!eqM M d e) := by
  have hu0 : X.A.units < cLine := by omega
  obtain ⟨p1, p2⟩ := h
  obtain ⟨q1, q2⟩ := h'
  have c1 := Cls.res I m rd ru p1
  have c2 := Cls.res I m re rt q1
  unfold eqM
  generalize resD M d = d' at *
  generalize resD M e = e' at *
  cases c1 with
  | fl r1 f1 ru1 =>
    cases c2 with
    | fl r2 f2 rt2 => rw [flat_eqv r1 r2 f1 f2]; exact rcAt_V ru1 rt2 f1 f2
    | tu sb hb rb rv2 => rw [(flat_tup r1 f1).1]; have z := flat_cont ru1 f1 (.inl hb) hu0; exact ⟨z.2.1, z.2.2.1⟩
    | li sb hb rb rv2 => rw [(flat_tup r1 f1).2.1]; have z := flat_cont ru1 f1 (.inr hb) hu0; exact ⟨z.2.1, z.2.2.1⟩
  | @tu xs a vs its sa ha ra rv =>
    cases c2 with
    | fl r2 f2 rt2 => rw [(flat_tup r2 f2).2.2.1]; have z := flat_cont rt2 f2 (.inl ha) hu0; exact ⟨z.2.2.2.2.1, z.2.2.2.2.2⟩
    | @tu ys b ws its2 sb hb rb rv2 =>
      have hx : X.A.in1.units + depDs xs < cLine := by show X.A.units + 1 + depDs xs < cLine; simp only [depD] at p2; omega
      have k1 := RcAt.tuples (e := eqAtN xs ys) ha hb hu0 fun j h1 h2 => eqAts_D I xs ys vs ws its its2 X.A.in1 j ra rb rv rv2 (by simpa [pureD] using p1) (by simpa [pureD] using q1) hx h1 h2
      have k2 := RcNeAt.tuples (e := eqAtN xs ys) ha hb hu0 fun j h1 h2 => eqAts_D I xs ys vs ws its its2 X.A.in1 j ra rb rv rv2 (by simpa [pureD] using p1) (by simpa [pureD] using q1) hx h1 h2
      rw [List.size_toArray, List.size_toArray, ← rv.length, ← rv2.length, ← ra.length, ← rb.length, eqvDs_range] at k1 k2
      simp only [eqvD]
      exact ⟨k1, k2⟩
    | li sb hb rb rv2 => simp only [eqvD]; exact ⟨RcAt.tuple_list ha hb hu0, RcNeAt.tuple_list ha hb hu0⟩
  | @li xs a vs its sa ha ra rv =>
    cases c2 with
    | fl r2 f2 rt2 => rw [(flat_tup r2 f2).2.2.2]; have z := flat_cont rt2 f2 (.inr ha) hu0; exact ⟨z.2.2.2.2.1, z.2.2.2.2.2⟩
    | tu sb hb rb rv2 => simp only [eqvD]; exact ⟨RcAt.list_tuple ha hb hu0, RcNeAt.list_tuple ha hb hu0⟩
    | @li ys b ws its2 sb hb rb rv2 =>
      simp only [eqvD]
      have hx : X.A.in1.units + depDs xs < cLine := by show X.A.units + 1 + depDs xs < cLine; simp only [depD] at p2; omega
      by_cases hsz : xs.length = ys.length
      · have hs : its.toArray.size = its2.toArray.size := by rw [List.size_toArray, List.size_toArray, ← rv.length, ← rv2.length, ← ra.length, ← rb.length]; exact hsz
        have k1 := RcAt.lists (e := eqAtN xs ys) ha hb hs hu0 fun j h1 h2 => eqAts_D I xs ys vs ws its its2 X.A.in1 j ra rb rv rv2 (by simpa [pureD] using p1) (by simpa [pureD] using q1) hx h1 h2
        have k2 := RcNeAt.lists (e := eqAtN xs ys) ha hb hs hu0 fun j h1 h2 => eqAts_D I xs ys vs ws its its2 X.A.in1 j ra rb rv rv2 (by simpa [pureD] using p1) (by simpa [pureD] using q1) hx h1 h2
        rw [List.size_toArray, ← rv.length, ← ra.length, eqvDs_rangeL hsz] at k1 k2
        exact ⟨k1, k2⟩
      · have hs : (its.toArray.size != its2.toArray.size) = true := by
          rw [List.size_toArray, List.size_toArray, ← rv.length, ← rv2.length, ← ra.length, ← rb.length]
          simpa using hsz
        have e3 : eqvDs xs ys = false := by
          cases q : eqvDs xs ys with
          | false => rfl
          | true => exact absurd (eqvDs_len q) hsz
        rw [e3]
        exact ⟨RcAt.lists_lengths ha hb hs hu0, RcNeAt.lists_lengths ha hb hs hu0⟩
end

/-! ### rules straight over the machine: an operation on two values -/
/-- by the values' descriptions -/
def OpD (X : Cx) (f : Value → Value → Sem Value) (dr : DR2) : Prop :=
  ∀ (pins : List (Addr × Obj)) (s : Shared) (σ : L2.St) (H : HF) (M : Mm) (d e : D) (x y : V) (v u : Value) (Q : DQ) (Q0 : VK), Inv X pins σ H.h s → MR X.K M H → VR X.K H d x → VR X.K H e y → RelV x v → RelV y u → dr d e M Q →
    (∀ v H' d M', VR X.K H' d v → MR X.K M' H' → GG M H M' H' → Q d M' → Q0 v H'.h) → wpAny (model X.prog X.w) X.A (f v u) (EP X pins σ Q0) X.xe s
/-- as a rule of the layer beneath: what is wanted there -/
def rOf (K : PySem.W.Frag) (dr : DR2) : R2 := fun x y H0 Q0 => ∃ (H : HF) (d e : D) (M : Mm) (Q : DQ), H0 = H.h ∧ MR K M H ∧ VR K H d x ∧ VR K H e y ∧ dr d e M Q ∧ ∀ v H' d M', VR K H' d v → MR K M' H' → GG M H M' H' → Q d M' → Q0 v H'.h
theorem OpD.opR {X : Cx} {f : Value → Value → Sem Value} {dr : DR2} (h : OpD X f dr) : OpR X f (rOf X.K dr) := by
  intro pins s σ H x y v u Q0 I rx ry q
  obtain ⟨H, d, e, M, Q, rfl, m, rd, re, hq, k⟩ := q
  exact h pins s σ H M d e x y v u Q Q0 I m rd re rx ry hq k
theorem lift_of {K : PySem.W.Frag} {dr : DR2} : Lift2 K (rOf K dr) dr := by
  intro x y dx dy H M Q Q0 rx ry m h k
  exact ⟨H, dx, dy, M, Q, rfl, m, rx, ry, h, k⟩

def eqR : DR2 := fun d e M Q => (okD M d ∧ okD M e) ∧ Q (.bl (eqM M d e)) M
def neR : DR2 := fun d e M Q => (okD M d ∧ okD M e) ∧ Q (.bl (!eqM M d e)) M
theorem op_eqT {X : Cx} (hu : X.A.units + 150 < cLine) : OpD X (compareOp .Eq) eqR := by
  intro pins s σ H M d e x y v u Q Q0 I m rd re rx ry hq k
  exact (rc_D I m rd re rx ry hq.1.1 hq.1.2 hu).1 X.prog X.w _ _ ⟨.bl _, H.h, I, rfl, k _ H _ M (.bl _) m GG.refl hq.2⟩
theorem op_neT {X : Cx} (hu : X.A.units + 150 < cLine) : OpD X (compareOp .NotEq) neR := by
  intro pins s σ H M d e x y v u Q Q0 I m rd re rx ry hq k
  exact (rc_D I m rd re rx ry hq.1.1 hq.1.2 hu).2 X.prog X.w _ _ ⟨.bl _, H.h, I, rfl, k _ H _ M (.bl _) m GG.refl hq.2⟩
theorem hu150 {A : Around} {k : Nat} (hr : Room k A) : A.units + 150 < cLine := by have := hr.un; omega
section
variable {X : Cx} {a b : Expr} {ta tb : TDE} {pos : Pos} {k : Nat}
theorem je_eq (hr : Room k X.A) (ha : JE X a ta) (hb : JE X b tb) : JE X (.Compare a [.Eq] [b] pos) (dOp eqR ta tb) := je_cmpR (op_eqT (hu150 hr)).opR lift_of ha hb (nomark _)
theorem je_ne (hr : Room k X.A) (ha : JE X a ta) (hb : JE X b tb) : JE X (.Compare a [.NotEq] [b] pos) (dOp neR ta tb) := je_cmpR (op_neT (hu150 hr)).opR lift_of ha hb (nomark _)
theorem jt_eq (hr : Room k X.A) (ha : JE X a ta) (hb : JE X b tb) : JT X (.Compare a [.Eq] [b] pos) (dTest (dOp eqR ta tb)) := jt_cmpR (op_eqT (hu150 hr)).opR lift_of ha hb (nomark _)
theorem jt_ne (hr : Room k X.A) (ha : JE X a ta) (hb : JE X b tb) : JT X (.Compare a [.NotEq] [b] pos) (dTest (dOp neR ta tb)) := jt_cmpR (op_neT (hu150 hr)).opR lift_of ha hb (nomark _)
/-- order of ints -/
abbrev ltR : DR2 := int0R fun i j => .bl (decide (i < j))
abbrev leR : DR2 := int0R fun i j => .bl (decide (i ≤ j))
abbrev gtR : DR2 := int0R fun i j => .bl (decide (j < i))
abbrev geR : DR2 := int0R fun i j => .bl (decide (j ≤ i))
theorem je_lt (ha : JE X a ta) (hb : JE X b tb) : JE X (.Compare a [.Lt] [b] pos) (dOp ltR ta tb) := je_cmpR op_lt (lift_int0 fun _ _ _ => .bl _) ha hb (nomark _)
theorem je_le (ha : JE X a ta) (hb : JE X b tb) : JE X (.Compare a [.LtE] [b] pos) (dOp leR ta tb) := je_cmpR op_le (lift_int0 fun _ _ _ => .bl _) ha hb (nomark _)
theorem je_gt (ha : JE X a ta) (hb : JE X b tb) : JE X (.Compare a [.Gt] [b] pos) (dOp gtR ta tb) := je_cmpR op_gt (lift_int0 fun _ _ _ => .bl _) ha hb (nomark _)
theorem je_ge (ha : JE X a ta) (hb : JE X b tb) : JE X (.Compare a [.GtE] [b] pos) (dOp geR ta tb) := je_cmpR op_ge (lift_int0 fun _ _ _ => .bl _) ha hb (nomark _)
theorem jt_lt (ha : JE X a ta) (hb : JE X b tb) : JT X (.Compare a [.Lt] [b] pos) (dTest (dOp ltR ta tb)) := jt_cmpR op_lt (lift_int0 fun _ _ _ => .bl _) ha hb (nomark _)
theorem jt_le (ha : JE X a ta) (hb : JE X b tb) : JT X (.Compare a [.LtE] [b] pos) (dTest (dOp leR ta tb)) := jt_cmpR op_le (lift_int0 fun _ _ _ => .bl _) ha hb (nomark _)
theorem jt_gt (ha : JE X a ta) (hb : JE X b tb) : JT X (.Compare a [.Gt] [b] pos) (dTest (dOp gtR ta tb)) := jt_cmpR op_gt (lift_int0 fun _ _ _ => .bl _) ha hb (nomark _)
theorem jt_ge (ha : JE X a ta) (hb : JE X b tb) : JT X (.Compare a [.GtE] [b] pos) (dTest (dOp geR ta tb)) := jt_cmpR op_ge (lift_int0 fun _ _ _ => .bl _) ha hb (nomark _)
end
end DM

namespace DM
open PySem L2
open PyProof.Rows (b2i)

/-! ### a < b < c -/
def dChain (r r' : DR2) (ta tb tc : TDE) : TDE := fun ds M Q => ta ds M fun x M1 => tb ds M1 fun y M2 => r x y M2 fun z M3 => isB z fun k => if k = true then tc ds M3 fun w M4 => r' y w M4 Q else Q (.bl false) M3
section
variable {X : Cx} {a b c : Expr} {ta tb tc : TDE} {pos : Pos}
theorem chain_go {r r' : R2} {dr dr' : DR2} {ua ub uc : TE} (hl : Lift2 X.K r dr) (hl' : Lift2 X.K r' dr')
    (ga : ∀ (ds : DSt) (σ : L2.St) (H : HF) (M : Mm) (Q : DQ) (Q0 : VK), SR X.K H ds σ → MR X.K M H → ta ds M Q → (∀ v H' d M', VR X.K H' d v → MR X.K M' H' → GG M H M' H' → Q d M' → Q0 v H'.h) → ua σ H.h Q0)
    (gb : ∀ (ds : DSt) (σ : L2.St) (H : HF) (M : Mm) (Q : DQ) (Q0 : VK), SR X.K H ds σ → MR X.K M H → tb ds M Q → (∀ v H' d M', VR X.K H' d v → MR X.K M' H' → GG M H M' H' → Q d M' → Q0 v H'.h) → ub σ H.h Q0)
    (gc : ∀ (ds : DSt) (σ : L2.St) (H : HF) (M : Mm) (Q : DQ) (Q0 : VK), SR X.K H ds σ → MR X.K M H → tc ds M Q → (∀ v H' d M', VR X.K H' d v → MR X.K M' H' → GG M H M' H' → Q d M' → Q0 v H'.h) → uc σ H.h Q0)
    (ds : DSt) (σ : L2.St) (H : HF) (M : Mm) (Q : DQ) (Q0 : VK) (s : SR X.K H ds σ) (m : MR X.K M H) (q : dChain dr dr' ta tb tc ds M Q)
    (k : ∀ v H' d M', VR X.K H' d v → MR X.K M' H' → GG M H M' H' → Q d M' → Q0 v H'.h) : tChain r r' ua ub uc σ H.h Q0 := by
  refine ga ds σ H M _ _ s m q fun v H1 d M1 r1 m1 g1 q1 => ?_
  refine gb ds σ H1 M1 _ _ (s.gg m g1) m1 q1 fun u H2 e M2 r2 m2 g2 q2 => ?_
  refine hl v u d e H2 M2 _ _ (VR.mono (g2.tx m1) _ _ r1) r2 m2 q2 fun z H3 f M3 r3 m3 g3 q3 => ?_
  obtain ⟨j, e3, q3⟩ := isB_out r3 q3
  refine ⟨j, e3, ?_⟩
  cases j with
  | false => exact k _ H3 _ M3 (.bl false) m3 ((g1.trans g2).trans g3) q3
  | true =>
    refine gc ds σ H3 M3 _ _ (s.gg m ((g1.trans g2).trans g3)) m3 q3 fun w H4 f4 M4 r4 m4 g4 q4 => ?_
    exact hl' u w e f4 H4 M4 Q Q0 (VR.mono ((g3.trans g4).tx m2) _ _ r2) r4 m4 q4 fun w5 H5 f5 M5 r5 m5 g5 q5 => k w5 H5 f5 M5 r5 m5 ((((g1.trans g2).trans g3).trans g4).trans g5) q5
theorem je_chain {op op' : CmpOp} {r r' : R2} {dr dr' : DR2} (ho : OpR X (compareOp op) r) (ho' : OpR X (compareOp op') r') (hl : Lift2 X.K r dr) (hl' : Lift2 X.K r' dr') (ha : JE X a ta) (hb : JE X b tb) (hc : JE X c tc)
    (hm : lastMarks [op, op'] [b, c] = false := by with_unfolding_all rfl) : JE X (.Compare a [op, op'] [b, c] pos) (dChain dr dr' ta tb tc) := by
  obtain ⟨ua, pa, ga⟩ := ha
  obtain ⟨ub, pb, gb⟩ := hb
  obtain ⟨uc, pc, gc⟩ := hc
  exact je_pe (pe_chain ho ho' pa pb pc hm) (chain_go hl hl' ga gb gc)
theorem jt_chain {op op' : CmpOp} {r r' : R2} {dr dr' : DR2} (ho : OpR X (compareOp op) r) (ho' : OpR X (compareOp op') r') (hl : Lift2 X.K r dr) (hl' : Lift2 X.K r' dr') (ha : JE X a ta) (hb : JE X b tb) (hc : JE X c tc)
    (hm : lastMarks [op, op'] [b, c] = false := by with_unfolding_all rfl) : JT X (.Compare a [op, op'] [b, c] pos) (dTest (dChain dr dr' ta tb tc)) := by
  obtain ⟨ua, pa, ga⟩ := ha
  obtain ⟨ub, pb, gb⟩ := hb
  obtain ⟨uc, pc, gc⟩ := hc
  refine ⟨_, pt_chain ho ho' pa pb pc hm, fun ds σ H M Q Q0 s m q k => ?_⟩
  refine chain_go hl hl' ga gb gc ds σ H M _ _ s m q fun v H' d M' r m' gg q' => ?_
  obtain ⟨b, e, q⟩ := isB_out r q'
  exact ⟨b, e, k b H' M' m' gg q⟩
/-- the two orders of ints that stand in chains -/
theorem l_le {K : PySem.W.Frag} : Lift2 K (rI0 fun i j => .bl (decide (i ≤ j))) leR := lift_int0 fun _ _ _ => .bl _
theorem l_lt {K : PySem.W.Frag} : Lift2 K (rI0 fun i j => .bl (decide (i < j))) ltR := lift_int0 fun _ _ _ => .bl _
end

/-! ### subscripts -/
def ixR : DR2 := fun x y M Q => match x, y with
  | .tup xs, .int i => (match atI xs i with | some d => Q d M | none => False)
  | .str z, .int i => z.length ≤ sizeLine ∧ (match atI z.cps.toList i with | some c => Q (.str ⟨#[c]⟩) M | none => False)
  | .ref a, .int i => (match lstOf M a with | some xs => (match atI xs i with | some d => Q d M | none => False) | none => False)
  | .lst xs, .int i => (match atI xs i with | some d => Q d M | none => False)
  | _, _ => False
/-- a new list, frozen -/
theorem frz_new {K : PySem.W.Frag} {H : HF} {M : Mm} {p : Addr} {xs : List D} {vs : List V} (m : MR K M H) (hp : H.h p = none) (r : VRs K H xs vs) :
    VR K ((H.up p (.lst vs)).fz p) (.lst xs) (.ref p) ∧ MR K M ((H.up p (.lst vs)).fz p) ∧ GG M H M ((H.up p (.lst vs)).fz p) :=
  ⟨.lst upd_same (.inr rfl) (VRs.mono ((TX.new m hp).trans TX.fzz) _ _ r), (m.newT hp).fzz upd_same (m.free hp), (GG.newT hp).fzz hp⟩
theorem VRs.atI {K : PySem.W.Frag} {H : HF} {ds : List D} {vs : List V} (r : VRs K H ds vs) {i : Int} {d : D} (h : L2.atI ds i = some d) : ∃ v, L2.atI vs i = some v ∧ VR K H d v := by
  unfold L2.atI at h ⊢
  rw [r.length] at h
  cases e : ixN vs.length i with
  | none => rw [e] at h; cases h
  | some j =>
    rw [e] at h
    exact r.get h
theorem lift_ix {K : PySem.W.Frag} : Lift2 K (rIx K) ixR := by
  intro x y dx dy H M Q Q0 rx ry m h k
  cases dy with
  | int i =>
    cases ry.int_v
    cases dx with
    | tup xs =>
      obtain ⟨a, vs, rfl, sa, ra⟩ := rx.tup_v
      unfold ixR at h
      simp only at h
      split at h
      · rename_i d e
        obtain ⟨v, e', r'⟩ := ra.atI e
        exact .inr (.inl ⟨a, vs, i, v, rfl, rfl, sa, e', k v H d M r' m GG.refl h⟩)
      · exact h.elim
    | str z =>
      cases rx.str_v
      unfold ixR at h
      simp only at h
      obtain ⟨hz, h⟩ := h
      split at h
      · rename_i c e
        exact .inr (.inr ⟨z, i, c, rfl, rfl, hz, e, k _ H _ M (.str _) m GG.refl h⟩)
      · exact h.elim
    | ref a =>
      cases rx.ref_v
      unfold ixR at h
      simp only at h
      split at h
      · rename_i xs e
        split at h
        · rename_i d e'
          obtain ⟨vs, h1, r1⟩ := m.ob a _ (of_lstOf e)
          obtain ⟨v, e2, r2⟩ := r1.atI e'
          exact .inl ⟨a, vs, i, v, rfl, rfl, SqL.of h1, e2, k v H d M r2 m GG.refl h⟩
        · exact h.elim
      · exact h.elim
    | lst xs =>
      obtain ⟨a, vs, rfl, sa, _, ra⟩ := rx.lst_v
      unfold ixR at h
      simp only at h
      split at h
      · rename_i d e
        obtain ⟨v, e', r'⟩ := ra.atI e
        exact .inl ⟨a, vs, i, v, rfl, rfl, SqL.of sa, e', k v H d M r' m GG.refl h⟩
      · exact h.elim
    | _ => exact h.elim
  | _ => cases dx <;> exact h.elim
section
variable {X : Cx} {a b : Expr} {ta tb : TDE} {pos : Pos}
theorem je_ix (ha : JE X a ta) (hb : JE X b tb) (hs : PlainIx b := by exact fun _ _ => rfl) : JE X (.Subscript a b pos) (dOp ixR ta tb) := by
  obtain ⟨u, p, g⟩ := ha
  obtain ⟨u', p', g'⟩ := hb
  exact je_pe (pe_ix ix_seq p p' hs) (op2 lift_ix g g')
end

/-! ### slices -/
abbrev TDO := DSt → Mm → (Option Int → Mm → Prop) → Prop
structure JO (X : Cx) (e : Option Expr) (t : TDO) : Prop where
  go : ∃ t0, PO X e t0 ∧ ∀ (ds : DSt) (σ : L2.St) (H : HF) (M : Mm) (Q : Option Int → Mm → Prop) (Q0 : Option Int → Hp → Prop), SR X.K H ds σ → MR X.K M H → t ds M Q →
    (∀ o H' M', MR X.K M' H' → GG M H M' H' → Q o M' → Q0 o H'.h) → t0 σ H.h Q0
def dNoPart : TDO := fun _ M Q => Q none M
def isI (d : D) (Q : Int → Prop) : Prop := match d with | .int i => Q i | _ => False
theorem isI_out {K : PySem.W.Frag} {H : HF} {d : D} {v : V} {Q : Int → Prop} (r : VR K H d v) (q : isI d Q) : ∃ k, v = .int k ∧ Q k := by
  cases r with
  | int b => exact ⟨b, rfl, q⟩
  | _ => exact q.elim
def dPart (t : TDE) : TDO := fun ds M Q => t ds M fun x M1 => isI x fun i => Q (some i) M1
section
variable {X : Cx} {e : Expr} {te : TDE}
theorem jo_none : JO X none dNoPart := ⟨_, po_none, fun _ _ H M _ _ _ m q k => k none H M m GG.refl q⟩
theorem jo_some (h : JE X e te) : JO X (some e) (dPart te) := by
  obtain ⟨u, p, g⟩ := h
  refine ⟨_, po_some p, fun ds σ H M Q Q0 s m q k => ?_⟩
  refine g ds σ H M _ _ s m q fun v H' d M' r m' gg q' => ?_
  obtain ⟨b, e, q⟩ := isI_out r q'
  exact ⟨b, e, k _ H' M' m' gg q⟩
end
def cutL {α : Type} (xs : List α) (lo hi : Option Int) : List α := (xs.drop (HT.sIx xs.length 0 lo)).take (HT.sIx xs.length xs.length hi - HT.sIx xs.length 0 lo)
theorem VRs.cut {K : PySem.W.Frag} {H : HF} {ds : List D} {vs : List V} (r : VRs K H ds vs) (lo hi : Option Int) : VRs K H (cutL ds lo hi) (cutV vs lo hi) := by
  unfold cutL cutV
  rw [r.length]
  exact (r.drop _).take _
theorem cutL_whole {α : Type} {xs : List α} {lo hi : Option Int} (h : HT.sIx xs.length 0 lo = 0 ∧ HT.sIx xs.length xs.length hi = xs.length) : cutL xs lo hi = xs := by
  unfold cutL
  rw [h.1, h.2]
  simp
def slR (x : D) (lo hi : Option Int) (M : Mm) (Q : DQ) : Prop := match x with
  | .tup xs => Q (.tup (cutL xs lo hi)) M
  | .str z => z.length ≤ sizeLine ∧ Q (.str (cutS z lo hi)) M
  | x => (match rdL M x with | some xs => Q (.lst (cutL xs lo hi)) M | none => False)
def dSl (te : TDE) (tl th : TDO) : TDE := fun ds M Q => te ds M fun x M1 => tl ds M1 fun l M2 => th ds M2 fun u M3 => slR x l u M3 Q
section
variable {X : Cx} {e : Expr} {te : TDE} {tl th : TDO} {lo hi : Option Expr} {pos p2 : Pos}
def slT (K : PySem.W.Frag) : V → Option Int → Option Int → Hp → VK → Prop := fun x lo hi H Q => rSlA K x lo hi H Q ∨ rSlS x lo hi H Q ∨ rSlL K x lo hi H Q
theorem sl_all : SlR X (slT X.K) := sl_tupA.or (sl_str.or sl_list)
theorem lift_sl {K : PySem.W.Frag} (x : V) (dx : D) (lo hi : Option Int) (H : HF) (M : Mm) (Q : DQ) (Q0 : VK) (rx : VR K H dx x) (m : MR K M H) (h : slR dx lo hi M Q)
    (k : ∀ v H' d M', VR K H' d v → MR K M' H' → GG M H M' H' → Q d M' → Q0 v H'.h) : slT K x lo hi H.h Q0 := by
  cases dx with
  | tup xs =>
    obtain ⟨a, vs, rfl, sa, ra⟩ := rx.tup_v
    have q : Q (.tup (cutL xs lo hi)) M := h
    refine .inl ⟨a, vs, rfl, sa, fun hw => ?_, fun hw p hp => ?_⟩
    · rw [← ra.length] at hw
      rw [cutL_whole hw] at q
      exact k _ H _ M rx m GG.refl q
    · exact k _ (H.up p _) _ M (.tup (SqT.of upd_same) (VRs.mono (TX.new m hp) _ _ (ra.cut lo hi))) (m.newT hp) (GG.newT hp) q
  | str z =>
    cases rx.str_v
    exact .inr (.inl ⟨z, rfl, h.1, k _ H _ M (.str _) m GG.refl h.2⟩)
  | ref a =>
    cases e : lstOf M a with
    | none => simp [slR, e] at h
    | some xs =>
      have q : Q (.lst (cutL xs lo hi)) M := by simpa [slR, e] using h
      obtain ⟨a, vs, rfl, h1, r1⟩ := rdL_v m rx (show rdL M (.ref a) = some xs from e)
      refine .inr (.inr ⟨a, vs, rfl, SqL.of h1, fun p hp => ?_⟩)
      obtain ⟨z1, z2, z3⟩ := frz_new m hp (r1.cut lo hi)
      exact k _ _ _ _ z1 z2 z3 q
  | lst xs =>
    have q : Q (.lst (cutL xs lo hi)) M := h
    obtain ⟨a, vs, rfl, h1, r1⟩ := rdL_v m rx (show rdL M (.lst xs) = some xs from rfl)
    refine .inr (.inr ⟨a, vs, rfl, SqL.of h1, fun p hp => ?_⟩)
    obtain ⟨z1, z2, z3⟩ := frz_new m hp (r1.cut lo hi)
    exact k _ _ _ _ z1 z2 z3 q
  | _ => exact h.elim
theorem je_slice (he : JE X e te) (hl : JO X lo tl) (hu : JO X hi th) : JE X (.Subscript e (.Slice lo hi none p2) pos) (dSl te tl th) := by
  obtain ⟨u, p, g⟩ := he
  obtain ⟨u1, p1, g1⟩ := hl
  obtain ⟨u2, p2, g2⟩ := hu
  refine je_pe (pe_slice sl_all p p1 p2) fun ds σ H M Q Q0 s m q k => ?_
  refine g ds σ H M _ _ s m q fun v H1 d M1 r1 m1 gg1 q1 => ?_
  refine g1 ds σ H1 M1 _ _ (s.gg m gg1) m1 q1 fun l H2 M2 m2 gg2 q2 => ?_
  refine g2 ds σ H2 M2 _ _ (s.gg m (gg1.trans gg2)) m2 q2 fun u H3 M3 m3 gg3 q3 => ?_
  exact lift_sl v d l u H3 M3 Q Q0 (VR.mono ((gg2.trans gg3).tx m1) _ _ r1) m3 q3 fun w H4 f M4 r4 m4 gg4 q4 => k w H4 f M4 r4 m4 (((gg1.trans gg2).trans gg3).trans gg4) q4
end

/-! ### t[::-1] -/
section
open PySem.Builtin.Slice
variable {prog : Program} {w : World} {A : Around} {E : Value → Shared → Prop} {s : Shared}
theorem slice_back {sl : Addr} {vl vu vs : Value} {n : Nat} {Q : Int × Int × Nat → Shared → Prop} (hs : s.heap.IsSliceOf sl vl vu vs) (pl : IsPart vl none) (pu : IsPart vu none) (ps : IsPart vs (some (-1)))
    (h : Q ((n : Int) - 1, -1, n) s) : wpAny (model prog w) A (sliceApplied (.ref sl) (pure (n : Int))) Q E s := by
  obtain ⟨os, hos, hcs, hds⟩ := id hs
  unfold sliceApplied sliceFields
  refine wpAny_bind (wpAny_bind (wpAny_field hos hds (x := vl) rfl (wpAny_bind (wpAny_field hos hds (x := vu) rfl (wpAny_bind (wpAny_field hos hds (x := vs) rfl (wpAny_pure ?_)))))))
  refine wpAny_bind (HT.slicePart_ ps ?_)
  show wpAny _ _ (if ((-1 : Int) == 0) = true then _ else _) _ _ s
  rw [if_neg (by decide)]
  refine wpAny_bind (HT.slicePart_ pl (wpAny_bind (HT.slicePart_ pu (wpAny_bind (wpAny_pure ?_)))))
  have e1 : sliceAdjust none none (-1) (n : Int) = ((n : Int) - 1, -1) := by
    unfold sliceAdjust
    simp
  show wpAny _ _ (match sliceAdjust none none (-1) (n : Int) with | (lo, hi) => pure (lo, (-1 : Int), slicePlaces lo hi (-1))) _ _ s
  rw [e1]
  have e2 : slicePlaces ((n : Int) - 1) (-1) (-1) = n := by
    unfold slicePlaces
    have h1 : ¬ ((-1 : Int) > 0) := by decide
    simp only [h1, if_false]
    by_cases h0 : (n : Int) - 1 > -1
    · simp only [h0, if_true]
      rw [show (-(-1) : Int) = 1 by decide, Int.ediv_one]
      omega
    · simp only [h0, if_false]
      omega
  show wpAny _ _ (pure ((n : Int) - 1, (-1 : Int), slicePlaces ((n : Int) - 1) (-1) (-1))) _ _ s
  rw [e2]
  exact wpAny_pure h
theorem fm_congr {α β : Type} (f g : α → Option β) : ∀ (l : List α), (∀ a ∈ l, f a = g a) → l.filterMap f = l.filterMap g
  | [], _ => rfl
  | a :: l, h => by
    rw [List.filterMap_cons, List.filterMap_cons, h a List.mem_cons_self, fm_congr f g l fun b hb => h b (List.mem_cons_of_mem _ hb)]
theorem pick_back (xs : Array Value) : ((List.range xs.size).filterMap fun (m : Nat) => xs[((xs.size : Int) - 1 + (m : Int) * -1).toNat]?).toArray = xs.toList.reverse.toArray := by
  have h := PySem.W.krv_all xs
  have e : (List.range xs.size).filterMap (fun (m : Nat) => xs[((xs.size : Int) - 1 + (m : Int) * -1).toNat]?) = ((List.range xs.size).map fun k => xs.size - 1 - k).filterMap (xs[·]?) := by
    rw [List.filterMap_map]
    refine fm_congr _ _ _ fun m hm => ?_
    show xs[_]? = xs[xs.size - 1 - m]?
    have := List.mem_range.mp hm
    rw [show ((xs.size : Int) - 1 + (m : Int) * -1).toNat = xs.size - 1 - m by omega]
  rw [e, PySem.W.krv_range, List.filterMap_reverse, h]
open PyProof.Rows in
theorem getItem_tuple_back {t sl : Addr} {items : Array Value} {vl vu vs : Value} {Q : Value → Shared → Prop} (ht : IsTup s.heap t items) (hs : s.heap.IsSliceOf sl vl vu vs) (pl : IsPart vl none) (pu : IsPart vu none) (ps : IsPart vs (some (-1)))
    (h : Q (.ref s.heap.objs.size) { s with heap := s.heap.push { cls := .type "tuple", data := .seq items.toList.reverse.toArray } })
    (hsz : items.size ≤ sizeLine) : wpAny (model prog w) A (getItem (.ref t) (.ref sl)) Q E s := by
  have htake : sizeOk (.seq items.toList.reverse.toArray) := by
    show items.toList.reverse.toArray.size ≤ sizeLine
    rw [List.size_toArray, List.length_reverse, Array.length_toList]
    exact hsz
  obtain ⟨os, hos, hcs, hds⟩ := id hs
  have hTs : s.TypeIs (.ref sl) "slice" := ⟨os, hos, hcs⟩
  unfold getItem
  try with_reducible refine wpAny_holding ?_
  first | refine wpAny_bind (wpAny_pure ?_) | skip
  refine wpAny_bind (wpAny_sequenceKey ht.typeIs (by decide) ?_)
  refine wpAny_bind (wpAny_callSpecial?_slot (name := Str.ofString "__getitem__") ht.typeIs PyProof.Rows.slot_tuple_getitem
    (wpAny_call_entry PyProof.Rows.slot_tuple_getitem ht.typeIs entry_tuple_getitem ?_ (args_tuple_getitem _ _)))
  show wpAny _ _ (Builtin.Tuple.tupleItemsOf (.ref t) >>= _) _ _ s
  refine wpAny_bind (tupleItemsOf_ ht ?_)
  refine wpAny_bind (wpAny_typeOf hTs ?_)
  rw [if_pos (by decide)]
  refine wpAny_bind (slice_back hs pl pu ps ?_)
  have hno : ¬ ((((items.size : Int) - 1) == 0 && (-1 : Int) == 1 && items.size == items.size) = true) := by
    intro q
    rw [Bool.and_eq_true, Bool.and_eq_true] at q
    exact absurd q.1.2 (by decide)
  show wpAny _ _ (if (((items.size : Int) - 1) == 0 && (-1 : Int) == 1 && items.size == items.size) = true then _ else _) _ _ s
  rw [if_neg hno, pick_back]
  first
    | exact wpAny_bind (m := Builtin.Tuple.tupleExact _) (wpAny_newObj_type (wpAny_pure ⟨_, rfl, wpAny_pure h⟩) htake)
    | exact wpAny_bind (m := Builtin.Tuple.tupleExact _) (wpAny_newObj_type (wpAny_bind (wpAny_pure (wpAny_pure ⟨_, rfl, wpAny_pure h⟩))) htake)
    | exact wpAny_bind (wpAny_bind (m := Builtin.Tuple.tupleExact _) (wpAny_newObj_type (wpAny_pure (wpAny_pure ⟨_, rfl, wpAny_pure h⟩)) htake))
    | exact wpAny_bind (wpAny_bind (m := Builtin.Tuple.tupleExact _) (wpAny_newObj_type (wpAny_pure ⟨_, rfl, wpAny_pure h⟩) htake))
end
section
variable {X : Cx} {e : Expr} {te : TDE} {k : Nat} {p1 p2 p3 pos : Pos}
def revR (x : D) (M : Mm) (Q : DQ) : Prop := match x with
  | .tup xs => Q (.tup xs.reverse) M
  | x => (match rdL M x with | some xs => Q (.lst xs.reverse) M | none => False)
def dRev (te : TDE) : TDE := fun ds M Q => te ds M fun x M1 => revR x M1 Q
def tRevA (K : PySem.W.Frag) (te : TE) : TE := fun σ H Q => te σ H fun x H1 => (∃ a xs, x = .ref a ∧ SqL K H1 a xs ∧ ∀ p, H1 p = none → Q (.ref p) (upd H1 p (.lst xs.reverse))) ∨ ∃ a xs, x = .ref a ∧ SqT K H1 a xs ∧ ∀ p, H1 p = none → Q (.ref p) (upd H1 p (.tup xs.reverse))
theorem pe_revA {e : Expr} {te : TE} (he : PE X e te) : PE X (.Subscript e (.Slice none none (some (.UnaryOp .USub (.Constant (.int 1) k p1) p2)) p3) pos) (tRevA X.K te) := by
  refine ⟨fun pins s σ H Q I h => ?_⟩
  refine PyProof.Rows.Subscript_ (thn (he.run pins s σ H _ I h) fun v s1 ⟨x, H1, I1, r1, q1⟩ => ?_)
  have hst : PO X (some (.UnaryOp .USub (.Constant (.int 1) k p1) p2)) (tPart (tUn (rU fun i => .int (-i)) (tC (.int 1)))) := po_some (pe_un un_neg pe_int)
  refine wpAny_Slice (thn (po_none.run pins s1 σ H1 (fun o H2 => o = none ∧ H2 = H1) I1 ⟨rfl, rfl⟩) fun vl s2 ⟨l, H2, I2, pl, el, e2⟩ => ?_)
  subst el e2
  refine thn (po_none.run pins s2 σ H2 (fun o H3 => o = none ∧ H3 = H2) I2 ⟨rfl, rfl⟩) fun vu s3 ⟨u, H3, I3, pu, eu, e3⟩ => ?_
  subst eu e3
  refine thn (hst.run pins s3 σ H3 (fun o H4 => o = some (-1) ∧ H4 = H3) I3 ⟨1, rfl, -1, rfl, rfl, rfl⟩) fun vs s4 ⟨o, H4, I4, ps, eo, e4⟩ => ?_
  subst eo e4
  have I5 : Inv X pins σ H4 { s4 with heap := s4.heap.push { cls := .type "slice", data := .fields #[vl, vu, vs] } } := I4.kept (t' := s4.toks) fun b ob q => Heap.get?_push_of_some _ q
  rcases q1 with ⟨a, xs, ex, hx, q⟩ | ⟨a, xs, ex, hx, q⟩
  · subst ex
    cases r1
    obtain ⟨its, r, ht, hz⟩ := I5.list hx
    have hlen := r.length
    show wpAny (model X.prog X.w) X.A (PyProof.Rows.subscriptTail e (.Slice none none (some (.UnaryOp .USub (.Constant (.int 1) k p1) p2)) p3) (.ref a) (.ref s4.heap.objs.size)) (EP X pins σ Q) X.xe { s4 with heap := s4.heap.push { cls := .type "slice", data := .fields #[vl, vu, vs] } }
    refine PyProof.Rows.tail_any (ops := [.ref a, .ref s4.heap.objs.size]) ht.isList.typeIs (PySem.slot_list_getitem.lookup) ?_ (by with_unfolding_all rfl)
    refine wpAny_getItem_list_slice ht.isList (Heap.IsSliceOf.new _ vl vu vs) pl pu ps (by decide) ?_ (by rw [List.size_toArray]; omega)
    rw [PySem.W.krv_pick]
    refine ⟨.ref _, _, I5.laid (t' := s4.toks) (o := .lst xs.reverse) (fun b ob q => Heap.get?_push_of_some _ q) (Nat.le_refl _) ?_, rfl, q _ (I5.hok.fresh (Nat.le_refl _))⟩
    exact ⟨by rw [List.length_reverse]; exact hz, _, 0, r.reverse, Heap.get?_push_size _ rfl⟩
  · subst ex
    cases r1
    obtain ⟨its, r, ht, hz⟩ := I5.tuple hx
    have hlen := r.length
    show wpAny (model X.prog X.w) X.A (PyProof.Rows.subscriptTail e (.Slice none none (some (.UnaryOp .USub (.Constant (.int 1) k p1) p2)) p3) (.ref a) (.ref s4.heap.objs.size)) (EP X pins σ Q) X.xe { s4 with heap := s4.heap.push { cls := .type "slice", data := .fields #[vl, vu, vs] } }
    refine PyProof.Rows.tail_any (ops := [.ref a, .ref s4.heap.objs.size]) ht.typeIs (PyProof.Rows.slot_tuple_getitem.lookup) ?_ (by with_unfolding_all rfl)
    refine getItem_tuple_back ht (Heap.IsSliceOf.new _ vl vu vs) pl pu ps ?_ (by rw [List.size_toArray]; omega)
    refine ⟨.ref _, _, I5.laid (t' := s4.toks) (o := .tup xs.reverse) (fun b ob q => Heap.get?_push_of_some _ q) (Nat.le_refl _) ?_, rfl, q _ (I5.hok.fresh (Nat.le_refl _))⟩
    exact ⟨by rw [List.length_reverse]; exact hz, _, by simpa using r.reverse, PyProof.Rows.IsTup.new _ _⟩
theorem je_rev (he : JE X e te) : JE X (.Subscript e (.Slice none none (some (.UnaryOp .USub (.Constant (.int 1) k p1) p2)) p3) pos) (dRev te) := by
  obtain ⟨u, p, g⟩ := he
  refine je_pe (pe_revA p) fun ds σ H M Q Q0 s m q kk => ?_
  refine g ds σ H M _ _ s m q fun v H1 d M1 r1 m1 gg1 q1 => ?_
  cases d with
  | tup xs =>
    obtain ⟨a, vs, rfl, sa, ra⟩ := r1.tup_v
    refine .inr ⟨a, vs, rfl, sa, fun p hp => ?_⟩
    exact kk _ (H1.up p _) _ M1 (.tup (SqT.of upd_same) (VRs.mono (TX.new m1 hp) _ _ ra.reverse)) (m1.newT hp) (gg1.trans (GG.newT hp)) q1
  | ref a =>
    cases e : lstOf M1 a with
    | none => simp [revR, e] at q1
    | some xs =>
      have q : Q (.lst xs.reverse) M1 := by simpa [revR, e] using q1
      obtain ⟨a, vs, rfl, h1, r2⟩ := rdL_v m1 r1 (show rdL M1 (.ref a) = some xs from e)
      refine .inl ⟨a, vs, rfl, SqL.of h1, fun p hp => ?_⟩
      obtain ⟨z1, z2, z3⟩ := frz_new m1 hp r2.reverse
      exact kk _ _ _ _ z1 z2 (gg1.trans z3) q
  | lst xs =>
    have q : Q (.lst xs.reverse) M1 := q1
    obtain ⟨a, vs, rfl, h1, r2⟩ := rdL_v m1 r1 (show rdL M1 (.lst xs) = some xs from rfl)
    refine .inl ⟨a, vs, rfl, SqL.of h1, fun p hp => ?_⟩
    obtain ⟨z1, z2, z3⟩ := frz_new m1 hp r2.reverse
    exact kk _ _ _ _ z1 z2 (gg1.trans z3) q
  | _ => exact q1.elim
end
end DM

namespace DM
open PySem L2
open PyProof.Rows (b2i)

/-! ### targets -/
abbrev TDG := D → DSt → Mm → (DSt → Mm → Prop) → Prop
abbrev TDGs := List D → DSt → Mm → (DSt → Mm → Prop) → Prop
structure JG (X : Cx) (target : Expr) (t : TDG) : Prop where
  go : ∃ t0, PG X target t0 ∧ ∀ (d : D) (v : V) (ds : DSt) (σ : L2.St) (H : HF) (M : Mm) (Q : DSt → Mm → Prop) (Q0 : L2.St → Hp → Prop), VR X.K H d v → SR X.K H ds σ → MR X.K M H → t d ds M Q →
    (∀ ds' σ' H' M', SR X.K H' ds' σ' → MR X.K M' H' → GG M H M' H' → Q ds' M' → Q0 σ' H'.h) → t0 v σ H.h Q0
structure JGs (X : Cx) (ts : List Expr) (t : TDGs) : Prop where
  go : ∃ t0, PGs X ts t0 ∧ ∀ (es : List D) (vs : List V) (ds : DSt) (σ : L2.St) (H : HF) (M : Mm) (Q : DSt → Mm → Prop) (Q0 : L2.St → Hp → Prop), VRs X.K H es vs → SR X.K H ds σ → MR X.K M H → t es ds M Q →
    (∀ ds' σ' H' M', SR X.K H' ds' σ' → MR X.K M' H' → GG M H M' H' → Q ds' M' → Q0 σ' H'.h) → t0 vs σ H.h Q0
def dgName (i : Nat) : TDG := fun d ds M Q => Q (ds.set i (some d)) M
def dgNil : TDGs := fun es ds M Q => match es with | [] => Q ds M | _ => False
def dgCons (t : TDG) (u : TDGs) : TDGs := fun es ds M Q => match es with | d :: r => t d ds M fun ds' M' => u r ds' M' Q | [] => False
def dgTup (n : Nat) (t : TDGs) : TDG := fun d ds M Q => match d with | .tup xs => xs.length = n ∧ t xs ds M Q | .lst xs => xs.length = n ∧ t xs ds M Q | _ => False
section
variable {X : Cx} {pos : Pos}
theorem jg_name {i : Nat} {x : Str} (hN : X.N.Nodup) (hi : X.N[i]? = some x := by rfl) (hx : Loc X.env.scope x := by first | exact Or.inl rfl | exact Or.inr rfl) (hf : X.fn x = true ∨ X.env.scope.names.lookup x = some .local := by first | exact .inl rfl | exact .inr rfl | assumption) : JG X (.Name x pos) (dgName i) :=
  ⟨_, pg_name hN hi hx hf, fun d v ds σ H M Q Q0 r s m q k => k _ _ H M (s.set r i) m GG.refl q⟩
theorem jgs_nil : JGs X [] dgNil := ⟨_, pgs_nil, fun es vs ds σ H M Q Q0 r s m q k => by
  cases r with
  | nil => exact ⟨rfl, k ds σ H M s m GG.refl q⟩
  | cons _ _ => exact q.elim⟩
theorem jgs_cons {e : Expr} {es : List Expr} {t : TDG} {u : TDGs} (h1 : JG X e t) (h2 : JGs X es u)
    (hs : (assignEach (e :: es) X.env).map (·.2) = assign e X.env :: (assignEach es X.env).map (·.2) := by rfl) : JGs X (e :: es) (dgCons t u) := by
  obtain ⟨t0, p, g⟩ := h1
  obtain ⟨u0, p', g'⟩ := h2
  refine ⟨_, pgs_cons p p' hs, fun es vs ds σ H M Q Q0 r s m q k => ?_⟩
  cases r with
  | nil => exact q.elim
  | cons r1 r2 =>
    refine ⟨_, _, rfl, ?_⟩
    refine g _ _ ds σ H M _ _ r1 s m q fun ds' σ' H' M' s' m' gg q' => ?_
    exact g' _ _ ds' σ' H' M' _ _ (VRs.mono (gg.tx m) _ _ r2) s' m' q' fun ds2 σ2 H2 M2 s2 m2 gg2 q2 => k ds2 σ2 H2 M2 s2 m2 (gg.trans gg2) q2
theorem pg_any {es : List Expr} {k : Nat} {t : TGs} {n : Nat} (hc : X.calm = true) (h : PGs X es t)
    (hn : (assignEach es X.env).length = n := by rfl) (hst : (assignEach es X.env).findIdx? (·.1) = none := by rfl) : PG X (.Tuple es k pos) (fun v σ H Q => gTup X.K n t v σ H Q ∨ gLst X.K n t v σ H Q) :=
  ⟨fun pins s σ H v u Q I r hw => hw.elim ((pg_tup hc h hn hst).run pins s σ H v u Q I r) ((pg_lst hc h hn hst).run pins s σ H v u Q I r)⟩
theorem jg_tup {es : List Expr} {k : Nat} {t : TDGs} {n : Nat} (hc : X.calm = true) (h : JGs X es t)
    (hn : (assignEach es X.env).length = n := by rfl) (hst : (assignEach es X.env).findIdx? (·.1) = none := by rfl) : JG X (.Tuple es k pos) (dgTup n t) := by
  obtain ⟨t0, p, g⟩ := h
  refine ⟨_, pg_any hc p hn hst, fun d v ds σ H M Q Q0 r s m q k => ?_⟩
  cases d with
  | tup xs =>
    obtain ⟨a, vs, rfl, sa, ra⟩ := r.tup_v
    obtain ⟨hl, q⟩ := q
    exact .inl ⟨a, vs, rfl, sa, by rw [← ra.length]; exact hl, g xs vs ds σ H M Q Q0 ra s m q k⟩
  | lst xs =>
    obtain ⟨a, vs, rfl, sa, _, ra⟩ := r.lst_v
    obtain ⟨hl, q⟩ := q
    exact .inr ⟨a, vs, rfl, SqL.of sa, by rw [← ra.length]; exact hl, g xs vs ds σ H M Q Q0 ra s m q k⟩
  | _ => exact q.elim
end

/-! ### list-valued expressions: a list of its own -/
abbrev TDL := DSt → Mm → (List D → Mm → Prop) → Prop
structure JL (X : Cx) (e : Expr) (t : TDL) : Prop where
  go : ∃ t0, PE X e t0 ∧ ∀ (ds : DSt) (σ : L2.St) (H : HF) (M : Mm) (Q : List D → Mm → Prop) (Q0 : VK), SR X.K H ds σ → MR X.K M H → t ds M Q →
    (∀ p H' xs vs M', H.h p = none → H'.h p = some (.lst vs) → VRs X.K H' xs vs → M' p = none → ¬H'.F p → MR X.K M' H' → GG M H M' H' → Q xs M' → Q0 (.ref p) H'.h) → t0 σ H.h Q0
def dFresh (t : TDL) : TDE := fun ds M Q => t ds M fun xs M1 => ∀ p, M1 p = none → Q (.ref p) (mup M1 p (.lst xs))
def dFrz (t : TDL) : TDE := fun ds M Q => t ds M fun xs M1 => Q (.lst xs) M1
section
variable {X : Cx} {e : Expr} {t : TDL}
theorem je_fresh (h : JL X e t) : JE X e (dFresh t) := by
  obtain ⟨u, p, g⟩ := h
  refine je_pe p fun ds σ H M Q Q0 s m q k => ?_
  refine g ds σ H M _ _ s m q fun p H' xs vs M' hp hp' r n nf m' gg q' => ?_
  exact k _ H' _ _ (.ref p) (m'.known (w := .lst xs) ⟨vs, hp', r⟩ nf) (gg.known hp) (q' p n)
theorem je_frz (h : JL X e t) : JE X e (dFrz t) := by
  obtain ⟨u, p, g⟩ := h
  refine je_pe p fun ds σ H M Q Q0 s m q k => ?_
  refine g ds σ H M _ _ s m q fun p H' xs vs M' hp hp' r n nf m' gg q' => ?_
  exact k _ (H'.fz p) _ _ (.lst hp' (.inr rfl) (VRs.mono TX.fzz _ _ r)) (m'.fzz hp' n) (gg.fzz hp) q'
/-- [a, b, ..] -/
def dDisp (t : TDA) : TDL := fun ds M Q => t ds M fun xs M1 => xs.length ≤ sizeLine ∧ Q xs M1
theorem jl_disp {es : List Expr} {pos : Pos} {t : TDA} (h : JA X es t) : JL X (.List es pos) (dDisp t) := by
  obtain ⟨t0, p, g⟩ := h
  refine ⟨_, pe_lst p, fun ds σ H M Q Q0 s m q k => ?_⟩
  refine g ds σ H M _ _ s m q fun vs H1 es M1 r1 m1 g1 q1 => ⟨by rw [← r1.length]; exact q1.1, fun a ha => ?_⟩
  have hH : H.h a = none := g1.free ha
  exact k a (H1.up a _) _ vs M1 hH upd_same (VRs.mono (TX.new m1 ha) _ _ r1) (m1.free ha) (m1.freeF ha) (m1.newT ha) (g1.trans (GG.newT ha)) q1.2
end
/-! ### what is walked -/
structure DIt where
  xs : List D
  ok : Mm → Prop := fun _ => True
/-- the walk below yields these items, as long as ok holds; M1, H1: as it began -/
structure ItOk (K : PySem.W.Frag) (J : It) (it : DIt) (M1 : Mm) (H1 : HF) : Prop where
  go : ∀ (i : Nat) (d : D) (M : Mm) (H : HF), GG M1 H1 M H → MR K M H → it.ok M → it.xs[i]? = some d → J.go i H.h
  yld : ∀ (i : Nat) (d : D) (M : Mm) (H : HF) (x : V) (h' : Hp), GG M1 H1 M H → MR K M H → it.ok M → it.xs[i]? = some d → J.yld i H.h x h' → ∃ H' : HF, H'.h = h' ∧ VR K H' d x ∧ MR K M H' ∧ GG M H M H'
  stop : ∀ (M : Mm) (H : HF), GG M1 H1 M H → MR K M H → it.ok M → J.stop it.xs.length H.h
abbrev TDI := DSt → Mm → (DIt → Mm → Prop) → Prop
structure JI (X : Cx) (tg iter : Expr) (t : TDI) : Prop where
  go : ∃ wi, PI X tg iter wi ∧ ∀ (ds : DSt) (σ : L2.St) (H : HF) (M : Mm) (Q : DIt → Mm → Prop) (R0 : It → Hp → Prop), SR X.K H ds σ → MR X.K M H → t ds M Q →
    (∀ J H' it M', ItOk X.K J it M' H' → MR X.K M' H' → GG M H M' H' → Q it M' → R0 J H'.h) → wi σ H.h R0
section
variable {K : PySem.W.Frag} {M M' : Mm} {H H' : HF}
/-- a list that the store knows -/
theorem it_lst {a : Addr} {xs : List D} : ItOk K (Itl K a) ⟨xs, fun M => lstOf M a = some xs⟩ M H where
  go := fun i d M2 H2 g m ok e => by
    obtain ⟨vs, h1, r1⟩ := m.ob a _ (of_lstOf ok)
    obtain ⟨v, e1, _⟩ := r1.get e
    exact ⟨vs, v, SqL.of h1, e1⟩
  yld := fun i d M2 H2 x H3 g m ok e y => by
    obtain ⟨vs, h1, r1⟩ := m.ob a _ (of_lstOf ok)
    obtain ⟨v, e1, r⟩ := r1.get e
    obtain ⟨eH, y⟩ := y
    subst eH
    have := y vs (SqL.of h1)
    rw [e1] at this
    cases this
    exact ⟨H2, rfl, r, m, GG.refl⟩
  stop := fun M2 H2 g m ok => by
    obtain ⟨vs, h1, r1⟩ := m.ob a _ (of_lstOf ok)
    exact ⟨vs, SqL.of h1, by rw [← r1.length]; exact Nat.le_refl _⟩
/-- a list of its own, that the store doesn't know -/
theorem it_own {a : Addr} {xs : List D} {vs : List V} (h1 : H.h a = some (.lst vs)) (r1 : VRs K H xs vs) (n : M a = none) (m0 : MR K M H) : ItOk K (Itl K a) ⟨xs, fun _ => True⟩ M H where
  go := fun i d M2 H2 g m _ e => by
    obtain ⟨v, e1, _⟩ := r1.get e
    exact ⟨vs, v, SqL.of (g.fr a _ h1 n).1, e1⟩
  yld := fun i d M2 H2 x H3 g m _ e y => by
    obtain ⟨v, e1, r⟩ := r1.get e
    obtain ⟨eH, y⟩ := y
    subst eH
    have := y vs (SqL.of (g.fr a _ h1 n).1)
    rw [e1] at this
    cases this
    exact ⟨H2, rfl, VR.mono (g.tx m0) _ _ r, m, GG.refl⟩
  stop := fun M2 H2 g m _ => ⟨vs, SqL.of (g.fr a _ h1 n).1, by rw [← r1.length]; exact Nat.le_refl _⟩
theorem it_tup {a : Addr} {xs : List D} {vs : List V} (h1 : SqT K H.h a vs) (r1 : VRs K H xs vs) (m0 : MR K M H) : ItOk K (Itt K a) ⟨xs, fun _ => True⟩ M H where
  go := fun i d M2 H2 g m _ e => by
    obtain ⟨v, e1, _⟩ := r1.get e
    exact ⟨vs, v, (g.tx m0).tu _ _ h1, e1⟩
  yld := fun i d M2 H2 x H3 g m _ e y => by
    obtain ⟨v, e1, r⟩ := r1.get e
    obtain ⟨eH, y⟩ := y
    subst eH
    have := y vs ((g.tx m0).tu _ _ h1)
    rw [e1] at this
    cases this
    exact ⟨H2, rfl, VR.mono (g.tx m0) _ _ r, m, GG.refl⟩
  stop := fun M2 H2 g m _ => ⟨vs, (g.tx m0).tu _ _ h1, by rw [← r1.length]; exact Nat.le_refl _⟩
def rangeD (lo : Int) (n : Nat) : List D := (List.range n).map fun (i : Nat) => D.int (lo + (i : Int))
theorem rangeD_get {lo : Int} {n i : Nat} {d : D} (h : (rangeD lo n)[i]? = some d) : i < n ∧ d = .int (lo + (i : Int)) := by
  unfold rangeD at h
  rw [List.getElem?_map] at h
  obtain ⟨j, h1, h2⟩ := Option.map_eq_some_iff.mp h
  rw [List.getElem?_range (by
    rcases Nat.lt_or_ge i n with q | q
    · exact q
    · rw [List.getElem?_eq_none (by simpa using q)] at h1; cases h1)] at h1
  cases h1
  refine ⟨?_, h2.symm⟩
  rcases Nat.lt_or_ge i n with q | q
  · exact q
  · rw [List.getElem?_eq_none (by simpa using q)] at h
    cases h
theorem it_rng {lo : Int} {n : Nat} : ItOk K (Itr lo n) ⟨rangeD lo n, fun _ => True⟩ M H where
  go := fun i d M2 H2 g m _ e => (rangeD_get e).1
  yld := fun i d M2 H2 x H3 g m _ e y => by
    obtain ⟨eH, y⟩ := y
    subst eH
    subst y
    rw [(rangeD_get e).2]
    exact ⟨H2, rfl, .int _, m, GG.refl⟩
  stop := fun M2 H2 g m _ => by
    show n ≤ (rangeD lo n).length
    simp [rangeD]
/-- the signs of a text -/
def signs (z : Str) : List D := z.cps.toList.map fun c => .str ⟨#[c]⟩
theorem it_str {z : Str} : ItOk K (Its z) ⟨signs z, fun _ => True⟩ M H where
  go := fun i d M2 H2 g m _ e => by
    unfold signs at e
    rw [List.getElem?_map] at e
    obtain ⟨c, h1, _⟩ := Option.map_eq_some_iff.mp e
    have := (List.getElem?_eq_some_iff.mp h1).1
    show i < z.cps.size
    simpa using this
  yld := fun i d M2 H2 x H3 g m _ e y => by
    obtain ⟨eH, c, y1, y2⟩ := y
    subst eH
    subst y2
    unfold signs at e
    rw [List.getElem?_map] at e
    obtain ⟨c', h1, h2⟩ := Option.map_eq_some_iff.mp e
    rw [Array.getElem?_toList, y1] at h1
    cases h1
    subst h2
    exact ⟨H2, rfl, .str _, m, GG.refl⟩
  stop := fun M2 H2 g m _ => by
    show z.cps.size ≤ (signs z).length
    simp [signs]
end
def seqI (x : D) (M : Mm) (Q : DIt → Mm → Prop) : Prop := match x with
  | .tup xs => Q ⟨xs, fun _ => True⟩ M
  | .ref a => (match lstOf M a with | some xs => Q ⟨xs, fun M' => lstOf M' a = some xs⟩ M | none => False)
  | .lst xs => Q ⟨xs, fun _ => True⟩ M
  | _ => False
def diList (te : TDE) : TDI := fun ds M Q => te ds M fun x M1 => (match x with | .ref a => (match lstOf M1 a with | some xs => Q ⟨xs, fun M' => lstOf M' a = some xs⟩ M1 | none => False) | _ => False)
def diTup (te : TDE) : TDI := fun ds M Q => te ds M fun x M1 => (match x with | .tup xs => Q ⟨xs, fun _ => True⟩ M1 | _ => False)
def diStr (te : TDE) : TDI := fun ds M Q => te ds M fun x M1 => (match x with | .str z => Q ⟨signs z, fun _ => True⟩ M1 | _ => False)
def diOwn (t : TDL) : TDI := fun ds M Q => t ds M fun xs M1 => Q ⟨xs, fun _ => True⟩ M1
def inLine (i : Int) : Prop := -(2 ^ 62) ≤ i ∧ i < 2 ^ 62
def diRng1 (te : TDE) : TDI := fun ds M Q => te ds M fun x M1 => isI x fun j => inLine j ∧ Q ⟨rangeD 0 j.toNat, fun _ => True⟩ M1
def diRng2 (ta tb : TDE) : TDI := fun ds M Q => ta ds M fun x M1 => tb ds M1 fun y M2 => isI x fun i => isI y fun j => inLine i ∧ inLine j ∧ Q ⟨rangeD i (j - i).toNat, fun _ => True⟩ M2
section
variable {X : Cx} {tg e : Expr} {te : TDE}
theorem ji_list (h : JE X e te) : JI X tg e (diList te) := by
  obtain ⟨u, p, g⟩ := h
  refine ⟨_, pi_list p, fun ds σ H M Q R0 s m q k => ?_⟩
  refine g ds σ H M _ _ s m q fun v H1 d M1 r1 m1 g1 q1 => ?_
  cases d with
  | ref a =>
    cases r1.ref_v
    simp only at q1
    split at q1
    · rename_i xs e
      obtain ⟨vs, h1, r2⟩ := m1.ob a _ (of_lstOf e)
      exact ⟨a, rfl, ⟨vs, SqL.of h1⟩, k _ H1 _ M1 it_lst m1 g1 q1⟩
    · exact q1.elim
  | _ => exact q1.elim
theorem ji_tup (h : JE X e te) : JI X tg e (diTup te) := by
  obtain ⟨u, p, g⟩ := h
  refine ⟨_, pi_tup p, fun ds σ H M Q R0 s m q k => ?_⟩
  refine g ds σ H M _ _ s m q fun v H1 d M1 r1 m1 g1 q1 => ?_
  cases d with
  | tup xs =>
    obtain ⟨a, vs, rfl, sa, ra⟩ := r1.tup_v
    exact ⟨a, rfl, ⟨vs, sa⟩, k _ H1 _ M1 (it_tup sa ra m1) m1 g1 q1⟩
  | _ => exact q1.elim
theorem ji_str (h : JE X e te) : JI X tg e (diStr te) := by
  obtain ⟨u, p, g⟩ := h
  refine ⟨_, pi_str p, fun ds σ H M Q R0 s m q k => ?_⟩
  refine g ds σ H M _ _ s m q fun v H1 d M1 r1 m1 g1 q1 => ?_
  cases d with
  | str z =>
    cases r1.str_v
    exact ⟨z, rfl, k _ H1 _ M1 it_str m1 g1 q1⟩
  | _ => exact q1.elim
theorem ji_own {t : TDL} (h : JL X e t) : JI X tg e (diOwn t) := by
  obtain ⟨u, p, g⟩ := h
  refine ⟨_, pi_list p, fun ds σ H M Q R0 s m q k => ?_⟩
  refine g ds σ H M _ _ s m q fun a H1 xs vs M1 hp hp1 r1 n1 nf1 m1 g1 q1 => ?_
  exact ⟨a, rfl, ⟨vs, SqL.of hp1⟩, k _ H1 _ M1 (it_own hp1 r1 n1 m1) m1 g1 q1⟩
theorem ji_rng1 {p pos : Pos} (hg : Gl X "range") (hm : X.mg "range" = none) (h : JE X e te) (hs : starEach [e] X.env = [(false, eval e X.env)] := by rfl) (hs' : starEach (e :: []) X.env = (false, eval e X.env) :: starEach [] X.env := by rfl) :
    JI X tg (.Call (.Name "range" p) [e] [] pos) (diRng1 te) := by
  obtain ⟨u, q, g⟩ := h
  refine ⟨_, pi_range1 hg hm (pa_cons q pa_nil hs') hs, fun ds σ H M Q R0 s m q k => ?_⟩
  refine g ds σ H M _ _ s m q fun v H1 d M1 r1 m1 g1 q1 => ?_
  obtain ⟨j, rfl, ⟨l1, l2⟩, q1⟩ := isI_out r1 q1
  exact ⟨j, rfl, l1, l2, k _ H1 _ M1 it_rng m1 g1 q1⟩
theorem ji_rng2 {f : Expr} {tf : TDE} {p pos : Pos} (hg : Gl X "range") (hm : X.mg "range" = none) (h : JE X e te) (h' : JE X f tf) (hs : starEach [e, f] X.env = [(false, eval e X.env), (false, eval f X.env)] := by rfl)
    (hs2 : starEach [f] X.env = [(false, eval f X.env)] := by rfl) (hs3 : starEach [e, f] X.env = (false, eval e X.env) :: starEach [f] X.env := by rfl) (hs4 : starEach [f] X.env = (false, eval f X.env) :: starEach [] X.env := by rfl) :
    JI X tg (.Call (.Name "range" p) [e, f] [] pos) (diRng2 te tf) := by
  obtain ⟨u, q, g⟩ := h
  obtain ⟨u', q', g'⟩ := h'
  refine ⟨_, pi_range2 hg hm (pa_cons q (pa_cons q' pa_nil hs4) hs3) hs hs2, fun ds σ H M Q R0 s m q k => ?_⟩
  refine g ds σ H M _ _ s m q fun v H1 d M1 r1 m1 g1 q1 => ?_
  refine g' ds σ H1 M1 _ _ (s.gg m g1) m1 q1 fun w H2 d2 M2 r2 m2 g2 q2 => ?_
  obtain ⟨i, rfl, q2⟩ := isI_out r1 q2
  obtain ⟨j, rfl, ⟨l1, l2⟩, ⟨l3, l4⟩, q2⟩ := isI_out r2 q2
  exact ⟨i, j, rfl, ⟨l1, l2, l3, l4⟩, k _ H2 _ M2 it_rng m2 (g1.trans g2) q2⟩
end

/-! ### statements -/
def dNext : TDS := fun D ds M => D.nx ds M
def dSeq (t u : TDS) : TDS := fun D ds M => t { D with nx := u D } ds M
def dBreak : TDS := fun D ds M => D.bk ds M
def dCont : TDS := fun D ds M => D.ct ds M
def dDrop (te : TDE) : TDS := fun D ds M => te ds M fun _ M1 => D.nx ds M1
def dRet (te : TDE) : TDS := fun D ds M => te ds M D.rt
def dRetN : TDS := fun D _ M => D.rt .non M
def dIfS (c : TDT) (t u : TDS) : TDS := fun D ds M => c ds M fun b M1 => if b = true then t D ds M1 else u D ds M1
def dAsg (te : TDE) (g : TDG) : TDS := fun D ds M => te ds M fun x M1 => g x ds M1 D.nx
/-- through the items -/
def forW (ok : Mm → Prop) (g : TDG) (tb : TDS) (D : DEnds) : List DM.D → DSt → Mm → Prop
  | [], ds, M => ok M ∧ D.nx ds M
  | x :: r, ds, M => ok M ∧ g x ds M fun ds' M' => tb { D with nx := forW ok g tb D r, ct := forW ok g tb D r, bk := D.nx } ds' M'
def dFor (ti : TDI) (g : TDG) (tb : TDS) : TDS := fun D ds M => ti ds M fun it M1 => forW it.ok g tb D it.xs ds M1
def whileN (c : TDT) (tb : TDS) (D : DEnds) : Nat → DSt → Mm → Prop
  | 0, _, _ => False
  | n + 1, ds, M => c ds M fun b M1 => if b = true then tb { D with nx := whileN c tb D n, ct := whileN c tb D n, bk := D.nx } ds M1 else D.nx ds M1
def dWhile (c : TDT) (tb : TDS) : TDS := fun D ds M => ∃ n, whileN c tb D n ds M
section
variable {X : Cx} {W : WX} {st : Stmt} {rest : List Stmt} {t u : TDS} {e : Expr} {te : TDE} {pos : Pos}
theorem Link.with_nx {K : PySem.W.Frag} {W : WX} {M0 : Mm} {H0 : HF} {D0 : Ends} {D1 : DEnds} (l : Link K W M0 H0 D0 D1) {n0 : L2.St → Hp → Prop} {n1 : DSt → Mm → Prop}
    (h : ∀ σ ds H M, GG M0 H0 M H → SR K H ds σ → MR K M H → n1 ds M → n0 σ H.h) : Link K W M0 H0 { D0 with nx := n0 } { D1 with nx := n1 } := ⟨h, l.rt, l.bk, l.ct, l.xc⟩
theorem jb_nil : JB X W [] dNext := ⟨_, pss_nil, fun M0 H0 D0 D1 l ds σ H M g s m q => l.nx σ ds H M g s m q⟩
theorem jb_cons (h1 : JS X W st t) (h2 : JB X W rest u) : JB X W (st :: rest) (dSeq t u) := by
  obtain ⟨t0, p, g⟩ := h1
  obtain ⟨u0, p', g'⟩ := h2
  refine ⟨_, pss_cons p p', fun M0 H0 D0 D1 l ds σ H M gg s m q => ?_⟩
  exact g M0 H0 _ _ (l.with_nx fun σ' ds' H' M' g1 s1 m1 q1 => g' M0 H0 D0 D1 l ds' σ' H' M' g1 s1 m1 q1) ds σ H M gg s m q
theorem jb_one (h1 : JS X W st t) : JB X W [st] t := by
  obtain ⟨t0, p, g⟩ := h1
  exact ⟨_, pss_one p, g⟩
theorem js_pass : JS X W (.Pass pos) dNext := ⟨_, ps_pass, fun M0 H0 D0 D1 l ds σ H M g s m q => l.nx σ ds H M g s m q⟩
theorem js_break : JS X W (.Break pos) dBreak := ⟨_, ps_break, fun M0 H0 D0 D1 l ds σ H M g s m q => l.bk σ ds H M g s m q⟩
theorem js_continue : JS X W (.Continue pos) dCont := ⟨_, ps_continue, fun M0 H0 D0 D1 l ds σ H M g s m q => l.ct σ ds H M g s m q⟩
theorem js_expr (he : JE X e te) (hs : swapsWith e none pos.line X.env = pure false := by rfl) : JS X W (.Expr e pos) (dDrop te) := by
  obtain ⟨t0, p, g⟩ := he
  refine ⟨_, ps_expr p hs, fun M0 H0 D0 D1 l ds σ H M gg s m q => ?_⟩
  exact g ds σ H M _ _ s m q fun v H1 d M1 r1 m1 g1 q1 => l.nx σ ds H1 M1 (gg.trans g1) (s.gg m g1) m1 q1
theorem js_ret (he : JE X e te) : JS X W (.Return (some e) pos) (dRet te) := by
  obtain ⟨t0, p, g⟩ := he
  refine ⟨_, ps_ret p, fun M0 H0 D0 D1 l ds σ H M gg s m q => ?_⟩
  exact g ds σ H M _ _ s m q fun v H1 d M1 r1 m1 g1 q1 => l.rt v d H1 M1 (gg.trans g1) r1 m1 q1
theorem js_retN : JS X W (.Return none pos) dRetN := ⟨_, ps_retN, fun M0 H0 D0 D1 l ds σ H M g s m q => l.rt _ _ H M g .non m q⟩
theorem js_if {c : Expr} {a b : List Stmt} {tc : TDT} (hc : JT X c tc) (ha : JB X W a t) (hb : JB X W b u) : JS X W (.If c a b pos) (dIfS tc t u) := by
  obtain ⟨t0, p, g⟩ := hc
  obtain ⟨t1, p1, g1⟩ := ha
  obtain ⟨t2, p2, g2⟩ := hb
  refine ⟨_, ps_if p p1 p2, fun M0 H0 D0 D1 l ds σ H M gg s m q => ?_⟩
  refine g ds σ H M _ _ s m q fun b H1 M1 m1 gg1 q1 => ?_
  cases b with
  | true => exact g1 M0 H0 D0 D1 l ds σ H1 M1 (gg.trans gg1) (s.gg m gg1) m1 q1
  | false => exact g2 M0 H0 D0 D1 l ds σ H1 M1 (gg.trans gg1) (s.gg m gg1) m1 q1
/-- target = value -/
theorem js_asg {tg : Expr} {g : TDG} (he : JE X e te) (hg : JG X tg g) (hs : swapsWithSole [tg] e pos.line X.env = pure false := by rfl) (hw : swappedStores [tg] e X.env = pure none := by rfl)
    (h1 : (assignEach [tg] X.env).map (·.2) = [assign tg X.env] := by rfl) : JS X W (.Assign [tg] e pos) (dAsg te g) := by
  obtain ⟨t0, p, ge⟩ := he
  obtain ⟨g0, p', gg'⟩ := hg
  refine ⟨_, ps_asg p p' hs hw h1, fun M0 H0 D0 D1 l ds σ H M gg s m q => ?_⟩
  refine ge ds σ H M _ _ s m q fun v H1 d M1 r1 m1 g1 q1 => ?_
  exact gg' d v ds σ H1 M1 _ _ r1 (s.gg m g1) m1 q1 fun ds' σ' H' M' s' m' g2 q2 => l.nx σ' ds' H' M' ((gg.trans g1).trans g2) s' m' q2
/-- name = value -/
theorem js_set {i : Nat} {x : Str} {pos' : Pos} (hN : X.N.Nodup) (he : JE X e te) (hi : X.N[i]? = some x := by rfl) (hx : Loc X.env.scope x := by first | exact Or.inl rfl | exact Or.inr rfl) (hs : swapsWith e (some (.Name x pos')) pos.line X.env = pure false := by rfl) (hf : X.fn x = true ∨ X.env.scope.names.lookup x = some .local := by first | exact .inl rfl | exact .inr rfl | assumption) :
    JS X W (.Assign [.Name x pos'] e pos) (dAsg te (dgName i)) := by
  obtain ⟨t0, p, ge⟩ := he
  refine ⟨_, ps_set hN hi hx p hs hf, fun M0 H0 D0 D1 l ds σ H M gg s m q => ?_⟩
  refine ge ds σ H M _ _ s m q fun v H1 d M1 r1 m1 g1 q1 => ?_
  exact l.nx _ _ H1 M1 (gg.trans g1) ((s.gg m g1).set r1 i) m1 q1
theorem js_for {tg iter : Expr} {body : List Stmt} {ti : TDI} {g : TDG} {tb : TDS} (hp : PassesOwn (model X.prog X.w) X.A X.env X.xe) (hc : X.calm = true) (hi : JI X tg iter ti) (hg : JG X tg g) (hb : JB X W body tb)
    (hs : ∀ x, foldedSetIterable iter X.env x = pure x := by intro _; rfl) : JS X W (.For tg iter body [] pos) (dFor ti g tb) := by
  obtain ⟨wi, p, gi⟩ := hi
  obtain ⟨g0, pg, gg⟩ := hg
  obtain ⟨b0, pb, gb⟩ := hb
  refine ⟨_, ps_for hp hc p pg pb hs, fun M0 H0 D0 D1 l ds σ H M gg0 s m q => ?_⟩
  refine gi ds σ H M _ _ s m q fun J H1 it M1 io m1 g1 q1 => ?_
  refine ⟨fun i n σ2 h2 => n = it.xs.length - i ∧ i ≤ it.xs.length ∧ ∃ ds2 M2 H2, h2 = H2.h ∧ GG M1 H1 M2 H2 ∧ GG M0 H0 M2 H2 ∧ SR X.K H2 ds2 σ2 ∧ MR X.K M2 H2 ∧ forW it.ok g tb D1 (it.xs.drop i) ds2 M2,
    ⟨_, rfl, Nat.zero_le _, ds, M1, H1, rfl, GG.refl, gg0.trans g1, s.gg m g1, m1, by simpa using q1⟩, ?_⟩
  rintro i n σ2 h2 ⟨rfl, hi, ds2, M2, H2, rfl, ga, gb2, s2, m2, q2⟩
  by_cases hlt : i < it.xs.length
  · have e : it.xs.drop i = it.xs[i] :: it.xs.drop (i + 1) := List.drop_eq_getElem_cons hlt
    rw [e] at q2
    obtain ⟨ok, q2⟩ := q2
    have ei : it.xs[i]? = some it.xs[i] := List.getElem?_eq_getElem hlt
    refine .inr ⟨io.go i _ M2 H2 ga m2 ok ei, fun σ' h' => i + 1 ≤ it.xs.length ∧ ∃ ds' M' H', h' = H'.h ∧ GG M1 H1 M' H' ∧ GG M0 H0 M' H' ∧ SR X.K H' ds' σ' ∧ MR X.K M' H' ∧ forW it.ok g tb D1 (it.xs.drop (i + 1)) ds' M',
      fun σ' H' h => ⟨it.xs.length - (i + 1), by omega, rfl, h.1, h.2⟩, fun x h' y => ?_⟩
    obtain ⟨H', rfl, r', m', g'⟩ := io.yld i _ M2 H2 x h' ga m2 ok ei y
    refine gg _ x ds2 σ2 H' M2 _ _ r' (s2.gg m2 g') m' q2 fun ds3 σ3 H3 M3 s3 m3 g3 q3 => ?_
    -- the body, seen from the loop's start
    have G1 : GG M1 H1 M3 H3 := (ga.trans g').trans g3
    have G0 : GG M0 H0 M3 H3 := (gb2.trans g').trans g3
    refine gb M3 H3 _ _ ⟨?_, ?_, ?_, ?_, ?_⟩ ds3 σ3 H3 M3 GG.refl s3 m3 q3
    · exact fun σ4 ds4 H4 M4 g4 s4 m4 q4 => ⟨hlt, ds4, M4, H4, rfl, G1.trans g4, G0.trans g4, s4, m4, q4⟩
    · exact fun v d H4 M4 g4 r4 m4 q4 => l.rt v d H4 M4 (G0.trans g4) r4 m4 q4
    · exact fun σ4 ds4 H4 M4 g4 s4 m4 q4 => l.nx σ4 ds4 H4 M4 (G0.trans g4) s4 m4 q4
    · exact fun σ4 ds4 H4 M4 g4 s4 m4 q4 => ⟨hlt, ds4, M4, H4, rfl, G1.trans g4, G0.trans g4, s4, m4, q4⟩
    · exact fun C od σ4 ds4 fs H4 M4 f4 g4 s4 x4 m4 q4 => l.xc C od σ4 ds4 fs H4 M4 (fun dd e => G0.free (f4 dd e)) (G0.trans g4) s4 x4 m4 q4
  · have e : i = it.xs.length := by omega
    subst e
    rw [List.drop_length] at q2
    exact .inl ⟨io.stop M2 H2 ga m2 q2.1, l.nx σ2 ds2 H2 M2 gb2 s2 m2 q2.2⟩
/-- never reached -/
theorem js_never : JS X W st (fun _ _ _ => False) := ⟨_, ps_never, fun M0 H0 D0 D1 l ds σ H M g s m q => q.elim⟩
theorem js_while {c : Expr} {body : List Stmt} {tc : TDT} {tb : TDS} (hp : PassesOwn (model X.prog X.w) X.A X.env X.xe) (hc : JT X c tc) (hb : JB X W body tb) : JS X W (.While c body [] pos) (dWhile tc tb) := by
  obtain ⟨c0, pc, gc⟩ := hc
  obtain ⟨b0, pb, gb⟩ := hb
  refine ⟨_, ps_while hp pc pb, fun M0 H0 D0 D1 l ds σ H M gg0 s m q => ?_⟩
  obtain ⟨n0, q⟩ := q
  refine ⟨fun n σ2 h2 => ∃ ds2 M2 H2, h2 = H2.h ∧ GG M0 H0 M2 H2 ∧ SR X.K H2 ds2 σ2 ∧ MR X.K M2 H2 ∧ whileN tc tb D1 n ds2 M2, ⟨n0, ds, M, H, rfl, gg0, s, m, q⟩, ?_⟩
  rintro n σ2 h2 ⟨ds2, M2, H2, rfl, g2, s2, m2, q2⟩
  cases n with
  | zero => exact q2.elim
  | succ n =>
    refine gc ds2 σ2 H2 M2 _ _ s2 m2 q2 fun b H3 M3 m3 g3 q3 => ?_
    cases b with
    | false => exact l.nx σ2 ds2 H3 M3 (g2.trans g3) (s2.gg m2 g3) m3 q3
    | true =>
      refine ⟨fun σ' h' => ∃ ds' M' H', h' = H'.h ∧ GG M0 H0 M' H' ∧ SR X.K H' ds' σ' ∧ MR X.K M' H' ∧ whileN tc tb D1 n ds' M', fun σ' H' h => ⟨n, Nat.lt_succ_self _, h⟩, ?_⟩
      refine gb M0 H0 _ _ ⟨?_, ?_, ?_, ?_, ?_⟩ ds2 σ2 H3 M3 (g2.trans g3) (s2.gg m2 g3) m3 q3
      · exact fun σ4 ds4 H4 M4 g4 s4 m4 q4 => ⟨ds4, M4, H4, rfl, g4, s4, m4, q4⟩
      · exact fun v d H4 M4 g4 r4 m4 q4 => l.rt v d H4 M4 g4 r4 m4 q4
      · exact fun σ4 ds4 H4 M4 g4 s4 m4 q4 => l.nx σ4 ds4 H4 M4 g4 s4 m4 q4
      · exact fun σ4 ds4 H4 M4 g4 s4 m4 q4 => ⟨ds4, M4, H4, rfl, g4, s4, m4, q4⟩
      · exact fun C od σ4 ds4 fs H4 M4 f4 g4 s4 x4 m4 q4 => l.xc C od σ4 ds4 fs H4 M4 f4 g4 s4 x4 m4 q4
end
end DM

namespace DM
open PySem L2
open PyProof.Rows (b2i)

/-! ### comprehensions -/
def wipeD (ds : DSt) : List Nat → DSt
  | [] => ds
  | v :: vs => (wipeD ds vs).set v none
theorem SR.wipe {K : PySem.W.Frag} {H : HF} {ds : DSt} {σ : L2.St} (s : SR K H ds σ) : ∀ vs : List Nat, SR K H (wipeD ds vs) (L2.wipe σ vs)
  | [] => s
  | v :: vs => (SR.wipe s vs).forget v
/-- a target that stores to the block's own names alone -/
structure JGv (X : Cx) (target : Expr) (vs : List Nat) (t : TDG) : Prop where
  go : ∃ t0, PG X target t0 ∧ ∀ (d : D) (v : V) (ds : DSt) (σ : L2.St) (H : HF) (M : Mm) (Q : DSt → Mm → Prop) (Q0 : L2.St → Hp → Prop), VR X.K H d v → SR X.K H ds σ → MR X.K M H → t d ds M Q →
    (∀ ds' σ' H' M', L2.wipe σ' vs = L2.wipe σ vs → SR X.K H' ds' σ' → MR X.K M' H' → GG M H M' H' → Q ds' M' → Q0 σ' H'.h) → t0 v σ H.h Q0
structure JGvs (X : Cx) (ts : List Expr) (vs : List Nat) (t : TDGs) : Prop where
  go : ∃ t0, PGs X ts t0 ∧ ∀ (es : List D) (us : List V) (ds : DSt) (σ : L2.St) (H : HF) (M : Mm) (Q : DSt → Mm → Prop) (Q0 : L2.St → Hp → Prop), VRs X.K H es us → SR X.K H ds σ → MR X.K M H → t es ds M Q →
    (∀ ds' σ' H' M', L2.wipe σ' vs = L2.wipe σ vs → SR X.K H' ds' σ' → MR X.K M' H' → GG M H M' H' → Q ds' M' → Q0 σ' H'.h) → t0 us σ H.h Q0
theorem wipe_set {i : Nat} {x : Option V} : ∀ {vs : List Nat} {σ : L2.St}, i ∈ vs → L2.wipe (σ.set i x) vs = L2.wipe σ vs
  | [], _, h => by cases h
  | v :: vs, σ, h => by
    show (L2.wipe (σ.set i x) vs).set v none = (L2.wipe σ vs).set v none
    by_cases hv : i ∈ vs
    · rw [wipe_set hv]
    · have e : i = v := by
        rcases List.mem_cons.mp h with e | e
        · exact e
        · exact absurd e hv
      subst e
      have comm : ∀ (ws : List Nat), i ∉ ws → L2.wipe (σ.set i x) ws = (L2.wipe σ ws).set i x := by
        intro ws
        induction ws with
        | nil => intro _; rfl
        | cons w ws ih =>
          intro hw
          show (L2.wipe (σ.set i x) ws).set w none = ((L2.wipe σ ws).set w none).set i x
          rw [ih fun z => hw (List.mem_cons_of_mem _ z), List.set_comm]
          intro z
          exact hw (by rw [z]; exact List.mem_cons_self)
      rw [comm vs hv, List.set_set]
section
variable {X : Cx} {pos : Pos}
theorem jgv_name {i : Nat} {x : Str} {vs : List Nat} (hN : X.N.Nodup) (hv : i ∈ vs) (hi : X.N[i]? = some x := by rfl) (hx : Loc X.env.scope x := by first | exact Or.inl rfl | exact Or.inr rfl) (hf : X.fn x = true ∨ X.env.scope.names.lookup x = some .local := by first | exact .inl rfl | exact .inr rfl | assumption) : JGv X (.Name x pos) vs (dgName i) :=
  ⟨_, pg_name hN hi hx hf, fun d v ds σ H M Q Q0 r s m q k => k _ _ H M (wipe_set hv) (s.set r i) m GG.refl q⟩
theorem jgvs_nil {vs : List Nat} : JGvs X [] vs dgNil := ⟨_, pgs_nil, fun es us ds σ H M Q Q0 r s m q k => by
  cases r with
  | nil => exact ⟨rfl, k ds σ H M rfl s m GG.refl q⟩
  | cons _ _ => exact q.elim⟩
theorem jgvs_cons {e : Expr} {es : List Expr} {vs : List Nat} {t : TDG} {u : TDGs} (h1 : JGv X e vs t) (h2 : JGvs X es vs u)
    (hs : (assignEach (e :: es) X.env).map (·.2) = assign e X.env :: (assignEach es X.env).map (·.2) := by rfl) : JGvs X (e :: es) vs (dgCons t u) := by
  obtain ⟨t0, p, g⟩ := h1
  obtain ⟨u0, p', g'⟩ := h2
  refine ⟨_, pgs_cons p p' hs, fun es us ds σ H M Q Q0 r s m q k => ?_⟩
  cases r with
  | nil => exact q.elim
  | cons r1 r2 =>
    refine ⟨_, _, rfl, ?_⟩
    refine g _ _ ds σ H M _ _ r1 s m q fun ds' σ' H' M' hw s' m' gg q' => ?_
    exact g' _ _ ds' σ' H' M' _ _ (VRs.mono (gg.tx m) _ _ r2) s' m' q' fun ds2 σ2 H2 M2 hw2 s2 m2 gg2 q2 => k ds2 σ2 H2 M2 (hw2.trans hw) s2 m2 (gg.trans gg2) q2
theorem jgv_tup {es : List Expr} {k : Nat} {t : TDGs} {n : Nat} {vs : List Nat} (hc : X.calm = true) (h : JGvs X es vs t)
    (hn : (assignEach es X.env).length = n := by rfl) (hst : (assignEach es X.env).findIdx? (·.1) = none := by rfl) : JGv X (.Tuple es k pos) vs (dgTup n t) := by
  obtain ⟨t0, p, g⟩ := h
  refine ⟨_, pg_any hc p hn hst, fun d v ds σ H M Q Q0 r s m q k => ?_⟩
  cases d with
  | tup xs =>
    obtain ⟨a, us, rfl, sa, ra⟩ := r.tup_v
    obtain ⟨hl, q⟩ := q
    exact .inl ⟨a, us, rfl, sa, by rw [← ra.length]; exact hl, g xs us ds σ H M Q Q0 ra s m q k⟩
  | lst xs =>
    obtain ⟨a, us, rfl, sa, _, ra⟩ := r.lst_v
    obtain ⟨hl, q⟩ := q
    exact .inr ⟨a, us, rfl, SqL.of sa, by rw [← ra.length]; exact hl, g xs us ds σ H M Q Q0 ra s m q k⟩
  | _ => exact q.elim
/-- the tests of a comprehension -/
structure JTs (X : Cx) (ifs : List Expr) (t : TDT) : Prop where
  go : ∃ t0, PTs X ifs t0 ∧ ∀ (ds : DSt) (σ : L2.St) (H : HF) (M : Mm) (Q : Bool → Mm → Prop) (Q0 : Bool → Hp → Prop), SR X.K H ds σ → MR X.K M H → t ds M Q →
    (∀ b H' M', MR X.K M' H' → GG M H M' H' → Q b M' → Q0 b H'.h) → t0 σ H.h Q0
def dYes : TDT := fun _ M Q => Q true M
theorem jts_nil : JTs X [] dYes := ⟨_, pts_nil, fun ds σ H M Q Q0 s m q k => k true H M m GG.refl q⟩
theorem jts_one {c : Expr} {t : TDT} (h : JT X c t) : JTs X [c] t := by
  obtain ⟨u, p, g⟩ := h
  exact ⟨_, pts_one p, g⟩
end
def lcW (ok : Mm → Prop) (g : TDG) (tt : TDT) (te : TDE) (ds0 : DSt) (Q : List D → Mm → Prop) : List D → List D → Mm → Prop
  | [], acc, M => ok M ∧ Q acc M
  | x :: r, acc, M => ok M ∧ g x ds0 M fun ds' M2 => tt ds' M2 fun b M3 => if b = true then te ds' M3 fun d M4 => acc.length < sizeLine ∧ lcW ok g tt te ds0 Q r (acc ++ [d]) M4 else lcW ok g tt te ds0 Q r acc M3
def dLc (ti : TDI) (g : TDG) (tt : TDT) (te : TDE) (vs : List Nat) : TDL := fun ds M Q => ti ds M fun it M1 => lcW it.ok g tt te (wipeD ds vs) Q it.xs [] M1
/-- the blocks of a comprehension -/
abbrev Blk (X : Cx) (scope : Scope) (s : Shared) (H : Hp) (C : Addr) (cl : List (Str × Addr)) (fp : List Addr) : Cx := X.blk s H scope (compEnvC scope cl C X.env) fp
structure JLC (X : Cx) (elt tg iter : Expr) (ifs : List Expr) (scope : Scope) (own : List (Str × Nat)) (t : TDL) : Prop where
  go : ∃ (wi : TI) (g : TG) (tt : TT) (te : TE), PI X tg iter wi ∧ BlkOk X.N X.env.scope scope own ∧ (∀ s H C cl fp, PG (Blk X scope s H C cl fp) tg g) ∧ (∀ s H C cl fp, PTs (Blk X scope s H C cl fp) ifs tt) ∧ (∀ s H C cl fp, PE (Blk X scope s H C cl fp) elt te) ∧
    ∀ (ds : DSt) (σ : L2.St) (H : HF) (M : Mm) (Q : List D → Mm → Prop) (Q0 : VK), SR X.K H ds σ → MR X.K M H → t ds M Q →
    (∀ p H' xs vs M', H.h p = none → H'.h p = some (.lst vs) → VRs X.K H' xs vs → M' p = none → ¬H'.F p → MR X.K M' H' → GG M H M' H' → Q xs M' → Q0 (.ref p) H'.h) → tLc wi g tt te (own.map (·.2)) σ H.h Q0
theorem jlc {X : Cx} {elt tg iter : Expr} {ifs : List Expr} {scope : Scope} {own : List (Str × Nat)} {ti : TDI} {g : TDG} {tt : TDT} {te : TDE} (hi : JI X tg iter ti) (ok : BlkOk X.N X.env.scope scope own)
    (hg : ∀ s H C cl fp, JGv (Blk X scope s H C cl fp) tg (own.map (·.2)) g) (ht : ∀ s H C cl fp, JTs (Blk X scope s H C cl fp) ifs tt) (he : ∀ s H C cl fp, JE (Blk X scope s H C cl fp) elt te) :
    JLC X elt tg iter ifs scope own (dLc ti g tt te (own.map (·.2))) := by
  obtain ⟨wi, pi, gi⟩ := hi
  refine ⟨wi, fun v σ H Q => ∀ s H' C cl fp, (hg s H' C cl fp).go.choose v σ H Q, fun σ H Q => ∀ s H' C cl fp, (ht s H' C cl fp).go.choose σ H Q, fun σ H Q => ∀ s H' C cl fp, (he s H' C cl fp).go.choose σ H Q, pi, ok, ?_, ?_, ?_, ?_⟩
  · exact fun s H C cl fp => ⟨fun pins s' σ H' v u Q I r h => (hg s H C cl fp).go.choose_spec.1.run pins s' σ H' v u Q I r (h s H C cl fp)⟩
  · exact fun s H C cl fp => ⟨fun pins s' σ H' Q I h => (ht s H C cl fp).go.choose_spec.1.run pins s' σ H' Q I (h s H C cl fp)⟩
  · exact fun s H C cl fp => ⟨fun pins s' σ H' Q I h => (he s H C cl fp).go.choose_spec.1.run pins s' σ H' Q I (h s H C cl fp)⟩
  · intro ds σ H M Q Q0 s m q k
    refine gi ds σ H M _ _ s m q fun J H1 it M1 io m1 g1 q1 => ?_
    intro p hp
    refine ⟨fun i n h2 => n = it.xs.length - i ∧ i ≤ it.xs.length ∧ ∃ M2 acc va H2, h2 = H2.h ∧ GG M1 H1 M2 H2 ∧ MR X.K M2 H2 ∧ H2.h p = some (.lst va) ∧ (M2 p = none ∧ ¬H2.F p) ∧ VRs X.K H2 acc va ∧ lcW it.ok g tt te (wipeD ds (own.map (·.2))) Q (it.xs.drop i) acc M2,
      ⟨_, rfl, Nat.zero_le _, M1, [], [], H1.up p _, rfl, GG.newT hp, m1.newT hp, upd_same, ⟨m1.free hp, m1.freeF hp⟩, .nil, by simpa using q1⟩, ?_⟩
    rintro i n h2 ⟨rfl, hi, M2, acc, va, H2, rfl, g2, m2, hD, nD, ra, q2⟩
    have s2 : SR X.K H2 (wipeD ds (own.map (·.2))) (L2.wipe σ (own.map (·.2))) := ((s.gg m (g1.trans g2))).wipe _
    by_cases hlt : i < it.xs.length
    · have e : it.xs.drop i = it.xs[i] :: it.xs.drop (i + 1) := List.drop_eq_getElem_cons hlt
      rw [e] at q2
      obtain ⟨okM, q2⟩ := q2
      have ei : it.xs[i]? = some it.xs[i] := List.getElem?_eq_getElem hlt
      refine .inr ⟨io.go i _ M2 H2 g2 m2 okM ei, fun h' => i + 1 ≤ it.xs.length ∧ ∃ M2 acc va H', h' = H'.h ∧ GG M1 H1 M2 H' ∧ MR X.K M2 H' ∧ H'.h p = some (.lst va) ∧ (M2 p = none ∧ ¬H'.F p) ∧ VRs X.K H' acc va ∧ lcW it.ok g tt te (wipeD ds (own.map (·.2))) Q (it.xs.drop (i + 1)) acc M2,
        fun H' h => ⟨it.xs.length - (i + 1), by omega, rfl, h.1, h.2⟩, fun x h' y => ?_⟩
      obtain ⟨H', rfl, r', m', g'⟩ := io.yld i _ M2 H2 x h' g2 m2 okM ei y
      intro s' H'' C cl fp
      refine (hg s' H'' C cl fp).go.choose_spec.2 _ x _ _ H' M2 _ _ r' (s2.gg m2 g') m' q2 fun ds3 σ3 H3 M3 hw s3 m3 g3 q3 => ⟨?_, ?_⟩
      · rw [hw]
        have idem : ∀ (vs ws : List Nat), (∀ v ∈ ws, v ∈ vs) → L2.wipe (L2.wipe σ vs) ws = L2.wipe σ vs := by
          intro vs ws
          induction ws with
          | nil => intro _; rfl
          | cons w ws ih =>
            intro hs
            show (L2.wipe (L2.wipe σ vs) ws).set w none = L2.wipe σ vs
            rw [ih fun v hv => hs v (List.mem_cons_of_mem _ hv)]
            have hw := hs w List.mem_cons_self
            -- the slot is forgotten already
            have gone : ∀ (us : List Nat), w ∈ us → (L2.wipe σ us).set w none = L2.wipe σ us := by
              intro us
              induction us with
              | nil => intro z; cases z
              | cons u us ih2 =>
                intro z
                show ((L2.wipe σ us).set u none).set w none = (L2.wipe σ us).set u none
                by_cases hwu : w = u
                · subst hwu; rw [List.set_set]
                · have hz : w ∈ us := by
                    rcases List.mem_cons.mp z with z | z
                    · exact absurd z hwu
                    · exact z
                  rw [List.set_comm _ _ (Ne.symm hwu), ih2 hz]
            exact gone vs hw
        exact idem _ _ fun v hv => hv
      · intro s' H'' C cl fp
        refine (ht s' H'' C cl fp).go.choose_spec.2 ds3 σ3 H3 M3 _ _ s3 m3 q3 fun b H4 M4 m4 g4 q4 => ?_
        have g24 : GG M2 H2 M4 H4 := (g'.trans g3).trans g4
        cases b with
        | false =>
          rw [if_neg Bool.false_ne_true] at q4 ⊢
          obtain ⟨hD4, nD4⟩ := g24.nfr hD nD.1 nD.2
          exact ⟨hlt, M4, acc, va, H4, rfl, g2.trans g24, m4, hD4, nD4, VRs.mono (g24.tx m2) _ _ ra, q4⟩
        | true =>
          rw [if_pos rfl] at q4 ⊢
          intro s' H'' C cl fp
          refine (he s' H'' C cl fp).go.choose_spec.2 ds3 σ3 H4 M4 _ _ (s3.gg m3 g4) m4 q4 fun y H5 d M5 r5 m5 g5 q5 => ?_
          have g25 : GG M2 H2 M5 H5 := g24.trans g5
          obtain ⟨hD5, nD5⟩ := g25.nfr hD nD.1 nD.2
          have ra5 := VRs.mono (g25.tx m2) _ _ ra
          refine ⟨va, hD5, by rw [← ra5.length]; exact q5.1, hlt, M5, acc ++ [d], va ++ [y], H5.up p _, rfl, (g2.trans g25).hidden hp, m5.hidden hD5 nD5.1 nD5.2, upd_same, nD5, ?_, q5.2⟩
          exact VRs.append (VRs.mono (TX.hidden hD5 nD5.2) _ _ ra5) (.cons (VR.mono (TX.hidden hD5 nD5.2) _ _ r5) .nil)
    · have e : i = it.xs.length := by omega
      subst e
      rw [List.drop_length] at q2
      exact .inl ⟨io.stop M2 H2 g2 m2 q2.1, k p H2 acc va M2 (g1.free hp) hD ra nD.1 nD.2 m2 (g1.trans g2) q2.2⟩
section
variable {X : Cx} {elt tg iter : Expr} {ifs : List Expr} {scope : Scope} {own : List (Str × Nat)} {t : TDL} {pos spos : Pos}
theorem jl_lc (hc : X.calm = true) (hN : X.N.Nodup) (h : JLC X elt tg iter ifs scope own t) (hs : ∀ x, foldedSetIterable iter X.env x = pure x := by intro _; rfl) : JL X (.ListComp elt [⟨tg, iter, ifs, 0⟩] scope pos) t := by
  obtain ⟨wi, g, tt, te, h1, h2, h3, h4, h5, h6⟩ := h
  exact ⟨_, pe_lc hc hN h1 h2 h3 h4 h5 hs, h6⟩
theorem js_setLc {W : WX} {i : Nat} {y : Str} {py : Pos} (hc : X.calm = true) (hN : X.N.Nodup) (h : JLC X elt tg iter ifs scope own t) (hsw : swapsWith (.ListComp elt [⟨tg, iter, ifs, 0⟩] scope pos) (some (.Name y py)) spos.line X.env = pure true)
    (hy : X.N[i]? = some y := by rfl) (hyl : X.env.scope.names.lookup y = some .local := by rfl) (hs : ∀ x, foldedSetIterable iter X.env x = pure x := by intro _; rfl) :
    JS X W (.Assign [.Name y py] (.ListComp elt [⟨tg, iter, ifs, 0⟩] scope pos) spos) (dAsg (dFresh t) (dgName i)) := by
  obtain ⟨wi, g, tt, te, h1, h2, h3, h4, h5, h6⟩ := h
  refine ⟨_, ps_setLc hc hN hy hyl hsw h1 h2 h3 h4 h5 hs, fun M0 H0 D0 D1 l ds σ H M gg s m q => ?_⟩
  refine h6 ds σ H M _ _ s m q fun p H' xs vs M' hp hp' r n nf m' g' q' => ?_
  exact l.nx _ _ H' _ (gg.trans (g'.known hp)) ((s.gg m g').set (.ref p) i) (m'.known (w := .lst xs) ⟨vs, hp', r⟩ nf) (q' p n)
theorem js_setLcF {W : WX} {i : Nat} {y : Str} {py : Pos} (hc : X.calm = true) (hN : X.N.Nodup) (h : JLC X elt tg iter ifs scope own t) (hsw : swapsWith (.ListComp elt [⟨tg, iter, ifs, 0⟩] scope pos) (some (.Name y py)) spos.line X.env = pure true)
    (hy : X.N[i]? = some y := by rfl) (hyl : X.env.scope.names.lookup y = some .local := by rfl) (hs : ∀ x, foldedSetIterable iter X.env x = pure x := by intro _; rfl) :
    JS X W (.Assign [.Name y py] (.ListComp elt [⟨tg, iter, ifs, 0⟩] scope pos) spos) (dAsg (dFrz t) (dgName i)) := by
  obtain ⟨wi, g, tt, te, h1, h2, h3, h4, h5, h6⟩ := h
  refine ⟨_, ps_setLc hc hN hy hyl hsw h1 h2 h3 h4 h5 hs, fun M0 H0 D0 D1 l ds σ H M gg s m q => ?_⟩
  refine h6 ds σ H M _ _ s m q fun p H' xs vs M' hp hp' r n nf m' g' q' => ?_
  exact l.nx _ _ (H'.fz p) _ (gg.trans (g'.fzz hp)) (((s.gg m g').mono TX.fzz).set (.lst hp' (.inr rfl) (VRs.mono TX.fzz _ _ r)) i) (m'.fzz hp' n) q'
end

/-! ### defs -/
abbrev DSp := List D → Mm → DQ → Prop
def toSp (K : PySem.W.Frag) (sp : DSp) : Sp := fun vs h Q _ => ∃ ds M R H, h = H.h ∧ VRs K H ds vs ∧ MR K M H ∧ sp ds M R ∧ ∀ v H' d M', VR K H' d v → MR K M' H' → GG M H M' H' → R d M' → Q v H'.h
def dCall (sp : DSp) (t : TDA) : TDE := fun ds M Q => t ds M fun xs M1 => sp xs M1 Q
section
variable {X : Cx} {k : Nat} {f : Addr} {fd : FuncData} {ps : List Str} {sp : DSp} {x : Str} {p pos : Pos} {e : Expr} {es : List Expr} {t : TDA}
theorem je_call (F : FnOk X.prog X.w X.K X.mg X.base CX0 k f fd ps (toSp X.K sp)) (hr : Room k X.A) (hg : Gl X x) (hm : X.mg x = some (.ref f)) (hk : PySem.W.keepIn X.K (.ref f) = true) (hb : Binds X.K fd ps [])
    (ha : JA X (e :: es) t) (hdb : (x == ("__debug__" : Str)) = false := by decide) (he : starEach (e :: es) X.env = (false, eval e X.env) :: starEach es X.env := by rfl) (hpl : (backTo pos (starEach es X.env)).any (·.1) = false := by rfl) :
    JE X (.Call (.Name x p) (e :: es) [] pos) (dCall sp t) := by
  obtain ⟨u, q, g⟩ := ha
  refine je_pe (pe_call F hr hg hm hk hb .nil pass0 q hdb he hpl) fun ds σ H M Q Q0 s m q k => ?_
  refine g ds σ H M _ _ s m q fun vs H1 es M1 r1 m1 g1 q1 => ?_
  rw [List.append_nil]
  exact ⟨es, M1, Q, H1, rfl, r1, m1, q1, fun v H' d M' r' m' g' q' => k v H' d M' r' m' (g1.trans g') q'⟩
theorem je_call0 (F : FnOk X.prog X.w X.K X.mg X.base CX0 k f fd ps (toSp X.K sp)) (hr : Room k X.A) (hg : Gl X x) (hm : X.mg x = some (.ref f)) (hk : PySem.W.keepIn X.K (.ref f) = true) (hb : Binds X.K fd ps [])
    (hdb : (x == ("__debug__" : Str)) = false := by decide) :
    JE X (.Call (.Name x p) [] [] pos) (dCall sp dNil) := by
  refine je_pe (pe_call0 F hr hg hm hk hb .nil pass0 hdb) fun ds σ H M Q Q0 s m q k => ?_
  exact ⟨[], M, Q, H, rfl, .nil, m, q, fun v H' d M' r' m' g' q' => k v H' d M' r' m' g' q'⟩
end
/-- what is not known behind is frozen -/
def frzF (M' M2 : Mm) (H : HF) : HF := ⟨H.h, fun a => H.F a ∨ ((∃ o, M' a = some o) ∧ M2 a = none)⟩
mutual
inductive FzD (M' M2 : Mm) : D → D → Prop
  | refl (d : D) : FzD M' M2 d d
  | lst {a : Addr} {xs ys : List D} : M' a = some (.lst xs) → M2 a = none → FzDs M' M2 xs ys → FzD M' M2 (.ref a) (.lst ys)
  | dic {a : Addr} {xs ys : List (Key × D)} : M' a = some (.dic xs) → M2 a = none → FzKs M' M2 xs ys → FzD M' M2 (.ref a) (.dic ys)
  | tup {xs ys : List D} : FzDs M' M2 xs ys → FzD M' M2 (.tup xs) (.tup ys)
inductive FzDs (M' M2 : Mm) : List D → List D → Prop
  | refl (d : List D) : FzDs M' M2 d d
  | cons {x y : D} {xs ys : List D} : FzD M' M2 x y → FzDs M' M2 xs ys → FzDs M' M2 (x :: xs) (y :: ys)
inductive FzKs (M' M2 : Mm) : List (Key × D) → List (Key × D) → Prop
  | refl (d : List (Key × D)) : FzKs M' M2 d d
  | cons {k : Key} {x y : D} {xs ys : List (Key × D)} : FzD M' M2 x y → FzKs M' M2 xs ys → FzKs M' M2 ((k, x) :: xs) ((k, y) :: ys)
end
section
variable {K : PySem.W.Frag} {M' M2 M : Mm} {H H0 : HF}
theorem TX.frz : TX K H (frzF M' M2 H) := ⟨fun _ _ h => h, fun _ _ f h => ⟨.inl f, h⟩⟩
mutual
theorem FzD.vr (m : MR K M' H) : ∀ {d d2 : D} {v : V}, FzD M' M2 d d2 → VR K H d v → VR K (frzF M' M2 H) d2 v
  | _, _, _, .refl _, r => VR.mono TX.frz _ _ r
  | _, _, _, .lst h n q, r => by
    cases r
    obtain ⟨vs, h1, r1⟩ := m.ob _ _ h
    exact .lst h1 (.inr ⟨⟨_, h⟩, n⟩) (FzDs.vr m q r1)
  | _, _, _, .dic h n q, r => by
    cases r
    obtain ⟨vs, h1, r1⟩ := m.ob _ _ h
    exact .dic h1 (.inr ⟨⟨_, h⟩, n⟩) (FzKs.vr m q r1.kr)
  | _, _, _, .tup q, r => by
    cases r with
    | tup h r1 => exact .tup h (FzDs.vr m q r1)
theorem FzDs.vr (m : MR K M' H) : ∀ {d d2 : List D} {v : List V}, FzDs M' M2 d d2 → VRs K H d v → VRs K (frzF M' M2 H) d2 v
  | _, _, _, .refl _, r => VRs.mono TX.frz _ _ r
  | _, _, _, .cons a b, .cons r1 r2 => .cons (FzD.vr m a r1) (FzDs.vr m b r2)
theorem FzKs.vr (m : MR K M' H) : ∀ {d d2 : List (Key × D)} {v : List (Key × V)}, FzKs M' M2 d d2 → KRs K H d v → KRs K (frzF M' M2 H) d2 v
  | _, _, _, .refl _, r => KRs.mono TX.frz _ _ r
  | _, _, _, .cons a b, .cons r1 r2 => .cons (FzD.vr m a r1) (FzKs.vr m b r2)
end
theorem MR.frz (m : MR K M' H) (s : Sub M2 M') : MR K M2 (frzF M' M2 H) := ⟨fun a o e => (m.ob a o (s a o e)).mono TX.frz rfl, fun a f => by
  rcases f with f | f
  · exact s.none (m.nf a f)
  · exact f.2, fun a f => by
  rcases f with f | ⟨⟨o, e⟩, _⟩
  · exact m.sm a f
  · have q := m.ob a o e
    cases o with
    | lst _ => obtain ⟨vs, q, _⟩ := q; exact ⟨_, q⟩
    | dic _ => obtain ⟨vs, q, _⟩ := q; exact ⟨_, q⟩
    | ins _ _ => obtain ⟨_, vs, q, _⟩ := q; exact ⟨_, q⟩
    | xd _ => obtain ⟨vs, q, _⟩ := q; exact ⟨_, q⟩⟩
theorem GG.frz (g : GG M H0 M' H) (s : Sub M2 M') : GG M H0 M2 (frzF M' M2 H) := by
  refine ⟨fun a o e n => ?_, g.al⟩
  obtain ⟨h1, n1, f1⟩ := g.fr a o e n
  refine ⟨h1, s.none n1, ⟨fun x => ?_, fun x => .inl (f1.mpr x)⟩⟩
  rcases x with x | ⟨⟨o, e⟩, _⟩
  · exact f1.mp x
  · rw [n1] at e
    cases e
end
/-- at a def's end the store may be forgotten in part; what is forgotten may be frozen -/
def Shr (R : DQ) : DQ := fun d M' => ∃ M2 d2, Sub M2 M' ∧ FzD M' M2 d d2 ∧ R d2 M2
theorem Shr.of {R : DQ} {d : D} {M' M2 : Mm} (h : R d M2) (s : Sub M2 M') : Shr R d M' := ⟨M2, d, s, .refl d, h⟩
theorem Shr.all {R : DQ} {d : D} {M : Mm} (h : R d M) : Shr R d M := ⟨M, d, Sub.refl, .refl d, h⟩
/-- a list that is given out, frozen -/
theorem Shr.frz {R : DQ} {p : Addr} {M' M2 : Mm} {xs : List D} (e : lstOf M' p = some xs) (s : Sub M2 M') (n : M2 p = none) (h : R (.lst xs) M2) : Shr R (.ref p) M' := ⟨M2, .lst xs, s, .lst (of_lstOf e) n (.refl _), h⟩
theorem sub_new {M M' : Mm} {p : Addr} {o : MO} (s : Sub M M') (n : M p = none) : Sub M (mup M' p o) := fun a u e => by
  rw [mup_ne]
  · exact s a u e
  · rintro rfl; rw [n] at e; cases e
def dstart (N : List Str) (ds : List D) : DSt := ds.map some ++ List.replicate (N.length - ds.length) none
theorem SR.start {K : PySem.W.Frag} {H : HF} {N : List Str} {ds : List D} {vs : List V} (r : VRs K H ds vs) : SR K H (dstart N ds) (L2.start N vs) := by
  unfold dstart L2.start
  rw [r.length]
  refine ⟨by simp [r.length], fun i d h => ?_⟩
  by_cases hi : i < vs.length
  · rw [List.getElem?_append_left (by rw [List.length_map, r.length]; exact hi), List.getElem?_map] at h
    obtain ⟨d', h1, h2⟩ := Option.map_eq_some_iff.mp h
    cases h2
    obtain ⟨v, h3, h4⟩ := r.get h1
    exact ⟨v, by rw [List.getElem?_append_left (by rw [List.length_map]; exact hi), List.getElem?_map, h3] <;> rfl, h4⟩
  · rw [List.getElem?_append_right (by rw [List.length_map, r.length]; omega)] at h
    rw [List.getElem?_replicate] at h
    split at h
    · cases h
    · cases h
section
variable {P : Program} {w : World} {K : PySem.W.Frag} {mg : Str → Option Value} {base : Heap}
/-- THE RULE for a def, its promise by data -/
theorem fn_ok {x qual : Str} {st : Stmt} {f : Addr} {fd : FuncData} {N ps : List Str} {k : Nat} {sp : DSp} (F : Fun K x qual st f fd) (S : FnScope N ps (defScope st)) (len : ∀ ds M R, sp ds M R → ds.length = ps.length)
    (body : ∀ (cdv : Value) (A : Around) (outer : List Env) (s : Shared) (H : Hp) (E : XK), Room k (A.deeper (PyProof.Rows.envOfC qual (defScope st) s.heap.objs.size f cdv)) →
      ∃ t, JB (cxOf CX0 P w K mg base N qual (defScope st) f cdv A outer s H E).nox (fun _ _ _ _ => False) (defBody st) t ∧ ∀ (ds : List D) (M : Mm) (R : DQ), sp ds M R → t { nx := fun _ M' => Shr R .non M', rt := Shr R } (dstart N ds) M) : FnOk P w K mg base CX0 (k + 1) f fd ps (toSp K sp) := by
  refine F.ok S (fun vs H Q E h => ?_) fun cdv A outer s H vs Q E hr h => ?_
  · obtain ⟨ds, M, R, H, _, r, _, h, _⟩ := h
    rw [← r.length]
    exact len ds M R h
  · obtain ⟨ds, M, R, H, rfl, r, m, h, k⟩ := h
    obtain ⟨t, ⟨t0, p, g⟩, hb⟩ := body cdv A outer s H.h E hr
    refine ⟨t0, p, ?_⟩
    refine g M H _ _ ⟨?_, ?_, ?_, ?_, ?_⟩ (dstart N ds) (L2.start N vs) H M GG.refl (SR.start r) m (hb ds M R h)
    · rintro σ ds' H' M' gg s' m' ⟨M2, d2, sb, fz, q⟩
      exact k _ (frzF M' M2 H') d2 M2 (fz.vr m' .non) (m'.frz sb) (gg.frz sb) q
    · rintro v d H' M' gg r' m' ⟨M2, d2, sb, fz, q⟩
      exact k v (frzF M' M2 H') d2 M2 (fz.vr m' r') (m'.frz sb) (gg.frz sb) q
    · intro _ _ _ _ _ _ _ q
      exact q.elim
    · intro _ _ _ _ _ _ _ q
      exact q.elim
    · intro _ _ _ _ _ _ _ _ _ _ _ _ q
      exact q.elim
end
end DM

namespace DM
open PySem L2
open PyProof.Rows (b2i)

/-! ### calls of built-ins -/
abbrev DRC := List D → Mm → DQ → Prop
def LiftC (K : PySem.W.Frag) (r : List V → Hp → VK → Prop) (dr : DRC) : Prop := ∀ (vs : List V) (ds : List D) (H : HF) (M : Mm) (Q : DQ) (Q0 : VK), VRs K H ds vs → MR K M H → dr ds M Q →
  (∀ v H' d M', VR K H' d v → MR K M' H' → GG M H M' H' → Q d M' → Q0 v H'.h) → r vs H.h Q0
def dCB (r : DRC) (t : TDA) : TDE := fun ds M Q => t ds M fun xs M1 => r xs M1 Q
/-- over a list of its own -/
def LiftL (K : PySem.W.Frag) (r : List V → Hp → VK → Prop) (lr : DRC) : Prop := ∀ (p : Addr) (vs : List V) (xs : List D) (H : HF) (M : Mm) (Q : DQ) (Q0 : VK), H.h p = some (.lst vs) → VRs K H xs vs → MR K M H → lr xs M Q →
  (∀ v H' d M', VR K H' d v → MR K M' H' → GG M H M' H' → Q d M' → Q0 v H'.h) → r [.ref p] H.h Q0
/-- a built-in over one list -/
def ofLst (r : DRC) : DRC := fun xs M Q => match xs with
  | [x] => (match rdL M x with | some ys => r ys M Q | none => False)
  | _ => False
section
variable {X : Cx} {id T : String} {x : Str} {r : List V → Hp → VK → Prop} {dr : DRC} {p pos : Pos} {e : Expr} {es : List Expr} {t : TDA}
theorem je_callB (hc : CallR X (.builtin id) r) (hl : LiftC X.K r dr) (hg : Gl X x) (hm : X.mg x = none) (hv : bootBuiltins x = some (.builtin id)) (ha : JA X (e :: es) t) (hn : x ≠ "__name__" := by decide) (hdb : (x == ("__debug__" : Str)) = false := by decide)
    (he : starEach (e :: es) X.env = (false, eval e X.env) :: starEach es X.env := by rfl) (hpl : (backTo pos (starEach es X.env)).any (·.1) = false := by rfl) : JE X (.Call (.Name x p) (e :: es) [] pos) (dCB dr t) := by
  obtain ⟨u, q, g⟩ := ha
  refine je_pe (pe_callB hc hg hm hv q hn hdb he hpl) fun ds σ H M Q Q0 s m q k => ?_
  refine g ds σ H M _ _ s m q fun vs H1 es M1 r1 m1 g1 q1 => ?_
  exact hl vs es H1 M1 Q Q0 r1 m1 q1 fun v H' d M' r' m' g' q' => k v H' d M' r' m' (g1.trans g') q'
theorem je_callTy (hc : CallR X (.type T) r) (hl : LiftC X.K r dr) (hg : Gl X x) (hm : X.mg x = none) (hv : bootBuiltins x = some (.type T)) (ha : JA X (e :: es) t) (hn : x ≠ "__name__" := by decide) (hdb : (x == ("__debug__" : Str)) = false := by decide)
    (he : starEach (e :: es) X.env = (false, eval e X.env) :: starEach es X.env := by rfl) (hpl : (backTo pos (starEach es X.env)).any (·.1) = false := by rfl) : JE X (.Call (.Name x p) (e :: es) [] pos) (dCB dr t) := by
  obtain ⟨u, q, g⟩ := ha
  refine je_pe (pe_callTy hc hg hm hv q hn hdb he hpl) fun ds σ H M Q Q0 s m q k => ?_
  refine g ds σ H M _ _ s m q fun vs H1 es M1 r1 m1 g1 q1 => ?_
  exact hl vs es H1 M1 Q Q0 r1 m1 q1 fun v H' d M' r' m' g' q' => k v H' d M' r' m' (g1.trans g') q'
end

/-! len -/
def lenR : DRC := fun xs M Q => match xs with
  | [.tup ys] => Q (.int ys.length) M
  | [.str z] => z.length ≤ sizeLine ∧ Q (.int z.length) M
  | [.ref a] => (match M a with | some (.lst ys) => Q (.int ys.length) M | some (.dic kvs) => Q (.int kvs.length) M | _ => False)
  | [.lst ys] => Q (.int ys.length) M
  | [.dic ys] => Q (.int ys.length) M
  | _ => False
def lenT (K : PySem.W.Frag) : List V → Hp → VK → Prop := fun xs H Q => (∃ x n, xs = [x] ∧ LenV K x H n ∧ Q (.int n) H) ∨ ∃ a kvs, xs = [V.ref a] ∧ H a = some (.dK kvs) ∧ Q (.int kvs.length) H
theorem call_lenT {X : Cx} : CallR X (.builtin "len") (lenT X.K) := call_len.or call_lenD
theorem VRs.one {K : PySem.W.Frag} {H : HF} {d : D} {vs : List V} (r : VRs K H [d] vs) : ∃ v, vs = [v] ∧ VR K H d v := by
  cases r with
  | cons r1 r2 => cases r2; exact ⟨_, rfl, r1⟩
theorem VRs.two {K : PySem.W.Frag} {H : HF} {d e : D} {vs : List V} (r : VRs K H [d, e] vs) : ∃ v w, vs = [v, w] ∧ VR K H d v ∧ VR K H e w := by
  cases r with
  | cons r1 r2 =>
    obtain ⟨w, rfl, r4⟩ := r2.one
    exact ⟨_, _, rfl, r1, r4⟩
theorem FR.length {K : PySem.W.Frag} {H : HF} {κ : Type} : ∀ {ds : List (κ × D)} {vs : List (κ × V)}, FR K H ds vs → ds.length = vs.length
  | _, _, .nil => rfl
  | _, _, .cons _ q => by simp [FR.length q]
theorem lift_len {K : PySem.W.Frag} : LiftC K (lenT K) lenR := by
  intro vs ds H M Q Q0 r m h k
  cases r with
  | nil => exact h.elim
  | cons r1 r2 =>
    rename_i d v _ _
    cases r2 with
    | cons _ _ => cases d <;> exact h.elim
    | nil =>
      cases d with
      | tup ys =>
        obtain ⟨a, us, rfl, sa, ra⟩ := r1.tup_v
        exact .inl ⟨_, _, rfl, .inr ⟨us, sa, rfl⟩, by rw [← ra.length]; exact k _ H _ M (.int _) m GG.refl h⟩
      | str z =>
        cases r1.str_v
        exact .inl ⟨_, _, rfl, ⟨h.1, rfl⟩, k _ H _ M (.int _) m GG.refl h.2⟩
      | ref a =>
        cases r1.ref_v
        unfold lenR at h
        simp only at h
        split at h
        · rename_i ys e
          obtain ⟨us, h1, r3⟩ := m.ob a _ e
          exact .inl ⟨_, _, rfl, .inl ⟨us, SqL.of h1, rfl⟩, by rw [← r3.length]; exact k _ H _ M (.int _) m GG.refl h⟩
        · rename_i kvs e
          obtain ⟨us, h1, r3⟩ := m.ob a _ e
          exact .inr ⟨a, us, rfl, h1, by rw [← r3.length]; exact k _ H _ M (.int _) m GG.refl h⟩
        · exact h.elim
      | lst ys =>
        obtain ⟨a, us, rfl, h1, _, r3⟩ := r1.lst_v
        exact .inl ⟨_, _, rfl, .inl ⟨us, SqL.of h1, rfl⟩, by rw [← r3.length]; exact k _ H _ M (.int _) m GG.refl h⟩
      | dic ys =>
        obtain ⟨a, us, rfl, h1, _, r3⟩ := r1.dic_v
        exact .inr ⟨a, us, rfl, h1, by rw [← r3.length]; exact k _ H _ M (.int _) m GG.refl h⟩
      | _ => exact h.elim
/-! int, str of an int -/
def int1R : DRC := fun xs M Q => match xs with
  | [.int i] => Q (.int i) M
  | [.bl b] => Q (.int (if b then 1 else 0)) M
  | _ => False
theorem lift_int1 {K : PySem.W.Frag} : LiftC K (fun xs H Q => (∃ i, xs = [.int i] ∧ Q (.int i) H) ∨ ∃ k, xs = [.bl k] ∧ Q (.int (if k then 1 else 0)) H) int1R := by
  intro vs ds H M Q Q0 r m h k
  cases r with
  | nil => exact h.elim
  | cons r1 r2 =>
    rename_i d v _ _
    cases r2 with
    | cons _ _ => cases d <;> exact h.elim
    | nil =>
      cases d with
      | int i => cases r1.int_v; exact .inl ⟨i, rfl, k _ H _ M (.int _) m GG.refl h⟩
      | bl i => cases r1.bl_v; exact .inr ⟨i, rfl, k _ H _ M (.int _) m GG.refl h⟩
      | _ => exact h.elim
def str1R : DRC := fun xs M Q => match xs with
  | [.int i] => i.natAbs.log2 < 1920 ∧ Q (.str (toString i)) M
  | _ => False
theorem lift_str1 {K : PySem.W.Frag} : LiftC K (fun xs H Q => ∃ i, xs = [.int i] ∧ i.natAbs.log2 < 1920 ∧ Q (.str (toString i)) H) str1R := by
  intro vs ds H M Q Q0 r m h k
  cases r with
  | nil => exact h.elim
  | cons r1 r2 =>
    rename_i d v _ _
    cases r2 with
    | cons _ _ => cases d <;> exact h.elim
    | nil =>
      cases d with
      | int i => cases r1.int_v; exact ⟨i, rfl, h.1, k _ H _ M (.str _) m GG.refl h.2⟩
      | _ => exact h.elim
/-! isinstance -/
def tyName (M : Mm) : D → String
  | .non => "NoneType"
  | .bl _ => "bool"
  | .int _ => "int"
  | .str _ => "str"
  | .tup _ => "tuple"
  | .ref a => (match M a with | some (.lst _) => "list" | some (.dic _) => "dict" | _ => "?")
  | .ty _ => "?"
  | .lst _ => "list"
  | .dic _ => "dict"
def isiB (a n : String) : Bool := a == n || (a == "bool" && n == "int")
def isiOk (a n : String) : Bool := ["NoneType", "bool", "int", "str", "tuple", "list", "dict"].contains a && ["bool", "int", "str", "tuple", "list", "dict"].contains n
theorem isi_tab : ∀ a ∈ ["NoneType", "bool", "int", "str", "tuple", "list", "dict"], ∀ n ∈ ["bool", "int", "str", "tuple", "list", "dict"], kitB a n = some (isiB a n) := by decide +kernel
theorem kitB_of {a n : String} (h : isiOk a n = true) : kitB a n = some (isiB a n) := by
  unfold isiOk at h
  rw [Bool.and_eq_true] at h
  exact isi_tab a (by simpa using h.1) n (by simpa using h.2)
def isiR : DRC := fun xs M Q => match xs with
  | [x, .ty n] => isiOk (tyName M x) n = true ∧ Q (.bl (isiB (tyName M x) n)) M
  | _ => False
theorem tyX_of {K : PySem.W.Frag} {H : HF} {M : Mm} {d : D} {v : V} (r : VR K H d v) (m : MR K M H) (h : tyName M d ≠ "?") : TyX K H.h v (.type (tyName M d)) := by
  cases r with
  | non => exact .base .non
  | bl b => exact .base (.bl b)
  | int b => exact .base (.int b)
  | str b => exact .base (.str b)
  | ty n => exact absurd rfl h
  | lst h1 f1 ra => exact .base (.lst h1)
  | dic h1 f1 ra => exact .base (.dK h1)
  | tup sa ra =>
    show TyX K H.h _ (.type "tuple")
    rcases sa with (sa | ⟨o, sa⟩) | ⟨o, its, n, hk, hc, _⟩
    · exact .base (.tup sa)
    · exact .fTuple sa
    · exact .kTuple hk hc
  | ref a =>
    have e0 : tyName M (.ref a) = (match M a with | some (.lst _) => "list" | some (.dic _) => "dict" | _ => "?") := by unfold tyName; rfl
    rw [e0] at h ⊢
    cases e : M a with
    | none => rw [e] at h; exact absurd rfl h
    | some o =>
      cases o with
      | lst ys =>
        obtain ⟨us, h1, r3⟩ := m.ob a _ e
        exact .base (.lst h1)
      | dic kvs =>
        obtain ⟨us, h1, r3⟩ := m.ob a _ e
        exact .base (.dK h1)
      | ins _ _ => rw [e] at h; exact absurd rfl h
      | xd _ => rw [e] at h; exact absurd rfl h
theorem lift_isi {K : PySem.W.Frag} : LiftC K (rIsi K) isiR := by
  intro vs ds H M Q Q0 r m h k
  cases r with
  | nil => exact h.elim
  | cons r1 r2 =>
    cases r2 with
    | nil => exact h.elim
    | cons r2 r3 =>
      rename_i d v e w _ _
      cases r3 with
      | cons _ _ => cases e <;> exact h.elim
      | nil =>
        cases e with
        | ty n =>
          cases r2.ty_v
          obtain ⟨ok, h⟩ := h
          have hne : tyName M d ≠ "?" := by
            intro z
            rw [z] at ok
            unfold isiOk at ok
            rw [Bool.and_eq_true] at ok
            exact absurd ok.1 (by decide)
          exact ⟨v, .ty n, _, _, _, rfl, .ty n, tyX_of r1 m hne, kit_ty (kitB_of ok), k _ H _ M (.bl _) m GG.refl h⟩
        | _ => exact h.elim
/-! tuple, list, sum, all, any -/
/-- a tuple, a list -/
def rdS (M : Mm) : D → Option (List D)
  | .tup xs => some xs
  | .lst xs => some xs
  | .ref a => lstOf M a
  | _ => none
@[simp] theorem rdS_tup {M : Mm} {xs : List D} : rdS M (.tup xs) = some xs := rfl
@[simp] theorem rdS_lst {M : Mm} {xs : List D} : rdS M (.lst xs) = some xs := rfl
@[simp] theorem rdS_ref {M : Mm} {a : Addr} : rdS M (.ref a) = lstOf M a := rfl
theorem rdS_v {K : PySem.W.Frag} {M : Mm} {H : HF} {d : D} {v : V} {xs : List D} (m : MR K M H) (r : VR K H d v) (e : rdS M d = some xs) : ∃ a vs, v = .ref a ∧ VRs K H xs vs ∧ ((d = .tup xs ∧ SqT K H.h a vs) ∨ H.h a = some (.lst vs)) := by
  cases d with
  | tup ys =>
    cases e
    obtain ⟨a, vs, rfl, h, q⟩ := r.tup_v
    exact ⟨a, vs, rfl, q, .inl ⟨rfl, h⟩⟩
  | lst ys =>
    cases e
    obtain ⟨a, vs, rfl, h, _, q⟩ := r.lst_v
    exact ⟨a, vs, rfl, q, .inr h⟩
  | ref a =>
    cases r.ref_v
    obtain ⟨vs, h1, r1⟩ := m.ob a _ (of_lstOf e)
    exact ⟨a, vs, rfl, r1, .inr h1⟩
  | _ => cases e
def tup1R : DRC := fun xs M Q => match xs with
  | [x] => (match rdS M x with | some ys => Q (.tup ys) M | none => False)
  | _ => False
def tup1T (K : PySem.W.Frag) : List V → Hp → VK → Prop := fun xs H Q => ∃ p ys, xs = [.ref p] ∧ ((SqL K H p ys ∧ ∀ l, H l = none → Q (.ref l) (upd H l (.tup ys))) ∨ (SqT K H p ys ∧ Q (.ref p) H))
theorem lift_tup1 {K : PySem.W.Frag} : LiftC K (tup1T K) tup1R := by
  intro vs ds H M Q Q0 r m h k
  unfold tup1R at h
  split at h
  · split at h
    · rename_i x ys e
      obtain ⟨v, rfl, r1⟩ := r.one
      obtain ⟨a, us, rfl, ra, h1 | h1⟩ := rdS_v m r1 e
      · rw [h1.1] at r1
        exact ⟨a, us, rfl, .inr ⟨h1.2, k _ H _ M r1 m GG.refl h⟩⟩
      · exact ⟨a, us, rfl, .inl ⟨SqL.of h1, fun l hl => k _ (H.up l _) _ M (.tup (SqT.of upd_same) (VRs.mono (TX.new m hl) _ _ ra)) (m.newT hl) (GG.newT hl) h⟩⟩
    · exact h.elim
  · exact h.elim
/-- the ints, bools, texts of a list -/
def intsOf : List D → Option (List Int)
  | [] => some []
  | .int i :: r => (intsOf r).map (i :: ·)
  | _ => none
def blsOf : List D → Option (List Bool)
  | [] => some []
  | .bl i :: r => (blsOf r).map (i :: ·)
  | _ => none
def strsOf : List D → Option (List Str)
  | [] => some []
  | .str i :: r => (strsOf r).map (i :: ·)
  | _ => none
theorem intsOf_v {K : PySem.W.Frag} {H : HF} : ∀ {ds : List D} {vs : List V} {ns : List Int}, VRs K H ds vs → intsOf ds = some ns → vs = ns.map V.int
  | [], _, _, r, h => by cases r; simp [intsOf] at h; subst h; rfl
  | d :: ds, _, ns, r, h => by
    cases r with
    | cons r1 r2 =>
      cases d with
      | int i =>
        simp only [intsOf, Option.map_eq_some_iff] at h
        obtain ⟨ms, h1, rfl⟩ := h
        rw [r1.int_v, intsOf_v r2 h1]
        rfl
      | _ => simp [intsOf] at h
theorem blsOf_v {K : PySem.W.Frag} {H : HF} : ∀ {ds : List D} {vs : List V} {ns : List Bool}, VRs K H ds vs → blsOf ds = some ns → vs = ns.map V.bl
  | [], _, _, r, h => by cases r; simp [blsOf] at h; subst h; rfl
  | d :: ds, _, ns, r, h => by
    cases r with
    | cons r1 r2 =>
      cases d with
      | bl i =>
        simp only [blsOf, Option.map_eq_some_iff] at h
        obtain ⟨ms, h1, rfl⟩ := h
        rw [r1.bl_v, blsOf_v r2 h1]
        rfl
      | _ => simp [blsOf] at h
theorem strsOf_v {K : PySem.W.Frag} {H : HF} : ∀ {ds : List D} {vs : List V} {ns : List Str}, VRs K H ds vs → strsOf ds = some ns → vs = ns.map V.str
  | [], _, _, r, h => by cases r; simp [strsOf] at h; subst h; rfl
  | d :: ds, _, ns, r, h => by
    cases r with
    | cons r1 r2 =>
      cases d with
      | str i =>
        simp only [strsOf, Option.map_eq_some_iff] at h
        obtain ⟨ms, h1, rfl⟩ := h
        rw [r1.str_v, strsOf_v r2 h1]
        rfl
      | _ => simp [strsOf] at h
theorem intsOf_map {α : Type} (f : α → Int) : ∀ l : List α, intsOf (l.map fun x => D.int (f x)) = some (l.map f)
  | [] => rfl
  | a :: l => by rw [List.map_cons, intsOf, intsOf_map f l]; rfl
theorem blsOf_map {α : Type} (f : α → Bool) : ∀ l : List α, blsOf (l.map fun x => D.bl (f x)) = some (l.map f)
  | [] => rfl
  | a :: l => by rw [List.map_cons, blsOf, blsOf_map f l]; rfl
theorem strsOf_map {α : Type} (f : α → Str) : ∀ l : List α, strsOf (l.map fun x => D.str (f x)) = some (l.map f)
  | [] => rfl
  | a :: l => by rw [List.map_cons, strsOf, strsOf_map f l]; rfl
def sumLR : DRC := fun xs M Q => match intsOf xs with | some ns => Q (.int ns.sum) M | none => False
def allLR : DRC := fun xs M Q => match blsOf xs with | some bs => Q (.bl (bs.all id)) M | none => False
def anyLR : DRC := fun xs M Q => match blsOf xs with | some bs => Q (.bl (bs.any id)) M | none => False
theorem lift_sumL {K : PySem.W.Frag} : LiftL K (rSum K) sumLR := by
  intro p vs xs H M Q Q0 hp r m h k
  unfold sumLR at h
  split at h
  · rename_i ns e
    exact ⟨p, ns, rfl, by rw [← intsOf_v r e]; exact SqL.of hp, k _ H _ M (.int _) m GG.refl h⟩
  · exact h.elim
theorem lift_allL {K : PySem.W.Frag} : LiftL K (rAll K) allLR := by
  intro p vs xs H M Q Q0 hp r m h k
  unfold allLR at h
  split at h
  · rename_i ns e
    exact ⟨p, ns, rfl, by rw [← blsOf_v r e]; exact SqL.of hp, k _ H _ M (.bl _) m GG.refl h⟩
  · exact h.elim
theorem lift_anyL {K : PySem.W.Frag} : LiftL K (rAny K) anyLR := by
  intro p vs xs H M Q Q0 hp r m h k
  unfold anyLR at h
  split at h
  · rename_i ns e
    exact ⟨p, ns, rfl, by rw [← blsOf_v r e]; exact SqL.of hp, k _ H _ M (.bl _) m GG.refl h⟩
  · exact h.elim
theorem lift_ofL {K : PySem.W.Frag} {r : List V → Hp → VK → Prop} {lr : DRC} (h : LiftL K r lr) : LiftC K r (ofLst lr) := by
  intro vs ds H M Q Q0 rr m q k
  unfold ofLst at q
  split at q
  · split at q
    · rename_i x ys e
      obtain ⟨v, rfl, r1⟩ := rr.one
      obtain ⟨a, us, rfl, h1, r3⟩ := rdL_v m r1 e
      exact h a us ys H M Q Q0 h1 r3 m q k
    · exact q.elim
  · exact q.elim
/-! max, min of two ints -/
def max2R : DRC := fun xs M Q => match xs with | [.int i, .int j] => Q (.int (if j > i then j else i)) M | _ => False
def min2R : DRC := fun xs M Q => match xs with | [.int i, .int j] => Q (.int (if j < i then j else i)) M | _ => False
theorem lift_max2 {K : PySem.W.Frag} : LiftC K (fun xs H Q => ∃ i j, xs = [.int i, .int j] ∧ Q (.int (if j > i then j else i)) H) max2R := by
  intro vs ds H M Q Q0 r m h k
  unfold max2R at h
  split at h
  · obtain ⟨v, w, rfl, r1, r2⟩ := r.two
    cases r1.int_v
    cases r2.int_v
    exact ⟨_, _, rfl, k _ H _ M (.int _) m GG.refl h⟩
  · exact h.elim
theorem lift_min2 {K : PySem.W.Frag} : LiftC K (fun xs H Q => ∃ i j, xs = [.int i, .int j] ∧ Q (.int (if j < i then j else i)) H) min2R := by
  intro vs ds H M Q Q0 r m h k
  unfold min2R at h
  split at h
  · obtain ⟨v, w, rfl, r1, r2⟩ := r.two
    cases r1.int_v
    cases r2.int_v
    exact ⟨_, _, rfl, k _ H _ M (.int _) m GG.refl h⟩
  · exact h.elim
section
variable {X : Cx} {p pos : Pos} {e f : Expr} {es : List Expr} {t : TDA} {tl : TDL}
theorem je_len (hm : X.mg "len" = none) (ha : JA X (e :: es) t) (hg : Gl X "len" := by rfl) (he : starEach (e :: es) X.env = (false, eval e X.env) :: starEach es X.env := by rfl) (hpl : (backTo pos (starEach es X.env)).any (·.1) = false := by rfl) :
    JE X (.Call (.Name "len" p) (e :: es) [] pos) (dCB lenR t) := je_callB call_lenT lift_len hg hm PySem.boot_len ha (by decide) (by decide) he hpl
theorem je_int1 (hm : X.mg "int" = none) (ha : JA X (e :: es) t) (hg : Gl X "int" := by rfl) (he : starEach (e :: es) X.env = (false, eval e X.env) :: starEach es X.env := by rfl) (hpl : (backTo pos (starEach es X.env)).any (·.1) = false := by rfl) :
    JE X (.Call (.Name "int" p) (e :: es) [] pos) (dCB int1R t) := je_callTy call_int1 lift_int1 hg hm PyProof.Rows.boot_int ha (by decide) (by decide) he hpl
theorem je_str1 (hm : X.mg "str" = none) (ha : JA X (e :: es) t) (hg : Gl X "str" := by rfl) (he : starEach (e :: es) X.env = (false, eval e X.env) :: starEach es X.env := by rfl) (hpl : (backTo pos (starEach es X.env)).any (·.1) = false := by rfl) :
    JE X (.Call (.Name "str" p) (e :: es) [] pos) (dCB str1R t) := je_callTy call_str_int lift_str1 hg hm PyProof.Rows.boot_str ha (by decide) (by decide) he hpl
theorem je_isi (hm : X.mg "isinstance" = none) (ha : JA X (e :: es) t) (hg : Gl X "isinstance" := by rfl) (he : starEach (e :: es) X.env = (false, eval e X.env) :: starEach es X.env := by rfl) (hpl : (backTo pos (starEach es X.env)).any (·.1) = false := by rfl) :
    JE X (.Call (.Name "isinstance" p) (e :: es) [] pos) (dCB isiR t) := je_callB call_isi lift_isi hg hm PyProof.Rows.boot_isinstance ha (by decide) (by decide) he hpl
theorem je_tuple (hm : X.mg "tuple" = none) (ha : JA X (e :: es) t) (hg : Gl X "tuple" := by rfl) (he : starEach (e :: es) X.env = (false, eval e X.env) :: starEach es X.env := by rfl) (hpl : (backTo pos (starEach es X.env)).any (·.1) = false := by rfl) :
    JE X (.Call (.Name "tuple" p) (e :: es) [] pos) (dCB tup1R t) := je_callTy call_tuple_of lift_tup1 hg hm PyProof.Rows.boot_tuple ha (by decide) (by decide) he hpl
theorem je_sum (hc : X.calm = true) (hm : X.mg "sum" = none) (ha : JA X (e :: es) t) (hg : Gl X "sum" := by rfl) (he : starEach (e :: es) X.env = (false, eval e X.env) :: starEach es X.env := by rfl) (hpl : (backTo pos (starEach es X.env)).any (·.1) = false := by rfl) :
    JE X (.Call (.Name "sum" p) (e :: es) [] pos) (dCB (ofLst sumLR) t) := je_callB (cr_sum hc) (lift_ofL lift_sumL) hg hm PyProof.Rows.boot_sum ha (by decide) (by decide) he hpl
theorem je_all (hc : X.calm = true) (hm : X.mg "all" = none) (ha : JA X (e :: es) t) (hg : Gl X "all" := by rfl) (he : starEach (e :: es) X.env = (false, eval e X.env) :: starEach es X.env := by rfl) (hpl : (backTo pos (starEach es X.env)).any (·.1) = false := by rfl) :
    JE X (.Call (.Name "all" p) (e :: es) [] pos) (dCB (ofLst allLR) t) := je_callB (cr_all hc) (lift_ofL lift_allL) hg hm PyProof.Rows.boot_all ha (by decide) (by decide) he hpl
theorem je_any (hc : X.calm = true) (hm : X.mg "any" = none) (ha : JA X (e :: es) t) (hg : Gl X "any" := by rfl) (he : starEach (e :: es) X.env = (false, eval e X.env) :: starEach es X.env := by rfl) (hpl : (backTo pos (starEach es X.env)).any (·.1) = false := by rfl) :
    JE X (.Call (.Name "any" p) (e :: es) [] pos) (dCB (ofLst anyLR) t) := je_callB (cr_any hc) (lift_ofL lift_anyL) hg hm PyProof.Rows.boot_any ha (by decide) (by decide) he hpl
theorem je_max2 (hc : X.calm = true) (hm : X.mg "max" = none) (ha : JA X (e :: es) t) (hg : Gl X "max" := by rfl) (he : starEach (e :: es) X.env = (false, eval e X.env) :: starEach es X.env := by rfl) (hpl : (backTo pos (starEach es X.env)).any (·.1) = false := by rfl) :
    JE X (.Call (.Name "max" p) (e :: es) [] pos) (dCB max2R t) := je_callB (call_max2 hc) lift_max2 hg hm PyProof.Rows.boot_max ha (by decide) (by decide) he hpl
theorem je_min2 (hc : X.calm = true) (hm : X.mg "min" = none) (ha : JA X (e :: es) t) (hg : Gl X "min" := by rfl) (he : starEach (e :: es) X.env = (false, eval e X.env) :: starEach es X.env := by rfl) (hpl : (backTo pos (starEach es X.env)).any (·.1) = false := by rfl) :
    JE X (.Call (.Name "min" p) (e :: es) [] pos) (dCB min2R t) := je_callB (call_min2 hc) lift_min2 hg hm PyProof.Rows.boot_min ha (by decide) (by decide) he hpl
/-- list(x): a new list -/
def dListOf (t : TDA) : TDL := fun ds M Q => t ds M fun xs M1 => match xs with
  | [x] => (match rdS M1 x with | some ys => Q ys M1 | none => False)
  | _ => False
theorem jl_list (hm : X.mg "list" = none) (ha : JA X (e :: es) t) (hg : Gl X "list" := by rfl) (he : starEach (e :: es) X.env = (false, eval e X.env) :: starEach es X.env := by rfl) (hpl : (backTo pos (starEach es X.env)).any (·.1) = false := by rfl) :
    JL X (.Call (.Name "list" p) (e :: es) [] pos) (dListOf t) := by
  obtain ⟨u, q, g⟩ := ha
  refine ⟨_, pe_callTy call_list_of hg hm PyProof.Rows.boot_list q (by decide) (by decide) he hpl, fun ds σ H M Q Q0 s m q k => ?_⟩
  refine g ds σ H M _ _ s m q fun vs H1 es M1 r1 m1 g1 q1 => ?_
  split at q1
  · split at q1
    · rename_i x ys e
      obtain ⟨v, rfl, r5⟩ := r1.one
      obtain ⟨a, us, rfl, ra, h1⟩ := rdS_v m1 r5 e
      have fin : ∀ l, H1.h l = none → Q0 (.ref l) (upd H1.h l (.lst us)) := fun l hl => k l (H1.up l _) _ us M1 (g1.free hl) upd_same (VRs.mono (TX.new m1 hl) _ _ ra) (m1.free hl) (m1.freeF hl) (m1.newT hl) (g1.trans (GG.newT hl)) q1
      rcases h1 with h1 | h1
      · exact ⟨a, us, rfl, .inr h1.2, fin⟩
      · exact ⟨a, us, rfl, .inl (SqL.of h1), fin⟩
    · exact q1.elim
  · exact q1.elim
/-- x + y, lists: a new list -/
def dCat (ta tb : TDE) : TDL := fun ds M Q => ta ds M fun x M1 => tb ds M1 fun y M2 => match rdL M2 x, rdL M2 y with
  | some i, some j => i.length + j.length ≤ sizeLine ∧ Q (i ++ j) M2
  | _, _ => False
theorem jl_cat {a b : Expr} {ta tb : TDE} (ha : JE X a ta) (hb : JE X b tb) : JL X (.BinOp a .Add b pos) (dCat ta tb) := by
  obtain ⟨u, p, g⟩ := ha
  obtain ⟨u', p', g'⟩ := hb
  refine ⟨_, pe_op op_cat p p', fun ds σ H M Q Q0 s m q k => ?_⟩
  refine g ds σ H M _ _ s m q fun v H1 d M1 r1 m1 g1 q1 => ?_
  refine g' ds σ H1 M1 _ _ (s.gg m g1) m1 q1 fun w H2 e M2 r2 m2 g2 q2 => ?_
  split at q2
  · rename_i i j e1 e2
    obtain ⟨hz, q2⟩ := q2
    obtain ⟨a, vs, rfl, h1, ra⟩ := rdL_v m2 (VR.mono (g2.tx m1) _ _ r1) e1
    obtain ⟨b, ws, rfl, h2, rb⟩ := rdL_v m2 r2 e2
    refine ⟨a, b, vs, ws, rfl, rfl, h1, h2, by rw [← ra.length, ← rb.length]; exact hz, fun l hl => ?_⟩
    exact k l (H2.up l _) _ _ M2 ((g1.trans g2).free hl) upd_same (VRs.append (VRs.mono (TX.new m2 hl) _ _ ra) (VRs.mono (TX.new m2 hl) _ _ rb)) (m2.free hl) (m2.freeF hl) (m2.newT hl) ((g1.trans g2).trans (GG.newT hl)) q2
  · exact q2.elim
/-- xs[lo:hi], a list: a new list -/
def dSlL (te : TDE) (tl th : TDO) : TDL := fun ds M Q => te ds M fun x M1 => tl ds M1 fun l M2 => th ds M2 fun u M3 => match rdL M3 x with | some xs => Q (cutL xs l u) M3 | none => False
theorem jl_slice {te : TDE} {tl th : TDO} {lo hi : Option Expr} {p2 : Pos} (he : JE X e te) (hl : JO X lo tl) (hu : JO X hi th) : JL X (.Subscript e (.Slice lo hi none p2) pos) (dSlL te tl th) := by
  obtain ⟨u, p, g⟩ := he
  obtain ⟨u1, p1, g1⟩ := hl
  obtain ⟨u2, p2, g2⟩ := hu
  refine ⟨_, pe_slice sl_list p p1 p2, fun ds σ H M Q Q0 s m q k => ?_⟩
  refine g ds σ H M _ _ s m q fun v H1 d M1 r1 m1 gg1 q1 => ?_
  refine g1 ds σ H1 M1 _ _ (s.gg m gg1) m1 q1 fun l H2 M2 m2 gg2 q2 => ?_
  refine g2 ds σ H2 M2 _ _ (s.gg m (gg1.trans gg2)) m2 q2 fun u H3 M3 m3 gg3 q3 => ?_
  split at q3
  · rename_i xs e1
    obtain ⟨a, vs, rfl, h1, ra⟩ := rdL_v m3 (VR.mono ((gg2.trans gg3).tx m1) _ _ r1) e1
    refine ⟨a, vs, rfl, SqL.of h1, fun p hp => ?_⟩
    have G := (gg1.trans gg2).trans gg3
    exact k p (H3.up p _) _ _ M3 (G.free hp) upd_same (VRs.mono (TX.new m3 hp) _ _ (ra.cut l u)) (m3.free hp) (m3.freeF hp) (m3.newT hp) (G.trans (GG.newT hp)) q3
  · exact q3.elim
end
end DM

namespace DM
open PySem L2
open PyProof.Rows (b2i)

/-! ### zip -/
def zipD (xs ys : List D) : List D := (xs.zip ys).map fun p => .tup [p.1, p.2]
theorem zipD_get {xs ys : List D} {i : Nat} {d : D} (h : (zipD xs ys)[i]? = some d) : ∃ x y, xs[i]? = some x ∧ ys[i]? = some y ∧ d = .tup [x, y] := by
  unfold zipD at h
  rw [List.getElem?_map] at h
  obtain ⟨p, h1, rfl⟩ := Option.map_eq_some_iff.mp h
  rw [List.getElem?_zip_eq_some] at h1
  exact ⟨p.1, p.2, h1.1, h1.2, rfl⟩
theorem zipD_len {xs ys : List D} : (zipD xs ys).length = min xs.length ys.length := by simp [zipD]
section
variable {K : PySem.W.Frag} {M M1 : Mm} {H H1 : HF}
theorem it_zipT {a b : Addr} {xs ys : List D} {vs ws : List V} (sa : SqT K H.h a vs) (ra : VRs K H xs vs) (sb : SqT K H.h b ws) (rb : VRs K H ys ws) (m0 : MR K M H) : ItOk K (RZ.ItzT K a b) ⟨zipD xs ys, fun _ => True⟩ M H where
  go := fun i d M2 H2 g m _ e => by
    obtain ⟨x, y, h1, h2, rfl⟩ := zipD_get e
    obtain ⟨v, e1, _⟩ := ra.get h1
    obtain ⟨w, e2, _⟩ := rb.get h2
    exact ⟨vs, ws, v, w, (g.tx m0).tu _ _ sa, (g.tx m0).tu _ _ sb, e1, e2⟩
  yld := fun i d M2 H2 x H3 g m _ e y => by
    obtain ⟨x', y', h1, h2, rfl⟩ := zipD_get e
    obtain ⟨v, e1, r1⟩ := ra.get h1
    obtain ⟨w, e2, r2⟩ := rb.get h2
    obtain ⟨T, p, q, rfl, hT, rfl, hx, hy⟩ := y
    have f1 := hx vs ((g.tx m0).tu _ _ sa)
    have f2 := hy ws ((g.tx m0).tu _ _ sb)
    rw [e1] at f1
    rw [e2] at f2
    cases f1
    cases f2
    exact ⟨H2.up _ _, rfl, .tup (SqT.of upd_same) (.cons (VR.mono (TX.new m hT) _ _ (VR.mono (g.tx m0) _ _ r1)) (.cons (VR.mono (TX.new m hT) _ _ (VR.mono (g.tx m0) _ _ r2)) .nil)), m.newT hT, GG.newT hT⟩
  stop := fun M2 H2 g m _ => by
    refine ⟨vs, ws, (g.tx m0).tu _ _ sa, (g.tx m0).tu _ _ sb, ?_⟩
    have : (zipD xs ys).length = min vs.length ws.length := by rw [zipD_len, ra.length, rb.length]
    show vs.length ≤ (zipD xs ys).length ∨ ws.length ≤ (zipD xs ys).length
    omega
theorem it_zipL {a b : Addr} {xs ys : List D} {x y : D} (r1 : VR K H x (.ref a)) (r2 : VR K H y (.ref b)) (m0 : MR K M H) : ItOk K (Itz K a b) ⟨zipD xs ys, fun M' => rdL M' x = some xs ∧ rdL M' y = some ys⟩ M H where
  go := fun i d M2 H2 g m ok e => by
    obtain ⟨x, y, h1, h2, rfl⟩ := zipD_get e
    obtain ⟨a', vs, ea, q1, s1⟩ := rdL_v m (VR.mono (g.tx m0) _ _ r1) ok.1
    obtain ⟨b', ws, eb, q2, s2⟩ := rdL_v m (VR.mono (g.tx m0) _ _ r2) ok.2
    cases ea
    cases eb
    obtain ⟨v, e1, _⟩ := s1.get h1
    obtain ⟨w, e2, _⟩ := s2.get h2
    exact ⟨vs, ws, v, w, SqL.of q1, SqL.of q2, e1, e2⟩
  yld := fun i d M2 H2 x H3 g m ok e y => by
    obtain ⟨x', y', h1, h2, rfl⟩ := zipD_get e
    obtain ⟨a', vs, ea, q1, s1⟩ := rdL_v m (VR.mono (g.tx m0) _ _ r1) ok.1
    obtain ⟨b', ws, eb, q2, s2⟩ := rdL_v m (VR.mono (g.tx m0) _ _ r2) ok.2
    cases ea
    cases eb
    obtain ⟨v, e1, s1⟩ := s1.get h1
    obtain ⟨w, e2, s2⟩ := s2.get h2
    obtain ⟨T, p, q, rfl, hT, rfl, hx, hy⟩ := y
    have f1 := hx vs (SqL.of q1)
    have f2 := hy ws (SqL.of q2)
    rw [e1] at f1
    rw [e2] at f2
    cases f1
    cases f2
    exact ⟨H2.up _ _, rfl, .tup (SqT.of upd_same) (.cons (VR.mono (TX.new m hT) _ _ s1) (.cons (VR.mono (TX.new m hT) _ _ s2) .nil)), m.newT hT, GG.newT hT⟩
  stop := fun M2 H2 g m ok => by
    obtain ⟨a', vs, ea, q1, s1⟩ := rdL_v m (VR.mono (g.tx m0) _ _ r1) ok.1
    obtain ⟨b', ws, eb, q2, s2⟩ := rdL_v m (VR.mono (g.tx m0) _ _ r2) ok.2
    cases ea
    cases eb
    refine ⟨vs, ws, SqL.of q1, SqL.of q2, ?_⟩
    have : (zipD xs ys).length = min vs.length ws.length := by rw [zipD_len, s1.length, s2.length]
    show vs.length ≤ (zipD xs ys).length ∨ ws.length ≤ (zipD xs ys).length
    omega
end
def zipQ (x y : D) (M2 : Mm) (Q : DIt → Mm → Prop) : Prop := match rdL M2 x, rdL M2 y with | some xs, some ys => Q ⟨zipD xs ys, fun M' => rdL M' x = some xs ∧ rdL M' y = some ys⟩ M2 | _, _ => False
def diZip (ta tb : TDE) : TDI := fun ds M Q => ta ds M fun x M1 => tb ds M1 fun y M2 => match x, y with
  | .tup xs, .tup ys => Q ⟨zipD xs ys, fun _ => True⟩ M2
  | x, y => zipQ x y M2 Q
theorem ji_zip {X : Cx} {e f : Expr} {te tf : TDE} {p pos tpos : Pos} {elts : List Expr} {kk : Nat} (hm : X.mg "zip" = none) (h : JE X e te) (h' : JE X f tf) (hg : Gl X "zip" := by rfl)
    (hs : starEach [e, f] X.env = (false, eval e X.env) :: starEach [f] X.env := by rfl) (hs2 : starEach [f] X.env = (false, eval f X.env) :: starEach [] X.env := by rfl) (hpl : (backTo pos (starEach [f] X.env)).any (·.1) = false := by rfl) :
    JI X (.Tuple elts kk tpos) (.Call (.Name "zip" p) [e, f] [] pos) (diZip te tf) := by
  obtain ⟨u, q, g⟩ := h
  obtain ⟨u', q', g'⟩ := h'
  refine ⟨_, RZ.pi_zipA hg hm (pa_cons q (pa_cons q' pa_nil hs2) hs) hs hpl, fun ds σ H M Q R0 s m q k => ?_⟩
  refine g ds σ H M _ _ s m q fun v H1 d M1 r1 m1 g1 q1 => ?_
  refine g' ds σ H1 M1 _ _ (s.gg m g1) m1 q1 fun w H2 d2 M2 r2 m2 g2 q2 => ?_
  have r1 := VR.mono (g2.tx m1) _ _ r1
  split at q2
  · obtain ⟨a, vs, rfl, sa, ra⟩ := r1.tup_v
    obtain ⟨b, ws, rfl, sb, rb⟩ := r2.tup_v
    exact ⟨a, b, vs, ws, rfl, .inr ⟨sa, sb, k _ H2 _ M2 (it_zipT sa ra sb rb m2) m2 (g1.trans g2) q2⟩⟩
  · unfold zipQ at q2
    split at q2
    · rename_i xs ys e1 e2
      obtain ⟨a, vs, rfl, h1, _⟩ := rdL_v m2 r1 e1
      obtain ⟨b, ws, rfl, h2, _⟩ := rdL_v m2 r2 e2
      exact ⟨_, _, vs, ws, rfl, .inl ⟨SqL.of h1, SqL.of h2, k _ H2 _ M2 (it_zipL r1 r2 m2) m2 (g1.trans g2) q2⟩⟩
    · exact q2.elim

/-! ### methods of lists -/
abbrev DRM := D → List D → Mm → DQ → Prop
def LiftM (K : PySem.W.Frag) (r : V → List V → Hp → VK → Prop) (dr : DRM) : Prop := ∀ (x : V) (vs : List V) (dx : D) (ds : List D) (H : HF) (M : Mm) (Q : DQ) (Q0 : VK), VR K H dx x → VRs K H ds vs → MR K M H → dr dx ds M Q →
  (∀ v H' d M', VR K H' d v → MR K M' H' → GG M H M' H' → Q d M' → Q0 v H'.h) → r x vs H.h Q0
def isLst (x : D) (M : Mm) : Prop := match x with | .ref a => (lstOf M a).isSome = true | _ => False
theorem isLst_ty {K : PySem.W.Frag} {M : Mm} {H : HF} {x : D} {v : V} (r : VR K H x v) (m : MR K M H) (h : isLst x M) : tyV K "list" v H.h := by
  cases r with
  | ref a =>
    have h' : (lstOf M a).isSome = true := h
    obtain ⟨xs, e⟩ := Option.isSome_iff_exists.mp h'
    obtain ⟨vs, h1, _⟩ := m.ob a _ (of_lstOf e)
    exact .inl ⟨rfl, vs, SqL.of h1⟩
  | _ => exact h.elim
def dBM (r : DRM) (to : TDE) (t : TDA) : TDE := fun ds M Q => to ds M fun x M1 => isLst x M1 ∧ t ds M1 fun xs M2 => r x xs M2 Q
def dBM0 (r : DRM) (to : TDE) : TDE := fun ds M Q => to ds M fun x M1 => isLst x M1 ∧ r x [] M1 Q
section
variable {X : Cx} {o e : Expr} {es : List Expr} {to : TDE} {t : TDA} {name : Str} {apos cpos : Pos} {id : String} {r : V → List V → Hp → VK → Prop} {dr : DRM}
theorem je_bm0 (slot : Slot "list" name id) (hty : typeOf (.builtin id) = pure (.type "method_descriptor")) (hm : MtR X id r) (hl : LiftM X.K r dr) (ho : JE X o to)
    (hbase : attributeBase o name X.env (eval o X.env) = eval o X.env := by rfl) (hline : (apos.endLine == cpos.line) = true := by rfl) : JE X (.Call (.Attribute o name apos) [] [] cpos) (dBM0 dr to) := by
  obtain ⟨u, p, g⟩ := ho
  refine je_pe (pe_bm0 PySem.F.plainAttrs_list slot hty hm p hbase hline) fun ds σ H M Q Q0 s m q k => ?_
  refine g ds σ H M _ _ s m q fun v H1 d M1 r1 m1 g1 q1 => ⟨isLst_ty r1 m1 q1.1, ?_⟩
  exact hl v [] d [] H1 M1 Q Q0 r1 .nil m1 q1.2 fun w H2 d2 M2 r2 m2 g2 q2 => k w H2 d2 M2 r2 m2 (g1.trans g2) q2
theorem je_bm (slot : Slot "list" name id) (hty : typeOf (.builtin id) = pure (.type "method_descriptor")) (hm : MtR X id r) (hl : LiftM X.K r dr) (ho : JE X o to) (ha : JA X (e :: es) t)
    (hbase : attributeBase o name X.env (eval o X.env) = eval o X.env := by rfl)
    (hfew : ((backTo cpos (starEach (e :: es) X.env)).all (fun x => !x.1) && (backToKw cpos (keywordEach [] X.env)).all (fun x => x.1.isSome)
      && decide ((e :: es).length + ([] : List Keyword).length + (if ([] : List Keyword).isEmpty then 0 else 1) < 30)) = true := by rfl)
    (hline : (apos.endLine == cpos.line) = true := by rfl) (hs : starEach (e :: es) X.env = (false, eval e X.env) :: starEach es X.env := by rfl) (hplain : (backTo cpos (starEach es X.env)).any (·.1) = false := by rfl) :
    JE X (.Call (.Attribute o name apos) (e :: es) [] cpos) (dBM dr to t) := by
  obtain ⟨u, p, g⟩ := ho
  obtain ⟨u', p', g'⟩ := ha
  refine je_pe (pe_bm PySem.F.plainAttrs_list slot hty hm p p' hbase hfew hline hs hplain) fun ds σ H M Q Q0 s m q k => ?_
  refine g ds σ H M _ _ s m q fun v H1 d M1 r1 m1 g1 q1 => ⟨isLst_ty r1 m1 q1.1, ?_⟩
  refine g' ds σ H1 M1 _ _ (s.gg m g1) m1 q1.2 fun vs H2 xs M2 r2 m2 g2 q2 => ?_
  exact hl v vs d xs H2 M2 Q Q0 (VR.mono (g2.tx m1) _ _ r1) r2 m2 q2 fun w H3 d3 M3 r3 m3 g3 q3 => k w H3 d3 M3 r3 m3 ((g1.trans g2).trans g3) q3
end
def appendR : DRM := fun x xs M Q => match x, xs with
  | .ref a, [d] => (match lstOf M a with | some ys => ys.length < sizeLine ∧ Q .non (mup M a (.lst (ys ++ [d]))) | none => False)
  | _, _ => False
theorem lift_append {K : PySem.W.Frag} : LiftM K rAppend appendR := by
  intro x vs dx ds H M Q Q0 rx rs m h k
  unfold appendR at h
  split at h
  · rename_i a d
    cases rx.ref_v
    obtain ⟨v, rfl, r1⟩ := rs.one
    split at h
    · rename_i ys e
      obtain ⟨hz, h⟩ := h
      obtain ⟨us, h1, r2⟩ := m.ob a _ (of_lstOf e)
      have t := TX.put (u := .lst (us ++ [v])) m (of_lstOf e)
      refine ⟨a, us, v, rfl, rfl, h1, by rw [← r2.length]; exact hz, ?_⟩
      exact k _ (H.up a _) _ _ .non (m.put (w := .lst (ys ++ [d])) (of_lstOf e) ⟨_, upd_same, VRs.append (VRs.mono t _ _ r2) (.cons (VR.mono t _ _ r1) .nil)⟩) (GG.put (of_lstOf e)) h
    · exact h.elim
  · exact h.elim
def popR : DRM := fun x xs M Q => match x, xs with
  | .ref a, [] => (match lstOf M a with | some ys => (match ys[ys.length - 1]? with | some d => Q d (mup M a (.lst ys.dropLast)) | none => False) | none => False)
  | _, _ => False
theorem lift_pop {K : PySem.W.Frag} : LiftM K rPop popR := by
  intro x vs dx ds H M Q Q0 rx rs m h k
  unfold popR at h
  split at h
  · rename_i a
    cases rx.ref_v
    cases rs
    split at h
    · rename_i ys e
      split at h
      · rename_i d e2
        obtain ⟨us, h1, r2⟩ := m.ob a _ (of_lstOf e)
        rw [r2.length] at e2
        obtain ⟨v, e3, r3⟩ := r2.get e2
        have t := TX.put (u := .lst us.dropLast) m (of_lstOf e)
        exact ⟨a, us, v, rfl, rfl, h1, e3, k _ (H.up a _) _ _ (VR.mono t _ _ r3) (m.put (w := .lst ys.dropLast) (of_lstOf e) ⟨_, upd_same, (VRs.mono t _ _ r2).dropLast⟩) (GG.put (of_lstOf e)) h⟩
      · exact h.elim
    · exact h.elim
  · exact h.elim
def popAtR : DRM := fun x xs M Q => match x, xs with
  | .ref a, [.int i] => (match lstOf M a with | some ys => (0 ≤ i ∧ i < 2 ^ 62) ∧ (match ys[i.toNat]? with | some d => Q d (mup M a (.lst (ys.eraseIdx i.toNat))) | none => False) | none => False)
  | _, _ => False
theorem lift_popAt {K : PySem.W.Frag} : LiftM K rPopAt popAtR := by
  intro x vs dx ds H M Q Q0 rx rs m h k
  unfold popAtR at h
  split at h
  · rename_i a i
    cases rx.ref_v
    obtain ⟨v, rfl, r1⟩ := rs.one
    cases r1.int_v
    split at h
    · rename_i ys e
      obtain ⟨⟨h0, hi⟩, h⟩ := h
      split at h
      · rename_i d e2
        obtain ⟨us, h1, r2⟩ := m.ob a _ (of_lstOf e)
        obtain ⟨v, e3, r3⟩ := r2.get e2
        have t := TX.put (u := .lst (us.eraseIdx i.toNat)) m (of_lstOf e)
        have hlt := (List.getElem?_eq_some_iff.mp e3).1
        refine ⟨a, us, i, i.toNat, v, rfl, rfl, h1, by omega, by omega, ?_, e3, ?_⟩
        · exact seqIndex_of h0 (by omega)
        · exact k _ (H.up a _) _ _ (VR.mono t _ _ r3) (m.put (w := .lst (ys.eraseIdx i.toNat)) (of_lstOf e) ⟨_, upd_same, (VRs.mono t _ _ r2).eraseIdx _⟩) (GG.put (of_lstOf e)) h
      · exact h.elim
    · exact h.elim
  · exact h.elim
def insertR : DRM := fun x xs M Q => match x, xs with
  | .ref a, [.int i, d] => (match lstOf M a with | some ys => (ys.length < sizeLine ∧ 0 ≤ i ∧ i < 2 ^ 62) ∧ Q .non (mup M a (.lst (ys.take i.toNat ++ [d] ++ ys.drop i.toNat))) | none => False)
  | _, _ => False
def insertT : V → List V → Hp → VK → Prop := fun x vs H Q => ∃ (l : Addr) (xs : List V) (i : Int) (y : V), x = .ref l ∧ vs = [.int i, y] ∧ H l = some (.lst xs) ∧ xs.length < sizeLine ∧ 0 ≤ i ∧ i < 2 ^ 63 ∧
    Q .non (upd H l (.lst (xs.take i.toNat ++ [y] ++ xs.drop i.toNat)))
theorem lift_insert {K : PySem.W.Frag} : LiftM K insertT insertR := by
  intro x vs dx ds H M Q Q0 rx rs m h k
  unfold insertR at h
  split at h
  · rename_i a i d
    cases rx.ref_v
    obtain ⟨v, w, rfl, r1, r4⟩ := rs.two
    cases r1.int_v
    split at h
    · rename_i ys e
      obtain ⟨⟨hz, h0, hi⟩, h⟩ := h
      obtain ⟨us, h1, r2⟩ := m.ob a _ (of_lstOf e)
      have t := TX.put (u := .lst (us.take i.toNat ++ [w] ++ us.drop i.toNat)) m (of_lstOf e)
      have r2' := VRs.mono t _ _ r2
      refine ⟨a, us, i, w, rfl, rfl, h1, by rw [← r2.length]; exact hz, h0, by omega, ?_⟩
      exact k _ (H.up a _) _ _ .non (m.put (w := .lst (ys.take i.toNat ++ [d] ++ ys.drop i.toNat)) (of_lstOf e) ⟨_, upd_same, VRs.append (VRs.append (r2'.take _) (.cons (VR.mono t _ _ r4) .nil)) (r2'.drop _)⟩) (GG.put (of_lstOf e)) h
    · exact h.elim
  · exact h.elim
def extendR : DRM := fun x xs M Q => match x, xs with
  | .ref a, [y] => (match lstOf M a, rdL M y with | some ys, some zs => ys.length + zs.length ≤ sizeLine ∧ Q .non (mup M a (.lst (ys ++ zs))) | _, _ => False)
  | _, _ => False
theorem lift_extend {K : PySem.W.Frag} : LiftM K rExtend extendR := by
  intro x vs dx ds H M Q Q0 rx rs m h k
  unfold extendR at h
  split at h
  · rename_i a y
    cases rx.ref_v
    obtain ⟨v, rfl, r1⟩ := rs.one
    split at h
    · rename_i ys zs e e2
      obtain ⟨hz, h⟩ := h
      obtain ⟨us, h1, r2⟩ := m.ob a _ (of_lstOf e)
      obtain ⟨b, ws, rfl, h2, r3⟩ := rdL_v m r1 e2
      have t := TX.put (u := .lst (us ++ ws)) m (of_lstOf e)
      refine ⟨a, b, us, ws, rfl, rfl, h1, h2, by rw [← r2.length, ← r3.length]; exact hz, ?_⟩
      exact k _ (H.up a _) _ _ .non (m.put (w := .lst (ys ++ zs)) (of_lstOf e) ⟨_, upd_same, VRs.append (VRs.mono t _ _ r2) (VRs.mono t _ _ r3)⟩) (GG.put (of_lstOf e)) h
    · exact h.elim
  · exact h.elim
section
variable {X : Cx} {o e f : Expr} {to te tf : TDE} {apos cpos : Pos}
theorem je_append (ho : JE X o to) (ha : JE X e te) (hbase : attributeBase o "append" X.env (eval o X.env) = eval o X.env := by rfl)
    (hfew : ((backTo cpos (starEach [e] X.env)).all (fun x => !x.1) && (backToKw cpos (keywordEach [] X.env)).all (fun x => x.1.isSome)
      && decide (([e]).length + ([] : List Keyword).length + (if ([] : List Keyword).isEmpty then 0 else 1) < 30)) = true := by rfl)
    (hline : (apos.endLine == cpos.line) = true := by rfl) (hs : starEach [e] X.env = (false, eval e X.env) :: starEach [] X.env := by rfl) (hplain : (backTo cpos (starEach [] X.env)).any (·.1) = false := by rfl) :
    JE X (.Call (.Attribute o "append" apos) [e] [] cpos) (dBM appendR to (dCons te dNil)) := je_bm PySem.F.slot_list_append PySem.F.type_list_append mt_append lift_append ho (ja_cons ha ja_nil hs) hbase hfew hline hs hplain
theorem je_extend (ho : JE X o to) (ha : JE X e te) (hbase : attributeBase o "extend" X.env (eval o X.env) = eval o X.env := by rfl)
    (hfew : ((backTo cpos (starEach [e] X.env)).all (fun x => !x.1) && (backToKw cpos (keywordEach [] X.env)).all (fun x => x.1.isSome)
      && decide (([e]).length + ([] : List Keyword).length + (if ([] : List Keyword).isEmpty then 0 else 1) < 30)) = true := by rfl)
    (hline : (apos.endLine == cpos.line) = true := by rfl) (hs : starEach [e] X.env = (false, eval e X.env) :: starEach [] X.env := by rfl) (hplain : (backTo cpos (starEach [] X.env)).any (·.1) = false := by rfl) :
    JE X (.Call (.Attribute o "extend" apos) [e] [] cpos) (dBM extendR to (dCons te dNil)) := je_bm PySem.F.slot_list_extend PySem.F.type_list_extend mt_extend lift_extend ho (ja_cons ha ja_nil hs) hbase hfew hline hs hplain
theorem je_pop0 (ho : JE X o to) (hbase : attributeBase o "pop" X.env (eval o X.env) = eval o X.env := by rfl) (hline : (apos.endLine == cpos.line) = true := by rfl) :
    JE X (.Call (.Attribute o "pop" apos) [] [] cpos) (dBM0 popR to) := je_bm0 PySem.F.slot_list_pop PySem.F.type_list_pop mt_pop lift_pop ho hbase hline
theorem je_popAt (ho : JE X o to) (ha : JE X e te) (hbase : attributeBase o "pop" X.env (eval o X.env) = eval o X.env := by rfl)
    (hfew : ((backTo cpos (starEach [e] X.env)).all (fun x => !x.1) && (backToKw cpos (keywordEach [] X.env)).all (fun x => x.1.isSome)
      && decide (([e]).length + ([] : List Keyword).length + (if ([] : List Keyword).isEmpty then 0 else 1) < 30)) = true := by rfl)
    (hline : (apos.endLine == cpos.line) = true := by rfl) (hs : starEach [e] X.env = (false, eval e X.env) :: starEach [] X.env := by rfl) (hplain : (backTo cpos (starEach [] X.env)).any (·.1) = false := by rfl) :
    JE X (.Call (.Attribute o "pop" apos) [e] [] cpos) (dBM popAtR to (dCons te dNil)) := je_bm PySem.F.slot_list_pop PySem.F.type_list_pop mt_popAt lift_popAt ho (ja_cons ha ja_nil hs) hbase hfew hline hs hplain
theorem je_insert (ho : JE X o to) (ha : JE X e te) (hb : JE X f tf) (hbase : attributeBase o "insert" X.env (eval o X.env) = eval o X.env := by rfl)
    (hfew : ((backTo cpos (starEach [e, f] X.env)).all (fun x => !x.1) && (backToKw cpos (keywordEach [] X.env)).all (fun x => x.1.isSome)
      && decide (([e, f]).length + ([] : List Keyword).length + (if ([] : List Keyword).isEmpty then 0 else 1) < 30)) = true := by rfl)
    (hline : (apos.endLine == cpos.line) = true := by rfl) (hs : starEach [e, f] X.env = (false, eval e X.env) :: starEach [f] X.env := by rfl) (hs2 : starEach [f] X.env = (false, eval f X.env) :: starEach [] X.env := by rfl) (hplain : (backTo cpos (starEach [f] X.env)).any (·.1) = false := by rfl) :
    JE X (.Call (.Attribute o "insert" apos) [e, f] [] cpos) (dBM insertR to (dCons te (dCons tf dNil))) := je_bm PySem.F.slot_list_insert PySem.F.type_list_insert mt_insert lift_insert ho (ja_cons ha (ja_cons hb ja_nil hs2) hs) hbase hfew hline hs hplain
/-- sep.join(a list of texts) -/
def joinQ (a : Str) (xs : List D) (M : Mm) (Q : DQ) : Prop := match strsOf xs with | some ys => (ys.map (·.length)).sum + ys.length * a.length ≤ 16777216 ∧ Q (.str (Txt.join a ys)) M | none => False
def dJoin (to te : TDE) : TDE := fun ds M Q => to ds M fun x M1 => match x with
  | .str a => te ds M1 fun y M2 => (match rdL M2 y with | some xs => joinQ a xs M2 Q | none => False)
  | _ => False
theorem je_join (ho : JE X o to) (he : JE X e te) (hs : starEach [e] X.env = [(false, eval e X.env)] := by rfl) (hbase : attributeBase o "join" X.env (eval o X.env) = eval o X.env := by rfl) (hline : (apos.endLine == cpos.line) = true := by rfl) :
    JE X (.Call (.Attribute o "join" apos) [e] [] cpos) (dJoin to te) := by
  obtain ⟨u, p, g⟩ := ho
  obtain ⟨u', p', g'⟩ := he
  refine je_pe (pe_join p p' hs hbase hline) fun ds σ H M Q Q0 s m q k => ?_
  refine g ds σ H M _ _ s m q fun v H1 d M1 r1 m1 g1 q1 => ?_
  cases d with
  | str a =>
    cases r1.str_v
    refine ⟨⟨a, rfl⟩, ?_⟩
    refine g' ds σ H1 M1 _ _ (s.gg m g1) m1 q1 fun w H2 d2 M2 r2 m2 g2 q2 => ?_
    split at q2
    · rename_i xs e
      unfold joinQ at q2
      split at q2
      · rename_i ys e2
        obtain ⟨b, vs, rfl, h1, r3⟩ := rdL_v m2 r2 e
        exact ⟨a, b, ys, rfl, rfl, .inl (by rw [← strsOf_v r3 e2]; exact SqL.of h1), q2.1, k _ H2 _ M2 (.str _) m2 (g1.trans g2) q2.2⟩
      · exact q2.elim
    · exact q2.elim
  | _ => exact q1.elim
end

/-! ### dicts with keys that are ints and texts -/
def keyD : D → Option Key
  | .int i => some (.inl i)
  | .str x => some (.inr x)
  | _ => none
theorem keyD_v {K : PySem.W.Frag} {H : HF} {d : D} {v : V} {k : Key} (r : VR K H d v) (h : keyD d = some k) : v = kV k := by
  cases r with
  | int i => cases h; rfl
  | str i => cases h; rfl
  | _ => cases h
def valD (kvs : List (Key × D)) (k : Key) : Option D := (kvs.find? fun kv => decide (kv.1 = k)).map (·.2)
def putD (kvs : List (Key × D)) (k : Key) (d : D) : List (Key × D) :=
  if (kvs.any fun kv => decide (kv.1 = k)) = true then kvs.map (fun kv => if kv.1 = k then (kv.1, d) else kv) else kvs ++ [(k, d)]
section
variable {K : PySem.W.Frag} {H : HF}
theorem FR.val : ∀ {ds : List (Key × D)} {vs : List (Key × V)} {k : Key} {d : D}, FR K H ds vs → valD ds k = some d → ∃ v, valV vs k = some v ∧ VR K H d v
  | _, _, _, _, .nil, h => by simp [valD] at h
  | (k', d') :: ds, (_, v') :: vs, k, d, .cons r q, h => by
    unfold valD valV at *
    by_cases e : k' = k
    · simp [List.find?_cons, e] at h ⊢
      subst h
      exact r
    · simp only [List.find?_cons, e, decide_false] at h ⊢
      exact FR.val (k := k) (d := d) q h
theorem FR.valN : ∀ {ds : List (Key × D)} {vs : List (Key × V)} {k : Key}, FR K H ds vs → valD ds k = none → valV vs k = none
  | _, _, _, .nil, h => by simp [valV]
  | (k', d') :: ds, (_, v') :: vs, k, .cons r q, h => by
    unfold valD valV at *
    by_cases e : k' = k
    · simp [List.find?_cons, e] at h
    · simp only [List.find?_cons, e, decide_false] at h ⊢
      exact FR.valN (k := k) q h
theorem FR.any : ∀ {ds : List (Key × D)} {vs : List (Key × V)} {k : Key}, FR K H ds vs → (ds.any fun kv => decide (kv.1 = k)) = vs.any fun kv => decide (kv.1 = k)
  | _, _, _, .nil => rfl
  | (k', d') :: ds, (_, v') :: vs, k, .cons r q => by rw [List.any_cons, List.any_cons, FR.any q]
theorem FR.snoc {k : Key} {d : D} {v : V} (r : VR K H d v) : ∀ {ds : List (Key × D)} {vs : List (Key × V)}, FR K H ds vs → FR K H (ds ++ [(k, d)]) (vs ++ [(k, v)])
  | _, _, .nil => .cons r .nil
  | _, _, .cons q t => .cons q (FR.snoc r t)
theorem FR.repl {k : Key} {d : D} {v : V} (r : VR K H d v) : ∀ {ds : List (Key × D)} {vs : List (Key × V)}, FR K H ds vs → FR K H (ds.map fun kv => if kv.1 = k then (kv.1, d) else kv) (vs.map fun kv => if kv.1 = k then (kv.1, v) else kv)
  | _, _, .nil => .nil
  | (k', d') :: ds, (_, v') :: vs, .cons q t => by
    rw [List.map_cons, List.map_cons]
    by_cases e : k' = k
    · simp only [e, if_true]
      exact .cons r (FR.repl r t)
    · simp only [e, if_false]
      exact .cons q (FR.repl r t)
theorem FR.put {k : Key} {d : D} {v : V} (r : VR K H d v) {ds : List (Key × D)} {vs : List (Key × V)} (h : FR K H ds vs) : FR K H (putD ds k d) (putK vs k v) := by
  unfold putD putK
  rw [h.any]
  split
  · exact h.repl r
  · exact h.snoc r
end
def dicOf (M : Mm) (a : Addr) : Option (List (Key × D)) := match M a with | some (.dic kvs) => some kvs | _ => none
theorem dicOf_some {M : Mm} {a : Addr} {xs : List (Key × D)} (h : M a = some (.dic xs)) : dicOf M a = some xs := by unfold dicOf; rw [h]
theorem of_dicOf {M : Mm} {a : Addr} {xs : List (Key × D)} (h : dicOf M a = some xs) : M a = some (.dic xs) := by
  unfold dicOf at h
  split at h
  · cases h; assumption
  · cases h
/-- a dict, frozen or in the store -/
def rdD (M : Mm) : D → Option (List (Key × D))
  | .dic kvs => some kvs
  | .ref a => dicOf M a
  | _ => none
@[simp] theorem rdD_dic {M : Mm} {kvs : List (Key × D)} : rdD M (.dic kvs) = some kvs := rfl
@[simp] theorem rdD_ref {M : Mm} {a : Addr} : rdD M (.ref a) = dicOf M a := rfl
theorem rdD_v {K : PySem.W.Frag} {M : Mm} {H : HF} {d : D} {v : V} {xs : List (Key × D)} (m : MR K M H) (r : VR K H d v) (e : rdD M d = some xs) : ∃ a vs, v = .ref a ∧ H.h a = some (.dK vs) ∧ FR K H xs vs := by
  cases d with
  | dic ys =>
    cases e
    obtain ⟨a, vs, rfl, h, _, q⟩ := r.dic_v
    exact ⟨a, vs, rfl, h, q⟩
  | ref a =>
    cases r.ref_v
    obtain ⟨vs, h1, r1⟩ := m.ob a _ (of_dicOf e)
    exact ⟨a, vs, rfl, h1, r1⟩
  | _ => cases e
def dgetR : DR2 := fun x y M Q => match rdD M x, keyD y with
  | some kvs, some k => (match valD kvs k with | some d => Q d M | none => False)
  | _, _ => False
section
variable {X : Cx} {o i e : Expr} {to ti te : TDE} {pos pos' : Pos} {k : Nat}
theorem je_dget (hr : Room k X.A) (ho : JE X o to) (hi : JE X i ti) (hs : NoSl i := by exact fun _ _ => rfl) : JE X (.Subscript o i pos) (dOp dgetR to ti) := by
  obtain ⟨u, p, g⟩ := ho
  obtain ⟨u', p', g'⟩ := hi
  refine je_pe (pe_dget (hu_of hr) p p' hs) fun ds σ H M Q Q0 s m q kk => ?_
  refine g ds σ H M _ _ s m q fun v H1 d M1 r1 m1 g1 q1 => ?_
  refine g' ds σ H1 M1 _ _ (s.gg m g1) m1 q1 fun w H2 d2 M2 r2 m2 g2 q2 => ?_
  unfold dgetR at q2
  split at q2
  · rename_i kvs k e1 e2
    split at q2
    · rename_i d3 e3
      obtain ⟨a, vs, rfl, h1, r3⟩ := rdD_v m2 (VR.mono (g2.tx m1) _ _ r1) e1
      obtain ⟨z, e4, r4⟩ := r3.val e3
      rw [keyD_v r2 e2]
      exact ⟨a, z, rfl, by rw [← e4]; exact DGet.k h1, kk _ H2 _ M2 r4 m2 (g1.trans g2) q2⟩
    · exact q2.elim
  · exact q2.elim
/-- o[i] = e, o a dict -/
def dputS (te to ti : TDE) : TDS := fun D ds M => te ds M fun v M1 => to ds M1 fun x M2 => ti ds M2 fun y M3 => match x, keyD y with
  | .ref a, some k => (match dicOf M3 a with | some kvs => kvs.length < sizeLine ∧ D.nx ds (mup M3 a (.dic (putD kvs k v))) | none => False)
  | _, _ => False
theorem js_dput {W : WX} (hr : Room k X.A) (ho : JE X o to) (hi : JE X i ti) (he : JE X e te) (hs : swapsWith e (some (.Subscript o i pos')) pos.line X.env = pure false := by rfl) : JS X W (.Assign [.Subscript o i pos'] e pos) (dputS te to ti) := by
  obtain ⟨u, p, g⟩ := ho
  obtain ⟨u', p', g'⟩ := hi
  obtain ⟨ue, pe, ge⟩ := he
  refine ⟨_, ps_dput (hu_of hr) p p' pe hs, fun M0 H0 D0 D1 l ds σ H M gg s m q => ?_⟩
  refine ge ds σ H M _ _ s m q fun v H1 d M1 r1 m1 g1 q1 => ?_
  refine g ds σ H1 M1 _ _ (s.gg m g1) m1 q1 fun w H2 d2 M2 r2 m2 g2 q2 => ?_
  refine g' ds σ H2 M2 _ _ (s.gg m (g1.trans g2)) m2 q2 fun z H3 d3 M3 r3 m3 g3 q3 => ?_
  split at q3
  · rename_i a k e1
    cases r2.ref_v
    split at q3
    · rename_i kvs e2
      obtain ⟨hz, q3⟩ := q3
      obtain ⟨vs, h1, r4⟩ := m3.ob a _ (of_dicOf e2)
      rw [keyD_v r3 e1]
      refine ⟨a, _, rfl, DPut.k h1 (by rw [← r4.length]; exact hz), ?_⟩
      have t := TX.put (u := .dK (putK vs k v)) m3 (of_dicOf e2)
      have r1' : VR X.K H3 d v := VR.mono ((g2.trans g3).tx m1) _ _ r1
      have gp : GG M3 H3 (mup M3 a (.dic (putD kvs k d))) (H3.up a (.dK (putK vs k v))) := GG.put (of_dicOf e2)
      exact l.nx σ ds _ _ ((((gg.trans g1).trans g2).trans g3).trans gp) ((s.gg m ((g1.trans g2).trans g3)).gg m3 gp)
        (m3.put (w := .dic (putD kvs k d)) (of_dicOf e2) ⟨_, upd_same, (r4.mono t).put (VR.mono t _ _ r1')⟩) q3
    · exact q3.elim
  · exact q3.elim
/-- o[i] = e, o a list -/
def dlputS (te to ti : TDE) : TDS := fun D ds M => te ds M fun v M1 => to ds M1 fun x M2 => ti ds M2 fun y M3 => match x, y with
  | .ref a, .int i => (match lstOf M3 a with | some xs => (match ixN xs.length i with | some j => D.nx ds (mup M3 a (.lst (xs.set j v))) | none => False) | none => False)
  | _, _ => False
theorem js_lput {W : WX} (ho : JE X o to) (hi : JE X i ti) (he : JE X e te) (hs : swapsWithSole [.Subscript o i pos'] e pos.line X.env = pure false := by rfl) (hw : swappedStores [.Subscript o i pos'] e X.env = pure none := by rfl)
    (h1 : (assignEach [.Subscript o i pos'] X.env).map (·.2) = [assign (.Subscript o i pos') X.env] := by rfl)
    (hA : ∀ v, assign (.Subscript o i pos') X.env v = (do
      let ov ← holding [v] (eval o X.env)
      let iv ← holding [v, ov] (eval i X.env)
      standAt pos'
      holding [v, ov, iv] (setItem ov iv v)
      release [v, ov, iv] []) := by intro _; rfl) : JS X W (.Assign [.Subscript o i pos'] e pos) (dlputS te to ti) := by
  obtain ⟨u, p, g⟩ := ho
  obtain ⟨u', p', g'⟩ := hi
  obtain ⟨ue, pe, ge⟩ := he
  refine ⟨_, ps_asg pe (pg_sub p p' set_list hA) hs hw h1, fun M0 H0 D0 D1 l ds σ H M gg s m q => ?_⟩
  refine ge ds σ H M _ _ s m q fun v H1 d M1 r1 m1 g1 q1 => ?_
  refine g ds σ H1 M1 _ _ (s.gg m g1) m1 q1 fun w H2 d2 M2 r2 m2 g2 q2 => ?_
  refine g' ds σ H2 M2 _ _ (s.gg m (g1.trans g2)) m2 q2 fun z H3 d3 M3 r3 m3 g3 q3 => ?_
  split at q3
  · rename_i a i
    cases r2.ref_v
    cases r3.int_v
    split at q3
    · rename_i xs e2
      split at q3
      · rename_i j e3
        obtain ⟨vs, h1, r4⟩ := m3.ob a _ (of_lstOf e2)
        have r1' : VR X.K H3 d v := VR.mono ((g2.trans g3).tx m1) _ _ r1
        have t := TX.put (u := .lst (vs.set j v)) m3 (of_lstOf e2)
        have gp : GG M3 H3 (mup M3 a (.lst (xs.set j d))) (H3.up a (.lst (vs.set j v))) := GG.put (of_lstOf e2)
        refine ⟨a, vs, i, j, rfl, rfl, h1, by rw [← r4.length]; exact e3, ?_⟩
        exact l.nx σ ds _ _ ((((gg.trans g1).trans g2).trans g3).trans gp) ((s.gg m ((g1.trans g2).trans g3)).gg m3 gp)
          (m3.put (w := .lst (xs.set j d)) (of_lstOf e2) ⟨_, upd_same, (VRs.mono t _ _ r4).set (VR.mono t _ _ r1') j⟩) q3
      · exact q3.elim
    · exact q3.elim
  · exact q3.elim
/-- {} -/
def dDict0 : TDE := fun _ M Q => ∀ p, M p = none → Q (.ref p) (mup M p (.dic []))
theorem je_dict0 : JE X (.Dict [] [] pos) dDict0 := je_pe pe_dnewK fun ds σ H M Q Q0 s m q k p hp => k _ (H.up p _) _ _ (.ref p) (m.new (w := .dic []) hp ⟨[], upd_same, .nil⟩) (GG.new hp) (q p (m.free hp))
end
end DM

namespace DM
open PySem L2
open PyProof.Rows (b2i)

/-! ### a list, a tuple or a text that is walked -/
theorem pi_any {X : Cx} {tg l : Expr} {tl : TE} (hl : PE X l tl) : PI X tg l (fun σ H R => tl σ H fun x H1 => (∃ a, x = .ref a ∧ (∃ xs, SqL X.K H1 a xs) ∧ R (Itl X.K a) H1) ∨ (∃ a, x = .ref a ∧ (∃ xs, SqT X.K H1 a xs) ∧ R (Itt X.K a) H1) ∨ ∃ z, x = .str z ∧ R (Its z) H1) := by
  refine ⟨fun pins s σ H R I h => ?_⟩
  refine thn (hl.run pins s σ H _ I h) fun v s1 ⟨x, H1, I1, r1, q1⟩ => ?_
  rcases q1 with ⟨a, e, ⟨xs, hq⟩, q⟩ | ⟨a, e, ⟨xs, hq⟩, q⟩ | ⟨z, e, q⟩
  · subst e
    cases r1
    obtain ⟨its, rv, p, hz⟩ := I1.list hq
    refine wpAny_pyIter_list p.isList ?_
    refine ⟨s1.heap.objs.size, [s1.heap.objs.size], _, _, H1, rfl, I1.kept (t' := s1.toks) fun b o e => Heap.get?_push_of_some _ e, turn_list a _, ⟨_, Heap.get?_push_size _ rfl, rfl, rfl⟩, fun b hb => ?_, q⟩
    have e : b = s1.heap.objs.size := by simpa using hb
    subst e
    exact I1.fpOk (Nat.le_refl _) (I1.hok.fresh (Nat.le_refl _))
  · subst e
    cases r1
    obtain ⟨its, rv, p, hz⟩ := I1.tuple hq
    refine wpAny_pyIter_tuple (show s1.heap.IsTuple a its.toArray from p) ?_
    refine ⟨s1.heap.objs.size, [s1.heap.objs.size], _, _, H1, rfl, I1.kept (t' := s1.toks) fun b o e => Heap.get?_push_of_some _ e, turn_tuple a _, ⟨_, Heap.get?_push_size _ rfl, rfl, rfl⟩, fun b hb => ?_, q⟩
    have e : b = s1.heap.objs.size := by simpa using hb
    subst e
    exact I1.fpOk (Nat.le_refl _) (I1.hok.fresh (Nat.le_refl _))
  · subst e
    obtain ⟨t, rfl⟩ := r1
    cases ha : z.cps.all (· < 128)
    · exact wpAny_pyIter_wide ha (pi_one (tk := s1.toks) I1 _ (turn_str _ z t "str_iterator" (.inr rfl)) ⟨_, Heap.get?_push_size _ rfl, rfl, rfl⟩ q)
    · exact wpAny_pyIter_ascii ha (pi_one (tk := s1.toks) I1 _ (turn_str _ z t "str_ascii_iterator" (.inl rfl)) ⟨_, Heap.get?_push_size _ rfl, rfl, rfl⟩ q)
def diAny (te : TDE) : TDI := fun ds M Q => te ds M fun x M1 => match x with
  | .tup xs => Q ⟨xs, fun _ => True⟩ M1
  | .str z => Q ⟨signs z, fun _ => True⟩ M1
  | .ref a => (match lstOf M1 a with | some xs => Q ⟨xs, fun M' => lstOf M' a = some xs⟩ M1 | none => False)
  | .lst xs => Q ⟨xs, fun _ => True⟩ M1
  | _ => False
theorem ji_any {X : Cx} {tg e : Expr} {te : TDE} (h : JE X e te) : JI X tg e (diAny te) := by
  obtain ⟨u, p, g⟩ := h
  refine ⟨_, pi_any p, fun ds σ H M Q R0 s m q k => ?_⟩
  refine g ds σ H M _ _ s m q fun v H1 d M1 r1 m1 g1 q1 => ?_
  cases d with
  | tup xs =>
    obtain ⟨a, vs, rfl, sa, ra⟩ := r1.tup_v
    exact .inr (.inl ⟨a, rfl, ⟨vs, sa⟩, k _ H1 _ M1 (it_tup sa ra m1) m1 g1 q1⟩)
  | str z =>
    cases r1.str_v
    exact .inr (.inr ⟨z, rfl, k _ H1 _ M1 it_str m1 g1 q1⟩)
  | ref a =>
    cases r1.ref_v
    simp only at q1
    split at q1
    · rename_i xs e
      obtain ⟨vs, h1, r2⟩ := m1.ob a _ (of_lstOf e)
      exact .inl ⟨a, rfl, ⟨vs, SqL.of h1⟩, k _ H1 _ M1 it_lst m1 g1 q1⟩
    · exact q1.elim
  | lst xs =>
    obtain ⟨a, vs, rfl, h1, f1, ra⟩ := r1.lst_v
    exact .inl ⟨a, rfl, ⟨vs, SqL.of h1⟩, k _ H1 _ M1 (it_own h1 ra (m1.nf a f1) m1) m1 g1 q1⟩
  | _ => exact q1.elim

/-! ### subscripts of sequences and dicts -/
open PyProof.Rows in
theorem ix_dict {X : Cx} (hu : X.A.units + 1 < cLine) : IxR X (fun x y H Q => ∃ a v, x = .ref a ∧ DGet H a y (some v) ∧ Q v H) := by
  intro value slice pins s σ H x y v u Q I rx ry h hs
  obtain ⟨a, z, rfl, g, q⟩ := h
  obtain rfl : v = Value.ref a := rx
  have hT := dict_typeIs I g
  have h₂ : wpAny (model X.prog X.w) X.A (getItem (.ref a) u) (EP X pins σ Q) X.xe s := d_getItem hu I g ry fun w' s3 I3 rw' => ⟨z, H, I3, rw', q⟩
  unfold subscriptTail
  refine wpAny_bind ?_
  rw [getitemInPython_of_ne hT.not_modules]
  refine wpAny_bind (wpAny_specialOf hT PySem.F.slot_dict_getitem.lookup ?_)
  have fin : wpAny (model X.prog X.w) X.A (subscripted slice false (.ref a) u) (fun r s₃ => wpAny (model X.prog X.w) X.A (letTemporaryGo value (.ref a) r >>= fun _ => pure r) (EP X pins σ Q) X.xe s₃) X.xe s := by
    rw [hs]
    exact wpAny_operating (wpAny_mono h₂ (fun r s₃ h₃ => wpAny_bind (wpAny_letTemporaryGo (wpAny_pure h₃))) fun _ _ x => x)
  first
    | exact wpAny_pure (wpAny_bind fin)
    | exact wpAny_bind (wpAny_pure (wpAny_bind fin))
    | exact wpAny_bind fin
def ixA : DR2 := fun x y M Q => match rdD M x with
  | some kvs => (match keyD y with | some k => (match valD kvs k with | some d => Q d M | none => False) | none => False)
  | none => ixR x y M Q
theorem lift_ixA {K : PySem.W.Frag} : Lift2 K (fun x y H Q => rIx K x y H Q ∨ ∃ a v, x = .ref a ∧ DGet H a y (some v) ∧ Q v H) ixA := by
  intro x y dx dy H M Q Q0 rx ry m h k
  unfold ixA at h
  split at h
  · rename_i kvs e
    split at h
    · rename_i kk e1
      split at h
      · rename_i d3 e3
        obtain ⟨a, vs, rfl, h1, r3⟩ := rdD_v m rx e
        obtain ⟨z, e4, r4⟩ := r3.val e3
        rw [keyD_v ry e1]
        exact .inr ⟨a, z, rfl, by rw [← e4]; exact DGet.k h1, k _ H _ M r4 m GG.refl h⟩
      · exact h.elim
    · exact h.elim
  · exact .inl (lift_ix x y dx dy H M Q Q0 rx ry m h k)
theorem je_ixA {X : Cx} {a b : Expr} {ta tb : TDE} {pos : Pos} {k : Nat} (hr : Room k X.A) (ha : JE X a ta) (hb : JE X b tb) (hs : PlainIx b := by exact fun _ _ => rfl) : JE X (.Subscript a b pos) (dOp ixA ta tb) := by
  obtain ⟨u, p, g⟩ := ha
  obtain ⟨u', p', g'⟩ := hb
  exact je_pe (pe_ix (ix_seq.or (ix_dict (hu_of hr))) p p' hs) (op2 lift_ixA g g')

/-! ### what a pure value is, is told by the heap -/
section
variable {X : Cx} {pins : List (Addr × Obj)} {σ : L2.St} {H : HF} {s : Shared}
mutual
theorem VR_inj (I : Inv X pins σ H.h s) : ∀ (d e : D) (v : V), VR X.K H d v → VR X.K H e v → pureD d = true → pureD e = true → d = e
  | .non, e, _, r, q, _, _ => by cases r; cases q; rfl
  | .bl _, e, _, r, q, _, _ => by cases r; cases q; rfl
  | .int _, e, _, r, q, _, _ => by cases r; cases q; rfl
  | .str _, e, _, r, q, _, _ => by cases r; cases q; rfl
  | .ref _, _, _, _, _, h, _ => by simp [pureD] at h
  | .ty _, _, _, _, _, h, _ => by simp [pureD] at h
  | .dic _, _, _, _, _, h, _ => by simp [pureD] at h
  | .tup xs, e, _, r, q, h, h' => by
    obtain ⟨a, vs, rfl, sa, ra⟩ := r.tup_v
    cases q with
    | ref _ => simp [pureD] at h'
    | dic _ _ _ => simp [pureD] at h'
    | @tup ys _ ws sb rb =>
      have := I.tuple_inj sa sb
      subst this
      rw [VRs_inj I xs ys vs ra rb (by simpa [pureD] using h) (by simpa [pureD] using h')]
    | lst sb _ _ => exact (tup_no_lst I sa sb).elim
  | .lst xs, e, _, r, q, h, h' => by
    obtain ⟨a, vs, rfl, sa, _, ra⟩ := r.lst_v
    cases q with
    | ref _ => simp [pureD] at h'
    | dic _ _ _ => simp [pureD] at h'
    | tup sb _ => exact (tup_no_lst I sb sa).elim
    | @lst ys _ ws sb _ rb =>
      have := lst_inj I sa sb
      subst this
      rw [VRs_inj I xs ys vs ra rb (by simpa [pureD] using h) (by simpa [pureD] using h')]
theorem VRs_inj (I : Inv X pins σ H.h s) : ∀ (ds es : List D) (vs : List V), VRs X.K H ds vs → VRs X.K H es vs → pureDs ds = true → pureDs es = true → ds = es
  | [], es, _, r, q, _, _ => by cases r; cases q; rfl
  | d :: ds, es, _, r, q, h, h' => by
    cases r with
    | cons r1 r2 =>
      cases q with
      | cons q1 q2 =>
        have h1 := Bool.and_eq_true_iff.mp (show (pureD d && pureDs ds) = true by simpa [pureDs] using h)
        have h2 := Bool.and_eq_true_iff.mp (show (pureD _ && pureDs _) = true by simpa [pureDs] using h')
        rw [VR_inj I d _ _ r1 q1 h1.1 h2.1, VRs_inj I ds _ _ r2 q2 h1.2 h2.2]
end
/-- the answers by the items' values -/
noncomputable def eqBy (ys : List D) (us : List Value) (d : D) (u : Value) : Bool := by
  classical
  exact if h : ∃ j : Nat, us[j]? = some u ∧ j < ys.length then (match ys[h.choose]? with | some y => eqvD y d | none => false) else false
theorem eqBy_of (I : Inv X pins σ H.h s) {ys : List D} {vs : List V} {us : List Value} {d : D} (r : VRs X.K H ys vs) (rv : Vals vs us) (hp : pureDs ys = true) {j : Nat} {y : D} {u : Value} (hy : ys[j]? = some y) (hu : us[j]? = some u) : eqBy ys us d u = eqvD y d := by
  have hj : j < ys.length := (List.getElem?_eq_some_iff.mp hy).1
  have h : ∃ j : Nat, us[j]? = some u ∧ j < ys.length := ⟨j, hu, hj⟩
  unfold eqBy
  rw [dif_pos h]
  obtain ⟨h1, h2⟩ := h.choose_spec
  obtain ⟨y', hy'⟩ : ∃ y', ys[h.choose]? = some y' := ⟨_, List.getElem?_eq_getElem h2⟩
  rw [hy']
  obtain ⟨v, hv, q⟩ := r.get hy
  obtain ⟨v', hv', q'⟩ := r.get hy'
  obtain ⟨w, hw, rw1⟩ := rv.get hv
  obtain ⟨w', hw', rw2⟩ := rv.get hv'
  rw [hu] at hw
  rw [h1] at hw'
  cases hw
  cases hw'
  have e := rw1.inj rw2
  subst e
  show eqvD y' d = eqvD y d
  rw [VR_inj I y y' v q q' (pureDs_get hp hy) (pureDs_get hp hy')]
theorem any_eqBy (I : Inv X pins σ H.h s) {ys : List D} {vs : List V} {us : List Value} {d : D} (r : VRs X.K H ys vs) (rv : Vals vs us) (hp : pureDs ys = true) : us.toArray.any (eqBy ys us d) = ys.any fun y => eqvD y d := by
  have hl : us.length = ys.length := by rw [← rv.length, ← r.length]
  have e : us.toArray.any (eqBy ys us d) = us.any (eqBy ys us d) := by simp
  rw [e, Bool.eq_iff_iff, List.any_eq_true, List.any_eq_true]
  constructor
  · rintro ⟨u, hu, h⟩
    obtain ⟨j, hj, hj2⟩ := List.getElem_of_mem hu
    have h1 : us[j]? = some u := by rw [List.getElem?_eq_getElem hj, hj2]
    have h2 : ys[j]? = some ys[j] := List.getElem?_eq_getElem (by omega)
    rw [eqBy_of I r rv hp h2 h1] at h
    exact ⟨_, List.getElem_mem _, h⟩
  · rintro ⟨y, hy, h⟩
    obtain ⟨j, hj, hj2⟩ := List.getElem_of_mem hy
    have h1 : us[j]? = some us[j] := List.getElem?_eq_getElem (by omega)
    have h2 : ys[j]? = some y := by rw [List.getElem?_eq_getElem hj, hj2]
    exact ⟨_, List.getElem_mem _, by rw [eqBy_of I r rv hp h2 h1]; exact h⟩
theorem mem_eqBy (I : Inv X pins σ H.h s) {ys : List D} {vs : List V} {us : List Value} {d : D} {v : V} {t : Value} {A : Around} (r : VRs X.K H ys vs) (rv : Vals vs us) (hp : pureDs ys = true) (rd : VR X.K H d v) (rt : RelV v t) (hd : pureD d = true)
    (hu : A.units + 100 < cLine) (hb : depDs ys ≤ 100) : ∀ u, u ∈ us.toArray → SeqAt.EqAt A s u t (eqBy ys us d u) := by
  intro u hm
  have hl : us.length = ys.length := by rw [← rv.length, ← r.length]
  have hm' : u ∈ us := by simpa using hm
  obtain ⟨j, hj, hj2⟩ := List.getElem_of_mem hm'
  have h1 : us[j]? = some u := by rw [List.getElem?_eq_getElem hj, hj2]
  have h2 : ys[j]? = some ys[j] := List.getElem?_eq_getElem (by omega)
  rw [eqBy_of I r rv hp h2 h1]
  obtain ⟨z, hz, q⟩ := r.get h2
  obtain ⟨u', hu', q2⟩ := rv.get hz
  rw [h1] at hu'
  cases hu'
  have := depDs_get h2
  exact eqAt_D I _ d z v u t A q rd q2 rt (pureDs_get hp h2) hd (by omega)
end

/-! ### in, not in -/
def inStr (c z : Str) : Bool := !(Builtin.Str.occurrences z c 0 z.length 1).isEmpty
theorem inStr_sign (c : Nat) (z : Str) : inStr ⟨#[c]⟩ z = decide (c ∈ z.cps.toList) := PySem.StrLaws.found_one z c
def memC (ys : List D) (d : D) : Prop := pureD d = true ∧ pureDs ys = true ∧ depDs ys ≤ 100
def inAny (ys : List D) (d : D) : Bool := ys.any fun y => eqvD y d
def inDQ (neg : Bool) : DR2 := fun x y M Q => match rdD M y, keyD x with
  | some kvs, some k => Q (.bl (neg != (valD kvs k).isSome)) M
  | _, _ => False
def inQ (neg : Bool) : DR2 := fun x y M Q => match y with
  | .str z => (match x with | .str c => Q (.bl (neg != inStr c z)) M | _ => False)
  | y => (match rdS M y with | some ys => memC ys x ∧ Q (.bl (neg != inAny ys x)) M | none => inDQ neg x y M Q)
theorem inQ_out {neg : Bool} {x y : D} {M : Mm} {Q : DQ} (h : inQ neg x y M Q) : (∃ z c, y = .str z ∧ x = .str c ∧ Q (.bl (neg != inStr c z)) M) ∨ (∃ ys, rdS M y = some ys ∧ memC ys x ∧ Q (.bl (neg != inAny ys x)) M) ∨
    ∃ kvs k, rdD M y = some kvs ∧ keyD x = some k ∧ Q (.bl (neg != (valD kvs k).isSome)) M := by
  have two : (match rdS M y with | some ys => memC ys x ∧ Q (.bl (neg != inAny ys x)) M | none => inDQ neg x y M Q) → (∃ ys, rdS M y = some ys ∧ memC ys x ∧ Q (.bl (neg != inAny ys x)) M) ∨
      ∃ kvs k, rdD M y = some kvs ∧ keyD x = some k ∧ Q (.bl (neg != (valD kvs k).isSome)) M := by
    intro h
    split at h
    · rename_i ys e
      exact .inl ⟨ys, e, h⟩
    · unfold inDQ at h
      split at h
      · rename_i kvs k e1 e2
        exact .inr ⟨kvs, k, e1, e2, h⟩
      · exact h.elim
  cases y with
  | str z =>
    cases x with
    | str c => exact .inl ⟨z, c, rfl, rfl, h⟩
    | _ => exact h.elim
  | _ => exact .inr (two h)
abbrev inR : DR2 := inQ false
abbrev notInR : DR2 := inQ true
theorem op_inT {X : Cx} (hu : X.A.units + 150 < cLine) : OpD X (compareOp .In) inR := by
  intro pins s σ H M d e x y v u Q Q0 I m rd re rx ry hq k
  have hu1 : X.A.in1.units + 100 < cLine := by show X.A.units + 1 + 100 < cLine; omega
  rcases inQ_out hq with ⟨z, c, rfl, rfl, hq'⟩ | ⟨ys, e1, ⟨p1, p2, p3⟩, hq'⟩ | ⟨kvs, kk, e1, ek, hq'⟩
  · cases re.str_v
    obtain ⟨t, rfl⟩ := ry
    cases rd.str_v
    obtain ⟨t', rfl⟩ := rx
    simp only [Bool.false_bne, Bool.true_bne] at hq'
    exact PyProof.Rows.in_str ⟨.bl _, H.h, I, rfl, k _ H _ M (.bl _) m GG.refl hq'⟩
  · simp only [Bool.false_bne, Bool.true_bne] at hq'
    obtain ⟨a, ws, rfl, ra, h1 | h1⟩ := rdS_v m re e1
    · obtain ⟨its, rv, ht⟩ := tup_at I h1.2
      cases ry
      refine SeqAt.in_tupleAt (eqBy ys its d) ht (mem_eqBy I ra rv p2 rd rx p1 hu1 p3) ?_
      rw [any_eqBy I ra rv p2]
      exact ⟨.bl _, H.h, I, rfl, k _ H _ M (.bl _) m GG.refl hq'⟩
    · obtain ⟨its, rv, ht⟩ := lst_at I (SqL.of h1)
      cases ry
      refine SeqAt.in_listAt (eqBy ys its d) ht (mem_eqBy I ra rv p2 rd rx p1 hu1 p3) ?_
      rw [any_eqBy I ra rv p2]
      exact ⟨.bl _, H.h, I, rfl, k _ H _ M (.bl _) m GG.refl hq'⟩
  · simp only [Bool.false_bne, Bool.true_bne] at hq'
    obtain ⟨a, ws, rfl, h1, ra⟩ := rdD_v m re e1
    cases ry
    have hv := keyD_v rd ek
    subst hv
    refine d_in (by omega) I (DGet.k h1) rx fun s' I' => ⟨.bl _, H.h, I', rfl, ?_⟩
    have : (valV ws kk).isSome = (valD kvs kk).isSome := by
      cases e3 : valD kvs kk with
      | none => rw [ra.valN e3]; rfl
      | some d3 => obtain ⟨z, e4, _⟩ := ra.val e3; rw [e4]; rfl
    rw [this]
    exact k _ H _ M (.bl _) m GG.refl hq'
theorem op_notInT {X : Cx} (hu : X.A.units + 150 < cLine) : OpD X (compareOp .NotIn) notInR := by
  intro pins s σ H M d e x y v u Q Q0 I m rd re rx ry hq k
  have hu1 : X.A.in1.units + 100 < cLine := by show X.A.units + 1 + 100 < cLine; omega
  rcases inQ_out hq with ⟨z, c, rfl, rfl, hq'⟩ | ⟨ys, e1, ⟨p1, p2, p3⟩, hq'⟩ | ⟨kvs, kk, e1, ek, hq'⟩
  · cases re.str_v
    obtain ⟨t, rfl⟩ := ry
    cases rd.str_v
    obtain ⟨t', rfl⟩ := rx
    simp only [Bool.false_bne, Bool.true_bne] at hq'
    exact PyProof.Rows.notIn_str ⟨.bl _, H.h, I, rfl, k _ H _ M (.bl _) m GG.refl hq'⟩
  · simp only [Bool.false_bne, Bool.true_bne] at hq'
    obtain ⟨a, ws, rfl, ra, h1 | h1⟩ := rdS_v m re e1
    · obtain ⟨its, rv, ht⟩ := tup_at I h1.2
      cases ry
      refine SeqAt.notIn_tupleAt (eqBy ys its d) ht (mem_eqBy I ra rv p2 rd rx p1 hu1 p3) ?_
      rw [any_eqBy I ra rv p2]
      exact ⟨.bl _, H.h, I, rfl, k _ H _ M (.bl _) m GG.refl hq'⟩
    · obtain ⟨its, rv, ht⟩ := lst_at I (SqL.of h1)
      cases ry
      refine SeqAt.notIn_listAt (eqBy ys its d) ht (mem_eqBy I ra rv p2 rd rx p1 hu1 p3) ?_
      rw [any_eqBy I ra rv p2]
      exact ⟨.bl _, H.h, I, rfl, k _ H _ M (.bl _) m GG.refl hq'⟩
  · simp only [Bool.false_bne, Bool.true_bne] at hq'
    obtain ⟨a, ws, rfl, h1, ra⟩ := rdD_v m re e1
    cases ry
    have hv := keyD_v rd ek
    subst hv
    refine d_notIn (by omega) I (DGet.k h1) rx fun s' I' => ⟨.bl _, H.h, I', rfl, ?_⟩
    have : (valV ws kk).isSome = (valD kvs kk).isSome := by
      cases e3 : valD kvs kk with
      | none => rw [ra.valN e3]; rfl
      | some d3 => obtain ⟨z, e4, _⟩ := ra.val e3; rw [e4]; rfl
    rw [this]
    exact k _ H _ M (.bl _) m GG.refl hq'

/-! ### is, is not: None, truths -/
def isNonD : D → Bool | .non => true | _ => false
def isQ (neg : Bool) : DR2 := fun x y M Q => match y with
  | .non => Q (.bl (neg != isNonD x)) M
  | .bl b => (match x with | .bl a => Q (.bl (neg != decide (a = b))) M | _ => False)
  | _ => False
abbrev isR : DR2 := isQ false
abbrev isNotR : DR2 := isQ true
theorem dec_non {K : PySem.W.Frag} {H : HF} {x : D} {v : V} (r : VR K H x v) : decide (v = .non) = isNonD x := by
  cases r <;> rfl
theorem lift_is {K : PySem.W.Frag} : Lift2 K (fun x y H Q => (y = .non ∧ Q (.bl (decide (x = .non))) H) ∨ rIsB x y H Q) isR := by
  intro x y dx dy H M Q Q0 rx ry m h k
  cases dy with
  | non =>
    cases ry.non_v
    refine .inl ⟨rfl, ?_⟩
    rw [dec_non rx]
    exact k _ H _ M (.bl _) m GG.refl (by simpa [isQ] using h)
  | bl b =>
    cases ry.bl_v
    cases dx with
    | bl a =>
      cases rx.bl_v
      exact .inr ⟨a, b, rfl, rfl, k _ H _ M (.bl _) m GG.refl (by simpa [isQ] using h)⟩
    | _ => exact h.elim
  | _ => exact h.elim
theorem lift_isNot {K : PySem.W.Frag} : Lift2 K (fun x y H Q => (y = .non ∧ Q (.bl (!decide (x = .non))) H) ∨ rNotB x y H Q) isNotR := by
  intro x y dx dy H M Q Q0 rx ry m h k
  cases dy with
  | non =>
    cases ry.non_v
    refine .inl ⟨rfl, ?_⟩
    rw [dec_non rx]
    exact k _ H _ M (.bl _) m GG.refl (by simpa [isQ] using h)
  | bl b =>
    cases ry.bl_v
    cases dx with
    | bl a =>
      cases rx.bl_v
      exact .inr ⟨a, b, rfl, rfl, k _ H _ M (.bl _) m GG.refl (by simpa [isQ] using h)⟩
    | _ => exact h.elim
  | _ => exact h.elim
section
variable {X : Cx} {a b : Expr} {ta tb : TDE} {pos : Pos} {k : Nat}
theorem je_in (hr : Room k X.A) (ha : JE X a ta) (hb : JE X b tb) (hm : behindInMarks .In b = false := by rfl) : JE X (.Compare a [.In] [b] pos) (dOp inR ta tb) := je_cmpR (op_inT (hu150 hr)).opR lift_of ha hb hm
theorem je_notin (hr : Room k X.A) (ha : JE X a ta) (hb : JE X b tb) (hm : behindInMarks .NotIn b = false := by rfl) : JE X (.Compare a [.NotIn] [b] pos) (dOp notInR ta tb) := je_cmpR (op_notInT (hu150 hr)).opR lift_of ha hb hm
theorem jt_in (hr : Room k X.A) (ha : JE X a ta) (hb : JE X b tb) (hm : behindInMarks .In b = false := by rfl) : JT X (.Compare a [.In] [b] pos) (dTest (dOp inR ta tb)) := jt_cmpR (op_inT (hu150 hr)).opR lift_of ha hb hm
theorem jt_notin (hr : Room k X.A) (ha : JE X a ta) (hb : JE X b tb) (hm : behindInMarks .NotIn b = false := by rfl) : JT X (.Compare a [.NotIn] [b] pos) (dTest (dOp notInR ta tb)) := jt_cmpR (op_notInT (hu150 hr)).opR lift_of ha hb hm
theorem je_is (ha : JE X a ta) (hb : JE X b tb) : JE X (.Compare a [.Is] [b] pos) (dOp isR ta tb) := je_cmpR (op_isN.or op_isBl) lift_is ha hb (nomark _)
theorem je_isnot (ha : JE X a ta) (hb : JE X b tb) : JE X (.Compare a [.IsNot] [b] pos) (dOp isNotR ta tb) := je_cmpR (op_notN.or op_notBl) lift_isNot ha hb (nomark _)
theorem jt_is (ha : JE X a ta) (hb : JE X b tb) : JT X (.Compare a [.Is] [b] pos) (dTest (dOp isR ta tb)) := jt_cmpR (op_isN.or op_isBl) lift_is ha hb (nomark _)
theorem jt_isnot (ha : JE X a ta) (hb : JE X b tb) : JT X (.Compare a [.IsNot] [b] pos) (dTest (dOp isNotR ta tb)) := jt_cmpR (op_notN.or op_notBl) lift_isNot ha hb (nomark _)
end
end DM

namespace DM
open PySem L2
open PyProof.Rows (b2i)

/-! ### the deck of draws -/
structure DeckS where
  cs : List Int
  at_ : Int
  sum : Int
def DeckS.ok (S : DeckS) (r : Nat) : Prop := S.cs.length ≤ 63 ∧ 0 ≤ S.at_ ∧ S.at_ + (r : Int) ≤ 2 ^ 60
def deckD (c : Addr) (S : DeckS) : List (Key × D) := [(.inr "cells", .ref c), (.inr "at", .int S.at_), (.inr "sum", .int S.sum)]
/-- the deck at d, its cells at c; r draws at least are left -/
def Deck (M : Mm) (d c : Addr) (r : Nat) : Prop := d ≠ c ∧ ∃ S : DeckS, S.ok r ∧ M d = some (.dic (deckD c S)) ∧ M c = some (.lst (S.cs.map D.int))
/-- all but the deck stays -/
def Upto (d c : Addr) (M M' : Mm) : Prop := ∀ a, a ≠ d → a ≠ c → M' a = M a
theorem Upto.refl {d c : Addr} {M : Mm} : Upto d c M M := fun _ _ _ => rfl
theorem Upto.trans {d c : Addr} {M M1 M2 : Mm} (a : Upto d c M M1) (b : Upto d c M1 M2) : Upto d c M M2 := fun x h1 h2 => (b x h1 h2).trans (a x h1 h2)
theorem Deck.mono {M : Mm} {d c : Addr} {r r' : Nat} (h : Deck M d c r) (e : r' ≤ r) : Deck M d c r' := by
  obtain ⟨n, S, ⟨o1, o2, o3⟩, h1, h2⟩ := h
  exact ⟨n, S, ⟨o1, o2, by omega⟩, h1, h2⟩
theorem Deck.new {M : Mm} {d c p : Addr} {r : Nat} {o : MO} (h : Deck M d c r) (hp : M p = none) : Deck (mup M p o) d c r ∧ p ≠ d ∧ p ≠ c := by
  obtain ⟨n, S, ok, h1, h2⟩ := h
  have hd : p ≠ d := by rintro rfl; rw [hp] at h1; cases h1
  have hc : p ≠ c := by rintro rfl; rw [hp] at h2; cases h2
  exact ⟨⟨n, S, ok, by rw [mup_ne hd.symm]; exact h1, by rw [mup_ne hc.symm]; exact h2⟩, hd, hc⟩
theorem Deck.put {M : Mm} {d c p : Addr} {r : Nat} {o : MO} (h : Deck M d c r) (hd : p ≠ d) (hc : p ≠ c) : Deck (mup M p o) d c r := by
  obtain ⟨n, S, ok, h1, h2⟩ := h
  exact ⟨n, S, ok, by rw [mup_ne hd.symm]; exact h1, by rw [mup_ne hc.symm]; exact h2⟩
/-- what a draw is worth -/
def spDraw : DSp := fun ds M Q => match ds with
  | [.ref d, .int most] => ∃ c r, Deck M d c (r + 1) ∧ (0 < most ∧ most ≤ 2 ^ 62) ∧ ∀ n M', 0 ≤ n → n < most → Deck M' d c r → Upto d c M M' → Q (.int n) M'
  | _ => False
/-- what the deck's making is worth -/
def spDeckH (K : PySem.W.Frag) : Sp := fun vs H Q _ => ∃ (a : Addr) (ns : List Int), vs = [.ref a] ∧ SqL K H a (ns.map V.int) ∧ ns.length ≤ 63 ∧
  ∀ (d c : Addr) (H' : Hp) (S : DeckS), H c = none → H d = none → d ≠ c → S.ok (2 ^ 59) → H' c = some (.lst (S.cs.map V.int)) → H' d = some (.dK [(.inr "cells", .ref c), (.inr "at", .int S.at_), (.inr "sum", .int S.sum)]) → (∀ b o, H b = some o → H' b = some o) → Q (.ref d) H'
def spLawH (K : PySem.W.Frag) : Sp := fun vs H Q _ => ∃ (a : Addr) (ns : List Int), vs = [.ref a] ∧ SqL K H a (ns.map V.int) ∧ ns.length ≤ 63 ∧ ∀ H', Q (.bl true) H'

section
variable {P : Program} {w : World} {K : PySem.W.Frag} {mg : Str → Option Value} {base : Heap}
theorem vrs_ints {H : HF} : ∀ ns : List Int, VRs K H (ns.map D.int) (ns.map V.int)
  | [] => .nil
  | n :: ns => .cons (.int n) (vrs_ints ns)
theorem cut63 {ns : List Int} (h : ns.length ≤ 63) : cutV (ns.map V.int) none (some 63) = ns.map V.int := by
  unfold cutV
  rw [HT.sIx_none, show HT.sIx (ns.map V.int).length (ns.map V.int).length (some 63) = min 63 (ns.map V.int).length from HT.sIx_nat _ _ 63]
  rw [List.length_map]
  rw [List.drop_zero, Nat.sub_zero, List.take_of_length_le (by rw [List.length_map]; omega)]
theorem ok_deck {st : Stmt} {f : Addr} {fd : FuncData} (F : Fun K "_law_deck" "_law_deck" st f fd) (S : FnScope ["_law_script", "_law_cells"] ["_law_script"] (defScope st))
    (body : ∀ (cdv : Value) (A : Around) (outer : List Env) (s : Shared) (H : Hp) (E : XK),
      PSs (cxOf CX0 P w K mg base ["_law_script", "_law_cells"] "_law_deck" (defScope st) f cdv A outer s H E).nox (defBody st)
        (tSeq (tAsg (tCB (fun xs H Q => ∃ p ys, xs = [.ref p] ∧ (SqL K H p ys ∨ SqT K H p ys) ∧ ∀ l, H l = none → Q (.ref l) (upd H l (.lst ys))) (tCons (tSl (rSlL K) (tVar 0) tNoPart (tPart (tC (.int 63)))) tNil)) (gName 1))
        (tRet (tDisp [(tC (.str "cells"), tVar 1), (tC (.str "at"), tC (.int 0)), (tC (.str "sum"), tOp (rI0 fun i j => .int (i + j)) (tOp (rI (fun _ j => 0 < j) fun i j => .int (i % j)) (tCB (rSum K) (tCons (tVar 1) tNil)) (tC (.int 2147483629)))
          (tCB (fun xs H Q => ∃ p ys, xs = [.ref p] ∧ (SqL K H p ys ∨ SqT K H p ys) ∧ Q (.int ys.length) H) (tCons (tVar 1) tNil)))])))) :
    FnOk P w K mg base CX0 1 f fd ["_law_script"] (spDeckH K) := by
  refine F.ok S (fun vs H Q E h => ?_) fun cdv A outer s H vs Q E hr h => ?_
  · obtain ⟨a, ns, rfl, _⟩ := h
    rfl
  · obtain ⟨a, ns, rfl, hS, hlen, k⟩ := h
    have hb := body cdv A outer s H E
    refine ⟨_, hb, ?_⟩
    refine ⟨_, rfl, 63, rfl, a, ns.map V.int, rfl, hS, fun p hp => ?_⟩
    rw [cut63 hlen]
    have hS1 : SqL K (upd H p (.lst (ns.map V.int))) p (ns.map V.int) := SqL.of upd_same
    refine ⟨p, ns.map V.int, rfl, .inl hS1, fun c hc => ?_⟩
    have hpc : p ≠ c := by rintro rfl; rw [upd_same] at hc; cases hc
    have hHc : H c = none := by rw [upd_ne hpc.symm] at hc; exact hc
    intro d hd
    have hdc : d ≠ c := by rintro rfl; rw [upd_same] at hd; cases hd
    have hdp : d ≠ p := by rintro rfl; rw [upd_ne hpc, upd_same] at hd; cases hd
    have hHd : H d = none := by rw [upd_ne hdc, upd_ne hdp] at hd; exact hd
    have hC : SqL K (upd (upd (upd H p (.lst (ns.map V.int))) c (.lst (ns.map V.int))) d (.dK [])) c (ns.map V.int) := SqL.of (by rw [upd_ne hdc.symm, upd_same])
    refine ⟨.ref c, rfl, .ref c, rfl, c, ns, rfl, hC, _, _, rfl, rfl, (by show (0:Int) < 2147483629; decide), .ref c, rfl, c, _, rfl, .inl hC, _, _, rfl, rfl, upd_same, ?_⟩
    refine ⟨[(.inr "cells", .ref c), (.inr "at", .int 0), (.inr "sum", .int (ns.sum % 2147483629 + ((ns.map V.int).length : Nat)))], rfl, (by show 3 ≤ 15; decide), ?_⟩
    refine k d c _ ⟨ns, 0, ns.sum % 2147483629 + ((ns.map V.int).length : Nat)⟩ hHc hHd hdc ⟨hlen, by simp, by simp⟩ ?_ ?_ fun b o e => ?_
    · rw [upd_ne hdc.symm, upd_ne hdc.symm, upd_same]
    · rw [upd_same]
      rfl
    · have b1 : b ≠ d := by rintro rfl; rw [hHd] at e; cases e
      have b2 : b ≠ c := by rintro rfl; rw [hHc] at e; cases e
      have b3 : b ≠ p := by rintro rfl; rw [hp] at e; cases e
      rw [upd_ne b1, upd_ne b1, upd_ne b2, upd_ne b3]
      exact e
theorem law_ok {st st0 : Stmt} {rest : List Stmt} {f : Addr} {fd : FuncData} {N : List Str} {k : Nat} (F : Fun K "law" "law" st f fd) (S : FnScope N ["_law_script"] (defScope st)) (hN : 2 ≤ N.length) (hbd : defBody st = st0 :: rest)
    (body : ∀ (cdv : Value) (A : Around) (outer : List Env) (s : Shared) (H : Hp) (E : XK), Room k (A.deeper (PyProof.Rows.envOfC "law" (defScope st) s.heap.objs.size f cdv)) →
      ∃ t, PS (cxOf CX0 P w K mg base N "law" (defScope st) f cdv A outer s H E).nox st0 (tAsg (tCall (spDeckH K) [] E0 (tCons (tVar 0) tNil)) (gName 1)) ∧
        JB (cxOf CX0 P w K mg base N "law" (defScope st) f cdv A outer s H E).nox (fun _ _ _ _ => False) rest t ∧
        ∀ (M : Mm) (d c : Addr), Deck M d c (2 ^ 59) → t { nx := fun _ _ => False, rt := fun v _ => v = .bl true } (none :: some (.ref d) :: List.replicate (N.length - 2) none) M) :
    FnOk P w K mg base CX0 (k + 1) f fd ["_law_script"] (spLawH K) := by
  refine F.ok S (fun vs H Q E h => ?_) fun cdv A outer s H vs Q E hr h => ?_
  · obtain ⟨a, ns, rfl, _⟩ := h
    rfl
  · obtain ⟨a, ns, rfl, hS, hlen, kk⟩ := h
    obtain ⟨t, h1, ⟨t0, p, g⟩, hb⟩ := body cdv A outer s H E hr
    rw [hbd]
    refine ⟨_, pss_cons h1 p, ?_⟩
    obtain ⟨x1, x2, N', rfl⟩ : ∃ x1 x2 N', N = x1 :: x2 :: N' := by
      match N, hN with
      | x1 :: x2 :: N', _ => exact ⟨x1, x2, N', rfl⟩
    refine ⟨.ref a, rfl, a, ns, rfl, hS, hlen, fun d c H' Sd hc hd hdc ok e1 e2 hk => ?_⟩
    let M : Mm := mup (mup (fun _ => none) d (.dic (deckD c Sd))) c (.lst (Sd.cs.map D.int))
    have hM : MR K M ⟨H', fun _ => False⟩ := by
      refine ⟨fun b o e => ?_, fun _ f => f.elim, fun _ f => f.elim⟩
      by_cases hbc : b = c
      · subst hbc
        have : o = .lst (Sd.cs.map D.int) := by
          have e' : M b = some (.lst (Sd.cs.map D.int)) := mup_same
          rw [e'] at e
          exact (Option.some.inj e).symm
        subst this
        exact ⟨_, e1, vrs_ints _⟩
      · by_cases hbd : b = d
        · subst hbd
          have : o = .dic (deckD c Sd) := by
            have e' : M b = some (.dic (deckD c Sd)) := by show mup _ c _ b = _; rw [mup_ne hbc, mup_same]
            rw [e'] at e
            exact (Option.some.inj e).symm
          subst this
          exact ⟨_, e2, .cons (.ref c) (.cons (.int _) (.cons (.int _) .nil))⟩
        · have e' : M b = none := by show mup _ c _ b = _; rw [mup_ne hbc, mup_ne hbd]
          rw [e'] at e
          cases e
    have hD : Deck M d c (2 ^ 59) := ⟨hdc, Sd, ok, by show mup _ c _ d = _; rw [mup_ne hdc, mup_same], mup_same⟩
    refine g M ⟨H', fun _ => False⟩ _ _ ⟨?_, ?_, ?_, ?_, ?_⟩ _ _ ⟨H', fun _ => False⟩ M GG.refl ?_ hM (hb M d c hD)
    · intro _ _ _ _ _ _ _ q
      exact q.elim
    · rintro v d' H2 M2 _ r2 _ rfl
      cases r2
      exact kk H2.h
    · intro _ _ _ _ _ _ _ q
      exact q.elim
    · intro _ _ _ _ _ _ _ q
      exact q.elim
    · intro _ _ _ _ _ _ _ _ _ _ _ _ q
      exact q.elim
    · refine ⟨by simp [L2.start], fun i e h => ?_⟩
      match i with
      | 0 => simp at h
      | 1 =>
        simp at h
        subst h
        exact ⟨.ref d, by simp [L2.start, List.replicate_succ], .ref d⟩
      | i + 2 =>
        simp only [List.getElem?_cons_succ] at h
        rw [List.getElem?_replicate] at h
        split at h <;> cases h
end
end DM

namespace DM
open PySem L2
open PyProof.Rows (b2i)

/-! ### loops by invariants -/
section
variable {ok : Mm → Prop} {g : TDG} {tb : TDS} {D : DEnds} {c : TDT}
theorem forW_go (I : Nat → DSt → Mm → Prop) (xs : List DM.D) (hok : ∀ i ds M, I i ds M → ok M)
    (step : ∀ (i : Nat) (x : DM.D) (N : DSt → Mm → Prop), xs[i]? = some x → (∀ ds M, I (i + 1) ds M → N ds M) → ∀ ds M, I i ds M → g x ds M fun ds' M' => tb { D with nx := N, ct := N, bk := D.nx } ds' M')
    (fin : ∀ ds M, I xs.length ds M → D.nx ds M) : ∀ ds M, I 0 ds M → forW ok g tb D xs ds M := by
  have key : ∀ (n i : Nat), xs.length - i = n → i ≤ xs.length → ∀ ds M, I i ds M → forW ok g tb D (xs.drop i) ds M := by
    intro n
    induction n with
    | zero =>
      intro i e hi ds M h
      have : i = xs.length := by omega
      subst this
      rw [List.drop_length]
      exact ⟨hok _ _ _ h, fin ds M h⟩
    | succ n ih =>
      intro i e hi ds M h
      have hlt : i < xs.length := by omega
      rw [List.drop_eq_getElem_cons hlt]
      exact ⟨hok _ _ _ h, step i _ _ (List.getElem?_eq_getElem hlt) (fun ds M h => ih (i + 1) (by omega) (by omega) ds M h) ds M h⟩
  intro ds M h
  have := key xs.length 0 (by simp) (Nat.zero_le _) ds M h
  rwa [List.drop_zero] at this
/-- through a range -/
theorem forW_rng (I : Nat → DSt → Mm → Prop) {lo : Int} {n : Nat}
    (step : ∀ (i : Nat) (N : DSt → Mm → Prop), i < n → (∀ ds M, I (i + 1) ds M → N ds M) → ∀ ds M, I i ds M → g (.int (lo + (i : Int))) ds M fun ds' M' => tb { D with nx := N, ct := N, bk := D.nx } ds' M')
    (fin : ∀ ds M, I n ds M → D.nx ds M) : ∀ ds M, I 0 ds M → forW (fun _ => True) g tb D (rangeD lo n) ds M := by
  have hl : (rangeD lo n).length = n := by simp [rangeD]
  refine forW_go I (rangeD lo n) (fun _ _ _ _ => trivial) (fun i x N e hN ds M h => ?_) (fun ds M h => fin ds M (by rw [hl] at h; exact h))
  obtain ⟨h1, rfl⟩ := rangeD_get e
  exact step i N h1 hN ds M h
theorem whileN_go (I : Nat → DSt → Mm → Prop)
    (base : ∀ (N : DSt → Mm → Prop) ds M, I 0 ds M → c ds M fun b M1 => if b = true then tb { D with nx := N, ct := N, bk := D.nx } ds M1 else D.nx ds M1)
    (step : ∀ (m : Nat) (N : DSt → Mm → Prop), (∀ ds M, I m ds M → N ds M) → ∀ ds M, I (m + 1) ds M → c ds M fun b M1 => if b = true then tb { D with nx := N, ct := N, bk := D.nx } ds M1 else D.nx ds M1) :
    ∀ (m : Nat) ds M, I m ds M → dWhile c tb D ds M := by
  have key : ∀ (m : Nat) ds M, I m ds M → whileN c tb D (m + 1) ds M := by
    intro m
    induction m with
    | zero => exact fun ds M h => base _ ds M h
    | succ m ih => exact fun ds M h => step m _ ih ds M h
  exact fun m ds M h => ⟨m + 1, key m ds M h⟩
end
section
variable {ok : Mm → Prop} {g : TDG} {tt : TDT} {te : TDE} {ds0 : DSt} {Q : List D → Mm → Prop}
theorem lcW_go (I : Nat → List D → Mm → Prop) (xs : List D) (hok : ∀ i acc M, I i acc M → ok M)
    (step : ∀ (i : Nat) (x : D) (N : List D → Mm → Prop), xs[i]? = some x → (∀ acc M, I (i + 1) acc M → N acc M) → ∀ acc M, I i acc M →
      g x ds0 M fun ds' M2 => tt ds' M2 fun b M3 => if b = true then te ds' M3 fun d M4 => acc.length < sizeLine ∧ N (acc ++ [d]) M4 else N acc M3)
    (fin : ∀ acc M, I xs.length acc M → Q acc M) : ∀ M, I 0 [] M → lcW ok g tt te ds0 Q xs [] M := by
  have key : ∀ (n i : Nat), xs.length - i = n → i ≤ xs.length → ∀ acc M, I i acc M → lcW ok g tt te ds0 Q (xs.drop i) acc M := by
    intro n
    induction n with
    | zero =>
      intro i e hi acc M h
      have : i = xs.length := by omega
      subst this
      rw [List.drop_length]
      exact ⟨hok _ _ _ h, fin acc M h⟩
    | succ n ih =>
      intro i e hi acc M h
      have hlt : i < xs.length := by omega
      rw [List.drop_eq_getElem_cons hlt]
      exact ⟨hok _ _ _ h, step i _ _ (List.getElem?_eq_getElem hlt) (fun acc M h => ih (i + 1) (by omega) (by omega) acc M h) acc M h⟩
  intro M h
  have := key xs.length 0 (by simp) (Nat.zero_le _) [] M h
  rwa [List.drop_zero] at this
/-- each item's answer alone: the store stays -/
theorem lcW_pure (f : D → Option D) {xs : List D} {M : Mm} (hz : xs.length ≤ sizeLine) (hok : ok M)
    (h : ∀ x ∈ xs, ∀ (N1 : DQ) (N2 : Mm → Prop), (∀ d, f x = some d → N1 d M) → (f x = none → N2 M) → g x ds0 M fun ds' M2 => tt ds' M2 fun b M3 => if b = true then te ds' M3 N1 else N2 M3)
    (fin : Q (xs.filterMap f) M) : lcW ok g tt te ds0 Q xs [] M := by
  refine lcW_go (fun i acc M' => M' = M ∧ acc = (xs.take i).filterMap f) xs (fun i acc M' h => by rw [h.1]; exact hok) (fun i x N e hN acc M' hI => ?_) (fun acc M' hI => ?_) M ⟨rfl, by simp⟩
  · obtain ⟨rfl, rfl⟩ := hI
    have hx : x ∈ xs := List.mem_of_getElem? e
    have hlt : i < xs.length := (List.getElem?_eq_some_iff.mp e).1
    have et : xs.take (i + 1) = xs.take i ++ [x] := by rw [List.take_add_one, e]; rfl
    refine h x hx _ _ (fun d hd => ⟨?_, hN _ _ ⟨rfl, ?_⟩⟩) (fun hn => hN _ _ ⟨rfl, ?_⟩)
    · refine Nat.lt_of_le_of_lt (List.length_filterMap_le _ _) ?_
      rw [List.length_take]
      omega
    · rw [et, List.filterMap_append]
      simp [hd]
    · rw [et, List.filterMap_append]
      simp [hn]
  · obtain ⟨rfl, rfl⟩ := hI
    rw [List.take_length]
    exact fin
theorem lcW_map (f : D → D) {xs : List D} {M : Mm} (hz : xs.length ≤ sizeLine) (hok : ok M)
    (h : ∀ x ∈ xs, ∀ (N1 : DQ), N1 (f x) M → g x ds0 M fun ds' M2 => te ds' M2 N1)
    (fin : Q (xs.map f) M) : lcW ok g dYes te ds0 Q xs [] M := by
  refine lcW_pure (fun x => some (f x)) hz hok (fun x hx N1 N2 h1 _ => ?_) ?_
  · exact h x hx _ (h1 _ rfl)
  · rw [show xs.filterMap (fun x => some (f x)) = xs.map f by simp]
    exact fin
end
/-! ### numbers -/
theorem log2_lt {n k : Nat} (hk : 0 < k) (h : n < 2 ^ k) : n.log2 < k := by
  by_cases h0 : n = 0
  · subst h0; simpa using hk
  · exact (Nat.log2_lt h0).mpr h
theorem cmul_ok {i j : Int} (hi : i.natAbs < 2 ^ 200) (hj : j.natAbs < 2 ^ 200) : CMulW i j := by
  have h1 := log2_lt (by decide) hi
  have h2 := log2_lt (by decide) hj
  show _ + _ < 1000000
  omega
theorem nabs_mul {i j : Int} {a b : Nat} (hi : i.natAbs < 2 ^ a) (hj : j.natAbs < 2 ^ b) : (i * j).natAbs < 2 ^ (a + b) := by
  rw [Int.natAbs_mul, Nat.pow_add]
  exact Nat.mul_lt_mul'' hi hj
theorem nabs_up {i : Int} {a b : Nat} (h : i.natAbs < 2 ^ a) (e : a ≤ b) : i.natAbs < 2 ^ b := Nat.lt_of_lt_of_le h (Nat.pow_le_pow_right (by decide) e)
theorem nabs64 {i : Int} (h : -(2 ^ 63) < i ∧ i < 2 ^ 63) : i.natAbs < 2 ^ 63 := by omega
theorem cdiv_ok {i j : Int} (h0 : 0 < j) (h : j < 2 ^ 63) : CDivW i j := by
  refine ⟨h0, ?_⟩
  have := log2_lt (n := j.natAbs) (k := 63) (by decide) (by omega)
  omega
/-! ### operations on known kinds -/
section
variable {i j : Int} {M : Mm} {Q : DQ} {x y : Str} {xs ys : List D} {a b : Bool}
theorem addR_ii : addR (.int i) (.int j) M Q = Q (.int (i + j)) M := (rfl)
theorem addR_ib : addR (.int i) (.bl b) M Q = Q (.int (i + b2i b)) M := (rfl)
theorem addR_ss : addR (.str x) (.str y) M Q = (x.length + y.length ≤ sizeLine ∧ Q (.str (x ++ y)) M) := (rfl)
theorem addR_tt : addR (.tup xs) (.tup ys) M Q = (xs.length + ys.length ≤ sizeLine ∧ Q (.tup (xs ++ ys)) M) := (rfl)
theorem subR_ii : subR (.int i) (.int j) M Q = Q (.int (i - j)) M := (rfl)
theorem mulR_ii : mulR (.int i) (.int j) M Q = (CMulW i j ∧ Q (.int (i * j)) M) := (rfl)
theorem modR_ii : modR (.int i) (.int j) M Q = (0 < j ∧ Q (.int (i % j)) M) := (rfl)
theorem fdivR_ii : fdivR (.int i) (.int j) M Q = (CDivW i j ∧ Q (.int (i / j)) M) := (rfl)
theorem powR_ii : powR (.int i) (.int j) M Q = (CPow i j ∧ Q (.int (i ^ j.toNat)) M) := (rfl)
theorem ltR_ii : ltR (.int i) (.int j) M Q = Q (.bl (decide (i < j))) M := (rfl)
theorem leR_ii : leR (.int i) (.int j) M Q = Q (.bl (decide (i ≤ j))) M := (rfl)
theorem gtR_ii : gtR (.int i) (.int j) M Q = Q (.bl (decide (j < i))) M := (rfl)
theorem geR_ii : geR (.int i) (.int j) M Q = Q (.bl (decide (j ≤ i))) M := (rfl)
theorem keyD_s : keyD (.str x) = some (.inr x) := rfl
theorem keyD_i : keyD (.int i) = some (.inl i) := rfl
theorem eqM_ii : eqM M (.int i) (.int j) = (i == j) := (rfl)
theorem eqM_ss : eqM M (.str x) (.str y) = (x == y) := (rfl)
theorem eqM_bb : eqM M (.bl a) (.bl b) = (a == b) := (rfl)
theorem eqM_tt : eqM M (.tup xs) (.tup ys) = eqvDs xs ys := (rfl)
theorem okD_i : okD M (.int i) = True := by simp [okD, resD, pureD, depD]
theorem okD_s : okD M (.str x) = True := by simp [okD, resD, pureD, depD]
theorem okD_b : okD M (.bl a) = True := by simp [okD, resD, pureD, depD]
theorem okD_n : okD M .non = True := by simp [okD, resD, pureD, depD]
theorem okD_t : okD M (.tup xs) = (pureDs xs = true ∧ depDs xs ≤ 99) := by
  simp only [okD, resD, pureD, depD, eq_iff_iff]
  constructor <;> (intro h; refine ⟨h.1, ?_⟩; omega)
theorem okD_L : okD M (.lst xs) = (pureDs xs = true ∧ depDs xs ≤ 99) := by
  simp only [okD, resD, pureD, depD, eq_iff_iff]
  constructor <;> (intro h; refine ⟨h.1, ?_⟩; omega)
theorem okD_l {a : Addr} (e : lstOf M a = some xs) : okD M (.ref a) = (pureDs xs = true ∧ depDs xs ≤ 99) := by
  simp only [okD, resD, e, pureD, depD, eq_iff_iff]
  constructor <;> (intro h; refine ⟨h.1, ?_⟩; omega)
theorem eqM_ll {a b : Addr} (e : lstOf M a = some xs) (e2 : lstOf M b = some ys) : eqM M (.ref a) (.ref b) = eqvDs xs ys := by
  simp only [eqM, resD, e, e2, eqvD]
theorem eqM_lL {a : Addr} (e : lstOf M a = some xs) : eqM M (.ref a) (.lst ys) = eqvDs xs ys := by
  simp only [eqM, resD, e, eqvD]
theorem eqM_Ll {a : Addr} (e : lstOf M a = some xs) : eqM M (.lst ys) (.ref a) = eqvDs ys xs := by
  simp only [eqM, resD, e, eqvD]
theorem eqM_LL : eqM M (.lst xs) (.lst ys) = eqvDs xs ys := (rfl)
theorem eqvDs_nil : eqvDs xs [] = xs.isEmpty := by cases xs <;> simp [eqvDs]
theorem dicOf_mup_same {a : Addr} {xs : List (Key × D)} : dicOf (mup M a (.dic xs)) a = some xs := dicOf_some mup_same
theorem dicOf_mup_ne {a b : Addr} {o : MO} (h : b ≠ a) : dicOf (mup M a o) b = dicOf M b := by unfold dicOf; rw [mup_ne h]
end
theorem pureDs_map {α : Type} (f : α → D) (h : ∀ a, pureD (f a) = true) : ∀ l : List α, pureDs (l.map f) = true
  | [] => rfl
  | a :: l => by rw [List.map_cons, pureDs, h a, pureDs_map f h l]; rfl
theorem depDs_map {α : Type} (f : α → D) (k : Nat) (hk : 1 ≤ k) (h : ∀ a, depD (f a) ≤ k) : ∀ l : List α, depDs (l.map f) ≤ k
  | [] => hk
  | a :: l => by
    rw [List.map_cons, depDs]
    have h1 := h a
    have h2 := depDs_map f k hk h l
    omega
theorem pureDs_int (ns : List Int) : pureDs (ns.map D.int) = true := pureDs_map _ (fun _ => rfl) ns
theorem depDs_int (ns : List Int) : depDs (ns.map D.int) ≤ 1 := depDs_map _ 1 (Nat.le_refl _) (fun _ => by simp [depD]) ns
/-! ### the deck's fields -/
section
variable {c : Addr} {S : DeckS} {v : Int}
theorem deck_at : valD (deckD c S) (.inr "at") = some (.int S.at_) := rfl
theorem deck_sum : valD (deckD c S) (.inr "sum") = some (.int S.sum) := rfl
theorem deck_cells : valD (deckD c S) (.inr "cells") = some (.ref c) := rfl
theorem deck_len : (deckD c S).length = 3 := rfl
theorem deck_put : putD (deckD c S) (.inr "at") (.int v) = deckD c { S with at_ := v } := rfl
end
end DM

namespace DM
open PySem L2
open PyProof.Rows (b2i)

/-! ### the store grows; but the deck may change -/
def Ext (d c : Addr) (M M' : Mm) : Prop := ∀ a o, a ≠ d → a ≠ c → M a = some o → M' a = some o
theorem Upto.ext {d c : Addr} {M M' : Mm} (h : Upto d c M M') : Ext d c M M' := fun a o h1 h2 e => by rw [h a h1 h2]; exact e
theorem Ext.refl {d c : Addr} {M : Mm} : Ext d c M M := fun _ _ _ _ h => h
theorem Ext.trans {d c : Addr} {M M1 M2 : Mm} (x : Ext d c M M1) (y : Ext d c M1 M2) : Ext d c M M2 := fun a o h1 h2 e => y a o h1 h2 (x a o h1 h2 e)
theorem Ext.new {d c p : Addr} {M M1 : Mm} {o : MO} (x : Ext d c M M1) (hp : M1 p = none) : Ext d c M (mup M1 p o) := fun a u h1 h2 e => by
  have := x a u h1 h2 e
  rw [mup_ne]
  · exact this
  · rintro rfl; rw [hp] at this; cases this
/-- an object that came behind is written -/
theorem Ext.put {d c p : Addr} {M M1 : Mm} {o : MO} (x : Ext d c M M1) (hp : M p = none) : Ext d c M (mup M1 p o) := fun a u h1 h2 e => by
  rw [mup_ne]
  · exact x a u h1 h2 e
  · rintro rfl; rw [hp] at e; cases e
theorem Ext.lst {d c a : Addr} {M M' : Mm} {xs : List D} (x : Ext d c M M') (h1 : a ≠ d) (h2 : a ≠ c) (e : lstOf M a = some xs) : lstOf M' a = some xs := lstOf_some (x a _ h1 h2 (of_lstOf e))
theorem Ext.dic {d c a : Addr} {M M' : Mm} {xs : List (Key × D)} (x : Ext d c M M') (h1 : a ≠ d) (h2 : a ≠ c) (e : dicOf M a = some xs) : dicOf M' a = some xs := dicOf_some (x a _ h1 h2 (of_dicOf e))
theorem Deck.nd {M : Mm} {d c p : Addr} {r : Nat} (h : Deck M d c r) (hp : M p = none) : p ≠ d := (h.new (o := .lst []) hp).2.1
theorem Deck.nc {M : Mm} {d c p : Addr} {r : Nat} (h : Deck M d c r) (hp : M p = none) : p ≠ c := (h.new (o := .lst []) hp).2.2
theorem Deck.up {M : Mm} {d c p : Addr} {r : Nat} {o : MO} (h : Deck M d c r) (hp : M p = none) : Deck (mup M p o) d c r := (h.new hp).1
theorem Deck.nn {M : Mm} {d c : Addr} {r : Nat} (h : Deck M d c r) : M d ≠ none ∧ M c ≠ none := by
  obtain ⟨_, S, _, h1, h2⟩ := h
  exact ⟨by rw [h1]; simp, by rw [h2]; simp⟩
/-- a statement, what holds behind it, the others -/
theorem seq_cut {t u : TDS} {D : DEnds} {ds : DSt} {M : Mm} (J : DSt → Mm → Prop) (h1 : ∀ N : DSt → Mm → Prop, (∀ ds M, J ds M → N ds M) → t { D with nx := N } ds M) (h2 : ∀ ds M, J ds M → u D ds M) : dSeq t u D ds M := h1 (u D) h2
theorem seq_go {t u : TDS} {D : DEnds} {ds : DSt} {M : Mm} (h : t { D with nx := u D } ds M) : dSeq t u D ds M := h
theorem ifs {c : Prop} [Decidable c] {a b : Prop} (h1 : c → a) (h2 : ¬c → b) : if c then a else b := by
  split
  · exact h1 (by assumption)
  · exact h2 (by assumption)
instance (i : Int) : Decidable (inLine i) := by unfold inLine; infer_instance
/-! ### picking -/
section
variable {M : Mm} {Q : DQ} {p : Addr} {x y : D} {b : Bool} {xs : List D} {i : Int}
theorem int1R_b : int1R [.bl b] M Q = Q (.int (if b then 1 else 0)) M := (rfl)
theorem int1R_i : int1R [.int i] M Q = Q (.int i) M := (rfl)
theorem ix_pick (e : lstOf M p = some [x, y]) (h : Q (if b then y else x) M) : ixR (.ref p) (.int (if b then 1 else 0)) M Q := by
  unfold ixR
  simp only [e]
  cases b <;> exact h
theorem ix_l {d : D} (e : lstOf M p = some xs) (h0 : 0 ≤ i) (h1 : xs[i.toNat]? = some d) (h : Q d M) : ixR (.ref p) (.int i) M Q := by
  unfold ixR
  have e2 : atI xs i = some d := by
    have := atI_nat (j := i.toNat) h1
    rwa [show ((i.toNat : Nat) : Int) = i by omega] at this
  simp only [e, e2]
  exact h
theorem ix_t {d : D} (h0 : 0 ≤ i) (h1 : xs[i.toNat]? = some d) (h : Q d M) : ixR (.tup xs) (.int i) M Q := by
  unfold ixR
  have e2 : atI xs i = some d := by
    have := atI_nat (j := i.toNat) h1
    rwa [show ((i.toNat : Nat) : Int) = i by omega] at this
  simp only [e2]
  exact h
theorem ix_tn {d : D} {n : Nat} (h1 : xs[n]? = some d) (h : Q d M) : ixR (.tup xs) (.int (n : Int)) M Q := ix_t (by omega) (by simpa using h1) h
theorem ix_t0 {xs : List D} : ixR (.tup (x :: xs)) (.int 0) M Q = Q x M := by
  have e : atI (x :: xs) 0 = some x := atI_nat (j := 0) rfl
  unfold ixR
  simp only [e]
theorem ix_t1 {xs : List D} : ixR (.tup (x :: y :: xs)) (.int 1) M Q = Q y M := by
  have e : atI (x :: y :: xs) 1 = some y := atI_nat (j := 1) rfl
  unfold ixR
  simp only [e]
theorem ix_t2 {xs : List D} {z : D} : ixR (.tup (x :: y :: z :: xs)) (.int 2) M Q = Q z M := by
  have e : atI (x :: y :: z :: xs) 2 = some z := atI_nat (j := 2) rfl
  unfold ixR
  simp only [e]
theorem ix_t3 {xs : List D} {z u : D} : ixR (.tup (x :: y :: z :: u :: xs)) (.int 3) M Q = Q u M := by
  have e : atI (x :: y :: z :: u :: xs) 3 = some u := atI_nat (j := 3) rfl
  unfold ixR
  simp only [e]
theorem ix_t4 {xs : List D} {z u v : D} : ixR (.tup (x :: y :: z :: u :: v :: xs)) (.int 4) M Q = Q v M := by
  have e : atI (x :: y :: z :: u :: v :: xs) 4 = some v := atI_nat (j := 4) rfl
  unfold ixR
  simp only [e]
/-- the last one -/
theorem ix_tl {d : D} (h1 : xs[xs.length - 1]? = some d) (h : Q d M) : ixR (.tup xs) (.int (-1)) M Q := by
  unfold ixR
  have e2 : atI xs (-1) = some d := by
    obtain ⟨ys, rfl⟩ : ∃ ys, xs = ys ++ [d] := by
      have hne : xs ≠ [] := by rintro rfl; simp at h1
      refine ⟨xs.dropLast, ?_⟩
      have : xs.getLast hne = d := by
        rw [List.getLast_eq_getElem]
        rw [List.getElem?_eq_some_iff] at h1
        exact h1.2
      rw [← this, List.dropLast_concat_getLast]
    exact atI_last _ _
  simp only [e2]
  exact h
theorem revR_t : revR (.tup xs) M Q = Q (.tup xs.reverse) M := (rfl)
theorem lenR_t : lenR [.tup xs] M Q = Q (.int xs.length) M := (rfl)
theorem lenR_s {z : Str} : lenR [.str z] M Q = (z.length ≤ sizeLine ∧ Q (.int z.length) M) := (rfl)
theorem len_l (e : lstOf M p = some xs) (h : Q (.int xs.length) M) : lenR [.ref p] M Q := by
  unfold lenR
  simp only [of_lstOf e]
  exact h
theorem slR_t {lo hi : Option Int} : slR (.tup xs) lo hi M Q = Q (.tup (cutL xs lo hi)) M := (rfl)
theorem slR_s {z : Str} {lo hi : Option Int} : slR (.str z) lo hi M Q = (z.length ≤ sizeLine ∧ Q (.str (cutS z lo hi)) M) := (rfl)
end
theorem cutL_from {α : Type} (xs : List α) (n : Nat) : cutL xs (some (n : Int)) none = xs.drop n := by
  unfold cutL
  rw [show HT.sIx xs.length 0 (some (n : Int)) = min n xs.length from HT.sIx_nat xs.length 0 n, HT.sIx_none]
  by_cases h : n ≤ xs.length
  · rw [Nat.min_eq_left h, List.take_of_length_le (by rw [List.length_drop]; omega)]
  · rw [Nat.min_eq_right (by omega), List.drop_length, List.take_nil, List.drop_eq_nil_of_le (by omega)]
theorem cutL_from1 {α : Type} (xs : List α) : cutL xs (some 1) none = xs.drop 1 := cutL_from xs 1
theorem cutL_from2 {α : Type} (xs : List α) : cutL xs (some 2) none = xs.drop 2 := cutL_from xs 2
theorem cutL_to {α : Type} (xs : List α) (n : Nat) : cutL xs none (some (n : Int)) = xs.take n := by
  unfold cutL
  rw [show HT.sIx xs.length xs.length (some (n : Int)) = min n xs.length from HT.sIx_nat xs.length xs.length n, HT.sIx_none]
  rw [List.drop_zero, Nat.sub_zero]
  by_cases h : n ≤ xs.length
  · rw [Nat.min_eq_left h]
  · rw [Nat.min_eq_right (by omega), List.take_length, List.take_of_length_le (by omega)]
theorem cutL_mid {α : Type} (xs : List α) (m n : Nat) : cutL xs (some (m : Int)) (some (n : Int)) = (xs.drop m).take (n - m) := by
  unfold cutL
  rw [show HT.sIx xs.length xs.length (some (n : Int)) = min n xs.length from HT.sIx_nat xs.length xs.length n, show HT.sIx xs.length 0 (some (m : Int)) = min m xs.length from HT.sIx_nat xs.length 0 m]
  rcases Nat.le_total m xs.length with h | h
  · rw [Nat.min_eq_left h]
    rcases Nat.le_total n xs.length with h2 | h2
    · rw [Nat.min_eq_left h2]
    · rw [Nat.min_eq_right h2, List.take_of_length_le (by rw [List.length_drop]; omega), List.take_of_length_le (by rw [List.length_drop]; omega)]
  · rw [Nat.min_eq_right h, List.drop_length, List.take_nil, List.drop_eq_nil_of_le h, List.take_nil]
theorem inLine_nat {n : Nat} (h : n < 2 ^ 62) : inLine (n : Int) := ⟨by omega, by omega⟩
theorem small_line {n : Nat} (h : n ≤ 1000000) : n ≤ sizeLine := by rw [sizeLine_eq]; omega
theorem small_ltline {n : Nat} (h : n ≤ 1000000) : n < sizeLine := by rw [sizeLine_eq]; omega
end DM

namespace L2
open PySem PySem.Spec PyProof.Rows
theorem tuple_mul1 (l : Addr) (items : Array Value) (n : Nat) (dd : Option Addr) (sl : Array (Option Value)) (x : Int) (u : Tok) (c0 : (decide (x < -(2 ^ 63)) || decide (x ≥ 2 ^ 63)) = false) (c1 : (items.isEmpty || x == 1) = true) :
    Meets (Builtin.«tuple.__mul__» ⟨[.ref l, .int x u], []⟩) (fun _ R s => s.heap.get? l = some { cls := .type "tuple", dict := dd, data := .seq items n, slots := sl } ∧ R (.ok (.ret (Value.ref l))) s) :=
  .of_wp fun prog w A R s h => by
    obtain ⟨hp, g, d, tk, os⟩ := s
    obtain ⟨hl, h⟩ := h
    have f1 := AutoSeq1.idx_int
    wp_walk using wpAny_loadPart' hl
    repeat (first
      | (refine wpAny_ite_false (decide_eq_false (by rw [c0]; exact Bool.false_ne_true)) ?_; wp_walk using wpAny_loadPart' hl)
      | (refine wpAny_ite_true (decide_eq_true c1) ?_; wp_walk using wpAny_loadPart' hl))
    exact ⟨_, rfl, h⟩
theorem tuple_mul0 (l : Addr) (items : Array Value) (n : Nat) (dd : Option Addr) (sl : Array (Option Value)) (x : Int) (u : Tok) (c0 : (decide (x < -(2 ^ 63)) || decide (x ≥ 2 ^ 63)) = false) (c1 : (items.isEmpty || x == 1) = false) (c2 : (decide (x ≤ 0) || items.isEmpty) = true) :
    Meets (Builtin.«tuple.__mul__» ⟨[.ref l, .int x u], []⟩) (fun _ R s => s.heap.get? l = some { cls := .type "tuple", dict := dd, data := .seq items n, slots := sl } ∧
      R (.ok (.ret (Value.ref s.heap.objs.size))) { s with heap := s.heap.push { cls := Value.type "tuple", data := Data.seq #[] }, toks := s.toks }) :=
  .of_wp fun prog w A R s h => by
    obtain ⟨hp, g, d, tk, os⟩ := s
    obtain ⟨hl, h⟩ := h
    have f1 := AutoSeq1.idx_int
    wp_walk using wpAny_loadPart' hl
    repeat (first
      | (refine wpAny_ite_false (decide_eq_false (by rw [c0]; exact Bool.false_ne_true)) ?_; wp_walk using wpAny_loadPart' hl)
      | (refine wpAny_ite_false (decide_eq_false (by rw [c1]; exact Bool.false_ne_true)) ?_; wp_walk using wpAny_loadPart' hl)
      | (refine wpAny_ite_true (decide_eq_true c2) ?_; wp_walk using wpAny_loadPart' hl))
    exact ⟨_, rfl, h⟩
def rRepU (K : PySem.W.Frag) : R2 := fun x y H Q => ∃ l k xs, x = .ref l ∧ y = .int k ∧ SqT K H l xs ∧ (-(2 ^ 63) ≤ k ∧ k < 2 ^ 63) ∧ (((xs = [] ∨ k = 1) ∧ Q (.ref l) H) ∨ ((xs ≠ [] ∧ k ≤ 0) ∧ ∀ p, H p = none → Q (.ref p) (upd H p (.tup []))))
theorem op_repU {X : Cx} : OpR X (binaryOp .Mult) (rRepU X.K) := by
  intro pins s σ H x y v u Q I rx ry h
  obtain ⟨l, k, xs, rfl, rfl, hT, ⟨h1, h2⟩, q⟩ := h
  cases rx
  obtain ⟨t, rfl⟩ := ry
  obtain ⟨its, r, ⟨⟨cls, dd, data, sl⟩, ho, hc, n, hd⟩, hs⟩ := I.tuple hT
  simp only at hc hd
  subst hc hd
  have hle : its.length = xs.length := r.length.symm
  have hi : its.toArray.isEmpty = xs.isEmpty := by
    cases its <;> cases xs <;> simp at hle ⊢
  have c0 : (decide (k < -(2 ^ 63)) || decide (k ≥ 2 ^ 63)) = false := by
    rw [decide_eq_false (by omega), decide_eq_false (by omega)] <;> rfl
  rcases q with ⟨hq, q⟩ | ⟨⟨hne, hk⟩, q⟩
  · have c1 : (its.toArray.isEmpty || k == 1) = true := by
      rw [hi]
      rcases hq with rfl | rfl
      · rfl
      · simp
    refine wpAny_binaryOp_repeat_ref (T := "tuple") (U := "int") (by decide) ⟨_, ho, rfl⟩ (fun s' => typeIs_int s' k t) noFill_tuple_mul F.fills_int_mul F.slot_int_rmul repeat_tuple F.slot_int_index.lookup
      (call_meets F.slot_int_rmul (typeIs_int s k t) F.entry_int_rmul (F.args_int_rmul_2 _ _) (int_rmul_tuple k t l its.toArray n dd sl)
        ⟨ho, rfl, ⟨_, ho, rfl⟩, call_meets F.slot_tuple_mul ⟨_, ho, rfl⟩ F.entry_tuple_mul (F.args_tuple_mul_2 _ _) (tuple_mul1 l its.toArray n dd sl k t c0 c1) ⟨ho, ?_⟩⟩)
    exact ⟨.ref l, H, I, rfl, q⟩
  · have hx : xs.isEmpty = false := by cases xs with | nil => exact absurd rfl hne | cons _ _ => rfl
    have c1 : (its.toArray.isEmpty || k == 1) = false := by
      rw [hi, hx, Bool.false_or]
      exact beq_eq_false_iff_ne.mpr (by omega)
    have c2 : (decide (k ≤ 0) || its.toArray.isEmpty) = true := by
      rw [decide_eq_true hk]; rfl
    refine wpAny_binaryOp_repeat_ref (T := "tuple") (U := "int") (by decide) ⟨_, ho, rfl⟩ (fun s' => typeIs_int s' k t) noFill_tuple_mul F.fills_int_mul F.slot_int_rmul repeat_tuple F.slot_int_index.lookup
      (call_meets F.slot_int_rmul (typeIs_int s k t) F.entry_int_rmul (F.args_int_rmul_2 _ _) (int_rmul_tuple k t l its.toArray n dd sl)
        ⟨ho, rfl, ⟨_, ho, rfl⟩, call_meets F.slot_tuple_mul ⟨_, ho, rfl⟩ F.entry_tuple_mul (F.args_tuple_mul_2 _ _) (tuple_mul0 l its.toArray n dd sl k t c0 c1 c2) ⟨ho, ?_⟩⟩)
    refine ⟨.ref s.heap.objs.size, _, I.laid (t' := s.toks) (o := .tup []) (fun b ob q => Heap.get?_push_of_some _ q) (Nat.le_refl _) ?_, rfl, q _ (I.hok.fresh (Nat.le_refl _))⟩
    exact ⟨by simp, [], .nil, IsTup.new _ _⟩
end L2
namespace DM
open PySem L2
open PyProof.Rows (b2i)

/-! ### times -/
def repL {α : Type} (n : Nat) (xs : List α) : List α := (List.replicate n xs).flatten
theorem repL_succ {α : Type} (n : Nat) (xs : List α) : repL (n + 1) xs = xs ++ repL n xs := by simp [repL, List.replicate_succ]
theorem VRs.rep {K : PySem.W.Frag} {H : HF} {ds : List D} {vs : List V} (r : VRs K H ds vs) : ∀ n : Nat, VRs K H (repL n ds) (repL n vs)
  | 0 => .nil
  | n + 1 => by rw [repL_succ, repL_succ]; exact r.append (VRs.rep r n)
def mulA : DR2 := fun x y M Q => match x, y with
  | .int i, .int j => CMulW i j ∧ Q (.int (i * j)) M
  | .tup xs, .int k => (-(2 ^ 63) ≤ k ∧ k ≤ 1000 ∧ xs.length ≤ 1000) ∧ Q (.tup (repL k.toNat xs)) M
  | x, .int k => (match rdL M x with | some xs => (-(2 ^ 63) ≤ k ∧ k < 2 ^ 63 ∧ xs.length * k.toNat ≤ sizeLine) ∧ Q (.lst (repL k.toNat xs)) M | none => False)
  | _, _ => False
def mulT (K : PySem.W.Frag) : R2 := fun x y H Q => rI CMulW (fun i j => .int (i * j)) x y H Q ∨ rRepT K x y H Q ∨ rRep x y H Q ∨ rRepU K x y H Q
theorem op_mulT {X : Cx} : OpR X (binaryOp .Mult) (mulT X.K) := op_mulW.or (op_repT.or (op_rep.or op_repU))
theorem lift_mulA {K : PySem.W.Frag} : Lift2 K (mulT K) mulA := by
  intro x y dx dy H M Q Q0 rx ry m h k
  have lists : ∀ (kk : Int) (xs : List D), rdL M dx = some xs → y = .int kk → (-(2 ^ 63) ≤ kk ∧ kk < 2 ^ 63 ∧ xs.length * kk.toNat ≤ sizeLine) ∧ Q (.lst (repL kk.toNat xs)) M → mulT K x y H.h Q0 := by
    intro kk xs e ey hq
    obtain ⟨⟨h1, h2, h3⟩, q⟩ := hq
    obtain ⟨a, vs, rfl, hh, ra⟩ := rdL_v m rx e
    refine .inr (.inr (.inl ⟨a, kk, vs, rfl, ey, hh, h1, h2, by rw [← ra.length]; exact h3, fun p hp => ?_⟩))
    obtain ⟨z1, z2, z3⟩ := frz_new m hp (ra.rep kk.toNat)
    exact k _ _ _ _ z1 z2 z3 q
  cases dy with
  | int j =>
    cases ry.int_v
    cases dx with
    | int i =>
      cases rx.int_v
      exact .inl ⟨i, j, rfl, rfl, h.1, k _ H _ M (.int _) m GG.refl h.2⟩
    | tup xs =>
      obtain ⟨⟨h1, h2, h3⟩, q⟩ := h
      obtain ⟨a, vs, rfl, sa, ra⟩ := rx.tup_v
      have hl := ra.length
      by_cases c1 : xs = [] ∨ j = 1
      · refine .inr (.inr (.inr ⟨a, j, vs, rfl, rfl, sa, ⟨h1, by omega⟩, .inl ⟨?_, ?_⟩⟩))
        · rcases c1 with rfl | c1
          · cases ra; exact .inl rfl
          · exact .inr c1
        · refine k _ H _ M (.tup sa ra) m GG.refl ?_
          rcases c1 with rfl | rfl
          · have : repL j.toNat ([] : List D) = [] := by
              generalize j.toNat = n
              induction n with
              | zero => rfl
              | succ n ih => rw [repL_succ, ih]; rfl
            rw [this] at q; exact q
          · have : repL (Int.toNat 1) xs = xs := by
              show repL 1 xs = xs
              rw [repL_succ]
              show xs ++ repL 0 xs = xs
              simp [repL]
            rw [this] at q; exact q
      · have hx : xs ≠ [] := fun e => c1 (.inl e)
        have hv : vs ≠ [] := by rintro rfl; cases ra; exact hx rfl
        by_cases c2 : j ≤ 0
        · refine .inr (.inr (.inr ⟨a, j, vs, rfl, rfl, sa, ⟨h1, by omega⟩, .inr ⟨⟨hv, c2⟩, fun p hp => ?_⟩⟩))
          have : repL j.toNat xs = [] := by rw [show j.toNat = 0 by omega]; rfl
          rw [this] at q
          exact k _ (H.up p _) _ M (.tup (SqT.of upd_same) .nil) (m.newT hp) (GG.newT hp) q
        · have : 2 ≤ j := by have : j ≠ 1 := fun e => c1 (.inr e); omega
          refine .inr (.inl ⟨a, j, vs, rfl, rfl, sa, hv, this, h2, by omega, fun p hp => ?_⟩)
          exact k _ (H.up p _) _ M (.tup (SqT.of upd_same) (VRs.mono (TX.new m hp) _ _ (ra.rep j.toNat))) (m.newT hp) (GG.newT hp) q
    | lst xs => exact lists j xs rfl rfl h
    | ref a =>
      cases e : lstOf M a with
      | none => simp [mulA, e] at h
      | some xs => exact lists j xs e rfl (by simpa [mulA, e] using h)
    | _ => exact h.elim
  | _ => cases dx <;> exact h.elim
section
variable {X : Cx} {a b : Expr} {ta tb : TDE} {pos : Pos}
theorem je_mulA (ha : JE X a ta) (hb : JE X b tb) : JE X (.BinOp a .Mult b pos) (dOp mulA ta tb) := je_op op_mulT lift_mulA ha hb
end

/-! ### s.index(c), a sign that is in it -/
def indexQ (x y : D) (M : Mm) (Q : DQ) : Prop := match x, y with
  | .str a, .str b => (match Builtin.Str.occurrences a b 0 a.length 1 with | i :: _ => Q (.int (i : Nat)) M | [] => False)
  | _, _ => False
def dIndex (to te : TDE) : TDE := fun ds M Q => to ds M fun x M1 => (match x with | .str _ => True | _ => False) ∧ te ds M1 fun y M2 => indexQ x y M2 Q
section
variable {X : Cx} {o e : Expr} {to te : TDE} {apos cpos : Pos}
theorem je_sindex (ho : JE X o to) (ha : JE X e te) (hbase : attributeBase o "index" X.env (eval o X.env) = eval o X.env := by rfl)
    (hfew : ((backTo cpos (starEach [e] X.env)).all (fun x => !x.1) && (backToKw cpos (keywordEach [] X.env)).all (fun x => x.1.isSome)
      && decide (([e]).length + ([] : List Keyword).length + (if ([] : List Keyword).isEmpty then 0 else 1) < 30)) = true := by rfl)
    (hline : (apos.endLine == cpos.line) = true := by rfl) (hs : starEach [e] X.env = (false, eval e X.env) :: starEach [] X.env := by rfl) (hplain : (backTo cpos (starEach [] X.env)).any (·.1) = false := by rfl) :
    JE X (.Call (.Attribute o "index" apos) [e] [] cpos) (dIndex to te) := by
  obtain ⟨u, p, g⟩ := ho
  obtain ⟨u', p', g'⟩ := ha
  refine je_pe (pe_bm PySem.F.plainAttrs_str PySem.F.slot_str_index PySem.F.type_str_index mt_sindex p (pa_cons p' pa_nil hs) hbase hfew hline hs hplain) fun ds σ H M Q Q0 s m q k => ?_
  refine g ds σ H M _ _ s m q fun v H1 d M1 r1 m1 g1 q1 => ?_
  obtain ⟨hx, q1⟩ := q1
  cases d with
  | str z =>
    cases r1.str_v
    refine ⟨by first | exact .inr ⟨rfl, z, rfl⟩ | exact .inl ⟨rfl, z, rfl⟩ | exact ⟨z, rfl⟩ | rfl, ?_⟩
    refine g' ds σ H1 M1 _ _ (s.gg m g1) m1 q1 fun w H2 e M2 r2 m2 g2 q2 => ?_
    cases e with
    | str y =>
      cases r2.str_v
      unfold indexQ at q2
      simp only at q2
      split at q2
      · rename_i i r ei
        exact ⟨z, y, i, r, rfl, rfl, ei, k _ H2 _ M2 (.int _) m2 (g1.trans g2) q2⟩
      · exact q2.elim
    | _ => exact q2.elim
  | _ => exact hx.elim
end

/-! ### {k: v, ..} -/
def dPairs : List (TDE × TDE) → DSt → Mm → (List (Key × D) → Mm → Prop) → Prop
  | [], _, M, Q => Q [] M
  | (tk, tv) :: r, ds, M, Q => tk ds M fun x M1 => tv ds M1 fun y M2 => dPairs r ds M2 fun ps M3 => match keyD x with | some k => Q ((k, y) :: ps) M3 | none => False
structure JPs (X : Cx) (pos : Pos) (keys : List (Option Expr)) (values : List Expr) (ts : List (TDE × TDE)) : Prop where
  go : ∃ trs, PPs X pos keys values trs ∧ ∀ (ds : DSt) (σ : L2.St) (H : HF) (M : Mm) (Q : List (Key × D) → Mm → Prop) (Q0 : List (V × V) → Hp → Prop), SR X.K H ds σ → MR X.K M H → dPairs ts ds M Q →
    (∀ ps H' es vs M', ps = vs.map (fun kv => (kV kv.1, kv.2)) → FR X.K H' es vs → MR X.K M' H' → GG M H M' H' → Q es M' → Q0 ps H'.h) → tPairs trs σ H.h Q0
section
variable {X : Cx} {pos : Pos}
theorem jps_nil : JPs X pos [] [] [] := ⟨_, pps_nil, fun ds σ H M Q Q0 s m q k => k [] H [] [] M rfl .nil m GG.refl q⟩
theorem jps_cons {k v : Expr} {ks : List (Option Expr)} {vs : List Expr} {tk tv : TDE} {ts : List (TDE × TDE)} (hk : JE X k tk) (hv : JE X v tv) (hr : JPs X pos ks vs ts) : JPs X pos (some k :: ks) (v :: vs) ((tk, tv) :: ts) := by
  obtain ⟨u, p, g⟩ := hk
  obtain ⟨u1, p1, g1⟩ := hv
  obtain ⟨tr, p2, g2⟩ := hr
  refine ⟨_, pps_cons p p1 p2, fun ds σ H M Q Q0 s m q k => ?_⟩
  refine g ds σ H M _ _ s m q fun x H1 d1 M1 r1 m1 gg1 q1 => ?_
  refine g1 ds σ H1 M1 _ _ (s.gg m gg1) m1 q1 fun y H2 d2 M2 r2 m2 gg2 q2 => ?_
  refine g2 ds σ H2 M2 _ _ (s.gg m (gg1.trans gg2)) m2 q2 fun ps H3 es us M3 ep r3 m3 gg3 q3 => ?_
  split at q3
  · rename_i kk e
    refine k _ H3 ((kk, d2) :: es) ((kk, y) :: us) M3 ?_ (.cons (VR.mono (gg3.tx m2) _ _ r2) r3) m3 ((gg1.trans gg2).trans gg3) q3
    rw [List.map_cons, ep, keyD_v r1 e]
  · exact q3.elim
def mergeD (kvs more : List (Key × D)) : List (Key × D) := more.foldl (fun acc kv => putD acc kv.1 kv.2) kvs
theorem FR.merge {K : PySem.W.Frag} {H : HF} : ∀ {more : List (Key × D)} {ms : List (Key × V)} {kvs : List (Key × D)} {vs : List (Key × V)}, FR K H more ms → FR K H kvs vs → FR K H (mergeD kvs more) (mergeK vs ms)
  | _, _, _, _, .nil, h => h
  | _, _, kvs, vs, .cons r q, h => by
    show FR K H (mergeD (putD kvs _ _) _) (mergeK (putK vs _ _) _)
    exact FR.merge q (h.put r)
abbrev TDD := DSt → Mm → (List (Key × D) → Mm → Prop) → Prop
/-- a new dict -/
structure JD (X : Cx) (e : Expr) (t : TDD) : Prop where
  go : ∃ t0, PE X e t0 ∧ ∀ (ds : DSt) (σ : L2.St) (H : HF) (M : Mm) (Q : List (Key × D) → Mm → Prop) (Q0 : VK), SR X.K H ds σ → MR X.K M H → t ds M Q →
    (∀ p H' xs vs M', H.h p = none → H'.h p = some (.dK vs) → FR X.K H' xs vs → M' p = none → ¬H'.F p → MR X.K M' H' → GG M H M' H' → Q xs M' → Q0 (.ref p) H'.h) → t0 σ H.h Q0
def dDispD (ts : List (TDE × TDE)) : TDD := fun ds M Q => dPairs ts ds M fun es M1 => es.length ≤ 15 ∧ Q (mergeD [] es) M1
theorem jd_disp {keys : List (Option Expr)} {values : List Expr} {ts : List (TDE × TDE)} (h : JPs X pos keys values ts) (hall : keys.all (·.isSome) = true := by rfl) (hl : keys.length = values.length := by rfl) (h0 : keys ≠ [] := by simp) (h15 : keys.length ≤ 15 := by decide) :
    JD X (.Dict keys values pos) (dDispD ts) := by
  obtain ⟨tr, p, g⟩ := h
  refine ⟨_, pe_disp p hall hl h0 h15, fun ds σ H M Q Q0 s m q k => ?_⟩
  intro l hl
  refine g ds σ (H.up l (.dK [])) M _ _ (s.mono (TX.new m hl)) (m.newT hl) q fun ps H' es vs M' ep r m' gg q' => ?_
  obtain ⟨h1, n1, f1⟩ := gg.nfr (p := l) upd_same (m.free hl) (m.freeF hl)
  have gH : GG M H M' H' := GG.newT hl |>.trans gg
  have t : TX X.K H' (H'.up l (.dK (mergeK [] vs))) := TX.upne (fun _ e => by rw [h1] at e; cases e) (fun _ _ e => by rw [h1] at e; cases e) f1
  refine ⟨h1, vs, ep, by rw [← r.length]; exact q'.1, ?_⟩
  refine k l (H'.up l (.dK (mergeK [] vs))) _ _ M' hl upd_same (FR.merge (r.mono t) .nil) n1 f1 ?_ ?_ q'.2
  · exact ⟨fun b w e => by
      have : b ≠ l := by rintro rfl; rw [n1] at e; cases e
      exact (m'.ob b w e).mono t (upd_ne this), m'.nf, fun b f => by
      obtain ⟨o, e⟩ := m'.sm b f
      exact upd_al b o e⟩
  · exact gH.hidden hl
theorem jd_empty : JD X (.Dict [] [] pos) (fun _ M Q => Q [] M) := ⟨_, pe_dnewK, fun ds σ H M Q Q0 s m q k p hp => k p (H.up p _) [] [] M hp upd_same .nil (m.free hp) (m.freeF hp) (m.newT hp) (GG.newT hp) q⟩
def dFreshD (t : TDD) : TDE := fun ds M Q => t ds M fun xs M1 => ∀ p, M1 p = none → Q (.ref p) (mup M1 p (.dic xs))
def dFrzD (t : TDD) : TDE := fun ds M Q => t ds M fun xs M1 => Q (.dic xs) M1
theorem je_freshD {e : Expr} {t : TDD} (h : JD X e t) : JE X e (dFreshD t) := by
  obtain ⟨u, p, g⟩ := h
  refine je_pe p fun ds σ H M Q Q0 s m q k => ?_
  refine g ds σ H M _ _ s m q fun p H' xs vs M' hp hp' r n nf m' gg q' => ?_
  exact k _ H' _ _ (.ref p) (m'.known (w := .dic xs) ⟨vs, hp', r⟩ nf) (gg.known hp) (q' p n)
theorem je_frzD {e : Expr} {t : TDD} (h : JD X e t) : JE X e (dFrzD t) := by
  obtain ⟨u, p, g⟩ := h
  refine je_pe p fun ds σ H M Q Q0 s m q k => ?_
  refine g ds σ H M _ _ s m q fun p H' xs vs M' hp hp' r n nf m' gg q' => ?_
  exact k _ (H'.fz p) _ _ (.dic hp' (.inr rfl) (r.mono TX.fzz).kr) (m'.fzz hp' n) (gg.fzz hp) q'
end

/-! ### d.get(k, x), d.get(k) -/
def getQ (x y z : D) (M : Mm) (Q : DQ) : Prop := match rdD M x, keyD y with
  | some kvs, some k => Q ((valD kvs k).getD z) M
  | _, _ => False
def isDic (x : D) (M : Mm) : Prop := (rdD M x).isSome = true
def dGet2 (to te tf : TDE) : TDE := fun ds M Q => to ds M fun x M1 => isDic x M1 ∧ te ds M1 fun y M2 => tf ds M2 fun z M3 => getQ x y z M3 Q
def dGet1 (to te : TDE) : TDE := fun ds M Q => to ds M fun x M1 => isDic x M1 ∧ te ds M1 fun y M2 => getQ x y .non M2 Q
section
variable {X : Cx} {o e f : Expr} {to te tf : TDE} {apos cpos : Pos} {k : Nat}
theorem isDic_of {K : PySem.W.Frag} {H : HF} {M : Mm} {x : D} {v : V} (r : VR K H x v) (m : MR K M H) (h : isDic x M) : ∃ a, v = .ref a ∧ IsD H.h a := by
  obtain ⟨kvs, e⟩ := Option.isSome_iff_exists.mp h
  obtain ⟨a, vs, rfl, h1, _⟩ := rdD_v m r e
  exact ⟨a, rfl, by first | exact .inl ⟨vs, .inl h1⟩ | exact .inl ⟨vs, h1⟩⟩
theorem je_get2 (hr : Room k X.A) (ho : JE X o to) (he : JE X e te) (hf : JE X f tf) (m : M2 X o "get" apos e f cpos := by exact ⟨rfl, rfl, rfl, rfl⟩) : JE X (.Call (.Attribute o "get" apos) [e, f] [] cpos) (dGet2 to te tf) := by
  obtain ⟨u, p, g⟩ := ho
  obtain ⟨u1, p1, g1⟩ := he
  obtain ⟨u2, p2, g2⟩ := hf
  refine je_pe (pe_dget2 (hu_of hr) p p1 p2 m) fun ds σ H M Q Q0 s mm q kk => ?_
  refine g ds σ H M _ _ s mm q fun v H1 d M1 r1 m1 gg1 q1 => ?_
  obtain ⟨hd, q1⟩ := q1
  obtain ⟨a, rfl, hd⟩ := isDic_of r1 m1 hd
  refine ⟨a, rfl, hd, ?_⟩
  refine g1 ds σ H1 M1 _ _ (s.gg mm gg1) m1 q1 fun w H2 d2 M2 r2 m2 gg2 q2 => ?_
  refine g2 ds σ H2 M2 _ _ (s.gg mm (gg1.trans gg2)) m2 q2 fun z H3 d3 M3 r3 m3 gg3 q3 => ?_
  unfold getQ at q3
  split at q3
  · rename_i kvs key e1 e2
    obtain ⟨b, vs, ea, h1, rf⟩ := rdD_v m3 (VR.mono ((gg2.trans gg3).tx m1) _ _ r1) e1
    cases ea
    rw [keyD_v r2 e2]
    refine ⟨valV vs key, DGet.k h1, ?_⟩
    cases e3 : valD kvs key with
    | none => rw [e3] at q3; rw [rf.valN e3]; exact kk _ H3 _ M3 r3 m3 ((gg1.trans gg2).trans gg3) q3
    | some d4 =>
      rw [e3] at q3
      obtain ⟨z4, e4, r4⟩ := rf.val e3
      rw [e4]
      exact kk _ H3 _ M3 r4 m3 ((gg1.trans gg2).trans gg3) q3
  · exact q3.elim
theorem je_get1 (hr : Room k X.A) (ho : JE X o to) (he : JE X e te) (m : M1 X o "get" apos e cpos := by exact ⟨rfl, rfl, rfl, rfl⟩) : JE X (.Call (.Attribute o "get" apos) [e] [] cpos) (dGet1 to te) := by
  obtain ⟨u, p, g⟩ := ho
  obtain ⟨u1, p1, g1⟩ := he
  refine je_pe (pe_dget1 (hu_of hr) p p1 m) fun ds σ H M Q Q0 s mm q kk => ?_
  refine g ds σ H M _ _ s mm q fun v H1 d M1 r1 m1 gg1 q1 => ?_
  obtain ⟨hd, q1⟩ := q1
  obtain ⟨a, rfl, hd⟩ := isDic_of r1 m1 hd
  refine ⟨a, rfl, hd, ?_⟩
  refine g1 ds σ H1 M1 _ _ (s.gg mm gg1) m1 q1 fun w H3 d2 M3 r2 m3 gg2 q3 => ?_
  unfold getQ at q3
  split at q3
  · rename_i kvs key e1 e2
    obtain ⟨b, vs, ea, h1, rf⟩ := rdD_v m3 (VR.mono (gg2.tx m1) _ _ r1) e1
    cases ea
    rw [keyD_v r2 e2]
    refine ⟨valV vs key, DGet.k h1, ?_⟩
    cases e3 : valD kvs key with
    | none => rw [e3] at q3; rw [rf.valN e3]; exact kk _ H3 _ M3 .non m3 (gg1.trans gg2) q3
    | some d4 =>
      rw [e3] at q3
      obtain ⟨z4, e4, r4⟩ := rf.val e3
      rw [e4]
      exact kk _ H3 _ M3 r4 m3 (gg1.trans gg2) q3
  · exact q3.elim
end

/-! ### operations on known kinds -/
section
variable {M : Mm} {Q : DQ} {i j : Int} {xs ys : List D}
theorem mulA_ii : mulA (.int i) (.int j) M Q = (CMulW i j ∧ Q (.int (i * j)) M) := (rfl)
theorem mulA_t : mulA (.tup xs) (.int j) M Q = ((-(2 ^ 63) ≤ j ∧ j ≤ 1000 ∧ xs.length ≤ 1000) ∧ Q (.tup (repL j.toNat xs)) M) := (rfl)
theorem mulA_L : mulA (.lst xs) (.int j) M Q = ((-(2 ^ 63) ≤ j ∧ j < 2 ^ 63 ∧ xs.length * j.toNat ≤ sizeLine) ∧ Q (.lst (repL j.toNat xs)) M) := (rfl)
theorem addR_LL : addR (.lst xs) (.lst ys) M Q = (xs.length + ys.length ≤ sizeLine ∧ Q (.lst (xs ++ ys)) M) := (rfl)
theorem ix_L {d : D} (h0 : 0 ≤ i) (h1 : xs[i.toNat]? = some d) (h : Q d M) : ixR (.lst xs) (.int i) M Q := by
  have := ix_t (M := M) (Q := Q) h0 h1 h
  exact this
theorem ix_Ll {d : D} (h1 : xs[xs.length - 1]? = some d) (h : Q d M) : ixR (.lst xs) (.int (-1)) M Q := by
  have := ix_tl (M := M) (Q := Q) h1 h
  exact this
theorem ix_Lb {x y : D} {b : Bool} (h : Q (if b then y else x) M) : ixR (.lst [x, y]) (.int (if b then 1 else 0)) M Q := by
  cases b
  · exact ix_L (by decide) rfl h
  · exact ix_L (by decide) rfl h
theorem lenR_L : lenR [.lst xs] M Q = Q (.int xs.length) M := (rfl)
theorem slR_L {lo hi : Option Int} : slR (.lst xs) lo hi M Q = Q (.lst (cutL xs lo hi)) M := (rfl)
theorem revR_L : revR (.lst xs) M Q = Q (.lst xs.reverse) M := (rfl)
theorem tup1R_L : tup1R [.lst xs] M Q = Q (.tup xs) M := (rfl)
theorem tup1R_t : tup1R [.tup xs] M Q = Q (.tup xs) M := (rfl)
end
end DM

namespace DM
open PySem L2
open PyProof.Rows (b2i)

/-! ### the deck's part of the store alone -/
def mixD (d c : Addr) (M0 M' : Mm) : Mm := fun a => if a = d ∨ a = c then M' a else M0 a
theorem mixD_upto {d c : Addr} {M0 M' : Mm} : Upto d c M0 (mixD d c M0 M') := fun a h1 h2 => by
  unfold mixD; rw [if_neg]; rintro (h | h)
  · exact h1 h
  · exact h2 h
theorem mixD_deck {d c : Addr} {M0 M' : Mm} {r : Nat} (h : Deck M' d c r) : Deck (mixD d c M0 M') d c r := by
  obtain ⟨h1, S, h2, h3, h4⟩ := h
  exact ⟨h1, S, h2, by unfold mixD; rw [if_pos (.inl rfl)]; exact h3, by unfold mixD; rw [if_pos (.inr rfl)]; exact h4⟩
theorem mixD_sub {d c : Addr} {M0 M' : Mm} (x : Ext d c M0 M') : Sub (mixD d c M0 M') M' := fun a o e => by
  unfold mixD at e
  split at e
  · exact e
  · rename_i h
    exact x a o (fun z => h (.inl z)) (fun z => h (.inr z)) e
theorem mixD_none {d c p : Addr} {M0 M' : Mm} {r : Nat} (h : Deck M0 d c r) (n : M0 p = none) : mixD d c M0 M' p = none := by
  unfold mixD
  rw [if_neg]
  · exact n
  · rintro (e | e)
    · exact h.nd n e
    · exact h.nc n e
/-- at a def's end: all but the deck as it was -/
theorem Shr.deck {R : DQ} {x : D} {d c : Addr} {M0 M' : Mm} {r : Nat} (X : Ext d c M0 M') (D : Deck M' d c r) (h : ∀ M2, Upto d c M0 M2 → Deck M2 d c r → R x M2) : Shr R x M' :=
  .of (h _ mixD_upto (mixD_deck D)) (mixD_sub X)
theorem Shr.deckL {R : DQ} {p d c : Addr} {M0 M' : Mm} {r r0 : Nat} {xs : List D} (D0 : Deck M0 d c r0) (n : M0 p = none) (e : lstOf M' p = some xs) (X : Ext d c M0 M') (D : Deck M' d c r)
    (h : ∀ M2, Upto d c M0 M2 → Deck M2 d c r → R (.lst xs) M2) : Shr R (.ref p) M' :=
  .frz e (mixD_sub X) (mixD_none D0 n) (h _ mixD_upto (mixD_deck D))
/-- without a deck -/
theorem Shr.lst {R : DQ} {p : Addr} {M0 M' : Mm} {xs : List D} (n : M0 p = none) (e : lstOf M' p = some xs) (X : Sub M0 M') (h : R (.lst xs) M0) : Shr R (.ref p) M' := .frz e X n h
theorem Upto.none {d c p : Addr} {M M' : Mm} {r : Nat} (h : Upto d c M M') (D : Deck M d c r) : M' p = none → p ≠ d → p ≠ c → M p = none := fun e h1 h2 => by rw [← h p h1 h2]; exact e
theorem Upto.lst {d c p : Addr} {M M' : Mm} (h : Upto d c M M') (h1 : p ≠ d) (h2 : p ≠ c) : lstOf M' p = lstOf M p := by unfold lstOf; rw [h p h1 h2]
theorem Upto.fresh {d c p : Addr} {M M' : Mm} {r : Nat} (h : Upto d c M M') (D : Deck M' d c r) (n : M' p = Option.none) : M p = Option.none := by rw [← h p (D.nd n) (D.nc n)]; exact n
theorem Ext.fresh {d c p : Addr} {M M' : Mm} {r : Nat} (h : Ext d c M M') (D : Deck M' d c r) (n : M' p = Option.none) : M p = Option.none := by
  cases e : M p with
  | none => rfl
  | some o => rw [h p o (D.nd n) (D.nc n) e] at n; cases n
/-- a draw -/
def spDraw' : DSp := fun ds M Q => match ds with
  | [.ref d, .int most] => ∃ c r, Deck M d c (r + 1) ∧ (0 < most ∧ most ≤ 2 ^ 62) ∧ ∀ n M', 0 ≤ n → n < most → Deck M' d c r → Upto d c M M' → Q (.int n) M'
  | _ => False
end DM

namespace DM
open PySem L2
open PyProof.Rows (b2i)

/-! ### texts as lists of signs -/
abbrev cps (z : Str) : List Nat := z.cps.toList
theorem cps_len (z : Str) : z.length = (cps z).length := by simp [Str.length]
theorem cps_append (x y : Str) : cps (x ++ y) = cps x ++ cps y := by
  show ((x.cps ++ y.cps).toList) = _
  simp
theorem cps_inj {x y : Str} (h : cps x = cps y) : x = y := by
  cases x; cases y
  simp only [cps] at h
  congr 1
  exact Array.toList_inj.mp h
theorem cps_cut (z : Str) (lo hi : Option Int) : cps (cutS z lo hi) = cutL (cps z) lo hi := by
  unfold cutS cutL
  simp [cps, Str.length]
theorem cps_one (c : Nat) : cps (⟨#[c]⟩ : Str) = [c] := rfl
theorem cps_join0 : ∀ ys : List Str, cps (Txt.join (⟨#[]⟩ : Str) ys) = (ys.map cps).flatten := by
  intro ys
  rw [TL.join_eq]
  induction ys with
  | nil => rfl
  | cons x r ih =>
    cases r with
    | nil => simp [Str.join]
    | cons y r =>
      show cps (x ++ ⟨#[]⟩ ++ Str.join ⟨#[]⟩ (y :: r)) = _
      rw [cps_append, cps_append, ih]
      simp [cps]
section
variable {M : Mm} {Q : DQ} {i : Int} {z : Str}
theorem ix_s {c : Nat} (h0 : 0 ≤ i) (h1 : (cps z)[i.toNat]? = some c) (hz : z.length ≤ sizeLine) (h : Q (.str ⟨#[c]⟩) M) : ixR (.str z) (.int i) M Q := by
  unfold ixR
  have e2 : L2.atI z.cps.toList i = some c := by
    have := atI_nat (j := i.toNat) h1
    rwa [show ((i.toNat : Nat) : Int) = i by omega] at this
  simp only [e2]
  exact ⟨hz, h⟩
end
/-! ### from lists of data to lists of things -/
theorem all_map {α : Type} (f : α → D) (P : α → Prop) : ∀ {ys : List D}, (∀ y ∈ ys, ∃ a, P a ∧ y = f a) → ∃ as : List α, ys = as.map f ∧ (∀ a ∈ as, P a) ∧ as.length = ys.length
  | [], _ => ⟨[], rfl, by simp, rfl⟩
  | y :: ys, h => by
    obtain ⟨a, ha, rfl⟩ := h y List.mem_cons_self
    obtain ⟨as, rfl, h2, h3⟩ := all_map f P (ys := ys) fun z hz => h z (List.mem_cons_of_mem _ hz)
    exact ⟨a :: as, rfl, fun b hb => by
      rcases List.mem_cons.mp hb with rfl | hb
      · exact ha
      · exact h2 b hb, by simp⟩
/-! ### comprehensions and loops over a deck -/
section
variable {ok : Mm → Prop} {g : TDG} {tt : TDT} {te : TDE} {ds0 : DSt} {Q : List D → Mm → Prop}
theorem lcW_deck {d c : Addr} {r : Nat} (b : Nat) (P : D → Prop) {xs : List D} {M : Mm} (hz : xs.length ≤ sizeLine) (D0 : Deck M d c (r + b * xs.length)) (hok : ∀ M', Upto d c M M' → ok M')
    (step : ∀ x ∈ xs, ∀ (r' : Nat) (M1 : Mm) (N : D → Mm → Prop) (F : Mm → Prop), Deck M1 d c (r' + b) → Upto d c M M1 → (∀ y M2, P y → Deck M2 d c r' → Upto d c M M2 → N y M2) →
      g x ds0 M1 fun ds' M2 => tt ds' M2 fun k M3 => if k = true then te ds' M3 N else F M3)
    (fin : ∀ ys M', ys.length = xs.length → (∀ y ∈ ys, P y) → Deck M' d c r → Upto d c M M' → Q ys M') : lcW ok g tt te ds0 Q xs [] M := by
  refine lcW_go (fun i acc M' => acc.length = i ∧ i ≤ xs.length ∧ (∀ y ∈ acc, P y) ∧ Deck M' d c (r + b * (xs.length - i)) ∧ Upto d c M M') xs (fun i acc M' h => hok _ h.2.2.2.2) (fun i x N e hN acc M' hI => ?_) (fun acc M' hI => ?_) M ⟨rfl, Nat.zero_le _, by simp, by simpa using D0, Upto.refl⟩
  · obtain ⟨h1, h2, h3, h4, h5⟩ := hI
    have hlt : i < xs.length := (List.getElem?_eq_some_iff.mp e).1
    have hm : x ∈ xs := List.mem_of_getElem? e
    have D1 : Deck M' d c (r + b * (xs.length - (i + 1)) + b) := h4.mono (by rw [show xs.length - i = (xs.length - (i + 1)) + 1 by omega, Nat.mul_add, Nat.mul_one]; omega)
    exact step x hm _ M' (fun y M2 => acc.length < sizeLine ∧ N (acc ++ [y]) M2) _ D1 h5 fun y M2 py D2 u2 => ⟨by omega, hN _ _ ⟨by simp [h1], hlt, fun z hz => by
      rcases List.mem_append.mp hz with hz | hz
      · exact h3 z hz
      · rw [List.mem_singleton.mp hz]; exact py, D2, u2⟩⟩
  · obtain ⟨h1, h2, h3, h4, h5⟩ := hI
    exact fin acc M' h1 h3 (by simpa using h4) h5
end
end DM

namespace DM
open PySem L2
open PyProof.Rows (b2i)
section
variable {M : Mm} {Q : DQ}
theorem joinQ_map {α : Type} (f : α → Str) {a : Str} {l : List α} (h1 : ((l.map f).map (·.length)).sum + (l.map f).length * a.length ≤ 16777216) (h : Q (.str (Txt.join a (l.map f))) M) : joinQ a (l.map fun x => .str (f x)) M Q := by
  unfold joinQ
  rw [strsOf_map]
  exact ⟨h1, h⟩
theorem addR_ll {p q : Addr} {xs ys : List D} (e1 : lstOf M p = some xs) (e2 : lstOf M q = some ys) (hz : xs.length + ys.length ≤ sizeLine) (h : Q (.lst (xs ++ ys)) M) : addR (.ref p) (.ref q) M Q := by
  show catR (.ref p) (.ref q) M Q
  simp only [catR, rdL_ref, e1, e2]
  exact ⟨hz, h⟩
theorem addR_lL {p : Addr} {xs ys : List D} (e1 : lstOf M p = some xs) (hz : xs.length + ys.length ≤ sizeLine) (h : Q (.lst (xs ++ ys)) M) : addR (.ref p) (.lst ys) M Q := by
  show catR (.ref p) (.lst ys) M Q
  simp only [catR, rdL_ref, rdL_lst, e1]
  exact ⟨hz, h⟩
theorem addR_Ll {p : Addr} {xs ys : List D} (e1 : lstOf M p = some xs) (hz : ys.length + xs.length ≤ sizeLine) (h : Q (.lst (ys ++ xs)) M) : addR (.lst ys) (.ref p) M Q := by
  show catR (.lst ys) (.ref p) M Q
  simp only [catR, rdL_ref, rdL_lst, e1]
  exact ⟨hz, h⟩
theorem append_go {p : Addr} {xs : List D} {d : D} (e : lstOf M p = some xs) (hz : xs.length < sizeLine) (h : Q .non (mup M p (.lst (xs ++ [d])))) : appendR (.ref p) [d] M Q := by
  unfold appendR
  simp only [e]
  exact ⟨hz, h⟩
theorem popAt_go {p : Addr} {xs : List D} {d : D} {i : Int} (e : lstOf M p = some xs) (h0 : 0 ≤ i) (h1 : i < 2 ^ 62) (e2 : xs[i.toNat]? = some d) (h : Q d (mup M p (.lst (xs.eraseIdx i.toNat)))) : popAtR (.ref p) [.int i] M Q := by
  unfold popAtR
  simp only [e, e2]
  exact ⟨⟨h0, h1⟩, h⟩
theorem pop_go {p : Addr} {xs : List D} {d : D} (e : lstOf M p = some (xs ++ [d])) (h : Q d (mup M p (.lst xs))) : popR (.ref p) [] M Q := by
  unfold popR
  simp only [e]
  rw [show (xs ++ [d])[(xs ++ [d]).length - 1]? = some d by simp]
  simpa using h
theorem ne_nil_l {p : Addr} {xs : List D} (e : lstOf M p = some xs) (h1 : pureDs xs = true) (h2 : depDs xs ≤ 99) (h : Q (.bl (!xs.isEmpty)) M) : neR (.ref p) (.lst []) M Q := by
  unfold neR
  rw [okD_l e, eqM_lL e, eqvDs_nil]
  exact ⟨⟨⟨h1, h2⟩, by simp [okD, resD, pureD, pureDs, depD, depDs]⟩, h⟩
theorem eq_nil_l {p : Addr} {xs : List D} (e : lstOf M p = some xs) (h1 : pureDs xs = true) (h2 : depDs xs ≤ 99) (h : Q (.bl xs.isEmpty) M) : eqR (.ref p) (.lst []) M Q := by
  unfold eqR
  rw [okD_l e, eqM_lL e, eqvDs_nil]
  exact ⟨⟨⟨h1, h2⟩, by simp [okD, resD, pureD, pureDs, depD, depDs]⟩, h⟩
theorem ne_nil_L {xs : List D} (h1 : pureDs xs = true) (h2 : depDs xs ≤ 99) (h : Q (.bl (!xs.isEmpty)) M) : neR (.lst xs) (.lst []) M Q := by
  unfold neR
  rw [okD_L, eqM_LL, eqvDs_nil]
  exact ⟨⟨⟨h1, h2⟩, by simp [okD, resD, pureD, pureDs, depD, depDs]⟩, h⟩
theorem eq_nil_L {xs : List D} (h1 : pureDs xs = true) (h2 : depDs xs ≤ 99) (h : Q (.bl xs.isEmpty) M) : eqR (.lst xs) (.lst []) M Q := by
  unfold eqR
  rw [okD_L, eqM_LL, eqvDs_nil]
  exact ⟨⟨⟨h1, h2⟩, by simp [okD, resD, pureD, pureDs, depD, depDs]⟩, h⟩
end
section
variable {M : Mm} {Q : DQ} {i j : Int} {x y : Str} {a b : Bool} {xs ys : List D}
theorem eqR_ii : eqR (.int i) (.int j) M Q = Q (.bl (i == j)) M := by simp only [eqR, okD_i, eqM_ii, and_true, true_and]
theorem eqR_ss : eqR (.str x) (.str y) M Q = Q (.bl (x == y)) M := by simp only [eqR, okD_s, eqM_ss, and_true, true_and]
theorem eqR_bb : eqR (.bl a) (.bl b) M Q = Q (.bl (a == b)) M := by simp only [eqR, okD_b, eqM_bb, and_true, true_and]
theorem eqR_tt : eqR (.tup xs) (.tup ys) M Q = (((pureDs xs = true ∧ depDs xs ≤ 99) ∧ pureDs ys = true ∧ depDs ys ≤ 99) ∧ Q (.bl (eqvDs xs ys)) M) := by simp only [eqR, okD_t, eqM_tt]
theorem eqR_LL : eqR (.lst xs) (.lst ys) M Q = (((pureDs xs = true ∧ depDs xs ≤ 99) ∧ pureDs ys = true ∧ depDs ys ≤ 99) ∧ Q (.bl (eqvDs xs ys)) M) := by simp only [eqR, okD_L, eqM_LL]
theorem neR_ii : neR (.int i) (.int j) M Q = Q (.bl (!(i == j))) M := by simp only [neR, okD_i, eqM_ii, and_true, true_and]
theorem neR_ss : neR (.str x) (.str y) M Q = Q (.bl (!(x == y))) M := by simp only [neR, okD_s, eqM_ss, and_true, true_and]
theorem neR_bb : neR (.bl a) (.bl b) M Q = Q (.bl (!(a == b))) M := by simp only [neR, okD_b, eqM_bb, and_true, true_and]
theorem neR_tt : neR (.tup xs) (.tup ys) M Q = (((pureDs xs = true ∧ depDs xs ≤ 99) ∧ pureDs ys = true ∧ depDs ys ≤ 99) ∧ Q (.bl (!eqvDs xs ys)) M) := by simp only [neR, okD_t, eqM_tt]
theorem neR_LL : neR (.lst xs) (.lst ys) M Q = (((pureDs xs = true ∧ depDs xs ≤ 99) ∧ pureDs ys = true ∧ depDs ys ≤ 99) ∧ Q (.bl (!eqvDs xs ys)) M) := by simp only [neR, okD_L, eqM_LL]
end
theorem ifs2 {c e : Prop} [Decidable c] [Decidable e] {a b : Prop} (h1 : c → e → a) (h2 : ¬(c ∧ e) → b) : if c then (if e then a else b) else b := by
  split
  · split
    · exact h1 (by assumption) (by assumption)
    · rename_i h; exact h2 fun z => h z.2
  · rename_i h; exact h2 fun z => h z.1
theorem ifs2o {c e : Prop} [Decidable c] [Decidable e] {a b : Prop} (h1 : c ∨ e → a) (h2 : ¬c → ¬e → b) : if c then a else if e then a else b := by
  split
  · exact h1 (.inl (by assumption))
  · split
    · exact h1 (.inr (by assumption))
    · exact h2 (by assumption) (by assumption)
theorem cut_nat {z : Str} (i : Nat) : cps (cutS z none (some (0 + (i : Int) + 1))) = (cps z).take (i + 1) := by
  rw [cps_cut, show (0 + (i : Int) + 1) = ((i + 1 : Nat) : Int) by omega, cutL_to]
theorem pureDs_str (ns : List Str) : pureDs (ns.map D.str) = true := pureDs_map _ (fun _ => rfl) ns
theorem depDs_str (ns : List Str) : depDs (ns.map D.str) ≤ 1 := depDs_map _ 1 (Nat.le_refl _) (fun _ => by simp [depD]) ns
/-- the store grows; the list at p may change -/
theorem Ext.mup {d c p : Addr} {M M1 : Mm} {o : MO} (x : Ext d c M M1) (n : M p = none) : Ext d c M (mup M1 p o) := x.put n
theorem lstOf_keep {M : Mm} {p q : Addr} {o : MO} {xs : List D} (h : p ≠ q) (e : lstOf M p = some xs) : lstOf (mup M q o) p = some xs := by rw [lstOf_mup_ne h]; exact e
theorem Deck.keep {M : Mm} {d c p : Addr} {r : Nat} {o : MO} (h : Deck M d c r) (h1 : p ≠ d) (h2 : p ≠ c) : Deck (DM.mup M p o) d c r := h.put h1 h2
theorem ne_of_lst {M : Mm} {p q : Addr} {xs : List D} (e : lstOf M p = some xs) (n : M q = none) : p ≠ q := by
  rintro rfl
  rw [of_lstOf e] at n
  cases n
end DM

namespace DM
open PySem L2
open PyProof.Rows (b2i)

/-! ### what == tells of plain values -/
mutual
theorem eqvD_refl : ∀ d : D, pureD d = true → eqvD d d = true
  | .non, _ => by simp [eqvD]
  | .bl _, _ => by simp [eqvD]
  | .int _, _ => by simp [eqvD]
  | .str _, _ => by simp [eqvD]
  | .tup xs, h => by simp only [eqvD]; exact eqvDs_refl xs (by simpa [pureD] using h)
  | .lst xs, h => by simp only [eqvD]; exact eqvDs_refl xs (by simpa [pureD] using h)
  | .ref _, h => by simp [pureD] at h
  | .ty _, h => by simp [pureD] at h
  | .dic _, h => by simp [pureD] at h
theorem eqvDs_refl : ∀ ds : List D, pureDs ds = true → eqvDs ds ds = true
  | [], _ => by simp [eqvDs]
  | d :: ds, h => by
    have h1 := Bool.and_eq_true_iff.mp (show (pureD d && pureDs ds) = true by simpa [pureDs] using h)
    simp only [eqvDs, Bool.and_eq_true]
    exact ⟨eqvD_refl d h1.1, eqvDs_refl ds h1.2⟩
end
/-! no truths, no whole numbers beside them -/
mutual
def noBl : D → Bool
  | .bl _ => false
  | .tup xs => noBls xs
  | .lst xs => noBls xs
  | .ref _ => false
  | .ty _ => false
  | .dic _ => false
  | .non => true
  | .int _ => true
  | .str _ => true
def noBls : List D → Bool
  | [] => true
  | x :: xs => noBl x && noBls xs
end
mutual
theorem eqvD_eq : ∀ d e : D, noBl d = true → noBl e = true → eqvD d e = true → d = e
  | .non, e, _, _, h => by cases e <;> simp [eqvD] at h ⊢
  | .int _, e, _, he, h => by cases e <;> simp_all [eqvD, noBl]
  | .str _, e, _, _, h => by cases e <;> simp_all [eqvD]
  | .bl _, _, h, _, _ => by simp [noBl] at h
  | .ref _, _, h, _, _ => by simp [noBl] at h
  | .ty _, _, h, _, _ => by simp [noBl] at h
  | .dic _, _, h, _, _ => by simp [noBl] at h
  | .tup xs, e, hd, he, h => by
    cases e with
    | tup ys =>
      simp only [eqvD] at h
      rw [eqvDs_eq xs ys (by simpa [noBl] using hd) (by simpa [noBl] using he) h]
    | _ => simp [eqvD] at h
  | .lst xs, e, hd, he, h => by
    cases e with
    | lst ys =>
      simp only [eqvD] at h
      rw [eqvDs_eq xs ys (by simpa [noBl] using hd) (by simpa [noBl] using he) h]
    | _ => simp [eqvD] at h
theorem eqvDs_eq : ∀ ds es : List D, noBls ds = true → noBls es = true → eqvDs ds es = true → ds = es
  | [], es, _, _, h => by cases es with
    | nil => rfl
    | cons _ _ => simp [eqvDs] at h
  | d :: ds, es, hd, he, h => by
    cases es with
    | nil => simp [eqvDs] at h
    | cons e es =>
      have h1 := Bool.and_eq_true_iff.mp (show (noBl d && noBls ds) = true by simpa [noBls] using hd)
      have h2 := Bool.and_eq_true_iff.mp (show (noBl e && noBls es) = true by simpa [noBls] using he)
      have h3 := Bool.and_eq_true_iff.mp (show (eqvD d e && eqvDs ds es) = true by simpa [eqvDs] using h)
      rw [eqvD_eq d e h1.1 h2.1 h3.1, eqvDs_eq ds es h1.2 h2.2 h3.2]
end
mutual
theorem pure_noBl : ∀ d : D, noBl d = true → pureD d = true
  | .non, _ => rfl
  | .int _, _ => rfl
  | .str _, _ => rfl
  | .bl _, h => by simp [noBl] at h
  | .ref _, h => by simp [noBl] at h
  | .ty _, h => by simp [noBl] at h
  | .dic _, h => by simp [noBl] at h
  | .tup xs, h => by simp only [pureD]; exact pure_noBls xs (by simpa [noBl] using h)
  | .lst xs, h => by simp only [pureD]; exact pure_noBls xs (by simpa [noBl] using h)
theorem pure_noBls : ∀ ds : List D, noBls ds = true → pureDs ds = true
  | [], _ => rfl
  | d :: ds, h => by
    have h1 := Bool.and_eq_true_iff.mp (show (noBl d && noBls ds) = true by simpa [noBls] using h)
    simp only [pureDs, Bool.and_eq_true]
    exact ⟨pure_noBl d h1.1, pure_noBls ds h1.2⟩
end
noncomputable instance : DecidableEq D := fun a b => Classical.propDecidable _
theorem eqvD_dec {d e : D} (h : noBl d = true) (h' : noBl e = true) : eqvD d e = true ↔ d = e := ⟨eqvD_eq d e h h', fun q => by rw [q]; exact eqvD_refl _ (pure_noBl _ h')⟩
theorem eqvDs_dec {d e : List D} (h : noBls d = true) (h' : noBls e = true) : eqvDs d e = true ↔ d = e := ⟨eqvDs_eq d e h h', fun q => by rw [q]; exact eqvDs_refl _ (pure_noBls _ h')⟩
theorem noBls_map {α : Type} (f : α → D) (h : ∀ a, noBl (f a) = true) : ∀ l : List α, noBls (l.map f) = true
  | [] => rfl
  | a :: l => by rw [List.map_cons, noBls, h a, noBls_map f h l]; rfl
theorem noBls_str (ns : List Str) : noBls (ns.map D.str) = true := noBls_map _ (fun _ => rfl) ns
theorem map_str_inj : ∀ {a b : List Str}, a.map D.str = b.map D.str → a = b
  | [], [], _ => rfl
  | [], _ :: _, h => by simp at h
  | _ :: _, [], h => by simp at h
  | x :: a, y :: b, h => by
    simp only [List.map_cons, List.cons.injEq, D.str.injEq] at h
    rw [h.1, map_str_inj h.2]
theorem eqvDs_strs {a b : List Str} : eqvDs (a.map D.str) (b.map D.str) = decide (a = b) := by
  rw [Bool.eq_iff_iff, eqvDs_dec (noBls_str _) (noBls_str _), decide_eq_true_eq]
  exact ⟨map_str_inj, fun q => by rw [q]⟩
/-! ### at a def's end -/
theorem Shr.up {R : DQ} {x : D} {d c : Addr} {M0 M' : Mm} {r : Nat} (X : Upto d c M0 M') (D : Deck M' d c r) (h : ∀ M2, Upto d c M0 M2 → Deck M2 d c r → R x M2) : Shr R x M' := Shr.all (h M' X D)
/-! ### loops with a list of their own: pure -/
section
variable {ok : Mm → Prop} {g : TDG} {tt : TDT} {te : TDE} {ds0 : DSt} {Q : List D → Mm → Prop}
/-- each item's answer alone: a thing for a thing -/
theorem lcW_fun {α : Type} (e : α → D) (f : α → D) {l : List α} {M : Mm} (hz : l.length ≤ sizeLine) (hok : ok M)
    (h : ∀ x ∈ l, ∀ (N : DQ) (F : Mm → Prop), N (f x) M → g (e x) ds0 M fun ds' M2 => tt ds' M2 fun b M3 => if b = true then te ds' M3 N else F M3)
    (fin : Q (l.map f) M) : lcW ok g tt te ds0 Q (l.map e) [] M := by
  refine lcW_go (fun i acc M' => M' = M ∧ acc = (l.take i).map f ∧ i ≤ l.length) (l.map e) (fun i acc M' h => by rw [h.1]; exact hok) (fun i x N ex hN acc M' hI => ?_) (fun acc M' hI => ?_) M ⟨rfl, by simp, Nat.zero_le _⟩
  · obtain ⟨rfl, rfl, hi⟩ := hI
    rw [List.getElem?_map] at ex
    obtain ⟨y, hy, rfl⟩ := Option.map_eq_some_iff.mp ex
    have hlt := (List.getElem?_eq_some_iff.mp hy).1
    refine h y (List.mem_of_getElem? hy) (fun d M4 => ((l.take i).map f).length < sizeLine ∧ N ((l.take i).map f ++ [d]) M4) _ ⟨?_, hN _ _ ⟨rfl, ?_, hlt⟩⟩
    · simp only [List.length_map, List.length_take]; omega
    · rw [List.take_add_one, hy]; simp
  · obtain ⟨rfl, rfl, _⟩ := hI
    rw [List.length_map, List.take_length]
    exact fin
/-- with a test -/
theorem lcW_filter {α : Type} (e : α → D) (p : α → Bool) (f : α → D) {l : List α} {M : Mm} (hz : l.length ≤ sizeLine) (hok : ok M)
    (h : ∀ x ∈ l, ∀ (N : DQ) (F : Mm → Prop), (p x = true → N (f x) M) → (p x = false → F M) → g (e x) ds0 M fun ds' M2 => tt ds' M2 fun b M3 => if b = true then te ds' M3 N else F M3)
    (fin : Q ((l.filter p).map f) M) : lcW ok g tt te ds0 Q (l.map e) [] M := by
  refine lcW_go (fun i acc M' => M' = M ∧ acc = ((l.take i).filter p).map f ∧ i ≤ l.length) (l.map e) (fun i acc M' h => by rw [h.1]; exact hok) (fun i x N ex hN acc M' hI => ?_) (fun acc M' hI => ?_) M ⟨rfl, by simp, Nat.zero_le _⟩
  · obtain ⟨rfl, rfl, hi⟩ := hI
    rw [List.getElem?_map] at ex
    obtain ⟨y, hy, rfl⟩ := Option.map_eq_some_iff.mp ex
    have hlt := (List.getElem?_eq_some_iff.mp hy).1
    have hle : ((l.take i).filter p).length ≤ i := Nat.le_trans (List.length_filter_le _ _) (by simp; omega)
    refine h y (List.mem_of_getElem? hy) (fun d M4 => (((l.take i).filter p).map f).length < sizeLine ∧ N (((l.take i).filter p).map f ++ [d]) M4) _ (fun hp => ⟨?_, hN _ _ ⟨rfl, ?_, hlt⟩⟩) fun hp => hN _ _ ⟨rfl, ?_, hlt⟩
    · simp only [List.length_map]; omega
    · rw [List.take_add_one, hy]; simp [List.filter_cons, hp]
    · rw [List.take_add_one, hy]; simp [List.filter_cons, hp]
  · obtain ⟨rfl, rfl, _⟩ := hI
    rw [List.length_map, List.take_length]
    exact fin
end
section
variable {M : Mm} {Q : DQ} {i : Int} {x : Str} {a b : Bool} {xs : List D} {p : Addr} {kvs : List (Key × D)}
theorem isR_nn : isR .non .non M Q = Q (.bl true) M := by simp [isR, DM.isQ, isNonD]
theorem isR_tn : isR (.tup xs) .non M Q = Q (.bl false) M := by simp [isR, DM.isQ, isNonD]
theorem isR_Ln : isR (.lst xs) .non M Q = Q (.bl false) M := by simp [isR, DM.isQ, isNonD]
theorem isR_sn : isR (.str x) .non M Q = Q (.bl false) M := by simp [isR, DM.isQ, isNonD]
theorem isR_in : isR (.int i) .non M Q = Q (.bl false) M := by simp [isR, DM.isQ, isNonD]
theorem isR_bn : isR (.bl a) .non M Q = Q (.bl false) M := by simp [isR, DM.isQ, isNonD]
theorem isR_bb : isR (.bl a) (.bl b) M Q = Q (.bl (decide (a = b))) M := by simp [isR, DM.isQ]
theorem isNotR_nn : isNotR .non .non M Q = Q (.bl false) M := by simp [isNotR, DM.isQ, isNonD]
theorem isNotR_tn : isNotR (.tup xs) .non M Q = Q (.bl true) M := by simp [isNotR, DM.isQ, isNonD]
theorem isNotR_Ln : isNotR (.lst xs) .non M Q = Q (.bl true) M := by simp [isNotR, DM.isQ, isNonD]
theorem isNotR_sn : isNotR (.str x) .non M Q = Q (.bl true) M := by simp [isNotR, DM.isQ, isNonD]
theorem isNotR_in : isNotR (.int i) .non M Q = Q (.bl true) M := by simp [isNotR, DM.isQ, isNonD]
theorem isNotR_bn : isNotR (.bl a) .non M Q = Q (.bl true) M := by simp [isNotR, DM.isQ, isNonD]
theorem isNotR_bb : isNotR (.bl a) (.bl b) M Q = Q (.bl (!decide (a = b))) M := by simp [isNotR, DM.isQ]
/-! isinstance of known kinds -/
theorem isi_t_bool : isiR [.tup xs, .ty "bool"] M Q = Q (.bl false) M := by
  show (isiOk "tuple" "bool" = true ∧ Q (.bl (isiB "tuple" "bool")) M) = _
  rw [show isiOk "tuple" "bool" = true by decide, show isiB "tuple" "bool" = false by decide]; simp
theorem isi_t_int : isiR [.tup xs, .ty "int"] M Q = Q (.bl false) M := by
  show (isiOk "tuple" "int" = true ∧ Q (.bl (isiB "tuple" "int")) M) = _
  rw [show isiOk "tuple" "int" = true by decide, show isiB "tuple" "int" = false by decide]; simp
theorem isi_t_str : isiR [.tup xs, .ty "str"] M Q = Q (.bl false) M := by
  show (isiOk "tuple" "str" = true ∧ Q (.bl (isiB "tuple" "str")) M) = _
  rw [show isiOk "tuple" "str" = true by decide, show isiB "tuple" "str" = false by decide]; simp
theorem isi_t_tuple : isiR [.tup xs, .ty "tuple"] M Q = Q (.bl true) M := by
  show (isiOk "tuple" "tuple" = true ∧ Q (.bl (isiB "tuple" "tuple")) M) = _
  rw [show isiOk "tuple" "tuple" = true by decide, show isiB "tuple" "tuple" = true by decide]; simp
theorem isi_t_list : isiR [.tup xs, .ty "list"] M Q = Q (.bl false) M := by
  show (isiOk "tuple" "list" = true ∧ Q (.bl (isiB "tuple" "list")) M) = _
  rw [show isiOk "tuple" "list" = true by decide, show isiB "tuple" "list" = false by decide]; simp
theorem isi_t_dict : isiR [.tup xs, .ty "dict"] M Q = Q (.bl false) M := by
  show (isiOk "tuple" "dict" = true ∧ Q (.bl (isiB "tuple" "dict")) M) = _
  rw [show isiOk "tuple" "dict" = true by decide, show isiB "tuple" "dict" = false by decide]; simp
theorem isi_s_bool : isiR [.str x, .ty "bool"] M Q = Q (.bl false) M := by
  show (isiOk "str" "bool" = true ∧ Q (.bl (isiB "str" "bool")) M) = _
  rw [show isiOk "str" "bool" = true by decide, show isiB "str" "bool" = false by decide]; simp
theorem isi_s_int : isiR [.str x, .ty "int"] M Q = Q (.bl false) M := by
  show (isiOk "str" "int" = true ∧ Q (.bl (isiB "str" "int")) M) = _
  rw [show isiOk "str" "int" = true by decide, show isiB "str" "int" = false by decide]; simp
theorem isi_s_str : isiR [.str x, .ty "str"] M Q = Q (.bl true) M := by
  show (isiOk "str" "str" = true ∧ Q (.bl (isiB "str" "str")) M) = _
  rw [show isiOk "str" "str" = true by decide, show isiB "str" "str" = true by decide]; simp
theorem isi_s_tuple : isiR [.str x, .ty "tuple"] M Q = Q (.bl false) M := by
  show (isiOk "str" "tuple" = true ∧ Q (.bl (isiB "str" "tuple")) M) = _
  rw [show isiOk "str" "tuple" = true by decide, show isiB "str" "tuple" = false by decide]; simp
theorem isi_s_list : isiR [.str x, .ty "list"] M Q = Q (.bl false) M := by
  show (isiOk "str" "list" = true ∧ Q (.bl (isiB "str" "list")) M) = _
  rw [show isiOk "str" "list" = true by decide, show isiB "str" "list" = false by decide]; simp
theorem isi_s_dict : isiR [.str x, .ty "dict"] M Q = Q (.bl false) M := by
  show (isiOk "str" "dict" = true ∧ Q (.bl (isiB "str" "dict")) M) = _
  rw [show isiOk "str" "dict" = true by decide, show isiB "str" "dict" = false by decide]; simp
theorem isi_i_bool : isiR [.int i, .ty "bool"] M Q = Q (.bl false) M := by
  show (isiOk "int" "bool" = true ∧ Q (.bl (isiB "int" "bool")) M) = _
  rw [show isiOk "int" "bool" = true by decide, show isiB "int" "bool" = false by decide]; simp
theorem isi_i_int : isiR [.int i, .ty "int"] M Q = Q (.bl true) M := by
  show (isiOk "int" "int" = true ∧ Q (.bl (isiB "int" "int")) M) = _
  rw [show isiOk "int" "int" = true by decide, show isiB "int" "int" = true by decide]; simp
theorem isi_i_str : isiR [.int i, .ty "str"] M Q = Q (.bl false) M := by
  show (isiOk "int" "str" = true ∧ Q (.bl (isiB "int" "str")) M) = _
  rw [show isiOk "int" "str" = true by decide, show isiB "int" "str" = false by decide]; simp
theorem isi_i_tuple : isiR [.int i, .ty "tuple"] M Q = Q (.bl false) M := by
  show (isiOk "int" "tuple" = true ∧ Q (.bl (isiB "int" "tuple")) M) = _
  rw [show isiOk "int" "tuple" = true by decide, show isiB "int" "tuple" = false by decide]; simp
theorem isi_i_list : isiR [.int i, .ty "list"] M Q = Q (.bl false) M := by
  show (isiOk "int" "list" = true ∧ Q (.bl (isiB "int" "list")) M) = _
  rw [show isiOk "int" "list" = true by decide, show isiB "int" "list" = false by decide]; simp
theorem isi_i_dict : isiR [.int i, .ty "dict"] M Q = Q (.bl false) M := by
  show (isiOk "int" "dict" = true ∧ Q (.bl (isiB "int" "dict")) M) = _
  rw [show isiOk "int" "dict" = true by decide, show isiB "int" "dict" = false by decide]; simp
theorem isi_b_bool : isiR [.bl a, .ty "bool"] M Q = Q (.bl true) M := by
  show (isiOk "bool" "bool" = true ∧ Q (.bl (isiB "bool" "bool")) M) = _
  rw [show isiOk "bool" "bool" = true by decide, show isiB "bool" "bool" = true by decide]; simp
theorem isi_b_int : isiR [.bl a, .ty "int"] M Q = Q (.bl true) M := by
  show (isiOk "bool" "int" = true ∧ Q (.bl (isiB "bool" "int")) M) = _
  rw [show isiOk "bool" "int" = true by decide, show isiB "bool" "int" = true by decide]; simp
theorem isi_b_str : isiR [.bl a, .ty "str"] M Q = Q (.bl false) M := by
  show (isiOk "bool" "str" = true ∧ Q (.bl (isiB "bool" "str")) M) = _
  rw [show isiOk "bool" "str" = true by decide, show isiB "bool" "str" = false by decide]; simp
theorem isi_b_tuple : isiR [.bl a, .ty "tuple"] M Q = Q (.bl false) M := by
  show (isiOk "bool" "tuple" = true ∧ Q (.bl (isiB "bool" "tuple")) M) = _
  rw [show isiOk "bool" "tuple" = true by decide, show isiB "bool" "tuple" = false by decide]; simp
theorem isi_b_list : isiR [.bl a, .ty "list"] M Q = Q (.bl false) M := by
  show (isiOk "bool" "list" = true ∧ Q (.bl (isiB "bool" "list")) M) = _
  rw [show isiOk "bool" "list" = true by decide, show isiB "bool" "list" = false by decide]; simp
theorem isi_b_dict : isiR [.bl a, .ty "dict"] M Q = Q (.bl false) M := by
  show (isiOk "bool" "dict" = true ∧ Q (.bl (isiB "bool" "dict")) M) = _
  rw [show isiOk "bool" "dict" = true by decide, show isiB "bool" "dict" = false by decide]; simp
theorem isi_n_bool : isiR [.non, .ty "bool"] M Q = Q (.bl false) M := by
  show (isiOk "NoneType" "bool" = true ∧ Q (.bl (isiB "NoneType" "bool")) M) = _
  rw [show isiOk "NoneType" "bool" = true by decide, show isiB "NoneType" "bool" = false by decide]; simp
theorem isi_n_int : isiR [.non, .ty "int"] M Q = Q (.bl false) M := by
  show (isiOk "NoneType" "int" = true ∧ Q (.bl (isiB "NoneType" "int")) M) = _
  rw [show isiOk "NoneType" "int" = true by decide, show isiB "NoneType" "int" = false by decide]; simp
theorem isi_n_str : isiR [.non, .ty "str"] M Q = Q (.bl false) M := by
  show (isiOk "NoneType" "str" = true ∧ Q (.bl (isiB "NoneType" "str")) M) = _
  rw [show isiOk "NoneType" "str" = true by decide, show isiB "NoneType" "str" = false by decide]; simp
theorem isi_n_tuple : isiR [.non, .ty "tuple"] M Q = Q (.bl false) M := by
  show (isiOk "NoneType" "tuple" = true ∧ Q (.bl (isiB "NoneType" "tuple")) M) = _
  rw [show isiOk "NoneType" "tuple" = true by decide, show isiB "NoneType" "tuple" = false by decide]; simp
theorem isi_n_list : isiR [.non, .ty "list"] M Q = Q (.bl false) M := by
  show (isiOk "NoneType" "list" = true ∧ Q (.bl (isiB "NoneType" "list")) M) = _
  rw [show isiOk "NoneType" "list" = true by decide, show isiB "NoneType" "list" = false by decide]; simp
theorem isi_n_dict : isiR [.non, .ty "dict"] M Q = Q (.bl false) M := by
  show (isiOk "NoneType" "dict" = true ∧ Q (.bl (isiB "NoneType" "dict")) M) = _
  rw [show isiOk "NoneType" "dict" = true by decide, show isiB "NoneType" "dict" = false by decide]; simp
theorem isi_L_bool : isiR [.lst xs, .ty "bool"] M Q = Q (.bl false) M := by
  show (isiOk "list" "bool" = true ∧ Q (.bl (isiB "list" "bool")) M) = _
  rw [show isiOk "list" "bool" = true by decide, show isiB "list" "bool" = false by decide]; simp
theorem isi_L_int : isiR [.lst xs, .ty "int"] M Q = Q (.bl false) M := by
  show (isiOk "list" "int" = true ∧ Q (.bl (isiB "list" "int")) M) = _
  rw [show isiOk "list" "int" = true by decide, show isiB "list" "int" = false by decide]; simp
theorem isi_L_str : isiR [.lst xs, .ty "str"] M Q = Q (.bl false) M := by
  show (isiOk "list" "str" = true ∧ Q (.bl (isiB "list" "str")) M) = _
  rw [show isiOk "list" "str" = true by decide, show isiB "list" "str" = false by decide]; simp
theorem isi_L_tuple : isiR [.lst xs, .ty "tuple"] M Q = Q (.bl false) M := by
  show (isiOk "list" "tuple" = true ∧ Q (.bl (isiB "list" "tuple")) M) = _
  rw [show isiOk "list" "tuple" = true by decide, show isiB "list" "tuple" = false by decide]; simp
theorem isi_L_list : isiR [.lst xs, .ty "list"] M Q = Q (.bl true) M := by
  show (isiOk "list" "list" = true ∧ Q (.bl (isiB "list" "list")) M) = _
  rw [show isiOk "list" "list" = true by decide, show isiB "list" "list" = true by decide]; simp
theorem isi_L_dict : isiR [.lst xs, .ty "dict"] M Q = Q (.bl false) M := by
  show (isiOk "list" "dict" = true ∧ Q (.bl (isiB "list" "dict")) M) = _
  rw [show isiOk "list" "dict" = true by decide, show isiB "list" "dict" = false by decide]; simp
theorem isi_d_bool : isiR [.dic kvs, .ty "bool"] M Q = Q (.bl false) M := by
  show (isiOk "dict" "bool" = true ∧ Q (.bl (isiB "dict" "bool")) M) = _
  rw [show isiOk "dict" "bool" = true by decide, show isiB "dict" "bool" = false by decide]; simp
theorem isi_d_int : isiR [.dic kvs, .ty "int"] M Q = Q (.bl false) M := by
  show (isiOk "dict" "int" = true ∧ Q (.bl (isiB "dict" "int")) M) = _
  rw [show isiOk "dict" "int" = true by decide, show isiB "dict" "int" = false by decide]; simp
theorem isi_d_str : isiR [.dic kvs, .ty "str"] M Q = Q (.bl false) M := by
  show (isiOk "dict" "str" = true ∧ Q (.bl (isiB "dict" "str")) M) = _
  rw [show isiOk "dict" "str" = true by decide, show isiB "dict" "str" = false by decide]; simp
theorem isi_d_tuple : isiR [.dic kvs, .ty "tuple"] M Q = Q (.bl false) M := by
  show (isiOk "dict" "tuple" = true ∧ Q (.bl (isiB "dict" "tuple")) M) = _
  rw [show isiOk "dict" "tuple" = true by decide, show isiB "dict" "tuple" = false by decide]; simp
theorem isi_d_list : isiR [.dic kvs, .ty "list"] M Q = Q (.bl false) M := by
  show (isiOk "dict" "list" = true ∧ Q (.bl (isiB "dict" "list")) M) = _
  rw [show isiOk "dict" "list" = true by decide, show isiB "dict" "list" = false by decide]; simp
theorem isi_d_dict : isiR [.dic kvs, .ty "dict"] M Q = Q (.bl true) M := by
  show (isiOk "dict" "dict" = true ∧ Q (.bl (isiB "dict" "dict")) M) = _
  rw [show isiOk "dict" "dict" = true by decide, show isiB "dict" "dict" = true by decide]; simp
theorem isiOk_all : (∀ a ∈ ["NoneType", "bool", "int", "str", "tuple", "list", "dict"], ∀ n ∈ ["bool", "int", "str", "tuple", "list", "dict"], isiOk a n = true) := by decide
end
theorem natlit_eq {n : Nat} : ((no_index (OfNat.ofNat n) : Nat) : Int) = OfNat.ofNat n := rfl
theorem small_line2 {n : Nat} (h : n ≤ 16000000) : n ≤ sizeLine := by rw [sizeLine_eq]; omega
theorem ixN_nat {n j : Nat} (hj : j < n) : ixN n (j : Int) = some j := by
  unfold ixN
  rw [if_pos (by omega), if_pos (by omega), Int.toNat_natCast]
theorem rangeD_map (lo : Int) (n : Nat) : rangeD lo n = (List.range n).map fun (i : Nat) => D.int (lo + (i : Int)) := rfl
end DM

/-! what this program is about: names, rules, stands -/
namespace DM
open PySem L2
open PyProof.Rows (b2i)
/-! _law_names -/
def lets : List Nat := (List.range 26).map (97 + ·)
def sgns : List Nat := lets ++ (List.range 10).map (48 + ·)
theorem cps_lets : cps ("abcdefghijklmnopqrstuvwxyz" : Str) = lets := by decide +kernel
theorem cps_sgns : cps (("abcdefghijklmnopqrstuvwxyz" : Str) ++ ("0123456789" : Str)) = sgns := by decide +kernel
/-- what a name is -/
def NameL (l : List Nat) : Prop := (∃ c r, l = c :: r ∧ c ∈ lets) ∧ (∀ c ∈ l, c ∈ sgns) ∧ l.length ≤ 8
def NameS (z : Str) : Prop := NameL (cps z)
theorem lets_sgns {c : Nat} (h : c ∈ lets) : c ∈ sgns := List.mem_append_left _ h
theorem occ_lets : ∀ j : Fin 26, Builtin.Str.occurrences ("abcdefghijklmnopqrstuvwxyz" : Str) ⟨#[lets[j.1]!]⟩ 0 26 1 = [j.1] := by decide +kernel
theorem occ_sgns : ∀ j : Fin 36, Builtin.Str.occurrences (("abcdefghijklmnopqrstuvwxyz" : Str) ++ ("0123456789" : Str)) ⟨#[sgns[j.1]!]⟩ 0 36 1 = [j.1] := by decide +kernel
theorem lets_len : lets.length = 26 := by decide
theorem sgns_len : sgns.length = 36 := by decide
theorem lets_get {j : Nat} (h : j < 26) : ∃ c, lets[j]? = some c ∧ c ∈ lets := ⟨lets[j]'(by rw [lets_len]; exact h), List.getElem?_eq_getElem _, List.getElem_mem _⟩
theorem sgns_get {j : Nat} (h : j < 36) : ∃ c, sgns[j]? = some c ∧ c ∈ sgns := ⟨sgns[j]'(by rw [sgns_len]; exact h), List.getElem?_eq_getElem _, List.getElem_mem _⟩
theorem idx_lets {c : Nat} (h : c ∈ lets) : ∃ j, j < 26 ∧ lets[j]? = some c ∧ Builtin.Str.occurrences ("abcdefghijklmnopqrstuvwxyz" : Str) ⟨#[c]⟩ 0 26 1 = [j] := by
  obtain ⟨j, hj, rfl⟩ := List.getElem_of_mem h
  rw [lets_len] at hj
  have := occ_lets ⟨j, hj⟩
  rw [show lets[j]! = lets[j] from getElem!_pos lets j (by rw [lets_len]; exact hj)] at this
  exact ⟨j, hj, List.getElem?_eq_getElem _, this⟩
theorem idx_sgns {c : Nat} (h : c ∈ sgns) : ∃ j, j < 36 ∧ sgns[j]? = some c ∧ Builtin.Str.occurrences (("abcdefghijklmnopqrstuvwxyz" : Str) ++ ("0123456789" : Str)) ⟨#[c]⟩ 0 36 1 = [j] := by
  obtain ⟨j, hj, rfl⟩ := List.getElem_of_mem h
  rw [sgns_len] at hj
  have := occ_sgns ⟨j, hj⟩
  rw [show sgns[j]! = sgns[j] from getElem!_pos sgns j (by rw [sgns_len]; exact hj)] at this
  exact ⟨j, hj, List.getElem?_eq_getElem _, this⟩
theorem lets_nodup : lets.Nodup := by decide
theorem sgns_nodup : sgns.Nodup := by decide
theorem signs_one {z : Str} (h : z.length ≤ sizeLine) : True := trivial
theorem join_signs {cs : List Nat} : cps (Txt.join ("" : Str) (cs.map fun c => (⟨#[c]⟩ : Str))) = cs := by
  rw [show ("" : Str) = (⟨#[]⟩ : Str) from rfl, cps_join0, List.map_map]
  induction cs with
  | nil => rfl
  | cons c r ih => rw [List.map_cons, List.flatten_cons, ih]; rfl
theorem sum_ones (cs : List Nat) : ((cs.map fun c => (⟨#[c]⟩ : Str)).map (·.length)).sum = cs.length := by
  induction cs with
  | nil => rfl
  | cons c r ih => rw [List.map_cons, List.map_cons, List.sum_cons, ih]; show 1 + r.length = _; simp; omega
theorem index_lets {M : Mm} {Q : DQ} {c : Nat} (h : c ∈ lets) (k : ∀ j : Nat, j < 26 → Q (.int (j : Nat)) M) : indexQ (.str ("abcdefghijklmnopqrstuvwxyz" : Str)) (.str ⟨#[c]⟩) M Q := by
  obtain ⟨j, hj, _, e⟩ := idx_lets h
  unfold indexQ
  simp only
  rw [show ("abcdefghijklmnopqrstuvwxyz" : Str).length = 26 by decide +kernel, e]
  exact k j hj
theorem index_sgns {M : Mm} {Q : DQ} {c : Nat} (h : c ∈ sgns) (k : ∀ j : Nat, j < 36 → Q (.int (j : Nat)) M) : indexQ (.str (("abcdefghijklmnopqrstuvwxyz" : Str) ++ ("0123456789" : Str))) (.str ⟨#[c]⟩) M Q := by
  obtain ⟨j, hj, _, e⟩ := idx_sgns h
  unfold indexQ
  simp only
  rw [show (("abcdefghijklmnopqrstuvwxyz" : Str) ++ ("0123456789" : Str)).length = 36 by decide +kernel, e]
  exact k j hj
theorem len_le {z : Str} {l : List Nat} (e : cps z = l) (h : l.length ≤ 1000) : z.length ≤ sizeLine := by
  rw [cps_len, e]
  exact small_line (by omega)
theorem eraseIdx_map {α β : Type} (f : α → β) : ∀ (l : List α) (i : Nat), (l.map f).eraseIdx i = (l.eraseIdx i).map f
  | [], _ => rfl
  | _ :: _, 0 => rfl
  | _ :: l, i + 1 => by simp [eraseIdx_map f l i]
theorem name_take {c : Nat} {r : List Nat} (hc : c ∈ lets) (hr : ∀ x ∈ r, x ∈ sgns) (hl : r.length ≤ 7) (k : Nat) : NameL ((c :: r).take (k + 1)) := by
  refine ⟨⟨c, r.take k, by simp, hc⟩, fun x hx => ?_, ?_⟩
  · have := List.mem_of_mem_take hx
    rcases List.mem_cons.mp this with rfl | h
    · exact lets_sgns hc
    · exact hr x h
  · simp only [List.length_take, List.length_cons]; omega
theorem name_put0 {s : Nat} {m : List Nat} (hs : s ∈ lets) (hm : ∀ x ∈ m, x ∈ sgns) (hl : m.length ≤ 7) : NameL (s :: m) :=
  ⟨⟨s, m, rfl, hs⟩, fun x hx => by
    rcases List.mem_cons.mp hx with rfl | h
    · exact lets_sgns hs
    · exact hm x h, by simp; omega⟩
/-! _law_program -/
structure Rl where
  p : Str
  m : Str
  o : Str
  w : List Str
def ruleD (r : Rl) : D := .tup [.str r.p, .str r.m, .str r.o, .tup (r.w.map D.str)]
def progD (rs : List Rl) : D := .tup (rs.map ruleD)
/-- a rule of some places and marks -/
def RuleIn (ps ms : List Str) (x : Rl) : Prop := x.p ∈ ps ∧ x.m ∈ ms ∧ x.o ∈ ps ∧ x.w.length ≤ 2 ∧ ∀ y ∈ x.w, y ∈ ms
theorem sizes_ok : ∀ y ∈ [D.lst [.int 0, .int 1, .int 2], .lst [.int 0, .int 0, .int 1, .int 2], .lst [.int 0, .int 1, .int 2, .int 2], .lst [.int 0, .int 2]], ∃ zs : List Int, y = .lst (zs.map D.int) ∧ zs ≠ [] ∧ (∀ z ∈ zs, 0 ≤ z ∧ z ≤ 2) ∧ zs.length ≤ 4 := by
  intro y hy
  simp only [List.mem_cons, List.not_mem_nil, or_false] at hy
  rcases hy with rfl | rfl | rfl | rfl
  · exact ⟨[0, 1, 2], rfl, by decide, by decide, by decide⟩
  · exact ⟨[0, 0, 1, 2], rfl, by decide, by decide, by decide⟩
  · exact ⟨[0, 1, 2, 2], rfl, by decide, by decide, by decide⟩
  · exact ⟨[0, 2], rfl, by decide, by decide, by decide⟩
theorem noBl_rule (x : Rl) : noBl (ruleD x) = true := by simp [ruleD, noBl, noBls, noBls_str]
theorem noBls_rules (rs : List Rl) : noBls (rs.map ruleD) = true := noBls_map _ noBl_rule rs
/-! behind -/
abbrev St2 := Str × List Str
def stD (s : St2) : D := .tup [.str s.1, .tup (s.2.map D.str)]
def optD : Option St2 → D
  | none => .non
  | some s => stD s
def stepF (r : Rl) (s : St2) : Option St2 := if s.1 = r.p ∧ s.2.take 1 = [r.m] then some (r.o, r.w ++ s.2.drop 1) else none
def behF (rs : List Rl) (s : St2) (n : Int) : Option St2 := if 0 ≤ n then (match rs[n.toNat]? with | some r => stepF r s | none => none) else none
theorem noBl_st (s : St2) : noBl (stD s) = true := by simp [stD, noBl, noBls, noBls_str]
theorem eqv_take {xs : List Str} {t : Str} : eqvDs (cutL (xs.map D.str) none (some 1)) [D.str t] = decide (xs.take 1 = [t]) := by
  have e : cutL (xs.map D.str) none (some 1) = (xs.take 1).map D.str := by rw [show (1 : Int) = ((1 : Nat) : Int) from rfl, cutL_to, List.map_take]
  rw [e, show [D.str t] = [t].map D.str from rfl, eqvDs_strs]
theorem cut_drop1 {xs : List Str} : cutL (xs.map D.str) (some 1) none = (xs.drop 1).map D.str := by rw [cutL_from1, List.map_drop]
theorem strs_ok {xs : List Str} : pureDs (xs.map D.str) = true ∧ depDs (xs.map D.str) ≤ 99 := ⟨pureDs_str _, Nat.le_trans (depDs_str _) (by decide)⟩
theorem cut1_ok {xs : List Str} : pureDs (cutL (xs.map D.str) none (some 1)) = true ∧ depDs (cutL (xs.map D.str) none (some 1)) ≤ 99 := by
  have e : cutL (xs.map D.str) none (some 1) = (xs.take 1).map D.str := by rw [show (1 : Int) = ((1 : Nat) : Int) from rfl, cutL_to, List.map_take]
  rw [e]; exact strs_ok
/-! steps_of -/
def stepsF (rs : List Rl) (s : St2) : List (Int × St2) := (List.range rs.length).filterMap fun (n : Nat) => (behF rs s (n : Nat)).map fun t => ((n : Int), t)
def stepD (q : Int × St2) : D := .tup [.int q.1, stD q.2]
theorem stepsF_take {rs : List Rl} {s : St2} (i : Nat) : (List.range (i + 1)).filterMap (fun n => (behF rs s (n : Nat)).map fun t => ((n : Int), t)) =
    (List.range i).filterMap (fun n => (behF rs s (n : Nat)).map fun t => ((n : Int), t)) ++ (match behF rs s (i : Nat) with | some t => [((i : Int), t)] | none => []) := by
  rw [List.range_succ, List.filterMap_append]
  cases h : behF rs s (i : Nat) <;> simp [h]
theorem rules_dep (rs : List Rl) : depDs (rs.map ruleD) ≤ 99 := Nat.le_trans (depDs_map ruleD 3 (by decide) (fun r => by have := depDs_str r.w; simp only [ruleD, depD, depDs]; omega) rs) (by decide)
theorem cut_take {α : Type} (xs : List α) : cutL xs none (some 16) = xs.take 16 := by rw [show (16 : Int) = ((16 : Nat) : Int) from rfl, cutL_to]
section
variable {ok : Mm → Prop} {g : TDG} {tb : TDS} {D : DEnds}
/-- a loop whose turns keep what holds -/
theorem forW_keep (J : DSt → Mm → Prop) {xs : List DM.D} {ds : DSt} {M : Mm} (hok : ∀ ds M, J ds M → ok M)
    (step : ∀ x ∈ xs, ∀ (N : DSt → Mm → Prop), (∀ ds M, J ds M → N ds M) → ∀ ds M, J ds M → g x ds M fun ds' M' => tb { D with nx := N, ct := N, bk := D.nx } ds' M')
    (fin : ∀ ds M, J ds M → D.nx ds M) (h0 : J ds M) : forW ok g tb D xs ds M :=
  forW_go (fun _ ds M => J ds M) xs (fun _ ds M h => hok ds M h) (fun i x N e hN ds M h => step x (List.mem_of_getElem? e) N hN ds M h) (fun ds M h => fin ds M h) ds M h0
end
end DM

/-! enumerate of a tuple -/
namespace DMX
open PySem PySem.Spec
open AutoSeq1 (wpAny_loadPart')
theorem meets_enumT (l : Addr) (items : Array Value) (n : Nat) (dct : Option Addr) (sl : Array (Option Value)) :
    Meets (Builtin.«enumerate.__new__» ⟨[.type "enumerate", .ref l], []⟩) (fun _ R s => s.heap.get? l = some { cls := .type "tuple", dict := dct, data := .seq items n, slots := sl } ∧
      R (.ok (.ret (.ref (s.heap.push { cls := .type "tuple_iterator", data := .fields #[.ref l, .int 0 0] }).objs.size)))
        { s with heap := (s.heap.push { cls := .type "tuple_iterator", data := .fields #[.ref l, .int 0 0] }).push { cls := .type "enumerate", data := .fields #[.none, .bool false, .ref s.heap.objs.size, rawInt 0, .none, .none] } }) :=
  .of_wp fun prog w A R s h => by
    obtain ⟨hp, g, d, tk, os⟩ := s; obtain ⟨hl, h⟩ := h
    have hsub := sub_enumerate
    have hL : Heap.IsTuple (Shared.heap ⟨hp, g, d, tk, os⟩) l items := ⟨_, hl, rfl, n, rfl⟩
    wp_walk using wpAny_loadPart' hl
    refine wpAny_stack_any fun st => wpAny_pure ?_
    split
    · rename_i c _ _ _ _ _
      cases (c == Value.type "enumerate")
      · wp_walk using wpAny_loadPart' hl, wpAny_pyIter_tuple hL
        exact ⟨_, rfl, h⟩
      · wp_walk using wpAny_loadPart' hl, wpAny_pyIter_tuple hL
        exact ⟨_, rfl, h⟩
    · wp_walk using wpAny_loadPart' hl, wpAny_pyIter_tuple hL
      exact ⟨_, rfl, h⟩
section
variable {prog : Program} {w : World} {A : Around} {E : Value → Shared → Prop} {s : Shared}
theorem call_enumT {l : Addr} {items : Array Value} {Q : Value → Shared → Prop} (hL : s.heap.IsTuple l items)
    (h : ∀ h', IsEnum h' (s.heap.objs.size + 1) s.heap.objs.size 0 .none → h'.IsTupleIter s.heap.objs.size l 0 → h'.objs.size = s.heap.objs.size + 2 →
      (∀ b o, s.heap.get? b = some o → h'.get? b = some o) → Q (.ref (s.heap.objs.size + 1)) { s with heap := h' }) :
    wpAny (model prog w) A (call (.type "enumerate") [.ref l]) Q E s := by
  obtain ⟨⟨c, dct, dt, sl⟩, hl, hc, n, hd⟩ := hL
  replace hc : c = .type "tuple" := hc
  replace hd : dt = .seq items n := hd
  subst hc hd
  refine callType_new F.called_enumerate (by decide) (F.typeCall_enumerate_1 _) (F.newCall_enumerate_1 _) (fun obj => F.args_object_init_2 obj _) F.entry_enumerate_new
    (meets_enumT l items n dct sl) ⟨hl, ?_⟩
  have hz : (s.heap.push { cls := .type "tuple_iterator", data := .fields #[.ref l, .int 0 0] }).objs.size = s.heap.objs.size + 1 := Heap.size_push ..
  show _ ∧ _
  rw [hz]
  have he : IsEnum ((s.heap.push { cls := .type "tuple_iterator", data := .fields #[.ref l, .int 0 0] }).push
      { cls := .type "enumerate", data := .fields #[.none, .bool false, .ref s.heap.objs.size, rawInt 0, .none, .none] }) (s.heap.objs.size + 1) s.heap.objs.size 0 .none := by
    have := Heap.get?_push_size (s.heap.push { cls := .type "tuple_iterator", data := .fields #[.ref l, .int 0 0] })
      (o := { cls := .type "enumerate", data := .fields #[.none, .bool false, .ref s.heap.objs.size, rawInt 0, .none, .none] }) rfl
    rw [hz] at this; exact this
  refine ⟨⟨_, he, rfl⟩, h _ he ⟨_, Heap.get?_push_of_some _ (Heap.get?_push_size _ rfl), rfl, rfl⟩ (by rw [Heap.size_push, hz]) fun b o x => Heap.get?_push_of_some _ (Heap.get?_push_of_some _ x)⟩
end
end DMX
namespace L2
open PySem PySem.Spec PyProof.Rows
/-- the tuple at a, each item in a new pair -/
def IteT (K : PySem.W.Frag) (a : Addr) : It :=
  ⟨fun i H => ∃ (xs : List V) (x : V), SqT K H a xs ∧ xs[i]? = some x, fun i H v H' => ∃ T x, v = .ref T ∧ H T = none ∧ H' = upd H T (.tup [.int (i : Nat), x]) ∧ ∀ xs, SqT K H a xs → xs[i]? = some x, fun i H => ∃ xs : List V, SqT K H a xs ∧ xs.length = i⟩
theorem turn_enumT {P : Program} {w : World} {K : PySem.W.Frag} {elts : List Expr} {kk : Nat} {tpos : Pos} (a e it : Addr) (hai : a ≠ it) (hae : e ≠ a) :
    Turn P w K (.Tuple elts kk tpos) (IteT K a) [e, it] e (fun i h => (∃ old, IsEnum h e it ((i : Nat) : Int) old) ∧ h.IsTupleIter it a i ∧ e ≠ it) where
  mem := by simp
  obj := fun i h st b hb => by
    obtain ⟨⟨old, he⟩, ⟨o, ho, hc, hd⟩, _⟩ := st
    have e' : b = e ∨ b = it := by simpa using hb
    rcases e' with z | z
    · rw [z]; exact ⟨_, he, fun v q => nomatch q⟩
    · rw [z]; exact ⟨o, ho, fun v q => by rw [hd] at q; cases q⟩
  keep := fun i h h' st k => let ⟨⟨old, he⟩, hi, hne⟩ := st; ⟨⟨old, k e (by simp) _ he⟩, hi.at fun o q => k it (by simp) o q, hne⟩
  item := by
    intro X hP hw hK hc i pins s σ H E I hf st hg
    subst hP hw hK
    obtain ⟨⟨old, he⟩, hit, hne⟩ := st
    obtain ⟨xs, x, hq, hx⟩ := hg
    obtain ⟨its, rv, p, hz⟩ := I.tuple hq
    obtain ⟨u, hu, ru⟩ := rv.get hx
    have hel : e < s.heap.objs.size := Heap.lt_size he
    have hil : it < s.heap.objs.size := by obtain ⟨_, q, _⟩ := hit; exact Heap.lt_size q
    have Dr := Draws.tuple (prog := X.prog) (w := X.w) (A := X.A.in1) (I.ok.hd hc) it a hai its.toArray
    have hlt : i < its.toArray.size := by
      have := (List.getElem?_eq_some_iff.mp hu).1
      simpa using this
    refine wpAny_pyNext_enum_itemC Dr he ⟨hit, p⟩ hlt hne (by simp [hne, hae]) fun x' h' tk hP ho hit' hT hsz hk => ?_
    have ex : x' = u := by
      have e1 : its.toArray[i]? = some u := by simpa using hu
      exact Option.some.inj (hP.symm.trans e1)
    subst ex
    refine ⟨_, rfl, wpAny_letOwnedTupleGo_enum (s := { s with heap := h', toks := tk + 1 }) ho fun h'' he' sb => ?_⟩
    have hT2 : h''.get? s.heap.objs.size = some { cls := .type "tuple", data := .seq #[.int i tk, x'] } := (sb.2 _ (Nat.ne_of_gt hel)).trans hT
    have new : ObjOk X.prog X.w (upd H s.heap.objs.size (.tup [.int (i : Nat), x])) h'' s.heap.objs.size (.tup [.int (i : Nat), x]) :=
      ⟨by show 2 ≤ sizeLine; decide, [.int i tk, x'], .cons ⟨_, rfl⟩ (.cons ru .nil), ⟨_, hT2, rfl, _, rfl⟩⟩
    have I1 : Inv X pins σ (upd H s.heap.objs.size (.tup [.int (i : Nat), x])) { s with heap := h'', toks := tk + 1 } :=
      I.turnedNew (ch := [e, it]) (fun b ob hb q => (sb.2 b (fun z => hb (by simp [z]))).trans (hk b ob (fun z => hb (by simp [z])) (fun z => hb (by simp [z])) q)) hf (Nat.le_refl _) new
    refine ⟨.ref s.heap.objs.size, _, I1, rfl, ⟨_, x, rfl, I.hok.fresh (Nat.le_refl _), rfl, fun ys hy => by rw [I.tuple_inj hy hq]; exact hx⟩, ⟨⟨x', ?_⟩, hit'.1.at fun o q => (sb.2 it (Ne.symm hne)).trans q, hne⟩, fun b hb => ?_⟩
    · have e1 : ((i + 1 : Nat) : Int) = (i : Int) + 1 := by omega
      rw [e1]; exact he'
    · have hb' : b < s.heap.objs.size := by
        have e' : b = e ∨ b = it := by simpa using hb
        rcases e' with z | z
        · rw [z]; exact hel
        · rw [z]; exact hil
      rw [upd_ne (Nat.ne_of_lt hb')]
      exact (hf b hb).1
  done := by
    intro X hP hw hK hc i pins s σ H E I hf st hg
    subst hP hw hK
    obtain ⟨⟨old, he⟩, hit, hne⟩ := st
    obtain ⟨xs, hq, hx⟩ := hg
    obtain ⟨its, rv, p, hz⟩ := I.tuple hq
    obtain ⟨f0, f1, f2, f3, f4, f5⟩ := hf it (by simp)
    have hl := rv.length
    have Dr := Draws.tuple (prog := X.prog) (w := X.w) (A := X.A.in1) (I.ok.hd hc) it a hai its.toArray
    have hsz : its.toArray.size = i := by simp; omega
    exact wpAny_pyNext_enum_endD Dr he (by rw [hsz]; exact ⟨hit, p⟩) fun h' eb => ⟨rfl, I.turned (t' := s.toks) (fun b o hb q => eb b o hb q) f0 f1 f3 f4 f5⟩
  self := fun A i s Q E st h => let ⟨⟨_, he⟩, _⟩ := st; wpAny_pyIter_enum he h
/-- enumerate(x): x a list or a tuple -/
def iEnumA (K : PySem.W.Frag) (ta : TA) : TI := fun σ H R => ta σ H fun vs H1 => ∃ a, vs = [.ref a] ∧ ((∃ xs, SqL K H1 a xs ∧ R (Ite K a) H1) ∨ ∃ xs, SqT K H1 a xs ∧ R (IteT K a) H1)
theorem pi_enumA {X : Cx} {e : Expr} {ta : TA} {p pos tpos : Pos} {elts : List Expr} {kk : Nat} (hg : Gl X "enumerate") (hm : X.mg "enumerate" = none) (ha : PA X [e] ta) (hs : starEach [e] X.env = [(false, eval e X.env)] := by rfl) :
    PI X (.Tuple elts kk tpos) (.Call (.Name "enumerate" p) [e] [] pos) (iEnumA X.K ta) := by
  refine ⟨fun pins s σ H R I h => ?_⟩
  refine Call_ (ld_blt I hg hm boot_enumerate (PyProof.Rows.callWith_type1 (thn (ha.run pos pins s σ H _ I h) fun us s1 ⟨vs, H1, I1, r1, q1⟩ => ?_) hs rfl))
  obtain ⟨a, ex, q1⟩ := q1
  subst ex
  cases r1 with
  | cons r rr =>
    cases rr
    cases r
    have fr : ∀ b ∈ [s1.heap.objs.size + 1, s1.heap.objs.size], s1.heap.objs.size ≤ b := fun b hb => by
      have e' : b = s1.heap.objs.size + 1 ∨ b = s1.heap.objs.size := by simpa using hb
      rcases e' with z | z
      · rw [z]; exact Nat.le_add_right _ _
      · rw [z]; exact Nat.le_refl _
    rcases q1 with ⟨xs, hq, q⟩ | ⟨xs, hq, q⟩
    · obtain ⟨its, rv, p', hz⟩ := I1.list hq
      refine call_enumerate_list p'.isList fun h' he hit hsz hk => wpAny_pyIter_enum he ?_
      have I2 : Inv X pins σ H1 { s1 with heap := h' } := I1.kept (t' := s1.toks) hk
      exact ⟨s1.heap.objs.size + 1, [s1.heap.objs.size + 1, s1.heap.objs.size], _, _, H1, rfl, I2, turn_enum a (s1.heap.objs.size + 1) s1.heap.objs.size, ⟨⟨.none, he⟩, hit, Nat.succ_ne_self _⟩, fun b hb => I1.fpOk (fr b hb) (I1.hok.fresh (fr b hb)), q⟩
    · obtain ⟨its, rv, p', hz⟩ := I1.tuple hq
      obtain ⟨oo, hoo, _⟩ := id p'
      have hlt : a < s1.heap.objs.size := Heap.lt_size hoo
      refine DMX.call_enumT p' fun h' he hit hsz hk => wpAny_pyIter_enum he ?_
      have I2 : Inv X pins σ H1 { s1 with heap := h' } := I1.kept (t' := s1.toks) hk
      exact ⟨s1.heap.objs.size + 1, [s1.heap.objs.size + 1, s1.heap.objs.size], _, _, H1, rfl, I2, turn_enumT a (s1.heap.objs.size + 1) s1.heap.objs.size (Nat.ne_of_lt hlt) (Nat.ne_of_gt (Nat.lt_succ_of_lt hlt)), ⟨⟨.none, he⟩, hit, Nat.succ_ne_self _⟩, fun b hb => I1.fpOk (fr b hb) (I1.hok.fresh (fr b hb)), q⟩
end L2
namespace DM
open PySem L2
open PyProof.Rows (b2i)
def enumD : Nat → List D → List D
  | _, [] => []
  | n, x :: xs => .tup [.int (n : Nat), x] :: enumD (n + 1) xs
theorem enumD_len : ∀ (n : Nat) (xs : List D), (enumD n xs).length = xs.length
  | _, [] => rfl
  | n, x :: xs => by simp [enumD, enumD_len (n + 1) xs]
theorem enumD_get : ∀ {n : Nat} {xs : List D} {i : Nat} {d : D}, (enumD n xs)[i]? = some d → ∃ x, xs[i]? = some x ∧ d = .tup [.int ((n + i : Nat) : Int), x]
  | n, [], i, d, h => by simp [enumD] at h
  | n, x :: xs, 0, d, h => by
    simp only [enumD, List.getElem?_cons_zero, Option.some.injEq] at h
    exact ⟨x, rfl, by rw [← h]; simp⟩
  | n, x :: xs, i + 1, d, h => by
    simp only [enumD, List.getElem?_cons_succ] at h
    obtain ⟨y, h1, h2⟩ := enumD_get h
    exact ⟨y, by simpa using h1, by rw [h2, show n + 1 + i = n + (i + 1) by omega]⟩
section
variable {K : PySem.W.Frag} {M M1 : Mm} {H H1 : HF}
theorem it_enumT {a : Addr} {xs : List D} {vs : List V} (sa : SqT K H.h a vs) (ra : VRs K H xs vs) (m0 : MR K M H) : ItOk K (IteT K a) ⟨enumD 0 xs, fun _ => True⟩ M H where
  go := fun i d M2 H2 g m _ e => by
    obtain ⟨x, h1, rfl⟩ := enumD_get e
    obtain ⟨v, e1, _⟩ := ra.get h1
    exact ⟨vs, v, (g.tx m0).tu _ _ sa, e1⟩
  yld := fun i d M2 H2 x H3 g m _ e y => by
    obtain ⟨x', h1, rfl⟩ := enumD_get e
    obtain ⟨v, e1, r1⟩ := ra.get h1
    obtain ⟨T, p, rfl, hT, rfl, hx⟩ := y
    have f1 := hx vs ((g.tx m0).tu _ _ sa)
    rw [e1] at f1
    cases f1
    refine ⟨H2.up _ _, rfl, .tup (SqT.of upd_same) (.cons ?_ (.cons (VR.mono (TX.new m hT) _ _ (VR.mono (g.tx m0) _ _ r1)) .nil)), m.newT hT, GG.newT hT⟩
    rw [Nat.zero_add]
    exact .int _
  stop := fun M2 H2 g m _ => ⟨vs, (g.tx m0).tu _ _ sa, by rw [enumD_len]; exact ra.length.symm⟩
theorem it_enumL {a : Addr} {xs : List D} {x : D} (r1 : VR K H x (.ref a)) (m0 : MR K M H) : ItOk K (Ite K a) ⟨enumD 0 xs, fun M' => rdL M' x = some xs⟩ M H where
  go := fun i d M2 H2 g m ok e => by
    obtain ⟨x, h1, rfl⟩ := enumD_get e
    obtain ⟨a', vs, ea, q1, s1⟩ := rdL_v m (VR.mono (g.tx m0) _ _ r1) ok
    cases ea
    obtain ⟨v, e1, _⟩ := s1.get h1
    exact ⟨vs, v, SqL.of q1, e1⟩
  yld := fun i d M2 H2 x H3 g m ok e y => by
    obtain ⟨x', h1, rfl⟩ := enumD_get e
    obtain ⟨a', vs, ea, q1, s1⟩ := rdL_v m (VR.mono (g.tx m0) _ _ r1) ok
    cases ea
    obtain ⟨v, e1, s1⟩ := s1.get h1
    obtain ⟨T, p, rfl, hT, rfl, hx⟩ := y
    have f1 := hx vs (SqL.of q1)
    rw [e1] at f1
    cases f1
    refine ⟨H2.up _ _, rfl, .tup (SqT.of upd_same) (.cons ?_ (.cons (VR.mono (TX.new m hT) _ _ s1) .nil)), m.newT hT, GG.newT hT⟩
    rw [Nat.zero_add]
    exact .int _
  stop := fun M2 H2 g m ok => by
    obtain ⟨a', vs, ea, q1, s1⟩ := rdL_v m (VR.mono (g.tx m0) _ _ r1) ok
    cases ea
    exact ⟨vs, SqL.of q1, by rw [enumD_len, s1.length]; exact Nat.le_refl _⟩
end
def enumQ (x : D) (M2 : Mm) (Q : DIt → Mm → Prop) : Prop := match rdL M2 x with | some xs => Q ⟨enumD 0 xs, fun M' => rdL M' x = some xs⟩ M2 | _ => False
def diEnum (ta : TDE) : TDI := fun ds M Q => ta ds M fun x M1 => match x with
  | .tup xs => Q ⟨enumD 0 xs, fun _ => True⟩ M1
  | x => enumQ x M1 Q
theorem ji_enum {X : Cx} {e : Expr} {te : TDE} {p pos tpos : Pos} {elts : List Expr} {kk : Nat} (hm : X.mg "enumerate" = none) (h : JE X e te) (hg : Gl X "enumerate" := by rfl)
    (hs : starEach [e] X.env = [(false, eval e X.env)] := by rfl) (hs' : starEach (e :: []) X.env = (false, eval e X.env) :: starEach [] X.env := by rfl) :
    JI X (.Tuple elts kk tpos) (.Call (.Name "enumerate" p) [e] [] pos) (diEnum te) := by
  obtain ⟨u, q, g⟩ := h
  refine ⟨_, pi_enumA hg hm (pa_cons q pa_nil hs') hs, fun ds σ H M Q R0 s m q k => ?_⟩
  refine g ds σ H M _ _ s m q fun v H1 d M1 r1 m1 g1 q1 => ?_
  split at q1
  · obtain ⟨a, vs, rfl, sa, ra⟩ := r1.tup_v
    exact ⟨a, rfl, .inr ⟨vs, sa, k _ H1 _ M1 (it_enumT sa ra m1) m1 g1 q1⟩⟩
  · unfold enumQ at q1
    split at q1
    · rename_i xs e1
      obtain ⟨a, vs, rfl, h1, _⟩ := rdL_v m1 r1 e1
      exact ⟨_, rfl, .inl ⟨vs, SqL.of h1, k _ H1 _ M1 (it_enumL r1 m1) m1 g1 q1⟩⟩
    · exact q1.elim
end DM
namespace L2
open PySem PySem.Spec PyProof.Rows
/-- a, b = x, y with plain local names: stored from the right; the tuple itself is not tracked -/
def tPar2 (i j : Nat) (ta : TA) : TS := fun D σ H => ta σ H fun vs H1 => ∃ u v, vs = [u, v] ∧ D.nx ((σ.set i (some u)).set j (some v)) H1
theorem ps_par2 {X : Cx} {i j : Nat} {x y : Str} {a b : Expr} {ta : TA} {px py pt pos : Pos} {kt k2 pt2} (hc : X.calm = true) (hN : X.N.Nodup) (hi : X.N[i]? = some x) (hj : X.N[j]? = some y) (hij : i ≠ j)
    (hx : X.env.scope.names.lookup x = some .local) (hy : X.env.scope.names.lookup y = some .local) (ha : PA X [a, b] ta)
    (hw : swappedStores [.Tuple [.Name x px, .Name y py] kt pt] (.Tuple [a, b] k2 pt2) X.env = pure (some [x, y]))
    (hs : swapsWithSole [.Tuple [.Name x px, .Name y py] kt pt] (.Tuple [a, b] k2 pt2) pos.line X.env = pure false := by rfl) :
    PS X (.Assign [.Tuple [.Name x px, .Name y py] kt pt] (.Tuple [a, b] k2 pt2) pos) (tPar2 i j ta) := by
  refine ⟨fun pins s σ H D I h => ?_⟩
  rw [exec_Assign_arm]
  refine wpAny_bind (wpAny_standAt ?_)
  rw [hs]
  refine wpAny_bind (wpAny_pure ?_)
  rw [if_neg (by decide)]
  refine wpAny_bind (Tuple_ (thn (ha.run _ pins s σ H _ I h) fun us s1 ⟨vs, H1, I1, r1, q1⟩ => ?_))
  obtain ⟨v1, v2, e1, q1⟩ := q1
  subst e1
  obtain ⟨u1, u2, rfl, r1', r2'⟩ : ∃ u1 u2, us = [u1, u2] ∧ RelV v1 u1 ∧ RelV v2 u2 := by
    cases r1 with
    | cons p q =>
      cases q with
      | cons p' q' =>
        cases q'
        exact ⟨_, _, rfl, p, p'⟩
  refine wpAny_newObj_type ?_ (by show 2 ≤ sizeLine; decide)
  have I2 : Inv X pins σ H1 { s1 with heap := s1.heap.push { cls := .type "tuple", data := .seq [u1, u2].toArray } } := I1.kept (t' := s1.toks) fun b o e => Heap.get?_push_of_some _ e
  rw [hw]
  refine wpAny_bind (wpAny_pure ?_)
  show wpAny (model X.prog X.w) X.A (do rule "assign.swapped-stores"; let items ← unpackItems (.ref s1.heap.objs.size) 2 none; assignInOrder [fun v => bindName X.env y v, fun v => bindName X.env x v] items.reverse; pure Flow.next) _ _ _
  refine wpAny_bind (wpAny_rule (wpAny_bind (unpackItems_tuple (items := #[u1, u2]) (I.ok.hd hc) (IsTup.new s1.heap _) fun h' hx' => ?_)))
  have I3 := I2.kept (h' := h') (t' := s1.toks) fun b o e => hx' b o (Nat.ne_of_lt (Heap.lt_size e)) e
  show wpAny _ _ (assignInOrder [fun v => bindName X.env y v, fun v => bindName X.env x v] [u2, u1] >>= fun _ => pure Flow.next) _ _ _
  refine wpAny_bind (assignInOrder_cons (wpAny_bindName (store_ok I3 hN hj (.inl hy) r2' (fun s3 I5 => ?_) (.inr hy))))
  refine assignInOrder_cons (wpAny_bindName (store_ok I5 hN hi (.inl hx) r1' (fun s4 I6 => assignInOrder_nil (wpAny_pure ?_)) (.inr hx)))
  rw [List.set_comm _ _ (Ne.symm hij)] at I6
  exact ⟨_, H1, I6, q1⟩
end L2
namespace DM
open PySem L2
open PyProof.Rows (b2i)
def dPar2 (i j : Nat) (t : TDA) : TDS := fun D ds M => t ds M fun xs M1 => match xs with | [u, v] => D.nx ((ds.set i (some u)).set j (some v)) M1 | _ => False
theorem js_par2 {X : Cx} {W : WX} {i j : Nat} {x y : Str} {a b : Expr} {t : TDA} {px py pt pos : Pos} {kt k2 pt2} (hc : X.calm = true) (hN : X.N.Nodup) (ha : JA X [a, b] t) (hij : i ≠ j := by decide) (hi : X.N[i]? = some x := by rfl) (hj : X.N[j]? = some y := by rfl)
    (hx : X.env.scope.names.lookup x = some .local := by rfl) (hy : X.env.scope.names.lookup y = some .local := by rfl)
    (hw : swappedStores [.Tuple [.Name x px, .Name y py] kt pt] (.Tuple [a, b] k2 pt2) X.env = pure (some [x, y]) := by rfl)
    (hs : swapsWithSole [.Tuple [.Name x px, .Name y py] kt pt] (.Tuple [a, b] k2 pt2) pos.line X.env = pure false := by rfl) :
    JS X W (.Assign [.Tuple [.Name x px, .Name y py] kt pt] (.Tuple [a, b] k2 pt2) pos) (dPar2 i j t) := by
  obtain ⟨t0, p, g⟩ := ha
  refine ⟨_, ps_par2 hc hN hi hj hij hx hy p hw hs, fun M0 H0 D0 D1 l ds σ H M gg s m q => ?_⟩
  refine g ds σ H M _ _ s m q fun vs H1 es M1 r1 m1 g1 q1 => ?_
  match es, r1, q1 with
  | [u, v], .cons (v := v1) a (.cons (v := v2) b .nil), q1 => exact ⟨v1, v2, rfl, l.nx _ _ H1 M1 (gg.trans g1) (((s.gg m g1).set a i).set b j) m1 q1⟩
end DM

/-! exceptions: what a caught one is, whatever its dict -/
namespace DX
open PySem PySem.W PySem.Spec PySem.Calls PyProof.Rows
section
variable {prog : Program} {w : World} {A : Around} {E : Value → Shared → Prop} {s : Shared} {K : Frag} {x C : Addr} {ox : Obj} {od : Option Obj}
theorem own_data {nm : Str} {a g : Value} (h1 : (clsIn K C).isSome = true) (h2 : findIn K (.ref C) nm = some (some a)) (h3 : specialIn K a "__get__" = some (some g)) (h4 : takesIn K a = some true) :
    findObj K C od nm = some (.bind g a) := by
  obtain ⟨cd, e⟩ := Option.isSome_iff_exists.mp h1
  unfold findObj
  simp [e, h2, h3, h4]
/-- e.__class__ of a caught one -/
theorem cls_of {Q : Option Value → Shared → Prop} (T : L2.ExcC K C) (X : K.In s.heap) (I : InstAt s.heap x ox C od) (h : Q (some (.ref C)) { s with toks := s.toks + 1 }) :
    wpAny (model prog w) A (getAttr? (.ref x) "__class__") Q E s := by
  have fnd : findObj K C od "__class__" = some (.bind (.builtin "getset_descriptor.__get__") (.builtin "object.__class__")) :=
    own_data (by obtain ⟨cd, hc, _⟩ := any_some T.hd; rw [hc] <;> rfl) T.ha T.hn T.ht
  obtain ⟨hp, gn, dr, tk, os⟩ := s
  have TY := I.type (M := model prog w)
  have GA := looks_findIn (M := model prog w) X T.hg
  have GT := looks_findIn (M := model prog w) X T.hk
  have FD := looks_find (M := model prog w) X I fnd
  have SB : Looks (model prog w) hp (isInstance (.ref x) (.type "BaseException")) true := TY.andThen (looks_subIn X T.hs)
  have n2 : (Value.builtin "BaseException.__getattribute__" == Value.builtin "object.__getattribute__") = false := by decide +kernel
  have n1 : (onTheHeap (Value.ref C) && Value.builtin "BaseException.__getattribute__" == Value.builtin "object.__getattribute__") = false := by rw [n2, Bool.and_false]
  unfold getAttr? getAttrBy? getAttrBy
  refine wpAny_bind (wpAny_mkText (wpAny_bind (wpAny_attempt (wpAny_holding (wpAny_bind (TY.at (wpAny_bind (GA.at ?_))))))))
  show wpAny _ _ (if (onTheHeap (Value.ref C) && Value.builtin "BaseException.__getattribute__" == Value.builtin "object.__getattribute__") = true then _ else _) _ _ _
  rw [n1, if_neg Bool.false_ne_true]
  unfold getAttrByItsOwn hookBefore
  refine wpAny_bind ?_; rw [if_pos (show onTheHeap (Value.ref C) = true from rfl)]
  refine GT.at (wpAny_bind (wpAny_attempt (wpAny_holding ?_)))
  unfold callGetattribute
  rw [show (false && onTheHeap (Value.builtin "BaseException.__getattribute__")) = false from rfl, if_neg Bool.false_ne_true]
  unfold boundAndCalled
  rw [PySem.F.excAttr_ValueError.ga.bind (.ref x)]
  refine wpAny_bind (wpAny_pure ?_)
  show wpAny _ _ (call (.builtin "BaseException.__getattribute__") [.ref x, .str "__class__" tk]) _ _ _
  refine wpAny_call (codeAny_call_builtin PySem.F.excAttr_ValueError.ga.plain PySem.F.entry_bexc_ga ?_)
  refine @check_slot (model prog w) _ _ ⟨hp, gn, dr, tk + 1, os⟩ "BaseException.__getattribute__" "BaseException" "__getattribute__" (.ref x) [.str "__class__" tk] [] _ (by decide +kernel) (by decide +kernel) SB (PySem.F.args_bexc_ga (.ref x) (.str "__class__" tk)) ?_
  unfold Builtin.«object.__getattribute__»
  refine wpAny_bind (wpAny_of_eq (a := ((Value.ref x : Value), [Value.str "__class__" tk])) (by first | rfl | (simp only [slotArgs]; rfl)) (wpAny_bind (wpAny_pure (wpAny_bind (TY.at (wpAny_bind (FD.at ?_)))))))
  show wpAny _ _ (holding [Value.builtin "object.__class__"] (call (.builtin "getset_descriptor.__get__") [.builtin "object.__class__", .ref x, .ref C]) >>= ret) _ _ _
  refine wpAny_bind (wpAny_holding (wpAny_call (class_get (s := ⟨hp, gn, dr, tk + 1, os⟩) (ox := ox) (od := od) X I T.hm (wpAny_pure ?_))))
  show wpAny _ _ (handedOut (.ref C)) _ _ _
  rw [handedOut_of (v := .ref C) rfl]
  first
    | exact wpAny_pure (wpAny_pure h)
    | exact wpAny_pure h
    | exact wpAny_pure (wpAny_bind (wpAny_pure (wpAny_pure h)))
theorem kitx (T : L2.ExcC K C) : KitX K (.ref x) (.ref C) (fun h => InstAt h x ox C od) where
  ty := fun _ _ _ I => I.type
  it := fun M h X _ => by
    obtain ⟨cd, hc, _⟩ := any_some T.hd
    unfold clsIn at hc
    split at hc
    · rename_i ho
      intro A' Q' E' s' k q
      unfold isType loadHead
      exact wpAny_bind (wpAny_loadPart (k _ _ (X _ _ ho)) (wpAny_pure q))
    · cases hc
  ne := fun h tp dd its n sl X htp => by
    obtain ⟨cd, hc, _⟩ := any_some T.hd
    rw [Bool.eq_false_iff]
    intro q
    cases Value.ref.inj (beq_iff_eq.mp q)
    unfold clsIn at hc
    split at hc
    · rename_i ho
      cases (X _ _ ho).symm.trans htp
    · cases hc
  ca := fun X I k => cls_of T X I k
end
end DX
namespace L2
open PySem PySem.Spec PyProof.Rows
/-- the caught exception's dict stands -/
def DictAt (d : Option Addr) (H : Hp) : Prop := match d with | none => True | some dd => ∃ fs, H dd = some (.xd fs)
/-- the classes that an isinstance asks for -/
inductive ClsQ (K : PySem.W.Frag) (H : Hp) (C : Addr) : V → Bool → Prop
  | one {c : V} {cv : Value} {b : Bool} : ClsV c cv → PySem.W.kitOne K (.ref C) cv = some b → ClsQ K H C c b
  | tup {t : Addr} {cs : List V} {ws : List Value} {b : Bool} : SqT K H t cs → Paired ClsV cs ws → PySem.W.kitAny K (.ref C) ws = some b → ClsQ K H C (.ref t) b
def rIsX (K : PySem.W.Frag) (C a : Addr) (d : Option Addr) : List V → Hp → VK → Prop := fun xs H Q => ∃ (c : V) (b : Bool), xs = [.ref a, c] ∧ ExcC K C ∧ DictAt d H ∧ ClsQ K H C c b ∧ Q (.bl b) H
theorem inst_at {X : Cx} {pins : List (Addr × Obj)} {σ : St} {H : Hp} {s : Shared} {a C : Addr} {oe : Obj} {d : Option Addr} {pn : List (Addr × Obj)} (I : Inv (X.suite a ((a, oe) :: pn)) pins σ H s) (hz : Zc (.ref C) d oe) (hf : ∃ vs, oe.data = .fields vs) (hd : DictAt d H) :
    ∃ od, PySem.W.InstAt s.heap a oe C od := by
  obtain ⟨hget, _⟩ := I.pin (a, oe) (List.mem_append.mpr (.inl List.mem_cons_self))
  obtain ⟨vs, hv⟩ := hf
  cases d with
  | none =>
    refine ⟨none, hget, hz.1, by unfold PySem.W.notCls; rw [hv] <;> rfl, ?_⟩
    rw [hz.2]
    trivial
  | some dd =>
    obtain ⟨fs, ea⟩ := hd
    obtain ⟨mA, hns, hr⟩ := (show ObjOk X.prog X.w H s.heap dd (.xd fs) from I.hok dd _ ea)
    obtain ⟨od, ho, _⟩ := lookIn_ns hns
    refine ⟨some od, hget, hz.1, by unfold PySem.W.notCls; rw [hv] <;> rfl, ?_⟩
    rw [hz.2]
    exact ho
theorem call_isX {X : Cx} {a C : Addr} {oe : Obj} {d : Option Addr} {pn : List (Addr × Obj)} (hz : Zc (.ref C) d oe) (hf : ∃ vs, oe.data = .fields vs) : CallR (X.suite a ((a, oe) :: pn)) (.builtin "isinstance") (rIsX X.K C a d) := by
  intro pins s σ H xs us Q I r h
  obtain ⟨c, b, rfl, T, hd, hc, q⟩ := h
  obtain ⟨od, J⟩ := inst_at I hz hf hd
  obtain ⟨u1, u2, rfl, r1, r2⟩ := vals2 r
  cases r1
  cases hc with
  | one hc e =>
    cases hc.eq r2
    exact PySem.W.kia_one (DX.kitx T) I.kIn J e (fun z => nomatch z) fun tk => ⟨.bl b, H, I.kept (t' := tk) fun _ _ z => z, rfl, q⟩
  | tup hT k e =>
    cases r2
    obtain ⟨its, rv, ⟨o, h1, h2, n, h3⟩, _⟩ := I.tuple hT
    cases ClsV.all k rv
    obtain ⟨oc, odd, dt, sl⟩ := o
    simp only at h2 h3
    subst h2 h3
    exact PySem.W.kia_tup (DX.kitx T) I.kIn J h1 e (fun z => nomatch z) fun tk => ⟨.bl b, H, I.kept (t' := tk) fun _ _ z => z, rfl, q⟩
/-- B.__init__(self, text), B an own class over ValueError -/
theorem pe_binit {X : Cx} {B : Addr} {bn : Str} {e : Expr} {es : List Expr} {ta : TA} {p1 p2 pos : Pos} {pl : Sem Bool} (hg : Gl X bn) (hm : X.mg bn = some (.ref B)) (h1 : PySem.W.specialIn X.K (.ref B) "__getattribute__" = some (some (.builtin "type.__getattribute__")))
    (h2 : PySem.W.readsIn X.K B (.type "type") = true) (h3 : PySem.W.findCls X.K (.ref B) (.type "type") "__init__" = some (.val (.builtin "ValueError.__init__"))) (ha : PA X (e :: es) ta) (hdb : (bn == ("__debug__" : Str)) = false := by decide)
    (hc : eval (.Call (.Attribute (.Name bn p1) "__init__" p2) (e :: es) [] pos) X.env = (do
      let ov ← eval (.Name bn p1) X.env
      standAt p2.atName
      let (f, first) ← holding [ov] (getMethod ov "__init__" pl)
      callWith pos f first (backTo pos (starEach (e :: es) X.env)) (backToKw pos (keywordEach [] X.env))) := by rfl)
    (he : starEach (e :: es) X.env = (false, eval e X.env) :: starEach es X.env := by rfl) (hpl : (backTo pos (starEach es X.env)).any (·.1) = false := by rfl) :
    PE X (.Call (.Attribute (.Name bn p1) "__init__" p2) (e :: es) [] pos) (tVeI X.K ta) := by
  refine ⟨fun pins s σ H Q I h => ?_⟩
  refine PySem.W.methodCall_KW (ld_glob I hg hm ?_ hdb) hc
  refine PySem.W.method_cls I.kIn h1 (PySem.W.cls_value I.kIn h2 h3 (by decide +kernel) ?_)
  show wpAny _ _ (callWith pos (Value.builtin "ValueError.__init__") [] (backTo pos (starEach (e :: es) X.env)) []) _ _ _
  refine PyProof.Rows.callWith_method1 (thn (ha.run pos pins _ σ H _ (I.tok _) h) fun us s1 hh => ?_) he hpl
  obtain ⟨vs, H1, I1, r1, a, C, ws, rfl, hl, T, ea, q⟩ := hh
  cases r1 with
  | @cons _ u0 _ ur ra rr =>
    cases (show u0 = Value.ref a from ra)
    exact oinit_ok T I1 ea (by rw [← Paired.length rr, sizeLine_eq]; omega) fun s' J => ⟨.non, H1, J, rfl, q⟩
end L2

namespace DM
open PySem L2
open PyProof.Rows (b2i)

/-! ### expressions that may raise -/
def LinkX (K : PySem.W.Frag) (W : WX) (M0 : Mm) (H0 : HF) (xc : DX) : Prop := ∀ C od σ ds fs H M, XF H0 od → GG M0 H0 M H → SR K H ds σ → XR K M H od fs → MR K M H → xc C fs ds M → W (.ref C) od σ H.h
abbrev TDEX := DX → DSt → Mm → DQ → Prop
abbrev TDAX := DX → DSt → Mm → (List D → Mm → Prop) → Prop
structure JX (X : Cx) (W : WX) (e : Expr) (t : TDEX) : Prop where
  go : ∃ t0, PE X e t0 ∧ ∀ (M0 : Mm) (H0 : HF) (xc : DX), LinkX X.K W M0 H0 xc → ∀ (ds : DSt) (σ : St) (H : HF) (M : Mm) (Q : DQ) (Q0 : VK), GG M0 H0 M H → SR X.K H ds σ → MR X.K M H → t xc ds M Q →
    (∀ v H' d M', VR X.K H' d v → MR X.K M' H' → GG M H M' H' → Q d M' → Q0 v H'.h) → t0 σ H.h Q0
structure JAX (X : Cx) (W : WX) (es : List Expr) (t : TDAX) : Prop where
  go : ∃ t0, PA X es t0 ∧ ∀ (M0 : Mm) (H0 : HF) (xc : DX), LinkX X.K W M0 H0 xc → ∀ (ds : DSt) (σ : St) (H : HF) (M : Mm) (Q : List D → Mm → Prop) (Q0 : List V → Hp → Prop), GG M0 H0 M H → SR X.K H ds σ → MR X.K M H → t xc ds M Q →
    (∀ vs H' es M', VRs X.K H' es vs → MR X.K M' H' → GG M H M' H' → Q es M' → Q0 vs H'.h) → t0 σ H.h Q0
abbrev DSpX := List D → Mm → DQ → (Addr → List (Str × D) → Mm → Prop) → Prop
def toSpX (K : PySem.W.Frag) (sp : DSpX) : Sp := fun vs h Q E => ∃ ds M R xc H, h = H.h ∧ VRs K H ds vs ∧ MR K M H ∧ sp ds M R xc ∧ (∀ v H' d M', VR K H' d v → MR K M' H' → GG M H M' H' → R d M' → Q v H'.h) ∧
  ∀ C od fs H' M', XF H od → GG M H M' H' → XR K M' H' od fs → MR K M' H' → xc C fs M' → E (.ref C) od H'.h
section
variable {X : Cx} {W : WX} {e o : Expr} {es : List Expr} {te : TDE} {tx : TDEX} {ta : TDAX} {tt : TDA} {pos : Pos}
theorem jx_of (h : JE X e te) : JX X W e (fun _ => te) := by
  obtain ⟨u, p, g⟩ := h
  exact ⟨u, p, fun M0 H0 xc l ds σ H M Q Q0 gg s m q k => g ds σ H M Q Q0 s m q k⟩
theorem jax_of (h : JA X es tt) : JAX X W es (fun _ => tt) := by
  obtain ⟨u, p, g⟩ := h
  exact ⟨u, p, fun M0 H0 xc l ds σ H M Q Q0 gg s m q k => g ds σ H M Q Q0 s m q k⟩
def dConsX (t : TDEX) (u : TDAX) : TDAX := fun xc ds M Q => t xc ds M fun x M1 => u xc ds M1 fun xs M2 => Q (x :: xs) M2
theorem jax_cons (h1 : JX X W e tx) (h2 : JAX X W es ta) (hs : starEach (e :: es) X.env = (false, eval e X.env) :: starEach es X.env := by rfl) : JAX X W (e :: es) (dConsX tx ta) := by
  obtain ⟨t0, p, g⟩ := h1
  obtain ⟨u0, p', g'⟩ := h2
  refine ⟨_, pa_cons p p' hs, fun M0 H0 xc l ds σ H M Q Q0 gg s m q k => ?_⟩
  refine g M0 H0 xc l ds σ H M _ _ gg s m q fun v H1 d M1 r1 m1 g1 q1 => ?_
  refine g' M0 H0 xc l ds σ H1 M1 _ _ (gg.trans g1) (s.gg m g1) m1 q1 fun vs H2 es M2 r2 m2 g2 q2 => ?_
  exact k _ H2 _ M2 (.cons (VR.mono (g2.tx m1) _ _ r1) r2) m2 (g1.trans g2) q2
def dTupX (t : TDAX) : TDEX := fun xc ds M Q => t xc ds M fun xs M1 => xs.length ≤ sizeLine ∧ Q (.tup xs) M1
theorem jx_tup {x1} (h : JAX X W es ta) : JX X W (.Tuple es x1 pos) (dTupX ta) := by
  obtain ⟨t0, p, g⟩ := h
  refine ⟨_, pe_tup p, fun M0 H0 xc l ds σ H M Q Q0 gg s m q k => ?_⟩
  refine g M0 H0 xc l ds σ H M _ _ gg s m q fun vs H1 es M1 r1 m1 g1 q1 => ⟨by rw [← r1.length]; exact q1.1, fun a ha => ?_⟩
  exact k _ (H1.up a _) _ M1 (.tup (SqT.of upd_same) (VRs.mono (TX.new m1 ha) _ _ r1)) (m1.newT ha) (g1.trans (GG.newT ha)) q1.2
def dFrzX (t : TDAX) : TDEX := fun xc ds M Q => t xc ds M fun xs M1 => xs.length ≤ sizeLine ∧ Q (.lst xs) M1
theorem jx_lst (h : JAX X W es ta) : JX X W (.List es pos) (dFrzX ta) := by
  obtain ⟨t0, p, g⟩ := h
  refine ⟨_, pe_lst p, fun M0 H0 xc l ds σ H M Q Q0 gg s m q k => ?_⟩
  refine g M0 H0 xc l ds σ H M _ _ gg s m q fun vs H1 es M1 r1 m1 g1 q1 => ⟨by rw [← r1.length]; exact q1.1, fun a ha => ?_⟩
  obtain ⟨z1, z2, z3⟩ := frz_new m1 ha r1
  exact k _ _ _ _ z1 z2 (g1.trans z3) q1.2
/-- a call of a def that may raise -/
def dCallX (sp : DSpX) (t : TDAX) : TDEX := fun xc ds M Q => t xc ds M fun xs M1 => sp xs M1 Q fun C fs M' => xc C fs ds M'
theorem jx_call {k : Nat} {f : Addr} {fd : FuncData} {ps : List Str} {sp : DSpX} {x : Str} {p : Pos} (F : FnOk X.prog X.w X.K X.mg X.base (L2.CX X.prog X.w) k f fd ps (toSpX X.K sp)) (tk : Takes X W) (hr : Room k X.A) (hg : Gl X x) (hm : X.mg x = some (.ref f))
    (hk : PySem.W.keepIn X.K (.ref f) = true) (hb : Binds X.K fd ps []) (ha : JAX X W (e :: es) ta) (hdb : (x == ("__debug__" : Str)) = false := by decide) (he : starEach (e :: es) X.env = (false, eval e X.env) :: starEach es X.env := by rfl)
    (hpl : (backTo pos (starEach es X.env)).any (·.1) = false := by rfl) : JX X W (.Call (.Name x p) (e :: es) [] pos) (dCallX sp ta) := by
  obtain ⟨u, q, g⟩ := ha
  refine ⟨_, pe_callS F hr hg hm hk hb (fun σ => passAt tk σ) q hdb he hpl, fun M0 H0 xc l ds σ H M Q Q0 gg s m q k => ?_⟩
  refine g M0 H0 xc l ds σ H M _ _ gg s m q fun vs H1 es M1 r1 m1 g1 q1 => ?_
  exact ⟨es, M1, Q, _, H1, rfl, r1, m1, q1, fun v H' d M' r' m' g' q' => k v H' d M' r' m' (g1.trans g') q', fun C od fs H' M' f' g' x' m' q' => l C od σ ds fs H' M' (fun dd e => (gg.trans g1).free (f' dd e)) ((gg.trans g1).trans g') ((s.gg m g1).gg m1 g') x' m' q'⟩
/-! ### statements -/
variable {st : Stmt}
def dDropX (t : TDEX) : TDS := fun D ds M => t D.xc ds M fun _ M1 => D.nx ds M1
def dRetX (t : TDEX) : TDS := fun D ds M => t D.xc ds M D.rt
def dAsgX (t : TDEX) (g : TDG) : TDS := fun D ds M => t D.xc ds M fun x M1 => g x ds M1 D.nx
theorem Link.x {K : PySem.W.Frag} {M0 : Mm} {H0 : HF} {D0 : Ends} {D1 : DEnds} (l : Link K W M0 H0 D0 D1) : LinkX K W M0 H0 D1.xc := l.xc
theorem js_exprX (he : JX X W e tx) (hs : swapsWith e none pos.line X.env = pure false := by rfl) : JS X W (.Expr e pos) (dDropX tx) := by
  obtain ⟨t0, p, g⟩ := he
  refine ⟨_, ps_expr p hs, fun M0 H0 D0 D1 l ds σ H M gg s m q => ?_⟩
  exact g M0 H0 D1.xc l.x ds σ H M _ _ gg s m q fun v H1 d M1 r1 m1 g1 q1 => l.nx σ ds H1 M1 (gg.trans g1) (s.gg m g1) m1 q1
theorem js_retX (he : JX X W e tx) : JS X W (.Return (some e) pos) (dRetX tx) := by
  obtain ⟨t0, p, g⟩ := he
  refine ⟨_, ps_ret p, fun M0 H0 D0 D1 l ds σ H M gg s m q => ?_⟩
  exact g M0 H0 D1.xc l.x ds σ H M _ _ gg s m q fun v H1 d M1 r1 m1 g1 q1 => l.rt v d H1 M1 (gg.trans g1) r1 m1 q1
theorem js_setX {i : Nat} {x : Str} {pos' : Pos} (hN : X.N.Nodup) (he : JX X W e tx) (hi : X.N[i]? = some x := by rfl) (hx : Loc X.env.scope x := by first | exact Or.inl rfl | exact Or.inr rfl) (hs : swapsWith e (some (.Name x pos')) pos.line X.env = pure false := by rfl)
    (hf : X.fn x = true ∨ X.env.scope.names.lookup x = some .local := by first | exact .inl rfl | exact .inr rfl | assumption) : JS X W (.Assign [.Name x pos'] e pos) (dAsgX tx (dgName i)) := by
  obtain ⟨t0, p, ge⟩ := he
  refine ⟨_, ps_set hN hi hx p hs hf, fun M0 H0 D0 D1 l ds σ H M gg s m q => ?_⟩
  refine ge M0 H0 D1.xc l.x ds σ H M _ _ gg s m q fun v H1 d M1 r1 m1 g1 q1 => ?_
  exact l.nx _ _ H1 M1 (gg.trans g1) ((s.gg m g1).set r1 i) m1 q1
theorem js_asgX {tg : Expr} {g : TDG} (he : JX X W e tx) (hg : JG X tg g) (hs : swapsWithSole [tg] e pos.line X.env = pure false := by rfl) (hw : swappedStores [tg] e X.env = pure none := by rfl)
    (h1 : (assignEach [tg] X.env).map (·.2) = [assign tg X.env] := by rfl) : JS X W (.Assign [tg] e pos) (dAsgX tx g) := by
  obtain ⟨t0, p, ge⟩ := he
  obtain ⟨g0, p', gg'⟩ := hg
  refine ⟨_, ps_asg p p' hs hw h1, fun M0 H0 D0 D1 l ds σ H M gg s m q => ?_⟩
  refine ge M0 H0 D1.xc l.x ds σ H M _ _ gg s m q fun v H1 d M1 r1 m1 g1 q1 => ?_
  exact gg' d v ds σ H1 M1 _ _ r1 (s.gg m g1) m1 q1 fun ds' σ' H' M' s' m' g2 q2 => l.nx σ' ds' H' M' ((gg.trans g1).trans g2) s' m' q2
/-- raise C(e), C an own class without __init__ -/
def dRaise0 (C : Addr) (t : TDE) : TDS := fun D ds M => t ds M fun _ M1 => D.xc C [] ds M1
theorem js_raise0 {x : Str} {C : Addr} {bm : List Value} {B n1 n2 : String} {p p2 : Pos} (hc : X.calm = true) (tk : Takes X W) (F : ExcBaseFacts B n1 n2 bm) (q : PySem.W.excIn X.K C bm n1 = true) (gC : X.mg x = some (.ref C)) (kC : PySem.W.keepIn X.K (.ref C) = true) (r : Raises X (.ref C)) (hg : Gl X x)
    (he : JE X e te) (hs : starEach [e] X.env = (false, eval e X.env) :: starEach [] X.env := by rfl) (hdb : (x == ("__debug__" : Str)) = false := by decide) : JS X W (.Raise (some (.Call (.Name x p) [e] [] pos)) none p2) (dRaise0 C te) := by
  obtain ⟨u, pe, g⟩ := he
  refine ⟨_, ps_raise hc tk (SkE.pmk_own1 F q gC kC r hg pe hs hdb), fun M0 H0 D0 D1 l ds σ H M gg s m q => ?_⟩
  exact g ds σ H M _ _ s m q fun v H1 d M1 r1 m1 g1 q1 => l.xc C none σ ds [] H1 M1 (fun _ e => nomatch e) (gg.trans g1) (s.gg m g1) rfl m1 q1
end
/-- C's own __init__: one field, a whole number -/
def spInit (C : Addr) (f : Str) : Sp := fun vs H Q _ => ∃ (a : Addr) (n : Int), vs = [.ref a, .int n] ∧ n.natAbs.log2 < 1920 ∧ H a = some (exo a C none) ∧
  ∀ d, H d = none → d ≠ a → Q .non (upd (upd H d (exd d [(f, .int n)])) a (exo a C (some d)))
/-- raise C(e), C an own class with such an __init__ -/
def dRaise1 (C : Addr) (f : Str) (t : TDE) : TDS := fun D ds M => t ds M fun x M1 => match x with | .int n => n.natAbs.log2 < 1920 ∧ D.xc C [(f, .int n)] ds M1 | _ => False
section
variable {X : Cx} {W : WX} {e : Expr} {te : TDE}
theorem js_raise1 {x f : Str} {C fI : Addr} {fd : FuncData} {ps : List Str} {k : Nat} {p p2 pos : Pos} (hc : X.calm = true) (tk : Takes X W) (T : OexC X.K C) (iC : PySem.W.findIn X.K (.ref C) "__init__" = some (some (.ref fI))) (tI : PySem.W.typeIn X.K (.ref fI) = some (.type "function"))
    (F1 : FnOk X.prog X.w X.K X.mg X.base CX0 k fI fd ps (spInit C f)) (hr : Room (k + 1) X.A) (hb : Binds X.K fd ps []) (hg : Gl X x) (hm : X.mg x = some (.ref C)) (he : JE X e te)
    (hdb : (x == ("__debug__" : Str)) = false := by decide) (hs : starEach [e] X.env = (false, eval e X.env) :: starEach [] X.env := by rfl) : JS X W (.Raise (some (.Call (.Name x p) [e] [] pos)) none p2) (dRaise1 C f te) := by
  obtain ⟨u, pe, g⟩ := he
  refine ⟨_, ps_raise hc tk (pmk_oex T iC tI F1 hr hb .nil pass0 hg hm (pa_cons pe pa_nil hs) hdb hs (by rfl)), fun M0 H0 D0 D1 l ds σ H M gg s m q => ?_⟩
  refine g ds σ H M _ _ s m q fun v H1 d M1 r1 m1 g1 q1 => ?_
  cases d with
  | int n =>
    cases r1.int_v
    obtain ⟨hn, q1⟩ := q1
    refine ⟨by simp, fun a ha => ?_⟩
    refine ⟨a, n, rfl, hn, upd_same, fun d hd hda => ⟨rfl, d, [(f, .int n)], upd_same, ?_, ?_, ?_⟩⟩
    · rw [upd_ne hda, upd_same]
    · rw [upd_ne hda] at hd; exact hd
    · have hd1 : H1.h d = none := by rw [upd_ne hda] at hd; exact hd
      have eH : upd (del (upd (upd (upd H1.h a (exo a C none)) d (exd d [(f, .int n)])) a (exo a C (some d))) a) d (.xd [(f, V.int n)]) = (H1.up d (.xd [(f, .int n)])).h := by
        funext b
        show upd _ d _ b = upd H1.h d _ b
        by_cases hbd : b = d
        · subst hbd; rw [upd_same, upd_same]
        · rw [upd_ne hbd, upd_ne hbd]
          by_cases hba : b = a
          · subst hba; rw [del_same, ha]
          · rw [del_ne hba, upd_ne hba, upd_ne hbd, upd_ne hba]
      rw [eH]
      refine l.xc C (some d) σ ds [(f, .int n)] (H1.up d (.xd [(f, .int n)])) M1 (fun dd e => by cases e; exact (gg.trans g1).free hd1) ((gg.trans g1).trans (GG.newT hd1)) ((s.gg m g1).gg m1 (GG.newT hd1)) ⟨m1.free hd1, m1.freeF hd1, _, upd_same, .cons (.int n) .nil⟩ (m1.newT hd1) q1
  | _ => exact q1.elim
end
end DM

namespace DM
open PySem L2
open PyProof.Rows (b2i)

/-! ### try -/
/-- the suite's ends: slot i is the caught one's -/
def asEnds (i : Nat) (D : DEnds) : DEnds := { nx := fun ds M => D.nx (ds.set i none) M, rt := D.rt, bk := fun ds M => D.bk (ds.set i none) M, ct := fun ds M => D.ct (ds.set i none) M }
/-- what the clause wishes of an exception: the caught one at a, of class C, its fields at dd -/
def dAs (K : PySem.W.Frag) (c : Value) (i : Nat) (ts : Addr → Addr → Option Addr → TDS) (D : DEnds) : DX := fun C fs ds M => ∃ b, PySem.W.exmOne K (.ref C) c = some b ∧
  (b = true → ∀ a, M a = none → (fs = [] → ts a C none (asEnds i D) (ds.set i (some (.ref a))) M) ∧ ∀ dd, M dd = none → a ≠ dd → ts a C (some dd) (asEnds i D) (ds.set i (some (.ref a))) (mup M dd (.xd fs))) ∧
  (b = false → D.xc C fs ds M)
def dTryAs (K : PySem.W.Frag) (c : Value) (i : Nat) (tb : TDS) (ts : Addr → Addr → Option Addr → TDS) : TDS := fun D ds M => tb { D with xc := dAs K c i ts D } ds M
def dOnly (K : PySem.W.Frag) (c : Value) (ts : TDS) (D : DEnds) : DX := fun C fs ds M => ∃ b, PySem.W.exmOne K (.ref C) c = some b ∧ (b = true → ts { D with xc := fun _ _ _ _ => False } ds M) ∧ (b = false → D.xc C fs ds M)
def dTryOnly (K : PySem.W.Frag) (c : Value) (tb : TDS) (ts : TDS) : TDS := fun D ds M => tb { D with xc := dOnly K c ts D } ds M
/-- what is raised in a body, seen through the clause: the answers below -/
structure JTB (X : Cx) (W : WX) (body : List Stmt) (tb : TDS) : Prop where
  go : ∃ t : WX → TS, (∀ (W : WX) (pn : List (Addr × Obj)) (xe : Value → Shared → Prop), Takes (X.tr pn xe) W → PassesOwn (model X.prog X.w) X.A X.env xe → PSs (X.tr pn xe) body (t W)) ∧
    ∀ (W : WX) (M0 : Mm) (H0 : HF) (D0 : Ends) (D1 : DEnds), Link X.K W M0 H0 D0 D1 → ∀ (ds : DSt) (σ : St) (H : HF) (M : Mm), GG M0 H0 M H → SR X.K H ds σ → MR X.K M H → tb D1 ds M → t W D0 σ H.h
theorem jtb_of {X : Cx} {W0 : WX} {body : List Stmt} {tb : TDS} (h : ∀ (W : WX) (pn : List (Addr × Obj)) (xe : Value → Shared → Prop), Takes (X.tr pn xe) W → PassesOwn (model X.prog X.w) X.A X.env xe → JB (X.tr pn xe) W body tb) : JTB X W0 body tb := by
  refine ⟨fun W D σ H => ∀ pn xe (tk : Takes (X.tr pn xe) W) (po : PassesOwn (model X.prog X.w) X.A X.env xe), (h W pn xe tk po).go.choose D σ H, fun W pn xe tk po => ?_, fun W M0 H0 D0 D1 l ds σ H M gg s m q pn xe tk po => ?_⟩
  · have key := (h W pn xe tk po).go.choose_spec.1
    exact ⟨fun pins s σ H D I hh => key.run pins s σ H D I (hh pn xe tk po)⟩
  · exact (h W pn xe tk po).go.choose_spec.2 M0 H0 D0 D1 l ds σ H M gg s m q
/-- the suite, whatever the caught one is -/
structure JSu (X : Cx) (suite : List Stmt) (ts : Addr → Addr → Option Addr → TDS) : Prop where
  go : ∃ t : Addr → Value → Option Addr → TS, (∀ (a : Addr) (oe : Obj) (cls : Value) (d : Option Addr) (pn : List (Addr × Obj)), Zc cls d oe → (∃ vs, oe.data = .fields vs) → PSs (X.suite a ((a, oe) :: pn)) suite (t a cls d)) ∧
    ∀ (a C : Addr) (d : Option Addr) (M0 : Mm) (H0 : HF) (D0 : Ends) (D1 : DEnds), Link X.K (fun _ _ _ _ => False) M0 H0 D0 D1 → ∀ (ds : DSt) (σ : St) (H : HF) (M : Mm), GG M0 H0 M H → SR X.K H ds σ → MR X.K M H → ts a C d D1 ds M → t a (.ref C) d D0 σ H.h
theorem jsu_of {X : Cx} {suite : List Stmt} {ts : Addr → Addr → Option Addr → TDS}
    (h : ∀ (a : Addr) (oe : Obj) (C : Addr) (d : Option Addr) (pn : List (Addr × Obj)), Zc (.ref C) d oe → (∃ vs, oe.data = .fields vs) → JB (X.suite a ((a, oe) :: pn)) (fun _ _ _ _ => False) suite (ts a C d)) : JSu X suite ts := by
  refine ⟨fun a cls d D σ H => ∃ C, cls = .ref C ∧ ∀ oe pn (hz : Zc (.ref C) d oe) (hf : ∃ vs, oe.data = .fields vs), (h a oe C d pn hz hf).go.choose D σ H, fun a oe cls d pn hz hf => ?_, fun a C d M0 H0 D0 D1 l ds σ H M gg s m q => ⟨C, rfl, fun oe pn hz hf => ?_⟩⟩
  · refine ⟨fun pins s σ H D I hh => ?_⟩
    obtain ⟨C, rfl, hh⟩ := hh
    exact (h a oe C d pn hz hf).go.choose_spec.1.run pins s σ H D I (hh oe pn hz hf)
  · exact (h a oe C d pn hz hf).go.choose_spec.2 M0 H0 D0 D1 l ds σ H M gg s m q
section
variable {X : Cx} {W : WX} {x n : Str} {c : Value} {i : Nat} {body suite : List Stmt} {b₀ : Stmt} {np pos pos' : Pos} {tb : TDS} {ts : Addr → Addr → Option Addr → TDS}
theorem js_tryAs (hN : X.N.Nodup) (hc : Names X x c) (tk : Takes X W) (hb : JTB X W body tb) (hsu : JSu X (b₀ :: suite) ts) (hs : X.stack = X.env :: X.outer := by rfl) (hf : X.env.frame = some X.env.locals := by rfl) (hi : X.N[i]? = some n := by rfl) (hln : X.env.kindOf n = some .local := by rfl) :
    JS X W (.Try body [.ExceptHandler (some (.Name x np)) (some n) (b₀ :: suite) pos'] [] [] pos) (dTryAs X.K c i tb ts) := by
  obtain ⟨t, pb, gb⟩ := hb
  obtain ⟨u, pu, gu⟩ := hsu
  refine ⟨_, ps_try_as hs hf hN hi hln hc tk pb pu, fun M0 H0 D0 D1 l ds σ H M gg s m q => ?_⟩
  refine gb _ M0 H0 D0 { D1 with xc := dAs X.K c i ts D1 } ⟨l.nx, l.rt, l.bk, l.ct, ?_⟩ ds σ H M gg s m q
  intro C od σ4 ds4 fs H4 M4 f4 g4 s4 x4 m4 q4
  obtain ⟨b, hb1, hyes, hno⟩ := q4
  refine ⟨b, hb1, fun e a ha => ?_, fun e => l.xc C od σ4 ds4 fs H4 M4 f4 g4 s4 x4 m4 (hno e)⟩
  have na := m4.free ha
  have L : ∀ H0' M0', GG M0 H0 M0' H0' → Link X.K (fun _ _ _ _ => False) M0' H0' { nx := fun σ' H' => D0.nx (σ'.set i none) H', rt := D0.rt, bk := fun σ' H' => D0.bk (σ'.set i none) H', ct := fun σ' H' => D0.ct (σ'.set i none) H' } (asEnds i D1) := fun H0' M0' g0 =>
    ⟨fun σ5 ds5 H5 M5 g5 s5 m5 q5 => l.nx _ _ H5 M5 (g0.trans g5) (s5.forget i) m5 q5, fun v d H5 M5 g5 r5 m5 q5 => l.rt v d H5 M5 (g0.trans g5) r5 m5 q5, fun σ5 ds5 H5 M5 g5 s5 m5 q5 => l.bk _ _ H5 M5 (g0.trans g5) (s5.forget i) m5 q5,
      fun σ5 ds5 H5 M5 g5 s5 m5 q5 => l.ct _ _ H5 M5 (g0.trans g5) (s5.forget i) m5 q5, fun _ _ _ _ _ _ _ _ _ _ _ _ z => z.elim⟩
  cases od with
  | none => exact gu a C none M4 H4 _ _ (L H4 M4 g4) (ds4.set i (some (.ref a))) _ H4 M4 GG.refl (s4.set (.ref a) i) m4 ((hyes e a na).1 x4)
  | some dd =>
    obtain ⟨xn, xf, vs, xh, xr⟩ := x4
    have hne : a ≠ dd := by rintro rfl; rw [ha] at xh; cases xh
    have m5 : MR X.K (mup M4 dd (.xd fs)) H4 := m4.known (w := .xd fs) ⟨vs, xh, xr⟩ xf
    exact gu a C (some dd) (mup M4 dd (.xd fs)) H4 _ _ (L H4 _ (g4.known (f4 dd rfl))) (ds4.set i (some (.ref a))) _ H4 _ GG.refl (s4.set (.ref a) i) m5 ((hyes e a na).2 dd xn hne)
theorem js_tryOnly {ts : TDS} (hc : Names X x c) (tk : Takes X W) (hb : JTB X W body tb) (hsu : JSu X (b₀ :: suite) fun _ _ _ => ts) (hs : X.stack = X.env :: X.outer := by rfl) (hf : X.env.frame = some X.env.locals := by rfl) :
    JS X W (.Try body [.ExceptHandler (some (.Name x np)) none (b₀ :: suite) pos'] [] [] pos) (dTryOnly X.K c tb ts) := by
  obtain ⟨t, pb, gb⟩ := hb
  obtain ⟨u, pu, gu⟩ := hsu
  refine ⟨_, ps_try_only hs hf hc tk pb pu, fun M0 H0 D0 D1 l ds σ H M gg s m q => ?_⟩
  refine gb _ M0 H0 D0 { D1 with xc := dOnly X.K c ts D1 } ⟨l.nx, l.rt, l.bk, l.ct, ?_⟩ ds σ H M gg s m q
  intro C od σ4 ds4 fs H4 M4 f4 g4 s4 x4 m4 q4
  obtain ⟨b, hb1, hyes, hno⟩ := q4
  refine ⟨b, hb1, fun e a ha => ?_, fun e => l.xc C od σ4 ds4 fs H4 M4 f4 g4 s4 x4 m4 (hno e)⟩
  refine gu a C od M4 H4 D0 { D1 with xc := fun _ _ _ _ => False } ⟨fun σ5 ds5 H5 M5 g5 s5 m5 q5 => l.nx _ _ H5 M5 (g4.trans g5) s5 m5 q5, fun v d H5 M5 g5 r5 m5 q5 => l.rt v d H5 M5 (g4.trans g5) r5 m5 q5, fun σ5 ds5 H5 M5 g5 s5 m5 q5 => l.bk _ _ H5 M5 (g4.trans g5) s5 m5 q5,
      fun σ5 ds5 H5 M5 g5 s5 m5 q5 => l.ct _ _ H5 M5 (g4.trans g5) s5 m5 q5, fun _ _ _ _ _ _ _ _ _ _ _ _ z => z.elim⟩ ds4 σ4 H4 M4 GG.refl s4 m4 (hyes e)
end

/-! ### the caught one: its class, its field -/
def clsD : D → Option Value
  | .ref C => some (.ref C)
  | .ty n => some (.type n)
  | _ => none
def clsDs : List D → Option (List Value)
  | [] => some []
  | d :: r => (clsD d).bind fun v => (clsDs r).map (v :: ·)
/-- isinstance(e, c), e caught -/
def isX (K : PySem.W.Frag) (C a : Addr) (d : Option Addr) : DRC := fun xs M Q => match xs with
  | [.ref b, y] => b = a ∧ L2.ExcC K C ∧ (match d with | none => True | some dd => ∃ fs, M dd = some (.xd fs)) ∧ (match y with
    | .tup ys => (match clsDs ys with | some ws => (match PySem.W.kitAny K (.ref C) ws with | some k => Q (.bl k) M | none => False) | none => False)
    | y => (match clsD y with | some w => (match PySem.W.kitOne K (.ref C) w with | some k => Q (.bl k) M | none => False) | none => False))
  | _ => False
theorem clsD_v {K : PySem.W.Frag} {H : HF} {d : D} {v : V} {w : Value} (r : VR K H d v) (h : clsD d = some w) : ClsV v w := by
  cases r with
  | ref C => cases h; exact .own C
  | ty n => cases h; exact .ty n
  | _ => cases h
theorem clsDs_v {K : PySem.W.Frag} {H : HF} : ∀ {ds : List D} {vs : List V} {ws : List Value}, VRs K H ds vs → clsDs ds = some ws → Paired ClsV vs ws
  | [], _, _, r, h => by cases r; cases h; exact .nil
  | d :: ds, _, _, r, h => by
    cases r with
    | cons r1 r2 =>
      unfold clsDs at h
      obtain ⟨w, h1, h2⟩ := Option.bind_eq_some_iff.mp h
      obtain ⟨ws, h3, rfl⟩ := Option.map_eq_some_iff.mp h2
      exact .cons (clsD_v r1 h1) (clsDs_v r2 h3)
theorem lift_isX {K : PySem.W.Frag} {C a : Addr} {d : Option Addr} : LiftC K (rIsX K C a d) (isX K C a d) := by
  intro vs ds H M Q Q0 r m h k
  unfold isX at h
  split at h
  · rename_i b y
    obtain ⟨rfl, T, hd, h⟩ := h
    obtain ⟨v, w, rfl, r1, r2⟩ := r.two
    cases r1.ref_v
    have hD : DictAt d H.h := by
      cases d with
      | none => trivial
      | some dd =>
        obtain ⟨fs, e⟩ := hd
        obtain ⟨us, h1, _⟩ := m.ob dd _ e
        exact ⟨us, h1⟩
    split at h
    · rename_i ys
      obtain ⟨t, us, rfl, st, rt⟩ := r2.tup_v
      split at h
      · rename_i ws e1
        split at h
        · rename_i kk e2
          exact ⟨.ref t, kk, rfl, T, hD, .tup st (clsDs_v rt e1) e2, k _ H _ M (.bl _) m GG.refl h⟩
        · exact h.elim
      · exact h.elim
    · split at h
      · rename_i ww e1
        split at h
        · rename_i kk e2
          exact ⟨w, kk, rfl, T, hD, .one (clsD_v r2 e1) e2, k _ H _ M (.bl _) m GG.refl h⟩
        · exact h.elim
      · exact h.elim
  · exact h.elim
end DM

namespace DM
open PySem L2
open PyProof.Rows (b2i)

section
variable {X : Cx} {a C : Addr} {oe : Obj} {d : Option Addr} {pn : List (Addr × Obj)} {e : Expr} {es : List Expr} {te : TDE} {ta : TDA} {pos p : Pos}
theorem je_isX (hz : Zc (.ref C) d oe) (hf : ∃ vs, oe.data = .fields vs) (hm : X.mg "isinstance" = none) (ha : JA (X.suite a ((a, oe) :: pn)) (e :: es) ta) (hg : Gl (X.suite a ((a, oe) :: pn)) "isinstance" := by rfl)
    (he : starEach (e :: es) X.env = (false, eval e X.env) :: starEach es X.env := by rfl) (hpl : (backTo pos (starEach es X.env)).any (·.1) = false := by rfl) :
    JE (X.suite a ((a, oe) :: pn)) (.Call (.Name "isinstance" p) (e :: es) [] pos) (dCB (isX X.K C a d) ta) := je_callB (call_isX hz hf) lift_isX hg hm PyProof.Rows.boot_isinstance ha (by decide) (by decide) he hpl
theorem je_gcls {X : Cx} {x : Str} {C : Addr} {pos : Pos} (hg : Gl X x) (hm : X.mg x = some (.ref C)) (hd : (x == ("__debug__" : Str)) = false := by decide) : JE X (.Name x pos) (dC (.ref C)) := je_c (pe_glob (v := .ref C) hg hm rfl hd) fun _ => .ref C
/-- e.f, e the caught one -/
def dXf (a C : Addr) (d : Option Addr) (C0 : Addr) (f : Str) (te : TDE) : TDE := fun ds M Q => te ds M fun x M1 => x = .ref a ∧ C = C0 ∧ ∃ dd fs v, d = some dd ∧ M1 dd = some (.xd fs) ∧ fs.lookup f = some v ∧ Q v M1
theorem FR.lookup {K : PySem.W.Frag} {H : HF} {f : Str} : ∀ {fs : List (Str × D)} {us : List (Str × V)} {v : D}, FR K H fs us → fs.lookup f = some v → ∃ u, us.lookup f = some u ∧ VR K H v u
  | _, _, _, .nil, h => by cases h
  | (g, x) :: fs, (_, y) :: us, v, .cons r1 r2, h => by
    simp only [List.lookup_cons] at h ⊢
    split at h
    · rename_i e
      cases h
      exact ⟨y, by simp_all, r1⟩
    · rename_i e
      obtain ⟨u, h1, h2⟩ := FR.lookup r2 h
      exact ⟨u, by simp_all, h2⟩
theorem je_xf {f : Str} {C0 : Addr} (T : L2.XfC X.K C0) (hno : PySem.W.findIn X.K (.ref C0) f = some none) (hz : Zc (.ref C) d oe) (hf : ∃ vs, oe.data = .fields vs) (he : JE (X.suite a ((a, oe) :: pn)) e te) (hb : attributeBase e f X.env (eval e X.env) = eval e X.env := by rfl) :
    JE (X.suite a ((a, oe) :: pn)) (.Attribute e f pos) (dXf a C d C0 f te) := by
  obtain ⟨u, q, g⟩ := he
  refine je_pe (pe_xf T hno hz hf q hb) fun ds σ H M Q Q0 s m q k => ?_
  refine g ds σ H M _ _ s m q fun v H1 d1 M1 r1 m1 g1 q1 => ?_
  obtain ⟨rfl, rfl, dd, fs, w, e1, e2, e3, q2⟩ := q1
  cases r1.ref_v
  obtain ⟨us, h1, h2⟩ := m1.ob dd _ e2
  obtain ⟨y, h3, h4⟩ := h2.lookup e3
  exact ⟨rfl, rfl, dd, us, y, e1, h1, h3, k y H1 w M1 h4 m1 g1 q2⟩
end
/-! ### a def that may raise -/
def ShrX (xc : Addr → List (Str × D) → Mm → Prop) : DX := fun C fs _ M' => ∃ M2, Sub M2 M' ∧ xc C fs M2
section
variable {P : Program} {w : World} {K : PySem.W.Frag} {mg : Str → Option Value} {base : Heap}
theorem fn_okX {x qual : Str} {st : Stmt} {f : Addr} {fd : FuncData} {N ps : List Str} {k : Nat} {sp : DSpX} (F : Fun K x qual st f fd) (S : FnScope N ps (defScope st)) (len : ∀ ds M R xc, sp ds M R xc → ds.length = ps.length)
    (body : ∀ (cdv : Value) (A : Around) (outer : List Env) (s : Shared) (H : Hp) (E : XK), Room k (A.deeper (PyProof.Rows.envOfC qual (defScope st) s.heap.objs.size f cdv)) →
      ∃ t, JB (cxOf (L2.CX P w) P w K mg base N qual (defScope st) f cdv A outer s H E) (fun cls d _ H => E cls d H) (defBody st) t ∧ ∀ (ds : List D) (M : Mm) (R : DQ) (xc : Addr → List (Str × D) → Mm → Prop), sp ds M R xc → t { nx := fun _ M' => Shr R .non M', rt := Shr R, xc := ShrX xc } (dstart N ds) M) :
    FnOk P w K mg base (L2.CX P w) (k + 1) f fd ps (toSpX K sp) := by
  refine F.okX S (fun vs H Q E h => ?_) fun cdv A outer s H vs Q E hr h => ?_
  · obtain ⟨ds, M, R, xc, H, _, r, _, h, _⟩ := h
    rw [← r.length]
    exact len ds M R xc h
  · obtain ⟨ds, M, R, xc, H, rfl, r, m, h, k, kx⟩ := h
    obtain ⟨t, ⟨t0, p, g⟩, hb⟩ := body cdv A outer s H.h E hr
    refine ⟨t0, p, ?_⟩
    refine g M H _ _ ⟨?_, ?_, ?_, ?_, ?_⟩ (dstart N ds) (L2.start N vs) H M GG.refl (SR.start r) m (hb ds M R xc h)
    · rintro σ ds' H' M' gg s' m' ⟨M2, d2, sb, fz, q⟩
      exact k _ (frzF M' M2 H') d2 M2 (fz.vr m' .non) (m'.frz sb) (gg.frz sb) q
    · rintro v d H' M' gg r' m' ⟨M2, d2, sb, fz, q⟩
      exact k v (frzF M' M2 H') d2 M2 (fz.vr m' r') (m'.frz sb) (gg.frz sb) q
    · intro _ _ _ _ _ _ _ q
      exact q.elim
    · intro _ _ _ _ _ _ _ q
      exact q.elim
    · rintro C od σ ds' fs H' M' xf gg s' xr m' ⟨M2, sb, q⟩
      refine kx C od fs (frzF M' M2 H') M2 xf (gg.frz sb) ?_ (m'.frz sb) q
      cases od with
      | none => exact xr
      | some dd =>
        obtain ⟨n1, n2, vs', h1, h2⟩ := xr
        refine ⟨sb.none n1, ?_, vs', h1, h2.mono TX.frz⟩
        rintro (f | ⟨⟨o, e⟩, _⟩)
        · exact n2 f
        · rw [n1] at e; cases e
/-! ### own classes -/
structure ClF (K : PySem.W.Frag) (C : Addr) : Prop where
  self : PySem.W.subIn K (.ref C) (.ref C) = some true
  kC : PySem.W.keepIn K (.ref C) = true
  eC : PySem.W.subIn K (.ref C) (.type "BaseException") = some true
  tC : PySem.W.typeIn K (.ref C) = some (.type "type")
  iC : PySem.W.isClsIn K C = true
  ga : PySem.W.findIn K (.ref C) "__getattribute__" = some (some (.builtin "BaseException.__getattribute__"))
  gg : PySem.W.findIn K (.ref C) "__getattr__" = some none
  ha : PySem.W.findIn K (.ref C) "__class__" = some (some (.builtin "object.__class__"))
  hd : PySem.W.hasDictIn K C = true
  hm : PySem.W.mroIn K C (.type "object") = some true
  ve : PySem.W.subIn K (.ref C) (.type "ValueError") = some true
  hn : PySem.W.specialIn K (.builtin "object.__class__") "__get__" = some (some (.builtin "getset_descriptor.__get__"))
  ht : PySem.W.takesIn K (.builtin "object.__class__") = some true
theorem ClF.exc {C : Addr} (T : ClF K C) : ExcC K C := ⟨T.ga, T.gg, T.eC, T.hd, T.ha, T.hn, T.ht, T.hm⟩
theorem ClF.xf {C : Addr} (T : ClF K C) : XfC K C := ⟨T.ga, T.gg, T.eC, T.hd⟩
theorem ClF.raises {X : Cx} {C : Addr} (T : ClF X.K C) : Raises X (.ref C) := raises_own T.eC T.tC
theorem kit_own {C D : Addr} {b : Bool} (TC : ClF K C) (T : ClF K D) (h : PySem.W.subIn K (.ref C) (.ref D) = some b) : PySem.W.kitOne K (.ref C) (.ref D) = some b := by
  have e2 : ((PySem.W.clsIn K D).isSome && PySem.W.typeIn K (.ref D) == some (.type "type")) = true := by
    have h2' : (PySem.W.clsIn K D).isSome = true := T.iC
    rw [h2', T.tC] <;> rfl
  have e : PySem.W.kitCls K (.ref C) (.ref D) = some b := by
    show (if ((PySem.W.clsIn K D).isSome && PySem.W.typeIn K (.ref D) == some (.type "type")) = true then PySem.W.subIn K (.ref C) (.ref D) else none) = some b
    rw [if_pos e2]
    exact h
  unfold PySem.W.kitOne
  split
  · rename_i q
    have q := Value.ref.inj (beq_iff_eq.mp q)
    subst q
    rw [TC.self] at h
    rw [h]
  · exact e
theorem kit_ve {C : Addr} (T : ClF K C) : PySem.W.kitOne K (.ref C) (.type "ValueError") = some true := by
  have e : PySem.W.kitCls K (.ref C) (.type "ValueError") = some true := by
    show (if PySem.W.kitMeta "ValueError" = true then PySem.W.subIn K (.ref C) (.type "ValueError") else none) = some true
    rw [if_pos (by decide +kernel)]
    exact T.ve
  unfold PySem.W.kitOne
  split
  · rfl
  · exact e
theorem exm_own {C D : Addr} {b : Bool} (T : ClF K D) (h : PySem.W.subIn K (.ref C) (.ref D) = some b) : PySem.W.exmOne K (.ref C) (.ref D) = some b := by
  have e1 : (PySem.W.subIn K (.ref D) (.type "BaseException") == some true) = true := by rw [T.eC] <;> rfl
  have e2 : ((PySem.W.clsIn K D).isSome && PySem.W.typeIn K (.ref D) == some (.type "type")) = true := by
    have h2' : (PySem.W.clsIn K D).isSome = true := T.iC
    rw [h2', T.tC] <;> rfl
  show (if (PySem.W.subIn K (.ref D) (.type "BaseException") == some true) = true then (if ((PySem.W.clsIn K D).isSome && PySem.W.typeIn K (.ref D) == some (.type "type")) = true then PySem.W.subIn K (.ref C) (.ref D) else none) else none) = some b
  rw [if_pos e1, if_pos e2]
  exact h
/-- C.__init__, over its base B -/
theorem init_go {C a : Addr} {n : Int} {f : Str} {H : Hp} {Q : VK} {m : List V → Hp → (List V → Hp → Prop) → Prop} (T : OexC K C) (hno : PySem.W.findIn K (.ref C) f = some none) (e : H a = some (exo a C none))
    (q : ∀ d, H d = none → d ≠ a → Q .non (upd (upd H d (exd d [(f, .int n)])) a (exo a C (some d)))) :
    tOst K f (tVar 0) (tVar 1) { nx := fun _ H' => Q .non H', rt := Q } [some (.ref a), some (.int n)] H := by
  exact ⟨.int n, rfl, .ref a, rfl, a, C, rfl, T, hno, .inl ⟨e, fun dx h1 h2 => q dx h1 h2⟩⟩
def tStrI (z : Str) : TE := tOp (fun x y H Q => ∃ i j : Str, x = .str i ∧ y = .str j ∧ i.length + j.length ≤ sizeLine ∧ Q (.str (i ++ j)) H) (tC (.str z)) (tCB (fun xs H Q => ∃ i, xs = [.int i] ∧ i.natAbs.log2 < 1920 ∧ Q (.str (toString i)) H) (tCons (tVar 1) tNil))
theorem ok_init {C f : Addr} {fd : FuncData} {n qual : Str} {st : Stmt} {te : TE} (F : Fun K "__init__" qual st f fd) (S : FnScope ["self", n] ["self", n] (defScope st)) (T : OexC K C) (hno : PySem.W.findIn K (.ref C) n = some none)
    (ht : ∀ (a : Addr) (i : Int) (H : Hp) (Q : VK), i.natAbs.log2 < 1920 → (∀ z, Q (.str z) H) → te [some (.ref a), some (.int i)] H Q)
    (body : ∀ (cdv : Value) (A : Around) (outer : List Env) (s : Shared) (H : Hp) (E : XK), PSs (cxOf CX0 P w K mg base ["self", n] qual (defScope st) f cdv A outer s H E).nox (defBody st) (tSeq (tDrop (tVeI K (tCons (tVar 0) (tCons te tNil)))) (tOst K n (tVar 0) (tVar 1)))) :
    FnOk P w K mg base CX0 1 f fd ["self", n] (spInit C n) := by
  refine F.ok S (fun vs H Q E h => ?_) fun cdv A outer s H vs Q E hr h => ⟨_, body cdv A outer s H E, ?_⟩
  · obtain ⟨a, n, rfl, _⟩ := h
    rfl
  · obtain ⟨a, i, rfl, hn, e, k⟩ := h
    refine ⟨.ref a, rfl, ht a i H _ hn fun z => ⟨a, C, [.str z], rfl, (by simp), T, e, ?_⟩⟩
    exact ⟨.int i, rfl, .ref a, rfl, a, C, rfl, T, hno, .inl ⟨e, fun dx h1 h2 => k dx h1 h2⟩⟩
theorem tStrI_ok {z : Str} (hz : z.length ≤ 1000) (a : Addr) (i : Int) (H : Hp) (Q : VK) (h : i.natAbs.log2 < 1920) (q : ∀ z, Q (.str z) H) : tStrI z [some (.ref a), some (.int i)] H Q := by
  refine ⟨.int i, rfl, i, rfl, h, z, _, rfl, rfl, ?_, q _⟩
  have e := int_text_length_le (k := 1920) (by decide) h
  have e2 : (Str.ofString (toString i)).length = (toString i).length := ofString_length _
  show z.length + (Str.ofString (toString i)).length ≤ sizeLine
  rw [e2, sizeLine_eq]
  omega
end
end DM
namespace DM
open PySem
/-- a class's member -/
def memS (s : Stmt) (j : Nat) : Stmt := match s with
  | .ClassDef _ _ _ b _ _ _ _ _ _ _ => b.getD j (.Pass ⟨0, 0, 0, 0⟩)
  | _ => .Pass ⟨0, 0, 0, 0⟩
end DM
namespace DM
open PySem L2
open PyProof.Rows (b2i)
section
variable {K : PySem.W.Frag} {C a : Addr} {d : Option Addr} {M : Mm} {Q : DQ} {c : Value} {i : Nat} {D : DEnds} {ts : Addr → Addr → Option Addr → TDS} {fs : List (Str × DM.D)} {ds : DSt}
def DicX (d : Option Addr) (M : Mm) : Prop := match d with | none => True | some dd => ∃ fs, M dd = some (.xd fs)
theorem isX_ref {D : Addr} {k : Bool} (T : ExcC K C) (hd : DicX d M) (hk : PySem.W.kitOne K (.ref C) (.ref D) = some k) (h : Q (.bl k) M) : isX K C a d [.ref a, .ref D] M Q := ⟨rfl, T, hd, by simp only [clsD, hk]; exact h⟩
theorem isX_ty {n : String} {k : Bool} (T : ExcC K C) (hd : DicX d M) (hk : PySem.W.kitOne K (.ref C) (.type n) = some k) (h : Q (.bl k) M) : isX K C a d [.ref a, .ty n] M Q := ⟨rfl, T, hd, by simp only [clsD, hk]; exact h⟩
theorem isX_tup {ys : List DM.D} {ws : List Value} {k : Bool} (T : ExcC K C) (hd : DicX d M) (hw : clsDs ys = some ws) (hk : PySem.W.kitAny K (.ref C) ws = some k) (h : Q (.bl k) M) : isX K C a d [.ref a, .tup ys] M Q := ⟨rfl, T, hd, by simp only [hw, hk]; exact h⟩
theorem kitAny_no {D : Value} {ws : List Value} {k : Bool} (h : PySem.W.kitOne K (.ref C) D = some false) (h2 : PySem.W.kitAny K (.ref C) ws = some k) : PySem.W.kitAny K (.ref C) (D :: ws) = some k := by unfold PySem.W.kitAny; rw [h]; exact h2
theorem kitAny_yes {D : Value} {ws : List Value} (h : PySem.W.kitOne K (.ref C) D = some true) : PySem.W.kitAny K (.ref C) (D :: ws) = some true := by unfold PySem.W.kitAny; rw [h]
/-- caught -/
theorem dAs_go (h : PySem.W.exmOne K (.ref C) c = some true) (h0 : ∀ a, M a = none → fs = [] → ts a C none (asEnds i D) (ds.set i (some (.ref a))) M)
    (h1 : ∀ a dd, M a = none → M dd = none → a ≠ dd → ts a C (some dd) (asEnds i D) (ds.set i (some (.ref a))) (mup M dd (.xd fs))) : dAs K c i ts D C fs ds M :=
  ⟨true, h, fun _ a ha => ⟨h0 a ha, fun dd hd hne => h1 a dd ha hd hne⟩, (fun e => by cases e)⟩
theorem dAs_thru (h : PySem.W.exmOne K (.ref C) c = some false) (h0 : D.xc C fs ds M) : dAs K c i ts D C fs ds M := ⟨false, h, (fun e => by cases e), fun _ => h0⟩
theorem dOnly_go {ts : TDS} (h : PySem.W.exmOne K (.ref C) c = some true) (h0 : ts { D with xc := fun _ _ _ _ => False } ds M) : dOnly K c ts D C fs ds M := ⟨true, h, fun _ => h0, (fun e => by cases e)⟩
end
theorem ShrX.all {xc : Addr → List (Str × D) → Mm → Prop} {C : Addr} {fs : List (Str × D)} {ds : DSt} {M : Mm} (h : xc C fs M) : ShrX xc C fs ds M := ⟨M, Sub.refl, h⟩
theorem ShrX.of {xc : Addr → List (Str × D) → Mm → Prop} {C : Addr} {fs : List (Str × D)} {ds : DSt} {M M2 : Mm} (h : xc C fs M2) (s : Sub M2 M) : ShrX xc C fs ds M := ⟨M2, s, h⟩
end DM
namespace DM
open PySem L2
theorem cutL_map {α β : Type} (f : α → β) (xs : List α) (lo hi : Option Int) : cutL (xs.map f) lo hi = (cutL xs lo hi).map f := by
  unfold cutL
  rw [List.length_map, List.map_take, List.map_drop]
theorem cutL_le {α : Type} (xs : List α) (lo hi : Option Int) : (cutL xs lo hi).length ≤ xs.length := by
  unfold cutL
  rw [List.length_take, List.length_drop]
  omega
theorem cutL_mem {α : Type} {xs : List α} {lo hi : Option Int} {x : α} (h : x ∈ cutL xs lo hi) : x ∈ xs := by
  unfold cutL at h
  exact List.mem_of_mem_drop (List.mem_of_mem_take h)
end DM

/-! runs -/
namespace DM
open PySem L2
open PyProof.Rows (b2i)
/-- the stand behind a run, or the place of the first step that doesn't go -/
def goF (rs : List Rl) : St2 → List Int → Nat → St2 ⊕ Nat
  | s, [], _ => .inl s
  | s, n :: ns, at_ => match behF rs s n with | some t => goF rs t ns (at_ + 1) | none => .inr at_
theorem behF_len2 {rs : List Rl} {s t : St2} {n : Int} (hw : ∀ r ∈ rs, r.w.length ≤ 2) (h : behF rs s n = some t) : t.2.length ≤ 2 + s.2.length := by
  unfold behF at h
  split at h
  · split at h
    · rename_i r hr
      unfold stepF at h
      split at h
      · cases h
        have := hw r (List.mem_of_getElem? hr)
        simp; omega
      · cases h
    · cases h
  · cases h
theorem goF_lt {rs : List Rl} : ∀ {ns : List Int} {s : St2} {a k : Nat}, goF rs s ns a = .inr k → k < a + ns.length
  | [], s, a, k, h => by cases h
  | n :: ns, s, a, k, h => by
    unfold goF at h
    split at h
    · have := goF_lt h; simp; omega
    · cases h; simp
/-- the stand behind a run, or the place of the first step that doesn't go -/
def dueD : St2 ⊕ Nat → D
  | .inl t => stD t
  | .inr k => .int (k : Nat)
/-- [the stand behind a run], or the place of the first step that doesn't go -/
def toldD : St2 ⊕ Nat → D
  | .inl t => .lst [stD t]
  | .inr k => .int (k : Nat)
section
variable {M : Mm} {Q : DQ}
theorem ix_last {p : Addr} {xs : List D} {d : D} (e : lstOf M p = some xs) (h1 : xs[xs.length - 1]? = some d) (h : Q d M) : ixR (.ref p) (.int (-1)) M Q := by
  have := ix_Ll (M := M) (Q := Q) h1 h
  unfold ixR at this ⊢
  simp only [e]
  exact this
end
end DM

/-! the deck and what a def has made; loops by the slots that they change -/
namespace DM
open PySem L2
open PyProof.Rows (b2i)
/-- the store behind M0: a deck, the objects L that the def has made, the rest as it was -/
structure Bx (d c : Addr) (r : Nat) (M0 : Mm) (L : List (Addr × MO)) (M : Mm) : Prop where
  dk : Deck M d c r
  ex : Ext d c M0 M
  lo : ∀ q ∈ L, M q.1 = some q.2 ∧ M0 q.1 = none ∧ q.1 ≠ d ∧ q.1 ≠ c
  nd : (L.map (·.1)).Nodup
section
variable {d c p q : Addr} {r r' n : Nat} {M0 M M' : Mm} {L : List (Addr × MO)} {o o' : MO} {xs ys : List D}
theorem Bx.start (D : Deck M d c r) : Bx d c r M [] M := ⟨D, Ext.refl, by simp, by simp⟩
theorem Bx.mono (b : Bx d c r M0 L M) (e : r' ≤ r) : Bx d c r' M0 L M := ⟨b.dk.mono e, b.ex, b.lo, b.nd⟩
theorem Bx.new (b : Bx d c r M0 L M) (h : M p = none) : Bx d c r M0 ((p, o) :: L) (mup M p o) := by
  have hpd := b.dk.nd h
  have hpc := b.dk.nc h
  refine ⟨b.dk.up h, b.ex.new h, fun q hq => ?_, ?_⟩
  · rcases List.mem_cons.mp hq with rfl | hq
    · exact ⟨mup_same, b.ex.fresh b.dk h, hpd, hpc⟩
    · obtain ⟨h1, h2, h3, h4⟩ := b.lo q hq
      refine ⟨?_, h2, h3, h4⟩
      rw [mup_ne]
      · exact h1
      · intro e; rw [e, h] at h1; cases h1
  · rw [List.map_cons, List.nodup_cons]
    refine ⟨fun hm => ?_, b.nd⟩
    obtain ⟨q, hq, e⟩ := List.mem_map.mp hm
    have := (b.lo q hq).1
    rw [e] at this
    simp only at this
    rw [h] at this
    cases this
theorem Bx.fresh (b : Bx d c r M0 L M) (h : M p = none) : M0 p = none := b.ex.fresh b.dk h
theorem Bx.put1 (b : Bx d c r M0 ((p, o) :: L) M) : Bx d c r M0 ((p, o') :: L) (mup M p o') := by
  obtain ⟨h1, h2, h3, h4⟩ := b.lo (p, o) (by simp)
  simp only at h1 h2 h3 h4
  have nd := b.nd
  rw [List.map_cons, List.nodup_cons] at nd
  refine ⟨b.dk.keep h3 h4, b.ex.put h2, fun q hq => ?_, b.nd⟩
  rcases List.mem_cons.mp hq with rfl | hq
  · exact ⟨mup_same, h2, h3, h4⟩
  · obtain ⟨g1, g2, g3, g4⟩ := b.lo q (List.mem_cons_of_mem _ hq)
    refine ⟨?_, g2, g3, g4⟩
    rw [mup_ne]
    · exact g1
    · intro e; exact nd.1 (e ▸ List.mem_map.mpr ⟨q, hq, rfl⟩)
theorem Bx.put2 {y : Addr × MO} (b : Bx d c r M0 (y :: (p, o) :: L) M) : Bx d c r M0 (y :: (p, o') :: L) (mup M p o') := by
  obtain ⟨h1, h2, h3, h4⟩ := b.lo (p, o) (by simp)
  simp only at h1 h2 h3 h4
  have nd := b.nd
  simp only [List.map_cons, List.nodup_cons, List.mem_cons, not_or] at nd
  refine ⟨b.dk.keep h3 h4, b.ex.put h2, fun q hq => ?_, b.nd⟩
  rcases List.mem_cons.mp hq with rfl | hq
  · obtain ⟨g1, g2, g3, g4⟩ := b.lo q (by simp)
    exact ⟨by rw [mup_ne nd.1.1]; exact g1, g2, g3, g4⟩
  · rcases List.mem_cons.mp hq with rfl | hq
    · exact ⟨mup_same, h2, h3, h4⟩
    · obtain ⟨g1, g2, g3, g4⟩ := b.lo q (by simp [hq])
      refine ⟨?_, g2, g3, g4⟩
      rw [mup_ne]
      · exact g1
      · intro e; exact nd.2.1 (e ▸ List.mem_map.mpr ⟨q, hq, rfl⟩)
theorem Bx.at1 (b : Bx d c r M0 ((p, o) :: L) M) : M p = some o := (b.lo (p, o) (by simp)).1
theorem Bx.at2 {y : Addr × MO} (b : Bx d c r M0 (y :: (p, o) :: L) M) : M p = some o := (b.lo (p, o) (by simp)).1
theorem Bx.at3 {y z : Addr × MO} (b : Bx d c r M0 (y :: z :: (p, o) :: L) M) : M p = some o := (b.lo (p, o) (by simp)).1
theorem Bx.lst1 (b : Bx d c r M0 ((p, .lst xs) :: L) M) : lstOf M p = some xs := lstOf_some b.at1
theorem Bx.lst2 {y : Addr × MO} (b : Bx d c r M0 (y :: (p, .lst xs) :: L) M) : lstOf M p = some xs := lstOf_some b.at2
theorem Bx.lst3 {y z : Addr × MO} (b : Bx d c r M0 (y :: z :: (p, .lst xs) :: L) M) : lstOf M p = some xs := lstOf_some b.at3
theorem Bx.dic1 {kvs : List (Key × D)} (b : Bx d c r M0 ((p, .dic kvs) :: L) M) : dicOf M p = some kvs := dicOf_some b.at1
theorem Bx.dic2 {y : Addr × MO} {kvs : List (Key × D)} (b : Bx d c r M0 (y :: (p, .dic kvs) :: L) M) : dicOf M p = some kvs := dicOf_some b.at2
theorem Bx.call (b : Bx d c r M0 L M) (D : Deck M' d c r') (U : Upto d c M M') : Bx d c r' M0 L M' :=
  ⟨D, b.ex.trans U.ext, fun q hq => by
    obtain ⟨h1, h2, h3, h4⟩ := b.lo q hq
    exact ⟨by rw [U q.1 h3 h4]; exact h1, h2, h3, h4⟩, b.nd⟩
theorem Bx.drop1 {y : Addr × MO} (b : Bx d c r M0 (y :: L) M) : Bx d c r M0 L M := ⟨b.dk, b.ex, fun q hq => b.lo q (List.mem_cons_of_mem _ hq), (List.nodup_cons.mp b.nd).2⟩
theorem Bx.fin {R : DQ} {x : D} (b : Bx d c r M0 L M) (h : ∀ M2, Deck M2 d c r → Upto d c M0 M2 → R x M2) : Shr R x M := Shr.deck b.ex b.dk fun M2 U D => h M2 D U
theorem Bx.finL {R : DQ} {r0 : Nat} (b : Bx d c r M0 ((p, .lst xs) :: L) M) (D0 : Deck M0 d c r0) (h : ∀ M2, Deck M2 d c r → Upto d c M0 M2 → R (.lst xs) M2) : Shr R (.ref p) M :=
  Shr.deckL D0 (b.lo (p, .lst xs) (by simp)).2.1 b.lst1 b.ex b.dk fun M2 U D => h M2 D U
/-- draws: some answer of a kind, so many draws less -/
def Draws (d : Addr) (cost : Nat) (P : D → Prop) (M : Mm) (R : DQ) : Prop := ∃ c r, Deck M d c (r + cost) ∧ ∀ x M', P x → Deck M' d c r → Upto d c M M' → R x M'
theorem Bx.draws {cost : Nat} {P : D → Prop} {R : DQ} (b : Bx d c n M0 L M) (h : cost ≤ n) (k : ∀ x M', P x → Bx d c (n - cost) M0 L M' → R x M') : Draws d cost P M R :=
  ⟨c, n - cost, b.dk.mono (by omega), fun x M' hx D U => k x M' hx (b.call D U)⟩
end
/-! loops, the slots they change named -/
def puts : DSt → List Nat → List (Option D) → DSt
  | ds, i :: is, v :: vs => puts (ds.set i v) is vs
  | ds, [], _ => ds
  | ds, _ :: _, [] => ds
theorem puts_len : ∀ (is : List Nat) (vs : List (Option D)) (ds : DSt), (puts ds is vs).length = ds.length
  | [], vs, ds => by cases vs <;> rfl
  | _ :: _, [], ds => rfl
  | i :: is, v :: vs, ds => by rw [puts, puts_len is vs, List.length_set]
theorem puts_self : ∀ (is : List Nat) (ds : DSt), puts ds is (is.map (dget ds)) = ds
  | [], ds => rfl
  | i :: is, ds => by
    rw [List.map_cons, puts]
    have e : ds.set i (dget ds i) = ds := by
      apply List.ext_getElem?
      intro j
      by_cases h : i = j
      · subst h
        by_cases hl : i < ds.length
        · rw [List.getElem?_set_self hl, dget, List.getElem?_eq_getElem hl]; rfl
        · rw [List.getElem?_eq_none (by rw [List.length_set]; omega), List.getElem?_eq_none (by omega)]
      · rw [List.getElem?_set_ne h]
    rw [e]
    exact puts_self is ds
section
variable {ok : Mm → Prop} {g : TDG} {tb : TDS} {D : DEnds}
theorem forS (idx : List Nat) (I : Nat → List (Option DM.D) → Mm → Prop) {xs : List DM.D} {ds : DSt} {M : Mm} (hok : ∀ i vs M, I i vs M → ok M)
    (step : ∀ i x (N : DSt → Mm → Prop), xs[i]? = some x → (∀ vs ds' M, ds' = puts ds idx vs → I (i + 1) vs M → N ds' M) → ∀ vs M, I i vs M → g x (puts ds idx vs) M fun ds' M' => tb { D with nx := N, ct := N, bk := D.nx } ds' M')
    (fin : ∀ vs M, I xs.length vs M → D.nx (puts ds idx vs) M) (h0 : I 0 (idx.map (dget ds)) M) : forW ok g tb D xs ds M :=
  forW_go (fun i ds' M => ∃ vs, ds' = puts ds idx vs ∧ I i vs M) xs (fun i ds M ⟨vs, _, h⟩ => hok i vs M h)
    (fun i x N e hN ds' M ⟨vs, e', h⟩ => e' ▸ step i x N e (fun vs ds' M e h => hN ds' M ⟨vs, e, h⟩) vs M h) (fun ds' M ⟨vs, e, h⟩ => e ▸ fin vs M h) ds M ⟨_, (puts_self idx ds).symm, h0⟩
theorem forR (idx : List Nat) (I : Nat → List (Option DM.D) → Mm → Prop) {lo : Int} {n : Nat} {ds : DSt} {M : Mm} (hok : ∀ i vs M, I i vs M → ok M)
    (step : ∀ i (N : DSt → Mm → Prop), i < n → (∀ vs ds' M, ds' = puts ds idx vs → I (i + 1) vs M → N ds' M) → ∀ vs M, I i vs M → g (.int (lo + (i : Int))) (puts ds idx vs) M fun ds' M' => tb { D with nx := N, ct := N, bk := D.nx } ds' M')
    (fin : ∀ vs M, I n vs M → D.nx (puts ds idx vs) M) (h0 : I 0 (idx.map (dget ds)) M) : forW ok g tb D (rangeD lo n) ds M :=
  forS idx I hok (fun i x N e hN vs M h => by
    obtain ⟨h1, rfl⟩ := rangeD_get e
    exact step i N h1 hN vs M h) (fun vs M h => by rw [show (rangeD lo n).length = n by simp [rangeD]] at h; exact fin vs M h) h0
theorem forK (idx : List Nat) (I : List (Option DM.D) → Mm → Prop) {xs : List DM.D} {ds : DSt} {M : Mm} (hok : ∀ vs M, I vs M → ok M)
    (step : ∀ x ∈ xs, ∀ (N : DSt → Mm → Prop), (∀ vs ds' M, ds' = puts ds idx vs → I vs M → N ds' M) → ∀ vs M, I vs M → g x (puts ds idx vs) M fun ds' M' => tb { D with nx := N, ct := N, bk := D.nx } ds' M')
    (fin : ∀ vs M, I vs M → D.nx (puts ds idx vs) M) (h0 : I (idx.map (dget ds)) M) : forW ok g tb D xs ds M :=
  forS idx (fun _ => I) (fun _ => hok) (fun i x N e hN vs M h => step x (List.mem_of_getElem? e) N hN vs M h) fin h0
end
theorem seqS {t u : TDS} {D : DEnds} {ds : DSt} {M : Mm} (idx : List Nat) (J : List (Option DM.D) → Mm → Prop) (h1 : ∀ N : DSt → Mm → Prop, (∀ vs ds' M, ds' = puts ds idx vs → J vs M → N ds' M) → t { D with nx := N } ds M)
    (h2 : ∀ vs M, J vs M → u D (puts ds idx vs) M) : dSeq t u D ds M :=
  seq_cut (fun ds' M => ∃ vs, ds' = puts ds idx vs ∧ J vs M) (fun N hN => h1 N fun vs ds' M e h => hN ds' M ⟨vs, e, h⟩) fun ds' M ⟨vs, e, h⟩ => e ▸ h2 vs M h
/-! on a list just written -/
section
variable {M : Mm} {Q : DQ} {p : Addr} {xs ys : List D} {d : D}
theorem appendR_same : appendR (.ref p) [d] (mup M p (.lst xs)) Q = (xs.length < sizeLine ∧ Q .non (mup M p (.lst (xs ++ [d])))) := by
  unfold appendR
  simp only [lstOf_mup_same, mup_mup]
theorem lenR_same : lenR [.ref p] (mup M p (.lst xs)) Q = Q (.int xs.length) (mup M p (.lst xs)) := by
  unfold lenR
  simp only [mup_same]
theorem tup1R_same : tup1R [.ref p] (mup M p (.lst xs)) Q = Q (.tup xs) (mup M p (.lst xs)) := by
  unfold tup1R
  simp only [rdS_ref, lstOf_mup_same]
end
end DM

/-! more that simp may know -/
namespace DM
open PySem L2
open PyProof.Rows (b2i)
theorem sz0 : (0 ≤ sizeLine) = True := by simp
theorem sz1 : (1 ≤ sizeLine) = True := eq_true (small_line (by decide))
theorem sz2 : (2 ≤ sizeLine) = True := eq_true (small_line (by decide))
theorem sz3 : (3 ≤ sizeLine) = True := eq_true (small_line (by decide))
theorem sz4 : (4 ≤ sizeLine) = True := eq_true (small_line (by decide))
theorem sz5 : (5 ≤ sizeLine) = True := eq_true (small_line (by decide))
theorem sz6 : (6 ≤ sizeLine) = True := eq_true (small_line (by decide))
theorem sz7 : (7 ≤ sizeLine) = True := eq_true (small_line (by decide))
theorem sz8 : (8 ≤ sizeLine) = True := eq_true (small_line (by decide))
theorem sz9 : (9 ≤ sizeLine) = True := eq_true (small_line (by decide))
theorem sz10 : (10 ≤ sizeLine) = True := eq_true (small_line (by decide))
section
variable {M : Mm} {Q : DQ} {x y z u v : D} {xs ys : List D} {p : Addr} {n : Nat} {s : Str} {i : Int} {b : Bool}
theorem ix_L0 : ixR (.lst (x :: xs)) (.int 0) M Q = Q x M := by
  have e : atI (x :: xs) 0 = some x := atI_nat (j := 0) rfl
  unfold ixR
  simp only [e]
theorem ix_L1 : ixR (.lst (x :: y :: xs)) (.int 1) M Q = Q y M := by
  have e : atI (x :: y :: xs) 1 = some y := atI_nat (j := 1) rfl
  unfold ixR
  simp only [e]
theorem ix_L2 : ixR (.lst (x :: y :: z :: xs)) (.int 2) M Q = Q z M := by
  have e : atI (x :: y :: z :: xs) 2 = some z := atI_nat (j := 2) rfl
  unfold ixR
  simp only [e]
theorem ix_Lbs : ixR (.lst [x, y]) (.int (if b = true then 1 else 0)) M Q = Q (if b = true then y else x) M := by
  cases b
  · exact ix_L0
  · exact ix_L1
theorem dep_nil : (depDs [] ≤ n + 1) = True := eq_true (by simp [depDs])
theorem dep_cons : (depDs (x :: xs) ≤ n) = (depD x ≤ n ∧ depDs xs ≤ n) := by
  show (max (depD x) (depDs xs) ≤ n) = _
  exact propext Nat.max_le
theorem dep_tup : (depD (.tup xs) ≤ n + 1) = (depDs xs ≤ n) := by
  simp only [depD]
  exact propext ⟨fun h => by omega, fun h => by omega⟩
theorem dep_lst : (depD (.lst xs) ≤ n + 1) = (depDs xs ≤ n) := by
  simp only [depD]
  exact propext ⟨fun h => by omega, fun h => by omega⟩
theorem dep_str : (depD (.str s) ≤ n + 1) = True := eq_true (by simp [depD])
theorem dep_int : (depD (.int i) ≤ n + 1) = True := eq_true (by simp [depD])
theorem dep_bl : (depD (.bl b) ≤ n + 1) = True := eq_true (by simp [depD])
theorem dep_non : (depD .non ≤ n + 1) = True := eq_true (by simp [depD])
theorem dep_strs {l : List Str} : (depDs (l.map D.str) ≤ n + 1) = True := eq_true (Nat.le_trans (depDs_str l) (by omega))
theorem dep_ints {l : List Int} : (depDs (l.map D.int) ≤ n + 1) = True := eq_true (Nat.le_trans (depDs_int l) (by omega))
theorem dep_app : (depDs (xs ++ ys) ≤ n + 1) = (depDs xs ≤ n + 1 ∧ depDs ys ≤ n + 1) := by
  induction xs with
  | nil => simp [dep_nil]
  | cons a l ih => rw [List.cons_append, dep_cons, ih, dep_cons]; simp [and_assoc]
theorem dep_rules {rs : List Rl} : (depDs (rs.map ruleD) ≤ n + 3) = True := eq_true (Nat.le_trans (depDs_map ruleD 3 (by decide) (fun r => by have := depDs_str r.w; simp only [ruleD, depD, depDs]; omega) rs) (by omega))
theorem dep_prog {rs : List Rl} : (depD (progD rs) ≤ n + 4) = True := by unfold progD; rw [dep_tup]; exact dep_rules
theorem dep_st {t : St2} : (depD (stD t) ≤ n + 3) = True := by simp only [stD, dep_tup, dep_cons, dep_str, dep_strs, dep_nil, and_true]
theorem pu_nil : pureDs [] = true := rfl
theorem pu_cons : pureDs (x :: xs) = (pureD x && pureDs xs) := rfl
theorem pu_tup : pureD (.tup xs) = pureDs xs := by simp [pureD]
theorem pu_lst : pureD (.lst xs) = pureDs xs := by simp [pureD]
theorem pu_str : pureD (.str s) = true := rfl
theorem pu_int : pureD (.int i) = true := rfl
theorem pu_bl : pureD (.bl b) = true := rfl
theorem pu_non : pureD .non = true := rfl
theorem pu_app : pureDs (xs ++ ys) = (pureDs xs && pureDs ys) := by
  induction xs with
  | nil => rfl
  | cons a l ih => rw [List.cons_append, pu_cons, ih, pu_cons, Bool.and_assoc]
theorem pu_rule {r : Rl} : pureD (ruleD r) = true := pure_noBl _ (noBl_rule r)
theorem pu_rules {rs : List Rl} : pureDs (rs.map ruleD) = true := pure_noBls _ (noBls_rules rs)
theorem pu_prog {rs : List Rl} : pureD (progD rs) = true := by unfold progD; rw [pu_tup]; exact pu_rules
theorem pu_st {t : St2} : pureD (stD t) = true := pure_noBl _ (noBl_st t)
theorem eqv_self (h : pureDs xs = true) : eqvDs xs xs = true := eqvDs_refl _ h
theorem eqv_cons : eqvDs (x :: xs) (y :: ys) = (eqvD x y && eqvDs xs ys) := by simp [eqvDs]
theorem eqv_nn : eqvDs [] [] = true := by simp [eqvDs]
theorem eqv_nc : eqvDs [] (y :: ys) = false := by simp [eqvDs]
theorem eqv_cn : eqvDs (x :: xs) [] = false := by simp [eqvDs]
theorem eqv_tt : eqvD (.tup xs) (.tup ys) = eqvDs xs ys := by simp [eqvD]
theorem eqv_ss {t : Str} : eqvD (.str s) (.str t) = (s == t) := by simp [eqvD]
theorem eqv_ii {j : Int} : eqvD (.int i) (.int j) = (i == j) := by simp [eqvD]
end

theorem cutL_to1 {α : Type} (xs : List α) : cutL xs none (some 1) = xs.take 1 := cutL_to xs 1
theorem cutL_to2 {α : Type} (xs : List α) : cutL xs none (some 2) = xs.take 2 := cutL_to xs 2
theorem cutL_to3 {α : Type} (xs : List α) : cutL xs none (some 3) = xs.take 3 := cutL_to xs 3
theorem cutL_to15 {α : Type} (xs : List α) : cutL xs none (some 15) = xs.take 15 := cutL_to xs 15
/-- [one for one in xs if not isinstance(one, str)], xs texts -/
theorem lc_nostr {i : Nat} {ds0 : DSt} {Q : List D → Mm → Prop} {xs : List Str} {M : Mm} (hi : i < ds0.length) (hz : xs.length ≤ sizeLine) (h : Q [] M) :
    lcW (fun _ => True) (dgName i) (dNot (dTest (dCB isiR (dCons (dVar i) (dCons (dC (.ty "str")) dNil))))) (dVar i) ds0 Q (xs.map D.str) [] M := by
  refine lcW_filter D.str (fun _ => false) (fun _ => .non) hz trivial (fun x hx N F h1 h2 => ?_) ?_
  · have e : dget (ds0.set i (some (D.str x))) i = some (.str x) := by rw [dget, List.getElem?_set_self hi]; rfl
    simp only [dgName, dNot, dTest, dCB, dCons, dVar, dC, dNil, e, isi_s_str, isB, Bool.not_true, Bool.false_eq_true, if_false]
    exact h2 rfl
  · rw [show xs.filter (fun _ => false) = [] by simp, List.map_nil]
    exact h

theorem max2R_ii {i j : Int} {M : Mm} {Q : DQ} : max2R [.int i, .int j] M Q = Q (.int (max i j)) M := by
  show Q (.int (if j > i then j else i)) M = _
  congr 2
  split <;> omega
theorem min2R_ii {i j : Int} {M : Mm} {Q : DQ} : min2R [.int i, .int j] M Q = Q (.int (min i j)) M := by
  show Q (.int (if j < i then j else i)) M = _
  congr 2
  split <;> omega
theorem if_int {c : Prop} [Decidable c] {a b : Int} : (if c then D.int a else D.int b) = .int (if c then a else b) := by split <;> rfl

section
variable {M : Mm} {Q : DQ} {xs : List D} {i : Int}
theorem ix_allL (P : D → Prop) (h0 : 0 ≤ i) (h1 : i < xs.length) (hP : ∀ y ∈ xs, P y) (h : ∀ y, P y → Q y M) : ixR (.lst xs) (.int i) M Q := by
  obtain ⟨y, hy, my⟩ : ∃ y, xs[i.toNat]? = some y ∧ y ∈ xs := ⟨_, List.getElem?_eq_getElem (by omega), List.getElem_mem _⟩
  exact ix_L h0 hy (h y (hP y my))
theorem ix_allT (P : D → Prop) (h0 : 0 ≤ i) (h1 : i < xs.length) (hP : ∀ y ∈ xs, P y) (h : ∀ y, P y → Q y M) : ixR (.tup xs) (.int i) M Q := by
  obtain ⟨y, hy, my⟩ : ∃ y, xs[i.toNat]? = some y ∧ y ∈ xs := ⟨_, List.getElem?_eq_getElem (by omega), List.getElem_mem _⟩
  exact ix_t h0 hy (h y (hP y my))
theorem cutL_toN {α : Type} {xs : List α} {n : Nat} : cutL xs none (some (n : Int)) = xs.take n := cutL_to xs n
theorem cutL_toS {α : Type} {xs : List α} {n : Nat} : cutL xs none (some ((n : Int) + 1)) = xs.take (n + 1) := cutL_to xs (n + 1)
theorem cutL_fromN {α : Type} {xs : List α} {n : Nat} : cutL xs (some (n : Int)) none = xs.drop n := cutL_from xs n
theorem cutL_fromS {α : Type} {xs : List α} {n : Nat} : cutL xs (some ((n : Int) + 1)) none = xs.drop (n + 1) := cutL_from xs (n + 1)
end

section
variable {d c p : Addr} {r n r0 : Nat} {M0 M : Mm} {L : List (Addr × MO)} {P : D → Prop} {R : DQ} {x : D} {xs : List D}
theorem Bx.done (b : Bx d c n M0 L M) (k : ∀ x M', P x → Deck M' d c r → Upto d c M0 M' → R x M') (hx : P x) (hn : r ≤ n) : Shr R x M := b.fin fun M2 D U => k x M2 hx (D.mono hn) U
theorem Bx.doneL (b : Bx d c n M0 ((p, .lst xs) :: L) M) (D0 : Deck M0 d c r0) (k : ∀ x M', P x → Deck M' d c r → Upto d c M0 M' → R x M') (hx : P (.lst xs)) (hn : r ≤ n) : Shr R (.ref p) M := b.finL D0 fun M2 D U => k _ M2 hx (D.mono hn) U
end
section
variable {D : DEnds} {ds : DSt} {M : Mm} {s : TDS}
theorem sq_asg {te : TDE} {g : TDG} (h : dAsg te g { D with nx := s D } ds M) : dSeq (dAsg te g) s D ds M := h
theorem sq_drop {te : TDE} (h : dDrop te { D with nx := s D } ds M) : dSeq (dDrop te) s D ds M := h
theorem sq_for {ti : TDI} {g : TDG} {tb : TDS} (h : dFor ti g tb { D with nx := s D } ds M) : dSeq (dFor ti g tb) s D ds M := h
theorem sq_while {c : TDT} {tb : TDS} (h : dWhile c tb { D with nx := s D } ds M) : dSeq (dWhile c tb) s D ds M := h
theorem sq_dput {a b c : TDE} (h : dputS a b c { D with nx := s D } ds M) : dSeq (dputS a b c) s D ds M := h
theorem sq_lput {a b c : TDE} (h : dlputS a b c { D with nx := s D } ds M) : dSeq (dlputS a b c) s D ds M := h
theorem sq_par2 {i j : Nat} {t : TDA} (h : dPar2 i j t { D with nx := s D } ds M) : dSeq (dPar2 i j t) s D ds M := h
theorem sq_asgX {te : TDEX} {g : TDG} (h : dAsgX te g { D with nx := s D } ds M) : dSeq (dAsgX te g) s D ds M := h
theorem sq_dropX {te : TDEX} (h : dDropX te { D with nx := s D } ds M) : dSeq (dDropX te) s D ds M := h
end

theorem neR_prog0 {rs : List Rl} {M : Mm} {Q : DQ} : neR (progD rs) (.tup []) M Q = Q (.bl (!rs.isEmpty)) M := by
  unfold progD
  simp only [neR_tt, pu_rules, dep_rules, pu_nil, dep_nil, true_and, and_true, eqvDs_nil]
  cases rs <;> rfl
theorem eqR_prog0 {rs : List Rl} {M : Mm} {Q : DQ} : eqR (progD rs) (.tup []) M Q = Q (.bl rs.isEmpty) M := by
  unfold progD
  simp only [eqR_tt, pu_rules, dep_rules, pu_nil, dep_nil, true_and, and_true, eqvDs_nil]
  cases rs <;> rfl
theorem lenR_prog {rs : List Rl} {M : Mm} {Q : DQ} : lenR [progD rs] M Q = Q (.int rs.length) M := by
  unfold progD
  rw [lenR_t, List.length_map]

theorem cmul_sm {i j : Int} (h0 : -1000000000000 ≤ i) (h1 : i ≤ 1000000000000) (h2 : -1000000000000 ≤ j) (h3 : j ≤ 1000000000000) : CMulW i j :=
  cmul_ok (Nat.lt_of_le_of_lt (show i.natAbs ≤ 1000000000000 by omega) (by decide)) (Nat.lt_of_le_of_lt (show j.natAbs ≤ 1000000000000 by omega) (by decide))
section
variable {α : Type} {f : α → D} {xs : List α} {i : Int} {M : Mm} {Q : DQ}
theorem ix_mapL (h0 : 0 ≤ i) (h1 : i < xs.length) (h : ∀ y ∈ xs, Q (f y) M) : ixR (.lst (xs.map f)) (.int i) M Q := by
  obtain ⟨y, hy, my⟩ : ∃ y, xs[i.toNat]? = some y ∧ y ∈ xs := ⟨_, List.getElem?_eq_getElem (by omega), List.getElem_mem _⟩
  exact ix_L h0 (by rw [List.getElem?_map, hy]; rfl) (h y my)
theorem ix_mapT (h0 : 0 ≤ i) (h1 : i < xs.length) (h : ∀ y ∈ xs, Q (f y) M) : ixR (.tup (xs.map f)) (.int i) M Q := by
  obtain ⟨y, hy, my⟩ : ∃ y, xs[i.toNat]? = some y ∧ y ∈ xs := ⟨_, List.getElem?_eq_getElem (by omega), List.getElem_mem _⟩
  exact ix_t h0 (by rw [List.getElem?_map, hy]; rfl) (h y my)
theorem ix_mapLl (h1 : xs ≠ []) (h : ∀ y ∈ xs, Q (f y) M) : ixR (.lst (xs.map f)) (.int (-1)) M Q := by
  have hl := List.length_pos_iff.mpr h1
  obtain ⟨y, hy, my⟩ : ∃ y, xs[xs.length - 1]? = some y ∧ y ∈ xs := ⟨_, List.getElem?_eq_getElem (by omega), List.getElem_mem _⟩
  exact ix_Ll (by rw [List.length_map, List.getElem?_map, hy]; rfl) (h y my)
end
theorem rep1 {α : Type} (n : Nat) (x : α) : repL n [x] = List.replicate n x := by simp [repL]
end DM

/-! while by its slots; lines of papers -/
namespace DM
open PySem L2
open PyProof.Rows (b2i)
section
variable {c : TDT} {tb : TDS} {D : DEnds} {ds : DSt} {M : Mm}
theorem whileS (idx : List Nat) (I : Nat → List (Option DM.D) → Mm → Prop) (m : Nat)
    (step : ∀ (m : Nat) (N : DSt → Mm → Prop), (∀ m' vs ds' M, m' < m → ds' = puts ds idx vs → I m' vs M → N ds' M) → ∀ vs M, I m vs M →
      c (puts ds idx vs) M fun b M1 => if b = true then tb { D with nx := N, ct := N, bk := D.nx } (puts ds idx vs) M1 else D.nx (puts ds idx vs) M1)
    (h0 : I m (idx.map (dget ds)) M) : dWhile c tb D ds M := by
  refine whileN_go (fun m ds' M => ∃ m' ≤ m, ∃ vs, ds' = puts ds idx vs ∧ I m' vs M) (fun N ds' M ⟨m', h1, vs, e, h⟩ => ?_) (fun m N hN ds' M ⟨m', h1, vs, e, h⟩ => ?_) m ds M ⟨m, Nat.le_refl _, _, (puts_self idx ds).symm, h0⟩
  · subst e
    exact step m' N (fun m'' vs ds' M h2 => absurd h2 (by omega)) vs M h
  · subst e
    exact step m' N (fun m'' vs ds' M h2 e h => hN ds' M ⟨m'', by omega, vs, e, h⟩) vs M h
end
section
variable {M : Mm} {Q : DQ} {r : DRC} {xs : List D} {p : Addr}
theorem ofLst_L : ofLst r [.lst xs] M Q = r xs M Q := (rfl)
theorem sumLR_map {α : Type} {f : α → Int} {l : List α} : sumLR (l.map fun x => D.int (f x)) M Q = Q (.int (l.map f).sum) M := by
  unfold sumLR
  rw [intsOf_map]
theorem allLR_map {α : Type} {f : α → Bool} {l : List α} : allLR (l.map fun x => D.bl (f x)) M Q = Q (.bl (l.all f)) M := by
  unfold allLR
  rw [blsOf_map]
  simp only [List.all_map, Function.comp_def, id]
theorem anyLR_map {α : Type} {f : α → Bool} {l : List α} : anyLR (l.map fun x => D.bl (f x)) M Q = Q (.bl (l.any f)) M := by
  unfold anyLR
  rw [blsOf_map]
  simp only [List.any_map, Function.comp_def, id]
end
/-! ### lines of a paper -/
structure Ln where
  s : Str
  a : Str
  t : Str
  r : Option (Int × List Nat)
def natD (j : Nat) : D := .int (j : Nat)
def reasonD : Option (Int × List Nat) → D
  | none => .tup [.str "told"]
  | some (n, js) => .tup [.str "rule", .int n, .tup (js.map natD)]
def lnD (l : Ln) : D := .tup [.tup [.str l.s, .str l.a, .str l.t], reasonD l.r]
/-- what is reckoned line by line -/
def lf {β : Type} (b0 : β) (g : Int → List β → β) (z : Nat → β) (l : Ln) : β := match l.r with | none => b0 | some (n, js) => g n (js.map z)
def scn {β : Type} (b0 : β) (g : Int → List β → β) (ls : List Ln) : List β := ls.foldl (fun acc l => acc ++ [lf b0 g (fun j => acc.getD j b0) l]) []
theorem scn_snoc {β : Type} {b0 : β} {g : Int → List β → β} {ls : List Ln} {l : Ln} : scn b0 g (ls ++ [l]) = scn b0 g ls ++ [lf b0 g (fun j => (scn b0 g ls).getD j b0) l] := by
  unfold scn
  rw [List.foldl_append]
  rfl
theorem rev_ind {α : Type} {P : List α → Prop} (h0 : P []) (h1 : ∀ l x, P l → P (l ++ [x])) (l : List α) : P l := by
  have key : ∀ m : List α, P m.reverse := fun m => by
    induction m with
    | nil => exact h0
    | cons x m ih => rw [List.reverse_cons]; exact h1 _ _ ih
  have := key l.reverse
  rwa [List.reverse_reverse] at this
section
variable {β : Type} {b0 : β} {g : Int → List β → β}
theorem scn_len (ls : List Ln) : (scn b0 g ls).length = ls.length := by
  induction ls using rev_ind with
  | h0 => rfl
  | h1 l x ih => rw [scn_snoc, List.length_append, List.length_append, ih]; rfl
theorem scn_app (ls ms : List Ln) : ∃ r, scn b0 g (ls ++ ms) = scn b0 g ls ++ r := by
  induction ms using rev_ind with
  | h0 => exact ⟨[], by simp⟩
  | h1 l x ih =>
    obtain ⟨r, e⟩ := ih
    exact ⟨r ++ [lf b0 g (fun j => (scn b0 g (ls ++ l)).getD j b0) x], by rw [← List.append_assoc, scn_snoc, e]; simp⟩
theorem scn_take (ls : List Ln) (i : Nat) (h : i ≤ ls.length) : (scn b0 g ls).take i = scn b0 g (ls.take i) := by
  obtain ⟨r, e⟩ := scn_app (b0 := b0) (g := g) (ls.take i) (ls.drop i)
  rw [List.take_append_drop] at e
  have : (scn b0 g (ls.take i)).length = i := by rw [scn_len, List.length_take]; omega
  rw [e, List.take_append_of_le_length (by omega), List.take_of_length_le (by omega)]
theorem getD_take {l : List β} {i j : Nat} (h : j < i) : (l.take i).getD j b0 = l.getD j b0 := by
  rw [List.getD_eq_getElem?_getD, List.getD_eq_getElem?_getD, List.getElem?_take, if_pos h]
end
def LnsOk (ls : List Ln) : Prop := ∀ (i : Nat) (l : Ln) (n : Int) (js : List Nat), ls[i]? = some l → l.r = some (n, js) → ∀ j ∈ js, j < i
theorem LnsOk.take {ls : List Ln} {m : Nat} (h : LnsOk ls) : LnsOk (ls.take m) := fun i l n js e => by
  rw [List.getElem?_take] at e
  split at e
  · exact h i l n js e
  · cases e
section
variable {β : Type} {b0 : β} {g : Int → List β → β} {ls : List Ln} {l : Ln} {i : Nat}
theorem lf_local {z z' : Nat → β} (h : ∀ n js, l.r = some (n, js) → ∀ j ∈ js, z j = z' j) : lf b0 g z l = lf b0 g z' l := by
  unfold lf
  split
  · rfl
  · rename_i n js e
    rw [List.map_congr_left (h n js e)]
theorem scn_at (e : ls[i]? = some l) : (scn b0 g ls)[i]? = some (lf b0 g (fun j => (scn b0 g (ls.take i)).getD j b0) l) := by
  have hi := (List.getElem?_eq_some_iff.mp e).1
  have h2 : ls.take (i + 1) = ls.take i ++ [l] := by rw [List.take_add_one, e]; rfl
  have h3 := scn_take (b0 := b0) (g := g) ls (i + 1) hi
  rw [h2, scn_snoc] at h3
  have h4 : ((scn b0 g ls).take (i + 1))[i]? = (scn b0 g ls)[i]? := by rw [List.getElem?_take, if_pos (by omega)]
  rw [← h4, h3, List.getElem?_append_right (by rw [scn_len, List.length_take]; omega), scn_len, List.length_take, Nat.min_eq_left (by omega), Nat.sub_self]
  rfl
theorem scn_eq (ok : LnsOk ls) (e : ls[i]? = some l) : (scn b0 g ls).getD i b0 = lf b0 g (fun j => (scn b0 g ls).getD j b0) l := by
  rw [List.getD_eq_getElem?_getD, scn_at e]
  show lf b0 g _ l = _
  refine lf_local fun n js h j hj => ?_
  have hi := (List.getElem?_eq_some_iff.mp e).1
  rw [← scn_take ls i (by omega), getD_take (ok i l n js e h j hj)]
/-- a run, unrolled; nodes gone -/
def rnG (n : Int) (xs : List (List Int)) : List Int := n :: xs.flatten
def ndG (_ : Int) (xs : List Nat) : Nat := 1 + xs.sum
def lenG (_ : Int) (xs : List Int) : Int := 1 + xs.sum
def rnF (ls : List Ln) (j : Nat) : List Int := (scn [] rnG ls).getD j []
def ndF (ls : List Ln) (j : Nat) : Nat := (scn 1 ndG ls).getD j 1
def lenF (ls : List Ln) (j : Nat) : Int := (scn 0 lenG ls).getD j 0
def wayR (ls : List Ln) (w : List Nat) : List Int := (w.map (rnF ls)).flatten
def wayN (ls : List Ln) (w : List Nat) : Nat := (w.map (ndF ls)).sum
def wayL (ls : List Ln) (w : List Nat) : Int := (w.map (lenF ls)).sum
theorem flat_len : ∀ xs : List (List Int), ((xs.flatten).length : Int) = (xs.map fun x => (x.length : Int)).sum
  | [] => rfl
  | x :: xs => by rw [List.flatten_cons, List.length_append, Int.natCast_add, flat_len xs]; rfl
/-- the length told is the run's -/
theorem lenF_eq (ok : LnsOk ls) : ∀ i : Nat, lenF ls i = ((rnF ls i).length : Int) := by
  intro i
  induction i using Nat.strongRecOn with
  | _ i ih =>
    cases e : ls[i]? with
    | none =>
      have : ls.length ≤ i := by simpa using e
      unfold lenF rnF
      rw [List.getD_eq_getElem?_getD, List.getD_eq_getElem?_getD, List.getElem?_eq_none (by rw [scn_len]; exact this), List.getElem?_eq_none (by rw [scn_len]; exact this)]
      rfl
    | some l =>
      unfold lenF rnF
      rw [scn_eq ok e, scn_eq ok e]
      unfold lf
      split
      · rfl
      · rename_i n js h
        show 1 + (js.map (lenF ls)).sum = (((n :: (js.map (rnF ls)).flatten).length : Nat) : Int)
        rw [List.length_cons, Int.natCast_add, flat_len, List.map_map, List.map_congr_left (fun j hj => ih j (ok i l n js e h j hj))]
        show _ = (js.map fun j => ((rnF ls j).length : Int)).sum + 1
        omega
theorem wayL_eq (ok : LnsOk ls) (w : List Nat) : wayL ls w = ((wayR ls w).length : Int) := by
  unfold wayL wayR
  rw [flat_len, List.map_map]
  congr 1
  exact List.map_congr_left fun j _ => lenF_eq ok j
end

theorem map_toNat_inj : ∀ {a b : List Char}, a.map Char.toNat = b.map Char.toNat → a = b
  | [], [], _ => rfl
  | [], _ :: _, h => by simp at h
  | _ :: _, [], h => by simp at h
  | x :: a, y :: b, h => by
    simp only [List.map_cons, List.cons.injEq] at h
    rw [map_toNat_inj h.2, show x = y from Char.ext (UInt32.toNat_inj.mp h.1)]
theorem ofString_inj {a b : String} : (Str.ofString a = Str.ofString b) = (a = b) := by
  refine propext ⟨fun h => ?_, fun h => by rw [h]⟩
  rw [Str.ofString_eq_toList, Str.ofString_eq_toList] at h
  have h2 : a.toList.map Char.toNat = b.toList.map Char.toNat := by
    have := congrArg (fun z : Str => z.cps.toList) h
    simpa using this
  exact String.toList_inj.mp (map_toNat_inj h2)
theorem ofString_beq {a b : String} : (Str.ofString a == Str.ofString b) = (a == b) := by
  rw [Bool.eq_iff_iff, beq_iff_eq, beq_iff_eq, ofString_inj]

theorem small_lt2 {n : Nat} (h : n < 16000000) : n < sizeLine := by rw [sizeLine_eq]; omega
end DM

/-! extend by a tuple -/
namespace DMX
open PySem PySem.Spec PySem.AutoSeq1
theorem meets_extendT (l : Addr) (items : Array Value) (n : Nat) (b : Addr) (items2 : Array Value) (n2 : Nat) (dct : Option Addr) (sl : Array (Option Value)) (hs0 : ¬(!items.isEmpty && Builtin.List.listTooLong (items.size + items2.size)) = true) (hs1 : items.size ≤ sizeLine) (hs2 : items.size + items2.size ≤ sizeLine + 1) :
    Meets (Builtin.«list.extend» ⟨[.ref l, .ref b], []⟩) (fun _ R s => s.heap.get? l = some { cls := .type "list", dict := none, data := .seq items n, slots := #[] } ∧ s.heap.get? b = some { cls := .type "tuple", dict := dct, data := .seq items2 n2, slots := sl } ∧ R (.ok (.ret Value.none)) { s with heap := s.heap.update l (Obj.mapSeq fun x => x ++ items2), toks := s.toks }) :=
  .of_wp fun prog w A R s h => by
    obtain ⟨hp, g, d, tk, os⟩ := s; obtain ⟨hl, hb, h⟩ := h; have f1 := idx_int; have f2 := sub_tuple_tuple; have f3 := sub_list_list; have f4 := sub_tuple_list; have f5 := sub_list_tuple;
    have hz' : (items ++ items2).size ≤ sizeLine + 1 := by rw [Array.size_append]; exact hs2
    wp_walk using (wpAny_updateSeq hl rfl (hz := hs1) (_hz' := hz')), wpAny_loadPart' hl, wpAny_loadPart' hb; exact ⟨_, rfl, h⟩
end DMX
namespace L2
open PySem PySem.Spec PyProof.Rows
def rExtendT (K : PySem.W.Frag) : V → List V → Hp → VK → Prop := fun x vs H Q => ∃ l b xs zs, x = .ref l ∧ vs = [.ref b] ∧ H l = some (.lst xs) ∧ SqT K H b zs ∧ xs.length + zs.length ≤ sizeLine ∧ Q .non (upd H l (.lst (xs ++ zs)))
theorem mt_extendT {X : Cx} : MtM X "list.extend" (rExtendT X.K) := by
  intro pins s σ H x vs v us Q I rx rv h
  obtain ⟨l, b, xs, zs, rfl, rfl, hH, hB, hz, q⟩ := h
  cases rx
  obtain ⟨u, rfl, ru⟩ := rv.one
  cases ru
  obtain ⟨z, its, n, r, hl, e⟩ := I.lstM hH
  obtain ⟨its2, r2, ⟨⟨c, dct, dt, sl⟩, e2, hc, n2, hd⟩, z2⟩ := I.tuple hB
  replace hc : c = .type "tuple" := hc
  replace hd : dt = .seq its2.toArray n2 := hd
  subst hc hd
  have hl2 := r2.length
  have hsz : its.toArray.size + its2.toArray.size ≤ sizeLine := by rw [List.size_toArray, List.size_toArray]; omega
  have hlong : ¬ (!its.toArray.isEmpty && Builtin.List.listTooLong (its.toArray.size + its2.toArray.size)) = true := by
    rw [notLongL hsz, Bool.and_false]
    exact Bool.false_ne_true
  refine call_meets F.slot_list_extend ⟨_, e, rfl⟩ F.entry_list_extend (F.args_list_extend_2 _ _)
    (DMX.meets_extendT l its.toArray n b its2.toArray n2 dct sl hlong (by rw [List.size_toArray]; omega) (by omega)) ⟨e, e2, ?_⟩
  refine ⟨.non, _, I.lset (its' := its ++ its2) hH e (by simp) (r.append r2) ?_, rfl, q⟩
  rw [List.length_append]
  omega
end L2
namespace DM
open PySem L2
open PyProof.Rows (b2i)
/-- extend by a list or a tuple -/
def extendA : DRM := fun x xs M Q => match x, xs with
  | .ref a, [y] => (match lstOf M a, rdS M y with | some ys, some zs => ys.length + zs.length ≤ sizeLine ∧ Q .non (mup M a (.lst (ys ++ zs))) | _, _ => False)
  | _, _ => False
def rExtA (K : PySem.W.Frag) : V → List V → Hp → VK → Prop := fun x vs H Q => rExtend x vs H Q ∨ rExtendT K x vs H Q
theorem mt_extA {X : Cx} : MtM X "list.extend" (rExtA X.K) := fun pins s σ H x vs v us Q I rx rv h => by
  rcases h with h | h
  · exact mt_extend pins s σ H x vs v us Q I rx rv h
  · exact mt_extendT pins s σ H x vs v us Q I rx rv h
theorem lift_extA {K : PySem.W.Frag} : LiftM K (rExtA K) extendA := by
  intro x vs dx ds H M Q Q0 rx rs m h k
  unfold extendA at h
  split at h
  · rename_i a y
    cases rx.ref_v
    obtain ⟨v, rfl, r1⟩ := rs.one
    split at h
    · rename_i ys zs e e2
      obtain ⟨hz, h⟩ := h
      obtain ⟨us, h1, r2⟩ := m.ob a _ (of_lstOf e)
      obtain ⟨b, ws, rfl, r3, hh⟩ := rdS_v m r1 e2
      have t := TX.put (u := .lst (us ++ ws)) m (of_lstOf e)
      have fin := k _ (H.up a (.lst (us ++ ws))) _ _ .non (m.put (w := .lst (ys ++ zs)) (of_lstOf e) ⟨_, upd_same, VRs.append (VRs.mono t _ _ r2) (VRs.mono t _ _ r3)⟩) (GG.put (of_lstOf e)) h
      rcases hh with ⟨_, h2⟩ | h2
      · exact .inr ⟨a, b, us, ws, rfl, rfl, h1, h2, by rw [← r2.length, ← r3.length]; exact hz, fin⟩
      · exact .inl ⟨a, b, us, ws, rfl, rfl, h1, h2, by rw [← r2.length, ← r3.length]; exact hz, fin⟩
    · exact h.elim
  · exact h.elim
section
variable {X : Cx} {o e : Expr} {to te : TDE} {apos cpos : Pos}
theorem je_extendA (ho : JE X o to) (ha : JE X e te) (hbase : attributeBase o "extend" X.env (eval o X.env) = eval o X.env := by rfl)
    (hfew : ((backTo cpos (starEach [e] X.env)).all (fun x => !x.1) && (backToKw cpos (keywordEach [] X.env)).all (fun x => x.1.isSome)
      && decide (([e]).length + ([] : List Keyword).length + (if ([] : List Keyword).isEmpty then 0 else 1) < 30)) = true := by rfl)
    (hline : (apos.endLine == cpos.line) = true := by rfl) (hs : starEach [e] X.env = (false, eval e X.env) :: starEach [] X.env := by rfl) (hplain : (backTo cpos (starEach [] X.env)).any (·.1) = false := by rfl) :
    JE X (.Call (.Attribute o "extend" apos) [e] [] cpos) (dBM extendA to (dCons te dNil)) := je_bm PySem.F.slot_list_extend PySem.F.type_list_extend mt_extA lift_extA ho (ja_cons ha ja_nil hs) hbase hfew hline hs hplain
end
section
variable {M : Mm} {Q : DQ} {p q : Addr} {xs ys : List D} {d : D} {o : MO}
theorem extA_t : extendA (.ref p) [.tup ys] (mup M p (.lst xs)) Q = (xs.length + ys.length ≤ sizeLine ∧ Q .non (mup M p (.lst (xs ++ ys)))) := by
  unfold extendA
  simp only [lstOf_mup_same, rdS_tup, mup_mup]
theorem extA_L : extendA (.ref p) [.lst ys] (mup M p (.lst xs)) Q = (xs.length + ys.length ≤ sizeLine ∧ Q .non (mup M p (.lst (xs ++ ys)))) := by
  unfold extendA
  simp only [lstOf_mup_same, rdS_lst, mup_mup]
/-- a list beneath another one -/
theorem append_under (h : p ≠ q) : appendR (.ref p) [d] (mup (mup M p (.lst xs)) q o) Q = (xs.length < sizeLine ∧ Q .non (mup (mup M p (.lst (xs ++ [d]))) q o)) := by
  unfold appendR
  simp only [lstOf_mup_ne h, lstOf_mup_same]
  rw [mup_comm (Ne.symm h), mup_mup]
theorem pop_same (e : xs = ys ++ [d]) (h : Q d (mup M p (.lst ys))) : popR (.ref p) [] (mup M p (.lst xs)) Q := by
  subst e
  refine pop_go lstOf_mup_same ?_
  rw [mup_mup]
  exact h
theorem isSome_same : (lstOf (mup M p (.lst xs)) p).isSome = true := by rw [lstOf_mup_same]; rfl
theorem ne_nil_same (h1 : pureDs xs = true) (h2 : depDs xs ≤ 99) : neR (.ref p) (.lst []) (mup M p (.lst xs)) Q = Q (.bl (!xs.isEmpty)) (mup M p (.lst xs)) := by
  refine propext ⟨fun h => ?_, fun h => ne_nil_l lstOf_mup_same h1 h2 h⟩
  have := h.2
  unfold eqM at this
  simp only [resD, lstOf_mup_same, eqvD, eqvDs_nil] at this
  exact this
end

theorem js_at {ls : List Ln} {i : Nat} {l : Ln} {n : Int} {js : List Nat} (ok : LnsOk ls) (h : ls[i]? = some l) (hr : l.r = some (n, js)) {j : Nat} (hj : j ∈ js) : j < i := ok i l n js h hr j hj
theorem map_get {α : Type} {f : α → D} {l : List α} {j : Nat} {b0 : α} (h : j < l.length) : (l.map f)[j]? = some (f (l.getD j b0)) := by
  rw [List.getElem?_map, List.getD_eq_getElem?_getD, List.getElem?_eq_getElem h]; rfl
theorem lines_dep {ls : List Ln} : True := trivial
theorem pu_nats {l : List Nat} : pureDs (l.map natD) = true := pureDs_map _ (fun _ => rfl) l
theorem dep_nats {l : List Nat} {n : Nat} : (depDs (l.map natD) ≤ n + 1) = True := eq_true (Nat.le_trans (depDs_map natD 1 (by decide) (fun _ => by simp [natD, depD]) l) (by omega))
/-- the runs of a way whose first line is l -/
theorem wayR_cons {ls : List Ln} {j : Nat} {w : List Nat} : wayR ls (j :: w) = rnF ls j ++ wayR ls w := rfl
theorem wayR_app {ls : List Ln} {v w : List Nat} : wayR ls (v ++ w) = wayR ls v ++ wayR ls w := by unfold wayR; rw [List.map_append, List.flatten_append]
theorem wayN_cons {ls : List Ln} {j : Nat} {w : List Nat} : wayN ls (j :: w) = ndF ls j + wayN ls w := rfl
theorem wayN_app {ls : List Ln} {v w : List Nat} : wayN ls (v ++ w) = wayN ls v + wayN ls w := by unfold wayN; rw [List.map_append, List.sum_append]
theorem rnF_told {ls : List Ln} {j : Nat} {l : Ln} (ok : LnsOk ls) (h : ls[j]? = some l) (e : l.r = none) : rnF ls j = [] := by
  unfold rnF; rw [scn_eq ok h, lf, e]
theorem rnF_rule {ls : List Ln} {j : Nat} {l : Ln} {n : Int} {js : List Nat} (ok : LnsOk ls) (h : ls[j]? = some l) (e : l.r = some (n, js)) : rnF ls j = n :: wayR ls js := by
  unfold rnF; rw [scn_eq ok h, lf, e]; rfl
theorem ndF_told {ls : List Ln} {j : Nat} {l : Ln} (ok : LnsOk ls) (h : ls[j]? = some l) (e : l.r = none) : ndF ls j = 1 := by
  unfold ndF; rw [scn_eq ok h, lf, e]
theorem ndF_rule {ls : List Ln} {j : Nat} {l : Ln} {n : Int} {js : List Nat} (ok : LnsOk ls) (h : ls[j]? = some l) (e : l.r = some (n, js)) : ndF ls j = 1 + wayN ls js := by
  unfold ndF; rw [scn_eq ok h, lf, e]; rfl

theorem sub1 {M : Mm} {p : Addr} {o : MO} (hp : M p = none) : Sub M (mup M p o) := sub_new Sub.refl hp
theorem sub2 {M : Mm} {p q : Addr} {o u : MO} (hp : M p = none) (hq : M q = none) : Sub M (mup (mup M p o) q u) := sub_new (sub_new Sub.refl hp) hq
theorem fresh2 {M : Mm} {p q : Addr} {o : MO} (h : mup M p o q = none) : p ≠ q ∧ M q = none := by
  have : p ≠ q := by rintro rfl; rw [mup_same] at h; cases h
  exact ⟨this, by rw [mup_ne (Ne.symm this)] at h; exact h⟩
section
variable {M : Mm} {Q : DQ} {p q : Addr} {xs ys : List D} {d : D} {o : MO}
theorem tup1_under (h : p ≠ q) : tup1R [.ref p] (mup (mup M p (.lst xs)) q o) Q = Q (.tup xs) (mup (mup M p (.lst xs)) q o) := by
  unfold tup1R
  simp only [rdS_ref, lstOf_mup_ne h, lstOf_mup_same]
theorem isSome_under (h : p ≠ q) : (lstOf (mup (mup M p (.lst xs)) q o) p).isSome = true := by rw [lstOf_mup_ne h, lstOf_mup_same]; rfl
end
end DM

/-! what a def has made, without a deck -/
namespace DM
open PySem L2
open PyProof.Rows (b2i)
structure Px (M0 : Mm) (L : List (Addr × MO)) (M : Mm) : Prop where
  ex : Sub M0 M
  lo : ∀ q ∈ L, M q.1 = some q.2 ∧ M0 q.1 = none
  nd : (L.map (·.1)).Nodup
section
variable {p q : Addr} {M0 M M' : Mm} {L : List (Addr × MO)} {o o' : MO} {xs ys : List D}
theorem Px.start : Px M [] M := ⟨Sub.refl, by simp, by simp⟩
theorem Px.fresh (b : Px M0 L M) (h : M p = none) : M0 p = none := b.ex.none h
theorem Px.new (b : Px M0 L M) (h : M p = none) : Px M0 ((p, o) :: L) (mup M p o) := by
  refine ⟨sub_new b.ex (b.fresh h), fun q hq => ?_, ?_⟩
  · rcases List.mem_cons.mp hq with rfl | hq
    · exact ⟨mup_same, b.fresh h⟩
    · obtain ⟨h1, h2⟩ := b.lo q hq
      refine ⟨?_, h2⟩
      rw [mup_ne]
      · exact h1
      · intro e; rw [e, h] at h1; cases h1
  · rw [List.map_cons, List.nodup_cons]
    refine ⟨fun hm => ?_, b.nd⟩
    obtain ⟨q, hq, e⟩ := List.mem_map.mp hm
    have := (b.lo q hq).1
    rw [e] at this
    simp only at this
    rw [h] at this
    cases this
theorem Px.swap {x y : Addr × MO} (b : Px M0 (x :: y :: L) M) : Px M0 (y :: x :: L) M := by
  refine ⟨b.ex, fun q hq => b.lo q ?_, ?_⟩
  · simp only [List.mem_cons] at hq ⊢
    rcases hq with h | h | h
    · exact .inr (.inl h)
    · exact .inl h
    · exact .inr (.inr h)
  · have := b.nd
    simp only [List.map_cons, List.nodup_cons, List.mem_cons, not_or] at this ⊢
    exact ⟨⟨fun e => this.1.1 e.symm, this.2.1⟩, this.1.2, this.2.2⟩
theorem Px.put1 (b : Px M0 ((p, o) :: L) M) : Px M0 ((p, o') :: L) (mup M p o') := by
  obtain ⟨h1, h2⟩ := b.lo (p, o) (by simp)
  simp only at h1 h2
  have nd := b.nd
  rw [List.map_cons, List.nodup_cons] at nd
  refine ⟨sub_new b.ex h2, fun q hq => ?_, b.nd⟩
  rcases List.mem_cons.mp hq with rfl | hq
  · exact ⟨mup_same, h2⟩
  · obtain ⟨g1, g2⟩ := b.lo q (List.mem_cons_of_mem _ hq)
    refine ⟨?_, g2⟩
    rw [mup_ne]
    · exact g1
    · intro e; exact nd.1 (e ▸ List.mem_map.mpr ⟨q, hq, rfl⟩)
theorem Px.put2 {y : Addr × MO} (b : Px M0 (y :: (p, o) :: L) M) : Px M0 (y :: (p, o') :: L) (mup M p o') := b.swap.put1.swap
theorem Px.drop1 {y : Addr × MO} (b : Px M0 (y :: L) M) : Px M0 L M := ⟨b.ex, fun q hq => b.lo q (List.mem_cons_of_mem _ hq), (List.nodup_cons.mp b.nd).2⟩
theorem Px.drop2 {x y : Addr × MO} (b : Px M0 (x :: y :: L) M) : Px M0 (x :: L) M := b.swap.drop1
theorem Px.at1 (b : Px M0 ((p, o) :: L) M) : M p = some o := (b.lo (p, o) (by simp)).1
theorem Px.at2 {y : Addr × MO} (b : Px M0 (y :: (p, o) :: L) M) : M p = some o := (b.lo (p, o) (by simp)).1
theorem Px.lst1 (b : Px M0 ((p, .lst xs) :: L) M) : lstOf M p = some xs := lstOf_some b.at1
theorem Px.lst2 {y : Addr × MO} (b : Px M0 (y :: (p, .lst xs) :: L) M) : lstOf M p = some xs := lstOf_some b.at2
theorem Px.dic1 {kvs : List (Key × D)} (b : Px M0 ((p, .dic kvs) :: L) M) : dicOf M p = some kvs := dicOf_some b.at1
theorem Px.dic2 {y : Addr × MO} {kvs : List (Key × D)} (b : Px M0 (y :: (p, .dic kvs) :: L) M) : dicOf M p = some kvs := dicOf_some b.at2
theorem Px.fin {R : DQ} {x : D} (b : Px M0 L M) (h : R x M0) : Shr R x M := Shr.of h b.ex
theorem Px.finL {R : DQ} (b : Px M0 ((p, .lst xs) :: L) M) (h : R (.lst xs) M0) : Shr R (.ref p) M := Shr.lst (b.lo (p, .lst xs) (by simp)).2 b.lst1 b.ex h
theorem Px.finX {xc : Addr → List (Str × D) → Mm → Prop} {C : Addr} {fs : List (Str × D)} {ds : DSt} (b : Px M0 L M) (h : xc C fs M0) : ShrX xc C fs ds M := ShrX.of h b.ex
theorem Bx.swap {d c : Addr} {r : Nat} {x y : Addr × MO} (b : Bx d c r M0 (x :: y :: L) M) : Bx d c r M0 (y :: x :: L) M := by
  refine ⟨b.dk, b.ex, fun q hq => b.lo q ?_, ?_⟩
  · simp only [List.mem_cons] at hq ⊢
    rcases hq with h | h | h
    · exact .inr (.inl h)
    · exact .inl h
    · exact .inr (.inr h)
  · have := b.nd
    simp only [List.map_cons, List.nodup_cons, List.mem_cons, not_or] at this ⊢
    exact ⟨⟨fun e => this.1.1 e.symm, this.2.1⟩, this.1.2, this.2.2⟩
theorem Bx.drop2 {d c : Addr} {r : Nat} {x y : Addr × MO} (b : Bx d c r M0 (x :: y :: L) M) : Bx d c r M0 (x :: L) M := b.swap.drop1
end
section
variable {M : Mm} {Q : DQ} {p : Addr} {xs ys : List D} {d : D} {o : MO}
theorem ixN_last {n : Nat} (h : 0 < n) : ixN n (-1) = some (n - 1) := by
  unfold ixN
  rw [if_neg (by omega), if_pos (by omega)]
  congr 1
  omega
theorem popAt0_go (e : lstOf M p = some (d :: xs)) (h : Q d (mup M p (.lst xs))) : popAtR (.ref p) [.int 0] M Q := popAt_go e (by omega) (by omega) rfl h
theorem set_last {α : Type} {l : List α} {x y : α} : (l ++ [x]).set l.length y = l ++ [y] := by
  rw [List.set_append_right _ _ (Nat.le_refl _), Nat.sub_self]
  rfl
end

theorem getD_app {α : Type} {l m : List α} {j : Nat} {b : α} (h : j < l.length) : (l ++ m).getD j b = l.getD j b := by
  rw [List.getD_eq_getElem?_getD, List.getD_eq_getElem?_getD, List.getElem?_append_left h]
end DM

namespace pileruns_k04_runs_walked
open PySem PySem.Spec PyProof.Rows L2 DM
open PyProof.Rows (b2i)

def topS (i : Nat) : Stmt := PySem.Challenge.pw_pileruns_k04_runs_walked.main.body.getD i (.Pass ⟨0, 0, 0, 0⟩)
abbrev st__law_deck : Stmt := topS 13
abbrev N__law_deck : List Str := ["_law_script", "_law_cells"]
theorem sc__law_deck : FnScope N__law_deck ["_law_script"] (defScope st__law_deck) := ⟨rfl, rfl, rfl, by decide +kernel, rfl, by decide +kernel, by decide +kernel⟩
abbrev st__law_draw : Stmt := topS 14
abbrev N__law_draw : List Str := ["_law_deck_here", "_law_most", "_law_at", "_law_cells", "_law_seed", "_law_number"]
theorem sc__law_draw : FnScope N__law_draw ["_law_deck_here", "_law_most"] (defScope st__law_draw) := ⟨rfl, rfl, rfl, by decide +kernel, rfl, by decide +kernel, by decide +kernel⟩
abbrev st__law_names : Stmt := topS 16
abbrev N__law_names : List Str := ["_law_deck_here", "_law_many", "_law_letters", "_law_signs", "_law_way", "_law_word", "_law_at", "_law_long", "_law_found", "_law_k", "_law_some", "_law_spot", "_law_sign", "_law_left", "_law_turned"]
theorem sc__law_names : FnScope N__law_names ["_law_deck_here", "_law_many"] (defScope st__law_names) := ⟨rfl, rfl, rfl, by decide +kernel, rfl, by decide +kernel, by decide +kernel⟩
abbrev st__law_pick : Stmt := topS 15
abbrev N__law_pick : List Str := ["_law_deck_here", "_law_some"]
theorem sc__law_pick : FnScope N__law_pick ["_law_deck_here", "_law_some"] (defScope st__law_pick) := ⟨rfl, rfl, rfl, by decide +kernel, rfl, by decide +kernel, by decide +kernel⟩
abbrev st__law_program : Stmt := topS 17
abbrev N__law_program : List Str := ["_law_deck_here", "_law_places", "_law_marks", "_law_many", "_law_sort", "_law_rules", "_law_k", "_law_size", "_law_put", "_law_ahead", "_law_top", "_law_j"]
theorem sc__law_program : FnScope N__law_program ["_law_deck_here", "_law_places", "_law_marks", "_law_many"] (defScope st__law_program) := ⟨rfl, rfl, rfl, by decide +kernel, rfl, by decide +kernel, by decide +kernel⟩
abbrev st__law_drawn : Stmt := topS 18
abbrev N__law_drawn : List Str := ["_law_deck_here", "_law_great", "_law_many", "_law_places", "_law_marks"]
theorem sc__law_drawn : FnScope N__law_drawn ["_law_deck_here"] (defScope st__law_drawn) := ⟨rfl, rfl, rfl, by decide +kernel, rfl, by decide +kernel, by decide +kernel⟩
abbrev st__law_behind : Stmt := topS 19
abbrev N__law_behind : List Str := ["_law_program_here", "_law_stand", "_law_number", "_law_place", "_law_pile", "_law_there", "_law_top", "_law_on", "_law_put"]
theorem sc__law_behind : FnScope N__law_behind ["_law_program_here", "_law_stand", "_law_number"] (defScope st__law_behind) := ⟨rfl, rfl, rfl, by decide +kernel, rfl, by decide +kernel, by decide +kernel⟩
abbrev st__law_gone : Stmt := topS 21
abbrev N__law_gone : List Str := ["_law_deck_here", "_law_program_here", "_law_stand", "_law_most", "_law_run", "_law_k", "_law_some", "_law_number"]
theorem sc__law_gone : FnScope N__law_gone ["_law_deck_here", "_law_program_here", "_law_stand", "_law_most"] (defScope st__law_gone) := ⟨rfl, rfl, rfl, by decide +kernel, rfl, by decide +kernel, by decide +kernel⟩
abbrev st__law_due : Stmt := topS 20
abbrev N__law_due : List Str := ["_law_program_here", "_law_stand", "_law_run", "_law_at"]
theorem sc__law_due : FnScope N__law_due ["_law_program_here", "_law_stand", "_law_run"] (defScope st__law_due) := ⟨rfl, rfl, rfl, by decide +kernel, rfl, by decide +kernel, by decide +kernel⟩
abbrev st_behind : Stmt := topS 10
abbrev N_behind : List Str := ["program", "stand", "number", "place", "pile", "there", "top", "on", "put"]
theorem sc_behind : FnScope N_behind ["program", "stand", "number"] (defScope st_behind) := ⟨rfl, rfl, rfl, by decide +kernel, rfl, by decide +kernel, by decide +kernel⟩
abbrev st_walked : Stmt := topS 11
abbrev N_walked : List Str := ["program", "stand", "run", "at", "number"]
theorem sc_walked : FnScope N_walked ["program", "stand", "run"] (defScope st_walked) := ⟨rfl, rfl, rfl, by decide +kernel, rfl, by decide +kernel, by decide +kernel⟩
abbrev st__law_told : Stmt := topS 22
abbrev N__law_told : List Str := ["_law_program_here", "_law_stand", "_law_run", "e", "_law_others"]
theorem sc__law_told : FnScope N__law_told ["_law_program_here", "_law_stand", "_law_run"] (defScope st__law_told) := ⟨rfl, rfl, rfl, by decide +kernel, rfl, by decide +kernel, by decide +kernel⟩
abbrev st__law_right : Stmt := topS 23
abbrev N__law_right : List Str := ["_law_program_here", "_law_stand", "_law_run", "_law_due_here", "_law_found", "_law_one"]
theorem sc__law_right : FnScope N__law_right ["_law_program_here", "_law_stand", "_law_run"] (defScope st__law_right) := ⟨rfl, rfl, rfl, by decide +kernel, rfl, by decide +kernel, by decide +kernel⟩
abbrev st__law_bent : Stmt := topS 24
abbrev N__law_bent : List Str := ["_law_deck_here", "_law_run", "_law_many", "_law_at", "_law_other", "_law_some"]
theorem sc__law_bent : FnScope N__law_bent ["_law_deck_here", "_law_run", "_law_many"] (defScope st__law_bent) := ⟨rfl, rfl, rfl, by decide +kernel, rfl, by decide +kernel, by decide +kernel⟩
abbrev st_law : Stmt := topS 25
abbrev N_law : List Str := ["_law_script", "_law_deck_here", "_law_way", "_law_program_here", "_law_places", "_law_marks", "_law_turn", "_law_stand", "_law_one", "_law_run", "_law_again", "_law_place", "_law_mark", "_law_long", "_law_k"]
theorem sc_law : FnScope N_law ["_law_script"] (defScope st_law) := ⟨rfl, rfl, rfl, by decide +kernel, rfl, by decide +kernel, by decide +kernel⟩
abbrev st_NoRun_init : Stmt := memS (topS 2) 0
theorem sc_NoRun_init : FnScope ["self", "at"] ["self", "at"] (defScope st_NoRun_init) := ⟨rfl, rfl, rfl, by decide +kernel, rfl, by decide +kernel, by decide +kernel⟩
structure Exs (K : PySem.W.Frag) (mg : Str → Option Value) (f_PileError f_NoRun f_NoText f_TooLong f_TooMany f_NoTable f_NoRule f_NoRow f_NoRun_init : Addr) : Prop where
  c_PileError : ClF K f_PileError
  m_PileError : mg "PileError" = some (.ref f_PileError)
  c_NoRun : ClF K f_NoRun
  m_NoRun : mg "NoRun" = some (.ref f_NoRun)
  c_NoText : ClF K f_NoText
  m_NoText : mg "NoText" = some (.ref f_NoText)
  c_TooLong : ClF K f_TooLong
  m_TooLong : mg "TooLong" = some (.ref f_TooLong)
  c_TooMany : ClF K f_TooMany
  m_TooMany : mg "TooMany" = some (.ref f_TooMany)
  c_NoTable : ClF K f_NoTable
  m_NoTable : mg "NoTable" = some (.ref f_NoTable)
  c_NoRule : ClF K f_NoRule
  m_NoRule : mg "NoRule" = some (.ref f_NoRule)
  c_NoRow : ClF K f_NoRow
  m_NoRow : mg "NoRow" = some (.ref f_NoRow)
  s_NoRun_PileError : PySem.W.subIn K (.ref f_NoRun) (.ref f_PileError) = some true
  s_NoRun_NoRun : PySem.W.subIn K (.ref f_NoRun) (.ref f_NoRun) = some true
  s_NoRun_NoText : PySem.W.subIn K (.ref f_NoRun) (.ref f_NoText) = some false
  s_NoRun_TooLong : PySem.W.subIn K (.ref f_NoRun) (.ref f_TooLong) = some false
  s_NoRun_TooMany : PySem.W.subIn K (.ref f_NoRun) (.ref f_TooMany) = some false
  s_NoRun_NoTable : PySem.W.subIn K (.ref f_NoRun) (.ref f_NoTable) = some false
  s_NoRun_NoRule : PySem.W.subIn K (.ref f_NoRun) (.ref f_NoRule) = some false
  s_NoRun_NoRow : PySem.W.subIn K (.ref f_NoRun) (.ref f_NoRow) = some false
  o_NoRun : OexC K f_NoRun
  i_NoRun : PySem.W.findIn K (.ref f_NoRun) "__init__" = some (some (.ref f_NoRun_init))
  ti_NoRun : PySem.W.typeIn K (.ref f_NoRun_init) = some (.type "function")
  n_NoRun : PySem.W.findIn K (.ref f_NoRun) "at" = some none
  b1_PileError : PySem.W.specialIn K (.ref f_PileError) "__getattribute__" = some (some (.builtin "type.__getattribute__"))
  b2_PileError : PySem.W.readsIn K f_PileError (.type "type") = true
  b3_PileError : PySem.W.findCls K (.ref f_PileError) (.type "type") "__init__" = some (.val (.builtin "ValueError.__init__"))
section
variable {P : Program} {w : World} {K : PySem.W.Frag} {mg : Str → Option Value} {base : Heap}
theorem ok_NoRun_init {f_PileError f_NoRun f_NoText f_TooLong f_TooMany f_NoTable f_NoRule f_NoRow f_NoRun_init : Addr} {fd : FuncData} (F : Fun K "__init__" "NoRun.__init__" st_NoRun_init f_NoRun_init fd) (TX : Exs K mg f_PileError f_NoRun f_NoText f_TooLong f_TooMany f_NoTable f_NoRule f_NoRow f_NoRun_init) (z_str : mg "str" = none) : FnOk P w K mg base CX0 1 f_NoRun_init fd ["self", "at"] (spInit f_NoRun "at") := by
  refine ok_init F sc_NoRun_init TX.o_NoRun TX.n_NoRun (tStrI_ok (z := "no run, at ") (by decide)) fun cdv A outer s H E => ?_
  exact pss_cons (ps_expr (pe_binit (by rfl) TX.m_PileError TX.b1_PileError TX.b2_PileError TX.b3_PileError (pa_cons (pv 0) (pa_cons (pe_op op_add_str pe_str (pe_callTy call_str_int (by rfl) z_str PyProof.Rows.boot_str (pa_cons (pv 1) pa_nil))) pa_nil)))) (pss_one (ps_ost (pv 0) (pv 1)))
theorem draw_small {a : Int} (h0 : 0 ≤ a) (h1 : a ≤ 2 ^ 61) : a.natAbs < 2 ^ 62 := by omega
theorem draw_mod (a : Int) {m : Int} (h0 : 0 < m) (h1 : m ≤ 2 ^ 62) : (a % m).natAbs < 2 ^ 62 := by
  have := Int.emod_nonneg a (by omega : m ≠ 0)
  have := Int.emod_lt_of_pos a h0
  omega
theorem draw_tail {t most : Int} (t0 : 0 ≤ t) (t1 : t ≤ 2 ^ 61) (m0 : 0 < most) (m1 : most ≤ 2 ^ 62) (seed : Int) {Q : Int → Prop} (h : ∀ n, 0 ≤ n → n < most → Q n) :
    (0 : Int) < 2147483647 ∧ CMulW (seed % 2147483647) 48271 ∧ CMulW 69621 t ∧ CMulW (69621 * t) t ∧ (0 : Int) < 2147483629 ∧
      CMulW ((seed % 2147483647 * 48271 + 69621 * t * t + 7919) % 2147483629) ((seed % 2147483647 * 48271 + 69621 * t * t + 7919) % 2147483629) ∧ (0 : Int) < 2147483587 ∧
      CMulW ((seed % 2147483647 * 48271 + 69621 * t * t + 7919) % 2147483629 * ((seed % 2147483647 * 48271 + 69621 * t * t + 7919) % 2147483629) % 2147483587)
        ((seed % 2147483647 * 48271 + 69621 * t * t + 7919) % 2147483629 * ((seed % 2147483647 * 48271 + 69621 * t * t + 7919) % 2147483629) % 2147483587 + 39373) ∧ (0 : Int) < 2147483563 ∧
      CDivW ((seed % 2147483647 * 48271 + 69621 * t * t + 7919) % 2147483629 * ((seed % 2147483647 * 48271 + 69621 * t * t + 7919) % 2147483629) % 2147483587 *
        ((seed % 2147483647 * 48271 + 69621 * t * t + 7919) % 2147483629 * ((seed % 2147483647 * 48271 + 69621 * t * t + 7919) % 2147483629) % 2147483587 + 39373) % 2147483563) 64 ∧ 0 < most ∧
      Q ((seed % 2147483647 * 48271 + 69621 * t * t + 7919) % 2147483629 * ((seed % 2147483647 * 48271 + 69621 * t * t + 7919) % 2147483629) % 2147483587 *
        ((seed % 2147483647 * 48271 + 69621 * t * t + 7919) % 2147483629 * ((seed % 2147483647 * 48271 + 69621 * t * t + 7919) % 2147483629) % 2147483587 + 39373) % 2147483563 / 64 % most) := by
  have b1 := draw_mod seed (m := 2147483647) (by decide) (by decide)
  have bt : t.natAbs < 2 ^ 62 := draw_small t0 t1
  have b2 : (69621 * t).natAbs < 2 ^ (62 + 62) := nabs_mul (by decide) bt
  generalize seed % 2147483647 * 48271 + 69621 * t * t + 7919 = u
  have b3 := draw_mod u (m := 2147483629) (by decide) (by decide)
  generalize u % 2147483629 = v at *
  have b4 := draw_mod (v * v) (m := 2147483587) (by decide) (by decide)
  have b5 : (v * v % 2147483587 + 39373).natAbs < 2 ^ 63 := by
    have := Int.emod_nonneg (v * v) (by decide : (2147483587 : Int) ≠ 0)
    have := Int.emod_lt_of_pos (v * v) (by decide : (0 : Int) < 2147483587)
    omega
  refine ⟨by decide, cmul_ok (nabs_up b1 (by decide)) (by decide), cmul_ok (by decide) (nabs_up bt (by decide)), cmul_ok (nabs_up b2 (by decide)) (nabs_up bt (by decide)), by decide, cmul_ok (nabs_up b3 (by decide)) (nabs_up b3 (by decide)), by decide,
    cmul_ok (nabs_up b4 (by decide)) (nabs_up b5 (by decide)), by decide, cdiv_ok (by decide) (by decide), m0, h _ (Int.emod_nonneg _ (by omega)) (Int.emod_lt_of_pos _ m0)⟩
/-- a draw: some number below most; one draw less is left -/
def sp__law_draw : DSp := fun ds M R => ∃ (d : Addr) (most : Int), ds = [.ref d, .int most] ∧ ∃ c r, Deck M d c (r + 1) ∧ (0 < most ∧ most ≤ 2 ^ 62) ∧ ∀ n M', 0 ≤ n → n < most → Deck M' d c r → Upto d c M M' → R (.int n) M'
theorem draw_go {M : Mm} {d c : Addr} {r : Nat} {most : Int} {R : DQ} (D0 : Deck M d c (r + 1)) (h0 : 0 < most) (h1 : most ≤ 2 ^ 62) (k : ∀ n M', 0 ≤ n → n < most → Deck M' d c r → Upto d c M M' → R (.int n) M') : sp__law_draw [.ref d, .int most] M R := ⟨d, most, rfl, c, r, D0, ⟨h0, h1⟩, k⟩
theorem draw_B {M M0 : Mm} {d c : Addr} {n : Nat} {L : List (Addr × MO)} {most : Int} {R : DQ} (b : Bx d c n M0 L M) (hn : 1 ≤ n) (h0 : 0 < most) (h1 : most ≤ 2 ^ 62) (k : ∀ i M', 0 ≤ i → i < most → Bx d c (n - 1) M0 L M' → R (.int i) M') : sp__law_draw [.ref d, .int most] M R :=
  draw_go (r := n - 1) (b.dk.mono (by omega)) h0 h1 fun i M' h0 h1 D U => k i M' h0 h1 (b.call D U)
theorem ok__law_draw {f__law_draw : Addr} {fd__law_draw : FuncData} (F__law_draw : Fun K "_law_draw" "_law_draw" st__law_draw f__law_draw fd__law_draw) : FnOk P w K mg base CX0 1 f__law_draw fd__law_draw ["_law_deck_here", "_law_most"] (toSp K sp__law_draw) := by
  refine fn_ok (k := 0) F__law_draw sc__law_draw (fun ds M R h => ?_) (fun cdv A outer s H E hr => ⟨_, (jb_cons (js_dput hr (jv 0) je_str (je_add (je_dget hr (jv 0) je_str) je_int))
      (jb_cons (js_set (i := 2) sc__law_draw.nd (je_dget hr (jv 0) je_str))
      (jb_cons (js_set (i := 3) sc__law_draw.nd (je_dget hr (jv 0) je_str))
      (jb_cons (js_set (i := 4) sc__law_draw.nd (je_add (je_dget hr (jv 0) je_str) (jv 2)))
      (jb_cons (js_if (jt_ne hr (jv 3) (je_frz (jl_disp ja_nil))) (jb_cons (js_set (i := 4) sc__law_draw.nd (je_popAt (jv 3) je_int)) (jb_one (js_if (jt_ge (jv 4) (je_pow je_int je_int)) (jb_cons (js_expr (je_insert (jv 3) je_int (je_fdiv (jv 4) (jv 1)))) (jb_one (js_ret (je_mod (jv 4) (jv 1))))) jb_nil))) jb_nil)
      (jb_cons (js_set (i := 5) sc__law_draw.nd (je_mod (je_add (je_add (je_mul (je_mod (jv 4) je_int) je_int) (je_mul (je_mul je_int (jv 2)) (jv 2))) je_int) je_int))
      (jb_cons (js_set (i := 5) sc__law_draw.nd (je_mod (je_mul (jv 5) (jv 5)) je_int))
      (jb_one (js_ret (je_mod (je_fdiv (je_mod (je_mul (jv 5) (je_add (jv 5) je_int)) je_int) je_int) (jv 1))))))))))), fun ds M R h => ?_⟩)
  · unfold sp__law_draw at h
    first | (obtain ⟨rfl, _⟩ := h; rfl) | (obtain ⟨_, rfl, _⟩ := h; rfl) | (obtain ⟨_, _, rfl, _⟩ := h; rfl) | (obtain ⟨_, _, _, rfl, _⟩ := h; rfl) | (obtain ⟨_, _, _, _, rfl, _⟩ := h; rfl) | (obtain ⟨_, _, _, _, _, rfl, _⟩ := h; rfl) | (obtain ⟨_, _, _, _, _, _, rfl, _⟩ := h; rfl) | (obtain ⟨_, _, _, _, _, _, _, rfl, _⟩ := h; rfl) | (obtain ⟨_, _, _, _, _, _, _, _, rfl, _⟩ := h; rfl) | (split at h <;> first | rfl | exact h.elim)
  · unfold sp__law_draw at h
    obtain ⟨d, most, rfl, c, r, ⟨hdc, ⟨cs, at_, sm⟩, ⟨o1, o2, o3⟩, e1, e2⟩, ⟨hm0, hm1⟩, k⟩ := h
    simp only at o1 o2 o3 e1 e2
    have hcd := hdc.symm
    have f1 := dicOf_some e1
    simp only [dSeq, dNext, dBreak, dCont, dDrop, dRet, dRetN, dIfS, dAsg, dputS, dlputS, dOp, dVar, dC, dget_zero, dget_succ, dTest, isB, dNil, dCons, dgName, dTup, dCB, dFresh, dFrz, dFreshD, dFrzD, dDispD, dDisp, dBM, dBM0, dAndV, dOrV, dNotV, dAnd, dOr, dNot, dCall, dNeg, dIf, dFor, dSl, dPart, dNoPart, diRng1, diRng2, diAny, isI, dstart, List.set_cons_zero, List.set_cons_succ, List.map_cons, List.map_nil, List.length_cons, List.length_nil, List.cons_append, List.nil_append, Nat.reduceAdd, Nat.reduceSub, Int.reduceAdd, Int.reduceSub, List.replicate, isLst, dgTup, dgCons, dgNil, dListOf, dJoin, dIndex, dRev, diZip, dPar2, diEnum, dRetX, dDropX, dAsgX, dCallX, dConsX, dTupX, dFrzX, dRaise0, dRaise1, dTryAs, dTryOnly, dXf, asEnds, dLc, wipeD, dCat, dSlL, dPairs, dGet2, dGet1, isDic, ite_true, ite_false, if_true, if_false, reduceIte, Bool.false_eq_true, Bool.true_eq_false, and_true, true_and, rdL_lst, rdL_ref, rdS_lst, rdS_ref, rdS_tup, rdD_dic, rdD_ref, addR_ii, addR_ib, addR_ss, addR_tt, addR_LL, subR_ii, mulR_ii, mulA_ii, mulA_t, mulA_L, modR_ii, fdivR_ii, powR_ii, ltR_ii, leR_ii, gtR_ii, geR_ii, keyD_s, keyD_i, dgetR, eqR_ii, eqR_ss, eqR_bb, eqR_tt, eqR_LL, neR_ii, neR_ss, neR_bb, neR_tt, neR_LL, eqM_ii, eqM_ss, eqM_bb, eqM_tt, eqM_LL, okD_i, okD_s, okD_b, okD_n, okD_t, okD_L, deck_at, deck_sum, deck_cells, deck_len, deck_put, dicOf_mup_same, lstOf_mup_same, int1R_b, int1R_i, ix_t0, ix_t1, ix_t2, ix_t3, ix_t4, lenR_t, lenR_s, lenR_L, slR_t, slR_s, slR_L, cutL_from1, cutL_from2, revR_t, revR_L, tup1R_L, tup1R_t, beq_self_eq_true, Bool.not_true, Bool.not_false, Option.isSome_some, List.isEmpty_nil, List.isEmpty_cons, isR_nn, isR_tn, isR_Ln, isR_sn, isR_in, isR_bn, isR_bb, isNotR_nn, isNotR_tn, isNotR_Ln, isNotR_sn, isNotR_in, isNotR_bn, isNotR_bb, isi_t_bool, isi_t_int, isi_t_str, isi_t_tuple, isi_t_list, isi_t_dict, isi_s_bool, isi_s_int, isi_s_str, isi_s_tuple, isi_s_list, isi_s_dict, isi_i_bool, isi_i_int, isi_i_str, isi_i_tuple, isi_i_list, isi_i_dict, isi_b_bool, isi_b_int, isi_b_str, isi_b_tuple, isi_b_list, isi_b_dict, isi_n_bool, isi_n_int, isi_n_str, isi_n_tuple, isi_n_list, isi_n_dict, isi_L_bool, isi_L_int, isi_L_str, isi_L_tuple, isi_L_list, isi_L_dict, isi_d_bool, isi_d_int, isi_d_str, isi_d_tuple, isi_d_list, isi_d_dict, natlit_eq, Int.reduceNeg, N__law_draw, f1]
    refine ⟨by decide, by decide, ?_⟩
    have g1 : lstOf (mup M d (.dic (deckD c ⟨cs, at_ + 1, sm⟩))) c = some (cs.map D.int) := by
      rw [lstOf_mup_ne hcd]
      exact lstOf_some e2
    refine ne_nil_l g1 (pureDs_int _) (Nat.le_trans (depDs_int _) (by decide)) ?_
    simp only [dSeq, dNext, dBreak, dCont, dDrop, dRet, dRetN, dIfS, dAsg, dputS, dlputS, dOp, dVar, dC, dget_zero, dget_succ, dTest, isB, dNil, dCons, dgName, dTup, dCB, dFresh, dFrz, dFreshD, dFrzD, dDispD, dDisp, dBM, dBM0, dAndV, dOrV, dNotV, dAnd, dOr, dNot, dCall, dNeg, dIf, dFor, dSl, dPart, dNoPart, diRng1, diRng2, diAny, isI, dstart, List.set_cons_zero, List.set_cons_succ, List.map_cons, List.map_nil, List.length_cons, List.length_nil, List.cons_append, List.nil_append, Nat.reduceAdd, Nat.reduceSub, Int.reduceAdd, Int.reduceSub, List.replicate, isLst, dgTup, dgCons, dgNil, dListOf, dJoin, dIndex, dRev, diZip, dPar2, diEnum, dRetX, dDropX, dAsgX, dCallX, dConsX, dTupX, dFrzX, dRaise0, dRaise1, dTryAs, dTryOnly, dXf, asEnds, dLc, wipeD, dCat, dSlL, dPairs, dGet2, dGet1, isDic, ite_true, ite_false, if_true, if_false, reduceIte, Bool.false_eq_true, Bool.true_eq_false, and_true, true_and, rdL_lst, rdL_ref, rdS_lst, rdS_ref, rdS_tup, rdD_dic, rdD_ref, addR_ii, addR_ib, addR_ss, addR_tt, addR_LL, subR_ii, mulR_ii, mulA_ii, mulA_t, mulA_L, modR_ii, fdivR_ii, powR_ii, ltR_ii, leR_ii, gtR_ii, geR_ii, keyD_s, keyD_i, dgetR, eqR_ii, eqR_ss, eqR_bb, eqR_tt, eqR_LL, neR_ii, neR_ss, neR_bb, neR_tt, neR_LL, eqM_ii, eqM_ss, eqM_bb, eqM_tt, eqM_LL, okD_i, okD_s, okD_b, okD_n, okD_t, okD_L, deck_at, deck_sum, deck_cells, deck_len, deck_put, dicOf_mup_same, lstOf_mup_same, int1R_b, int1R_i, ix_t0, ix_t1, ix_t2, ix_t3, ix_t4, lenR_t, lenR_s, lenR_L, slR_t, slR_s, slR_L, cutL_from1, cutL_from2, revR_t, revR_L, tup1R_L, tup1R_t, beq_self_eq_true, Bool.not_true, Bool.not_false, Option.isSome_some, List.isEmpty_nil, List.isEmpty_cons, isR_nn, isR_tn, isR_Ln, isR_sn, isR_in, isR_bn, isR_bb, isNotR_nn, isNotR_tn, isNotR_Ln, isNotR_sn, isNotR_in, isNotR_bn, isNotR_bb, isi_t_bool, isi_t_int, isi_t_str, isi_t_tuple, isi_t_list, isi_t_dict, isi_s_bool, isi_s_int, isi_s_str, isi_s_tuple, isi_s_list, isi_s_dict, isi_i_bool, isi_i_int, isi_i_str, isi_i_tuple, isi_i_list, isi_i_dict, isi_b_bool, isi_b_int, isi_b_str, isi_b_tuple, isi_b_list, isi_b_dict, isi_n_bool, isi_n_int, isi_n_str, isi_n_tuple, isi_n_list, isi_n_dict, isi_L_bool, isi_L_int, isi_L_str, isi_L_tuple, isi_L_list, isi_L_dict, isi_d_bool, isi_d_int, isi_d_str, isi_d_tuple, isi_d_list, isi_d_dict, natlit_eq, Int.reduceNeg, g1]
    have t0 : 0 ≤ at_ + 1 := by omega
    have t1 : at_ + 1 ≤ 2 ^ 61 := by omega
    have t2 : at_ + 1 + (r : Int) ≤ 2 ^ 60 := by omega
    -- the answer, the deck's cells being cs'
    have fin : ∀ (cs' : List Int) (M1 : Mm), cs'.length ≤ 63 → (∀ a, a ≠ d → a ≠ c → M1 a = M a) → M1 d = some (.dic (deckD c ⟨cs, at_ + 1, sm⟩)) → M1 c = some (.lst (cs'.map D.int)) → ∀ n, 0 ≤ n → n < most → Shr R (.int n) M1 := by
      intro cs' M1 hl hM h1 h2 n n0 n1
      exact Shr.all (k n _ n0 n1 ⟨hdc, ⟨cs', at_ + 1, sm⟩, ⟨hl, t0, t2⟩, h1, h2⟩ hM)
    cases cs with
    | nil =>
      simp only [List.map_nil, List.isEmpty_nil, Bool.not_true, dSeq, dNext, dBreak, dCont, dDrop, dRet, dRetN, dIfS, dAsg, dputS, dlputS, dOp, dVar, dC, dget_zero, dget_succ, dTest, isB, dNil, dCons, dgName, dTup, dCB, dFresh, dFrz, dFreshD, dFrzD, dDispD, dDisp, dBM, dBM0, dAndV, dOrV, dNotV, dAnd, dOr, dNot, dCall, dNeg, dIf, dFor, dSl, dPart, dNoPart, diRng1, diRng2, diAny, isI, dstart, List.set_cons_zero, List.set_cons_succ, List.map_cons, List.map_nil, List.length_cons, List.length_nil, List.cons_append, List.nil_append, Nat.reduceAdd, Nat.reduceSub, Int.reduceAdd, Int.reduceSub, List.replicate, isLst, dgTup, dgCons, dgNil, dListOf, dJoin, dIndex, dRev, diZip, dPar2, diEnum, dRetX, dDropX, dAsgX, dCallX, dConsX, dTupX, dFrzX, dRaise0, dRaise1, dTryAs, dTryOnly, dXf, asEnds, dLc, wipeD, dCat, dSlL, dPairs, dGet2, dGet1, isDic, ite_true, ite_false, if_true, if_false, reduceIte, Bool.false_eq_true, Bool.true_eq_false, and_true, true_and, rdL_lst, rdL_ref, rdS_lst, rdS_ref, rdS_tup, rdD_dic, rdD_ref, addR_ii, addR_ib, addR_ss, addR_tt, addR_LL, subR_ii, mulR_ii, mulA_ii, mulA_t, mulA_L, modR_ii, fdivR_ii, powR_ii, ltR_ii, leR_ii, gtR_ii, geR_ii, keyD_s, keyD_i, dgetR, eqR_ii, eqR_ss, eqR_bb, eqR_tt, eqR_LL, neR_ii, neR_ss, neR_bb, neR_tt, neR_LL, eqM_ii, eqM_ss, eqM_bb, eqM_tt, eqM_LL, okD_i, okD_s, okD_b, okD_n, okD_t, okD_L, deck_at, deck_sum, deck_cells, deck_len, deck_put, dicOf_mup_same, lstOf_mup_same, int1R_b, int1R_i, ix_t0, ix_t1, ix_t2, ix_t3, ix_t4, lenR_t, lenR_s, lenR_L, slR_t, slR_s, slR_L, cutL_from1, cutL_from2, revR_t, revR_L, tup1R_L, tup1R_t, beq_self_eq_true, Bool.not_true, Bool.not_false, Option.isSome_some, List.isEmpty_nil, List.isEmpty_cons, isR_nn, isR_tn, isR_Ln, isR_sn, isR_in, isR_bn, isR_bb, isNotR_nn, isNotR_tn, isNotR_Ln, isNotR_sn, isNotR_in, isNotR_bn, isNotR_bb, isi_t_bool, isi_t_int, isi_t_str, isi_t_tuple, isi_t_list, isi_t_dict, isi_s_bool, isi_s_int, isi_s_str, isi_s_tuple, isi_s_list, isi_s_dict, isi_i_bool, isi_i_int, isi_i_str, isi_i_tuple, isi_i_list, isi_i_dict, isi_b_bool, isi_b_int, isi_b_str, isi_b_tuple, isi_b_list, isi_b_dict, isi_n_bool, isi_n_int, isi_n_str, isi_n_tuple, isi_n_list, isi_n_dict, isi_L_bool, isi_L_int, isi_L_str, isi_L_tuple, isi_L_list, isi_L_dict, isi_d_bool, isi_d_int, isi_d_str, isi_d_tuple, isi_d_list, isi_d_dict, natlit_eq, Int.reduceNeg]
      refine draw_tail t0 t1 hm0 hm1 _ fun n n0 n1 => fin [] _ (by decide) (fun a h1 h2 => ?_) ?_ ?_ n n0 n1
      · rw [mup_ne h1]
      · rw [mup_same]
      · rw [mup_ne hcd]; exact e2
    | cons z zs =>
      rw [List.map_cons] at g1
      simp only [List.map_cons, List.isEmpty_cons, Bool.not_false, dSeq, dNext, dBreak, dCont, dDrop, dRet, dRetN, dIfS, dAsg, dputS, dlputS, dOp, dVar, dC, dget_zero, dget_succ, dTest, isB, dNil, dCons, dgName, dTup, dCB, dFresh, dFrz, dFreshD, dFrzD, dDispD, dDisp, dBM, dBM0, dAndV, dOrV, dNotV, dAnd, dOr, dNot, dCall, dNeg, dIf, dFor, dSl, dPart, dNoPart, diRng1, diRng2, diAny, isI, dstart, List.set_cons_zero, List.set_cons_succ, List.map_cons, List.map_nil, List.length_cons, List.length_nil, List.cons_append, List.nil_append, Nat.reduceAdd, Nat.reduceSub, Int.reduceAdd, Int.reduceSub, List.replicate, isLst, dgTup, dgCons, dgNil, dListOf, dJoin, dIndex, dRev, diZip, dPar2, diEnum, dRetX, dDropX, dAsgX, dCallX, dConsX, dTupX, dFrzX, dRaise0, dRaise1, dTryAs, dTryOnly, dXf, asEnds, dLc, wipeD, dCat, dSlL, dPairs, dGet2, dGet1, isDic, ite_true, ite_false, if_true, if_false, reduceIte, Bool.false_eq_true, Bool.true_eq_false, and_true, true_and, rdL_lst, rdL_ref, rdS_lst, rdS_ref, rdS_tup, rdD_dic, rdD_ref, addR_ii, addR_ib, addR_ss, addR_tt, addR_LL, subR_ii, mulR_ii, mulA_ii, mulA_t, mulA_L, modR_ii, fdivR_ii, powR_ii, ltR_ii, leR_ii, gtR_ii, geR_ii, keyD_s, keyD_i, dgetR, eqR_ii, eqR_ss, eqR_bb, eqR_tt, eqR_LL, neR_ii, neR_ss, neR_bb, neR_tt, neR_LL, eqM_ii, eqM_ss, eqM_bb, eqM_tt, eqM_LL, okD_i, okD_s, okD_b, okD_n, okD_t, okD_L, deck_at, deck_sum, deck_cells, deck_len, deck_put, dicOf_mup_same, lstOf_mup_same, int1R_b, int1R_i, ix_t0, ix_t1, ix_t2, ix_t3, ix_t4, lenR_t, lenR_s, lenR_L, slR_t, slR_s, slR_L, cutL_from1, cutL_from2, revR_t, revR_L, tup1R_L, tup1R_t, beq_self_eq_true, Bool.not_true, Bool.not_false, Option.isSome_some, List.isEmpty_nil, List.isEmpty_cons, isR_nn, isR_tn, isR_Ln, isR_sn, isR_in, isR_bn, isR_bb, isNotR_nn, isNotR_tn, isNotR_Ln, isNotR_sn, isNotR_in, isNotR_bn, isNotR_bb, isi_t_bool, isi_t_int, isi_t_str, isi_t_tuple, isi_t_list, isi_t_dict, isi_s_bool, isi_s_int, isi_s_str, isi_s_tuple, isi_s_list, isi_s_dict, isi_i_bool, isi_i_int, isi_i_str, isi_i_tuple, isi_i_list, isi_i_dict, isi_b_bool, isi_b_int, isi_b_str, isi_b_tuple, isi_b_list, isi_b_dict, isi_n_bool, isi_n_int, isi_n_str, isi_n_tuple, isi_n_list, isi_n_dict, isi_L_bool, isi_L_int, isi_L_str, isi_L_tuple, isi_L_list, isi_L_dict, isi_d_bool, isi_d_int, isi_d_str, isi_d_tuple, isi_d_list, isi_d_dict, natlit_eq, Int.reduceNeg, popAtR, g1]
      refine ⟨⟨by decide, by decide⟩, ?_⟩
      simp only [Int.toNat_zero, List.getElem?_cons_zero, List.eraseIdx_cons_zero, dSeq, dNext, dBreak, dCont, dDrop, dRet, dRetN, dIfS, dAsg, dputS, dlputS, dOp, dVar, dC, dget_zero, dget_succ, dTest, isB, dNil, dCons, dgName, dTup, dCB, dFresh, dFrz, dFreshD, dFrzD, dDispD, dDisp, dBM, dBM0, dAndV, dOrV, dNotV, dAnd, dOr, dNot, dCall, dNeg, dIf, dFor, dSl, dPart, dNoPart, diRng1, diRng2, diAny, isI, dstart, List.set_cons_zero, List.set_cons_succ, List.map_cons, List.map_nil, List.length_cons, List.length_nil, List.cons_append, List.nil_append, Nat.reduceAdd, Nat.reduceSub, Int.reduceAdd, Int.reduceSub, List.replicate, isLst, dgTup, dgCons, dgNil, dListOf, dJoin, dIndex, dRev, diZip, dPar2, diEnum, dRetX, dDropX, dAsgX, dCallX, dConsX, dTupX, dFrzX, dRaise0, dRaise1, dTryAs, dTryOnly, dXf, asEnds, dLc, wipeD, dCat, dSlL, dPairs, dGet2, dGet1, isDic, ite_true, ite_false, if_true, if_false, reduceIte, Bool.false_eq_true, Bool.true_eq_false, and_true, true_and, rdL_lst, rdL_ref, rdS_lst, rdS_ref, rdS_tup, rdD_dic, rdD_ref, addR_ii, addR_ib, addR_ss, addR_tt, addR_LL, subR_ii, mulR_ii, mulA_ii, mulA_t, mulA_L, modR_ii, fdivR_ii, powR_ii, ltR_ii, leR_ii, gtR_ii, geR_ii, keyD_s, keyD_i, dgetR, eqR_ii, eqR_ss, eqR_bb, eqR_tt, eqR_LL, neR_ii, neR_ss, neR_bb, neR_tt, neR_LL, eqM_ii, eqM_ss, eqM_bb, eqM_tt, eqM_LL, okD_i, okD_s, okD_b, okD_n, okD_t, okD_L, deck_at, deck_sum, deck_cells, deck_len, deck_put, dicOf_mup_same, lstOf_mup_same, int1R_b, int1R_i, ix_t0, ix_t1, ix_t2, ix_t3, ix_t4, lenR_t, lenR_s, lenR_L, slR_t, slR_s, slR_L, cutL_from1, cutL_from2, revR_t, revR_L, tup1R_L, tup1R_t, beq_self_eq_true, Bool.not_true, Bool.not_false, Option.isSome_some, List.isEmpty_nil, List.isEmpty_cons, isR_nn, isR_tn, isR_Ln, isR_sn, isR_in, isR_bn, isR_bb, isNotR_nn, isNotR_tn, isNotR_Ln, isNotR_sn, isNotR_in, isNotR_bn, isNotR_bb, isi_t_bool, isi_t_int, isi_t_str, isi_t_tuple, isi_t_list, isi_t_dict, isi_s_bool, isi_s_int, isi_s_str, isi_s_tuple, isi_s_list, isi_s_dict, isi_i_bool, isi_i_int, isi_i_str, isi_i_tuple, isi_i_list, isi_i_dict, isi_b_bool, isi_b_int, isi_b_str, isi_b_tuple, isi_b_list, isi_b_dict, isi_n_bool, isi_n_int, isi_n_str, isi_n_tuple, isi_n_list, isi_n_dict, isi_L_bool, isi_L_int, isi_L_str, isi_L_tuple, isi_L_list, isi_L_dict, isi_d_bool, isi_d_int, isi_d_str, isi_d_tuple, isi_d_list, isi_d_dict, natlit_eq, Int.reduceNeg, insertR]
      refine ⟨⟨by decide, by decide, by decide⟩, ?_⟩
      have o1' : zs.length ≤ 62 := by simpa using o1
      split
      · refine ⟨cdiv_ok hm0 (by omega), ⟨?_, by decide, by decide⟩, hm0, ?_⟩
        · rw [List.length_map]
          exact Nat.lt_of_le_of_lt o1' (by decide)
        · refine fin (z / most :: zs) _ (by simpa using o1') (fun a h1 h2 => ?_) ?_ ?_ _ (Int.emod_nonneg _ (by omega)) (Int.emod_lt_of_pos _ hm0)
          · rw [mup_ne h2, mup_ne h2, mup_ne h1]
          · rw [mup_ne hdc, mup_ne hdc, mup_same]
          · rw [mup_same]
            rfl
      · refine draw_tail t0 t1 hm0 hm1 _ fun n n0 n1 => fin zs _ (by omega) (fun a h1 h2 => ?_) ?_ ?_ n n0 n1
        · rw [mup_ne h2, mup_ne h1]
        · rw [mup_ne hdc, mup_same]
        · rw [mup_same]
/-- names: so many -/
def sp__law_names : DSp := fun ds M R => ∃ (d : Addr) (many : Nat), ds = [.ref d, .int many] ∧ many ≤ 26 ∧ ∃ c r, Deck M d c (r + 100) ∧
  ∀ (ns : List Str) M', ns.length = many → (∀ n ∈ ns, NameS n) → Deck M' d c r → Upto d c M M' → R (.lst (ns.map D.str)) M'
theorem names_go {M : Mm} {d c : Addr} {r many : Nat} {R : DQ} (D0 : Deck M d c (r + 100)) (hm : many ≤ 26) (k : ∀ (ns : List Str) M', ns.length = many → (∀ n ∈ ns, NameS n) → Deck M' d c r → Upto d c M M' → R (.lst (ns.map D.str)) M') : sp__law_names [.ref d, .int many] M R := ⟨d, many, rfl, hm, c, r, D0, k⟩
theorem ok__law_names {f__law_names f__law_draw : Addr} {fd__law_names fd__law_draw : FuncData} (F__law_names : Fun K "_law_names" "_law_names" st__law_names f__law_names fd__law_names) (G__law_draw : FnOk P w K mg base CX0 1 f__law_draw fd__law_draw ["_law_deck_here", "_law_most"] (toSp K sp__law_draw)) (g__law_draw : mg "_law_draw" = some (.ref f__law_draw)) (k__law_draw : PySem.W.keepIn K (.ref f__law_draw) = true) (b__law_draw : Binds K fd__law_draw ["_law_deck_here", "_law_most"] []) (z_range : mg "range" = none) (z_int : mg "int" = none) (z_len : mg "len" = none) (z_list : mg "list" = none) : FnOk P w K mg base CX0 2 f__law_names fd__law_names ["_law_deck_here", "_law_many"] (toSp K sp__law_names) := by
  refine fn_ok (k := 1) F__law_names sc__law_names (fun ds M R h => ?_) (fun cdv A outer s H E hr => ⟨_, (jb_cons (js_set (i := 2) sc__law_names.nd je_str)
      (jb_cons (js_set (i := 3) sc__law_names.nd (je_add (jv 2) je_str))
      (jb_cons (js_set (i := 4) sc__law_names.nd (je_call G__law_draw (hr.mono (by decide)) (by rfl) g__law_draw k__law_draw b__law_draw (ja_cons (jv 0) (ja_cons je_int ja_nil))))
      (jb_cons (js_set (i := 5) sc__law_names.nd (je_add (je_ix (jv 2) (je_call G__law_draw (hr.mono (by decide)) (by rfl) g__law_draw k__law_draw b__law_draw (ja_cons (jv 0) (ja_cons je_int ja_nil)))) (je_join je_str (je_frz (jl_lc rfl sc__law_names.nd (jlc (ji_rng1 (by rfl) z_range je_int) (blkOk_by (own := [("_law_k", 9)]) (N := N__law_names) (sc := defScope st__law_names) (by decide +kernel)) (fun _ _ _ _ _ => (jgv_name (i := 9) sc__law_names.nd (by decide))) (fun _ _ _ _ _ => jts_nil) (fun _ _ _ _ _ => (je_ix (jv 3) (je_call G__law_draw (hr.mono (by decide)) (by rfl) g__law_draw k__law_draw b__law_draw (ja_cons (jv 0) (ja_cons je_int ja_nil)))))))))))
      (jb_cons (js_set (i := 6) sc__law_names.nd (je_call G__law_draw (hr.mono (by decide)) (by rfl) g__law_draw k__law_draw b__law_draw (ja_cons (jv 0) (ja_cons je_int ja_nil))))
      (jb_cons (js_set (i := 7) sc__law_names.nd (je_ix (je_frz (jl_disp (ja_cons (je_add je_int (je_call G__law_draw (hr.mono (by decide)) (by rfl) g__law_draw k__law_draw b__law_draw (ja_cons (jv 0) (ja_cons je_int ja_nil)))) (ja_cons (je_add (je_add (jv 6) je_int) (je_call G__law_draw (hr.mono (by decide)) (by rfl) g__law_draw k__law_draw b__law_draw (ja_cons (jv 0) (ja_cons (je_sub je_int (jv 6)) ja_nil)))) ja_nil)))) (je_int1 z_int (ja_cons (je_eq hr (jv 4) je_int) ja_nil))))
      (jb_cons (js_set (i := 8) sc__law_names.nd (je_fresh (jl_disp ja_nil)))
      (jb_cons (js_for PassesOwn.never rfl (ji_rng1 (by rfl) z_range (jv 1)) (jg_name (i := 9) sc__law_names.nd) (jb_one (js_if (JW.jt (jw_and (jt_eq hr (jv 4) je_int) (jw_and1 (jt_lt (jv 1) je_int)))) (jb_one (js_expr (je_append (jv 8) (je_slice (jv 5) jo_none (jo_some (je_add (jv 9) je_int)))))) (jb_cons (js_set (i := 10) sc__law_names.nd (je_ix (je_frz (jl_disp (ja_cons (jv 2) (ja_cons (jv 3) ja_nil)))) (je_int1 z_int (ja_cons (je_gt (jv 6) je_int) ja_nil)))) (jb_cons (js_set (i := 11) sc__law_names.nd (je_ix (je_frz (jl_disp (ja_cons je_int (ja_cons (jv 6) ja_nil)))) (je_int1 z_int (ja_cons (je_eq hr (jv 4) je_int) ja_nil)))) (jb_cons (js_set (i := 12) sc__law_names.nd (je_ix (jv 2) (je_mod (je_add (je_sindex (jv 2) (je_ix (jv 5) je_int)) (jv 9)) je_int))) (jb_cons (js_if (jt_gt (jv 11) je_int) (jb_one (js_set (i := 12) sc__law_names.nd (je_ix (jv 10) (je_mod (je_add (je_sindex (jv 10) (je_ix (jv 5) (jv 11))) (jv 9)) (je_len z_len (ja_cons (jv 10) ja_nil)))))) jb_nil) (jb_one (js_expr (je_append (jv 8) (je_add (je_add (je_slice (jv 5) jo_none (jo_some (jv 11))) (jv 12)) (je_slice (jv 5) (jo_some (je_add (jv 11) je_int)) (jo_some (jv 7))))))))))))))
      (jb_cons (js_set (i := 13) sc__law_names.nd (je_fresh (jl_list z_list (ja_cons (jv 8) ja_nil))))
      (jb_cons (js_set (i := 14) sc__law_names.nd (je_fresh (jl_disp ja_nil)))
      (jb_cons (js_while PassesOwn.never (jt_ne hr (jv 13) (je_frz (jl_disp ja_nil))) (jb_one (js_expr (je_append (jv 14) (je_popAt (jv 13) (je_call G__law_draw (hr.mono (by decide)) (by rfl) g__law_draw k__law_draw b__law_draw (ja_cons (jv 0) (ja_cons (je_len z_len (ja_cons (jv 13) ja_nil)) ja_nil))))))))
      (jb_one (js_ret (jv 14)))))))))))))), fun ds M R h => ?_⟩)
  · unfold sp__law_names at h
    first | (obtain ⟨rfl, _⟩ := h; rfl) | (obtain ⟨_, rfl, _⟩ := h; rfl) | (obtain ⟨_, _, rfl, _⟩ := h; rfl) | (obtain ⟨_, _, _, rfl, _⟩ := h; rfl) | (obtain ⟨_, _, _, _, rfl, _⟩ := h; rfl) | (obtain ⟨_, _, _, _, _, rfl, _⟩ := h; rfl) | (obtain ⟨_, _, _, _, _, _, rfl, _⟩ := h; rfl) | (obtain ⟨_, _, _, _, _, _, _, rfl, _⟩ := h; rfl) | (obtain ⟨_, _, _, _, _, _, _, _, rfl, _⟩ := h; rfl) | (split at h <;> first | rfl | exact h.elim)
  · unfold sp__law_names at h
    obtain ⟨d, many, rfl, hm, c, r, D0, k⟩ := h
    simp only [dSeq, dNext, dBreak, dCont, dDrop, dRet, dRetN, dIfS, dAsg, dputS, dlputS, dOp, dVar, dC, dget_zero, dget_succ, dTest, isB, dNil, dCons, dgName, dTup, dCB, dFresh, dFrz, dFreshD, dFrzD, dDispD, dDisp, dBM, dBM0, dAndV, dOrV, dNotV, dAnd, dOr, dNot, dCall, dNeg, dIf, dFor, dSl, dPart, dNoPart, diRng1, diRng2, diAny, isI, dstart, List.set_cons_zero, List.set_cons_succ, List.map_cons, List.map_nil, List.length_cons, List.length_nil, List.cons_append, List.nil_append, Nat.reduceAdd, Nat.reduceSub, Int.reduceAdd, Int.reduceSub, List.replicate, isLst, dgTup, dgCons, dgNil, dListOf, dJoin, dIndex, dRev, diZip, dPar2, diEnum, dRetX, dDropX, dAsgX, dCallX, dConsX, dTupX, dFrzX, dRaise0, dRaise1, dTryAs, dTryOnly, dXf, asEnds, dLc, wipeD, dCat, dSlL, dPairs, dGet2, dGet1, isDic, ite_true, ite_false, if_true, if_false, reduceIte, Bool.false_eq_true, Bool.true_eq_false, and_true, true_and, rdL_lst, rdL_ref, rdS_lst, rdS_ref, rdS_tup, rdD_dic, rdD_ref, addR_ii, addR_ib, addR_ss, addR_tt, addR_LL, subR_ii, mulR_ii, mulA_ii, mulA_t, mulA_L, modR_ii, fdivR_ii, powR_ii, ltR_ii, leR_ii, gtR_ii, geR_ii, keyD_s, keyD_i, dgetR, eqR_ii, eqR_ss, eqR_bb, eqR_tt, eqR_LL, neR_ii, neR_ss, neR_bb, neR_tt, neR_LL, eqM_ii, eqM_ss, eqM_bb, eqM_tt, eqM_LL, okD_i, okD_s, okD_b, okD_n, okD_t, okD_L, deck_at, deck_sum, deck_cells, deck_len, deck_put, dicOf_mup_same, lstOf_mup_same, int1R_b, int1R_i, ix_t0, ix_t1, ix_t2, ix_t3, ix_t4, lenR_t, lenR_s, lenR_L, slR_t, slR_s, slR_L, cutL_from1, cutL_from2, revR_t, revR_L, tup1R_L, tup1R_t, beq_self_eq_true, Bool.not_true, Bool.not_false, Option.isSome_some, List.isEmpty_nil, List.isEmpty_cons, isR_nn, isR_tn, isR_Ln, isR_sn, isR_in, isR_bn, isR_bb, isNotR_nn, isNotR_tn, isNotR_Ln, isNotR_sn, isNotR_in, isNotR_bn, isNotR_bb, isi_t_bool, isi_t_int, isi_t_str, isi_t_tuple, isi_t_list, isi_t_dict, isi_s_bool, isi_s_int, isi_s_str, isi_s_tuple, isi_s_list, isi_s_dict, isi_i_bool, isi_i_int, isi_i_str, isi_i_tuple, isi_i_list, isi_i_dict, isi_b_bool, isi_b_int, isi_b_str, isi_b_tuple, isi_b_list, isi_b_dict, isi_n_bool, isi_n_int, isi_n_str, isi_n_tuple, isi_n_list, isi_n_dict, isi_L_bool, isi_L_int, isi_L_str, isi_L_tuple, isi_L_list, isi_L_dict, isi_d_bool, isi_d_int, isi_d_str, isi_d_tuple, isi_d_list, isi_d_dict, natlit_eq, Int.reduceNeg, N__law_names]
    refine ⟨by decide +kernel, ?_⟩
    refine draw_go (r := r + 99) (D0.mono (by omega)) (by decide) (by decide) fun way M1 w0 w1 D1 U1 => ?_
    refine draw_go (r := r + 98) D1 (by decide) (by decide) fun i0 M2 a2 b2 D2 U2 => ?_
    obtain ⟨c0, hc0, mc0⟩ := lets_get (j := i0.toNat) (by omega)
    refine ix_s a2 (by rw [cps_lets]; exact hc0) (by decide +kernel) ⟨by decide, ?_⟩
    refine lcW_deck (d := d) (c := c) (r := r + 91) 1 (fun y => ∃ c, c ∈ sgns ∧ y = .str ⟨#[c]⟩) (by decide) (D2.mono (by simp [rangeD])) (fun _ _ => trivial) (fun x hx r' M3 N F D3 U3 hN => ?_) (fun ys M3 hl hP D3 U3 => ?_)
    · simp only [dNext, dBreak, dCont, dDrop, dRet, dRetN, dIfS, dAsg, dputS, dlputS, dOp, dVar, dC, dget_zero, dget_succ, dTest, isB, dNil, dCons, dgName, dTup, dCB, dFresh, dFrz, dFreshD, dFrzD, dDispD, dDisp, dBM, dBM0, dAndV, dOrV, dNotV, dAnd, dOr, dNot, dCall, dNeg, dIf, dFor, dSl, dPart, dNoPart, diRng1, diRng2, diAny, isI, dstart, List.set_cons_zero, List.set_cons_succ, List.map_cons, List.map_nil, List.length_cons, List.length_nil, List.cons_append, List.nil_append, Nat.reduceAdd, Nat.reduceSub, Int.reduceAdd, Int.reduceSub, List.replicate, isLst, dgTup, dgCons, dgNil, dListOf, dJoin, dIndex, dRev, diZip, dPar2, diEnum, dRetX, dDropX, dAsgX, dCallX, dConsX, dTupX, dFrzX, dRaise0, dRaise1, dTryAs, dTryOnly, dXf, asEnds, dLc, wipeD, dCat, dSlL, dPairs, dGet2, dGet1, isDic, ite_true, ite_false, if_true, if_false, reduceIte, Bool.false_eq_true, Bool.true_eq_false, and_true, true_and, rdL_lst, rdL_ref, rdS_lst, rdS_ref, rdS_tup, rdD_dic, rdD_ref, addR_ii, addR_ib, addR_ss, addR_tt, addR_LL, subR_ii, mulR_ii, mulA_ii, mulA_t, mulA_L, modR_ii, fdivR_ii, powR_ii, ltR_ii, leR_ii, gtR_ii, geR_ii, keyD_s, keyD_i, dgetR, eqR_ii, eqR_ss, eqR_bb, eqR_tt, eqR_LL, neR_ii, neR_ss, neR_bb, neR_tt, neR_LL, eqM_ii, eqM_ss, eqM_bb, eqM_tt, eqM_LL, okD_i, okD_s, okD_b, okD_n, okD_t, okD_L, deck_at, deck_sum, deck_cells, deck_len, deck_put, dicOf_mup_same, lstOf_mup_same, int1R_b, int1R_i, ix_t0, ix_t1, ix_t2, ix_t3, ix_t4, lenR_t, lenR_s, lenR_L, slR_t, slR_s, slR_L, cutL_from1, cutL_from2, revR_t, revR_L, tup1R_L, tup1R_t, beq_self_eq_true, Bool.not_true, Bool.not_false, Option.isSome_some, List.isEmpty_nil, List.isEmpty_cons, isR_nn, isR_tn, isR_Ln, isR_sn, isR_in, isR_bn, isR_bb, isNotR_nn, isNotR_tn, isNotR_Ln, isNotR_sn, isNotR_in, isNotR_bn, isNotR_bb, isi_t_bool, isi_t_int, isi_t_str, isi_t_tuple, isi_t_list, isi_t_dict, isi_s_bool, isi_s_int, isi_s_str, isi_s_tuple, isi_s_list, isi_s_dict, isi_i_bool, isi_i_int, isi_i_str, isi_i_tuple, isi_i_list, isi_i_dict, isi_b_bool, isi_b_int, isi_b_str, isi_b_tuple, isi_b_list, isi_b_dict, isi_n_bool, isi_n_int, isi_n_str, isi_n_tuple, isi_n_list, isi_n_dict, isi_L_bool, isi_L_int, isi_L_str, isi_L_tuple, isi_L_list, isi_L_dict, isi_d_bool, isi_d_int, isi_d_str, isi_d_tuple, isi_d_list, isi_d_dict, natlit_eq, Int.reduceNeg, dYes]
      refine draw_go D3 (by decide) (by decide) fun n M4 a4 b4 D4 U4 => ?_
      obtain ⟨e, he, me⟩ := sgns_get (j := n.toNat) (by omega)
      exact ix_s a4 (by rw [cps_sgns]; exact he) (by decide +kernel) (hN _ _ ⟨e, me, rfl⟩ D4 (U3.trans U4))
    · obtain ⟨cs, rfl, hcs, hlen⟩ := all_map (fun c => D.str ⟨#[c]⟩) (· ∈ sgns) hP
      have hcl : cs.length = 7 := by rw [hlen, hl]; simp [rangeD]
      refine joinQ_map (fun c => (⟨#[c]⟩ : Str)) (by rw [sum_ones]; simp [hcl]; decide +kernel) ?_
      obtain ⟨w, hw, ew⟩ : ∃ w : Str, cps w = c0 :: cs ∧ w = (⟨#[c0]⟩ : Str) ++ Txt.join ("" : Str) (cs.map fun c => (⟨#[c]⟩ : Str)) := ⟨_, by rw [cps_append, cps_one, join_signs]; rfl, rfl⟩
      simp only [dSeq, dNext, dBreak, dCont, dDrop, dRet, dRetN, dIfS, dAsg, dputS, dlputS, dOp, dVar, dC, dget_zero, dget_succ, dTest, isB, dNil, dCons, dgName, dTup, dCB, dFresh, dFrz, dFreshD, dFrzD, dDispD, dDisp, dBM, dBM0, dAndV, dOrV, dNotV, dAnd, dOr, dNot, dCall, dNeg, dIf, dFor, dSl, dPart, dNoPart, diRng1, diRng2, diAny, isI, dstart, List.set_cons_zero, List.set_cons_succ, List.map_cons, List.map_nil, List.length_cons, List.length_nil, List.cons_append, List.nil_append, Nat.reduceAdd, Nat.reduceSub, Int.reduceAdd, Int.reduceSub, List.replicate, isLst, dgTup, dgCons, dgNil, dListOf, dJoin, dIndex, dRev, diZip, dPar2, diEnum, dRetX, dDropX, dAsgX, dCallX, dConsX, dTupX, dFrzX, dRaise0, dRaise1, dTryAs, dTryOnly, dXf, asEnds, dLc, wipeD, dCat, dSlL, dPairs, dGet2, dGet1, isDic, ite_true, ite_false, if_true, if_false, reduceIte, Bool.false_eq_true, Bool.true_eq_false, and_true, true_and, rdL_lst, rdL_ref, rdS_lst, rdS_ref, rdS_tup, rdD_dic, rdD_ref, addR_ii, addR_ib, addR_ss, addR_tt, addR_LL, subR_ii, mulR_ii, mulA_ii, mulA_t, mulA_L, modR_ii, fdivR_ii, powR_ii, ltR_ii, leR_ii, gtR_ii, geR_ii, keyD_s, keyD_i, dgetR, eqR_ii, eqR_ss, eqR_bb, eqR_tt, eqR_LL, neR_ii, neR_ss, neR_bb, neR_tt, neR_LL, eqM_ii, eqM_ss, eqM_bb, eqM_tt, eqM_LL, okD_i, okD_s, okD_b, okD_n, okD_t, okD_L, deck_at, deck_sum, deck_cells, deck_len, deck_put, dicOf_mup_same, lstOf_mup_same, int1R_b, int1R_i, ix_t0, ix_t1, ix_t2, ix_t3, ix_t4, lenR_t, lenR_s, lenR_L, slR_t, slR_s, slR_L, cutL_from1, cutL_from2, revR_t, revR_L, tup1R_L, tup1R_t, beq_self_eq_true, Bool.not_true, Bool.not_false, Option.isSome_some, List.isEmpty_nil, List.isEmpty_cons, isR_nn, isR_tn, isR_Ln, isR_sn, isR_in, isR_bn, isR_bb, isNotR_nn, isNotR_tn, isNotR_Ln, isNotR_sn, isNotR_in, isNotR_bn, isNotR_bb, isi_t_bool, isi_t_int, isi_t_str, isi_t_tuple, isi_t_list, isi_t_dict, isi_s_bool, isi_s_int, isi_s_str, isi_s_tuple, isi_s_list, isi_s_dict, isi_i_bool, isi_i_int, isi_i_str, isi_i_tuple, isi_i_list, isi_i_dict, isi_b_bool, isi_b_int, isi_b_str, isi_b_tuple, isi_b_list, isi_b_dict, isi_n_bool, isi_n_int, isi_n_str, isi_n_tuple, isi_n_list, isi_n_dict, isi_L_bool, isi_L_int, isi_L_str, isi_L_tuple, isi_L_list, isi_L_dict, isi_d_bool, isi_d_int, isi_d_str, isi_d_tuple, isi_d_list, isi_d_dict, natlit_eq, Int.reduceNeg]
      rw [← ew]
      refine ⟨?_, ?_⟩
      · rw [cps_len, cps_len, join_signs, hcl]; show 1 + 7 ≤ sizeLine; decide +kernel
      refine draw_go (r := r + 90) D3 (by decide) (by decide) fun at_ M4 at0 at1 D4 U4 => ?_
      refine draw_go (r := r + 89) D4 (by decide) (by decide) fun l1 M5 a5 b5 D5 U5 => ?_
      try simp only [dSeq, dNext, dBreak, dCont, dDrop, dRet, dRetN, dIfS, dAsg, dputS, dlputS, dOp, dVar, dC, dget_zero, dget_succ, dTest, isB, dNil, dCons, dgName, dTup, dCB, dFresh, dFrz, dFreshD, dFrzD, dDispD, dDisp, dBM, dBM0, dAndV, dOrV, dNotV, dAnd, dOr, dNot, dCall, dNeg, dIf, dFor, dSl, dPart, dNoPart, diRng1, diRng2, diAny, isI, dstart, List.set_cons_zero, List.set_cons_succ, List.map_cons, List.map_nil, List.length_cons, List.length_nil, List.cons_append, List.nil_append, Nat.reduceAdd, Nat.reduceSub, Int.reduceAdd, Int.reduceSub, List.replicate, isLst, dgTup, dgCons, dgNil, dListOf, dJoin, dIndex, dRev, diZip, dPar2, diEnum, dRetX, dDropX, dAsgX, dCallX, dConsX, dTupX, dFrzX, dRaise0, dRaise1, dTryAs, dTryOnly, dXf, asEnds, dLc, wipeD, dCat, dSlL, dPairs, dGet2, dGet1, isDic, ite_true, ite_false, if_true, if_false, reduceIte, Bool.false_eq_true, Bool.true_eq_false, and_true, true_and, rdL_lst, rdL_ref, rdS_lst, rdS_ref, rdS_tup, rdD_dic, rdD_ref, addR_ii, addR_ib, addR_ss, addR_tt, addR_LL, subR_ii, mulR_ii, mulA_ii, mulA_t, mulA_L, modR_ii, fdivR_ii, powR_ii, ltR_ii, leR_ii, gtR_ii, geR_ii, keyD_s, keyD_i, dgetR, eqR_ii, eqR_ss, eqR_bb, eqR_tt, eqR_LL, neR_ii, neR_ss, neR_bb, neR_tt, neR_LL, eqM_ii, eqM_ss, eqM_bb, eqM_tt, eqM_LL, okD_i, okD_s, okD_b, okD_n, okD_t, okD_L, deck_at, deck_sum, deck_cells, deck_len, deck_put, dicOf_mup_same, lstOf_mup_same, int1R_b, int1R_i, ix_t0, ix_t1, ix_t2, ix_t3, ix_t4, lenR_t, lenR_s, lenR_L, slR_t, slR_s, slR_L, cutL_from1, cutL_from2, revR_t, revR_L, tup1R_L, tup1R_t, beq_self_eq_true, Bool.not_true, Bool.not_false, Option.isSome_some, List.isEmpty_nil, List.isEmpty_cons, isR_nn, isR_tn, isR_Ln, isR_sn, isR_in, isR_bn, isR_bb, isNotR_nn, isNotR_tn, isNotR_Ln, isNotR_sn, isNotR_in, isNotR_bn, isNotR_bb, isi_t_bool, isi_t_int, isi_t_str, isi_t_tuple, isi_t_list, isi_t_dict, isi_s_bool, isi_s_int, isi_s_str, isi_s_tuple, isi_s_list, isi_s_dict, isi_i_bool, isi_i_int, isi_i_str, isi_i_tuple, isi_i_list, isi_i_dict, isi_b_bool, isi_b_int, isi_b_str, isi_b_tuple, isi_b_list, isi_b_dict, isi_n_bool, isi_n_int, isi_n_str, isi_n_tuple, isi_n_list, isi_n_dict, isi_L_bool, isi_L_int, isi_L_str, isi_L_tuple, isi_L_list, isi_L_dict, isi_d_bool, isi_d_int, isi_d_str, isi_d_tuple, isi_d_list, isi_d_dict, natlit_eq, Int.reduceNeg]
      refine draw_go (r := r + 88) (most := 8 - at_) D5 (by omega) (by omega) fun l2 M6 a6 b6 D6 U6 => ?_
      try simp only [dSeq, dNext, dBreak, dCont, dDrop, dRet, dRetN, dIfS, dAsg, dputS, dlputS, dOp, dVar, dC, dget_zero, dget_succ, dTest, isB, dNil, dCons, dgName, dTup, dCB, dFresh, dFrz, dFreshD, dFrzD, dDispD, dDisp, dBM, dBM0, dAndV, dOrV, dNotV, dAnd, dOr, dNot, dCall, dNeg, dIf, dFor, dSl, dPart, dNoPart, diRng1, diRng2, diAny, isI, dstart, List.set_cons_zero, List.set_cons_succ, List.map_cons, List.map_nil, List.length_cons, List.length_nil, List.cons_append, List.nil_append, Nat.reduceAdd, Nat.reduceSub, Int.reduceAdd, Int.reduceSub, List.replicate, isLst, dgTup, dgCons, dgNil, dListOf, dJoin, dIndex, dRev, diZip, dPar2, diEnum, dRetX, dDropX, dAsgX, dCallX, dConsX, dTupX, dFrzX, dRaise0, dRaise1, dTryAs, dTryOnly, dXf, asEnds, dLc, wipeD, dCat, dSlL, dPairs, dGet2, dGet1, isDic, ite_true, ite_false, if_true, if_false, reduceIte, Bool.false_eq_true, Bool.true_eq_false, and_true, true_and, rdL_lst, rdL_ref, rdS_lst, rdS_ref, rdS_tup, rdD_dic, rdD_ref, addR_ii, addR_ib, addR_ss, addR_tt, addR_LL, subR_ii, mulR_ii, mulA_ii, mulA_t, mulA_L, modR_ii, fdivR_ii, powR_ii, ltR_ii, leR_ii, gtR_ii, geR_ii, keyD_s, keyD_i, dgetR, eqR_ii, eqR_ss, eqR_bb, eqR_tt, eqR_LL, neR_ii, neR_ss, neR_bb, neR_tt, neR_LL, eqM_ii, eqM_ss, eqM_bb, eqM_tt, eqM_LL, okD_i, okD_s, okD_b, okD_n, okD_t, okD_L, deck_at, deck_sum, deck_cells, deck_len, deck_put, dicOf_mup_same, lstOf_mup_same, int1R_b, int1R_i, ix_t0, ix_t1, ix_t2, ix_t3, ix_t4, lenR_t, lenR_s, lenR_L, slR_t, slR_s, slR_L, cutL_from1, cutL_from2, revR_t, revR_L, tup1R_L, tup1R_t, beq_self_eq_true, Bool.not_true, Bool.not_false, Option.isSome_some, List.isEmpty_nil, List.isEmpty_cons, isR_nn, isR_tn, isR_Ln, isR_sn, isR_in, isR_bn, isR_bb, isNotR_nn, isNotR_tn, isNotR_Ln, isNotR_sn, isNotR_in, isNotR_bn, isNotR_bb, isi_t_bool, isi_t_int, isi_t_str, isi_t_tuple, isi_t_list, isi_t_dict, isi_s_bool, isi_s_int, isi_s_str, isi_s_tuple, isi_s_list, isi_s_dict, isi_i_bool, isi_i_int, isi_i_str, isi_i_tuple, isi_i_list, isi_i_dict, isi_b_bool, isi_b_int, isi_b_str, isi_b_tuple, isi_b_list, isi_b_dict, isi_n_bool, isi_n_int, isi_n_str, isi_n_tuple, isi_n_list, isi_n_dict, isi_L_bool, isi_L_int, isi_L_str, isi_L_tuple, isi_L_list, isi_L_dict, isi_d_bool, isi_d_int, isi_d_str, isi_d_tuple, isi_d_list, isi_d_dict, natlit_eq, Int.reduceNeg]
      refine ⟨by decide, ?_⟩
      refine ix_Lb ⟨by decide, fun p hp => ⟨inLine_nat (by omega), ?_⟩⟩
      have U06 : Upto d c M M6 := U1.trans <| U2.trans <| U3.trans (U4.trans (U5.trans U6))
      have hpd := D6.nd hp
      have hpc := D6.nc hp
      have hp0 : M p = none := U06.fresh D6 hp
      have hwl : w.length ≤ sizeLine := len_le hw (by simp [hcl])
      obtain ⟨long, hlong, hl1, hl8⟩ : ∃ long : Nat, (if (way == 1) = true then D.int (at_ + 1 + l2) else D.int (1 + l1)) = .int (long : Int) ∧ 1 ≤ long ∧ long ≤ 8 ∧ (way = 1 → at_ < long) := by
        split
        · exact ⟨(at_ + 1 + l2).toNat, by congr 1; omega, by omega, by omega, fun _ => by omega⟩
        · rename_i hw
          exact ⟨(1 + l1).toNat, by congr 1; omega, by omega, by omega, fun e => by simp [e] at hw⟩
      rw [hlong, Int.toNat_natCast]
      refine forW_rng (fun i ds M' => ∃ (ns : List Str) (x9 x10 x11 x12 : Option D), ds = [some (D.ref d), some (D.int many), some (D.str (Str.ofString "abcdefghijklmnopqrstuvwxyz")), some (D.str (Str.ofString "abcdefghijklmnopqrstuvwxyz" ++ Str.ofString "0123456789")),
          some (D.int way), some (D.str w), some (D.int at_), some (.int (long : Int)), some (D.ref p), x9, x10, x11, x12, none, none] ∧ ns.length = i ∧ i ≤ many ∧ (∀ n ∈ ns, NameS n) ∧ lstOf M' p = some (ns.map D.str) ∧ Ext d c M M' ∧ Deck M' d c (r + 88))
        (fun i N hi hN ds M' hI => ?_) (fun ds M' hI => ?_) _ _ ⟨[], none, none, none, none, rfl, rfl, Nat.zero_le _, by simp, lstOf_mup_same, (U06.ext).new hp, D6.up hp⟩
      · obtain ⟨ns, x9, x10, x11, x12, rfl, hnl, hi2, hns, hL, hX, hD⟩ := hI
        have fin : ∀ (z : Str) (y9 y10 y11 y12 : Option D), NameS z → isLst (.ref p) M' ∧ appendR (.ref p) [.str z] M' fun _ M1 => N [some (D.ref d), some (D.int many), some (D.str (Str.ofString "abcdefghijklmnopqrstuvwxyz")), some (D.str (Str.ofString "abcdefghijklmnopqrstuvwxyz" ++ Str.ofString "0123456789")),
            some (D.int way), some (D.str w), some (D.int at_), some (.int (long : Int)), some (D.ref p), y9, y10, y11, y12, none, none] M1 := by
          intro z y9 y10 y11 y12 hz
          refine ⟨by simp [isLst, hL], append_go hL (by rw [List.length_map]; exact small_ltline (by omega)) (hN _ _ ⟨ns ++ [z], y9, y10, y11, y12, rfl, by simp [hnl], by omega, fun n hn => ?_, by rw [lstOf_mup_same]; simp, hX.put hp0, hD.keep hpd hpc⟩)⟩
          rcases List.mem_append.mp hn with hn | hn
          · exact hns n hn
          · rw [List.mem_singleton.mp hn]; exact hz
        have hmem : ∀ x ∈ c0 :: cs, x ∈ sgns := fun x hx => by
          rcases List.mem_cons.mp hx with rfl | hx
          · exact lets_sgns mc0
          · exact hcs x hx
        try simp only [dNext, dBreak, dCont, dDrop, dRet, dRetN, dIfS, dAsg, dputS, dlputS, dOp, dVar, dC, dget_zero, dget_succ, dTest, isB, dNil, dCons, dgName, dTup, dCB, dFresh, dFrz, dFreshD, dFrzD, dDispD, dDisp, dBM, dBM0, dAndV, dOrV, dNotV, dAnd, dOr, dNot, dCall, dNeg, dIf, dFor, dSl, dPart, dNoPart, diRng1, diRng2, diAny, isI, dstart, List.set_cons_zero, List.set_cons_succ, List.map_cons, List.map_nil, List.length_cons, List.length_nil, List.cons_append, List.nil_append, Nat.reduceAdd, Nat.reduceSub, Int.reduceAdd, Int.reduceSub, List.replicate, isLst, dgTup, dgCons, dgNil, dListOf, dJoin, dIndex, dRev, diZip, dPar2, diEnum, dRetX, dDropX, dAsgX, dCallX, dConsX, dTupX, dFrzX, dRaise0, dRaise1, dTryAs, dTryOnly, dXf, asEnds, dLc, wipeD, dCat, dSlL, dPairs, dGet2, dGet1, isDic, ite_true, ite_false, if_true, if_false, reduceIte, Bool.false_eq_true, Bool.true_eq_false, and_true, true_and, rdL_lst, rdL_ref, rdS_lst, rdS_ref, rdS_tup, rdD_dic, rdD_ref, addR_ii, addR_ib, addR_ss, addR_tt, addR_LL, subR_ii, mulR_ii, mulA_ii, mulA_t, mulA_L, modR_ii, fdivR_ii, powR_ii, ltR_ii, leR_ii, gtR_ii, geR_ii, keyD_s, keyD_i, dgetR, eqR_ii, eqR_ss, eqR_bb, eqR_tt, eqR_LL, neR_ii, neR_ss, neR_bb, neR_tt, neR_LL, eqM_ii, eqM_ss, eqM_bb, eqM_tt, eqM_LL, okD_i, okD_s, okD_b, okD_n, okD_t, okD_L, deck_at, deck_sum, deck_cells, deck_len, deck_put, dicOf_mup_same, lstOf_mup_same, int1R_b, int1R_i, ix_t0, ix_t1, ix_t2, ix_t3, ix_t4, lenR_t, lenR_s, lenR_L, slR_t, slR_s, slR_L, cutL_from1, cutL_from2, revR_t, revR_L, tup1R_L, tup1R_t, beq_self_eq_true, Bool.not_true, Bool.not_false, Option.isSome_some, List.isEmpty_nil, List.isEmpty_cons, isR_nn, isR_tn, isR_Ln, isR_sn, isR_in, isR_bn, isR_bb, isNotR_nn, isNotR_tn, isNotR_Ln, isNotR_sn, isNotR_in, isNotR_bn, isNotR_bb, isi_t_bool, isi_t_int, isi_t_str, isi_t_tuple, isi_t_list, isi_t_dict, isi_s_bool, isi_s_int, isi_s_str, isi_s_tuple, isi_s_list, isi_s_dict, isi_i_bool, isi_i_int, isi_i_str, isi_i_tuple, isi_i_list, isi_i_dict, isi_b_bool, isi_b_int, isi_b_str, isi_b_tuple, isi_b_list, isi_b_dict, isi_n_bool, isi_n_int, isi_n_str, isi_n_tuple, isi_n_list, isi_n_dict, isi_L_bool, isi_L_int, isi_L_str, isi_L_tuple, isi_L_list, isi_L_dict, isi_d_bool, isi_d_int, isi_d_str, isi_d_tuple, isi_d_list, isi_d_dict, natlit_eq, Int.reduceNeg]
        refine ifs2 (fun _ hm9 => ?_) (fun _ => ?_)
        · obtain ⟨f1, f2⟩ := fin (cutS w none (some (0 + (i : Int) + 1))) _ _ _ _ (by show NameL _; rw [cut_nat, hw]; exact name_take mc0 hcs (by omega) i)
          exact ⟨by simp [hL], hwl, f2⟩
        · try simp only [dSeq, dNext, dBreak, dCont, dDrop, dRet, dRetN, dIfS, dAsg, dputS, dlputS, dOp, dVar, dC, dget_zero, dget_succ, dTest, isB, dNil, dCons, dgName, dTup, dCB, dFresh, dFrz, dFreshD, dFrzD, dDispD, dDisp, dBM, dBM0, dAndV, dOrV, dNotV, dAnd, dOr, dNot, dCall, dNeg, dIf, dFor, dSl, dPart, dNoPart, diRng1, diRng2, diAny, isI, dstart, List.set_cons_zero, List.set_cons_succ, List.map_cons, List.map_nil, List.length_cons, List.length_nil, List.cons_append, List.nil_append, Nat.reduceAdd, Nat.reduceSub, Int.reduceAdd, Int.reduceSub, List.replicate, isLst, dgTup, dgCons, dgNil, dListOf, dJoin, dIndex, dRev, diZip, dPar2, diEnum, dRetX, dDropX, dAsgX, dCallX, dConsX, dTupX, dFrzX, dRaise0, dRaise1, dTryAs, dTryOnly, dXf, asEnds, dLc, wipeD, dCat, dSlL, dPairs, dGet2, dGet1, isDic, ite_true, ite_false, if_true, if_false, reduceIte, Bool.false_eq_true, Bool.true_eq_false, and_true, true_and, rdL_lst, rdL_ref, rdS_lst, rdS_ref, rdS_tup, rdD_dic, rdD_ref, addR_ii, addR_ib, addR_ss, addR_tt, addR_LL, subR_ii, mulR_ii, mulA_ii, mulA_t, mulA_L, modR_ii, fdivR_ii, powR_ii, ltR_ii, leR_ii, gtR_ii, geR_ii, keyD_s, keyD_i, dgetR, eqR_ii, eqR_ss, eqR_bb, eqR_tt, eqR_LL, neR_ii, neR_ss, neR_bb, neR_tt, neR_LL, eqM_ii, eqM_ss, eqM_bb, eqM_tt, eqM_LL, okD_i, okD_s, okD_b, okD_n, okD_t, okD_L, deck_at, deck_sum, deck_cells, deck_len, deck_put, dicOf_mup_same, lstOf_mup_same, int1R_b, int1R_i, ix_t0, ix_t1, ix_t2, ix_t3, ix_t4, lenR_t, lenR_s, lenR_L, slR_t, slR_s, slR_L, cutL_from1, cutL_from2, revR_t, revR_L, tup1R_L, tup1R_t, beq_self_eq_true, Bool.not_true, Bool.not_false, Option.isSome_some, List.isEmpty_nil, List.isEmpty_cons, isR_nn, isR_tn, isR_Ln, isR_sn, isR_in, isR_bn, isR_bb, isNotR_nn, isNotR_tn, isNotR_Ln, isNotR_sn, isNotR_in, isNotR_bn, isNotR_bb, isi_t_bool, isi_t_int, isi_t_str, isi_t_tuple, isi_t_list, isi_t_dict, isi_s_bool, isi_s_int, isi_s_str, isi_s_tuple, isi_s_list, isi_s_dict, isi_i_bool, isi_i_int, isi_i_str, isi_i_tuple, isi_i_list, isi_i_dict, isi_b_bool, isi_b_int, isi_b_str, isi_b_tuple, isi_b_list, isi_b_dict, isi_n_bool, isi_n_int, isi_n_str, isi_n_tuple, isi_n_list, isi_n_dict, isi_L_bool, isi_L_int, isi_L_str, isi_L_tuple, isi_L_list, isi_L_dict, isi_d_bool, isi_d_int, isi_d_str, isi_d_tuple, isi_d_list, isi_d_dict, natlit_eq, Int.reduceNeg]
          refine ⟨by decide, ix_Lb ?_⟩
          obtain ⟨some_, hsome⟩ : ∃ z : D, z = (if decide (0 < at_) = true then D.str (Str.ofString "abcdefghijklmnopqrstuvwxyz" ++ Str.ofString "0123456789") else D.str (Str.ofString "abcdefghijklmnopqrstuvwxyz")) := ⟨_, rfl⟩
          rw [← hsome]
          refine ⟨by decide, ix_Lb ?_⟩
          obtain ⟨spot, hspot, hs7, hs8⟩ : ∃ spot : Nat, (if (way == 1) = true then D.int at_ else D.int 0) = .int (spot : Int) ∧ spot ≤ 7 ∧ (0 < spot → way = 1 ∧ at_ = spot) := by
            split
            · rename_i hw
              exact ⟨at_.toNat, by congr 1; omega, by omega, fun _ => ⟨by simpa using hw, by omega⟩⟩
            · exact ⟨0, rfl, by omega, by omega⟩
          rw [hspot]
          refine ix_s (c := c0) (by decide) (by rw [hw]; rfl) hwl ?_
          refine index_lets mc0 fun j hj => ?_
          try simp only [dSeq, dNext, dBreak, dCont, dDrop, dRet, dRetN, dIfS, dAsg, dputS, dlputS, dOp, dVar, dC, dget_zero, dget_succ, dTest, isB, dNil, dCons, dgName, dTup, dCB, dFresh, dFrz, dFreshD, dFrzD, dDispD, dDisp, dBM, dBM0, dAndV, dOrV, dNotV, dAnd, dOr, dNot, dCall, dNeg, dIf, dFor, dSl, dPart, dNoPart, diRng1, diRng2, diAny, isI, dstart, List.set_cons_zero, List.set_cons_succ, List.map_cons, List.map_nil, List.length_cons, List.length_nil, List.cons_append, List.nil_append, Nat.reduceAdd, Nat.reduceSub, Int.reduceAdd, Int.reduceSub, List.replicate, isLst, dgTup, dgCons, dgNil, dListOf, dJoin, dIndex, dRev, diZip, dPar2, diEnum, dRetX, dDropX, dAsgX, dCallX, dConsX, dTupX, dFrzX, dRaise0, dRaise1, dTryAs, dTryOnly, dXf, asEnds, dLc, wipeD, dCat, dSlL, dPairs, dGet2, dGet1, isDic, ite_true, ite_false, if_true, if_false, reduceIte, Bool.false_eq_true, Bool.true_eq_false, and_true, true_and, rdL_lst, rdL_ref, rdS_lst, rdS_ref, rdS_tup, rdD_dic, rdD_ref, addR_ii, addR_ib, addR_ss, addR_tt, addR_LL, subR_ii, mulR_ii, mulA_ii, mulA_t, mulA_L, modR_ii, fdivR_ii, powR_ii, ltR_ii, leR_ii, gtR_ii, geR_ii, keyD_s, keyD_i, dgetR, eqR_ii, eqR_ss, eqR_bb, eqR_tt, eqR_LL, neR_ii, neR_ss, neR_bb, neR_tt, neR_LL, eqM_ii, eqM_ss, eqM_bb, eqM_tt, eqM_LL, okD_i, okD_s, okD_b, okD_n, okD_t, okD_L, deck_at, deck_sum, deck_cells, deck_len, deck_put, dicOf_mup_same, lstOf_mup_same, int1R_b, int1R_i, ix_t0, ix_t1, ix_t2, ix_t3, ix_t4, lenR_t, lenR_s, lenR_L, slR_t, slR_s, slR_L, cutL_from1, cutL_from2, revR_t, revR_L, tup1R_L, tup1R_t, beq_self_eq_true, Bool.not_true, Bool.not_false, Option.isSome_some, List.isEmpty_nil, List.isEmpty_cons, isR_nn, isR_tn, isR_Ln, isR_sn, isR_in, isR_bn, isR_bb, isNotR_nn, isNotR_tn, isNotR_Ln, isNotR_sn, isNotR_in, isNotR_bn, isNotR_bb, isi_t_bool, isi_t_int, isi_t_str, isi_t_tuple, isi_t_list, isi_t_dict, isi_s_bool, isi_s_int, isi_s_str, isi_s_tuple, isi_s_list, isi_s_dict, isi_i_bool, isi_i_int, isi_i_str, isi_i_tuple, isi_i_list, isi_i_dict, isi_b_bool, isi_b_int, isi_b_str, isi_b_tuple, isi_b_list, isi_b_dict, isi_n_bool, isi_n_int, isi_n_str, isi_n_tuple, isi_n_list, isi_n_dict, isi_L_bool, isi_L_int, isi_L_str, isi_L_tuple, isi_L_list, isi_L_dict, isi_d_bool, isi_d_int, isi_d_str, isi_d_tuple, isi_d_list, isi_d_dict, natlit_eq, Int.reduceNeg]
          refine ⟨by decide, ?_⟩
          obtain ⟨c1, hc1, mc1⟩ := lets_get (j := (((j : Int) + (0 + (i : Int))) % 26).toNat) (by omega)
          refine ix_s (by omega) (by rw [cps_lets]; exact hc1) (by decide +kernel) ?_
          try simp only [dSeq, dNext, dBreak, dCont, dDrop, dRet, dRetN, dIfS, dAsg, dputS, dlputS, dOp, dVar, dC, dget_zero, dget_succ, dTest, isB, dNil, dCons, dgName, dTup, dCB, dFresh, dFrz, dFreshD, dFrzD, dDispD, dDisp, dBM, dBM0, dAndV, dOrV, dNotV, dAnd, dOr, dNot, dCall, dNeg, dIf, dFor, dSl, dPart, dNoPart, diRng1, diRng2, diAny, isI, dstart, List.set_cons_zero, List.set_cons_succ, List.map_cons, List.map_nil, List.length_cons, List.length_nil, List.cons_append, List.nil_append, Nat.reduceAdd, Nat.reduceSub, Int.reduceAdd, Int.reduceSub, List.replicate, isLst, dgTup, dgCons, dgNil, dListOf, dJoin, dIndex, dRev, diZip, dPar2, diEnum, dRetX, dDropX, dAsgX, dCallX, dConsX, dTupX, dFrzX, dRaise0, dRaise1, dTryAs, dTryOnly, dXf, asEnds, dLc, wipeD, dCat, dSlL, dPairs, dGet2, dGet1, isDic, ite_true, ite_false, if_true, if_false, reduceIte, Bool.false_eq_true, Bool.true_eq_false, and_true, true_and, rdL_lst, rdL_ref, rdS_lst, rdS_ref, rdS_tup, rdD_dic, rdD_ref, addR_ii, addR_ib, addR_ss, addR_tt, addR_LL, subR_ii, mulR_ii, mulA_ii, mulA_t, mulA_L, modR_ii, fdivR_ii, powR_ii, ltR_ii, leR_ii, gtR_ii, geR_ii, keyD_s, keyD_i, dgetR, eqR_ii, eqR_ss, eqR_bb, eqR_tt, eqR_LL, neR_ii, neR_ss, neR_bb, neR_tt, neR_LL, eqM_ii, eqM_ss, eqM_bb, eqM_tt, eqM_LL, okD_i, okD_s, okD_b, okD_n, okD_t, okD_L, deck_at, deck_sum, deck_cells, deck_len, deck_put, dicOf_mup_same, lstOf_mup_same, int1R_b, int1R_i, ix_t0, ix_t1, ix_t2, ix_t3, ix_t4, lenR_t, lenR_s, lenR_L, slR_t, slR_s, slR_L, cutL_from1, cutL_from2, revR_t, revR_L, tup1R_L, tup1R_t, beq_self_eq_true, Bool.not_true, Bool.not_false, Option.isSome_some, List.isEmpty_nil, List.isEmpty_cons, isR_nn, isR_tn, isR_Ln, isR_sn, isR_in, isR_bn, isR_bb, isNotR_nn, isNotR_tn, isNotR_Ln, isNotR_sn, isNotR_in, isNotR_bn, isNotR_bb, isi_t_bool, isi_t_int, isi_t_str, isi_t_tuple, isi_t_list, isi_t_dict, isi_s_bool, isi_s_int, isi_s_str, isi_s_tuple, isi_s_list, isi_s_dict, isi_i_bool, isi_i_int, isi_i_str, isi_i_tuple, isi_i_list, isi_i_dict, isi_b_bool, isi_b_int, isi_b_str, isi_b_tuple, isi_b_list, isi_b_dict, isi_n_bool, isi_n_int, isi_n_str, isi_n_tuple, isi_n_list, isi_n_dict, isi_L_bool, isi_L_int, isi_L_str, isi_L_tuple, isi_L_list, isi_L_dict, isi_d_bool, isi_d_int, isi_d_str, isi_d_tuple, isi_d_list, isi_d_dict, natlit_eq, Int.reduceNeg]
          -- what is put
          have fin2 : ∀ (e : Nat) (y9 y10 y11 y12 : Option D), e ∈ sgns → (spot = 0 → e ∈ lets) → (lstOf M' p).isSome = true ∧ w.length ≤ sizeLine ∧ (cutS w none (some (spot : Int))).length + (⟨#[e]⟩ : Str).length ≤ sizeLine ∧ w.length ≤ sizeLine ∧
              (cutS w none (some (spot : Int)) ++ (⟨#[e]⟩ : Str)).length + (cutS w (some ((spot : Int) + 1)) (some (long : Int))).length ≤ sizeLine ∧
              appendR (.ref p) [.str (cutS w none (some (spot : Int)) ++ (⟨#[e]⟩ : Str) ++ cutS w (some ((spot : Int) + 1)) (some (long : Int)))] M' fun _ M1 => N [some (D.ref d), some (D.int many), some (D.str (Str.ofString "abcdefghijklmnopqrstuvwxyz")), some (D.str (Str.ofString "abcdefghijklmnopqrstuvwxyz" ++ Str.ofString "0123456789")),
            some (D.int way), some (D.str w), some (D.int at_), some (.int (long : Int)), some (D.ref p), y9, y10, y11, y12, none, none] M1 := by
            intro e y9 y10 y11 y12 me ml
            have e1 : cps (cutS w none (some (spot : Int))) = (c0 :: cs).take spot := by rw [cps_cut, hw, cutL_to]
            have e2 : cps (cutS w (some ((spot : Int) + 1)) (some (long : Int))) = ((c0 :: cs).drop (spot + 1)).take (long - (spot + 1)) := by rw [cps_cut, hw, show (spot : Int) + 1 = ((spot + 1 : Nat) : Int) by omega, cutL_mid]
            have e3 : cps (cutS w none (some (spot : Int)) ++ (⟨#[e]⟩ : Str)) = (c0 :: cs).take spot ++ [e] := by rw [cps_append, e1, cps_one]
            refine ⟨by simp [hL], hwl, ?_, hwl, ?_, ?_⟩
            · rw [cps_len, cps_len, e1, cps_one]; exact small_line (by simp only [List.length_take, List.length_cons, List.length_nil]; omega)
            · rw [cps_len, cps_len, e3, e2]; exact small_line (by simp only [List.length_append, List.length_take, List.length_drop, List.length_cons, List.length_nil]; omega)
            · refine (fin _ _ _ _ _ ?_).2
              show NameL _
              rw [cps_append, e3, e2]
              have hlen : ((c0 :: cs).take spot ++ [e] ++ ((c0 :: cs).drop (spot + 1)).take (long - (spot + 1))).length ≤ 8 := by
                simp only [List.length_append, List.length_take, List.length_drop, List.length_cons, List.length_nil]; omega
              refine ⟨?_, fun x hx => ?_, hlen⟩
              · cases spot with
                | zero => exact ⟨e, _, rfl, ml rfl⟩
                | succ s => exact ⟨c0, _, rfl, mc0⟩
              · rcases List.mem_append.mp hx with hx | hx
                · rcases List.mem_append.mp hx with hx | hx
                  · exact hmem x (List.mem_of_mem_take hx)
                  · rw [List.mem_singleton.mp hx]; exact me
                · exact hmem x (List.mem_of_mem_drop (List.mem_of_mem_take hx))
          refine ifs (fun h0 => ?_) (fun h0 => ?_)
          · have h0 : 0 < spot := by simpa using h0
            obtain ⟨hw1, hat⟩ := hs8 h0
            have hsg : some_ = D.str (Str.ofString "abcdefghijklmnopqrstuvwxyz" ++ Str.ofString "0123456789") := by rw [hsome, if_pos (by simp; omega)]
            clear hsome
            subst hsg
            obtain ⟨e, he, me⟩ : ∃ e, (c0 :: cs)[spot]? = some e ∧ e ∈ sgns := by
              have : spot < (c0 :: cs).length := by simp [hcl]; omega
              exact ⟨_, List.getElem?_eq_getElem this, hmem _ (List.getElem_mem _)⟩
            refine ⟨trivial, ix_s (c := e) (by omega) (by rw [hw]; simpa using he) hwl ?_⟩
            refine index_sgns me fun j2 hj2 => ?_
            try simp only [dSeq, dNext, dBreak, dCont, dDrop, dRet, dRetN, dIfS, dAsg, dputS, dlputS, dOp, dVar, dC, dget_zero, dget_succ, dTest, isB, dNil, dCons, dgName, dTup, dCB, dFresh, dFrz, dFreshD, dFrzD, dDispD, dDisp, dBM, dBM0, dAndV, dOrV, dNotV, dAnd, dOr, dNot, dCall, dNeg, dIf, dFor, dSl, dPart, dNoPart, diRng1, diRng2, diAny, isI, dstart, List.set_cons_zero, List.set_cons_succ, List.map_cons, List.map_nil, List.length_cons, List.length_nil, List.cons_append, List.nil_append, Nat.reduceAdd, Nat.reduceSub, Int.reduceAdd, Int.reduceSub, List.replicate, isLst, dgTup, dgCons, dgNil, dListOf, dJoin, dIndex, dRev, diZip, dPar2, diEnum, dRetX, dDropX, dAsgX, dCallX, dConsX, dTupX, dFrzX, dRaise0, dRaise1, dTryAs, dTryOnly, dXf, asEnds, dLc, wipeD, dCat, dSlL, dPairs, dGet2, dGet1, isDic, ite_true, ite_false, if_true, if_false, reduceIte, Bool.false_eq_true, Bool.true_eq_false, and_true, true_and, rdL_lst, rdL_ref, rdS_lst, rdS_ref, rdS_tup, rdD_dic, rdD_ref, addR_ii, addR_ib, addR_ss, addR_tt, addR_LL, subR_ii, mulR_ii, mulA_ii, mulA_t, mulA_L, modR_ii, fdivR_ii, powR_ii, ltR_ii, leR_ii, gtR_ii, geR_ii, keyD_s, keyD_i, dgetR, eqR_ii, eqR_ss, eqR_bb, eqR_tt, eqR_LL, neR_ii, neR_ss, neR_bb, neR_tt, neR_LL, eqM_ii, eqM_ss, eqM_bb, eqM_tt, eqM_LL, okD_i, okD_s, okD_b, okD_n, okD_t, okD_L, deck_at, deck_sum, deck_cells, deck_len, deck_put, dicOf_mup_same, lstOf_mup_same, int1R_b, int1R_i, ix_t0, ix_t1, ix_t2, ix_t3, ix_t4, lenR_t, lenR_s, lenR_L, slR_t, slR_s, slR_L, cutL_from1, cutL_from2, revR_t, revR_L, tup1R_L, tup1R_t, beq_self_eq_true, Bool.not_true, Bool.not_false, Option.isSome_some, List.isEmpty_nil, List.isEmpty_cons, isR_nn, isR_tn, isR_Ln, isR_sn, isR_in, isR_bn, isR_bb, isNotR_nn, isNotR_tn, isNotR_Ln, isNotR_sn, isNotR_in, isNotR_bn, isNotR_bb, isi_t_bool, isi_t_int, isi_t_str, isi_t_tuple, isi_t_list, isi_t_dict, isi_s_bool, isi_s_int, isi_s_str, isi_s_tuple, isi_s_list, isi_s_dict, isi_i_bool, isi_i_int, isi_i_str, isi_i_tuple, isi_i_list, isi_i_dict, isi_b_bool, isi_b_int, isi_b_str, isi_b_tuple, isi_b_list, isi_b_dict, isi_n_bool, isi_n_int, isi_n_str, isi_n_tuple, isi_n_list, isi_n_dict, isi_L_bool, isi_L_int, isi_L_str, isi_L_tuple, isi_L_list, isi_L_dict, isi_d_bool, isi_d_int, isi_d_str, isi_d_tuple, isi_d_list, isi_d_dict, natlit_eq, Int.reduceNeg]
            refine ⟨by decide +kernel, ?_⟩
            rw [show ((Str.ofString "abcdefghijklmnopqrstuvwxyz" ++ Str.ofString "0123456789").length : Int) = 36 by decide +kernel]
            obtain ⟨c2, hc2, mc2⟩ := sgns_get (j := (((j2 : Int) + (0 + (i : Int))) % 36).toNat) (by omega)
            refine ⟨by decide, ix_s (by omega) (by rw [cps_sgns]; exact hc2) (by decide +kernel) ?_⟩
            exact fin2 c2 _ _ _ _ mc2 (by omega)
          · exact fin2 c1 _ _ _ _ (lets_sgns mc1) (fun _ => mc1)
      · obtain ⟨ns, x9, x10, x11, x12, rfl, hnl, hi2, hns, hL, hX, hD⟩ := hI
        simp only [dSeq, dNext, dBreak, dCont, dDrop, dRet, dRetN, dIfS, dAsg, dputS, dlputS, dOp, dVar, dC, dget_zero, dget_succ, dTest, isB, dNil, dCons, dgName, dTup, dCB, dFresh, dFrz, dFreshD, dFrzD, dDispD, dDisp, dBM, dBM0, dAndV, dOrV, dNotV, dAnd, dOr, dNot, dCall, dNeg, dIf, dFor, dSl, dPart, dNoPart, diRng1, diRng2, diAny, isI, dstart, List.set_cons_zero, List.set_cons_succ, List.map_cons, List.map_nil, List.length_cons, List.length_nil, List.cons_append, List.nil_append, Nat.reduceAdd, Nat.reduceSub, Int.reduceAdd, Int.reduceSub, List.replicate, isLst, dgTup, dgCons, dgNil, dListOf, dJoin, dIndex, dRev, diZip, dPar2, diEnum, dRetX, dDropX, dAsgX, dCallX, dConsX, dTupX, dFrzX, dRaise0, dRaise1, dTryAs, dTryOnly, dXf, asEnds, dLc, wipeD, dCat, dSlL, dPairs, dGet2, dGet1, isDic, ite_true, ite_false, if_true, if_false, reduceIte, Bool.false_eq_true, Bool.true_eq_false, and_true, true_and, rdL_lst, rdL_ref, rdS_lst, rdS_ref, rdS_tup, rdD_dic, rdD_ref, addR_ii, addR_ib, addR_ss, addR_tt, addR_LL, subR_ii, mulR_ii, mulA_ii, mulA_t, mulA_L, modR_ii, fdivR_ii, powR_ii, ltR_ii, leR_ii, gtR_ii, geR_ii, keyD_s, keyD_i, dgetR, eqR_ii, eqR_ss, eqR_bb, eqR_tt, eqR_LL, neR_ii, neR_ss, neR_bb, neR_tt, neR_LL, eqM_ii, eqM_ss, eqM_bb, eqM_tt, eqM_LL, okD_i, okD_s, okD_b, okD_n, okD_t, okD_L, deck_at, deck_sum, deck_cells, deck_len, deck_put, dicOf_mup_same, lstOf_mup_same, int1R_b, int1R_i, ix_t0, ix_t1, ix_t2, ix_t3, ix_t4, lenR_t, lenR_s, lenR_L, slR_t, slR_s, slR_L, cutL_from1, cutL_from2, revR_t, revR_L, tup1R_L, tup1R_t, beq_self_eq_true, Bool.not_true, Bool.not_false, Option.isSome_some, List.isEmpty_nil, List.isEmpty_cons, isR_nn, isR_tn, isR_Ln, isR_sn, isR_in, isR_bn, isR_bb, isNotR_nn, isNotR_tn, isNotR_Ln, isNotR_sn, isNotR_in, isNotR_bn, isNotR_bb, isi_t_bool, isi_t_int, isi_t_str, isi_t_tuple, isi_t_list, isi_t_dict, isi_s_bool, isi_s_int, isi_s_str, isi_s_tuple, isi_s_list, isi_s_dict, isi_i_bool, isi_i_int, isi_i_str, isi_i_tuple, isi_i_list, isi_i_dict, isi_b_bool, isi_b_int, isi_b_str, isi_b_tuple, isi_b_list, isi_b_dict, isi_n_bool, isi_n_int, isi_n_str, isi_n_tuple, isi_n_list, isi_n_dict, isi_L_bool, isi_L_int, isi_L_str, isi_L_tuple, isi_L_list, isi_L_dict, isi_d_bool, isi_d_int, isi_d_str, isi_d_tuple, isi_d_list, isi_d_dict, natlit_eq, Int.reduceNeg, hL]
        refine fun q hq => ⟨by decide, fun t ht => ?_⟩
        have hqd := hD.nd hq
        have hqc := hD.nc hq
        have hq0 : M q = none := hX.fresh hD hq
        have hD2 : Deck (mup M' q (.lst (ns.map D.str))) d c (r + 88) := hD.up hq
        have htd := hD2.nd ht
        have htc := hD2.nc ht
        have ht0 : M t = none := (hX.new hq).fresh hD2 ht
        have htq : t ≠ q := by rintro rfl; rw [mup_same] at ht; cases ht
        refine whileN_go (fun m ds M2 => ∃ (ls ts : List Str) , ds = [some (D.ref d), some (D.int many), some (D.str (Str.ofString "abcdefghijklmnopqrstuvwxyz")), some (D.str (Str.ofString "abcdefghijklmnopqrstuvwxyz" ++ Str.ofString "0123456789")),
          some (D.int way), some (D.str w), some (D.int at_), some (.int (long : Int)), some (D.ref p), x9, x10, x11, x12, some (D.ref q), some (D.ref t)] ∧ ls.length = m ∧ ls.length + ts.length = many ∧ (∀ n ∈ ls, NameS n) ∧ (∀ n ∈ ts, NameS n) ∧
          lstOf M2 q = some (ls.map D.str) ∧ lstOf M2 t = some (ts.map D.str) ∧ Ext d c M M2 ∧ Deck M2 d c (r + m)) (fun N ds M2 hI => ?_) (fun m N hN ds M2 hI => ?_) many _ _
          ⟨ns, [], rfl, by omega, by simp; omega, hns, by simp, lstOf_keep htq.symm lstOf_mup_same, lstOf_mup_same, (hX.new hq).new ht, (hD2.up ht).mono (by omega)⟩
        · obtain ⟨ls, ts, rfl, hl0, hlt, h1, h2, e1, e2, hX2, hD3⟩ := hI
          have : ls = [] := List.eq_nil_of_length_eq_zero hl0
          subst this
          try simp only [dNext, dBreak, dCont, dDrop, dRet, dRetN, dIfS, dAsg, dputS, dlputS, dOp, dVar, dC, dget_zero, dget_succ, dTest, isB, dNil, dCons, dgName, dTup, dCB, dFresh, dFrz, dFreshD, dFrzD, dDispD, dDisp, dBM, dBM0, dAndV, dOrV, dNotV, dAnd, dOr, dNot, dCall, dNeg, dIf, dFor, dSl, dPart, dNoPart, diRng1, diRng2, diAny, isI, dstart, List.set_cons_zero, List.set_cons_succ, List.map_cons, List.map_nil, List.length_cons, List.length_nil, List.cons_append, List.nil_append, Nat.reduceAdd, Nat.reduceSub, Int.reduceAdd, Int.reduceSub, List.replicate, isLst, dgTup, dgCons, dgNil, dListOf, dJoin, dIndex, dRev, diZip, dPar2, diEnum, dRetX, dDropX, dAsgX, dCallX, dConsX, dTupX, dFrzX, dRaise0, dRaise1, dTryAs, dTryOnly, dXf, asEnds, dLc, wipeD, dCat, dSlL, dPairs, dGet2, dGet1, isDic, ite_true, ite_false, if_true, if_false, reduceIte, Bool.false_eq_true, Bool.true_eq_false, and_true, true_and, rdL_lst, rdL_ref, rdS_lst, rdS_ref, rdS_tup, rdD_dic, rdD_ref, addR_ii, addR_ib, addR_ss, addR_tt, addR_LL, subR_ii, mulR_ii, mulA_ii, mulA_t, mulA_L, modR_ii, fdivR_ii, powR_ii, ltR_ii, leR_ii, gtR_ii, geR_ii, keyD_s, keyD_i, dgetR, eqR_ii, eqR_ss, eqR_bb, eqR_tt, eqR_LL, neR_ii, neR_ss, neR_bb, neR_tt, neR_LL, eqM_ii, eqM_ss, eqM_bb, eqM_tt, eqM_LL, okD_i, okD_s, okD_b, okD_n, okD_t, okD_L, deck_at, deck_sum, deck_cells, deck_len, deck_put, dicOf_mup_same, lstOf_mup_same, int1R_b, int1R_i, ix_t0, ix_t1, ix_t2, ix_t3, ix_t4, lenR_t, lenR_s, lenR_L, slR_t, slR_s, slR_L, cutL_from1, cutL_from2, revR_t, revR_L, tup1R_L, tup1R_t, beq_self_eq_true, Bool.not_true, Bool.not_false, Option.isSome_some, List.isEmpty_nil, List.isEmpty_cons, isR_nn, isR_tn, isR_Ln, isR_sn, isR_in, isR_bn, isR_bb, isNotR_nn, isNotR_tn, isNotR_Ln, isNotR_sn, isNotR_in, isNotR_bn, isNotR_bb, isi_t_bool, isi_t_int, isi_t_str, isi_t_tuple, isi_t_list, isi_t_dict, isi_s_bool, isi_s_int, isi_s_str, isi_s_tuple, isi_s_list, isi_s_dict, isi_i_bool, isi_i_int, isi_i_str, isi_i_tuple, isi_i_list, isi_i_dict, isi_b_bool, isi_b_int, isi_b_str, isi_b_tuple, isi_b_list, isi_b_dict, isi_n_bool, isi_n_int, isi_n_str, isi_n_tuple, isi_n_list, isi_n_dict, isi_L_bool, isi_L_int, isi_L_str, isi_L_tuple, isi_L_list, isi_L_dict, isi_d_bool, isi_d_int, isi_d_str, isi_d_tuple, isi_d_list, isi_d_dict, natlit_eq, Int.reduceNeg]
          refine ⟨by decide, ne_nil_l e1 (pureDs_str _) (Nat.le_trans (depDs_str _) (by decide)) ?_⟩
          exact Shr.deckL D0 ht0 e2 hX2 hD3 fun M3 U D3 => k ts M3 (by simpa using hlt) h2 D3 U
        · obtain ⟨ls, ts, rfl, hl0, hlt, h1, h2, e1, e2, hX2, hD3⟩ := hI
          try simp only [dNext, dBreak, dCont, dDrop, dRet, dRetN, dIfS, dAsg, dputS, dlputS, dOp, dVar, dC, dget_zero, dget_succ, dTest, isB, dNil, dCons, dgName, dTup, dCB, dFresh, dFrz, dFreshD, dFrzD, dDispD, dDisp, dBM, dBM0, dAndV, dOrV, dNotV, dAnd, dOr, dNot, dCall, dNeg, dIf, dFor, dSl, dPart, dNoPart, diRng1, diRng2, diAny, isI, dstart, List.set_cons_zero, List.set_cons_succ, List.map_cons, List.map_nil, List.length_cons, List.length_nil, List.cons_append, List.nil_append, Nat.reduceAdd, Nat.reduceSub, Int.reduceAdd, Int.reduceSub, List.replicate, isLst, dgTup, dgCons, dgNil, dListOf, dJoin, dIndex, dRev, diZip, dPar2, diEnum, dRetX, dDropX, dAsgX, dCallX, dConsX, dTupX, dFrzX, dRaise0, dRaise1, dTryAs, dTryOnly, dXf, asEnds, dLc, wipeD, dCat, dSlL, dPairs, dGet2, dGet1, isDic, ite_true, ite_false, if_true, if_false, reduceIte, Bool.false_eq_true, Bool.true_eq_false, and_true, true_and, rdL_lst, rdL_ref, rdS_lst, rdS_ref, rdS_tup, rdD_dic, rdD_ref, addR_ii, addR_ib, addR_ss, addR_tt, addR_LL, subR_ii, mulR_ii, mulA_ii, mulA_t, mulA_L, modR_ii, fdivR_ii, powR_ii, ltR_ii, leR_ii, gtR_ii, geR_ii, keyD_s, keyD_i, dgetR, eqR_ii, eqR_ss, eqR_bb, eqR_tt, eqR_LL, neR_ii, neR_ss, neR_bb, neR_tt, neR_LL, eqM_ii, eqM_ss, eqM_bb, eqM_tt, eqM_LL, okD_i, okD_s, okD_b, okD_n, okD_t, okD_L, deck_at, deck_sum, deck_cells, deck_len, deck_put, dicOf_mup_same, lstOf_mup_same, int1R_b, int1R_i, ix_t0, ix_t1, ix_t2, ix_t3, ix_t4, lenR_t, lenR_s, lenR_L, slR_t, slR_s, slR_L, cutL_from1, cutL_from2, revR_t, revR_L, tup1R_L, tup1R_t, beq_self_eq_true, Bool.not_true, Bool.not_false, Option.isSome_some, List.isEmpty_nil, List.isEmpty_cons, isR_nn, isR_tn, isR_Ln, isR_sn, isR_in, isR_bn, isR_bb, isNotR_nn, isNotR_tn, isNotR_Ln, isNotR_sn, isNotR_in, isNotR_bn, isNotR_bb, isi_t_bool, isi_t_int, isi_t_str, isi_t_tuple, isi_t_list, isi_t_dict, isi_s_bool, isi_s_int, isi_s_str, isi_s_tuple, isi_s_list, isi_s_dict, isi_i_bool, isi_i_int, isi_i_str, isi_i_tuple, isi_i_list, isi_i_dict, isi_b_bool, isi_b_int, isi_b_str, isi_b_tuple, isi_b_list, isi_b_dict, isi_n_bool, isi_n_int, isi_n_str, isi_n_tuple, isi_n_list, isi_n_dict, isi_L_bool, isi_L_int, isi_L_str, isi_L_tuple, isi_L_list, isi_L_dict, isi_d_bool, isi_d_int, isi_d_str, isi_d_tuple, isi_d_list, isi_d_dict, natlit_eq, Int.reduceNeg]
          refine ⟨by decide, ne_nil_l e1 (pureDs_str _) (Nat.le_trans (depDs_str _) (by decide)) ?_⟩
          obtain ⟨l0, lr, rfl⟩ : ∃ l0 lr, ls = l0 :: lr := by
            cases ls with
            | nil => simp at hl0
            | cons a b => exact ⟨a, b, rfl⟩
          simp only [dSeq, dNext, dBreak, dCont, dDrop, dRet, dRetN, dIfS, dAsg, dputS, dlputS, dOp, dVar, dC, dget_zero, dget_succ, dTest, isB, dNil, dCons, dgName, dTup, dCB, dFresh, dFrz, dFreshD, dFrzD, dDispD, dDisp, dBM, dBM0, dAndV, dOrV, dNotV, dAnd, dOr, dNot, dCall, dNeg, dIf, dFor, dSl, dPart, dNoPart, diRng1, diRng2, diAny, isI, dstart, List.set_cons_zero, List.set_cons_succ, List.map_cons, List.map_nil, List.length_cons, List.length_nil, List.cons_append, List.nil_append, Nat.reduceAdd, Nat.reduceSub, Int.reduceAdd, Int.reduceSub, List.replicate, isLst, dgTup, dgCons, dgNil, dListOf, dJoin, dIndex, dRev, diZip, dPar2, diEnum, dRetX, dDropX, dAsgX, dCallX, dConsX, dTupX, dFrzX, dRaise0, dRaise1, dTryAs, dTryOnly, dXf, asEnds, dLc, wipeD, dCat, dSlL, dPairs, dGet2, dGet1, isDic, ite_true, ite_false, if_true, if_false, reduceIte, Bool.false_eq_true, Bool.true_eq_false, and_true, true_and, rdL_lst, rdL_ref, rdS_lst, rdS_ref, rdS_tup, rdD_dic, rdD_ref, addR_ii, addR_ib, addR_ss, addR_tt, addR_LL, subR_ii, mulR_ii, mulA_ii, mulA_t, mulA_L, modR_ii, fdivR_ii, powR_ii, ltR_ii, leR_ii, gtR_ii, geR_ii, keyD_s, keyD_i, dgetR, eqR_ii, eqR_ss, eqR_bb, eqR_tt, eqR_LL, neR_ii, neR_ss, neR_bb, neR_tt, neR_LL, eqM_ii, eqM_ss, eqM_bb, eqM_tt, eqM_LL, okD_i, okD_s, okD_b, okD_n, okD_t, okD_L, deck_at, deck_sum, deck_cells, deck_len, deck_put, dicOf_mup_same, lstOf_mup_same, int1R_b, int1R_i, ix_t0, ix_t1, ix_t2, ix_t3, ix_t4, lenR_t, lenR_s, lenR_L, slR_t, slR_s, slR_L, cutL_from1, cutL_from2, revR_t, revR_L, tup1R_L, tup1R_t, beq_self_eq_true, Bool.not_true, Bool.not_false, Option.isSome_some, List.isEmpty_nil, List.isEmpty_cons, isR_nn, isR_tn, isR_Ln, isR_sn, isR_in, isR_bn, isR_bb, isNotR_nn, isNotR_tn, isNotR_Ln, isNotR_sn, isNotR_in, isNotR_bn, isNotR_bb, isi_t_bool, isi_t_int, isi_t_str, isi_t_tuple, isi_t_list, isi_t_dict, isi_s_bool, isi_s_int, isi_s_str, isi_s_tuple, isi_s_list, isi_s_dict, isi_i_bool, isi_i_int, isi_i_str, isi_i_tuple, isi_i_list, isi_i_dict, isi_b_bool, isi_b_int, isi_b_str, isi_b_tuple, isi_b_list, isi_b_dict, isi_n_bool, isi_n_int, isi_n_str, isi_n_tuple, isi_n_list, isi_n_dict, isi_L_bool, isi_L_int, isi_L_str, isi_L_tuple, isi_L_list, isi_L_dict, isi_d_bool, isi_d_int, isi_d_str, isi_d_tuple, isi_d_list, isi_d_dict, natlit_eq, Int.reduceNeg, List.isEmpty_cons, e2]
          refine ⟨by simp [e1], len_l e1 ?_⟩
          refine draw_go (r := r + m) (hD3.mono (by omega)) (by simp at hlt ⊢; try omega) (by simp at hlt ⊢; omega) fun j M3 j0 j1 D3 U3 => ?_
          have e1' : lstOf M3 q = some ((l0 :: lr).map D.str) := by rw [U3.lst hqd hqc]; exact e1
          have e2' : lstOf M3 t = some (ts.map D.str) := by rw [U3.lst htd htc]; exact e2
          obtain ⟨z, hz, mz⟩ : ∃ z, (l0 :: lr)[j.toNat]? = some z ∧ z ∈ (l0 :: lr) := by
            have : j.toNat < (l0 :: lr).length := by simp at j1 ⊢; omega
            exact ⟨_, List.getElem?_eq_getElem this, List.getElem_mem _⟩
          refine popAt_go (d := .str z) e1' j0 (by simp at j1 hlt; omega) (by rw [List.getElem?_map, hz]; rfl) ?_
          refine append_go (xs := ts.map D.str) (lstOf_keep htq e2') (by rw [List.length_map]; exact small_ltline (by omega)) ?_
          try simp only [dSeq, dNext, dBreak, dCont, dDrop, dRet, dRetN, dIfS, dAsg, dputS, dlputS, dOp, dVar, dC, dget_zero, dget_succ, dTest, isB, dNil, dCons, dgName, dTup, dCB, dFresh, dFrz, dFreshD, dFrzD, dDispD, dDisp, dBM, dBM0, dAndV, dOrV, dNotV, dAnd, dOr, dNot, dCall, dNeg, dIf, dFor, dSl, dPart, dNoPart, diRng1, diRng2, diAny, isI, dstart, List.set_cons_zero, List.set_cons_succ, List.map_cons, List.map_nil, List.length_cons, List.length_nil, List.cons_append, List.nil_append, Nat.reduceAdd, Nat.reduceSub, Int.reduceAdd, Int.reduceSub, List.replicate, isLst, dgTup, dgCons, dgNil, dListOf, dJoin, dIndex, dRev, diZip, dPar2, diEnum, dRetX, dDropX, dAsgX, dCallX, dConsX, dTupX, dFrzX, dRaise0, dRaise1, dTryAs, dTryOnly, dXf, asEnds, dLc, wipeD, dCat, dSlL, dPairs, dGet2, dGet1, isDic, ite_true, ite_false, if_true, if_false, reduceIte, Bool.false_eq_true, Bool.true_eq_false, and_true, true_and, rdL_lst, rdL_ref, rdS_lst, rdS_ref, rdS_tup, rdD_dic, rdD_ref, addR_ii, addR_ib, addR_ss, addR_tt, addR_LL, subR_ii, mulR_ii, mulA_ii, mulA_t, mulA_L, modR_ii, fdivR_ii, powR_ii, ltR_ii, leR_ii, gtR_ii, geR_ii, keyD_s, keyD_i, dgetR, eqR_ii, eqR_ss, eqR_bb, eqR_tt, eqR_LL, neR_ii, neR_ss, neR_bb, neR_tt, neR_LL, eqM_ii, eqM_ss, eqM_bb, eqM_tt, eqM_LL, okD_i, okD_s, okD_b, okD_n, okD_t, okD_L, deck_at, deck_sum, deck_cells, deck_len, deck_put, dicOf_mup_same, lstOf_mup_same, int1R_b, int1R_i, ix_t0, ix_t1, ix_t2, ix_t3, ix_t4, lenR_t, lenR_s, lenR_L, slR_t, slR_s, slR_L, cutL_from1, cutL_from2, revR_t, revR_L, tup1R_L, tup1R_t, beq_self_eq_true, Bool.not_true, Bool.not_false, Option.isSome_some, List.isEmpty_nil, List.isEmpty_cons, isR_nn, isR_tn, isR_Ln, isR_sn, isR_in, isR_bn, isR_bb, isNotR_nn, isNotR_tn, isNotR_Ln, isNotR_sn, isNotR_in, isNotR_bn, isNotR_bb, isi_t_bool, isi_t_int, isi_t_str, isi_t_tuple, isi_t_list, isi_t_dict, isi_s_bool, isi_s_int, isi_s_str, isi_s_tuple, isi_s_list, isi_s_dict, isi_i_bool, isi_i_int, isi_i_str, isi_i_tuple, isi_i_list, isi_i_dict, isi_b_bool, isi_b_int, isi_b_str, isi_b_tuple, isi_b_list, isi_b_dict, isi_n_bool, isi_n_int, isi_n_str, isi_n_tuple, isi_n_list, isi_n_dict, isi_L_bool, isi_L_int, isi_L_str, isi_L_tuple, isi_L_list, isi_L_dict, isi_d_bool, isi_d_int, isi_d_str, isi_d_tuple, isi_d_list, isi_d_dict, natlit_eq, Int.reduceNeg]
          have hlen : ((l0 :: lr).eraseIdx j.toNat).length = m := by
            rw [List.length_eraseIdx_of_lt (by simp at j1 ⊢; omega)]; omega
          refine hN _ _ ⟨(l0 :: lr).eraseIdx j.toNat, ts ++ [z], rfl, hlen, by rw [hlen]; simp at hlt hl0 ⊢; omega, fun n hn => h1 n (List.mem_of_mem_eraseIdx hn), fun n hn => ?_, ?_, ?_, ((hX2.trans U3.ext).put hq0).put ht0, (D3.keep hqd hqc).keep htd htc⟩
          · rcases List.mem_append.mp hn with hn | hn
            · exact h2 n hn
            · rw [List.mem_singleton.mp hn]; exact h1 z mz
          · rw [lstOf_mup_ne htq.symm, lstOf_mup_same]; exact congrArg some (eraseIdx_map D.str (l0 :: lr) _)
          · rw [lstOf_mup_same]; simp
/-- one of some -/
def sp__law_pick : DSp := fun ds M R => ∃ (d : Addr) (x : D) (xs : List D), ds = [.ref d, x] ∧ (x = .lst xs ∨ x = .tup xs) ∧ xs ≠ [] ∧ xs.length ≤ 2 ^ 60 ∧ ∃ c r, Deck M d c (r + 1) ∧ ∀ y ∈ xs, ∀ M', Deck M' d c r → Upto d c M M' → R y M'
theorem pick_L {M : Mm} {d c : Addr} {r : Nat} {xs : List D} {R : DQ} (D0 : Deck M d c (r + 1)) (h0 : xs ≠ []) (h1 : xs.length ≤ 2 ^ 60) (k : ∀ y ∈ xs, ∀ M', Deck M' d c r → Upto d c M M' → R y M') : sp__law_pick [.ref d, .lst xs] M R := ⟨d, _, xs, rfl, .inl rfl, h0, h1, c, r, D0, k⟩
theorem pick_t {M : Mm} {d c : Addr} {r : Nat} {xs : List D} {R : DQ} (D0 : Deck M d c (r + 1)) (h0 : xs ≠ []) (h1 : xs.length ≤ 2 ^ 60) (k : ∀ y ∈ xs, ∀ M', Deck M' d c r → Upto d c M M' → R y M') : sp__law_pick [.ref d, .tup xs] M R := ⟨d, _, xs, rfl, .inr rfl, h0, h1, c, r, D0, k⟩
/-- of a list of things -/
theorem pick_Lm {α : Type} {f : α → D} {M : Mm} {d c : Addr} {r : Nat} {xs : List α} {R : DQ} (D0 : Deck M d c (r + 1)) (h0 : xs ≠ []) (h1 : xs.length ≤ 2 ^ 60) (k : ∀ y ∈ xs, ∀ M', Deck M' d c r → Upto d c M M' → R (f y) M') : sp__law_pick [.ref d, .lst (xs.map f)] M R :=
  pick_L D0 (by simpa using h0) (by simpa using h1) fun y hy M' D U => by
    obtain ⟨z, hz, rfl⟩ := List.mem_map.mp hy
    exact k z hz M' D U
theorem pick_tm {α : Type} {f : α → D} {M : Mm} {d c : Addr} {r : Nat} {xs : List α} {R : DQ} (D0 : Deck M d c (r + 1)) (h0 : xs ≠ []) (h1 : xs.length ≤ 2 ^ 60) (k : ∀ y ∈ xs, ∀ M', Deck M' d c r → Upto d c M M' → R (f y) M') : sp__law_pick [.ref d, .tup (xs.map f)] M R :=
  pick_t D0 (by simpa using h0) (by simpa using h1) fun y hy M' D U => by
    obtain ⟨z, hz, rfl⟩ := List.mem_map.mp hy
    exact k z hz M' D U
theorem pick_BL {α : Type} {f : α → D} {M M0 : Mm} {d c : Addr} {n : Nat} {L : List (Addr × MO)} {xs : List α} {R : DQ} (b : Bx d c n M0 L M) (hn : 1 ≤ n) (h0 : xs ≠ []) (h1 : xs.length ≤ 2 ^ 60) (k : ∀ y ∈ xs, ∀ M', Bx d c (n - 1) M0 L M' → R (f y) M') : sp__law_pick [.ref d, .lst (xs.map f)] M R :=
  pick_Lm (r := n - 1) (b.dk.mono (by omega)) h0 h1 fun y hy M' D U => k y hy M' (b.call D U)
theorem pick_Bt {α : Type} {f : α → D} {M M0 : Mm} {d c : Addr} {n : Nat} {L : List (Addr × MO)} {xs : List α} {R : DQ} (b : Bx d c n M0 L M) (hn : 1 ≤ n) (h0 : xs ≠ []) (h1 : xs.length ≤ 2 ^ 60) (k : ∀ y ∈ xs, ∀ M', Bx d c (n - 1) M0 L M' → R (f y) M') : sp__law_pick [.ref d, .tup (xs.map f)] M R :=
  pick_tm (r := n - 1) (b.dk.mono (by omega)) h0 h1 fun y hy M' D U => k y hy M' (b.call D U)
theorem ok__law_pick {f__law_pick f__law_draw : Addr} {fd__law_pick fd__law_draw : FuncData} (F__law_pick : Fun K "_law_pick" "_law_pick" st__law_pick f__law_pick fd__law_pick) (G__law_draw : FnOk P w K mg base CX0 1 f__law_draw fd__law_draw ["_law_deck_here", "_law_most"] (toSp K sp__law_draw)) (g__law_draw : mg "_law_draw" = some (.ref f__law_draw)) (k__law_draw : PySem.W.keepIn K (.ref f__law_draw) = true) (b__law_draw : Binds K fd__law_draw ["_law_deck_here", "_law_most"] []) (z_len : mg "len" = none) : FnOk P w K mg base CX0 2 f__law_pick fd__law_pick ["_law_deck_here", "_law_some"] (toSp K sp__law_pick) := by
  refine fn_ok (k := 1) F__law_pick sc__law_pick (fun ds M R h => ?_) (fun cdv A outer s H E hr => ⟨_, (jb_one (js_ret (je_ix (jv 1) (je_call G__law_draw (hr.mono (by decide)) (by rfl) g__law_draw k__law_draw b__law_draw (ja_cons (jv 0) (ja_cons (je_len z_len (ja_cons (jv 1) ja_nil)) ja_nil)))))), fun ds M R h => ?_⟩)
  · unfold sp__law_pick at h
    first | (obtain ⟨rfl, _⟩ := h; rfl) | (obtain ⟨_, rfl, _⟩ := h; rfl) | (obtain ⟨_, _, rfl, _⟩ := h; rfl) | (obtain ⟨_, _, _, rfl, _⟩ := h; rfl) | (obtain ⟨_, _, _, _, rfl, _⟩ := h; rfl) | (obtain ⟨_, _, _, _, _, rfl, _⟩ := h; rfl) | (obtain ⟨_, _, _, _, _, _, rfl, _⟩ := h; rfl) | (obtain ⟨_, _, _, _, _, _, _, rfl, _⟩ := h; rfl) | (obtain ⟨_, _, _, _, _, _, _, _, rfl, _⟩ := h; rfl) | (split at h <;> first | rfl | exact h.elim)
  · unfold sp__law_pick at h
    obtain ⟨d, x, xs, rfl, hx, h0, h1, c, r, D0, k⟩ := h
    have hpos : 0 < xs.length := List.length_pos_iff.mpr h0
    simp only [dSeq, dNext, dBreak, dCont, dDrop, dRet, dRetN, dIfS, dAsg, dputS, dlputS, dOp, dVar, dC, dget_zero, dget_succ, dTest, isB, dNil, dCons, dgName, dTup, dCB, dFresh, dFrz, dFreshD, dFrzD, dDispD, dDisp, dBM, dBM0, dAndV, dOrV, dNotV, dAnd, dOr, dNot, dCall, dNeg, dIf, dFor, dSl, dPart, dNoPart, diRng1, diRng2, diAny, isI, dstart, List.set_cons_zero, List.set_cons_succ, List.map_cons, List.map_nil, List.length_cons, List.length_nil, List.cons_append, List.nil_append, Nat.reduceAdd, Nat.reduceSub, Int.reduceAdd, Int.reduceSub, List.replicate, isLst, dgTup, dgCons, dgNil, dListOf, dJoin, dIndex, dRev, diZip, dPar2, diEnum, dRetX, dDropX, dAsgX, dCallX, dConsX, dTupX, dFrzX, dRaise0, dRaise1, dTryAs, dTryOnly, dXf, asEnds, dLc, wipeD, dCat, dSlL, dPairs, dGet2, dGet1, isDic, ite_true, ite_false, if_true, if_false, reduceIte, Bool.false_eq_true, Bool.true_eq_false, and_true, true_and, rdL_lst, rdL_ref, rdS_lst, rdS_ref, rdS_tup, rdD_dic, rdD_ref, addR_ii, addR_ib, addR_ss, addR_tt, addR_LL, subR_ii, mulR_ii, mulA_ii, mulA_t, mulA_L, modR_ii, fdivR_ii, powR_ii, ltR_ii, leR_ii, gtR_ii, geR_ii, keyD_s, keyD_i, dgetR, eqR_ii, eqR_ss, eqR_bb, eqR_tt, eqR_LL, neR_ii, neR_ss, neR_bb, neR_tt, neR_LL, eqM_ii, eqM_ss, eqM_bb, eqM_tt, eqM_LL, okD_i, okD_s, okD_b, okD_n, okD_t, okD_L, deck_at, deck_sum, deck_cells, deck_len, deck_put, dicOf_mup_same, lstOf_mup_same, int1R_b, int1R_i, ix_t0, ix_t1, ix_t2, ix_t3, ix_t4, lenR_t, lenR_s, lenR_L, slR_t, slR_s, slR_L, cutL_from1, cutL_from2, revR_t, revR_L, tup1R_L, tup1R_t, beq_self_eq_true, Bool.not_true, Bool.not_false, Option.isSome_some, List.isEmpty_nil, List.isEmpty_cons, isR_nn, isR_tn, isR_Ln, isR_sn, isR_in, isR_bn, isR_bb, isNotR_nn, isNotR_tn, isNotR_Ln, isNotR_sn, isNotR_in, isNotR_bn, isNotR_bb, isi_t_bool, isi_t_int, isi_t_str, isi_t_tuple, isi_t_list, isi_t_dict, isi_s_bool, isi_s_int, isi_s_str, isi_s_tuple, isi_s_list, isi_s_dict, isi_i_bool, isi_i_int, isi_i_str, isi_i_tuple, isi_i_list, isi_i_dict, isi_b_bool, isi_b_int, isi_b_str, isi_b_tuple, isi_b_list, isi_b_dict, isi_n_bool, isi_n_int, isi_n_str, isi_n_tuple, isi_n_list, isi_n_dict, isi_L_bool, isi_L_int, isi_L_str, isi_L_tuple, isi_L_list, isi_L_dict, isi_d_bool, isi_d_int, isi_d_str, isi_d_tuple, isi_d_list, isi_d_dict, natlit_eq, Int.reduceNeg, N__law_pick]
    have hlen : ∀ {Q : DQ}, Q (.int xs.length) M → lenR [x] M Q := by
      rcases hx with rfl | rfl <;> exact fun h => h
    refine hlen ?_
    refine draw_go D0 (by omega) (by omega) fun n M1 n0 n1 D1 U1 => ?_
    obtain ⟨y, hy, my⟩ : ∃ y, xs[n.toNat]? = some y ∧ y ∈ xs := ⟨_, List.getElem?_eq_getElem (by omega), List.getElem_mem _⟩
    rcases hx with rfl | rfl
    · exact ix_L n0 hy (Shr.all (k y my M1 D1 U1))
    · exact ix_t n0 hy (Shr.all (k y my M1 D1 U1))
/-- rules of some places and marks -/
def sp__law_program : DSp := fun ds M R => ∃ (d : Addr) (ps ms : List Str) (many : Nat), ds = [.ref d, .lst (ps.map D.str), .lst (ms.map D.str), .int many] ∧ ps ≠ [] ∧ ms ≠ [] ∧ ps.length ≤ 1000 ∧ ms.length ≤ 1000 ∧ many ≤ 1000 ∧
  ∃ c r, Deck M d c (r + 16 * (many + 1)) ∧ ∀ (rs : List Rl) M', rs.length = many → (∀ x ∈ rs, RuleIn ps ms x) → Deck M' d c r → Upto d c M M' → R (progD rs) M'
theorem program_go {M : Mm} {d c : Addr} {r many : Nat} {ps ms : List Str} {R : DQ} (D0 : Deck M d c (r + 16 * (many + 1))) (h1 : ps ≠ []) (h2 : ms ≠ []) (h3 : ps.length ≤ 1000) (h4 : ms.length ≤ 1000) (h5 : many ≤ 1000)
    (k : ∀ (rs : List Rl) M', rs.length = many → (∀ x ∈ rs, RuleIn ps ms x) → Deck M' d c r → Upto d c M M' → R (progD rs) M') : sp__law_program [.ref d, .lst (ps.map D.str), .lst (ms.map D.str), .int many] M R := ⟨d, ps, ms, many, rfl, h1, h2, h3, h4, h5, c, r, D0, k⟩
theorem ok__law_program {f__law_program f__law_draw f__law_pick : Addr} {fd__law_program fd__law_draw fd__law_pick : FuncData} (F__law_program : Fun K "_law_program" "_law_program" st__law_program f__law_program fd__law_program) (G__law_draw : FnOk P w K mg base CX0 1 f__law_draw fd__law_draw ["_law_deck_here", "_law_most"] (toSp K sp__law_draw)) (g__law_draw : mg "_law_draw" = some (.ref f__law_draw)) (k__law_draw : PySem.W.keepIn K (.ref f__law_draw) = true) (b__law_draw : Binds K fd__law_draw ["_law_deck_here", "_law_most"] []) (G__law_pick : FnOk P w K mg base CX0 2 f__law_pick fd__law_pick ["_law_deck_here", "_law_some"] (toSp K sp__law_pick)) (g__law_pick : mg "_law_pick" = some (.ref f__law_pick)) (k__law_pick : PySem.W.keepIn K (.ref f__law_pick) = true) (b__law_pick : Binds K fd__law_pick ["_law_deck_here", "_law_some"] []) (z_range : mg "range" = none) (z_tuple : mg "tuple" = none) : FnOk P w K mg base CX0 3 f__law_program fd__law_program ["_law_deck_here", "_law_places", "_law_marks", "_law_many"] (toSp K sp__law_program) := by
  refine fn_ok (k := 2) F__law_program sc__law_program (fun ds M R h => ?_) (fun cdv A outer s H E hr => ⟨_, (jb_cons (js_set (i := 4) sc__law_program.nd (je_call G__law_draw (hr.mono (by decide)) (by rfl) g__law_draw k__law_draw b__law_draw (ja_cons (jv 0) (ja_cons je_int ja_nil))))
      (jb_cons (js_set (i := 5) sc__law_program.nd (je_fresh (jl_disp ja_nil)))
      (jb_cons (js_for PassesOwn.never rfl (ji_rng1 (by rfl) z_range (jv 3)) (jg_name (i := 6) sc__law_program.nd) (jb_cons (js_set (i := 7) sc__law_program.nd (je_ix (je_frz (jl_disp (ja_cons (je_frz (jl_disp (ja_cons je_int (ja_cons je_int (ja_cons je_int ja_nil))))) (ja_cons (je_frz (jl_disp (ja_cons je_int (ja_cons je_int (ja_cons je_int (ja_cons je_int ja_nil)))))) (ja_cons (je_frz (jl_disp (ja_cons je_int (ja_cons je_int (ja_cons je_int (ja_cons je_int ja_nil)))))) (ja_cons (je_frz (jl_disp (ja_cons je_int (ja_cons je_int ja_nil)))) ja_nil)))))) (jv 4))) (jb_cons (js_set (i := 8) sc__law_program.nd (je_tuple z_tuple (ja_cons (je_frz (jl_lc rfl sc__law_program.nd (jlc (ji_rng1 (by rfl) z_range (je_call G__law_pick (hr.mono (by decide)) (by rfl) g__law_pick k__law_pick b__law_pick (ja_cons (jv 0) (ja_cons (jv 7) ja_nil)))) (blkOk_by (own := [("_law_j", 11)]) (N := N__law_program) (sc := defScope st__law_program) (by decide +kernel)) (fun _ _ _ _ _ => (jgv_name (i := 11) sc__law_program.nd (by decide))) (fun _ _ _ _ _ => jts_nil) (fun _ _ _ _ _ => (je_call G__law_pick (hr.mono (by decide)) (by rfl) g__law_pick k__law_pick b__law_pick (ja_cons (jv 0) (ja_cons (jv 2) ja_nil))))))) ja_nil))) (jb_cons (js_expr (je_append (jv 5) (je_tup (ja_cons (je_call G__law_pick (hr.mono (by decide)) (by rfl) g__law_pick k__law_pick b__law_pick (ja_cons (jv 0) (ja_cons (jv 1) ja_nil))) (ja_cons (je_call G__law_pick (hr.mono (by decide)) (by rfl) g__law_pick k__law_pick b__law_pick (ja_cons (jv 0) (ja_cons (jv 2) ja_nil))) (ja_cons (je_call G__law_pick (hr.mono (by decide)) (by rfl) g__law_pick k__law_pick b__law_pick (ja_cons (jv 0) (ja_cons (jv 1) ja_nil))) (ja_cons (jv 8) ja_nil))))))) (jb_one (js_if (JW.jt (jw_and (jt_gt (jv 6) je_int) (jw_and1 (jt_gt (je_call G__law_draw (hr.mono (by decide)) (by rfl) g__law_draw k__law_draw b__law_draw (ja_cons (jv 0) (ja_cons je_int ja_nil))) je_int)))) (jb_cons (js_set (i := 9) sc__law_program.nd (je_ix (jv 5) (je_sub (jv 6) je_int))) (jb_cons (js_set (i := 10) sc__law_program.nd (je_ix (je_add (je_ix (jv 9) je_int) (je_tup (ja_cons (je_ix (jv 9) je_int) ja_nil))) je_int)) (jb_one (js_lput (jv 5) (jv 6) (je_add (je_tup (ja_cons (je_ix (jv 9) je_int) (ja_cons (jv 10) ja_nil))) (je_slice (je_ix (jv 5) (jv 6)) (jo_some je_int) jo_none)))))) jb_nil))))))
      (jb_one (js_ret (je_tuple z_tuple (ja_cons (jv 5) ja_nil))))))), fun ds M R h => ?_⟩)
  · unfold sp__law_program at h
    first | (obtain ⟨rfl, _⟩ := h; rfl) | (obtain ⟨_, rfl, _⟩ := h; rfl) | (obtain ⟨_, _, rfl, _⟩ := h; rfl) | (obtain ⟨_, _, _, rfl, _⟩ := h; rfl) | (obtain ⟨_, _, _, _, rfl, _⟩ := h; rfl) | (obtain ⟨_, _, _, _, _, rfl, _⟩ := h; rfl) | (obtain ⟨_, _, _, _, _, _, rfl, _⟩ := h; rfl) | (obtain ⟨_, _, _, _, _, _, _, rfl, _⟩ := h; rfl) | (obtain ⟨_, _, _, _, _, _, _, _, rfl, _⟩ := h; rfl) | (split at h <;> first | rfl | exact h.elim)
  · unfold sp__law_program at h
    obtain ⟨d, ps, ms, many, rfl, hp, hm, hpl, hml, hmany, c, r, D0, k⟩ := h
    simp only [dSeq, dNext, dBreak, dCont, dDrop, dRet, dRetN, dIfS, dAsg, dputS, dlputS, dOp, dVar, dC, dget_zero, dget_succ, dTest, isB, dNil, dCons, dgName, dTup, dCB, dFresh, dFrz, dFreshD, dFrzD, dDispD, dDisp, dBM, dBM0, dAndV, dOrV, dNotV, dAnd, dOr, dNot, dCall, dNeg, dIf, dFor, dSl, dPart, dNoPart, diRng1, diRng2, diAny, isI, dstart, List.set_cons_zero, List.set_cons_succ, List.map_cons, List.map_nil, List.length_cons, List.length_nil, List.cons_append, List.nil_append, Nat.reduceAdd, Nat.reduceSub, Int.reduceAdd, Int.reduceSub, List.replicate, isLst, dgTup, dgCons, dgNil, dListOf, dJoin, dIndex, dRev, diZip, dPar2, diEnum, dRetX, dDropX, dAsgX, dCallX, dConsX, dTupX, dFrzX, dRaise0, dRaise1, dTryAs, dTryOnly, dXf, asEnds, dLc, wipeD, dCat, dSlL, dPairs, dGet2, dGet1, isDic, ite_true, ite_false, if_true, if_false, reduceIte, Bool.false_eq_true, Bool.true_eq_false, and_true, true_and, rdL_lst, rdL_ref, rdS_lst, rdS_ref, rdS_tup, rdD_dic, rdD_ref, addR_ii, addR_ib, addR_ss, addR_tt, addR_LL, subR_ii, mulR_ii, mulA_ii, mulA_t, mulA_L, modR_ii, fdivR_ii, powR_ii, ltR_ii, leR_ii, gtR_ii, geR_ii, keyD_s, keyD_i, dgetR, eqR_ii, eqR_ss, eqR_bb, eqR_tt, eqR_LL, neR_ii, neR_ss, neR_bb, neR_tt, neR_LL, eqM_ii, eqM_ss, eqM_bb, eqM_tt, eqM_LL, okD_i, okD_s, okD_b, okD_n, okD_t, okD_L, deck_at, deck_sum, deck_cells, deck_len, deck_put, dicOf_mup_same, lstOf_mup_same, int1R_b, int1R_i, ix_t0, ix_t1, ix_t2, ix_t3, ix_t4, lenR_t, lenR_s, lenR_L, slR_t, slR_s, slR_L, cutL_from1, cutL_from2, revR_t, revR_L, tup1R_L, tup1R_t, beq_self_eq_true, Bool.not_true, Bool.not_false, Option.isSome_some, List.isEmpty_nil, List.isEmpty_cons, isR_nn, isR_tn, isR_Ln, isR_sn, isR_in, isR_bn, isR_bb, isNotR_nn, isNotR_tn, isNotR_Ln, isNotR_sn, isNotR_in, isNotR_bn, isNotR_bb, isi_t_bool, isi_t_int, isi_t_str, isi_t_tuple, isi_t_list, isi_t_dict, isi_s_bool, isi_s_int, isi_s_str, isi_s_tuple, isi_s_list, isi_s_dict, isi_i_bool, isi_i_int, isi_i_str, isi_i_tuple, isi_i_list, isi_i_dict, isi_b_bool, isi_b_int, isi_b_str, isi_b_tuple, isi_b_list, isi_b_dict, isi_n_bool, isi_n_int, isi_n_str, isi_n_tuple, isi_n_list, isi_n_dict, isi_L_bool, isi_L_int, isi_L_str, isi_L_tuple, isi_L_list, isi_L_dict, isi_d_bool, isi_d_int, isi_d_str, isi_d_tuple, isi_d_list, isi_d_dict, natlit_eq, Int.reduceNeg, N__law_program]
    refine draw_go (r := r + 16 * many + 15) (D0.mono (by omega)) (by decide) (by decide) fun sort M1 s0 s1 D1 U1 => ⟨by decide, fun p hpn => ⟨inLine_nat (by omega), ?_⟩⟩
    have hpd := D1.nd hpn
    have hpc := D1.nc hpn
    have hp0 : M p = none := U1.fresh D1 hpn
    rw [Int.toNat_natCast]
    refine forW_rng (fun i ds M' => ∃ (rs : List Rl) (x6 x7 x8 x9 x10 x11 : Option D), ds = [some (D.ref d), some (.lst (ps.map D.str)), some (.lst (ms.map D.str)), some (D.int many), some (D.int sort), some (D.ref p), x6, x7, x8, x9, x10, x11] ∧ rs.length = i ∧ i ≤ many ∧ (∀ x ∈ rs, RuleIn ps ms x) ∧
        lstOf M' p = some (rs.map ruleD) ∧ Ext d c M M' ∧ Deck M' d c (r + 16 * (many - i))) (fun i N hi hN ds M' hI => ?_) (fun ds M' hI => ?_) _ _ ⟨[], none, none, none, none, none, none, rfl, rfl, Nat.zero_le _, by simp, lstOf_mup_same, U1.ext.new hpn, (D1.up hpn).mono (by omega)⟩
    · obtain ⟨rs, x6, x7, x8, x9, x10, x11, rfl, hrl, hi2, hrs, hL, hX, hD⟩ := hI
      have hD : Deck M' d c (r + 16 * (many - (i + 1)) + 16) := hD.mono (by omega)
      try simp only [dNext, dBreak, dCont, dDrop, dRet, dRetN, dIfS, dAsg, dputS, dlputS, dOp, dVar, dC, dget_zero, dget_succ, dTest, isB, dNil, dCons, dgName, dTup, dCB, dFresh, dFrz, dFreshD, dFrzD, dDispD, dDisp, dBM, dBM0, dAndV, dOrV, dNotV, dAnd, dOr, dNot, dCall, dNeg, dIf, dFor, dSl, dPart, dNoPart, diRng1, diRng2, diAny, isI, dstart, List.set_cons_zero, List.set_cons_succ, List.map_cons, List.map_nil, List.length_cons, List.length_nil, List.cons_append, List.nil_append, Nat.reduceAdd, Nat.reduceSub, Int.reduceAdd, Int.reduceSub, List.replicate, isLst, dgTup, dgCons, dgNil, dListOf, dJoin, dIndex, dRev, diZip, dPar2, diEnum, dRetX, dDropX, dAsgX, dCallX, dConsX, dTupX, dFrzX, dRaise0, dRaise1, dTryAs, dTryOnly, dXf, asEnds, dLc, wipeD, dCat, dSlL, dPairs, dGet2, dGet1, isDic, ite_true, ite_false, if_true, if_false, reduceIte, Bool.false_eq_true, Bool.true_eq_false, and_true, true_and, rdL_lst, rdL_ref, rdS_lst, rdS_ref, rdS_tup, rdD_dic, rdD_ref, addR_ii, addR_ib, addR_ss, addR_tt, addR_LL, subR_ii, mulR_ii, mulA_ii, mulA_t, mulA_L, modR_ii, fdivR_ii, powR_ii, ltR_ii, leR_ii, gtR_ii, geR_ii, keyD_s, keyD_i, dgetR, eqR_ii, eqR_ss, eqR_bb, eqR_tt, eqR_LL, neR_ii, neR_ss, neR_bb, neR_tt, neR_LL, eqM_ii, eqM_ss, eqM_bb, eqM_tt, eqM_LL, okD_i, okD_s, okD_b, okD_n, okD_t, okD_L, deck_at, deck_sum, deck_cells, deck_len, deck_put, dicOf_mup_same, lstOf_mup_same, int1R_b, int1R_i, ix_t0, ix_t1, ix_t2, ix_t3, ix_t4, lenR_t, lenR_s, lenR_L, slR_t, slR_s, slR_L, cutL_from1, cutL_from2, revR_t, revR_L, tup1R_L, tup1R_t, beq_self_eq_true, Bool.not_true, Bool.not_false, Option.isSome_some, List.isEmpty_nil, List.isEmpty_cons, isR_nn, isR_tn, isR_Ln, isR_sn, isR_in, isR_bn, isR_bb, isNotR_nn, isNotR_tn, isNotR_Ln, isNotR_sn, isNotR_in, isNotR_bn, isNotR_bb, isi_t_bool, isi_t_int, isi_t_str, isi_t_tuple, isi_t_list, isi_t_dict, isi_s_bool, isi_s_int, isi_s_str, isi_s_tuple, isi_s_list, isi_s_dict, isi_i_bool, isi_i_int, isi_i_str, isi_i_tuple, isi_i_list, isi_i_dict, isi_b_bool, isi_b_int, isi_b_str, isi_b_tuple, isi_b_list, isi_b_dict, isi_n_bool, isi_n_int, isi_n_str, isi_n_tuple, isi_n_list, isi_n_dict, isi_L_bool, isi_L_int, isi_L_str, isi_L_tuple, isi_L_list, isi_L_dict, isi_d_bool, isi_d_int, isi_d_str, isi_d_tuple, isi_d_list, isi_d_dict, natlit_eq, Int.reduceNeg]
      refine seq_go ?_
      try simp only [dNext, dBreak, dCont, dDrop, dRet, dRetN, dIfS, dAsg, dputS, dlputS, dOp, dVar, dC, dget_zero, dget_succ, dTest, isB, dNil, dCons, dgName, dTup, dCB, dFresh, dFrz, dFreshD, dFrzD, dDispD, dDisp, dBM, dBM0, dAndV, dOrV, dNotV, dAnd, dOr, dNot, dCall, dNeg, dIf, dFor, dSl, dPart, dNoPart, diRng1, diRng2, diAny, isI, dstart, List.set_cons_zero, List.set_cons_succ, List.map_cons, List.map_nil, List.length_cons, List.length_nil, List.cons_append, List.nil_append, Nat.reduceAdd, Nat.reduceSub, Int.reduceAdd, Int.reduceSub, List.replicate, isLst, dgTup, dgCons, dgNil, dListOf, dJoin, dIndex, dRev, diZip, dPar2, diEnum, dRetX, dDropX, dAsgX, dCallX, dConsX, dTupX, dFrzX, dRaise0, dRaise1, dTryAs, dTryOnly, dXf, asEnds, dLc, wipeD, dCat, dSlL, dPairs, dGet2, dGet1, isDic, ite_true, ite_false, if_true, if_false, reduceIte, Bool.false_eq_true, Bool.true_eq_false, and_true, true_and, rdL_lst, rdL_ref, rdS_lst, rdS_ref, rdS_tup, rdD_dic, rdD_ref, addR_ii, addR_ib, addR_ss, addR_tt, addR_LL, subR_ii, mulR_ii, mulA_ii, mulA_t, mulA_L, modR_ii, fdivR_ii, powR_ii, ltR_ii, leR_ii, gtR_ii, geR_ii, keyD_s, keyD_i, dgetR, eqR_ii, eqR_ss, eqR_bb, eqR_tt, eqR_LL, neR_ii, neR_ss, neR_bb, neR_tt, neR_LL, eqM_ii, eqM_ss, eqM_bb, eqM_tt, eqM_LL, okD_i, okD_s, okD_b, okD_n, okD_t, okD_L, deck_at, deck_sum, deck_cells, deck_len, deck_put, dicOf_mup_same, lstOf_mup_same, int1R_b, int1R_i, ix_t0, ix_t1, ix_t2, ix_t3, ix_t4, lenR_t, lenR_s, lenR_L, slR_t, slR_s, slR_L, cutL_from1, cutL_from2, revR_t, revR_L, tup1R_L, tup1R_t, beq_self_eq_true, Bool.not_true, Bool.not_false, Option.isSome_some, List.isEmpty_nil, List.isEmpty_cons, isR_nn, isR_tn, isR_Ln, isR_sn, isR_in, isR_bn, isR_bb, isNotR_nn, isNotR_tn, isNotR_Ln, isNotR_sn, isNotR_in, isNotR_bn, isNotR_bb, isi_t_bool, isi_t_int, isi_t_str, isi_t_tuple, isi_t_list, isi_t_dict, isi_s_bool, isi_s_int, isi_s_str, isi_s_tuple, isi_s_list, isi_s_dict, isi_i_bool, isi_i_int, isi_i_str, isi_i_tuple, isi_i_list, isi_i_dict, isi_b_bool, isi_b_int, isi_b_str, isi_b_tuple, isi_b_list, isi_b_dict, isi_n_bool, isi_n_int, isi_n_str, isi_n_tuple, isi_n_list, isi_n_dict, isi_L_bool, isi_L_int, isi_L_str, isi_L_tuple, isi_L_list, isi_L_dict, isi_d_bool, isi_d_int, isi_d_str, isi_d_tuple, isi_d_list, isi_d_dict, natlit_eq, Int.reduceNeg]
      refine ⟨by decide, by decide, by decide, by decide, by decide, ?_⟩
      obtain ⟨y, hy, my⟩ : ∃ y, [D.lst [.int 0, .int 1, .int 2], .lst [.int 0, .int 0, .int 1, .int 2], .lst [.int 0, .int 1, .int 2, .int 2], .lst [.int 0, .int 2]][sort.toNat]? = some y ∧ y ∈ [D.lst [.int 0, .int 1, .int 2], .lst [.int 0, .int 0, .int 1, .int 2], .lst [.int 0, .int 1, .int 2, .int 2], .lst [.int 0, .int 2]] :=
        ⟨_, List.getElem?_eq_getElem (by simp; omega), List.getElem_mem _⟩
      refine ix_L s0 hy ?_
      obtain ⟨zs, rfl, hz0, hz1, hz2⟩ := sizes_ok y my
      refine seq_go ?_
      try simp only [dNext, dBreak, dCont, dDrop, dRet, dRetN, dIfS, dAsg, dputS, dlputS, dOp, dVar, dC, dget_zero, dget_succ, dTest, isB, dNil, dCons, dgName, dTup, dCB, dFresh, dFrz, dFreshD, dFrzD, dDispD, dDisp, dBM, dBM0, dAndV, dOrV, dNotV, dAnd, dOr, dNot, dCall, dNeg, dIf, dFor, dSl, dPart, dNoPart, diRng1, diRng2, diAny, isI, dstart, List.set_cons_zero, List.set_cons_succ, List.map_cons, List.map_nil, List.length_cons, List.length_nil, List.cons_append, List.nil_append, Nat.reduceAdd, Nat.reduceSub, Int.reduceAdd, Int.reduceSub, List.replicate, isLst, dgTup, dgCons, dgNil, dListOf, dJoin, dIndex, dRev, diZip, dPar2, diEnum, dRetX, dDropX, dAsgX, dCallX, dConsX, dTupX, dFrzX, dRaise0, dRaise1, dTryAs, dTryOnly, dXf, asEnds, dLc, wipeD, dCat, dSlL, dPairs, dGet2, dGet1, isDic, ite_true, ite_false, if_true, if_false, reduceIte, Bool.false_eq_true, Bool.true_eq_false, and_true, true_and, rdL_lst, rdL_ref, rdS_lst, rdS_ref, rdS_tup, rdD_dic, rdD_ref, addR_ii, addR_ib, addR_ss, addR_tt, addR_LL, subR_ii, mulR_ii, mulA_ii, mulA_t, mulA_L, modR_ii, fdivR_ii, powR_ii, ltR_ii, leR_ii, gtR_ii, geR_ii, keyD_s, keyD_i, dgetR, eqR_ii, eqR_ss, eqR_bb, eqR_tt, eqR_LL, neR_ii, neR_ss, neR_bb, neR_tt, neR_LL, eqM_ii, eqM_ss, eqM_bb, eqM_tt, eqM_LL, okD_i, okD_s, okD_b, okD_n, okD_t, okD_L, deck_at, deck_sum, deck_cells, deck_len, deck_put, dicOf_mup_same, lstOf_mup_same, int1R_b, int1R_i, ix_t0, ix_t1, ix_t2, ix_t3, ix_t4, lenR_t, lenR_s, lenR_L, slR_t, slR_s, slR_L, cutL_from1, cutL_from2, revR_t, revR_L, tup1R_L, tup1R_t, beq_self_eq_true, Bool.not_true, Bool.not_false, Option.isSome_some, List.isEmpty_nil, List.isEmpty_cons, isR_nn, isR_tn, isR_Ln, isR_sn, isR_in, isR_bn, isR_bb, isNotR_nn, isNotR_tn, isNotR_Ln, isNotR_sn, isNotR_in, isNotR_bn, isNotR_bb, isi_t_bool, isi_t_int, isi_t_str, isi_t_tuple, isi_t_list, isi_t_dict, isi_s_bool, isi_s_int, isi_s_str, isi_s_tuple, isi_s_list, isi_s_dict, isi_i_bool, isi_i_int, isi_i_str, isi_i_tuple, isi_i_list, isi_i_dict, isi_b_bool, isi_b_int, isi_b_str, isi_b_tuple, isi_b_list, isi_b_dict, isi_n_bool, isi_n_int, isi_n_str, isi_n_tuple, isi_n_list, isi_n_dict, isi_L_bool, isi_L_int, isi_L_str, isi_L_tuple, isi_L_list, isi_L_dict, isi_d_bool, isi_d_int, isi_d_str, isi_d_tuple, isi_d_list, isi_d_dict, natlit_eq, Int.reduceNeg]
      refine pick_Lm (r := r + 16 * (many - (i + 1)) + 15) hD hz0 (by omega) fun z mz M2 D2 U2 => ?_
      try simp only [dNext, dBreak, dCont, dDrop, dRet, dRetN, dIfS, dAsg, dputS, dlputS, dOp, dVar, dC, dget_zero, dget_succ, dTest, isB, dNil, dCons, dgName, dTup, dCB, dFresh, dFrz, dFreshD, dFrzD, dDispD, dDisp, dBM, dBM0, dAndV, dOrV, dNotV, dAnd, dOr, dNot, dCall, dNeg, dIf, dFor, dSl, dPart, dNoPart, diRng1, diRng2, diAny, isI, dstart, List.set_cons_zero, List.set_cons_succ, List.map_cons, List.map_nil, List.length_cons, List.length_nil, List.cons_append, List.nil_append, Nat.reduceAdd, Nat.reduceSub, Int.reduceAdd, Int.reduceSub, List.replicate, isLst, dgTup, dgCons, dgNil, dListOf, dJoin, dIndex, dRev, diZip, dPar2, diEnum, dRetX, dDropX, dAsgX, dCallX, dConsX, dTupX, dFrzX, dRaise0, dRaise1, dTryAs, dTryOnly, dXf, asEnds, dLc, wipeD, dCat, dSlL, dPairs, dGet2, dGet1, isDic, ite_true, ite_false, if_true, if_false, reduceIte, Bool.false_eq_true, Bool.true_eq_false, and_true, true_and, rdL_lst, rdL_ref, rdS_lst, rdS_ref, rdS_tup, rdD_dic, rdD_ref, addR_ii, addR_ib, addR_ss, addR_tt, addR_LL, subR_ii, mulR_ii, mulA_ii, mulA_t, mulA_L, modR_ii, fdivR_ii, powR_ii, ltR_ii, leR_ii, gtR_ii, geR_ii, keyD_s, keyD_i, dgetR, eqR_ii, eqR_ss, eqR_bb, eqR_tt, eqR_LL, neR_ii, neR_ss, neR_bb, neR_tt, neR_LL, eqM_ii, eqM_ss, eqM_bb, eqM_tt, eqM_LL, okD_i, okD_s, okD_b, okD_n, okD_t, okD_L, deck_at, deck_sum, deck_cells, deck_len, deck_put, dicOf_mup_same, lstOf_mup_same, int1R_b, int1R_i, ix_t0, ix_t1, ix_t2, ix_t3, ix_t4, lenR_t, lenR_s, lenR_L, slR_t, slR_s, slR_L, cutL_from1, cutL_from2, revR_t, revR_L, tup1R_L, tup1R_t, beq_self_eq_true, Bool.not_true, Bool.not_false, Option.isSome_some, List.isEmpty_nil, List.isEmpty_cons, isR_nn, isR_tn, isR_Ln, isR_sn, isR_in, isR_bn, isR_bb, isNotR_nn, isNotR_tn, isNotR_Ln, isNotR_sn, isNotR_in, isNotR_bn, isNotR_bb, isi_t_bool, isi_t_int, isi_t_str, isi_t_tuple, isi_t_list, isi_t_dict, isi_s_bool, isi_s_int, isi_s_str, isi_s_tuple, isi_s_list, isi_s_dict, isi_i_bool, isi_i_int, isi_i_str, isi_i_tuple, isi_i_list, isi_i_dict, isi_b_bool, isi_b_int, isi_b_str, isi_b_tuple, isi_b_list, isi_b_dict, isi_n_bool, isi_n_int, isi_n_str, isi_n_tuple, isi_n_list, isi_n_dict, isi_L_bool, isi_L_int, isi_L_str, isi_L_tuple, isi_L_list, isi_L_dict, isi_d_bool, isi_d_int, isi_d_str, isi_d_tuple, isi_d_list, isi_d_dict, natlit_eq, Int.reduceNeg]
      obtain ⟨z0, z2⟩ := hz1 z mz
      refine ⟨⟨by omega, by omega⟩, ?_⟩
      refine lcW_deck (d := d) (c := c) (r := r + 16 * (many - (i + 1)) + 13) 1 (fun y => ∃ s, s ∈ ms ∧ y = .str s) (small_line (by simp [rangeD]; omega)) (D2.mono (by simp [rangeD]; omega)) (fun _ _ => trivial) (fun x hx r' M3 N F D3 U3 hN => ?_) (fun ys M3 hl hP D3 U3 => ?_)
      · simp only [dNext, dBreak, dCont, dDrop, dRet, dRetN, dIfS, dAsg, dputS, dlputS, dOp, dVar, dC, dget_zero, dget_succ, dTest, isB, dNil, dCons, dgName, dTup, dCB, dFresh, dFrz, dFreshD, dFrzD, dDispD, dDisp, dBM, dBM0, dAndV, dOrV, dNotV, dAnd, dOr, dNot, dCall, dNeg, dIf, dFor, dSl, dPart, dNoPart, diRng1, diRng2, diAny, isI, dstart, List.set_cons_zero, List.set_cons_succ, List.map_cons, List.map_nil, List.length_cons, List.length_nil, List.cons_append, List.nil_append, Nat.reduceAdd, Nat.reduceSub, Int.reduceAdd, Int.reduceSub, List.replicate, isLst, dgTup, dgCons, dgNil, dListOf, dJoin, dIndex, dRev, diZip, dPar2, diEnum, dRetX, dDropX, dAsgX, dCallX, dConsX, dTupX, dFrzX, dRaise0, dRaise1, dTryAs, dTryOnly, dXf, asEnds, dLc, wipeD, dCat, dSlL, dPairs, dGet2, dGet1, isDic, ite_true, ite_false, if_true, if_false, reduceIte, Bool.false_eq_true, Bool.true_eq_false, and_true, true_and, rdL_lst, rdL_ref, rdS_lst, rdS_ref, rdS_tup, rdD_dic, rdD_ref, addR_ii, addR_ib, addR_ss, addR_tt, addR_LL, subR_ii, mulR_ii, mulA_ii, mulA_t, mulA_L, modR_ii, fdivR_ii, powR_ii, ltR_ii, leR_ii, gtR_ii, geR_ii, keyD_s, keyD_i, dgetR, eqR_ii, eqR_ss, eqR_bb, eqR_tt, eqR_LL, neR_ii, neR_ss, neR_bb, neR_tt, neR_LL, eqM_ii, eqM_ss, eqM_bb, eqM_tt, eqM_LL, okD_i, okD_s, okD_b, okD_n, okD_t, okD_L, deck_at, deck_sum, deck_cells, deck_len, deck_put, dicOf_mup_same, lstOf_mup_same, int1R_b, int1R_i, ix_t0, ix_t1, ix_t2, ix_t3, ix_t4, lenR_t, lenR_s, lenR_L, slR_t, slR_s, slR_L, cutL_from1, cutL_from2, revR_t, revR_L, tup1R_L, tup1R_t, beq_self_eq_true, Bool.not_true, Bool.not_false, Option.isSome_some, List.isEmpty_nil, List.isEmpty_cons, isR_nn, isR_tn, isR_Ln, isR_sn, isR_in, isR_bn, isR_bb, isNotR_nn, isNotR_tn, isNotR_Ln, isNotR_sn, isNotR_in, isNotR_bn, isNotR_bb, isi_t_bool, isi_t_int, isi_t_str, isi_t_tuple, isi_t_list, isi_t_dict, isi_s_bool, isi_s_int, isi_s_str, isi_s_tuple, isi_s_list, isi_s_dict, isi_i_bool, isi_i_int, isi_i_str, isi_i_tuple, isi_i_list, isi_i_dict, isi_b_bool, isi_b_int, isi_b_str, isi_b_tuple, isi_b_list, isi_b_dict, isi_n_bool, isi_n_int, isi_n_str, isi_n_tuple, isi_n_list, isi_n_dict, isi_L_bool, isi_L_int, isi_L_str, isi_L_tuple, isi_L_list, isi_L_dict, isi_d_bool, isi_d_int, isi_d_str, isi_d_tuple, isi_d_list, isi_d_dict, natlit_eq, Int.reduceNeg, dYes]
        exact pick_Lm D3 hm (by omega) fun y my M4 D4 U4 => hN _ _ ⟨y, my, rfl⟩ D4 (U3.trans U4)
      · obtain ⟨put, rfl, hput, hplen⟩ := all_map D.str (· ∈ ms) hP
        have hput2 : put.length ≤ 2 := by rw [hplen, hl]; simp [rangeD]; omega
        try simp only [dNext, dBreak, dCont, dDrop, dRet, dRetN, dIfS, dAsg, dputS, dlputS, dOp, dVar, dC, dget_zero, dget_succ, dTest, isB, dNil, dCons, dgName, dTup, dCB, dFresh, dFrz, dFreshD, dFrzD, dDispD, dDisp, dBM, dBM0, dAndV, dOrV, dNotV, dAnd, dOr, dNot, dCall, dNeg, dIf, dFor, dSl, dPart, dNoPart, diRng1, diRng2, diAny, isI, dstart, List.set_cons_zero, List.set_cons_succ, List.map_cons, List.map_nil, List.length_cons, List.length_nil, List.cons_append, List.nil_append, Nat.reduceAdd, Nat.reduceSub, Int.reduceAdd, Int.reduceSub, List.replicate, isLst, dgTup, dgCons, dgNil, dListOf, dJoin, dIndex, dRev, diZip, dPar2, diEnum, dRetX, dDropX, dAsgX, dCallX, dConsX, dTupX, dFrzX, dRaise0, dRaise1, dTryAs, dTryOnly, dXf, asEnds, dLc, wipeD, dCat, dSlL, dPairs, dGet2, dGet1, isDic, ite_true, ite_false, if_true, if_false, reduceIte, Bool.false_eq_true, Bool.true_eq_false, and_true, true_and, rdL_lst, rdL_ref, rdS_lst, rdS_ref, rdS_tup, rdD_dic, rdD_ref, addR_ii, addR_ib, addR_ss, addR_tt, addR_LL, subR_ii, mulR_ii, mulA_ii, mulA_t, mulA_L, modR_ii, fdivR_ii, powR_ii, ltR_ii, leR_ii, gtR_ii, geR_ii, keyD_s, keyD_i, dgetR, eqR_ii, eqR_ss, eqR_bb, eqR_tt, eqR_LL, neR_ii, neR_ss, neR_bb, neR_tt, neR_LL, eqM_ii, eqM_ss, eqM_bb, eqM_tt, eqM_LL, okD_i, okD_s, okD_b, okD_n, okD_t, okD_L, deck_at, deck_sum, deck_cells, deck_len, deck_put, dicOf_mup_same, lstOf_mup_same, int1R_b, int1R_i, ix_t0, ix_t1, ix_t2, ix_t3, ix_t4, lenR_t, lenR_s, lenR_L, slR_t, slR_s, slR_L, cutL_from1, cutL_from2, revR_t, revR_L, tup1R_L, tup1R_t, beq_self_eq_true, Bool.not_true, Bool.not_false, Option.isSome_some, List.isEmpty_nil, List.isEmpty_cons, isR_nn, isR_tn, isR_Ln, isR_sn, isR_in, isR_bn, isR_bb, isNotR_nn, isNotR_tn, isNotR_Ln, isNotR_sn, isNotR_in, isNotR_bn, isNotR_bb, isi_t_bool, isi_t_int, isi_t_str, isi_t_tuple, isi_t_list, isi_t_dict, isi_s_bool, isi_s_int, isi_s_str, isi_s_tuple, isi_s_list, isi_s_dict, isi_i_bool, isi_i_int, isi_i_str, isi_i_tuple, isi_i_list, isi_i_dict, isi_b_bool, isi_b_int, isi_b_str, isi_b_tuple, isi_b_list, isi_b_dict, isi_n_bool, isi_n_int, isi_n_str, isi_n_tuple, isi_n_list, isi_n_dict, isi_L_bool, isi_L_int, isi_L_str, isi_L_tuple, isi_L_list, isi_L_dict, isi_d_bool, isi_d_int, isi_d_str, isi_d_tuple, isi_d_list, isi_d_dict, natlit_eq, Int.reduceNeg]
        refine seq_go ?_
        try simp only [dNext, dBreak, dCont, dDrop, dRet, dRetN, dIfS, dAsg, dputS, dlputS, dOp, dVar, dC, dget_zero, dget_succ, dTest, isB, dNil, dCons, dgName, dTup, dCB, dFresh, dFrz, dFreshD, dFrzD, dDispD, dDisp, dBM, dBM0, dAndV, dOrV, dNotV, dAnd, dOr, dNot, dCall, dNeg, dIf, dFor, dSl, dPart, dNoPart, diRng1, diRng2, diAny, isI, dstart, List.set_cons_zero, List.set_cons_succ, List.map_cons, List.map_nil, List.length_cons, List.length_nil, List.cons_append, List.nil_append, Nat.reduceAdd, Nat.reduceSub, Int.reduceAdd, Int.reduceSub, List.replicate, isLst, dgTup, dgCons, dgNil, dListOf, dJoin, dIndex, dRev, diZip, dPar2, diEnum, dRetX, dDropX, dAsgX, dCallX, dConsX, dTupX, dFrzX, dRaise0, dRaise1, dTryAs, dTryOnly, dXf, asEnds, dLc, wipeD, dCat, dSlL, dPairs, dGet2, dGet1, isDic, ite_true, ite_false, if_true, if_false, reduceIte, Bool.false_eq_true, Bool.true_eq_false, and_true, true_and, rdL_lst, rdL_ref, rdS_lst, rdS_ref, rdS_tup, rdD_dic, rdD_ref, addR_ii, addR_ib, addR_ss, addR_tt, addR_LL, subR_ii, mulR_ii, mulA_ii, mulA_t, mulA_L, modR_ii, fdivR_ii, powR_ii, ltR_ii, leR_ii, gtR_ii, geR_ii, keyD_s, keyD_i, dgetR, eqR_ii, eqR_ss, eqR_bb, eqR_tt, eqR_LL, neR_ii, neR_ss, neR_bb, neR_tt, neR_LL, eqM_ii, eqM_ss, eqM_bb, eqM_tt, eqM_LL, okD_i, okD_s, okD_b, okD_n, okD_t, okD_L, deck_at, deck_sum, deck_cells, deck_len, deck_put, dicOf_mup_same, lstOf_mup_same, int1R_b, int1R_i, ix_t0, ix_t1, ix_t2, ix_t3, ix_t4, lenR_t, lenR_s, lenR_L, slR_t, slR_s, slR_L, cutL_from1, cutL_from2, revR_t, revR_L, tup1R_L, tup1R_t, beq_self_eq_true, Bool.not_true, Bool.not_false, Option.isSome_some, List.isEmpty_nil, List.isEmpty_cons, isR_nn, isR_tn, isR_Ln, isR_sn, isR_in, isR_bn, isR_bb, isNotR_nn, isNotR_tn, isNotR_Ln, isNotR_sn, isNotR_in, isNotR_bn, isNotR_bb, isi_t_bool, isi_t_int, isi_t_str, isi_t_tuple, isi_t_list, isi_t_dict, isi_s_bool, isi_s_int, isi_s_str, isi_s_tuple, isi_s_list, isi_s_dict, isi_i_bool, isi_i_int, isi_i_str, isi_i_tuple, isi_i_list, isi_i_dict, isi_b_bool, isi_b_int, isi_b_str, isi_b_tuple, isi_b_list, isi_b_dict, isi_n_bool, isi_n_int, isi_n_str, isi_n_tuple, isi_n_list, isi_n_dict, isi_L_bool, isi_L_int, isi_L_str, isi_L_tuple, isi_L_list, isi_L_dict, isi_d_bool, isi_d_int, isi_d_str, isi_d_tuple, isi_d_list, isi_d_dict, natlit_eq, Int.reduceNeg]
        have e3 : lstOf M3 p = some (rs.map ruleD) := by rw [(U2.trans U3).lst hpd hpc]; exact hL
        rw [e3]
        refine ⟨rfl, ?_⟩
        refine pick_Lm (r := r + 16 * (many - (i + 1)) + 12) D3 hp (by omega) fun p1 mp1 M4 D4 U4 => ?_
        refine pick_Lm (r := r + 16 * (many - (i + 1)) + 11) D4 hm (by omega) fun m1 mm1 M5 D5 U5 => ?_
        refine pick_Lm (r := r + 16 * (many - (i + 1)) + 10) D5 hp (by omega) fun o1 mo1 M6 D6 U6 => ?_
        refine ⟨by decide, ?_⟩
        have U36 := U4.trans (U5.trans U6)
        have e6 : lstOf M6 p = some (rs.map ruleD) := by rw [U36.lst hpd hpc]; exact e3
        refine append_go e6 (by rw [List.length_map]; exact small_ltline (by omega)) ?_
        have hr1 : RuleIn ps ms ⟨p1, m1, o1, put⟩ := ⟨mp1, mm1, mo1, hput2, hput⟩
        have X6 : Ext d c M M6 := hX.trans ((U2.trans (U3.trans U36)).ext)
        have hD6 : Deck M6 d c (r + 16 * (many - (i + 1)) + 10) := D6
        -- the list behind
        have hrs1 : ∀ x ∈ rs ++ [⟨p1, m1, o1, put⟩], RuleIn ps ms x := fun x hx => by
          rcases List.mem_append.mp hx with hx | hx
          · exact hrs x hx
          · rw [List.mem_singleton.mp hx]; exact hr1
        have hl1 : (rs ++ [(⟨p1, m1, o1, put⟩ : Rl)]).map ruleD = rs.map ruleD ++ [.tup [.str p1, .str m1, .str o1, .tup (put.map D.str)]] := by simp [ruleD]
        try simp only [dNext, dBreak, dCont, dDrop, dRet, dRetN, dIfS, dAsg, dputS, dlputS, dOp, dVar, dC, dget_zero, dget_succ, dTest, isB, dNil, dCons, dgName, dTup, dCB, dFresh, dFrz, dFreshD, dFrzD, dDispD, dDisp, dBM, dBM0, dAndV, dOrV, dNotV, dAnd, dOr, dNot, dCall, dNeg, dIf, dFor, dSl, dPart, dNoPart, diRng1, diRng2, diAny, isI, dstart, List.set_cons_zero, List.set_cons_succ, List.map_cons, List.map_nil, List.length_cons, List.length_nil, List.cons_append, List.nil_append, Nat.reduceAdd, Nat.reduceSub, Int.reduceAdd, Int.reduceSub, List.replicate, isLst, dgTup, dgCons, dgNil, dListOf, dJoin, dIndex, dRev, diZip, dPar2, diEnum, dRetX, dDropX, dAsgX, dCallX, dConsX, dTupX, dFrzX, dRaise0, dRaise1, dTryAs, dTryOnly, dXf, asEnds, dLc, wipeD, dCat, dSlL, dPairs, dGet2, dGet1, isDic, ite_true, ite_false, if_true, if_false, reduceIte, Bool.false_eq_true, Bool.true_eq_false, and_true, true_and, rdL_lst, rdL_ref, rdS_lst, rdS_ref, rdS_tup, rdD_dic, rdD_ref, addR_ii, addR_ib, addR_ss, addR_tt, addR_LL, subR_ii, mulR_ii, mulA_ii, mulA_t, mulA_L, modR_ii, fdivR_ii, powR_ii, ltR_ii, leR_ii, gtR_ii, geR_ii, keyD_s, keyD_i, dgetR, eqR_ii, eqR_ss, eqR_bb, eqR_tt, eqR_LL, neR_ii, neR_ss, neR_bb, neR_tt, neR_LL, eqM_ii, eqM_ss, eqM_bb, eqM_tt, eqM_LL, okD_i, okD_s, okD_b, okD_n, okD_t, okD_L, deck_at, deck_sum, deck_cells, deck_len, deck_put, dicOf_mup_same, lstOf_mup_same, int1R_b, int1R_i, ix_t0, ix_t1, ix_t2, ix_t3, ix_t4, lenR_t, lenR_s, lenR_L, slR_t, slR_s, slR_L, cutL_from1, cutL_from2, revR_t, revR_L, tup1R_L, tup1R_t, beq_self_eq_true, Bool.not_true, Bool.not_false, Option.isSome_some, List.isEmpty_nil, List.isEmpty_cons, isR_nn, isR_tn, isR_Ln, isR_sn, isR_in, isR_bn, isR_bb, isNotR_nn, isNotR_tn, isNotR_Ln, isNotR_sn, isNotR_in, isNotR_bn, isNotR_bb, isi_t_bool, isi_t_int, isi_t_str, isi_t_tuple, isi_t_list, isi_t_dict, isi_s_bool, isi_s_int, isi_s_str, isi_s_tuple, isi_s_list, isi_s_dict, isi_i_bool, isi_i_int, isi_i_str, isi_i_tuple, isi_i_list, isi_i_dict, isi_b_bool, isi_b_int, isi_b_str, isi_b_tuple, isi_b_list, isi_b_dict, isi_n_bool, isi_n_int, isi_n_str, isi_n_tuple, isi_n_list, isi_n_dict, isi_L_bool, isi_L_int, isi_L_str, isi_L_tuple, isi_L_list, isi_L_dict, isi_d_bool, isi_d_int, isi_d_str, isi_d_tuple, isi_d_list, isi_d_dict, natlit_eq, Int.reduceNeg]
        rw [← hl1]
        have hp6 : lstOf (mup M6 p (.lst ((rs ++ [(⟨p1, m1, o1, put⟩ : Rl)]).map ruleD))) p = some ((rs ++ [(⟨p1, m1, o1, put⟩ : Rl)]).map ruleD) := lstOf_mup_same
        have fin : ∀ (rs2 : List Rl) (M7 : Mm) (y9 y10 y11 : Option D), rs2.length = i + 1 → (∀ x ∈ rs2, RuleIn ps ms x) → lstOf M7 p = some (rs2.map ruleD) → Ext d c M M7 → Deck M7 d c (r + 16 * (many - (i + 1))) →
            N [some (D.ref d), some (D.lst (List.map D.str ps)), some (D.lst (List.map D.str ms)), some (D.int ↑many), some (D.int sort), some (D.ref p), some (D.int (0 + ↑i)), some (D.lst (List.map D.int zs)), some (D.tup (List.map D.str put)), y9, y10, y11] M7 :=
          fun rs2 M7 y9 y10 y11 h1 h2 h3 h4 h5 => hN _ _ ⟨rs2, _, _, _, _, _, _, rfl, h1, by omega, h2, h3, h4, h5⟩
        have fin0 := fun y9 y10 y11 (M7 : Mm) (h3 : lstOf M7 p = some ((rs ++ [(⟨p1, m1, o1, put⟩ : Rl)]).map ruleD)) h4 h5 => fin (rs ++ [⟨p1, m1, o1, put⟩]) M7 y9 y10 y11 (by simp [hrl]) hrs1 h3 h4 h5
        refine ifs (fun hk => ?_) (fun _ => fin0 _ _ _ _ hp6 (X6.put hp0) ((hD6.keep hpd hpc).mono (by omega)))
        refine draw_go (r := r + 16 * (many - (i + 1)) + 9) (hD6.keep hpd hpc) (by decide) (by decide) fun b M7 b0 b1 D7 U7 => ?_
        have e7 : lstOf M7 p = some ((rs ++ [(⟨p1, m1, o1, put⟩ : Rl)]).map ruleD) := by rw [U7.lst hpd hpc]; exact hp6
        have X7 : Ext d c M M7 := (X6.put hp0).trans U7.ext
        try simp only [dNext, dBreak, dCont, dDrop, dRet, dRetN, dIfS, dAsg, dputS, dlputS, dOp, dVar, dC, dget_zero, dget_succ, dTest, isB, dNil, dCons, dgName, dTup, dCB, dFresh, dFrz, dFreshD, dFrzD, dDispD, dDisp, dBM, dBM0, dAndV, dOrV, dNotV, dAnd, dOr, dNot, dCall, dNeg, dIf, dFor, dSl, dPart, dNoPart, diRng1, diRng2, diAny, isI, dstart, List.set_cons_zero, List.set_cons_succ, List.map_cons, List.map_nil, List.length_cons, List.length_nil, List.cons_append, List.nil_append, Nat.reduceAdd, Nat.reduceSub, Int.reduceAdd, Int.reduceSub, List.replicate, isLst, dgTup, dgCons, dgNil, dListOf, dJoin, dIndex, dRev, diZip, dPar2, diEnum, dRetX, dDropX, dAsgX, dCallX, dConsX, dTupX, dFrzX, dRaise0, dRaise1, dTryAs, dTryOnly, dXf, asEnds, dLc, wipeD, dCat, dSlL, dPairs, dGet2, dGet1, isDic, ite_true, ite_false, if_true, if_false, reduceIte, Bool.false_eq_true, Bool.true_eq_false, and_true, true_and, rdL_lst, rdL_ref, rdS_lst, rdS_ref, rdS_tup, rdD_dic, rdD_ref, addR_ii, addR_ib, addR_ss, addR_tt, addR_LL, subR_ii, mulR_ii, mulA_ii, mulA_t, mulA_L, modR_ii, fdivR_ii, powR_ii, ltR_ii, leR_ii, gtR_ii, geR_ii, keyD_s, keyD_i, dgetR, eqR_ii, eqR_ss, eqR_bb, eqR_tt, eqR_LL, neR_ii, neR_ss, neR_bb, neR_tt, neR_LL, eqM_ii, eqM_ss, eqM_bb, eqM_tt, eqM_LL, okD_i, okD_s, okD_b, okD_n, okD_t, okD_L, deck_at, deck_sum, deck_cells, deck_len, deck_put, dicOf_mup_same, lstOf_mup_same, int1R_b, int1R_i, ix_t0, ix_t1, ix_t2, ix_t3, ix_t4, lenR_t, lenR_s, lenR_L, slR_t, slR_s, slR_L, cutL_from1, cutL_from2, revR_t, revR_L, tup1R_L, tup1R_t, beq_self_eq_true, Bool.not_true, Bool.not_false, Option.isSome_some, List.isEmpty_nil, List.isEmpty_cons, isR_nn, isR_tn, isR_Ln, isR_sn, isR_in, isR_bn, isR_bb, isNotR_nn, isNotR_tn, isNotR_Ln, isNotR_sn, isNotR_in, isNotR_bn, isNotR_bb, isi_t_bool, isi_t_int, isi_t_str, isi_t_tuple, isi_t_list, isi_t_dict, isi_s_bool, isi_s_int, isi_s_str, isi_s_tuple, isi_s_list, isi_s_dict, isi_i_bool, isi_i_int, isi_i_str, isi_i_tuple, isi_i_list, isi_i_dict, isi_b_bool, isi_b_int, isi_b_str, isi_b_tuple, isi_b_list, isi_b_dict, isi_n_bool, isi_n_int, isi_n_str, isi_n_tuple, isi_n_list, isi_n_dict, isi_L_bool, isi_L_int, isi_L_str, isi_L_tuple, isi_L_list, isi_L_dict, isi_d_bool, isi_d_int, isi_d_str, isi_d_tuple, isi_d_list, isi_d_dict, natlit_eq, Int.reduceNeg]
        refine ifs (fun _ => ?_) (fun _ => fin0 _ _ _ _ e7 X7 (D7.mono (by omega)))
        obtain ⟨rs', ah, rfl⟩ : ∃ rs' ah, rs = rs' ++ [ah] := by
          rcases List.eq_nil_or_concat rs with rfl | ⟨a, b, rfl⟩
          · simp at hrl; subst hrl; simp at hk
          · exact ⟨a, b, by simp⟩
        have hah : RuleIn ps ms ah := hrs ah (by simp)
        have hi0 : rs'.length + 1 = i := by simpa using hrl
        try simp only [dNext, dBreak, dCont, dDrop, dRet, dRetN, dIfS, dAsg, dputS, dlputS, dOp, dVar, dC, dget_zero, dget_succ, dTest, isB, dNil, dCons, dgName, dTup, dCB, dFresh, dFrz, dFreshD, dFrzD, dDispD, dDisp, dBM, dBM0, dAndV, dOrV, dNotV, dAnd, dOr, dNot, dCall, dNeg, dIf, dFor, dSl, dPart, dNoPart, diRng1, diRng2, diAny, isI, dstart, List.set_cons_zero, List.set_cons_succ, List.map_cons, List.map_nil, List.length_cons, List.length_nil, List.cons_append, List.nil_append, Nat.reduceAdd, Nat.reduceSub, Int.reduceAdd, Int.reduceSub, List.replicate, isLst, dgTup, dgCons, dgNil, dListOf, dJoin, dIndex, dRev, diZip, dPar2, diEnum, dRetX, dDropX, dAsgX, dCallX, dConsX, dTupX, dFrzX, dRaise0, dRaise1, dTryAs, dTryOnly, dXf, asEnds, dLc, wipeD, dCat, dSlL, dPairs, dGet2, dGet1, isDic, ite_true, ite_false, if_true, if_false, reduceIte, Bool.false_eq_true, Bool.true_eq_false, and_true, true_and, rdL_lst, rdL_ref, rdS_lst, rdS_ref, rdS_tup, rdD_dic, rdD_ref, addR_ii, addR_ib, addR_ss, addR_tt, addR_LL, subR_ii, mulR_ii, mulA_ii, mulA_t, mulA_L, modR_ii, fdivR_ii, powR_ii, ltR_ii, leR_ii, gtR_ii, geR_ii, keyD_s, keyD_i, dgetR, eqR_ii, eqR_ss, eqR_bb, eqR_tt, eqR_LL, neR_ii, neR_ss, neR_bb, neR_tt, neR_LL, eqM_ii, eqM_ss, eqM_bb, eqM_tt, eqM_LL, okD_i, okD_s, okD_b, okD_n, okD_t, okD_L, deck_at, deck_sum, deck_cells, deck_len, deck_put, dicOf_mup_same, lstOf_mup_same, int1R_b, int1R_i, ix_t0, ix_t1, ix_t2, ix_t3, ix_t4, lenR_t, lenR_s, lenR_L, slR_t, slR_s, slR_L, cutL_from1, cutL_from2, revR_t, revR_L, tup1R_L, tup1R_t, beq_self_eq_true, Bool.not_true, Bool.not_false, Option.isSome_some, List.isEmpty_nil, List.isEmpty_cons, isR_nn, isR_tn, isR_Ln, isR_sn, isR_in, isR_bn, isR_bb, isNotR_nn, isNotR_tn, isNotR_Ln, isNotR_sn, isNotR_in, isNotR_bn, isNotR_bb, isi_t_bool, isi_t_int, isi_t_str, isi_t_tuple, isi_t_list, isi_t_dict, isi_s_bool, isi_s_int, isi_s_str, isi_s_tuple, isi_s_list, isi_s_dict, isi_i_bool, isi_i_int, isi_i_str, isi_i_tuple, isi_i_list, isi_i_dict, isi_b_bool, isi_b_int, isi_b_str, isi_b_tuple, isi_b_list, isi_b_dict, isi_n_bool, isi_n_int, isi_n_str, isi_n_tuple, isi_n_list, isi_n_dict, isi_L_bool, isi_L_int, isi_L_str, isi_L_tuple, isi_L_list, isi_L_dict, isi_d_bool, isi_d_int, isi_d_str, isi_d_tuple, isi_d_list, isi_d_dict, natlit_eq, Int.reduceNeg]
        refine seq_go ?_
        try simp only [dNext, dBreak, dCont, dDrop, dRet, dRetN, dIfS, dAsg, dputS, dlputS, dOp, dVar, dC, dget_zero, dget_succ, dTest, isB, dNil, dCons, dgName, dTup, dCB, dFresh, dFrz, dFreshD, dFrzD, dDispD, dDisp, dBM, dBM0, dAndV, dOrV, dNotV, dAnd, dOr, dNot, dCall, dNeg, dIf, dFor, dSl, dPart, dNoPart, diRng1, diRng2, diAny, isI, dstart, List.set_cons_zero, List.set_cons_succ, List.map_cons, List.map_nil, List.length_cons, List.length_nil, List.cons_append, List.nil_append, Nat.reduceAdd, Nat.reduceSub, Int.reduceAdd, Int.reduceSub, List.replicate, isLst, dgTup, dgCons, dgNil, dListOf, dJoin, dIndex, dRev, diZip, dPar2, diEnum, dRetX, dDropX, dAsgX, dCallX, dConsX, dTupX, dFrzX, dRaise0, dRaise1, dTryAs, dTryOnly, dXf, asEnds, dLc, wipeD, dCat, dSlL, dPairs, dGet2, dGet1, isDic, ite_true, ite_false, if_true, if_false, reduceIte, Bool.false_eq_true, Bool.true_eq_false, and_true, true_and, rdL_lst, rdL_ref, rdS_lst, rdS_ref, rdS_tup, rdD_dic, rdD_ref, addR_ii, addR_ib, addR_ss, addR_tt, addR_LL, subR_ii, mulR_ii, mulA_ii, mulA_t, mulA_L, modR_ii, fdivR_ii, powR_ii, ltR_ii, leR_ii, gtR_ii, geR_ii, keyD_s, keyD_i, dgetR, eqR_ii, eqR_ss, eqR_bb, eqR_tt, eqR_LL, neR_ii, neR_ss, neR_bb, neR_tt, neR_LL, eqM_ii, eqM_ss, eqM_bb, eqM_tt, eqM_LL, okD_i, okD_s, okD_b, okD_n, okD_t, okD_L, deck_at, deck_sum, deck_cells, deck_len, deck_put, dicOf_mup_same, lstOf_mup_same, int1R_b, int1R_i, ix_t0, ix_t1, ix_t2, ix_t3, ix_t4, lenR_t, lenR_s, lenR_L, slR_t, slR_s, slR_L, cutL_from1, cutL_from2, revR_t, revR_L, tup1R_L, tup1R_t, beq_self_eq_true, Bool.not_true, Bool.not_false, Option.isSome_some, List.isEmpty_nil, List.isEmpty_cons, isR_nn, isR_tn, isR_Ln, isR_sn, isR_in, isR_bn, isR_bb, isNotR_nn, isNotR_tn, isNotR_Ln, isNotR_sn, isNotR_in, isNotR_bn, isNotR_bb, isi_t_bool, isi_t_int, isi_t_str, isi_t_tuple, isi_t_list, isi_t_dict, isi_s_bool, isi_s_int, isi_s_str, isi_s_tuple, isi_s_list, isi_s_dict, isi_i_bool, isi_i_int, isi_i_str, isi_i_tuple, isi_i_list, isi_i_dict, isi_b_bool, isi_b_int, isi_b_str, isi_b_tuple, isi_b_list, isi_b_dict, isi_n_bool, isi_n_int, isi_n_str, isi_n_tuple, isi_n_list, isi_n_dict, isi_L_bool, isi_L_int, isi_L_str, isi_L_tuple, isi_L_list, isi_L_dict, isi_d_bool, isi_d_int, isi_d_str, isi_d_tuple, isi_d_list, isi_d_dict, natlit_eq, Int.reduceNeg]
        refine ix_l (d := ruleD ah) e7 (by omega) (by rw [show (0 + (i : Int) - 1).toNat = rs'.length by omega, List.getElem?_map]; simp) ?_
        refine seq_go ?_
        simp only [dNext, dBreak, dCont, dDrop, dRet, dRetN, dIfS, dAsg, dputS, dlputS, dOp, dVar, dC, dget_zero, dget_succ, dTest, isB, dNil, dCons, dgName, dTup, dCB, dFresh, dFrz, dFreshD, dFrzD, dDispD, dDisp, dBM, dBM0, dAndV, dOrV, dNotV, dAnd, dOr, dNot, dCall, dNeg, dIf, dFor, dSl, dPart, dNoPart, diRng1, diRng2, diAny, isI, dstart, List.set_cons_zero, List.set_cons_succ, List.map_cons, List.map_nil, List.length_cons, List.length_nil, List.cons_append, List.nil_append, Nat.reduceAdd, Nat.reduceSub, Int.reduceAdd, Int.reduceSub, List.replicate, isLst, dgTup, dgCons, dgNil, dListOf, dJoin, dIndex, dRev, diZip, dPar2, diEnum, dRetX, dDropX, dAsgX, dCallX, dConsX, dTupX, dFrzX, dRaise0, dRaise1, dTryAs, dTryOnly, dXf, asEnds, dLc, wipeD, dCat, dSlL, dPairs, dGet2, dGet1, isDic, ite_true, ite_false, if_true, if_false, reduceIte, Bool.false_eq_true, Bool.true_eq_false, and_true, true_and, rdL_lst, rdL_ref, rdS_lst, rdS_ref, rdS_tup, rdD_dic, rdD_ref, addR_ii, addR_ib, addR_ss, addR_tt, addR_LL, subR_ii, mulR_ii, mulA_ii, mulA_t, mulA_L, modR_ii, fdivR_ii, powR_ii, ltR_ii, leR_ii, gtR_ii, geR_ii, keyD_s, keyD_i, dgetR, eqR_ii, eqR_ss, eqR_bb, eqR_tt, eqR_LL, neR_ii, neR_ss, neR_bb, neR_tt, neR_LL, eqM_ii, eqM_ss, eqM_bb, eqM_tt, eqM_LL, okD_i, okD_s, okD_b, okD_n, okD_t, okD_L, deck_at, deck_sum, deck_cells, deck_len, deck_put, dicOf_mup_same, lstOf_mup_same, int1R_b, int1R_i, ix_t0, ix_t1, ix_t2, ix_t3, ix_t4, lenR_t, lenR_s, lenR_L, slR_t, slR_s, slR_L, cutL_from1, cutL_from2, revR_t, revR_L, tup1R_L, tup1R_t, beq_self_eq_true, Bool.not_true, Bool.not_false, Option.isSome_some, List.isEmpty_nil, List.isEmpty_cons, isR_nn, isR_tn, isR_Ln, isR_sn, isR_in, isR_bn, isR_bb, isNotR_nn, isNotR_tn, isNotR_Ln, isNotR_sn, isNotR_in, isNotR_bn, isNotR_bb, isi_t_bool, isi_t_int, isi_t_str, isi_t_tuple, isi_t_list, isi_t_dict, isi_s_bool, isi_s_int, isi_s_str, isi_s_tuple, isi_s_list, isi_s_dict, isi_i_bool, isi_i_int, isi_i_str, isi_i_tuple, isi_i_list, isi_i_dict, isi_b_bool, isi_b_int, isi_b_str, isi_b_tuple, isi_b_list, isi_b_dict, isi_n_bool, isi_n_int, isi_n_str, isi_n_tuple, isi_n_list, isi_n_dict, isi_L_bool, isi_L_int, isi_L_str, isi_L_tuple, isi_L_list, isi_L_dict, isi_d_bool, isi_d_int, isi_d_str, isi_d_tuple, isi_d_list, isi_d_dict, natlit_eq, Int.reduceNeg, ruleD]
        refine ⟨by decide, small_line (by simp; have := hah.2.2.2.1; omega), ?_⟩
        obtain ⟨tp, rest, htp, mtp⟩ : ∃ tp rest, ah.w.map D.str ++ [D.str ah.m] = .str tp :: rest ∧ tp ∈ ms := by
          cases hw : ah.w with
          | nil => exact ⟨ah.m, [], rfl, hah.2.1⟩
          | cons a b => exact ⟨a, b.map D.str ++ [D.str ah.m], rfl, hah.2.2.2.2 a (by rw [hw]; simp)⟩
        rw [htp]
        simp only [dNext, dBreak, dCont, dDrop, dRet, dRetN, dIfS, dAsg, dputS, dlputS, dOp, dVar, dC, dget_zero, dget_succ, dTest, isB, dNil, dCons, dgName, dTup, dCB, dFresh, dFrz, dFreshD, dFrzD, dDispD, dDisp, dBM, dBM0, dAndV, dOrV, dNotV, dAnd, dOr, dNot, dCall, dNeg, dIf, dFor, dSl, dPart, dNoPart, diRng1, diRng2, diAny, isI, dstart, List.set_cons_zero, List.set_cons_succ, List.map_cons, List.map_nil, List.length_cons, List.length_nil, List.cons_append, List.nil_append, Nat.reduceAdd, Nat.reduceSub, Int.reduceAdd, Int.reduceSub, List.replicate, isLst, dgTup, dgCons, dgNil, dListOf, dJoin, dIndex, dRev, diZip, dPar2, diEnum, dRetX, dDropX, dAsgX, dCallX, dConsX, dTupX, dFrzX, dRaise0, dRaise1, dTryAs, dTryOnly, dXf, asEnds, dLc, wipeD, dCat, dSlL, dPairs, dGet2, dGet1, isDic, ite_true, ite_false, if_true, if_false, reduceIte, Bool.false_eq_true, Bool.true_eq_false, and_true, true_and, rdL_lst, rdL_ref, rdS_lst, rdS_ref, rdS_tup, rdD_dic, rdD_ref, addR_ii, addR_ib, addR_ss, addR_tt, addR_LL, subR_ii, mulR_ii, mulA_ii, mulA_t, mulA_L, modR_ii, fdivR_ii, powR_ii, ltR_ii, leR_ii, gtR_ii, geR_ii, keyD_s, keyD_i, dgetR, eqR_ii, eqR_ss, eqR_bb, eqR_tt, eqR_LL, neR_ii, neR_ss, neR_bb, neR_tt, neR_LL, eqM_ii, eqM_ss, eqM_bb, eqM_tt, eqM_LL, okD_i, okD_s, okD_b, okD_n, okD_t, okD_L, deck_at, deck_sum, deck_cells, deck_len, deck_put, dicOf_mup_same, lstOf_mup_same, int1R_b, int1R_i, ix_t0, ix_t1, ix_t2, ix_t3, ix_t4, lenR_t, lenR_s, lenR_L, slR_t, slR_s, slR_L, cutL_from1, cutL_from2, revR_t, revR_L, tup1R_L, tup1R_t, beq_self_eq_true, Bool.not_true, Bool.not_false, Option.isSome_some, List.isEmpty_nil, List.isEmpty_cons, isR_nn, isR_tn, isR_Ln, isR_sn, isR_in, isR_bn, isR_bb, isNotR_nn, isNotR_tn, isNotR_Ln, isNotR_sn, isNotR_in, isNotR_bn, isNotR_bb, isi_t_bool, isi_t_int, isi_t_str, isi_t_tuple, isi_t_list, isi_t_dict, isi_s_bool, isi_s_int, isi_s_str, isi_s_tuple, isi_s_list, isi_s_dict, isi_i_bool, isi_i_int, isi_i_str, isi_i_tuple, isi_i_list, isi_i_dict, isi_b_bool, isi_b_int, isi_b_str, isi_b_tuple, isi_b_list, isi_b_dict, isi_n_bool, isi_n_int, isi_n_str, isi_n_tuple, isi_n_list, isi_n_dict, isi_L_bool, isi_L_int, isi_L_str, isi_L_tuple, isi_L_list, isi_L_dict, isi_d_bool, isi_d_int, isi_d_str, isi_d_tuple, isi_d_list, isi_d_dict, natlit_eq, Int.reduceNeg]
        refine ⟨by decide, ?_⟩
        refine ix_l (d := ruleD ⟨p1, m1, o1, put⟩) e7 (by omega) (by rw [show (0 + (i : Int)).toNat = (rs' ++ [ah]).length by simp; omega, List.getElem?_map]; simp) ?_
        simp only [dNext, dBreak, dCont, dDrop, dRet, dRetN, dIfS, dAsg, dputS, dlputS, dOp, dVar, dC, dget_zero, dget_succ, dTest, isB, dNil, dCons, dgName, dTup, dCB, dFresh, dFrz, dFreshD, dFrzD, dDispD, dDisp, dBM, dBM0, dAndV, dOrV, dNotV, dAnd, dOr, dNot, dCall, dNeg, dIf, dFor, dSl, dPart, dNoPart, diRng1, diRng2, diAny, isI, dstart, List.set_cons_zero, List.set_cons_succ, List.map_cons, List.map_nil, List.length_cons, List.length_nil, List.cons_append, List.nil_append, Nat.reduceAdd, Nat.reduceSub, Int.reduceAdd, Int.reduceSub, List.replicate, isLst, dgTup, dgCons, dgNil, dListOf, dJoin, dIndex, dRev, diZip, dPar2, diEnum, dRetX, dDropX, dAsgX, dCallX, dConsX, dTupX, dFrzX, dRaise0, dRaise1, dTryAs, dTryOnly, dXf, asEnds, dLc, wipeD, dCat, dSlL, dPairs, dGet2, dGet1, isDic, ite_true, ite_false, if_true, if_false, reduceIte, Bool.false_eq_true, Bool.true_eq_false, and_true, true_and, rdL_lst, rdL_ref, rdS_lst, rdS_ref, rdS_tup, rdD_dic, rdD_ref, addR_ii, addR_ib, addR_ss, addR_tt, addR_LL, subR_ii, mulR_ii, mulA_ii, mulA_t, mulA_L, modR_ii, fdivR_ii, powR_ii, ltR_ii, leR_ii, gtR_ii, geR_ii, keyD_s, keyD_i, dgetR, eqR_ii, eqR_ss, eqR_bb, eqR_tt, eqR_LL, neR_ii, neR_ss, neR_bb, neR_tt, neR_LL, eqM_ii, eqM_ss, eqM_bb, eqM_tt, eqM_LL, okD_i, okD_s, okD_b, okD_n, okD_t, okD_L, deck_at, deck_sum, deck_cells, deck_len, deck_put, dicOf_mup_same, lstOf_mup_same, int1R_b, int1R_i, ix_t0, ix_t1, ix_t2, ix_t3, ix_t4, lenR_t, lenR_s, lenR_L, slR_t, slR_s, slR_L, cutL_from1, cutL_from2, revR_t, revR_L, tup1R_L, tup1R_t, beq_self_eq_true, Bool.not_true, Bool.not_false, Option.isSome_some, List.isEmpty_nil, List.isEmpty_cons, isR_nn, isR_tn, isR_Ln, isR_sn, isR_in, isR_bn, isR_bb, isNotR_nn, isNotR_tn, isNotR_Ln, isNotR_sn, isNotR_in, isNotR_bn, isNotR_bb, isi_t_bool, isi_t_int, isi_t_str, isi_t_tuple, isi_t_list, isi_t_dict, isi_s_bool, isi_s_int, isi_s_str, isi_s_tuple, isi_s_list, isi_s_dict, isi_i_bool, isi_i_int, isi_i_str, isi_i_tuple, isi_i_list, isi_i_dict, isi_b_bool, isi_b_int, isi_b_str, isi_b_tuple, isi_b_list, isi_b_dict, isi_n_bool, isi_n_int, isi_n_str, isi_n_tuple, isi_n_list, isi_n_dict, isi_L_bool, isi_L_int, isi_L_str, isi_L_tuple, isi_L_list, isi_L_dict, isi_d_bool, isi_d_int, isi_d_str, isi_d_tuple, isi_d_list, isi_d_dict, natlit_eq, Int.reduceNeg, ruleD]
        rw [e7, show (0 + (i : Int)) = ((i : Nat) : Int) by omega]
        simp only []
        rw [ixN_nat (by simp; omega)]
        refine ⟨by simp; exact small_line (by omega), ?_⟩
        have hset : (((rs' ++ [ah]) ++ [(⟨p1, m1, o1, put⟩ : Rl)]).map ruleD).set i (.tup (D.str ah.o :: D.str tp :: List.drop 2 [D.str p1, D.str m1, D.str o1, D.tup (List.map D.str put)])) = ((rs' ++ [ah]) ++ [(⟨ah.o, tp, o1, put⟩ : Rl)]).map ruleD := by
          rw [List.map_append, List.map_append, List.set_append_right _ _ (by simp; omega)]
          simp [ruleD, hi0]
        dsimp only
        rw [hset]
        refine hN _ _ ⟨(rs' ++ [ah]) ++ [⟨ah.o, tp, o1, put⟩], _, _, _, _, _, _, rfl, by simp; omega, by omega, fun x hx => ?_, lstOf_mup_same, X7.put hp0, (D7.keep hpd hpc).mono (by omega)⟩
        rcases List.mem_append.mp hx with hx | hx
        · exact hrs x hx
        · rw [List.mem_singleton.mp hx]; exact ⟨hah.2.2.1, mtp, mo1, hput2, hput⟩
    · obtain ⟨rs, x6, x7, x8, x9, x10, x11, rfl, hrl, hi2, hrs, hL, hX, hD⟩ := hI
      simp only [dNext, dBreak, dCont, dDrop, dRet, dRetN, dIfS, dAsg, dputS, dlputS, dOp, dVar, dC, dget_zero, dget_succ, dTest, isB, dNil, dCons, dgName, dTup, dCB, dFresh, dFrz, dFreshD, dFrzD, dDispD, dDisp, dBM, dBM0, dAndV, dOrV, dNotV, dAnd, dOr, dNot, dCall, dNeg, dIf, dFor, dSl, dPart, dNoPart, diRng1, diRng2, diAny, isI, dstart, List.set_cons_zero, List.set_cons_succ, List.map_cons, List.map_nil, List.length_cons, List.length_nil, List.cons_append, List.nil_append, Nat.reduceAdd, Nat.reduceSub, Int.reduceAdd, Int.reduceSub, List.replicate, isLst, dgTup, dgCons, dgNil, dListOf, dJoin, dIndex, dRev, diZip, dPar2, diEnum, dRetX, dDropX, dAsgX, dCallX, dConsX, dTupX, dFrzX, dRaise0, dRaise1, dTryAs, dTryOnly, dXf, asEnds, dLc, wipeD, dCat, dSlL, dPairs, dGet2, dGet1, isDic, ite_true, ite_false, if_true, if_false, reduceIte, Bool.false_eq_true, Bool.true_eq_false, and_true, true_and, rdL_lst, rdL_ref, rdS_lst, rdS_ref, rdS_tup, rdD_dic, rdD_ref, addR_ii, addR_ib, addR_ss, addR_tt, addR_LL, subR_ii, mulR_ii, mulA_ii, mulA_t, mulA_L, modR_ii, fdivR_ii, powR_ii, ltR_ii, leR_ii, gtR_ii, geR_ii, keyD_s, keyD_i, dgetR, eqR_ii, eqR_ss, eqR_bb, eqR_tt, eqR_LL, neR_ii, neR_ss, neR_bb, neR_tt, neR_LL, eqM_ii, eqM_ss, eqM_bb, eqM_tt, eqM_LL, okD_i, okD_s, okD_b, okD_n, okD_t, okD_L, deck_at, deck_sum, deck_cells, deck_len, deck_put, dicOf_mup_same, lstOf_mup_same, int1R_b, int1R_i, ix_t0, ix_t1, ix_t2, ix_t3, ix_t4, lenR_t, lenR_s, lenR_L, slR_t, slR_s, slR_L, cutL_from1, cutL_from2, revR_t, revR_L, tup1R_L, tup1R_t, beq_self_eq_true, Bool.not_true, Bool.not_false, Option.isSome_some, List.isEmpty_nil, List.isEmpty_cons, isR_nn, isR_tn, isR_Ln, isR_sn, isR_in, isR_bn, isR_bb, isNotR_nn, isNotR_tn, isNotR_Ln, isNotR_sn, isNotR_in, isNotR_bn, isNotR_bb, isi_t_bool, isi_t_int, isi_t_str, isi_t_tuple, isi_t_list, isi_t_dict, isi_s_bool, isi_s_int, isi_s_str, isi_s_tuple, isi_s_list, isi_s_dict, isi_i_bool, isi_i_int, isi_i_str, isi_i_tuple, isi_i_list, isi_i_dict, isi_b_bool, isi_b_int, isi_b_str, isi_b_tuple, isi_b_list, isi_b_dict, isi_n_bool, isi_n_int, isi_n_str, isi_n_tuple, isi_n_list, isi_n_dict, isi_L_bool, isi_L_int, isi_L_str, isi_L_tuple, isi_L_list, isi_L_dict, isi_d_bool, isi_d_int, isi_d_str, isi_d_tuple, isi_d_list, isi_d_dict, natlit_eq, Int.reduceNeg, tup1R, hL]
      exact Shr.deck hX (hD.mono (by omega)) fun M2 U D2 => k rs M2 hrl hrs D2 U
/-- a program with its places and marks -/
def sp__law_drawn : DSp := fun ds M R => ∃ d : Addr, ds = [.ref d] ∧ ∃ c r, Deck M d c (r + 1000) ∧ ∀ (rs : List Rl) (ps ms : List Str) M', ps ≠ [] → ms ≠ [] → ps.length ≤ 6 → ms.length ≤ 8 → rs.length ≤ 24 → (∀ x ∈ rs, RuleIn ps ms x) → (∀ x ∈ ps, NameS x) → (∀ x ∈ ms, NameS x) →
  Deck M' d c r → Upto d c M M' → R (.tup [progD rs, .lst (ps.map D.str), .lst (ms.map D.str)]) M'
theorem drawn_go {M : Mm} {d c : Addr} {r : Nat} {R : DQ} (D0 : Deck M d c (r + 1000)) (k : ∀ (rs : List Rl) (ps ms : List Str) M', ps ≠ [] → ms ≠ [] → ps.length ≤ 6 → ms.length ≤ 8 → rs.length ≤ 24 → (∀ x ∈ rs, RuleIn ps ms x) → (∀ x ∈ ps, NameS x) → (∀ x ∈ ms, NameS x) →
  Deck M' d c r → Upto d c M M' → R (.tup [progD rs, .lst (ps.map D.str), .lst (ms.map D.str)]) M') : sp__law_drawn [.ref d] M R := ⟨d, rfl, c, r, D0, k⟩
theorem drawn_B {M M0 : Mm} {d c : Addr} {n : Nat} {L : List (Addr × MO)} {R : DQ} (b : Bx d c n M0 L M) (hn : 1000 ≤ n) (k : ∀ (rs : List Rl) (ps ms : List Str) M', ps ≠ [] → ms ≠ [] → ps.length ≤ 6 → ms.length ≤ 8 → rs.length ≤ 24 → (∀ x ∈ rs, RuleIn ps ms x) → (∀ x ∈ ps, NameS x) → (∀ x ∈ ms, NameS x) →
  Bx d c (n - 1000) M0 L M' → R (.tup [progD rs, .lst (ps.map D.str), .lst (ms.map D.str)]) M') : sp__law_drawn [.ref d] M R := drawn_go (r := n - 1000) (b.dk.mono (by omega)) fun rs ps ms M' h1 h2 h3 h4 h5 h6 h7 h8 D U => k rs ps ms M' h1 h2 h3 h4 h5 h6 h7 h8 (b.call D U)
theorem ok__law_drawn {f__law_drawn f__law_draw f__law_names f__law_program : Addr} {fd__law_drawn fd__law_draw fd__law_names fd__law_program : FuncData} (F__law_drawn : Fun K "_law_drawn" "_law_drawn" st__law_drawn f__law_drawn fd__law_drawn) (G__law_draw : FnOk P w K mg base CX0 1 f__law_draw fd__law_draw ["_law_deck_here", "_law_most"] (toSp K sp__law_draw)) (g__law_draw : mg "_law_draw" = some (.ref f__law_draw)) (k__law_draw : PySem.W.keepIn K (.ref f__law_draw) = true) (b__law_draw : Binds K fd__law_draw ["_law_deck_here", "_law_most"] []) (G__law_names : FnOk P w K mg base CX0 2 f__law_names fd__law_names ["_law_deck_here", "_law_many"] (toSp K sp__law_names)) (g__law_names : mg "_law_names" = some (.ref f__law_names)) (k__law_names : PySem.W.keepIn K (.ref f__law_names) = true) (b__law_names : Binds K fd__law_names ["_law_deck_here", "_law_many"] []) (G__law_program : FnOk P w K mg base CX0 3 f__law_program fd__law_program ["_law_deck_here", "_law_places", "_law_marks", "_law_many"] (toSp K sp__law_program)) (g__law_program : mg "_law_program" = some (.ref f__law_program)) (k__law_program : PySem.W.keepIn K (.ref f__law_program) = true) (b__law_program : Binds K fd__law_program ["_law_deck_here", "_law_places", "_law_marks", "_law_many"] []) (z_int : mg "int" = none) : FnOk P w K mg base CX0 4 f__law_drawn fd__law_drawn ["_law_deck_here"] (toSp K sp__law_drawn) := by
  refine fn_ok (k := 3) F__law_drawn sc__law_drawn (fun ds M R h => ?_) (fun cdv A outer s H E hr => ⟨_, (jb_cons (js_set (i := 1) sc__law_drawn.nd (je_call G__law_draw (hr.mono (by decide)) (by rfl) g__law_draw k__law_draw b__law_draw (ja_cons (jv 0) (ja_cons je_int ja_nil))))
      (jb_cons (js_set (i := 2) sc__law_drawn.nd (je_get2 hr (je_frzD (jd_disp (jps_cons je_int je_int (jps_cons je_int je_int jps_nil)))) (jv 1) (je_call G__law_draw (hr.mono (by decide)) (by rfl) g__law_draw k__law_draw b__law_draw (ja_cons (jv 0) (ja_cons je_int ja_nil)))))
      (jb_cons (js_set (i := 3) sc__law_drawn.nd (je_call G__law_names (hr.mono (by decide)) (by rfl) g__law_names k__law_names b__law_names (ja_cons (jv 0) (ja_cons (je_add je_int (je_call G__law_draw (hr.mono (by decide)) (by rfl) g__law_draw k__law_draw b__law_draw (ja_cons (jv 0) (ja_cons (je_ix (je_frz (jl_disp (ja_cons je_int (ja_cons je_int ja_nil)))) (je_int1 z_int (ja_cons (je_gt (jv 1) je_int) ja_nil))) ja_nil)))) ja_nil))))
      (jb_cons (js_set (i := 4) sc__law_drawn.nd (je_call G__law_names (hr.mono (by decide)) (by rfl) g__law_names k__law_names b__law_names (ja_cons (jv 0) (ja_cons (je_add je_int (je_call G__law_draw (hr.mono (by decide)) (by rfl) g__law_draw k__law_draw b__law_draw (ja_cons (jv 0) (ja_cons (je_ix (je_frz (jl_disp (ja_cons je_int (ja_cons je_int ja_nil)))) (je_int1 z_int (ja_cons (je_gt (jv 1) je_int) ja_nil))) ja_nil)))) ja_nil))))
      (jb_one (js_ret (je_tup (ja_cons (je_call G__law_program (hr.mono (by decide)) (by rfl) g__law_program k__law_program b__law_program (ja_cons (jv 0) (ja_cons (jv 3) (ja_cons (jv 4) (ja_cons (jv 2) ja_nil))))) (ja_cons (jv 3) (ja_cons (jv 4) ja_nil)))))))))), fun ds M R h => ?_⟩)
  · unfold sp__law_drawn at h
    first | (obtain ⟨rfl, _⟩ := h; rfl) | (obtain ⟨_, rfl, _⟩ := h; rfl) | (obtain ⟨_, _, rfl, _⟩ := h; rfl) | (obtain ⟨_, _, _, rfl, _⟩ := h; rfl) | (obtain ⟨_, _, _, _, rfl, _⟩ := h; rfl) | (obtain ⟨_, _, _, _, _, rfl, _⟩ := h; rfl) | (obtain ⟨_, _, _, _, _, _, rfl, _⟩ := h; rfl) | (obtain ⟨_, _, _, _, _, _, _, rfl, _⟩ := h; rfl) | (obtain ⟨_, _, _, _, _, _, _, _, rfl, _⟩ := h; rfl) | (split at h <;> first | rfl | exact h.elim)
  · unfold sp__law_drawn at h
    obtain ⟨d, rfl, c, r, D0, k⟩ := h
    simp only [dNext, dBreak, dCont, dDrop, dRet, dRetN, dIfS, dAsg, dputS, dlputS, dOp, dVar, dC, dget_zero, dget_succ, dTest, isB, dNil, dCons, dgName, dTup, dCB, dFresh, dFrz, dFreshD, dFrzD, dDispD, dDisp, dBM, dBM0, dAndV, dOrV, dNotV, dAnd, dOr, dNot, dCall, dNeg, dIf, dFor, dSl, dPart, dNoPart, diRng1, diRng2, diAny, isI, dstart, List.set_cons_zero, List.set_cons_succ, List.map_cons, List.map_nil, List.length_cons, List.length_nil, List.cons_append, List.nil_append, Nat.reduceAdd, Nat.reduceSub, Int.reduceAdd, Int.reduceSub, List.replicate, isLst, dgTup, dgCons, dgNil, dListOf, dJoin, dIndex, dRev, diZip, dPar2, diEnum, dRetX, dDropX, dAsgX, dCallX, dConsX, dTupX, dFrzX, dRaise0, dRaise1, dTryAs, dTryOnly, dXf, asEnds, dLc, wipeD, dCat, dSlL, dPairs, dGet2, dGet1, isDic, ite_true, ite_false, if_true, if_false, reduceIte, Bool.false_eq_true, Bool.true_eq_false, and_true, true_and, rdL_lst, rdL_ref, rdS_lst, rdS_ref, rdS_tup, rdD_dic, rdD_ref, addR_ii, addR_ib, addR_ss, addR_tt, addR_LL, subR_ii, mulR_ii, mulA_ii, mulA_t, mulA_L, modR_ii, fdivR_ii, powR_ii, ltR_ii, leR_ii, gtR_ii, geR_ii, keyD_s, keyD_i, dgetR, eqR_ii, eqR_ss, eqR_bb, eqR_tt, eqR_LL, neR_ii, neR_ss, neR_bb, neR_tt, neR_LL, eqM_ii, eqM_ss, eqM_bb, eqM_tt, eqM_LL, okD_i, okD_s, okD_b, okD_n, okD_t, okD_L, deck_at, deck_sum, deck_cells, deck_len, deck_put, dicOf_mup_same, lstOf_mup_same, int1R_b, int1R_i, ix_t0, ix_t1, ix_t2, ix_t3, ix_t4, lenR_t, lenR_s, lenR_L, slR_t, slR_s, slR_L, cutL_from1, cutL_from2, revR_t, revR_L, tup1R_L, tup1R_t, beq_self_eq_true, Bool.not_true, Bool.not_false, Option.isSome_some, List.isEmpty_nil, List.isEmpty_cons, isR_nn, isR_tn, isR_Ln, isR_sn, isR_in, isR_bn, isR_bb, isNotR_nn, isNotR_tn, isNotR_Ln, isNotR_sn, isNotR_in, isNotR_bn, isNotR_bb, isi_t_bool, isi_t_int, isi_t_str, isi_t_tuple, isi_t_list, isi_t_dict, isi_s_bool, isi_s_int, isi_s_str, isi_s_tuple, isi_s_list, isi_s_dict, isi_i_bool, isi_i_int, isi_i_str, isi_i_tuple, isi_i_list, isi_i_dict, isi_b_bool, isi_b_int, isi_b_str, isi_b_tuple, isi_b_list, isi_b_dict, isi_n_bool, isi_n_int, isi_n_str, isi_n_tuple, isi_n_list, isi_n_dict, isi_L_bool, isi_L_int, isi_L_str, isi_L_tuple, isi_L_list, isi_L_dict, isi_d_bool, isi_d_int, isi_d_str, isi_d_tuple, isi_d_list, isi_d_dict, natlit_eq, Int.reduceNeg, N__law_drawn]
    refine seq_go ?_
    try simp only [dNext, dBreak, dCont, dDrop, dRet, dRetN, dIfS, dAsg, dputS, dlputS, dOp, dVar, dC, dget_zero, dget_succ, dTest, isB, dNil, dCons, dgName, dTup, dCB, dFresh, dFrz, dFreshD, dFrzD, dDispD, dDisp, dBM, dBM0, dAndV, dOrV, dNotV, dAnd, dOr, dNot, dCall, dNeg, dIf, dFor, dSl, dPart, dNoPart, diRng1, diRng2, diAny, isI, dstart, List.set_cons_zero, List.set_cons_succ, List.map_cons, List.map_nil, List.length_cons, List.length_nil, List.cons_append, List.nil_append, Nat.reduceAdd, Nat.reduceSub, Int.reduceAdd, Int.reduceSub, List.replicate, isLst, dgTup, dgCons, dgNil, dListOf, dJoin, dIndex, dRev, diZip, dPar2, diEnum, dRetX, dDropX, dAsgX, dCallX, dConsX, dTupX, dFrzX, dRaise0, dRaise1, dTryAs, dTryOnly, dXf, asEnds, dLc, wipeD, dCat, dSlL, dPairs, dGet2, dGet1, isDic, ite_true, ite_false, if_true, if_false, reduceIte, Bool.false_eq_true, Bool.true_eq_false, and_true, true_and, rdL_lst, rdL_ref, rdS_lst, rdS_ref, rdS_tup, rdD_dic, rdD_ref, addR_ii, addR_ib, addR_ss, addR_tt, addR_LL, subR_ii, mulR_ii, mulA_ii, mulA_t, mulA_L, modR_ii, fdivR_ii, powR_ii, ltR_ii, leR_ii, gtR_ii, geR_ii, keyD_s, keyD_i, dgetR, eqR_ii, eqR_ss, eqR_bb, eqR_tt, eqR_LL, neR_ii, neR_ss, neR_bb, neR_tt, neR_LL, eqM_ii, eqM_ss, eqM_bb, eqM_tt, eqM_LL, okD_i, okD_s, okD_b, okD_n, okD_t, okD_L, deck_at, deck_sum, deck_cells, deck_len, deck_put, dicOf_mup_same, lstOf_mup_same, int1R_b, int1R_i, ix_t0, ix_t1, ix_t2, ix_t3, ix_t4, lenR_t, lenR_s, lenR_L, slR_t, slR_s, slR_L, cutL_from1, cutL_from2, revR_t, revR_L, tup1R_L, tup1R_t, beq_self_eq_true, Bool.not_true, Bool.not_false, Option.isSome_some, List.isEmpty_nil, List.isEmpty_cons, isR_nn, isR_tn, isR_Ln, isR_sn, isR_in, isR_bn, isR_bb, isNotR_nn, isNotR_tn, isNotR_Ln, isNotR_sn, isNotR_in, isNotR_bn, isNotR_bb, isi_t_bool, isi_t_int, isi_t_str, isi_t_tuple, isi_t_list, isi_t_dict, isi_s_bool, isi_s_int, isi_s_str, isi_s_tuple, isi_s_list, isi_s_dict, isi_i_bool, isi_i_int, isi_i_str, isi_i_tuple, isi_i_list, isi_i_dict, isi_b_bool, isi_b_int, isi_b_str, isi_b_tuple, isi_b_list, isi_b_dict, isi_n_bool, isi_n_int, isi_n_str, isi_n_tuple, isi_n_list, isi_n_dict, isi_L_bool, isi_L_int, isi_L_str, isi_L_tuple, isi_L_list, isi_L_dict, isi_d_bool, isi_d_int, isi_d_str, isi_d_tuple, isi_d_list, isi_d_dict, natlit_eq, Int.reduceNeg]
    refine draw_go (r := r + 999) D0 (by decide) (by decide) fun great M1 g0 g1 D1 U1 => ?_
    refine seq_cut (fun ds M3 => ∃ many : Nat, many ≤ 24 ∧ ds = [some (.ref d), some (.int great), some (.int (many : Int)), none, none] ∧ Deck M3 d c (r + 998) ∧ Upto d c M M3) (fun N hN => ?_) fun ds M3 hJ => ?_
    · try simp only [dNext, dBreak, dCont, dDrop, dRet, dRetN, dIfS, dAsg, dputS, dlputS, dOp, dVar, dC, dget_zero, dget_succ, dTest, isB, dNil, dCons, dgName, dTup, dCB, dFresh, dFrz, dFreshD, dFrzD, dDispD, dDisp, dBM, dBM0, dAndV, dOrV, dNotV, dAnd, dOr, dNot, dCall, dNeg, dIf, dFor, dSl, dPart, dNoPart, diRng1, diRng2, diAny, isI, dstart, List.set_cons_zero, List.set_cons_succ, List.map_cons, List.map_nil, List.length_cons, List.length_nil, List.cons_append, List.nil_append, Nat.reduceAdd, Nat.reduceSub, Int.reduceAdd, Int.reduceSub, List.replicate, isLst, dgTup, dgCons, dgNil, dListOf, dJoin, dIndex, dRev, diZip, dPar2, diEnum, dRetX, dDropX, dAsgX, dCallX, dConsX, dTupX, dFrzX, dRaise0, dRaise1, dTryAs, dTryOnly, dXf, asEnds, dLc, wipeD, dCat, dSlL, dPairs, dGet2, dGet1, isDic, ite_true, ite_false, if_true, if_false, reduceIte, Bool.false_eq_true, Bool.true_eq_false, and_true, true_and, rdL_lst, rdL_ref, rdS_lst, rdS_ref, rdS_tup, rdD_dic, rdD_ref, addR_ii, addR_ib, addR_ss, addR_tt, addR_LL, subR_ii, mulR_ii, mulA_ii, mulA_t, mulA_L, modR_ii, fdivR_ii, powR_ii, ltR_ii, leR_ii, gtR_ii, geR_ii, keyD_s, keyD_i, dgetR, eqR_ii, eqR_ss, eqR_bb, eqR_tt, eqR_LL, neR_ii, neR_ss, neR_bb, neR_tt, neR_LL, eqM_ii, eqM_ss, eqM_bb, eqM_tt, eqM_LL, okD_i, okD_s, okD_b, okD_n, okD_t, okD_L, deck_at, deck_sum, deck_cells, deck_len, deck_put, dicOf_mup_same, lstOf_mup_same, int1R_b, int1R_i, ix_t0, ix_t1, ix_t2, ix_t3, ix_t4, lenR_t, lenR_s, lenR_L, slR_t, slR_s, slR_L, cutL_from1, cutL_from2, revR_t, revR_L, tup1R_L, tup1R_t, beq_self_eq_true, Bool.not_true, Bool.not_false, Option.isSome_some, List.isEmpty_nil, List.isEmpty_cons, isR_nn, isR_tn, isR_Ln, isR_sn, isR_in, isR_bn, isR_bb, isNotR_nn, isNotR_tn, isNotR_Ln, isNotR_sn, isNotR_in, isNotR_bn, isNotR_bb, isi_t_bool, isi_t_int, isi_t_str, isi_t_tuple, isi_t_list, isi_t_dict, isi_s_bool, isi_s_int, isi_s_str, isi_s_tuple, isi_s_list, isi_s_dict, isi_i_bool, isi_i_int, isi_i_str, isi_i_tuple, isi_i_list, isi_i_dict, isi_b_bool, isi_b_int, isi_b_str, isi_b_tuple, isi_b_list, isi_b_dict, isi_n_bool, isi_n_int, isi_n_str, isi_n_tuple, isi_n_list, isi_n_dict, isi_L_bool, isi_L_int, isi_L_str, isi_L_tuple, isi_L_list, isi_L_dict, isi_d_bool, isi_d_int, isi_d_str, isi_d_tuple, isi_d_list, isi_d_dict, natlit_eq, Int.reduceNeg]
      refine ⟨by decide, ?_⟩
      refine draw_go (r := r + 998) D1 (by decide) (by decide) fun n M2 n0 n1 D2 U2 => ?_
      simp only [getQ, rdD_dic, keyD_i]
      have : ∃ many : Nat, many ≤ 24 ∧ (valD (mergeD [] [(Sum.inl 5, D.int 12), (Sum.inl 6, D.int 24)]) (Sum.inl great)).getD (.int n) = .int (many : Int) := by
        by_cases h5 : great = 5
        · subst h5; exact ⟨12, by decide, rfl⟩
        · by_cases h6 : great = 6
          · subst h6; exact ⟨24, by decide, rfl⟩
          · refine ⟨n.toNat, by omega, ?_⟩
            have e : valD (mergeD [] [(Sum.inl 5, D.int 12), (Sum.inl 6, D.int 24)]) (Sum.inl great) = none := by
              simp [mergeD, putD, valD, Ne.symm h5, Ne.symm h6]
            rw [e]
            show D.int n = _
            rw [Int.toNat_of_nonneg n0]
      obtain ⟨many, hm, e⟩ := this
      rw [e]
      exact hN _ _ ⟨many, hm, rfl, D2, U1.trans U2⟩
    · obtain ⟨many, hmany, rfl, D3, U3⟩ := hJ
      refine seq_go ?_
      try simp only [dNext, dBreak, dCont, dDrop, dRet, dRetN, dIfS, dAsg, dputS, dlputS, dOp, dVar, dC, dget_zero, dget_succ, dTest, isB, dNil, dCons, dgName, dTup, dCB, dFresh, dFrz, dFreshD, dFrzD, dDispD, dDisp, dBM, dBM0, dAndV, dOrV, dNotV, dAnd, dOr, dNot, dCall, dNeg, dIf, dFor, dSl, dPart, dNoPart, diRng1, diRng2, diAny, isI, dstart, List.set_cons_zero, List.set_cons_succ, List.map_cons, List.map_nil, List.length_cons, List.length_nil, List.cons_append, List.nil_append, Nat.reduceAdd, Nat.reduceSub, Int.reduceAdd, Int.reduceSub, List.replicate, isLst, dgTup, dgCons, dgNil, dListOf, dJoin, dIndex, dRev, diZip, dPar2, diEnum, dRetX, dDropX, dAsgX, dCallX, dConsX, dTupX, dFrzX, dRaise0, dRaise1, dTryAs, dTryOnly, dXf, asEnds, dLc, wipeD, dCat, dSlL, dPairs, dGet2, dGet1, isDic, ite_true, ite_false, if_true, if_false, reduceIte, Bool.false_eq_true, Bool.true_eq_false, and_true, true_and, rdL_lst, rdL_ref, rdS_lst, rdS_ref, rdS_tup, rdD_dic, rdD_ref, addR_ii, addR_ib, addR_ss, addR_tt, addR_LL, subR_ii, mulR_ii, mulA_ii, mulA_t, mulA_L, modR_ii, fdivR_ii, powR_ii, ltR_ii, leR_ii, gtR_ii, geR_ii, keyD_s, keyD_i, dgetR, eqR_ii, eqR_ss, eqR_bb, eqR_tt, eqR_LL, neR_ii, neR_ss, neR_bb, neR_tt, neR_LL, eqM_ii, eqM_ss, eqM_bb, eqM_tt, eqM_LL, okD_i, okD_s, okD_b, okD_n, okD_t, okD_L, deck_at, deck_sum, deck_cells, deck_len, deck_put, dicOf_mup_same, lstOf_mup_same, int1R_b, int1R_i, ix_t0, ix_t1, ix_t2, ix_t3, ix_t4, lenR_t, lenR_s, lenR_L, slR_t, slR_s, slR_L, cutL_from1, cutL_from2, revR_t, revR_L, tup1R_L, tup1R_t, beq_self_eq_true, Bool.not_true, Bool.not_false, Option.isSome_some, List.isEmpty_nil, List.isEmpty_cons, isR_nn, isR_tn, isR_Ln, isR_sn, isR_in, isR_bn, isR_bb, isNotR_nn, isNotR_tn, isNotR_Ln, isNotR_sn, isNotR_in, isNotR_bn, isNotR_bb, isi_t_bool, isi_t_int, isi_t_str, isi_t_tuple, isi_t_list, isi_t_dict, isi_s_bool, isi_s_int, isi_s_str, isi_s_tuple, isi_s_list, isi_s_dict, isi_i_bool, isi_i_int, isi_i_str, isi_i_tuple, isi_i_list, isi_i_dict, isi_b_bool, isi_b_int, isi_b_str, isi_b_tuple, isi_b_list, isi_b_dict, isi_n_bool, isi_n_int, isi_n_str, isi_n_tuple, isi_n_list, isi_n_dict, isi_L_bool, isi_L_int, isi_L_str, isi_L_tuple, isi_L_list, isi_L_dict, isi_d_bool, isi_d_int, isi_d_str, isi_d_tuple, isi_d_list, isi_d_dict, natlit_eq, Int.reduceNeg]
      refine ⟨by decide, ix_Lb ?_⟩
      obtain ⟨k1, hk1, hk1a, hk1b⟩ : ∃ k : Nat, (if decide (4 < great) = true then D.int 6 else D.int 4) = .int (k : Int) ∧ 1 ≤ k ∧ k ≤ 6 := by
        split
        · exact ⟨6, rfl, by decide, by decide⟩
        · exact ⟨4, rfl, by decide, by decide⟩
      rw [hk1]
      refine draw_go (r := r + 997) D3 (by omega) (by omega) fun j1 M4 a1 b1 D4 U4 => ?_
      try simp only [dNext, dBreak, dCont, dDrop, dRet, dRetN, dIfS, dAsg, dputS, dlputS, dOp, dVar, dC, dget_zero, dget_succ, dTest, isB, dNil, dCons, dgName, dTup, dCB, dFresh, dFrz, dFreshD, dFrzD, dDispD, dDisp, dBM, dBM0, dAndV, dOrV, dNotV, dAnd, dOr, dNot, dCall, dNeg, dIf, dFor, dSl, dPart, dNoPart, diRng1, diRng2, diAny, isI, dstart, List.set_cons_zero, List.set_cons_succ, List.map_cons, List.map_nil, List.length_cons, List.length_nil, List.cons_append, List.nil_append, Nat.reduceAdd, Nat.reduceSub, Int.reduceAdd, Int.reduceSub, List.replicate, isLst, dgTup, dgCons, dgNil, dListOf, dJoin, dIndex, dRev, diZip, dPar2, diEnum, dRetX, dDropX, dAsgX, dCallX, dConsX, dTupX, dFrzX, dRaise0, dRaise1, dTryAs, dTryOnly, dXf, asEnds, dLc, wipeD, dCat, dSlL, dPairs, dGet2, dGet1, isDic, ite_true, ite_false, if_true, if_false, reduceIte, Bool.false_eq_true, Bool.true_eq_false, and_true, true_and, rdL_lst, rdL_ref, rdS_lst, rdS_ref, rdS_tup, rdD_dic, rdD_ref, addR_ii, addR_ib, addR_ss, addR_tt, addR_LL, subR_ii, mulR_ii, mulA_ii, mulA_t, mulA_L, modR_ii, fdivR_ii, powR_ii, ltR_ii, leR_ii, gtR_ii, geR_ii, keyD_s, keyD_i, dgetR, eqR_ii, eqR_ss, eqR_bb, eqR_tt, eqR_LL, neR_ii, neR_ss, neR_bb, neR_tt, neR_LL, eqM_ii, eqM_ss, eqM_bb, eqM_tt, eqM_LL, okD_i, okD_s, okD_b, okD_n, okD_t, okD_L, deck_at, deck_sum, deck_cells, deck_len, deck_put, dicOf_mup_same, lstOf_mup_same, int1R_b, int1R_i, ix_t0, ix_t1, ix_t2, ix_t3, ix_t4, lenR_t, lenR_s, lenR_L, slR_t, slR_s, slR_L, cutL_from1, cutL_from2, revR_t, revR_L, tup1R_L, tup1R_t, beq_self_eq_true, Bool.not_true, Bool.not_false, Option.isSome_some, List.isEmpty_nil, List.isEmpty_cons, isR_nn, isR_tn, isR_Ln, isR_sn, isR_in, isR_bn, isR_bb, isNotR_nn, isNotR_tn, isNotR_Ln, isNotR_sn, isNotR_in, isNotR_bn, isNotR_bb, isi_t_bool, isi_t_int, isi_t_str, isi_t_tuple, isi_t_list, isi_t_dict, isi_s_bool, isi_s_int, isi_s_str, isi_s_tuple, isi_s_list, isi_s_dict, isi_i_bool, isi_i_int, isi_i_str, isi_i_tuple, isi_i_list, isi_i_dict, isi_b_bool, isi_b_int, isi_b_str, isi_b_tuple, isi_b_list, isi_b_dict, isi_n_bool, isi_n_int, isi_n_str, isi_n_tuple, isi_n_list, isi_n_dict, isi_L_bool, isi_L_int, isi_L_str, isi_L_tuple, isi_L_list, isi_L_dict, isi_d_bool, isi_d_int, isi_d_str, isi_d_tuple, isi_d_list, isi_d_dict, natlit_eq, Int.reduceNeg]
      rw [show (1 + j1 : Int) = ((1 + j1.toNat : Nat) : Int) by omega]
      refine names_go (r := r + 897) D4 (by omega) fun ps M5 hpl hps D5 U5 => ?_
      refine seq_go ?_
      try simp only [dNext, dBreak, dCont, dDrop, dRet, dRetN, dIfS, dAsg, dputS, dlputS, dOp, dVar, dC, dget_zero, dget_succ, dTest, isB, dNil, dCons, dgName, dTup, dCB, dFresh, dFrz, dFreshD, dFrzD, dDispD, dDisp, dBM, dBM0, dAndV, dOrV, dNotV, dAnd, dOr, dNot, dCall, dNeg, dIf, dFor, dSl, dPart, dNoPart, diRng1, diRng2, diAny, isI, dstart, List.set_cons_zero, List.set_cons_succ, List.map_cons, List.map_nil, List.length_cons, List.length_nil, List.cons_append, List.nil_append, Nat.reduceAdd, Nat.reduceSub, Int.reduceAdd, Int.reduceSub, List.replicate, isLst, dgTup, dgCons, dgNil, dListOf, dJoin, dIndex, dRev, diZip, dPar2, diEnum, dRetX, dDropX, dAsgX, dCallX, dConsX, dTupX, dFrzX, dRaise0, dRaise1, dTryAs, dTryOnly, dXf, asEnds, dLc, wipeD, dCat, dSlL, dPairs, dGet2, dGet1, isDic, ite_true, ite_false, if_true, if_false, reduceIte, Bool.false_eq_true, Bool.true_eq_false, and_true, true_and, rdL_lst, rdL_ref, rdS_lst, rdS_ref, rdS_tup, rdD_dic, rdD_ref, addR_ii, addR_ib, addR_ss, addR_tt, addR_LL, subR_ii, mulR_ii, mulA_ii, mulA_t, mulA_L, modR_ii, fdivR_ii, powR_ii, ltR_ii, leR_ii, gtR_ii, geR_ii, keyD_s, keyD_i, dgetR, eqR_ii, eqR_ss, eqR_bb, eqR_tt, eqR_LL, neR_ii, neR_ss, neR_bb, neR_tt, neR_LL, eqM_ii, eqM_ss, eqM_bb, eqM_tt, eqM_LL, okD_i, okD_s, okD_b, okD_n, okD_t, okD_L, deck_at, deck_sum, deck_cells, deck_len, deck_put, dicOf_mup_same, lstOf_mup_same, int1R_b, int1R_i, ix_t0, ix_t1, ix_t2, ix_t3, ix_t4, lenR_t, lenR_s, lenR_L, slR_t, slR_s, slR_L, cutL_from1, cutL_from2, revR_t, revR_L, tup1R_L, tup1R_t, beq_self_eq_true, Bool.not_true, Bool.not_false, Option.isSome_some, List.isEmpty_nil, List.isEmpty_cons, isR_nn, isR_tn, isR_Ln, isR_sn, isR_in, isR_bn, isR_bb, isNotR_nn, isNotR_tn, isNotR_Ln, isNotR_sn, isNotR_in, isNotR_bn, isNotR_bb, isi_t_bool, isi_t_int, isi_t_str, isi_t_tuple, isi_t_list, isi_t_dict, isi_s_bool, isi_s_int, isi_s_str, isi_s_tuple, isi_s_list, isi_s_dict, isi_i_bool, isi_i_int, isi_i_str, isi_i_tuple, isi_i_list, isi_i_dict, isi_b_bool, isi_b_int, isi_b_str, isi_b_tuple, isi_b_list, isi_b_dict, isi_n_bool, isi_n_int, isi_n_str, isi_n_tuple, isi_n_list, isi_n_dict, isi_L_bool, isi_L_int, isi_L_str, isi_L_tuple, isi_L_list, isi_L_dict, isi_d_bool, isi_d_int, isi_d_str, isi_d_tuple, isi_d_list, isi_d_dict, natlit_eq, Int.reduceNeg]
      refine ⟨by decide, ix_Lb ?_⟩
      obtain ⟨k2, hk2, hk2a, hk2b⟩ : ∃ k : Nat, (if decide (4 < great) = true then D.int 8 else D.int 4) = .int (k : Int) ∧ 1 ≤ k ∧ k ≤ 8 := by
        split
        · exact ⟨8, rfl, by decide, by decide⟩
        · exact ⟨4, rfl, by decide, by decide⟩
      rw [hk2]
      refine draw_go (r := r + 896) D5 (by omega) (by omega) fun j2 M6 a2 b2 D6 U6 => ?_
      try simp only [dNext, dBreak, dCont, dDrop, dRet, dRetN, dIfS, dAsg, dputS, dlputS, dOp, dVar, dC, dget_zero, dget_succ, dTest, isB, dNil, dCons, dgName, dTup, dCB, dFresh, dFrz, dFreshD, dFrzD, dDispD, dDisp, dBM, dBM0, dAndV, dOrV, dNotV, dAnd, dOr, dNot, dCall, dNeg, dIf, dFor, dSl, dPart, dNoPart, diRng1, diRng2, diAny, isI, dstart, List.set_cons_zero, List.set_cons_succ, List.map_cons, List.map_nil, List.length_cons, List.length_nil, List.cons_append, List.nil_append, Nat.reduceAdd, Nat.reduceSub, Int.reduceAdd, Int.reduceSub, List.replicate, isLst, dgTup, dgCons, dgNil, dListOf, dJoin, dIndex, dRev, diZip, dPar2, diEnum, dRetX, dDropX, dAsgX, dCallX, dConsX, dTupX, dFrzX, dRaise0, dRaise1, dTryAs, dTryOnly, dXf, asEnds, dLc, wipeD, dCat, dSlL, dPairs, dGet2, dGet1, isDic, ite_true, ite_false, if_true, if_false, reduceIte, Bool.false_eq_true, Bool.true_eq_false, and_true, true_and, rdL_lst, rdL_ref, rdS_lst, rdS_ref, rdS_tup, rdD_dic, rdD_ref, addR_ii, addR_ib, addR_ss, addR_tt, addR_LL, subR_ii, mulR_ii, mulA_ii, mulA_t, mulA_L, modR_ii, fdivR_ii, powR_ii, ltR_ii, leR_ii, gtR_ii, geR_ii, keyD_s, keyD_i, dgetR, eqR_ii, eqR_ss, eqR_bb, eqR_tt, eqR_LL, neR_ii, neR_ss, neR_bb, neR_tt, neR_LL, eqM_ii, eqM_ss, eqM_bb, eqM_tt, eqM_LL, okD_i, okD_s, okD_b, okD_n, okD_t, okD_L, deck_at, deck_sum, deck_cells, deck_len, deck_put, dicOf_mup_same, lstOf_mup_same, int1R_b, int1R_i, ix_t0, ix_t1, ix_t2, ix_t3, ix_t4, lenR_t, lenR_s, lenR_L, slR_t, slR_s, slR_L, cutL_from1, cutL_from2, revR_t, revR_L, tup1R_L, tup1R_t, beq_self_eq_true, Bool.not_true, Bool.not_false, Option.isSome_some, List.isEmpty_nil, List.isEmpty_cons, isR_nn, isR_tn, isR_Ln, isR_sn, isR_in, isR_bn, isR_bb, isNotR_nn, isNotR_tn, isNotR_Ln, isNotR_sn, isNotR_in, isNotR_bn, isNotR_bb, isi_t_bool, isi_t_int, isi_t_str, isi_t_tuple, isi_t_list, isi_t_dict, isi_s_bool, isi_s_int, isi_s_str, isi_s_tuple, isi_s_list, isi_s_dict, isi_i_bool, isi_i_int, isi_i_str, isi_i_tuple, isi_i_list, isi_i_dict, isi_b_bool, isi_b_int, isi_b_str, isi_b_tuple, isi_b_list, isi_b_dict, isi_n_bool, isi_n_int, isi_n_str, isi_n_tuple, isi_n_list, isi_n_dict, isi_L_bool, isi_L_int, isi_L_str, isi_L_tuple, isi_L_list, isi_L_dict, isi_d_bool, isi_d_int, isi_d_str, isi_d_tuple, isi_d_list, isi_d_dict, natlit_eq, Int.reduceNeg]
      rw [show (1 + j2 : Int) = ((1 + j2.toNat : Nat) : Int) by omega]
      refine names_go (r := r + 796) D6 (by omega) fun ms M7 hml hms D7 U7 => ?_
      have hp0 : ps ≠ [] := by rintro rfl; simp only [List.length_nil] at hpl; omega
      have hm0 : ms ≠ [] := by rintro rfl; simp only [List.length_nil] at hml; omega
      try simp only [dSeq, dNext, dBreak, dCont, dDrop, dRet, dRetN, dIfS, dAsg, dputS, dlputS, dOp, dVar, dC, dget_zero, dget_succ, dTest, isB, dNil, dCons, dgName, dTup, dCB, dFresh, dFrz, dFreshD, dFrzD, dDispD, dDisp, dBM, dBM0, dAndV, dOrV, dNotV, dAnd, dOr, dNot, dCall, dNeg, dIf, dFor, dSl, dPart, dNoPart, diRng1, diRng2, diAny, isI, dstart, List.set_cons_zero, List.set_cons_succ, List.map_cons, List.map_nil, List.length_cons, List.length_nil, List.cons_append, List.nil_append, Nat.reduceAdd, Nat.reduceSub, Int.reduceAdd, Int.reduceSub, List.replicate, isLst, dgTup, dgCons, dgNil, dListOf, dJoin, dIndex, dRev, diZip, dPar2, diEnum, dRetX, dDropX, dAsgX, dCallX, dConsX, dTupX, dFrzX, dRaise0, dRaise1, dTryAs, dTryOnly, dXf, asEnds, dLc, wipeD, dCat, dSlL, dPairs, dGet2, dGet1, isDic, ite_true, ite_false, if_true, if_false, reduceIte, Bool.false_eq_true, Bool.true_eq_false, and_true, true_and, rdL_lst, rdL_ref, rdS_lst, rdS_ref, rdS_tup, rdD_dic, rdD_ref, addR_ii, addR_ib, addR_ss, addR_tt, addR_LL, subR_ii, mulR_ii, mulA_ii, mulA_t, mulA_L, modR_ii, fdivR_ii, powR_ii, ltR_ii, leR_ii, gtR_ii, geR_ii, keyD_s, keyD_i, dgetR, eqR_ii, eqR_ss, eqR_bb, eqR_tt, eqR_LL, neR_ii, neR_ss, neR_bb, neR_tt, neR_LL, eqM_ii, eqM_ss, eqM_bb, eqM_tt, eqM_LL, okD_i, okD_s, okD_b, okD_n, okD_t, okD_L, deck_at, deck_sum, deck_cells, deck_len, deck_put, dicOf_mup_same, lstOf_mup_same, int1R_b, int1R_i, ix_t0, ix_t1, ix_t2, ix_t3, ix_t4, lenR_t, lenR_s, lenR_L, slR_t, slR_s, slR_L, cutL_from1, cutL_from2, revR_t, revR_L, tup1R_L, tup1R_t, beq_self_eq_true, Bool.not_true, Bool.not_false, Option.isSome_some, List.isEmpty_nil, List.isEmpty_cons, isR_nn, isR_tn, isR_Ln, isR_sn, isR_in, isR_bn, isR_bb, isNotR_nn, isNotR_tn, isNotR_Ln, isNotR_sn, isNotR_in, isNotR_bn, isNotR_bb, isi_t_bool, isi_t_int, isi_t_str, isi_t_tuple, isi_t_list, isi_t_dict, isi_s_bool, isi_s_int, isi_s_str, isi_s_tuple, isi_s_list, isi_s_dict, isi_i_bool, isi_i_int, isi_i_str, isi_i_tuple, isi_i_list, isi_i_dict, isi_b_bool, isi_b_int, isi_b_str, isi_b_tuple, isi_b_list, isi_b_dict, isi_n_bool, isi_n_int, isi_n_str, isi_n_tuple, isi_n_list, isi_n_dict, isi_L_bool, isi_L_int, isi_L_str, isi_L_tuple, isi_L_list, isi_L_dict, isi_d_bool, isi_d_int, isi_d_str, isi_d_tuple, isi_d_list, isi_d_dict, natlit_eq, Int.reduceNeg]
      refine program_go (r := r) (D7.mono (by omega)) hp0 hm0 (by omega) (by omega) (by omega) fun rs M8 hrl hrs D8 U8 => ⟨by decide, ?_⟩
      exact Shr.all (k rs ps ms M8 hp0 hm0 (by omega) (by omega) (by omega) hrs hps hms D8 (U3.trans (U4.trans (U5.trans (U6.trans (U7.trans U8))))))
/-- the stand behind a rule, or None -/
def sp__law_behind : DSp := fun ds M R => ∃ (rs : List Rl) (s : St2) (n : Int), ds = [progD rs, stD s, .int n] ∧ (0 ≤ n ∧ n < rs.length) ∧ s.2.length ≤ 1000000 ∧ (∀ r ∈ rs, r.w.length ≤ 1000) ∧ R (optD (behF rs s n)) M
theorem lbehind_go {M : Mm} {R : DQ} {rs : List Rl} {s : St2} {n : Int} (h1 : 0 ≤ n) (h1' : n < rs.length) (h2 : s.2.length ≤ 1000000) (h3 : ∀ r ∈ rs, r.w.length ≤ 1000) (k : R (optD (behF rs s n)) M) : sp__law_behind [progD rs, stD s, .int n] M R := ⟨rs, s, n, rfl, ⟨h1, h1'⟩, h2, h3, k⟩
theorem ok__law_behind {f__law_behind : Addr} {fd__law_behind : FuncData} (F__law_behind : Fun K "_law_behind" "_law_behind" st__law_behind f__law_behind fd__law_behind) : FnOk P w K mg base CX0 1 f__law_behind fd__law_behind ["_law_program_here", "_law_stand", "_law_number"] (toSp K sp__law_behind) := by
  refine fn_ok (k := 0) F__law_behind sc__law_behind (fun ds M R h => ?_) (fun cdv A outer s H E hr => ⟨_, (jb_cons (js_asg (jv 1) (jg_tup (n := 2) rfl (jgs_cons (jg_name (i := 3) sc__law_behind.nd) (jgs_cons (jg_name (i := 4) sc__law_behind.nd) jgs_nil))))
      (jb_cons (js_asg (je_ix (jv 0) (jv 2)) (jg_tup (n := 4) rfl (jgs_cons (jg_name (i := 5) sc__law_behind.nd) (jgs_cons (jg_name (i := 6) sc__law_behind.nd) (jgs_cons (jg_name (i := 7) sc__law_behind.nd) (jgs_cons (jg_name (i := 8) sc__law_behind.nd) jgs_nil))))))
      (jb_cons (js_if (JW.jt (jw_or (jt_ne hr (je_slice (jv 4) jo_none (jo_some je_int)) (je_tup (ja_cons (jv 6) ja_nil))) (jw_or1 (jt_ne hr (jv 3) (jv 5))))) (jb_one (js_ret je_non)) jb_nil)
      (jb_one (js_ret (je_tup (ja_cons (jv 7) (ja_cons (je_add (jv 8) (je_slice (jv 4) (jo_some je_int) jo_none)) ja_nil)))))))), fun ds M R h => ?_⟩)
  · unfold sp__law_behind at h
    first | (obtain ⟨rfl, _⟩ := h; rfl) | (obtain ⟨_, rfl, _⟩ := h; rfl) | (obtain ⟨_, _, rfl, _⟩ := h; rfl) | (obtain ⟨_, _, _, rfl, _⟩ := h; rfl) | (obtain ⟨_, _, _, _, rfl, _⟩ := h; rfl) | (obtain ⟨_, _, _, _, _, rfl, _⟩ := h; rfl) | (obtain ⟨_, _, _, _, _, _, rfl, _⟩ := h; rfl) | (obtain ⟨_, _, _, _, _, _, _, rfl, _⟩ := h; rfl) | (obtain ⟨_, _, _, _, _, _, _, _, rfl, _⟩ := h; rfl) | (split at h <;> first | rfl | exact h.elim)
  · unfold sp__law_behind at h
    obtain ⟨rs, ⟨pl, pile⟩, n, rfl, ⟨h0, h1⟩, hs, hw, k⟩ := h
    simp only [dSeq, dNext, dBreak, dCont, dDrop, dRet, dRetN, dIfS, dAsg, dputS, dlputS, dOp, dVar, dC, dget_zero, dget_succ, dTest, isB, dNil, dCons, dgName, dTup, dCB, dFresh, dFrz, dFreshD, dFrzD, dDispD, dDisp, dBM, dBM0, dAndV, dOrV, dNotV, dAnd, dOr, dNot, dCall, dNeg, dIf, dFor, dSl, dPart, dNoPart, diRng1, diRng2, diAny, isI, dstart, List.set_cons_zero, List.set_cons_succ, List.map_cons, List.map_nil, List.length_cons, List.length_nil, List.cons_append, List.nil_append, Nat.reduceAdd, Nat.reduceSub, Int.reduceAdd, Int.reduceSub, List.replicate, isLst, dgTup, dgCons, dgNil, dListOf, dJoin, dIndex, dRev, diZip, dPar2, diEnum, dRetX, dDropX, dAsgX, dCallX, dConsX, dTupX, dFrzX, dRaise0, dRaise1, dTryAs, dTryOnly, dXf, asEnds, dLc, wipeD, dCat, dSlL, dPairs, dGet2, dGet1, isDic, ite_true, ite_false, if_true, if_false, reduceIte, Bool.false_eq_true, Bool.true_eq_false, and_true, true_and, rdL_lst, rdL_ref, rdS_lst, rdS_ref, rdS_tup, rdD_dic, rdD_ref, addR_ii, addR_ib, addR_ss, addR_tt, addR_LL, subR_ii, mulR_ii, mulA_ii, mulA_t, mulA_L, modR_ii, fdivR_ii, powR_ii, ltR_ii, leR_ii, gtR_ii, geR_ii, keyD_s, keyD_i, dgetR, eqR_ii, eqR_ss, eqR_bb, eqR_tt, eqR_LL, neR_ii, neR_ss, neR_bb, neR_tt, neR_LL, eqM_ii, eqM_ss, eqM_bb, eqM_tt, eqM_LL, okD_i, okD_s, okD_b, okD_n, okD_t, okD_L, deck_at, deck_sum, deck_cells, deck_len, deck_put, dicOf_mup_same, lstOf_mup_same, int1R_b, int1R_i, ix_t0, ix_t1, ix_t2, ix_t3, ix_t4, lenR_t, lenR_s, lenR_L, slR_t, slR_s, slR_L, cutL_from1, cutL_from2, revR_t, revR_L, tup1R_L, tup1R_t, beq_self_eq_true, Bool.not_true, Bool.not_false, Option.isSome_some, List.isEmpty_nil, List.isEmpty_cons, isR_nn, isR_tn, isR_Ln, isR_sn, isR_in, isR_bn, isR_bb, isNotR_nn, isNotR_tn, isNotR_Ln, isNotR_sn, isNotR_in, isNotR_bn, isNotR_bb, isi_t_bool, isi_t_int, isi_t_str, isi_t_tuple, isi_t_list, isi_t_dict, isi_s_bool, isi_s_int, isi_s_str, isi_s_tuple, isi_s_list, isi_s_dict, isi_i_bool, isi_i_int, isi_i_str, isi_i_tuple, isi_i_list, isi_i_dict, isi_b_bool, isi_b_int, isi_b_str, isi_b_tuple, isi_b_list, isi_b_dict, isi_n_bool, isi_n_int, isi_n_str, isi_n_tuple, isi_n_list, isi_n_dict, isi_L_bool, isi_L_int, isi_L_str, isi_L_tuple, isi_L_list, isi_L_dict, isi_d_bool, isi_d_int, isi_d_str, isi_d_tuple, isi_d_list, isi_d_dict, natlit_eq, Int.reduceNeg, N__law_behind, progD, stD, List.length_map]
    obtain ⟨r, hr, mr⟩ : ∃ r, rs[n.toNat]? = some r ∧ r ∈ rs := ⟨_, List.getElem?_eq_getElem (by omega), List.getElem_mem _⟩
    rw [show behF rs (pl, pile) n = stepF r (pl, pile) by unfold behF; rw [if_pos h0, hr]] at k
    refine ix_t (d := ruleD r) h0 (by rw [List.getElem?_map, hr]; rfl) ?_
    simp only [dSeq, dNext, dBreak, dCont, dDrop, dRet, dRetN, dIfS, dAsg, dputS, dlputS, dOp, dVar, dC, dget_zero, dget_succ, dTest, isB, dNil, dCons, dgName, dTup, dCB, dFresh, dFrz, dFreshD, dFrzD, dDispD, dDisp, dBM, dBM0, dAndV, dOrV, dNotV, dAnd, dOr, dNot, dCall, dNeg, dIf, dFor, dSl, dPart, dNoPart, diRng1, diRng2, diAny, isI, dstart, List.set_cons_zero, List.set_cons_succ, List.map_cons, List.map_nil, List.length_cons, List.length_nil, List.cons_append, List.nil_append, Nat.reduceAdd, Nat.reduceSub, Int.reduceAdd, Int.reduceSub, List.replicate, isLst, dgTup, dgCons, dgNil, dListOf, dJoin, dIndex, dRev, diZip, dPar2, diEnum, dRetX, dDropX, dAsgX, dCallX, dConsX, dTupX, dFrzX, dRaise0, dRaise1, dTryAs, dTryOnly, dXf, asEnds, dLc, wipeD, dCat, dSlL, dPairs, dGet2, dGet1, isDic, ite_true, ite_false, if_true, if_false, reduceIte, Bool.false_eq_true, Bool.true_eq_false, and_true, true_and, rdL_lst, rdL_ref, rdS_lst, rdS_ref, rdS_tup, rdD_dic, rdD_ref, addR_ii, addR_ib, addR_ss, addR_tt, addR_LL, subR_ii, mulR_ii, mulA_ii, mulA_t, mulA_L, modR_ii, fdivR_ii, powR_ii, ltR_ii, leR_ii, gtR_ii, geR_ii, keyD_s, keyD_i, dgetR, eqR_ii, eqR_ss, eqR_bb, eqR_tt, eqR_LL, neR_ii, neR_ss, neR_bb, neR_tt, neR_LL, eqM_ii, eqM_ss, eqM_bb, eqM_tt, eqM_LL, okD_i, okD_s, okD_b, okD_n, okD_t, okD_L, deck_at, deck_sum, deck_cells, deck_len, deck_put, dicOf_mup_same, lstOf_mup_same, int1R_b, int1R_i, ix_t0, ix_t1, ix_t2, ix_t3, ix_t4, lenR_t, lenR_s, lenR_L, slR_t, slR_s, slR_L, cutL_from1, cutL_from2, revR_t, revR_L, tup1R_L, tup1R_t, beq_self_eq_true, Bool.not_true, Bool.not_false, Option.isSome_some, List.isEmpty_nil, List.isEmpty_cons, isR_nn, isR_tn, isR_Ln, isR_sn, isR_in, isR_bn, isR_bb, isNotR_nn, isNotR_tn, isNotR_Ln, isNotR_sn, isNotR_in, isNotR_bn, isNotR_bb, isi_t_bool, isi_t_int, isi_t_str, isi_t_tuple, isi_t_list, isi_t_dict, isi_s_bool, isi_s_int, isi_s_str, isi_s_tuple, isi_s_list, isi_s_dict, isi_i_bool, isi_i_int, isi_i_str, isi_i_tuple, isi_i_list, isi_i_dict, isi_b_bool, isi_b_int, isi_b_str, isi_b_tuple, isi_b_list, isi_b_dict, isi_n_bool, isi_n_int, isi_n_str, isi_n_tuple, isi_n_list, isi_n_dict, isi_L_bool, isi_L_int, isi_L_str, isi_L_tuple, isi_L_list, isi_L_dict, isi_d_bool, isi_d_int, isi_d_str, isi_d_tuple, isi_d_list, isi_d_dict, natlit_eq, Int.reduceNeg, ruleD]
    refine ⟨by decide, ⟨cut1_ok, strs_ok (xs := [r.m])⟩, ?_⟩
    rw [eqv_take]
    refine ifs2o (fun h2 => ?_) (fun h2 h3 => ?_)
    · rw [show stepF r (pl, pile) = none by
        unfold stepF
        rw [if_neg]
        rintro ⟨e1, e2⟩
        simp only at e1 e2
        rw [e1, e2] at h2
        simp at h2] at k
      exact Shr.all k
    · have h2 : pile.take 1 = [r.m] := by simpa using h2
      have h3 : pl = r.p := by simpa using h3
      rw [show stepF r (pl, pile) = some (r.o, r.w ++ pile.drop 1) by unfold stepF; rw [if_pos ⟨h3, h2⟩]] at k
      rw [← List.map_drop]
      refine ⟨small_line2 (by simp only [List.length_map, List.length_drop]; have := hw r mr; simp only at hs; omega), by decide, ?_⟩
      rw [← List.map_append]
      exact Shr.all k
/-- a run gone -/
def sp__law_gone : DSp := fun ds M R => ∃ (d : Addr) (rs : List Rl) (s : St2) (most : Nat), ds = [.ref d, progD rs, stD s, .int most] ∧ rs.length ≤ 1000 ∧ most ≤ 1000 ∧ s.2.length ≤ 100000 ∧ (∀ r ∈ rs, r.w.length ≤ 2) ∧ ∃ c r, Deck M d c (r + most) ∧
  ∀ (ns : List Int) M', ns.length ≤ most → (∀ n ∈ ns, 0 ≤ n ∧ n < rs.length) → Deck M' d c r → Upto d c M M' → R (.tup (ns.map D.int)) M'
theorem gone_go {M : Mm} {R : DQ} {d c : Addr} {r : Nat} {rs : List Rl} {s : St2} {most : Nat} (D0 : Deck M d c (r + most)) (h1 : rs.length ≤ 1000) (h2 : most ≤ 1000) (h3 : s.2.length ≤ 100000) (h4 : ∀ r ∈ rs, r.w.length ≤ 2)
    (h : ∀ (ns : List Int) M', ns.length ≤ most → (∀ n ∈ ns, 0 ≤ n ∧ n < rs.length) → Deck M' d c r → Upto d c M M' → R (.tup (ns.map D.int)) M') : sp__law_gone [.ref d, progD rs, stD s, .int most] M R := ⟨d, rs, s, most, rfl, h1, h2, h3, h4, c, r, D0, h⟩
theorem gone_B {M M0 : Mm} {R : DQ} {d c : Addr} {n : Nat} {L : List (Addr × MO)} {rs : List Rl} {s : St2} {most : Nat} (b : Bx d c n M0 L M) (hn : most ≤ n) (h1 : rs.length ≤ 1000) (h2 : most ≤ 1000) (h3 : s.2.length ≤ 100000) (h4 : ∀ r ∈ rs, r.w.length ≤ 2)
    (h : ∀ (ns : List Int) M', ns.length ≤ most → (∀ n ∈ ns, 0 ≤ n ∧ n < rs.length) → Bx d c (n - most) M0 L M' → R (.tup (ns.map D.int)) M') : sp__law_gone [.ref d, progD rs, stD s, .int most] M R := gone_go (r := n - most) (b.dk.mono (by omega)) h1 h2 h3 h4 fun ns M' g1 g2 D U => h ns M' g1 g2 (b.call D U)
theorem ok__law_gone {f__law_gone f__law_behind f__law_pick : Addr} {fd__law_gone fd__law_behind fd__law_pick : FuncData} (F__law_gone : Fun K "_law_gone" "_law_gone" st__law_gone f__law_gone fd__law_gone) (G__law_behind : FnOk P w K mg base CX0 1 f__law_behind fd__law_behind ["_law_program_here", "_law_stand", "_law_number"] (toSp K sp__law_behind)) (g__law_behind : mg "_law_behind" = some (.ref f__law_behind)) (k__law_behind : PySem.W.keepIn K (.ref f__law_behind) = true) (b__law_behind : Binds K fd__law_behind ["_law_program_here", "_law_stand", "_law_number"] []) (G__law_pick : FnOk P w K mg base CX0 2 f__law_pick fd__law_pick ["_law_deck_here", "_law_some"] (toSp K sp__law_pick)) (g__law_pick : mg "_law_pick" = some (.ref f__law_pick)) (k__law_pick : PySem.W.keepIn K (.ref f__law_pick) = true) (b__law_pick : Binds K fd__law_pick ["_law_deck_here", "_law_some"] []) (z_range : mg "range" = none) (z_len : mg "len" = none) (z_tuple : mg "tuple" = none) : FnOk P w K mg base CX0 3 f__law_gone fd__law_gone ["_law_deck_here", "_law_program_here", "_law_stand", "_law_most"] (toSp K sp__law_gone) := by
  refine fn_ok (k := 2) F__law_gone sc__law_gone (fun ds M R h => ?_) (fun cdv A outer s H E hr => ⟨_, (jb_cons (js_set (i := 4) sc__law_gone.nd (je_fresh (jl_disp ja_nil)))
      (jb_cons (js_for PassesOwn.never rfl (ji_rng1 (by rfl) z_range (jv 3)) (jg_name (i := 5) sc__law_gone.nd) (jb_cons (js_setLcF (i := 6) rfl sc__law_gone.nd (jlc (ji_rng1 (by rfl) z_range (je_len z_len (ja_cons (jv 1) ja_nil))) (blkOk_by (own := [("_law_number", 7)]) (N := N__law_gone) (sc := defScope st__law_gone) (by decide +kernel)) (fun _ _ _ _ _ => (jgv_name (i := 7) sc__law_gone.nd (by decide))) (fun _ _ _ _ _ => (jts_one (jt_isnot (je_call G__law_behind (hr.mono (by decide)) (by rfl) g__law_behind k__law_behind b__law_behind (ja_cons (jv 1) (ja_cons (jv 2) (ja_cons (jv 7) ja_nil)))) je_non))) (fun _ _ _ _ _ => (jv 7))) (sw_true rfl rfl rfl (by decide +kernel))) (jb_one (js_if (jt_ne hr (jv 6) (je_frz (jl_disp ja_nil))) (jb_cons (js_expr (je_append (jv 4) (je_call G__law_pick (hr.mono (by decide)) (by rfl) g__law_pick k__law_pick b__law_pick (ja_cons (jv 0) (ja_cons (jv 6) ja_nil))))) (jb_one (js_set (i := 2) sc__law_gone.nd (je_call G__law_behind (hr.mono (by decide)) (by rfl) g__law_behind k__law_behind b__law_behind (ja_cons (jv 1) (ja_cons (jv 2) (ja_cons (je_ix (jv 4) (je_neg je_int)) ja_nil))))))) jb_nil))))
      (jb_one (js_ret (je_tuple z_tuple (ja_cons (jv 4) ja_nil)))))), fun ds M R h => ?_⟩)
  · unfold sp__law_gone at h
    first | (obtain ⟨rfl, _⟩ := h; rfl) | (obtain ⟨_, rfl, _⟩ := h; rfl) | (obtain ⟨_, _, rfl, _⟩ := h; rfl) | (obtain ⟨_, _, _, rfl, _⟩ := h; rfl) | (obtain ⟨_, _, _, _, rfl, _⟩ := h; rfl) | (obtain ⟨_, _, _, _, _, rfl, _⟩ := h; rfl) | (obtain ⟨_, _, _, _, _, _, rfl, _⟩ := h; rfl) | (obtain ⟨_, _, _, _, _, _, _, rfl, _⟩ := h; rfl) | (obtain ⟨_, _, _, _, _, _, _, _, rfl, _⟩ := h; rfl) | (split at h <;> first | rfl | exact h.elim)
  · unfold sp__law_gone at h
    obtain ⟨d, rs, s, most, rfl, hl, hm, hs, hw, c, r, D0, k⟩ := h
    have hw2 : ∀ r ∈ rs, r.w.length ≤ 1000 := fun r hr => by have := hw r hr; omega
    have hlen : ∀ {Q : DQ} {M : Mm}, Q (.int rs.length) M → lenR [progD rs] M Q := fun {Q M} h => by
      show lenR [.tup (rs.map ruleD)] M Q
      rw [lenR_t, List.length_map]; exact h
    simp only [dSeq, dNext, dBreak, dCont, dDrop, dRet, dRetN, dIfS, dAsg, dputS, dlputS, dOp, dVar, dC, dget_zero, dget_succ, dTest, isB, dNil, dCons, dgName, dTup, dCB, dFresh, dFrz, dFreshD, dFrzD, dDispD, dDisp, dBM, dBM0, dAndV, dOrV, dNotV, dAnd, dOr, dNot, dCall, dNeg, dIf, dFor, dSl, dPart, dNoPart, diRng1, diRng2, diAny, isI, dstart, List.set_cons_zero, List.set_cons_succ, List.map_cons, List.map_nil, List.length_cons, List.length_nil, List.cons_append, List.nil_append, Nat.reduceAdd, Nat.reduceSub, Int.reduceAdd, Int.reduceSub, List.replicate, isLst, dgTup, dgCons, dgNil, dListOf, dJoin, dIndex, dRev, diZip, dPar2, diEnum, dRetX, dDropX, dAsgX, dCallX, dConsX, dTupX, dFrzX, dRaise0, dRaise1, dTryAs, dTryOnly, dXf, asEnds, dLc, wipeD, dCat, dSlL, dPairs, dGet2, dGet1, isDic, ite_true, ite_false, if_true, if_false, reduceIte, Bool.false_eq_true, Bool.true_eq_false, and_true, true_and, rdL_lst, rdL_ref, rdS_lst, rdS_ref, rdS_tup, rdD_dic, rdD_ref, addR_ii, addR_ib, addR_ss, addR_tt, addR_LL, subR_ii, mulR_ii, mulA_ii, mulA_t, mulA_L, modR_ii, fdivR_ii, powR_ii, ltR_ii, leR_ii, gtR_ii, geR_ii, keyD_s, keyD_i, dgetR, eqR_ii, eqR_ss, eqR_bb, eqR_tt, eqR_LL, neR_ii, neR_ss, neR_bb, neR_tt, neR_LL, eqM_ii, eqM_ss, eqM_bb, eqM_tt, eqM_LL, okD_i, okD_s, okD_b, okD_n, okD_t, okD_L, deck_at, deck_sum, deck_cells, deck_len, deck_put, dicOf_mup_same, lstOf_mup_same, int1R_b, int1R_i, ix_t0, ix_t1, ix_t2, ix_t3, ix_t4, lenR_t, lenR_s, lenR_L, slR_t, slR_s, slR_L, cutL_from1, cutL_from2, revR_t, revR_L, tup1R_L, tup1R_t, beq_self_eq_true, Bool.not_true, Bool.not_false, Option.isSome_some, List.isEmpty_nil, List.isEmpty_cons, isR_nn, isR_tn, isR_Ln, isR_sn, isR_in, isR_bn, isR_bb, isNotR_nn, isNotR_tn, isNotR_Ln, isNotR_sn, isNotR_in, isNotR_bn, isNotR_bb, isi_t_bool, isi_t_int, isi_t_str, isi_t_tuple, isi_t_list, isi_t_dict, isi_s_bool, isi_s_int, isi_s_str, isi_s_tuple, isi_s_list, isi_s_dict, isi_i_bool, isi_i_int, isi_i_str, isi_i_tuple, isi_i_list, isi_i_dict, isi_b_bool, isi_b_int, isi_b_str, isi_b_tuple, isi_b_list, isi_b_dict, isi_n_bool, isi_n_int, isi_n_str, isi_n_tuple, isi_n_list, isi_n_dict, isi_L_bool, isi_L_int, isi_L_str, isi_L_tuple, isi_L_list, isi_L_dict, isi_d_bool, isi_d_int, isi_d_str, isi_d_tuple, isi_d_list, isi_d_dict, natlit_eq, Int.reduceNeg, N__law_gone]
    refine ⟨by decide, fun p hpn => ?_⟩
    have hpd := D0.nd hpn
    have hpc := D0.nc hpn
    have hp0 : M p = none := hpn
    try simp only [dNext, dBreak, dCont, dDrop, dRet, dRetN, dIfS, dAsg, dputS, dlputS, dOp, dVar, dC, dget_zero, dget_succ, dTest, isB, dNil, dCons, dgName, dTup, dCB, dFresh, dFrz, dFreshD, dFrzD, dDispD, dDisp, dBM, dBM0, dAndV, dOrV, dNotV, dAnd, dOr, dNot, dCall, dNeg, dIf, dFor, dSl, dPart, dNoPart, diRng1, diRng2, diAny, isI, dstart, List.set_cons_zero, List.set_cons_succ, List.map_cons, List.map_nil, List.length_cons, List.length_nil, List.cons_append, List.nil_append, Nat.reduceAdd, Nat.reduceSub, Int.reduceAdd, Int.reduceSub, List.replicate, isLst, dgTup, dgCons, dgNil, dListOf, dJoin, dIndex, dRev, diZip, dPar2, diEnum, dRetX, dDropX, dAsgX, dCallX, dConsX, dTupX, dFrzX, dRaise0, dRaise1, dTryAs, dTryOnly, dXf, asEnds, dLc, wipeD, dCat, dSlL, dPairs, dGet2, dGet1, isDic, ite_true, ite_false, if_true, if_false, reduceIte, Bool.false_eq_true, Bool.true_eq_false, and_true, true_and, rdL_lst, rdL_ref, rdS_lst, rdS_ref, rdS_tup, rdD_dic, rdD_ref, addR_ii, addR_ib, addR_ss, addR_tt, addR_LL, subR_ii, mulR_ii, mulA_ii, mulA_t, mulA_L, modR_ii, fdivR_ii, powR_ii, ltR_ii, leR_ii, gtR_ii, geR_ii, keyD_s, keyD_i, dgetR, eqR_ii, eqR_ss, eqR_bb, eqR_tt, eqR_LL, neR_ii, neR_ss, neR_bb, neR_tt, neR_LL, eqM_ii, eqM_ss, eqM_bb, eqM_tt, eqM_LL, okD_i, okD_s, okD_b, okD_n, okD_t, okD_L, deck_at, deck_sum, deck_cells, deck_len, deck_put, dicOf_mup_same, lstOf_mup_same, int1R_b, int1R_i, ix_t0, ix_t1, ix_t2, ix_t3, ix_t4, lenR_t, lenR_s, lenR_L, slR_t, slR_s, slR_L, cutL_from1, cutL_from2, revR_t, revR_L, tup1R_L, tup1R_t, beq_self_eq_true, Bool.not_true, Bool.not_false, Option.isSome_some, List.isEmpty_nil, List.isEmpty_cons, isR_nn, isR_tn, isR_Ln, isR_sn, isR_in, isR_bn, isR_bb, isNotR_nn, isNotR_tn, isNotR_Ln, isNotR_sn, isNotR_in, isNotR_bn, isNotR_bb, isi_t_bool, isi_t_int, isi_t_str, isi_t_tuple, isi_t_list, isi_t_dict, isi_s_bool, isi_s_int, isi_s_str, isi_s_tuple, isi_s_list, isi_s_dict, isi_i_bool, isi_i_int, isi_i_str, isi_i_tuple, isi_i_list, isi_i_dict, isi_b_bool, isi_b_int, isi_b_str, isi_b_tuple, isi_b_list, isi_b_dict, isi_n_bool, isi_n_int, isi_n_str, isi_n_tuple, isi_n_list, isi_n_dict, isi_L_bool, isi_L_int, isi_L_str, isi_L_tuple, isi_L_list, isi_L_dict, isi_d_bool, isi_d_int, isi_d_str, isi_d_tuple, isi_d_list, isi_d_dict, natlit_eq, Int.reduceNeg]
    refine ⟨inLine_nat (by omega), ?_⟩
    rw [Int.toNat_natCast]
    refine forW_rng (fun i ds M' => ∃ (s' : St2) (ns : List Int) (x5 x6 x7 : Option D), ds = [some (.ref d), some (progD rs), some (stD s'), some (.int most), some (.ref p), x5, x6, x7] ∧ i ≤ most ∧ ns.length ≤ i ∧ (∀ n ∈ ns, 0 ≤ n ∧ n < rs.length) ∧ s'.2.length ≤ 100000 + 2 * i ∧
        lstOf M' p = some (ns.map D.int) ∧ Ext d c M M' ∧ Deck M' d c (r + (most - i))) (fun i N hi hN ds M' hI => ?_) (fun ds M' hI => ?_) _ _ ⟨s, [], none, none, none, rfl, Nat.zero_le _, by simp, by simp, by omega, lstOf_mup_same, Upto.refl.ext.new hpn, (D0.up hpn).mono (by omega)⟩
    · obtain ⟨s', ns, x5, x6, x7, rfl, hi2, hnl, hns, hsl, hL, hX, hD⟩ := hI
      have hD : Deck M' d c (r + (most - (i + 1)) + 1) := hD.mono (by omega)
      try simp only [dNext, dBreak, dCont, dDrop, dRet, dRetN, dIfS, dAsg, dputS, dlputS, dOp, dVar, dC, dget_zero, dget_succ, dTest, isB, dNil, dCons, dgName, dTup, dCB, dFresh, dFrz, dFreshD, dFrzD, dDispD, dDisp, dBM, dBM0, dAndV, dOrV, dNotV, dAnd, dOr, dNot, dCall, dNeg, dIf, dFor, dSl, dPart, dNoPart, diRng1, diRng2, diAny, isI, dstart, List.set_cons_zero, List.set_cons_succ, List.map_cons, List.map_nil, List.length_cons, List.length_nil, List.cons_append, List.nil_append, Nat.reduceAdd, Nat.reduceSub, Int.reduceAdd, Int.reduceSub, List.replicate, isLst, dgTup, dgCons, dgNil, dListOf, dJoin, dIndex, dRev, diZip, dPar2, diEnum, dRetX, dDropX, dAsgX, dCallX, dConsX, dTupX, dFrzX, dRaise0, dRaise1, dTryAs, dTryOnly, dXf, asEnds, dLc, wipeD, dCat, dSlL, dPairs, dGet2, dGet1, isDic, ite_true, ite_false, if_true, if_false, reduceIte, Bool.false_eq_true, Bool.true_eq_false, and_true, true_and, rdL_lst, rdL_ref, rdS_lst, rdS_ref, rdS_tup, rdD_dic, rdD_ref, addR_ii, addR_ib, addR_ss, addR_tt, addR_LL, subR_ii, mulR_ii, mulA_ii, mulA_t, mulA_L, modR_ii, fdivR_ii, powR_ii, ltR_ii, leR_ii, gtR_ii, geR_ii, keyD_s, keyD_i, dgetR, eqR_ii, eqR_ss, eqR_bb, eqR_tt, eqR_LL, neR_ii, neR_ss, neR_bb, neR_tt, neR_LL, eqM_ii, eqM_ss, eqM_bb, eqM_tt, eqM_LL, okD_i, okD_s, okD_b, okD_n, okD_t, okD_L, deck_at, deck_sum, deck_cells, deck_len, deck_put, dicOf_mup_same, lstOf_mup_same, int1R_b, int1R_i, ix_t0, ix_t1, ix_t2, ix_t3, ix_t4, lenR_t, lenR_s, lenR_L, slR_t, slR_s, slR_L, cutL_from1, cutL_from2, revR_t, revR_L, tup1R_L, tup1R_t, beq_self_eq_true, Bool.not_true, Bool.not_false, Option.isSome_some, List.isEmpty_nil, List.isEmpty_cons, isR_nn, isR_tn, isR_Ln, isR_sn, isR_in, isR_bn, isR_bb, isNotR_nn, isNotR_tn, isNotR_Ln, isNotR_sn, isNotR_in, isNotR_bn, isNotR_bb, isi_t_bool, isi_t_int, isi_t_str, isi_t_tuple, isi_t_list, isi_t_dict, isi_s_bool, isi_s_int, isi_s_str, isi_s_tuple, isi_s_list, isi_s_dict, isi_i_bool, isi_i_int, isi_i_str, isi_i_tuple, isi_i_list, isi_i_dict, isi_b_bool, isi_b_int, isi_b_str, isi_b_tuple, isi_b_list, isi_b_dict, isi_n_bool, isi_n_int, isi_n_str, isi_n_tuple, isi_n_list, isi_n_dict, isi_L_bool, isi_L_int, isi_L_str, isi_L_tuple, isi_L_list, isi_L_dict, isi_d_bool, isi_d_int, isi_d_str, isi_d_tuple, isi_d_list, isi_d_dict, natlit_eq, Int.reduceNeg]
      refine seq_go ?_
      try simp only [dNext, dBreak, dCont, dDrop, dRet, dRetN, dIfS, dAsg, dputS, dlputS, dOp, dVar, dC, dget_zero, dget_succ, dTest, isB, dNil, dCons, dgName, dTup, dCB, dFresh, dFrz, dFreshD, dFrzD, dDispD, dDisp, dBM, dBM0, dAndV, dOrV, dNotV, dAnd, dOr, dNot, dCall, dNeg, dIf, dFor, dSl, dPart, dNoPart, diRng1, diRng2, diAny, isI, dstart, List.set_cons_zero, List.set_cons_succ, List.map_cons, List.map_nil, List.length_cons, List.length_nil, List.cons_append, List.nil_append, Nat.reduceAdd, Nat.reduceSub, Int.reduceAdd, Int.reduceSub, List.replicate, isLst, dgTup, dgCons, dgNil, dListOf, dJoin, dIndex, dRev, diZip, dPar2, diEnum, dRetX, dDropX, dAsgX, dCallX, dConsX, dTupX, dFrzX, dRaise0, dRaise1, dTryAs, dTryOnly, dXf, asEnds, dLc, wipeD, dCat, dSlL, dPairs, dGet2, dGet1, isDic, ite_true, ite_false, if_true, if_false, reduceIte, Bool.false_eq_true, Bool.true_eq_false, and_true, true_and, rdL_lst, rdL_ref, rdS_lst, rdS_ref, rdS_tup, rdD_dic, rdD_ref, addR_ii, addR_ib, addR_ss, addR_tt, addR_LL, subR_ii, mulR_ii, mulA_ii, mulA_t, mulA_L, modR_ii, fdivR_ii, powR_ii, ltR_ii, leR_ii, gtR_ii, geR_ii, keyD_s, keyD_i, dgetR, eqR_ii, eqR_ss, eqR_bb, eqR_tt, eqR_LL, neR_ii, neR_ss, neR_bb, neR_tt, neR_LL, eqM_ii, eqM_ss, eqM_bb, eqM_tt, eqM_LL, okD_i, okD_s, okD_b, okD_n, okD_t, okD_L, deck_at, deck_sum, deck_cells, deck_len, deck_put, dicOf_mup_same, lstOf_mup_same, int1R_b, int1R_i, ix_t0, ix_t1, ix_t2, ix_t3, ix_t4, lenR_t, lenR_s, lenR_L, slR_t, slR_s, slR_L, cutL_from1, cutL_from2, revR_t, revR_L, tup1R_L, tup1R_t, beq_self_eq_true, Bool.not_true, Bool.not_false, Option.isSome_some, List.isEmpty_nil, List.isEmpty_cons, isR_nn, isR_tn, isR_Ln, isR_sn, isR_in, isR_bn, isR_bb, isNotR_nn, isNotR_tn, isNotR_Ln, isNotR_sn, isNotR_in, isNotR_bn, isNotR_bb, isi_t_bool, isi_t_int, isi_t_str, isi_t_tuple, isi_t_list, isi_t_dict, isi_s_bool, isi_s_int, isi_s_str, isi_s_tuple, isi_s_list, isi_s_dict, isi_i_bool, isi_i_int, isi_i_str, isi_i_tuple, isi_i_list, isi_i_dict, isi_b_bool, isi_b_int, isi_b_str, isi_b_tuple, isi_b_list, isi_b_dict, isi_n_bool, isi_n_int, isi_n_str, isi_n_tuple, isi_n_list, isi_n_dict, isi_L_bool, isi_L_int, isi_L_str, isi_L_tuple, isi_L_list, isi_L_dict, isi_d_bool, isi_d_int, isi_d_str, isi_d_tuple, isi_d_list, isi_d_dict, natlit_eq, Int.reduceNeg]
      refine hlen ⟨inLine_nat (by omega), ?_⟩
      rw [Int.toNat_natCast, rangeD_map]
      refine lcW_filter (fun (j : Nat) => D.int (0 + (j : Int))) (fun j => (behF rs s' (j : Nat)).isSome) (fun (j : Nat) => D.int (0 + (j : Int))) (small_line (by simp; omega)) trivial (fun x hx N F h1 h2 => ?_) ?_
      · have hx := List.mem_range.mp hx
        simp only [dNext, dBreak, dCont, dDrop, dRet, dRetN, dIfS, dAsg, dputS, dlputS, dOp, dVar, dC, dget_zero, dget_succ, dTest, isB, dNil, dCons, dgName, dTup, dCB, dFresh, dFrz, dFreshD, dFrzD, dDispD, dDisp, dBM, dBM0, dAndV, dOrV, dNotV, dAnd, dOr, dNot, dCall, dNeg, dIf, dFor, dSl, dPart, dNoPart, diRng1, diRng2, diAny, isI, dstart, List.set_cons_zero, List.set_cons_succ, List.map_cons, List.map_nil, List.length_cons, List.length_nil, List.cons_append, List.nil_append, Nat.reduceAdd, Nat.reduceSub, Int.reduceAdd, Int.reduceSub, List.replicate, isLst, dgTup, dgCons, dgNil, dListOf, dJoin, dIndex, dRev, diZip, dPar2, diEnum, dRetX, dDropX, dAsgX, dCallX, dConsX, dTupX, dFrzX, dRaise0, dRaise1, dTryAs, dTryOnly, dXf, asEnds, dLc, wipeD, dCat, dSlL, dPairs, dGet2, dGet1, isDic, ite_true, ite_false, if_true, if_false, reduceIte, Bool.false_eq_true, Bool.true_eq_false, and_true, true_and, rdL_lst, rdL_ref, rdS_lst, rdS_ref, rdS_tup, rdD_dic, rdD_ref, addR_ii, addR_ib, addR_ss, addR_tt, addR_LL, subR_ii, mulR_ii, mulA_ii, mulA_t, mulA_L, modR_ii, fdivR_ii, powR_ii, ltR_ii, leR_ii, gtR_ii, geR_ii, keyD_s, keyD_i, dgetR, eqR_ii, eqR_ss, eqR_bb, eqR_tt, eqR_LL, neR_ii, neR_ss, neR_bb, neR_tt, neR_LL, eqM_ii, eqM_ss, eqM_bb, eqM_tt, eqM_LL, okD_i, okD_s, okD_b, okD_n, okD_t, okD_L, deck_at, deck_sum, deck_cells, deck_len, deck_put, dicOf_mup_same, lstOf_mup_same, int1R_b, int1R_i, ix_t0, ix_t1, ix_t2, ix_t3, ix_t4, lenR_t, lenR_s, lenR_L, slR_t, slR_s, slR_L, cutL_from1, cutL_from2, revR_t, revR_L, tup1R_L, tup1R_t, beq_self_eq_true, Bool.not_true, Bool.not_false, Option.isSome_some, List.isEmpty_nil, List.isEmpty_cons, isR_nn, isR_tn, isR_Ln, isR_sn, isR_in, isR_bn, isR_bb, isNotR_nn, isNotR_tn, isNotR_Ln, isNotR_sn, isNotR_in, isNotR_bn, isNotR_bb, isi_t_bool, isi_t_int, isi_t_str, isi_t_tuple, isi_t_list, isi_t_dict, isi_s_bool, isi_s_int, isi_s_str, isi_s_tuple, isi_s_list, isi_s_dict, isi_i_bool, isi_i_int, isi_i_str, isi_i_tuple, isi_i_list, isi_i_dict, isi_b_bool, isi_b_int, isi_b_str, isi_b_tuple, isi_b_list, isi_b_dict, isi_n_bool, isi_n_int, isi_n_str, isi_n_tuple, isi_n_list, isi_n_dict, isi_L_bool, isi_L_int, isi_L_str, isi_L_tuple, isi_L_list, isi_L_dict, isi_d_bool, isi_d_int, isi_d_str, isi_d_tuple, isi_d_list, isi_d_dict, natlit_eq, Int.reduceNeg]
        rw [show (0 + (x : Int)) = (x : Int) by omega] at *
        refine lbehind_go (by omega) (by omega) (by omega) hw2 ?_
        cases e : behF rs s' (x : Nat) with
        | none => simp only [optD, dNext, dBreak, dCont, dDrop, dRet, dRetN, dIfS, dAsg, dputS, dlputS, dOp, dVar, dC, dget_zero, dget_succ, dTest, isB, dNil, dCons, dgName, dTup, dCB, dFresh, dFrz, dFreshD, dFrzD, dDispD, dDisp, dBM, dBM0, dAndV, dOrV, dNotV, dAnd, dOr, dNot, dCall, dNeg, dIf, dFor, dSl, dPart, dNoPart, diRng1, diRng2, diAny, isI, dstart, List.set_cons_zero, List.set_cons_succ, List.map_cons, List.map_nil, List.length_cons, List.length_nil, List.cons_append, List.nil_append, Nat.reduceAdd, Nat.reduceSub, Int.reduceAdd, Int.reduceSub, List.replicate, isLst, dgTup, dgCons, dgNil, dListOf, dJoin, dIndex, dRev, diZip, dPar2, diEnum, dRetX, dDropX, dAsgX, dCallX, dConsX, dTupX, dFrzX, dRaise0, dRaise1, dTryAs, dTryOnly, dXf, asEnds, dLc, wipeD, dCat, dSlL, dPairs, dGet2, dGet1, isDic, ite_true, ite_false, if_true, if_false, reduceIte, Bool.false_eq_true, Bool.true_eq_false, and_true, true_and, rdL_lst, rdL_ref, rdS_lst, rdS_ref, rdS_tup, rdD_dic, rdD_ref, addR_ii, addR_ib, addR_ss, addR_tt, addR_LL, subR_ii, mulR_ii, mulA_ii, mulA_t, mulA_L, modR_ii, fdivR_ii, powR_ii, ltR_ii, leR_ii, gtR_ii, geR_ii, keyD_s, keyD_i, dgetR, eqR_ii, eqR_ss, eqR_bb, eqR_tt, eqR_LL, neR_ii, neR_ss, neR_bb, neR_tt, neR_LL, eqM_ii, eqM_ss, eqM_bb, eqM_tt, eqM_LL, okD_i, okD_s, okD_b, okD_n, okD_t, okD_L, deck_at, deck_sum, deck_cells, deck_len, deck_put, dicOf_mup_same, lstOf_mup_same, int1R_b, int1R_i, ix_t0, ix_t1, ix_t2, ix_t3, ix_t4, lenR_t, lenR_s, lenR_L, slR_t, slR_s, slR_L, cutL_from1, cutL_from2, revR_t, revR_L, tup1R_L, tup1R_t, beq_self_eq_true, Bool.not_true, Bool.not_false, Option.isSome_some, List.isEmpty_nil, List.isEmpty_cons, isR_nn, isR_tn, isR_Ln, isR_sn, isR_in, isR_bn, isR_bb, isNotR_nn, isNotR_tn, isNotR_Ln, isNotR_sn, isNotR_in, isNotR_bn, isNotR_bb, isi_t_bool, isi_t_int, isi_t_str, isi_t_tuple, isi_t_list, isi_t_dict, isi_s_bool, isi_s_int, isi_s_str, isi_s_tuple, isi_s_list, isi_s_dict, isi_i_bool, isi_i_int, isi_i_str, isi_i_tuple, isi_i_list, isi_i_dict, isi_b_bool, isi_b_int, isi_b_str, isi_b_tuple, isi_b_list, isi_b_dict, isi_n_bool, isi_n_int, isi_n_str, isi_n_tuple, isi_n_list, isi_n_dict, isi_L_bool, isi_L_int, isi_L_str, isi_L_tuple, isi_L_list, isi_L_dict, isi_d_bool, isi_d_int, isi_d_str, isi_d_tuple, isi_d_list, isi_d_dict, natlit_eq, Int.reduceNeg]; exact h2 (by rw [e]; rfl)
        | some t => simp only [optD, stD, dNext, dBreak, dCont, dDrop, dRet, dRetN, dIfS, dAsg, dputS, dlputS, dOp, dVar, dC, dget_zero, dget_succ, dTest, isB, dNil, dCons, dgName, dTup, dCB, dFresh, dFrz, dFreshD, dFrzD, dDispD, dDisp, dBM, dBM0, dAndV, dOrV, dNotV, dAnd, dOr, dNot, dCall, dNeg, dIf, dFor, dSl, dPart, dNoPart, diRng1, diRng2, diAny, isI, dstart, List.set_cons_zero, List.set_cons_succ, List.map_cons, List.map_nil, List.length_cons, List.length_nil, List.cons_append, List.nil_append, Nat.reduceAdd, Nat.reduceSub, Int.reduceAdd, Int.reduceSub, List.replicate, isLst, dgTup, dgCons, dgNil, dListOf, dJoin, dIndex, dRev, diZip, dPar2, diEnum, dRetX, dDropX, dAsgX, dCallX, dConsX, dTupX, dFrzX, dRaise0, dRaise1, dTryAs, dTryOnly, dXf, asEnds, dLc, wipeD, dCat, dSlL, dPairs, dGet2, dGet1, isDic, ite_true, ite_false, if_true, if_false, reduceIte, Bool.false_eq_true, Bool.true_eq_false, and_true, true_and, rdL_lst, rdL_ref, rdS_lst, rdS_ref, rdS_tup, rdD_dic, rdD_ref, addR_ii, addR_ib, addR_ss, addR_tt, addR_LL, subR_ii, mulR_ii, mulA_ii, mulA_t, mulA_L, modR_ii, fdivR_ii, powR_ii, ltR_ii, leR_ii, gtR_ii, geR_ii, keyD_s, keyD_i, dgetR, eqR_ii, eqR_ss, eqR_bb, eqR_tt, eqR_LL, neR_ii, neR_ss, neR_bb, neR_tt, neR_LL, eqM_ii, eqM_ss, eqM_bb, eqM_tt, eqM_LL, okD_i, okD_s, okD_b, okD_n, okD_t, okD_L, deck_at, deck_sum, deck_cells, deck_len, deck_put, dicOf_mup_same, lstOf_mup_same, int1R_b, int1R_i, ix_t0, ix_t1, ix_t2, ix_t3, ix_t4, lenR_t, lenR_s, lenR_L, slR_t, slR_s, slR_L, cutL_from1, cutL_from2, revR_t, revR_L, tup1R_L, tup1R_t, beq_self_eq_true, Bool.not_true, Bool.not_false, Option.isSome_some, List.isEmpty_nil, List.isEmpty_cons, isR_nn, isR_tn, isR_Ln, isR_sn, isR_in, isR_bn, isR_bb, isNotR_nn, isNotR_tn, isNotR_Ln, isNotR_sn, isNotR_in, isNotR_bn, isNotR_bb, isi_t_bool, isi_t_int, isi_t_str, isi_t_tuple, isi_t_list, isi_t_dict, isi_s_bool, isi_s_int, isi_s_str, isi_s_tuple, isi_s_list, isi_s_dict, isi_i_bool, isi_i_int, isi_i_str, isi_i_tuple, isi_i_list, isi_i_dict, isi_b_bool, isi_b_int, isi_b_str, isi_b_tuple, isi_b_list, isi_b_dict, isi_n_bool, isi_n_int, isi_n_str, isi_n_tuple, isi_n_list, isi_n_dict, isi_L_bool, isi_L_int, isi_L_str, isi_L_tuple, isi_L_list, isi_L_dict, isi_d_bool, isi_d_int, isi_d_str, isi_d_tuple, isi_d_list, isi_d_dict, natlit_eq, Int.reduceNeg]; exact h1 (by rw [e]; rfl)
      · have hall : ∀ j ∈ (List.range rs.length).filter (fun j => (behF rs s' (j : Nat)).isSome), j < rs.length ∧ (behF rs s' (j : Nat)).isSome = true := fun j hj => ⟨List.mem_range.mp (List.mem_filter.mp hj).1, (List.mem_filter.mp hj).2⟩
        have hfl : ((List.range rs.length).filter (fun j => (behF rs s' (j : Nat)).isSome)).length ≤ rs.length := Nat.le_trans (List.length_filter_le _ _) (by simp)
        generalize ((List.range rs.length).filter (fun j => (behF rs s' (j : Nat)).isSome)) = js at *
        have hp1 := pureDs_map (fun (k : Nat) => D.int (0 + (k : Int))) (fun _ => rfl) js
        have hd1 := depDs_map (fun (k : Nat) => D.int (0 + (k : Int))) 1 (by decide) (fun _ => by simp [depD]) js
        try simp only [dNext, dBreak, dCont, dDrop, dRet, dRetN, dIfS, dAsg, dputS, dlputS, dOp, dVar, dC, dget_zero, dget_succ, dTest, isB, dNil, dCons, dgName, dTup, dCB, dFresh, dFrz, dFreshD, dFrzD, dDispD, dDisp, dBM, dBM0, dAndV, dOrV, dNotV, dAnd, dOr, dNot, dCall, dNeg, dIf, dFor, dSl, dPart, dNoPart, diRng1, diRng2, diAny, isI, dstart, List.set_cons_zero, List.set_cons_succ, List.map_cons, List.map_nil, List.length_cons, List.length_nil, List.cons_append, List.nil_append, Nat.reduceAdd, Nat.reduceSub, Int.reduceAdd, Int.reduceSub, List.replicate, isLst, dgTup, dgCons, dgNil, dListOf, dJoin, dIndex, dRev, diZip, dPar2, diEnum, dRetX, dDropX, dAsgX, dCallX, dConsX, dTupX, dFrzX, dRaise0, dRaise1, dTryAs, dTryOnly, dXf, asEnds, dLc, wipeD, dCat, dSlL, dPairs, dGet2, dGet1, isDic, ite_true, ite_false, if_true, if_false, reduceIte, Bool.false_eq_true, Bool.true_eq_false, and_true, true_and, rdL_lst, rdL_ref, rdS_lst, rdS_ref, rdS_tup, rdD_dic, rdD_ref, addR_ii, addR_ib, addR_ss, addR_tt, addR_LL, subR_ii, mulR_ii, mulA_ii, mulA_t, mulA_L, modR_ii, fdivR_ii, powR_ii, ltR_ii, leR_ii, gtR_ii, geR_ii, keyD_s, keyD_i, dgetR, eqR_ii, eqR_ss, eqR_bb, eqR_tt, eqR_LL, neR_ii, neR_ss, neR_bb, neR_tt, neR_LL, eqM_ii, eqM_ss, eqM_bb, eqM_tt, eqM_LL, okD_i, okD_s, okD_b, okD_n, okD_t, okD_L, deck_at, deck_sum, deck_cells, deck_len, deck_put, dicOf_mup_same, lstOf_mup_same, int1R_b, int1R_i, ix_t0, ix_t1, ix_t2, ix_t3, ix_t4, lenR_t, lenR_s, lenR_L, slR_t, slR_s, slR_L, cutL_from1, cutL_from2, revR_t, revR_L, tup1R_L, tup1R_t, beq_self_eq_true, Bool.not_true, Bool.not_false, Option.isSome_some, List.isEmpty_nil, List.isEmpty_cons, isR_nn, isR_tn, isR_Ln, isR_sn, isR_in, isR_bn, isR_bb, isNotR_nn, isNotR_tn, isNotR_Ln, isNotR_sn, isNotR_in, isNotR_bn, isNotR_bb, isi_t_bool, isi_t_int, isi_t_str, isi_t_tuple, isi_t_list, isi_t_dict, isi_s_bool, isi_s_int, isi_s_str, isi_s_tuple, isi_s_list, isi_s_dict, isi_i_bool, isi_i_int, isi_i_str, isi_i_tuple, isi_i_list, isi_i_dict, isi_b_bool, isi_b_int, isi_b_str, isi_b_tuple, isi_b_list, isi_b_dict, isi_n_bool, isi_n_int, isi_n_str, isi_n_tuple, isi_n_list, isi_n_dict, isi_L_bool, isi_L_int, isi_L_str, isi_L_tuple, isi_L_list, isi_L_dict, isi_d_bool, isi_d_int, isi_d_str, isi_d_tuple, isi_d_list, isi_d_dict, natlit_eq, Int.reduceNeg]
        refine ⟨by decide, ⟨⟨hp1, by omega⟩, rfl, by decide⟩, ?_⟩
        rw [eqvDs_nil]
        refine ifs (fun hne => ?_) (fun _ => hN _ _ ⟨s', ns, _, _, _, rfl, by omega, by omega, hns, by omega, hL, hX, hD.mono (by omega)⟩)
        have hjs : js ≠ [] := by rintro rfl; simp at hne
        refine seq_go ?_
        try simp only [dNext, dBreak, dCont, dDrop, dRet, dRetN, dIfS, dAsg, dputS, dlputS, dOp, dVar, dC, dget_zero, dget_succ, dTest, isB, dNil, dCons, dgName, dTup, dCB, dFresh, dFrz, dFreshD, dFrzD, dDispD, dDisp, dBM, dBM0, dAndV, dOrV, dNotV, dAnd, dOr, dNot, dCall, dNeg, dIf, dFor, dSl, dPart, dNoPart, diRng1, diRng2, diAny, isI, dstart, List.set_cons_zero, List.set_cons_succ, List.map_cons, List.map_nil, List.length_cons, List.length_nil, List.cons_append, List.nil_append, Nat.reduceAdd, Nat.reduceSub, Int.reduceAdd, Int.reduceSub, List.replicate, isLst, dgTup, dgCons, dgNil, dListOf, dJoin, dIndex, dRev, diZip, dPar2, diEnum, dRetX, dDropX, dAsgX, dCallX, dConsX, dTupX, dFrzX, dRaise0, dRaise1, dTryAs, dTryOnly, dXf, asEnds, dLc, wipeD, dCat, dSlL, dPairs, dGet2, dGet1, isDic, ite_true, ite_false, if_true, if_false, reduceIte, Bool.false_eq_true, Bool.true_eq_false, and_true, true_and, rdL_lst, rdL_ref, rdS_lst, rdS_ref, rdS_tup, rdD_dic, rdD_ref, addR_ii, addR_ib, addR_ss, addR_tt, addR_LL, subR_ii, mulR_ii, mulA_ii, mulA_t, mulA_L, modR_ii, fdivR_ii, powR_ii, ltR_ii, leR_ii, gtR_ii, geR_ii, keyD_s, keyD_i, dgetR, eqR_ii, eqR_ss, eqR_bb, eqR_tt, eqR_LL, neR_ii, neR_ss, neR_bb, neR_tt, neR_LL, eqM_ii, eqM_ss, eqM_bb, eqM_tt, eqM_LL, okD_i, okD_s, okD_b, okD_n, okD_t, okD_L, deck_at, deck_sum, deck_cells, deck_len, deck_put, dicOf_mup_same, lstOf_mup_same, int1R_b, int1R_i, ix_t0, ix_t1, ix_t2, ix_t3, ix_t4, lenR_t, lenR_s, lenR_L, slR_t, slR_s, slR_L, cutL_from1, cutL_from2, revR_t, revR_L, tup1R_L, tup1R_t, beq_self_eq_true, Bool.not_true, Bool.not_false, Option.isSome_some, List.isEmpty_nil, List.isEmpty_cons, isR_nn, isR_tn, isR_Ln, isR_sn, isR_in, isR_bn, isR_bb, isNotR_nn, isNotR_tn, isNotR_Ln, isNotR_sn, isNotR_in, isNotR_bn, isNotR_bb, isi_t_bool, isi_t_int, isi_t_str, isi_t_tuple, isi_t_list, isi_t_dict, isi_s_bool, isi_s_int, isi_s_str, isi_s_tuple, isi_s_list, isi_s_dict, isi_i_bool, isi_i_int, isi_i_str, isi_i_tuple, isi_i_list, isi_i_dict, isi_b_bool, isi_b_int, isi_b_str, isi_b_tuple, isi_b_list, isi_b_dict, isi_n_bool, isi_n_int, isi_n_str, isi_n_tuple, isi_n_list, isi_n_dict, isi_L_bool, isi_L_int, isi_L_str, isi_L_tuple, isi_L_list, isi_L_dict, isi_d_bool, isi_d_int, isi_d_str, isi_d_tuple, isi_d_list, isi_d_dict, natlit_eq, Int.reduceNeg]
        rw [hL]
        refine ⟨rfl, ?_⟩
        refine pick_Lm hD hjs (by omega) fun j hj M2 D2 U2 => ?_
        obtain ⟨hj1, hj2⟩ := hall j hj
        have e2 : lstOf M2 p = some (ns.map D.int) := by rw [U2.lst hpd hpc]; exact hL
        refine append_go e2 (by rw [List.length_map]; exact small_ltline (by omega)) ?_
        rw [show ns.map D.int ++ [D.int (0 + (j : Int))] = (ns ++ [(j : Int)]).map D.int by simp]
        try simp only [dNext, dBreak, dCont, dDrop, dRet, dRetN, dIfS, dAsg, dputS, dlputS, dOp, dVar, dC, dget_zero, dget_succ, dTest, isB, dNil, dCons, dgName, dTup, dCB, dFresh, dFrz, dFreshD, dFrzD, dDispD, dDisp, dBM, dBM0, dAndV, dOrV, dNotV, dAnd, dOr, dNot, dCall, dNeg, dIf, dFor, dSl, dPart, dNoPart, diRng1, diRng2, diAny, isI, dstart, List.set_cons_zero, List.set_cons_succ, List.map_cons, List.map_nil, List.length_cons, List.length_nil, List.cons_append, List.nil_append, Nat.reduceAdd, Nat.reduceSub, Int.reduceAdd, Int.reduceSub, List.replicate, isLst, dgTup, dgCons, dgNil, dListOf, dJoin, dIndex, dRev, diZip, dPar2, diEnum, dRetX, dDropX, dAsgX, dCallX, dConsX, dTupX, dFrzX, dRaise0, dRaise1, dTryAs, dTryOnly, dXf, asEnds, dLc, wipeD, dCat, dSlL, dPairs, dGet2, dGet1, isDic, ite_true, ite_false, if_true, if_false, reduceIte, Bool.false_eq_true, Bool.true_eq_false, and_true, true_and, rdL_lst, rdL_ref, rdS_lst, rdS_ref, rdS_tup, rdD_dic, rdD_ref, addR_ii, addR_ib, addR_ss, addR_tt, addR_LL, subR_ii, mulR_ii, mulA_ii, mulA_t, mulA_L, modR_ii, fdivR_ii, powR_ii, ltR_ii, leR_ii, gtR_ii, geR_ii, keyD_s, keyD_i, dgetR, eqR_ii, eqR_ss, eqR_bb, eqR_tt, eqR_LL, neR_ii, neR_ss, neR_bb, neR_tt, neR_LL, eqM_ii, eqM_ss, eqM_bb, eqM_tt, eqM_LL, okD_i, okD_s, okD_b, okD_n, okD_t, okD_L, deck_at, deck_sum, deck_cells, deck_len, deck_put, dicOf_mup_same, lstOf_mup_same, int1R_b, int1R_i, ix_t0, ix_t1, ix_t2, ix_t3, ix_t4, lenR_t, lenR_s, lenR_L, slR_t, slR_s, slR_L, cutL_from1, cutL_from2, revR_t, revR_L, tup1R_L, tup1R_t, beq_self_eq_true, Bool.not_true, Bool.not_false, Option.isSome_some, List.isEmpty_nil, List.isEmpty_cons, isR_nn, isR_tn, isR_Ln, isR_sn, isR_in, isR_bn, isR_bb, isNotR_nn, isNotR_tn, isNotR_Ln, isNotR_sn, isNotR_in, isNotR_bn, isNotR_bb, isi_t_bool, isi_t_int, isi_t_str, isi_t_tuple, isi_t_list, isi_t_dict, isi_s_bool, isi_s_int, isi_s_str, isi_s_tuple, isi_s_list, isi_s_dict, isi_i_bool, isi_i_int, isi_i_str, isi_i_tuple, isi_i_list, isi_i_dict, isi_b_bool, isi_b_int, isi_b_str, isi_b_tuple, isi_b_list, isi_b_dict, isi_n_bool, isi_n_int, isi_n_str, isi_n_tuple, isi_n_list, isi_n_dict, isi_L_bool, isi_L_int, isi_L_str, isi_L_tuple, isi_L_list, isi_L_dict, isi_d_bool, isi_d_int, isi_d_str, isi_d_tuple, isi_d_list, isi_d_dict, natlit_eq, Int.reduceNeg]
        obtain ⟨t, ht⟩ := Option.isSome_iff_exists.mp hj2
        refine ix_last (d := .int (j : Int)) lstOf_mup_same (by simp) ?_
        refine lbehind_go (by omega) (by omega) (by omega) hw2 ?_
        rw [ht]
        exact hN _ _ ⟨t, ns ++ [(j : Int)], _, _, _, rfl, by omega, by simp; omega, fun n hn => by
          rcases List.mem_append.mp hn with hn | hn
          · exact hns n hn
          · rw [List.mem_singleton.mp hn]; exact ⟨by omega, by omega⟩, by have := behF_len2 hw ht; omega, lstOf_mup_same, (hX.trans U2.ext).put hp0, (D2.keep hpd hpc).mono (by omega)⟩
    · obtain ⟨s', ns, x5, x6, x7, rfl, hi2, hnl, hns, hsl, hL, hX, hD⟩ := hI
      simp only [dNext, dBreak, dCont, dDrop, dRet, dRetN, dIfS, dAsg, dputS, dlputS, dOp, dVar, dC, dget_zero, dget_succ, dTest, isB, dNil, dCons, dgName, dTup, dCB, dFresh, dFrz, dFreshD, dFrzD, dDispD, dDisp, dBM, dBM0, dAndV, dOrV, dNotV, dAnd, dOr, dNot, dCall, dNeg, dIf, dFor, dSl, dPart, dNoPart, diRng1, diRng2, diAny, isI, dstart, List.set_cons_zero, List.set_cons_succ, List.map_cons, List.map_nil, List.length_cons, List.length_nil, List.cons_append, List.nil_append, Nat.reduceAdd, Nat.reduceSub, Int.reduceAdd, Int.reduceSub, List.replicate, isLst, dgTup, dgCons, dgNil, dListOf, dJoin, dIndex, dRev, diZip, dPar2, diEnum, dRetX, dDropX, dAsgX, dCallX, dConsX, dTupX, dFrzX, dRaise0, dRaise1, dTryAs, dTryOnly, dXf, asEnds, dLc, wipeD, dCat, dSlL, dPairs, dGet2, dGet1, isDic, ite_true, ite_false, if_true, if_false, reduceIte, Bool.false_eq_true, Bool.true_eq_false, and_true, true_and, rdL_lst, rdL_ref, rdS_lst, rdS_ref, rdS_tup, rdD_dic, rdD_ref, addR_ii, addR_ib, addR_ss, addR_tt, addR_LL, subR_ii, mulR_ii, mulA_ii, mulA_t, mulA_L, modR_ii, fdivR_ii, powR_ii, ltR_ii, leR_ii, gtR_ii, geR_ii, keyD_s, keyD_i, dgetR, eqR_ii, eqR_ss, eqR_bb, eqR_tt, eqR_LL, neR_ii, neR_ss, neR_bb, neR_tt, neR_LL, eqM_ii, eqM_ss, eqM_bb, eqM_tt, eqM_LL, okD_i, okD_s, okD_b, okD_n, okD_t, okD_L, deck_at, deck_sum, deck_cells, deck_len, deck_put, dicOf_mup_same, lstOf_mup_same, int1R_b, int1R_i, ix_t0, ix_t1, ix_t2, ix_t3, ix_t4, lenR_t, lenR_s, lenR_L, slR_t, slR_s, slR_L, cutL_from1, cutL_from2, revR_t, revR_L, tup1R_L, tup1R_t, beq_self_eq_true, Bool.not_true, Bool.not_false, Option.isSome_some, List.isEmpty_nil, List.isEmpty_cons, isR_nn, isR_tn, isR_Ln, isR_sn, isR_in, isR_bn, isR_bb, isNotR_nn, isNotR_tn, isNotR_Ln, isNotR_sn, isNotR_in, isNotR_bn, isNotR_bb, isi_t_bool, isi_t_int, isi_t_str, isi_t_tuple, isi_t_list, isi_t_dict, isi_s_bool, isi_s_int, isi_s_str, isi_s_tuple, isi_s_list, isi_s_dict, isi_i_bool, isi_i_int, isi_i_str, isi_i_tuple, isi_i_list, isi_i_dict, isi_b_bool, isi_b_int, isi_b_str, isi_b_tuple, isi_b_list, isi_b_dict, isi_n_bool, isi_n_int, isi_n_str, isi_n_tuple, isi_n_list, isi_n_dict, isi_L_bool, isi_L_int, isi_L_str, isi_L_tuple, isi_L_list, isi_L_dict, isi_d_bool, isi_d_int, isi_d_str, isi_d_tuple, isi_d_list, isi_d_dict, natlit_eq, Int.reduceNeg, tup1R, hL]
      exact Shr.deck hX (hD.mono (by omega)) fun M2 U D2 => k ns M2 hnl hns D2 U
def sp__law_due : DSp := fun ds M R => ∃ (rs : List Rl) (s : St2) (ns : List Int), ds = [progD rs, stD s, .tup (ns.map D.int)] ∧ rs.length ≤ 100000 ∧ ns.length ≤ 100000 ∧ s.2.length ≤ 100000 ∧ (∀ r ∈ rs, r.w.length ≤ 2) ∧ R (dueD (goF rs s ns 0)) M
theorem due_go {M : Mm} {R : DQ} {rs : List Rl} {s : St2} {ns : List Int} (h1 : rs.length ≤ 100000) (h2 : ns.length ≤ 100000) (h3 : s.2.length ≤ 100000) (h4 : ∀ r ∈ rs, r.w.length ≤ 2) (h : R (dueD (goF rs s ns 0)) M) : sp__law_due [progD rs, stD s, .tup (ns.map D.int)] M R := ⟨rs, s, ns, rfl, h1, h2, h3, h4, h⟩
theorem ok__law_due {f__law_due f__law_behind : Addr} {fd__law_due fd__law_behind : FuncData} (F__law_due : Fun K "_law_due" "_law_due" st__law_due f__law_due fd__law_due) (G__law_behind : FnOk P w K mg base CX0 1 f__law_behind fd__law_behind ["_law_program_here", "_law_stand", "_law_number"] (toSp K sp__law_behind)) (g__law_behind : mg "_law_behind" = some (.ref f__law_behind)) (k__law_behind : PySem.W.keepIn K (.ref f__law_behind) = true) (b__law_behind : Binds K fd__law_behind ["_law_program_here", "_law_stand", "_law_number"] []) (z_range : mg "range" = none) (z_len : mg "len" = none) : FnOk P w K mg base CX0 2 f__law_due fd__law_due ["_law_program_here", "_law_stand", "_law_run"] (toSp K sp__law_due) := by
  refine fn_ok (k := 1) F__law_due sc__law_due (fun ds M R h => ?_) (fun cdv A outer s H E hr => ⟨_, (jb_cons (js_for PassesOwn.never rfl (ji_rng1 (by rfl) z_range (je_len z_len (ja_cons (jv 2) ja_nil))) (jg_name (i := 3) sc__law_due.nd) (jb_cons (js_if (JW.jt (jw_or (jt_not (jt_chain op_le op_lt l_le l_lt je_int (je_ix (jv 2) (jv 3)) (je_len z_len (ja_cons (jv 0) ja_nil)))) (jw_or1 (jt_is (je_call G__law_behind (hr.mono (by decide)) (by rfl) g__law_behind k__law_behind b__law_behind (ja_cons (jv 0) (ja_cons (jv 1) (ja_cons (je_ix (jv 2) (jv 3)) ja_nil)))) je_non)))) (jb_one (js_ret (jv 3))) jb_nil) (jb_one (js_set (i := 1) sc__law_due.nd (je_call G__law_behind (hr.mono (by decide)) (by rfl) g__law_behind k__law_behind b__law_behind (ja_cons (jv 0) (ja_cons (jv 1) (ja_cons (je_ix (jv 2) (jv 3)) ja_nil))))))))
      (jb_one (js_ret (jv 1)))), fun ds M R h => ?_⟩)
  · unfold sp__law_due at h
    first | (obtain ⟨rfl, _⟩ := h; rfl) | (obtain ⟨_, rfl, _⟩ := h; rfl) | (obtain ⟨_, _, rfl, _⟩ := h; rfl) | (obtain ⟨_, _, _, rfl, _⟩ := h; rfl) | (obtain ⟨_, _, _, _, rfl, _⟩ := h; rfl) | (obtain ⟨_, _, _, _, _, rfl, _⟩ := h; rfl) | (obtain ⟨_, _, _, _, _, _, rfl, _⟩ := h; rfl) | (obtain ⟨_, _, _, _, _, _, _, rfl, _⟩ := h; rfl) | (obtain ⟨_, _, _, _, _, _, _, _, rfl, _⟩ := h; rfl) | (split at h <;> first | rfl | exact h.elim)
  · unfold sp__law_due at h
    obtain ⟨rs, s, ns, rfl, hl, hn, hs, hw, k⟩ := h
    have hlen : ∀ {Q : DQ} {M : Mm}, Q (.int rs.length) M → lenR [progD rs] M Q := fun {Q M} h => by
      show lenR [.tup (rs.map ruleD)] M Q
      rw [lenR_t, List.length_map]; exact h
    simp only [dNext, dBreak, dCont, dDrop, dRet, dRetN, dIfS, dAsg, dputS, dlputS, dOp, dVar, dC, dget_zero, dget_succ, dTest, isB, dNil, dCons, dgName, dTup, dCB, dFresh, dFrz, dFreshD, dFrzD, dDispD, dDisp, dBM, dBM0, dAndV, dOrV, dNotV, dAnd, dOr, dNot, dCall, dNeg, dIf, dFor, dSl, dPart, dNoPart, diRng1, diRng2, diAny, isI, dstart, List.set_cons_zero, List.set_cons_succ, List.map_cons, List.map_nil, List.length_cons, List.length_nil, List.cons_append, List.nil_append, Nat.reduceAdd, Nat.reduceSub, Int.reduceAdd, Int.reduceSub, List.replicate, isLst, dgTup, dgCons, dgNil, dListOf, dJoin, dIndex, dRev, diZip, dPar2, diEnum, dRetX, dDropX, dAsgX, dCallX, dConsX, dTupX, dFrzX, dRaise0, dRaise1, dTryAs, dTryOnly, dXf, asEnds, dLc, wipeD, dCat, dSlL, dPairs, dGet2, dGet1, isDic, ite_true, ite_false, if_true, if_false, reduceIte, Bool.false_eq_true, Bool.true_eq_false, and_true, true_and, rdL_lst, rdL_ref, rdS_lst, rdS_ref, rdS_tup, rdD_dic, rdD_ref, addR_ii, addR_ib, addR_ss, addR_tt, addR_LL, subR_ii, mulR_ii, mulA_ii, mulA_t, mulA_L, modR_ii, fdivR_ii, powR_ii, ltR_ii, leR_ii, gtR_ii, geR_ii, keyD_s, keyD_i, dgetR, eqR_ii, eqR_ss, eqR_bb, eqR_tt, eqR_LL, neR_ii, neR_ss, neR_bb, neR_tt, neR_LL, eqM_ii, eqM_ss, eqM_bb, eqM_tt, eqM_LL, okD_i, okD_s, okD_b, okD_n, okD_t, okD_L, deck_at, deck_sum, deck_cells, deck_len, deck_put, dicOf_mup_same, lstOf_mup_same, int1R_b, int1R_i, ix_t0, ix_t1, ix_t2, ix_t3, ix_t4, lenR_t, lenR_s, lenR_L, slR_t, slR_s, slR_L, cutL_from1, cutL_from2, revR_t, revR_L, tup1R_L, tup1R_t, beq_self_eq_true, Bool.not_true, Bool.not_false, Option.isSome_some, List.isEmpty_nil, List.isEmpty_cons, isR_nn, isR_tn, isR_Ln, isR_sn, isR_in, isR_bn, isR_bb, isNotR_nn, isNotR_tn, isNotR_Ln, isNotR_sn, isNotR_in, isNotR_bn, isNotR_bb, isi_t_bool, isi_t_int, isi_t_str, isi_t_tuple, isi_t_list, isi_t_dict, isi_s_bool, isi_s_int, isi_s_str, isi_s_tuple, isi_s_list, isi_s_dict, isi_i_bool, isi_i_int, isi_i_str, isi_i_tuple, isi_i_list, isi_i_dict, isi_b_bool, isi_b_int, isi_b_str, isi_b_tuple, isi_b_list, isi_b_dict, isi_n_bool, isi_n_int, isi_n_str, isi_n_tuple, isi_n_list, isi_n_dict, isi_L_bool, isi_L_int, isi_L_str, isi_L_tuple, isi_L_list, isi_L_dict, isi_d_bool, isi_d_int, isi_d_str, isi_d_tuple, isi_d_list, isi_d_dict, natlit_eq, Int.reduceNeg, N__law_due]
    refine seq_cut (fun ds M' => M' = M ∧ ∃ s' x3, ds = [some (progD rs), some (stD s'), some (.tup (ns.map D.int)), x3] ∧ goF rs s ns 0 = .inl s') (fun N hN => ?_) fun ds M' hJ => ?_
    · try simp only [dNext, dBreak, dCont, dDrop, dRet, dRetN, dIfS, dAsg, dputS, dlputS, dOp, dVar, dC, dget_zero, dget_succ, dTest, isB, dNil, dCons, dgName, dTup, dCB, dFresh, dFrz, dFreshD, dFrzD, dDispD, dDisp, dBM, dBM0, dAndV, dOrV, dNotV, dAnd, dOr, dNot, dCall, dNeg, dIf, dFor, dSl, dPart, dNoPart, diRng1, diRng2, diAny, isI, dstart, List.set_cons_zero, List.set_cons_succ, List.map_cons, List.map_nil, List.length_cons, List.length_nil, List.cons_append, List.nil_append, Nat.reduceAdd, Nat.reduceSub, Int.reduceAdd, Int.reduceSub, List.replicate, isLst, dgTup, dgCons, dgNil, dListOf, dJoin, dIndex, dRev, diZip, dPar2, diEnum, dRetX, dDropX, dAsgX, dCallX, dConsX, dTupX, dFrzX, dRaise0, dRaise1, dTryAs, dTryOnly, dXf, asEnds, dLc, wipeD, dCat, dSlL, dPairs, dGet2, dGet1, isDic, ite_true, ite_false, if_true, if_false, reduceIte, Bool.false_eq_true, Bool.true_eq_false, and_true, true_and, rdL_lst, rdL_ref, rdS_lst, rdS_ref, rdS_tup, rdD_dic, rdD_ref, addR_ii, addR_ib, addR_ss, addR_tt, addR_LL, subR_ii, mulR_ii, mulA_ii, mulA_t, mulA_L, modR_ii, fdivR_ii, powR_ii, ltR_ii, leR_ii, gtR_ii, geR_ii, keyD_s, keyD_i, dgetR, eqR_ii, eqR_ss, eqR_bb, eqR_tt, eqR_LL, neR_ii, neR_ss, neR_bb, neR_tt, neR_LL, eqM_ii, eqM_ss, eqM_bb, eqM_tt, eqM_LL, okD_i, okD_s, okD_b, okD_n, okD_t, okD_L, deck_at, deck_sum, deck_cells, deck_len, deck_put, dicOf_mup_same, lstOf_mup_same, int1R_b, int1R_i, ix_t0, ix_t1, ix_t2, ix_t3, ix_t4, lenR_t, lenR_s, lenR_L, slR_t, slR_s, slR_L, cutL_from1, cutL_from2, revR_t, revR_L, tup1R_L, tup1R_t, beq_self_eq_true, Bool.not_true, Bool.not_false, Option.isSome_some, List.isEmpty_nil, List.isEmpty_cons, isR_nn, isR_tn, isR_Ln, isR_sn, isR_in, isR_bn, isR_bb, isNotR_nn, isNotR_tn, isNotR_Ln, isNotR_sn, isNotR_in, isNotR_bn, isNotR_bb, isi_t_bool, isi_t_int, isi_t_str, isi_t_tuple, isi_t_list, isi_t_dict, isi_s_bool, isi_s_int, isi_s_str, isi_s_tuple, isi_s_list, isi_s_dict, isi_i_bool, isi_i_int, isi_i_str, isi_i_tuple, isi_i_list, isi_i_dict, isi_b_bool, isi_b_int, isi_b_str, isi_b_tuple, isi_b_list, isi_b_dict, isi_n_bool, isi_n_int, isi_n_str, isi_n_tuple, isi_n_list, isi_n_dict, isi_L_bool, isi_L_int, isi_L_str, isi_L_tuple, isi_L_list, isi_L_dict, isi_d_bool, isi_d_int, isi_d_str, isi_d_tuple, isi_d_list, isi_d_dict, natlit_eq, Int.reduceNeg]
      rw [List.length_map]
      refine ⟨inLine_nat (by omega), ?_⟩
      rw [Int.toNat_natCast]
      refine forW_rng (fun i ds M' => M' = M ∧ ∃ s' x3, ds = [some (progD rs), some (stD s'), some (.tup (ns.map D.int)), x3] ∧ goF rs s ns 0 = goF rs s' (ns.drop i) i ∧ i ≤ ns.length ∧ s'.2.length ≤ 100000 + 2 * i) (fun i N' hlt hN' ds M' hI => ?_) (fun ds M' hI => ?_) _ _ ⟨rfl, s, none, rfl, rfl, Nat.zero_le _, by omega⟩
      · obtain ⟨rfl, s', x3, rfl, hg, hi, hsl⟩ := hI
        obtain ⟨n, hnn⟩ : ∃ n, ns[i]? = some n := ⟨_, List.getElem?_eq_getElem hlt⟩
        have hdrop : ns.drop i = n :: ns.drop (i + 1) := by
          rw [List.drop_eq_getElem_cons hlt]
          rw [List.getElem?_eq_getElem hlt] at hnn
          cases hnn; rfl
        rw [hdrop] at hg
        have hix : (ns.map D.int)[(0 + (i : Int)).toNat]? = some (.int n) := by rw [show (0 + (i : Int)).toNat = i by omega, List.getElem?_map, hnn]; rfl
        rw [show goF rs s' (n :: ns.drop (i + 1)) i = (match behF rs s' n with | some t => goF rs t (ns.drop (i + 1)) (i + 1) | none => .inr i) from rfl] at hg
        refine seq_go ?_
        simp only [dNext, dBreak, dCont, dDrop, dRet, dRetN, dIfS, dAsg, dputS, dlputS, dOp, dVar, dC, dget_zero, dget_succ, dTest, isB, dNil, dCons, dgName, dTup, dCB, dFresh, dFrz, dFreshD, dFrzD, dDispD, dDisp, dBM, dBM0, dAndV, dOrV, dNotV, dAnd, dOr, dNot, dCall, dNeg, dIf, dFor, dSl, dPart, dNoPart, diRng1, diRng2, diAny, isI, dstart, List.set_cons_zero, List.set_cons_succ, List.map_cons, List.map_nil, List.length_cons, List.length_nil, List.cons_append, List.nil_append, Nat.reduceAdd, Nat.reduceSub, Int.reduceAdd, Int.reduceSub, List.replicate, isLst, dgTup, dgCons, dgNil, dListOf, dJoin, dIndex, dRev, diZip, dPar2, diEnum, dRetX, dDropX, dAsgX, dCallX, dConsX, dTupX, dFrzX, dRaise0, dRaise1, dTryAs, dTryOnly, dXf, asEnds, dLc, wipeD, dCat, dSlL, dPairs, dGet2, dGet1, isDic, ite_true, ite_false, if_true, if_false, reduceIte, Bool.false_eq_true, Bool.true_eq_false, and_true, true_and, rdL_lst, rdL_ref, rdS_lst, rdS_ref, rdS_tup, rdD_dic, rdD_ref, addR_ii, addR_ib, addR_ss, addR_tt, addR_LL, subR_ii, mulR_ii, mulA_ii, mulA_t, mulA_L, modR_ii, fdivR_ii, powR_ii, ltR_ii, leR_ii, gtR_ii, geR_ii, keyD_s, keyD_i, dgetR, eqR_ii, eqR_ss, eqR_bb, eqR_tt, eqR_LL, neR_ii, neR_ss, neR_bb, neR_tt, neR_LL, eqM_ii, eqM_ss, eqM_bb, eqM_tt, eqM_LL, okD_i, okD_s, okD_b, okD_n, okD_t, okD_L, deck_at, deck_sum, deck_cells, deck_len, deck_put, dicOf_mup_same, lstOf_mup_same, int1R_b, int1R_i, ix_t0, ix_t1, ix_t2, ix_t3, ix_t4, lenR_t, lenR_s, lenR_L, slR_t, slR_s, slR_L, cutL_from1, cutL_from2, revR_t, revR_L, tup1R_L, tup1R_t, beq_self_eq_true, Bool.not_true, Bool.not_false, Option.isSome_some, List.isEmpty_nil, List.isEmpty_cons, isR_nn, isR_tn, isR_Ln, isR_sn, isR_in, isR_bn, isR_bb, isNotR_nn, isNotR_tn, isNotR_Ln, isNotR_sn, isNotR_in, isNotR_bn, isNotR_bb, isi_t_bool, isi_t_int, isi_t_str, isi_t_tuple, isi_t_list, isi_t_dict, isi_s_bool, isi_s_int, isi_s_str, isi_s_tuple, isi_s_list, isi_s_dict, isi_i_bool, isi_i_int, isi_i_str, isi_i_tuple, isi_i_list, isi_i_dict, isi_b_bool, isi_b_int, isi_b_str, isi_b_tuple, isi_b_list, isi_b_dict, isi_n_bool, isi_n_int, isi_n_str, isi_n_tuple, isi_n_list, isi_n_dict, isi_L_bool, isi_L_int, isi_L_str, isi_L_tuple, isi_L_list, isi_L_dict, isi_d_bool, isi_d_int, isi_d_str, isi_d_tuple, isi_d_list, isi_d_dict, natlit_eq, Int.reduceNeg, dChain]
        have hbad : behF rs s' n = none → Shr R (.int (0 + (i : Int))) M' := fun e => by
          rw [e] at hg
          simp only at hg
          rw [hg] at k
          rw [show (0 + (i : Int)) = (i : Int) by omega]
          exact Shr.all k
        refine ix_t (by omega) hix ?_
        refine ifs (fun h0 => ?_) (fun h0 => ?_)
        · have h0 : 0 ≤ n := by simpa using h0
          refine hlen ?_
          simp only [dNext, dBreak, dCont, dDrop, dRet, dRetN, dIfS, dAsg, dputS, dlputS, dOp, dVar, dC, dget_zero, dget_succ, dTest, isB, dNil, dCons, dgName, dTup, dCB, dFresh, dFrz, dFreshD, dFrzD, dDispD, dDisp, dBM, dBM0, dAndV, dOrV, dNotV, dAnd, dOr, dNot, dCall, dNeg, dIf, dFor, dSl, dPart, dNoPart, diRng1, diRng2, diAny, isI, dstart, List.set_cons_zero, List.set_cons_succ, List.map_cons, List.map_nil, List.length_cons, List.length_nil, List.cons_append, List.nil_append, Nat.reduceAdd, Nat.reduceSub, Int.reduceAdd, Int.reduceSub, List.replicate, isLst, dgTup, dgCons, dgNil, dListOf, dJoin, dIndex, dRev, diZip, dPar2, diEnum, dRetX, dDropX, dAsgX, dCallX, dConsX, dTupX, dFrzX, dRaise0, dRaise1, dTryAs, dTryOnly, dXf, asEnds, dLc, wipeD, dCat, dSlL, dPairs, dGet2, dGet1, isDic, ite_true, ite_false, if_true, if_false, reduceIte, Bool.false_eq_true, Bool.true_eq_false, and_true, true_and, rdL_lst, rdL_ref, rdS_lst, rdS_ref, rdS_tup, rdD_dic, rdD_ref, addR_ii, addR_ib, addR_ss, addR_tt, addR_LL, subR_ii, mulR_ii, mulA_ii, mulA_t, mulA_L, modR_ii, fdivR_ii, powR_ii, ltR_ii, leR_ii, gtR_ii, geR_ii, keyD_s, keyD_i, dgetR, eqR_ii, eqR_ss, eqR_bb, eqR_tt, eqR_LL, neR_ii, neR_ss, neR_bb, neR_tt, neR_LL, eqM_ii, eqM_ss, eqM_bb, eqM_tt, eqM_LL, okD_i, okD_s, okD_b, okD_n, okD_t, okD_L, deck_at, deck_sum, deck_cells, deck_len, deck_put, dicOf_mup_same, lstOf_mup_same, int1R_b, int1R_i, ix_t0, ix_t1, ix_t2, ix_t3, ix_t4, lenR_t, lenR_s, lenR_L, slR_t, slR_s, slR_L, cutL_from1, cutL_from2, revR_t, revR_L, tup1R_L, tup1R_t, beq_self_eq_true, Bool.not_true, Bool.not_false, Option.isSome_some, List.isEmpty_nil, List.isEmpty_cons, isR_nn, isR_tn, isR_Ln, isR_sn, isR_in, isR_bn, isR_bb, isNotR_nn, isNotR_tn, isNotR_Ln, isNotR_sn, isNotR_in, isNotR_bn, isNotR_bb, isi_t_bool, isi_t_int, isi_t_str, isi_t_tuple, isi_t_list, isi_t_dict, isi_s_bool, isi_s_int, isi_s_str, isi_s_tuple, isi_s_list, isi_s_dict, isi_i_bool, isi_i_int, isi_i_str, isi_i_tuple, isi_i_list, isi_i_dict, isi_b_bool, isi_b_int, isi_b_str, isi_b_tuple, isi_b_list, isi_b_dict, isi_n_bool, isi_n_int, isi_n_str, isi_n_tuple, isi_n_list, isi_n_dict, isi_L_bool, isi_L_int, isi_L_str, isi_L_tuple, isi_L_list, isi_L_dict, isi_d_bool, isi_d_int, isi_d_str, isi_d_tuple, isi_d_list, isi_d_dict, natlit_eq, Int.reduceNeg]
          refine ifs (fun h1 => ?_) (fun h1 => ?_)
          · have h1 : (rs.length : Int) ≤ n := by simpa using h1
            exact hbad (by unfold behF; rw [if_pos h0, List.getElem?_eq_none (by omega)])
          · have h1 : n < (rs.length : Int) := by simpa using h1
            refine ix_t (by omega) hix ?_
            refine lbehind_go h0 h1 (by omega) (fun r hr => by have := hw r hr; omega) ?_
            cases hb : behF rs s' n with
            | none =>
              simp only [optD, dNext, dBreak, dCont, dDrop, dRet, dRetN, dIfS, dAsg, dputS, dlputS, dOp, dVar, dC, dget_zero, dget_succ, dTest, isB, dNil, dCons, dgName, dTup, dCB, dFresh, dFrz, dFreshD, dFrzD, dDispD, dDisp, dBM, dBM0, dAndV, dOrV, dNotV, dAnd, dOr, dNot, dCall, dNeg, dIf, dFor, dSl, dPart, dNoPart, diRng1, diRng2, diAny, isI, dstart, List.set_cons_zero, List.set_cons_succ, List.map_cons, List.map_nil, List.length_cons, List.length_nil, List.cons_append, List.nil_append, Nat.reduceAdd, Nat.reduceSub, Int.reduceAdd, Int.reduceSub, List.replicate, isLst, dgTup, dgCons, dgNil, dListOf, dJoin, dIndex, dRev, diZip, dPar2, diEnum, dRetX, dDropX, dAsgX, dCallX, dConsX, dTupX, dFrzX, dRaise0, dRaise1, dTryAs, dTryOnly, dXf, asEnds, dLc, wipeD, dCat, dSlL, dPairs, dGet2, dGet1, isDic, ite_true, ite_false, if_true, if_false, reduceIte, Bool.false_eq_true, Bool.true_eq_false, and_true, true_and, rdL_lst, rdL_ref, rdS_lst, rdS_ref, rdS_tup, rdD_dic, rdD_ref, addR_ii, addR_ib, addR_ss, addR_tt, addR_LL, subR_ii, mulR_ii, mulA_ii, mulA_t, mulA_L, modR_ii, fdivR_ii, powR_ii, ltR_ii, leR_ii, gtR_ii, geR_ii, keyD_s, keyD_i, dgetR, eqR_ii, eqR_ss, eqR_bb, eqR_tt, eqR_LL, neR_ii, neR_ss, neR_bb, neR_tt, neR_LL, eqM_ii, eqM_ss, eqM_bb, eqM_tt, eqM_LL, okD_i, okD_s, okD_b, okD_n, okD_t, okD_L, deck_at, deck_sum, deck_cells, deck_len, deck_put, dicOf_mup_same, lstOf_mup_same, int1R_b, int1R_i, ix_t0, ix_t1, ix_t2, ix_t3, ix_t4, lenR_t, lenR_s, lenR_L, slR_t, slR_s, slR_L, cutL_from1, cutL_from2, revR_t, revR_L, tup1R_L, tup1R_t, beq_self_eq_true, Bool.not_true, Bool.not_false, Option.isSome_some, List.isEmpty_nil, List.isEmpty_cons, isR_nn, isR_tn, isR_Ln, isR_sn, isR_in, isR_bn, isR_bb, isNotR_nn, isNotR_tn, isNotR_Ln, isNotR_sn, isNotR_in, isNotR_bn, isNotR_bb, isi_t_bool, isi_t_int, isi_t_str, isi_t_tuple, isi_t_list, isi_t_dict, isi_s_bool, isi_s_int, isi_s_str, isi_s_tuple, isi_s_list, isi_s_dict, isi_i_bool, isi_i_int, isi_i_str, isi_i_tuple, isi_i_list, isi_i_dict, isi_b_bool, isi_b_int, isi_b_str, isi_b_tuple, isi_b_list, isi_b_dict, isi_n_bool, isi_n_int, isi_n_str, isi_n_tuple, isi_n_list, isi_n_dict, isi_L_bool, isi_L_int, isi_L_str, isi_L_tuple, isi_L_list, isi_L_dict, isi_d_bool, isi_d_int, isi_d_str, isi_d_tuple, isi_d_list, isi_d_dict, natlit_eq, Int.reduceNeg]
              exact hbad hb
            | some t =>
              simp only [optD, stD, dNext, dBreak, dCont, dDrop, dRet, dRetN, dIfS, dAsg, dputS, dlputS, dOp, dVar, dC, dget_zero, dget_succ, dTest, isB, dNil, dCons, dgName, dTup, dCB, dFresh, dFrz, dFreshD, dFrzD, dDispD, dDisp, dBM, dBM0, dAndV, dOrV, dNotV, dAnd, dOr, dNot, dCall, dNeg, dIf, dFor, dSl, dPart, dNoPart, diRng1, diRng2, diAny, isI, dstart, List.set_cons_zero, List.set_cons_succ, List.map_cons, List.map_nil, List.length_cons, List.length_nil, List.cons_append, List.nil_append, Nat.reduceAdd, Nat.reduceSub, Int.reduceAdd, Int.reduceSub, List.replicate, isLst, dgTup, dgCons, dgNil, dListOf, dJoin, dIndex, dRev, diZip, dPar2, diEnum, dRetX, dDropX, dAsgX, dCallX, dConsX, dTupX, dFrzX, dRaise0, dRaise1, dTryAs, dTryOnly, dXf, asEnds, dLc, wipeD, dCat, dSlL, dPairs, dGet2, dGet1, isDic, ite_true, ite_false, if_true, if_false, reduceIte, Bool.false_eq_true, Bool.true_eq_false, and_true, true_and, rdL_lst, rdL_ref, rdS_lst, rdS_ref, rdS_tup, rdD_dic, rdD_ref, addR_ii, addR_ib, addR_ss, addR_tt, addR_LL, subR_ii, mulR_ii, mulA_ii, mulA_t, mulA_L, modR_ii, fdivR_ii, powR_ii, ltR_ii, leR_ii, gtR_ii, geR_ii, keyD_s, keyD_i, dgetR, eqR_ii, eqR_ss, eqR_bb, eqR_tt, eqR_LL, neR_ii, neR_ss, neR_bb, neR_tt, neR_LL, eqM_ii, eqM_ss, eqM_bb, eqM_tt, eqM_LL, okD_i, okD_s, okD_b, okD_n, okD_t, okD_L, deck_at, deck_sum, deck_cells, deck_len, deck_put, dicOf_mup_same, lstOf_mup_same, int1R_b, int1R_i, ix_t0, ix_t1, ix_t2, ix_t3, ix_t4, lenR_t, lenR_s, lenR_L, slR_t, slR_s, slR_L, cutL_from1, cutL_from2, revR_t, revR_L, tup1R_L, tup1R_t, beq_self_eq_true, Bool.not_true, Bool.not_false, Option.isSome_some, List.isEmpty_nil, List.isEmpty_cons, isR_nn, isR_tn, isR_Ln, isR_sn, isR_in, isR_bn, isR_bb, isNotR_nn, isNotR_tn, isNotR_Ln, isNotR_sn, isNotR_in, isNotR_bn, isNotR_bb, isi_t_bool, isi_t_int, isi_t_str, isi_t_tuple, isi_t_list, isi_t_dict, isi_s_bool, isi_s_int, isi_s_str, isi_s_tuple, isi_s_list, isi_s_dict, isi_i_bool, isi_i_int, isi_i_str, isi_i_tuple, isi_i_list, isi_i_dict, isi_b_bool, isi_b_int, isi_b_str, isi_b_tuple, isi_b_list, isi_b_dict, isi_n_bool, isi_n_int, isi_n_str, isi_n_tuple, isi_n_list, isi_n_dict, isi_L_bool, isi_L_int, isi_L_str, isi_L_tuple, isi_L_list, isi_L_dict, isi_d_bool, isi_d_int, isi_d_str, isi_d_tuple, isi_d_list, isi_d_dict, natlit_eq, Int.reduceNeg]
              rw [hb] at hg
              try simp only [dNext, dBreak, dCont, dDrop, dRet, dRetN, dIfS, dAsg, dputS, dlputS, dOp, dVar, dC, dget_zero, dget_succ, dTest, isB, dNil, dCons, dgName, dTup, dCB, dFresh, dFrz, dFreshD, dFrzD, dDispD, dDisp, dBM, dBM0, dAndV, dOrV, dNotV, dAnd, dOr, dNot, dCall, dNeg, dIf, dFor, dSl, dPart, dNoPart, diRng1, diRng2, diAny, isI, dstart, List.set_cons_zero, List.set_cons_succ, List.map_cons, List.map_nil, List.length_cons, List.length_nil, List.cons_append, List.nil_append, Nat.reduceAdd, Nat.reduceSub, Int.reduceAdd, Int.reduceSub, List.replicate, isLst, dgTup, dgCons, dgNil, dListOf, dJoin, dIndex, dRev, diZip, dPar2, diEnum, dRetX, dDropX, dAsgX, dCallX, dConsX, dTupX, dFrzX, dRaise0, dRaise1, dTryAs, dTryOnly, dXf, asEnds, dLc, wipeD, dCat, dSlL, dPairs, dGet2, dGet1, isDic, ite_true, ite_false, if_true, if_false, reduceIte, Bool.false_eq_true, Bool.true_eq_false, and_true, true_and, rdL_lst, rdL_ref, rdS_lst, rdS_ref, rdS_tup, rdD_dic, rdD_ref, addR_ii, addR_ib, addR_ss, addR_tt, addR_LL, subR_ii, mulR_ii, mulA_ii, mulA_t, mulA_L, modR_ii, fdivR_ii, powR_ii, ltR_ii, leR_ii, gtR_ii, geR_ii, keyD_s, keyD_i, dgetR, eqR_ii, eqR_ss, eqR_bb, eqR_tt, eqR_LL, neR_ii, neR_ss, neR_bb, neR_tt, neR_LL, eqM_ii, eqM_ss, eqM_bb, eqM_tt, eqM_LL, okD_i, okD_s, okD_b, okD_n, okD_t, okD_L, deck_at, deck_sum, deck_cells, deck_len, deck_put, dicOf_mup_same, lstOf_mup_same, int1R_b, int1R_i, ix_t0, ix_t1, ix_t2, ix_t3, ix_t4, lenR_t, lenR_s, lenR_L, slR_t, slR_s, slR_L, cutL_from1, cutL_from2, revR_t, revR_L, tup1R_L, tup1R_t, beq_self_eq_true, Bool.not_true, Bool.not_false, Option.isSome_some, List.isEmpty_nil, List.isEmpty_cons, isR_nn, isR_tn, isR_Ln, isR_sn, isR_in, isR_bn, isR_bb, isNotR_nn, isNotR_tn, isNotR_Ln, isNotR_sn, isNotR_in, isNotR_bn, isNotR_bb, isi_t_bool, isi_t_int, isi_t_str, isi_t_tuple, isi_t_list, isi_t_dict, isi_s_bool, isi_s_int, isi_s_str, isi_s_tuple, isi_s_list, isi_s_dict, isi_i_bool, isi_i_int, isi_i_str, isi_i_tuple, isi_i_list, isi_i_dict, isi_b_bool, isi_b_int, isi_b_str, isi_b_tuple, isi_b_list, isi_b_dict, isi_n_bool, isi_n_int, isi_n_str, isi_n_tuple, isi_n_list, isi_n_dict, isi_L_bool, isi_L_int, isi_L_str, isi_L_tuple, isi_L_list, isi_L_dict, isi_d_bool, isi_d_int, isi_d_str, isi_d_tuple, isi_d_list, isi_d_dict, natlit_eq, Int.reduceNeg]
              refine ix_t (by omega) hix ?_
              refine lbehind_go (s := s') h0 h1 (by omega) (fun r hr => by have := hw r hr; omega) ?_
              rw [hb]
              exact hN' _ _ ⟨rfl, t, _, rfl, hg, hlt, by have := behF_len2 hw hb; omega⟩
        · try simp only [dNext, dBreak, dCont, dDrop, dRet, dRetN, dIfS, dAsg, dputS, dlputS, dOp, dVar, dC, dget_zero, dget_succ, dTest, isB, dNil, dCons, dgName, dTup, dCB, dFresh, dFrz, dFreshD, dFrzD, dDispD, dDisp, dBM, dBM0, dAndV, dOrV, dNotV, dAnd, dOr, dNot, dCall, dNeg, dIf, dFor, dSl, dPart, dNoPart, diRng1, diRng2, diAny, isI, dstart, List.set_cons_zero, List.set_cons_succ, List.map_cons, List.map_nil, List.length_cons, List.length_nil, List.cons_append, List.nil_append, Nat.reduceAdd, Nat.reduceSub, Int.reduceAdd, Int.reduceSub, List.replicate, isLst, dgTup, dgCons, dgNil, dListOf, dJoin, dIndex, dRev, diZip, dPar2, diEnum, dRetX, dDropX, dAsgX, dCallX, dConsX, dTupX, dFrzX, dRaise0, dRaise1, dTryAs, dTryOnly, dXf, asEnds, dLc, wipeD, dCat, dSlL, dPairs, dGet2, dGet1, isDic, ite_true, ite_false, if_true, if_false, reduceIte, Bool.false_eq_true, Bool.true_eq_false, and_true, true_and, rdL_lst, rdL_ref, rdS_lst, rdS_ref, rdS_tup, rdD_dic, rdD_ref, addR_ii, addR_ib, addR_ss, addR_tt, addR_LL, subR_ii, mulR_ii, mulA_ii, mulA_t, mulA_L, modR_ii, fdivR_ii, powR_ii, ltR_ii, leR_ii, gtR_ii, geR_ii, keyD_s, keyD_i, dgetR, eqR_ii, eqR_ss, eqR_bb, eqR_tt, eqR_LL, neR_ii, neR_ss, neR_bb, neR_tt, neR_LL, eqM_ii, eqM_ss, eqM_bb, eqM_tt, eqM_LL, okD_i, okD_s, okD_b, okD_n, okD_t, okD_L, deck_at, deck_sum, deck_cells, deck_len, deck_put, dicOf_mup_same, lstOf_mup_same, int1R_b, int1R_i, ix_t0, ix_t1, ix_t2, ix_t3, ix_t4, lenR_t, lenR_s, lenR_L, slR_t, slR_s, slR_L, cutL_from1, cutL_from2, revR_t, revR_L, tup1R_L, tup1R_t, beq_self_eq_true, Bool.not_true, Bool.not_false, Option.isSome_some, List.isEmpty_nil, List.isEmpty_cons, isR_nn, isR_tn, isR_Ln, isR_sn, isR_in, isR_bn, isR_bb, isNotR_nn, isNotR_tn, isNotR_Ln, isNotR_sn, isNotR_in, isNotR_bn, isNotR_bb, isi_t_bool, isi_t_int, isi_t_str, isi_t_tuple, isi_t_list, isi_t_dict, isi_s_bool, isi_s_int, isi_s_str, isi_s_tuple, isi_s_list, isi_s_dict, isi_i_bool, isi_i_int, isi_i_str, isi_i_tuple, isi_i_list, isi_i_dict, isi_b_bool, isi_b_int, isi_b_str, isi_b_tuple, isi_b_list, isi_b_dict, isi_n_bool, isi_n_int, isi_n_str, isi_n_tuple, isi_n_list, isi_n_dict, isi_L_bool, isi_L_int, isi_L_str, isi_L_tuple, isi_L_list, isi_L_dict, isi_d_bool, isi_d_int, isi_d_str, isi_d_tuple, isi_d_list, isi_d_dict, natlit_eq, Int.reduceNeg]
          exact hbad (by unfold behF; rw [if_neg (by simpa using h0)])
      · obtain ⟨rfl, s', x3, rfl, hg, hi, hsl⟩ := hI
        rw [List.drop_length] at hg
        exact hN _ _ ⟨rfl, s', _, rfl, hg⟩
    · obtain ⟨rfl, s', x3, rfl, hg⟩ := hJ
      rw [hg] at k
      try simp only [dNext, dBreak, dCont, dDrop, dRet, dRetN, dIfS, dAsg, dputS, dlputS, dOp, dVar, dC, dget_zero, dget_succ, dTest, isB, dNil, dCons, dgName, dTup, dCB, dFresh, dFrz, dFreshD, dFrzD, dDispD, dDisp, dBM, dBM0, dAndV, dOrV, dNotV, dAnd, dOr, dNot, dCall, dNeg, dIf, dFor, dSl, dPart, dNoPart, diRng1, diRng2, diAny, isI, dstart, List.set_cons_zero, List.set_cons_succ, List.map_cons, List.map_nil, List.length_cons, List.length_nil, List.cons_append, List.nil_append, Nat.reduceAdd, Nat.reduceSub, Int.reduceAdd, Int.reduceSub, List.replicate, isLst, dgTup, dgCons, dgNil, dListOf, dJoin, dIndex, dRev, diZip, dPar2, diEnum, dRetX, dDropX, dAsgX, dCallX, dConsX, dTupX, dFrzX, dRaise0, dRaise1, dTryAs, dTryOnly, dXf, asEnds, dLc, wipeD, dCat, dSlL, dPairs, dGet2, dGet1, isDic, ite_true, ite_false, if_true, if_false, reduceIte, Bool.false_eq_true, Bool.true_eq_false, and_true, true_and, rdL_lst, rdL_ref, rdS_lst, rdS_ref, rdS_tup, rdD_dic, rdD_ref, addR_ii, addR_ib, addR_ss, addR_tt, addR_LL, subR_ii, mulR_ii, mulA_ii, mulA_t, mulA_L, modR_ii, fdivR_ii, powR_ii, ltR_ii, leR_ii, gtR_ii, geR_ii, keyD_s, keyD_i, dgetR, eqR_ii, eqR_ss, eqR_bb, eqR_tt, eqR_LL, neR_ii, neR_ss, neR_bb, neR_tt, neR_LL, eqM_ii, eqM_ss, eqM_bb, eqM_tt, eqM_LL, okD_i, okD_s, okD_b, okD_n, okD_t, okD_L, deck_at, deck_sum, deck_cells, deck_len, deck_put, dicOf_mup_same, lstOf_mup_same, int1R_b, int1R_i, ix_t0, ix_t1, ix_t2, ix_t3, ix_t4, lenR_t, lenR_s, lenR_L, slR_t, slR_s, slR_L, cutL_from1, cutL_from2, revR_t, revR_L, tup1R_L, tup1R_t, beq_self_eq_true, Bool.not_true, Bool.not_false, Option.isSome_some, List.isEmpty_nil, List.isEmpty_cons, isR_nn, isR_tn, isR_Ln, isR_sn, isR_in, isR_bn, isR_bb, isNotR_nn, isNotR_tn, isNotR_Ln, isNotR_sn, isNotR_in, isNotR_bn, isNotR_bb, isi_t_bool, isi_t_int, isi_t_str, isi_t_tuple, isi_t_list, isi_t_dict, isi_s_bool, isi_s_int, isi_s_str, isi_s_tuple, isi_s_list, isi_s_dict, isi_i_bool, isi_i_int, isi_i_str, isi_i_tuple, isi_i_list, isi_i_dict, isi_b_bool, isi_b_int, isi_b_str, isi_b_tuple, isi_b_list, isi_b_dict, isi_n_bool, isi_n_int, isi_n_str, isi_n_tuple, isi_n_list, isi_n_dict, isi_L_bool, isi_L_int, isi_L_str, isi_L_tuple, isi_L_list, isi_L_dict, isi_d_bool, isi_d_int, isi_d_str, isi_d_tuple, isi_d_list, isi_d_dict, natlit_eq, Int.reduceNeg]
      exact Shr.all k
/-- the stand behind a rule, or None -/
def sp_behind : DSp := fun ds M R => ∃ (rs : List Rl) (s : St2) (n : Int), ds = [progD rs, stD s, .int n] ∧ rs.length ≤ 100000 ∧ s.2.length ≤ 1000000 ∧ (∀ r ∈ rs, r.w.length ≤ 1000) ∧ R (optD (behF rs s n)) M
theorem behind_go {M : Mm} {R : DQ} {rs : List Rl} {s : St2} {n : Int} (h1 : rs.length ≤ 100000) (h2 : s.2.length ≤ 1000000) (h3 : ∀ r ∈ rs, r.w.length ≤ 1000) (k : R (optD (behF rs s n)) M) : sp_behind [progD rs, stD s, .int n] M R := ⟨rs, s, n, rfl, h1, h2, h3, k⟩
theorem ok_behind {f_behind : Addr} {fd_behind : FuncData} (F_behind : Fun K "behind" "behind" st_behind f_behind fd_behind) (z_len : mg "len" = none) : FnOk P w K mg base CX0 1 f_behind fd_behind ["program", "stand", "number"] (toSp K sp_behind) := by
  refine fn_ok (k := 0) F_behind sc_behind (fun ds M R h => ?_) (fun cdv A outer s H E hr => ⟨_, (jb_cons (js_if (jt_not (jt_chain op_le op_lt l_le l_lt je_int (jv 2) (je_len z_len (ja_cons (jv 0) ja_nil)))) (jb_one (js_ret je_non)) jb_nil)
      (jb_cons (js_asg (jv 1) (jg_tup (n := 2) rfl (jgs_cons (jg_name (i := 3) sc_behind.nd) (jgs_cons (jg_name (i := 4) sc_behind.nd) jgs_nil))))
      (jb_cons (js_asg (je_ix (jv 0) (jv 2)) (jg_tup (n := 4) rfl (jgs_cons (jg_name (i := 5) sc_behind.nd) (jgs_cons (jg_name (i := 6) sc_behind.nd) (jgs_cons (jg_name (i := 7) sc_behind.nd) (jgs_cons (jg_name (i := 8) sc_behind.nd) jgs_nil))))))
      (jb_cons (js_if (JW.jt (jw_or (jt_ne hr (jv 3) (jv 5)) (jw_or1 (jt_ne hr (je_slice (jv 4) jo_none (jo_some je_int)) (je_tup (ja_cons (jv 6) ja_nil)))))) (jb_one (js_ret je_non)) jb_nil)
      (jb_one (js_ret (je_tup (ja_cons (jv 7) (ja_cons (je_add (jv 8) (je_slice (jv 4) (jo_some je_int) jo_none)) ja_nil))))))))), fun ds M R h => ?_⟩)
  · unfold sp_behind at h
    first | (obtain ⟨rfl, _⟩ := h; rfl) | (obtain ⟨_, rfl, _⟩ := h; rfl) | (obtain ⟨_, _, rfl, _⟩ := h; rfl) | (obtain ⟨_, _, _, rfl, _⟩ := h; rfl) | (obtain ⟨_, _, _, _, rfl, _⟩ := h; rfl) | (obtain ⟨_, _, _, _, _, rfl, _⟩ := h; rfl) | (obtain ⟨_, _, _, _, _, _, rfl, _⟩ := h; rfl) | (obtain ⟨_, _, _, _, _, _, _, rfl, _⟩ := h; rfl) | (obtain ⟨_, _, _, _, _, _, _, _, rfl, _⟩ := h; rfl) | (split at h <;> first | rfl | exact h.elim)
  · unfold sp_behind at h
    obtain ⟨rs, ⟨pl, pile⟩, n, rfl, hl, hs, hw, k⟩ := h
    simp only [dSeq, dNext, dBreak, dCont, dDrop, dRet, dRetN, dIfS, dAsg, dputS, dlputS, dOp, dVar, dC, dget_zero, dget_succ, dTest, isB, dNil, dCons, dgName, dTup, dCB, dFresh, dFrz, dFreshD, dFrzD, dDispD, dDisp, dBM, dBM0, dAndV, dOrV, dNotV, dAnd, dOr, dNot, dCall, dNeg, dIf, dFor, dSl, dPart, dNoPart, diRng1, diRng2, diAny, isI, dstart, List.set_cons_zero, List.set_cons_succ, List.map_cons, List.map_nil, List.length_cons, List.length_nil, List.cons_append, List.nil_append, Nat.reduceAdd, Nat.reduceSub, Int.reduceAdd, Int.reduceSub, List.replicate, isLst, dgTup, dgCons, dgNil, dListOf, dJoin, dIndex, dRev, diZip, dPar2, diEnum, dRetX, dDropX, dAsgX, dCallX, dConsX, dTupX, dFrzX, dRaise0, dRaise1, dTryAs, dTryOnly, dXf, asEnds, dLc, wipeD, dCat, dSlL, dPairs, dGet2, dGet1, isDic, ite_true, ite_false, if_true, if_false, reduceIte, Bool.false_eq_true, Bool.true_eq_false, and_true, true_and, rdL_lst, rdL_ref, rdS_lst, rdS_ref, rdS_tup, rdD_dic, rdD_ref, addR_ii, addR_ib, addR_ss, addR_tt, addR_LL, subR_ii, mulR_ii, mulA_ii, mulA_t, mulA_L, modR_ii, fdivR_ii, powR_ii, ltR_ii, leR_ii, gtR_ii, geR_ii, keyD_s, keyD_i, dgetR, eqR_ii, eqR_ss, eqR_bb, eqR_tt, eqR_LL, neR_ii, neR_ss, neR_bb, neR_tt, neR_LL, eqM_ii, eqM_ss, eqM_bb, eqM_tt, eqM_LL, okD_i, okD_s, okD_b, okD_n, okD_t, okD_L, deck_at, deck_sum, deck_cells, deck_len, deck_put, dicOf_mup_same, lstOf_mup_same, int1R_b, int1R_i, ix_t0, ix_t1, ix_t2, ix_t3, ix_t4, lenR_t, lenR_s, lenR_L, slR_t, slR_s, slR_L, cutL_from1, cutL_from2, revR_t, revR_L, tup1R_L, tup1R_t, beq_self_eq_true, Bool.not_true, Bool.not_false, Option.isSome_some, List.isEmpty_nil, List.isEmpty_cons, isR_nn, isR_tn, isR_Ln, isR_sn, isR_in, isR_bn, isR_bb, isNotR_nn, isNotR_tn, isNotR_Ln, isNotR_sn, isNotR_in, isNotR_bn, isNotR_bb, isi_t_bool, isi_t_int, isi_t_str, isi_t_tuple, isi_t_list, isi_t_dict, isi_s_bool, isi_s_int, isi_s_str, isi_s_tuple, isi_s_list, isi_s_dict, isi_i_bool, isi_i_int, isi_i_str, isi_i_tuple, isi_i_list, isi_i_dict, isi_b_bool, isi_b_int, isi_b_str, isi_b_tuple, isi_b_list, isi_b_dict, isi_n_bool, isi_n_int, isi_n_str, isi_n_tuple, isi_n_list, isi_n_dict, isi_L_bool, isi_L_int, isi_L_str, isi_L_tuple, isi_L_list, isi_L_dict, isi_d_bool, isi_d_int, isi_d_str, isi_d_tuple, isi_d_list, isi_d_dict, natlit_eq, Int.reduceNeg, N_behind, progD, stD, List.length_map, dChain]
    refine ifs (fun h0 => ?_) (fun h0 => ?_)
    · have h0 : 0 ≤ n := by simpa using h0
      refine ifs (fun h1 => ?_) (fun h1 => ?_)
      · have h1 : (rs.length : Int) ≤ n := by simpa using h1
        rw [show behF rs (pl, pile) n = none by unfold behF; rw [if_pos h0, List.getElem?_eq_none (by omega)]] at k
        exact Shr.all k
      · have h1 : n < (rs.length : Int) := by simpa using h1
        obtain ⟨r, hr, mr⟩ : ∃ r, rs[n.toNat]? = some r ∧ r ∈ rs := ⟨_, List.getElem?_eq_getElem (by omega), List.getElem_mem _⟩
        rw [show behF rs (pl, pile) n = stepF r (pl, pile) by unfold behF; rw [if_pos h0, hr]] at k
        refine ix_t (d := ruleD r) h0 (by rw [List.getElem?_map, hr]; rfl) ?_
        simp only [dSeq, dNext, dBreak, dCont, dDrop, dRet, dRetN, dIfS, dAsg, dputS, dlputS, dOp, dVar, dC, dget_zero, dget_succ, dTest, isB, dNil, dCons, dgName, dTup, dCB, dFresh, dFrz, dFreshD, dFrzD, dDispD, dDisp, dBM, dBM0, dAndV, dOrV, dNotV, dAnd, dOr, dNot, dCall, dNeg, dIf, dFor, dSl, dPart, dNoPart, diRng1, diRng2, diAny, isI, dstart, List.set_cons_zero, List.set_cons_succ, List.map_cons, List.map_nil, List.length_cons, List.length_nil, List.cons_append, List.nil_append, Nat.reduceAdd, Nat.reduceSub, Int.reduceAdd, Int.reduceSub, List.replicate, isLst, dgTup, dgCons, dgNil, dListOf, dJoin, dIndex, dRev, diZip, dPar2, diEnum, dRetX, dDropX, dAsgX, dCallX, dConsX, dTupX, dFrzX, dRaise0, dRaise1, dTryAs, dTryOnly, dXf, asEnds, dLc, wipeD, dCat, dSlL, dPairs, dGet2, dGet1, isDic, ite_true, ite_false, if_true, if_false, reduceIte, Bool.false_eq_true, Bool.true_eq_false, and_true, true_and, rdL_lst, rdL_ref, rdS_lst, rdS_ref, rdS_tup, rdD_dic, rdD_ref, addR_ii, addR_ib, addR_ss, addR_tt, addR_LL, subR_ii, mulR_ii, mulA_ii, mulA_t, mulA_L, modR_ii, fdivR_ii, powR_ii, ltR_ii, leR_ii, gtR_ii, geR_ii, keyD_s, keyD_i, dgetR, eqR_ii, eqR_ss, eqR_bb, eqR_tt, eqR_LL, neR_ii, neR_ss, neR_bb, neR_tt, neR_LL, eqM_ii, eqM_ss, eqM_bb, eqM_tt, eqM_LL, okD_i, okD_s, okD_b, okD_n, okD_t, okD_L, deck_at, deck_sum, deck_cells, deck_len, deck_put, dicOf_mup_same, lstOf_mup_same, int1R_b, int1R_i, ix_t0, ix_t1, ix_t2, ix_t3, ix_t4, lenR_t, lenR_s, lenR_L, slR_t, slR_s, slR_L, cutL_from1, cutL_from2, revR_t, revR_L, tup1R_L, tup1R_t, beq_self_eq_true, Bool.not_true, Bool.not_false, Option.isSome_some, List.isEmpty_nil, List.isEmpty_cons, isR_nn, isR_tn, isR_Ln, isR_sn, isR_in, isR_bn, isR_bb, isNotR_nn, isNotR_tn, isNotR_Ln, isNotR_sn, isNotR_in, isNotR_bn, isNotR_bb, isi_t_bool, isi_t_int, isi_t_str, isi_t_tuple, isi_t_list, isi_t_dict, isi_s_bool, isi_s_int, isi_s_str, isi_s_tuple, isi_s_list, isi_s_dict, isi_i_bool, isi_i_int, isi_i_str, isi_i_tuple, isi_i_list, isi_i_dict, isi_b_bool, isi_b_int, isi_b_str, isi_b_tuple, isi_b_list, isi_b_dict, isi_n_bool, isi_n_int, isi_n_str, isi_n_tuple, isi_n_list, isi_n_dict, isi_L_bool, isi_L_int, isi_L_str, isi_L_tuple, isi_L_list, isi_L_dict, isi_d_bool, isi_d_int, isi_d_str, isi_d_tuple, isi_d_list, isi_d_dict, natlit_eq, Int.reduceNeg, ruleD]
        refine ifs (fun h2 => ?_) (fun h2 => ?_)
        · rw [show stepF r (pl, pile) = none by unfold stepF; rw [if_neg]; rintro ⟨e, _⟩; simp only at e; rw [e] at h2; simp at h2] at k
          exact Shr.all k
        · have h2 : pl = r.p := by simpa using h2
          refine ⟨by decide, ⟨cut1_ok, strs_ok (xs := [r.m])⟩, ?_⟩
          rw [eqv_take]
          refine ifs (fun h3 => ?_) (fun h3 => ?_)
          · have h3 : ¬ pile.take 1 = [r.m] := by simpa using h3
            rw [show stepF r (pl, pile) = none by unfold stepF; rw [if_neg]; rintro ⟨_, e⟩; exact h3 e] at k
            exact Shr.all k
          · have h3 : pile.take 1 = [r.m] := by simpa using h3
            rw [show stepF r (pl, pile) = some (r.o, r.w ++ pile.drop 1) by unfold stepF; rw [if_pos ⟨h2, h3⟩]] at k
            rw [← List.map_drop]
            refine ⟨small_line2 (by simp only [List.length_map, List.length_drop]; have := hw r mr; simp only at hs; omega), by decide, ?_⟩
            rw [← List.map_append]
            exact Shr.all k
    · rw [show behF rs (pl, pile) n = none by unfold behF; rw [if_neg (by simpa using h0)]] at k
      exact Shr.all k
/-- the stand behind a run; NoRun, with the place of the first step that doesn't go -/
def sp_walked (NoRun : Addr) : DSpX := fun ds M R xc => ∃ (rs : List Rl) (s : St2) (ns : List Int), ds = [progD rs, stD s, .tup (ns.map D.int)] ∧ rs.length ≤ 100000 ∧ ns.length ≤ 100000 ∧ s.2.length ≤ 100000 ∧ (∀ r ∈ rs, r.w.length ≤ 2) ∧
  match goF rs s ns 0 with | .inl t => R (stD t) M | .inr k => xc NoRun [("at", .int (k : Nat))] M
theorem walked_go {NoRun : Addr} {M : Mm} {R : DQ} {xc : Addr → List (Str × D) → Mm → Prop} {rs : List Rl} {s : St2} {ns : List Int} (h1 : rs.length ≤ 100000) (h2 : ns.length ≤ 100000) (h3 : s.2.length ≤ 100000) (h4 : ∀ r ∈ rs, r.w.length ≤ 2)
    (h : ∀ t, goF rs s ns 0 = .inl t → R (stD t) M) (h' : ∀ k, goF rs s ns 0 = .inr k → xc NoRun [("at", .int (k : Nat))] M) : sp_walked NoRun [progD rs, stD s, .tup (ns.map D.int)] M R xc :=
  ⟨rs, s, ns, rfl, h1, h2, h3, h4, by
    split
    · exact h _ ‹_›
    · exact h' _ ‹_›⟩
theorem ok_walked {f_walked f_behind : Addr} {fd_walked fd_behind : FuncData} {f_PileError f_NoRun f_NoText f_TooLong f_TooMany f_NoTable f_NoRule f_NoRow f_NoRun_init : Addr} (TX : Exs K mg f_PileError f_NoRun f_NoText f_TooLong f_TooMany f_NoTable f_NoRule f_NoRow f_NoRun_init) {fd_NoRun_init : FuncData} (G_NoRun_init : FnOk P w K mg base CX0 1 f_NoRun_init fd_NoRun_init ["self", "at"] (spInit f_NoRun "at")) (b_NoRun_init : Binds K fd_NoRun_init ["self", "at"] []) (F_walked : Fun K "walked" "walked" st_walked f_walked fd_walked) (G_behind : FnOk P w K mg base CX0 1 f_behind fd_behind ["program", "stand", "number"] (toSp K sp_behind)) (g_behind : mg "behind" = some (.ref f_behind)) (k_behind : PySem.W.keepIn K (.ref f_behind) = true) (b_behind : Binds K fd_behind ["program", "stand", "number"] []) (z_enumerate : mg "enumerate" = none) : FnOk P w K mg base (L2.CX P w) 3 f_walked fd_walked ["program", "stand", "run"] (toSpX K (sp_walked f_NoRun)) := by
  refine fn_okX (k := 2) F_walked sc_walked (fun ds M R xc h => ?_) (fun cdv A outer s H E hr => ⟨_, (jb_cons (js_for (passes_of rfl) rfl (ji_enum z_enumerate (jv 2)) (jg_tup (n := 2) rfl (jgs_cons (jg_name (i := 3) sc_walked.nd) (jgs_cons (jg_name (i := 4) sc_walked.nd) jgs_nil))) (jb_cons (js_set (i := 1) sc_walked.nd (je_call G_behind (hr.mono (by decide)) (by rfl) g_behind k_behind b_behind (ja_cons (jv 0) (ja_cons (jv 1) (ja_cons (jv 4) ja_nil))))) (jb_one (js_if (jt_is (jv 1) je_non) (jb_one (js_raise1 rfl (takes_of rfl rfl rfl rfl) TX.o_NoRun TX.i_NoRun TX.ti_NoRun G_NoRun_init (hr.mono (by decide)) b_NoRun_init (by rfl) TX.m_NoRun (jv 3))) jb_nil))))
      (jb_one (js_ret (jv 1)))), fun ds M R xc h => ?_⟩)
  · unfold sp_walked at h
    first | (obtain ⟨rfl, _⟩ := h; rfl) | (obtain ⟨_, rfl, _⟩ := h; rfl) | (obtain ⟨_, _, rfl, _⟩ := h; rfl) | (obtain ⟨_, _, _, rfl, _⟩ := h; rfl) | (obtain ⟨_, _, _, _, rfl, _⟩ := h; rfl) | (obtain ⟨_, _, _, _, _, rfl, _⟩ := h; rfl)
  · unfold sp_walked at h
    obtain ⟨rs, s, ns, rfl, hl, hn, hs, hw, k⟩ := h
    simp only [dNext, dBreak, dCont, dDrop, dRet, dRetN, dIfS, dAsg, dputS, dlputS, dOp, dVar, dC, dget_zero, dget_succ, dTest, isB, dNil, dCons, dgName, dTup, dCB, dFresh, dFrz, dFreshD, dFrzD, dDispD, dDisp, dBM, dBM0, dAndV, dOrV, dNotV, dAnd, dOr, dNot, dCall, dNeg, dIf, dFor, dSl, dPart, dNoPart, diRng1, diRng2, diAny, isI, dstart, List.set_cons_zero, List.set_cons_succ, List.map_cons, List.map_nil, List.length_cons, List.length_nil, List.cons_append, List.nil_append, Nat.reduceAdd, Nat.reduceSub, Int.reduceAdd, Int.reduceSub, List.replicate, isLst, dgTup, dgCons, dgNil, dListOf, dJoin, dIndex, dRev, diZip, dPar2, diEnum, dRetX, dDropX, dAsgX, dCallX, dConsX, dTupX, dFrzX, dRaise0, dRaise1, dTryAs, dTryOnly, dXf, asEnds, dLc, wipeD, dCat, dSlL, dPairs, dGet2, dGet1, isDic, ite_true, ite_false, if_true, if_false, reduceIte, Bool.false_eq_true, Bool.true_eq_false, and_true, true_and, rdL_lst, rdL_ref, rdS_lst, rdS_ref, rdS_tup, rdD_dic, rdD_ref, addR_ii, addR_ib, addR_ss, addR_tt, addR_LL, subR_ii, mulR_ii, mulA_ii, mulA_t, mulA_L, modR_ii, fdivR_ii, powR_ii, ltR_ii, leR_ii, gtR_ii, geR_ii, keyD_s, keyD_i, dgetR, eqR_ii, eqR_ss, eqR_bb, eqR_tt, eqR_LL, neR_ii, neR_ss, neR_bb, neR_tt, neR_LL, eqM_ii, eqM_ss, eqM_bb, eqM_tt, eqM_LL, okD_i, okD_s, okD_b, okD_n, okD_t, okD_L, deck_at, deck_sum, deck_cells, deck_len, deck_put, dicOf_mup_same, lstOf_mup_same, int1R_b, int1R_i, ix_t0, ix_t1, ix_t2, ix_t3, ix_t4, lenR_t, lenR_s, lenR_L, slR_t, slR_s, slR_L, cutL_from1, cutL_from2, revR_t, revR_L, tup1R_L, tup1R_t, beq_self_eq_true, Bool.not_true, Bool.not_false, Option.isSome_some, List.isEmpty_nil, List.isEmpty_cons, isR_nn, isR_tn, isR_Ln, isR_sn, isR_in, isR_bn, isR_bb, isNotR_nn, isNotR_tn, isNotR_Ln, isNotR_sn, isNotR_in, isNotR_bn, isNotR_bb, isi_t_bool, isi_t_int, isi_t_str, isi_t_tuple, isi_t_list, isi_t_dict, isi_s_bool, isi_s_int, isi_s_str, isi_s_tuple, isi_s_list, isi_s_dict, isi_i_bool, isi_i_int, isi_i_str, isi_i_tuple, isi_i_list, isi_i_dict, isi_b_bool, isi_b_int, isi_b_str, isi_b_tuple, isi_b_list, isi_b_dict, isi_n_bool, isi_n_int, isi_n_str, isi_n_tuple, isi_n_list, isi_n_dict, isi_L_bool, isi_L_int, isi_L_str, isi_L_tuple, isi_L_list, isi_L_dict, isi_d_bool, isi_d_int, isi_d_str, isi_d_tuple, isi_d_list, isi_d_dict, natlit_eq, Int.reduceNeg, N_walked]
    refine seq_cut (fun ds M' => M' = M ∧ ∃ s' x3 x4, ds = [some (progD rs), some (stD s'), some (.tup (ns.map D.int)), x3, x4] ∧ goF rs s ns 0 = .inl s') (fun N hN => ?_) fun ds M' hJ => ?_
    · try simp only [dNext, dBreak, dCont, dDrop, dRet, dRetN, dIfS, dAsg, dputS, dlputS, dOp, dVar, dC, dget_zero, dget_succ, dTest, isB, dNil, dCons, dgName, dTup, dCB, dFresh, dFrz, dFreshD, dFrzD, dDispD, dDisp, dBM, dBM0, dAndV, dOrV, dNotV, dAnd, dOr, dNot, dCall, dNeg, dIf, dFor, dSl, dPart, dNoPart, diRng1, diRng2, diAny, isI, dstart, List.set_cons_zero, List.set_cons_succ, List.map_cons, List.map_nil, List.length_cons, List.length_nil, List.cons_append, List.nil_append, Nat.reduceAdd, Nat.reduceSub, Int.reduceAdd, Int.reduceSub, List.replicate, isLst, dgTup, dgCons, dgNil, dListOf, dJoin, dIndex, dRev, diZip, dPar2, diEnum, dRetX, dDropX, dAsgX, dCallX, dConsX, dTupX, dFrzX, dRaise0, dRaise1, dTryAs, dTryOnly, dXf, asEnds, dLc, wipeD, dCat, dSlL, dPairs, dGet2, dGet1, isDic, ite_true, ite_false, if_true, if_false, reduceIte, Bool.false_eq_true, Bool.true_eq_false, and_true, true_and, rdL_lst, rdL_ref, rdS_lst, rdS_ref, rdS_tup, rdD_dic, rdD_ref, addR_ii, addR_ib, addR_ss, addR_tt, addR_LL, subR_ii, mulR_ii, mulA_ii, mulA_t, mulA_L, modR_ii, fdivR_ii, powR_ii, ltR_ii, leR_ii, gtR_ii, geR_ii, keyD_s, keyD_i, dgetR, eqR_ii, eqR_ss, eqR_bb, eqR_tt, eqR_LL, neR_ii, neR_ss, neR_bb, neR_tt, neR_LL, eqM_ii, eqM_ss, eqM_bb, eqM_tt, eqM_LL, okD_i, okD_s, okD_b, okD_n, okD_t, okD_L, deck_at, deck_sum, deck_cells, deck_len, deck_put, dicOf_mup_same, lstOf_mup_same, int1R_b, int1R_i, ix_t0, ix_t1, ix_t2, ix_t3, ix_t4, lenR_t, lenR_s, lenR_L, slR_t, slR_s, slR_L, cutL_from1, cutL_from2, revR_t, revR_L, tup1R_L, tup1R_t, beq_self_eq_true, Bool.not_true, Bool.not_false, Option.isSome_some, List.isEmpty_nil, List.isEmpty_cons, isR_nn, isR_tn, isR_Ln, isR_sn, isR_in, isR_bn, isR_bb, isNotR_nn, isNotR_tn, isNotR_Ln, isNotR_sn, isNotR_in, isNotR_bn, isNotR_bb, isi_t_bool, isi_t_int, isi_t_str, isi_t_tuple, isi_t_list, isi_t_dict, isi_s_bool, isi_s_int, isi_s_str, isi_s_tuple, isi_s_list, isi_s_dict, isi_i_bool, isi_i_int, isi_i_str, isi_i_tuple, isi_i_list, isi_i_dict, isi_b_bool, isi_b_int, isi_b_str, isi_b_tuple, isi_b_list, isi_b_dict, isi_n_bool, isi_n_int, isi_n_str, isi_n_tuple, isi_n_list, isi_n_dict, isi_L_bool, isi_L_int, isi_L_str, isi_L_tuple, isi_L_list, isi_L_dict, isi_d_bool, isi_d_int, isi_d_str, isi_d_tuple, isi_d_list, isi_d_dict, natlit_eq, Int.reduceNeg]
      refine forW_go (fun i ds M' => M' = M ∧ ∃ s' x3 x4, ds = [some (progD rs), some (stD s'), some (.tup (ns.map D.int)), x3, x4] ∧ goF rs s ns 0 = goF rs s' (ns.drop i) i ∧ i ≤ ns.length ∧ s'.2.length ≤ 100000 + 2 * i) _ (fun _ _ _ _ => trivial) (fun i x N' e hN' ds M' hI => ?_) (fun ds M' hI => ?_) _ _ ⟨rfl, s, none, none, rfl, rfl, Nat.zero_le _, by omega⟩
      · obtain ⟨rfl, s', x3, x4, rfl, hg, hi, hsl⟩ := hI
        obtain ⟨y, h1, rfl⟩ := enumD_get e
        rw [List.getElem?_map] at h1
        obtain ⟨n, h2, rfl⟩ := Option.map_eq_some_iff.mp h1
        have hlt := (List.getElem?_eq_some_iff.mp h2).1
        have hdrop : ns.drop i = n :: ns.drop (i + 1) := by
          rw [List.drop_eq_getElem_cons hlt]
          rw [List.getElem?_eq_getElem hlt] at h2
          cases h2; rfl
        rw [hdrop] at hg
        try simp only [dNext, dBreak, dCont, dDrop, dRet, dRetN, dIfS, dAsg, dputS, dlputS, dOp, dVar, dC, dget_zero, dget_succ, dTest, isB, dNil, dCons, dgName, dTup, dCB, dFresh, dFrz, dFreshD, dFrzD, dDispD, dDisp, dBM, dBM0, dAndV, dOrV, dNotV, dAnd, dOr, dNot, dCall, dNeg, dIf, dFor, dSl, dPart, dNoPart, diRng1, diRng2, diAny, isI, dstart, List.set_cons_zero, List.set_cons_succ, List.map_cons, List.map_nil, List.length_cons, List.length_nil, List.cons_append, List.nil_append, Nat.reduceAdd, Nat.reduceSub, Int.reduceAdd, Int.reduceSub, List.replicate, isLst, dgTup, dgCons, dgNil, dListOf, dJoin, dIndex, dRev, diZip, dPar2, diEnum, dRetX, dDropX, dAsgX, dCallX, dConsX, dTupX, dFrzX, dRaise0, dRaise1, dTryAs, dTryOnly, dXf, asEnds, dLc, wipeD, dCat, dSlL, dPairs, dGet2, dGet1, isDic, ite_true, ite_false, if_true, if_false, reduceIte, Bool.false_eq_true, Bool.true_eq_false, and_true, true_and, rdL_lst, rdL_ref, rdS_lst, rdS_ref, rdS_tup, rdD_dic, rdD_ref, addR_ii, addR_ib, addR_ss, addR_tt, addR_LL, subR_ii, mulR_ii, mulA_ii, mulA_t, mulA_L, modR_ii, fdivR_ii, powR_ii, ltR_ii, leR_ii, gtR_ii, geR_ii, keyD_s, keyD_i, dgetR, eqR_ii, eqR_ss, eqR_bb, eqR_tt, eqR_LL, neR_ii, neR_ss, neR_bb, neR_tt, neR_LL, eqM_ii, eqM_ss, eqM_bb, eqM_tt, eqM_LL, okD_i, okD_s, okD_b, okD_n, okD_t, okD_L, deck_at, deck_sum, deck_cells, deck_len, deck_put, dicOf_mup_same, lstOf_mup_same, int1R_b, int1R_i, ix_t0, ix_t1, ix_t2, ix_t3, ix_t4, lenR_t, lenR_s, lenR_L, slR_t, slR_s, slR_L, cutL_from1, cutL_from2, revR_t, revR_L, tup1R_L, tup1R_t, beq_self_eq_true, Bool.not_true, Bool.not_false, Option.isSome_some, List.isEmpty_nil, List.isEmpty_cons, isR_nn, isR_tn, isR_Ln, isR_sn, isR_in, isR_bn, isR_bb, isNotR_nn, isNotR_tn, isNotR_Ln, isNotR_sn, isNotR_in, isNotR_bn, isNotR_bb, isi_t_bool, isi_t_int, isi_t_str, isi_t_tuple, isi_t_list, isi_t_dict, isi_s_bool, isi_s_int, isi_s_str, isi_s_tuple, isi_s_list, isi_s_dict, isi_i_bool, isi_i_int, isi_i_str, isi_i_tuple, isi_i_list, isi_i_dict, isi_b_bool, isi_b_int, isi_b_str, isi_b_tuple, isi_b_list, isi_b_dict, isi_n_bool, isi_n_int, isi_n_str, isi_n_tuple, isi_n_list, isi_n_dict, isi_L_bool, isi_L_int, isi_L_str, isi_L_tuple, isi_L_list, isi_L_dict, isi_d_bool, isi_d_int, isi_d_str, isi_d_tuple, isi_d_list, isi_d_dict, natlit_eq, Int.reduceNeg]
        refine seq_go ?_
        try simp only [dNext, dBreak, dCont, dDrop, dRet, dRetN, dIfS, dAsg, dputS, dlputS, dOp, dVar, dC, dget_zero, dget_succ, dTest, isB, dNil, dCons, dgName, dTup, dCB, dFresh, dFrz, dFreshD, dFrzD, dDispD, dDisp, dBM, dBM0, dAndV, dOrV, dNotV, dAnd, dOr, dNot, dCall, dNeg, dIf, dFor, dSl, dPart, dNoPart, diRng1, diRng2, diAny, isI, dstart, List.set_cons_zero, List.set_cons_succ, List.map_cons, List.map_nil, List.length_cons, List.length_nil, List.cons_append, List.nil_append, Nat.reduceAdd, Nat.reduceSub, Int.reduceAdd, Int.reduceSub, List.replicate, isLst, dgTup, dgCons, dgNil, dListOf, dJoin, dIndex, dRev, diZip, dPar2, diEnum, dRetX, dDropX, dAsgX, dCallX, dConsX, dTupX, dFrzX, dRaise0, dRaise1, dTryAs, dTryOnly, dXf, asEnds, dLc, wipeD, dCat, dSlL, dPairs, dGet2, dGet1, isDic, ite_true, ite_false, if_true, if_false, reduceIte, Bool.false_eq_true, Bool.true_eq_false, and_true, true_and, rdL_lst, rdL_ref, rdS_lst, rdS_ref, rdS_tup, rdD_dic, rdD_ref, addR_ii, addR_ib, addR_ss, addR_tt, addR_LL, subR_ii, mulR_ii, mulA_ii, mulA_t, mulA_L, modR_ii, fdivR_ii, powR_ii, ltR_ii, leR_ii, gtR_ii, geR_ii, keyD_s, keyD_i, dgetR, eqR_ii, eqR_ss, eqR_bb, eqR_tt, eqR_LL, neR_ii, neR_ss, neR_bb, neR_tt, neR_LL, eqM_ii, eqM_ss, eqM_bb, eqM_tt, eqM_LL, okD_i, okD_s, okD_b, okD_n, okD_t, okD_L, deck_at, deck_sum, deck_cells, deck_len, deck_put, dicOf_mup_same, lstOf_mup_same, int1R_b, int1R_i, ix_t0, ix_t1, ix_t2, ix_t3, ix_t4, lenR_t, lenR_s, lenR_L, slR_t, slR_s, slR_L, cutL_from1, cutL_from2, revR_t, revR_L, tup1R_L, tup1R_t, beq_self_eq_true, Bool.not_true, Bool.not_false, Option.isSome_some, List.isEmpty_nil, List.isEmpty_cons, isR_nn, isR_tn, isR_Ln, isR_sn, isR_in, isR_bn, isR_bb, isNotR_nn, isNotR_tn, isNotR_Ln, isNotR_sn, isNotR_in, isNotR_bn, isNotR_bb, isi_t_bool, isi_t_int, isi_t_str, isi_t_tuple, isi_t_list, isi_t_dict, isi_s_bool, isi_s_int, isi_s_str, isi_s_tuple, isi_s_list, isi_s_dict, isi_i_bool, isi_i_int, isi_i_str, isi_i_tuple, isi_i_list, isi_i_dict, isi_b_bool, isi_b_int, isi_b_str, isi_b_tuple, isi_b_list, isi_b_dict, isi_n_bool, isi_n_int, isi_n_str, isi_n_tuple, isi_n_list, isi_n_dict, isi_L_bool, isi_L_int, isi_L_str, isi_L_tuple, isi_L_list, isi_L_dict, isi_d_bool, isi_d_int, isi_d_str, isi_d_tuple, isi_d_list, isi_d_dict, natlit_eq, Int.reduceNeg]
        refine behind_go hl (by omega) (fun r hr => by have := hw r hr; omega) ?_
        try simp only [dNext, dBreak, dCont, dDrop, dRet, dRetN, dIfS, dAsg, dputS, dlputS, dOp, dVar, dC, dget_zero, dget_succ, dTest, isB, dNil, dCons, dgName, dTup, dCB, dFresh, dFrz, dFreshD, dFrzD, dDispD, dDisp, dBM, dBM0, dAndV, dOrV, dNotV, dAnd, dOr, dNot, dCall, dNeg, dIf, dFor, dSl, dPart, dNoPart, diRng1, diRng2, diAny, isI, dstart, List.set_cons_zero, List.set_cons_succ, List.map_cons, List.map_nil, List.length_cons, List.length_nil, List.cons_append, List.nil_append, Nat.reduceAdd, Nat.reduceSub, Int.reduceAdd, Int.reduceSub, List.replicate, isLst, dgTup, dgCons, dgNil, dListOf, dJoin, dIndex, dRev, diZip, dPar2, diEnum, dRetX, dDropX, dAsgX, dCallX, dConsX, dTupX, dFrzX, dRaise0, dRaise1, dTryAs, dTryOnly, dXf, asEnds, dLc, wipeD, dCat, dSlL, dPairs, dGet2, dGet1, isDic, ite_true, ite_false, if_true, if_false, reduceIte, Bool.false_eq_true, Bool.true_eq_false, and_true, true_and, rdL_lst, rdL_ref, rdS_lst, rdS_ref, rdS_tup, rdD_dic, rdD_ref, addR_ii, addR_ib, addR_ss, addR_tt, addR_LL, subR_ii, mulR_ii, mulA_ii, mulA_t, mulA_L, modR_ii, fdivR_ii, powR_ii, ltR_ii, leR_ii, gtR_ii, geR_ii, keyD_s, keyD_i, dgetR, eqR_ii, eqR_ss, eqR_bb, eqR_tt, eqR_LL, neR_ii, neR_ss, neR_bb, neR_tt, neR_LL, eqM_ii, eqM_ss, eqM_bb, eqM_tt, eqM_LL, okD_i, okD_s, okD_b, okD_n, okD_t, okD_L, deck_at, deck_sum, deck_cells, deck_len, deck_put, dicOf_mup_same, lstOf_mup_same, int1R_b, int1R_i, ix_t0, ix_t1, ix_t2, ix_t3, ix_t4, lenR_t, lenR_s, lenR_L, slR_t, slR_s, slR_L, cutL_from1, cutL_from2, revR_t, revR_L, tup1R_L, tup1R_t, beq_self_eq_true, Bool.not_true, Bool.not_false, Option.isSome_some, List.isEmpty_nil, List.isEmpty_cons, isR_nn, isR_tn, isR_Ln, isR_sn, isR_in, isR_bn, isR_bb, isNotR_nn, isNotR_tn, isNotR_Ln, isNotR_sn, isNotR_in, isNotR_bn, isNotR_bb, isi_t_bool, isi_t_int, isi_t_str, isi_t_tuple, isi_t_list, isi_t_dict, isi_s_bool, isi_s_int, isi_s_str, isi_s_tuple, isi_s_list, isi_s_dict, isi_i_bool, isi_i_int, isi_i_str, isi_i_tuple, isi_i_list, isi_i_dict, isi_b_bool, isi_b_int, isi_b_str, isi_b_tuple, isi_b_list, isi_b_dict, isi_n_bool, isi_n_int, isi_n_str, isi_n_tuple, isi_n_list, isi_n_dict, isi_L_bool, isi_L_int, isi_L_str, isi_L_tuple, isi_L_list, isi_L_dict, isi_d_bool, isi_d_int, isi_d_str, isi_d_tuple, isi_d_list, isi_d_dict, natlit_eq, Int.reduceNeg]
        rw [show goF rs s' (n :: ns.drop (i + 1)) i = (match behF rs s' n with | some t => goF rs t (ns.drop (i + 1)) (i + 1) | none => .inr i) from rfl] at hg
        cases hb : behF rs s' n with
        | none =>
          simp only [optD, dNext, dBreak, dCont, dDrop, dRet, dRetN, dIfS, dAsg, dputS, dlputS, dOp, dVar, dC, dget_zero, dget_succ, dTest, isB, dNil, dCons, dgName, dTup, dCB, dFresh, dFrz, dFreshD, dFrzD, dDispD, dDisp, dBM, dBM0, dAndV, dOrV, dNotV, dAnd, dOr, dNot, dCall, dNeg, dIf, dFor, dSl, dPart, dNoPart, diRng1, diRng2, diAny, isI, dstart, List.set_cons_zero, List.set_cons_succ, List.map_cons, List.map_nil, List.length_cons, List.length_nil, List.cons_append, List.nil_append, Nat.reduceAdd, Nat.reduceSub, Int.reduceAdd, Int.reduceSub, List.replicate, isLst, dgTup, dgCons, dgNil, dListOf, dJoin, dIndex, dRev, diZip, dPar2, diEnum, dRetX, dDropX, dAsgX, dCallX, dConsX, dTupX, dFrzX, dRaise0, dRaise1, dTryAs, dTryOnly, dXf, asEnds, dLc, wipeD, dCat, dSlL, dPairs, dGet2, dGet1, isDic, ite_true, ite_false, if_true, if_false, reduceIte, Bool.false_eq_true, Bool.true_eq_false, and_true, true_and, rdL_lst, rdL_ref, rdS_lst, rdS_ref, rdS_tup, rdD_dic, rdD_ref, addR_ii, addR_ib, addR_ss, addR_tt, addR_LL, subR_ii, mulR_ii, mulA_ii, mulA_t, mulA_L, modR_ii, fdivR_ii, powR_ii, ltR_ii, leR_ii, gtR_ii, geR_ii, keyD_s, keyD_i, dgetR, eqR_ii, eqR_ss, eqR_bb, eqR_tt, eqR_LL, neR_ii, neR_ss, neR_bb, neR_tt, neR_LL, eqM_ii, eqM_ss, eqM_bb, eqM_tt, eqM_LL, okD_i, okD_s, okD_b, okD_n, okD_t, okD_L, deck_at, deck_sum, deck_cells, deck_len, deck_put, dicOf_mup_same, lstOf_mup_same, int1R_b, int1R_i, ix_t0, ix_t1, ix_t2, ix_t3, ix_t4, lenR_t, lenR_s, lenR_L, slR_t, slR_s, slR_L, cutL_from1, cutL_from2, revR_t, revR_L, tup1R_L, tup1R_t, beq_self_eq_true, Bool.not_true, Bool.not_false, Option.isSome_some, List.isEmpty_nil, List.isEmpty_cons, isR_nn, isR_tn, isR_Ln, isR_sn, isR_in, isR_bn, isR_bb, isNotR_nn, isNotR_tn, isNotR_Ln, isNotR_sn, isNotR_in, isNotR_bn, isNotR_bb, isi_t_bool, isi_t_int, isi_t_str, isi_t_tuple, isi_t_list, isi_t_dict, isi_s_bool, isi_s_int, isi_s_str, isi_s_tuple, isi_s_list, isi_s_dict, isi_i_bool, isi_i_int, isi_i_str, isi_i_tuple, isi_i_list, isi_i_dict, isi_b_bool, isi_b_int, isi_b_str, isi_b_tuple, isi_b_list, isi_b_dict, isi_n_bool, isi_n_int, isi_n_str, isi_n_tuple, isi_n_list, isi_n_dict, isi_L_bool, isi_L_int, isi_L_str, isi_L_tuple, isi_L_list, isi_L_dict, isi_d_bool, isi_d_int, isi_d_str, isi_d_tuple, isi_d_list, isi_d_dict, natlit_eq, Int.reduceNeg]
          rw [hb] at hg
          simp only at hg
          rw [hg] at k
          rw [Nat.zero_add]
          exact ⟨log2_lt (by decide) (Nat.lt_of_le_of_lt (show (i : Int).natAbs ≤ 100000 by omega) (by decide)), ShrX.all k⟩
        | some t =>
          simp only [optD, stD, dNext, dBreak, dCont, dDrop, dRet, dRetN, dIfS, dAsg, dputS, dlputS, dOp, dVar, dC, dget_zero, dget_succ, dTest, isB, dNil, dCons, dgName, dTup, dCB, dFresh, dFrz, dFreshD, dFrzD, dDispD, dDisp, dBM, dBM0, dAndV, dOrV, dNotV, dAnd, dOr, dNot, dCall, dNeg, dIf, dFor, dSl, dPart, dNoPart, diRng1, diRng2, diAny, isI, dstart, List.set_cons_zero, List.set_cons_succ, List.map_cons, List.map_nil, List.length_cons, List.length_nil, List.cons_append, List.nil_append, Nat.reduceAdd, Nat.reduceSub, Int.reduceAdd, Int.reduceSub, List.replicate, isLst, dgTup, dgCons, dgNil, dListOf, dJoin, dIndex, dRev, diZip, dPar2, diEnum, dRetX, dDropX, dAsgX, dCallX, dConsX, dTupX, dFrzX, dRaise0, dRaise1, dTryAs, dTryOnly, dXf, asEnds, dLc, wipeD, dCat, dSlL, dPairs, dGet2, dGet1, isDic, ite_true, ite_false, if_true, if_false, reduceIte, Bool.false_eq_true, Bool.true_eq_false, and_true, true_and, rdL_lst, rdL_ref, rdS_lst, rdS_ref, rdS_tup, rdD_dic, rdD_ref, addR_ii, addR_ib, addR_ss, addR_tt, addR_LL, subR_ii, mulR_ii, mulA_ii, mulA_t, mulA_L, modR_ii, fdivR_ii, powR_ii, ltR_ii, leR_ii, gtR_ii, geR_ii, keyD_s, keyD_i, dgetR, eqR_ii, eqR_ss, eqR_bb, eqR_tt, eqR_LL, neR_ii, neR_ss, neR_bb, neR_tt, neR_LL, eqM_ii, eqM_ss, eqM_bb, eqM_tt, eqM_LL, okD_i, okD_s, okD_b, okD_n, okD_t, okD_L, deck_at, deck_sum, deck_cells, deck_len, deck_put, dicOf_mup_same, lstOf_mup_same, int1R_b, int1R_i, ix_t0, ix_t1, ix_t2, ix_t3, ix_t4, lenR_t, lenR_s, lenR_L, slR_t, slR_s, slR_L, cutL_from1, cutL_from2, revR_t, revR_L, tup1R_L, tup1R_t, beq_self_eq_true, Bool.not_true, Bool.not_false, Option.isSome_some, List.isEmpty_nil, List.isEmpty_cons, isR_nn, isR_tn, isR_Ln, isR_sn, isR_in, isR_bn, isR_bb, isNotR_nn, isNotR_tn, isNotR_Ln, isNotR_sn, isNotR_in, isNotR_bn, isNotR_bb, isi_t_bool, isi_t_int, isi_t_str, isi_t_tuple, isi_t_list, isi_t_dict, isi_s_bool, isi_s_int, isi_s_str, isi_s_tuple, isi_s_list, isi_s_dict, isi_i_bool, isi_i_int, isi_i_str, isi_i_tuple, isi_i_list, isi_i_dict, isi_b_bool, isi_b_int, isi_b_str, isi_b_tuple, isi_b_list, isi_b_dict, isi_n_bool, isi_n_int, isi_n_str, isi_n_tuple, isi_n_list, isi_n_dict, isi_L_bool, isi_L_int, isi_L_str, isi_L_tuple, isi_L_list, isi_L_dict, isi_d_bool, isi_d_int, isi_d_str, isi_d_tuple, isi_d_list, isi_d_dict, natlit_eq, Int.reduceNeg]
          rw [hb] at hg
          exact hN' _ _ ⟨rfl, t, _, _, rfl, hg, hlt, by have := behF_len2 hw hb; omega⟩
      · obtain ⟨rfl, s', x3, x4, rfl, hg, hi, hsl⟩ := hI
        rw [enumD_len, List.length_map, List.drop_length] at hg
        exact hN _ _ ⟨rfl, s', _, _, rfl, hg⟩
    · obtain ⟨rfl, s', x3, x4, rfl, hg⟩ := hJ
      rw [hg] at k
      try simp only [dNext, dBreak, dCont, dDrop, dRet, dRetN, dIfS, dAsg, dputS, dlputS, dOp, dVar, dC, dget_zero, dget_succ, dTest, isB, dNil, dCons, dgName, dTup, dCB, dFresh, dFrz, dFreshD, dFrzD, dDispD, dDisp, dBM, dBM0, dAndV, dOrV, dNotV, dAnd, dOr, dNot, dCall, dNeg, dIf, dFor, dSl, dPart, dNoPart, diRng1, diRng2, diAny, isI, dstart, List.set_cons_zero, List.set_cons_succ, List.map_cons, List.map_nil, List.length_cons, List.length_nil, List.cons_append, List.nil_append, Nat.reduceAdd, Nat.reduceSub, Int.reduceAdd, Int.reduceSub, List.replicate, isLst, dgTup, dgCons, dgNil, dListOf, dJoin, dIndex, dRev, diZip, dPar2, diEnum, dRetX, dDropX, dAsgX, dCallX, dConsX, dTupX, dFrzX, dRaise0, dRaise1, dTryAs, dTryOnly, dXf, asEnds, dLc, wipeD, dCat, dSlL, dPairs, dGet2, dGet1, isDic, ite_true, ite_false, if_true, if_false, reduceIte, Bool.false_eq_true, Bool.true_eq_false, and_true, true_and, rdL_lst, rdL_ref, rdS_lst, rdS_ref, rdS_tup, rdD_dic, rdD_ref, addR_ii, addR_ib, addR_ss, addR_tt, addR_LL, subR_ii, mulR_ii, mulA_ii, mulA_t, mulA_L, modR_ii, fdivR_ii, powR_ii, ltR_ii, leR_ii, gtR_ii, geR_ii, keyD_s, keyD_i, dgetR, eqR_ii, eqR_ss, eqR_bb, eqR_tt, eqR_LL, neR_ii, neR_ss, neR_bb, neR_tt, neR_LL, eqM_ii, eqM_ss, eqM_bb, eqM_tt, eqM_LL, okD_i, okD_s, okD_b, okD_n, okD_t, okD_L, deck_at, deck_sum, deck_cells, deck_len, deck_put, dicOf_mup_same, lstOf_mup_same, int1R_b, int1R_i, ix_t0, ix_t1, ix_t2, ix_t3, ix_t4, lenR_t, lenR_s, lenR_L, slR_t, slR_s, slR_L, cutL_from1, cutL_from2, revR_t, revR_L, tup1R_L, tup1R_t, beq_self_eq_true, Bool.not_true, Bool.not_false, Option.isSome_some, List.isEmpty_nil, List.isEmpty_cons, isR_nn, isR_tn, isR_Ln, isR_sn, isR_in, isR_bn, isR_bb, isNotR_nn, isNotR_tn, isNotR_Ln, isNotR_sn, isNotR_in, isNotR_bn, isNotR_bb, isi_t_bool, isi_t_int, isi_t_str, isi_t_tuple, isi_t_list, isi_t_dict, isi_s_bool, isi_s_int, isi_s_str, isi_s_tuple, isi_s_list, isi_s_dict, isi_i_bool, isi_i_int, isi_i_str, isi_i_tuple, isi_i_list, isi_i_dict, isi_b_bool, isi_b_int, isi_b_str, isi_b_tuple, isi_b_list, isi_b_dict, isi_n_bool, isi_n_int, isi_n_str, isi_n_tuple, isi_n_list, isi_n_dict, isi_L_bool, isi_L_int, isi_L_str, isi_L_tuple, isi_L_list, isi_L_dict, isi_d_bool, isi_d_int, isi_d_str, isi_d_tuple, isi_d_list, isi_d_dict, natlit_eq, Int.reduceNeg]
      exact Shr.all k
def sp__law_told : DSp := fun ds M R => ∃ (rs : List Rl) (s : St2) (ns : List Int), ds = [progD rs, stD s, .tup (ns.map D.int)] ∧ rs.length ≤ 100000 ∧ ns.length ≤ 100000 ∧ s.2.length ≤ 100000 ∧ (∀ r ∈ rs, r.w.length ≤ 2) ∧ R (toldD (goF rs s ns 0)) M
theorem told_go {M : Mm} {R : DQ} {rs : List Rl} {s : St2} {ns : List Int} (h1 : rs.length ≤ 100000) (h2 : ns.length ≤ 100000) (h3 : s.2.length ≤ 100000) (h4 : ∀ r ∈ rs, r.w.length ≤ 2) (h : R (toldD (goF rs s ns 0)) M) : sp__law_told [progD rs, stD s, .tup (ns.map D.int)] M R := ⟨rs, s, ns, rfl, h1, h2, h3, h4, h⟩
theorem ok__law_told {f__law_told f_walked : Addr} {fd__law_told fd_walked : FuncData} {f_PileError f_NoRun f_NoText f_TooLong f_TooMany f_NoTable f_NoRule f_NoRow f_NoRun_init : Addr} (TX : Exs K mg f_PileError f_NoRun f_NoText f_TooLong f_TooMany f_NoTable f_NoRule f_NoRow f_NoRun_init) (F__law_told : Fun K "_law_told" "_law_told" st__law_told f__law_told fd__law_told) (G_walked : FnOk P w K mg base (L2.CX P w) 3 f_walked fd_walked ["program", "stand", "run"] (toSpX K (sp_walked f_NoRun))) (g_walked : mg "walked" = some (.ref f_walked)) (k_walked : PySem.W.keepIn K (.ref f_walked) = true) (b_walked : Binds K fd_walked ["program", "stand", "run"] []) (z_isinstance : mg "isinstance" = none) (z_bool : mg "bool" = none) (z_ValueError : mg "ValueError" = none) : FnOk P w K mg base CX0 4 f__law_told fd__law_told ["_law_program_here", "_law_stand", "_law_run"] (toSp K sp__law_told) := by
  refine fn_ok (k := 3) F__law_told sc__law_told (fun ds M R h => ?_) (fun cdv A outer s H E hr => ⟨_, (jb_one (js_tryAs (i := 3) sc__law_told.nd ⟨by rfl, by decide, .inl TX.m_PileError⟩ takes0 (jtb_of fun W pn xe tk po => (jb_one (js_retX (jx_lst (jax_cons (jx_call G_walked tk (hr.mono (by decide)) (by rfl) g_walked k_walked b_walked (jax_of (ja_cons (jv 0) (ja_cons (jv 1) (ja_cons (jv 2) ja_nil))))) (jax_of ja_nil)))))) (jsu_of fun a oe C d pn hz hf => (jb_cons (js_set (i := 4) sc__law_told.nd (je_isX hz hf z_isinstance (ja_cons (jv 3) (ja_cons (je_tup (ja_cons (je_gcls (by rfl) TX.m_NoText) (ja_cons (je_gcls (by rfl) TX.m_TooLong) (ja_cons (je_gcls (by rfl) TX.m_TooMany) (ja_cons (je_gcls (by rfl) TX.m_NoTable) (ja_cons (je_gcls (by rfl) TX.m_NoRule) (ja_cons (je_gcls (by rfl) TX.m_NoRow) ja_nil))))))) ja_nil)))) (jb_cons (js_if (JW.jt (jw_or (jt_not (jt_val (je_isX hz hf z_isinstance (ja_cons (jv 3) (ja_cons (je_gcls (by rfl) TX.m_NoRun) ja_nil))))) (jw_or (jt_not (jt_val (je_isX hz hf z_isinstance (ja_cons (jv 3) (ja_cons (je_ty (by rfl) z_ValueError rfl) ja_nil))))) (jw_or (jt_val (jv 4)) (jw_or1 (jt_val (je_isi z_isinstance (ja_cons (je_xf TX.c_NoRun.xf TX.n_NoRun hz hf (jv 3)) (ja_cons (je_ty (by rfl) z_bool PyProof.Rows.boot_bool) ja_nil))))))))) (jb_one (js_ret je_non)) jb_nil) (jb_one (js_ret (je_xf TX.c_NoRun.xf TX.n_NoRun hz hf (jv 3))))))))), fun ds M R h => ?_⟩)
  · unfold sp__law_told at h
    first | (obtain ⟨rfl, _⟩ := h; rfl) | (obtain ⟨_, rfl, _⟩ := h; rfl) | (obtain ⟨_, _, rfl, _⟩ := h; rfl) | (obtain ⟨_, _, _, rfl, _⟩ := h; rfl) | (obtain ⟨_, _, _, _, rfl, _⟩ := h; rfl) | (obtain ⟨_, _, _, _, _, rfl, _⟩ := h; rfl) | (obtain ⟨_, _, _, _, _, _, rfl, _⟩ := h; rfl) | (obtain ⟨_, _, _, _, _, _, _, rfl, _⟩ := h; rfl) | (obtain ⟨_, _, _, _, _, _, _, _, rfl, _⟩ := h; rfl) | (split at h <;> first | rfl | exact h.elim)
  · unfold sp__law_told at h
    obtain ⟨rs, s, ns, rfl, hl, hn, hs, hw, k⟩ := h
    simp only [dNext, dBreak, dCont, dDrop, dRet, dRetN, dIfS, dAsg, dputS, dlputS, dOp, dVar, dC, dget_zero, dget_succ, dTest, isB, dNil, dCons, dgName, dTup, dCB, dFresh, dFrz, dFreshD, dFrzD, dDispD, dDisp, dBM, dBM0, dAndV, dOrV, dNotV, dAnd, dOr, dNot, dCall, dNeg, dIf, dFor, dSl, dPart, dNoPart, diRng1, diRng2, diAny, isI, dstart, List.set_cons_zero, List.set_cons_succ, List.map_cons, List.map_nil, List.length_cons, List.length_nil, List.cons_append, List.nil_append, Nat.reduceAdd, Nat.reduceSub, Int.reduceAdd, Int.reduceSub, List.replicate, isLst, dgTup, dgCons, dgNil, dListOf, dJoin, dIndex, dRev, diZip, dPar2, diEnum, dRetX, dDropX, dAsgX, dCallX, dConsX, dTupX, dFrzX, dRaise0, dRaise1, dTryAs, dTryOnly, dXf, asEnds, dLc, wipeD, dCat, dSlL, dPairs, dGet2, dGet1, isDic, ite_true, ite_false, if_true, if_false, reduceIte, Bool.false_eq_true, Bool.true_eq_false, and_true, true_and, rdL_lst, rdL_ref, rdS_lst, rdS_ref, rdS_tup, rdD_dic, rdD_ref, addR_ii, addR_ib, addR_ss, addR_tt, addR_LL, subR_ii, mulR_ii, mulA_ii, mulA_t, mulA_L, modR_ii, fdivR_ii, powR_ii, ltR_ii, leR_ii, gtR_ii, geR_ii, keyD_s, keyD_i, dgetR, eqR_ii, eqR_ss, eqR_bb, eqR_tt, eqR_LL, neR_ii, neR_ss, neR_bb, neR_tt, neR_LL, eqM_ii, eqM_ss, eqM_bb, eqM_tt, eqM_LL, okD_i, okD_s, okD_b, okD_n, okD_t, okD_L, deck_at, deck_sum, deck_cells, deck_len, deck_put, dicOf_mup_same, lstOf_mup_same, int1R_b, int1R_i, ix_t0, ix_t1, ix_t2, ix_t3, ix_t4, lenR_t, lenR_s, lenR_L, slR_t, slR_s, slR_L, cutL_from1, cutL_from2, revR_t, revR_L, tup1R_L, tup1R_t, beq_self_eq_true, Bool.not_true, Bool.not_false, Option.isSome_some, List.isEmpty_nil, List.isEmpty_cons, isR_nn, isR_tn, isR_Ln, isR_sn, isR_in, isR_bn, isR_bb, isNotR_nn, isNotR_tn, isNotR_Ln, isNotR_sn, isNotR_in, isNotR_bn, isNotR_bb, isi_t_bool, isi_t_int, isi_t_str, isi_t_tuple, isi_t_list, isi_t_dict, isi_s_bool, isi_s_int, isi_s_str, isi_s_tuple, isi_s_list, isi_s_dict, isi_i_bool, isi_i_int, isi_i_str, isi_i_tuple, isi_i_list, isi_i_dict, isi_b_bool, isi_b_int, isi_b_str, isi_b_tuple, isi_b_list, isi_b_dict, isi_n_bool, isi_n_int, isi_n_str, isi_n_tuple, isi_n_list, isi_n_dict, isi_L_bool, isi_L_int, isi_L_str, isi_L_tuple, isi_L_list, isi_L_dict, isi_d_bool, isi_d_int, isi_d_str, isi_d_tuple, isi_d_list, isi_d_dict, natlit_eq, Int.reduceNeg, N__law_told]
    refine walked_go hl hn hs hw (fun t e => ?_) (fun j e => ?_)
    · rw [e] at k
      exact ⟨by decide, Shr.all k⟩
    · rw [e] at k
      refine dAs_go (exm_own TX.c_PileError TX.s_NoRun_PileError) (fun a ha e => by cases e) (fun a dd ha hdd hne => ?_)
      have T := TX.c_NoRun.exc
      have hD : DicX (some dd) (mup M dd (.xd [("at", .int (j : Nat))])) := ⟨_, mup_same⟩
      simp only [dNext, dBreak, dCont, dDrop, dRet, dRetN, dIfS, dAsg, dputS, dlputS, dOp, dVar, dC, dget_zero, dget_succ, dTest, isB, dNil, dCons, dgName, dTup, dCB, dFresh, dFrz, dFreshD, dFrzD, dDispD, dDisp, dBM, dBM0, dAndV, dOrV, dNotV, dAnd, dOr, dNot, dCall, dNeg, dIf, dFor, dSl, dPart, dNoPart, diRng1, diRng2, diAny, isI, dstart, List.set_cons_zero, List.set_cons_succ, List.map_cons, List.map_nil, List.length_cons, List.length_nil, List.cons_append, List.nil_append, Nat.reduceAdd, Nat.reduceSub, Int.reduceAdd, Int.reduceSub, List.replicate, isLst, dgTup, dgCons, dgNil, dListOf, dJoin, dIndex, dRev, diZip, dPar2, diEnum, dRetX, dDropX, dAsgX, dCallX, dConsX, dTupX, dFrzX, dRaise0, dRaise1, dTryAs, dTryOnly, dXf, asEnds, dLc, wipeD, dCat, dSlL, dPairs, dGet2, dGet1, isDic, ite_true, ite_false, if_true, if_false, reduceIte, Bool.false_eq_true, Bool.true_eq_false, and_true, true_and, rdL_lst, rdL_ref, rdS_lst, rdS_ref, rdS_tup, rdD_dic, rdD_ref, addR_ii, addR_ib, addR_ss, addR_tt, addR_LL, subR_ii, mulR_ii, mulA_ii, mulA_t, mulA_L, modR_ii, fdivR_ii, powR_ii, ltR_ii, leR_ii, gtR_ii, geR_ii, keyD_s, keyD_i, dgetR, eqR_ii, eqR_ss, eqR_bb, eqR_tt, eqR_LL, neR_ii, neR_ss, neR_bb, neR_tt, neR_LL, eqM_ii, eqM_ss, eqM_bb, eqM_tt, eqM_LL, okD_i, okD_s, okD_b, okD_n, okD_t, okD_L, deck_at, deck_sum, deck_cells, deck_len, deck_put, dicOf_mup_same, lstOf_mup_same, int1R_b, int1R_i, ix_t0, ix_t1, ix_t2, ix_t3, ix_t4, lenR_t, lenR_s, lenR_L, slR_t, slR_s, slR_L, cutL_from1, cutL_from2, revR_t, revR_L, tup1R_L, tup1R_t, beq_self_eq_true, Bool.not_true, Bool.not_false, Option.isSome_some, List.isEmpty_nil, List.isEmpty_cons, isR_nn, isR_tn, isR_Ln, isR_sn, isR_in, isR_bn, isR_bb, isNotR_nn, isNotR_tn, isNotR_Ln, isNotR_sn, isNotR_in, isNotR_bn, isNotR_bb, isi_t_bool, isi_t_int, isi_t_str, isi_t_tuple, isi_t_list, isi_t_dict, isi_s_bool, isi_s_int, isi_s_str, isi_s_tuple, isi_s_list, isi_s_dict, isi_i_bool, isi_i_int, isi_i_str, isi_i_tuple, isi_i_list, isi_i_dict, isi_b_bool, isi_b_int, isi_b_str, isi_b_tuple, isi_b_list, isi_b_dict, isi_n_bool, isi_n_int, isi_n_str, isi_n_tuple, isi_n_list, isi_n_dict, isi_L_bool, isi_L_int, isi_L_str, isi_L_tuple, isi_L_list, isi_L_dict, isi_d_bool, isi_d_int, isi_d_str, isi_d_tuple, isi_d_list, isi_d_dict, natlit_eq, Int.reduceNeg]
      refine seq_go ?_
      try simp only [dNext, dBreak, dCont, dDrop, dRet, dRetN, dIfS, dAsg, dputS, dlputS, dOp, dVar, dC, dget_zero, dget_succ, dTest, isB, dNil, dCons, dgName, dTup, dCB, dFresh, dFrz, dFreshD, dFrzD, dDispD, dDisp, dBM, dBM0, dAndV, dOrV, dNotV, dAnd, dOr, dNot, dCall, dNeg, dIf, dFor, dSl, dPart, dNoPart, diRng1, diRng2, diAny, isI, dstart, List.set_cons_zero, List.set_cons_succ, List.map_cons, List.map_nil, List.length_cons, List.length_nil, List.cons_append, List.nil_append, Nat.reduceAdd, Nat.reduceSub, Int.reduceAdd, Int.reduceSub, List.replicate, isLst, dgTup, dgCons, dgNil, dListOf, dJoin, dIndex, dRev, diZip, dPar2, diEnum, dRetX, dDropX, dAsgX, dCallX, dConsX, dTupX, dFrzX, dRaise0, dRaise1, dTryAs, dTryOnly, dXf, asEnds, dLc, wipeD, dCat, dSlL, dPairs, dGet2, dGet1, isDic, ite_true, ite_false, if_true, if_false, reduceIte, Bool.false_eq_true, Bool.true_eq_false, and_true, true_and, rdL_lst, rdL_ref, rdS_lst, rdS_ref, rdS_tup, rdD_dic, rdD_ref, addR_ii, addR_ib, addR_ss, addR_tt, addR_LL, subR_ii, mulR_ii, mulA_ii, mulA_t, mulA_L, modR_ii, fdivR_ii, powR_ii, ltR_ii, leR_ii, gtR_ii, geR_ii, keyD_s, keyD_i, dgetR, eqR_ii, eqR_ss, eqR_bb, eqR_tt, eqR_LL, neR_ii, neR_ss, neR_bb, neR_tt, neR_LL, eqM_ii, eqM_ss, eqM_bb, eqM_tt, eqM_LL, okD_i, okD_s, okD_b, okD_n, okD_t, okD_L, deck_at, deck_sum, deck_cells, deck_len, deck_put, dicOf_mup_same, lstOf_mup_same, int1R_b, int1R_i, ix_t0, ix_t1, ix_t2, ix_t3, ix_t4, lenR_t, lenR_s, lenR_L, slR_t, slR_s, slR_L, cutL_from1, cutL_from2, revR_t, revR_L, tup1R_L, tup1R_t, beq_self_eq_true, Bool.not_true, Bool.not_false, Option.isSome_some, List.isEmpty_nil, List.isEmpty_cons, isR_nn, isR_tn, isR_Ln, isR_sn, isR_in, isR_bn, isR_bb, isNotR_nn, isNotR_tn, isNotR_Ln, isNotR_sn, isNotR_in, isNotR_bn, isNotR_bb, isi_t_bool, isi_t_int, isi_t_str, isi_t_tuple, isi_t_list, isi_t_dict, isi_s_bool, isi_s_int, isi_s_str, isi_s_tuple, isi_s_list, isi_s_dict, isi_i_bool, isi_i_int, isi_i_str, isi_i_tuple, isi_i_list, isi_i_dict, isi_b_bool, isi_b_int, isi_b_str, isi_b_tuple, isi_b_list, isi_b_dict, isi_n_bool, isi_n_int, isi_n_str, isi_n_tuple, isi_n_list, isi_n_dict, isi_L_bool, isi_L_int, isi_L_str, isi_L_tuple, isi_L_list, isi_L_dict, isi_d_bool, isi_d_int, isi_d_str, isi_d_tuple, isi_d_list, isi_d_dict, natlit_eq, Int.reduceNeg]
      refine ⟨by decide, ?_⟩
      refine isX_tup (k := false) T hD rfl (kitAny_no (kit_own TX.c_NoRun TX.c_NoText TX.s_NoRun_NoText) (kitAny_no (kit_own TX.c_NoRun TX.c_TooLong TX.s_NoRun_TooLong) (kitAny_no (kit_own TX.c_NoRun TX.c_TooMany TX.s_NoRun_TooMany) (kitAny_no (kit_own TX.c_NoRun TX.c_NoTable TX.s_NoRun_NoTable)
        (kitAny_no (kit_own TX.c_NoRun TX.c_NoRule TX.s_NoRun_NoRule) (kitAny_no (kit_own TX.c_NoRun TX.c_NoRow TX.s_NoRun_NoRow) kitAny_nil)))))) ?_
      try simp only [dNext, dBreak, dCont, dDrop, dRet, dRetN, dIfS, dAsg, dputS, dlputS, dOp, dVar, dC, dget_zero, dget_succ, dTest, isB, dNil, dCons, dgName, dTup, dCB, dFresh, dFrz, dFreshD, dFrzD, dDispD, dDisp, dBM, dBM0, dAndV, dOrV, dNotV, dAnd, dOr, dNot, dCall, dNeg, dIf, dFor, dSl, dPart, dNoPart, diRng1, diRng2, diAny, isI, dstart, List.set_cons_zero, List.set_cons_succ, List.map_cons, List.map_nil, List.length_cons, List.length_nil, List.cons_append, List.nil_append, Nat.reduceAdd, Nat.reduceSub, Int.reduceAdd, Int.reduceSub, List.replicate, isLst, dgTup, dgCons, dgNil, dListOf, dJoin, dIndex, dRev, diZip, dPar2, diEnum, dRetX, dDropX, dAsgX, dCallX, dConsX, dTupX, dFrzX, dRaise0, dRaise1, dTryAs, dTryOnly, dXf, asEnds, dLc, wipeD, dCat, dSlL, dPairs, dGet2, dGet1, isDic, ite_true, ite_false, if_true, if_false, reduceIte, Bool.false_eq_true, Bool.true_eq_false, and_true, true_and, rdL_lst, rdL_ref, rdS_lst, rdS_ref, rdS_tup, rdD_dic, rdD_ref, addR_ii, addR_ib, addR_ss, addR_tt, addR_LL, subR_ii, mulR_ii, mulA_ii, mulA_t, mulA_L, modR_ii, fdivR_ii, powR_ii, ltR_ii, leR_ii, gtR_ii, geR_ii, keyD_s, keyD_i, dgetR, eqR_ii, eqR_ss, eqR_bb, eqR_tt, eqR_LL, neR_ii, neR_ss, neR_bb, neR_tt, neR_LL, eqM_ii, eqM_ss, eqM_bb, eqM_tt, eqM_LL, okD_i, okD_s, okD_b, okD_n, okD_t, okD_L, deck_at, deck_sum, deck_cells, deck_len, deck_put, dicOf_mup_same, lstOf_mup_same, int1R_b, int1R_i, ix_t0, ix_t1, ix_t2, ix_t3, ix_t4, lenR_t, lenR_s, lenR_L, slR_t, slR_s, slR_L, cutL_from1, cutL_from2, revR_t, revR_L, tup1R_L, tup1R_t, beq_self_eq_true, Bool.not_true, Bool.not_false, Option.isSome_some, List.isEmpty_nil, List.isEmpty_cons, isR_nn, isR_tn, isR_Ln, isR_sn, isR_in, isR_bn, isR_bb, isNotR_nn, isNotR_tn, isNotR_Ln, isNotR_sn, isNotR_in, isNotR_bn, isNotR_bb, isi_t_bool, isi_t_int, isi_t_str, isi_t_tuple, isi_t_list, isi_t_dict, isi_s_bool, isi_s_int, isi_s_str, isi_s_tuple, isi_s_list, isi_s_dict, isi_i_bool, isi_i_int, isi_i_str, isi_i_tuple, isi_i_list, isi_i_dict, isi_b_bool, isi_b_int, isi_b_str, isi_b_tuple, isi_b_list, isi_b_dict, isi_n_bool, isi_n_int, isi_n_str, isi_n_tuple, isi_n_list, isi_n_dict, isi_L_bool, isi_L_int, isi_L_str, isi_L_tuple, isi_L_list, isi_L_dict, isi_d_bool, isi_d_int, isi_d_str, isi_d_tuple, isi_d_list, isi_d_dict, natlit_eq, Int.reduceNeg]
      refine seq_go ?_
      try simp only [dNext, dBreak, dCont, dDrop, dRet, dRetN, dIfS, dAsg, dputS, dlputS, dOp, dVar, dC, dget_zero, dget_succ, dTest, isB, dNil, dCons, dgName, dTup, dCB, dFresh, dFrz, dFreshD, dFrzD, dDispD, dDisp, dBM, dBM0, dAndV, dOrV, dNotV, dAnd, dOr, dNot, dCall, dNeg, dIf, dFor, dSl, dPart, dNoPart, diRng1, diRng2, diAny, isI, dstart, List.set_cons_zero, List.set_cons_succ, List.map_cons, List.map_nil, List.length_cons, List.length_nil, List.cons_append, List.nil_append, Nat.reduceAdd, Nat.reduceSub, Int.reduceAdd, Int.reduceSub, List.replicate, isLst, dgTup, dgCons, dgNil, dListOf, dJoin, dIndex, dRev, diZip, dPar2, diEnum, dRetX, dDropX, dAsgX, dCallX, dConsX, dTupX, dFrzX, dRaise0, dRaise1, dTryAs, dTryOnly, dXf, asEnds, dLc, wipeD, dCat, dSlL, dPairs, dGet2, dGet1, isDic, ite_true, ite_false, if_true, if_false, reduceIte, Bool.false_eq_true, Bool.true_eq_false, and_true, true_and, rdL_lst, rdL_ref, rdS_lst, rdS_ref, rdS_tup, rdD_dic, rdD_ref, addR_ii, addR_ib, addR_ss, addR_tt, addR_LL, subR_ii, mulR_ii, mulA_ii, mulA_t, mulA_L, modR_ii, fdivR_ii, powR_ii, ltR_ii, leR_ii, gtR_ii, geR_ii, keyD_s, keyD_i, dgetR, eqR_ii, eqR_ss, eqR_bb, eqR_tt, eqR_LL, neR_ii, neR_ss, neR_bb, neR_tt, neR_LL, eqM_ii, eqM_ss, eqM_bb, eqM_tt, eqM_LL, okD_i, okD_s, okD_b, okD_n, okD_t, okD_L, deck_at, deck_sum, deck_cells, deck_len, deck_put, dicOf_mup_same, lstOf_mup_same, int1R_b, int1R_i, ix_t0, ix_t1, ix_t2, ix_t3, ix_t4, lenR_t, lenR_s, lenR_L, slR_t, slR_s, slR_L, cutL_from1, cutL_from2, revR_t, revR_L, tup1R_L, tup1R_t, beq_self_eq_true, Bool.not_true, Bool.not_false, Option.isSome_some, List.isEmpty_nil, List.isEmpty_cons, isR_nn, isR_tn, isR_Ln, isR_sn, isR_in, isR_bn, isR_bb, isNotR_nn, isNotR_tn, isNotR_Ln, isNotR_sn, isNotR_in, isNotR_bn, isNotR_bb, isi_t_bool, isi_t_int, isi_t_str, isi_t_tuple, isi_t_list, isi_t_dict, isi_s_bool, isi_s_int, isi_s_str, isi_s_tuple, isi_s_list, isi_s_dict, isi_i_bool, isi_i_int, isi_i_str, isi_i_tuple, isi_i_list, isi_i_dict, isi_b_bool, isi_b_int, isi_b_str, isi_b_tuple, isi_b_list, isi_b_dict, isi_n_bool, isi_n_int, isi_n_str, isi_n_tuple, isi_n_list, isi_n_dict, isi_L_bool, isi_L_int, isi_L_str, isi_L_tuple, isi_L_list, isi_L_dict, isi_d_bool, isi_d_int, isi_d_str, isi_d_tuple, isi_d_list, isi_d_dict, natlit_eq, Int.reduceNeg]
      refine isX_ref T hD (kit_own TX.c_NoRun TX.c_NoRun TX.s_NoRun_NoRun) ?_
      try simp only [dNext, dBreak, dCont, dDrop, dRet, dRetN, dIfS, dAsg, dputS, dlputS, dOp, dVar, dC, dget_zero, dget_succ, dTest, isB, dNil, dCons, dgName, dTup, dCB, dFresh, dFrz, dFreshD, dFrzD, dDispD, dDisp, dBM, dBM0, dAndV, dOrV, dNotV, dAnd, dOr, dNot, dCall, dNeg, dIf, dFor, dSl, dPart, dNoPart, diRng1, diRng2, diAny, isI, dstart, List.set_cons_zero, List.set_cons_succ, List.map_cons, List.map_nil, List.length_cons, List.length_nil, List.cons_append, List.nil_append, Nat.reduceAdd, Nat.reduceSub, Int.reduceAdd, Int.reduceSub, List.replicate, isLst, dgTup, dgCons, dgNil, dListOf, dJoin, dIndex, dRev, diZip, dPar2, diEnum, dRetX, dDropX, dAsgX, dCallX, dConsX, dTupX, dFrzX, dRaise0, dRaise1, dTryAs, dTryOnly, dXf, asEnds, dLc, wipeD, dCat, dSlL, dPairs, dGet2, dGet1, isDic, ite_true, ite_false, if_true, if_false, reduceIte, Bool.false_eq_true, Bool.true_eq_false, and_true, true_and, rdL_lst, rdL_ref, rdS_lst, rdS_ref, rdS_tup, rdD_dic, rdD_ref, addR_ii, addR_ib, addR_ss, addR_tt, addR_LL, subR_ii, mulR_ii, mulA_ii, mulA_t, mulA_L, modR_ii, fdivR_ii, powR_ii, ltR_ii, leR_ii, gtR_ii, geR_ii, keyD_s, keyD_i, dgetR, eqR_ii, eqR_ss, eqR_bb, eqR_tt, eqR_LL, neR_ii, neR_ss, neR_bb, neR_tt, neR_LL, eqM_ii, eqM_ss, eqM_bb, eqM_tt, eqM_LL, okD_i, okD_s, okD_b, okD_n, okD_t, okD_L, deck_at, deck_sum, deck_cells, deck_len, deck_put, dicOf_mup_same, lstOf_mup_same, int1R_b, int1R_i, ix_t0, ix_t1, ix_t2, ix_t3, ix_t4, lenR_t, lenR_s, lenR_L, slR_t, slR_s, slR_L, cutL_from1, cutL_from2, revR_t, revR_L, tup1R_L, tup1R_t, beq_self_eq_true, Bool.not_true, Bool.not_false, Option.isSome_some, List.isEmpty_nil, List.isEmpty_cons, isR_nn, isR_tn, isR_Ln, isR_sn, isR_in, isR_bn, isR_bb, isNotR_nn, isNotR_tn, isNotR_Ln, isNotR_sn, isNotR_in, isNotR_bn, isNotR_bb, isi_t_bool, isi_t_int, isi_t_str, isi_t_tuple, isi_t_list, isi_t_dict, isi_s_bool, isi_s_int, isi_s_str, isi_s_tuple, isi_s_list, isi_s_dict, isi_i_bool, isi_i_int, isi_i_str, isi_i_tuple, isi_i_list, isi_i_dict, isi_b_bool, isi_b_int, isi_b_str, isi_b_tuple, isi_b_list, isi_b_dict, isi_n_bool, isi_n_int, isi_n_str, isi_n_tuple, isi_n_list, isi_n_dict, isi_L_bool, isi_L_int, isi_L_str, isi_L_tuple, isi_L_list, isi_L_dict, isi_d_bool, isi_d_int, isi_d_str, isi_d_tuple, isi_d_list, isi_d_dict, natlit_eq, Int.reduceNeg]
      refine isX_ty T hD (kit_ve TX.c_NoRun) ?_
      try simp only [dNext, dBreak, dCont, dDrop, dRet, dRetN, dIfS, dAsg, dputS, dlputS, dOp, dVar, dC, dget_zero, dget_succ, dTest, isB, dNil, dCons, dgName, dTup, dCB, dFresh, dFrz, dFreshD, dFrzD, dDispD, dDisp, dBM, dBM0, dAndV, dOrV, dNotV, dAnd, dOr, dNot, dCall, dNeg, dIf, dFor, dSl, dPart, dNoPart, diRng1, diRng2, diAny, isI, dstart, List.set_cons_zero, List.set_cons_succ, List.map_cons, List.map_nil, List.length_cons, List.length_nil, List.cons_append, List.nil_append, Nat.reduceAdd, Nat.reduceSub, Int.reduceAdd, Int.reduceSub, List.replicate, isLst, dgTup, dgCons, dgNil, dListOf, dJoin, dIndex, dRev, diZip, dPar2, diEnum, dRetX, dDropX, dAsgX, dCallX, dConsX, dTupX, dFrzX, dRaise0, dRaise1, dTryAs, dTryOnly, dXf, asEnds, dLc, wipeD, dCat, dSlL, dPairs, dGet2, dGet1, isDic, ite_true, ite_false, if_true, if_false, reduceIte, Bool.false_eq_true, Bool.true_eq_false, and_true, true_and, rdL_lst, rdL_ref, rdS_lst, rdS_ref, rdS_tup, rdD_dic, rdD_ref, addR_ii, addR_ib, addR_ss, addR_tt, addR_LL, subR_ii, mulR_ii, mulA_ii, mulA_t, mulA_L, modR_ii, fdivR_ii, powR_ii, ltR_ii, leR_ii, gtR_ii, geR_ii, keyD_s, keyD_i, dgetR, eqR_ii, eqR_ss, eqR_bb, eqR_tt, eqR_LL, neR_ii, neR_ss, neR_bb, neR_tt, neR_LL, eqM_ii, eqM_ss, eqM_bb, eqM_tt, eqM_LL, okD_i, okD_s, okD_b, okD_n, okD_t, okD_L, deck_at, deck_sum, deck_cells, deck_len, deck_put, dicOf_mup_same, lstOf_mup_same, int1R_b, int1R_i, ix_t0, ix_t1, ix_t2, ix_t3, ix_t4, lenR_t, lenR_s, lenR_L, slR_t, slR_s, slR_L, cutL_from1, cutL_from2, revR_t, revR_L, tup1R_L, tup1R_t, beq_self_eq_true, Bool.not_true, Bool.not_false, Option.isSome_some, List.isEmpty_nil, List.isEmpty_cons, isR_nn, isR_tn, isR_Ln, isR_sn, isR_in, isR_bn, isR_bb, isNotR_nn, isNotR_tn, isNotR_Ln, isNotR_sn, isNotR_in, isNotR_bn, isNotR_bb, isi_t_bool, isi_t_int, isi_t_str, isi_t_tuple, isi_t_list, isi_t_dict, isi_s_bool, isi_s_int, isi_s_str, isi_s_tuple, isi_s_list, isi_s_dict, isi_i_bool, isi_i_int, isi_i_str, isi_i_tuple, isi_i_list, isi_i_dict, isi_b_bool, isi_b_int, isi_b_str, isi_b_tuple, isi_b_list, isi_b_dict, isi_n_bool, isi_n_int, isi_n_str, isi_n_tuple, isi_n_list, isi_n_dict, isi_L_bool, isi_L_int, isi_L_str, isi_L_tuple, isi_L_list, isi_L_dict, isi_d_bool, isi_d_int, isi_d_str, isi_d_tuple, isi_d_list, isi_d_dict, natlit_eq, Int.reduceNeg]
      refine ⟨dd, _, _, rfl, mup_same, rfl, ?_⟩
      try simp only [dNext, dBreak, dCont, dDrop, dRet, dRetN, dIfS, dAsg, dputS, dlputS, dOp, dVar, dC, dget_zero, dget_succ, dTest, isB, dNil, dCons, dgName, dTup, dCB, dFresh, dFrz, dFreshD, dFrzD, dDispD, dDisp, dBM, dBM0, dAndV, dOrV, dNotV, dAnd, dOr, dNot, dCall, dNeg, dIf, dFor, dSl, dPart, dNoPart, diRng1, diRng2, diAny, isI, dstart, List.set_cons_zero, List.set_cons_succ, List.map_cons, List.map_nil, List.length_cons, List.length_nil, List.cons_append, List.nil_append, Nat.reduceAdd, Nat.reduceSub, Int.reduceAdd, Int.reduceSub, List.replicate, isLst, dgTup, dgCons, dgNil, dListOf, dJoin, dIndex, dRev, diZip, dPar2, diEnum, dRetX, dDropX, dAsgX, dCallX, dConsX, dTupX, dFrzX, dRaise0, dRaise1, dTryAs, dTryOnly, dXf, asEnds, dLc, wipeD, dCat, dSlL, dPairs, dGet2, dGet1, isDic, ite_true, ite_false, if_true, if_false, reduceIte, Bool.false_eq_true, Bool.true_eq_false, and_true, true_and, rdL_lst, rdL_ref, rdS_lst, rdS_ref, rdS_tup, rdD_dic, rdD_ref, addR_ii, addR_ib, addR_ss, addR_tt, addR_LL, subR_ii, mulR_ii, mulA_ii, mulA_t, mulA_L, modR_ii, fdivR_ii, powR_ii, ltR_ii, leR_ii, gtR_ii, geR_ii, keyD_s, keyD_i, dgetR, eqR_ii, eqR_ss, eqR_bb, eqR_tt, eqR_LL, neR_ii, neR_ss, neR_bb, neR_tt, neR_LL, eqM_ii, eqM_ss, eqM_bb, eqM_tt, eqM_LL, okD_i, okD_s, okD_b, okD_n, okD_t, okD_L, deck_at, deck_sum, deck_cells, deck_len, deck_put, dicOf_mup_same, lstOf_mup_same, int1R_b, int1R_i, ix_t0, ix_t1, ix_t2, ix_t3, ix_t4, lenR_t, lenR_s, lenR_L, slR_t, slR_s, slR_L, cutL_from1, cutL_from2, revR_t, revR_L, tup1R_L, tup1R_t, beq_self_eq_true, Bool.not_true, Bool.not_false, Option.isSome_some, List.isEmpty_nil, List.isEmpty_cons, isR_nn, isR_tn, isR_Ln, isR_sn, isR_in, isR_bn, isR_bb, isNotR_nn, isNotR_tn, isNotR_Ln, isNotR_sn, isNotR_in, isNotR_bn, isNotR_bb, isi_t_bool, isi_t_int, isi_t_str, isi_t_tuple, isi_t_list, isi_t_dict, isi_s_bool, isi_s_int, isi_s_str, isi_s_tuple, isi_s_list, isi_s_dict, isi_i_bool, isi_i_int, isi_i_str, isi_i_tuple, isi_i_list, isi_i_dict, isi_b_bool, isi_b_int, isi_b_str, isi_b_tuple, isi_b_list, isi_b_dict, isi_n_bool, isi_n_int, isi_n_str, isi_n_tuple, isi_n_list, isi_n_dict, isi_L_bool, isi_L_int, isi_L_str, isi_L_tuple, isi_L_list, isi_L_dict, isi_d_bool, isi_d_int, isi_d_str, isi_d_tuple, isi_d_list, isi_d_dict, natlit_eq, Int.reduceNeg]
      refine ⟨dd, _, _, rfl, mup_same, rfl, ?_⟩
      exact Shr.of k (Sub.mup hdd)
theorem goF_len {rs : List Rl} (hw : ∀ r ∈ rs, r.w.length ≤ 2) : ∀ {ns : List Int} {s t : St2} {a : Nat}, goF rs s ns a = .inl t → t.2.length ≤ s.2.length + 2 * ns.length
  | [], s, t, a, h => by cases h; simp
  | n :: ns, s, t, a, h => by
    unfold goF at h
    split at h
    · rename_i u hu
      have := goF_len hw h
      have := behF_len2 hw hu
      simp; omega
    · cases h
def sp__law_right : DSp := fun ds M R => ∃ (rs : List Rl) (s : St2) (ns : List Int), ds = [progD rs, stD s, .tup (ns.map D.int)] ∧ rs.length ≤ 100000 ∧ ns.length ≤ 100000 ∧ s.2.length ≤ 100000 ∧ (∀ r ∈ rs, r.w.length ≤ 2) ∧ R (.bl true) M
theorem right_go {M : Mm} {R : DQ} {rs : List Rl} {s : St2} {ns : List Int} (h1 : rs.length ≤ 100000) (h2 : ns.length ≤ 100000) (h3 : s.2.length ≤ 100000) (h4 : ∀ r ∈ rs, r.w.length ≤ 2) (k : R (.bl true) M) : sp__law_right [progD rs, stD s, .tup (ns.map D.int)] M R := ⟨rs, s, ns, rfl, h1, h2, h3, h4, k⟩
theorem ok__law_right {f__law_right f__law_due f__law_told : Addr} {fd__law_right fd__law_due fd__law_told : FuncData} (F__law_right : Fun K "_law_right" "_law_right" st__law_right f__law_right fd__law_right) (G__law_due : FnOk P w K mg base CX0 2 f__law_due fd__law_due ["_law_program_here", "_law_stand", "_law_run"] (toSp K sp__law_due)) (g__law_due : mg "_law_due" = some (.ref f__law_due)) (k__law_due : PySem.W.keepIn K (.ref f__law_due) = true) (b__law_due : Binds K fd__law_due ["_law_program_here", "_law_stand", "_law_run"] []) (G__law_told : FnOk P w K mg base CX0 4 f__law_told fd__law_told ["_law_program_here", "_law_stand", "_law_run"] (toSp K sp__law_told)) (g__law_told : mg "_law_told" = some (.ref f__law_told)) (k__law_told : PySem.W.keepIn K (.ref f__law_told) = true) (b__law_told : Binds K fd__law_told ["_law_program_here", "_law_stand", "_law_run"] []) (z_isinstance : mg "isinstance" = none) (z_tuple : mg "tuple" = none) (z_list : mg "list" = none) (z_str : mg "str" = none) : FnOk P w K mg base CX0 5 f__law_right fd__law_right ["_law_program_here", "_law_stand", "_law_run"] (toSp K sp__law_right) := by
  refine fn_ok (k := 4) F__law_right sc__law_right (fun ds M R h => ?_) (fun cdv A outer s H E hr => ⟨_, (jb_cons (js_set (i := 3) sc__law_right.nd (je_call G__law_due (hr.mono (by decide)) (by rfl) g__law_due k__law_due b__law_due (ja_cons (jv 0) (ja_cons (jv 1) (ja_cons (jv 2) ja_nil)))))
      (jb_cons (js_set (i := 4) sc__law_right.nd (je_call G__law_told (hr.mono (by decide)) (by rfl) g__law_told k__law_told b__law_told (ja_cons (jv 0) (ja_cons (jv 1) (ja_cons (jv 2) ja_nil)))))
      (jb_cons (js_if (jt_not (jt_val (je_isi z_isinstance (ja_cons (jv 3) (ja_cons (je_ty (by rfl) z_tuple PyProof.Rows.boot_tuple) ja_nil))))) (jb_one (js_ret (je_and (je_not (je_isi z_isinstance (ja_cons (jv 4) (ja_cons (je_ty (by rfl) z_list PyProof.Rows.boot_list) ja_nil)))) (je_one (je_eq hr (jv 4) (jv 3)))))) jb_nil)
      (jb_cons (js_if (JW.jt (jw_or (jt_not (jt_val (je_isi z_isinstance (ja_cons (jv 4) (ja_cons (je_ty (by rfl) z_list PyProof.Rows.boot_list) ja_nil))))) (jw_or (jt_ne hr (jv 4) (je_frz (jl_disp (ja_cons (jv 3) ja_nil)))) (jw_or1 (jt_not (jt_val (je_isi z_isinstance (ja_cons (je_ix (je_ix (jv 4) je_int) je_int) (ja_cons (je_ty (by rfl) z_tuple PyProof.Rows.boot_tuple) ja_nil))))))))) (jb_one (js_ret je_bl)) jb_nil)
      (jb_one (js_ret (je_eq hr (je_frz (jl_lc rfl sc__law_right.nd (jlc (ji_any (je_add (je_slice (je_ix (jv 4) je_int) jo_none (jo_some je_int)) (je_ix (je_ix (jv 4) je_int) je_int))) (blkOk_by (own := [("_law_one", 5)]) (N := N__law_right) (sc := defScope st__law_right) (by decide +kernel)) (fun _ _ _ _ _ => (jgv_name (i := 5) sc__law_right.nd (by decide))) (fun _ _ _ _ _ => (jts_one (jt_not (jt_val (je_isi z_isinstance (ja_cons (jv 5) (ja_cons (je_ty (by rfl) z_str PyProof.Rows.boot_str) ja_nil))))))) (fun _ _ _ _ _ => (jv 5))))) (je_frz (jl_disp ja_nil))))))))), fun ds M R h => ?_⟩)
  · unfold sp__law_right at h
    first | (obtain ⟨rfl, _⟩ := h; rfl) | (obtain ⟨_, rfl, _⟩ := h; rfl) | (obtain ⟨_, _, rfl, _⟩ := h; rfl) | (obtain ⟨_, _, _, rfl, _⟩ := h; rfl) | (obtain ⟨_, _, _, _, rfl, _⟩ := h; rfl) | (obtain ⟨_, _, _, _, _, rfl, _⟩ := h; rfl) | (obtain ⟨_, _, _, _, _, _, rfl, _⟩ := h; rfl) | (obtain ⟨_, _, _, _, _, _, _, rfl, _⟩ := h; rfl) | (obtain ⟨_, _, _, _, _, _, _, _, rfl, _⟩ := h; rfl) | (split at h <;> first | rfl | exact h.elim)
  · unfold sp__law_right at h
    obtain ⟨rs, s, ns, rfl, hl, hn, hs, hw, k⟩ := h
    have hk := Shr.all k
    simp only [dNext, dBreak, dCont, dDrop, dRet, dRetN, dIfS, dAsg, dputS, dlputS, dOp, dVar, dC, dget_zero, dget_succ, dTest, isB, dNil, dCons, dgName, dTup, dCB, dFresh, dFrz, dFreshD, dFrzD, dDispD, dDisp, dBM, dBM0, dAndV, dOrV, dNotV, dAnd, dOr, dNot, dCall, dNeg, dIf, dFor, dSl, dPart, dNoPart, diRng1, diRng2, diAny, isI, dstart, List.set_cons_zero, List.set_cons_succ, List.map_cons, List.map_nil, List.length_cons, List.length_nil, List.cons_append, List.nil_append, Nat.reduceAdd, Nat.reduceSub, Int.reduceAdd, Int.reduceSub, List.replicate, isLst, dgTup, dgCons, dgNil, dListOf, dJoin, dIndex, dRev, diZip, dPar2, diEnum, dRetX, dDropX, dAsgX, dCallX, dConsX, dTupX, dFrzX, dRaise0, dRaise1, dTryAs, dTryOnly, dXf, asEnds, dLc, wipeD, dCat, dSlL, dPairs, dGet2, dGet1, isDic, ite_true, ite_false, if_true, if_false, reduceIte, Bool.false_eq_true, Bool.true_eq_false, and_true, true_and, rdL_lst, rdL_ref, rdS_lst, rdS_ref, rdS_tup, rdD_dic, rdD_ref, addR_ii, addR_ib, addR_ss, addR_tt, addR_LL, subR_ii, mulR_ii, mulA_ii, mulA_t, mulA_L, modR_ii, fdivR_ii, powR_ii, ltR_ii, leR_ii, gtR_ii, geR_ii, keyD_s, keyD_i, dgetR, eqR_ii, eqR_ss, eqR_bb, eqR_tt, eqR_LL, neR_ii, neR_ss, neR_bb, neR_tt, neR_LL, eqM_ii, eqM_ss, eqM_bb, eqM_tt, eqM_LL, okD_i, okD_s, okD_b, okD_n, okD_t, okD_L, deck_at, deck_sum, deck_cells, deck_len, deck_put, dicOf_mup_same, lstOf_mup_same, int1R_b, int1R_i, ix_t0, ix_t1, ix_t2, ix_t3, ix_t4, lenR_t, lenR_s, lenR_L, slR_t, slR_s, slR_L, cutL_from1, cutL_from2, revR_t, revR_L, tup1R_L, tup1R_t, beq_self_eq_true, Bool.not_true, Bool.not_false, Option.isSome_some, List.isEmpty_nil, List.isEmpty_cons, isR_nn, isR_tn, isR_Ln, isR_sn, isR_in, isR_bn, isR_bb, isNotR_nn, isNotR_tn, isNotR_Ln, isNotR_sn, isNotR_in, isNotR_bn, isNotR_bb, isi_t_bool, isi_t_int, isi_t_str, isi_t_tuple, isi_t_list, isi_t_dict, isi_s_bool, isi_s_int, isi_s_str, isi_s_tuple, isi_s_list, isi_s_dict, isi_i_bool, isi_i_int, isi_i_str, isi_i_tuple, isi_i_list, isi_i_dict, isi_b_bool, isi_b_int, isi_b_str, isi_b_tuple, isi_b_list, isi_b_dict, isi_n_bool, isi_n_int, isi_n_str, isi_n_tuple, isi_n_list, isi_n_dict, isi_L_bool, isi_L_int, isi_L_str, isi_L_tuple, isi_L_list, isi_L_dict, isi_d_bool, isi_d_int, isi_d_str, isi_d_tuple, isi_d_list, isi_d_dict, natlit_eq, Int.reduceNeg, puts, appendR_same, lenR_same, tup1R_same, sz0, sz1, sz2, sz3, sz4, sz5, sz6, sz7, sz8, sz9, sz10, ix_L0, ix_L1, ix_L2, ix_Lbs, dep_nil, dep_cons, dep_tup, dep_lst, dep_str, dep_int, dep_bl, dep_non, dep_strs, dep_ints, dep_app, dep_rules, dep_prog, dep_st, pu_nil, pu_cons, pu_tup, pu_lst, pu_str, pu_int, pu_bl, pu_non, pu_app, pureDs_str, pureDs_int, pu_rule, pu_rules, pu_prog, pu_st, eqv_self, eqvDs_nil, Bool.and_self, Bool.and_true, Bool.true_and, List.length_map, List.length_append, Int.zero_add, Nat.zero_add, cutL_to1, cutL_to2, cutL_to3, cutL_to15, List.take_succ_cons, List.take_zero, List.take_nil, List.drop_succ_cons, List.drop_zero, List.drop_nil, max2R_ii, min2R_ii, cutL_toN, cutL_toS, cutL_fromN, cutL_fromS, List.length_take, List.length_drop, ← List.map_take, ← List.map_drop, ← List.map_append, neR_prog0, eqR_prog0, lenR_prog, rep1, List.length_replicate, Int.toNat_natCast, ofLst_L, sumLR_map, allLR_map, anyLR_map, ofString_beq, ofString_inj, String.reduceBEq, String.reduceEq, decide_true, decide_false, extA_t, extA_L, isSome_same, List.length_reverse, ← List.map_reverse, N__law_right]
    refine seq_go ?_
    try simp only [dNext, dBreak, dCont, dDrop, dRet, dRetN, dIfS, dAsg, dputS, dlputS, dOp, dVar, dC, dget_zero, dget_succ, dTest, isB, dNil, dCons, dgName, dTup, dCB, dFresh, dFrz, dFreshD, dFrzD, dDispD, dDisp, dBM, dBM0, dAndV, dOrV, dNotV, dAnd, dOr, dNot, dCall, dNeg, dIf, dFor, dSl, dPart, dNoPart, diRng1, diRng2, diAny, isI, dstart, List.set_cons_zero, List.set_cons_succ, List.map_cons, List.map_nil, List.length_cons, List.length_nil, List.cons_append, List.nil_append, Nat.reduceAdd, Nat.reduceSub, Int.reduceAdd, Int.reduceSub, List.replicate, isLst, dgTup, dgCons, dgNil, dListOf, dJoin, dIndex, dRev, diZip, dPar2, diEnum, dRetX, dDropX, dAsgX, dCallX, dConsX, dTupX, dFrzX, dRaise0, dRaise1, dTryAs, dTryOnly, dXf, asEnds, dLc, wipeD, dCat, dSlL, dPairs, dGet2, dGet1, isDic, ite_true, ite_false, if_true, if_false, reduceIte, Bool.false_eq_true, Bool.true_eq_false, and_true, true_and, rdL_lst, rdL_ref, rdS_lst, rdS_ref, rdS_tup, rdD_dic, rdD_ref, addR_ii, addR_ib, addR_ss, addR_tt, addR_LL, subR_ii, mulR_ii, mulA_ii, mulA_t, mulA_L, modR_ii, fdivR_ii, powR_ii, ltR_ii, leR_ii, gtR_ii, geR_ii, keyD_s, keyD_i, dgetR, eqR_ii, eqR_ss, eqR_bb, eqR_tt, eqR_LL, neR_ii, neR_ss, neR_bb, neR_tt, neR_LL, eqM_ii, eqM_ss, eqM_bb, eqM_tt, eqM_LL, okD_i, okD_s, okD_b, okD_n, okD_t, okD_L, deck_at, deck_sum, deck_cells, deck_len, deck_put, dicOf_mup_same, lstOf_mup_same, int1R_b, int1R_i, ix_t0, ix_t1, ix_t2, ix_t3, ix_t4, lenR_t, lenR_s, lenR_L, slR_t, slR_s, slR_L, cutL_from1, cutL_from2, revR_t, revR_L, tup1R_L, tup1R_t, beq_self_eq_true, Bool.not_true, Bool.not_false, Option.isSome_some, List.isEmpty_nil, List.isEmpty_cons, isR_nn, isR_tn, isR_Ln, isR_sn, isR_in, isR_bn, isR_bb, isNotR_nn, isNotR_tn, isNotR_Ln, isNotR_sn, isNotR_in, isNotR_bn, isNotR_bb, isi_t_bool, isi_t_int, isi_t_str, isi_t_tuple, isi_t_list, isi_t_dict, isi_s_bool, isi_s_int, isi_s_str, isi_s_tuple, isi_s_list, isi_s_dict, isi_i_bool, isi_i_int, isi_i_str, isi_i_tuple, isi_i_list, isi_i_dict, isi_b_bool, isi_b_int, isi_b_str, isi_b_tuple, isi_b_list, isi_b_dict, isi_n_bool, isi_n_int, isi_n_str, isi_n_tuple, isi_n_list, isi_n_dict, isi_L_bool, isi_L_int, isi_L_str, isi_L_tuple, isi_L_list, isi_L_dict, isi_d_bool, isi_d_int, isi_d_str, isi_d_tuple, isi_d_list, isi_d_dict, natlit_eq, Int.reduceNeg, puts, appendR_same, lenR_same, tup1R_same, sz0, sz1, sz2, sz3, sz4, sz5, sz6, sz7, sz8, sz9, sz10, ix_L0, ix_L1, ix_L2, ix_Lbs, dep_nil, dep_cons, dep_tup, dep_lst, dep_str, dep_int, dep_bl, dep_non, dep_strs, dep_ints, dep_app, dep_rules, dep_prog, dep_st, pu_nil, pu_cons, pu_tup, pu_lst, pu_str, pu_int, pu_bl, pu_non, pu_app, pureDs_str, pureDs_int, pu_rule, pu_rules, pu_prog, pu_st, eqv_self, eqvDs_nil, Bool.and_self, Bool.and_true, Bool.true_and, List.length_map, List.length_append, Int.zero_add, Nat.zero_add, cutL_to1, cutL_to2, cutL_to3, cutL_to15, List.take_succ_cons, List.take_zero, List.take_nil, List.drop_succ_cons, List.drop_zero, List.drop_nil, max2R_ii, min2R_ii, cutL_toN, cutL_toS, cutL_fromN, cutL_fromS, List.length_take, List.length_drop, ← List.map_take, ← List.map_drop, ← List.map_append, neR_prog0, eqR_prog0, lenR_prog, rep1, List.length_replicate, Int.toNat_natCast, ofLst_L, sumLR_map, allLR_map, anyLR_map, ofString_beq, ofString_inj, String.reduceBEq, String.reduceEq, decide_true, decide_false, extA_t, extA_L, isSome_same, List.length_reverse, ← List.map_reverse]
    refine due_go hl hn hs hw ?_
    try simp only [dNext, dBreak, dCont, dDrop, dRet, dRetN, dIfS, dAsg, dputS, dlputS, dOp, dVar, dC, dget_zero, dget_succ, dTest, isB, dNil, dCons, dgName, dTup, dCB, dFresh, dFrz, dFreshD, dFrzD, dDispD, dDisp, dBM, dBM0, dAndV, dOrV, dNotV, dAnd, dOr, dNot, dCall, dNeg, dIf, dFor, dSl, dPart, dNoPart, diRng1, diRng2, diAny, isI, dstart, List.set_cons_zero, List.set_cons_succ, List.map_cons, List.map_nil, List.length_cons, List.length_nil, List.cons_append, List.nil_append, Nat.reduceAdd, Nat.reduceSub, Int.reduceAdd, Int.reduceSub, List.replicate, isLst, dgTup, dgCons, dgNil, dListOf, dJoin, dIndex, dRev, diZip, dPar2, diEnum, dRetX, dDropX, dAsgX, dCallX, dConsX, dTupX, dFrzX, dRaise0, dRaise1, dTryAs, dTryOnly, dXf, asEnds, dLc, wipeD, dCat, dSlL, dPairs, dGet2, dGet1, isDic, ite_true, ite_false, if_true, if_false, reduceIte, Bool.false_eq_true, Bool.true_eq_false, and_true, true_and, rdL_lst, rdL_ref, rdS_lst, rdS_ref, rdS_tup, rdD_dic, rdD_ref, addR_ii, addR_ib, addR_ss, addR_tt, addR_LL, subR_ii, mulR_ii, mulA_ii, mulA_t, mulA_L, modR_ii, fdivR_ii, powR_ii, ltR_ii, leR_ii, gtR_ii, geR_ii, keyD_s, keyD_i, dgetR, eqR_ii, eqR_ss, eqR_bb, eqR_tt, eqR_LL, neR_ii, neR_ss, neR_bb, neR_tt, neR_LL, eqM_ii, eqM_ss, eqM_bb, eqM_tt, eqM_LL, okD_i, okD_s, okD_b, okD_n, okD_t, okD_L, deck_at, deck_sum, deck_cells, deck_len, deck_put, dicOf_mup_same, lstOf_mup_same, int1R_b, int1R_i, ix_t0, ix_t1, ix_t2, ix_t3, ix_t4, lenR_t, lenR_s, lenR_L, slR_t, slR_s, slR_L, cutL_from1, cutL_from2, revR_t, revR_L, tup1R_L, tup1R_t, beq_self_eq_true, Bool.not_true, Bool.not_false, Option.isSome_some, List.isEmpty_nil, List.isEmpty_cons, isR_nn, isR_tn, isR_Ln, isR_sn, isR_in, isR_bn, isR_bb, isNotR_nn, isNotR_tn, isNotR_Ln, isNotR_sn, isNotR_in, isNotR_bn, isNotR_bb, isi_t_bool, isi_t_int, isi_t_str, isi_t_tuple, isi_t_list, isi_t_dict, isi_s_bool, isi_s_int, isi_s_str, isi_s_tuple, isi_s_list, isi_s_dict, isi_i_bool, isi_i_int, isi_i_str, isi_i_tuple, isi_i_list, isi_i_dict, isi_b_bool, isi_b_int, isi_b_str, isi_b_tuple, isi_b_list, isi_b_dict, isi_n_bool, isi_n_int, isi_n_str, isi_n_tuple, isi_n_list, isi_n_dict, isi_L_bool, isi_L_int, isi_L_str, isi_L_tuple, isi_L_list, isi_L_dict, isi_d_bool, isi_d_int, isi_d_str, isi_d_tuple, isi_d_list, isi_d_dict, natlit_eq, Int.reduceNeg, puts, appendR_same, lenR_same, tup1R_same, sz0, sz1, sz2, sz3, sz4, sz5, sz6, sz7, sz8, sz9, sz10, ix_L0, ix_L1, ix_L2, ix_Lbs, dep_nil, dep_cons, dep_tup, dep_lst, dep_str, dep_int, dep_bl, dep_non, dep_strs, dep_ints, dep_app, dep_rules, dep_prog, dep_st, pu_nil, pu_cons, pu_tup, pu_lst, pu_str, pu_int, pu_bl, pu_non, pu_app, pureDs_str, pureDs_int, pu_rule, pu_rules, pu_prog, pu_st, eqv_self, eqvDs_nil, Bool.and_self, Bool.and_true, Bool.true_and, List.length_map, List.length_append, Int.zero_add, Nat.zero_add, cutL_to1, cutL_to2, cutL_to3, cutL_to15, List.take_succ_cons, List.take_zero, List.take_nil, List.drop_succ_cons, List.drop_zero, List.drop_nil, max2R_ii, min2R_ii, cutL_toN, cutL_toS, cutL_fromN, cutL_fromS, List.length_take, List.length_drop, ← List.map_take, ← List.map_drop, ← List.map_append, neR_prog0, eqR_prog0, lenR_prog, rep1, List.length_replicate, Int.toNat_natCast, ofLst_L, sumLR_map, allLR_map, anyLR_map, ofString_beq, ofString_inj, String.reduceBEq, String.reduceEq, decide_true, decide_false, extA_t, extA_L, isSome_same, List.length_reverse, ← List.map_reverse]
    refine seq_go ?_
    try simp only [dNext, dBreak, dCont, dDrop, dRet, dRetN, dIfS, dAsg, dputS, dlputS, dOp, dVar, dC, dget_zero, dget_succ, dTest, isB, dNil, dCons, dgName, dTup, dCB, dFresh, dFrz, dFreshD, dFrzD, dDispD, dDisp, dBM, dBM0, dAndV, dOrV, dNotV, dAnd, dOr, dNot, dCall, dNeg, dIf, dFor, dSl, dPart, dNoPart, diRng1, diRng2, diAny, isI, dstart, List.set_cons_zero, List.set_cons_succ, List.map_cons, List.map_nil, List.length_cons, List.length_nil, List.cons_append, List.nil_append, Nat.reduceAdd, Nat.reduceSub, Int.reduceAdd, Int.reduceSub, List.replicate, isLst, dgTup, dgCons, dgNil, dListOf, dJoin, dIndex, dRev, diZip, dPar2, diEnum, dRetX, dDropX, dAsgX, dCallX, dConsX, dTupX, dFrzX, dRaise0, dRaise1, dTryAs, dTryOnly, dXf, asEnds, dLc, wipeD, dCat, dSlL, dPairs, dGet2, dGet1, isDic, ite_true, ite_false, if_true, if_false, reduceIte, Bool.false_eq_true, Bool.true_eq_false, and_true, true_and, rdL_lst, rdL_ref, rdS_lst, rdS_ref, rdS_tup, rdD_dic, rdD_ref, addR_ii, addR_ib, addR_ss, addR_tt, addR_LL, subR_ii, mulR_ii, mulA_ii, mulA_t, mulA_L, modR_ii, fdivR_ii, powR_ii, ltR_ii, leR_ii, gtR_ii, geR_ii, keyD_s, keyD_i, dgetR, eqR_ii, eqR_ss, eqR_bb, eqR_tt, eqR_LL, neR_ii, neR_ss, neR_bb, neR_tt, neR_LL, eqM_ii, eqM_ss, eqM_bb, eqM_tt, eqM_LL, okD_i, okD_s, okD_b, okD_n, okD_t, okD_L, deck_at, deck_sum, deck_cells, deck_len, deck_put, dicOf_mup_same, lstOf_mup_same, int1R_b, int1R_i, ix_t0, ix_t1, ix_t2, ix_t3, ix_t4, lenR_t, lenR_s, lenR_L, slR_t, slR_s, slR_L, cutL_from1, cutL_from2, revR_t, revR_L, tup1R_L, tup1R_t, beq_self_eq_true, Bool.not_true, Bool.not_false, Option.isSome_some, List.isEmpty_nil, List.isEmpty_cons, isR_nn, isR_tn, isR_Ln, isR_sn, isR_in, isR_bn, isR_bb, isNotR_nn, isNotR_tn, isNotR_Ln, isNotR_sn, isNotR_in, isNotR_bn, isNotR_bb, isi_t_bool, isi_t_int, isi_t_str, isi_t_tuple, isi_t_list, isi_t_dict, isi_s_bool, isi_s_int, isi_s_str, isi_s_tuple, isi_s_list, isi_s_dict, isi_i_bool, isi_i_int, isi_i_str, isi_i_tuple, isi_i_list, isi_i_dict, isi_b_bool, isi_b_int, isi_b_str, isi_b_tuple, isi_b_list, isi_b_dict, isi_n_bool, isi_n_int, isi_n_str, isi_n_tuple, isi_n_list, isi_n_dict, isi_L_bool, isi_L_int, isi_L_str, isi_L_tuple, isi_L_list, isi_L_dict, isi_d_bool, isi_d_int, isi_d_str, isi_d_tuple, isi_d_list, isi_d_dict, natlit_eq, Int.reduceNeg, puts, appendR_same, lenR_same, tup1R_same, sz0, sz1, sz2, sz3, sz4, sz5, sz6, sz7, sz8, sz9, sz10, ix_L0, ix_L1, ix_L2, ix_Lbs, dep_nil, dep_cons, dep_tup, dep_lst, dep_str, dep_int, dep_bl, dep_non, dep_strs, dep_ints, dep_app, dep_rules, dep_prog, dep_st, pu_nil, pu_cons, pu_tup, pu_lst, pu_str, pu_int, pu_bl, pu_non, pu_app, pureDs_str, pureDs_int, pu_rule, pu_rules, pu_prog, pu_st, eqv_self, eqvDs_nil, Bool.and_self, Bool.and_true, Bool.true_and, List.length_map, List.length_append, Int.zero_add, Nat.zero_add, cutL_to1, cutL_to2, cutL_to3, cutL_to15, List.take_succ_cons, List.take_zero, List.take_nil, List.drop_succ_cons, List.drop_zero, List.drop_nil, max2R_ii, min2R_ii, cutL_toN, cutL_toS, cutL_fromN, cutL_fromS, List.length_take, List.length_drop, ← List.map_take, ← List.map_drop, ← List.map_append, neR_prog0, eqR_prog0, lenR_prog, rep1, List.length_replicate, Int.toNat_natCast, ofLst_L, sumLR_map, allLR_map, anyLR_map, ofString_beq, ofString_inj, String.reduceBEq, String.reduceEq, decide_true, decide_false, extA_t, extA_L, isSome_same, List.length_reverse, ← List.map_reverse]
    refine told_go hl hn hs hw ?_
    try simp only [dNext, dBreak, dCont, dDrop, dRet, dRetN, dIfS, dAsg, dputS, dlputS, dOp, dVar, dC, dget_zero, dget_succ, dTest, isB, dNil, dCons, dgName, dTup, dCB, dFresh, dFrz, dFreshD, dFrzD, dDispD, dDisp, dBM, dBM0, dAndV, dOrV, dNotV, dAnd, dOr, dNot, dCall, dNeg, dIf, dFor, dSl, dPart, dNoPart, diRng1, diRng2, diAny, isI, dstart, List.set_cons_zero, List.set_cons_succ, List.map_cons, List.map_nil, List.length_cons, List.length_nil, List.cons_append, List.nil_append, Nat.reduceAdd, Nat.reduceSub, Int.reduceAdd, Int.reduceSub, List.replicate, isLst, dgTup, dgCons, dgNil, dListOf, dJoin, dIndex, dRev, diZip, dPar2, diEnum, dRetX, dDropX, dAsgX, dCallX, dConsX, dTupX, dFrzX, dRaise0, dRaise1, dTryAs, dTryOnly, dXf, asEnds, dLc, wipeD, dCat, dSlL, dPairs, dGet2, dGet1, isDic, ite_true, ite_false, if_true, if_false, reduceIte, Bool.false_eq_true, Bool.true_eq_false, and_true, true_and, rdL_lst, rdL_ref, rdS_lst, rdS_ref, rdS_tup, rdD_dic, rdD_ref, addR_ii, addR_ib, addR_ss, addR_tt, addR_LL, subR_ii, mulR_ii, mulA_ii, mulA_t, mulA_L, modR_ii, fdivR_ii, powR_ii, ltR_ii, leR_ii, gtR_ii, geR_ii, keyD_s, keyD_i, dgetR, eqR_ii, eqR_ss, eqR_bb, eqR_tt, eqR_LL, neR_ii, neR_ss, neR_bb, neR_tt, neR_LL, eqM_ii, eqM_ss, eqM_bb, eqM_tt, eqM_LL, okD_i, okD_s, okD_b, okD_n, okD_t, okD_L, deck_at, deck_sum, deck_cells, deck_len, deck_put, dicOf_mup_same, lstOf_mup_same, int1R_b, int1R_i, ix_t0, ix_t1, ix_t2, ix_t3, ix_t4, lenR_t, lenR_s, lenR_L, slR_t, slR_s, slR_L, cutL_from1, cutL_from2, revR_t, revR_L, tup1R_L, tup1R_t, beq_self_eq_true, Bool.not_true, Bool.not_false, Option.isSome_some, List.isEmpty_nil, List.isEmpty_cons, isR_nn, isR_tn, isR_Ln, isR_sn, isR_in, isR_bn, isR_bb, isNotR_nn, isNotR_tn, isNotR_Ln, isNotR_sn, isNotR_in, isNotR_bn, isNotR_bb, isi_t_bool, isi_t_int, isi_t_str, isi_t_tuple, isi_t_list, isi_t_dict, isi_s_bool, isi_s_int, isi_s_str, isi_s_tuple, isi_s_list, isi_s_dict, isi_i_bool, isi_i_int, isi_i_str, isi_i_tuple, isi_i_list, isi_i_dict, isi_b_bool, isi_b_int, isi_b_str, isi_b_tuple, isi_b_list, isi_b_dict, isi_n_bool, isi_n_int, isi_n_str, isi_n_tuple, isi_n_list, isi_n_dict, isi_L_bool, isi_L_int, isi_L_str, isi_L_tuple, isi_L_list, isi_L_dict, isi_d_bool, isi_d_int, isi_d_str, isi_d_tuple, isi_d_list, isi_d_dict, natlit_eq, Int.reduceNeg, puts, appendR_same, lenR_same, tup1R_same, sz0, sz1, sz2, sz3, sz4, sz5, sz6, sz7, sz8, sz9, sz10, ix_L0, ix_L1, ix_L2, ix_Lbs, dep_nil, dep_cons, dep_tup, dep_lst, dep_str, dep_int, dep_bl, dep_non, dep_strs, dep_ints, dep_app, dep_rules, dep_prog, dep_st, pu_nil, pu_cons, pu_tup, pu_lst, pu_str, pu_int, pu_bl, pu_non, pu_app, pureDs_str, pureDs_int, pu_rule, pu_rules, pu_prog, pu_st, eqv_self, eqvDs_nil, Bool.and_self, Bool.and_true, Bool.true_and, List.length_map, List.length_append, Int.zero_add, Nat.zero_add, cutL_to1, cutL_to2, cutL_to3, cutL_to15, List.take_succ_cons, List.take_zero, List.take_nil, List.drop_succ_cons, List.drop_zero, List.drop_nil, max2R_ii, min2R_ii, cutL_toN, cutL_toS, cutL_fromN, cutL_fromS, List.length_take, List.length_drop, ← List.map_take, ← List.map_drop, ← List.map_append, neR_prog0, eqR_prog0, lenR_prog, rep1, List.length_replicate, Int.toNat_natCast, ofLst_L, sumLR_map, allLR_map, anyLR_map, ofString_beq, ofString_inj, String.reduceBEq, String.reduceEq, decide_true, decide_false, extA_t, extA_L, isSome_same, List.length_reverse, ← List.map_reverse]
    cases hg : goF rs s ns 0 with
    | inr j =>
      refine seq_go ?_
      simp only [dueD, toldD, dNext, dBreak, dCont, dDrop, dRet, dRetN, dIfS, dAsg, dputS, dlputS, dOp, dVar, dC, dget_zero, dget_succ, dTest, isB, dNil, dCons, dgName, dTup, dCB, dFresh, dFrz, dFreshD, dFrzD, dDispD, dDisp, dBM, dBM0, dAndV, dOrV, dNotV, dAnd, dOr, dNot, dCall, dNeg, dIf, dFor, dSl, dPart, dNoPart, diRng1, diRng2, diAny, isI, dstart, List.set_cons_zero, List.set_cons_succ, List.map_cons, List.map_nil, List.length_cons, List.length_nil, List.cons_append, List.nil_append, Nat.reduceAdd, Nat.reduceSub, Int.reduceAdd, Int.reduceSub, List.replicate, isLst, dgTup, dgCons, dgNil, dListOf, dJoin, dIndex, dRev, diZip, dPar2, diEnum, dRetX, dDropX, dAsgX, dCallX, dConsX, dTupX, dFrzX, dRaise0, dRaise1, dTryAs, dTryOnly, dXf, asEnds, dLc, wipeD, dCat, dSlL, dPairs, dGet2, dGet1, isDic, ite_true, ite_false, if_true, if_false, reduceIte, Bool.false_eq_true, Bool.true_eq_false, and_true, true_and, rdL_lst, rdL_ref, rdS_lst, rdS_ref, rdS_tup, rdD_dic, rdD_ref, addR_ii, addR_ib, addR_ss, addR_tt, addR_LL, subR_ii, mulR_ii, mulA_ii, mulA_t, mulA_L, modR_ii, fdivR_ii, powR_ii, ltR_ii, leR_ii, gtR_ii, geR_ii, keyD_s, keyD_i, dgetR, eqR_ii, eqR_ss, eqR_bb, eqR_tt, eqR_LL, neR_ii, neR_ss, neR_bb, neR_tt, neR_LL, eqM_ii, eqM_ss, eqM_bb, eqM_tt, eqM_LL, okD_i, okD_s, okD_b, okD_n, okD_t, okD_L, deck_at, deck_sum, deck_cells, deck_len, deck_put, dicOf_mup_same, lstOf_mup_same, int1R_b, int1R_i, ix_t0, ix_t1, ix_t2, ix_t3, ix_t4, lenR_t, lenR_s, lenR_L, slR_t, slR_s, slR_L, cutL_from1, cutL_from2, revR_t, revR_L, tup1R_L, tup1R_t, beq_self_eq_true, Bool.not_true, Bool.not_false, Option.isSome_some, List.isEmpty_nil, List.isEmpty_cons, isR_nn, isR_tn, isR_Ln, isR_sn, isR_in, isR_bn, isR_bb, isNotR_nn, isNotR_tn, isNotR_Ln, isNotR_sn, isNotR_in, isNotR_bn, isNotR_bb, isi_t_bool, isi_t_int, isi_t_str, isi_t_tuple, isi_t_list, isi_t_dict, isi_s_bool, isi_s_int, isi_s_str, isi_s_tuple, isi_s_list, isi_s_dict, isi_i_bool, isi_i_int, isi_i_str, isi_i_tuple, isi_i_list, isi_i_dict, isi_b_bool, isi_b_int, isi_b_str, isi_b_tuple, isi_b_list, isi_b_dict, isi_n_bool, isi_n_int, isi_n_str, isi_n_tuple, isi_n_list, isi_n_dict, isi_L_bool, isi_L_int, isi_L_str, isi_L_tuple, isi_L_list, isi_L_dict, isi_d_bool, isi_d_int, isi_d_str, isi_d_tuple, isi_d_list, isi_d_dict, natlit_eq, Int.reduceNeg, puts, appendR_same, lenR_same, tup1R_same, sz0, sz1, sz2, sz3, sz4, sz5, sz6, sz7, sz8, sz9, sz10, ix_L0, ix_L1, ix_L2, ix_Lbs, dep_nil, dep_cons, dep_tup, dep_lst, dep_str, dep_int, dep_bl, dep_non, dep_strs, dep_ints, dep_app, dep_rules, dep_prog, dep_st, pu_nil, pu_cons, pu_tup, pu_lst, pu_str, pu_int, pu_bl, pu_non, pu_app, pureDs_str, pureDs_int, pu_rule, pu_rules, pu_prog, pu_st, eqv_self, eqvDs_nil, Bool.and_self, Bool.and_true, Bool.true_and, List.length_map, List.length_append, Int.zero_add, Nat.zero_add, cutL_to1, cutL_to2, cutL_to3, cutL_to15, List.take_succ_cons, List.take_zero, List.take_nil, List.drop_succ_cons, List.drop_zero, List.drop_nil, max2R_ii, min2R_ii, cutL_toN, cutL_toS, cutL_fromN, cutL_fromS, List.length_take, List.length_drop, ← List.map_take, ← List.map_drop, ← List.map_append, neR_prog0, eqR_prog0, lenR_prog, rep1, List.length_replicate, Int.toNat_natCast, ofLst_L, sumLR_map, allLR_map, anyLR_map, ofString_beq, ofString_inj, String.reduceBEq, String.reduceEq, decide_true, decide_false, extA_t, extA_L, isSome_same, List.length_reverse, ← List.map_reverse]
      exact hk
    | inl t =>
      have htl := goF_len hw hg
      refine seq_go ?_
      simp only [dueD, toldD, stD, dNext, dBreak, dCont, dDrop, dRet, dRetN, dIfS, dAsg, dputS, dlputS, dOp, dVar, dC, dget_zero, dget_succ, dTest, isB, dNil, dCons, dgName, dTup, dCB, dFresh, dFrz, dFreshD, dFrzD, dDispD, dDisp, dBM, dBM0, dAndV, dOrV, dNotV, dAnd, dOr, dNot, dCall, dNeg, dIf, dFor, dSl, dPart, dNoPart, diRng1, diRng2, diAny, isI, dstart, List.set_cons_zero, List.set_cons_succ, List.map_cons, List.map_nil, List.length_cons, List.length_nil, List.cons_append, List.nil_append, Nat.reduceAdd, Nat.reduceSub, Int.reduceAdd, Int.reduceSub, List.replicate, isLst, dgTup, dgCons, dgNil, dListOf, dJoin, dIndex, dRev, diZip, dPar2, diEnum, dRetX, dDropX, dAsgX, dCallX, dConsX, dTupX, dFrzX, dRaise0, dRaise1, dTryAs, dTryOnly, dXf, asEnds, dLc, wipeD, dCat, dSlL, dPairs, dGet2, dGet1, isDic, ite_true, ite_false, if_true, if_false, reduceIte, Bool.false_eq_true, Bool.true_eq_false, and_true, true_and, rdL_lst, rdL_ref, rdS_lst, rdS_ref, rdS_tup, rdD_dic, rdD_ref, addR_ii, addR_ib, addR_ss, addR_tt, addR_LL, subR_ii, mulR_ii, mulA_ii, mulA_t, mulA_L, modR_ii, fdivR_ii, powR_ii, ltR_ii, leR_ii, gtR_ii, geR_ii, keyD_s, keyD_i, dgetR, eqR_ii, eqR_ss, eqR_bb, eqR_tt, eqR_LL, neR_ii, neR_ss, neR_bb, neR_tt, neR_LL, eqM_ii, eqM_ss, eqM_bb, eqM_tt, eqM_LL, okD_i, okD_s, okD_b, okD_n, okD_t, okD_L, deck_at, deck_sum, deck_cells, deck_len, deck_put, dicOf_mup_same, lstOf_mup_same, int1R_b, int1R_i, ix_t0, ix_t1, ix_t2, ix_t3, ix_t4, lenR_t, lenR_s, lenR_L, slR_t, slR_s, slR_L, cutL_from1, cutL_from2, revR_t, revR_L, tup1R_L, tup1R_t, beq_self_eq_true, Bool.not_true, Bool.not_false, Option.isSome_some, List.isEmpty_nil, List.isEmpty_cons, isR_nn, isR_tn, isR_Ln, isR_sn, isR_in, isR_bn, isR_bb, isNotR_nn, isNotR_tn, isNotR_Ln, isNotR_sn, isNotR_in, isNotR_bn, isNotR_bb, isi_t_bool, isi_t_int, isi_t_str, isi_t_tuple, isi_t_list, isi_t_dict, isi_s_bool, isi_s_int, isi_s_str, isi_s_tuple, isi_s_list, isi_s_dict, isi_i_bool, isi_i_int, isi_i_str, isi_i_tuple, isi_i_list, isi_i_dict, isi_b_bool, isi_b_int, isi_b_str, isi_b_tuple, isi_b_list, isi_b_dict, isi_n_bool, isi_n_int, isi_n_str, isi_n_tuple, isi_n_list, isi_n_dict, isi_L_bool, isi_L_int, isi_L_str, isi_L_tuple, isi_L_list, isi_L_dict, isi_d_bool, isi_d_int, isi_d_str, isi_d_tuple, isi_d_list, isi_d_dict, natlit_eq, Int.reduceNeg, puts, appendR_same, lenR_same, tup1R_same, sz0, sz1, sz2, sz3, sz4, sz5, sz6, sz7, sz8, sz9, sz10, ix_L0, ix_L1, ix_L2, ix_Lbs, dep_nil, dep_cons, dep_tup, dep_lst, dep_str, dep_int, dep_bl, dep_non, dep_strs, dep_ints, dep_app, dep_rules, dep_prog, dep_st, pu_nil, pu_cons, pu_tup, pu_lst, pu_str, pu_int, pu_bl, pu_non, pu_app, pureDs_str, pureDs_int, pu_rule, pu_rules, pu_prog, pu_st, eqv_self, eqvDs_nil, Bool.and_self, Bool.and_true, Bool.true_and, List.length_map, List.length_append, Int.zero_add, Nat.zero_add, cutL_to1, cutL_to2, cutL_to3, cutL_to15, List.take_succ_cons, List.take_zero, List.take_nil, List.drop_succ_cons, List.drop_zero, List.drop_nil, max2R_ii, min2R_ii, cutL_toN, cutL_toS, cutL_fromN, cutL_fromS, List.length_take, List.length_drop, ← List.map_take, ← List.map_drop, ← List.map_append, neR_prog0, eqR_prog0, lenR_prog, rep1, List.length_replicate, Int.toNat_natCast, ofLst_L, sumLR_map, allLR_map, anyLR_map, ofString_beq, ofString_inj, String.reduceBEq, String.reduceEq, decide_true, decide_false, extA_t, extA_L, isSome_same, List.length_reverse, ← List.map_reverse]
      refine seq_go ?_
      try simp only [dNext, dBreak, dCont, dDrop, dRet, dRetN, dIfS, dAsg, dputS, dlputS, dOp, dVar, dC, dget_zero, dget_succ, dTest, isB, dNil, dCons, dgName, dTup, dCB, dFresh, dFrz, dFreshD, dFrzD, dDispD, dDisp, dBM, dBM0, dAndV, dOrV, dNotV, dAnd, dOr, dNot, dCall, dNeg, dIf, dFor, dSl, dPart, dNoPart, diRng1, diRng2, diAny, isI, dstart, List.set_cons_zero, List.set_cons_succ, List.map_cons, List.map_nil, List.length_cons, List.length_nil, List.cons_append, List.nil_append, Nat.reduceAdd, Nat.reduceSub, Int.reduceAdd, Int.reduceSub, List.replicate, isLst, dgTup, dgCons, dgNil, dListOf, dJoin, dIndex, dRev, diZip, dPar2, diEnum, dRetX, dDropX, dAsgX, dCallX, dConsX, dTupX, dFrzX, dRaise0, dRaise1, dTryAs, dTryOnly, dXf, asEnds, dLc, wipeD, dCat, dSlL, dPairs, dGet2, dGet1, isDic, ite_true, ite_false, if_true, if_false, reduceIte, Bool.false_eq_true, Bool.true_eq_false, and_true, true_and, rdL_lst, rdL_ref, rdS_lst, rdS_ref, rdS_tup, rdD_dic, rdD_ref, addR_ii, addR_ib, addR_ss, addR_tt, addR_LL, subR_ii, mulR_ii, mulA_ii, mulA_t, mulA_L, modR_ii, fdivR_ii, powR_ii, ltR_ii, leR_ii, gtR_ii, geR_ii, keyD_s, keyD_i, dgetR, eqR_ii, eqR_ss, eqR_bb, eqR_tt, eqR_LL, neR_ii, neR_ss, neR_bb, neR_tt, neR_LL, eqM_ii, eqM_ss, eqM_bb, eqM_tt, eqM_LL, okD_i, okD_s, okD_b, okD_n, okD_t, okD_L, deck_at, deck_sum, deck_cells, deck_len, deck_put, dicOf_mup_same, lstOf_mup_same, int1R_b, int1R_i, ix_t0, ix_t1, ix_t2, ix_t3, ix_t4, lenR_t, lenR_s, lenR_L, slR_t, slR_s, slR_L, cutL_from1, cutL_from2, revR_t, revR_L, tup1R_L, tup1R_t, beq_self_eq_true, Bool.not_true, Bool.not_false, Option.isSome_some, List.isEmpty_nil, List.isEmpty_cons, isR_nn, isR_tn, isR_Ln, isR_sn, isR_in, isR_bn, isR_bb, isNotR_nn, isNotR_tn, isNotR_Ln, isNotR_sn, isNotR_in, isNotR_bn, isNotR_bb, isi_t_bool, isi_t_int, isi_t_str, isi_t_tuple, isi_t_list, isi_t_dict, isi_s_bool, isi_s_int, isi_s_str, isi_s_tuple, isi_s_list, isi_s_dict, isi_i_bool, isi_i_int, isi_i_str, isi_i_tuple, isi_i_list, isi_i_dict, isi_b_bool, isi_b_int, isi_b_str, isi_b_tuple, isi_b_list, isi_b_dict, isi_n_bool, isi_n_int, isi_n_str, isi_n_tuple, isi_n_list, isi_n_dict, isi_L_bool, isi_L_int, isi_L_str, isi_L_tuple, isi_L_list, isi_L_dict, isi_d_bool, isi_d_int, isi_d_str, isi_d_tuple, isi_d_list, isi_d_dict, natlit_eq, Int.reduceNeg, puts, appendR_same, lenR_same, tup1R_same, sz0, sz1, sz2, sz3, sz4, sz5, sz6, sz7, sz8, sz9, sz10, ix_L0, ix_L1, ix_L2, ix_Lbs, dep_nil, dep_cons, dep_tup, dep_lst, dep_str, dep_int, dep_bl, dep_non, dep_strs, dep_ints, dep_app, dep_rules, dep_prog, dep_st, pu_nil, pu_cons, pu_tup, pu_lst, pu_str, pu_int, pu_bl, pu_non, pu_app, pureDs_str, pureDs_int, pu_rule, pu_rules, pu_prog, pu_st, eqv_self, eqvDs_nil, Bool.and_self, Bool.and_true, Bool.true_and, List.length_map, List.length_append, Int.zero_add, Nat.zero_add, cutL_to1, cutL_to2, cutL_to3, cutL_to15, List.take_succ_cons, List.take_zero, List.take_nil, List.drop_succ_cons, List.drop_zero, List.drop_nil, max2R_ii, min2R_ii, cutL_toN, cutL_toS, cutL_fromN, cutL_fromS, List.length_take, List.length_drop, ← List.map_take, ← List.map_drop, ← List.map_append, neR_prog0, eqR_prog0, lenR_prog, rep1, List.length_replicate, Int.toNat_natCast, ofLst_L, sumLR_map, allLR_map, anyLR_map, ofString_beq, ofString_inj, String.reduceBEq, String.reduceEq, decide_true, decide_false, extA_t, extA_L, isSome_same, List.length_reverse, ← List.map_reverse]
      refine ⟨small_line2 (by omega), ?_⟩
      rw [show D.str t.1 :: t.2.map D.str = (t.1 :: t.2).map D.str from rfl]
      exact lc_nostr (by simp) (small_line2 (by simp; omega)) ⟨⟨rfl, by decide⟩, hk⟩
def sp__law_bent : DSp := fun ds M R => ∃ (d : Addr) (ns : List Int) (many : Nat), ds = [.ref d, .tup (ns.map D.int), .int many] ∧ ns.length ≤ 10000 ∧ many ≤ 10000 ∧ Draws d 10 (fun x => ∃ ms : List Int, x = .tup (ms.map D.int) ∧ ms.length ≤ ns.length + 1) M R
theorem ok__law_bent {f__law_bent f__law_draw : Addr} {fd__law_bent fd__law_draw : FuncData} (F__law_bent : Fun K "_law_bent" "_law_bent" st__law_bent f__law_bent fd__law_bent) (G__law_draw : FnOk P w K mg base CX0 1 f__law_draw fd__law_draw ["_law_deck_here", "_law_most"] (toSp K sp__law_draw)) (g__law_draw : mg "_law_draw" = some (.ref f__law_draw)) (k__law_draw : PySem.W.keepIn K (.ref f__law_draw) = true) (b__law_draw : Binds K fd__law_draw ["_law_deck_here", "_law_most"] []) (z_max : mg "max" = none) (z_len : mg "len" = none) (z_int : mg "int" = none) : FnOk P w K mg base CX0 2 f__law_bent fd__law_bent ["_law_deck_here", "_law_run", "_law_many"] (toSp K sp__law_bent) := by
  refine fn_ok (k := 1) F__law_bent sc__law_bent (fun ds M R h => ?_) (fun cdv A outer s H E hr => ⟨_, (jb_cons (js_set (i := 3) sc__law_bent.nd (je_ix (je_frz (jl_disp (ja_cons (je_call G__law_draw (hr.mono (by decide)) (by rfl) g__law_draw k__law_draw b__law_draw (ja_cons (jv 0) (ja_cons (je_add (je_len z_len (ja_cons (jv 1) ja_nil)) je_int) ja_nil))) (ja_cons (je_max2 rfl z_max (ja_cons je_int (ja_cons (je_sub (je_len z_len (ja_cons (jv 1) ja_nil)) je_int) ja_nil))) ja_nil)))) (je_int1 z_int (ja_cons (je_eq hr (je_call G__law_draw (hr.mono (by decide)) (by rfl) g__law_draw k__law_draw b__law_draw (ja_cons (jv 0) (ja_cons je_int ja_nil))) je_int) ja_nil))))
      (jb_cons (js_set (i := 4) sc__law_bent.nd (je_ix (je_frz (jl_disp (ja_cons (je_call G__law_draw (hr.mono (by decide)) (by rfl) g__law_draw k__law_draw b__law_draw (ja_cons (jv 0) (ja_cons (je_add (jv 2) je_int) ja_nil))) (ja_cons (je_add (jv 2) (je_call G__law_draw (hr.mono (by decide)) (by rfl) g__law_draw k__law_draw b__law_draw (ja_cons (jv 0) (ja_cons je_int ja_nil)))) (ja_cons (je_sub (je_neg je_int) (je_call G__law_draw (hr.mono (by decide)) (by rfl) g__law_draw k__law_draw b__law_draw (ja_cons (jv 0) (ja_cons (je_add (jv 2) je_int) ja_nil)))) ja_nil))))) (je_call G__law_draw (hr.mono (by decide)) (by rfl) g__law_draw k__law_draw b__law_draw (ja_cons (jv 0) (ja_cons je_int ja_nil)))))
      (jb_cons (js_set (i := 5) sc__law_bent.nd (je_frz (jl_disp (ja_cons (je_add (je_add (je_slice (jv 1) jo_none (jo_some (jv 3))) (je_tup (ja_cons (jv 4) ja_nil))) (je_slice (jv 1) (jo_some (je_add (jv 3) je_int)) jo_none)) (ja_cons (je_add (je_add (je_slice (jv 1) jo_none (jo_some (jv 3))) (je_tup (ja_cons (jv 4) ja_nil))) (je_slice (jv 1) (jo_some (jv 3)) jo_none)) (ja_cons (je_add (je_slice (jv 1) jo_none (jo_some (jv 3))) (je_slice (jv 1) (jo_some (je_add (jv 3) je_int)) jo_none)) ja_nil))))))
      (jb_one (js_ret (je_ix (je_add (jv 5) (je_frz (jl_disp (ja_cons (je_add (je_slice (jv 1) jo_none (jo_some (je_add (jv 3) je_int))) (je_slice (jv 1) (jo_some (jv 3)) jo_none)) (ja_cons (je_add (jv 1) (je_tup (ja_cons (jv 4) ja_nil))) ja_nil))))) (je_call G__law_draw (hr.mono (by decide)) (by rfl) g__law_draw k__law_draw b__law_draw (ja_cons (jv 0) (ja_cons je_int ja_nil))))))))), fun ds M R h => ?_⟩)
  · unfold sp__law_bent at h
    first | (obtain ⟨rfl, _⟩ := h; rfl) | (obtain ⟨_, rfl, _⟩ := h; rfl) | (obtain ⟨_, _, rfl, _⟩ := h; rfl) | (obtain ⟨_, _, _, rfl, _⟩ := h; rfl) | (obtain ⟨_, _, _, _, rfl, _⟩ := h; rfl) | (obtain ⟨_, _, _, _, _, rfl, _⟩ := h; rfl) | (obtain ⟨_, _, _, _, _, _, rfl, _⟩ := h; rfl) | (obtain ⟨_, _, _, _, _, _, _, rfl, _⟩ := h; rfl) | (obtain ⟨_, _, _, _, _, _, _, _, rfl, _⟩ := h; rfl) | (split at h <;> first | rfl | exact h.elim)
  · unfold sp__law_bent at h
    obtain ⟨d, ns, many, rfl, hn, hm, c, r, D0, k⟩ := h
    have b0 := Bx.start D0
    simp only [dNext, dBreak, dCont, dDrop, dRet, dRetN, dIfS, dAsg, dputS, dlputS, dOp, dVar, dC, dget_zero, dget_succ, dTest, isB, dNil, dCons, dgName, dTup, dCB, dFresh, dFrz, dFreshD, dFrzD, dDispD, dDisp, dBM, dBM0, dAndV, dOrV, dNotV, dAnd, dOr, dNot, dCall, dNeg, dIf, dFor, dSl, dPart, dNoPart, diRng1, diRng2, diAny, isI, dstart, List.set_cons_zero, List.set_cons_succ, List.map_cons, List.map_nil, List.length_cons, List.length_nil, List.cons_append, List.nil_append, Nat.reduceAdd, Nat.reduceSub, Int.reduceAdd, Int.reduceSub, List.replicate, isLst, dgTup, dgCons, dgNil, dListOf, dJoin, dIndex, dRev, diZip, dPar2, diEnum, dRetX, dDropX, dAsgX, dCallX, dConsX, dTupX, dFrzX, dRaise0, dRaise1, dTryAs, dTryOnly, dXf, asEnds, dLc, wipeD, dCat, dSlL, dPairs, dGet2, dGet1, isDic, ite_true, ite_false, if_true, if_false, reduceIte, Bool.false_eq_true, Bool.true_eq_false, and_true, true_and, rdL_lst, rdL_ref, rdS_lst, rdS_ref, rdS_tup, rdD_dic, rdD_ref, addR_ii, addR_ib, addR_ss, addR_tt, addR_LL, subR_ii, mulR_ii, mulA_ii, mulA_t, mulA_L, modR_ii, fdivR_ii, powR_ii, ltR_ii, leR_ii, gtR_ii, geR_ii, keyD_s, keyD_i, dgetR, eqR_ii, eqR_ss, eqR_bb, eqR_tt, eqR_LL, neR_ii, neR_ss, neR_bb, neR_tt, neR_LL, eqM_ii, eqM_ss, eqM_bb, eqM_tt, eqM_LL, okD_i, okD_s, okD_b, okD_n, okD_t, okD_L, deck_at, deck_sum, deck_cells, deck_len, deck_put, dicOf_mup_same, lstOf_mup_same, int1R_b, int1R_i, ix_t0, ix_t1, ix_t2, ix_t3, ix_t4, lenR_t, lenR_s, lenR_L, slR_t, slR_s, slR_L, cutL_from1, cutL_from2, revR_t, revR_L, tup1R_L, tup1R_t, beq_self_eq_true, Bool.not_true, Bool.not_false, Option.isSome_some, List.isEmpty_nil, List.isEmpty_cons, isR_nn, isR_tn, isR_Ln, isR_sn, isR_in, isR_bn, isR_bb, isNotR_nn, isNotR_tn, isNotR_Ln, isNotR_sn, isNotR_in, isNotR_bn, isNotR_bb, isi_t_bool, isi_t_int, isi_t_str, isi_t_tuple, isi_t_list, isi_t_dict, isi_s_bool, isi_s_int, isi_s_str, isi_s_tuple, isi_s_list, isi_s_dict, isi_i_bool, isi_i_int, isi_i_str, isi_i_tuple, isi_i_list, isi_i_dict, isi_b_bool, isi_b_int, isi_b_str, isi_b_tuple, isi_b_list, isi_b_dict, isi_n_bool, isi_n_int, isi_n_str, isi_n_tuple, isi_n_list, isi_n_dict, isi_L_bool, isi_L_int, isi_L_str, isi_L_tuple, isi_L_list, isi_L_dict, isi_d_bool, isi_d_int, isi_d_str, isi_d_tuple, isi_d_list, isi_d_dict, natlit_eq, Int.reduceNeg, puts, appendR_same, lenR_same, tup1R_same, sz0, sz1, sz2, sz3, sz4, sz5, sz6, sz7, sz8, sz9, sz10, ix_L0, ix_L1, ix_L2, ix_Lbs, dep_nil, dep_cons, dep_tup, dep_lst, dep_str, dep_int, dep_bl, dep_non, dep_strs, dep_ints, dep_app, dep_rules, dep_prog, dep_st, pu_nil, pu_cons, pu_tup, pu_lst, pu_str, pu_int, pu_bl, pu_non, pu_app, pureDs_str, pureDs_int, pu_rule, pu_rules, pu_prog, pu_st, eqv_self, eqvDs_nil, Bool.and_self, Bool.and_true, Bool.true_and, List.length_map, List.length_append, Int.zero_add, Nat.zero_add, cutL_to1, cutL_to2, cutL_to3, cutL_to15, List.take_succ_cons, List.take_zero, List.take_nil, List.drop_succ_cons, List.drop_zero, List.drop_nil, max2R_ii, min2R_ii, cutL_toN, cutL_toS, cutL_fromN, cutL_fromS, List.length_take, List.length_drop, ← List.map_take, ← List.map_drop, ← List.map_append, neR_prog0, eqR_prog0, lenR_prog, rep1, List.length_replicate, Int.toNat_natCast, ofLst_L, sumLR_map, allLR_map, anyLR_map, ofString_beq, ofString_inj, String.reduceBEq, String.reduceEq, decide_true, decide_false, extA_t, extA_L, isSome_same, List.length_reverse, ← List.map_reverse, N__law_bent]
    refine seq_go ?_
    try simp only [dNext, dBreak, dCont, dDrop, dRet, dRetN, dIfS, dAsg, dputS, dlputS, dOp, dVar, dC, dget_zero, dget_succ, dTest, isB, dNil, dCons, dgName, dTup, dCB, dFresh, dFrz, dFreshD, dFrzD, dDispD, dDisp, dBM, dBM0, dAndV, dOrV, dNotV, dAnd, dOr, dNot, dCall, dNeg, dIf, dFor, dSl, dPart, dNoPart, diRng1, diRng2, diAny, isI, dstart, List.set_cons_zero, List.set_cons_succ, List.map_cons, List.map_nil, List.length_cons, List.length_nil, List.cons_append, List.nil_append, Nat.reduceAdd, Nat.reduceSub, Int.reduceAdd, Int.reduceSub, List.replicate, isLst, dgTup, dgCons, dgNil, dListOf, dJoin, dIndex, dRev, diZip, dPar2, diEnum, dRetX, dDropX, dAsgX, dCallX, dConsX, dTupX, dFrzX, dRaise0, dRaise1, dTryAs, dTryOnly, dXf, asEnds, dLc, wipeD, dCat, dSlL, dPairs, dGet2, dGet1, isDic, ite_true, ite_false, if_true, if_false, reduceIte, Bool.false_eq_true, Bool.true_eq_false, and_true, true_and, rdL_lst, rdL_ref, rdS_lst, rdS_ref, rdS_tup, rdD_dic, rdD_ref, addR_ii, addR_ib, addR_ss, addR_tt, addR_LL, subR_ii, mulR_ii, mulA_ii, mulA_t, mulA_L, modR_ii, fdivR_ii, powR_ii, ltR_ii, leR_ii, gtR_ii, geR_ii, keyD_s, keyD_i, dgetR, eqR_ii, eqR_ss, eqR_bb, eqR_tt, eqR_LL, neR_ii, neR_ss, neR_bb, neR_tt, neR_LL, eqM_ii, eqM_ss, eqM_bb, eqM_tt, eqM_LL, okD_i, okD_s, okD_b, okD_n, okD_t, okD_L, deck_at, deck_sum, deck_cells, deck_len, deck_put, dicOf_mup_same, lstOf_mup_same, int1R_b, int1R_i, ix_t0, ix_t1, ix_t2, ix_t3, ix_t4, lenR_t, lenR_s, lenR_L, slR_t, slR_s, slR_L, cutL_from1, cutL_from2, revR_t, revR_L, tup1R_L, tup1R_t, beq_self_eq_true, Bool.not_true, Bool.not_false, Option.isSome_some, List.isEmpty_nil, List.isEmpty_cons, isR_nn, isR_tn, isR_Ln, isR_sn, isR_in, isR_bn, isR_bb, isNotR_nn, isNotR_tn, isNotR_Ln, isNotR_sn, isNotR_in, isNotR_bn, isNotR_bb, isi_t_bool, isi_t_int, isi_t_str, isi_t_tuple, isi_t_list, isi_t_dict, isi_s_bool, isi_s_int, isi_s_str, isi_s_tuple, isi_s_list, isi_s_dict, isi_i_bool, isi_i_int, isi_i_str, isi_i_tuple, isi_i_list, isi_i_dict, isi_b_bool, isi_b_int, isi_b_str, isi_b_tuple, isi_b_list, isi_b_dict, isi_n_bool, isi_n_int, isi_n_str, isi_n_tuple, isi_n_list, isi_n_dict, isi_L_bool, isi_L_int, isi_L_str, isi_L_tuple, isi_L_list, isi_L_dict, isi_d_bool, isi_d_int, isi_d_str, isi_d_tuple, isi_d_list, isi_d_dict, natlit_eq, Int.reduceNeg, puts, appendR_same, lenR_same, tup1R_same, sz0, sz1, sz2, sz3, sz4, sz5, sz6, sz7, sz8, sz9, sz10, ix_L0, ix_L1, ix_L2, ix_Lbs, dep_nil, dep_cons, dep_tup, dep_lst, dep_str, dep_int, dep_bl, dep_non, dep_strs, dep_ints, dep_app, dep_rules, dep_prog, dep_st, pu_nil, pu_cons, pu_tup, pu_lst, pu_str, pu_int, pu_bl, pu_non, pu_app, pureDs_str, pureDs_int, pu_rule, pu_rules, pu_prog, pu_st, eqv_self, eqvDs_nil, Bool.and_self, Bool.and_true, Bool.true_and, List.length_map, List.length_append, Int.zero_add, Nat.zero_add, cutL_to1, cutL_to2, cutL_to3, cutL_to15, List.take_succ_cons, List.take_zero, List.take_nil, List.drop_succ_cons, List.drop_zero, List.drop_nil, max2R_ii, min2R_ii, cutL_toN, cutL_toS, cutL_fromN, cutL_fromS, List.length_take, List.length_drop, ← List.map_take, ← List.map_drop, ← List.map_append, neR_prog0, eqR_prog0, lenR_prog, rep1, List.length_replicate, Int.toNat_natCast, ofLst_L, sumLR_map, allLR_map, anyLR_map, ofString_beq, ofString_inj, String.reduceBEq, String.reduceEq, decide_true, decide_false, extA_t, extA_L, isSome_same, List.length_reverse, ← List.map_reverse]
    refine draw_B b0 (by omega) (by omega) (by omega) fun a M1 a0 a1 b1 => ?_
    try simp only [dNext, dBreak, dCont, dDrop, dRet, dRetN, dIfS, dAsg, dputS, dlputS, dOp, dVar, dC, dget_zero, dget_succ, dTest, isB, dNil, dCons, dgName, dTup, dCB, dFresh, dFrz, dFreshD, dFrzD, dDispD, dDisp, dBM, dBM0, dAndV, dOrV, dNotV, dAnd, dOr, dNot, dCall, dNeg, dIf, dFor, dSl, dPart, dNoPart, diRng1, diRng2, diAny, isI, dstart, List.set_cons_zero, List.set_cons_succ, List.map_cons, List.map_nil, List.length_cons, List.length_nil, List.cons_append, List.nil_append, Nat.reduceAdd, Nat.reduceSub, Int.reduceAdd, Int.reduceSub, List.replicate, isLst, dgTup, dgCons, dgNil, dListOf, dJoin, dIndex, dRev, diZip, dPar2, diEnum, dRetX, dDropX, dAsgX, dCallX, dConsX, dTupX, dFrzX, dRaise0, dRaise1, dTryAs, dTryOnly, dXf, asEnds, dLc, wipeD, dCat, dSlL, dPairs, dGet2, dGet1, isDic, ite_true, ite_false, if_true, if_false, reduceIte, Bool.false_eq_true, Bool.true_eq_false, and_true, true_and, rdL_lst, rdL_ref, rdS_lst, rdS_ref, rdS_tup, rdD_dic, rdD_ref, addR_ii, addR_ib, addR_ss, addR_tt, addR_LL, subR_ii, mulR_ii, mulA_ii, mulA_t, mulA_L, modR_ii, fdivR_ii, powR_ii, ltR_ii, leR_ii, gtR_ii, geR_ii, keyD_s, keyD_i, dgetR, eqR_ii, eqR_ss, eqR_bb, eqR_tt, eqR_LL, neR_ii, neR_ss, neR_bb, neR_tt, neR_LL, eqM_ii, eqM_ss, eqM_bb, eqM_tt, eqM_LL, okD_i, okD_s, okD_b, okD_n, okD_t, okD_L, deck_at, deck_sum, deck_cells, deck_len, deck_put, dicOf_mup_same, lstOf_mup_same, int1R_b, int1R_i, ix_t0, ix_t1, ix_t2, ix_t3, ix_t4, lenR_t, lenR_s, lenR_L, slR_t, slR_s, slR_L, cutL_from1, cutL_from2, revR_t, revR_L, tup1R_L, tup1R_t, beq_self_eq_true, Bool.not_true, Bool.not_false, Option.isSome_some, List.isEmpty_nil, List.isEmpty_cons, isR_nn, isR_tn, isR_Ln, isR_sn, isR_in, isR_bn, isR_bb, isNotR_nn, isNotR_tn, isNotR_Ln, isNotR_sn, isNotR_in, isNotR_bn, isNotR_bb, isi_t_bool, isi_t_int, isi_t_str, isi_t_tuple, isi_t_list, isi_t_dict, isi_s_bool, isi_s_int, isi_s_str, isi_s_tuple, isi_s_list, isi_s_dict, isi_i_bool, isi_i_int, isi_i_str, isi_i_tuple, isi_i_list, isi_i_dict, isi_b_bool, isi_b_int, isi_b_str, isi_b_tuple, isi_b_list, isi_b_dict, isi_n_bool, isi_n_int, isi_n_str, isi_n_tuple, isi_n_list, isi_n_dict, isi_L_bool, isi_L_int, isi_L_str, isi_L_tuple, isi_L_list, isi_L_dict, isi_d_bool, isi_d_int, isi_d_str, isi_d_tuple, isi_d_list, isi_d_dict, natlit_eq, Int.reduceNeg, puts, appendR_same, lenR_same, tup1R_same, sz0, sz1, sz2, sz3, sz4, sz5, sz6, sz7, sz8, sz9, sz10, ix_L0, ix_L1, ix_L2, ix_Lbs, dep_nil, dep_cons, dep_tup, dep_lst, dep_str, dep_int, dep_bl, dep_non, dep_strs, dep_ints, dep_app, dep_rules, dep_prog, dep_st, pu_nil, pu_cons, pu_tup, pu_lst, pu_str, pu_int, pu_bl, pu_non, pu_app, pureDs_str, pureDs_int, pu_rule, pu_rules, pu_prog, pu_st, eqv_self, eqvDs_nil, Bool.and_self, Bool.and_true, Bool.true_and, List.length_map, List.length_append, Int.zero_add, Nat.zero_add, cutL_to1, cutL_to2, cutL_to3, cutL_to15, List.take_succ_cons, List.take_zero, List.take_nil, List.drop_succ_cons, List.drop_zero, List.drop_nil, max2R_ii, min2R_ii, cutL_toN, cutL_toS, cutL_fromN, cutL_fromS, List.length_take, List.length_drop, ← List.map_take, ← List.map_drop, ← List.map_append, neR_prog0, eqR_prog0, lenR_prog, rep1, List.length_replicate, Int.toNat_natCast, ofLst_L, sumLR_map, allLR_map, anyLR_map, ofString_beq, ofString_inj, String.reduceBEq, String.reduceEq, decide_true, decide_false, extA_t, extA_L, isSome_same, List.length_reverse, ← List.map_reverse]
    refine draw_B b1 (by omega) (by omega) (by omega) fun a' M2 a0' a1' b2 => ?_
    try simp only [dNext, dBreak, dCont, dDrop, dRet, dRetN, dIfS, dAsg, dputS, dlputS, dOp, dVar, dC, dget_zero, dget_succ, dTest, isB, dNil, dCons, dgName, dTup, dCB, dFresh, dFrz, dFreshD, dFrzD, dDispD, dDisp, dBM, dBM0, dAndV, dOrV, dNotV, dAnd, dOr, dNot, dCall, dNeg, dIf, dFor, dSl, dPart, dNoPart, diRng1, diRng2, diAny, isI, dstart, List.set_cons_zero, List.set_cons_succ, List.map_cons, List.map_nil, List.length_cons, List.length_nil, List.cons_append, List.nil_append, Nat.reduceAdd, Nat.reduceSub, Int.reduceAdd, Int.reduceSub, List.replicate, isLst, dgTup, dgCons, dgNil, dListOf, dJoin, dIndex, dRev, diZip, dPar2, diEnum, dRetX, dDropX, dAsgX, dCallX, dConsX, dTupX, dFrzX, dRaise0, dRaise1, dTryAs, dTryOnly, dXf, asEnds, dLc, wipeD, dCat, dSlL, dPairs, dGet2, dGet1, isDic, ite_true, ite_false, if_true, if_false, reduceIte, Bool.false_eq_true, Bool.true_eq_false, and_true, true_and, rdL_lst, rdL_ref, rdS_lst, rdS_ref, rdS_tup, rdD_dic, rdD_ref, addR_ii, addR_ib, addR_ss, addR_tt, addR_LL, subR_ii, mulR_ii, mulA_ii, mulA_t, mulA_L, modR_ii, fdivR_ii, powR_ii, ltR_ii, leR_ii, gtR_ii, geR_ii, keyD_s, keyD_i, dgetR, eqR_ii, eqR_ss, eqR_bb, eqR_tt, eqR_LL, neR_ii, neR_ss, neR_bb, neR_tt, neR_LL, eqM_ii, eqM_ss, eqM_bb, eqM_tt, eqM_LL, okD_i, okD_s, okD_b, okD_n, okD_t, okD_L, deck_at, deck_sum, deck_cells, deck_len, deck_put, dicOf_mup_same, lstOf_mup_same, int1R_b, int1R_i, ix_t0, ix_t1, ix_t2, ix_t3, ix_t4, lenR_t, lenR_s, lenR_L, slR_t, slR_s, slR_L, cutL_from1, cutL_from2, revR_t, revR_L, tup1R_L, tup1R_t, beq_self_eq_true, Bool.not_true, Bool.not_false, Option.isSome_some, List.isEmpty_nil, List.isEmpty_cons, isR_nn, isR_tn, isR_Ln, isR_sn, isR_in, isR_bn, isR_bb, isNotR_nn, isNotR_tn, isNotR_Ln, isNotR_sn, isNotR_in, isNotR_bn, isNotR_bb, isi_t_bool, isi_t_int, isi_t_str, isi_t_tuple, isi_t_list, isi_t_dict, isi_s_bool, isi_s_int, isi_s_str, isi_s_tuple, isi_s_list, isi_s_dict, isi_i_bool, isi_i_int, isi_i_str, isi_i_tuple, isi_i_list, isi_i_dict, isi_b_bool, isi_b_int, isi_b_str, isi_b_tuple, isi_b_list, isi_b_dict, isi_n_bool, isi_n_int, isi_n_str, isi_n_tuple, isi_n_list, isi_n_dict, isi_L_bool, isi_L_int, isi_L_str, isi_L_tuple, isi_L_list, isi_L_dict, isi_d_bool, isi_d_int, isi_d_str, isi_d_tuple, isi_d_list, isi_d_dict, natlit_eq, Int.reduceNeg, puts, appendR_same, lenR_same, tup1R_same, sz0, sz1, sz2, sz3, sz4, sz5, sz6, sz7, sz8, sz9, sz10, ix_L0, ix_L1, ix_L2, ix_Lbs, dep_nil, dep_cons, dep_tup, dep_lst, dep_str, dep_int, dep_bl, dep_non, dep_strs, dep_ints, dep_app, dep_rules, dep_prog, dep_st, pu_nil, pu_cons, pu_tup, pu_lst, pu_str, pu_int, pu_bl, pu_non, pu_app, pureDs_str, pureDs_int, pu_rule, pu_rules, pu_prog, pu_st, eqv_self, eqvDs_nil, Bool.and_self, Bool.and_true, Bool.true_and, List.length_map, List.length_append, Int.zero_add, Nat.zero_add, cutL_to1, cutL_to2, cutL_to3, cutL_to15, List.take_succ_cons, List.take_zero, List.take_nil, List.drop_succ_cons, List.drop_zero, List.drop_nil, max2R_ii, min2R_ii, cutL_toN, cutL_toS, cutL_fromN, cutL_fromS, List.length_take, List.length_drop, ← List.map_take, ← List.map_drop, ← List.map_append, neR_prog0, eqR_prog0, lenR_prog, rep1, List.length_replicate, Int.toNat_natCast, ofLst_L, sumLR_map, allLR_map, anyLR_map, ofString_beq, ofString_inj, String.reduceBEq, String.reduceEq, decide_true, decide_false, extA_t, extA_L, isSome_same, List.length_reverse, ← List.map_reverse]
    obtain ⟨at_, hat, ha⟩ : ∃ k : Nat, (if (a' == 0) = true then D.int (max 0 ((ns.length : Int) - 1)) else D.int a) = .int (k : Nat) ∧ k ≤ ns.length := by
      split
      · exact ⟨(max 0 ((ns.length : Int) - 1)).toNat, by congr 1; omega, by omega⟩
      · exact ⟨a.toNat, by congr 1; omega, by omega⟩
    rw [hat]
    refine seq_go ?_; try simp only [dNext, dBreak, dCont, dDrop, dRet, dRetN, dIfS, dAsg, dputS, dlputS, dOp, dVar, dC, dget_zero, dget_succ, dTest, isB, dNil, dCons, dgName, dTup, dCB, dFresh, dFrz, dFreshD, dFrzD, dDispD, dDisp, dBM, dBM0, dAndV, dOrV, dNotV, dAnd, dOr, dNot, dCall, dNeg, dIf, dFor, dSl, dPart, dNoPart, diRng1, diRng2, diAny, isI, dstart, List.set_cons_zero, List.set_cons_succ, List.map_cons, List.map_nil, List.length_cons, List.length_nil, List.cons_append, List.nil_append, Nat.reduceAdd, Nat.reduceSub, Int.reduceAdd, Int.reduceSub, List.replicate, isLst, dgTup, dgCons, dgNil, dListOf, dJoin, dIndex, dRev, diZip, dPar2, diEnum, dRetX, dDropX, dAsgX, dCallX, dConsX, dTupX, dFrzX, dRaise0, dRaise1, dTryAs, dTryOnly, dXf, asEnds, dLc, wipeD, dCat, dSlL, dPairs, dGet2, dGet1, isDic, ite_true, ite_false, if_true, if_false, reduceIte, Bool.false_eq_true, Bool.true_eq_false, and_true, true_and, rdL_lst, rdL_ref, rdS_lst, rdS_ref, rdS_tup, rdD_dic, rdD_ref, addR_ii, addR_ib, addR_ss, addR_tt, addR_LL, subR_ii, mulR_ii, mulA_ii, mulA_t, mulA_L, modR_ii, fdivR_ii, powR_ii, ltR_ii, leR_ii, gtR_ii, geR_ii, keyD_s, keyD_i, dgetR, eqR_ii, eqR_ss, eqR_bb, eqR_tt, eqR_LL, neR_ii, neR_ss, neR_bb, neR_tt, neR_LL, eqM_ii, eqM_ss, eqM_bb, eqM_tt, eqM_LL, okD_i, okD_s, okD_b, okD_n, okD_t, okD_L, deck_at, deck_sum, deck_cells, deck_len, deck_put, dicOf_mup_same, lstOf_mup_same, int1R_b, int1R_i, ix_t0, ix_t1, ix_t2, ix_t3, ix_t4, lenR_t, lenR_s, lenR_L, slR_t, slR_s, slR_L, cutL_from1, cutL_from2, revR_t, revR_L, tup1R_L, tup1R_t, beq_self_eq_true, Bool.not_true, Bool.not_false, Option.isSome_some, List.isEmpty_nil, List.isEmpty_cons, isR_nn, isR_tn, isR_Ln, isR_sn, isR_in, isR_bn, isR_bb, isNotR_nn, isNotR_tn, isNotR_Ln, isNotR_sn, isNotR_in, isNotR_bn, isNotR_bb, isi_t_bool, isi_t_int, isi_t_str, isi_t_tuple, isi_t_list, isi_t_dict, isi_s_bool, isi_s_int, isi_s_str, isi_s_tuple, isi_s_list, isi_s_dict, isi_i_bool, isi_i_int, isi_i_str, isi_i_tuple, isi_i_list, isi_i_dict, isi_b_bool, isi_b_int, isi_b_str, isi_b_tuple, isi_b_list, isi_b_dict, isi_n_bool, isi_n_int, isi_n_str, isi_n_tuple, isi_n_list, isi_n_dict, isi_L_bool, isi_L_int, isi_L_str, isi_L_tuple, isi_L_list, isi_L_dict, isi_d_bool, isi_d_int, isi_d_str, isi_d_tuple, isi_d_list, isi_d_dict, natlit_eq, Int.reduceNeg, puts, appendR_same, lenR_same, tup1R_same, sz0, sz1, sz2, sz3, sz4, sz5, sz6, sz7, sz8, sz9, sz10, ix_L0, ix_L1, ix_L2, ix_Lbs, dep_nil, dep_cons, dep_tup, dep_lst, dep_str, dep_int, dep_bl, dep_non, dep_strs, dep_ints, dep_app, dep_rules, dep_prog, dep_st, pu_nil, pu_cons, pu_tup, pu_lst, pu_str, pu_int, pu_bl, pu_non, pu_app, pureDs_str, pureDs_int, pu_rule, pu_rules, pu_prog, pu_st, eqv_self, eqvDs_nil, Bool.and_self, Bool.and_true, Bool.true_and, List.length_map, List.length_append, Int.zero_add, Nat.zero_add, cutL_to1, cutL_to2, cutL_to3, cutL_to15, List.take_succ_cons, List.take_zero, List.take_nil, List.drop_succ_cons, List.drop_zero, List.drop_nil, max2R_ii, min2R_ii, cutL_toN, cutL_toS, cutL_fromN, cutL_fromS, List.length_take, List.length_drop, ← List.map_take, ← List.map_drop, ← List.map_append, neR_prog0, eqR_prog0, lenR_prog, rep1, List.length_replicate, Int.toNat_natCast, ofLst_L, sumLR_map, allLR_map, anyLR_map, ofString_beq, ofString_inj, String.reduceBEq, String.reduceEq, decide_true, decide_false, extA_t, extA_L, isSome_same, List.length_reverse, ← List.map_reverse]
    refine draw_B b2 (by omega) (by omega) (by omega) fun i1 M3 _ _ b3 => ?_
    try simp only [dNext, dBreak, dCont, dDrop, dRet, dRetN, dIfS, dAsg, dputS, dlputS, dOp, dVar, dC, dget_zero, dget_succ, dTest, isB, dNil, dCons, dgName, dTup, dCB, dFresh, dFrz, dFreshD, dFrzD, dDispD, dDisp, dBM, dBM0, dAndV, dOrV, dNotV, dAnd, dOr, dNot, dCall, dNeg, dIf, dFor, dSl, dPart, dNoPart, diRng1, diRng2, diAny, isI, dstart, List.set_cons_zero, List.set_cons_succ, List.map_cons, List.map_nil, List.length_cons, List.length_nil, List.cons_append, List.nil_append, Nat.reduceAdd, Nat.reduceSub, Int.reduceAdd, Int.reduceSub, List.replicate, isLst, dgTup, dgCons, dgNil, dListOf, dJoin, dIndex, dRev, diZip, dPar2, diEnum, dRetX, dDropX, dAsgX, dCallX, dConsX, dTupX, dFrzX, dRaise0, dRaise1, dTryAs, dTryOnly, dXf, asEnds, dLc, wipeD, dCat, dSlL, dPairs, dGet2, dGet1, isDic, ite_true, ite_false, if_true, if_false, reduceIte, Bool.false_eq_true, Bool.true_eq_false, and_true, true_and, rdL_lst, rdL_ref, rdS_lst, rdS_ref, rdS_tup, rdD_dic, rdD_ref, addR_ii, addR_ib, addR_ss, addR_tt, addR_LL, subR_ii, mulR_ii, mulA_ii, mulA_t, mulA_L, modR_ii, fdivR_ii, powR_ii, ltR_ii, leR_ii, gtR_ii, geR_ii, keyD_s, keyD_i, dgetR, eqR_ii, eqR_ss, eqR_bb, eqR_tt, eqR_LL, neR_ii, neR_ss, neR_bb, neR_tt, neR_LL, eqM_ii, eqM_ss, eqM_bb, eqM_tt, eqM_LL, okD_i, okD_s, okD_b, okD_n, okD_t, okD_L, deck_at, deck_sum, deck_cells, deck_len, deck_put, dicOf_mup_same, lstOf_mup_same, int1R_b, int1R_i, ix_t0, ix_t1, ix_t2, ix_t3, ix_t4, lenR_t, lenR_s, lenR_L, slR_t, slR_s, slR_L, cutL_from1, cutL_from2, revR_t, revR_L, tup1R_L, tup1R_t, beq_self_eq_true, Bool.not_true, Bool.not_false, Option.isSome_some, List.isEmpty_nil, List.isEmpty_cons, isR_nn, isR_tn, isR_Ln, isR_sn, isR_in, isR_bn, isR_bb, isNotR_nn, isNotR_tn, isNotR_Ln, isNotR_sn, isNotR_in, isNotR_bn, isNotR_bb, isi_t_bool, isi_t_int, isi_t_str, isi_t_tuple, isi_t_list, isi_t_dict, isi_s_bool, isi_s_int, isi_s_str, isi_s_tuple, isi_s_list, isi_s_dict, isi_i_bool, isi_i_int, isi_i_str, isi_i_tuple, isi_i_list, isi_i_dict, isi_b_bool, isi_b_int, isi_b_str, isi_b_tuple, isi_b_list, isi_b_dict, isi_n_bool, isi_n_int, isi_n_str, isi_n_tuple, isi_n_list, isi_n_dict, isi_L_bool, isi_L_int, isi_L_str, isi_L_tuple, isi_L_list, isi_L_dict, isi_d_bool, isi_d_int, isi_d_str, isi_d_tuple, isi_d_list, isi_d_dict, natlit_eq, Int.reduceNeg, puts, appendR_same, lenR_same, tup1R_same, sz0, sz1, sz2, sz3, sz4, sz5, sz6, sz7, sz8, sz9, sz10, ix_L0, ix_L1, ix_L2, ix_Lbs, dep_nil, dep_cons, dep_tup, dep_lst, dep_str, dep_int, dep_bl, dep_non, dep_strs, dep_ints, dep_app, dep_rules, dep_prog, dep_st, pu_nil, pu_cons, pu_tup, pu_lst, pu_str, pu_int, pu_bl, pu_non, pu_app, pureDs_str, pureDs_int, pu_rule, pu_rules, pu_prog, pu_st, eqv_self, eqvDs_nil, Bool.and_self, Bool.and_true, Bool.true_and, List.length_map, List.length_append, Int.zero_add, Nat.zero_add, cutL_to1, cutL_to2, cutL_to3, cutL_to15, List.take_succ_cons, List.take_zero, List.take_nil, List.drop_succ_cons, List.drop_zero, List.drop_nil, max2R_ii, min2R_ii, cutL_toN, cutL_toS, cutL_fromN, cutL_fromS, List.length_take, List.length_drop, ← List.map_take, ← List.map_drop, ← List.map_append, neR_prog0, eqR_prog0, lenR_prog, rep1, List.length_replicate, Int.toNat_natCast, ofLst_L, sumLR_map, allLR_map, anyLR_map, ofString_beq, ofString_inj, String.reduceBEq, String.reduceEq, decide_true, decide_false, extA_t, extA_L, isSome_same, List.length_reverse, ← List.map_reverse]
    refine draw_B b3 (by omega) (by omega) (by omega) fun i2 M4 _ _ b4 => ?_
    try simp only [dNext, dBreak, dCont, dDrop, dRet, dRetN, dIfS, dAsg, dputS, dlputS, dOp, dVar, dC, dget_zero, dget_succ, dTest, isB, dNil, dCons, dgName, dTup, dCB, dFresh, dFrz, dFreshD, dFrzD, dDispD, dDisp, dBM, dBM0, dAndV, dOrV, dNotV, dAnd, dOr, dNot, dCall, dNeg, dIf, dFor, dSl, dPart, dNoPart, diRng1, diRng2, diAny, isI, dstart, List.set_cons_zero, List.set_cons_succ, List.map_cons, List.map_nil, List.length_cons, List.length_nil, List.cons_append, List.nil_append, Nat.reduceAdd, Nat.reduceSub, Int.reduceAdd, Int.reduceSub, List.replicate, isLst, dgTup, dgCons, dgNil, dListOf, dJoin, dIndex, dRev, diZip, dPar2, diEnum, dRetX, dDropX, dAsgX, dCallX, dConsX, dTupX, dFrzX, dRaise0, dRaise1, dTryAs, dTryOnly, dXf, asEnds, dLc, wipeD, dCat, dSlL, dPairs, dGet2, dGet1, isDic, ite_true, ite_false, if_true, if_false, reduceIte, Bool.false_eq_true, Bool.true_eq_false, and_true, true_and, rdL_lst, rdL_ref, rdS_lst, rdS_ref, rdS_tup, rdD_dic, rdD_ref, addR_ii, addR_ib, addR_ss, addR_tt, addR_LL, subR_ii, mulR_ii, mulA_ii, mulA_t, mulA_L, modR_ii, fdivR_ii, powR_ii, ltR_ii, leR_ii, gtR_ii, geR_ii, keyD_s, keyD_i, dgetR, eqR_ii, eqR_ss, eqR_bb, eqR_tt, eqR_LL, neR_ii, neR_ss, neR_bb, neR_tt, neR_LL, eqM_ii, eqM_ss, eqM_bb, eqM_tt, eqM_LL, okD_i, okD_s, okD_b, okD_n, okD_t, okD_L, deck_at, deck_sum, deck_cells, deck_len, deck_put, dicOf_mup_same, lstOf_mup_same, int1R_b, int1R_i, ix_t0, ix_t1, ix_t2, ix_t3, ix_t4, lenR_t, lenR_s, lenR_L, slR_t, slR_s, slR_L, cutL_from1, cutL_from2, revR_t, revR_L, tup1R_L, tup1R_t, beq_self_eq_true, Bool.not_true, Bool.not_false, Option.isSome_some, List.isEmpty_nil, List.isEmpty_cons, isR_nn, isR_tn, isR_Ln, isR_sn, isR_in, isR_bn, isR_bb, isNotR_nn, isNotR_tn, isNotR_Ln, isNotR_sn, isNotR_in, isNotR_bn, isNotR_bb, isi_t_bool, isi_t_int, isi_t_str, isi_t_tuple, isi_t_list, isi_t_dict, isi_s_bool, isi_s_int, isi_s_str, isi_s_tuple, isi_s_list, isi_s_dict, isi_i_bool, isi_i_int, isi_i_str, isi_i_tuple, isi_i_list, isi_i_dict, isi_b_bool, isi_b_int, isi_b_str, isi_b_tuple, isi_b_list, isi_b_dict, isi_n_bool, isi_n_int, isi_n_str, isi_n_tuple, isi_n_list, isi_n_dict, isi_L_bool, isi_L_int, isi_L_str, isi_L_tuple, isi_L_list, isi_L_dict, isi_d_bool, isi_d_int, isi_d_str, isi_d_tuple, isi_d_list, isi_d_dict, natlit_eq, Int.reduceNeg, puts, appendR_same, lenR_same, tup1R_same, sz0, sz1, sz2, sz3, sz4, sz5, sz6, sz7, sz8, sz9, sz10, ix_L0, ix_L1, ix_L2, ix_Lbs, dep_nil, dep_cons, dep_tup, dep_lst, dep_str, dep_int, dep_bl, dep_non, dep_strs, dep_ints, dep_app, dep_rules, dep_prog, dep_st, pu_nil, pu_cons, pu_tup, pu_lst, pu_str, pu_int, pu_bl, pu_non, pu_app, pureDs_str, pureDs_int, pu_rule, pu_rules, pu_prog, pu_st, eqv_self, eqvDs_nil, Bool.and_self, Bool.and_true, Bool.true_and, List.length_map, List.length_append, Int.zero_add, Nat.zero_add, cutL_to1, cutL_to2, cutL_to3, cutL_to15, List.take_succ_cons, List.take_zero, List.take_nil, List.drop_succ_cons, List.drop_zero, List.drop_nil, max2R_ii, min2R_ii, cutL_toN, cutL_toS, cutL_fromN, cutL_fromS, List.length_take, List.length_drop, ← List.map_take, ← List.map_drop, ← List.map_append, neR_prog0, eqR_prog0, lenR_prog, rep1, List.length_replicate, Int.toNat_natCast, ofLst_L, sumLR_map, allLR_map, anyLR_map, ofString_beq, ofString_inj, String.reduceBEq, String.reduceEq, decide_true, decide_false, extA_t, extA_L, isSome_same, List.length_reverse, ← List.map_reverse]
    refine draw_B b4 (by omega) (by omega) (by omega) fun i3 M5 _ _ b5 => ?_
    try simp only [dNext, dBreak, dCont, dDrop, dRet, dRetN, dIfS, dAsg, dputS, dlputS, dOp, dVar, dC, dget_zero, dget_succ, dTest, isB, dNil, dCons, dgName, dTup, dCB, dFresh, dFrz, dFreshD, dFrzD, dDispD, dDisp, dBM, dBM0, dAndV, dOrV, dNotV, dAnd, dOr, dNot, dCall, dNeg, dIf, dFor, dSl, dPart, dNoPart, diRng1, diRng2, diAny, isI, dstart, List.set_cons_zero, List.set_cons_succ, List.map_cons, List.map_nil, List.length_cons, List.length_nil, List.cons_append, List.nil_append, Nat.reduceAdd, Nat.reduceSub, Int.reduceAdd, Int.reduceSub, List.replicate, isLst, dgTup, dgCons, dgNil, dListOf, dJoin, dIndex, dRev, diZip, dPar2, diEnum, dRetX, dDropX, dAsgX, dCallX, dConsX, dTupX, dFrzX, dRaise0, dRaise1, dTryAs, dTryOnly, dXf, asEnds, dLc, wipeD, dCat, dSlL, dPairs, dGet2, dGet1, isDic, ite_true, ite_false, if_true, if_false, reduceIte, Bool.false_eq_true, Bool.true_eq_false, and_true, true_and, rdL_lst, rdL_ref, rdS_lst, rdS_ref, rdS_tup, rdD_dic, rdD_ref, addR_ii, addR_ib, addR_ss, addR_tt, addR_LL, subR_ii, mulR_ii, mulA_ii, mulA_t, mulA_L, modR_ii, fdivR_ii, powR_ii, ltR_ii, leR_ii, gtR_ii, geR_ii, keyD_s, keyD_i, dgetR, eqR_ii, eqR_ss, eqR_bb, eqR_tt, eqR_LL, neR_ii, neR_ss, neR_bb, neR_tt, neR_LL, eqM_ii, eqM_ss, eqM_bb, eqM_tt, eqM_LL, okD_i, okD_s, okD_b, okD_n, okD_t, okD_L, deck_at, deck_sum, deck_cells, deck_len, deck_put, dicOf_mup_same, lstOf_mup_same, int1R_b, int1R_i, ix_t0, ix_t1, ix_t2, ix_t3, ix_t4, lenR_t, lenR_s, lenR_L, slR_t, slR_s, slR_L, cutL_from1, cutL_from2, revR_t, revR_L, tup1R_L, tup1R_t, beq_self_eq_true, Bool.not_true, Bool.not_false, Option.isSome_some, List.isEmpty_nil, List.isEmpty_cons, isR_nn, isR_tn, isR_Ln, isR_sn, isR_in, isR_bn, isR_bb, isNotR_nn, isNotR_tn, isNotR_Ln, isNotR_sn, isNotR_in, isNotR_bn, isNotR_bb, isi_t_bool, isi_t_int, isi_t_str, isi_t_tuple, isi_t_list, isi_t_dict, isi_s_bool, isi_s_int, isi_s_str, isi_s_tuple, isi_s_list, isi_s_dict, isi_i_bool, isi_i_int, isi_i_str, isi_i_tuple, isi_i_list, isi_i_dict, isi_b_bool, isi_b_int, isi_b_str, isi_b_tuple, isi_b_list, isi_b_dict, isi_n_bool, isi_n_int, isi_n_str, isi_n_tuple, isi_n_list, isi_n_dict, isi_L_bool, isi_L_int, isi_L_str, isi_L_tuple, isi_L_list, isi_L_dict, isi_d_bool, isi_d_int, isi_d_str, isi_d_tuple, isi_d_list, isi_d_dict, natlit_eq, Int.reduceNeg, puts, appendR_same, lenR_same, tup1R_same, sz0, sz1, sz2, sz3, sz4, sz5, sz6, sz7, sz8, sz9, sz10, ix_L0, ix_L1, ix_L2, ix_Lbs, dep_nil, dep_cons, dep_tup, dep_lst, dep_str, dep_int, dep_bl, dep_non, dep_strs, dep_ints, dep_app, dep_rules, dep_prog, dep_st, pu_nil, pu_cons, pu_tup, pu_lst, pu_str, pu_int, pu_bl, pu_non, pu_app, pureDs_str, pureDs_int, pu_rule, pu_rules, pu_prog, pu_st, eqv_self, eqvDs_nil, Bool.and_self, Bool.and_true, Bool.true_and, List.length_map, List.length_append, Int.zero_add, Nat.zero_add, cutL_to1, cutL_to2, cutL_to3, cutL_to15, List.take_succ_cons, List.take_zero, List.take_nil, List.drop_succ_cons, List.drop_zero, List.drop_nil, max2R_ii, min2R_ii, cutL_toN, cutL_toS, cutL_fromN, cutL_fromS, List.length_take, List.length_drop, ← List.map_take, ← List.map_drop, ← List.map_append, neR_prog0, eqR_prog0, lenR_prog, rep1, List.length_replicate, Int.toNat_natCast, ofLst_L, sumLR_map, allLR_map, anyLR_map, ofString_beq, ofString_inj, String.reduceBEq, String.reduceEq, decide_true, decide_false, extA_t, extA_L, isSome_same, List.length_reverse, ← List.map_reverse]
    refine draw_B b5 (by omega) (by omega) (by omega) fun i4 M6 h60 h61 b6 => ?_
    try simp only [dNext, dBreak, dCont, dDrop, dRet, dRetN, dIfS, dAsg, dputS, dlputS, dOp, dVar, dC, dget_zero, dget_succ, dTest, isB, dNil, dCons, dgName, dTup, dCB, dFresh, dFrz, dFreshD, dFrzD, dDispD, dDisp, dBM, dBM0, dAndV, dOrV, dNotV, dAnd, dOr, dNot, dCall, dNeg, dIf, dFor, dSl, dPart, dNoPart, diRng1, diRng2, diAny, isI, dstart, List.set_cons_zero, List.set_cons_succ, List.map_cons, List.map_nil, List.length_cons, List.length_nil, List.cons_append, List.nil_append, Nat.reduceAdd, Nat.reduceSub, Int.reduceAdd, Int.reduceSub, List.replicate, isLst, dgTup, dgCons, dgNil, dListOf, dJoin, dIndex, dRev, diZip, dPar2, diEnum, dRetX, dDropX, dAsgX, dCallX, dConsX, dTupX, dFrzX, dRaise0, dRaise1, dTryAs, dTryOnly, dXf, asEnds, dLc, wipeD, dCat, dSlL, dPairs, dGet2, dGet1, isDic, ite_true, ite_false, if_true, if_false, reduceIte, Bool.false_eq_true, Bool.true_eq_false, and_true, true_and, rdL_lst, rdL_ref, rdS_lst, rdS_ref, rdS_tup, rdD_dic, rdD_ref, addR_ii, addR_ib, addR_ss, addR_tt, addR_LL, subR_ii, mulR_ii, mulA_ii, mulA_t, mulA_L, modR_ii, fdivR_ii, powR_ii, ltR_ii, leR_ii, gtR_ii, geR_ii, keyD_s, keyD_i, dgetR, eqR_ii, eqR_ss, eqR_bb, eqR_tt, eqR_LL, neR_ii, neR_ss, neR_bb, neR_tt, neR_LL, eqM_ii, eqM_ss, eqM_bb, eqM_tt, eqM_LL, okD_i, okD_s, okD_b, okD_n, okD_t, okD_L, deck_at, deck_sum, deck_cells, deck_len, deck_put, dicOf_mup_same, lstOf_mup_same, int1R_b, int1R_i, ix_t0, ix_t1, ix_t2, ix_t3, ix_t4, lenR_t, lenR_s, lenR_L, slR_t, slR_s, slR_L, cutL_from1, cutL_from2, revR_t, revR_L, tup1R_L, tup1R_t, beq_self_eq_true, Bool.not_true, Bool.not_false, Option.isSome_some, List.isEmpty_nil, List.isEmpty_cons, isR_nn, isR_tn, isR_Ln, isR_sn, isR_in, isR_bn, isR_bb, isNotR_nn, isNotR_tn, isNotR_Ln, isNotR_sn, isNotR_in, isNotR_bn, isNotR_bb, isi_t_bool, isi_t_int, isi_t_str, isi_t_tuple, isi_t_list, isi_t_dict, isi_s_bool, isi_s_int, isi_s_str, isi_s_tuple, isi_s_list, isi_s_dict, isi_i_bool, isi_i_int, isi_i_str, isi_i_tuple, isi_i_list, isi_i_dict, isi_b_bool, isi_b_int, isi_b_str, isi_b_tuple, isi_b_list, isi_b_dict, isi_n_bool, isi_n_int, isi_n_str, isi_n_tuple, isi_n_list, isi_n_dict, isi_L_bool, isi_L_int, isi_L_str, isi_L_tuple, isi_L_list, isi_L_dict, isi_d_bool, isi_d_int, isi_d_str, isi_d_tuple, isi_d_list, isi_d_dict, natlit_eq, Int.reduceNeg, puts, appendR_same, lenR_same, tup1R_same, sz0, sz1, sz2, sz3, sz4, sz5, sz6, sz7, sz8, sz9, sz10, ix_L0, ix_L1, ix_L2, ix_Lbs, dep_nil, dep_cons, dep_tup, dep_lst, dep_str, dep_int, dep_bl, dep_non, dep_strs, dep_ints, dep_app, dep_rules, dep_prog, dep_st, pu_nil, pu_cons, pu_tup, pu_lst, pu_str, pu_int, pu_bl, pu_non, pu_app, pureDs_str, pureDs_int, pu_rule, pu_rules, pu_prog, pu_st, eqv_self, eqvDs_nil, Bool.and_self, Bool.and_true, Bool.true_and, List.length_map, List.length_append, Int.zero_add, Nat.zero_add, cutL_to1, cutL_to2, cutL_to3, cutL_to15, List.take_succ_cons, List.take_zero, List.take_nil, List.drop_succ_cons, List.drop_zero, List.drop_nil, max2R_ii, min2R_ii, cutL_toN, cutL_toS, cutL_fromN, cutL_fromS, List.length_take, List.length_drop, ← List.map_take, ← List.map_drop, ← List.map_append, neR_prog0, eqR_prog0, lenR_prog, rep1, List.length_replicate, Int.toNat_natCast, ofLst_L, sumLR_map, allLR_map, anyLR_map, ofString_beq, ofString_inj, String.reduceBEq, String.reduceEq, decide_true, decide_false, extA_t, extA_L, isSome_same, List.length_reverse, ← List.map_reverse]
    refine ix_allL (fun y => ∃ o : Int, y = .int o) h60 (by simp; omega) (by simp) fun y ⟨o, e⟩ => ?_
    subst e
    repeat (first | (with_reducible refine sq_asg ?_) | (with_reducible refine sq_drop ?_) | (with_reducible refine sq_for ?_) | (with_reducible refine sq_while ?_) | (with_reducible refine sq_dput ?_) | (with_reducible refine sq_lput ?_) | (with_reducible refine sq_par2 ?_) | (with_reducible refine sq_asgX ?_) | (with_reducible refine sq_dropX ?_) | (simp only [dNext, dBreak, dCont, dDrop, dRet, dRetN, dIfS, dAsg, dputS, dlputS, dOp, dVar, dC, dget_zero, dget_succ, dTest, isB, dNil, dCons, dgName, dTup, dCB, dFresh, dFrz, dFreshD, dFrzD, dDispD, dDisp, dBM, dBM0, dAndV, dOrV, dNotV, dAnd, dOr, dNot, dCall, dNeg, dIf, dFor, dSl, dPart, dNoPart, diRng1, diRng2, diAny, isI, dstart, List.set_cons_zero, List.set_cons_succ, List.map_cons, List.map_nil, List.length_cons, List.length_nil, List.cons_append, List.nil_append, Nat.reduceAdd, Nat.reduceSub, Int.reduceAdd, Int.reduceSub, List.replicate, isLst, dgTup, dgCons, dgNil, dListOf, dJoin, dIndex, dRev, diZip, dPar2, diEnum, dRetX, dDropX, dAsgX, dCallX, dConsX, dTupX, dFrzX, dRaise0, dRaise1, dTryAs, dTryOnly, dXf, asEnds, dLc, wipeD, dCat, dSlL, dPairs, dGet2, dGet1, isDic, ite_true, ite_false, if_true, if_false, reduceIte, Bool.false_eq_true, Bool.true_eq_false, and_true, true_and, rdL_lst, rdL_ref, rdS_lst, rdS_ref, rdS_tup, rdD_dic, rdD_ref, addR_ii, addR_ib, addR_ss, addR_tt, addR_LL, subR_ii, mulR_ii, mulA_ii, mulA_t, mulA_L, modR_ii, fdivR_ii, powR_ii, ltR_ii, leR_ii, gtR_ii, geR_ii, keyD_s, keyD_i, dgetR, eqR_ii, eqR_ss, eqR_bb, eqR_tt, eqR_LL, neR_ii, neR_ss, neR_bb, neR_tt, neR_LL, eqM_ii, eqM_ss, eqM_bb, eqM_tt, eqM_LL, okD_i, okD_s, okD_b, okD_n, okD_t, okD_L, deck_at, deck_sum, deck_cells, deck_len, deck_put, dicOf_mup_same, lstOf_mup_same, int1R_b, int1R_i, ix_t0, ix_t1, ix_t2, ix_t3, ix_t4, lenR_t, lenR_s, lenR_L, slR_t, slR_s, slR_L, cutL_from1, cutL_from2, revR_t, revR_L, tup1R_L, tup1R_t, beq_self_eq_true, Bool.not_true, Bool.not_false, Option.isSome_some, List.isEmpty_nil, List.isEmpty_cons, isR_nn, isR_tn, isR_Ln, isR_sn, isR_in, isR_bn, isR_bb, isNotR_nn, isNotR_tn, isNotR_Ln, isNotR_sn, isNotR_in, isNotR_bn, isNotR_bb, isi_t_bool, isi_t_int, isi_t_str, isi_t_tuple, isi_t_list, isi_t_dict, isi_s_bool, isi_s_int, isi_s_str, isi_s_tuple, isi_s_list, isi_s_dict, isi_i_bool, isi_i_int, isi_i_str, isi_i_tuple, isi_i_list, isi_i_dict, isi_b_bool, isi_b_int, isi_b_str, isi_b_tuple, isi_b_list, isi_b_dict, isi_n_bool, isi_n_int, isi_n_str, isi_n_tuple, isi_n_list, isi_n_dict, isi_L_bool, isi_L_int, isi_L_str, isi_L_tuple, isi_L_list, isi_L_dict, isi_d_bool, isi_d_int, isi_d_str, isi_d_tuple, isi_d_list, isi_d_dict, natlit_eq, Int.reduceNeg, puts, appendR_same, lenR_same, tup1R_same, sz0, sz1, sz2, sz3, sz4, sz5, sz6, sz7, sz8, sz9, sz10, ix_L0, ix_L1, ix_L2, ix_Lbs, dep_nil, dep_cons, dep_tup, dep_lst, dep_str, dep_int, dep_bl, dep_non, dep_strs, dep_ints, dep_app, dep_rules, dep_prog, dep_st, pu_nil, pu_cons, pu_tup, pu_lst, pu_str, pu_int, pu_bl, pu_non, pu_app, pureDs_str, pureDs_int, pu_rule, pu_rules, pu_prog, pu_st, eqv_self, eqvDs_nil, Bool.and_self, Bool.and_true, Bool.true_and, List.length_map, List.length_append, Int.zero_add, Nat.zero_add, cutL_to1, cutL_to2, cutL_to3, cutL_to15, List.take_succ_cons, List.take_zero, List.take_nil, List.drop_succ_cons, List.drop_zero, List.drop_nil, max2R_ii, min2R_ii, cutL_toN, cutL_toS, cutL_fromN, cutL_fromS, List.length_take, List.length_drop, ← List.map_take, ← List.map_drop, ← List.map_append, neR_prog0, eqR_prog0, lenR_prog, rep1, List.length_replicate, Int.toNat_natCast, ofLst_L, sumLR_map, allLR_map, anyLR_map, ofString_beq, ofString_inj, String.reduceBEq, String.reduceEq, decide_true, decide_false, extA_t, extA_L, isSome_same, List.length_reverse, ← List.map_reverse]) | ((with_reducible refine And.intro ?_ ?_); focus (first | with_reducible exact small_line2 (by omega) | with_reducible exact small_lt2 (by omega) | with_reducible exact cmul_sm (by omega) (by omega) (by omega) (by omega) | with_reducible exact inLine_nat (by omega) | exact ⟨by omega, by omega⟩ | exact ⟨by omega, by omega, by simp⟩ | omega | decide)))
    refine draw_B b6 (by omega) (by omega) (by omega) fun i5 M7 h50 h51 b7 => ?_
    refine ix_allL (fun y => ∃ ms : List Int, y = .tup (ms.map D.int) ∧ ms.length ≤ ns.length + 1) h50 (by simp; omega) (fun y hy => ?_) fun y hy => b7.done k hy (by omega)
    · simp only [List.mem_cons, List.not_mem_nil, or_false] at hy
      rcases hy with rfl | rfl | rfl | rfl | rfl
      · exact ⟨ns.take at_ ++ [o] ++ ns.drop (at_ + 1), by simp, by simp; omega⟩
      · exact ⟨ns.take at_ ++ [o] ++ ns.drop at_, by simp, by simp; omega⟩
      · exact ⟨ns.take at_ ++ ns.drop (at_ + 1), by simp, by simp; omega⟩
      · exact ⟨ns.take (at_ + 1) ++ ns.drop at_, by simp, by simp; omega⟩
      · exact ⟨ns ++ [o], by simp, by simp⟩
theorem long_nat {u v : Int} (u0 : 0 ≤ u) (u1 : u < 3) (v0 : 0 ≤ v) (v1 : v < 300) : ∃ lo : Nat, 1000 - u * v = (lo : Int) ∧ 1 ≤ lo ∧ lo ≤ 1000 := by
  have hu : u = 0 ∨ u = 1 ∨ u = 2 := by omega
  rcases hu with h | h | h <;> subst h
  · exact ⟨1000, by omega, by omega, by omega⟩
  · exact ⟨(1000 - v).toNat, by omega, by omega, by omega⟩
  · exact ⟨(1000 - 2 * v).toNat, by omega, by omega, by omega⟩
theorem ok_law {f_law f__law_draw f__law_drawn f__law_pick f__law_gone f__law_right f__law_bent f__law_told f__law_deck : Addr} {fd_law fd__law_draw fd__law_drawn fd__law_pick fd__law_gone fd__law_right fd__law_bent fd__law_told fd__law_deck : FuncData} (F_law : Fun K "law" "law" st_law f_law fd_law) (G__law_draw : FnOk P w K mg base CX0 1 f__law_draw fd__law_draw ["_law_deck_here", "_law_most"] (toSp K sp__law_draw)) (g__law_draw : mg "_law_draw" = some (.ref f__law_draw)) (k__law_draw : PySem.W.keepIn K (.ref f__law_draw) = true) (b__law_draw : Binds K fd__law_draw ["_law_deck_here", "_law_most"] []) (G__law_drawn : FnOk P w K mg base CX0 4 f__law_drawn fd__law_drawn ["_law_deck_here"] (toSp K sp__law_drawn)) (g__law_drawn : mg "_law_drawn" = some (.ref f__law_drawn)) (k__law_drawn : PySem.W.keepIn K (.ref f__law_drawn) = true) (b__law_drawn : Binds K fd__law_drawn ["_law_deck_here"] []) (G__law_pick : FnOk P w K mg base CX0 2 f__law_pick fd__law_pick ["_law_deck_here", "_law_some"] (toSp K sp__law_pick)) (g__law_pick : mg "_law_pick" = some (.ref f__law_pick)) (k__law_pick : PySem.W.keepIn K (.ref f__law_pick) = true) (b__law_pick : Binds K fd__law_pick ["_law_deck_here", "_law_some"] []) (G__law_gone : FnOk P w K mg base CX0 3 f__law_gone fd__law_gone ["_law_deck_here", "_law_program_here", "_law_stand", "_law_most"] (toSp K sp__law_gone)) (g__law_gone : mg "_law_gone" = some (.ref f__law_gone)) (k__law_gone : PySem.W.keepIn K (.ref f__law_gone) = true) (b__law_gone : Binds K fd__law_gone ["_law_deck_here", "_law_program_here", "_law_stand", "_law_most"] []) (G__law_right : FnOk P w K mg base CX0 5 f__law_right fd__law_right ["_law_program_here", "_law_stand", "_law_run"] (toSp K sp__law_right)) (g__law_right : mg "_law_right" = some (.ref f__law_right)) (k__law_right : PySem.W.keepIn K (.ref f__law_right) = true) (b__law_right : Binds K fd__law_right ["_law_program_here", "_law_stand", "_law_run"] []) (G__law_bent : FnOk P w K mg base CX0 2 f__law_bent fd__law_bent ["_law_deck_here", "_law_run", "_law_many"] (toSp K sp__law_bent)) (g__law_bent : mg "_law_bent" = some (.ref f__law_bent)) (k__law_bent : PySem.W.keepIn K (.ref f__law_bent) = true) (b__law_bent : Binds K fd__law_bent ["_law_deck_here", "_law_run", "_law_many"] []) (G__law_told : FnOk P w K mg base CX0 4 f__law_told fd__law_told ["_law_program_here", "_law_stand", "_law_run"] (toSp K sp__law_told)) (g__law_told : mg "_law_told" = some (.ref f__law_told)) (k__law_told : PySem.W.keepIn K (.ref f__law_told) = true) (b__law_told : Binds K fd__law_told ["_law_program_here", "_law_stand", "_law_run"] []) (G__law_deck : FnOk P w K mg base CX0 1 f__law_deck fd__law_deck ["_law_script"] (spDeckH K)) (g__law_deck : mg "_law_deck" = some (.ref f__law_deck)) (k__law_deck : PySem.W.keepIn K (.ref f__law_deck) = true) (b__law_deck : Binds K fd__law_deck ["_law_script"] []) (z_range : mg "range" = none) (z_tuple : mg "tuple" = none) (z_len : mg "len" = none) : FnOk P w K mg base CX0 6 f_law fd_law ["_law_script"] (spLawH K) := by
  refine law_ok (k := 5) F_law sc_law (by decide) (by rfl) fun cdv A outer s H E hr => ⟨_, (ps_set (i := 1) sc_law.nd rfl (by first | exact Or.inl rfl | exact Or.inr rfl) (pe_call G__law_deck (hr.mono (by decide)) (by rfl) g__law_deck k__law_deck b__law_deck .nil pass0 (pa_cons (pv 0) pa_nil))),
    (jb_cons (js_set (i := 2) sc_law.nd (je_call G__law_draw (hr.mono (by decide)) (by rfl) g__law_draw k__law_draw b__law_draw (ja_cons (jv 1) (ja_cons je_int ja_nil))))
      (jb_cons (js_asg (je_call G__law_drawn (hr.mono (by decide)) (by rfl) g__law_drawn k__law_drawn b__law_drawn (ja_cons (jv 1) ja_nil)) (jg_tup (n := 3) rfl (jgs_cons (jg_name (i := 3) sc_law.nd) (jgs_cons (jg_name (i := 4) sc_law.nd) (jgs_cons (jg_name (i := 5) sc_law.nd) jgs_nil)))))
      (jb_cons (js_for PassesOwn.never rfl (ji_rng1 (by rfl) z_range je_int) (jg_name (i := 6) sc_law.nd) (jb_cons (js_set (i := 7) sc_law.nd (je_tup (ja_cons (je_call G__law_pick (hr.mono (by decide)) (by rfl) g__law_pick k__law_pick b__law_pick (ja_cons (jv 1) (ja_cons (jv 4) ja_nil))) (ja_cons (je_tuple z_tuple (ja_cons (je_frz (jl_lc rfl sc_law.nd (jlc (ji_rng1 (by rfl) z_range (je_call G__law_draw (hr.mono (by decide)) (by rfl) g__law_draw k__law_draw b__law_draw (ja_cons (jv 1) (ja_cons je_int ja_nil)))) (blkOk_by (own := [("_law_k", 14)]) (N := N_law) (sc := defScope st_law) (by decide +kernel)) (fun _ _ _ _ _ => (jgv_name (i := 14) sc_law.nd (by decide))) (fun _ _ _ _ _ => jts_nil) (fun _ _ _ _ _ => (je_call G__law_pick (hr.mono (by decide)) (by rfl) g__law_pick k__law_pick b__law_pick (ja_cons (jv 1) (ja_cons (jv 5) ja_nil))))))) ja_nil)) ja_nil)))) (jb_cons (js_if (jt_ne hr (jv 3) (je_tup ja_nil)) (jb_cons (js_set (i := 8) sc_law.nd (je_call G__law_pick (hr.mono (by decide)) (by rfl) g__law_pick k__law_pick b__law_pick (ja_cons (jv 1) (ja_cons (jv 3) ja_nil)))) (jb_one (js_set (i := 7) sc_law.nd (je_tup (ja_cons (je_ix (jv 8) je_int) (ja_cons (je_add (je_tup (ja_cons (je_ix (jv 8) je_int) ja_nil)) (je_slice (je_ix (jv 7) je_int) jo_none (jo_some je_int))) ja_nil)))))) jb_nil) (jb_cons (js_set (i := 9) sc_law.nd (je_call G__law_gone (hr.mono (by decide)) (by rfl) g__law_gone k__law_gone b__law_gone (ja_cons (jv 1) (ja_cons (jv 3) (ja_cons (jv 7) (ja_cons (je_ix (je_frz (jl_disp (ja_cons je_int (ja_cons je_int (ja_cons je_int ja_nil))))) (jv 2)) ja_nil)))))) (jb_cons (js_if (JW.jt (jw_or (jt_not (jt_val (je_call G__law_right (hr.mono (by decide)) (by rfl) g__law_right k__law_right b__law_right (ja_cons (jv 3) (ja_cons (jv 7) (ja_cons (jv 9) ja_nil)))))) (jw_or1 (jt_not (jt_val (je_call G__law_right (hr.mono (by decide)) (by rfl) g__law_right k__law_right b__law_right (ja_cons (jv 3) (ja_cons (jv 7) (ja_cons (je_tup ja_nil) ja_nil))))))))) (jb_one (js_ret je_bl)) jb_nil) (jb_one (js_for PassesOwn.never rfl (ji_rng1 (by rfl) z_range je_int) (jg_name (i := 10) sc_law.nd) (jb_cons (js_if (jt_not (jt_val (je_call G__law_right (hr.mono (by decide)) (by rfl) g__law_right k__law_right b__law_right (ja_cons (jv 3) (ja_cons (jv 7) (ja_cons (je_call G__law_bent (hr.mono (by decide)) (by rfl) g__law_bent k__law_bent b__law_bent (ja_cons (jv 1) (ja_cons (jv 9) (ja_cons (je_len z_len (ja_cons (jv 3) ja_nil)) ja_nil)))) ja_nil)))))) (jb_one (js_ret je_bl)) jb_nil) (jb_one (js_if (jt_not (jt_val (je_call G__law_right (hr.mono (by decide)) (by rfl) g__law_right k__law_right b__law_right (ja_cons (jv 3) (ja_cons (jv 7) (ja_cons (jv 9) ja_nil)))))) (jb_one (js_ret je_bl)) jb_nil))))))))))
      (jb_cons (js_par2 (i := 11) (j := 12) rfl sc_law.nd (ja_cons (je_ix (jv 4) je_int) (ja_cons (je_ix (jv 5) je_int) ja_nil)))
      (jb_cons (js_set (i := 13) sc_law.nd (je_sub je_int (je_mul (je_call G__law_draw (hr.mono (by decide)) (by rfl) g__law_draw k__law_draw b__law_draw (ja_cons (jv 1) (ja_cons je_int ja_nil))) (je_call G__law_draw (hr.mono (by decide)) (by rfl) g__law_draw k__law_draw b__law_draw (ja_cons (jv 1) (ja_cons je_int ja_nil))))))
      (jb_cons (js_set (i := 10) sc_law.nd (je_tup (ja_cons (je_tup (ja_cons (jv 11) (ja_cons (jv 12) (ja_cons (jv 11) (ja_cons (je_tup (ja_cons (jv 12) ja_nil)) ja_nil))))) (ja_cons (je_tup (ja_cons (jv 11) (ja_cons (jv 12) (ja_cons (je_ix (jv 4) (je_neg je_int)) (ja_cons (je_tup ja_nil) ja_nil))))) ja_nil))))
      (jb_cons (js_set (i := 7) sc_law.nd (je_tup (ja_cons (jv 11) (ja_cons (je_mulA (je_tup (ja_cons (jv 12) ja_nil)) (je_add je_int (je_call G__law_draw (hr.mono (by decide)) (by rfl) g__law_draw k__law_draw b__law_draw (ja_cons (jv 1) (ja_cons je_int ja_nil))))) ja_nil))))
      (jb_cons (js_for PassesOwn.never rfl (ji_any (je_frz (jl_disp (ja_cons (je_mulA (je_tup (ja_cons je_int ja_nil)) (jv 13)) (ja_cons (je_add (je_mulA (je_tup (ja_cons je_int ja_nil)) (je_sub (jv 13) je_int)) (je_tup (ja_cons je_int ja_nil))) (ja_cons (je_add (je_mulA (je_tup (ja_cons je_int ja_nil)) (je_sub (jv 13) je_int)) (je_tup (ja_cons je_int ja_nil))) (ja_cons (je_add (je_mulA (je_tup (ja_cons je_int ja_nil)) (je_sub (jv 13) je_int)) (je_tup (ja_cons (je_neg je_int) ja_nil))) ja_nil))))))) (jg_name (i := 9) sc_law.nd) (jb_one (js_if (jt_not (jt_val (je_call G__law_right (hr.mono (by decide)) (by rfl) g__law_right k__law_right b__law_right (ja_cons (jv 10) (ja_cons (jv 7) (ja_cons (jv 9) ja_nil)))))) (jb_one (js_ret je_bl)) jb_nil)))
      (jb_one (js_ret (je_and (je_eq hr (je_call G__law_told (hr.mono (by decide)) (by rfl) g__law_told k__law_told b__law_told (ja_cons (je_tup ja_nil) (ja_cons (je_tup (ja_cons je_str (ja_cons (je_tup ja_nil) ja_nil))) (ja_cons (je_tup (ja_cons je_int ja_nil)) ja_nil)))) je_int) (je_one (je_eq hr (je_call G__law_told (hr.mono (by decide)) (by rfl) g__law_told k__law_told b__law_told (ja_cons (je_tup ja_nil) (ja_cons (je_tup (ja_cons je_str (ja_cons (je_tup (ja_cons je_str ja_nil)) ja_nil))) (ja_cons (je_tup ja_nil) ja_nil)))) (je_frz (jl_disp (ja_cons (je_tup (ja_cons je_str (ja_cons (je_tup (ja_cons je_str ja_nil)) ja_nil))) ja_nil)))))))))))))))), fun M d c hD => ?_⟩
  have b0 := Bx.start (hD.mono (r' := 1000000) (by decide))
  simp only [dNext, dBreak, dCont, dDrop, dRet, dRetN, dIfS, dAsg, dputS, dlputS, dOp, dVar, dC, dget_zero, dget_succ, dTest, isB, dNil, dCons, dgName, dTup, dCB, dFresh, dFrz, dFreshD, dFrzD, dDispD, dDisp, dBM, dBM0, dAndV, dOrV, dNotV, dAnd, dOr, dNot, dCall, dNeg, dIf, dFor, dSl, dPart, dNoPart, diRng1, diRng2, diAny, isI, dstart, List.set_cons_zero, List.set_cons_succ, List.map_cons, List.map_nil, List.length_cons, List.length_nil, List.cons_append, List.nil_append, Nat.reduceAdd, Nat.reduceSub, Int.reduceAdd, Int.reduceSub, List.replicate, isLst, dgTup, dgCons, dgNil, dListOf, dJoin, dIndex, dRev, diZip, dPar2, diEnum, dRetX, dDropX, dAsgX, dCallX, dConsX, dTupX, dFrzX, dRaise0, dRaise1, dTryAs, dTryOnly, dXf, asEnds, dLc, wipeD, dCat, dSlL, dPairs, dGet2, dGet1, isDic, ite_true, ite_false, if_true, if_false, reduceIte, Bool.false_eq_true, Bool.true_eq_false, and_true, true_and, rdL_lst, rdL_ref, rdS_lst, rdS_ref, rdS_tup, rdD_dic, rdD_ref, addR_ii, addR_ib, addR_ss, addR_tt, addR_LL, subR_ii, mulR_ii, mulA_ii, mulA_t, mulA_L, modR_ii, fdivR_ii, powR_ii, ltR_ii, leR_ii, gtR_ii, geR_ii, keyD_s, keyD_i, dgetR, eqR_ii, eqR_ss, eqR_bb, eqR_tt, eqR_LL, neR_ii, neR_ss, neR_bb, neR_tt, neR_LL, eqM_ii, eqM_ss, eqM_bb, eqM_tt, eqM_LL, okD_i, okD_s, okD_b, okD_n, okD_t, okD_L, deck_at, deck_sum, deck_cells, deck_len, deck_put, dicOf_mup_same, lstOf_mup_same, int1R_b, int1R_i, ix_t0, ix_t1, ix_t2, ix_t3, ix_t4, lenR_t, lenR_s, lenR_L, slR_t, slR_s, slR_L, cutL_from1, cutL_from2, revR_t, revR_L, tup1R_L, tup1R_t, beq_self_eq_true, Bool.not_true, Bool.not_false, Option.isSome_some, List.isEmpty_nil, List.isEmpty_cons, isR_nn, isR_tn, isR_Ln, isR_sn, isR_in, isR_bn, isR_bb, isNotR_nn, isNotR_tn, isNotR_Ln, isNotR_sn, isNotR_in, isNotR_bn, isNotR_bb, isi_t_bool, isi_t_int, isi_t_str, isi_t_tuple, isi_t_list, isi_t_dict, isi_s_bool, isi_s_int, isi_s_str, isi_s_tuple, isi_s_list, isi_s_dict, isi_i_bool, isi_i_int, isi_i_str, isi_i_tuple, isi_i_list, isi_i_dict, isi_b_bool, isi_b_int, isi_b_str, isi_b_tuple, isi_b_list, isi_b_dict, isi_n_bool, isi_n_int, isi_n_str, isi_n_tuple, isi_n_list, isi_n_dict, isi_L_bool, isi_L_int, isi_L_str, isi_L_tuple, isi_L_list, isi_L_dict, isi_d_bool, isi_d_int, isi_d_str, isi_d_tuple, isi_d_list, isi_d_dict, natlit_eq, Int.reduceNeg, puts, appendR_same, lenR_same, tup1R_same, sz0, sz1, sz2, sz3, sz4, sz5, sz6, sz7, sz8, sz9, sz10, ix_L0, ix_L1, ix_L2, ix_Lbs, dep_nil, dep_cons, dep_tup, dep_lst, dep_str, dep_int, dep_bl, dep_non, dep_strs, dep_ints, dep_app, dep_rules, dep_prog, dep_st, pu_nil, pu_cons, pu_tup, pu_lst, pu_str, pu_int, pu_bl, pu_non, pu_app, pureDs_str, pureDs_int, pu_rule, pu_rules, pu_prog, pu_st, eqv_self, eqvDs_nil, Bool.and_self, Bool.and_true, Bool.true_and, List.length_map, List.length_append, Int.zero_add, Nat.zero_add, cutL_to1, cutL_to2, cutL_to3, cutL_to15, List.take_succ_cons, List.take_zero, List.take_nil, List.drop_succ_cons, List.drop_zero, List.drop_nil, max2R_ii, min2R_ii, cutL_toN, cutL_toS, cutL_fromN, cutL_fromS, List.length_take, List.length_drop, ← List.map_take, ← List.map_drop, ← List.map_append, neR_prog0, eqR_prog0, lenR_prog, rep1, List.length_replicate, Int.toNat_natCast, ofLst_L, sumLR_map, allLR_map, anyLR_map, ofString_beq, ofString_inj, String.reduceBEq, String.reduceEq, decide_true, decide_false, extA_t, extA_L, isSome_same, List.length_reverse, ← List.map_reverse, N_law]
  repeat (first | (with_reducible refine sq_asg ?_) | (with_reducible refine sq_drop ?_) | (with_reducible refine sq_for ?_) | (with_reducible refine sq_while ?_) | (with_reducible refine sq_dput ?_) | (with_reducible refine sq_lput ?_) | (with_reducible refine sq_par2 ?_) | (with_reducible refine sq_asgX ?_) | (with_reducible refine sq_dropX ?_) | (simp only [dNext, dBreak, dCont, dDrop, dRet, dRetN, dIfS, dAsg, dputS, dlputS, dOp, dVar, dC, dget_zero, dget_succ, dTest, isB, dNil, dCons, dgName, dTup, dCB, dFresh, dFrz, dFreshD, dFrzD, dDispD, dDisp, dBM, dBM0, dAndV, dOrV, dNotV, dAnd, dOr, dNot, dCall, dNeg, dIf, dFor, dSl, dPart, dNoPart, diRng1, diRng2, diAny, isI, dstart, List.set_cons_zero, List.set_cons_succ, List.map_cons, List.map_nil, List.length_cons, List.length_nil, List.cons_append, List.nil_append, Nat.reduceAdd, Nat.reduceSub, Int.reduceAdd, Int.reduceSub, List.replicate, isLst, dgTup, dgCons, dgNil, dListOf, dJoin, dIndex, dRev, diZip, dPar2, diEnum, dRetX, dDropX, dAsgX, dCallX, dConsX, dTupX, dFrzX, dRaise0, dRaise1, dTryAs, dTryOnly, dXf, asEnds, dLc, wipeD, dCat, dSlL, dPairs, dGet2, dGet1, isDic, ite_true, ite_false, if_true, if_false, reduceIte, Bool.false_eq_true, Bool.true_eq_false, and_true, true_and, rdL_lst, rdL_ref, rdS_lst, rdS_ref, rdS_tup, rdD_dic, rdD_ref, addR_ii, addR_ib, addR_ss, addR_tt, addR_LL, subR_ii, mulR_ii, mulA_ii, mulA_t, mulA_L, modR_ii, fdivR_ii, powR_ii, ltR_ii, leR_ii, gtR_ii, geR_ii, keyD_s, keyD_i, dgetR, eqR_ii, eqR_ss, eqR_bb, eqR_tt, eqR_LL, neR_ii, neR_ss, neR_bb, neR_tt, neR_LL, eqM_ii, eqM_ss, eqM_bb, eqM_tt, eqM_LL, okD_i, okD_s, okD_b, okD_n, okD_t, okD_L, deck_at, deck_sum, deck_cells, deck_len, deck_put, dicOf_mup_same, lstOf_mup_same, int1R_b, int1R_i, ix_t0, ix_t1, ix_t2, ix_t3, ix_t4, lenR_t, lenR_s, lenR_L, slR_t, slR_s, slR_L, cutL_from1, cutL_from2, revR_t, revR_L, tup1R_L, tup1R_t, beq_self_eq_true, Bool.not_true, Bool.not_false, Option.isSome_some, List.isEmpty_nil, List.isEmpty_cons, isR_nn, isR_tn, isR_Ln, isR_sn, isR_in, isR_bn, isR_bb, isNotR_nn, isNotR_tn, isNotR_Ln, isNotR_sn, isNotR_in, isNotR_bn, isNotR_bb, isi_t_bool, isi_t_int, isi_t_str, isi_t_tuple, isi_t_list, isi_t_dict, isi_s_bool, isi_s_int, isi_s_str, isi_s_tuple, isi_s_list, isi_s_dict, isi_i_bool, isi_i_int, isi_i_str, isi_i_tuple, isi_i_list, isi_i_dict, isi_b_bool, isi_b_int, isi_b_str, isi_b_tuple, isi_b_list, isi_b_dict, isi_n_bool, isi_n_int, isi_n_str, isi_n_tuple, isi_n_list, isi_n_dict, isi_L_bool, isi_L_int, isi_L_str, isi_L_tuple, isi_L_list, isi_L_dict, isi_d_bool, isi_d_int, isi_d_str, isi_d_tuple, isi_d_list, isi_d_dict, natlit_eq, Int.reduceNeg, puts, appendR_same, lenR_same, tup1R_same, sz0, sz1, sz2, sz3, sz4, sz5, sz6, sz7, sz8, sz9, sz10, ix_L0, ix_L1, ix_L2, ix_Lbs, dep_nil, dep_cons, dep_tup, dep_lst, dep_str, dep_int, dep_bl, dep_non, dep_strs, dep_ints, dep_app, dep_rules, dep_prog, dep_st, pu_nil, pu_cons, pu_tup, pu_lst, pu_str, pu_int, pu_bl, pu_non, pu_app, pureDs_str, pureDs_int, pu_rule, pu_rules, pu_prog, pu_st, eqv_self, eqvDs_nil, Bool.and_self, Bool.and_true, Bool.true_and, List.length_map, List.length_append, Int.zero_add, Nat.zero_add, cutL_to1, cutL_to2, cutL_to3, cutL_to15, List.take_succ_cons, List.take_zero, List.take_nil, List.drop_succ_cons, List.drop_zero, List.drop_nil, max2R_ii, min2R_ii, cutL_toN, cutL_toS, cutL_fromN, cutL_fromS, List.length_take, List.length_drop, ← List.map_take, ← List.map_drop, ← List.map_append, neR_prog0, eqR_prog0, lenR_prog, rep1, List.length_replicate, Int.toNat_natCast, ofLst_L, sumLR_map, allLR_map, anyLR_map, ofString_beq, ofString_inj, String.reduceBEq, String.reduceEq, decide_true, decide_false, extA_t, extA_L, isSome_same, List.length_reverse, ← List.map_reverse]) | ((with_reducible refine And.intro ?_ ?_); focus (first | with_reducible exact small_line2 (by omega) | with_reducible exact small_lt2 (by omega) | with_reducible exact cmul_sm (by omega) (by omega) (by omega) (by omega) | with_reducible exact inLine_nat (by omega) | exact ⟨by omega, by omega⟩ | exact ⟨by omega, by omega, by simp⟩ | omega | decide)))
  refine draw_B b0 (by omega) (by omega) (by omega) fun way M1 w0 w1 b1 => ?_
  repeat (first | (with_reducible refine sq_asg ?_) | (with_reducible refine sq_drop ?_) | (with_reducible refine sq_for ?_) | (with_reducible refine sq_while ?_) | (with_reducible refine sq_dput ?_) | (with_reducible refine sq_lput ?_) | (with_reducible refine sq_par2 ?_) | (with_reducible refine sq_asgX ?_) | (with_reducible refine sq_dropX ?_) | (simp only [dNext, dBreak, dCont, dDrop, dRet, dRetN, dIfS, dAsg, dputS, dlputS, dOp, dVar, dC, dget_zero, dget_succ, dTest, isB, dNil, dCons, dgName, dTup, dCB, dFresh, dFrz, dFreshD, dFrzD, dDispD, dDisp, dBM, dBM0, dAndV, dOrV, dNotV, dAnd, dOr, dNot, dCall, dNeg, dIf, dFor, dSl, dPart, dNoPart, diRng1, diRng2, diAny, isI, dstart, List.set_cons_zero, List.set_cons_succ, List.map_cons, List.map_nil, List.length_cons, List.length_nil, List.cons_append, List.nil_append, Nat.reduceAdd, Nat.reduceSub, Int.reduceAdd, Int.reduceSub, List.replicate, isLst, dgTup, dgCons, dgNil, dListOf, dJoin, dIndex, dRev, diZip, dPar2, diEnum, dRetX, dDropX, dAsgX, dCallX, dConsX, dTupX, dFrzX, dRaise0, dRaise1, dTryAs, dTryOnly, dXf, asEnds, dLc, wipeD, dCat, dSlL, dPairs, dGet2, dGet1, isDic, ite_true, ite_false, if_true, if_false, reduceIte, Bool.false_eq_true, Bool.true_eq_false, and_true, true_and, rdL_lst, rdL_ref, rdS_lst, rdS_ref, rdS_tup, rdD_dic, rdD_ref, addR_ii, addR_ib, addR_ss, addR_tt, addR_LL, subR_ii, mulR_ii, mulA_ii, mulA_t, mulA_L, modR_ii, fdivR_ii, powR_ii, ltR_ii, leR_ii, gtR_ii, geR_ii, keyD_s, keyD_i, dgetR, eqR_ii, eqR_ss, eqR_bb, eqR_tt, eqR_LL, neR_ii, neR_ss, neR_bb, neR_tt, neR_LL, eqM_ii, eqM_ss, eqM_bb, eqM_tt, eqM_LL, okD_i, okD_s, okD_b, okD_n, okD_t, okD_L, deck_at, deck_sum, deck_cells, deck_len, deck_put, dicOf_mup_same, lstOf_mup_same, int1R_b, int1R_i, ix_t0, ix_t1, ix_t2, ix_t3, ix_t4, lenR_t, lenR_s, lenR_L, slR_t, slR_s, slR_L, cutL_from1, cutL_from2, revR_t, revR_L, tup1R_L, tup1R_t, beq_self_eq_true, Bool.not_true, Bool.not_false, Option.isSome_some, List.isEmpty_nil, List.isEmpty_cons, isR_nn, isR_tn, isR_Ln, isR_sn, isR_in, isR_bn, isR_bb, isNotR_nn, isNotR_tn, isNotR_Ln, isNotR_sn, isNotR_in, isNotR_bn, isNotR_bb, isi_t_bool, isi_t_int, isi_t_str, isi_t_tuple, isi_t_list, isi_t_dict, isi_s_bool, isi_s_int, isi_s_str, isi_s_tuple, isi_s_list, isi_s_dict, isi_i_bool, isi_i_int, isi_i_str, isi_i_tuple, isi_i_list, isi_i_dict, isi_b_bool, isi_b_int, isi_b_str, isi_b_tuple, isi_b_list, isi_b_dict, isi_n_bool, isi_n_int, isi_n_str, isi_n_tuple, isi_n_list, isi_n_dict, isi_L_bool, isi_L_int, isi_L_str, isi_L_tuple, isi_L_list, isi_L_dict, isi_d_bool, isi_d_int, isi_d_str, isi_d_tuple, isi_d_list, isi_d_dict, natlit_eq, Int.reduceNeg, puts, appendR_same, lenR_same, tup1R_same, sz0, sz1, sz2, sz3, sz4, sz5, sz6, sz7, sz8, sz9, sz10, ix_L0, ix_L1, ix_L2, ix_Lbs, dep_nil, dep_cons, dep_tup, dep_lst, dep_str, dep_int, dep_bl, dep_non, dep_strs, dep_ints, dep_app, dep_rules, dep_prog, dep_st, pu_nil, pu_cons, pu_tup, pu_lst, pu_str, pu_int, pu_bl, pu_non, pu_app, pureDs_str, pureDs_int, pu_rule, pu_rules, pu_prog, pu_st, eqv_self, eqvDs_nil, Bool.and_self, Bool.and_true, Bool.true_and, List.length_map, List.length_append, Int.zero_add, Nat.zero_add, cutL_to1, cutL_to2, cutL_to3, cutL_to15, List.take_succ_cons, List.take_zero, List.take_nil, List.drop_succ_cons, List.drop_zero, List.drop_nil, max2R_ii, min2R_ii, cutL_toN, cutL_toS, cutL_fromN, cutL_fromS, List.length_take, List.length_drop, ← List.map_take, ← List.map_drop, ← List.map_append, neR_prog0, eqR_prog0, lenR_prog, rep1, List.length_replicate, Int.toNat_natCast, ofLst_L, sumLR_map, allLR_map, anyLR_map, ofString_beq, ofString_inj, String.reduceBEq, String.reduceEq, decide_true, decide_false, extA_t, extA_L, isSome_same, List.length_reverse, ← List.map_reverse]) | ((with_reducible refine And.intro ?_ ?_); focus (first | with_reducible exact small_line2 (by omega) | with_reducible exact small_lt2 (by omega) | with_reducible exact cmul_sm (by omega) (by omega) (by omega) (by omega) | with_reducible exact inLine_nat (by omega) | exact ⟨by omega, by omega⟩ | exact ⟨by omega, by omega, by simp⟩ | omega | decide)))
  refine drawn_B b1 (by omega) fun rs ps ms M2 hp hm hpl hml hrl hrs hpn hmn b2 => ?_
  repeat (first | (with_reducible refine sq_asg ?_) | (with_reducible refine sq_drop ?_) | (with_reducible refine sq_for ?_) | (with_reducible refine sq_while ?_) | (with_reducible refine sq_dput ?_) | (with_reducible refine sq_lput ?_) | (with_reducible refine sq_par2 ?_) | (with_reducible refine sq_asgX ?_) | (with_reducible refine sq_dropX ?_) | (simp only [dNext, dBreak, dCont, dDrop, dRet, dRetN, dIfS, dAsg, dputS, dlputS, dOp, dVar, dC, dget_zero, dget_succ, dTest, isB, dNil, dCons, dgName, dTup, dCB, dFresh, dFrz, dFreshD, dFrzD, dDispD, dDisp, dBM, dBM0, dAndV, dOrV, dNotV, dAnd, dOr, dNot, dCall, dNeg, dIf, dFor, dSl, dPart, dNoPart, diRng1, diRng2, diAny, isI, dstart, List.set_cons_zero, List.set_cons_succ, List.map_cons, List.map_nil, List.length_cons, List.length_nil, List.cons_append, List.nil_append, Nat.reduceAdd, Nat.reduceSub, Int.reduceAdd, Int.reduceSub, List.replicate, isLst, dgTup, dgCons, dgNil, dListOf, dJoin, dIndex, dRev, diZip, dPar2, diEnum, dRetX, dDropX, dAsgX, dCallX, dConsX, dTupX, dFrzX, dRaise0, dRaise1, dTryAs, dTryOnly, dXf, asEnds, dLc, wipeD, dCat, dSlL, dPairs, dGet2, dGet1, isDic, ite_true, ite_false, if_true, if_false, reduceIte, Bool.false_eq_true, Bool.true_eq_false, and_true, true_and, rdL_lst, rdL_ref, rdS_lst, rdS_ref, rdS_tup, rdD_dic, rdD_ref, addR_ii, addR_ib, addR_ss, addR_tt, addR_LL, subR_ii, mulR_ii, mulA_ii, mulA_t, mulA_L, modR_ii, fdivR_ii, powR_ii, ltR_ii, leR_ii, gtR_ii, geR_ii, keyD_s, keyD_i, dgetR, eqR_ii, eqR_ss, eqR_bb, eqR_tt, eqR_LL, neR_ii, neR_ss, neR_bb, neR_tt, neR_LL, eqM_ii, eqM_ss, eqM_bb, eqM_tt, eqM_LL, okD_i, okD_s, okD_b, okD_n, okD_t, okD_L, deck_at, deck_sum, deck_cells, deck_len, deck_put, dicOf_mup_same, lstOf_mup_same, int1R_b, int1R_i, ix_t0, ix_t1, ix_t2, ix_t3, ix_t4, lenR_t, lenR_s, lenR_L, slR_t, slR_s, slR_L, cutL_from1, cutL_from2, revR_t, revR_L, tup1R_L, tup1R_t, beq_self_eq_true, Bool.not_true, Bool.not_false, Option.isSome_some, List.isEmpty_nil, List.isEmpty_cons, isR_nn, isR_tn, isR_Ln, isR_sn, isR_in, isR_bn, isR_bb, isNotR_nn, isNotR_tn, isNotR_Ln, isNotR_sn, isNotR_in, isNotR_bn, isNotR_bb, isi_t_bool, isi_t_int, isi_t_str, isi_t_tuple, isi_t_list, isi_t_dict, isi_s_bool, isi_s_int, isi_s_str, isi_s_tuple, isi_s_list, isi_s_dict, isi_i_bool, isi_i_int, isi_i_str, isi_i_tuple, isi_i_list, isi_i_dict, isi_b_bool, isi_b_int, isi_b_str, isi_b_tuple, isi_b_list, isi_b_dict, isi_n_bool, isi_n_int, isi_n_str, isi_n_tuple, isi_n_list, isi_n_dict, isi_L_bool, isi_L_int, isi_L_str, isi_L_tuple, isi_L_list, isi_L_dict, isi_d_bool, isi_d_int, isi_d_str, isi_d_tuple, isi_d_list, isi_d_dict, natlit_eq, Int.reduceNeg, puts, appendR_same, lenR_same, tup1R_same, sz0, sz1, sz2, sz3, sz4, sz5, sz6, sz7, sz8, sz9, sz10, ix_L0, ix_L1, ix_L2, ix_Lbs, dep_nil, dep_cons, dep_tup, dep_lst, dep_str, dep_int, dep_bl, dep_non, dep_strs, dep_ints, dep_app, dep_rules, dep_prog, dep_st, pu_nil, pu_cons, pu_tup, pu_lst, pu_str, pu_int, pu_bl, pu_non, pu_app, pureDs_str, pureDs_int, pu_rule, pu_rules, pu_prog, pu_st, eqv_self, eqvDs_nil, Bool.and_self, Bool.and_true, Bool.true_and, List.length_map, List.length_append, Int.zero_add, Nat.zero_add, cutL_to1, cutL_to2, cutL_to3, cutL_to15, List.take_succ_cons, List.take_zero, List.take_nil, List.drop_succ_cons, List.drop_zero, List.drop_nil, max2R_ii, min2R_ii, cutL_toN, cutL_toS, cutL_fromN, cutL_fromS, List.length_take, List.length_drop, ← List.map_take, ← List.map_drop, ← List.map_append, neR_prog0, eqR_prog0, lenR_prog, rep1, List.length_replicate, Int.toNat_natCast, ofLst_L, sumLR_map, allLR_map, anyLR_map, ofString_beq, ofString_inj, String.reduceBEq, String.reduceEq, decide_true, decide_false, extA_t, extA_L, isSome_same, List.length_reverse, ← List.map_reverse]) | ((with_reducible refine And.intro ?_ ?_); focus (first | with_reducible exact small_line2 (by omega) | with_reducible exact small_lt2 (by omega) | with_reducible exact cmul_sm (by omega) (by omega) (by omega) (by omega) | with_reducible exact inLine_nat (by omega) | exact ⟨by omega, by omega⟩ | exact ⟨by omega, by omega, by simp⟩ | omega | decide)))
  have hw : ∀ x ∈ rs, x.w.length ≤ 2 := fun x hx => (hrs x hx).2.2.2.1
  refine forR [6, 7, 8, 9, 10] (fun i vs M' => ∃ x6 x7 x8 x9 x10, vs = [x6, x7, x8, x9, x10] ∧ Bx d c (100000 + 1000 * (3 - i)) M [] M') (fun _ _ _ _ => trivial) (fun i N' hi hN' vs M3 hI => ?_) (fun vs M3 hI => ?_) ⟨_, _, _, _, _, rfl, b2.mono (by omega)⟩
  · obtain ⟨x6, x7, x8, x9, x10, rfl, b3⟩ := hI
    repeat (first | (with_reducible refine sq_asg ?_) | (with_reducible refine sq_drop ?_) | (with_reducible refine sq_for ?_) | (with_reducible refine sq_while ?_) | (with_reducible refine sq_dput ?_) | (with_reducible refine sq_lput ?_) | (with_reducible refine sq_par2 ?_) | (with_reducible refine sq_asgX ?_) | (with_reducible refine sq_dropX ?_) | (simp only [dNext, dBreak, dCont, dDrop, dRet, dRetN, dIfS, dAsg, dputS, dlputS, dOp, dVar, dC, dget_zero, dget_succ, dTest, isB, dNil, dCons, dgName, dTup, dCB, dFresh, dFrz, dFreshD, dFrzD, dDispD, dDisp, dBM, dBM0, dAndV, dOrV, dNotV, dAnd, dOr, dNot, dCall, dNeg, dIf, dFor, dSl, dPart, dNoPart, diRng1, diRng2, diAny, isI, dstart, List.set_cons_zero, List.set_cons_succ, List.map_cons, List.map_nil, List.length_cons, List.length_nil, List.cons_append, List.nil_append, Nat.reduceAdd, Nat.reduceSub, Int.reduceAdd, Int.reduceSub, List.replicate, isLst, dgTup, dgCons, dgNil, dListOf, dJoin, dIndex, dRev, diZip, dPar2, diEnum, dRetX, dDropX, dAsgX, dCallX, dConsX, dTupX, dFrzX, dRaise0, dRaise1, dTryAs, dTryOnly, dXf, asEnds, dLc, wipeD, dCat, dSlL, dPairs, dGet2, dGet1, isDic, ite_true, ite_false, if_true, if_false, reduceIte, Bool.false_eq_true, Bool.true_eq_false, and_true, true_and, rdL_lst, rdL_ref, rdS_lst, rdS_ref, rdS_tup, rdD_dic, rdD_ref, addR_ii, addR_ib, addR_ss, addR_tt, addR_LL, subR_ii, mulR_ii, mulA_ii, mulA_t, mulA_L, modR_ii, fdivR_ii, powR_ii, ltR_ii, leR_ii, gtR_ii, geR_ii, keyD_s, keyD_i, dgetR, eqR_ii, eqR_ss, eqR_bb, eqR_tt, eqR_LL, neR_ii, neR_ss, neR_bb, neR_tt, neR_LL, eqM_ii, eqM_ss, eqM_bb, eqM_tt, eqM_LL, okD_i, okD_s, okD_b, okD_n, okD_t, okD_L, deck_at, deck_sum, deck_cells, deck_len, deck_put, dicOf_mup_same, lstOf_mup_same, int1R_b, int1R_i, ix_t0, ix_t1, ix_t2, ix_t3, ix_t4, lenR_t, lenR_s, lenR_L, slR_t, slR_s, slR_L, cutL_from1, cutL_from2, revR_t, revR_L, tup1R_L, tup1R_t, beq_self_eq_true, Bool.not_true, Bool.not_false, Option.isSome_some, List.isEmpty_nil, List.isEmpty_cons, isR_nn, isR_tn, isR_Ln, isR_sn, isR_in, isR_bn, isR_bb, isNotR_nn, isNotR_tn, isNotR_Ln, isNotR_sn, isNotR_in, isNotR_bn, isNotR_bb, isi_t_bool, isi_t_int, isi_t_str, isi_t_tuple, isi_t_list, isi_t_dict, isi_s_bool, isi_s_int, isi_s_str, isi_s_tuple, isi_s_list, isi_s_dict, isi_i_bool, isi_i_int, isi_i_str, isi_i_tuple, isi_i_list, isi_i_dict, isi_b_bool, isi_b_int, isi_b_str, isi_b_tuple, isi_b_list, isi_b_dict, isi_n_bool, isi_n_int, isi_n_str, isi_n_tuple, isi_n_list, isi_n_dict, isi_L_bool, isi_L_int, isi_L_str, isi_L_tuple, isi_L_list, isi_L_dict, isi_d_bool, isi_d_int, isi_d_str, isi_d_tuple, isi_d_list, isi_d_dict, natlit_eq, Int.reduceNeg, puts, appendR_same, lenR_same, tup1R_same, sz0, sz1, sz2, sz3, sz4, sz5, sz6, sz7, sz8, sz9, sz10, ix_L0, ix_L1, ix_L2, ix_Lbs, dep_nil, dep_cons, dep_tup, dep_lst, dep_str, dep_int, dep_bl, dep_non, dep_strs, dep_ints, dep_app, dep_rules, dep_prog, dep_st, pu_nil, pu_cons, pu_tup, pu_lst, pu_str, pu_int, pu_bl, pu_non, pu_app, pureDs_str, pureDs_int, pu_rule, pu_rules, pu_prog, pu_st, eqv_self, eqvDs_nil, Bool.and_self, Bool.and_true, Bool.true_and, List.length_map, List.length_append, Int.zero_add, Nat.zero_add, cutL_to1, cutL_to2, cutL_to3, cutL_to15, List.take_succ_cons, List.take_zero, List.take_nil, List.drop_succ_cons, List.drop_zero, List.drop_nil, max2R_ii, min2R_ii, cutL_toN, cutL_toS, cutL_fromN, cutL_fromS, List.length_take, List.length_drop, ← List.map_take, ← List.map_drop, ← List.map_append, neR_prog0, eqR_prog0, lenR_prog, rep1, List.length_replicate, Int.toNat_natCast, ofLst_L, sumLR_map, allLR_map, anyLR_map, ofString_beq, ofString_inj, String.reduceBEq, String.reduceEq, decide_true, decide_false, extA_t, extA_L, isSome_same, List.length_reverse, ← List.map_reverse]) | ((with_reducible refine And.intro ?_ ?_); focus (first | with_reducible exact small_line2 (by omega) | with_reducible exact small_lt2 (by omega) | with_reducible exact cmul_sm (by omega) (by omega) (by omega) (by omega) | with_reducible exact inLine_nat (by omega) | exact ⟨by omega, by omega⟩ | exact ⟨by omega, by omega, by simp⟩ | omega | decide)))
    refine pick_BL b3 (by omega) hp (by omega) fun pl mpl M4 b4 => ?_
    repeat (first | (with_reducible refine sq_asg ?_) | (with_reducible refine sq_drop ?_) | (with_reducible refine sq_for ?_) | (with_reducible refine sq_while ?_) | (with_reducible refine sq_dput ?_) | (with_reducible refine sq_lput ?_) | (with_reducible refine sq_par2 ?_) | (with_reducible refine sq_asgX ?_) | (with_reducible refine sq_dropX ?_) | (simp only [dNext, dBreak, dCont, dDrop, dRet, dRetN, dIfS, dAsg, dputS, dlputS, dOp, dVar, dC, dget_zero, dget_succ, dTest, isB, dNil, dCons, dgName, dTup, dCB, dFresh, dFrz, dFreshD, dFrzD, dDispD, dDisp, dBM, dBM0, dAndV, dOrV, dNotV, dAnd, dOr, dNot, dCall, dNeg, dIf, dFor, dSl, dPart, dNoPart, diRng1, diRng2, diAny, isI, dstart, List.set_cons_zero, List.set_cons_succ, List.map_cons, List.map_nil, List.length_cons, List.length_nil, List.cons_append, List.nil_append, Nat.reduceAdd, Nat.reduceSub, Int.reduceAdd, Int.reduceSub, List.replicate, isLst, dgTup, dgCons, dgNil, dListOf, dJoin, dIndex, dRev, diZip, dPar2, diEnum, dRetX, dDropX, dAsgX, dCallX, dConsX, dTupX, dFrzX, dRaise0, dRaise1, dTryAs, dTryOnly, dXf, asEnds, dLc, wipeD, dCat, dSlL, dPairs, dGet2, dGet1, isDic, ite_true, ite_false, if_true, if_false, reduceIte, Bool.false_eq_true, Bool.true_eq_false, and_true, true_and, rdL_lst, rdL_ref, rdS_lst, rdS_ref, rdS_tup, rdD_dic, rdD_ref, addR_ii, addR_ib, addR_ss, addR_tt, addR_LL, subR_ii, mulR_ii, mulA_ii, mulA_t, mulA_L, modR_ii, fdivR_ii, powR_ii, ltR_ii, leR_ii, gtR_ii, geR_ii, keyD_s, keyD_i, dgetR, eqR_ii, eqR_ss, eqR_bb, eqR_tt, eqR_LL, neR_ii, neR_ss, neR_bb, neR_tt, neR_LL, eqM_ii, eqM_ss, eqM_bb, eqM_tt, eqM_LL, okD_i, okD_s, okD_b, okD_n, okD_t, okD_L, deck_at, deck_sum, deck_cells, deck_len, deck_put, dicOf_mup_same, lstOf_mup_same, int1R_b, int1R_i, ix_t0, ix_t1, ix_t2, ix_t3, ix_t4, lenR_t, lenR_s, lenR_L, slR_t, slR_s, slR_L, cutL_from1, cutL_from2, revR_t, revR_L, tup1R_L, tup1R_t, beq_self_eq_true, Bool.not_true, Bool.not_false, Option.isSome_some, List.isEmpty_nil, List.isEmpty_cons, isR_nn, isR_tn, isR_Ln, isR_sn, isR_in, isR_bn, isR_bb, isNotR_nn, isNotR_tn, isNotR_Ln, isNotR_sn, isNotR_in, isNotR_bn, isNotR_bb, isi_t_bool, isi_t_int, isi_t_str, isi_t_tuple, isi_t_list, isi_t_dict, isi_s_bool, isi_s_int, isi_s_str, isi_s_tuple, isi_s_list, isi_s_dict, isi_i_bool, isi_i_int, isi_i_str, isi_i_tuple, isi_i_list, isi_i_dict, isi_b_bool, isi_b_int, isi_b_str, isi_b_tuple, isi_b_list, isi_b_dict, isi_n_bool, isi_n_int, isi_n_str, isi_n_tuple, isi_n_list, isi_n_dict, isi_L_bool, isi_L_int, isi_L_str, isi_L_tuple, isi_L_list, isi_L_dict, isi_d_bool, isi_d_int, isi_d_str, isi_d_tuple, isi_d_list, isi_d_dict, natlit_eq, Int.reduceNeg, puts, appendR_same, lenR_same, tup1R_same, sz0, sz1, sz2, sz3, sz4, sz5, sz6, sz7, sz8, sz9, sz10, ix_L0, ix_L1, ix_L2, ix_Lbs, dep_nil, dep_cons, dep_tup, dep_lst, dep_str, dep_int, dep_bl, dep_non, dep_strs, dep_ints, dep_app, dep_rules, dep_prog, dep_st, pu_nil, pu_cons, pu_tup, pu_lst, pu_str, pu_int, pu_bl, pu_non, pu_app, pureDs_str, pureDs_int, pu_rule, pu_rules, pu_prog, pu_st, eqv_self, eqvDs_nil, Bool.and_self, Bool.and_true, Bool.true_and, List.length_map, List.length_append, Int.zero_add, Nat.zero_add, cutL_to1, cutL_to2, cutL_to3, cutL_to15, List.take_succ_cons, List.take_zero, List.take_nil, List.drop_succ_cons, List.drop_zero, List.drop_nil, max2R_ii, min2R_ii, cutL_toN, cutL_toS, cutL_fromN, cutL_fromS, List.length_take, List.length_drop, ← List.map_take, ← List.map_drop, ← List.map_append, neR_prog0, eqR_prog0, lenR_prog, rep1, List.length_replicate, Int.toNat_natCast, ofLst_L, sumLR_map, allLR_map, anyLR_map, ofString_beq, ofString_inj, String.reduceBEq, String.reduceEq, decide_true, decide_false, extA_t, extA_L, isSome_same, List.length_reverse, ← List.map_reverse]) | ((with_reducible refine And.intro ?_ ?_); focus (first | with_reducible exact small_line2 (by omega) | with_reducible exact small_lt2 (by omega) | with_reducible exact cmul_sm (by omega) (by omega) (by omega) (by omega) | with_reducible exact inLine_nat (by omega) | exact ⟨by omega, by omega⟩ | exact ⟨by omega, by omega, by simp⟩ | omega | decide)))
    refine draw_B b4 (by omega) (by omega) (by omega) fun hi M5 hi0 hi1 b5 => ?_
    repeat (first | (with_reducible refine sq_asg ?_) | (with_reducible refine sq_drop ?_) | (with_reducible refine sq_for ?_) | (with_reducible refine sq_while ?_) | (with_reducible refine sq_dput ?_) | (with_reducible refine sq_lput ?_) | (with_reducible refine sq_par2 ?_) | (with_reducible refine sq_asgX ?_) | (with_reducible refine sq_dropX ?_) | (simp only [dNext, dBreak, dCont, dDrop, dRet, dRetN, dIfS, dAsg, dputS, dlputS, dOp, dVar, dC, dget_zero, dget_succ, dTest, isB, dNil, dCons, dgName, dTup, dCB, dFresh, dFrz, dFreshD, dFrzD, dDispD, dDisp, dBM, dBM0, dAndV, dOrV, dNotV, dAnd, dOr, dNot, dCall, dNeg, dIf, dFor, dSl, dPart, dNoPart, diRng1, diRng2, diAny, isI, dstart, List.set_cons_zero, List.set_cons_succ, List.map_cons, List.map_nil, List.length_cons, List.length_nil, List.cons_append, List.nil_append, Nat.reduceAdd, Nat.reduceSub, Int.reduceAdd, Int.reduceSub, List.replicate, isLst, dgTup, dgCons, dgNil, dListOf, dJoin, dIndex, dRev, diZip, dPar2, diEnum, dRetX, dDropX, dAsgX, dCallX, dConsX, dTupX, dFrzX, dRaise0, dRaise1, dTryAs, dTryOnly, dXf, asEnds, dLc, wipeD, dCat, dSlL, dPairs, dGet2, dGet1, isDic, ite_true, ite_false, if_true, if_false, reduceIte, Bool.false_eq_true, Bool.true_eq_false, and_true, true_and, rdL_lst, rdL_ref, rdS_lst, rdS_ref, rdS_tup, rdD_dic, rdD_ref, addR_ii, addR_ib, addR_ss, addR_tt, addR_LL, subR_ii, mulR_ii, mulA_ii, mulA_t, mulA_L, modR_ii, fdivR_ii, powR_ii, ltR_ii, leR_ii, gtR_ii, geR_ii, keyD_s, keyD_i, dgetR, eqR_ii, eqR_ss, eqR_bb, eqR_tt, eqR_LL, neR_ii, neR_ss, neR_bb, neR_tt, neR_LL, eqM_ii, eqM_ss, eqM_bb, eqM_tt, eqM_LL, okD_i, okD_s, okD_b, okD_n, okD_t, okD_L, deck_at, deck_sum, deck_cells, deck_len, deck_put, dicOf_mup_same, lstOf_mup_same, int1R_b, int1R_i, ix_t0, ix_t1, ix_t2, ix_t3, ix_t4, lenR_t, lenR_s, lenR_L, slR_t, slR_s, slR_L, cutL_from1, cutL_from2, revR_t, revR_L, tup1R_L, tup1R_t, beq_self_eq_true, Bool.not_true, Bool.not_false, Option.isSome_some, List.isEmpty_nil, List.isEmpty_cons, isR_nn, isR_tn, isR_Ln, isR_sn, isR_in, isR_bn, isR_bb, isNotR_nn, isNotR_tn, isNotR_Ln, isNotR_sn, isNotR_in, isNotR_bn, isNotR_bb, isi_t_bool, isi_t_int, isi_t_str, isi_t_tuple, isi_t_list, isi_t_dict, isi_s_bool, isi_s_int, isi_s_str, isi_s_tuple, isi_s_list, isi_s_dict, isi_i_bool, isi_i_int, isi_i_str, isi_i_tuple, isi_i_list, isi_i_dict, isi_b_bool, isi_b_int, isi_b_str, isi_b_tuple, isi_b_list, isi_b_dict, isi_n_bool, isi_n_int, isi_n_str, isi_n_tuple, isi_n_list, isi_n_dict, isi_L_bool, isi_L_int, isi_L_str, isi_L_tuple, isi_L_list, isi_L_dict, isi_d_bool, isi_d_int, isi_d_str, isi_d_tuple, isi_d_list, isi_d_dict, natlit_eq, Int.reduceNeg, puts, appendR_same, lenR_same, tup1R_same, sz0, sz1, sz2, sz3, sz4, sz5, sz6, sz7, sz8, sz9, sz10, ix_L0, ix_L1, ix_L2, ix_Lbs, dep_nil, dep_cons, dep_tup, dep_lst, dep_str, dep_int, dep_bl, dep_non, dep_strs, dep_ints, dep_app, dep_rules, dep_prog, dep_st, pu_nil, pu_cons, pu_tup, pu_lst, pu_str, pu_int, pu_bl, pu_non, pu_app, pureDs_str, pureDs_int, pu_rule, pu_rules, pu_prog, pu_st, eqv_self, eqvDs_nil, Bool.and_self, Bool.and_true, Bool.true_and, List.length_map, List.length_append, Int.zero_add, Nat.zero_add, cutL_to1, cutL_to2, cutL_to3, cutL_to15, List.take_succ_cons, List.take_zero, List.take_nil, List.drop_succ_cons, List.drop_zero, List.drop_nil, max2R_ii, min2R_ii, cutL_toN, cutL_toS, cutL_fromN, cutL_fromS, List.length_take, List.length_drop, ← List.map_take, ← List.map_drop, ← List.map_append, neR_prog0, eqR_prog0, lenR_prog, rep1, List.length_replicate, Int.toNat_natCast, ofLst_L, sumLR_map, allLR_map, anyLR_map, ofString_beq, ofString_inj, String.reduceBEq, String.reduceEq, decide_true, decide_false, extA_t, extA_L, isSome_same, List.length_reverse, ← List.map_reverse]) | ((with_reducible refine And.intro ?_ ?_); focus (first | with_reducible exact small_line2 (by omega) | with_reducible exact small_lt2 (by omega) | with_reducible exact cmul_sm (by omega) (by omega) (by omega) (by omega) | with_reducible exact inLine_nat (by omega) | exact ⟨by omega, by omega⟩ | exact ⟨by omega, by omega, by simp⟩ | omega | decide)))
    refine lcW_deck (d := d) (c := c) (r := 100000 + 1000 * (3 - i) - 1 - 1 - 20) 1 (fun y => ∃ s ∈ ms, y = .str s) (small_line (by simp [rangeD]; omega)) (b5.dk.mono (by simp [rangeD]; omega)) (fun _ _ => trivial) (fun x hx r' M6 N F D6 U6 hN => ?_) (fun ys M6 hl hP D6 U6 => ?_)
    · try simp only [dNext, dBreak, dCont, dDrop, dRet, dRetN, dIfS, dAsg, dputS, dlputS, dOp, dVar, dC, dget_zero, dget_succ, dTest, isB, dNil, dCons, dgName, dTup, dCB, dFresh, dFrz, dFreshD, dFrzD, dDispD, dDisp, dBM, dBM0, dAndV, dOrV, dNotV, dAnd, dOr, dNot, dCall, dNeg, dIf, dFor, dSl, dPart, dNoPart, diRng1, diRng2, diAny, isI, dstart, List.set_cons_zero, List.set_cons_succ, List.map_cons, List.map_nil, List.length_cons, List.length_nil, List.cons_append, List.nil_append, Nat.reduceAdd, Nat.reduceSub, Int.reduceAdd, Int.reduceSub, List.replicate, isLst, dgTup, dgCons, dgNil, dListOf, dJoin, dIndex, dRev, diZip, dPar2, diEnum, dRetX, dDropX, dAsgX, dCallX, dConsX, dTupX, dFrzX, dRaise0, dRaise1, dTryAs, dTryOnly, dXf, asEnds, dLc, wipeD, dCat, dSlL, dPairs, dGet2, dGet1, isDic, ite_true, ite_false, if_true, if_false, reduceIte, Bool.false_eq_true, Bool.true_eq_false, and_true, true_and, rdL_lst, rdL_ref, rdS_lst, rdS_ref, rdS_tup, rdD_dic, rdD_ref, addR_ii, addR_ib, addR_ss, addR_tt, addR_LL, subR_ii, mulR_ii, mulA_ii, mulA_t, mulA_L, modR_ii, fdivR_ii, powR_ii, ltR_ii, leR_ii, gtR_ii, geR_ii, keyD_s, keyD_i, dgetR, eqR_ii, eqR_ss, eqR_bb, eqR_tt, eqR_LL, neR_ii, neR_ss, neR_bb, neR_tt, neR_LL, eqM_ii, eqM_ss, eqM_bb, eqM_tt, eqM_LL, okD_i, okD_s, okD_b, okD_n, okD_t, okD_L, deck_at, deck_sum, deck_cells, deck_len, deck_put, dicOf_mup_same, lstOf_mup_same, int1R_b, int1R_i, ix_t0, ix_t1, ix_t2, ix_t3, ix_t4, lenR_t, lenR_s, lenR_L, slR_t, slR_s, slR_L, cutL_from1, cutL_from2, revR_t, revR_L, tup1R_L, tup1R_t, beq_self_eq_true, Bool.not_true, Bool.not_false, Option.isSome_some, List.isEmpty_nil, List.isEmpty_cons, isR_nn, isR_tn, isR_Ln, isR_sn, isR_in, isR_bn, isR_bb, isNotR_nn, isNotR_tn, isNotR_Ln, isNotR_sn, isNotR_in, isNotR_bn, isNotR_bb, isi_t_bool, isi_t_int, isi_t_str, isi_t_tuple, isi_t_list, isi_t_dict, isi_s_bool, isi_s_int, isi_s_str, isi_s_tuple, isi_s_list, isi_s_dict, isi_i_bool, isi_i_int, isi_i_str, isi_i_tuple, isi_i_list, isi_i_dict, isi_b_bool, isi_b_int, isi_b_str, isi_b_tuple, isi_b_list, isi_b_dict, isi_n_bool, isi_n_int, isi_n_str, isi_n_tuple, isi_n_list, isi_n_dict, isi_L_bool, isi_L_int, isi_L_str, isi_L_tuple, isi_L_list, isi_L_dict, isi_d_bool, isi_d_int, isi_d_str, isi_d_tuple, isi_d_list, isi_d_dict, natlit_eq, Int.reduceNeg, puts, appendR_same, lenR_same, tup1R_same, sz0, sz1, sz2, sz3, sz4, sz5, sz6, sz7, sz8, sz9, sz10, ix_L0, ix_L1, ix_L2, ix_Lbs, dep_nil, dep_cons, dep_tup, dep_lst, dep_str, dep_int, dep_bl, dep_non, dep_strs, dep_ints, dep_app, dep_rules, dep_prog, dep_st, pu_nil, pu_cons, pu_tup, pu_lst, pu_str, pu_int, pu_bl, pu_non, pu_app, pureDs_str, pureDs_int, pu_rule, pu_rules, pu_prog, pu_st, eqv_self, eqvDs_nil, Bool.and_self, Bool.and_true, Bool.true_and, List.length_map, List.length_append, Int.zero_add, Nat.zero_add, cutL_to1, cutL_to2, cutL_to3, cutL_to15, List.take_succ_cons, List.take_zero, List.take_nil, List.drop_succ_cons, List.drop_zero, List.drop_nil, max2R_ii, min2R_ii, cutL_toN, cutL_toS, cutL_fromN, cutL_fromS, List.length_take, List.length_drop, ← List.map_take, ← List.map_drop, ← List.map_append, neR_prog0, eqR_prog0, lenR_prog, rep1, List.length_replicate, Int.toNat_natCast, ofLst_L, sumLR_map, allLR_map, anyLR_map, ofString_beq, ofString_inj, String.reduceBEq, String.reduceEq, decide_true, decide_false, extA_t, extA_L, isSome_same, List.length_reverse, ← List.map_reverse]
      exact pick_Lm D6 hm (by omega) fun y my M7 D7 U7 => hN _ _ ⟨y, my, rfl⟩ D7 (U6.trans U7)
    · have b6 := b5.call D6 U6
      obtain ⟨pile, rfl, hpile, hpl⟩ := all_map D.str (· ∈ ms) hP
      have hp16 : pile.length ≤ 16 := by rw [hpl, hl]; simp [rangeD]; omega
      repeat (first | (with_reducible refine sq_asg ?_) | (with_reducible refine sq_drop ?_) | (with_reducible refine sq_for ?_) | (with_reducible refine sq_while ?_) | (with_reducible refine sq_dput ?_) | (with_reducible refine sq_lput ?_) | (with_reducible refine sq_par2 ?_) | (with_reducible refine sq_asgX ?_) | (with_reducible refine sq_dropX ?_) | (simp only [dNext, dBreak, dCont, dDrop, dRet, dRetN, dIfS, dAsg, dputS, dlputS, dOp, dVar, dC, dget_zero, dget_succ, dTest, isB, dNil, dCons, dgName, dTup, dCB, dFresh, dFrz, dFreshD, dFrzD, dDispD, dDisp, dBM, dBM0, dAndV, dOrV, dNotV, dAnd, dOr, dNot, dCall, dNeg, dIf, dFor, dSl, dPart, dNoPart, diRng1, diRng2, diAny, isI, dstart, List.set_cons_zero, List.set_cons_succ, List.map_cons, List.map_nil, List.length_cons, List.length_nil, List.cons_append, List.nil_append, Nat.reduceAdd, Nat.reduceSub, Int.reduceAdd, Int.reduceSub, List.replicate, isLst, dgTup, dgCons, dgNil, dListOf, dJoin, dIndex, dRev, diZip, dPar2, diEnum, dRetX, dDropX, dAsgX, dCallX, dConsX, dTupX, dFrzX, dRaise0, dRaise1, dTryAs, dTryOnly, dXf, asEnds, dLc, wipeD, dCat, dSlL, dPairs, dGet2, dGet1, isDic, ite_true, ite_false, if_true, if_false, reduceIte, Bool.false_eq_true, Bool.true_eq_false, and_true, true_and, rdL_lst, rdL_ref, rdS_lst, rdS_ref, rdS_tup, rdD_dic, rdD_ref, addR_ii, addR_ib, addR_ss, addR_tt, addR_LL, subR_ii, mulR_ii, mulA_ii, mulA_t, mulA_L, modR_ii, fdivR_ii, powR_ii, ltR_ii, leR_ii, gtR_ii, geR_ii, keyD_s, keyD_i, dgetR, eqR_ii, eqR_ss, eqR_bb, eqR_tt, eqR_LL, neR_ii, neR_ss, neR_bb, neR_tt, neR_LL, eqM_ii, eqM_ss, eqM_bb, eqM_tt, eqM_LL, okD_i, okD_s, okD_b, okD_n, okD_t, okD_L, deck_at, deck_sum, deck_cells, deck_len, deck_put, dicOf_mup_same, lstOf_mup_same, int1R_b, int1R_i, ix_t0, ix_t1, ix_t2, ix_t3, ix_t4, lenR_t, lenR_s, lenR_L, slR_t, slR_s, slR_L, cutL_from1, cutL_from2, revR_t, revR_L, tup1R_L, tup1R_t, beq_self_eq_true, Bool.not_true, Bool.not_false, Option.isSome_some, List.isEmpty_nil, List.isEmpty_cons, isR_nn, isR_tn, isR_Ln, isR_sn, isR_in, isR_bn, isR_bb, isNotR_nn, isNotR_tn, isNotR_Ln, isNotR_sn, isNotR_in, isNotR_bn, isNotR_bb, isi_t_bool, isi_t_int, isi_t_str, isi_t_tuple, isi_t_list, isi_t_dict, isi_s_bool, isi_s_int, isi_s_str, isi_s_tuple, isi_s_list, isi_s_dict, isi_i_bool, isi_i_int, isi_i_str, isi_i_tuple, isi_i_list, isi_i_dict, isi_b_bool, isi_b_int, isi_b_str, isi_b_tuple, isi_b_list, isi_b_dict, isi_n_bool, isi_n_int, isi_n_str, isi_n_tuple, isi_n_list, isi_n_dict, isi_L_bool, isi_L_int, isi_L_str, isi_L_tuple, isi_L_list, isi_L_dict, isi_d_bool, isi_d_int, isi_d_str, isi_d_tuple, isi_d_list, isi_d_dict, natlit_eq, Int.reduceNeg, puts, appendR_same, lenR_same, tup1R_same, sz0, sz1, sz2, sz3, sz4, sz5, sz6, sz7, sz8, sz9, sz10, ix_L0, ix_L1, ix_L2, ix_Lbs, dep_nil, dep_cons, dep_tup, dep_lst, dep_str, dep_int, dep_bl, dep_non, dep_strs, dep_ints, dep_app, dep_rules, dep_prog, dep_st, pu_nil, pu_cons, pu_tup, pu_lst, pu_str, pu_int, pu_bl, pu_non, pu_app, pureDs_str, pureDs_int, pu_rule, pu_rules, pu_prog, pu_st, eqv_self, eqvDs_nil, Bool.and_self, Bool.and_true, Bool.true_and, List.length_map, List.length_append, Int.zero_add, Nat.zero_add, cutL_to1, cutL_to2, cutL_to3, cutL_to15, List.take_succ_cons, List.take_zero, List.take_nil, List.drop_succ_cons, List.drop_zero, List.drop_nil, max2R_ii, min2R_ii, cutL_toN, cutL_toS, cutL_fromN, cutL_fromS, List.length_take, List.length_drop, ← List.map_take, ← List.map_drop, ← List.map_append, neR_prog0, eqR_prog0, lenR_prog, rep1, List.length_replicate, Int.toNat_natCast, ofLst_L, sumLR_map, allLR_map, anyLR_map, ofString_beq, ofString_inj, String.reduceBEq, String.reduceEq, decide_true, decide_false, extA_t, extA_L, isSome_same, List.length_reverse, ← List.map_reverse]) | ((with_reducible refine And.intro ?_ ?_); focus (first | with_reducible exact small_line2 (by omega) | with_reducible exact small_lt2 (by omega) | with_reducible exact cmul_sm (by omega) (by omega) (by omega) (by omega) | with_reducible exact inLine_nat (by omega) | exact ⟨by omega, by omega⟩ | exact ⟨by omega, by omega, by simp⟩ | omega | decide)))
      refine seqS [7, 8] (fun vs M' => ∃ (s : St2) (x8 : Option D), vs = [some (stD s), x8] ∧ s.2.length ≤ 16 ∧ Bx d c (100000 + 1000 * (3 - i) - 1 - 1 - 20 - 1) M [] M') (fun N hN => ?_) fun vs M7 hJ => ?_
      · try simp only [dNext, dBreak, dCont, dDrop, dRet, dRetN, dIfS, dAsg, dputS, dlputS, dOp, dVar, dC, dget_zero, dget_succ, dTest, isB, dNil, dCons, dgName, dTup, dCB, dFresh, dFrz, dFreshD, dFrzD, dDispD, dDisp, dBM, dBM0, dAndV, dOrV, dNotV, dAnd, dOr, dNot, dCall, dNeg, dIf, dFor, dSl, dPart, dNoPart, diRng1, diRng2, diAny, isI, dstart, List.set_cons_zero, List.set_cons_succ, List.map_cons, List.map_nil, List.length_cons, List.length_nil, List.cons_append, List.nil_append, Nat.reduceAdd, Nat.reduceSub, Int.reduceAdd, Int.reduceSub, List.replicate, isLst, dgTup, dgCons, dgNil, dListOf, dJoin, dIndex, dRev, diZip, dPar2, diEnum, dRetX, dDropX, dAsgX, dCallX, dConsX, dTupX, dFrzX, dRaise0, dRaise1, dTryAs, dTryOnly, dXf, asEnds, dLc, wipeD, dCat, dSlL, dPairs, dGet2, dGet1, isDic, ite_true, ite_false, if_true, if_false, reduceIte, Bool.false_eq_true, Bool.true_eq_false, and_true, true_and, rdL_lst, rdL_ref, rdS_lst, rdS_ref, rdS_tup, rdD_dic, rdD_ref, addR_ii, addR_ib, addR_ss, addR_tt, addR_LL, subR_ii, mulR_ii, mulA_ii, mulA_t, mulA_L, modR_ii, fdivR_ii, powR_ii, ltR_ii, leR_ii, gtR_ii, geR_ii, keyD_s, keyD_i, dgetR, eqR_ii, eqR_ss, eqR_bb, eqR_tt, eqR_LL, neR_ii, neR_ss, neR_bb, neR_tt, neR_LL, eqM_ii, eqM_ss, eqM_bb, eqM_tt, eqM_LL, okD_i, okD_s, okD_b, okD_n, okD_t, okD_L, deck_at, deck_sum, deck_cells, deck_len, deck_put, dicOf_mup_same, lstOf_mup_same, int1R_b, int1R_i, ix_t0, ix_t1, ix_t2, ix_t3, ix_t4, lenR_t, lenR_s, lenR_L, slR_t, slR_s, slR_L, cutL_from1, cutL_from2, revR_t, revR_L, tup1R_L, tup1R_t, beq_self_eq_true, Bool.not_true, Bool.not_false, Option.isSome_some, List.isEmpty_nil, List.isEmpty_cons, isR_nn, isR_tn, isR_Ln, isR_sn, isR_in, isR_bn, isR_bb, isNotR_nn, isNotR_tn, isNotR_Ln, isNotR_sn, isNotR_in, isNotR_bn, isNotR_bb, isi_t_bool, isi_t_int, isi_t_str, isi_t_tuple, isi_t_list, isi_t_dict, isi_s_bool, isi_s_int, isi_s_str, isi_s_tuple, isi_s_list, isi_s_dict, isi_i_bool, isi_i_int, isi_i_str, isi_i_tuple, isi_i_list, isi_i_dict, isi_b_bool, isi_b_int, isi_b_str, isi_b_tuple, isi_b_list, isi_b_dict, isi_n_bool, isi_n_int, isi_n_str, isi_n_tuple, isi_n_list, isi_n_dict, isi_L_bool, isi_L_int, isi_L_str, isi_L_tuple, isi_L_list, isi_L_dict, isi_d_bool, isi_d_int, isi_d_str, isi_d_tuple, isi_d_list, isi_d_dict, natlit_eq, Int.reduceNeg, puts, appendR_same, lenR_same, tup1R_same, sz0, sz1, sz2, sz3, sz4, sz5, sz6, sz7, sz8, sz9, sz10, ix_L0, ix_L1, ix_L2, ix_Lbs, dep_nil, dep_cons, dep_tup, dep_lst, dep_str, dep_int, dep_bl, dep_non, dep_strs, dep_ints, dep_app, dep_rules, dep_prog, dep_st, pu_nil, pu_cons, pu_tup, pu_lst, pu_str, pu_int, pu_bl, pu_non, pu_app, pureDs_str, pureDs_int, pu_rule, pu_rules, pu_prog, pu_st, eqv_self, eqvDs_nil, Bool.and_self, Bool.and_true, Bool.true_and, List.length_map, List.length_append, Int.zero_add, Nat.zero_add, cutL_to1, cutL_to2, cutL_to3, cutL_to15, List.take_succ_cons, List.take_zero, List.take_nil, List.drop_succ_cons, List.drop_zero, List.drop_nil, max2R_ii, min2R_ii, cutL_toN, cutL_toS, cutL_fromN, cutL_fromS, List.length_take, List.length_drop, ← List.map_take, ← List.map_drop, ← List.map_append, neR_prog0, eqR_prog0, lenR_prog, rep1, List.length_replicate, Int.toNat_natCast, ofLst_L, sumLR_map, allLR_map, anyLR_map, ofString_beq, ofString_inj, String.reduceBEq, String.reduceEq, decide_true, decide_false, extA_t, extA_L, isSome_same, List.length_reverse, ← List.map_reverse]
        refine ifs (fun h => ?_) (fun h => ?_)
        · have hrs0 : rs ≠ [] := by rintro rfl; simp at h
          repeat (first | (with_reducible refine seq_go ?_) | (simp only [dNext, dBreak, dCont, dDrop, dRet, dRetN, dIfS, dAsg, dputS, dlputS, dOp, dVar, dC, dget_zero, dget_succ, dTest, isB, dNil, dCons, dgName, dTup, dCB, dFresh, dFrz, dFreshD, dFrzD, dDispD, dDisp, dBM, dBM0, dAndV, dOrV, dNotV, dAnd, dOr, dNot, dCall, dNeg, dIf, dFor, dSl, dPart, dNoPart, diRng1, diRng2, diAny, isI, dstart, List.set_cons_zero, List.set_cons_succ, List.map_cons, List.map_nil, List.length_cons, List.length_nil, List.cons_append, List.nil_append, Nat.reduceAdd, Nat.reduceSub, Int.reduceAdd, Int.reduceSub, List.replicate, isLst, dgTup, dgCons, dgNil, dListOf, dJoin, dIndex, dRev, diZip, dPar2, diEnum, dRetX, dDropX, dAsgX, dCallX, dConsX, dTupX, dFrzX, dRaise0, dRaise1, dTryAs, dTryOnly, dXf, asEnds, dLc, wipeD, dCat, dSlL, dPairs, dGet2, dGet1, isDic, ite_true, ite_false, if_true, if_false, reduceIte, Bool.false_eq_true, Bool.true_eq_false, and_true, true_and, rdL_lst, rdL_ref, rdS_lst, rdS_ref, rdS_tup, rdD_dic, rdD_ref, addR_ii, addR_ib, addR_ss, addR_tt, addR_LL, subR_ii, mulR_ii, mulA_ii, mulA_t, mulA_L, modR_ii, fdivR_ii, powR_ii, ltR_ii, leR_ii, gtR_ii, geR_ii, keyD_s, keyD_i, dgetR, eqR_ii, eqR_ss, eqR_bb, eqR_tt, eqR_LL, neR_ii, neR_ss, neR_bb, neR_tt, neR_LL, eqM_ii, eqM_ss, eqM_bb, eqM_tt, eqM_LL, okD_i, okD_s, okD_b, okD_n, okD_t, okD_L, deck_at, deck_sum, deck_cells, deck_len, deck_put, dicOf_mup_same, lstOf_mup_same, int1R_b, int1R_i, ix_t0, ix_t1, ix_t2, ix_t3, ix_t4, lenR_t, lenR_s, lenR_L, slR_t, slR_s, slR_L, cutL_from1, cutL_from2, revR_t, revR_L, tup1R_L, tup1R_t, beq_self_eq_true, Bool.not_true, Bool.not_false, Option.isSome_some, List.isEmpty_nil, List.isEmpty_cons, isR_nn, isR_tn, isR_Ln, isR_sn, isR_in, isR_bn, isR_bb, isNotR_nn, isNotR_tn, isNotR_Ln, isNotR_sn, isNotR_in, isNotR_bn, isNotR_bb, isi_t_bool, isi_t_int, isi_t_str, isi_t_tuple, isi_t_list, isi_t_dict, isi_s_bool, isi_s_int, isi_s_str, isi_s_tuple, isi_s_list, isi_s_dict, isi_i_bool, isi_i_int, isi_i_str, isi_i_tuple, isi_i_list, isi_i_dict, isi_b_bool, isi_b_int, isi_b_str, isi_b_tuple, isi_b_list, isi_b_dict, isi_n_bool, isi_n_int, isi_n_str, isi_n_tuple, isi_n_list, isi_n_dict, isi_L_bool, isi_L_int, isi_L_str, isi_L_tuple, isi_L_list, isi_L_dict, isi_d_bool, isi_d_int, isi_d_str, isi_d_tuple, isi_d_list, isi_d_dict, natlit_eq, Int.reduceNeg, puts, appendR_same, lenR_same, tup1R_same, sz0, sz1, sz2, sz3, sz4, sz5, sz6, sz7, sz8, sz9, sz10, ix_L0, ix_L1, ix_L2, ix_Lbs, dep_nil, dep_cons, dep_tup, dep_lst, dep_str, dep_int, dep_bl, dep_non, dep_strs, dep_ints, dep_app, dep_rules, dep_prog, dep_st, pu_nil, pu_cons, pu_tup, pu_lst, pu_str, pu_int, pu_bl, pu_non, pu_app, pureDs_str, pureDs_int, pu_rule, pu_rules, pu_prog, pu_st, eqv_self, eqvDs_nil, Bool.and_self, Bool.and_true, Bool.true_and, List.length_map, List.length_append, Int.zero_add, Nat.zero_add, cutL_to1, cutL_to2, cutL_to3, cutL_to15, List.take_succ_cons, List.take_zero, List.take_nil, List.drop_succ_cons, List.drop_zero, List.drop_nil, max2R_ii, min2R_ii, cutL_toN, cutL_toS, cutL_fromN, cutL_fromS, List.length_take, List.length_drop, ← List.map_take, ← List.map_drop, ← List.map_append, neR_prog0, eqR_prog0, lenR_prog, rep1, List.length_replicate, Int.toNat_natCast, ofLst_L, sumLR_map, allLR_map, anyLR_map, ofString_beq, ofString_inj, String.reduceBEq, String.reduceEq, decide_true, decide_false, extA_t, extA_L, isSome_same, List.length_reverse, ← List.map_reverse]) | ((with_reducible refine And.intro ?_ ?_); focus (first | with_reducible exact small_line2 (by omega) | with_reducible exact small_lt2 (by omega) | with_reducible exact cmul_sm (by omega) (by omega) (by omega) (by omega) | with_reducible exact inLine_nat (by omega) | exact ⟨by omega, by omega⟩ | exact ⟨by omega, by omega, by simp⟩ | omega | decide)))
          refine pick_Bt b6 (by omega) hrs0 (by omega) fun r mr M7 b7 => ?_
          simp only [dNext, dBreak, dCont, dDrop, dRet, dRetN, dIfS, dAsg, dputS, dlputS, dOp, dVar, dC, dget_zero, dget_succ, dTest, isB, dNil, dCons, dgName, dTup, dCB, dFresh, dFrz, dFreshD, dFrzD, dDispD, dDisp, dBM, dBM0, dAndV, dOrV, dNotV, dAnd, dOr, dNot, dCall, dNeg, dIf, dFor, dSl, dPart, dNoPart, diRng1, diRng2, diAny, isI, dstart, List.set_cons_zero, List.set_cons_succ, List.map_cons, List.map_nil, List.length_cons, List.length_nil, List.cons_append, List.nil_append, Nat.reduceAdd, Nat.reduceSub, Int.reduceAdd, Int.reduceSub, List.replicate, isLst, dgTup, dgCons, dgNil, dListOf, dJoin, dIndex, dRev, diZip, dPar2, diEnum, dRetX, dDropX, dAsgX, dCallX, dConsX, dTupX, dFrzX, dRaise0, dRaise1, dTryAs, dTryOnly, dXf, asEnds, dLc, wipeD, dCat, dSlL, dPairs, dGet2, dGet1, isDic, ite_true, ite_false, if_true, if_false, reduceIte, Bool.false_eq_true, Bool.true_eq_false, and_true, true_and, rdL_lst, rdL_ref, rdS_lst, rdS_ref, rdS_tup, rdD_dic, rdD_ref, addR_ii, addR_ib, addR_ss, addR_tt, addR_LL, subR_ii, mulR_ii, mulA_ii, mulA_t, mulA_L, modR_ii, fdivR_ii, powR_ii, ltR_ii, leR_ii, gtR_ii, geR_ii, keyD_s, keyD_i, dgetR, eqR_ii, eqR_ss, eqR_bb, eqR_tt, eqR_LL, neR_ii, neR_ss, neR_bb, neR_tt, neR_LL, eqM_ii, eqM_ss, eqM_bb, eqM_tt, eqM_LL, okD_i, okD_s, okD_b, okD_n, okD_t, okD_L, deck_at, deck_sum, deck_cells, deck_len, deck_put, dicOf_mup_same, lstOf_mup_same, int1R_b, int1R_i, ix_t0, ix_t1, ix_t2, ix_t3, ix_t4, lenR_t, lenR_s, lenR_L, slR_t, slR_s, slR_L, cutL_from1, cutL_from2, revR_t, revR_L, tup1R_L, tup1R_t, beq_self_eq_true, Bool.not_true, Bool.not_false, Option.isSome_some, List.isEmpty_nil, List.isEmpty_cons, isR_nn, isR_tn, isR_Ln, isR_sn, isR_in, isR_bn, isR_bb, isNotR_nn, isNotR_tn, isNotR_Ln, isNotR_sn, isNotR_in, isNotR_bn, isNotR_bb, isi_t_bool, isi_t_int, isi_t_str, isi_t_tuple, isi_t_list, isi_t_dict, isi_s_bool, isi_s_int, isi_s_str, isi_s_tuple, isi_s_list, isi_s_dict, isi_i_bool, isi_i_int, isi_i_str, isi_i_tuple, isi_i_list, isi_i_dict, isi_b_bool, isi_b_int, isi_b_str, isi_b_tuple, isi_b_list, isi_b_dict, isi_n_bool, isi_n_int, isi_n_str, isi_n_tuple, isi_n_list, isi_n_dict, isi_L_bool, isi_L_int, isi_L_str, isi_L_tuple, isi_L_list, isi_L_dict, isi_d_bool, isi_d_int, isi_d_str, isi_d_tuple, isi_d_list, isi_d_dict, natlit_eq, Int.reduceNeg, puts, appendR_same, lenR_same, tup1R_same, sz0, sz1, sz2, sz3, sz4, sz5, sz6, sz7, sz8, sz9, sz10, ix_L0, ix_L1, ix_L2, ix_Lbs, dep_nil, dep_cons, dep_tup, dep_lst, dep_str, dep_int, dep_bl, dep_non, dep_strs, dep_ints, dep_app, dep_rules, dep_prog, dep_st, pu_nil, pu_cons, pu_tup, pu_lst, pu_str, pu_int, pu_bl, pu_non, pu_app, pureDs_str, pureDs_int, pu_rule, pu_rules, pu_prog, pu_st, eqv_self, eqvDs_nil, Bool.and_self, Bool.and_true, Bool.true_and, List.length_map, List.length_append, Int.zero_add, Nat.zero_add, cutL_to1, cutL_to2, cutL_to3, cutL_to15, List.take_succ_cons, List.take_zero, List.take_nil, List.drop_succ_cons, List.drop_zero, List.drop_nil, max2R_ii, min2R_ii, cutL_toN, cutL_toS, cutL_fromN, cutL_fromS, List.length_take, List.length_drop, ← List.map_take, ← List.map_drop, ← List.map_append, neR_prog0, eqR_prog0, lenR_prog, rep1, List.length_replicate, Int.toNat_natCast, ofLst_L, sumLR_map, allLR_map, anyLR_map, ofString_beq, ofString_inj, String.reduceBEq, String.reduceEq, decide_true, decide_false, extA_t, extA_L, isSome_same, List.length_reverse, ← List.map_reverse, ruleD]
          repeat (first | (with_reducible refine seq_go ?_) | (simp only [dNext, dBreak, dCont, dDrop, dRet, dRetN, dIfS, dAsg, dputS, dlputS, dOp, dVar, dC, dget_zero, dget_succ, dTest, isB, dNil, dCons, dgName, dTup, dCB, dFresh, dFrz, dFreshD, dFrzD, dDispD, dDisp, dBM, dBM0, dAndV, dOrV, dNotV, dAnd, dOr, dNot, dCall, dNeg, dIf, dFor, dSl, dPart, dNoPart, diRng1, diRng2, diAny, isI, dstart, List.set_cons_zero, List.set_cons_succ, List.map_cons, List.map_nil, List.length_cons, List.length_nil, List.cons_append, List.nil_append, Nat.reduceAdd, Nat.reduceSub, Int.reduceAdd, Int.reduceSub, List.replicate, isLst, dgTup, dgCons, dgNil, dListOf, dJoin, dIndex, dRev, diZip, dPar2, diEnum, dRetX, dDropX, dAsgX, dCallX, dConsX, dTupX, dFrzX, dRaise0, dRaise1, dTryAs, dTryOnly, dXf, asEnds, dLc, wipeD, dCat, dSlL, dPairs, dGet2, dGet1, isDic, ite_true, ite_false, if_true, if_false, reduceIte, Bool.false_eq_true, Bool.true_eq_false, and_true, true_and, rdL_lst, rdL_ref, rdS_lst, rdS_ref, rdS_tup, rdD_dic, rdD_ref, addR_ii, addR_ib, addR_ss, addR_tt, addR_LL, subR_ii, mulR_ii, mulA_ii, mulA_t, mulA_L, modR_ii, fdivR_ii, powR_ii, ltR_ii, leR_ii, gtR_ii, geR_ii, keyD_s, keyD_i, dgetR, eqR_ii, eqR_ss, eqR_bb, eqR_tt, eqR_LL, neR_ii, neR_ss, neR_bb, neR_tt, neR_LL, eqM_ii, eqM_ss, eqM_bb, eqM_tt, eqM_LL, okD_i, okD_s, okD_b, okD_n, okD_t, okD_L, deck_at, deck_sum, deck_cells, deck_len, deck_put, dicOf_mup_same, lstOf_mup_same, int1R_b, int1R_i, ix_t0, ix_t1, ix_t2, ix_t3, ix_t4, lenR_t, lenR_s, lenR_L, slR_t, slR_s, slR_L, cutL_from1, cutL_from2, revR_t, revR_L, tup1R_L, tup1R_t, beq_self_eq_true, Bool.not_true, Bool.not_false, Option.isSome_some, List.isEmpty_nil, List.isEmpty_cons, isR_nn, isR_tn, isR_Ln, isR_sn, isR_in, isR_bn, isR_bb, isNotR_nn, isNotR_tn, isNotR_Ln, isNotR_sn, isNotR_in, isNotR_bn, isNotR_bb, isi_t_bool, isi_t_int, isi_t_str, isi_t_tuple, isi_t_list, isi_t_dict, isi_s_bool, isi_s_int, isi_s_str, isi_s_tuple, isi_s_list, isi_s_dict, isi_i_bool, isi_i_int, isi_i_str, isi_i_tuple, isi_i_list, isi_i_dict, isi_b_bool, isi_b_int, isi_b_str, isi_b_tuple, isi_b_list, isi_b_dict, isi_n_bool, isi_n_int, isi_n_str, isi_n_tuple, isi_n_list, isi_n_dict, isi_L_bool, isi_L_int, isi_L_str, isi_L_tuple, isi_L_list, isi_L_dict, isi_d_bool, isi_d_int, isi_d_str, isi_d_tuple, isi_d_list, isi_d_dict, natlit_eq, Int.reduceNeg, puts, appendR_same, lenR_same, tup1R_same, sz0, sz1, sz2, sz3, sz4, sz5, sz6, sz7, sz8, sz9, sz10, ix_L0, ix_L1, ix_L2, ix_Lbs, dep_nil, dep_cons, dep_tup, dep_lst, dep_str, dep_int, dep_bl, dep_non, dep_strs, dep_ints, dep_app, dep_rules, dep_prog, dep_st, pu_nil, pu_cons, pu_tup, pu_lst, pu_str, pu_int, pu_bl, pu_non, pu_app, pureDs_str, pureDs_int, pu_rule, pu_rules, pu_prog, pu_st, eqv_self, eqvDs_nil, Bool.and_self, Bool.and_true, Bool.true_and, List.length_map, List.length_append, Int.zero_add, Nat.zero_add, cutL_to1, cutL_to2, cutL_to3, cutL_to15, List.take_succ_cons, List.take_zero, List.take_nil, List.drop_succ_cons, List.drop_zero, List.drop_nil, max2R_ii, min2R_ii, cutL_toN, cutL_toS, cutL_fromN, cutL_fromS, List.length_take, List.length_drop, ← List.map_take, ← List.map_drop, ← List.map_append, neR_prog0, eqR_prog0, lenR_prog, rep1, List.length_replicate, Int.toNat_natCast, ofLst_L, sumLR_map, allLR_map, anyLR_map, ofString_beq, ofString_inj, String.reduceBEq, String.reduceEq, decide_true, decide_false, extA_t, extA_L, isSome_same, List.length_reverse, ← List.map_reverse]) | ((with_reducible refine And.intro ?_ ?_); focus (first | with_reducible exact small_line2 (by omega) | with_reducible exact small_lt2 (by omega) | with_reducible exact cmul_sm (by omega) (by omega) (by omega) (by omega) | with_reducible exact inLine_nat (by omega) | exact ⟨by omega, by omega⟩ | exact ⟨by omega, by omega, by simp⟩ | omega | decide)))
          exact hN _ _ _ rfl ⟨(r.p, r.m :: pile.take 15), _, rfl, by simp; omega, b7.mono (by omega)⟩
        · exact hN _ _ _ rfl ⟨(pl, pile), _, rfl, hp16, b6.mono (by omega)⟩
      · obtain ⟨s, x8, rfl, hs, b7⟩ := hJ
        repeat (first | (with_reducible refine sq_asg ?_) | (with_reducible refine sq_drop ?_) | (with_reducible refine sq_for ?_) | (with_reducible refine sq_while ?_) | (with_reducible refine sq_dput ?_) | (with_reducible refine sq_lput ?_) | (with_reducible refine sq_par2 ?_) | (with_reducible refine sq_asgX ?_) | (with_reducible refine sq_dropX ?_) | (simp only [dNext, dBreak, dCont, dDrop, dRet, dRetN, dIfS, dAsg, dputS, dlputS, dOp, dVar, dC, dget_zero, dget_succ, dTest, isB, dNil, dCons, dgName, dTup, dCB, dFresh, dFrz, dFreshD, dFrzD, dDispD, dDisp, dBM, dBM0, dAndV, dOrV, dNotV, dAnd, dOr, dNot, dCall, dNeg, dIf, dFor, dSl, dPart, dNoPart, diRng1, diRng2, diAny, isI, dstart, List.set_cons_zero, List.set_cons_succ, List.map_cons, List.map_nil, List.length_cons, List.length_nil, List.cons_append, List.nil_append, Nat.reduceAdd, Nat.reduceSub, Int.reduceAdd, Int.reduceSub, List.replicate, isLst, dgTup, dgCons, dgNil, dListOf, dJoin, dIndex, dRev, diZip, dPar2, diEnum, dRetX, dDropX, dAsgX, dCallX, dConsX, dTupX, dFrzX, dRaise0, dRaise1, dTryAs, dTryOnly, dXf, asEnds, dLc, wipeD, dCat, dSlL, dPairs, dGet2, dGet1, isDic, ite_true, ite_false, if_true, if_false, reduceIte, Bool.false_eq_true, Bool.true_eq_false, and_true, true_and, rdL_lst, rdL_ref, rdS_lst, rdS_ref, rdS_tup, rdD_dic, rdD_ref, addR_ii, addR_ib, addR_ss, addR_tt, addR_LL, subR_ii, mulR_ii, mulA_ii, mulA_t, mulA_L, modR_ii, fdivR_ii, powR_ii, ltR_ii, leR_ii, gtR_ii, geR_ii, keyD_s, keyD_i, dgetR, eqR_ii, eqR_ss, eqR_bb, eqR_tt, eqR_LL, neR_ii, neR_ss, neR_bb, neR_tt, neR_LL, eqM_ii, eqM_ss, eqM_bb, eqM_tt, eqM_LL, okD_i, okD_s, okD_b, okD_n, okD_t, okD_L, deck_at, deck_sum, deck_cells, deck_len, deck_put, dicOf_mup_same, lstOf_mup_same, int1R_b, int1R_i, ix_t0, ix_t1, ix_t2, ix_t3, ix_t4, lenR_t, lenR_s, lenR_L, slR_t, slR_s, slR_L, cutL_from1, cutL_from2, revR_t, revR_L, tup1R_L, tup1R_t, beq_self_eq_true, Bool.not_true, Bool.not_false, Option.isSome_some, List.isEmpty_nil, List.isEmpty_cons, isR_nn, isR_tn, isR_Ln, isR_sn, isR_in, isR_bn, isR_bb, isNotR_nn, isNotR_tn, isNotR_Ln, isNotR_sn, isNotR_in, isNotR_bn, isNotR_bb, isi_t_bool, isi_t_int, isi_t_str, isi_t_tuple, isi_t_list, isi_t_dict, isi_s_bool, isi_s_int, isi_s_str, isi_s_tuple, isi_s_list, isi_s_dict, isi_i_bool, isi_i_int, isi_i_str, isi_i_tuple, isi_i_list, isi_i_dict, isi_b_bool, isi_b_int, isi_b_str, isi_b_tuple, isi_b_list, isi_b_dict, isi_n_bool, isi_n_int, isi_n_str, isi_n_tuple, isi_n_list, isi_n_dict, isi_L_bool, isi_L_int, isi_L_str, isi_L_tuple, isi_L_list, isi_L_dict, isi_d_bool, isi_d_int, isi_d_str, isi_d_tuple, isi_d_list, isi_d_dict, natlit_eq, Int.reduceNeg, puts, appendR_same, lenR_same, tup1R_same, sz0, sz1, sz2, sz3, sz4, sz5, sz6, sz7, sz8, sz9, sz10, ix_L0, ix_L1, ix_L2, ix_Lbs, dep_nil, dep_cons, dep_tup, dep_lst, dep_str, dep_int, dep_bl, dep_non, dep_strs, dep_ints, dep_app, dep_rules, dep_prog, dep_st, pu_nil, pu_cons, pu_tup, pu_lst, pu_str, pu_int, pu_bl, pu_non, pu_app, pureDs_str, pureDs_int, pu_rule, pu_rules, pu_prog, pu_st, eqv_self, eqvDs_nil, Bool.and_self, Bool.and_true, Bool.true_and, List.length_map, List.length_append, Int.zero_add, Nat.zero_add, cutL_to1, cutL_to2, cutL_to3, cutL_to15, List.take_succ_cons, List.take_zero, List.take_nil, List.drop_succ_cons, List.drop_zero, List.drop_nil, max2R_ii, min2R_ii, cutL_toN, cutL_toS, cutL_fromN, cutL_fromS, List.length_take, List.length_drop, ← List.map_take, ← List.map_drop, ← List.map_append, neR_prog0, eqR_prog0, lenR_prog, rep1, List.length_replicate, Int.toNat_natCast, ofLst_L, sumLR_map, allLR_map, anyLR_map, ofString_beq, ofString_inj, String.reduceBEq, String.reduceEq, decide_true, decide_false, extA_t, extA_L, isSome_same, List.length_reverse, ← List.map_reverse]) | ((with_reducible refine And.intro ?_ ?_); focus (first | with_reducible exact small_line2 (by omega) | with_reducible exact small_lt2 (by omega) | with_reducible exact cmul_sm (by omega) (by omega) (by omega) (by omega) | with_reducible exact inLine_nat (by omega) | exact ⟨by omega, by omega⟩ | exact ⟨by omega, by omega, by simp⟩ | omega | decide)))
        refine ix_allL (fun y => ∃ k : Nat, y = .int (k : Nat) ∧ k ≤ 60) w0 (by simp; omega) (by simp; exact ⟨⟨6, rfl, by decide⟩, ⟨20, rfl, by decide⟩, ⟨60, rfl, by decide⟩⟩) fun y ⟨most, e, hm60⟩ => ?_
        subst e
        refine gone_B b7 (by omega) (by omega) (by omega) (by omega) hw fun ns M8 hnl hns b8 => ?_
        repeat (first | (with_reducible refine seq_go ?_) | (simp only [dNext, dBreak, dCont, dDrop, dRet, dRetN, dIfS, dAsg, dputS, dlputS, dOp, dVar, dC, dget_zero, dget_succ, dTest, isB, dNil, dCons, dgName, dTup, dCB, dFresh, dFrz, dFreshD, dFrzD, dDispD, dDisp, dBM, dBM0, dAndV, dOrV, dNotV, dAnd, dOr, dNot, dCall, dNeg, dIf, dFor, dSl, dPart, dNoPart, diRng1, diRng2, diAny, isI, dstart, List.set_cons_zero, List.set_cons_succ, List.map_cons, List.map_nil, List.length_cons, List.length_nil, List.cons_append, List.nil_append, Nat.reduceAdd, Nat.reduceSub, Int.reduceAdd, Int.reduceSub, List.replicate, isLst, dgTup, dgCons, dgNil, dListOf, dJoin, dIndex, dRev, diZip, dPar2, diEnum, dRetX, dDropX, dAsgX, dCallX, dConsX, dTupX, dFrzX, dRaise0, dRaise1, dTryAs, dTryOnly, dXf, asEnds, dLc, wipeD, dCat, dSlL, dPairs, dGet2, dGet1, isDic, ite_true, ite_false, if_true, if_false, reduceIte, Bool.false_eq_true, Bool.true_eq_false, and_true, true_and, rdL_lst, rdL_ref, rdS_lst, rdS_ref, rdS_tup, rdD_dic, rdD_ref, addR_ii, addR_ib, addR_ss, addR_tt, addR_LL, subR_ii, mulR_ii, mulA_ii, mulA_t, mulA_L, modR_ii, fdivR_ii, powR_ii, ltR_ii, leR_ii, gtR_ii, geR_ii, keyD_s, keyD_i, dgetR, eqR_ii, eqR_ss, eqR_bb, eqR_tt, eqR_LL, neR_ii, neR_ss, neR_bb, neR_tt, neR_LL, eqM_ii, eqM_ss, eqM_bb, eqM_tt, eqM_LL, okD_i, okD_s, okD_b, okD_n, okD_t, okD_L, deck_at, deck_sum, deck_cells, deck_len, deck_put, dicOf_mup_same, lstOf_mup_same, int1R_b, int1R_i, ix_t0, ix_t1, ix_t2, ix_t3, ix_t4, lenR_t, lenR_s, lenR_L, slR_t, slR_s, slR_L, cutL_from1, cutL_from2, revR_t, revR_L, tup1R_L, tup1R_t, beq_self_eq_true, Bool.not_true, Bool.not_false, Option.isSome_some, List.isEmpty_nil, List.isEmpty_cons, isR_nn, isR_tn, isR_Ln, isR_sn, isR_in, isR_bn, isR_bb, isNotR_nn, isNotR_tn, isNotR_Ln, isNotR_sn, isNotR_in, isNotR_bn, isNotR_bb, isi_t_bool, isi_t_int, isi_t_str, isi_t_tuple, isi_t_list, isi_t_dict, isi_s_bool, isi_s_int, isi_s_str, isi_s_tuple, isi_s_list, isi_s_dict, isi_i_bool, isi_i_int, isi_i_str, isi_i_tuple, isi_i_list, isi_i_dict, isi_b_bool, isi_b_int, isi_b_str, isi_b_tuple, isi_b_list, isi_b_dict, isi_n_bool, isi_n_int, isi_n_str, isi_n_tuple, isi_n_list, isi_n_dict, isi_L_bool, isi_L_int, isi_L_str, isi_L_tuple, isi_L_list, isi_L_dict, isi_d_bool, isi_d_int, isi_d_str, isi_d_tuple, isi_d_list, isi_d_dict, natlit_eq, Int.reduceNeg, puts, appendR_same, lenR_same, tup1R_same, sz0, sz1, sz2, sz3, sz4, sz5, sz6, sz7, sz8, sz9, sz10, ix_L0, ix_L1, ix_L2, ix_Lbs, dep_nil, dep_cons, dep_tup, dep_lst, dep_str, dep_int, dep_bl, dep_non, dep_strs, dep_ints, dep_app, dep_rules, dep_prog, dep_st, pu_nil, pu_cons, pu_tup, pu_lst, pu_str, pu_int, pu_bl, pu_non, pu_app, pureDs_str, pureDs_int, pu_rule, pu_rules, pu_prog, pu_st, eqv_self, eqvDs_nil, Bool.and_self, Bool.and_true, Bool.true_and, List.length_map, List.length_append, Int.zero_add, Nat.zero_add, cutL_to1, cutL_to2, cutL_to3, cutL_to15, List.take_succ_cons, List.take_zero, List.take_nil, List.drop_succ_cons, List.drop_zero, List.drop_nil, max2R_ii, min2R_ii, cutL_toN, cutL_toS, cutL_fromN, cutL_fromS, List.length_take, List.length_drop, ← List.map_take, ← List.map_drop, ← List.map_append, neR_prog0, eqR_prog0, lenR_prog, rep1, List.length_replicate, Int.toNat_natCast, ofLst_L, sumLR_map, allLR_map, anyLR_map, ofString_beq, ofString_inj, String.reduceBEq, String.reduceEq, decide_true, decide_false, extA_t, extA_L, isSome_same, List.length_reverse, ← List.map_reverse]) | ((with_reducible refine And.intro ?_ ?_); focus (first | with_reducible exact small_line2 (by omega) | with_reducible exact small_lt2 (by omega) | with_reducible exact cmul_sm (by omega) (by omega) (by omega) (by omega) | with_reducible exact inLine_nat (by omega) | exact ⟨by omega, by omega⟩ | exact ⟨by omega, by omega, by simp⟩ | omega | decide)))
        refine right_go (by omega) (by omega) (by omega) hw ?_
        try simp only [dNext, dBreak, dCont, dDrop, dRet, dRetN, dIfS, dAsg, dputS, dlputS, dOp, dVar, dC, dget_zero, dget_succ, dTest, isB, dNil, dCons, dgName, dTup, dCB, dFresh, dFrz, dFreshD, dFrzD, dDispD, dDisp, dBM, dBM0, dAndV, dOrV, dNotV, dAnd, dOr, dNot, dCall, dNeg, dIf, dFor, dSl, dPart, dNoPart, diRng1, diRng2, diAny, isI, dstart, List.set_cons_zero, List.set_cons_succ, List.map_cons, List.map_nil, List.length_cons, List.length_nil, List.cons_append, List.nil_append, Nat.reduceAdd, Nat.reduceSub, Int.reduceAdd, Int.reduceSub, List.replicate, isLst, dgTup, dgCons, dgNil, dListOf, dJoin, dIndex, dRev, diZip, dPar2, diEnum, dRetX, dDropX, dAsgX, dCallX, dConsX, dTupX, dFrzX, dRaise0, dRaise1, dTryAs, dTryOnly, dXf, asEnds, dLc, wipeD, dCat, dSlL, dPairs, dGet2, dGet1, isDic, ite_true, ite_false, if_true, if_false, reduceIte, Bool.false_eq_true, Bool.true_eq_false, and_true, true_and, rdL_lst, rdL_ref, rdS_lst, rdS_ref, rdS_tup, rdD_dic, rdD_ref, addR_ii, addR_ib, addR_ss, addR_tt, addR_LL, subR_ii, mulR_ii, mulA_ii, mulA_t, mulA_L, modR_ii, fdivR_ii, powR_ii, ltR_ii, leR_ii, gtR_ii, geR_ii, keyD_s, keyD_i, dgetR, eqR_ii, eqR_ss, eqR_bb, eqR_tt, eqR_LL, neR_ii, neR_ss, neR_bb, neR_tt, neR_LL, eqM_ii, eqM_ss, eqM_bb, eqM_tt, eqM_LL, okD_i, okD_s, okD_b, okD_n, okD_t, okD_L, deck_at, deck_sum, deck_cells, deck_len, deck_put, dicOf_mup_same, lstOf_mup_same, int1R_b, int1R_i, ix_t0, ix_t1, ix_t2, ix_t3, ix_t4, lenR_t, lenR_s, lenR_L, slR_t, slR_s, slR_L, cutL_from1, cutL_from2, revR_t, revR_L, tup1R_L, tup1R_t, beq_self_eq_true, Bool.not_true, Bool.not_false, Option.isSome_some, List.isEmpty_nil, List.isEmpty_cons, isR_nn, isR_tn, isR_Ln, isR_sn, isR_in, isR_bn, isR_bb, isNotR_nn, isNotR_tn, isNotR_Ln, isNotR_sn, isNotR_in, isNotR_bn, isNotR_bb, isi_t_bool, isi_t_int, isi_t_str, isi_t_tuple, isi_t_list, isi_t_dict, isi_s_bool, isi_s_int, isi_s_str, isi_s_tuple, isi_s_list, isi_s_dict, isi_i_bool, isi_i_int, isi_i_str, isi_i_tuple, isi_i_list, isi_i_dict, isi_b_bool, isi_b_int, isi_b_str, isi_b_tuple, isi_b_list, isi_b_dict, isi_n_bool, isi_n_int, isi_n_str, isi_n_tuple, isi_n_list, isi_n_dict, isi_L_bool, isi_L_int, isi_L_str, isi_L_tuple, isi_L_list, isi_L_dict, isi_d_bool, isi_d_int, isi_d_str, isi_d_tuple, isi_d_list, isi_d_dict, natlit_eq, Int.reduceNeg, puts, appendR_same, lenR_same, tup1R_same, sz0, sz1, sz2, sz3, sz4, sz5, sz6, sz7, sz8, sz9, sz10, ix_L0, ix_L1, ix_L2, ix_Lbs, dep_nil, dep_cons, dep_tup, dep_lst, dep_str, dep_int, dep_bl, dep_non, dep_strs, dep_ints, dep_app, dep_rules, dep_prog, dep_st, pu_nil, pu_cons, pu_tup, pu_lst, pu_str, pu_int, pu_bl, pu_non, pu_app, pureDs_str, pureDs_int, pu_rule, pu_rules, pu_prog, pu_st, eqv_self, eqvDs_nil, Bool.and_self, Bool.and_true, Bool.true_and, List.length_map, List.length_append, Int.zero_add, Nat.zero_add, cutL_to1, cutL_to2, cutL_to3, cutL_to15, List.take_succ_cons, List.take_zero, List.take_nil, List.drop_succ_cons, List.drop_zero, List.drop_nil, max2R_ii, min2R_ii, cutL_toN, cutL_toS, cutL_fromN, cutL_fromS, List.length_take, List.length_drop, ← List.map_take, ← List.map_drop, ← List.map_append, neR_prog0, eqR_prog0, lenR_prog, rep1, List.length_replicate, Int.toNat_natCast, ofLst_L, sumLR_map, allLR_map, anyLR_map, ofString_beq, ofString_inj, String.reduceBEq, String.reduceEq, decide_true, decide_false, extA_t, extA_L, isSome_same, List.length_reverse, ← List.map_reverse]
        refine right_go (ns := []) (by omega) (by simp) (by omega) hw ?_
        repeat (first | (with_reducible refine seq_go ?_) | (simp only [dNext, dBreak, dCont, dDrop, dRet, dRetN, dIfS, dAsg, dputS, dlputS, dOp, dVar, dC, dget_zero, dget_succ, dTest, isB, dNil, dCons, dgName, dTup, dCB, dFresh, dFrz, dFreshD, dFrzD, dDispD, dDisp, dBM, dBM0, dAndV, dOrV, dNotV, dAnd, dOr, dNot, dCall, dNeg, dIf, dFor, dSl, dPart, dNoPart, diRng1, diRng2, diAny, isI, dstart, List.set_cons_zero, List.set_cons_succ, List.map_cons, List.map_nil, List.length_cons, List.length_nil, List.cons_append, List.nil_append, Nat.reduceAdd, Nat.reduceSub, Int.reduceAdd, Int.reduceSub, List.replicate, isLst, dgTup, dgCons, dgNil, dListOf, dJoin, dIndex, dRev, diZip, dPar2, diEnum, dRetX, dDropX, dAsgX, dCallX, dConsX, dTupX, dFrzX, dRaise0, dRaise1, dTryAs, dTryOnly, dXf, asEnds, dLc, wipeD, dCat, dSlL, dPairs, dGet2, dGet1, isDic, ite_true, ite_false, if_true, if_false, reduceIte, Bool.false_eq_true, Bool.true_eq_false, and_true, true_and, rdL_lst, rdL_ref, rdS_lst, rdS_ref, rdS_tup, rdD_dic, rdD_ref, addR_ii, addR_ib, addR_ss, addR_tt, addR_LL, subR_ii, mulR_ii, mulA_ii, mulA_t, mulA_L, modR_ii, fdivR_ii, powR_ii, ltR_ii, leR_ii, gtR_ii, geR_ii, keyD_s, keyD_i, dgetR, eqR_ii, eqR_ss, eqR_bb, eqR_tt, eqR_LL, neR_ii, neR_ss, neR_bb, neR_tt, neR_LL, eqM_ii, eqM_ss, eqM_bb, eqM_tt, eqM_LL, okD_i, okD_s, okD_b, okD_n, okD_t, okD_L, deck_at, deck_sum, deck_cells, deck_len, deck_put, dicOf_mup_same, lstOf_mup_same, int1R_b, int1R_i, ix_t0, ix_t1, ix_t2, ix_t3, ix_t4, lenR_t, lenR_s, lenR_L, slR_t, slR_s, slR_L, cutL_from1, cutL_from2, revR_t, revR_L, tup1R_L, tup1R_t, beq_self_eq_true, Bool.not_true, Bool.not_false, Option.isSome_some, List.isEmpty_nil, List.isEmpty_cons, isR_nn, isR_tn, isR_Ln, isR_sn, isR_in, isR_bn, isR_bb, isNotR_nn, isNotR_tn, isNotR_Ln, isNotR_sn, isNotR_in, isNotR_bn, isNotR_bb, isi_t_bool, isi_t_int, isi_t_str, isi_t_tuple, isi_t_list, isi_t_dict, isi_s_bool, isi_s_int, isi_s_str, isi_s_tuple, isi_s_list, isi_s_dict, isi_i_bool, isi_i_int, isi_i_str, isi_i_tuple, isi_i_list, isi_i_dict, isi_b_bool, isi_b_int, isi_b_str, isi_b_tuple, isi_b_list, isi_b_dict, isi_n_bool, isi_n_int, isi_n_str, isi_n_tuple, isi_n_list, isi_n_dict, isi_L_bool, isi_L_int, isi_L_str, isi_L_tuple, isi_L_list, isi_L_dict, isi_d_bool, isi_d_int, isi_d_str, isi_d_tuple, isi_d_list, isi_d_dict, natlit_eq, Int.reduceNeg, puts, appendR_same, lenR_same, tup1R_same, sz0, sz1, sz2, sz3, sz4, sz5, sz6, sz7, sz8, sz9, sz10, ix_L0, ix_L1, ix_L2, ix_Lbs, dep_nil, dep_cons, dep_tup, dep_lst, dep_str, dep_int, dep_bl, dep_non, dep_strs, dep_ints, dep_app, dep_rules, dep_prog, dep_st, pu_nil, pu_cons, pu_tup, pu_lst, pu_str, pu_int, pu_bl, pu_non, pu_app, pureDs_str, pureDs_int, pu_rule, pu_rules, pu_prog, pu_st, eqv_self, eqvDs_nil, Bool.and_self, Bool.and_true, Bool.true_and, List.length_map, List.length_append, Int.zero_add, Nat.zero_add, cutL_to1, cutL_to2, cutL_to3, cutL_to15, List.take_succ_cons, List.take_zero, List.take_nil, List.drop_succ_cons, List.drop_zero, List.drop_nil, max2R_ii, min2R_ii, cutL_toN, cutL_toS, cutL_fromN, cutL_fromS, List.length_take, List.length_drop, ← List.map_take, ← List.map_drop, ← List.map_append, neR_prog0, eqR_prog0, lenR_prog, rep1, List.length_replicate, Int.toNat_natCast, ofLst_L, sumLR_map, allLR_map, anyLR_map, ofString_beq, ofString_inj, String.reduceBEq, String.reduceEq, decide_true, decide_false, extA_t, extA_L, isSome_same, List.length_reverse, ← List.map_reverse]) | ((with_reducible refine And.intro ?_ ?_); focus (first | with_reducible exact small_line2 (by omega) | with_reducible exact small_lt2 (by omega) | with_reducible exact cmul_sm (by omega) (by omega) (by omega) (by omega) | with_reducible exact inLine_nat (by omega) | exact ⟨by omega, by omega⟩ | exact ⟨by omega, by omega, by simp⟩ | omega | decide)))
        refine forR [10] (fun i' vs M' => ∃ x10, vs = [x10] ∧ Bx d c (100000 + 1000 * (2 - i) + 200 + 10 * (5 - i')) M [] M') (fun _ _ _ _ => trivial) (fun i' N'' hi' hN'' vs M9 hI => ?_) (fun vs M9 hI => ?_) ⟨_, rfl, b8.mono (by omega)⟩
        · obtain ⟨x10, rfl, b9⟩ := hI
          repeat (first | (with_reducible refine seq_go ?_) | (simp only [dNext, dBreak, dCont, dDrop, dRet, dRetN, dIfS, dAsg, dputS, dlputS, dOp, dVar, dC, dget_zero, dget_succ, dTest, isB, dNil, dCons, dgName, dTup, dCB, dFresh, dFrz, dFreshD, dFrzD, dDispD, dDisp, dBM, dBM0, dAndV, dOrV, dNotV, dAnd, dOr, dNot, dCall, dNeg, dIf, dFor, dSl, dPart, dNoPart, diRng1, diRng2, diAny, isI, dstart, List.set_cons_zero, List.set_cons_succ, List.map_cons, List.map_nil, List.length_cons, List.length_nil, List.cons_append, List.nil_append, Nat.reduceAdd, Nat.reduceSub, Int.reduceAdd, Int.reduceSub, List.replicate, isLst, dgTup, dgCons, dgNil, dListOf, dJoin, dIndex, dRev, diZip, dPar2, diEnum, dRetX, dDropX, dAsgX, dCallX, dConsX, dTupX, dFrzX, dRaise0, dRaise1, dTryAs, dTryOnly, dXf, asEnds, dLc, wipeD, dCat, dSlL, dPairs, dGet2, dGet1, isDic, ite_true, ite_false, if_true, if_false, reduceIte, Bool.false_eq_true, Bool.true_eq_false, and_true, true_and, rdL_lst, rdL_ref, rdS_lst, rdS_ref, rdS_tup, rdD_dic, rdD_ref, addR_ii, addR_ib, addR_ss, addR_tt, addR_LL, subR_ii, mulR_ii, mulA_ii, mulA_t, mulA_L, modR_ii, fdivR_ii, powR_ii, ltR_ii, leR_ii, gtR_ii, geR_ii, keyD_s, keyD_i, dgetR, eqR_ii, eqR_ss, eqR_bb, eqR_tt, eqR_LL, neR_ii, neR_ss, neR_bb, neR_tt, neR_LL, eqM_ii, eqM_ss, eqM_bb, eqM_tt, eqM_LL, okD_i, okD_s, okD_b, okD_n, okD_t, okD_L, deck_at, deck_sum, deck_cells, deck_len, deck_put, dicOf_mup_same, lstOf_mup_same, int1R_b, int1R_i, ix_t0, ix_t1, ix_t2, ix_t3, ix_t4, lenR_t, lenR_s, lenR_L, slR_t, slR_s, slR_L, cutL_from1, cutL_from2, revR_t, revR_L, tup1R_L, tup1R_t, beq_self_eq_true, Bool.not_true, Bool.not_false, Option.isSome_some, List.isEmpty_nil, List.isEmpty_cons, isR_nn, isR_tn, isR_Ln, isR_sn, isR_in, isR_bn, isR_bb, isNotR_nn, isNotR_tn, isNotR_Ln, isNotR_sn, isNotR_in, isNotR_bn, isNotR_bb, isi_t_bool, isi_t_int, isi_t_str, isi_t_tuple, isi_t_list, isi_t_dict, isi_s_bool, isi_s_int, isi_s_str, isi_s_tuple, isi_s_list, isi_s_dict, isi_i_bool, isi_i_int, isi_i_str, isi_i_tuple, isi_i_list, isi_i_dict, isi_b_bool, isi_b_int, isi_b_str, isi_b_tuple, isi_b_list, isi_b_dict, isi_n_bool, isi_n_int, isi_n_str, isi_n_tuple, isi_n_list, isi_n_dict, isi_L_bool, isi_L_int, isi_L_str, isi_L_tuple, isi_L_list, isi_L_dict, isi_d_bool, isi_d_int, isi_d_str, isi_d_tuple, isi_d_list, isi_d_dict, natlit_eq, Int.reduceNeg, puts, appendR_same, lenR_same, tup1R_same, sz0, sz1, sz2, sz3, sz4, sz5, sz6, sz7, sz8, sz9, sz10, ix_L0, ix_L1, ix_L2, ix_Lbs, dep_nil, dep_cons, dep_tup, dep_lst, dep_str, dep_int, dep_bl, dep_non, dep_strs, dep_ints, dep_app, dep_rules, dep_prog, dep_st, pu_nil, pu_cons, pu_tup, pu_lst, pu_str, pu_int, pu_bl, pu_non, pu_app, pureDs_str, pureDs_int, pu_rule, pu_rules, pu_prog, pu_st, eqv_self, eqvDs_nil, Bool.and_self, Bool.and_true, Bool.true_and, List.length_map, List.length_append, Int.zero_add, Nat.zero_add, cutL_to1, cutL_to2, cutL_to3, cutL_to15, List.take_succ_cons, List.take_zero, List.take_nil, List.drop_succ_cons, List.drop_zero, List.drop_nil, max2R_ii, min2R_ii, cutL_toN, cutL_toS, cutL_fromN, cutL_fromS, List.length_take, List.length_drop, ← List.map_take, ← List.map_drop, ← List.map_append, neR_prog0, eqR_prog0, lenR_prog, rep1, List.length_replicate, Int.toNat_natCast, ofLst_L, sumLR_map, allLR_map, anyLR_map, ofString_beq, ofString_inj, String.reduceBEq, String.reduceEq, decide_true, decide_false, extA_t, extA_L, isSome_same, List.length_reverse, ← List.map_reverse]) | ((with_reducible refine And.intro ?_ ?_); focus (first | with_reducible exact small_line2 (by omega) | with_reducible exact small_lt2 (by omega) | with_reducible exact cmul_sm (by omega) (by omega) (by omega) (by omega) | with_reducible exact inLine_nat (by omega) | exact ⟨by omega, by omega⟩ | exact ⟨by omega, by omega, by simp⟩ | omega | decide)))
          refine ⟨d, ns, rs.length, rfl, by omega, by omega, b9.draws (by omega) fun y M10 hy b10 => ?_⟩
          obtain ⟨ms', rfl, hml'⟩ := hy
          refine right_go (by omega) (by omega) (by omega) hw ?_
          repeat (first | (with_reducible refine seq_go ?_) | (simp only [dNext, dBreak, dCont, dDrop, dRet, dRetN, dIfS, dAsg, dputS, dlputS, dOp, dVar, dC, dget_zero, dget_succ, dTest, isB, dNil, dCons, dgName, dTup, dCB, dFresh, dFrz, dFreshD, dFrzD, dDispD, dDisp, dBM, dBM0, dAndV, dOrV, dNotV, dAnd, dOr, dNot, dCall, dNeg, dIf, dFor, dSl, dPart, dNoPart, diRng1, diRng2, diAny, isI, dstart, List.set_cons_zero, List.set_cons_succ, List.map_cons, List.map_nil, List.length_cons, List.length_nil, List.cons_append, List.nil_append, Nat.reduceAdd, Nat.reduceSub, Int.reduceAdd, Int.reduceSub, List.replicate, isLst, dgTup, dgCons, dgNil, dListOf, dJoin, dIndex, dRev, diZip, dPar2, diEnum, dRetX, dDropX, dAsgX, dCallX, dConsX, dTupX, dFrzX, dRaise0, dRaise1, dTryAs, dTryOnly, dXf, asEnds, dLc, wipeD, dCat, dSlL, dPairs, dGet2, dGet1, isDic, ite_true, ite_false, if_true, if_false, reduceIte, Bool.false_eq_true, Bool.true_eq_false, and_true, true_and, rdL_lst, rdL_ref, rdS_lst, rdS_ref, rdS_tup, rdD_dic, rdD_ref, addR_ii, addR_ib, addR_ss, addR_tt, addR_LL, subR_ii, mulR_ii, mulA_ii, mulA_t, mulA_L, modR_ii, fdivR_ii, powR_ii, ltR_ii, leR_ii, gtR_ii, geR_ii, keyD_s, keyD_i, dgetR, eqR_ii, eqR_ss, eqR_bb, eqR_tt, eqR_LL, neR_ii, neR_ss, neR_bb, neR_tt, neR_LL, eqM_ii, eqM_ss, eqM_bb, eqM_tt, eqM_LL, okD_i, okD_s, okD_b, okD_n, okD_t, okD_L, deck_at, deck_sum, deck_cells, deck_len, deck_put, dicOf_mup_same, lstOf_mup_same, int1R_b, int1R_i, ix_t0, ix_t1, ix_t2, ix_t3, ix_t4, lenR_t, lenR_s, lenR_L, slR_t, slR_s, slR_L, cutL_from1, cutL_from2, revR_t, revR_L, tup1R_L, tup1R_t, beq_self_eq_true, Bool.not_true, Bool.not_false, Option.isSome_some, List.isEmpty_nil, List.isEmpty_cons, isR_nn, isR_tn, isR_Ln, isR_sn, isR_in, isR_bn, isR_bb, isNotR_nn, isNotR_tn, isNotR_Ln, isNotR_sn, isNotR_in, isNotR_bn, isNotR_bb, isi_t_bool, isi_t_int, isi_t_str, isi_t_tuple, isi_t_list, isi_t_dict, isi_s_bool, isi_s_int, isi_s_str, isi_s_tuple, isi_s_list, isi_s_dict, isi_i_bool, isi_i_int, isi_i_str, isi_i_tuple, isi_i_list, isi_i_dict, isi_b_bool, isi_b_int, isi_b_str, isi_b_tuple, isi_b_list, isi_b_dict, isi_n_bool, isi_n_int, isi_n_str, isi_n_tuple, isi_n_list, isi_n_dict, isi_L_bool, isi_L_int, isi_L_str, isi_L_tuple, isi_L_list, isi_L_dict, isi_d_bool, isi_d_int, isi_d_str, isi_d_tuple, isi_d_list, isi_d_dict, natlit_eq, Int.reduceNeg, puts, appendR_same, lenR_same, tup1R_same, sz0, sz1, sz2, sz3, sz4, sz5, sz6, sz7, sz8, sz9, sz10, ix_L0, ix_L1, ix_L2, ix_Lbs, dep_nil, dep_cons, dep_tup, dep_lst, dep_str, dep_int, dep_bl, dep_non, dep_strs, dep_ints, dep_app, dep_rules, dep_prog, dep_st, pu_nil, pu_cons, pu_tup, pu_lst, pu_str, pu_int, pu_bl, pu_non, pu_app, pureDs_str, pureDs_int, pu_rule, pu_rules, pu_prog, pu_st, eqv_self, eqvDs_nil, Bool.and_self, Bool.and_true, Bool.true_and, List.length_map, List.length_append, Int.zero_add, Nat.zero_add, cutL_to1, cutL_to2, cutL_to3, cutL_to15, List.take_succ_cons, List.take_zero, List.take_nil, List.drop_succ_cons, List.drop_zero, List.drop_nil, max2R_ii, min2R_ii, cutL_toN, cutL_toS, cutL_fromN, cutL_fromS, List.length_take, List.length_drop, ← List.map_take, ← List.map_drop, ← List.map_append, neR_prog0, eqR_prog0, lenR_prog, rep1, List.length_replicate, Int.toNat_natCast, ofLst_L, sumLR_map, allLR_map, anyLR_map, ofString_beq, ofString_inj, String.reduceBEq, String.reduceEq, decide_true, decide_false, extA_t, extA_L, isSome_same, List.length_reverse, ← List.map_reverse]) | ((with_reducible refine And.intro ?_ ?_); focus (first | with_reducible exact small_line2 (by omega) | with_reducible exact small_lt2 (by omega) | with_reducible exact cmul_sm (by omega) (by omega) (by omega) (by omega) | with_reducible exact inLine_nat (by omega) | exact ⟨by omega, by omega⟩ | exact ⟨by omega, by omega, by simp⟩ | omega | decide)))
          refine right_go (by omega) (by omega) (by omega) hw ?_
          repeat (first | (with_reducible refine seq_go ?_) | (simp only [dNext, dBreak, dCont, dDrop, dRet, dRetN, dIfS, dAsg, dputS, dlputS, dOp, dVar, dC, dget_zero, dget_succ, dTest, isB, dNil, dCons, dgName, dTup, dCB, dFresh, dFrz, dFreshD, dFrzD, dDispD, dDisp, dBM, dBM0, dAndV, dOrV, dNotV, dAnd, dOr, dNot, dCall, dNeg, dIf, dFor, dSl, dPart, dNoPart, diRng1, diRng2, diAny, isI, dstart, List.set_cons_zero, List.set_cons_succ, List.map_cons, List.map_nil, List.length_cons, List.length_nil, List.cons_append, List.nil_append, Nat.reduceAdd, Nat.reduceSub, Int.reduceAdd, Int.reduceSub, List.replicate, isLst, dgTup, dgCons, dgNil, dListOf, dJoin, dIndex, dRev, diZip, dPar2, diEnum, dRetX, dDropX, dAsgX, dCallX, dConsX, dTupX, dFrzX, dRaise0, dRaise1, dTryAs, dTryOnly, dXf, asEnds, dLc, wipeD, dCat, dSlL, dPairs, dGet2, dGet1, isDic, ite_true, ite_false, if_true, if_false, reduceIte, Bool.false_eq_true, Bool.true_eq_false, and_true, true_and, rdL_lst, rdL_ref, rdS_lst, rdS_ref, rdS_tup, rdD_dic, rdD_ref, addR_ii, addR_ib, addR_ss, addR_tt, addR_LL, subR_ii, mulR_ii, mulA_ii, mulA_t, mulA_L, modR_ii, fdivR_ii, powR_ii, ltR_ii, leR_ii, gtR_ii, geR_ii, keyD_s, keyD_i, dgetR, eqR_ii, eqR_ss, eqR_bb, eqR_tt, eqR_LL, neR_ii, neR_ss, neR_bb, neR_tt, neR_LL, eqM_ii, eqM_ss, eqM_bb, eqM_tt, eqM_LL, okD_i, okD_s, okD_b, okD_n, okD_t, okD_L, deck_at, deck_sum, deck_cells, deck_len, deck_put, dicOf_mup_same, lstOf_mup_same, int1R_b, int1R_i, ix_t0, ix_t1, ix_t2, ix_t3, ix_t4, lenR_t, lenR_s, lenR_L, slR_t, slR_s, slR_L, cutL_from1, cutL_from2, revR_t, revR_L, tup1R_L, tup1R_t, beq_self_eq_true, Bool.not_true, Bool.not_false, Option.isSome_some, List.isEmpty_nil, List.isEmpty_cons, isR_nn, isR_tn, isR_Ln, isR_sn, isR_in, isR_bn, isR_bb, isNotR_nn, isNotR_tn, isNotR_Ln, isNotR_sn, isNotR_in, isNotR_bn, isNotR_bb, isi_t_bool, isi_t_int, isi_t_str, isi_t_tuple, isi_t_list, isi_t_dict, isi_s_bool, isi_s_int, isi_s_str, isi_s_tuple, isi_s_list, isi_s_dict, isi_i_bool, isi_i_int, isi_i_str, isi_i_tuple, isi_i_list, isi_i_dict, isi_b_bool, isi_b_int, isi_b_str, isi_b_tuple, isi_b_list, isi_b_dict, isi_n_bool, isi_n_int, isi_n_str, isi_n_tuple, isi_n_list, isi_n_dict, isi_L_bool, isi_L_int, isi_L_str, isi_L_tuple, isi_L_list, isi_L_dict, isi_d_bool, isi_d_int, isi_d_str, isi_d_tuple, isi_d_list, isi_d_dict, natlit_eq, Int.reduceNeg, puts, appendR_same, lenR_same, tup1R_same, sz0, sz1, sz2, sz3, sz4, sz5, sz6, sz7, sz8, sz9, sz10, ix_L0, ix_L1, ix_L2, ix_Lbs, dep_nil, dep_cons, dep_tup, dep_lst, dep_str, dep_int, dep_bl, dep_non, dep_strs, dep_ints, dep_app, dep_rules, dep_prog, dep_st, pu_nil, pu_cons, pu_tup, pu_lst, pu_str, pu_int, pu_bl, pu_non, pu_app, pureDs_str, pureDs_int, pu_rule, pu_rules, pu_prog, pu_st, eqv_self, eqvDs_nil, Bool.and_self, Bool.and_true, Bool.true_and, List.length_map, List.length_append, Int.zero_add, Nat.zero_add, cutL_to1, cutL_to2, cutL_to3, cutL_to15, List.take_succ_cons, List.take_zero, List.take_nil, List.drop_succ_cons, List.drop_zero, List.drop_nil, max2R_ii, min2R_ii, cutL_toN, cutL_toS, cutL_fromN, cutL_fromS, List.length_take, List.length_drop, ← List.map_take, ← List.map_drop, ← List.map_append, neR_prog0, eqR_prog0, lenR_prog, rep1, List.length_replicate, Int.toNat_natCast, ofLst_L, sumLR_map, allLR_map, anyLR_map, ofString_beq, ofString_inj, String.reduceBEq, String.reduceEq, decide_true, decide_false, extA_t, extA_L, isSome_same, List.length_reverse, ← List.map_reverse]) | ((with_reducible refine And.intro ?_ ?_); focus (first | with_reducible exact small_line2 (by omega) | with_reducible exact small_lt2 (by omega) | with_reducible exact cmul_sm (by omega) (by omega) (by omega) (by omega) | with_reducible exact inLine_nat (by omega) | exact ⟨by omega, by omega⟩ | exact ⟨by omega, by omega, by simp⟩ | omega | decide)))
          exact hN'' _ _ _ rfl ⟨_, rfl, b10.mono (by omega)⟩
        · obtain ⟨x10, rfl, b9⟩ := hI
          exact hN' _ _ _ rfl ⟨_, _, _, _, _, rfl, b9.mono (by omega)⟩
  · obtain ⟨x6, x7, x8, x9, x10, rfl, b3⟩ := hI
    have hp1 := List.length_pos_iff.mpr hp
    have hm1 := List.length_pos_iff.mpr hm
    repeat (first | (with_reducible refine sq_asg ?_) | (with_reducible refine sq_drop ?_) | (with_reducible refine sq_for ?_) | (with_reducible refine sq_while ?_) | (with_reducible refine sq_dput ?_) | (with_reducible refine sq_lput ?_) | (with_reducible refine sq_par2 ?_) | (with_reducible refine sq_asgX ?_) | (with_reducible refine sq_dropX ?_) | (simp only [dNext, dBreak, dCont, dDrop, dRet, dRetN, dIfS, dAsg, dputS, dlputS, dOp, dVar, dC, dget_zero, dget_succ, dTest, isB, dNil, dCons, dgName, dTup, dCB, dFresh, dFrz, dFreshD, dFrzD, dDispD, dDisp, dBM, dBM0, dAndV, dOrV, dNotV, dAnd, dOr, dNot, dCall, dNeg, dIf, dFor, dSl, dPart, dNoPart, diRng1, diRng2, diAny, isI, dstart, List.set_cons_zero, List.set_cons_succ, List.map_cons, List.map_nil, List.length_cons, List.length_nil, List.cons_append, List.nil_append, Nat.reduceAdd, Nat.reduceSub, Int.reduceAdd, Int.reduceSub, List.replicate, isLst, dgTup, dgCons, dgNil, dListOf, dJoin, dIndex, dRev, diZip, dPar2, diEnum, dRetX, dDropX, dAsgX, dCallX, dConsX, dTupX, dFrzX, dRaise0, dRaise1, dTryAs, dTryOnly, dXf, asEnds, dLc, wipeD, dCat, dSlL, dPairs, dGet2, dGet1, isDic, ite_true, ite_false, if_true, if_false, reduceIte, Bool.false_eq_true, Bool.true_eq_false, and_true, true_and, rdL_lst, rdL_ref, rdS_lst, rdS_ref, rdS_tup, rdD_dic, rdD_ref, addR_ii, addR_ib, addR_ss, addR_tt, addR_LL, subR_ii, mulR_ii, mulA_ii, mulA_t, mulA_L, modR_ii, fdivR_ii, powR_ii, ltR_ii, leR_ii, gtR_ii, geR_ii, keyD_s, keyD_i, dgetR, eqR_ii, eqR_ss, eqR_bb, eqR_tt, eqR_LL, neR_ii, neR_ss, neR_bb, neR_tt, neR_LL, eqM_ii, eqM_ss, eqM_bb, eqM_tt, eqM_LL, okD_i, okD_s, okD_b, okD_n, okD_t, okD_L, deck_at, deck_sum, deck_cells, deck_len, deck_put, dicOf_mup_same, lstOf_mup_same, int1R_b, int1R_i, ix_t0, ix_t1, ix_t2, ix_t3, ix_t4, lenR_t, lenR_s, lenR_L, slR_t, slR_s, slR_L, cutL_from1, cutL_from2, revR_t, revR_L, tup1R_L, tup1R_t, beq_self_eq_true, Bool.not_true, Bool.not_false, Option.isSome_some, List.isEmpty_nil, List.isEmpty_cons, isR_nn, isR_tn, isR_Ln, isR_sn, isR_in, isR_bn, isR_bb, isNotR_nn, isNotR_tn, isNotR_Ln, isNotR_sn, isNotR_in, isNotR_bn, isNotR_bb, isi_t_bool, isi_t_int, isi_t_str, isi_t_tuple, isi_t_list, isi_t_dict, isi_s_bool, isi_s_int, isi_s_str, isi_s_tuple, isi_s_list, isi_s_dict, isi_i_bool, isi_i_int, isi_i_str, isi_i_tuple, isi_i_list, isi_i_dict, isi_b_bool, isi_b_int, isi_b_str, isi_b_tuple, isi_b_list, isi_b_dict, isi_n_bool, isi_n_int, isi_n_str, isi_n_tuple, isi_n_list, isi_n_dict, isi_L_bool, isi_L_int, isi_L_str, isi_L_tuple, isi_L_list, isi_L_dict, isi_d_bool, isi_d_int, isi_d_str, isi_d_tuple, isi_d_list, isi_d_dict, natlit_eq, Int.reduceNeg, puts, appendR_same, lenR_same, tup1R_same, sz0, sz1, sz2, sz3, sz4, sz5, sz6, sz7, sz8, sz9, sz10, ix_L0, ix_L1, ix_L2, ix_Lbs, dep_nil, dep_cons, dep_tup, dep_lst, dep_str, dep_int, dep_bl, dep_non, dep_strs, dep_ints, dep_app, dep_rules, dep_prog, dep_st, pu_nil, pu_cons, pu_tup, pu_lst, pu_str, pu_int, pu_bl, pu_non, pu_app, pureDs_str, pureDs_int, pu_rule, pu_rules, pu_prog, pu_st, eqv_self, eqvDs_nil, Bool.and_self, Bool.and_true, Bool.true_and, List.length_map, List.length_append, Int.zero_add, Nat.zero_add, cutL_to1, cutL_to2, cutL_to3, cutL_to15, List.take_succ_cons, List.take_zero, List.take_nil, List.drop_succ_cons, List.drop_zero, List.drop_nil, max2R_ii, min2R_ii, cutL_toN, cutL_toS, cutL_fromN, cutL_fromS, List.length_take, List.length_drop, ← List.map_take, ← List.map_drop, ← List.map_append, neR_prog0, eqR_prog0, lenR_prog, rep1, List.length_replicate, Int.toNat_natCast, ofLst_L, sumLR_map, allLR_map, anyLR_map, ofString_beq, ofString_inj, String.reduceBEq, String.reduceEq, decide_true, decide_false, extA_t, extA_L, isSome_same, List.length_reverse, ← List.map_reverse]) | ((with_reducible refine And.intro ?_ ?_); focus (first | with_reducible exact small_line2 (by omega) | with_reducible exact small_lt2 (by omega) | with_reducible exact cmul_sm (by omega) (by omega) (by omega) (by omega) | with_reducible exact inLine_nat (by omega) | exact ⟨by omega, by omega⟩ | exact ⟨by omega, by omega, by simp⟩ | omega | decide)))
    refine ix_mapL (by omega) (by omega) fun p0 mp0 => ?_
    refine ix_mapL (by omega) (by omega) fun m0 mm0 => ?_
    repeat (first | (with_reducible refine sq_asg ?_) | (with_reducible refine sq_drop ?_) | (with_reducible refine sq_for ?_) | (with_reducible refine sq_while ?_) | (with_reducible refine sq_dput ?_) | (with_reducible refine sq_lput ?_) | (with_reducible refine sq_par2 ?_) | (with_reducible refine sq_asgX ?_) | (with_reducible refine sq_dropX ?_) | (simp only [dNext, dBreak, dCont, dDrop, dRet, dRetN, dIfS, dAsg, dputS, dlputS, dOp, dVar, dC, dget_zero, dget_succ, dTest, isB, dNil, dCons, dgName, dTup, dCB, dFresh, dFrz, dFreshD, dFrzD, dDispD, dDisp, dBM, dBM0, dAndV, dOrV, dNotV, dAnd, dOr, dNot, dCall, dNeg, dIf, dFor, dSl, dPart, dNoPart, diRng1, diRng2, diAny, isI, dstart, List.set_cons_zero, List.set_cons_succ, List.map_cons, List.map_nil, List.length_cons, List.length_nil, List.cons_append, List.nil_append, Nat.reduceAdd, Nat.reduceSub, Int.reduceAdd, Int.reduceSub, List.replicate, isLst, dgTup, dgCons, dgNil, dListOf, dJoin, dIndex, dRev, diZip, dPar2, diEnum, dRetX, dDropX, dAsgX, dCallX, dConsX, dTupX, dFrzX, dRaise0, dRaise1, dTryAs, dTryOnly, dXf, asEnds, dLc, wipeD, dCat, dSlL, dPairs, dGet2, dGet1, isDic, ite_true, ite_false, if_true, if_false, reduceIte, Bool.false_eq_true, Bool.true_eq_false, and_true, true_and, rdL_lst, rdL_ref, rdS_lst, rdS_ref, rdS_tup, rdD_dic, rdD_ref, addR_ii, addR_ib, addR_ss, addR_tt, addR_LL, subR_ii, mulR_ii, mulA_ii, mulA_t, mulA_L, modR_ii, fdivR_ii, powR_ii, ltR_ii, leR_ii, gtR_ii, geR_ii, keyD_s, keyD_i, dgetR, eqR_ii, eqR_ss, eqR_bb, eqR_tt, eqR_LL, neR_ii, neR_ss, neR_bb, neR_tt, neR_LL, eqM_ii, eqM_ss, eqM_bb, eqM_tt, eqM_LL, okD_i, okD_s, okD_b, okD_n, okD_t, okD_L, deck_at, deck_sum, deck_cells, deck_len, deck_put, dicOf_mup_same, lstOf_mup_same, int1R_b, int1R_i, ix_t0, ix_t1, ix_t2, ix_t3, ix_t4, lenR_t, lenR_s, lenR_L, slR_t, slR_s, slR_L, cutL_from1, cutL_from2, revR_t, revR_L, tup1R_L, tup1R_t, beq_self_eq_true, Bool.not_true, Bool.not_false, Option.isSome_some, List.isEmpty_nil, List.isEmpty_cons, isR_nn, isR_tn, isR_Ln, isR_sn, isR_in, isR_bn, isR_bb, isNotR_nn, isNotR_tn, isNotR_Ln, isNotR_sn, isNotR_in, isNotR_bn, isNotR_bb, isi_t_bool, isi_t_int, isi_t_str, isi_t_tuple, isi_t_list, isi_t_dict, isi_s_bool, isi_s_int, isi_s_str, isi_s_tuple, isi_s_list, isi_s_dict, isi_i_bool, isi_i_int, isi_i_str, isi_i_tuple, isi_i_list, isi_i_dict, isi_b_bool, isi_b_int, isi_b_str, isi_b_tuple, isi_b_list, isi_b_dict, isi_n_bool, isi_n_int, isi_n_str, isi_n_tuple, isi_n_list, isi_n_dict, isi_L_bool, isi_L_int, isi_L_str, isi_L_tuple, isi_L_list, isi_L_dict, isi_d_bool, isi_d_int, isi_d_str, isi_d_tuple, isi_d_list, isi_d_dict, natlit_eq, Int.reduceNeg, puts, appendR_same, lenR_same, tup1R_same, sz0, sz1, sz2, sz3, sz4, sz5, sz6, sz7, sz8, sz9, sz10, ix_L0, ix_L1, ix_L2, ix_Lbs, dep_nil, dep_cons, dep_tup, dep_lst, dep_str, dep_int, dep_bl, dep_non, dep_strs, dep_ints, dep_app, dep_rules, dep_prog, dep_st, pu_nil, pu_cons, pu_tup, pu_lst, pu_str, pu_int, pu_bl, pu_non, pu_app, pureDs_str, pureDs_int, pu_rule, pu_rules, pu_prog, pu_st, eqv_self, eqvDs_nil, Bool.and_self, Bool.and_true, Bool.true_and, List.length_map, List.length_append, Int.zero_add, Nat.zero_add, cutL_to1, cutL_to2, cutL_to3, cutL_to15, List.take_succ_cons, List.take_zero, List.take_nil, List.drop_succ_cons, List.drop_zero, List.drop_nil, max2R_ii, min2R_ii, cutL_toN, cutL_toS, cutL_fromN, cutL_fromS, List.length_take, List.length_drop, ← List.map_take, ← List.map_drop, ← List.map_append, neR_prog0, eqR_prog0, lenR_prog, rep1, List.length_replicate, Int.toNat_natCast, ofLst_L, sumLR_map, allLR_map, anyLR_map, ofString_beq, ofString_inj, String.reduceBEq, String.reduceEq, decide_true, decide_false, extA_t, extA_L, isSome_same, List.length_reverse, ← List.map_reverse]) | ((with_reducible refine And.intro ?_ ?_); focus (first | with_reducible exact small_line2 (by omega) | with_reducible exact small_lt2 (by omega) | with_reducible exact cmul_sm (by omega) (by omega) (by omega) (by omega) | with_reducible exact inLine_nat (by omega) | exact ⟨by omega, by omega⟩ | exact ⟨by omega, by omega, by simp⟩ | omega | decide)))
    refine draw_B b3 (by omega) (by omega) (by omega) fun u M4 u0 u1 b4 => ?_
    refine draw_B b4 (by omega) (by omega) (by omega) fun v M5 v0 v1 b5 => ?_
    obtain ⟨lo, hlo, hl1, hl2⟩ := long_nat u0 u1 v0 v1
    repeat (first | (with_reducible refine sq_asg ?_) | (with_reducible refine sq_drop ?_) | (with_reducible refine sq_for ?_) | (with_reducible refine sq_while ?_) | (with_reducible refine sq_dput ?_) | (with_reducible refine sq_lput ?_) | (with_reducible refine sq_par2 ?_) | (with_reducible refine sq_asgX ?_) | (with_reducible refine sq_dropX ?_) | (simp only [dNext, dBreak, dCont, dDrop, dRet, dRetN, dIfS, dAsg, dputS, dlputS, dOp, dVar, dC, dget_zero, dget_succ, dTest, isB, dNil, dCons, dgName, dTup, dCB, dFresh, dFrz, dFreshD, dFrzD, dDispD, dDisp, dBM, dBM0, dAndV, dOrV, dNotV, dAnd, dOr, dNot, dCall, dNeg, dIf, dFor, dSl, dPart, dNoPart, diRng1, diRng2, diAny, isI, dstart, List.set_cons_zero, List.set_cons_succ, List.map_cons, List.map_nil, List.length_cons, List.length_nil, List.cons_append, List.nil_append, Nat.reduceAdd, Nat.reduceSub, Int.reduceAdd, Int.reduceSub, List.replicate, isLst, dgTup, dgCons, dgNil, dListOf, dJoin, dIndex, dRev, diZip, dPar2, diEnum, dRetX, dDropX, dAsgX, dCallX, dConsX, dTupX, dFrzX, dRaise0, dRaise1, dTryAs, dTryOnly, dXf, asEnds, dLc, wipeD, dCat, dSlL, dPairs, dGet2, dGet1, isDic, ite_true, ite_false, if_true, if_false, reduceIte, Bool.false_eq_true, Bool.true_eq_false, and_true, true_and, rdL_lst, rdL_ref, rdS_lst, rdS_ref, rdS_tup, rdD_dic, rdD_ref, addR_ii, addR_ib, addR_ss, addR_tt, addR_LL, subR_ii, mulR_ii, mulA_ii, mulA_t, mulA_L, modR_ii, fdivR_ii, powR_ii, ltR_ii, leR_ii, gtR_ii, geR_ii, keyD_s, keyD_i, dgetR, eqR_ii, eqR_ss, eqR_bb, eqR_tt, eqR_LL, neR_ii, neR_ss, neR_bb, neR_tt, neR_LL, eqM_ii, eqM_ss, eqM_bb, eqM_tt, eqM_LL, okD_i, okD_s, okD_b, okD_n, okD_t, okD_L, deck_at, deck_sum, deck_cells, deck_len, deck_put, dicOf_mup_same, lstOf_mup_same, int1R_b, int1R_i, ix_t0, ix_t1, ix_t2, ix_t3, ix_t4, lenR_t, lenR_s, lenR_L, slR_t, slR_s, slR_L, cutL_from1, cutL_from2, revR_t, revR_L, tup1R_L, tup1R_t, beq_self_eq_true, Bool.not_true, Bool.not_false, Option.isSome_some, List.isEmpty_nil, List.isEmpty_cons, isR_nn, isR_tn, isR_Ln, isR_sn, isR_in, isR_bn, isR_bb, isNotR_nn, isNotR_tn, isNotR_Ln, isNotR_sn, isNotR_in, isNotR_bn, isNotR_bb, isi_t_bool, isi_t_int, isi_t_str, isi_t_tuple, isi_t_list, isi_t_dict, isi_s_bool, isi_s_int, isi_s_str, isi_s_tuple, isi_s_list, isi_s_dict, isi_i_bool, isi_i_int, isi_i_str, isi_i_tuple, isi_i_list, isi_i_dict, isi_b_bool, isi_b_int, isi_b_str, isi_b_tuple, isi_b_list, isi_b_dict, isi_n_bool, isi_n_int, isi_n_str, isi_n_tuple, isi_n_list, isi_n_dict, isi_L_bool, isi_L_int, isi_L_str, isi_L_tuple, isi_L_list, isi_L_dict, isi_d_bool, isi_d_int, isi_d_str, isi_d_tuple, isi_d_list, isi_d_dict, natlit_eq, Int.reduceNeg, puts, appendR_same, lenR_same, tup1R_same, sz0, sz1, sz2, sz3, sz4, sz5, sz6, sz7, sz8, sz9, sz10, ix_L0, ix_L1, ix_L2, ix_Lbs, dep_nil, dep_cons, dep_tup, dep_lst, dep_str, dep_int, dep_bl, dep_non, dep_strs, dep_ints, dep_app, dep_rules, dep_prog, dep_st, pu_nil, pu_cons, pu_tup, pu_lst, pu_str, pu_int, pu_bl, pu_non, pu_app, pureDs_str, pureDs_int, pu_rule, pu_rules, pu_prog, pu_st, eqv_self, eqvDs_nil, Bool.and_self, Bool.and_true, Bool.true_and, List.length_map, List.length_append, Int.zero_add, Nat.zero_add, cutL_to1, cutL_to2, cutL_to3, cutL_to15, List.take_succ_cons, List.take_zero, List.take_nil, List.drop_succ_cons, List.drop_zero, List.drop_nil, max2R_ii, min2R_ii, cutL_toN, cutL_toS, cutL_fromN, cutL_fromS, List.length_take, List.length_drop, ← List.map_take, ← List.map_drop, ← List.map_append, neR_prog0, eqR_prog0, lenR_prog, rep1, List.length_replicate, Int.toNat_natCast, ofLst_L, sumLR_map, allLR_map, anyLR_map, ofString_beq, ofString_inj, String.reduceBEq, String.reduceEq, decide_true, decide_false, extA_t, extA_L, isSome_same, List.length_reverse, ← List.map_reverse]) | ((with_reducible refine And.intro ?_ ?_); focus (first | with_reducible exact small_line2 (by omega) | with_reducible exact small_lt2 (by omega) | with_reducible exact cmul_sm (by omega) (by omega) (by omega) (by omega) | with_reducible exact inLine_nat (by omega) | exact ⟨by omega, by omega⟩ | exact ⟨by omega, by omega, by simp⟩ | omega | decide)))
    generalize 1000 - u * v = z at hlo ⊢
    subst hlo
    refine ix_mapLl hp fun pl mpl => ?_
    repeat (first | (with_reducible refine sq_asg ?_) | (with_reducible refine sq_drop ?_) | (with_reducible refine sq_for ?_) | (with_reducible refine sq_while ?_) | (with_reducible refine sq_dput ?_) | (with_reducible refine sq_lput ?_) | (with_reducible refine sq_par2 ?_) | (with_reducible refine sq_asgX ?_) | (with_reducible refine sq_dropX ?_) | (simp only [dNext, dBreak, dCont, dDrop, dRet, dRetN, dIfS, dAsg, dputS, dlputS, dOp, dVar, dC, dget_zero, dget_succ, dTest, isB, dNil, dCons, dgName, dTup, dCB, dFresh, dFrz, dFreshD, dFrzD, dDispD, dDisp, dBM, dBM0, dAndV, dOrV, dNotV, dAnd, dOr, dNot, dCall, dNeg, dIf, dFor, dSl, dPart, dNoPart, diRng1, diRng2, diAny, isI, dstart, List.set_cons_zero, List.set_cons_succ, List.map_cons, List.map_nil, List.length_cons, List.length_nil, List.cons_append, List.nil_append, Nat.reduceAdd, Nat.reduceSub, Int.reduceAdd, Int.reduceSub, List.replicate, isLst, dgTup, dgCons, dgNil, dListOf, dJoin, dIndex, dRev, diZip, dPar2, diEnum, dRetX, dDropX, dAsgX, dCallX, dConsX, dTupX, dFrzX, dRaise0, dRaise1, dTryAs, dTryOnly, dXf, asEnds, dLc, wipeD, dCat, dSlL, dPairs, dGet2, dGet1, isDic, ite_true, ite_false, if_true, if_false, reduceIte, Bool.false_eq_true, Bool.true_eq_false, and_true, true_and, rdL_lst, rdL_ref, rdS_lst, rdS_ref, rdS_tup, rdD_dic, rdD_ref, addR_ii, addR_ib, addR_ss, addR_tt, addR_LL, subR_ii, mulR_ii, mulA_ii, mulA_t, mulA_L, modR_ii, fdivR_ii, powR_ii, ltR_ii, leR_ii, gtR_ii, geR_ii, keyD_s, keyD_i, dgetR, eqR_ii, eqR_ss, eqR_bb, eqR_tt, eqR_LL, neR_ii, neR_ss, neR_bb, neR_tt, neR_LL, eqM_ii, eqM_ss, eqM_bb, eqM_tt, eqM_LL, okD_i, okD_s, okD_b, okD_n, okD_t, okD_L, deck_at, deck_sum, deck_cells, deck_len, deck_put, dicOf_mup_same, lstOf_mup_same, int1R_b, int1R_i, ix_t0, ix_t1, ix_t2, ix_t3, ix_t4, lenR_t, lenR_s, lenR_L, slR_t, slR_s, slR_L, cutL_from1, cutL_from2, revR_t, revR_L, tup1R_L, tup1R_t, beq_self_eq_true, Bool.not_true, Bool.not_false, Option.isSome_some, List.isEmpty_nil, List.isEmpty_cons, isR_nn, isR_tn, isR_Ln, isR_sn, isR_in, isR_bn, isR_bb, isNotR_nn, isNotR_tn, isNotR_Ln, isNotR_sn, isNotR_in, isNotR_bn, isNotR_bb, isi_t_bool, isi_t_int, isi_t_str, isi_t_tuple, isi_t_list, isi_t_dict, isi_s_bool, isi_s_int, isi_s_str, isi_s_tuple, isi_s_list, isi_s_dict, isi_i_bool, isi_i_int, isi_i_str, isi_i_tuple, isi_i_list, isi_i_dict, isi_b_bool, isi_b_int, isi_b_str, isi_b_tuple, isi_b_list, isi_b_dict, isi_n_bool, isi_n_int, isi_n_str, isi_n_tuple, isi_n_list, isi_n_dict, isi_L_bool, isi_L_int, isi_L_str, isi_L_tuple, isi_L_list, isi_L_dict, isi_d_bool, isi_d_int, isi_d_str, isi_d_tuple, isi_d_list, isi_d_dict, natlit_eq, Int.reduceNeg, puts, appendR_same, lenR_same, tup1R_same, sz0, sz1, sz2, sz3, sz4, sz5, sz6, sz7, sz8, sz9, sz10, ix_L0, ix_L1, ix_L2, ix_Lbs, dep_nil, dep_cons, dep_tup, dep_lst, dep_str, dep_int, dep_bl, dep_non, dep_strs, dep_ints, dep_app, dep_rules, dep_prog, dep_st, pu_nil, pu_cons, pu_tup, pu_lst, pu_str, pu_int, pu_bl, pu_non, pu_app, pureDs_str, pureDs_int, pu_rule, pu_rules, pu_prog, pu_st, eqv_self, eqvDs_nil, Bool.and_self, Bool.and_true, Bool.true_and, List.length_map, List.length_append, Int.zero_add, Nat.zero_add, cutL_to1, cutL_to2, cutL_to3, cutL_to15, List.take_succ_cons, List.take_zero, List.take_nil, List.drop_succ_cons, List.drop_zero, List.drop_nil, max2R_ii, min2R_ii, cutL_toN, cutL_toS, cutL_fromN, cutL_fromS, List.length_take, List.length_drop, ← List.map_take, ← List.map_drop, ← List.map_append, neR_prog0, eqR_prog0, lenR_prog, rep1, List.length_replicate, Int.toNat_natCast, ofLst_L, sumLR_map, allLR_map, anyLR_map, ofString_beq, ofString_inj, String.reduceBEq, String.reduceEq, decide_true, decide_false, extA_t, extA_L, isSome_same, List.length_reverse, ← List.map_reverse]) | ((with_reducible refine And.intro ?_ ?_); focus (first | with_reducible exact small_line2 (by omega) | with_reducible exact small_lt2 (by omega) | with_reducible exact cmul_sm (by omega) (by omega) (by omega) (by omega) | with_reducible exact inLine_nat (by omega) | exact ⟨by omega, by omega⟩ | exact ⟨by omega, by omega, by simp⟩ | omega | decide)))
    refine draw_B b5 (by omega) (by omega) (by omega) fun w M6 w0 w1 b6 => ?_
    repeat (first | (with_reducible refine sq_asg ?_) | (with_reducible refine sq_drop ?_) | (with_reducible refine sq_for ?_) | (with_reducible refine sq_while ?_) | (with_reducible refine sq_dput ?_) | (with_reducible refine sq_lput ?_) | (with_reducible refine sq_par2 ?_) | (with_reducible refine sq_asgX ?_) | (with_reducible refine sq_dropX ?_) | (simp only [dNext, dBreak, dCont, dDrop, dRet, dRetN, dIfS, dAsg, dputS, dlputS, dOp, dVar, dC, dget_zero, dget_succ, dTest, isB, dNil, dCons, dgName, dTup, dCB, dFresh, dFrz, dFreshD, dFrzD, dDispD, dDisp, dBM, dBM0, dAndV, dOrV, dNotV, dAnd, dOr, dNot, dCall, dNeg, dIf, dFor, dSl, dPart, dNoPart, diRng1, diRng2, diAny, isI, dstart, List.set_cons_zero, List.set_cons_succ, List.map_cons, List.map_nil, List.length_cons, List.length_nil, List.cons_append, List.nil_append, Nat.reduceAdd, Nat.reduceSub, Int.reduceAdd, Int.reduceSub, List.replicate, isLst, dgTup, dgCons, dgNil, dListOf, dJoin, dIndex, dRev, diZip, dPar2, diEnum, dRetX, dDropX, dAsgX, dCallX, dConsX, dTupX, dFrzX, dRaise0, dRaise1, dTryAs, dTryOnly, dXf, asEnds, dLc, wipeD, dCat, dSlL, dPairs, dGet2, dGet1, isDic, ite_true, ite_false, if_true, if_false, reduceIte, Bool.false_eq_true, Bool.true_eq_false, and_true, true_and, rdL_lst, rdL_ref, rdS_lst, rdS_ref, rdS_tup, rdD_dic, rdD_ref, addR_ii, addR_ib, addR_ss, addR_tt, addR_LL, subR_ii, mulR_ii, mulA_ii, mulA_t, mulA_L, modR_ii, fdivR_ii, powR_ii, ltR_ii, leR_ii, gtR_ii, geR_ii, keyD_s, keyD_i, dgetR, eqR_ii, eqR_ss, eqR_bb, eqR_tt, eqR_LL, neR_ii, neR_ss, neR_bb, neR_tt, neR_LL, eqM_ii, eqM_ss, eqM_bb, eqM_tt, eqM_LL, okD_i, okD_s, okD_b, okD_n, okD_t, okD_L, deck_at, deck_sum, deck_cells, deck_len, deck_put, dicOf_mup_same, lstOf_mup_same, int1R_b, int1R_i, ix_t0, ix_t1, ix_t2, ix_t3, ix_t4, lenR_t, lenR_s, lenR_L, slR_t, slR_s, slR_L, cutL_from1, cutL_from2, revR_t, revR_L, tup1R_L, tup1R_t, beq_self_eq_true, Bool.not_true, Bool.not_false, Option.isSome_some, List.isEmpty_nil, List.isEmpty_cons, isR_nn, isR_tn, isR_Ln, isR_sn, isR_in, isR_bn, isR_bb, isNotR_nn, isNotR_tn, isNotR_Ln, isNotR_sn, isNotR_in, isNotR_bn, isNotR_bb, isi_t_bool, isi_t_int, isi_t_str, isi_t_tuple, isi_t_list, isi_t_dict, isi_s_bool, isi_s_int, isi_s_str, isi_s_tuple, isi_s_list, isi_s_dict, isi_i_bool, isi_i_int, isi_i_str, isi_i_tuple, isi_i_list, isi_i_dict, isi_b_bool, isi_b_int, isi_b_str, isi_b_tuple, isi_b_list, isi_b_dict, isi_n_bool, isi_n_int, isi_n_str, isi_n_tuple, isi_n_list, isi_n_dict, isi_L_bool, isi_L_int, isi_L_str, isi_L_tuple, isi_L_list, isi_L_dict, isi_d_bool, isi_d_int, isi_d_str, isi_d_tuple, isi_d_list, isi_d_dict, natlit_eq, Int.reduceNeg, puts, appendR_same, lenR_same, tup1R_same, sz0, sz1, sz2, sz3, sz4, sz5, sz6, sz7, sz8, sz9, sz10, ix_L0, ix_L1, ix_L2, ix_Lbs, dep_nil, dep_cons, dep_tup, dep_lst, dep_str, dep_int, dep_bl, dep_non, dep_strs, dep_ints, dep_app, dep_rules, dep_prog, dep_st, pu_nil, pu_cons, pu_tup, pu_lst, pu_str, pu_int, pu_bl, pu_non, pu_app, pureDs_str, pureDs_int, pu_rule, pu_rules, pu_prog, pu_st, eqv_self, eqvDs_nil, Bool.and_self, Bool.and_true, Bool.true_and, List.length_map, List.length_append, Int.zero_add, Nat.zero_add, cutL_to1, cutL_to2, cutL_to3, cutL_to15, List.take_succ_cons, List.take_zero, List.take_nil, List.drop_succ_cons, List.drop_zero, List.drop_nil, max2R_ii, min2R_ii, cutL_toN, cutL_toS, cutL_fromN, cutL_fromS, List.length_take, List.length_drop, ← List.map_take, ← List.map_drop, ← List.map_append, neR_prog0, eqR_prog0, lenR_prog, rep1, List.length_replicate, Int.toNat_natCast, ofLst_L, sumLR_map, allLR_map, anyLR_map, ofString_beq, ofString_inj, String.reduceBEq, String.reduceEq, decide_true, decide_false, extA_t, extA_L, isSome_same, List.length_reverse, ← List.map_reverse]) | ((with_reducible refine And.intro ?_ ?_); focus (first | with_reducible exact small_line2 (by omega) | with_reducible exact small_lt2 (by omega) | with_reducible exact cmul_sm (by omega) (by omega) (by omega) (by omega) | with_reducible exact inLine_nat (by omega) | exact ⟨by omega, by omega⟩ | exact ⟨by omega, by omega, by simp⟩ | omega | decide)))
    rw [show (lo : Int) - 1 = ((lo - 1 : Nat) : Int) by omega]
    repeat (first | (with_reducible refine sq_asg ?_) | (with_reducible refine sq_drop ?_) | (with_reducible refine sq_for ?_) | (with_reducible refine sq_while ?_) | (with_reducible refine sq_dput ?_) | (with_reducible refine sq_lput ?_) | (with_reducible refine sq_par2 ?_) | (with_reducible refine sq_asgX ?_) | (with_reducible refine sq_dropX ?_) | (simp only [dNext, dBreak, dCont, dDrop, dRet, dRetN, dIfS, dAsg, dputS, dlputS, dOp, dVar, dC, dget_zero, dget_succ, dTest, isB, dNil, dCons, dgName, dTup, dCB, dFresh, dFrz, dFreshD, dFrzD, dDispD, dDisp, dBM, dBM0, dAndV, dOrV, dNotV, dAnd, dOr, dNot, dCall, dNeg, dIf, dFor, dSl, dPart, dNoPart, diRng1, diRng2, diAny, isI, dstart, List.set_cons_zero, List.set_cons_succ, List.map_cons, List.map_nil, List.length_cons, List.length_nil, List.cons_append, List.nil_append, Nat.reduceAdd, Nat.reduceSub, Int.reduceAdd, Int.reduceSub, List.replicate, isLst, dgTup, dgCons, dgNil, dListOf, dJoin, dIndex, dRev, diZip, dPar2, diEnum, dRetX, dDropX, dAsgX, dCallX, dConsX, dTupX, dFrzX, dRaise0, dRaise1, dTryAs, dTryOnly, dXf, asEnds, dLc, wipeD, dCat, dSlL, dPairs, dGet2, dGet1, isDic, ite_true, ite_false, if_true, if_false, reduceIte, Bool.false_eq_true, Bool.true_eq_false, and_true, true_and, rdL_lst, rdL_ref, rdS_lst, rdS_ref, rdS_tup, rdD_dic, rdD_ref, addR_ii, addR_ib, addR_ss, addR_tt, addR_LL, subR_ii, mulR_ii, mulA_ii, mulA_t, mulA_L, modR_ii, fdivR_ii, powR_ii, ltR_ii, leR_ii, gtR_ii, geR_ii, keyD_s, keyD_i, dgetR, eqR_ii, eqR_ss, eqR_bb, eqR_tt, eqR_LL, neR_ii, neR_ss, neR_bb, neR_tt, neR_LL, eqM_ii, eqM_ss, eqM_bb, eqM_tt, eqM_LL, okD_i, okD_s, okD_b, okD_n, okD_t, okD_L, deck_at, deck_sum, deck_cells, deck_len, deck_put, dicOf_mup_same, lstOf_mup_same, int1R_b, int1R_i, ix_t0, ix_t1, ix_t2, ix_t3, ix_t4, lenR_t, lenR_s, lenR_L, slR_t, slR_s, slR_L, cutL_from1, cutL_from2, revR_t, revR_L, tup1R_L, tup1R_t, beq_self_eq_true, Bool.not_true, Bool.not_false, Option.isSome_some, List.isEmpty_nil, List.isEmpty_cons, isR_nn, isR_tn, isR_Ln, isR_sn, isR_in, isR_bn, isR_bb, isNotR_nn, isNotR_tn, isNotR_Ln, isNotR_sn, isNotR_in, isNotR_bn, isNotR_bb, isi_t_bool, isi_t_int, isi_t_str, isi_t_tuple, isi_t_list, isi_t_dict, isi_s_bool, isi_s_int, isi_s_str, isi_s_tuple, isi_s_list, isi_s_dict, isi_i_bool, isi_i_int, isi_i_str, isi_i_tuple, isi_i_list, isi_i_dict, isi_b_bool, isi_b_int, isi_b_str, isi_b_tuple, isi_b_list, isi_b_dict, isi_n_bool, isi_n_int, isi_n_str, isi_n_tuple, isi_n_list, isi_n_dict, isi_L_bool, isi_L_int, isi_L_str, isi_L_tuple, isi_L_list, isi_L_dict, isi_d_bool, isi_d_int, isi_d_str, isi_d_tuple, isi_d_list, isi_d_dict, natlit_eq, Int.reduceNeg, puts, appendR_same, lenR_same, tup1R_same, sz0, sz1, sz2, sz3, sz4, sz5, sz6, sz7, sz8, sz9, sz10, ix_L0, ix_L1, ix_L2, ix_Lbs, dep_nil, dep_cons, dep_tup, dep_lst, dep_str, dep_int, dep_bl, dep_non, dep_strs, dep_ints, dep_app, dep_rules, dep_prog, dep_st, pu_nil, pu_cons, pu_tup, pu_lst, pu_str, pu_int, pu_bl, pu_non, pu_app, pureDs_str, pureDs_int, pu_rule, pu_rules, pu_prog, pu_st, eqv_self, eqvDs_nil, Bool.and_self, Bool.and_true, Bool.true_and, List.length_map, List.length_append, Int.zero_add, Nat.zero_add, cutL_to1, cutL_to2, cutL_to3, cutL_to15, List.take_succ_cons, List.take_zero, List.take_nil, List.drop_succ_cons, List.drop_zero, List.drop_nil, max2R_ii, min2R_ii, cutL_toN, cutL_toS, cutL_fromN, cutL_fromS, List.length_take, List.length_drop, ← List.map_take, ← List.map_drop, ← List.map_append, neR_prog0, eqR_prog0, lenR_prog, rep1, List.length_replicate, Int.toNat_natCast, ofLst_L, sumLR_map, allLR_map, anyLR_map, ofString_beq, ofString_inj, String.reduceBEq, String.reduceEq, decide_true, decide_false, extA_t, extA_L, isSome_same, List.length_reverse, ← List.map_reverse]) | ((with_reducible refine And.intro ?_ ?_); focus (first | with_reducible exact small_line2 (by omega) | with_reducible exact small_lt2 (by omega) | with_reducible exact cmul_sm (by omega) (by omega) (by omega) (by omega) | with_reducible exact inLine_nat (by omega) | exact ⟨by omega, by omega⟩ | exact ⟨by omega, by omega, by simp⟩ | omega | decide)))
    obtain ⟨rl, hrl⟩ : ∃ rl : List Rl, rl = [⟨p0, m0, p0, [m0]⟩, ⟨p0, m0, pl, []⟩] := ⟨_, rfl⟩
    have hrl2 : ∀ r ∈ rl, r.w.length ≤ 2 := by
      intro r hr
      rw [hrl] at hr
      simp only [List.mem_cons, List.not_mem_nil, or_false] at hr
      rcases hr with rfl | rfl <;> simp
    have hrll : rl.length = 2 := by rw [hrl]; rfl
    rw [show D.tup [D.tup [D.str p0, D.str m0, D.str p0, D.tup [D.str m0]], D.tup [D.str p0, D.str m0, D.str pl, D.tup []]] = progD rl by rw [hrl]; rfl]
    rw [show List.replicate (1 + w).toNat (D.str m0) = (List.replicate (1 + w).toNat m0).map D.str by simp]
    refine forK [9] (fun vs M' => ∃ x9, vs = [x9]) (fun _ _ _ => trivial) (fun y hy N' hN' vs M7 hI => ?_) (fun vs M7 hI => ?_) ⟨_, rfl⟩
    · obtain ⟨x9, rfl⟩ := hI
      obtain ⟨ns, rfl, hns⟩ : ∃ ns : List Int, y = .tup (ns.map D.int) ∧ ns.length ≤ 1000 := by
        simp only [List.mem_cons, List.not_mem_nil, or_false] at hy
        rcases hy with rfl | rfl | rfl | rfl
        · exact ⟨List.replicate lo 0, by simp, by simp; omega⟩
        · exact ⟨List.replicate (lo - 1) 0 ++ [2], by simp, by simp; omega⟩
        · exact ⟨List.replicate (lo - 1) 0 ++ [1], by simp, by simp; omega⟩
        · exact ⟨List.replicate (lo - 1) 0 ++ [-1], by simp, by simp; omega⟩
      repeat (first | (with_reducible refine seq_go ?_) | (simp only [dNext, dBreak, dCont, dDrop, dRet, dRetN, dIfS, dAsg, dputS, dlputS, dOp, dVar, dC, dget_zero, dget_succ, dTest, isB, dNil, dCons, dgName, dTup, dCB, dFresh, dFrz, dFreshD, dFrzD, dDispD, dDisp, dBM, dBM0, dAndV, dOrV, dNotV, dAnd, dOr, dNot, dCall, dNeg, dIf, dFor, dSl, dPart, dNoPart, diRng1, diRng2, diAny, isI, dstart, List.set_cons_zero, List.set_cons_succ, List.map_cons, List.map_nil, List.length_cons, List.length_nil, List.cons_append, List.nil_append, Nat.reduceAdd, Nat.reduceSub, Int.reduceAdd, Int.reduceSub, List.replicate, isLst, dgTup, dgCons, dgNil, dListOf, dJoin, dIndex, dRev, diZip, dPar2, diEnum, dRetX, dDropX, dAsgX, dCallX, dConsX, dTupX, dFrzX, dRaise0, dRaise1, dTryAs, dTryOnly, dXf, asEnds, dLc, wipeD, dCat, dSlL, dPairs, dGet2, dGet1, isDic, ite_true, ite_false, if_true, if_false, reduceIte, Bool.false_eq_true, Bool.true_eq_false, and_true, true_and, rdL_lst, rdL_ref, rdS_lst, rdS_ref, rdS_tup, rdD_dic, rdD_ref, addR_ii, addR_ib, addR_ss, addR_tt, addR_LL, subR_ii, mulR_ii, mulA_ii, mulA_t, mulA_L, modR_ii, fdivR_ii, powR_ii, ltR_ii, leR_ii, gtR_ii, geR_ii, keyD_s, keyD_i, dgetR, eqR_ii, eqR_ss, eqR_bb, eqR_tt, eqR_LL, neR_ii, neR_ss, neR_bb, neR_tt, neR_LL, eqM_ii, eqM_ss, eqM_bb, eqM_tt, eqM_LL, okD_i, okD_s, okD_b, okD_n, okD_t, okD_L, deck_at, deck_sum, deck_cells, deck_len, deck_put, dicOf_mup_same, lstOf_mup_same, int1R_b, int1R_i, ix_t0, ix_t1, ix_t2, ix_t3, ix_t4, lenR_t, lenR_s, lenR_L, slR_t, slR_s, slR_L, cutL_from1, cutL_from2, revR_t, revR_L, tup1R_L, tup1R_t, beq_self_eq_true, Bool.not_true, Bool.not_false, Option.isSome_some, List.isEmpty_nil, List.isEmpty_cons, isR_nn, isR_tn, isR_Ln, isR_sn, isR_in, isR_bn, isR_bb, isNotR_nn, isNotR_tn, isNotR_Ln, isNotR_sn, isNotR_in, isNotR_bn, isNotR_bb, isi_t_bool, isi_t_int, isi_t_str, isi_t_tuple, isi_t_list, isi_t_dict, isi_s_bool, isi_s_int, isi_s_str, isi_s_tuple, isi_s_list, isi_s_dict, isi_i_bool, isi_i_int, isi_i_str, isi_i_tuple, isi_i_list, isi_i_dict, isi_b_bool, isi_b_int, isi_b_str, isi_b_tuple, isi_b_list, isi_b_dict, isi_n_bool, isi_n_int, isi_n_str, isi_n_tuple, isi_n_list, isi_n_dict, isi_L_bool, isi_L_int, isi_L_str, isi_L_tuple, isi_L_list, isi_L_dict, isi_d_bool, isi_d_int, isi_d_str, isi_d_tuple, isi_d_list, isi_d_dict, natlit_eq, Int.reduceNeg, puts, appendR_same, lenR_same, tup1R_same, sz0, sz1, sz2, sz3, sz4, sz5, sz6, sz7, sz8, sz9, sz10, ix_L0, ix_L1, ix_L2, ix_Lbs, dep_nil, dep_cons, dep_tup, dep_lst, dep_str, dep_int, dep_bl, dep_non, dep_strs, dep_ints, dep_app, dep_rules, dep_prog, dep_st, pu_nil, pu_cons, pu_tup, pu_lst, pu_str, pu_int, pu_bl, pu_non, pu_app, pureDs_str, pureDs_int, pu_rule, pu_rules, pu_prog, pu_st, eqv_self, eqvDs_nil, Bool.and_self, Bool.and_true, Bool.true_and, List.length_map, List.length_append, Int.zero_add, Nat.zero_add, cutL_to1, cutL_to2, cutL_to3, cutL_to15, List.take_succ_cons, List.take_zero, List.take_nil, List.drop_succ_cons, List.drop_zero, List.drop_nil, max2R_ii, min2R_ii, cutL_toN, cutL_toS, cutL_fromN, cutL_fromS, List.length_take, List.length_drop, ← List.map_take, ← List.map_drop, ← List.map_append, neR_prog0, eqR_prog0, lenR_prog, rep1, List.length_replicate, Int.toNat_natCast, ofLst_L, sumLR_map, allLR_map, anyLR_map, ofString_beq, ofString_inj, String.reduceBEq, String.reduceEq, decide_true, decide_false, extA_t, extA_L, isSome_same, List.length_reverse, ← List.map_reverse]) | ((with_reducible refine And.intro ?_ ?_); focus (first | with_reducible exact small_line2 (by omega) | with_reducible exact small_lt2 (by omega) | with_reducible exact cmul_sm (by omega) (by omega) (by omega) (by omega) | with_reducible exact inLine_nat (by omega) | exact ⟨by omega, by omega⟩ | exact ⟨by omega, by omega, by simp⟩ | omega | decide)))
      refine right_go (rs := rl) (s := (p0, List.replicate (1 + w).toNat m0)) (by omega) (by omega) (by simp; omega) hrl2 ?_
      repeat (first | (with_reducible refine seq_go ?_) | (simp only [dNext, dBreak, dCont, dDrop, dRet, dRetN, dIfS, dAsg, dputS, dlputS, dOp, dVar, dC, dget_zero, dget_succ, dTest, isB, dNil, dCons, dgName, dTup, dCB, dFresh, dFrz, dFreshD, dFrzD, dDispD, dDisp, dBM, dBM0, dAndV, dOrV, dNotV, dAnd, dOr, dNot, dCall, dNeg, dIf, dFor, dSl, dPart, dNoPart, diRng1, diRng2, diAny, isI, dstart, List.set_cons_zero, List.set_cons_succ, List.map_cons, List.map_nil, List.length_cons, List.length_nil, List.cons_append, List.nil_append, Nat.reduceAdd, Nat.reduceSub, Int.reduceAdd, Int.reduceSub, List.replicate, isLst, dgTup, dgCons, dgNil, dListOf, dJoin, dIndex, dRev, diZip, dPar2, diEnum, dRetX, dDropX, dAsgX, dCallX, dConsX, dTupX, dFrzX, dRaise0, dRaise1, dTryAs, dTryOnly, dXf, asEnds, dLc, wipeD, dCat, dSlL, dPairs, dGet2, dGet1, isDic, ite_true, ite_false, if_true, if_false, reduceIte, Bool.false_eq_true, Bool.true_eq_false, and_true, true_and, rdL_lst, rdL_ref, rdS_lst, rdS_ref, rdS_tup, rdD_dic, rdD_ref, addR_ii, addR_ib, addR_ss, addR_tt, addR_LL, subR_ii, mulR_ii, mulA_ii, mulA_t, mulA_L, modR_ii, fdivR_ii, powR_ii, ltR_ii, leR_ii, gtR_ii, geR_ii, keyD_s, keyD_i, dgetR, eqR_ii, eqR_ss, eqR_bb, eqR_tt, eqR_LL, neR_ii, neR_ss, neR_bb, neR_tt, neR_LL, eqM_ii, eqM_ss, eqM_bb, eqM_tt, eqM_LL, okD_i, okD_s, okD_b, okD_n, okD_t, okD_L, deck_at, deck_sum, deck_cells, deck_len, deck_put, dicOf_mup_same, lstOf_mup_same, int1R_b, int1R_i, ix_t0, ix_t1, ix_t2, ix_t3, ix_t4, lenR_t, lenR_s, lenR_L, slR_t, slR_s, slR_L, cutL_from1, cutL_from2, revR_t, revR_L, tup1R_L, tup1R_t, beq_self_eq_true, Bool.not_true, Bool.not_false, Option.isSome_some, List.isEmpty_nil, List.isEmpty_cons, isR_nn, isR_tn, isR_Ln, isR_sn, isR_in, isR_bn, isR_bb, isNotR_nn, isNotR_tn, isNotR_Ln, isNotR_sn, isNotR_in, isNotR_bn, isNotR_bb, isi_t_bool, isi_t_int, isi_t_str, isi_t_tuple, isi_t_list, isi_t_dict, isi_s_bool, isi_s_int, isi_s_str, isi_s_tuple, isi_s_list, isi_s_dict, isi_i_bool, isi_i_int, isi_i_str, isi_i_tuple, isi_i_list, isi_i_dict, isi_b_bool, isi_b_int, isi_b_str, isi_b_tuple, isi_b_list, isi_b_dict, isi_n_bool, isi_n_int, isi_n_str, isi_n_tuple, isi_n_list, isi_n_dict, isi_L_bool, isi_L_int, isi_L_str, isi_L_tuple, isi_L_list, isi_L_dict, isi_d_bool, isi_d_int, isi_d_str, isi_d_tuple, isi_d_list, isi_d_dict, natlit_eq, Int.reduceNeg, puts, appendR_same, lenR_same, tup1R_same, sz0, sz1, sz2, sz3, sz4, sz5, sz6, sz7, sz8, sz9, sz10, ix_L0, ix_L1, ix_L2, ix_Lbs, dep_nil, dep_cons, dep_tup, dep_lst, dep_str, dep_int, dep_bl, dep_non, dep_strs, dep_ints, dep_app, dep_rules, dep_prog, dep_st, pu_nil, pu_cons, pu_tup, pu_lst, pu_str, pu_int, pu_bl, pu_non, pu_app, pureDs_str, pureDs_int, pu_rule, pu_rules, pu_prog, pu_st, eqv_self, eqvDs_nil, Bool.and_self, Bool.and_true, Bool.true_and, List.length_map, List.length_append, Int.zero_add, Nat.zero_add, cutL_to1, cutL_to2, cutL_to3, cutL_to15, List.take_succ_cons, List.take_zero, List.take_nil, List.drop_succ_cons, List.drop_zero, List.drop_nil, max2R_ii, min2R_ii, cutL_toN, cutL_toS, cutL_fromN, cutL_fromS, List.length_take, List.length_drop, ← List.map_take, ← List.map_drop, ← List.map_append, neR_prog0, eqR_prog0, lenR_prog, rep1, List.length_replicate, Int.toNat_natCast, ofLst_L, sumLR_map, allLR_map, anyLR_map, ofString_beq, ofString_inj, String.reduceBEq, String.reduceEq, decide_true, decide_false, extA_t, extA_L, isSome_same, List.length_reverse, ← List.map_reverse]) | ((with_reducible refine And.intro ?_ ?_); focus (first | with_reducible exact small_line2 (by omega) | with_reducible exact small_lt2 (by omega) | with_reducible exact cmul_sm (by omega) (by omega) (by omega) (by omega) | with_reducible exact inLine_nat (by omega) | exact ⟨by omega, by omega⟩ | exact ⟨by omega, by omega, by simp⟩ | omega | decide)))
      exact hN' _ _ _ rfl ⟨_, rfl⟩
    · obtain ⟨x9, rfl⟩ := hI
      repeat (first | (with_reducible refine seq_go ?_) | (simp only [dNext, dBreak, dCont, dDrop, dRet, dRetN, dIfS, dAsg, dputS, dlputS, dOp, dVar, dC, dget_zero, dget_succ, dTest, isB, dNil, dCons, dgName, dTup, dCB, dFresh, dFrz, dFreshD, dFrzD, dDispD, dDisp, dBM, dBM0, dAndV, dOrV, dNotV, dAnd, dOr, dNot, dCall, dNeg, dIf, dFor, dSl, dPart, dNoPart, diRng1, diRng2, diAny, isI, dstart, List.set_cons_zero, List.set_cons_succ, List.map_cons, List.map_nil, List.length_cons, List.length_nil, List.cons_append, List.nil_append, Nat.reduceAdd, Nat.reduceSub, Int.reduceAdd, Int.reduceSub, List.replicate, isLst, dgTup, dgCons, dgNil, dListOf, dJoin, dIndex, dRev, diZip, dPar2, diEnum, dRetX, dDropX, dAsgX, dCallX, dConsX, dTupX, dFrzX, dRaise0, dRaise1, dTryAs, dTryOnly, dXf, asEnds, dLc, wipeD, dCat, dSlL, dPairs, dGet2, dGet1, isDic, ite_true, ite_false, if_true, if_false, reduceIte, Bool.false_eq_true, Bool.true_eq_false, and_true, true_and, rdL_lst, rdL_ref, rdS_lst, rdS_ref, rdS_tup, rdD_dic, rdD_ref, addR_ii, addR_ib, addR_ss, addR_tt, addR_LL, subR_ii, mulR_ii, mulA_ii, mulA_t, mulA_L, modR_ii, fdivR_ii, powR_ii, ltR_ii, leR_ii, gtR_ii, geR_ii, keyD_s, keyD_i, dgetR, eqR_ii, eqR_ss, eqR_bb, eqR_tt, eqR_LL, neR_ii, neR_ss, neR_bb, neR_tt, neR_LL, eqM_ii, eqM_ss, eqM_bb, eqM_tt, eqM_LL, okD_i, okD_s, okD_b, okD_n, okD_t, okD_L, deck_at, deck_sum, deck_cells, deck_len, deck_put, dicOf_mup_same, lstOf_mup_same, int1R_b, int1R_i, ix_t0, ix_t1, ix_t2, ix_t3, ix_t4, lenR_t, lenR_s, lenR_L, slR_t, slR_s, slR_L, cutL_from1, cutL_from2, revR_t, revR_L, tup1R_L, tup1R_t, beq_self_eq_true, Bool.not_true, Bool.not_false, Option.isSome_some, List.isEmpty_nil, List.isEmpty_cons, isR_nn, isR_tn, isR_Ln, isR_sn, isR_in, isR_bn, isR_bb, isNotR_nn, isNotR_tn, isNotR_Ln, isNotR_sn, isNotR_in, isNotR_bn, isNotR_bb, isi_t_bool, isi_t_int, isi_t_str, isi_t_tuple, isi_t_list, isi_t_dict, isi_s_bool, isi_s_int, isi_s_str, isi_s_tuple, isi_s_list, isi_s_dict, isi_i_bool, isi_i_int, isi_i_str, isi_i_tuple, isi_i_list, isi_i_dict, isi_b_bool, isi_b_int, isi_b_str, isi_b_tuple, isi_b_list, isi_b_dict, isi_n_bool, isi_n_int, isi_n_str, isi_n_tuple, isi_n_list, isi_n_dict, isi_L_bool, isi_L_int, isi_L_str, isi_L_tuple, isi_L_list, isi_L_dict, isi_d_bool, isi_d_int, isi_d_str, isi_d_tuple, isi_d_list, isi_d_dict, natlit_eq, Int.reduceNeg, puts, appendR_same, lenR_same, tup1R_same, sz0, sz1, sz2, sz3, sz4, sz5, sz6, sz7, sz8, sz9, sz10, ix_L0, ix_L1, ix_L2, ix_Lbs, dep_nil, dep_cons, dep_tup, dep_lst, dep_str, dep_int, dep_bl, dep_non, dep_strs, dep_ints, dep_app, dep_rules, dep_prog, dep_st, pu_nil, pu_cons, pu_tup, pu_lst, pu_str, pu_int, pu_bl, pu_non, pu_app, pureDs_str, pureDs_int, pu_rule, pu_rules, pu_prog, pu_st, eqv_self, eqvDs_nil, Bool.and_self, Bool.and_true, Bool.true_and, List.length_map, List.length_append, Int.zero_add, Nat.zero_add, cutL_to1, cutL_to2, cutL_to3, cutL_to15, List.take_succ_cons, List.take_zero, List.take_nil, List.drop_succ_cons, List.drop_zero, List.drop_nil, max2R_ii, min2R_ii, cutL_toN, cutL_toS, cutL_fromN, cutL_fromS, List.length_take, List.length_drop, ← List.map_take, ← List.map_drop, ← List.map_append, neR_prog0, eqR_prog0, lenR_prog, rep1, List.length_replicate, Int.toNat_natCast, ofLst_L, sumLR_map, allLR_map, anyLR_map, ofString_beq, ofString_inj, String.reduceBEq, String.reduceEq, decide_true, decide_false, extA_t, extA_L, isSome_same, List.length_reverse, ← List.map_reverse]) | ((with_reducible refine And.intro ?_ ?_); focus (first | with_reducible exact small_line2 (by omega) | with_reducible exact small_lt2 (by omega) | with_reducible exact cmul_sm (by omega) (by omega) (by omega) (by omega) | with_reducible exact inLine_nat (by omega) | exact ⟨by omega, by omega⟩ | exact ⟨by omega, by omega, by simp⟩ | omega | decide)))
      refine told_go (rs := []) (s := ("a", [])) (ns := [0]) (by simp) (by simp) (by simp) (by simp) ?_
      rw [show toldD (goF [] ("a", []) [0] 0) = .int 0 from rfl]
      repeat (first | (with_reducible refine seq_go ?_) | (simp only [dNext, dBreak, dCont, dDrop, dRet, dRetN, dIfS, dAsg, dputS, dlputS, dOp, dVar, dC, dget_zero, dget_succ, dTest, isB, dNil, dCons, dgName, dTup, dCB, dFresh, dFrz, dFreshD, dFrzD, dDispD, dDisp, dBM, dBM0, dAndV, dOrV, dNotV, dAnd, dOr, dNot, dCall, dNeg, dIf, dFor, dSl, dPart, dNoPart, diRng1, diRng2, diAny, isI, dstart, List.set_cons_zero, List.set_cons_succ, List.map_cons, List.map_nil, List.length_cons, List.length_nil, List.cons_append, List.nil_append, Nat.reduceAdd, Nat.reduceSub, Int.reduceAdd, Int.reduceSub, List.replicate, isLst, dgTup, dgCons, dgNil, dListOf, dJoin, dIndex, dRev, diZip, dPar2, diEnum, dRetX, dDropX, dAsgX, dCallX, dConsX, dTupX, dFrzX, dRaise0, dRaise1, dTryAs, dTryOnly, dXf, asEnds, dLc, wipeD, dCat, dSlL, dPairs, dGet2, dGet1, isDic, ite_true, ite_false, if_true, if_false, reduceIte, Bool.false_eq_true, Bool.true_eq_false, and_true, true_and, rdL_lst, rdL_ref, rdS_lst, rdS_ref, rdS_tup, rdD_dic, rdD_ref, addR_ii, addR_ib, addR_ss, addR_tt, addR_LL, subR_ii, mulR_ii, mulA_ii, mulA_t, mulA_L, modR_ii, fdivR_ii, powR_ii, ltR_ii, leR_ii, gtR_ii, geR_ii, keyD_s, keyD_i, dgetR, eqR_ii, eqR_ss, eqR_bb, eqR_tt, eqR_LL, neR_ii, neR_ss, neR_bb, neR_tt, neR_LL, eqM_ii, eqM_ss, eqM_bb, eqM_tt, eqM_LL, okD_i, okD_s, okD_b, okD_n, okD_t, okD_L, deck_at, deck_sum, deck_cells, deck_len, deck_put, dicOf_mup_same, lstOf_mup_same, int1R_b, int1R_i, ix_t0, ix_t1, ix_t2, ix_t3, ix_t4, lenR_t, lenR_s, lenR_L, slR_t, slR_s, slR_L, cutL_from1, cutL_from2, revR_t, revR_L, tup1R_L, tup1R_t, beq_self_eq_true, Bool.not_true, Bool.not_false, Option.isSome_some, List.isEmpty_nil, List.isEmpty_cons, isR_nn, isR_tn, isR_Ln, isR_sn, isR_in, isR_bn, isR_bb, isNotR_nn, isNotR_tn, isNotR_Ln, isNotR_sn, isNotR_in, isNotR_bn, isNotR_bb, isi_t_bool, isi_t_int, isi_t_str, isi_t_tuple, isi_t_list, isi_t_dict, isi_s_bool, isi_s_int, isi_s_str, isi_s_tuple, isi_s_list, isi_s_dict, isi_i_bool, isi_i_int, isi_i_str, isi_i_tuple, isi_i_list, isi_i_dict, isi_b_bool, isi_b_int, isi_b_str, isi_b_tuple, isi_b_list, isi_b_dict, isi_n_bool, isi_n_int, isi_n_str, isi_n_tuple, isi_n_list, isi_n_dict, isi_L_bool, isi_L_int, isi_L_str, isi_L_tuple, isi_L_list, isi_L_dict, isi_d_bool, isi_d_int, isi_d_str, isi_d_tuple, isi_d_list, isi_d_dict, natlit_eq, Int.reduceNeg, puts, appendR_same, lenR_same, tup1R_same, sz0, sz1, sz2, sz3, sz4, sz5, sz6, sz7, sz8, sz9, sz10, ix_L0, ix_L1, ix_L2, ix_Lbs, dep_nil, dep_cons, dep_tup, dep_lst, dep_str, dep_int, dep_bl, dep_non, dep_strs, dep_ints, dep_app, dep_rules, dep_prog, dep_st, pu_nil, pu_cons, pu_tup, pu_lst, pu_str, pu_int, pu_bl, pu_non, pu_app, pureDs_str, pureDs_int, pu_rule, pu_rules, pu_prog, pu_st, eqv_self, eqvDs_nil, Bool.and_self, Bool.and_true, Bool.true_and, List.length_map, List.length_append, Int.zero_add, Nat.zero_add, cutL_to1, cutL_to2, cutL_to3, cutL_to15, List.take_succ_cons, List.take_zero, List.take_nil, List.drop_succ_cons, List.drop_zero, List.drop_nil, max2R_ii, min2R_ii, cutL_toN, cutL_toS, cutL_fromN, cutL_fromS, List.length_take, List.length_drop, ← List.map_take, ← List.map_drop, ← List.map_append, neR_prog0, eqR_prog0, lenR_prog, rep1, List.length_replicate, Int.toNat_natCast, ofLst_L, sumLR_map, allLR_map, anyLR_map, ofString_beq, ofString_inj, String.reduceBEq, String.reduceEq, decide_true, decide_false, extA_t, extA_L, isSome_same, List.length_reverse, ← List.map_reverse]) | ((with_reducible refine And.intro ?_ ?_); focus (first | with_reducible exact small_line2 (by omega) | with_reducible exact small_lt2 (by omega) | with_reducible exact cmul_sm (by omega) (by omega) (by omega) (by omega) | with_reducible exact inLine_nat (by omega) | exact ⟨by omega, by omega⟩ | exact ⟨by omega, by omega, by simp⟩ | omega | decide)))
      refine told_go (rs := []) (s := ("a", ["b"])) (ns := []) (by simp) (by simp) (by simp) (by simp) ?_
      rw [show toldD (goF [] ("a", ["b"]) [] 0) = .lst [.tup [.str "a", .tup [.str "b"]]] from rfl]
      repeat (first | (with_reducible refine seq_go ?_) | (simp only [dNext, dBreak, dCont, dDrop, dRet, dRetN, dIfS, dAsg, dputS, dlputS, dOp, dVar, dC, dget_zero, dget_succ, dTest, isB, dNil, dCons, dgName, dTup, dCB, dFresh, dFrz, dFreshD, dFrzD, dDispD, dDisp, dBM, dBM0, dAndV, dOrV, dNotV, dAnd, dOr, dNot, dCall, dNeg, dIf, dFor, dSl, dPart, dNoPart, diRng1, diRng2, diAny, isI, dstart, List.set_cons_zero, List.set_cons_succ, List.map_cons, List.map_nil, List.length_cons, List.length_nil, List.cons_append, List.nil_append, Nat.reduceAdd, Nat.reduceSub, Int.reduceAdd, Int.reduceSub, List.replicate, isLst, dgTup, dgCons, dgNil, dListOf, dJoin, dIndex, dRev, diZip, dPar2, diEnum, dRetX, dDropX, dAsgX, dCallX, dConsX, dTupX, dFrzX, dRaise0, dRaise1, dTryAs, dTryOnly, dXf, asEnds, dLc, wipeD, dCat, dSlL, dPairs, dGet2, dGet1, isDic, ite_true, ite_false, if_true, if_false, reduceIte, Bool.false_eq_true, Bool.true_eq_false, and_true, true_and, rdL_lst, rdL_ref, rdS_lst, rdS_ref, rdS_tup, rdD_dic, rdD_ref, addR_ii, addR_ib, addR_ss, addR_tt, addR_LL, subR_ii, mulR_ii, mulA_ii, mulA_t, mulA_L, modR_ii, fdivR_ii, powR_ii, ltR_ii, leR_ii, gtR_ii, geR_ii, keyD_s, keyD_i, dgetR, eqR_ii, eqR_ss, eqR_bb, eqR_tt, eqR_LL, neR_ii, neR_ss, neR_bb, neR_tt, neR_LL, eqM_ii, eqM_ss, eqM_bb, eqM_tt, eqM_LL, okD_i, okD_s, okD_b, okD_n, okD_t, okD_L, deck_at, deck_sum, deck_cells, deck_len, deck_put, dicOf_mup_same, lstOf_mup_same, int1R_b, int1R_i, ix_t0, ix_t1, ix_t2, ix_t3, ix_t4, lenR_t, lenR_s, lenR_L, slR_t, slR_s, slR_L, cutL_from1, cutL_from2, revR_t, revR_L, tup1R_L, tup1R_t, beq_self_eq_true, Bool.not_true, Bool.not_false, Option.isSome_some, List.isEmpty_nil, List.isEmpty_cons, isR_nn, isR_tn, isR_Ln, isR_sn, isR_in, isR_bn, isR_bb, isNotR_nn, isNotR_tn, isNotR_Ln, isNotR_sn, isNotR_in, isNotR_bn, isNotR_bb, isi_t_bool, isi_t_int, isi_t_str, isi_t_tuple, isi_t_list, isi_t_dict, isi_s_bool, isi_s_int, isi_s_str, isi_s_tuple, isi_s_list, isi_s_dict, isi_i_bool, isi_i_int, isi_i_str, isi_i_tuple, isi_i_list, isi_i_dict, isi_b_bool, isi_b_int, isi_b_str, isi_b_tuple, isi_b_list, isi_b_dict, isi_n_bool, isi_n_int, isi_n_str, isi_n_tuple, isi_n_list, isi_n_dict, isi_L_bool, isi_L_int, isi_L_str, isi_L_tuple, isi_L_list, isi_L_dict, isi_d_bool, isi_d_int, isi_d_str, isi_d_tuple, isi_d_list, isi_d_dict, natlit_eq, Int.reduceNeg, puts, appendR_same, lenR_same, tup1R_same, sz0, sz1, sz2, sz3, sz4, sz5, sz6, sz7, sz8, sz9, sz10, ix_L0, ix_L1, ix_L2, ix_Lbs, dep_nil, dep_cons, dep_tup, dep_lst, dep_str, dep_int, dep_bl, dep_non, dep_strs, dep_ints, dep_app, dep_rules, dep_prog, dep_st, pu_nil, pu_cons, pu_tup, pu_lst, pu_str, pu_int, pu_bl, pu_non, pu_app, pureDs_str, pureDs_int, pu_rule, pu_rules, pu_prog, pu_st, eqv_self, eqvDs_nil, Bool.and_self, Bool.and_true, Bool.true_and, List.length_map, List.length_append, Int.zero_add, Nat.zero_add, cutL_to1, cutL_to2, cutL_to3, cutL_to15, List.take_succ_cons, List.take_zero, List.take_nil, List.drop_succ_cons, List.drop_zero, List.drop_nil, max2R_ii, min2R_ii, cutL_toN, cutL_toS, cutL_fromN, cutL_fromS, List.length_take, List.length_drop, ← List.map_take, ← List.map_drop, ← List.map_append, neR_prog0, eqR_prog0, lenR_prog, rep1, List.length_replicate, Int.toNat_natCast, ofLst_L, sumLR_map, allLR_map, anyLR_map, ofString_beq, ofString_inj, String.reduceBEq, String.reduceEq, decide_true, decide_false, extA_t, extA_L, isSome_same, List.length_reverse, ← List.map_reverse]) | ((with_reducible refine And.intro ?_ ?_); focus (first | with_reducible exact small_line2 (by omega) | with_reducible exact small_lt2 (by omega) | with_reducible exact cmul_sm (by omega) (by omega) (by omega) (by omega) | with_reducible exact inLine_nat (by omega) | exact ⟨by omega, by omega⟩ | exact ⟨by omega, by omega, by simp⟩ | omega | decide)))
      done
theorem ok__law_deck {f fd} (F : Fun K "_law_deck" "_law_deck" st__law_deck f fd) (z_list : mg "list" = none) (z_sum : mg "sum" = none) (z_len : mg "len" = none) : FnOk P w K mg base CX0 1 f fd ["_law_script"] (spDeckH K) := by
  refine ok_deck F sc__law_deck fun cdv A outer s H E => ?_
  exact pss_cons (ps_set (i := 1) sc__law_deck.nd rfl (.inl rfl) (pe_callTy call_list_of (by rfl) z_list PyProof.Rows.boot_list (pa_cons (pe_slice sl_list (pv 0) po_none (po_some pe_int)) pa_nil)))
    (pss_one (ps_ret (pe_disp (pps_cons pe_str (pv 1) (pps_cons pe_str pe_int (pps_cons pe_str (pe_op op_add (pe_op op_mod (pe_callB (cr_sum rfl) (by rfl) z_sum PyProof.Rows.boot_sum (pa_cons (pv 1) pa_nil)) pe_int) (pe_callB call_len_seq (by rfl) z_len PySem.boot_len (pa_cons (pv 1) pa_nil))) pps_nil))) rfl rfl (by simp) (by decide))))
theorem all_mk {fa : Addr} {h : Heap} {f__law_deck f__law_draw f__law_names f__law_pick f__law_program f__law_drawn f__law_behind f__law_gone f__law_due f_behind f_walked f__law_told f__law_right f__law_bent f_law f_PileError f_NoRun f_NoText f_TooLong f_TooMany f_NoTable f_NoRule f_NoRow f_NoRun_init : Addr} (XX : K.In h) (GG0 : h.Ns mainGlobals mg) (hfa : mg "law" = some (.ref fa)) {od__law_deck an__law_deck : Option Addr} {sl__law_deck : Array (Option Value)} {oc__law_deck kV__law_deck dc__law_deck pm__law_deck cd__law_deck ct__law_deck : Value} (a__law_deck : PySem.W.nsIn K mainGlobals "_law_deck" = some (some (.ref f__law_deck))) (l__law_deck : K.lookup f__law_deck = some ⟨oc__law_deck, od__law_deck, .func (PySem.W.fnOf "_law_deck" "_law_deck" (defArgs st__law_deck) (defBody st__law_deck) (defScope st__law_deck) .none kV__law_deck dc__law_deck pm__law_deck an__law_deck cd__law_deck ct__law_deck), sl__law_deck⟩) (c__law_deck : PySem.W.codeIn K cd__law_deck "_law_deck" = true) (k__law_deck : PySem.W.keepIn K (.ref f__law_deck) = true) {od__law_draw an__law_draw : Option Addr} {sl__law_draw : Array (Option Value)} {oc__law_draw kV__law_draw dc__law_draw pm__law_draw cd__law_draw ct__law_draw : Value} (a__law_draw : PySem.W.nsIn K mainGlobals "_law_draw" = some (some (.ref f__law_draw))) (l__law_draw : K.lookup f__law_draw = some ⟨oc__law_draw, od__law_draw, .func (PySem.W.fnOf "_law_draw" "_law_draw" (defArgs st__law_draw) (defBody st__law_draw) (defScope st__law_draw) .none kV__law_draw dc__law_draw pm__law_draw an__law_draw cd__law_draw ct__law_draw), sl__law_draw⟩) (c__law_draw : PySem.W.codeIn K cd__law_draw "_law_draw" = true) (k__law_draw : PySem.W.keepIn K (.ref f__law_draw) = true) {od__law_names an__law_names : Option Addr} {sl__law_names : Array (Option Value)} {oc__law_names kV__law_names dc__law_names pm__law_names cd__law_names ct__law_names : Value} (a__law_names : PySem.W.nsIn K mainGlobals "_law_names" = some (some (.ref f__law_names))) (l__law_names : K.lookup f__law_names = some ⟨oc__law_names, od__law_names, .func (PySem.W.fnOf "_law_names" "_law_names" (defArgs st__law_names) (defBody st__law_names) (defScope st__law_names) .none kV__law_names dc__law_names pm__law_names an__law_names cd__law_names ct__law_names), sl__law_names⟩) (c__law_names : PySem.W.codeIn K cd__law_names "_law_names" = true) (k__law_names : PySem.W.keepIn K (.ref f__law_names) = true) {od__law_pick an__law_pick : Option Addr} {sl__law_pick : Array (Option Value)} {oc__law_pick kV__law_pick dc__law_pick pm__law_pick cd__law_pick ct__law_pick : Value} (a__law_pick : PySem.W.nsIn K mainGlobals "_law_pick" = some (some (.ref f__law_pick))) (l__law_pick : K.lookup f__law_pick = some ⟨oc__law_pick, od__law_pick, .func (PySem.W.fnOf "_law_pick" "_law_pick" (defArgs st__law_pick) (defBody st__law_pick) (defScope st__law_pick) .none kV__law_pick dc__law_pick pm__law_pick an__law_pick cd__law_pick ct__law_pick), sl__law_pick⟩) (c__law_pick : PySem.W.codeIn K cd__law_pick "_law_pick" = true) (k__law_pick : PySem.W.keepIn K (.ref f__law_pick) = true) {od__law_program an__law_program : Option Addr} {sl__law_program : Array (Option Value)} {oc__law_program kV__law_program dc__law_program pm__law_program cd__law_program ct__law_program : Value} (a__law_program : PySem.W.nsIn K mainGlobals "_law_program" = some (some (.ref f__law_program))) (l__law_program : K.lookup f__law_program = some ⟨oc__law_program, od__law_program, .func (PySem.W.fnOf "_law_program" "_law_program" (defArgs st__law_program) (defBody st__law_program) (defScope st__law_program) .none kV__law_program dc__law_program pm__law_program an__law_program cd__law_program ct__law_program), sl__law_program⟩) (c__law_program : PySem.W.codeIn K cd__law_program "_law_program" = true) (k__law_program : PySem.W.keepIn K (.ref f__law_program) = true) {od__law_drawn an__law_drawn : Option Addr} {sl__law_drawn : Array (Option Value)} {oc__law_drawn kV__law_drawn dc__law_drawn pm__law_drawn cd__law_drawn ct__law_drawn : Value} (a__law_drawn : PySem.W.nsIn K mainGlobals "_law_drawn" = some (some (.ref f__law_drawn))) (l__law_drawn : K.lookup f__law_drawn = some ⟨oc__law_drawn, od__law_drawn, .func (PySem.W.fnOf "_law_drawn" "_law_drawn" (defArgs st__law_drawn) (defBody st__law_drawn) (defScope st__law_drawn) .none kV__law_drawn dc__law_drawn pm__law_drawn an__law_drawn cd__law_drawn ct__law_drawn), sl__law_drawn⟩) (c__law_drawn : PySem.W.codeIn K cd__law_drawn "_law_drawn" = true) (k__law_drawn : PySem.W.keepIn K (.ref f__law_drawn) = true) {od__law_behind an__law_behind : Option Addr} {sl__law_behind : Array (Option Value)} {oc__law_behind kV__law_behind dc__law_behind pm__law_behind cd__law_behind ct__law_behind : Value} (a__law_behind : PySem.W.nsIn K mainGlobals "_law_behind" = some (some (.ref f__law_behind))) (l__law_behind : K.lookup f__law_behind = some ⟨oc__law_behind, od__law_behind, .func (PySem.W.fnOf "_law_behind" "_law_behind" (defArgs st__law_behind) (defBody st__law_behind) (defScope st__law_behind) .none kV__law_behind dc__law_behind pm__law_behind an__law_behind cd__law_behind ct__law_behind), sl__law_behind⟩) (c__law_behind : PySem.W.codeIn K cd__law_behind "_law_behind" = true) (k__law_behind : PySem.W.keepIn K (.ref f__law_behind) = true) {od__law_gone an__law_gone : Option Addr} {sl__law_gone : Array (Option Value)} {oc__law_gone kV__law_gone dc__law_gone pm__law_gone cd__law_gone ct__law_gone : Value} (a__law_gone : PySem.W.nsIn K mainGlobals "_law_gone" = some (some (.ref f__law_gone))) (l__law_gone : K.lookup f__law_gone = some ⟨oc__law_gone, od__law_gone, .func (PySem.W.fnOf "_law_gone" "_law_gone" (defArgs st__law_gone) (defBody st__law_gone) (defScope st__law_gone) .none kV__law_gone dc__law_gone pm__law_gone an__law_gone cd__law_gone ct__law_gone), sl__law_gone⟩) (c__law_gone : PySem.W.codeIn K cd__law_gone "_law_gone" = true) (k__law_gone : PySem.W.keepIn K (.ref f__law_gone) = true) {od__law_due an__law_due : Option Addr} {sl__law_due : Array (Option Value)} {oc__law_due kV__law_due dc__law_due pm__law_due cd__law_due ct__law_due : Value} (a__law_due : PySem.W.nsIn K mainGlobals "_law_due" = some (some (.ref f__law_due))) (l__law_due : K.lookup f__law_due = some ⟨oc__law_due, od__law_due, .func (PySem.W.fnOf "_law_due" "_law_due" (defArgs st__law_due) (defBody st__law_due) (defScope st__law_due) .none kV__law_due dc__law_due pm__law_due an__law_due cd__law_due ct__law_due), sl__law_due⟩) (c__law_due : PySem.W.codeIn K cd__law_due "_law_due" = true) (k__law_due : PySem.W.keepIn K (.ref f__law_due) = true) {od_behind an_behind : Option Addr} {sl_behind : Array (Option Value)} {oc_behind kV_behind dc_behind pm_behind cd_behind ct_behind : Value} (a_behind : PySem.W.nsIn K mainGlobals "behind" = some (some (.ref f_behind))) (l_behind : K.lookup f_behind = some ⟨oc_behind, od_behind, .func (PySem.W.fnOf "behind" "behind" (defArgs st_behind) (defBody st_behind) (defScope st_behind) .none kV_behind dc_behind pm_behind an_behind cd_behind ct_behind), sl_behind⟩) (c_behind : PySem.W.codeIn K cd_behind "behind" = true) (k_behind : PySem.W.keepIn K (.ref f_behind) = true) {od_walked an_walked : Option Addr} {sl_walked : Array (Option Value)} {oc_walked kV_walked dc_walked pm_walked cd_walked ct_walked : Value} (a_walked : PySem.W.nsIn K mainGlobals "walked" = some (some (.ref f_walked))) (l_walked : K.lookup f_walked = some ⟨oc_walked, od_walked, .func (PySem.W.fnOf "walked" "walked" (defArgs st_walked) (defBody st_walked) (defScope st_walked) .none kV_walked dc_walked pm_walked an_walked cd_walked ct_walked), sl_walked⟩) (c_walked : PySem.W.codeIn K cd_walked "walked" = true) (k_walked : PySem.W.keepIn K (.ref f_walked) = true) {od__law_told an__law_told : Option Addr} {sl__law_told : Array (Option Value)} {oc__law_told kV__law_told dc__law_told pm__law_told cd__law_told ct__law_told : Value} (a__law_told : PySem.W.nsIn K mainGlobals "_law_told" = some (some (.ref f__law_told))) (l__law_told : K.lookup f__law_told = some ⟨oc__law_told, od__law_told, .func (PySem.W.fnOf "_law_told" "_law_told" (defArgs st__law_told) (defBody st__law_told) (defScope st__law_told) .none kV__law_told dc__law_told pm__law_told an__law_told cd__law_told ct__law_told), sl__law_told⟩) (c__law_told : PySem.W.codeIn K cd__law_told "_law_told" = true) (k__law_told : PySem.W.keepIn K (.ref f__law_told) = true) {od__law_right an__law_right : Option Addr} {sl__law_right : Array (Option Value)} {oc__law_right kV__law_right dc__law_right pm__law_right cd__law_right ct__law_right : Value} (a__law_right : PySem.W.nsIn K mainGlobals "_law_right" = some (some (.ref f__law_right))) (l__law_right : K.lookup f__law_right = some ⟨oc__law_right, od__law_right, .func (PySem.W.fnOf "_law_right" "_law_right" (defArgs st__law_right) (defBody st__law_right) (defScope st__law_right) .none kV__law_right dc__law_right pm__law_right an__law_right cd__law_right ct__law_right), sl__law_right⟩) (c__law_right : PySem.W.codeIn K cd__law_right "_law_right" = true) (k__law_right : PySem.W.keepIn K (.ref f__law_right) = true) {od__law_bent an__law_bent : Option Addr} {sl__law_bent : Array (Option Value)} {oc__law_bent kV__law_bent dc__law_bent pm__law_bent cd__law_bent ct__law_bent : Value} (a__law_bent : PySem.W.nsIn K mainGlobals "_law_bent" = some (some (.ref f__law_bent))) (l__law_bent : K.lookup f__law_bent = some ⟨oc__law_bent, od__law_bent, .func (PySem.W.fnOf "_law_bent" "_law_bent" (defArgs st__law_bent) (defBody st__law_bent) (defScope st__law_bent) .none kV__law_bent dc__law_bent pm__law_bent an__law_bent cd__law_bent ct__law_bent), sl__law_bent⟩) (c__law_bent : PySem.W.codeIn K cd__law_bent "_law_bent" = true) (k__law_bent : PySem.W.keepIn K (.ref f__law_bent) = true) {od_law an_law : Option Addr} {sl_law : Array (Option Value)} {oc_law kV_law dc_law pm_law cd_law ct_law : Value} (a_law : PySem.W.nsIn K mainGlobals "law" = some (some (.ref f_law))) (l_law : K.lookup f_law = some ⟨oc_law, od_law, .func (PySem.W.fnOf "law" "law" (defArgs st_law) (defBody st_law) (defScope st_law) .none kV_law dc_law pm_law an_law cd_law ct_law), sl_law⟩) (c_law : PySem.W.codeIn K cd_law "law" = true) (k_law : PySem.W.keepIn K (.ref f_law) = true) (n_list : PySem.W.nsIn K mainGlobals "list" = some none) (n_sum : PySem.W.nsIn K mainGlobals "sum" = some none) (n_len : PySem.W.nsIn K mainGlobals "len" = some none) (n_range : PySem.W.nsIn K mainGlobals "range" = some none) (n_int : PySem.W.nsIn K mainGlobals "int" = some none) (n_tuple : PySem.W.nsIn K mainGlobals "tuple" = some none) (n_enumerate : PySem.W.nsIn K mainGlobals "enumerate" = some none) (n_isinstance : PySem.W.nsIn K mainGlobals "isinstance" = some none) (n_bool : PySem.W.nsIn K mainGlobals "bool" = some none) (n_ValueError : PySem.W.nsIn K mainGlobals "ValueError" = some none) (n_str : PySem.W.nsIn K mainGlobals "str" = some none) (n_max : PySem.W.nsIn K mainGlobals "max" = some none) {nm_NoRun q_NoRun : Str} {N_NoRun : Addr} {bs_NoRun sub_NoRun : List Value} {sn_NoRun : List Str} {ab_NoRun : Bool} {col_NoRun : Option Bool} {dd_NoRun : Option Addr} {k0_NoRun k1_NoRun k2_NoRun k3_NoRun k5_NoRun : Option Value} {od_NoRun an_NoRun : Option Addr} {sl_NoRun : Array (Option Value)} {oc_NoRun kV_NoRun dc_NoRun pm_NoRun cd_NoRun ct_NoRun : Value} (y_hn : PySem.W.specialIn K (.builtin "object.__class__") "__get__" = some (some (.builtin "getset_descriptor.__get__"))) (y_ht : PySem.W.takesIn K (.builtin "object.__class__") = some true) (v_PileError : PySem.W.nsIn K mainGlobals "PileError" = some (some (.ref f_PileError))) (y_PileError_self : PySem.W.subIn K (.ref f_PileError) (.ref f_PileError) = some true) (y_PileError_kC : PySem.W.keepIn K (.ref f_PileError) = true) (y_PileError_eC : PySem.W.subIn K (.ref f_PileError) (.type "BaseException") = some true) (y_PileError_tC : PySem.W.typeIn K (.ref f_PileError) = some (.type "type")) (y_PileError_iC : PySem.W.isClsIn K f_PileError = true) (y_PileError_ga : PySem.W.findIn K (.ref f_PileError) "__getattribute__" = some (some (.builtin "BaseException.__getattribute__"))) (y_PileError_gg : PySem.W.findIn K (.ref f_PileError) "__getattr__" = some none) (y_PileError_ha : PySem.W.findIn K (.ref f_PileError) "__class__" = some (some (.builtin "object.__class__"))) (y_PileError_hd : PySem.W.hasDictIn K f_PileError = true) (y_PileError_hm : PySem.W.mroIn K f_PileError (.type "object") = some true) (y_PileError_ve : PySem.W.subIn K (.ref f_PileError) (.type "ValueError") = some true) (v_NoRun : PySem.W.nsIn K mainGlobals "NoRun" = some (some (.ref f_NoRun))) (y_NoRun_self : PySem.W.subIn K (.ref f_NoRun) (.ref f_NoRun) = some true) (y_NoRun_kC : PySem.W.keepIn K (.ref f_NoRun) = true) (y_NoRun_eC : PySem.W.subIn K (.ref f_NoRun) (.type "BaseException") = some true) (y_NoRun_tC : PySem.W.typeIn K (.ref f_NoRun) = some (.type "type")) (y_NoRun_iC : PySem.W.isClsIn K f_NoRun = true) (y_NoRun_ga : PySem.W.findIn K (.ref f_NoRun) "__getattribute__" = some (some (.builtin "BaseException.__getattribute__"))) (y_NoRun_gg : PySem.W.findIn K (.ref f_NoRun) "__getattr__" = some none) (y_NoRun_ha : PySem.W.findIn K (.ref f_NoRun) "__class__" = some (some (.builtin "object.__class__"))) (y_NoRun_hd : PySem.W.hasDictIn K f_NoRun = true) (y_NoRun_hm : PySem.W.mroIn K f_NoRun (.type "object") = some true) (y_NoRun_ve : PySem.W.subIn K (.ref f_NoRun) (.type "ValueError") = some true) (v_NoText : PySem.W.nsIn K mainGlobals "NoText" = some (some (.ref f_NoText))) (y_NoText_self : PySem.W.subIn K (.ref f_NoText) (.ref f_NoText) = some true) (y_NoText_kC : PySem.W.keepIn K (.ref f_NoText) = true) (y_NoText_eC : PySem.W.subIn K (.ref f_NoText) (.type "BaseException") = some true) (y_NoText_tC : PySem.W.typeIn K (.ref f_NoText) = some (.type "type")) (y_NoText_iC : PySem.W.isClsIn K f_NoText = true) (y_NoText_ga : PySem.W.findIn K (.ref f_NoText) "__getattribute__" = some (some (.builtin "BaseException.__getattribute__"))) (y_NoText_gg : PySem.W.findIn K (.ref f_NoText) "__getattr__" = some none) (y_NoText_ha : PySem.W.findIn K (.ref f_NoText) "__class__" = some (some (.builtin "object.__class__"))) (y_NoText_hd : PySem.W.hasDictIn K f_NoText = true) (y_NoText_hm : PySem.W.mroIn K f_NoText (.type "object") = some true) (y_NoText_ve : PySem.W.subIn K (.ref f_NoText) (.type "ValueError") = some true) (v_TooLong : PySem.W.nsIn K mainGlobals "TooLong" = some (some (.ref f_TooLong))) (y_TooLong_self : PySem.W.subIn K (.ref f_TooLong) (.ref f_TooLong) = some true) (y_TooLong_kC : PySem.W.keepIn K (.ref f_TooLong) = true) (y_TooLong_eC : PySem.W.subIn K (.ref f_TooLong) (.type "BaseException") = some true) (y_TooLong_tC : PySem.W.typeIn K (.ref f_TooLong) = some (.type "type")) (y_TooLong_iC : PySem.W.isClsIn K f_TooLong = true) (y_TooLong_ga : PySem.W.findIn K (.ref f_TooLong) "__getattribute__" = some (some (.builtin "BaseException.__getattribute__"))) (y_TooLong_gg : PySem.W.findIn K (.ref f_TooLong) "__getattr__" = some none) (y_TooLong_ha : PySem.W.findIn K (.ref f_TooLong) "__class__" = some (some (.builtin "object.__class__"))) (y_TooLong_hd : PySem.W.hasDictIn K f_TooLong = true) (y_TooLong_hm : PySem.W.mroIn K f_TooLong (.type "object") = some true) (y_TooLong_ve : PySem.W.subIn K (.ref f_TooLong) (.type "ValueError") = some true) (v_TooMany : PySem.W.nsIn K mainGlobals "TooMany" = some (some (.ref f_TooMany))) (y_TooMany_self : PySem.W.subIn K (.ref f_TooMany) (.ref f_TooMany) = some true) (y_TooMany_kC : PySem.W.keepIn K (.ref f_TooMany) = true) (y_TooMany_eC : PySem.W.subIn K (.ref f_TooMany) (.type "BaseException") = some true) (y_TooMany_tC : PySem.W.typeIn K (.ref f_TooMany) = some (.type "type")) (y_TooMany_iC : PySem.W.isClsIn K f_TooMany = true) (y_TooMany_ga : PySem.W.findIn K (.ref f_TooMany) "__getattribute__" = some (some (.builtin "BaseException.__getattribute__"))) (y_TooMany_gg : PySem.W.findIn K (.ref f_TooMany) "__getattr__" = some none) (y_TooMany_ha : PySem.W.findIn K (.ref f_TooMany) "__class__" = some (some (.builtin "object.__class__"))) (y_TooMany_hd : PySem.W.hasDictIn K f_TooMany = true) (y_TooMany_hm : PySem.W.mroIn K f_TooMany (.type "object") = some true) (y_TooMany_ve : PySem.W.subIn K (.ref f_TooMany) (.type "ValueError") = some true) (v_NoTable : PySem.W.nsIn K mainGlobals "NoTable" = some (some (.ref f_NoTable))) (y_NoTable_self : PySem.W.subIn K (.ref f_NoTable) (.ref f_NoTable) = some true) (y_NoTable_kC : PySem.W.keepIn K (.ref f_NoTable) = true) (y_NoTable_eC : PySem.W.subIn K (.ref f_NoTable) (.type "BaseException") = some true) (y_NoTable_tC : PySem.W.typeIn K (.ref f_NoTable) = some (.type "type")) (y_NoTable_iC : PySem.W.isClsIn K f_NoTable = true) (y_NoTable_ga : PySem.W.findIn K (.ref f_NoTable) "__getattribute__" = some (some (.builtin "BaseException.__getattribute__"))) (y_NoTable_gg : PySem.W.findIn K (.ref f_NoTable) "__getattr__" = some none) (y_NoTable_ha : PySem.W.findIn K (.ref f_NoTable) "__class__" = some (some (.builtin "object.__class__"))) (y_NoTable_hd : PySem.W.hasDictIn K f_NoTable = true) (y_NoTable_hm : PySem.W.mroIn K f_NoTable (.type "object") = some true) (y_NoTable_ve : PySem.W.subIn K (.ref f_NoTable) (.type "ValueError") = some true) (v_NoRule : PySem.W.nsIn K mainGlobals "NoRule" = some (some (.ref f_NoRule))) (y_NoRule_self : PySem.W.subIn K (.ref f_NoRule) (.ref f_NoRule) = some true) (y_NoRule_kC : PySem.W.keepIn K (.ref f_NoRule) = true) (y_NoRule_eC : PySem.W.subIn K (.ref f_NoRule) (.type "BaseException") = some true) (y_NoRule_tC : PySem.W.typeIn K (.ref f_NoRule) = some (.type "type")) (y_NoRule_iC : PySem.W.isClsIn K f_NoRule = true) (y_NoRule_ga : PySem.W.findIn K (.ref f_NoRule) "__getattribute__" = some (some (.builtin "BaseException.__getattribute__"))) (y_NoRule_gg : PySem.W.findIn K (.ref f_NoRule) "__getattr__" = some none) (y_NoRule_ha : PySem.W.findIn K (.ref f_NoRule) "__class__" = some (some (.builtin "object.__class__"))) (y_NoRule_hd : PySem.W.hasDictIn K f_NoRule = true) (y_NoRule_hm : PySem.W.mroIn K f_NoRule (.type "object") = some true) (y_NoRule_ve : PySem.W.subIn K (.ref f_NoRule) (.type "ValueError") = some true) (v_NoRow : PySem.W.nsIn K mainGlobals "NoRow" = some (some (.ref f_NoRow))) (y_NoRow_self : PySem.W.subIn K (.ref f_NoRow) (.ref f_NoRow) = some true) (y_NoRow_kC : PySem.W.keepIn K (.ref f_NoRow) = true) (y_NoRow_eC : PySem.W.subIn K (.ref f_NoRow) (.type "BaseException") = some true) (y_NoRow_tC : PySem.W.typeIn K (.ref f_NoRow) = some (.type "type")) (y_NoRow_iC : PySem.W.isClsIn K f_NoRow = true) (y_NoRow_ga : PySem.W.findIn K (.ref f_NoRow) "__getattribute__" = some (some (.builtin "BaseException.__getattribute__"))) (y_NoRow_gg : PySem.W.findIn K (.ref f_NoRow) "__getattr__" = some none) (y_NoRow_ha : PySem.W.findIn K (.ref f_NoRow) "__class__" = some (some (.builtin "object.__class__"))) (y_NoRow_hd : PySem.W.hasDictIn K f_NoRow = true) (y_NoRow_hm : PySem.W.mroIn K f_NoRow (.type "object") = some true) (y_NoRow_ve : PySem.W.subIn K (.ref f_NoRow) (.type "ValueError") = some true) (s_NoRun_PileError : PySem.W.subIn K (.ref f_NoRun) (.ref f_PileError) = some true) (s_NoRun_NoText : PySem.W.subIn K (.ref f_NoRun) (.ref f_NoText) = some false) (s_NoRun_TooLong : PySem.W.subIn K (.ref f_NoRun) (.ref f_TooLong) = some false) (s_NoRun_TooMany : PySem.W.subIn K (.ref f_NoRun) (.ref f_TooMany) = some false) (s_NoRun_NoTable : PySem.W.subIn K (.ref f_NoRun) (.ref f_NoTable) = some false) (s_NoRun_NoRule : PySem.W.subIn K (.ref f_NoRun) (.ref f_NoRule) = some false) (s_NoRun_NoRow : PySem.W.subIn K (.ref f_NoRun) (.ref f_NoRow) = some false) (L_NoRun : K.lookup f_NoRun = some (excClassObj nm_NoRun q_NoRun f_NoRun N_NoRun bs_NoRun [.ref f_PileError, .type "ValueError", .type "Exception", .type "BaseException", .type "object"] true sn_NoRun sub_NoRun ab_NoRun col_NoRun dd_NoRun k0_NoRun k1_NoRun k2_NoRun k3_NoRun k5_NoRun "ValueError.__new__")) (sa_NoRun : PySem.W.findIn K (.ref f_NoRun) "__setattr__" = some (some (.builtin "object.__setattr__"))) (i_NoRun : PySem.W.findIn K (.ref f_NoRun) "__init__" = some (some (.ref f_NoRun_init))) (ti_NoRun : PySem.W.typeIn K (.ref f_NoRun_init) = some (.type "function")) (n_NoRun : PySem.W.findIn K (.ref f_NoRun) "at" = some none) (Li_NoRun : K.lookup f_NoRun_init = some ⟨oc_NoRun, od_NoRun, .func (PySem.W.fnOf "__init__" "NoRun.__init__" (defArgs st_NoRun_init) (defBody st_NoRun_init) (defScope st_NoRun_init) .none kV_NoRun dc_NoRun pm_NoRun an_NoRun cd_NoRun ct_NoRun), sl_NoRun⟩) (Ci_NoRun : PySem.W.codeIn K cd_NoRun "NoRun.__init__" = true) (Ki_NoRun : PySem.W.keepIn K (.ref f_NoRun_init) = true) (b1_PileError : PySem.W.specialIn K (.ref f_PileError) "__getattribute__" = some (some (.builtin "type.__getattribute__"))) (b2_PileError : PySem.W.readsIn K f_PileError (.type "type") = true) (b3_PileError : PySem.W.findCls K (.ref f_PileError) (.type "type") "__init__" = some (.val (.builtin "ValueError.__init__"))) :
    ∃ fd : FuncData, (∀ (s : Shared) (v : Value), BindsTo s fd ⟨[v], []⟩ [("_law_script", v)]) ∧ ∀ base : Heap, K.In base → base.Ns mainGlobals mg → FnOk PySem.Challenge.pw_pileruns_k04_runs_walked w K mg base CX0 6 fa fd ["_law_script"] (spLawH K) := by
  have e := hfa.symm.trans (PySem.W.mg_of XX GG0 a_law)
  cases e
  have z_list := PySem.W.mg_none_of XX GG0 n_list
  have z_sum := PySem.W.mg_none_of XX GG0 n_sum
  have z_len := PySem.W.mg_none_of XX GG0 n_len
  have z_range := PySem.W.mg_none_of XX GG0 n_range
  have z_int := PySem.W.mg_none_of XX GG0 n_int
  have z_tuple := PySem.W.mg_none_of XX GG0 n_tuple
  have z_enumerate := PySem.W.mg_none_of XX GG0 n_enumerate
  have z_isinstance := PySem.W.mg_none_of XX GG0 n_isinstance
  have z_bool := PySem.W.mg_none_of XX GG0 n_bool
  have z_ValueError := PySem.W.mg_none_of XX GG0 n_ValueError
  have z_str := PySem.W.mg_none_of XX GG0 n_str
  have z_max := PySem.W.mg_none_of XX GG0 n_max
  have F__law_deck := fun_mk (st := st__law_deck) l__law_deck c__law_deck k__law_deck
  have g__law_deck := PySem.W.mg_of XX GG0 a__law_deck
  have b__law_deck := F__law_deck.binds (ps := ["_law_script"]) fun _ _ _ _ _ _ us hl => match us, hl with | [_], _ => rfl
  have F__law_draw := fun_mk (st := st__law_draw) l__law_draw c__law_draw k__law_draw
  have g__law_draw := PySem.W.mg_of XX GG0 a__law_draw
  have b__law_draw := F__law_draw.binds (ps := ["_law_deck_here", "_law_most"]) fun _ _ _ _ _ _ us hl => match us, hl with | [_, _], _ => rfl
  have F__law_names := fun_mk (st := st__law_names) l__law_names c__law_names k__law_names
  have g__law_names := PySem.W.mg_of XX GG0 a__law_names
  have b__law_names := F__law_names.binds (ps := ["_law_deck_here", "_law_many"]) fun _ _ _ _ _ _ us hl => match us, hl with | [_, _], _ => rfl
  have F__law_pick := fun_mk (st := st__law_pick) l__law_pick c__law_pick k__law_pick
  have g__law_pick := PySem.W.mg_of XX GG0 a__law_pick
  have b__law_pick := F__law_pick.binds (ps := ["_law_deck_here", "_law_some"]) fun _ _ _ _ _ _ us hl => match us, hl with | [_, _], _ => rfl
  have F__law_program := fun_mk (st := st__law_program) l__law_program c__law_program k__law_program
  have g__law_program := PySem.W.mg_of XX GG0 a__law_program
  have b__law_program := F__law_program.binds (ps := ["_law_deck_here", "_law_places", "_law_marks", "_law_many"]) fun _ _ _ _ _ _ us hl => match us, hl with | [_, _, _, _], _ => rfl
  have F__law_drawn := fun_mk (st := st__law_drawn) l__law_drawn c__law_drawn k__law_drawn
  have g__law_drawn := PySem.W.mg_of XX GG0 a__law_drawn
  have b__law_drawn := F__law_drawn.binds (ps := ["_law_deck_here"]) fun _ _ _ _ _ _ us hl => match us, hl with | [_], _ => rfl
  have F__law_behind := fun_mk (st := st__law_behind) l__law_behind c__law_behind k__law_behind
  have g__law_behind := PySem.W.mg_of XX GG0 a__law_behind
  have b__law_behind := F__law_behind.binds (ps := ["_law_program_here", "_law_stand", "_law_number"]) fun _ _ _ _ _ _ us hl => match us, hl with | [_, _, _], _ => rfl
  have F__law_gone := fun_mk (st := st__law_gone) l__law_gone c__law_gone k__law_gone
  have g__law_gone := PySem.W.mg_of XX GG0 a__law_gone
  have b__law_gone := F__law_gone.binds (ps := ["_law_deck_here", "_law_program_here", "_law_stand", "_law_most"]) fun _ _ _ _ _ _ us hl => match us, hl with | [_, _, _, _], _ => rfl
  have F__law_due := fun_mk (st := st__law_due) l__law_due c__law_due k__law_due
  have g__law_due := PySem.W.mg_of XX GG0 a__law_due
  have b__law_due := F__law_due.binds (ps := ["_law_program_here", "_law_stand", "_law_run"]) fun _ _ _ _ _ _ us hl => match us, hl with | [_, _, _], _ => rfl
  have F_behind := fun_mk (st := st_behind) l_behind c_behind k_behind
  have g_behind := PySem.W.mg_of XX GG0 a_behind
  have b_behind := F_behind.binds (ps := ["program", "stand", "number"]) fun _ _ _ _ _ _ us hl => match us, hl with | [_, _, _], _ => rfl
  have F_walked := fun_mk (st := st_walked) l_walked c_walked k_walked
  have g_walked := PySem.W.mg_of XX GG0 a_walked
  have b_walked := F_walked.binds (ps := ["program", "stand", "run"]) fun _ _ _ _ _ _ us hl => match us, hl with | [_, _, _], _ => rfl
  have F__law_told := fun_mk (st := st__law_told) l__law_told c__law_told k__law_told
  have g__law_told := PySem.W.mg_of XX GG0 a__law_told
  have b__law_told := F__law_told.binds (ps := ["_law_program_here", "_law_stand", "_law_run"]) fun _ _ _ _ _ _ us hl => match us, hl with | [_, _, _], _ => rfl
  have F__law_right := fun_mk (st := st__law_right) l__law_right c__law_right k__law_right
  have g__law_right := PySem.W.mg_of XX GG0 a__law_right
  have b__law_right := F__law_right.binds (ps := ["_law_program_here", "_law_stand", "_law_run"]) fun _ _ _ _ _ _ us hl => match us, hl with | [_, _, _], _ => rfl
  have F__law_bent := fun_mk (st := st__law_bent) l__law_bent c__law_bent k__law_bent
  have g__law_bent := PySem.W.mg_of XX GG0 a__law_bent
  have b__law_bent := F__law_bent.binds (ps := ["_law_deck_here", "_law_run", "_law_many"]) fun _ _ _ _ _ _ us hl => match us, hl with | [_, _, _], _ => rfl
  have F_law := fun_mk (st := st_law) l_law c_law k_law
  have g_law := PySem.W.mg_of XX GG0 a_law
  have TX : Exs K mg f_PileError f_NoRun f_NoText f_TooLong f_TooMany f_NoTable f_NoRule f_NoRow f_NoRun_init := ⟨⟨y_PileError_self, y_PileError_kC, y_PileError_eC, y_PileError_tC, y_PileError_iC, y_PileError_ga, y_PileError_gg, y_PileError_ha, y_PileError_hd, y_PileError_hm, y_PileError_ve, y_hn, y_ht⟩, PySem.W.mg_of XX GG0 v_PileError, ⟨y_NoRun_self, y_NoRun_kC, y_NoRun_eC, y_NoRun_tC, y_NoRun_iC, y_NoRun_ga, y_NoRun_gg, y_NoRun_ha, y_NoRun_hd, y_NoRun_hm, y_NoRun_ve, y_hn, y_ht⟩, PySem.W.mg_of XX GG0 v_NoRun, ⟨y_NoText_self, y_NoText_kC, y_NoText_eC, y_NoText_tC, y_NoText_iC, y_NoText_ga, y_NoText_gg, y_NoText_ha, y_NoText_hd, y_NoText_hm, y_NoText_ve, y_hn, y_ht⟩, PySem.W.mg_of XX GG0 v_NoText, ⟨y_TooLong_self, y_TooLong_kC, y_TooLong_eC, y_TooLong_tC, y_TooLong_iC, y_TooLong_ga, y_TooLong_gg, y_TooLong_ha, y_TooLong_hd, y_TooLong_hm, y_TooLong_ve, y_hn, y_ht⟩, PySem.W.mg_of XX GG0 v_TooLong, ⟨y_TooMany_self, y_TooMany_kC, y_TooMany_eC, y_TooMany_tC, y_TooMany_iC, y_TooMany_ga, y_TooMany_gg, y_TooMany_ha, y_TooMany_hd, y_TooMany_hm, y_TooMany_ve, y_hn, y_ht⟩, PySem.W.mg_of XX GG0 v_TooMany, ⟨y_NoTable_self, y_NoTable_kC, y_NoTable_eC, y_NoTable_tC, y_NoTable_iC, y_NoTable_ga, y_NoTable_gg, y_NoTable_ha, y_NoTable_hd, y_NoTable_hm, y_NoTable_ve, y_hn, y_ht⟩, PySem.W.mg_of XX GG0 v_NoTable, ⟨y_NoRule_self, y_NoRule_kC, y_NoRule_eC, y_NoRule_tC, y_NoRule_iC, y_NoRule_ga, y_NoRule_gg, y_NoRule_ha, y_NoRule_hd, y_NoRule_hm, y_NoRule_ve, y_hn, y_ht⟩, PySem.W.mg_of XX GG0 v_NoRule, ⟨y_NoRow_self, y_NoRow_kC, y_NoRow_eC, y_NoRow_tC, y_NoRow_iC, y_NoRow_ga, y_NoRow_gg, y_NoRow_ha, y_NoRow_hd, y_NoRow_hm, y_NoRow_ve, y_hn, y_ht⟩, PySem.W.mg_of XX GG0 v_NoRow, s_NoRun_PileError, y_NoRun_self, s_NoRun_NoText, s_NoRun_TooLong, s_NoRun_TooMany, s_NoRun_NoTable, s_NoRun_NoRule, s_NoRun_NoRow, ⟨⟨_, _, _, _, _, _, _, _, _, _, _, _, _, _, _, L_NoRun, by rfl⟩, sa_NoRun, y_NoRun_eC, y_NoRun_tC, y_NoRun_kC⟩, i_NoRun, ti_NoRun, n_NoRun, b1_PileError, b2_PileError, b3_PileError⟩
  have F_NoRun_init := fun_mk (st := st_NoRun_init) Li_NoRun Ci_NoRun Ki_NoRun
  have b_NoRun_init := F_NoRun_init.binds (ps := ["self", "at"]) fun _ _ _ _ _ _ us hl => match us, hl with | [_, _], _ => rfl
  refine ⟨PySem.W.fnOf "law" "law" (defArgs st_law) (defBody st_law) (defScope st_law) .none kV_law dc_law pm_law an_law cd_law ct_law, fun s v => .of_eq rfl, fun base _ _ => ?_⟩
  have G_NoRun_init : FnOk PySem.Challenge.pw_pileruns_k04_runs_walked w K mg base CX0 1 f_NoRun_init _ ["self", "at"] (spInit f_NoRun "at") := ok_NoRun_init F_NoRun_init TX z_str
  have G__law_deck : FnOk PySem.Challenge.pw_pileruns_k04_runs_walked w K mg base CX0 1 f__law_deck _ ["_law_script"] (spDeckH K) := ok__law_deck F__law_deck z_list z_sum z_len
  have G__law_draw : FnOk PySem.Challenge.pw_pileruns_k04_runs_walked w K mg base CX0 1 f__law_draw _ ["_law_deck_here", "_law_most"] (toSp K sp__law_draw) := ok__law_draw F__law_draw
  have G__law_names : FnOk PySem.Challenge.pw_pileruns_k04_runs_walked w K mg base CX0 2 f__law_names _ ["_law_deck_here", "_law_many"] (toSp K sp__law_names) := ok__law_names F__law_names G__law_draw g__law_draw k__law_draw b__law_draw z_range z_int z_len z_list
  have G__law_pick : FnOk PySem.Challenge.pw_pileruns_k04_runs_walked w K mg base CX0 2 f__law_pick _ ["_law_deck_here", "_law_some"] (toSp K sp__law_pick) := ok__law_pick F__law_pick G__law_draw g__law_draw k__law_draw b__law_draw z_len
  have G__law_program : FnOk PySem.Challenge.pw_pileruns_k04_runs_walked w K mg base CX0 3 f__law_program _ ["_law_deck_here", "_law_places", "_law_marks", "_law_many"] (toSp K sp__law_program) := ok__law_program F__law_program G__law_draw g__law_draw k__law_draw b__law_draw G__law_pick g__law_pick k__law_pick b__law_pick z_range z_tuple
  have G__law_drawn : FnOk PySem.Challenge.pw_pileruns_k04_runs_walked w K mg base CX0 4 f__law_drawn _ ["_law_deck_here"] (toSp K sp__law_drawn) := ok__law_drawn F__law_drawn G__law_draw g__law_draw k__law_draw b__law_draw G__law_names g__law_names k__law_names b__law_names G__law_program g__law_program k__law_program b__law_program z_int
  have G__law_behind : FnOk PySem.Challenge.pw_pileruns_k04_runs_walked w K mg base CX0 1 f__law_behind _ ["_law_program_here", "_law_stand", "_law_number"] (toSp K sp__law_behind) := ok__law_behind F__law_behind
  have G__law_gone : FnOk PySem.Challenge.pw_pileruns_k04_runs_walked w K mg base CX0 3 f__law_gone _ ["_law_deck_here", "_law_program_here", "_law_stand", "_law_most"] (toSp K sp__law_gone) := ok__law_gone F__law_gone G__law_behind g__law_behind k__law_behind b__law_behind G__law_pick g__law_pick k__law_pick b__law_pick z_range z_len z_tuple
  have G__law_due : FnOk PySem.Challenge.pw_pileruns_k04_runs_walked w K mg base CX0 2 f__law_due _ ["_law_program_here", "_law_stand", "_law_run"] (toSp K sp__law_due) := ok__law_due F__law_due G__law_behind g__law_behind k__law_behind b__law_behind z_range z_len
  have G_behind : FnOk PySem.Challenge.pw_pileruns_k04_runs_walked w K mg base CX0 1 f_behind _ ["program", "stand", "number"] (toSp K sp_behind) := ok_behind F_behind z_len
  have G_walked : FnOk PySem.Challenge.pw_pileruns_k04_runs_walked w K mg base (L2.CX PySem.Challenge.pw_pileruns_k04_runs_walked w) 3 f_walked _ ["program", "stand", "run"] (toSpX K (sp_walked f_NoRun)) := ok_walked TX G_NoRun_init b_NoRun_init F_walked G_behind g_behind k_behind b_behind z_enumerate
  have G__law_told : FnOk PySem.Challenge.pw_pileruns_k04_runs_walked w K mg base CX0 4 f__law_told _ ["_law_program_here", "_law_stand", "_law_run"] (toSp K sp__law_told) := ok__law_told TX F__law_told G_walked g_walked k_walked b_walked z_isinstance z_bool z_ValueError
  have G__law_right : FnOk PySem.Challenge.pw_pileruns_k04_runs_walked w K mg base CX0 5 f__law_right _ ["_law_program_here", "_law_stand", "_law_run"] (toSp K sp__law_right) := ok__law_right F__law_right G__law_due g__law_due k__law_due b__law_due G__law_told g__law_told k__law_told b__law_told z_isinstance z_tuple z_list z_str
  have G__law_bent : FnOk PySem.Challenge.pw_pileruns_k04_runs_walked w K mg base CX0 2 f__law_bent _ ["_law_deck_here", "_law_run", "_law_many"] (toSp K sp__law_bent) := ok__law_bent F__law_bent G__law_draw g__law_draw k__law_draw b__law_draw z_max z_len z_int
  exact ok_law F_law G__law_draw g__law_draw k__law_draw b__law_draw G__law_drawn g__law_drawn k__law_drawn b__law_drawn G__law_pick g__law_pick k__law_pick b__law_pick G__law_gone g__law_gone k__law_gone b__law_gone G__law_right g__law_right k__law_right b__law_right G__law_bent g__law_bent k__law_bent b__law_bent G__law_told g__law_told k__law_told b__law_told G__law_deck g__law_deck k__law_deck b__law_deck z_range z_tuple z_len
end
end pileruns_k04_runs_walked
open PySem PySem.W PyProof.Rows
set_option maxHeartbeats 0 in
theorem PySem.Challenge.cw_pileruns_k04_runs_walked_holds : PySem.Challenge.rw_pileruns_k04_runs_walked.Holds := by
  w_on; o_law; k_head; (case hw => w_witness2)
  k_fill
  refine L2.walk_of (l := PySem.Challenge.rw_pileruns_k04_runs_walked) (n := 63) (k := 6) (x := "_law_script") (CX := fun _ => L2.CX0) (sp := fun w => DM.spLawH _) rfl (by decide) rfl ⟨rfl, by decide, by decide⟩ (fun w h Y => PySem.W.kIn_of Y) ?F (fun _ _ a ns hl _ hS => ⟨a, ns, rfl, hS, hl, fun _ => rfl⟩) (fun _ _ _ _ _ h => h)
  case F =>
    intro w mg fa h KX G hmg
    refine' pileruns_k04_runs_walked.all_mk KX G hmg ?a__law_deck ?l__law_deck ?c__law_deck ?k__law_deck ?a__law_draw ?l__law_draw ?c__law_draw ?k__law_draw ?a__law_names ?l__law_names ?c__law_names ?k__law_names ?a__law_pick ?l__law_pick ?c__law_pick ?k__law_pick ?a__law_program ?l__law_program ?c__law_program ?k__law_program ?a__law_drawn ?l__law_drawn ?c__law_drawn ?k__law_drawn ?a__law_behind ?l__law_behind ?c__law_behind ?k__law_behind ?a__law_gone ?l__law_gone ?c__law_gone ?k__law_gone ?a__law_due ?l__law_due ?c__law_due ?k__law_due ?a_behind ?l_behind ?c_behind ?k_behind ?a_walked ?l_walked ?c_walked ?k_walked ?a__law_told ?l__law_told ?c__law_told ?k__law_told ?a__law_right ?l__law_right ?c__law_right ?k__law_right ?a__law_bent ?l__law_bent ?c__law_bent ?k__law_bent ?a_law ?l_law ?c_law ?k_law ?n_list ?n_sum ?n_len ?n_range ?n_int ?n_tuple ?n_enumerate ?n_isinstance ?n_bool ?n_ValueError ?n_str ?n_max ?y_hn ?y_ht ?v_PileError ?y_PileError_self ?y_PileError_kC ?y_PileError_eC ?y_PileError_tC ?y_PileError_iC ?y_PileError_ga ?y_PileError_gg ?y_PileError_ha ?y_PileError_hd ?y_PileError_hm ?y_PileError_ve ?v_NoRun ?y_NoRun_self ?y_NoRun_kC ?y_NoRun_eC ?y_NoRun_tC ?y_NoRun_iC ?y_NoRun_ga ?y_NoRun_gg ?y_NoRun_ha ?y_NoRun_hd ?y_NoRun_hm ?y_NoRun_ve ?v_NoText ?y_NoText_self ?y_NoText_kC ?y_NoText_eC ?y_NoText_tC ?y_NoText_iC ?y_NoText_ga ?y_NoText_gg ?y_NoText_ha ?y_NoText_hd ?y_NoText_hm ?y_NoText_ve ?v_TooLong ?y_TooLong_self ?y_TooLong_kC ?y_TooLong_eC ?y_TooLong_tC ?y_TooLong_iC ?y_TooLong_ga ?y_TooLong_gg ?y_TooLong_ha ?y_TooLong_hd ?y_TooLong_hm ?y_TooLong_ve ?v_TooMany ?y_TooMany_self ?y_TooMany_kC ?y_TooMany_eC ?y_TooMany_tC ?y_TooMany_iC ?y_TooMany_ga ?y_TooMany_gg ?y_TooMany_ha ?y_TooMany_hd ?y_TooMany_hm ?y_TooMany_ve ?v_NoTable ?y_NoTable_self ?y_NoTable_kC ?y_NoTable_eC ?y_NoTable_tC ?y_NoTable_iC ?y_NoTable_ga ?y_NoTable_gg ?y_NoTable_ha ?y_NoTable_hd ?y_NoTable_hm ?y_NoTable_ve ?v_NoRule ?y_NoRule_self ?y_NoRule_kC ?y_NoRule_eC ?y_NoRule_tC ?y_NoRule_iC ?y_NoRule_ga ?y_NoRule_gg ?y_NoRule_ha ?y_NoRule_hd ?y_NoRule_hm ?y_NoRule_ve ?v_NoRow ?y_NoRow_self ?y_NoRow_kC ?y_NoRow_eC ?y_NoRow_tC ?y_NoRow_iC ?y_NoRow_ga ?y_NoRow_gg ?y_NoRow_ha ?y_NoRow_hd ?y_NoRow_hm ?y_NoRow_ve ?s_NoRun_PileError ?s_NoRun_NoText ?s_NoRun_TooLong ?s_NoRun_TooMany ?s_NoRun_NoTable ?s_NoRun_NoRule ?s_NoRun_NoRow ?L_NoRun ?sa_NoRun ?i_NoRun ?ti_NoRun ?n_NoRun ?Li_NoRun ?Ci_NoRun ?Ki_NoRun ?b1_PileError ?b2_PileError ?b3_PileError
    (case a__law_deck => k_is); (case l__law_deck => k_is); (case c__law_deck => k_is); (case k__law_deck => k_is); (case a__law_draw => k_is); (case l__law_draw => k_is); (case c__law_draw => k_is); (case k__law_draw => k_is); (case a__law_names => k_is); (case l__law_names => k_is); (case c__law_names => k_is); (case k__law_names => k_is); (case a__law_pick => k_is); (case l__law_pick => k_is); (case c__law_pick => k_is); (case k__law_pick => k_is); (case a__law_program => k_is); (case l__law_program => k_is); (case c__law_program => k_is); (case k__law_program => k_is); (case a__law_drawn => k_is); (case l__law_drawn => k_is); (case c__law_drawn => k_is); (case k__law_drawn => k_is); (case a__law_behind => k_is); (case l__law_behind => k_is); (case c__law_behind => k_is); (case k__law_behind => k_is); (case a__law_gone => k_is); (case l__law_gone => k_is); (case c__law_gone => k_is); (case k__law_gone => k_is); (case a__law_due => k_is); (case l__law_due => k_is); (case c__law_due => k_is); (case k__law_due => k_is); (case a_behind => k_is); (case l_behind => k_is); (case c_behind => k_is); (case k_behind => k_is); (case a_walked => k_is); (case l_walked => k_is); (case c_walked => k_is); (case k_walked => k_is); (case a__law_told => k_is); (case l__law_told => k_is); (case c__law_told => k_is); (case k__law_told => k_is); (case a__law_right => k_is); (case l__law_right => k_is); (case c__law_right => k_is); (case k__law_right => k_is); (case a__law_bent => k_is); (case l__law_bent => k_is); (case c__law_bent => k_is); (case k__law_bent => k_is); (case a_law => k_is); (case l_law => k_is); (case c_law => k_is); (case k_law => k_is); (case n_list => k_is); (case n_sum => k_is); (case n_len => k_is); (case n_range => k_is); (case n_int => k_is); (case n_tuple => k_is); (case n_enumerate => k_is); (case n_isinstance => k_is); (case n_bool => k_is); (case n_ValueError => k_is); (case n_str => k_is); (case n_max => k_is); (case y_hn => k_is); (case y_ht => k_is); (case v_PileError => k_is); (case y_PileError_self => (first | rfl | k_is)); (case y_PileError_kC => k_is); (case y_PileError_eC => k_is); (case y_PileError_tC => k_is); (case y_PileError_iC => k_is); (case y_PileError_ga => k_is); (case y_PileError_gg => k_is); (case y_PileError_ha => k_is); (case y_PileError_hd => k_is); (case y_PileError_hm => k_is); (case y_PileError_ve => k_is); (case v_NoRun => k_is); (case y_NoRun_self => (first | rfl | k_is)); (case y_NoRun_kC => k_is); (case y_NoRun_eC => k_is); (case y_NoRun_tC => k_is); (case y_NoRun_iC => k_is); (case y_NoRun_ga => k_is); (case y_NoRun_gg => k_is); (case y_NoRun_ha => k_is); (case y_NoRun_hd => k_is); (case y_NoRun_hm => k_is); (case y_NoRun_ve => k_is); (case v_NoText => k_is); (case y_NoText_self => (first | rfl | k_is)); (case y_NoText_kC => k_is); (case y_NoText_eC => k_is); (case y_NoText_tC => k_is); (case y_NoText_iC => k_is); (case y_NoText_ga => k_is); (case y_NoText_gg => k_is); (case y_NoText_ha => k_is); (case y_NoText_hd => k_is); (case y_NoText_hm => k_is); (case y_NoText_ve => k_is); (case v_TooLong => k_is); (case y_TooLong_self => (first | rfl | k_is)); (case y_TooLong_kC => k_is); (case y_TooLong_eC => k_is); (case y_TooLong_tC => k_is); (case y_TooLong_iC => k_is); (case y_TooLong_ga => k_is); (case y_TooLong_gg => k_is); (case y_TooLong_ha => k_is); (case y_TooLong_hd => k_is); (case y_TooLong_hm => k_is); (case y_TooLong_ve => k_is); (case v_TooMany => k_is); (case y_TooMany_self => (first | rfl | k_is)); (case y_TooMany_kC => k_is); (case y_TooMany_eC => k_is); (case y_TooMany_tC => k_is); (case y_TooMany_iC => k_is); (case y_TooMany_ga => k_is); (case y_TooMany_gg => k_is); (case y_TooMany_ha => k_is); (case y_TooMany_hd => k_is); (case y_TooMany_hm => k_is); (case y_TooMany_ve => k_is); (case v_NoTable => k_is); (case y_NoTable_self => (first | rfl | k_is)); (case y_NoTable_kC => k_is); (case y_NoTable_eC => k_is); (case y_NoTable_tC => k_is); (case y_NoTable_iC => k_is); (case y_NoTable_ga => k_is); (case y_NoTable_gg => k_is); (case y_NoTable_ha => k_is); (case y_NoTable_hd => k_is); (case y_NoTable_hm => k_is); (case y_NoTable_ve => k_is); (case v_NoRule => k_is); (case y_NoRule_self => (first | rfl | k_is)); (case y_NoRule_kC => k_is); (case y_NoRule_eC => k_is); (case y_NoRule_tC => k_is); (case y_NoRule_iC => k_is); (case y_NoRule_ga => k_is); (case y_NoRule_gg => k_is); (case y_NoRule_ha => k_is); (case y_NoRule_hd => k_is); (case y_NoRule_hm => k_is); (case y_NoRule_ve => k_is); (case v_NoRow => k_is); (case y_NoRow_self => (first | rfl | k_is)); (case y_NoRow_kC => k_is); (case y_NoRow_eC => k_is); (case y_NoRow_tC => k_is); (case y_NoRow_iC => k_is); (case y_NoRow_ga => k_is); (case y_NoRow_gg => k_is); (case y_NoRow_ha => k_is); (case y_NoRow_hd => k_is); (case y_NoRow_hm => k_is); (case y_NoRow_ve => k_is); (case s_NoRun_PileError => k_is); (case s_NoRun_NoText => k_is); (case s_NoRun_TooLong => k_is); (case s_NoRun_TooMany => k_is); (case s_NoRun_NoTable => k_is); (case s_NoRun_NoRule => k_is); (case s_NoRun_NoRow => k_is); (case L_NoRun => k_is); (case sa_NoRun => k_is); (case i_NoRun => k_is); (case ti_NoRun => k_is); (case n_NoRun => k_is); (case Li_NoRun => k_is); (case Ci_NoRun => k_is); (case Ki_NoRun => k_is); (case b1_PileError => k_is); (case b2_PileError => k_is); (case b3_PileError => k_is)
