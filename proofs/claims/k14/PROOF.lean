import PyProof.Rows.All
import Wide.All
import OpenK.AllK
import Wide.FinOn
import HandS.ForMost
import HandS.TupAny
import HandS.IsInst
import HandS.Zip
import HandS.Style
import HandS.Deep
import HandS.Flow
import HandS.Conv
import HandS.Wide
import HandS.Exc
import HandS.ExcOwn
import HandS.WordsExc
import HandS.TryOnly
import KE.KRevSl
import HandS.WordsDict
import HandS.More
import HandS.TupMul
import HandS.Replace
import KE.GoesEnum
import HandS.ExcInit
import HandS.ExcIs
import HandS.ExcField
import HandS.RaiseMore
import KE.SortData
import PyProof.ReprRoads
import PyProof.StrLawsRepr
import HandS.TupLen
import HandS.SetFor
import HandS.Strs
import HandS.TupSets
import HandS.SetKeys
import PyProof.DictMoreH
import KE.KDictPairs
import PySem.Challenge.RW_pileruns_k14_piles_read
set_option Elab.async false
set_option linter.all false
set_option maxRecDepth 100000
set_option maxHeartbeats 1000000
namespace DM
open PySem L2

/-! values with their tuples written out; what may change stands in a store M -/
inductive D where
  | non | bl (b : Bool) | int (i : Int) | str (x : Str) | tup (xs : List D) | ref (a : Addr) | ty (n : String) | lst (xs : List D) | dic (kvs : List (Key × D)) | dit (kvs : List (List Key × D))
/-- the heap, and which of its objects are frozen (lists, dicts that nobody writes any more) -/
structure HF where
  h : Hp
  F : Addr → Prop
abbrev HF.up (H : HF) (p : Addr) (u : HO) : HF := ⟨upd H.h p u, H.F⟩
abbrev HF.fz (H : HF) (p : Addr) : HF := ⟨H.h, fun a => H.F a ∨ a = p⟩
abbrev HF.upz (H : HF) (p : Addr) (u : HO) : HF := ⟨upd H.h p u, fun a => H.F a ∨ a = p⟩

mutual
inductive VR (K : PySem.W.Frag) (H : HF) : D → V → Prop
  | non : VR K H .non .non
  | bl (b : Bool) : VR K H (.bl b) (.bl b)
  | int (i : Int) : VR K H (.int i) (.int i)
  | str (x : Str) : VR K H (.str x) (.str x)
  | ref (a : Addr) : VR K H (.ref a) (.ref a)
  | ty (n : String) : VR K H (.ty n) (.ty n)
  | tup {ds : List D} {a : Addr} {vs : List V} : H.h a = some (.tup vs) → VRs K H ds vs → VR K H (.tup ds) (.ref a)
  | lst {ds : List D} {a : Addr} {vs : List V} : H.h a = some (.lst vs) → H.F a → VRs K H ds vs → VR K H (.lst ds) (.ref a)
  | dic {kvs : List (Key × D)} {a : Addr} {vs : List (Key × V)} : H.h a = some (.dK vs) → H.F a → KRs K H kvs vs → VR K H (.dic kvs) (.ref a)
  | dit {kvs : List (List Key × D)} {a : Addr} {vs : List (List Key × V)} : H.h a = some (.dT vs) → H.F a → TRs K H kvs vs → VR K H (.dit kvs) (.ref a)
inductive VRs (K : PySem.W.Frag) (H : HF) : List D → List V → Prop
  | nil : VRs K H [] []
  | cons {d : D} {ds : List D} {v : V} {vs : List V} : VR K H d v → VRs K H ds vs → VRs K H (d :: ds) (v :: vs)
inductive KRs (K : PySem.W.Frag) (H : HF) : List (Key × D) → List (Key × V) → Prop
  | nil : KRs K H [] []
  | cons {k : Key} {d : D} {ds : List (Key × D)} {v : V} {vs : List (Key × V)} : VR K H d v → KRs K H ds vs → KRs K H ((k, d) :: ds) ((k, v) :: vs)
inductive TRs (K : PySem.W.Frag) (H : HF) : List (List Key × D) → List (List Key × V) → Prop
  | nil : TRs K H [] []
  | cons {k : List Key} {d : D} {ds : List (List Key × D)} {v : V} {vs : List (List Key × V)} : VR K H d v → TRs K H ds vs → TRs K H ((k, d) :: ds) ((k, v) :: vs)
end

/-- the tuples stay, and what is frozen -/
structure TX (K : PySem.W.Frag) (H H' : HF) : Prop where
  tu : ∀ a xs, SqT K H.h a xs → SqT K H'.h a xs
  tp : ∀ a xs, H.h a = some (.tup xs) → H'.h a = some (.tup xs)
  fz : ∀ a o, H.F a → H.h a = some o → H'.F a ∧ H'.h a = some o

section
variable {K : PySem.W.Frag} {H H' H2 : HF}
theorem TX.refl : TX K H H := ⟨fun _ _ h => h, fun _ _ h => h, fun _ _ f h => ⟨f, h⟩⟩
theorem TX.trans (a : TX K H H') (b : TX K H' H2) : TX K H H2 := ⟨fun x y h => b.tu x y (a.tu x y h), fun x y h => b.tp x y (a.tp x y h), fun x o f h => by
  obtain ⟨f1, h1⟩ := a.fz x o f h
  exact b.fz x o f1 h1⟩
mutual
theorem VR.mono (t : TX K H H') : ∀ (d : D) (v : V), VR K H d v → VR K H' d v
  | _, _, .non => .non
  | _, _, .bl b => .bl b
  | _, _, .int b => .int b
  | _, _, .str b => .str b
  | _, _, .ref b => .ref b
  | _, _, .ty b => .ty b
  | _, _, .tup h q => .tup (t.tp _ _ h) (VRs.mono t _ _ q)
  | _, _, .lst h f q => .lst (t.fz _ _ f h).2 (t.fz _ _ f h).1 (VRs.mono t _ _ q)
  | _, _, .dic h f q => .dic (t.fz _ _ f h).2 (t.fz _ _ f h).1 (KRs.mono t _ _ q)
  | _, _, .dit h f q => .dit (t.fz _ _ f h).2 (t.fz _ _ f h).1 (TRs.mono t _ _ q)
theorem VRs.mono (t : TX K H H') : ∀ (ds : List D) (vs : List V), VRs K H ds vs → VRs K H' ds vs
  | _, _, .nil => .nil
  | _, _, .cons h q => .cons (VR.mono t _ _ h) (VRs.mono t _ _ q)
theorem KRs.mono (t : TX K H H') : ∀ (ds : List (Key × D)) (vs : List (Key × V)), KRs K H ds vs → KRs K H' ds vs
  | _, _, .nil => .nil
  | _, _, .cons h q => .cons (VR.mono t _ _ h) (KRs.mono t _ _ q)
theorem TRs.mono (t : TX K H H') : ∀ (ds : List (List Key × D)) (vs : List (List Key × V)), TRs K H ds vs → TRs K H' ds vs
  | _, _, .nil => .nil
  | _, _, .cons h q => .cons (VR.mono t _ _ h) (TRs.mono t _ _ q)
end
theorem VRs.length : ∀ {ds : List D} {vs : List V}, VRs K H ds vs → ds.length = vs.length
  | _, _, .nil => rfl
  | _, _, .cons _ q => by simp [VRs.length q]
theorem VRs.get : ∀ {ds : List D} {vs : List V} {i : Nat} {d : D}, VRs K H ds vs → ds[i]? = some d → ∃ v, vs[i]? = some v ∧ VR K H d v
  | _, _, _, _, .nil, e => by simp at e
  | _, _, 0, _, .cons r _, e => by simp at e; subst e; exact ⟨_, rfl, r⟩
  | _, _, i + 1, x, .cons _ t, e => by
    obtain ⟨u, h1, h2⟩ := VRs.get (i := i) (d := x) t (by simpa using e)
    exact ⟨u, by simpa using h1, h2⟩
theorem VRs.getV : ∀ {ds : List D} {vs : List V} {i : Nat} {v : V}, VRs K H ds vs → vs[i]? = some v → ∃ d, ds[i]? = some d ∧ VR K H d v
  | _, _, _, _, .nil, e => by simp at e
  | _, _, 0, _, .cons r _, e => by simp at e; subst e; exact ⟨_, rfl, r⟩
  | _, _, i + 1, x, .cons _ t, e => by
    obtain ⟨u, h1, h2⟩ := VRs.getV (i := i) (v := x) t (by simpa using e)
    exact ⟨u, by simpa using h1, h2⟩
theorem VRs.append : ∀ {ds es : List D} {vs ws : List V}, VRs K H ds vs → VRs K H es ws → VRs K H (ds ++ es) (vs ++ ws)
  | _, _, _, _, .nil, s => s
  | _, _, _, _, .cons r t, s => .cons r (VRs.append t s)
theorem VRs.take : ∀ {ds : List D} {vs : List V} (n : Nat), VRs K H ds vs → VRs K H (ds.take n) (vs.take n)
  | _, _, 0, _ => .nil
  | _, _, _ + 1, .nil => .nil
  | _, _, n + 1, .cons r t => .cons r (VRs.take n t)
theorem VRs.drop : ∀ {ds : List D} {vs : List V} (n : Nat), VRs K H ds vs → VRs K H (ds.drop n) (vs.drop n)
  | _, _, 0, r => r
  | _, _, _ + 1, .nil => .nil
  | _, _, n + 1, .cons _ t => VRs.drop n t
theorem VRs.set {d : D} {v : V} (r : VR K H d v) : ∀ {ds : List D} {vs : List V} (i : Nat), VRs K H ds vs → VRs K H (ds.set i d) (vs.set i v)
  | _, _, _, .nil => .nil
  | _, _, 0, .cons _ t => .cons r t
  | _, _, i + 1, .cons q t => .cons q (VRs.set r i t)
theorem VRs.eraseIdx : ∀ {ds : List D} {vs : List V} (i : Nat), VRs K H ds vs → VRs K H (ds.eraseIdx i) (vs.eraseIdx i)
  | _, _, _, .nil => .nil
  | _, _, 0, .cons _ t => t
  | _, _, i + 1, .cons q t => .cons q (VRs.eraseIdx i t)
theorem VRs.reverse {ds : List D} {vs : List V} (h : VRs K H ds vs) : VRs K H ds.reverse vs.reverse := by
  induction ds generalizing vs with
  | nil => cases h; exact .nil
  | cons d ds ih =>
    cases h with
    | cons r t =>
      rw [List.reverse_cons, List.reverse_cons]
      exact VRs.append (ih t) (.cons r .nil)
theorem VRs.dropLast {ds : List D} {vs : List V} (h : VRs K H ds vs) : VRs K H ds.dropLast vs.dropLast := by
  rw [List.dropLast_eq_take, List.dropLast_eq_take, h.length]
  exact h.take _
end

/-! ### the store -/
inductive MO where
  | lst (xs : List D)
  | dic (kvs : List (Key × D))
  | dit (kvs : List (List Key × D))
  | ins (C : Addr) (fs : List (Str × D))
  | xd (fs : List (Str × D))
abbrev Mm := Addr → Option MO
def mup (M : Mm) (a : Addr) (o : MO) : Mm := fun b => if b = a then some o else M b
theorem mup_same {M : Mm} {a : Addr} {o : MO} : mup M a o a = some o := by unfold mup; rw [if_pos rfl]
theorem mup_ne {M : Mm} {a b : Addr} {o : MO} (h : b ≠ a) : mup M a o b = M b := by unfold mup; rw [if_neg h]
theorem mup_mup {M : Mm} {a : Addr} {o u : MO} : mup (mup M a o) a u = mup M a u := by
  funext b; unfold mup; split <;> rfl
theorem mup_comm {M : Mm} {a b : Addr} {o u : MO} (h : a ≠ b) : mup (mup M a o) b u = mup (mup M b u) a o := by
  funext c; unfold mup; split <;> split <;> simp_all
inductive FR (K : PySem.W.Frag) (H : HF) {κ : Type} : List (κ × D) → List (κ × V) → Prop
  | nil : FR K H [] []
  | cons {k : κ} {d : D} {ds : List (κ × D)} {v : V} {vs : List (κ × V)} : VR K H d v → FR K H ds vs → FR K H ((k, d) :: ds) ((k, v) :: vs)
def OR (K : PySem.W.Frag) (H : HF) (a : Addr) : MO → Prop
  | .lst ds => ∃ vs, H.h a = some (.lst vs) ∧ VRs K H ds vs
  | .dic kvs => ∃ vs, H.h a = some (.dK vs) ∧ FR K H kvs vs
  | .dit kvs => ∃ vs, H.h a = some (.dT vs) ∧ FR K H kvs vs
  | .ins C fs => ∃ dx vs, H.h a = some (.ins C dx vs) ∧ FR K H fs vs
  | .xd fs => ∃ vs, H.h a = some (.xd vs) ∧ FR K H fs vs
structure MR (K : PySem.W.Frag) (M : Mm) (H : HF) : Prop where
  ob : ∀ a o, M a = some o → OR K H a o
  nf : ∀ a, H.F a → M a = none
  sm : ∀ a, H.F a → ∃ o, H.h a = some o
/-- what the store doesn't know stays as it was, and is not known behind -/
structure GG (M : Mm) (H : HF) (M' : Mm) (H' : HF) : Prop where
  fr : ∀ a o, H.h a = some o → M a = none → H'.h a = some o ∧ M' a = none ∧ (H'.F a ↔ H.F a)
  al : ∀ a o, H.h a = some o → ∃ u, H'.h a = some u
def Sub (M M' : Mm) : Prop := ∀ a o, M a = some o → M' a = some o

section
variable {K : PySem.W.Frag} {H H' H2 : HF} {M M' M2 : Mm} {a : Addr} {o : MO}
theorem FR.mono {κ : Type} (t : TX K H H') : ∀ {ds : List (κ × D)} {vs : List (κ × V)}, FR K H ds vs → FR K H' ds vs
  | _, _, .nil => .nil
  | _, _, .cons h q => .cons (VR.mono t _ _ h) (FR.mono t q)
theorem TRs.fr : ∀ {ds : List (List Key × D)} {vs : List (List Key × V)}, TRs K H ds vs → FR K H ds vs
  | _, _, .nil => .nil
  | _, _, .cons h q => .cons h (TRs.fr q)
theorem FR.tr : ∀ {ds : List (List Key × D)} {vs : List (List Key × V)}, FR K H ds vs → TRs K H ds vs
  | _, _, .nil => .nil
  | _, _, .cons h q => .cons h (FR.tr q)
theorem KRs.fr : ∀ {ds : List (Key × D)} {vs : List (Key × V)}, KRs K H ds vs → FR K H ds vs
  | _, _, .nil => .nil
  | _, _, .cons h q => .cons h (KRs.fr q)
theorem FR.kr : ∀ {ds : List (Key × D)} {vs : List (Key × V)}, FR K H ds vs → KRs K H ds vs
  | _, _, .nil => .nil
  | _, _, .cons h q => .cons h (FR.kr q)
theorem Sub.refl : Sub M M := fun _ _ h => h
theorem Sub.trans (x : Sub M M') (y : Sub M' M2) : Sub M M2 := fun a o h => y a o (x a o h)
theorem Sub.mup (h : M a = none) : Sub M (mup M a o) := fun b u e => by
  rw [mup_ne]
  · exact e
  · rintro rfl; rw [h] at e; cases e
theorem Sub.none (s : Sub M M') (h : M' a = none) : M a = none := by
  cases e : M a with
  | none => rfl
  | some u => rw [s a u e] at h; cases h
theorem MR.sub (m : MR K M' H) (s : Sub M M') : MR K M H := ⟨fun a o e => m.ob a o (s a o e), fun a f => s.none (m.nf a f), m.sm⟩
theorem GG.refl : GG M H M H := ⟨fun _ _ h n => ⟨h, n, Iff.rfl⟩, fun _ o h => ⟨o, h⟩⟩
theorem GG.trans (x : GG M H M' H') (y : GG M' H' M2 H2) : GG M H M2 H2 := ⟨fun a o h n => by
  obtain ⟨h1, n1, f1⟩ := x.fr a o h n
  obtain ⟨h2, n2, f2⟩ := y.fr a o h1 n1
  exact ⟨h2, n2, f2.trans f1⟩, fun a o h => by
  obtain ⟨u, h1⟩ := x.al a o h
  exact y.al a u h1⟩
theorem GG.sub (g : GG M H M' H') (s : Sub M2 M') : GG M H M2 H' := by
  refine ⟨fun a o h n => ?_, g.al⟩
  obtain ⟨h1, n1, f1⟩ := g.fr a o h n
  exact ⟨h1, s.none n1, f1⟩
theorem GG.free (g : GG M H M' H') {p : Addr} (h : H'.h p = none) : H.h p = none := by
  cases e : H.h p with
  | none => rfl
  | some o =>
    obtain ⟨u, h1⟩ := g.al p o e
    rw [h] at h1
    cases h1
/-- a hidden object stays so -/
theorem GG.nfr (g : GG M H M' H') {p : Addr} {o : HO} (h : H.h p = some o) (n : M p = none) (f : ¬H.F p) : H'.h p = some o ∧ M' p = none ∧ ¬H'.F p := by
  obtain ⟨h1, n1, f1⟩ := g.fr p o h n
  exact ⟨h1, n1, fun x => f (f1.mp x)⟩
theorem MR.ofree (m : MR K M H) (hx : ∀ u, ¬OR K H a u) : M a = none := by
  cases e : M a with
  | none => rfl
  | some u => exact absurd (m.ob a u e) (hx u)
theorem MR.no_tup (m : MR K M H) {xs : List V} (h : H.h a = some (.tup xs)) : M a = none := m.ofree fun u q => by
  cases u with
  | lst _ => obtain ⟨_, q, _⟩ := q; rw [h] at q; cases q
  | dic _ => obtain ⟨_, q, _⟩ := q; rw [h] at q; cases q
  | dit _ => obtain ⟨_, q, _⟩ := q; rw [h] at q; cases q
  | ins _ _ => obtain ⟨_, _, q, _⟩ := q; rw [h] at q; cases q
  | xd _ => obtain ⟨_, q, _⟩ := q; rw [h] at q; cases q
theorem MR.no_frz (m : MR K M H) {ob : Obj} {u : HO} (h : H.h a = some (.frz ob u)) : M a = none := m.ofree fun u q => by
  cases u with
  | lst _ => obtain ⟨_, q, _⟩ := q; rw [h] at q; cases q
  | dic _ => obtain ⟨_, q, _⟩ := q; rw [h] at q; cases q
  | dit _ => obtain ⟨_, q, _⟩ := q; rw [h] at q; cases q
  | ins _ _ => obtain ⟨_, _, q, _⟩ := q; rw [h] at q; cases q
  | xd _ => obtain ⟨_, q, _⟩ := q; rw [h] at q; cases q
theorem MR.free (m : MR K M H) (h : H.h a = none) : M a = none := m.ofree fun u q => by
  cases u with
  | lst _ => obtain ⟨_, q, _⟩ := q; rw [h] at q; cases q
  | dic _ => obtain ⟨_, q, _⟩ := q; rw [h] at q; cases q
  | dit _ => obtain ⟨_, q, _⟩ := q; rw [h] at q; cases q
  | ins _ _ => obtain ⟨_, _, q, _⟩ := q; rw [h] at q; cases q
  | xd _ => obtain ⟨_, q, _⟩ := q; rw [h] at q; cases q
theorem MR.freeF (m : MR K M H) (h : H.h a = none) : ¬H.F a := fun f => by
  obtain ⟨o, e⟩ := m.sm a f
  rw [h] at e
  cases e
theorem MR.knownF (m : MR K M H) (h : M a = some o) : ¬H.F a := fun f => by
  rw [m.nf a f] at h
  cases h
theorem GG.tx (g : GG M H M' H') (m : MR K M H) : TX K H H' := ⟨fun b xs h => by
  rcases h with (h | ⟨ob, h⟩) | h
  · exact .inl (.inl (g.fr b _ h (m.no_tup h)).1)
  · exact .inl (.inr ⟨ob, (g.fr b _ h (m.no_frz h)).1⟩)
  · exact .inr h, fun b xs h => (g.fr b _ h (m.no_tup h)).1, fun b o f h => by
  obtain ⟨h1, _, f1⟩ := g.fr b o h (m.nf b f)
  exact ⟨f1.mpr f, h1⟩⟩
theorem OR.mono (t : TX K H H') (e : H'.h a = H.h a) : ∀ {o : MO}, OR K H a o → OR K H' a o
  | .lst _, ⟨vs, h, r⟩ => ⟨vs, e.trans h, VRs.mono t _ _ r⟩
  | .dic _, ⟨vs, h, r⟩ => ⟨vs, e.trans h, r.mono t⟩
  | .dit _, ⟨vs, h, r⟩ => ⟨vs, e.trans h, r.mono t⟩
  | .ins _ _, ⟨dx, vs, h, r⟩ => ⟨dx, vs, e.trans h, r.mono t⟩
  | .xd _, ⟨vs, h, r⟩ => ⟨vs, e.trans h, r.mono t⟩
/-- the tuples and what is frozen stay when something else is written -/
theorem TX.upne {p : Addr} {u : HO} (ht : ∀ xs, H.h p ≠ some (.tup xs)) (hz : ∀ ob xs, H.h p ≠ some (.frz ob xs)) (hf : ¬H.F p) : TX K H (H.up p u) := ⟨fun b xs q => by
  rcases q with (q | ⟨ob, q⟩) | q
  · exact .inl (.inl (by show upd H.h p u b = _; rw [upd_ne]; exact q; rintro rfl; exact ht _ q))
  · exact .inl (.inr ⟨ob, by show upd H.h p u b = _; rw [upd_ne]; exact q; rintro rfl; exact hz _ _ q⟩)
  · exact .inr q, fun b xs q => by show upd H.h p u b = _; rw [upd_ne]; exact q; rintro rfl; exact ht _ q, fun b o f h => ⟨f, by show upd H.h p u b = _; rw [upd_ne]; exact h; rintro rfl; exact hf f⟩⟩
theorem TX.fzz {p : Addr} : TX K H (H.fz p) := ⟨fun _ _ h => h, fun _ _ h => h, fun _ _ f h => ⟨.inl f, h⟩⟩
/-- a new object -/
theorem TX.new (m : MR K M H) {p : Addr} {u : HO} (h : H.h p = none) : TX K H (H.up p u) := TX.upne (fun _ e => by rw [h] at e; cases e) (fun _ _ e => by rw [h] at e; cases e) (m.freeF h)
/-- an object of the store is written -/
theorem TX.put (m : MR K M H) {u : HO} (h : M a = some o) : TX K H (H.up a u) := TX.upne (fun _ e => by rw [m.no_tup e] at h; cases h) (fun _ _ e => by rw [m.no_frz e] at h; cases h) (m.knownF h)
theorem upd_al {H : Hp} {p : Addr} {u : HO} (a : Addr) (o : HO) (h : H a = some o) : ∃ w, upd H p u a = some w := by
  by_cases e : a = p
  · subst e; exact ⟨u, upd_same⟩
  · exact ⟨o, by rw [upd_ne e]; exact h⟩
theorem MR.newT (m : MR K M H) {p : Addr} {u : HO} (h : H.h p = none) : MR K M (H.up p u) := ⟨fun b w e => by
  have : b ≠ p := by rintro rfl; rw [m.free h] at e; cases e
  exact (m.ob b w e).mono (TX.new m h) (upd_ne this), m.nf, fun b f => by
  obtain ⟨o, e⟩ := m.sm b f
  exact upd_al b o e⟩
theorem GG.newT {p : Addr} {u : HO} (h : H.h p = none) : GG M H M (H.up p u) := ⟨fun b w e n => by
  have : b ≠ p := by rintro rfl; rw [h] at e; cases e
  exact ⟨by show upd H.h p u b = _; rw [upd_ne this]; exact e, n, Iff.rfl⟩, upd_al⟩
theorem MR.new (m : MR K M H) {p : Addr} {u : HO} {w : MO} (h : H.h p = none) (r : OR K (H.up p u) p w) : MR K (mup M p w) (H.up p u) := ⟨fun b z e => by
  by_cases hb : b = p
  · subst hb; rw [mup_same] at e; cases e; exact r
  · rw [mup_ne hb] at e
    exact (m.ob b z e).mono (TX.new m h) (upd_ne hb), fun b f => by
  have : b ≠ p := by rintro rfl; exact m.freeF h f
  rw [mup_ne this]
  exact m.nf b f, (m.newT h).sm⟩
theorem GG.new {p : Addr} {u : HO} {w : MO} (h : H.h p = none) : GG M H (mup M p w) (H.up p u) := ⟨fun b z e n => by
  have : b ≠ p := by rintro rfl; rw [h] at e; cases e
  exact ⟨by show upd H.h p u b = _; rw [upd_ne this]; exact e, by rw [mup_ne this]; exact n, Iff.rfl⟩, upd_al⟩
theorem MR.put (m : MR K M H) {u : HO} {w : MO} (h : M a = some o) (r : OR K (H.up a u) a w) : MR K (mup M a w) (H.up a u) := ⟨fun b z e => by
  by_cases hb : b = a
  · subst hb; rw [mup_same] at e; cases e; exact r
  · rw [mup_ne hb] at e
    exact (m.ob b z e).mono (TX.put m h) (upd_ne hb), fun b f => by
  have : b ≠ a := by rintro rfl; exact m.knownF h f
  rw [mup_ne this]
  exact m.nf b f, fun b f => by
  obtain ⟨o, e⟩ := m.sm b f
  exact upd_al b o e⟩
theorem GG.put {u : HO} {w : MO} (h : M a = some o) : GG M H (mup M a w) (H.up a u) := ⟨fun b z e n => by
  have : b ≠ a := by rintro rfl; rw [h] at n; cases n
  exact ⟨by show upd H.h a u b = _; rw [upd_ne this]; exact e, by rw [mup_ne this]; exact n, Iff.rfl⟩, upd_al⟩
/-- a hidden object is frozen -/
theorem MR.fzz (m : MR K M H) {p : Addr} {u : HO} (h : H.h p = some u) (n : M p = none) : MR K M (H.fz p) := ⟨fun b w e => (m.ob b w e).mono TX.fzz rfl, fun b f => by
  rcases f with f | rfl
  · exact m.nf b f
  · exact n, fun b f => by
  rcases f with f | rfl
  · exact m.sm b f
  · exact ⟨u, h⟩⟩
theorem GG.fzz (g : GG M H M' H') {p : Addr} (h : H.h p = none) : GG M H M' (H'.fz p) := ⟨fun a o e n => by
  obtain ⟨h1, n1, f1⟩ := g.fr a o e n
  have : a ≠ p := by rintro rfl; rw [h] at e; cases e
  exact ⟨h1, n1, ⟨fun x => x.elim f1.mp (fun y => absurd y this), fun x => .inl (f1.mpr x)⟩⟩, g.al⟩
/-- a hidden object becomes known -/
theorem MR.known (m : MR K M H) {p : Addr} {w : MO} (r : OR K H p w) (f : ¬H.F p) : MR K (mup M p w) H := ⟨fun b o e => by
  by_cases hb : b = p
  · subst hb; rw [mup_same] at e; cases e; exact r
  · rw [mup_ne hb] at e
    exact m.ob b o e, fun b g => by
  have : b ≠ p := by rintro rfl; exact f g
  rw [mup_ne this]
  exact m.nf b g, m.sm⟩
theorem GG.known {p : Addr} {w : MO} (g : GG M H M' H') (h : H.h p = none) : GG M H (mup M' p w) H' := ⟨fun a o e n => by
  obtain ⟨h1, n1, f1⟩ := g.fr a o e n
  have : a ≠ p := by rintro rfl; rw [h] at e; cases e
  exact ⟨h1, by rw [mup_ne this]; exact n1, f1⟩, g.al⟩
/-- a hidden object is written -/
theorem TX.hidden {p : Addr} {u : HO} {vs : List V} (h : H.h p = some (.lst vs)) (f : ¬H.F p) : TX K H (H.up p u) := TX.upne (fun _ e => by rw [h] at e; cases e) (fun _ _ e => by rw [h] at e; cases e) f
theorem MR.hidden (m : MR K M H) {p : Addr} {u : HO} {vs : List V} (h : H.h p = some (.lst vs)) (n : M p = none) (f : ¬H.F p) : MR K M (H.up p u) := ⟨fun b w e => by
  have : b ≠ p := by rintro rfl; rw [n] at e; cases e
  exact (m.ob b w e).mono (TX.hidden h f) (upd_ne this), m.nf, fun b f => by
  obtain ⟨o, e⟩ := m.sm b f
  exact upd_al b o e⟩
theorem GG.hidden {p : Addr} {u : HO} (g : GG M H M' H') (h : H.h p = none) : GG M H M' (H'.up p u) := ⟨fun a o e n => by
  obtain ⟨h1, n1, f1⟩ := g.fr a o e n
  have : a ≠ p := by rintro rfl; rw [h] at e; cases e
  exact ⟨by show upd H'.h p u a = _; rw [upd_ne this]; exact h1, n1, f1⟩, fun a o e => by
  obtain ⟨u, e1⟩ := g.al a o e
  exact upd_al a u e1⟩
end
end DM

namespace DM
open PySem L2

/-! slots, readings, judgements -/
abbrev DSt := List (Option D)
abbrev DQ := D → Mm → Prop
abbrev TDE := DSt → Mm → DQ → Prop
abbrev TDT := DSt → Mm → (Bool → Mm → Prop) → Prop
abbrev TDA := DSt → Mm → (List D → Mm → Prop) → Prop
abbrev DX := Addr → List (Str × D) → DSt → Mm → Prop
structure DEnds where
  nx : DSt → Mm → Prop
  rt : DQ
  xc : DX := fun _ _ _ _ => False
  bk : DSt → Mm → Prop := fun _ _ => False
  ct : DSt → Mm → Prop := fun _ _ => False
abbrev TDS := DEnds → DSt → Mm → Prop
def SR (K : PySem.W.Frag) (H : HF) (ds : DSt) (σ : St) : Prop := ds.length = σ.length ∧ ∀ (i : Nat) (d : D), ds[i]? = some (some d) → ∃ v, σ[i]? = some (some v) ∧ VR K H d v
section
variable {K : PySem.W.Frag} {H H' : HF} {M M' : Mm} {ds : DSt} {σ : St}
theorem SR.mono (s : SR K H ds σ) (t : TX K H H') : SR K H' ds σ := ⟨s.1, fun i d e => by
  obtain ⟨v, h1, h2⟩ := s.2 i d e
  exact ⟨v, h1, VR.mono t _ _ h2⟩⟩
theorem SR.gg (s : SR K H ds σ) (m : MR K M H) (g : GG M H M' H') : SR K H' ds σ := s.mono (g.tx m)
theorem SR.set (s : SR K H ds σ) {d : D} {v : V} (r : VR K H d v) (i : Nat) : SR K H (ds.set i (some d)) (σ.set i (some v)) := by
  refine ⟨by rw [List.length_set, List.length_set]; exact s.1, fun j e h => ?_⟩
  by_cases hij : i = j
  · subst hij
    by_cases hl : i < ds.length
    · rw [List.getElem?_set_self hl] at h
      cases h
      exact ⟨v, by rw [List.getElem?_set_self (by rw [← s.1]; exact hl)], r⟩
    · rw [List.getElem?_eq_none (by rw [List.length_set]; omega)] at h
      cases h
  · rw [List.getElem?_set_ne hij] at h ⊢
    exact s.2 j e h
theorem SR.forget (s : SR K H ds σ) (i : Nat) : SR K H (ds.set i none) (σ.set i none) := by
  refine ⟨by rw [List.length_set, List.length_set]; exact s.1, fun j e h => ?_⟩
  by_cases hij : i = j
  · subst hij
    by_cases hl : i < ds.length
    · rw [List.getElem?_set_self hl] at h
      cases h
    · rw [List.getElem?_eq_none (by rw [List.length_set]; omega)] at h
      cases h
  · rw [List.getElem?_set_ne hij] at h ⊢
    exact s.2 j e h
end
structure JE (X : Cx) (e : Expr) (t : TDE) : Prop where
  go : ∃ t0, PE X e t0 ∧ ∀ (ds : DSt) (σ : St) (H : HF) (M : Mm) (Q : DQ) (Q0 : VK), SR X.K H ds σ → MR X.K M H → t ds M Q →
    (∀ v H' d M', VR X.K H' d v → MR X.K M' H' → GG M H M' H' → Q d M' → Q0 v H'.h) → t0 σ H.h Q0
structure JT (X : Cx) (e : Expr) (t : TDT) : Prop where
  go : ∃ t0, PT X e t0 ∧ ∀ (ds : DSt) (σ : St) (H : HF) (M : Mm) (Q : Bool → Mm → Prop) (Q0 : Bool → Hp → Prop), SR X.K H ds σ → MR X.K M H → t ds M Q →
    (∀ b H' M', MR X.K M' H' → GG M H M' H' → Q b M' → Q0 b H'.h) → t0 σ H.h Q0
structure JW (X : Cx) (e : Expr) (t : TDT) : Prop where
  go : ∃ t0, PW X e t0 ∧ ∀ (ds : DSt) (σ : St) (H : HF) (M : Mm) (Q : Bool → Mm → Prop) (Q0 : Bool → Hp → Prop), SR X.K H ds σ → MR X.K M H → t ds M Q →
    (∀ b H' M', MR X.K M' H' → GG M H M' H' → Q b M' → Q0 b H'.h) → t0 σ H.h Q0
structure JA (X : Cx) (es : List Expr) (t : TDA) : Prop where
  go : ∃ t0, PA X es t0 ∧ ∀ (ds : DSt) (σ : St) (H : HF) (M : Mm) (Q : List D → Mm → Prop) (Q0 : List V → Hp → Prop), SR X.K H ds σ → MR X.K M H → t ds M Q →
    (∀ vs H' es M', VRs X.K H' es vs → MR X.K M' H' → GG M H M' H' → Q es M' → Q0 vs H'.h) → t0 σ H.h Q0
/-- an exception's own dict -/
def XR (K : PySem.W.Frag) (M : Mm) (H : HF) (od : Option Addr) (fs : List (Str × D)) : Prop := match od with
  | none => fs = []
  | some a => M a = none ∧ ¬H.F a ∧ ∃ vs, H.h a = some (.xd vs) ∧ FR K H fs vs
def XF (H0 : HF) (od : Option Addr) : Prop := ∀ dd, od = some dd → H0.h dd = none
/-- what is wanted behind, on both sides; H0, M0: as the def began -/
structure Link (K : PySem.W.Frag) (W : WX) (M0 : Mm) (H0 : HF) (D0 : Ends) (D1 : DEnds) : Prop where
  nx : ∀ σ ds H M, GG M0 H0 M H → SR K H ds σ → MR K M H → D1.nx ds M → D0.nx σ H.h
  rt : ∀ v d H M, GG M0 H0 M H → VR K H d v → MR K M H → D1.rt d M → D0.rt v H.h
  bk : ∀ σ ds H M, GG M0 H0 M H → SR K H ds σ → MR K M H → D1.bk ds M → D0.bk σ H.h
  ct : ∀ σ ds H M, GG M0 H0 M H → SR K H ds σ → MR K M H → D1.ct ds M → D0.ct σ H.h
  xc : ∀ C od σ ds fs H M, XF H0 od → GG M0 H0 M H → SR K H ds σ → XR K M H od fs → MR K M H → D1.xc C fs ds M → W (.ref C) od σ H.h
structure JS (X : Cx) (W : WX) (st : Stmt) (t : TDS) : Prop where
  go : ∃ t0, PS X st t0 ∧ ∀ (M0 : Mm) (H0 : HF) (D0 : Ends) (D1 : DEnds), Link X.K W M0 H0 D0 D1 → ∀ (ds : DSt) (σ : St) (H : HF) (M : Mm), GG M0 H0 M H → SR X.K H ds σ → MR X.K M H → t D1 ds M → t0 D0 σ H.h
structure JB (X : Cx) (W : WX) (st : List Stmt) (t : TDS) : Prop where
  go : ∃ t0, PSs X st t0 ∧ ∀ (M0 : Mm) (H0 : HF) (D0 : Ends) (D1 : DEnds), Link X.K W M0 H0 D0 D1 → ∀ (ds : DSt) (σ : St) (H : HF) (M : Mm), GG M0 H0 M H → SR X.K H ds σ → MR X.K M H → t D1 ds M → t0 D0 σ H.h

/-! ### expressions -/
def dget (ds : DSt) (i : Nat) : Option D := (ds[i]?).getD none
@[simp] theorem dget_zero (x : Option D) (r : DSt) : dget (x :: r) 0 = x := rfl
@[simp] theorem dget_succ (x : Option D) (r : DSt) (i : Nat) : dget (x :: r) (i + 1) = dget r i := rfl
def dVar (i : Nat) : TDE := fun ds M Q => match dget ds i with | some d => Q d M | none => False
def dC (d : D) : TDE := fun _ M Q => Q d M
section
variable {X : Cx}
theorem je_pe {e : Expr} {t0 : TE} {t : TDE} (h : PE X e t0) (g : ∀ (ds : DSt) (σ : St) (H : HF) (M : Mm) (Q : DQ) (Q0 : VK), SR X.K H ds σ → MR X.K M H → t ds M Q →
    (∀ v H' d M', VR X.K H' d v → MR X.K M' H' → GG M H M' H' → Q d M' → Q0 v H'.h) → t0 σ H.h Q0) : JE X e t := ⟨t0, h, g⟩
theorem je_var {e : Expr} {i : Nat} (h : PE X e (tVar i)) : JE X e (dVar i) := je_pe h fun ds σ H M Q Q0 s m q k => by
  unfold dVar dget at q
  cases e : ds[i]? with
  | none => rw [e] at q; exact q.elim
  | some o =>
    cases o with
    | none => rw [e] at q; exact q.elim
    | some d =>
      rw [e] at q
      obtain ⟨v, h1, h2⟩ := s.2 i d e
      exact ⟨v, h1, k v H d M h2 m GG.refl q⟩
/-- the name that stands in the i-th slot -/
theorem jv (i : Nat) {x : Str} {pos : Pos} (hN : X.N[i]? = some x := by rfl) (hv : Vis X.env.scope x := by first | exact Or.inl rfl | exact Or.inr (Or.inl rfl) | exact Or.inr (Or.inr rfl)) (hd : (x == ("__debug__" : Str)) = false := by decide)
    (hcd : (x == ("__classdict__" : Str)) = false := by decide) : JE X (.Name x pos) (dVar i) := je_var (pe_var hN hv hd hcd)
theorem je_c {e : Expr} {d : D} {v : V} (h : PE X e (tC v)) (r : ∀ H, VR X.K H d v) : JE X e (dC d) := je_pe h fun _ _ H M _ _ _ m q k => k v H d M (r H) m GG.refl q
theorem je_int {i j pos} : JE X (.Constant (.int i) j pos) (dC (.int i)) := je_c pe_int fun _ => .int i
theorem je_bl {b j pos} : JE X (.Constant (.bool b) j pos) (dC (.bl b)) := je_c pe_bl fun _ => .bl b
theorem je_non {j pos} : JE X (.Constant .none j pos) (dC .non) := je_c pe_non fun _ => .non
theorem je_str {x j pos} : JE X (.Constant (.str x) j pos) (dC (.str x)) := je_c pe_str fun _ => .str x
/-- a module's constant -/
theorem je_gstr {x : Str} {z : Str} {t : Tok} {pos : Pos} (hg : Gl X x) (hm : X.mg x = some (.str z t)) (hd : (x == ("__debug__" : Str)) = false := by decide) : JE X (.Name x pos) (dC (.str z)) := je_c (pe_glob (v := .str z) hg hm ⟨_, rfl⟩ hd) fun _ => .str z
theorem je_gint {x : Str} {z : Int} {t : Tok} {pos : Pos} (hg : Gl X x) (hm : X.mg x = some (.int z t)) (hd : (x == ("__debug__" : Str)) = false := by decide) : JE X (.Name x pos) (dC (.int z)) := je_c (pe_glob (v := .int z) hg hm ⟨_, rfl⟩ hd) fun _ => .int z
theorem je_ty {x : Str} {n : String} {pos : Pos} (hg : Gl X x) (hm : X.mg x = none) (hv : bootBuiltins x = some (.type n)) (hn : x ≠ "__name__" := by decide) (hd : (x == ("__debug__" : Str)) = false := by decide) : JE X (.Name x pos) (dC (.ty n)) :=
  je_c (pe_bltn (v := .ty n) hg hm hv rfl hn hd) fun _ => .ty n

/-- arguments -/
def dNil : TDA := fun _ M Q => Q [] M
def dCons (ta : TDE) (tr : TDA) : TDA := fun ds M Q => ta ds M fun x M1 => tr ds M1 fun xs M2 => Q (x :: xs) M2
theorem ja_nil : JA X [] dNil := ⟨_, pa_nil, fun _ _ H M _ _ _ m q k => k [] H [] M .nil m GG.refl q⟩
theorem ja_cons {e : Expr} {es : List Expr} {te : TDE} {t : TDA} (ha : JE X e te) (hr : JA X es t) (hs : starEach (e :: es) X.env = (false, eval e X.env) :: starEach es X.env := by rfl) : JA X (e :: es) (dCons te t) := by
  obtain ⟨t0, p, g⟩ := ha
  obtain ⟨u0, p', g'⟩ := hr
  refine ⟨_, pa_cons p p' hs, fun ds σ H M Q Q0 s m q k => ?_⟩
  refine g ds σ H M _ _ s m q fun v H1 d M1 r1 m1 g1 q1 => ?_
  refine g' ds σ H1 M1 _ _ (s.gg m g1) m1 q1 fun vs H2 es M2 r2 m2 g2 q2 => ?_
  exact k _ H2 _ M2 (.cons (VR.mono (g2.tx m1) _ _ r1) r2) m2 (g1.trans g2) q2

/-- displays -/
def dTup (t : TDA) : TDE := fun ds M Q => t ds M fun xs M1 => xs.length ≤ sizeLine ∧ Q (.tup xs) M1
def dLst (t : TDA) : TDE := fun ds M Q => t ds M fun xs M1 => xs.length ≤ sizeLine ∧ ∀ p, M1 p = none → Q (.ref p) (mup M1 p (.lst xs))
theorem je_tup {es : List Expr} {x1} {pos : Pos} {t : TDA} (h : JA X es t) : JE X (.Tuple es x1 pos) (dTup t) := by
  obtain ⟨t0, p, g⟩ := h
  refine je_pe (pe_tup p) fun ds σ H M Q Q0 s m q k => ?_
  refine g ds σ H M _ _ s m q fun vs H1 es M1 r1 m1 g1 q1 => ⟨by rw [← r1.length]; exact q1.1, fun a ha => ?_⟩
  exact k _ _ _ M1 (.tup upd_same (VRs.mono (TX.new m1 ha) _ _ r1)) (m1.newT ha) (g1.trans (GG.newT ha)) q1.2
theorem je_lst {es : List Expr} {pos : Pos} {t : TDA} (h : JA X es t) : JE X (.List es pos) (dLst t) := by
  obtain ⟨t0, p, g⟩ := h
  refine je_pe (pe_lst p) fun ds σ H M Q Q0 s m q k => ?_
  refine g ds σ H M _ _ s m q fun vs H1 es M1 r1 m1 g1 q1 => ⟨by rw [← r1.length]; exact q1.1, fun a ha => ?_⟩
  exact k _ _ _ _ (.ref a) (m1.new (w := .lst es) ha ⟨vs, upd_same, VRs.mono (TX.new m1 ha) _ _ r1⟩) (g1.trans (GG.new ha)) (q1.2 a (m1.free ha))
end

/-! ### operators -/
abbrev DR2 := D → D → Mm → DQ → Prop
def Lift2 (K : PySem.W.Frag) (r : R2) (dr : DR2) : Prop := ∀ (x y : V) (dx dy : D) (H : HF) (M : Mm) (Q : DQ) (Q0 : VK), VR K H dx x → VR K H dy y → MR K M H → dr dx dy M Q →
  (∀ v H' d M', VR K H' d v → MR K M' H' → GG M H M' H' → Q d M' → Q0 v H'.h) → r x y H.h Q0
def dOp (r : DR2) (ta tb : TDE) : TDE := fun ds M Q => ta ds M fun x M1 => tb ds M1 fun y M2 => r x y M2 Q
section
variable {X : Cx} {a b : Expr} {ta tb : TDE} {pos : Pos}
theorem op2 {ua ub : TE} {r : R2} {dr : DR2} (hl : Lift2 X.K r dr) (ga : ∀ (ds : DSt) (σ : St) (H : HF) (M : Mm) (Q : DQ) (Q0 : VK), SR X.K H ds σ → MR X.K M H → ta ds M Q →
    (∀ v H' d M', VR X.K H' d v → MR X.K M' H' → GG M H M' H' → Q d M' → Q0 v H'.h) → ua σ H.h Q0) (gb : ∀ (ds : DSt) (σ : St) (H : HF) (M : Mm) (Q : DQ) (Q0 : VK), SR X.K H ds σ → MR X.K M H → tb ds M Q →
    (∀ v H' d M', VR X.K H' d v → MR X.K M' H' → GG M H M' H' → Q d M' → Q0 v H'.h) → ub σ H.h Q0) (ds : DSt) (σ : St) (H : HF) (M : Mm) (Q : DQ) (Q0 : VK) (s : SR X.K H ds σ) (m : MR X.K M H) (q : dOp dr ta tb ds M Q)
    (k : ∀ v H' d M', VR X.K H' d v → MR X.K M' H' → GG M H M' H' → Q d M' → Q0 v H'.h) : tOp r ua ub σ H.h Q0 := by
  refine ga ds σ H M _ _ s m q fun v H1 d M1 r1 m1 g1 q1 => ?_
  refine gb ds σ H1 M1 _ _ (s.gg m g1) m1 q1 fun u H2 e M2 r2 m2 g2 q2 => ?_
  exact hl v u d e H2 M2 Q Q0 (VR.mono (g2.tx m1) _ _ r1) r2 m2 q2 fun w H3 f M3 r3 m3 g3 q3 => k w H3 f M3 r3 m3 ((g1.trans g2).trans g3) q3
theorem je_op {op : Operator} {r : R2} {dr : DR2} (ho : OpR X (binaryOp op) r) (hl : Lift2 X.K r dr) (ha : JE X a ta) (hb : JE X b tb) : JE X (.BinOp a op b pos) (dOp dr ta tb) := by
  obtain ⟨u, p, g⟩ := ha
  obtain ⟨u', p', g'⟩ := hb
  exact je_pe (pe_op ho p p') (op2 hl g g')
theorem je_cmpR {op : CmpOp} {r : R2} {dr : DR2} (ho : OpR X (compareOp op) r) (hl : Lift2 X.K r dr) (ha : JE X a ta) (hb : JE X b tb) (hm : behindInMarks op b = false) : JE X (.Compare a [op] [b] pos) (dOp dr ta tb) := by
  obtain ⟨u, p, g⟩ := ha
  obtain ⟨u', p', g'⟩ := hb
  exact je_pe (pe_cmpR ho p p' hm) (op2 hl g g')
/-- a value as a test: a bool -/
def isB (d : D) (Q : Bool → Prop) : Prop := match d with | .bl b => Q b | _ => False
def dTest (t : TDE) : TDT := fun ds M Q => t ds M fun x M1 => isB x fun b => Q b M1
theorem isB_out {K : PySem.W.Frag} {H : HF} {d : D} {v : V} {Q : Bool → Prop} (r : VR K H d v) (q : isB d Q) : ∃ k, v = .bl k ∧ Q k := by
  cases r with
  | bl b => exact ⟨b, rfl, q⟩
  | _ => exact q.elim
theorem jt_cmpR {op : CmpOp} {r : R2} {dr : DR2} (ho : OpR X (compareOp op) r) (hl : Lift2 X.K r dr) (ha : JE X a ta) (hb : JE X b tb) (hm : behindInMarks op b = false) : JT X (.Compare a [op] [b] pos) (dTest (dOp dr ta tb)) := by
  obtain ⟨u, p, g⟩ := ha
  obtain ⟨u', p', g'⟩ := hb
  refine ⟨_, pt_cmpR ho p p' hm, fun ds σ H M Q Q0 s m q k => ?_⟩
  refine op2 hl g g' ds σ H M _ _ s m q fun v H' d M' r m' gg q' => ?_
  obtain ⟨b, e, q⟩ := isB_out r q'
  exact ⟨b, e, k b H' M' m' gg q⟩
theorem jt_val {e : Expr} {t : TDE} (h : JE X e t) (he : ∀ whole, isTrue e X.env whole = (do let v ← whole; standAt e.pos; holding [v] (truthy v)) := by intro _; rfl) : JT X e (dTest t) := by
  obtain ⟨u, p, g⟩ := h
  refine ⟨_, pt_val p he, fun ds σ H M Q Q0 s m q k => ?_⟩
  refine g ds σ H M _ _ s m q fun v H' d M' r m' gg q' => ?_
  obtain ⟨b, e, q⟩ := isB_out r q'
  exact ⟨b, e, k b H' M' m' gg q⟩
/-- and, or, not as tests -/
def dAnd (t u : TDT) : TDT := fun ds M Q => t ds M fun c M1 => if c = true then u ds M1 Q else Q false M1
def dOr (t u : TDT) : TDT := fun ds M Q => t ds M fun c M1 => if c = true then Q true M1 else u ds M1 Q
def dNot (t : TDT) : TDT := fun ds M Q => t ds M fun c M1 => Q (!c) M1
variable {t t' : TDT} {rest : List Expr}
theorem jw_and1 (ha : JT X a t) : JW X (.BoolOp .And [a] pos) t := by
  obtain ⟨u, p, g⟩ := ha
  exact ⟨_, pw_and1 p, g⟩
theorem jw_or1 (ha : JT X a t) : JW X (.BoolOp .Or [a] pos) t := by
  obtain ⟨u, p, g⟩ := ha
  exact ⟨_, pw_or1 p, g⟩
theorem jw_and (ha : JT X a t) (hb : JW X (.BoolOp .And (b :: rest) pos) t') : JW X (.BoolOp .And (a :: b :: rest) pos) (dAnd t t') := by
  obtain ⟨u, p, g⟩ := ha
  obtain ⟨u', p', g'⟩ := hb
  refine ⟨_, pw_and p p', fun ds σ H M Q Q0 s m q k => ?_⟩
  refine g ds σ H M _ _ s m q fun c H1 M1 m1 g1 q1 => ?_
  cases c with
  | true => exact g' ds σ H1 M1 _ _ (s.gg m g1) m1 q1 fun b H2 M2 m2 g2 q2 => k b H2 M2 m2 (g1.trans g2) q2
  | false => exact k false H1 M1 m1 g1 q1
theorem jw_or (ha : JT X a t) (hb : JW X (.BoolOp .Or (b :: rest) pos) t') : JW X (.BoolOp .Or (a :: b :: rest) pos) (dOr t t') := by
  obtain ⟨u, p, g⟩ := ha
  obtain ⟨u', p', g'⟩ := hb
  refine ⟨_, pw_or p p', fun ds σ H M Q Q0 s m q k => ?_⟩
  refine g ds σ H M _ _ s m q fun c H1 M1 m1 g1 q1 => ?_
  cases c with
  | false => exact g' ds σ H1 M1 _ _ (s.gg m g1) m1 q1 fun b H2 M2 m2 g2 q2 => k b H2 M2 m2 (g1.trans g2) q2
  | true => exact k true H1 M1 m1 g1 q1
theorem JW.jt {e : Expr} (h : JW X e t) : JT X e t := by
  obtain ⟨u, p, g⟩ := h
  exact ⟨u, p.pt, g⟩
theorem jt_not (ha : JT X a t) : JT X (.UnaryOp .Not a pos) (dNot t) := by
  obtain ⟨u, p, g⟩ := ha
  exact ⟨_, pt_not p, fun ds σ H M Q Q0 s m q k => g ds σ H M _ _ s m q fun c H1 M1 m1 g1 q1 => k _ H1 M1 m1 g1 q1⟩
/-- and, or, not as values: all but the last bools -/
def dAndV (ta tb : TDE) : TDE := fun ds M Q => ta ds M fun x M1 => isB x fun c => if c = true then tb ds M1 Q else Q (.bl false) M1
def dOrV (ta tb : TDE) : TDE := fun ds M Q => ta ds M fun x M1 => isB x fun c => if c = true then Q (.bl true) M1 else tb ds M1 Q
def dNotV (ta : TDE) : TDE := fun ds M Q => ta ds M fun x M1 => isB x fun c => Q (.bl (!c)) M1
theorem je_one {op} (h : JE X a ta) : JE X (.BoolOp op [a] pos) ta := by
  obtain ⟨u, p, g⟩ := h
  exact ⟨u, pe_one p, g⟩
theorem je_and (ha : JE X a ta) (hb : JE X (.BoolOp .And (b :: rest) pos) tb) : JE X (.BoolOp .And (a :: b :: rest) pos) (dAndV ta tb) := by
  obtain ⟨u, p, g⟩ := ha
  obtain ⟨u', p', g'⟩ := hb
  refine je_pe (pe_and p p') fun ds σ H M Q Q0 s m q k => ?_
  refine g ds σ H M _ _ s m q fun v H1 d M1 r1 m1 g1 q1 => ?_
  obtain ⟨c, e, q1⟩ := isB_out r1 q1
  refine ⟨c, e, ?_⟩
  cases c with
  | true => exact g' ds σ H1 M1 _ _ (s.gg m g1) m1 q1 fun v H2 d M2 r2 m2 g2 q2 => k v H2 d M2 r2 m2 (g1.trans g2) q2
  | false => exact k _ H1 _ M1 (.bl false) m1 g1 q1
theorem je_or (ha : JE X a ta) (hb : JE X (.BoolOp .Or (b :: rest) pos) tb) : JE X (.BoolOp .Or (a :: b :: rest) pos) (dOrV ta tb) := by
  obtain ⟨u, p, g⟩ := ha
  obtain ⟨u', p', g'⟩ := hb
  refine je_pe (pe_or p p') fun ds σ H M Q Q0 s m q k => ?_
  refine g ds σ H M _ _ s m q fun v H1 d M1 r1 m1 g1 q1 => ?_
  obtain ⟨c, e, q1⟩ := isB_out r1 q1
  refine ⟨c, e, ?_⟩
  cases c with
  | false => exact g' ds σ H1 M1 _ _ (s.gg m g1) m1 q1 fun v H2 d M2 r2 m2 g2 q2 => k v H2 d M2 r2 m2 (g1.trans g2) q2
  | true => exact k _ H1 _ M1 (.bl true) m1 g1 q1
theorem je_not (ha : JE X a ta) : JE X (.UnaryOp .Not a pos) (dNotV ta) := by
  obtain ⟨u, p, g⟩ := ha
  refine je_pe (pe_not p) fun ds σ H M Q Q0 s m q k => ?_
  refine g ds σ H M _ _ s m q fun v H1 d M1 r1 m1 g1 q1 => ?_
  obtain ⟨c, e, q1⟩ := isB_out r1 q1
  exact ⟨c, e, k _ H1 _ M1 (.bl _) m1 g1 q1⟩
def dIf (t : TDT) (ta tb : TDE) : TDE := fun ds M Q => t ds M fun c M1 => if c = true then ta ds M1 Q else tb ds M1 Q
theorem je_ifExp {c : Expr} (hc : JT X c t) (ha : JE X a ta) (hb : JE X b tb) : JE X (.IfExp c a b pos) (dIf t ta tb) := by
  obtain ⟨u, p, g⟩ := hc
  obtain ⟨u1, p1, g1⟩ := ha
  obtain ⟨u2, p2, g2⟩ := hb
  refine je_pe (pe_ifExp p p1 p2) fun ds σ H M Q Q0 s m q k => ?_
  refine g ds σ H M _ _ s m q fun c H1 M1 m1 gg1 q1 => ?_
  cases c with
  | true => exact g1 ds σ H1 M1 _ _ (s.gg m gg1) m1 q1 fun v H2 d M2 r2 m2 gg2 q2 => k v H2 d M2 r2 m2 (gg1.trans gg2) q2
  | false => exact g2 ds σ H1 M1 _ _ (s.gg m gg1) m1 q1 fun v H2 d M2 r2 m2 gg2 q2 => k v H2 d M2 r2 m2 (gg1.trans gg2) q2
end
end DM

namespace DM
open PySem L2
open PyProof.Rows (b2i)

/-! ### what a value of a kind looks like below -/
section
variable {K : PySem.W.Frag} {H : HF} {M : Mm}
theorem VR.int_v {i : Int} {v : V} (r : VR K H (.int i) v) : v = .int i := by cases r; rfl
theorem VR.bl_v {i : Bool} {v : V} (r : VR K H (.bl i) v) : v = .bl i := by cases r; rfl
theorem VR.str_v {i : Str} {v : V} (r : VR K H (.str i) v) : v = .str i := by cases r; rfl
theorem VR.ref_v {i : Addr} {v : V} (r : VR K H (.ref i) v) : v = .ref i := by cases r; rfl
theorem VR.non_v {v : V} (r : VR K H .non v) : v = .non := by cases r; rfl
theorem VR.ty_v {n : String} {v : V} (r : VR K H (.ty n) v) : v = .ty n := by cases r; rfl
theorem VR.tup_v {ds : List D} {v : V} (r : VR K H (.tup ds) v) : ∃ a vs, v = .ref a ∧ SqT K H.h a vs ∧ VRs K H ds vs := by
  cases r with
  | tup h q => exact ⟨_, _, rfl, SqT.of h, q⟩
/-- a tuple's own object -/
theorem VR.tup_t {ds : List D} {v : V} (r : VR K H (.tup ds) v) : ∃ a vs, v = .ref a ∧ H.h a = some (.tup vs) ∧ VRs K H ds vs := by
  cases r with
  | tup h q => exact ⟨_, _, rfl, h, q⟩
theorem VR.lst_v {ds : List D} {v : V} (r : VR K H (.lst ds) v) : ∃ a vs, v = .ref a ∧ H.h a = some (.lst vs) ∧ H.F a ∧ VRs K H ds vs := by
  cases r with
  | lst h f q => exact ⟨_, _, rfl, h, f, q⟩
theorem VR.dic_v {ds : List (Key × D)} {v : V} (r : VR K H (.dic ds) v) : ∃ a vs, v = .ref a ∧ H.h a = some (.dK vs) ∧ H.F a ∧ FR K H ds vs := by
  cases r with
  | dic h f q => exact ⟨_, _, rfl, h, f, q.fr⟩
theorem VR.dit_v {ds : List (List Key × D)} {v : V} (r : VR K H (.dit ds) v) : ∃ a vs, v = .ref a ∧ H.h a = some (.dT vs) ∧ H.F a ∧ FR K H ds vs := by
  cases r with
  | dit h f q => exact ⟨_, _, rfl, h, f, q.fr⟩
end

/-! ### arithmetic -/
def lstOf (M : Mm) (a : Addr) : Option (List D) := match M a with | some (.lst xs) => some xs | _ => none
theorem lstOf_some {M : Mm} {a : Addr} {xs : List D} (h : M a = some (.lst xs)) : lstOf M a = some xs := by unfold lstOf; rw [h]
theorem of_lstOf {M : Mm} {a : Addr} {xs : List D} (h : lstOf M a = some xs) : M a = some (.lst xs) := by
  unfold lstOf at h
  split at h
  · cases h; assumption
  · cases h
theorem lstOf_mup_same {M : Mm} {a : Addr} {xs : List D} : lstOf (mup M a (.lst xs)) a = some xs := lstOf_some mup_same
theorem lstOf_mup_ne {M : Mm} {a b : Addr} {o : MO} (h : b ≠ a) : lstOf (mup M a o) b = lstOf M b := by unfold lstOf; rw [mup_ne h]

/-- a list, frozen or in the store -/
def rdL (M : Mm) : D → Option (List D)
  | .lst xs => some xs
  | .ref a => lstOf M a
  | _ => none
@[simp] theorem rdL_lst {M : Mm} {xs : List D} : rdL M (.lst xs) = some xs := rfl
@[simp] theorem rdL_ref {M : Mm} {a : Addr} : rdL M (.ref a) = lstOf M a := rfl
theorem rdL_v {K : PySem.W.Frag} {M : Mm} {H : HF} {d : D} {v : V} {xs : List D} (m : MR K M H) (r : VR K H d v) (e : rdL M d = some xs) : ∃ a vs, v = .ref a ∧ H.h a = some (.lst vs) ∧ VRs K H xs vs := by
  cases d with
  | lst ys =>
    cases e
    obtain ⟨a, vs, rfl, h, _, q⟩ := r.lst_v
    exact ⟨a, vs, rfl, h, q⟩
  | ref a =>
    cases r.ref_v
    obtain ⟨vs, h1, r1⟩ := m.ob a _ (of_lstOf e)
    exact ⟨a, vs, rfl, h1, r1⟩
  | _ => cases e
def catR : DR2 := fun x y M Q => match rdL M x, rdL M y with
    | some i, some j => i.length + j.length ≤ sizeLine ∧ Q (.lst (i ++ j)) M
    | _, _ => False
theorem catR_out {x y : D} {M : Mm} {Q : DQ} (h : catR x y M Q) : ∃ i j, rdL M x = some i ∧ rdL M y = some j ∧ i.length + j.length ≤ sizeLine ∧ Q (.lst (i ++ j)) M := by
  unfold catR at h
  split at h
  · rename_i i j e1 e2
    exact ⟨i, j, e1, e2, h⟩
  · exact h.elim
def addR : DR2 := fun x y M Q => match x, y with
  | .int i, .int j => Q (.int (i + j)) M
  | .str i, .str j => i.length + j.length ≤ sizeLine ∧ Q (.str (i ++ j)) M
  | .tup i, .tup j => i.length + j.length ≤ sizeLine ∧ Q (.tup (i ++ j)) M
  | .int i, .bl k => Q (.int (i + b2i k)) M
  | x, y => catR x y M Q
def addT (K : PySem.W.Frag) : R2 := fun x y H Q => (∃ i j, x = .int i ∧ y = .int j ∧ Q (.int (i + j)) H) ∨ (∃ i j, x = .str i ∧ y = .str j ∧ i.length + j.length ≤ sizeLine ∧ Q (.str (i ++ j)) H) ∨
  rCatA K x y H Q ∨ rCat x y H Q ∨ ∃ i k, x = .int i ∧ y = .bl k ∧ Q (.int (i + b2i k)) H
theorem op_addT {X : Cx} : OpR X (binaryOp .Add) (addT X.K) := op_add.or (op_add_str.or (op_catA.or (op_cat.or op_add_ib)))
theorem catR_no1 {x y : D} {M : Mm} {Q : DQ} (e : rdL M x = none) : ¬catR x y M Q := fun h => by
  obtain ⟨i, _, e1, _⟩ := catR_out h
  rw [e] at e1
  cases e1
theorem catR_no2 {x y : D} {M : Mm} {Q : DQ} (e : rdL M y = none) : ¬catR x y M Q := fun h => by
  obtain ⟨_, j, _, e1, _⟩ := catR_out h
  rw [e] at e1
  cases e1
theorem lift_cat {K : PySem.W.Frag} {x y : V} {dx dy : D} {H : HF} {M : Mm} {Q : DQ} {Q0 : VK} (rx : VR K H dx x) (ry : VR K H dy y) (m : MR K M H) (h : catR dx dy M Q)
    (k : ∀ v H' d M', VR K H' d v → MR K M' H' → GG M H M' H' → Q d M' → Q0 v H'.h) : rCat x y H.h Q0 := by
  obtain ⟨i, j, e1, e2, hz, q⟩ := catR_out h
  obtain ⟨a, vs, rfl, h1, r1⟩ := rdL_v m rx e1
  obtain ⟨b, ws, rfl, h2, r2⟩ := rdL_v m ry e2
  refine ⟨a, b, vs, ws, rfl, rfl, h1, h2, by rw [← r1.length, ← r2.length]; exact hz, fun p hp => ?_⟩
  have t : TX K H ((H.up p (.lst (vs ++ ws))).fz p) := (TX.new m hp).trans TX.fzz
  exact k (.ref p) ((H.up p (.lst (vs ++ ws))).fz p) (.lst (i ++ j)) M (.lst upd_same (.inr rfl) (VRs.append (VRs.mono t _ _ r1) (VRs.mono t _ _ r2)))
    ((m.newT hp).fzz upd_same (m.free hp)) ((GG.newT hp).fzz hp) q
theorem lift_add {K : PySem.W.Frag} : Lift2 K (addT K) addR := by
  intro x y dx dy H M Q Q0 rx ry m h k
  cases dx with
  | int i =>
    cases dy with
    | int j =>
      cases rx.int_v
      cases ry.int_v
      exact .inl ⟨i, j, rfl, rfl, k _ H _ M (.int _) m GG.refl h⟩
    | bl j =>
      cases rx.int_v
      cases ry.bl_v
      exact .inr (.inr (.inr (.inr ⟨i, j, rfl, rfl, k _ H _ M (.int _) m GG.refl h⟩)))
    | _ => simp [addR, catR, rdL] at h
  | str i =>
    cases dy with
    | str j =>
      cases rx.str_v
      cases ry.str_v
      exact .inr (.inl ⟨i, j, rfl, rfl, h.1, k _ H _ M (.str _) m GG.refl h.2⟩)
    | _ => simp [addR, catR, rdL] at h
  | tup i =>
    cases dy with
    | tup j =>
      obtain ⟨a, vs, rfl, sa, ra⟩ := rx.tup_v
      obtain ⟨b, ws, rfl, sb, rb⟩ := ry.tup_v
      obtain ⟨hz, q⟩ := h
      refine .inr (.inr (.inl ⟨a, b, vs, ws, rfl, rfl, sa, sb, by rw [← ra.length, ← rb.length]; exact hz, fun e => ?_, fun _ e => ?_, fun _ _ p hp => ?_⟩))
      · subst e
        cases ra
        exact k _ H _ M ry m GG.refl q
      · subst e
        cases rb
        rw [List.append_nil] at q
        exact k _ H _ M rx m GG.refl q
      · exact k _ (H.up p _) _ M (.tup upd_same (VRs.append (VRs.mono (TX.new m hp) _ _ ra) (VRs.mono (TX.new m hp) _ _ rb))) (m.newT hp) (GG.newT hp) q
    | _ => simp [addR, catR, rdL] at h
  | non => exact (catR_no1 (x := .non) (y := dy) (M := M) (Q := Q) rfl (by cases dy <;> exact h)).elim
  | bl z => exact (catR_no1 (x := .bl z) (y := dy) (M := M) (Q := Q) rfl (by cases dy <;> exact h)).elim
  | ty z => exact (catR_no1 (x := .ty z) (y := dy) (M := M) (Q := Q) rfl (by cases dy <;> exact h)).elim
  | dic z => exact (catR_no1 (x := .dic z) (y := dy) (M := M) (Q := Q) rfl (by cases dy <;> exact h)).elim
  | dit z => exact (catR_no1 (x := .dit z) (y := dy) (M := M) (Q := Q) rfl (by cases dy <;> exact h)).elim
  | lst z =>
    have h : catR (.lst z) dy M Q := by cases dy <;> exact h
    exact .inr (.inr (.inr (.inl (lift_cat rx ry m h k))))
  | ref z =>
    have h : catR (.ref z) dy M Q := by cases dy <;> exact h
    exact .inr (.inr (.inr (.inl (lift_cat rx ry m h k))))

/-- on two ints, under a condition -/
def intR (C : Int → Int → Prop) (g : Int → Int → D) : DR2 := fun x y M Q => match x, y with
  | .int i, .int j => C i j ∧ Q (g i j) M
  | _, _ => False
theorem lift_int {K : PySem.W.Frag} {C : Int → Int → Prop} {g : Int → Int → V} {g' : Int → Int → D} (hg : ∀ i j H, VR K H (g' i j) (g i j)) : Lift2 K (rI C g) (intR C g') := by
  intro x y dx dy H M Q Q0 rx ry m h k
  cases dx with
  | int i =>
    cases dy with
    | int j =>
      cases rx.int_v
      cases ry.int_v
      exact ⟨i, j, rfl, rfl, h.1, k _ H _ M (hg i j H) m GG.refl h.2⟩
    | _ => exact h.elim
  | _ => cases dy <;> exact h.elim
def int0R (g : Int → Int → D) : DR2 := fun x y M Q => match x, y with
  | .int i, .int j => Q (g i j) M
  | _, _ => False
theorem lift_int0 {K : PySem.W.Frag} {g : Int → Int → V} {g' : Int → Int → D} (hg : ∀ i j H, VR K H (g' i j) (g i j)) : Lift2 K (rI0 g) (int0R g') := by
  intro x y dx dy H M Q Q0 rx ry m h k
  cases dx with
  | int i =>
    cases dy with
    | int j =>
      cases rx.int_v
      cases ry.int_v
      exact ⟨i, j, rfl, rfl, k _ H _ M (hg i j H) m GG.refl h⟩
    | _ => exact h.elim
  | _ => cases dy <;> exact h.elim
abbrev subR : DR2 := int0R fun i j => .int (i - j)
abbrev mulR : DR2 := intR CMulW fun i j => .int (i * j)
abbrev modR : DR2 := intR (fun _ j => 0 < j) fun i j => .int (i % j)
abbrev fdivR : DR2 := intR CDivW fun i j => .int (i / j)
abbrev powR : DR2 := intR CPow fun i j => .int (i ^ j.toNat)
abbrev shlR : DR2 := intR CPow fun i j => .int (i * 2 ^ j.toNat)
abbrev orR : DR2 := int0R fun i j => .int (Builtin.bitOr i j)
section
variable {X : Cx} {a b : Expr} {ta tb : TDE} {pos : Pos}
theorem je_add (ha : JE X a ta) (hb : JE X b tb) : JE X (.BinOp a .Add b pos) (dOp addR ta tb) := je_op op_addT lift_add ha hb
theorem je_sub (ha : JE X a ta) (hb : JE X b tb) : JE X (.BinOp a .Sub b pos) (dOp subR ta tb) := je_op op_sub (lift_int0 fun _ _ _ => .int _) ha hb
theorem je_mul (ha : JE X a ta) (hb : JE X b tb) : JE X (.BinOp a .Mult b pos) (dOp mulR ta tb) := je_op op_mulW (lift_int fun _ _ _ => .int _) ha hb
theorem je_mod (ha : JE X a ta) (hb : JE X b tb) : JE X (.BinOp a .Mod b pos) (dOp modR ta tb) := je_op op_mod (lift_int fun _ _ _ => .int _) ha hb
theorem je_fdiv (ha : JE X a ta) (hb : JE X b tb) : JE X (.BinOp a .FloorDiv b pos) (dOp fdivR ta tb) := je_op op_fdivW (lift_int fun _ _ _ => .int _) ha hb
theorem je_pow (ha : JE X a ta) (hb : JE X b tb) : JE X (.BinOp a .Pow b pos) (dOp powR ta tb) := je_op op_pow (lift_int fun _ _ _ => .int _) ha hb
theorem je_shl (ha : JE X a ta) (hb : JE X b tb) : JE X (.BinOp a .LShift b pos) (dOp shlR ta tb) := je_op op_shl (lift_int fun _ _ _ => .int _) ha hb
theorem je_bor (ha : JE X a ta) (hb : JE X b tb) : JE X (.BinOp a .BitOr b pos) (dOp orR ta tb) := je_op op_or (lift_int0 fun _ _ _ => .int _) ha hb
/-- -a -/
def dNeg (ta : TDE) : TDE := fun ds M Q => ta ds M fun x M1 => match x with | .int i => Q (.int (-i)) M1 | _ => False
theorem je_neg (ha : JE X a ta) : JE X (.UnaryOp .USub a pos) (dNeg ta) := by
  obtain ⟨u, p, g⟩ := ha
  refine je_pe (pe_un un_neg p) fun ds σ H M Q Q0 s m q k => ?_
  refine g ds σ H M _ _ s m q fun v H1 d M1 r1 m1 g1 q1 => ?_
  cases d with
  | int i =>
    cases r1.int_v
    exact ⟨i, rfl, k _ H1 _ M1 (.int _) m1 g1 q1⟩
  | _ => exact q1.elim
end

/-! ### == at any depth -/
mutual
def pureD : D → Bool
  | .ref _ => false
  | .ty _ => false
  | .dic _ => false
  | .dit _ => false
  | .tup xs => pureDs xs
  | .lst xs => pureDs xs
  | .non => true
  | .bl _ => true
  | .int _ => true
  | .str _ => true
def pureDs : List D → Bool
  | [] => true
  | x :: xs => pureD x && pureDs xs
end
mutual
def depD : D → Nat
  | .tup xs => 1 + depDs xs
  | .lst xs => 1 + depDs xs
  | .non => 1
  | .bl _ => 1
  | .int _ => 1
  | .str _ => 1
  | .ref _ => 1
  | .ty _ => 1
  | .dic _ => 1
  | .dit _ => 1
def depDs : List D → Nat
  | [] => 1
  | x :: xs => max (depD x) (depDs xs)
end
mutual
def eqvD : D → D → Bool
  | .non, .non => true
  | .bl a, .bl b => a == b
  | .bl a, .int b => (if a then 1 else 0) == b
  | .int a, .bl b => a == (if b then 1 else 0)
  | .int a, .int b => a == b
  | .str a, .str b => a == b
  | .tup xs, .tup ys => eqvDs xs ys
  | .lst xs, .lst ys => eqvDs xs ys
  | _, _ => false
def eqvDs : List D → List D → Bool
  | [], [] => true
  | x :: xs, y :: ys => eqvD x y && eqvDs xs ys
  | _, _ => false
end
theorem eqvDs_len : ∀ {xs ys : List D}, eqvDs xs ys = true → xs.length = ys.length
  | [], [], _ => rfl
  | x :: xs, y :: ys, h => by
    have h' : (eqvD x y && eqvDs xs ys) = true := by simpa [eqvDs] using h
    rw [Bool.and_eq_true] at h'
    simp [eqvDs_len h'.2]
  | [], _ :: _, h => by simp [eqvDs] at h
  | _ :: _, [], h => by simp [eqvDs] at h
/-- place by place -/
def eqAtN (xs ys : List D) (j : Nat) : Bool := match xs[j]?, ys[j]? with | some x, some y => eqvD x y | _, _ => false
theorem eqvDs_range : ∀ (xs ys : List D), ((List.range (min xs.length ys.length)).all (eqAtN xs ys) && xs.length == ys.length) = eqvDs xs ys
  | [], [] => by simp [eqvDs]
  | [], _ :: _ => by simp [eqvDs]
  | _ :: _, [] => by simp [eqvDs]
  | x :: xs, y :: ys => by
    have ih := eqvDs_range xs ys
    have hm : min (x :: xs).length (y :: ys).length = min xs.length ys.length + 1 := by simp only [List.length_cons]; omega
    rw [hm, List.range_succ_eq_map, List.all_cons, List.all_map]
    have e0 : eqAtN (x :: xs) (y :: ys) 0 = eqvD x y := rfl
    have e1 : (eqAtN (x :: xs) (y :: ys) ∘ Nat.succ) = eqAtN xs ys := rfl
    have e2 : ((x :: xs).length == (y :: ys).length) = (xs.length == ys.length) := by simp
    rw [e0, e1, e2, eqvDs, ← ih, Bool.and_assoc]
theorem eqvDs_rangeL {xs ys : List D} (h : xs.length = ys.length) : (List.range xs.length).all (eqAtN xs ys) = eqvDs xs ys := by
  have := eqvDs_range xs ys
  rw [← h, Nat.min_self, show (xs.length == xs.length) = true by simp, Bool.and_true] at this
  exact this
theorem pureDs_get : ∀ {xs : List D} {j : Nat} {x : D}, pureDs xs = true → xs[j]? = some x → pureD x = true
  | [], _, _, _, e => by simp at e
  | y :: ys, 0, x, h, e => by
    simp at e; subst e
    have : (pureD y && pureDs ys) = true := by simpa [pureDs] using h
    exact (Bool.and_eq_true_iff.mp this).1
  | y :: ys, j + 1, x, h, e => by
    have : (pureD y && pureDs ys) = true := by simpa [pureDs] using h
    exact pureDs_get (j := j) (Bool.and_eq_true_iff.mp this).2 (by simpa using e)
theorem depDs_get : ∀ {xs : List D} {j : Nat} {x : D}, xs[j]? = some x → depD x ≤ depDs xs
  | [], _, _, e => by simp at e
  | y :: ys, 0, x, e => by
    simp at e; subst e
    show depD y ≤ max (depD y) (depDs ys)
    omega
  | y :: ys, j + 1, x, e => by
    have := depDs_get (xs := ys) (j := j) (x := x) (by simpa using e)
    show depD x ≤ max (depD y) (depDs ys)
    omega
theorem depD_pos : ∀ d : D, 1 ≤ depD d := fun d => by cases d <;> simp [depD]
section
variable {X : Cx} {pins : List (Addr × Obj)} {σ : St} {H : HF} {s : Shared}
open PySem.SeqAt in
theorem tup_at (I : Inv X pins σ H.h s) {a : Addr} {vs : List V} (h : SqT X.K H.h a vs) : ∃ its : List Value, Vals vs its ∧ s.heap.IsTuple a its.toArray := by
  obtain ⟨its, r, ⟨o, h1, h2, n, h3⟩, _⟩ := I.tuple h
  exact ⟨its, r, o, h1, h2, n, h3⟩
open PySem.SeqAt in
theorem lst_at (I : Inv X pins σ H.h s) {a : Addr} {vs : List V} (h : SqL X.K H.h a vs) : ∃ its : List Value, Vals vs its ∧ s.heap.IsList a its.toArray := by
  obtain ⟨its, r, p, _⟩ := I.list h
  exact ⟨its, r, p.isList⟩
/-- how a value stands below -/
inductive Cls (X : Cx) (H : HF) (s : Shared) : D → V → Value → Prop
  | fl {d : D} {v : V} {u : Value} : VR X.K H d v → flatV v = true → RelV v u → Cls X H s d v u
  | tu {xs : List D} {a : Addr} {vs : List V} {its : List Value} : SqT X.K H.h a vs → s.heap.IsTuple a its.toArray → VRs X.K H xs vs → Vals vs its → Cls X H s (.tup xs) (.ref a) (.ref a)
  | li {xs : List D} {a : Addr} {vs : List V} {its : List Value} : H.h a = some (.lst vs) → s.heap.IsList a its.toArray → VRs X.K H xs vs → Vals vs its → Cls X H s (.lst xs) (.ref a) (.ref a)
theorem Cls.of (I : Inv X pins σ H.h s) {d : D} {v : V} {u : Value} (r : VR X.K H d v) (ru : RelV v u) (p : pureD d = true) : Cls X H s d v u := by
  cases r with
  | ref _ => simp [pureD] at p
  | ty _ => simp [pureD] at p
  | dic _ _ _ => simp [pureD] at p
  | dit _ _ _ => simp [pureD] at p
  | tup sa ra =>
    cases ru
    have sa := SqT.of (K := X.K) sa
    obtain ⟨its, rv, ht⟩ := tup_at I sa
    exact .tu sa ht ra rv
  | lst sa f ra =>
    cases ru
    obtain ⟨its, rv, ht⟩ := lst_at I (SqL.of sa)
    exact .li sa ht ra rv
  | non => exact .fl .non rfl ru
  | bl b => exact .fl (.bl b) rfl ru
  | int b => exact .fl (.int b) rfl ru
  | str b => exact .fl (.str b) rfl ru
theorem lst_inj (I : Inv X pins σ H.h s) {a : Addr} {vs ws : List V} (h : H.h a = some (.lst vs)) (h' : H.h a = some (.lst ws)) : vs = ws := by
  rw [h] at h'
  cases h'
  rfl
theorem tup_no_lst (I : Inv X pins σ H.h s) {a : Addr} {vs ws : List V} (h : SqT X.K H.h a vs) (h' : H.h a = some (.lst ws)) : False := by
  obtain ⟨its, rv, ht⟩ := tup_at I h
  obtain ⟨its2, rv2, ht2⟩ := lst_at I (SqL.of h')
  exact PySem.SeqAt.ne_of_list_tuple ht2 ht rfl
mutual
theorem eqv_same (I : Inv X pins σ H.h s) : ∀ (d e : D) (v : V), VR X.K H d v → VR X.K H e v → pureD d = true → pureD e = true → eqvD d e = true
  | .non, e, _, r, q, _, _ => by cases r; cases q; simp [eqvD]
  | .bl _, e, _, r, q, _, _ => by cases r; cases q; simp [eqvD]
  | .int _, e, _, r, q, _, _ => by cases r; cases q; simp [eqvD]
  | .str _, e, _, r, q, _, _ => by cases r; cases q; simp [eqvD]
  | .ref _, _, _, _, _, h, _ => by simp [pureD] at h
  | .ty _, _, _, _, _, h, _ => by simp [pureD] at h
  | .dic _, _, _, _, _, h, _ => by simp [pureD] at h
  | .dit _, _, _, _, _, h, _ => by simp [pureD] at h
  | .tup xs, e, _, r, q, h, h' => by
    obtain ⟨a, vs, rfl, sa, ra⟩ := r.tup_v
    cases q with
    | ref _ => simp [pureD] at h'
    | dic _ _ _ => simp [pureD] at h'
    | dit _ _ _ => simp [pureD] at h'
    | @tup ys _ ws sb rb =>
      have := I.tuple_inj sa (SqT.of sb)
      subst this
      simp only [eqvD]
      exact eqvs_same I xs ys vs ra rb (by simpa [pureD] using h) (by simpa [pureD] using h')
    | lst sb _ _ => exact (tup_no_lst I sa sb).elim
  | .lst xs, e, _, r, q, h, h' => by
    obtain ⟨a, vs, rfl, sa, _, ra⟩ := r.lst_v
    cases q with
    | ref _ => simp [pureD] at h'
    | dic _ _ _ => simp [pureD] at h'
    | dit _ _ _ => simp [pureD] at h'
    | tup sb _ => exact (tup_no_lst I (SqT.of sb) sa).elim
    | @lst ys _ ws sb _ rb =>
      have := lst_inj I sa sb
      subst this
      simp only [eqvD]
      exact eqvs_same I xs ys vs ra rb (by simpa [pureD] using h) (by simpa [pureD] using h')
theorem eqvs_same (I : Inv X pins σ H.h s) : ∀ (ds es : List D) (vs : List V), VRs X.K H ds vs → VRs X.K H es vs → pureDs ds = true → pureDs es = true → eqvDs ds es = true
  | [], es, _, r, q, _, _ => by cases r; cases q; simp [eqvDs]
  | d :: ds, es, _, r, q, h, h' => by
    cases r with
    | cons r1 r2 =>
      cases q with
      | cons q1 q2 =>
        have h1 := Bool.and_eq_true_iff.mp (show (pureD d && pureDs ds) = true by simpa [pureDs] using h)
        have h2 := Bool.and_eq_true_iff.mp (show (pureD _ && pureDs _) = true by simpa [pureDs] using h')
        simp only [eqvDs, Bool.and_eq_true]
        exact ⟨eqv_same I d _ _ r1 q1 h1.1 h2.1, eqvs_same I ds _ _ r2 q2 h1.2 h2.2⟩
end
open PySem.SeqAt in
/-- flat things and others -/
theorem flat_cont {A : Around} {v : V} {u : Value} (r : RelV v u) (f : flatV v = true) {l : Addr} {its : Array Value} (h : s.heap.IsTuple l its ∨ s.heap.IsList l its) (hu : A.units < cLine) :
    EqAt A s u (.ref l) false ∧ RcAt A s u (.ref l) false ∧ RcNeAt A s u (.ref l) true ∧ EqAt A s (.ref l) u false ∧ RcAt A s (.ref l) u false ∧ RcNeAt A s (.ref l) u true := by
  cases v with
  | non => cases r; rcases h with h | h <;> exact ⟨by first | exact EqAt.none_tuple h hu | exact EqAt.none_list h hu, by first | exact RcAt.none_tuple h hu | exact RcAt.none_list h hu, by first | exact RcNeAt.none_tuple h hu | exact RcNeAt.none_list h hu, by first | exact EqAt.tuple_none h hu | exact EqAt.list_none h hu, by first | exact RcAt.tuple_none h hu | exact RcAt.list_none h hu, by first | exact RcNeAt.tuple_none h hu | exact RcNeAt.list_none h hu⟩
  | bl b => cases r; rcases h with h | h <;> exact ⟨by first | exact EqAt.bool_tuple b h hu | exact EqAt.bool_list b h hu, by first | exact RcAt.bool_tuple b h hu | exact RcAt.bool_list b h hu, by first | exact RcNeAt.bool_tuple b h hu | exact RcNeAt.bool_list b h hu, by first | exact EqAt.tuple_bool b h hu | exact EqAt.list_bool b h hu, by first | exact RcAt.tuple_bool b h hu | exact RcAt.list_bool b h hu, by first | exact RcNeAt.tuple_bool b h hu | exact RcNeAt.list_bool b h hu⟩
  | int b => obtain ⟨k, rfl⟩ := r; rcases h with h | h <;> exact ⟨by first | exact EqAt.int_tuple b k h hu | exact EqAt.int_list b k h hu, by first | exact RcAt.int_tuple b k h hu | exact RcAt.int_list b k h hu, by first | exact RcNeAt.int_tuple b k h hu | exact RcNeAt.int_list b k h hu, by first | exact EqAt.tuple_int b k h hu | exact EqAt.list_int b k h hu, by first | exact RcAt.tuple_int b k h hu | exact RcAt.list_int b k h hu, by first | exact RcNeAt.tuple_int b k h hu | exact RcNeAt.list_int b k h hu⟩
  | str b => obtain ⟨k, rfl⟩ := r; rcases h with h | h <;> exact ⟨by first | exact EqAt.str_tuple b k h hu | exact EqAt.str_list b k h hu, by first | exact RcAt.str_tuple b k h hu | exact RcAt.str_list b k h hu, by first | exact RcNeAt.str_tuple b k h hu | exact RcNeAt.str_list b k h hu, by first | exact EqAt.tuple_str b k h hu | exact EqAt.list_str b k h hu, by first | exact RcAt.tuple_str b k h hu | exact RcAt.list_str b k h hu, by first | exact RcNeAt.tuple_str b k h hu | exact RcNeAt.list_str b k h hu⟩
  | _ => simp [flatV] at f
theorem flat_eqv {K : PySem.W.Frag} {d e : D} {v w : V} (r : VR K H d v) (r' : VR K H e w) (f : flatV v = true) (f' : flatV w = true) : eqvD d e = eqV v w := by
  cases r <;> cases r' <;> first | rfl | (simp [flatV] at f; done) | (simp [flatV] at f'; done) | (simp [eqvD, eqV]; done)
theorem flat_tup {K : PySem.W.Frag} {d : D} {v : V} {xs : List D} (r : VR K H d v) (f : flatV v = true) : eqvD d (.tup xs) = false ∧ eqvD d (.lst xs) = false ∧ eqvD (.tup xs) d = false ∧ eqvD (.lst xs) d = false := by
  cases r <;> first | (simp [flatV] at f; done) | (simp [eqvD]; done)
end
end DM

namespace DM
open PySem L2
open PyProof.Rows (b2i)
section
variable {X : Cx} {pins : List (Addr × Obj)} {σ : St} {H : HF} {s : Shared}
mutual
theorem eqAt_D (I : Inv X pins σ H.h s) : ∀ (d e : D) (v w : V) (u t : Value) (A : Around), VR X.K H d v → VR X.K H e w → RelV v u → RelV w t → pureD d = true → pureD e = true → A.units + depD d < cLine → SeqAt.EqAt A s u t (eqvD d e)
  | d, e, v, w, u, t, A, rd, re, ru, rt, h, h', hu => by
    have hu0 : A.units < cLine := by omega
    cases Cls.of I rd ru h with
    | fl r1 f1 ru1 =>
      cases Cls.of I re rt h' with
      | fl r2 f2 rt2 => rw [flat_eqv r1 r2 f1 f2]; exact eqAt_V ru1 rt2 f1 f2
      | tu sb hb rb rv2 => rw [(flat_tup r1 f1).1]; exact (flat_cont ru1 f1 (.inl hb) hu0).1
      | li sb hb rb rv2 => rw [(flat_tup r1 f1).2.1]; exact (flat_cont ru1 f1 (.inr hb) hu0).1
    | @tu xs a vs its sa ha ra rv =>
      cases Cls.of I re rt h' with
      | fl r2 f2 rt2 => rw [(flat_tup r2 f2).2.2.1]; exact (flat_cont rt2 f2 (.inl ha) hu0).2.2.2.1
      | @tu ys b ws its2 sb hb rb rv2 =>
        by_cases hab : a = b
        · subst hab
          have e1 : eqvD (.tup xs) (.tup ys) = true := eqv_same I _ _ (.ref a) rd re h h'
          rw [e1]
          exact SeqAt.EqAt.same _
        · refine SeqAt.EqAt.of_refs hab ?_
          have key := SeqAt.RcAt.tuples (e := eqAtN xs ys) ha hb hu0 fun j h1 h2 => eqAts_D I xs ys vs ws its its2 A.in1 j ra rb rv rv2 (by simpa [pureD] using h) (by simpa [pureD] using h') (by show A.units + 1 + depDs xs < cLine; simp only [depD] at hu; omega) h1 h2
          rw [List.size_toArray, List.size_toArray, ← rv.length, ← rv2.length, ← ra.length, ← rb.length, eqvDs_range] at key
          simp only [eqvD]
          exact key
      | li sb hb rb rv2 => simp only [eqvD]; exact SeqAt.EqAt.tuple_list ha hb hu0
    | @li xs a vs its sa ha ra rv =>
      cases Cls.of I re rt h' with
      | fl r2 f2 rt2 => rw [(flat_tup r2 f2).2.2.2]; exact (flat_cont rt2 f2 (.inr ha) hu0).2.2.2.1
      | tu sb hb rb rv2 => simp only [eqvD]; exact SeqAt.EqAt.list_tuple ha hb hu0
      | @li ys b ws its2 sb hb rb rv2 =>
        by_cases hab : a = b
        · subst hab
          have e1 : eqvD (.lst xs) (.lst ys) = true := eqv_same I _ _ (.ref a) rd re h h'
          rw [e1]
          exact SeqAt.EqAt.same _
        · refine SeqAt.EqAt.of_refs hab ?_
          simp only [eqvD]
          by_cases hsz : xs.length = ys.length
          · have hs : its.toArray.size = its2.toArray.size := by rw [List.size_toArray, List.size_toArray, ← rv.length, ← rv2.length, ← ra.length, ← rb.length]; exact hsz
            have key := SeqAt.RcAt.lists (e := eqAtN xs ys) ha hb hs hu0 fun j h1 h2 => eqAts_D I xs ys vs ws its its2 A.in1 j ra rb rv rv2 (by simpa [pureD] using h) (by simpa [pureD] using h') (by show A.units + 1 + depDs xs < cLine; simp only [depD] at hu; omega) h1 h2
            rw [List.size_toArray, ← rv.length, ← ra.length, eqvDs_rangeL hsz] at key
            exact key
          · have hs : (its.toArray.size != its2.toArray.size) = true := by
              rw [List.size_toArray, List.size_toArray, ← rv.length, ← rv2.length, ← ra.length, ← rb.length]
              simpa using hsz
            have e3 : eqvDs xs ys = false := by
              cases q : eqvDs xs ys with
              | false => rfl
              | true => exact absurd (eqvDs_len q) hsz
            rw [e3]
            exact SeqAt.RcAt.lists_lengths ha hb hs hu0
  termination_by d => (sizeOf d, 0)
theorem eqAts_D (I : Inv X pins σ H.h s) : ∀ (xs ys : List D) (vs ws : List V) (us ts : List Value) (A : Around) (j : Nat), VRs X.K H xs vs → VRs X.K H ys ws → Vals vs us → Vals ws ts → pureDs xs = true → pureDs ys = true → A.units + depDs xs < cLine →
    ∀ (h1 : j < us.toArray.size) (h2 : j < ts.toArray.size), SeqAt.EqAt A s us.toArray[j] ts.toArray[j] (eqAtN xs ys j)
  | [], _, _, _, _, _, _, _, rx, _, ru, _, _, _, _, h1, _ => by
    cases rx; cases ru; simp at h1
  | x :: xs, ys, _, _, _, _, A, j, rx, ry, ru, rt, px, py, hu, h1, h2 => by
    have hx : A.units + depD x < cLine := by
      have : depD x ≤ depDs (x :: xs) := by show depD x ≤ max (depD x) (depDs xs); omega
      omega
    have hxs : A.units + depDs xs < cLine := by
      have : depDs xs ≤ depDs (x :: xs) := by show depDs xs ≤ max (depD x) (depDs xs); omega
      omega
    have pp := Bool.and_eq_true_iff.mp (show (pureD x && pureDs xs) = true by simpa [pureDs] using px)
    cases rx with
    | cons rx1 rx2 =>
      cases ru with
      | cons ru1 ru2 =>
        cases ry with
        | nil => cases rt; simp at h2
        | @cons y ys w ws ry1 ry2 =>
          cases rt with
          | cons rt1 rt2 =>
            have pq := Bool.and_eq_true_iff.mp (show (pureD y && pureDs ys) = true by simpa [pureDs] using py)
            cases j with
            | zero => exact eqAt_D I x y _ _ _ _ A rx1 ry1 ru1 rt1 pp.1 pq.1 hx
            | succ j =>
              have key := eqAts_D I xs ys _ _ _ _ A j rx2 ry2 ru2 rt2 pp.2 pq.2 hxs (by simpa using h1) (by simpa using h2)
              simpa [eqAtN] using key
  termination_by xs => (sizeOf xs, 1)
end
end
end DM

namespace DM
open PySem L2
open PyProof.Rows (b2i)
open PySem.SeqAt (EqAt RcAt RcNeAt)

section
variable {X : Cx} {pins : List (Addr × Obj)} {σ : L2.St} {H : HF} {s : Shared} {M : Mm}
theorem rcAt_V {A : Around} {y x : V} {u v : Value} (ry : RelV y u) (rx : RelV x v) (fy : flatV y = true) (fx : flatV x = true) : RcAt A s u v (eqV y x) ∧ RcNeAt A s u v (!eqV y x) := by
  cases y with
  | non =>
    cases ry
    cases x with
    | non => cases rx; exact ⟨RcAt.none_none, RcNeAt.none_none⟩
    | bl b => cases rx; exact ⟨RcAt.none_bool b, RcNeAt.none_bool b⟩
    | int b => obtain ⟨t, rfl⟩ := rx; exact ⟨RcAt.none_int b t, RcNeAt.none_int b t⟩
    | str b => obtain ⟨t, rfl⟩ := rx; exact ⟨RcAt.none_str b t, RcNeAt.none_str b t⟩
    | _ => exact absurd (show false = true from fx) Bool.false_ne_true
  | bl a =>
    cases ry
    cases x with
    | non => cases rx; exact ⟨RcAt.bool_none a, RcNeAt.bool_none a⟩
    | bl b => cases rx; exact ⟨RcAt.bool_bool a b, RcNeAt.bool_bool a b⟩
    | int b => obtain ⟨t, rfl⟩ := rx; exact ⟨RcAt.bool_int a b t, RcNeAt.bool_int a b t⟩
    | str b => obtain ⟨t, rfl⟩ := rx; exact ⟨RcAt.bool_str a b t, RcNeAt.bool_str a b t⟩
    | _ => exact absurd (show false = true from fx) Bool.false_ne_true
  | int a =>
    obtain ⟨t', rfl⟩ := ry
    cases x with
    | non => cases rx; exact ⟨RcAt.int_none a t', RcNeAt.int_none a t'⟩
    | bl b => cases rx; exact ⟨RcAt.int_bool a t' b, RcNeAt.int_bool a t' b⟩
    | int b => obtain ⟨t, rfl⟩ := rx; exact ⟨RcAt.int_int a t' b t, RcNeAt.int_int a t' b t⟩
    | str b => obtain ⟨t, rfl⟩ := rx; exact ⟨RcAt.int_str a t' b t, RcNeAt.int_str a t' b t⟩
    | _ => exact absurd (show false = true from fx) Bool.false_ne_true
  | str a =>
    obtain ⟨t', rfl⟩ := ry
    cases x with
    | non => cases rx; exact ⟨RcAt.str_none a t', RcNeAt.str_none a t'⟩
    | bl b => cases rx; exact ⟨RcAt.str_bool a t' b, RcNeAt.str_bool a t' b⟩
    | int b => obtain ⟨t, rfl⟩ := rx; exact ⟨RcAt.str_int a t' b t, RcNeAt.str_int a t' b t⟩
    | str b => obtain ⟨t, rfl⟩ := rx; exact ⟨RcAt.str_str a t' b t, RcNeAt.str_str a t' b t⟩
    | _ => exact absurd (show false = true from fx) Bool.false_ne_true
  | _ => exact absurd (show false = true from fy) Bool.false_ne_true

/-- a list in the store as it is read -/
def resD (M : Mm) : D → D
  | .ref a => (match lstOf M a with | some xs => .lst xs | none => .ref a)
  | d => d
def eqM (M : Mm) (d e : D) : Bool := eqvD (resD M d) (resD M e)
def okD (M : Mm) (d : D) : Prop := pureD (resD M d) = true ∧ depD (resD M d) ≤ 100
theorem Cls.res {M : Mm} (I : Inv X pins σ H.h s) (m : MR X.K M H) {d : D} {v : V} {u : Value} (r : VR X.K H d v) (ru : RelV v u) (p : pureD (resD M d) = true) : Cls X H s (resD M d) v u := by
  cases d with
  | ref a =>
    cases r.ref_v
    cases ru
    cases e : lstOf M a with
    | none => simp [resD, e, pureD] at p
    | some xs =>
      obtain ⟨vs, h1, r1⟩ := m.ob a _ (of_lstOf e)
      obtain ⟨its, rv, ht⟩ := lst_at I (SqL.of h1)
      rw [show resD M (.ref a) = .lst xs by simp [resD, e]]
      exact .li h1 ht r1 rv
  | _ => exact Cls.of I r ru p
open PySem.SeqAt in
theorem rc_D {M : Mm} (I : Inv X pins σ H.h s) (m : MR X.K M H) {d e : D} {v w : V} {u t : Value} (rd : VR X.K H d v) (re : VR X.K H e w) (ru : RelV v u) (rt : RelV w t) (h : okD M d) (h' : okD M e) (hu : X.A.units + 150 < cLine) :
    RcAt X.A s u t (eqM M d e) ∧ RcNeAt X.A s u t (!eqM M d e) := by
  have hu0 : X.A.units < cLine := by omega
  obtain ⟨p1, p2⟩ := h
  obtain ⟨q1, q2⟩ := h'
  have c1 := Cls.res I m rd ru p1
  have c2 := Cls.res I m re rt q1
  unfold eqM
  generalize resD M d = d' at *
  generalize resD M e = e' at *
  cases c1 with
  | fl r1 f1 ru1 =>
    cases c2 with
    | fl r2 f2 rt2 => rw [flat_eqv r1 r2 f1 f2]; exact rcAt_V ru1 rt2 f1 f2
    | tu sb hb rb rv2 => rw [(flat_tup r1 f1).1]; have z := flat_cont ru1 f1 (.inl hb) hu0; exact ⟨z.2.1, z.2.2.1⟩
    | li sb hb rb rv2 => rw [(flat_tup r1 f1).2.1]; have z := flat_cont ru1 f1 (.inr hb) hu0; exact ⟨z.2.1, z.2.2.1⟩
  | @tu xs a vs its sa ha ra rv =>
    cases c2 with
    | fl r2 f2 rt2 => rw [(flat_tup r2 f2).2.2.1]; have z := flat_cont rt2 f2 (.inl ha) hu0; exact ⟨z.2.2.2.2.1, z.2.2.2.2.2⟩
    | @tu ys b ws its2 sb hb rb rv2 =>
      have hx : X.A.in1.units + depDs xs < cLine := by show X.A.units + 1 + depDs xs < cLine; simp only [depD] at p2; omega
      have k1 := RcAt.tuples (e := eqAtN xs ys) ha hb hu0 fun j h1 h2 => eqAts_D I xs ys vs ws its its2 X.A.in1 j ra rb rv rv2 (by simpa [pureD] using p1) (by simpa [pureD] using q1) hx h1 h2
      have k2 := RcNeAt.tuples (e := eqAtN xs ys) ha hb hu0 fun j h1 h2 => eqAts_D I xs ys vs ws its its2 X.A.in1 j ra rb rv rv2 (by simpa [pureD] using p1) (by simpa [pureD] using q1) hx h1 h2
      rw [List.size_toArray, List.size_toArray, ← rv.length, ← rv2.length, ← ra.length, ← rb.length, eqvDs_range] at k1 k2
      simp only [eqvD]
      exact ⟨k1, k2⟩
    | li sb hb rb rv2 => simp only [eqvD]; exact ⟨RcAt.tuple_list ha hb hu0, RcNeAt.tuple_list ha hb hu0⟩
  | @li xs a vs its sa ha ra rv =>
    cases c2 with
    | fl r2 f2 rt2 => rw [(flat_tup r2 f2).2.2.2]; have z := flat_cont rt2 f2 (.inr ha) hu0; exact ⟨z.2.2.2.2.1, z.2.2.2.2.2⟩
    | tu sb hb rb rv2 => simp only [eqvD]; exact ⟨RcAt.list_tuple ha hb hu0, RcNeAt.list_tuple ha hb hu0⟩
    | @li ys b ws its2 sb hb rb rv2 =>
      simp only [eqvD]
      have hx : X.A.in1.units + depDs xs < cLine := by show X.A.units + 1 + depDs xs < cLine; simp only [depD] at p2; omega
      by_cases hsz : xs.length = ys.length
      · have hs : its.toArray.size = its2.toArray.size := by rw [List.size_toArray, List.size_toArray, ← rv.length, ← rv2.length, ← ra.length, ← rb.length]; exact hsz
        have k1 := RcAt.lists (e := eqAtN xs ys) ha hb hs hu0 fun j h1 h2 => eqAts_D I xs ys vs ws its its2 X.A.in1 j ra rb rv rv2 (by simpa [pureD] using p1) (by simpa [pureD] using q1) hx h1 h2
        have k2 := RcNeAt.lists (e := eqAtN xs ys) ha hb hs hu0 fun j h1 h2 => eqAts_D I xs ys vs ws its its2 X.A.in1 j ra rb rv rv2 (by simpa [pureD] using p1) (by simpa [pureD] using q1) hx h1 h2
        rw [List.size_toArray, ← rv.length, ← ra.length, eqvDs_rangeL hsz] at k1 k2
        exact ⟨k1, k2⟩
      · have hs : (its.toArray.size != its2.toArray.size) = true := by
          rw [List.size_toArray, List.size_toArray, ← rv.length, ← rv2.length, ← ra.length, ← rb.length]
          simpa using hsz
        have e3 : eqvDs xs ys = false := by
          cases q : eqvDs xs ys with
          | false => rfl
          | true => exact absurd (eqvDs_len q) hsz
        rw [e3]
        exact ⟨RcAt.lists_lengths ha hb hs hu0, RcNeAt.lists_lengths ha hb hs hu0⟩
end

/-! ### rules straight over the machine: an operation on two values -/
/-- by the values' descriptions -/
def OpD (X : Cx) (f : Value → Value → Sem Value) (dr : DR2) : Prop :=
  ∀ (pins : List (Addr × Obj)) (s : Shared) (σ : L2.St) (H : HF) (M : Mm) (d e : D) (x y : V) (v u : Value) (Q : DQ) (Q0 : VK), Inv X pins σ H.h s → MR X.K M H → VR X.K H d x → VR X.K H e y → RelV x v → RelV y u → dr d e M Q →
    (∀ v H' d M', VR X.K H' d v → MR X.K M' H' → GG M H M' H' → Q d M' → Q0 v H'.h) → wpAny (model X.prog X.w) X.A (f v u) (EP X pins σ Q0) X.xe s
/-- as a rule of the layer beneath: what is wanted there -/
def rOf (K : PySem.W.Frag) (dr : DR2) : R2 := fun x y H0 Q0 => ∃ (H : HF) (d e : D) (M : Mm) (Q : DQ), H0 = H.h ∧ MR K M H ∧ VR K H d x ∧ VR K H e y ∧ dr d e M Q ∧ ∀ v H' d M', VR K H' d v → MR K M' H' → GG M H M' H' → Q d M' → Q0 v H'.h
theorem OpD.opR {X : Cx} {f : Value → Value → Sem Value} {dr : DR2} (h : OpD X f dr) : OpR X f (rOf X.K dr) := by
  intro pins s σ H x y v u Q0 I rx ry q
  obtain ⟨H, d, e, M, Q, rfl, m, rd, re, hq, k⟩ := q
  exact h pins s σ H M d e x y v u Q Q0 I m rd re rx ry hq k
theorem lift_of {K : PySem.W.Frag} {dr : DR2} : Lift2 K (rOf K dr) dr := by
  intro x y dx dy H M Q Q0 rx ry m h k
  exact ⟨H, dx, dy, M, Q, rfl, m, rx, ry, h, k⟩

def eqR : DR2 := fun d e M Q => (okD M d ∧ okD M e) ∧ Q (.bl (eqM M d e)) M
def neR : DR2 := fun d e M Q => (okD M d ∧ okD M e) ∧ Q (.bl (!eqM M d e)) M
theorem op_eqT {X : Cx} (hu : X.A.units + 150 < cLine) : OpD X (compareOp .Eq) eqR := by
  intro pins s σ H M d e x y v u Q Q0 I m rd re rx ry hq k
  exact (rc_D I m rd re rx ry hq.1.1 hq.1.2 hu).1 X.prog X.w _ _ ⟨.bl _, H.h, I, rfl, k _ H _ M (.bl _) m GG.refl hq.2⟩
theorem op_neT {X : Cx} (hu : X.A.units + 150 < cLine) : OpD X (compareOp .NotEq) neR := by
  intro pins s σ H M d e x y v u Q Q0 I m rd re rx ry hq k
  exact (rc_D I m rd re rx ry hq.1.1 hq.1.2 hu).2 X.prog X.w _ _ ⟨.bl _, H.h, I, rfl, k _ H _ M (.bl _) m GG.refl hq.2⟩
theorem hu150 {A : Around} {k : Nat} (hr : Room k A) : A.units + 150 < cLine := by have := hr.un; omega
section
variable {X : Cx} {a b : Expr} {ta tb : TDE} {pos : Pos} {k : Nat}
theorem je_eq (hr : Room k X.A) (ha : JE X a ta) (hb : JE X b tb) : JE X (.Compare a [.Eq] [b] pos) (dOp eqR ta tb) := je_cmpR (op_eqT (hu150 hr)).opR lift_of ha hb (nomark _)
theorem je_ne (hr : Room k X.A) (ha : JE X a ta) (hb : JE X b tb) : JE X (.Compare a [.NotEq] [b] pos) (dOp neR ta tb) := je_cmpR (op_neT (hu150 hr)).opR lift_of ha hb (nomark _)
theorem jt_eq (hr : Room k X.A) (ha : JE X a ta) (hb : JE X b tb) : JT X (.Compare a [.Eq] [b] pos) (dTest (dOp eqR ta tb)) := jt_cmpR (op_eqT (hu150 hr)).opR lift_of ha hb (nomark _)
theorem jt_ne (hr : Room k X.A) (ha : JE X a ta) (hb : JE X b tb) : JT X (.Compare a [.NotEq] [b] pos) (dTest (dOp neR ta tb)) := jt_cmpR (op_neT (hu150 hr)).opR lift_of ha hb (nomark _)
/-- order of ints -/
abbrev ltR : DR2 := int0R fun i j => .bl (decide (i < j))
abbrev leR : DR2 := int0R fun i j => .bl (decide (i ≤ j))
abbrev gtR : DR2 := int0R fun i j => .bl (decide (j < i))
abbrev geR : DR2 := int0R fun i j => .bl (decide (j ≤ i))
theorem je_lt (ha : JE X a ta) (hb : JE X b tb) : JE X (.Compare a [.Lt] [b] pos) (dOp ltR ta tb) := je_cmpR op_lt (lift_int0 fun _ _ _ => .bl _) ha hb (nomark _)
theorem je_le (ha : JE X a ta) (hb : JE X b tb) : JE X (.Compare a [.LtE] [b] pos) (dOp leR ta tb) := je_cmpR op_le (lift_int0 fun _ _ _ => .bl _) ha hb (nomark _)
theorem je_gt (ha : JE X a ta) (hb : JE X b tb) : JE X (.Compare a [.Gt] [b] pos) (dOp gtR ta tb) := je_cmpR op_gt (lift_int0 fun _ _ _ => .bl _) ha hb (nomark _)
theorem je_ge (ha : JE X a ta) (hb : JE X b tb) : JE X (.Compare a [.GtE] [b] pos) (dOp geR ta tb) := je_cmpR op_ge (lift_int0 fun _ _ _ => .bl _) ha hb (nomark _)
theorem jt_lt (ha : JE X a ta) (hb : JE X b tb) : JT X (.Compare a [.Lt] [b] pos) (dTest (dOp ltR ta tb)) := jt_cmpR op_lt (lift_int0 fun _ _ _ => .bl _) ha hb (nomark _)
theorem jt_le (ha : JE X a ta) (hb : JE X b tb) : JT X (.Compare a [.LtE] [b] pos) (dTest (dOp leR ta tb)) := jt_cmpR op_le (lift_int0 fun _ _ _ => .bl _) ha hb (nomark _)
theorem jt_gt (ha : JE X a ta) (hb : JE X b tb) : JT X (.Compare a [.Gt] [b] pos) (dTest (dOp gtR ta tb)) := jt_cmpR op_gt (lift_int0 fun _ _ _ => .bl _) ha hb (nomark _)
theorem jt_ge (ha : JE X a ta) (hb : JE X b tb) : JT X (.Compare a [.GtE] [b] pos) (dTest (dOp geR ta tb)) := jt_cmpR op_ge (lift_int0 fun _ _ _ => .bl _) ha hb (nomark _)
end
end DM

namespace DM
open PySem L2
open PyProof.Rows (b2i)

/-! ### a < b < c -/
def dChain (r r' : DR2) (ta tb tc : TDE) : TDE := fun ds M Q => ta ds M fun x M1 => tb ds M1 fun y M2 => r x y M2 fun z M3 => isB z fun k => if k = true then tc ds M3 fun w M4 => r' y w M4 Q else Q (.bl false) M3
section
variable {X : Cx} {a b c : Expr} {ta tb tc : TDE} {pos : Pos}
theorem chain_go {r r' : R2} {dr dr' : DR2} {ua ub uc : TE} (hl : Lift2 X.K r dr) (hl' : Lift2 X.K r' dr')
    (ga : ∀ (ds : DSt) (σ : L2.St) (H : HF) (M : Mm) (Q : DQ) (Q0 : VK), SR X.K H ds σ → MR X.K M H → ta ds M Q → (∀ v H' d M', VR X.K H' d v → MR X.K M' H' → GG M H M' H' → Q d M' → Q0 v H'.h) → ua σ H.h Q0)
    (gb : ∀ (ds : DSt) (σ : L2.St) (H : HF) (M : Mm) (Q : DQ) (Q0 : VK), SR X.K H ds σ → MR X.K M H → tb ds M Q → (∀ v H' d M', VR X.K H' d v → MR X.K M' H' → GG M H M' H' → Q d M' → Q0 v H'.h) → ub σ H.h Q0)
    (gc : ∀ (ds : DSt) (σ : L2.St) (H : HF) (M : Mm) (Q : DQ) (Q0 : VK), SR X.K H ds σ → MR X.K M H → tc ds M Q → (∀ v H' d M', VR X.K H' d v → MR X.K M' H' → GG M H M' H' → Q d M' → Q0 v H'.h) → uc σ H.h Q0)
    (ds : DSt) (σ : L2.St) (H : HF) (M : Mm) (Q : DQ) (Q0 : VK) (s : SR X.K H ds σ) (m : MR X.K M H) (q : dChain dr dr' ta tb tc ds M Q)
    (k : ∀ v H' d M', VR X.K H' d v → MR X.K M' H' → GG M H M' H' → Q d M' → Q0 v H'.h) : tChain r r' ua ub uc σ H.h Q0 := by
  refine ga ds σ H M _ _ s m q fun v H1 d M1 r1 m1 g1 q1 => ?_
  refine gb ds σ H1 M1 _ _ (s.gg m g1) m1 q1 fun u H2 e M2 r2 m2 g2 q2 => ?_
  refine hl v u d e H2 M2 _ _ (VR.mono (g2.tx m1) _ _ r1) r2 m2 q2 fun z H3 f M3 r3 m3 g3 q3 => ?_
  obtain ⟨j, e3, q3⟩ := isB_out r3 q3
  refine ⟨j, e3, ?_⟩
  cases j with
  | false => exact k _ H3 _ M3 (.bl false) m3 ((g1.trans g2).trans g3) q3
  | true =>
    refine gc ds σ H3 M3 _ _ (s.gg m ((g1.trans g2).trans g3)) m3 q3 fun w H4 f4 M4 r4 m4 g4 q4 => ?_
    exact hl' u w e f4 H4 M4 Q Q0 (VR.mono ((g3.trans g4).tx m2) _ _ r2) r4 m4 q4 fun w5 H5 f5 M5 r5 m5 g5 q5 => k w5 H5 f5 M5 r5 m5 ((((g1.trans g2).trans g3).trans g4).trans g5) q5
theorem je_chain {op op' : CmpOp} {r r' : R2} {dr dr' : DR2} (ho : OpR X (compareOp op) r) (ho' : OpR X (compareOp op') r') (hl : Lift2 X.K r dr) (hl' : Lift2 X.K r' dr') (ha : JE X a ta) (hb : JE X b tb) (hc : JE X c tc)
    (hm : lastMarks [op, op'] [b, c] = false := by with_unfolding_all rfl) : JE X (.Compare a [op, op'] [b, c] pos) (dChain dr dr' ta tb tc) := by
  obtain ⟨ua, pa, ga⟩ := ha
  obtain ⟨ub, pb, gb⟩ := hb
  obtain ⟨uc, pc, gc⟩ := hc
  exact je_pe (pe_chain ho ho' pa pb pc hm) (chain_go hl hl' ga gb gc)
theorem jt_chain {op op' : CmpOp} {r r' : R2} {dr dr' : DR2} (ho : OpR X (compareOp op) r) (ho' : OpR X (compareOp op') r') (hl : Lift2 X.K r dr) (hl' : Lift2 X.K r' dr') (ha : JE X a ta) (hb : JE X b tb) (hc : JE X c tc)
    (hm : lastMarks [op, op'] [b, c] = false := by with_unfolding_all rfl) : JT X (.Compare a [op, op'] [b, c] pos) (dTest (dChain dr dr' ta tb tc)) := by
  obtain ⟨ua, pa, ga⟩ := ha
  obtain ⟨ub, pb, gb⟩ := hb
  obtain ⟨uc, pc, gc⟩ := hc
  refine ⟨_, pt_chain ho ho' pa pb pc hm, fun ds σ H M Q Q0 s m q k => ?_⟩
  refine chain_go hl hl' ga gb gc ds σ H M _ _ s m q fun v H' d M' r m' gg q' => ?_
  obtain ⟨b, e, q⟩ := isB_out r q'
  exact ⟨b, e, k b H' M' m' gg q⟩
/-- the two orders of ints that stand in chains -/
theorem l_le {K : PySem.W.Frag} : Lift2 K (rI0 fun i j => .bl (decide (i ≤ j))) leR := lift_int0 fun _ _ _ => .bl _
theorem l_lt {K : PySem.W.Frag} : Lift2 K (rI0 fun i j => .bl (decide (i < j))) ltR := lift_int0 fun _ _ _ => .bl _
end

/-! ### subscripts -/
def ixR : DR2 := fun x y M Q => match x, y with
  | .tup xs, .int i => (match atI xs i with | some d => Q d M | none => False)
  | .str z, .int i => z.length ≤ sizeLine ∧ (match atI z.cps.toList i with | some c => Q (.str ⟨#[c]⟩) M | none => False)
  | .ref a, .int i => (match lstOf M a with | some xs => (match atI xs i with | some d => Q d M | none => False) | none => False)
  | .lst xs, .int i => (match atI xs i with | some d => Q d M | none => False)
  | _, _ => False
/-- a new list, frozen -/
theorem frz_new {K : PySem.W.Frag} {H : HF} {M : Mm} {p : Addr} {xs : List D} {vs : List V} (m : MR K M H) (hp : H.h p = none) (r : VRs K H xs vs) :
    VR K ((H.up p (.lst vs)).fz p) (.lst xs) (.ref p) ∧ MR K M ((H.up p (.lst vs)).fz p) ∧ GG M H M ((H.up p (.lst vs)).fz p) :=
  ⟨.lst upd_same (.inr rfl) (VRs.mono ((TX.new m hp).trans TX.fzz) _ _ r), (m.newT hp).fzz upd_same (m.free hp), (GG.newT hp).fzz hp⟩
theorem VRs.atI {K : PySem.W.Frag} {H : HF} {ds : List D} {vs : List V} (r : VRs K H ds vs) {i : Int} {d : D} (h : L2.atI ds i = some d) : ∃ v, L2.atI vs i = some v ∧ VR K H d v := by
  unfold L2.atI at h ⊢
  rw [r.length] at h
  cases e : ixN vs.length i with
  | none => rw [e] at h; cases h
  | some j =>
    rw [e] at h
    exact r.get h
theorem lift_ix {K : PySem.W.Frag} : Lift2 K (rIx K) ixR := by
  intro x y dx dy H M Q Q0 rx ry m h k
  cases dy with
  | int i =>
    cases ry.int_v
    cases dx with
    | tup xs =>
      obtain ⟨a, vs, rfl, sa, ra⟩ := rx.tup_v
      unfold ixR at h
      simp only at h
      split at h
      · rename_i d e
        obtain ⟨v, e', r'⟩ := ra.atI e
        exact .inr (.inl ⟨a, vs, i, v, rfl, rfl, sa, e', k v H d M r' m GG.refl h⟩)
      · exact h.elim
    | str z =>
      cases rx.str_v
      unfold ixR at h
      simp only at h
      obtain ⟨hz, h⟩ := h
      split at h
      · rename_i c e
        exact .inr (.inr ⟨z, i, c, rfl, rfl, hz, e, k _ H _ M (.str _) m GG.refl h⟩)
      · exact h.elim
    | ref a =>
      cases rx.ref_v
      unfold ixR at h
      simp only at h
      split at h
      · rename_i xs e
        split at h
        · rename_i d e'
          obtain ⟨vs, h1, r1⟩ := m.ob a _ (of_lstOf e)
          obtain ⟨v, e2, r2⟩ := r1.atI e'
          exact .inl ⟨a, vs, i, v, rfl, rfl, SqL.of h1, e2, k v H d M r2 m GG.refl h⟩
        · exact h.elim
      · exact h.elim
    | lst xs =>
      obtain ⟨a, vs, rfl, sa, _, ra⟩ := rx.lst_v
      unfold ixR at h
      simp only at h
      split at h
      · rename_i d e
        obtain ⟨v, e', r'⟩ := ra.atI e
        exact .inl ⟨a, vs, i, v, rfl, rfl, SqL.of sa, e', k v H d M r' m GG.refl h⟩
      · exact h.elim
    | _ => exact h.elim
  | _ => cases dx <;> exact h.elim
section
variable {X : Cx} {a b : Expr} {ta tb : TDE} {pos : Pos}
theorem je_ix (ha : JE X a ta) (hb : JE X b tb) (hs : PlainIx b := by exact fun _ _ => rfl) : JE X (.Subscript a b pos) (dOp ixR ta tb) := by
  obtain ⟨u, p, g⟩ := ha
  obtain ⟨u', p', g'⟩ := hb
  exact je_pe (pe_ix ix_seq p p' hs) (op2 lift_ix g g')
end

/-! ### slices -/
abbrev TDO := DSt → Mm → (Option Int → Mm → Prop) → Prop
structure JO (X : Cx) (e : Option Expr) (t : TDO) : Prop where
  go : ∃ t0, PO X e t0 ∧ ∀ (ds : DSt) (σ : L2.St) (H : HF) (M : Mm) (Q : Option Int → Mm → Prop) (Q0 : Option Int → Hp → Prop), SR X.K H ds σ → MR X.K M H → t ds M Q →
    (∀ o H' M', MR X.K M' H' → GG M H M' H' → Q o M' → Q0 o H'.h) → t0 σ H.h Q0
def dNoPart : TDO := fun _ M Q => Q none M
def isI (d : D) (Q : Int → Prop) : Prop := match d with | .int i => Q i | _ => False
theorem isI_out {K : PySem.W.Frag} {H : HF} {d : D} {v : V} {Q : Int → Prop} (r : VR K H d v) (q : isI d Q) : ∃ k, v = .int k ∧ Q k := by
  cases r with
  | int b => exact ⟨b, rfl, q⟩
  | _ => exact q.elim
def dPart (t : TDE) : TDO := fun ds M Q => t ds M fun x M1 => isI x fun i => Q (some i) M1
section
variable {X : Cx} {e : Expr} {te : TDE}
theorem jo_none : JO X none dNoPart := ⟨_, po_none, fun _ _ H M _ _ _ m q k => k none H M m GG.refl q⟩
theorem jo_some (h : JE X e te) : JO X (some e) (dPart te) := by
  obtain ⟨u, p, g⟩ := h
  refine ⟨_, po_some p, fun ds σ H M Q Q0 s m q k => ?_⟩
  refine g ds σ H M _ _ s m q fun v H' d M' r m' gg q' => ?_
  obtain ⟨b, e, q⟩ := isI_out r q'
  exact ⟨b, e, k _ H' M' m' gg q⟩
end
def cutL {α : Type} (xs : List α) (lo hi : Option Int) : List α := (xs.drop (HT.sIx xs.length 0 lo)).take (HT.sIx xs.length xs.length hi - HT.sIx xs.length 0 lo)
theorem VRs.cut {K : PySem.W.Frag} {H : HF} {ds : List D} {vs : List V} (r : VRs K H ds vs) (lo hi : Option Int) : VRs K H (cutL ds lo hi) (cutV vs lo hi) := by
  unfold cutL cutV
  rw [r.length]
  exact (r.drop _).take _
theorem cutL_whole {α : Type} {xs : List α} {lo hi : Option Int} (h : HT.sIx xs.length 0 lo = 0 ∧ HT.sIx xs.length xs.length hi = xs.length) : cutL xs lo hi = xs := by
  unfold cutL
  rw [h.1, h.2]
  simp
def slR (x : D) (lo hi : Option Int) (M : Mm) (Q : DQ) : Prop := match x with
  | .tup xs => Q (.tup (cutL xs lo hi)) M
  | .str z => z.length ≤ sizeLine ∧ Q (.str (cutS z lo hi)) M
  | x => (match rdL M x with | some xs => Q (.lst (cutL xs lo hi)) M | none => False)
def dSl (te : TDE) (tl th : TDO) : TDE := fun ds M Q => te ds M fun x M1 => tl ds M1 fun l M2 => th ds M2 fun u M3 => slR x l u M3 Q
section
variable {X : Cx} {e : Expr} {te : TDE} {tl th : TDO} {lo hi : Option Expr} {pos p2 : Pos}
def slT (K : PySem.W.Frag) : V → Option Int → Option Int → Hp → VK → Prop := fun x lo hi H Q => rSlA K x lo hi H Q ∨ rSlS x lo hi H Q ∨ rSlL K x lo hi H Q
theorem sl_all : SlR X (slT X.K) := sl_tupA.or (sl_str.or sl_list)
theorem lift_sl {K : PySem.W.Frag} (x : V) (dx : D) (lo hi : Option Int) (H : HF) (M : Mm) (Q : DQ) (Q0 : VK) (rx : VR K H dx x) (m : MR K M H) (h : slR dx lo hi M Q)
    (k : ∀ v H' d M', VR K H' d v → MR K M' H' → GG M H M' H' → Q d M' → Q0 v H'.h) : slT K x lo hi H.h Q0 := by
  cases dx with
  | tup xs =>
    obtain ⟨a, vs, rfl, sa, ra⟩ := rx.tup_v
    have q : Q (.tup (cutL xs lo hi)) M := h
    refine .inl ⟨a, vs, rfl, sa, fun hw => ?_, fun hw p hp => ?_⟩
    · rw [← ra.length] at hw
      rw [cutL_whole hw] at q
      exact k _ H _ M rx m GG.refl q
    · exact k _ (H.up p _) _ M (.tup upd_same (VRs.mono (TX.new m hp) _ _ (ra.cut lo hi))) (m.newT hp) (GG.newT hp) q
  | str z =>
    cases rx.str_v
    exact .inr (.inl ⟨z, rfl, h.1, k _ H _ M (.str _) m GG.refl h.2⟩)
  | ref a =>
    cases e : lstOf M a with
    | none => simp [slR, e] at h
    | some xs =>
      have q : Q (.lst (cutL xs lo hi)) M := by simpa [slR, e] using h
      obtain ⟨a, vs, rfl, h1, r1⟩ := rdL_v m rx (show rdL M (.ref a) = some xs from e)
      refine .inr (.inr ⟨a, vs, rfl, SqL.of h1, fun p hp => ?_⟩)
      obtain ⟨z1, z2, z3⟩ := frz_new m hp (r1.cut lo hi)
      exact k _ _ _ _ z1 z2 z3 q
  | lst xs =>
    have q : Q (.lst (cutL xs lo hi)) M := h
    obtain ⟨a, vs, rfl, h1, r1⟩ := rdL_v m rx (show rdL M (.lst xs) = some xs from rfl)
    refine .inr (.inr ⟨a, vs, rfl, SqL.of h1, fun p hp => ?_⟩)
    obtain ⟨z1, z2, z3⟩ := frz_new m hp (r1.cut lo hi)
    exact k _ _ _ _ z1 z2 z3 q
  | _ => exact h.elim
theorem je_slice (he : JE X e te) (hl : JO X lo tl) (hu : JO X hi th) : JE X (.Subscript e (.Slice lo hi none p2) pos) (dSl te tl th) := by
  obtain ⟨u, p, g⟩ := he
  obtain ⟨u1, p1, g1⟩ := hl
  obtain ⟨u2, p2, g2⟩ := hu
  refine je_pe (pe_slice sl_all p p1 p2) fun ds σ H M Q Q0 s m q k => ?_
  refine g ds σ H M _ _ s m q fun v H1 d M1 r1 m1 gg1 q1 => ?_
  refine g1 ds σ H1 M1 _ _ (s.gg m gg1) m1 q1 fun l H2 M2 m2 gg2 q2 => ?_
  refine g2 ds σ H2 M2 _ _ (s.gg m (gg1.trans gg2)) m2 q2 fun u H3 M3 m3 gg3 q3 => ?_
  exact lift_sl v d l u H3 M3 Q Q0 (VR.mono ((gg2.trans gg3).tx m1) _ _ r1) m3 q3 fun w H4 f M4 r4 m4 gg4 q4 => k w H4 f M4 r4 m4 (((gg1.trans gg2).trans gg3).trans gg4) q4
end

/-! ### t[::-1] -/
section
open PySem.Builtin.Slice
variable {prog : Program} {w : World} {A : Around} {E : Value → Shared → Prop} {s : Shared}
theorem slice_back {sl : Addr} {vl vu vs : Value} {n : Nat} {Q : Int × Int × Nat → Shared → Prop} (hs : s.heap.IsSliceOf sl vl vu vs) (pl : IsPart vl none) (pu : IsPart vu none) (ps : IsPart vs (some (-1)))
    (h : Q ((n : Int) - 1, -1, n) s) : wpAny (model prog w) A (sliceApplied (.ref sl) (pure (n : Int))) Q E s := by
  obtain ⟨os, hos, hcs, hds⟩ := id hs
  unfold sliceApplied sliceFields
  refine wpAny_bind (wpAny_bind (wpAny_field hos hds (x := vl) rfl (wpAny_bind (wpAny_field hos hds (x := vu) rfl (wpAny_bind (wpAny_field hos hds (x := vs) rfl (wpAny_pure ?_)))))))
  refine wpAny_bind (HT.slicePart_ ps ?_)
  show wpAny _ _ (if ((-1 : Int) == 0) = true then _ else _) _ _ s
  rw [if_neg (by decide)]
  refine wpAny_bind (HT.slicePart_ pl (wpAny_bind (HT.slicePart_ pu (wpAny_bind (wpAny_pure ?_)))))
  have e1 : sliceAdjust none none (-1) (n : Int) = ((n : Int) - 1, -1) := by
    unfold sliceAdjust
    simp
  show wpAny _ _ (match sliceAdjust none none (-1) (n : Int) with | (lo, hi) => pure (lo, (-1 : Int), slicePlaces lo hi (-1))) _ _ s
  rw [e1]
  have e2 : slicePlaces ((n : Int) - 1) (-1) (-1) = n := by
    unfold slicePlaces
    have h1 : ¬ ((-1 : Int) > 0) := by decide
    simp only [h1, if_false]
    by_cases h0 : (n : Int) - 1 > -1
    · simp only [h0, if_true]
      rw [show (-(-1) : Int) = 1 by decide, Int.ediv_one]
      omega
    · simp only [h0, if_false]
      omega
  show wpAny _ _ (pure ((n : Int) - 1, (-1 : Int), slicePlaces ((n : Int) - 1) (-1) (-1))) _ _ s
  rw [e2]
  exact wpAny_pure h
theorem fm_congr {α β : Type} (f g : α → Option β) : ∀ (l : List α), (∀ a ∈ l, f a = g a) → l.filterMap f = l.filterMap g
  | [], _ => rfl
  | a :: l, h => by
    rw [List.filterMap_cons, List.filterMap_cons, h a List.mem_cons_self, fm_congr f g l fun b hb => h b (List.mem_cons_of_mem _ hb)]
theorem pick_back (xs : Array Value) : ((List.range xs.size).filterMap fun (m : Nat) => xs[((xs.size : Int) - 1 + (m : Int) * -1).toNat]?).toArray = xs.toList.reverse.toArray := by
  have h := PySem.W.krv_all xs
  have e : (List.range xs.size).filterMap (fun (m : Nat) => xs[((xs.size : Int) - 1 + (m : Int) * -1).toNat]?) = ((List.range xs.size).map fun k => xs.size - 1 - k).filterMap (xs[·]?) := by
    rw [List.filterMap_map]
    refine fm_congr _ _ _ fun m hm => ?_
    show xs[_]? = xs[xs.size - 1 - m]?
    have := List.mem_range.mp hm
    rw [show ((xs.size : Int) - 1 + (m : Int) * -1).toNat = xs.size - 1 - m by omega]
  rw [e, PySem.W.krv_range, List.filterMap_reverse, h]
open PyProof.Rows in
theorem getItem_tuple_back {t sl : Addr} {items : Array Value} {vl vu vs : Value} {Q : Value → Shared → Prop} (ht : IsTup s.heap t items) (hs : s.heap.IsSliceOf sl vl vu vs) (pl : IsPart vl none) (pu : IsPart vu none) (ps : IsPart vs (some (-1)))
    (h : Q (.ref s.heap.objs.size) { s with heap := s.heap.push { cls := .type "tuple", data := .seq items.toList.reverse.toArray } })
    (hsz : items.size ≤ sizeLine) : wpAny (model prog w) A (getItem (.ref t) (.ref sl)) Q E s := by
  have htake : sizeOk (.seq items.toList.reverse.toArray) := by
    show items.toList.reverse.toArray.size ≤ sizeLine
    rw [List.size_toArray, List.length_reverse, Array.length_toList]
    exact hsz
  obtain ⟨os, hos, hcs, hds⟩ := id hs
  have hTs : s.TypeIs (.ref sl) "slice" := ⟨os, hos, hcs⟩
  unfold getItem
  try with_reducible refine wpAny_holding ?_
  first | refine wpAny_bind (wpAny_pure ?_) | skip
  refine wpAny_bind (wpAny_sequenceKey ht.typeIs (by decide) ?_)
  refine wpAny_bind (wpAny_callSpecial?_slot (name := Str.ofString "__getitem__") ht.typeIs PyProof.Rows.slot_tuple_getitem
    (wpAny_call_entry PyProof.Rows.slot_tuple_getitem ht.typeIs entry_tuple_getitem ?_ (args_tuple_getitem _ _)))
  show wpAny _ _ (Builtin.Tuple.tupleItemsOf (.ref t) >>= _) _ _ s
  refine wpAny_bind (tupleItemsOf_ ht ?_)
  refine wpAny_bind (wpAny_typeOf hTs ?_)
  rw [if_pos (by decide)]
  refine wpAny_bind (slice_back hs pl pu ps ?_)
  have hno : ¬ ((((items.size : Int) - 1) == 0 && (-1 : Int) == 1 && items.size == items.size) = true) := by
    intro q
    rw [Bool.and_eq_true, Bool.and_eq_true] at q
    exact absurd q.1.2 (by decide)
  show wpAny _ _ (if (((items.size : Int) - 1) == 0 && (-1 : Int) == 1 && items.size == items.size) = true then _ else _) _ _ s
  rw [if_neg hno, pick_back]
  first
    | exact wpAny_bind (m := Builtin.Tuple.tupleExact _) (wpAny_newObj_type (wpAny_pure ⟨_, rfl, wpAny_pure h⟩) htake)
    | exact wpAny_bind (m := Builtin.Tuple.tupleExact _) (wpAny_newObj_type (wpAny_bind (wpAny_pure (wpAny_pure ⟨_, rfl, wpAny_pure h⟩))) htake)
    | exact wpAny_bind (wpAny_bind (m := Builtin.Tuple.tupleExact _) (wpAny_newObj_type (wpAny_pure (wpAny_pure ⟨_, rfl, wpAny_pure h⟩)) htake))
    | exact wpAny_bind (wpAny_bind (m := Builtin.Tuple.tupleExact _) (wpAny_newObj_type (wpAny_pure ⟨_, rfl, wpAny_pure h⟩) htake))
end
section
variable {X : Cx} {e : Expr} {te : TDE} {k : Nat} {p1 p2 p3 pos : Pos}
def revR (x : D) (M : Mm) (Q : DQ) : Prop := match x with
  | .tup xs => Q (.tup xs.reverse) M
  | x => (match rdL M x with | some xs => Q (.lst xs.reverse) M | none => False)
def dRev (te : TDE) : TDE := fun ds M Q => te ds M fun x M1 => revR x M1 Q
def tRevA (K : PySem.W.Frag) (te : TE) : TE := fun σ H Q => te σ H fun x H1 => (∃ a xs, x = .ref a ∧ SqL K H1 a xs ∧ ∀ p, H1 p = none → Q (.ref p) (upd H1 p (.lst xs.reverse))) ∨ ∃ a xs, x = .ref a ∧ SqT K H1 a xs ∧ ∀ p, H1 p = none → Q (.ref p) (upd H1 p (.tup xs.reverse))
theorem pe_revA {e : Expr} {te : TE} (he : PE X e te) : PE X (.Subscript e (.Slice none none (some (.UnaryOp .USub (.Constant (.int 1) k p1) p2)) p3) pos) (tRevA X.K te) := by
  refine ⟨fun pins s σ H Q I h => ?_⟩
  refine PyProof.Rows.Subscript_ (thn (he.run pins s σ H _ I h) fun v s1 ⟨x, H1, I1, r1, q1⟩ => ?_)
  have hst : PO X (some (.UnaryOp .USub (.Constant (.int 1) k p1) p2)) (tPart (tUn (rU fun i => .int (-i)) (tC (.int 1)))) := po_some (pe_un un_neg pe_int)
  refine wpAny_Slice (thn (po_none.run pins s1 σ H1 (fun o H2 => o = none ∧ H2 = H1) I1 ⟨rfl, rfl⟩) fun vl s2 ⟨l, H2, I2, pl, el, e2⟩ => ?_)
  subst el e2
  refine thn (po_none.run pins s2 σ H2 (fun o H3 => o = none ∧ H3 = H2) I2 ⟨rfl, rfl⟩) fun vu s3 ⟨u, H3, I3, pu, eu, e3⟩ => ?_
  subst eu e3
  refine thn (hst.run pins s3 σ H3 (fun o H4 => o = some (-1) ∧ H4 = H3) I3 ⟨1, rfl, -1, rfl, rfl, rfl⟩) fun vs s4 ⟨o, H4, I4, ps, eo, e4⟩ => ?_
  subst eo e4
  have I5 : Inv X pins σ H4 { s4 with heap := s4.heap.push { cls := .type "slice", data := .fields #[vl, vu, vs] } } := I4.kept (t' := s4.toks) fun b ob q => Heap.get?_push_of_some _ q
  rcases q1 with ⟨a, xs, ex, hx, q⟩ | ⟨a, xs, ex, hx, q⟩
  · subst ex
    cases r1
    obtain ⟨its, r, ht, hz⟩ := I5.list hx
    have hlen := r.length
    show wpAny (model X.prog X.w) X.A (PyProof.Rows.subscriptTail e (.Slice none none (some (.UnaryOp .USub (.Constant (.int 1) k p1) p2)) p3) (.ref a) (.ref s4.heap.objs.size)) (EP X pins σ Q) X.xe { s4 with heap := s4.heap.push { cls := .type "slice", data := .fields #[vl, vu, vs] } }
    refine PyProof.Rows.tail_any (ops := [.ref a, .ref s4.heap.objs.size]) ht.isList.typeIs (PySem.slot_list_getitem.lookup) ?_ (by with_unfolding_all rfl)
    refine wpAny_getItem_list_slice ht.isList (Heap.IsSliceOf.new _ vl vu vs) pl pu ps (by decide) ?_ (by rw [List.size_toArray]; omega)
    rw [PySem.W.krv_pick]
    refine ⟨.ref _, _, I5.laid (t' := s4.toks) (o := .lst xs.reverse) (fun b ob q => Heap.get?_push_of_some _ q) (Nat.le_refl _) ?_, rfl, q _ (I5.hok.fresh (Nat.le_refl _))⟩
    exact ⟨by rw [List.length_reverse]; exact hz, _, 0, r.reverse, Heap.get?_push_size _ rfl⟩
  · subst ex
    cases r1
    obtain ⟨its, r, ht, hz⟩ := I5.tuple hx
    have hlen := r.length
    show wpAny (model X.prog X.w) X.A (PyProof.Rows.subscriptTail e (.Slice none none (some (.UnaryOp .USub (.Constant (.int 1) k p1) p2)) p3) (.ref a) (.ref s4.heap.objs.size)) (EP X pins σ Q) X.xe { s4 with heap := s4.heap.push { cls := .type "slice", data := .fields #[vl, vu, vs] } }
    refine PyProof.Rows.tail_any (ops := [.ref a, .ref s4.heap.objs.size]) ht.typeIs (PyProof.Rows.slot_tuple_getitem.lookup) ?_ (by with_unfolding_all rfl)
    refine getItem_tuple_back ht (Heap.IsSliceOf.new _ vl vu vs) pl pu ps ?_ (by rw [List.size_toArray]; omega)
    refine ⟨.ref _, _, I5.laid (t' := s4.toks) (o := .tup xs.reverse) (fun b ob q => Heap.get?_push_of_some _ q) (Nat.le_refl _) ?_, rfl, q _ (I5.hok.fresh (Nat.le_refl _))⟩
    exact ⟨by rw [List.length_reverse]; exact hz, _, by simpa using r.reverse, PyProof.Rows.IsTup.new _ _⟩
theorem je_rev (he : JE X e te) : JE X (.Subscript e (.Slice none none (some (.UnaryOp .USub (.Constant (.int 1) k p1) p2)) p3) pos) (dRev te) := by
  obtain ⟨u, p, g⟩ := he
  refine je_pe (pe_revA p) fun ds σ H M Q Q0 s m q kk => ?_
  refine g ds σ H M _ _ s m q fun v H1 d M1 r1 m1 gg1 q1 => ?_
  cases d with
  | tup xs =>
    obtain ⟨a, vs, rfl, sa, ra⟩ := r1.tup_v
    refine .inr ⟨a, vs, rfl, sa, fun p hp => ?_⟩
    exact kk _ (H1.up p _) _ M1 (.tup upd_same (VRs.mono (TX.new m1 hp) _ _ ra.reverse)) (m1.newT hp) (gg1.trans (GG.newT hp)) q1
  | ref a =>
    cases e : lstOf M1 a with
    | none => simp [revR, e] at q1
    | some xs =>
      have q : Q (.lst xs.reverse) M1 := by simpa [revR, e] using q1
      obtain ⟨a, vs, rfl, h1, r2⟩ := rdL_v m1 r1 (show rdL M1 (.ref a) = some xs from e)
      refine .inl ⟨a, vs, rfl, SqL.of h1, fun p hp => ?_⟩
      obtain ⟨z1, z2, z3⟩ := frz_new m1 hp r2.reverse
      exact kk _ _ _ _ z1 z2 (gg1.trans z3) q
  | lst xs =>
    have q : Q (.lst xs.reverse) M1 := q1
    obtain ⟨a, vs, rfl, h1, r2⟩ := rdL_v m1 r1 (show rdL M1 (.lst xs) = some xs from rfl)
    refine .inl ⟨a, vs, rfl, SqL.of h1, fun p hp => ?_⟩
    obtain ⟨z1, z2, z3⟩ := frz_new m1 hp r2.reverse
    exact kk _ _ _ _ z1 z2 (gg1.trans z3) q
  | _ => exact q1.elim
end
end DM

namespace DM
open PySem L2
open PyProof.Rows (b2i)

/-! ### targets -/
abbrev TDG := D → DSt → Mm → (DSt → Mm → Prop) → Prop
abbrev TDGs := List D → DSt → Mm → (DSt → Mm → Prop) → Prop
structure JG (X : Cx) (target : Expr) (t : TDG) : Prop where
  go : ∃ t0, PG X target t0 ∧ ∀ (d : D) (v : V) (ds : DSt) (σ : L2.St) (H : HF) (M : Mm) (Q : DSt → Mm → Prop) (Q0 : L2.St → Hp → Prop), VR X.K H d v → SR X.K H ds σ → MR X.K M H → t d ds M Q →
    (∀ ds' σ' H' M', SR X.K H' ds' σ' → MR X.K M' H' → GG M H M' H' → Q ds' M' → Q0 σ' H'.h) → t0 v σ H.h Q0
structure JGs (X : Cx) (ts : List Expr) (t : TDGs) : Prop where
  go : ∃ t0, PGs X ts t0 ∧ ∀ (es : List D) (vs : List V) (ds : DSt) (σ : L2.St) (H : HF) (M : Mm) (Q : DSt → Mm → Prop) (Q0 : L2.St → Hp → Prop), VRs X.K H es vs → SR X.K H ds σ → MR X.K M H → t es ds M Q →
    (∀ ds' σ' H' M', SR X.K H' ds' σ' → MR X.K M' H' → GG M H M' H' → Q ds' M' → Q0 σ' H'.h) → t0 vs σ H.h Q0
def dgName (i : Nat) : TDG := fun d ds M Q => Q (ds.set i (some d)) M
def dgNil : TDGs := fun es ds M Q => match es with | [] => Q ds M | _ => False
def dgCons (t : TDG) (u : TDGs) : TDGs := fun es ds M Q => match es with | d :: r => t d ds M fun ds' M' => u r ds' M' Q | [] => False
def dgTup (n : Nat) (t : TDGs) : TDG := fun d ds M Q => match d with | .tup xs => xs.length = n ∧ t xs ds M Q | .lst xs => xs.length = n ∧ t xs ds M Q | _ => False
section
variable {X : Cx} {pos : Pos}
theorem jg_name {i : Nat} {x : Str} (hN : X.N.Nodup) (hi : X.N[i]? = some x := by rfl) (hx : Loc X.env.scope x := by first | exact Or.inl rfl | exact Or.inr rfl) (hf : X.fn x = true ∨ X.env.scope.names.lookup x = some .local := by first | exact .inl rfl | exact .inr rfl | assumption) : JG X (.Name x pos) (dgName i) :=
  ⟨_, pg_name hN hi hx hf, fun d v ds σ H M Q Q0 r s m q k => k _ _ H M (s.set r i) m GG.refl q⟩
theorem jgs_nil : JGs X [] dgNil := ⟨_, pgs_nil, fun es vs ds σ H M Q Q0 r s m q k => by
  cases r with
  | nil => exact ⟨rfl, k ds σ H M s m GG.refl q⟩
  | cons _ _ => exact q.elim⟩
theorem jgs_cons {e : Expr} {es : List Expr} {t : TDG} {u : TDGs} (h1 : JG X e t) (h2 : JGs X es u)
    (hs : (assignEach (e :: es) X.env).map (·.2) = assign e X.env :: (assignEach es X.env).map (·.2) := by rfl) : JGs X (e :: es) (dgCons t u) := by
  obtain ⟨t0, p, g⟩ := h1
  obtain ⟨u0, p', g'⟩ := h2
  refine ⟨_, pgs_cons p p' hs, fun es vs ds σ H M Q Q0 r s m q k => ?_⟩
  cases r with
  | nil => exact q.elim
  | cons r1 r2 =>
    refine ⟨_, _, rfl, ?_⟩
    refine g _ _ ds σ H M _ _ r1 s m q fun ds' σ' H' M' s' m' gg q' => ?_
    exact g' _ _ ds' σ' H' M' _ _ (VRs.mono (gg.tx m) _ _ r2) s' m' q' fun ds2 σ2 H2 M2 s2 m2 gg2 q2 => k ds2 σ2 H2 M2 s2 m2 (gg.trans gg2) q2
theorem pg_any {es : List Expr} {k : Nat} {t : TGs} {n : Nat} (hc : X.calm = true) (h : PGs X es t)
    (hn : (assignEach es X.env).length = n := by rfl) (hst : (assignEach es X.env).findIdx? (·.1) = none := by rfl) : PG X (.Tuple es k pos) (fun v σ H Q => gTup X.K n t v σ H Q ∨ gLst X.K n t v σ H Q) :=
  ⟨fun pins s σ H v u Q I r hw => hw.elim ((pg_tup hc h hn hst).run pins s σ H v u Q I r) ((pg_lst hc h hn hst).run pins s σ H v u Q I r)⟩
theorem jg_tup {es : List Expr} {k : Nat} {t : TDGs} {n : Nat} (hc : X.calm = true) (h : JGs X es t)
    (hn : (assignEach es X.env).length = n := by rfl) (hst : (assignEach es X.env).findIdx? (·.1) = none := by rfl) : JG X (.Tuple es k pos) (dgTup n t) := by
  obtain ⟨t0, p, g⟩ := h
  refine ⟨_, pg_any hc p hn hst, fun d v ds σ H M Q Q0 r s m q k => ?_⟩
  cases d with
  | tup xs =>
    obtain ⟨a, vs, rfl, sa, ra⟩ := r.tup_v
    obtain ⟨hl, q⟩ := q
    exact .inl ⟨a, vs, rfl, sa, by rw [← ra.length]; exact hl, g xs vs ds σ H M Q Q0 ra s m q k⟩
  | lst xs =>
    obtain ⟨a, vs, rfl, sa, _, ra⟩ := r.lst_v
    obtain ⟨hl, q⟩ := q
    exact .inr ⟨a, vs, rfl, SqL.of sa, by rw [← ra.length]; exact hl, g xs vs ds σ H M Q Q0 ra s m q k⟩
  | _ => exact q.elim
end

/-! ### list-valued expressions: a list of its own -/
abbrev TDL := DSt → Mm → (List D → Mm → Prop) → Prop
structure JL (X : Cx) (e : Expr) (t : TDL) : Prop where
  go : ∃ t0, PE X e t0 ∧ ∀ (ds : DSt) (σ : L2.St) (H : HF) (M : Mm) (Q : List D → Mm → Prop) (Q0 : VK), SR X.K H ds σ → MR X.K M H → t ds M Q →
    (∀ p H' xs vs M', H.h p = none → H'.h p = some (.lst vs) → VRs X.K H' xs vs → M' p = none → ¬H'.F p → MR X.K M' H' → GG M H M' H' → Q xs M' → Q0 (.ref p) H'.h) → t0 σ H.h Q0
def dFresh (t : TDL) : TDE := fun ds M Q => t ds M fun xs M1 => ∀ p, M1 p = none → Q (.ref p) (mup M1 p (.lst xs))
def dFrz (t : TDL) : TDE := fun ds M Q => t ds M fun xs M1 => Q (.lst xs) M1
section
variable {X : Cx} {e : Expr} {t : TDL}
theorem je_fresh (h : JL X e t) : JE X e (dFresh t) := by
  obtain ⟨u, p, g⟩ := h
  refine je_pe p fun ds σ H M Q Q0 s m q k => ?_
  refine g ds σ H M _ _ s m q fun p H' xs vs M' hp hp' r n nf m' gg q' => ?_
  exact k _ H' _ _ (.ref p) (m'.known (w := .lst xs) ⟨vs, hp', r⟩ nf) (gg.known hp) (q' p n)
theorem je_frz (h : JL X e t) : JE X e (dFrz t) := by
  obtain ⟨u, p, g⟩ := h
  refine je_pe p fun ds σ H M Q Q0 s m q k => ?_
  refine g ds σ H M _ _ s m q fun p H' xs vs M' hp hp' r n nf m' gg q' => ?_
  exact k _ (H'.fz p) _ _ (.lst hp' (.inr rfl) (VRs.mono TX.fzz _ _ r)) (m'.fzz hp' n) (gg.fzz hp) q'
/-- [a, b, ..] -/
def dDisp (t : TDA) : TDL := fun ds M Q => t ds M fun xs M1 => xs.length ≤ sizeLine ∧ Q xs M1
theorem jl_disp {es : List Expr} {pos : Pos} {t : TDA} (h : JA X es t) : JL X (.List es pos) (dDisp t) := by
  obtain ⟨t0, p, g⟩ := h
  refine ⟨_, pe_lst p, fun ds σ H M Q Q0 s m q k => ?_⟩
  refine g ds σ H M _ _ s m q fun vs H1 es M1 r1 m1 g1 q1 => ⟨by rw [← r1.length]; exact q1.1, fun a ha => ?_⟩
  have hH : H.h a = none := g1.free ha
  exact k a (H1.up a _) _ vs M1 hH upd_same (VRs.mono (TX.new m1 ha) _ _ r1) (m1.free ha) (m1.freeF ha) (m1.newT ha) (g1.trans (GG.newT ha)) q1.2
end
/-! ### what is walked -/
structure DIt where
  xs : List D
  ok : Mm → Prop := fun _ => True
/-- the walk below yields these items, as long as ok holds; M1, H1: as it began -/
structure ItOk (K : PySem.W.Frag) (J : It) (it : DIt) (M1 : Mm) (H1 : HF) : Prop where
  go : ∀ (i : Nat) (d : D) (M : Mm) (H : HF), GG M1 H1 M H → MR K M H → it.ok M → it.xs[i]? = some d → J.go i H.h
  yld : ∀ (i : Nat) (d : D) (M : Mm) (H : HF) (x : V) (h' : Hp), GG M1 H1 M H → MR K M H → it.ok M → it.xs[i]? = some d → J.yld i H.h x h' → ∃ H' : HF, H'.h = h' ∧ VR K H' d x ∧ MR K M H' ∧ GG M H M H'
  stop : ∀ (M : Mm) (H : HF), GG M1 H1 M H → MR K M H → it.ok M → J.stop it.xs.length H.h
abbrev TDI := DSt → Mm → (DIt → Mm → Prop) → Prop
structure JI (X : Cx) (tg iter : Expr) (t : TDI) : Prop where
  go : ∃ wi, PI X tg iter wi ∧ ∀ (ds : DSt) (σ : L2.St) (H : HF) (M : Mm) (Q : DIt → Mm → Prop) (R0 : It → Hp → Prop), SR X.K H ds σ → MR X.K M H → t ds M Q →
    (∀ J H' it M', ItOk X.K J it M' H' → MR X.K M' H' → GG M H M' H' → Q it M' → R0 J H'.h) → wi σ H.h R0
section
variable {K : PySem.W.Frag} {M M' : Mm} {H H' : HF}
/-- a list that the store knows -/
theorem it_lst {a : Addr} {xs : List D} : ItOk K (Itl K a) ⟨xs, fun M => lstOf M a = some xs⟩ M H where
  go := fun i d M2 H2 g m ok e => by
    obtain ⟨vs, h1, r1⟩ := m.ob a _ (of_lstOf ok)
    obtain ⟨v, e1, _⟩ := r1.get e
    exact ⟨vs, v, SqL.of h1, e1⟩
  yld := fun i d M2 H2 x H3 g m ok e y => by
    obtain ⟨vs, h1, r1⟩ := m.ob a _ (of_lstOf ok)
    obtain ⟨v, e1, r⟩ := r1.get e
    obtain ⟨eH, y⟩ := y
    subst eH
    have := y vs (SqL.of h1)
    rw [e1] at this
    cases this
    exact ⟨H2, rfl, r, m, GG.refl⟩
  stop := fun M2 H2 g m ok => by
    obtain ⟨vs, h1, r1⟩ := m.ob a _ (of_lstOf ok)
    exact ⟨vs, SqL.of h1, by rw [← r1.length]; exact Nat.le_refl _⟩
/-- a list of its own, that the store doesn't know -/
theorem it_own {a : Addr} {xs : List D} {vs : List V} (h1 : H.h a = some (.lst vs)) (r1 : VRs K H xs vs) (n : M a = none) (m0 : MR K M H) : ItOk K (Itl K a) ⟨xs, fun _ => True⟩ M H where
  go := fun i d M2 H2 g m _ e => by
    obtain ⟨v, e1, _⟩ := r1.get e
    exact ⟨vs, v, SqL.of (g.fr a _ h1 n).1, e1⟩
  yld := fun i d M2 H2 x H3 g m _ e y => by
    obtain ⟨v, e1, r⟩ := r1.get e
    obtain ⟨eH, y⟩ := y
    subst eH
    have := y vs (SqL.of (g.fr a _ h1 n).1)
    rw [e1] at this
    cases this
    exact ⟨H2, rfl, VR.mono (g.tx m0) _ _ r, m, GG.refl⟩
  stop := fun M2 H2 g m _ => ⟨vs, SqL.of (g.fr a _ h1 n).1, by rw [← r1.length]; exact Nat.le_refl _⟩
theorem it_tup {a : Addr} {xs : List D} {vs : List V} (h1 : SqT K H.h a vs) (r1 : VRs K H xs vs) (m0 : MR K M H) : ItOk K (Itt K a) ⟨xs, fun _ => True⟩ M H where
  go := fun i d M2 H2 g m _ e => by
    obtain ⟨v, e1, _⟩ := r1.get e
    exact ⟨vs, v, (g.tx m0).tu _ _ h1, e1⟩
  yld := fun i d M2 H2 x H3 g m _ e y => by
    obtain ⟨v, e1, r⟩ := r1.get e
    obtain ⟨eH, y⟩ := y
    subst eH
    have := y vs ((g.tx m0).tu _ _ h1)
    rw [e1] at this
    cases this
    exact ⟨H2, rfl, VR.mono (g.tx m0) _ _ r, m, GG.refl⟩
  stop := fun M2 H2 g m _ => ⟨vs, (g.tx m0).tu _ _ h1, by rw [← r1.length]; exact Nat.le_refl _⟩
def rangeD (lo : Int) (n : Nat) : List D := (List.range n).map fun (i : Nat) => D.int (lo + (i : Int))
theorem rangeD_get {lo : Int} {n i : Nat} {d : D} (h : (rangeD lo n)[i]? = some d) : i < n ∧ d = .int (lo + (i : Int)) := by
  unfold rangeD at h
  rw [List.getElem?_map] at h
  obtain ⟨j, h1, h2⟩ := Option.map_eq_some_iff.mp h
  rw [List.getElem?_range (by
    rcases Nat.lt_or_ge i n with q | q
    · exact q
    · rw [List.getElem?_eq_none (by simpa using q)] at h1; cases h1)] at h1
  cases h1
  refine ⟨?_, h2.symm⟩
  rcases Nat.lt_or_ge i n with q | q
  · exact q
  · rw [List.getElem?_eq_none (by simpa using q)] at h
    cases h
theorem it_rng {lo : Int} {n : Nat} : ItOk K (Itr lo n) ⟨rangeD lo n, fun _ => True⟩ M H where
  go := fun i d M2 H2 g m _ e => (rangeD_get e).1
  yld := fun i d M2 H2 x H3 g m _ e y => by
    obtain ⟨eH, y⟩ := y
    subst eH
    subst y
    rw [(rangeD_get e).2]
    exact ⟨H2, rfl, .int _, m, GG.refl⟩
  stop := fun M2 H2 g m _ => by
    show n ≤ (rangeD lo n).length
    simp [rangeD]
/-- the signs of a text -/
def signs (z : Str) : List D := z.cps.toList.map fun c => .str ⟨#[c]⟩
theorem it_str {z : Str} : ItOk K (Its z) ⟨signs z, fun _ => True⟩ M H where
  go := fun i d M2 H2 g m _ e => by
    unfold signs at e
    rw [List.getElem?_map] at e
    obtain ⟨c, h1, _⟩ := Option.map_eq_some_iff.mp e
    have := (List.getElem?_eq_some_iff.mp h1).1
    show i < z.cps.size
    simpa using this
  yld := fun i d M2 H2 x H3 g m _ e y => by
    obtain ⟨eH, c, y1, y2⟩ := y
    subst eH
    subst y2
    unfold signs at e
    rw [List.getElem?_map] at e
    obtain ⟨c', h1, h2⟩ := Option.map_eq_some_iff.mp e
    rw [Array.getElem?_toList, y1] at h1
    cases h1
    subst h2
    exact ⟨H2, rfl, .str _, m, GG.refl⟩
  stop := fun M2 H2 g m _ => by
    show z.cps.size ≤ (signs z).length
    simp [signs]
end
def seqI (x : D) (M : Mm) (Q : DIt → Mm → Prop) : Prop := match x with
  | .tup xs => Q ⟨xs, fun _ => True⟩ M
  | .ref a => (match lstOf M a with | some xs => Q ⟨xs, fun M' => lstOf M' a = some xs⟩ M | none => False)
  | .lst xs => Q ⟨xs, fun _ => True⟩ M
  | _ => False
def diList (te : TDE) : TDI := fun ds M Q => te ds M fun x M1 => (match x with | .ref a => (match lstOf M1 a with | some xs => Q ⟨xs, fun M' => lstOf M' a = some xs⟩ M1 | none => False) | _ => False)
def diTup (te : TDE) : TDI := fun ds M Q => te ds M fun x M1 => (match x with | .tup xs => Q ⟨xs, fun _ => True⟩ M1 | _ => False)
def diStr (te : TDE) : TDI := fun ds M Q => te ds M fun x M1 => (match x with | .str z => Q ⟨signs z, fun _ => True⟩ M1 | _ => False)
def diOwn (t : TDL) : TDI := fun ds M Q => t ds M fun xs M1 => Q ⟨xs, fun _ => True⟩ M1
def inLine (i : Int) : Prop := -(2 ^ 62) ≤ i ∧ i < 2 ^ 62
def diRng1 (te : TDE) : TDI := fun ds M Q => te ds M fun x M1 => isI x fun j => inLine j ∧ Q ⟨rangeD 0 j.toNat, fun _ => True⟩ M1
def diRng2 (ta tb : TDE) : TDI := fun ds M Q => ta ds M fun x M1 => tb ds M1 fun y M2 => isI x fun i => isI y fun j => inLine i ∧ inLine j ∧ Q ⟨rangeD i (j - i).toNat, fun _ => True⟩ M2
section
variable {X : Cx} {tg e : Expr} {te : TDE}
theorem ji_list (h : JE X e te) : JI X tg e (diList te) := by
  obtain ⟨u, p, g⟩ := h
  refine ⟨_, pi_list p, fun ds σ H M Q R0 s m q k => ?_⟩
  refine g ds σ H M _ _ s m q fun v H1 d M1 r1 m1 g1 q1 => ?_
  cases d with
  | ref a =>
    cases r1.ref_v
    simp only at q1
    split at q1
    · rename_i xs e
      obtain ⟨vs, h1, r2⟩ := m1.ob a _ (of_lstOf e)
      exact ⟨a, rfl, ⟨vs, SqL.of h1⟩, k _ H1 _ M1 it_lst m1 g1 q1⟩
    · exact q1.elim
  | _ => exact q1.elim
theorem ji_tup (h : JE X e te) : JI X tg e (diTup te) := by
  obtain ⟨u, p, g⟩ := h
  refine ⟨_, pi_tup p, fun ds σ H M Q R0 s m q k => ?_⟩
  refine g ds σ H M _ _ s m q fun v H1 d M1 r1 m1 g1 q1 => ?_
  cases d with
  | tup xs =>
    obtain ⟨a, vs, rfl, sa, ra⟩ := r1.tup_v
    exact ⟨a, rfl, ⟨vs, sa⟩, k _ H1 _ M1 (it_tup sa ra m1) m1 g1 q1⟩
  | _ => exact q1.elim
theorem ji_str (h : JE X e te) : JI X tg e (diStr te) := by
  obtain ⟨u, p, g⟩ := h
  refine ⟨_, pi_str p, fun ds σ H M Q R0 s m q k => ?_⟩
  refine g ds σ H M _ _ s m q fun v H1 d M1 r1 m1 g1 q1 => ?_
  cases d with
  | str z =>
    cases r1.str_v
    exact ⟨z, rfl, k _ H1 _ M1 it_str m1 g1 q1⟩
  | _ => exact q1.elim
theorem ji_own {t : TDL} (h : JL X e t) : JI X tg e (diOwn t) := by
  obtain ⟨u, p, g⟩ := h
  refine ⟨_, pi_list p, fun ds σ H M Q R0 s m q k => ?_⟩
  refine g ds σ H M _ _ s m q fun a H1 xs vs M1 hp hp1 r1 n1 nf1 m1 g1 q1 => ?_
  exact ⟨a, rfl, ⟨vs, SqL.of hp1⟩, k _ H1 _ M1 (it_own hp1 r1 n1 m1) m1 g1 q1⟩
theorem ji_rng1 {p pos : Pos} (hg : Gl X "range") (hm : X.mg "range" = none) (h : JE X e te) (hs : starEach [e] X.env = [(false, eval e X.env)] := by rfl) (hs' : starEach (e :: []) X.env = (false, eval e X.env) :: starEach [] X.env := by rfl) :
    JI X tg (.Call (.Name "range" p) [e] [] pos) (diRng1 te) := by
  obtain ⟨u, q, g⟩ := h
  refine ⟨_, pi_range1 hg hm (pa_cons q pa_nil hs') hs, fun ds σ H M Q R0 s m q k => ?_⟩
  refine g ds σ H M _ _ s m q fun v H1 d M1 r1 m1 g1 q1 => ?_
  obtain ⟨j, rfl, ⟨l1, l2⟩, q1⟩ := isI_out r1 q1
  exact ⟨j, rfl, l1, l2, k _ H1 _ M1 it_rng m1 g1 q1⟩
theorem ji_rng2 {f : Expr} {tf : TDE} {p pos : Pos} (hg : Gl X "range") (hm : X.mg "range" = none) (h : JE X e te) (h' : JE X f tf) (hs : starEach [e, f] X.env = [(false, eval e X.env), (false, eval f X.env)] := by rfl)
    (hs2 : starEach [f] X.env = [(false, eval f X.env)] := by rfl) (hs3 : starEach [e, f] X.env = (false, eval e X.env) :: starEach [f] X.env := by rfl) (hs4 : starEach [f] X.env = (false, eval f X.env) :: starEach [] X.env := by rfl) :
    JI X tg (.Call (.Name "range" p) [e, f] [] pos) (diRng2 te tf) := by
  obtain ⟨u, q, g⟩ := h
  obtain ⟨u', q', g'⟩ := h'
  refine ⟨_, pi_range2 hg hm (pa_cons q (pa_cons q' pa_nil hs4) hs3) hs hs2, fun ds σ H M Q R0 s m q k => ?_⟩
  refine g ds σ H M _ _ s m q fun v H1 d M1 r1 m1 g1 q1 => ?_
  refine g' ds σ H1 M1 _ _ (s.gg m g1) m1 q1 fun w H2 d2 M2 r2 m2 g2 q2 => ?_
  obtain ⟨i, rfl, q2⟩ := isI_out r1 q2
  obtain ⟨j, rfl, ⟨l1, l2⟩, ⟨l3, l4⟩, q2⟩ := isI_out r2 q2
  exact ⟨i, j, rfl, ⟨l1, l2, l3, l4⟩, k _ H2 _ M2 it_rng m2 (g1.trans g2) q2⟩
end

/-! ### statements -/
def dNext : TDS := fun D ds M => D.nx ds M
def dSeq (t u : TDS) : TDS := fun D ds M => t { D with nx := u D } ds M
def dBreak : TDS := fun D ds M => D.bk ds M
def dCont : TDS := fun D ds M => D.ct ds M
def dDrop (te : TDE) : TDS := fun D ds M => te ds M fun _ M1 => D.nx ds M1
def dRet (te : TDE) : TDS := fun D ds M => te ds M D.rt
def dRetN : TDS := fun D _ M => D.rt .non M
def dIfS (c : TDT) (t u : TDS) : TDS := fun D ds M => c ds M fun b M1 => if b = true then t D ds M1 else u D ds M1
def dAsg (te : TDE) (g : TDG) : TDS := fun D ds M => te ds M fun x M1 => g x ds M1 D.nx
/-- through the items -/
def forW (ok : Mm → Prop) (g : TDG) (tb : TDS) (D : DEnds) : List DM.D → DSt → Mm → Prop
  | [], ds, M => ok M ∧ D.nx ds M
  | x :: r, ds, M => ok M ∧ g x ds M fun ds' M' => tb { D with nx := forW ok g tb D r, ct := forW ok g tb D r, bk := D.nx } ds' M'
def dFor (ti : TDI) (g : TDG) (tb : TDS) : TDS := fun D ds M => ti ds M fun it M1 => forW it.ok g tb D it.xs ds M1
def whileN (c : TDT) (tb : TDS) (D : DEnds) : Nat → DSt → Mm → Prop
  | 0, _, _ => False
  | n + 1, ds, M => c ds M fun b M1 => if b = true then tb { D with nx := whileN c tb D n, ct := whileN c tb D n, bk := D.nx } ds M1 else D.nx ds M1
def dWhile (c : TDT) (tb : TDS) : TDS := fun D ds M => ∃ n, whileN c tb D n ds M
section
variable {X : Cx} {W : WX} {st : Stmt} {rest : List Stmt} {t u : TDS} {e : Expr} {te : TDE} {pos : Pos}
theorem Link.with_nx {K : PySem.W.Frag} {W : WX} {M0 : Mm} {H0 : HF} {D0 : Ends} {D1 : DEnds} (l : Link K W M0 H0 D0 D1) {n0 : L2.St → Hp → Prop} {n1 : DSt → Mm → Prop}
    (h : ∀ σ ds H M, GG M0 H0 M H → SR K H ds σ → MR K M H → n1 ds M → n0 σ H.h) : Link K W M0 H0 { D0 with nx := n0 } { D1 with nx := n1 } := ⟨h, l.rt, l.bk, l.ct, l.xc⟩
theorem jb_nil : JB X W [] dNext := ⟨_, pss_nil, fun M0 H0 D0 D1 l ds σ H M g s m q => l.nx σ ds H M g s m q⟩
theorem jb_cons (h1 : JS X W st t) (h2 : JB X W rest u) : JB X W (st :: rest) (dSeq t u) := by
  obtain ⟨t0, p, g⟩ := h1
  obtain ⟨u0, p', g'⟩ := h2
  refine ⟨_, pss_cons p p', fun M0 H0 D0 D1 l ds σ H M gg s m q => ?_⟩
  exact g M0 H0 _ _ (l.with_nx fun σ' ds' H' M' g1 s1 m1 q1 => g' M0 H0 D0 D1 l ds' σ' H' M' g1 s1 m1 q1) ds σ H M gg s m q
theorem jb_one (h1 : JS X W st t) : JB X W [st] t := by
  obtain ⟨t0, p, g⟩ := h1
  exact ⟨_, pss_one p, g⟩
theorem js_pass : JS X W (.Pass pos) dNext := ⟨_, ps_pass, fun M0 H0 D0 D1 l ds σ H M g s m q => l.nx σ ds H M g s m q⟩
theorem js_break : JS X W (.Break pos) dBreak := ⟨_, ps_break, fun M0 H0 D0 D1 l ds σ H M g s m q => l.bk σ ds H M g s m q⟩
theorem js_continue : JS X W (.Continue pos) dCont := ⟨_, ps_continue, fun M0 H0 D0 D1 l ds σ H M g s m q => l.ct σ ds H M g s m q⟩
theorem js_expr (he : JE X e te) (hs : swapsWith e none pos.line X.env = pure false := by rfl) : JS X W (.Expr e pos) (dDrop te) := by
  obtain ⟨t0, p, g⟩ := he
  refine ⟨_, ps_expr p hs, fun M0 H0 D0 D1 l ds σ H M gg s m q => ?_⟩
  exact g ds σ H M _ _ s m q fun v H1 d M1 r1 m1 g1 q1 => l.nx σ ds H1 M1 (gg.trans g1) (s.gg m g1) m1 q1
theorem js_ret (he : JE X e te) : JS X W (.Return (some e) pos) (dRet te) := by
  obtain ⟨t0, p, g⟩ := he
  refine ⟨_, ps_ret p, fun M0 H0 D0 D1 l ds σ H M gg s m q => ?_⟩
  exact g ds σ H M _ _ s m q fun v H1 d M1 r1 m1 g1 q1 => l.rt v d H1 M1 (gg.trans g1) r1 m1 q1
theorem js_retN : JS X W (.Return none pos) dRetN := ⟨_, ps_retN, fun M0 H0 D0 D1 l ds σ H M g s m q => l.rt _ _ H M g .non m q⟩
theorem js_if {c : Expr} {a b : List Stmt} {tc : TDT} (hc : JT X c tc) (ha : JB X W a t) (hb : JB X W b u) : JS X W (.If c a b pos) (dIfS tc t u) := by
  obtain ⟨t0, p, g⟩ := hc
  obtain ⟨t1, p1, g1⟩ := ha
  obtain ⟨t2, p2, g2⟩ := hb
  refine ⟨_, ps_if p p1 p2, fun M0 H0 D0 D1 l ds σ H M gg s m q => ?_⟩
  refine g ds σ H M _ _ s m q fun b H1 M1 m1 gg1 q1 => ?_
  cases b with
  | true => exact g1 M0 H0 D0 D1 l ds σ H1 M1 (gg.trans gg1) (s.gg m gg1) m1 q1
  | false => exact g2 M0 H0 D0 D1 l ds σ H1 M1 (gg.trans gg1) (s.gg m gg1) m1 q1
/-- target = value -/
theorem js_asg {tg : Expr} {g : TDG} (he : JE X e te) (hg : JG X tg g) (hs : swapsWithSole [tg] e pos.line X.env = pure false := by rfl) (hw : swappedStores [tg] e X.env = pure none := by rfl)
    (h1 : (assignEach [tg] X.env).map (·.2) = [assign tg X.env] := by rfl) : JS X W (.Assign [tg] e pos) (dAsg te g) := by
  obtain ⟨t0, p, ge⟩ := he
  obtain ⟨g0, p', gg'⟩ := hg
  refine ⟨_, ps_asg p p' hs hw h1, fun M0 H0 D0 D1 l ds σ H M gg s m q => ?_⟩
  refine ge ds σ H M _ _ s m q fun v H1 d M1 r1 m1 g1 q1 => ?_
  exact gg' d v ds σ H1 M1 _ _ r1 (s.gg m g1) m1 q1 fun ds' σ' H' M' s' m' g2 q2 => l.nx σ' ds' H' M' ((gg.trans g1).trans g2) s' m' q2
/-- name = value -/
theorem js_set {i : Nat} {x : Str} {pos' : Pos} (hN : X.N.Nodup) (he : JE X e te) (hi : X.N[i]? = some x := by rfl) (hx : Loc X.env.scope x := by first | exact Or.inl rfl | exact Or.inr rfl) (hs : swapsWith e (some (.Name x pos')) pos.line X.env = pure false := by rfl) (hf : X.fn x = true ∨ X.env.scope.names.lookup x = some .local := by first | exact .inl rfl | exact .inr rfl | assumption) :
    JS X W (.Assign [.Name x pos'] e pos) (dAsg te (dgName i)) := by
  obtain ⟨t0, p, ge⟩ := he
  refine ⟨_, ps_set hN hi hx p hs hf, fun M0 H0 D0 D1 l ds σ H M gg s m q => ?_⟩
  refine ge ds σ H M _ _ s m q fun v H1 d M1 r1 m1 g1 q1 => ?_
  exact l.nx _ _ H1 M1 (gg.trans g1) ((s.gg m g1).set r1 i) m1 q1
theorem js_for {tg iter : Expr} {body : List Stmt} {ti : TDI} {g : TDG} {tb : TDS} (hp : PassesOwn (model X.prog X.w) X.A X.env X.xe) (hc : X.calm = true) (hi : JI X tg iter ti) (hg : JG X tg g) (hb : JB X W body tb)
    (hs : ∀ x, foldedSetIterable iter X.env x = pure x := by intro _; rfl) : JS X W (.For tg iter body [] pos) (dFor ti g tb) := by
  obtain ⟨wi, p, gi⟩ := hi
  obtain ⟨g0, pg, gg⟩ := hg
  obtain ⟨b0, pb, gb⟩ := hb
  refine ⟨_, ps_for hp hc p pg pb hs, fun M0 H0 D0 D1 l ds σ H M gg0 s m q => ?_⟩
  refine gi ds σ H M _ _ s m q fun J H1 it M1 io m1 g1 q1 => ?_
  refine ⟨fun i n σ2 h2 => n = it.xs.length - i ∧ i ≤ it.xs.length ∧ ∃ ds2 M2 H2, h2 = H2.h ∧ GG M1 H1 M2 H2 ∧ GG M0 H0 M2 H2 ∧ SR X.K H2 ds2 σ2 ∧ MR X.K M2 H2 ∧ forW it.ok g tb D1 (it.xs.drop i) ds2 M2,
    ⟨_, rfl, Nat.zero_le _, ds, M1, H1, rfl, GG.refl, gg0.trans g1, s.gg m g1, m1, by simpa using q1⟩, ?_⟩
  rintro i n σ2 h2 ⟨rfl, hi, ds2, M2, H2, rfl, ga, gb2, s2, m2, q2⟩
  by_cases hlt : i < it.xs.length
  · have e : it.xs.drop i = it.xs[i] :: it.xs.drop (i + 1) := List.drop_eq_getElem_cons hlt
    rw [e] at q2
    obtain ⟨ok, q2⟩ := q2
    have ei : it.xs[i]? = some it.xs[i] := List.getElem?_eq_getElem hlt
    refine .inr ⟨io.go i _ M2 H2 ga m2 ok ei, fun σ' h' => i + 1 ≤ it.xs.length ∧ ∃ ds' M' H', h' = H'.h ∧ GG M1 H1 M' H' ∧ GG M0 H0 M' H' ∧ SR X.K H' ds' σ' ∧ MR X.K M' H' ∧ forW it.ok g tb D1 (it.xs.drop (i + 1)) ds' M',
      fun σ' H' h => ⟨it.xs.length - (i + 1), by omega, rfl, h.1, h.2⟩, fun x h' y => ?_⟩
    obtain ⟨H', rfl, r', m', g'⟩ := io.yld i _ M2 H2 x h' ga m2 ok ei y
    refine gg _ x ds2 σ2 H' M2 _ _ r' (s2.gg m2 g') m' q2 fun ds3 σ3 H3 M3 s3 m3 g3 q3 => ?_
    -- the body, seen from the loop's start
    have G1 : GG M1 H1 M3 H3 := (ga.trans g').trans g3
    have G0 : GG M0 H0 M3 H3 := (gb2.trans g').trans g3
    refine gb M3 H3 _ _ ⟨?_, ?_, ?_, ?_, ?_⟩ ds3 σ3 H3 M3 GG.refl s3 m3 q3
    · exact fun σ4 ds4 H4 M4 g4 s4 m4 q4 => ⟨hlt, ds4, M4, H4, rfl, G1.trans g4, G0.trans g4, s4, m4, q4⟩
    · exact fun v d H4 M4 g4 r4 m4 q4 => l.rt v d H4 M4 (G0.trans g4) r4 m4 q4
    · exact fun σ4 ds4 H4 M4 g4 s4 m4 q4 => l.nx σ4 ds4 H4 M4 (G0.trans g4) s4 m4 q4
    · exact fun σ4 ds4 H4 M4 g4 s4 m4 q4 => ⟨hlt, ds4, M4, H4, rfl, G1.trans g4, G0.trans g4, s4, m4, q4⟩
    · exact fun C od σ4 ds4 fs H4 M4 f4 g4 s4 x4 m4 q4 => l.xc C od σ4 ds4 fs H4 M4 (fun dd e => G0.free (f4 dd e)) (G0.trans g4) s4 x4 m4 q4
  · have e : i = it.xs.length := by omega
    subst e
    rw [List.drop_length] at q2
    exact .inl ⟨io.stop M2 H2 ga m2 q2.1, l.nx σ2 ds2 H2 M2 gb2 s2 m2 q2.2⟩
/-- never reached -/
theorem js_never : JS X W st (fun _ _ _ => False) := ⟨_, ps_never, fun M0 H0 D0 D1 l ds σ H M g s m q => q.elim⟩
theorem js_while {c : Expr} {body : List Stmt} {tc : TDT} {tb : TDS} (hp : PassesOwn (model X.prog X.w) X.A X.env X.xe) (hc : JT X c tc) (hb : JB X W body tb) : JS X W (.While c body [] pos) (dWhile tc tb) := by
  obtain ⟨c0, pc, gc⟩ := hc
  obtain ⟨b0, pb, gb⟩ := hb
  refine ⟨_, ps_while hp pc pb, fun M0 H0 D0 D1 l ds σ H M gg0 s m q => ?_⟩
  obtain ⟨n0, q⟩ := q
  refine ⟨fun n σ2 h2 => ∃ ds2 M2 H2, h2 = H2.h ∧ GG M0 H0 M2 H2 ∧ SR X.K H2 ds2 σ2 ∧ MR X.K M2 H2 ∧ whileN tc tb D1 n ds2 M2, ⟨n0, ds, M, H, rfl, gg0, s, m, q⟩, ?_⟩
  rintro n σ2 h2 ⟨ds2, M2, H2, rfl, g2, s2, m2, q2⟩
  cases n with
  | zero => exact q2.elim
  | succ n =>
    refine gc ds2 σ2 H2 M2 _ _ s2 m2 q2 fun b H3 M3 m3 g3 q3 => ?_
    cases b with
    | false => exact l.nx σ2 ds2 H3 M3 (g2.trans g3) (s2.gg m2 g3) m3 q3
    | true =>
      refine ⟨fun σ' h' => ∃ ds' M' H', h' = H'.h ∧ GG M0 H0 M' H' ∧ SR X.K H' ds' σ' ∧ MR X.K M' H' ∧ whileN tc tb D1 n ds' M', fun σ' H' h => ⟨n, Nat.lt_succ_self _, h⟩, ?_⟩
      refine gb M0 H0 _ _ ⟨?_, ?_, ?_, ?_, ?_⟩ ds2 σ2 H3 M3 (g2.trans g3) (s2.gg m2 g3) m3 q3
      · exact fun σ4 ds4 H4 M4 g4 s4 m4 q4 => ⟨ds4, M4, H4, rfl, g4, s4, m4, q4⟩
      · exact fun v d H4 M4 g4 r4 m4 q4 => l.rt v d H4 M4 g4 r4 m4 q4
      · exact fun σ4 ds4 H4 M4 g4 s4 m4 q4 => l.nx σ4 ds4 H4 M4 g4 s4 m4 q4
      · exact fun σ4 ds4 H4 M4 g4 s4 m4 q4 => ⟨ds4, M4, H4, rfl, g4, s4, m4, q4⟩
      · exact fun C od σ4 ds4 fs H4 M4 f4 g4 s4 x4 m4 q4 => l.xc C od σ4 ds4 fs H4 M4 f4 g4 s4 x4 m4 q4
end
end DM

namespace DM
open PySem L2
open PyProof.Rows (b2i)

/-! ### comprehensions -/
def wipeD (ds : DSt) : List Nat → DSt
  | [] => ds
  | v :: vs => (wipeD ds vs).set v none
theorem SR.wipe {K : PySem.W.Frag} {H : HF} {ds : DSt} {σ : L2.St} (s : SR K H ds σ) : ∀ vs : List Nat, SR K H (wipeD ds vs) (L2.wipe σ vs)
  | [] => s
  | v :: vs => (SR.wipe s vs).forget v
/-- a target that stores to the block's own names alone -/
structure JGv (X : Cx) (target : Expr) (vs : List Nat) (t : TDG) : Prop where
  go : ∃ t0, PG X target t0 ∧ ∀ (d : D) (v : V) (ds : DSt) (σ : L2.St) (H : HF) (M : Mm) (Q : DSt → Mm → Prop) (Q0 : L2.St → Hp → Prop), VR X.K H d v → SR X.K H ds σ → MR X.K M H → t d ds M Q →
    (∀ ds' σ' H' M', L2.wipe σ' vs = L2.wipe σ vs → SR X.K H' ds' σ' → MR X.K M' H' → GG M H M' H' → Q ds' M' → Q0 σ' H'.h) → t0 v σ H.h Q0
structure JGvs (X : Cx) (ts : List Expr) (vs : List Nat) (t : TDGs) : Prop where
  go : ∃ t0, PGs X ts t0 ∧ ∀ (es : List D) (us : List V) (ds : DSt) (σ : L2.St) (H : HF) (M : Mm) (Q : DSt → Mm → Prop) (Q0 : L2.St → Hp → Prop), VRs X.K H es us → SR X.K H ds σ → MR X.K M H → t es ds M Q →
    (∀ ds' σ' H' M', L2.wipe σ' vs = L2.wipe σ vs → SR X.K H' ds' σ' → MR X.K M' H' → GG M H M' H' → Q ds' M' → Q0 σ' H'.h) → t0 us σ H.h Q0
theorem wipe_set {i : Nat} {x : Option V} : ∀ {vs : List Nat} {σ : L2.St}, i ∈ vs → L2.wipe (σ.set i x) vs = L2.wipe σ vs
  | [], _, h => by cases h
  | v :: vs, σ, h => by
    show (L2.wipe (σ.set i x) vs).set v none = (L2.wipe σ vs).set v none
    by_cases hv : i ∈ vs
    · rw [wipe_set hv]
    · have e : i = v := by
        rcases List.mem_cons.mp h with e | e
        · exact e
        · exact absurd e hv
      subst e
      have comm : ∀ (ws : List Nat), i ∉ ws → L2.wipe (σ.set i x) ws = (L2.wipe σ ws).set i x := by
        intro ws
        induction ws with
        | nil => intro _; rfl
        | cons w ws ih =>
          intro hw
          show (L2.wipe (σ.set i x) ws).set w none = ((L2.wipe σ ws).set w none).set i x
          rw [ih fun z => hw (List.mem_cons_of_mem _ z), List.set_comm]
          intro z
          exact hw (by rw [z]; exact List.mem_cons_self)
      rw [comm vs hv, List.set_set]
section
variable {X : Cx} {pos : Pos}
theorem jgv_name {i : Nat} {x : Str} {vs : List Nat} (hN : X.N.Nodup) (hv : i ∈ vs) (hi : X.N[i]? = some x := by rfl) (hx : Loc X.env.scope x := by first | exact Or.inl rfl | exact Or.inr rfl) (hf : X.fn x = true ∨ X.env.scope.names.lookup x = some .local := by first | exact .inl rfl | exact .inr rfl | assumption) : JGv X (.Name x pos) vs (dgName i) :=
  ⟨_, pg_name hN hi hx hf, fun d v ds σ H M Q Q0 r s m q k => k _ _ H M (wipe_set hv) (s.set r i) m GG.refl q⟩
theorem jgvs_nil {vs : List Nat} : JGvs X [] vs dgNil := ⟨_, pgs_nil, fun es us ds σ H M Q Q0 r s m q k => by
  cases r with
  | nil => exact ⟨rfl, k ds σ H M rfl s m GG.refl q⟩
  | cons _ _ => exact q.elim⟩
theorem jgvs_cons {e : Expr} {es : List Expr} {vs : List Nat} {t : TDG} {u : TDGs} (h1 : JGv X e vs t) (h2 : JGvs X es vs u)
    (hs : (assignEach (e :: es) X.env).map (·.2) = assign e X.env :: (assignEach es X.env).map (·.2) := by rfl) : JGvs X (e :: es) vs (dgCons t u) := by
  obtain ⟨t0, p, g⟩ := h1
  obtain ⟨u0, p', g'⟩ := h2
  refine ⟨_, pgs_cons p p' hs, fun es us ds σ H M Q Q0 r s m q k => ?_⟩
  cases r with
  | nil => exact q.elim
  | cons r1 r2 =>
    refine ⟨_, _, rfl, ?_⟩
    refine g _ _ ds σ H M _ _ r1 s m q fun ds' σ' H' M' hw s' m' gg q' => ?_
    exact g' _ _ ds' σ' H' M' _ _ (VRs.mono (gg.tx m) _ _ r2) s' m' q' fun ds2 σ2 H2 M2 hw2 s2 m2 gg2 q2 => k ds2 σ2 H2 M2 (hw2.trans hw) s2 m2 (gg.trans gg2) q2
theorem jgv_tup {es : List Expr} {k : Nat} {t : TDGs} {n : Nat} {vs : List Nat} (hc : X.calm = true) (h : JGvs X es vs t)
    (hn : (assignEach es X.env).length = n := by rfl) (hst : (assignEach es X.env).findIdx? (·.1) = none := by rfl) : JGv X (.Tuple es k pos) vs (dgTup n t) := by
  obtain ⟨t0, p, g⟩ := h
  refine ⟨_, pg_any hc p hn hst, fun d v ds σ H M Q Q0 r s m q k => ?_⟩
  cases d with
  | tup xs =>
    obtain ⟨a, us, rfl, sa, ra⟩ := r.tup_v
    obtain ⟨hl, q⟩ := q
    exact .inl ⟨a, us, rfl, sa, by rw [← ra.length]; exact hl, g xs us ds σ H M Q Q0 ra s m q k⟩
  | lst xs =>
    obtain ⟨a, us, rfl, sa, _, ra⟩ := r.lst_v
    obtain ⟨hl, q⟩ := q
    exact .inr ⟨a, us, rfl, SqL.of sa, by rw [← ra.length]; exact hl, g xs us ds σ H M Q Q0 ra s m q k⟩
  | _ => exact q.elim
/-- the tests of a comprehension -/
structure JTs (X : Cx) (ifs : List Expr) (t : TDT) : Prop where
  go : ∃ t0, PTs X ifs t0 ∧ ∀ (ds : DSt) (σ : L2.St) (H : HF) (M : Mm) (Q : Bool → Mm → Prop) (Q0 : Bool → Hp → Prop), SR X.K H ds σ → MR X.K M H → t ds M Q →
    (∀ b H' M', MR X.K M' H' → GG M H M' H' → Q b M' → Q0 b H'.h) → t0 σ H.h Q0
def dYes : TDT := fun _ M Q => Q true M
theorem jts_nil : JTs X [] dYes := ⟨_, pts_nil, fun ds σ H M Q Q0 s m q k => k true H M m GG.refl q⟩
theorem jts_one {c : Expr} {t : TDT} (h : JT X c t) : JTs X [c] t := by
  obtain ⟨u, p, g⟩ := h
  exact ⟨_, pts_one p, g⟩
end
def lcW (ok : Mm → Prop) (g : TDG) (tt : TDT) (te : TDE) (ds0 : DSt) (Q : List D → Mm → Prop) : List D → List D → Mm → Prop
  | [], acc, M => ok M ∧ Q acc M
  | x :: r, acc, M => ok M ∧ g x ds0 M fun ds' M2 => tt ds' M2 fun b M3 => if b = true then te ds' M3 fun d M4 => acc.length < sizeLine ∧ lcW ok g tt te ds0 Q r (acc ++ [d]) M4 else lcW ok g tt te ds0 Q r acc M3
def dLc (ti : TDI) (g : TDG) (tt : TDT) (te : TDE) (vs : List Nat) : TDL := fun ds M Q => ti ds M fun it M1 => lcW it.ok g tt te (wipeD ds vs) Q it.xs [] M1
/-- the blocks of a comprehension -/
abbrev Blk (X : Cx) (scope : Scope) (s : Shared) (H : Hp) (C : Addr) (cl : List (Str × Addr)) (fp : List Addr) : Cx := X.blk s H scope (compEnvC scope cl C X.env) fp
structure JLC (X : Cx) (elt tg iter : Expr) (ifs : List Expr) (scope : Scope) (own : List (Str × Nat)) (t : TDL) : Prop where
  go : ∃ (wi : TI) (g : TG) (tt : TT) (te : TE), PI X tg iter wi ∧ BlkOk X.N X.env.scope scope own ∧ (∀ s H C cl fp, PG (Blk X scope s H C cl fp) tg g) ∧ (∀ s H C cl fp, PTs (Blk X scope s H C cl fp) ifs tt) ∧ (∀ s H C cl fp, PE (Blk X scope s H C cl fp) elt te) ∧
    ∀ (ds : DSt) (σ : L2.St) (H : HF) (M : Mm) (Q : List D → Mm → Prop) (Q0 : VK), SR X.K H ds σ → MR X.K M H → t ds M Q →
    (∀ p H' xs vs M', H.h p = none → H'.h p = some (.lst vs) → VRs X.K H' xs vs → M' p = none → ¬H'.F p → MR X.K M' H' → GG M H M' H' → Q xs M' → Q0 (.ref p) H'.h) → tLc wi g tt te (own.map (·.2)) σ H.h Q0
theorem jlc {X : Cx} {elt tg iter : Expr} {ifs : List Expr} {scope : Scope} {own : List (Str × Nat)} {ti : TDI} {g : TDG} {tt : TDT} {te : TDE} (hi : JI X tg iter ti) (ok : BlkOk X.N X.env.scope scope own)
    (hg : ∀ s H C cl fp, JGv (Blk X scope s H C cl fp) tg (own.map (·.2)) g) (ht : ∀ s H C cl fp, JTs (Blk X scope s H C cl fp) ifs tt) (he : ∀ s H C cl fp, JE (Blk X scope s H C cl fp) elt te) :
    JLC X elt tg iter ifs scope own (dLc ti g tt te (own.map (·.2))) := by
  obtain ⟨wi, pi, gi⟩ := hi
  refine ⟨wi, fun v σ H Q => ∀ s H' C cl fp, (hg s H' C cl fp).go.choose v σ H Q, fun σ H Q => ∀ s H' C cl fp, (ht s H' C cl fp).go.choose σ H Q, fun σ H Q => ∀ s H' C cl fp, (he s H' C cl fp).go.choose σ H Q, pi, ok, ?_, ?_, ?_, ?_⟩
  · exact fun s H C cl fp => ⟨fun pins s' σ H' v u Q I r h => (hg s H C cl fp).go.choose_spec.1.run pins s' σ H' v u Q I r (h s H C cl fp)⟩
  · exact fun s H C cl fp => ⟨fun pins s' σ H' Q I h => (ht s H C cl fp).go.choose_spec.1.run pins s' σ H' Q I (h s H C cl fp)⟩
  · exact fun s H C cl fp => ⟨fun pins s' σ H' Q I h => (he s H C cl fp).go.choose_spec.1.run pins s' σ H' Q I (h s H C cl fp)⟩
  · intro ds σ H M Q Q0 s m q k
    refine gi ds σ H M _ _ s m q fun J H1 it M1 io m1 g1 q1 => ?_
    intro p hp
    refine ⟨fun i n h2 => n = it.xs.length - i ∧ i ≤ it.xs.length ∧ ∃ M2 acc va H2, h2 = H2.h ∧ GG M1 H1 M2 H2 ∧ MR X.K M2 H2 ∧ H2.h p = some (.lst va) ∧ (M2 p = none ∧ ¬H2.F p) ∧ VRs X.K H2 acc va ∧ lcW it.ok g tt te (wipeD ds (own.map (·.2))) Q (it.xs.drop i) acc M2,
      ⟨_, rfl, Nat.zero_le _, M1, [], [], H1.up p _, rfl, GG.newT hp, m1.newT hp, upd_same, ⟨m1.free hp, m1.freeF hp⟩, .nil, by simpa using q1⟩, ?_⟩
    rintro i n h2 ⟨rfl, hi, M2, acc, va, H2, rfl, g2, m2, hD, nD, ra, q2⟩
    have s2 : SR X.K H2 (wipeD ds (own.map (·.2))) (L2.wipe σ (own.map (·.2))) := ((s.gg m (g1.trans g2))).wipe _
    by_cases hlt : i < it.xs.length
    · have e : it.xs.drop i = it.xs[i] :: it.xs.drop (i + 1) := List.drop_eq_getElem_cons hlt
      rw [e] at q2
      obtain ⟨okM, q2⟩ := q2
      have ei : it.xs[i]? = some it.xs[i] := List.getElem?_eq_getElem hlt
      refine .inr ⟨io.go i _ M2 H2 g2 m2 okM ei, fun h' => i + 1 ≤ it.xs.length ∧ ∃ M2 acc va H', h' = H'.h ∧ GG M1 H1 M2 H' ∧ MR X.K M2 H' ∧ H'.h p = some (.lst va) ∧ (M2 p = none ∧ ¬H'.F p) ∧ VRs X.K H' acc va ∧ lcW it.ok g tt te (wipeD ds (own.map (·.2))) Q (it.xs.drop (i + 1)) acc M2,
        fun H' h => ⟨it.xs.length - (i + 1), by omega, rfl, h.1, h.2⟩, fun x h' y => ?_⟩
      obtain ⟨H', rfl, r', m', g'⟩ := io.yld i _ M2 H2 x h' g2 m2 okM ei y
      intro s' H'' C cl fp
      refine (hg s' H'' C cl fp).go.choose_spec.2 _ x _ _ H' M2 _ _ r' (s2.gg m2 g') m' q2 fun ds3 σ3 H3 M3 hw s3 m3 g3 q3 => ⟨?_, ?_⟩
      · rw [hw]
        have idem : ∀ (vs ws : List Nat), (∀ v ∈ ws, v ∈ vs) → L2.wipe (L2.wipe σ vs) ws = L2.wipe σ vs := by
          intro vs ws
          induction ws with
          | nil => intro _; rfl
          | cons w ws ih =>
            intro hs
            show (L2.wipe (L2.wipe σ vs) ws).set w none = L2.wipe σ vs
            rw [ih fun v hv => hs v (List.mem_cons_of_mem _ hv)]
            have hw := hs w List.mem_cons_self
            -- the slot is forgotten already
            have gone : ∀ (us : List Nat), w ∈ us → (L2.wipe σ us).set w none = L2.wipe σ us := by
              intro us
              induction us with
              | nil => intro z; cases z
              | cons u us ih2 =>
                intro z
                show ((L2.wipe σ us).set u none).set w none = (L2.wipe σ us).set u none
                by_cases hwu : w = u
                · subst hwu; rw [List.set_set]
                · have hz : w ∈ us := by
                    rcases List.mem_cons.mp z with z | z
                    · exact absurd z hwu
                    · exact z
                  rw [List.set_comm _ _ (Ne.symm hwu), ih2 hz]
            exact gone vs hw
        exact idem _ _ fun v hv => hv
      · intro s' H'' C cl fp
        refine (ht s' H'' C cl fp).go.choose_spec.2 ds3 σ3 H3 M3 _ _ s3 m3 q3 fun b H4 M4 m4 g4 q4 => ?_
        have g24 : GG M2 H2 M4 H4 := (g'.trans g3).trans g4
        cases b with
        | false =>
          rw [if_neg Bool.false_ne_true] at q4 ⊢
          obtain ⟨hD4, nD4⟩ := g24.nfr hD nD.1 nD.2
          exact ⟨hlt, M4, acc, va, H4, rfl, g2.trans g24, m4, hD4, nD4, VRs.mono (g24.tx m2) _ _ ra, q4⟩
        | true =>
          rw [if_pos rfl] at q4 ⊢
          intro s' H'' C cl fp
          refine (he s' H'' C cl fp).go.choose_spec.2 ds3 σ3 H4 M4 _ _ (s3.gg m3 g4) m4 q4 fun y H5 d M5 r5 m5 g5 q5 => ?_
          have g25 : GG M2 H2 M5 H5 := g24.trans g5
          obtain ⟨hD5, nD5⟩ := g25.nfr hD nD.1 nD.2
          have ra5 := VRs.mono (g25.tx m2) _ _ ra
          refine ⟨va, hD5, by rw [← ra5.length]; exact q5.1, hlt, M5, acc ++ [d], va ++ [y], H5.up p _, rfl, (g2.trans g25).hidden hp, m5.hidden hD5 nD5.1 nD5.2, upd_same, nD5, ?_, q5.2⟩
          exact VRs.append (VRs.mono (TX.hidden hD5 nD5.2) _ _ ra5) (.cons (VR.mono (TX.hidden hD5 nD5.2) _ _ r5) .nil)
    · have e : i = it.xs.length := by omega
      subst e
      rw [List.drop_length] at q2
      exact .inl ⟨io.stop M2 H2 g2 m2 q2.1, k p H2 acc va M2 (g1.free hp) hD ra nD.1 nD.2 m2 (g1.trans g2) q2.2⟩
section
variable {X : Cx} {elt tg iter : Expr} {ifs : List Expr} {scope : Scope} {own : List (Str × Nat)} {t : TDL} {pos spos : Pos}
theorem jl_lc (hc : X.calm = true) (hN : X.N.Nodup) (h : JLC X elt tg iter ifs scope own t) (hs : ∀ x, foldedSetIterable iter X.env x = pure x := by intro _; rfl) : JL X (.ListComp elt [⟨tg, iter, ifs, 0⟩] scope pos) t := by
  obtain ⟨wi, g, tt, te, h1, h2, h3, h4, h5, h6⟩ := h
  exact ⟨_, pe_lc hc hN h1 h2 h3 h4 h5 hs, h6⟩
theorem js_setLc {W : WX} {i : Nat} {y : Str} {py : Pos} (hc : X.calm = true) (hN : X.N.Nodup) (h : JLC X elt tg iter ifs scope own t) (hsw : swapsWith (.ListComp elt [⟨tg, iter, ifs, 0⟩] scope pos) (some (.Name y py)) spos.line X.env = pure true)
    (hy : X.N[i]? = some y := by rfl) (hyl : X.env.scope.names.lookup y = some .local := by rfl) (hs : ∀ x, foldedSetIterable iter X.env x = pure x := by intro _; rfl) :
    JS X W (.Assign [.Name y py] (.ListComp elt [⟨tg, iter, ifs, 0⟩] scope pos) spos) (dAsg (dFresh t) (dgName i)) := by
  obtain ⟨wi, g, tt, te, h1, h2, h3, h4, h5, h6⟩ := h
  refine ⟨_, ps_setLc hc hN hy hyl hsw h1 h2 h3 h4 h5 hs, fun M0 H0 D0 D1 l ds σ H M gg s m q => ?_⟩
  refine h6 ds σ H M _ _ s m q fun p H' xs vs M' hp hp' r n nf m' g' q' => ?_
  exact l.nx _ _ H' _ (gg.trans (g'.known hp)) ((s.gg m g').set (.ref p) i) (m'.known (w := .lst xs) ⟨vs, hp', r⟩ nf) (q' p n)
theorem js_setLcF {W : WX} {i : Nat} {y : Str} {py : Pos} (hc : X.calm = true) (hN : X.N.Nodup) (h : JLC X elt tg iter ifs scope own t) (hsw : swapsWith (.ListComp elt [⟨tg, iter, ifs, 0⟩] scope pos) (some (.Name y py)) spos.line X.env = pure true)
    (hy : X.N[i]? = some y := by rfl) (hyl : X.env.scope.names.lookup y = some .local := by rfl) (hs : ∀ x, foldedSetIterable iter X.env x = pure x := by intro _; rfl) :
    JS X W (.Assign [.Name y py] (.ListComp elt [⟨tg, iter, ifs, 0⟩] scope pos) spos) (dAsg (dFrz t) (dgName i)) := by
  obtain ⟨wi, g, tt, te, h1, h2, h3, h4, h5, h6⟩ := h
  refine ⟨_, ps_setLc hc hN hy hyl hsw h1 h2 h3 h4 h5 hs, fun M0 H0 D0 D1 l ds σ H M gg s m q => ?_⟩
  refine h6 ds σ H M _ _ s m q fun p H' xs vs M' hp hp' r n nf m' g' q' => ?_
  exact l.nx _ _ (H'.fz p) _ (gg.trans (g'.fzz hp)) (((s.gg m g').mono TX.fzz).set (.lst hp' (.inr rfl) (VRs.mono TX.fzz _ _ r)) i) (m'.fzz hp' n) q'
end

/-! ### defs -/
abbrev DSp := List D → Mm → DQ → Prop
def toSp (K : PySem.W.Frag) (sp : DSp) : Sp := fun vs h Q _ => ∃ ds M R H, h = H.h ∧ VRs K H ds vs ∧ MR K M H ∧ sp ds M R ∧ ∀ v H' d M', VR K H' d v → MR K M' H' → GG M H M' H' → R d M' → Q v H'.h
def dCall (sp : DSp) (t : TDA) : TDE := fun ds M Q => t ds M fun xs M1 => sp xs M1 Q
section
variable {X : Cx} {k : Nat} {f : Addr} {fd : FuncData} {ps : List Str} {sp : DSp} {x : Str} {p pos : Pos} {e : Expr} {es : List Expr} {t : TDA}
theorem je_call (F : FnOk X.prog X.w X.K X.mg X.base CX0 k f fd ps (toSp X.K sp)) (hr : Room k X.A) (hg : Gl X x) (hm : X.mg x = some (.ref f)) (hk : PySem.W.keepIn X.K (.ref f) = true) (hb : Binds X.K fd ps [])
    (ha : JA X (e :: es) t) (hdb : (x == ("__debug__" : Str)) = false := by decide) (he : starEach (e :: es) X.env = (false, eval e X.env) :: starEach es X.env := by rfl) (hpl : (backTo pos (starEach es X.env)).any (·.1) = false := by rfl) :
    JE X (.Call (.Name x p) (e :: es) [] pos) (dCall sp t) := by
  obtain ⟨u, q, g⟩ := ha
  refine je_pe (pe_call F hr hg hm hk hb .nil pass0 q hdb he hpl) fun ds σ H M Q Q0 s m q k => ?_
  refine g ds σ H M _ _ s m q fun vs H1 es M1 r1 m1 g1 q1 => ?_
  rw [List.append_nil]
  exact ⟨es, M1, Q, H1, rfl, r1, m1, q1, fun v H' d M' r' m' g' q' => k v H' d M' r' m' (g1.trans g') q'⟩
theorem je_call0 (F : FnOk X.prog X.w X.K X.mg X.base CX0 k f fd ps (toSp X.K sp)) (hr : Room k X.A) (hg : Gl X x) (hm : X.mg x = some (.ref f)) (hk : PySem.W.keepIn X.K (.ref f) = true) (hb : Binds X.K fd ps [])
    (hdb : (x == ("__debug__" : Str)) = false := by decide) :
    JE X (.Call (.Name x p) [] [] pos) (dCall sp dNil) := by
  refine je_pe (pe_call0 F hr hg hm hk hb .nil pass0 hdb) fun ds σ H M Q Q0 s m q k => ?_
  exact ⟨[], M, Q, H, rfl, .nil, m, q, fun v H' d M' r' m' g' q' => k v H' d M' r' m' g' q'⟩
end
/-- what is not known behind is frozen -/
def frzF (M' M2 : Mm) (H : HF) : HF := ⟨H.h, fun a => H.F a ∨ ((∃ o, M' a = some o) ∧ M2 a = none)⟩
mutual
inductive FzD (M' M2 : Mm) : D → D → Prop
  | refl (d : D) : FzD M' M2 d d
  | lst {a : Addr} {xs ys : List D} : M' a = some (.lst xs) → M2 a = none → FzDs M' M2 xs ys → FzD M' M2 (.ref a) (.lst ys)
  | dic {a : Addr} {xs ys : List (Key × D)} : M' a = some (.dic xs) → M2 a = none → FzKs M' M2 xs ys → FzD M' M2 (.ref a) (.dic ys)
  | tup {xs ys : List D} : FzDs M' M2 xs ys → FzD M' M2 (.tup xs) (.tup ys)
  | dit {a : Addr} {xs ys : List (List Key × D)} : M' a = some (.dit xs) → M2 a = none → FzTs M' M2 xs ys → FzD M' M2 (.ref a) (.dit ys)
inductive FzDs (M' M2 : Mm) : List D → List D → Prop
  | refl (d : List D) : FzDs M' M2 d d
  | cons {x y : D} {xs ys : List D} : FzD M' M2 x y → FzDs M' M2 xs ys → FzDs M' M2 (x :: xs) (y :: ys)
inductive FzKs (M' M2 : Mm) : List (Key × D) → List (Key × D) → Prop
  | refl (d : List (Key × D)) : FzKs M' M2 d d
  | cons {k : Key} {x y : D} {xs ys : List (Key × D)} : FzD M' M2 x y → FzKs M' M2 xs ys → FzKs M' M2 ((k, x) :: xs) ((k, y) :: ys)
inductive FzTs (M' M2 : Mm) : List (List Key × D) → List (List Key × D) → Prop
  | refl (d : List (List Key × D)) : FzTs M' M2 d d
  | cons {k : List Key} {x y : D} {xs ys : List (List Key × D)} : FzD M' M2 x y → FzTs M' M2 xs ys → FzTs M' M2 ((k, x) :: xs) ((k, y) :: ys)
end
section
variable {K : PySem.W.Frag} {M' M2 M : Mm} {H H0 : HF}
theorem TX.frz : TX K H (frzF M' M2 H) := ⟨fun _ _ h => h, fun _ _ h => h, fun _ _ f h => ⟨.inl f, h⟩⟩
mutual
theorem FzD.vr (m : MR K M' H) : ∀ {d d2 : D} {v : V}, FzD M' M2 d d2 → VR K H d v → VR K (frzF M' M2 H) d2 v
  | _, _, _, .refl _, r => VR.mono TX.frz _ _ r
  | _, _, _, .lst h n q, r => by
    cases r
    obtain ⟨vs, h1, r1⟩ := m.ob _ _ h
    exact .lst h1 (.inr ⟨⟨_, h⟩, n⟩) (FzDs.vr m q r1)
  | _, _, _, .dic h n q, r => by
    cases r
    obtain ⟨vs, h1, r1⟩ := m.ob _ _ h
    exact .dic h1 (.inr ⟨⟨_, h⟩, n⟩) (FzKs.vr m q r1.kr)
  | _, _, _, .tup q, r => by
    cases r with
    | tup h r1 => exact .tup h (FzDs.vr m q r1)
  | _, _, _, .dit h n q, r => by
    cases r
    obtain ⟨vs, h1, r1⟩ := m.ob _ _ h
    exact .dit h1 (.inr ⟨⟨_, h⟩, n⟩) (FzTs.vr m q r1.tr)
theorem FzDs.vr (m : MR K M' H) : ∀ {d d2 : List D} {v : List V}, FzDs M' M2 d d2 → VRs K H d v → VRs K (frzF M' M2 H) d2 v
  | _, _, _, .refl _, r => VRs.mono TX.frz _ _ r
  | _, _, _, .cons a b, .cons r1 r2 => .cons (FzD.vr m a r1) (FzDs.vr m b r2)
theorem FzKs.vr (m : MR K M' H) : ∀ {d d2 : List (Key × D)} {v : List (Key × V)}, FzKs M' M2 d d2 → KRs K H d v → KRs K (frzF M' M2 H) d2 v
  | _, _, _, .refl _, r => KRs.mono TX.frz _ _ r
  | _, _, _, .cons a b, .cons r1 r2 => .cons (FzD.vr m a r1) (FzKs.vr m b r2)
theorem FzTs.vr (m : MR K M' H) : ∀ {d d2 : List (List Key × D)} {v : List (List Key × V)}, FzTs M' M2 d d2 → TRs K H d v → TRs K (frzF M' M2 H) d2 v
  | _, _, _, .refl _, r => TRs.mono TX.frz _ _ r
  | _, _, _, .cons a b, .cons r1 r2 => .cons (FzD.vr m a r1) (FzTs.vr m b r2)
end
theorem MR.frz (m : MR K M' H) (s : Sub M2 M') : MR K M2 (frzF M' M2 H) := ⟨fun a o e => (m.ob a o (s a o e)).mono TX.frz rfl, fun a f => by
  rcases f with f | f
  · exact s.none (m.nf a f)
  · exact f.2, fun a f => by
  rcases f with f | ⟨⟨o, e⟩, _⟩
  · exact m.sm a f
  · have q := m.ob a o e
    cases o with
    | lst _ => obtain ⟨vs, q, _⟩ := q; exact ⟨_, q⟩
    | dic _ => obtain ⟨vs, q, _⟩ := q; exact ⟨_, q⟩
    | dit _ => obtain ⟨vs, q, _⟩ := q; exact ⟨_, q⟩
    | ins _ _ => obtain ⟨_, vs, q, _⟩ := q; exact ⟨_, q⟩
    | xd _ => obtain ⟨vs, q, _⟩ := q; exact ⟨_, q⟩⟩
theorem GG.frz (g : GG M H0 M' H) (s : Sub M2 M') : GG M H0 M2 (frzF M' M2 H) := by
  refine ⟨fun a o e n => ?_, g.al⟩
  obtain ⟨h1, n1, f1⟩ := g.fr a o e n
  refine ⟨h1, s.none n1, ⟨fun x => ?_, fun x => .inl (f1.mpr x)⟩⟩
  rcases x with x | ⟨⟨o, e⟩, _⟩
  · exact f1.mp x
  · rw [n1] at e
    cases e
end
/-- at a def's end the store may be forgotten in part; what is forgotten may be frozen -/
def Shr (R : DQ) : DQ := fun d M' => ∃ M2 d2, Sub M2 M' ∧ FzD M' M2 d d2 ∧ R d2 M2
theorem Shr.of {R : DQ} {d : D} {M' M2 : Mm} (h : R d M2) (s : Sub M2 M') : Shr R d M' := ⟨M2, d, s, .refl d, h⟩
theorem Shr.all {R : DQ} {d : D} {M : Mm} (h : R d M) : Shr R d M := ⟨M, d, Sub.refl, .refl d, h⟩
/-- a list that is given out, frozen -/
theorem Shr.frz {R : DQ} {p : Addr} {M' M2 : Mm} {xs : List D} (e : lstOf M' p = some xs) (s : Sub M2 M') (n : M2 p = none) (h : R (.lst xs) M2) : Shr R (.ref p) M' := ⟨M2, .lst xs, s, .lst (of_lstOf e) n (.refl _), h⟩
theorem sub_new {M M' : Mm} {p : Addr} {o : MO} (s : Sub M M') (n : M p = none) : Sub M (mup M' p o) := fun a u e => by
  rw [mup_ne]
  · exact s a u e
  · rintro rfl; rw [n] at e; cases e
def dstart (N : List Str) (ds : List D) : DSt := ds.map some ++ List.replicate (N.length - ds.length) none
theorem SR.start {K : PySem.W.Frag} {H : HF} {N : List Str} {ds : List D} {vs : List V} (r : VRs K H ds vs) : SR K H (dstart N ds) (L2.start N vs) := by
  unfold dstart L2.start
  rw [r.length]
  refine ⟨by simp [r.length], fun i d h => ?_⟩
  by_cases hi : i < vs.length
  · rw [List.getElem?_append_left (by rw [List.length_map, r.length]; exact hi), List.getElem?_map] at h
    obtain ⟨d', h1, h2⟩ := Option.map_eq_some_iff.mp h
    cases h2
    obtain ⟨v, h3, h4⟩ := r.get h1
    exact ⟨v, by rw [List.getElem?_append_left (by rw [List.length_map]; exact hi), List.getElem?_map, h3] <;> rfl, h4⟩
  · rw [List.getElem?_append_right (by rw [List.length_map, r.length]; omega)] at h
    rw [List.getElem?_replicate] at h
    split at h
    · cases h
    · cases h
section
variable {P : Program} {w : World} {K : PySem.W.Frag} {mg : Str → Option Value} {base : Heap}
/-- THE RULE for a def, its promise by data -/
theorem fn_ok {x qual : Str} {st : Stmt} {f : Addr} {fd : FuncData} {N ps : List Str} {k : Nat} {sp : DSp} (F : Fun K x qual st f fd) (S : FnScope N ps (defScope st)) (len : ∀ ds M R, sp ds M R → ds.length = ps.length)
    (body : ∀ (cdv : Value) (A : Around) (outer : List Env) (s : Shared) (H : Hp) (E : XK), Room k (A.deeper (PyProof.Rows.envOfC qual (defScope st) s.heap.objs.size f cdv)) →
      ∃ t, JB (cxOf CX0 P w K mg base N qual (defScope st) f cdv A outer s H E).nox (fun _ _ _ _ => False) (defBody st) t ∧ ∀ (ds : List D) (M : Mm) (R : DQ), sp ds M R → t { nx := fun _ M' => Shr R .non M', rt := Shr R } (dstart N ds) M) : FnOk P w K mg base CX0 (k + 1) f fd ps (toSp K sp) := by
  refine F.ok S (fun vs H Q E h => ?_) fun cdv A outer s H vs Q E hr h => ?_
  · obtain ⟨ds, M, R, H, _, r, _, h, _⟩ := h
    rw [← r.length]
    exact len ds M R h
  · obtain ⟨ds, M, R, H, rfl, r, m, h, k⟩ := h
    obtain ⟨t, ⟨t0, p, g⟩, hb⟩ := body cdv A outer s H.h E hr
    refine ⟨t0, p, ?_⟩
    refine g M H _ _ ⟨?_, ?_, ?_, ?_, ?_⟩ (dstart N ds) (L2.start N vs) H M GG.refl (SR.start r) m (hb ds M R h)
    · rintro σ ds' H' M' gg s' m' ⟨M2, d2, sb, fz, q⟩
      exact k _ (frzF M' M2 H') d2 M2 (fz.vr m' .non) (m'.frz sb) (gg.frz sb) q
    · rintro v d H' M' gg r' m' ⟨M2, d2, sb, fz, q⟩
      exact k v (frzF M' M2 H') d2 M2 (fz.vr m' r') (m'.frz sb) (gg.frz sb) q
    · intro _ _ _ _ _ _ _ q
      exact q.elim
    · intro _ _ _ _ _ _ _ q
      exact q.elim
    · intro _ _ _ _ _ _ _ _ _ _ _ _ q
      exact q.elim
end
end DM

namespace DM
open PySem L2
open PyProof.Rows (b2i)

/-! ### calls of built-ins -/
abbrev DRC := List D → Mm → DQ → Prop
def LiftC (K : PySem.W.Frag) (r : List V → Hp → VK → Prop) (dr : DRC) : Prop := ∀ (vs : List V) (ds : List D) (H : HF) (M : Mm) (Q : DQ) (Q0 : VK), VRs K H ds vs → MR K M H → dr ds M Q →
  (∀ v H' d M', VR K H' d v → MR K M' H' → GG M H M' H' → Q d M' → Q0 v H'.h) → r vs H.h Q0
def dCB (r : DRC) (t : TDA) : TDE := fun ds M Q => t ds M fun xs M1 => r xs M1 Q
/-- over a list of its own -/
def LiftL (K : PySem.W.Frag) (r : List V → Hp → VK → Prop) (lr : DRC) : Prop := ∀ (p : Addr) (vs : List V) (xs : List D) (H : HF) (M : Mm) (Q : DQ) (Q0 : VK), H.h p = some (.lst vs) → VRs K H xs vs → MR K M H → lr xs M Q →
  (∀ v H' d M', VR K H' d v → MR K M' H' → GG M H M' H' → Q d M' → Q0 v H'.h) → r [.ref p] H.h Q0
/-- a built-in over one list -/
def ofLst (r : DRC) : DRC := fun xs M Q => match xs with
  | [x] => (match rdL M x with | some ys => r ys M Q | none => False)
  | _ => False
section
variable {X : Cx} {id T : String} {x : Str} {r : List V → Hp → VK → Prop} {dr : DRC} {p pos : Pos} {e : Expr} {es : List Expr} {t : TDA}
theorem je_callB (hc : CallR X (.builtin id) r) (hl : LiftC X.K r dr) (hg : Gl X x) (hm : X.mg x = none) (hv : bootBuiltins x = some (.builtin id)) (ha : JA X (e :: es) t) (hn : x ≠ "__name__" := by decide) (hdb : (x == ("__debug__" : Str)) = false := by decide)
    (he : starEach (e :: es) X.env = (false, eval e X.env) :: starEach es X.env := by rfl) (hpl : (backTo pos (starEach es X.env)).any (·.1) = false := by rfl) : JE X (.Call (.Name x p) (e :: es) [] pos) (dCB dr t) := by
  obtain ⟨u, q, g⟩ := ha
  refine je_pe (pe_callB hc hg hm hv q hn hdb he hpl) fun ds σ H M Q Q0 s m q k => ?_
  refine g ds σ H M _ _ s m q fun vs H1 es M1 r1 m1 g1 q1 => ?_
  exact hl vs es H1 M1 Q Q0 r1 m1 q1 fun v H' d M' r' m' g' q' => k v H' d M' r' m' (g1.trans g') q'
theorem je_callTy (hc : CallR X (.type T) r) (hl : LiftC X.K r dr) (hg : Gl X x) (hm : X.mg x = none) (hv : bootBuiltins x = some (.type T)) (ha : JA X (e :: es) t) (hn : x ≠ "__name__" := by decide) (hdb : (x == ("__debug__" : Str)) = false := by decide)
    (he : starEach (e :: es) X.env = (false, eval e X.env) :: starEach es X.env := by rfl) (hpl : (backTo pos (starEach es X.env)).any (·.1) = false := by rfl) : JE X (.Call (.Name x p) (e :: es) [] pos) (dCB dr t) := by
  obtain ⟨u, q, g⟩ := ha
  refine je_pe (pe_callTy hc hg hm hv q hn hdb he hpl) fun ds σ H M Q Q0 s m q k => ?_
  refine g ds σ H M _ _ s m q fun vs H1 es M1 r1 m1 g1 q1 => ?_
  exact hl vs es H1 M1 Q Q0 r1 m1 q1 fun v H' d M' r' m' g' q' => k v H' d M' r' m' (g1.trans g') q'
end

/-! len -/
def lenR : DRC := fun xs M Q => match xs with
  | [.tup ys] => Q (.int ys.length) M
  | [.str z] => z.length ≤ sizeLine ∧ Q (.int z.length) M
  | [.ref a] => (match M a with | some (.lst ys) => Q (.int ys.length) M | some (.dic kvs) => Q (.int kvs.length) M | _ => False)
  | [.lst ys] => Q (.int ys.length) M
  | [.dic ys] => Q (.int ys.length) M
  | _ => False
def lenT (K : PySem.W.Frag) : List V → Hp → VK → Prop := fun xs H Q => (∃ x n, xs = [x] ∧ LenV K x H n ∧ Q (.int n) H) ∨ ∃ a kvs, xs = [V.ref a] ∧ H a = some (.dK kvs) ∧ Q (.int kvs.length) H
theorem call_lenT {X : Cx} : CallR X (.builtin "len") (lenT X.K) := call_len.or call_lenD
theorem VRs.one {K : PySem.W.Frag} {H : HF} {d : D} {vs : List V} (r : VRs K H [d] vs) : ∃ v, vs = [v] ∧ VR K H d v := by
  cases r with
  | cons r1 r2 => cases r2; exact ⟨_, rfl, r1⟩
theorem VRs.two {K : PySem.W.Frag} {H : HF} {d e : D} {vs : List V} (r : VRs K H [d, e] vs) : ∃ v w, vs = [v, w] ∧ VR K H d v ∧ VR K H e w := by
  cases r with
  | cons r1 r2 =>
    obtain ⟨w, rfl, r4⟩ := r2.one
    exact ⟨_, _, rfl, r1, r4⟩
theorem FR.length {K : PySem.W.Frag} {H : HF} {κ : Type} : ∀ {ds : List (κ × D)} {vs : List (κ × V)}, FR K H ds vs → ds.length = vs.length
  | _, _, .nil => rfl
  | _, _, .cons _ q => by simp [FR.length q]
theorem lift_len {K : PySem.W.Frag} : LiftC K (lenT K) lenR := by
  intro vs ds H M Q Q0 r m h k
  cases r with
  | nil => exact h.elim
  | cons r1 r2 =>
    rename_i d v _ _
    cases r2 with
    | cons _ _ => cases d <;> exact h.elim
    | nil =>
      cases d with
      | tup ys =>
        obtain ⟨a, us, rfl, sa, ra⟩ := r1.tup_v
        exact .inl ⟨_, _, rfl, .inr ⟨us, sa, rfl⟩, by rw [← ra.length]; exact k _ H _ M (.int _) m GG.refl h⟩
      | str z =>
        cases r1.str_v
        exact .inl ⟨_, _, rfl, ⟨h.1, rfl⟩, k _ H _ M (.int _) m GG.refl h.2⟩
      | ref a =>
        cases r1.ref_v
        unfold lenR at h
        simp only at h
        split at h
        · rename_i ys e
          obtain ⟨us, h1, r3⟩ := m.ob a _ e
          exact .inl ⟨_, _, rfl, .inl ⟨us, SqL.of h1, rfl⟩, by rw [← r3.length]; exact k _ H _ M (.int _) m GG.refl h⟩
        · rename_i kvs e
          obtain ⟨us, h1, r3⟩ := m.ob a _ e
          exact .inr ⟨a, us, rfl, h1, by rw [← r3.length]; exact k _ H _ M (.int _) m GG.refl h⟩
        · exact h.elim
      | lst ys =>
        obtain ⟨a, us, rfl, h1, _, r3⟩ := r1.lst_v
        exact .inl ⟨_, _, rfl, .inl ⟨us, SqL.of h1, rfl⟩, by rw [← r3.length]; exact k _ H _ M (.int _) m GG.refl h⟩
      | dic ys =>
        obtain ⟨a, us, rfl, h1, _, r3⟩ := r1.dic_v
        exact .inr ⟨a, us, rfl, h1, by rw [← r3.length]; exact k _ H _ M (.int _) m GG.refl h⟩
      | _ => exact h.elim
/-! int, str of an int -/
def int1R : DRC := fun xs M Q => match xs with
  | [.int i] => Q (.int i) M
  | [.bl b] => Q (.int (if b then 1 else 0)) M
  | _ => False
theorem lift_int1 {K : PySem.W.Frag} : LiftC K (fun xs H Q => (∃ i, xs = [.int i] ∧ Q (.int i) H) ∨ ∃ k, xs = [.bl k] ∧ Q (.int (if k then 1 else 0)) H) int1R := by
  intro vs ds H M Q Q0 r m h k
  cases r with
  | nil => exact h.elim
  | cons r1 r2 =>
    rename_i d v _ _
    cases r2 with
    | cons _ _ => cases d <;> exact h.elim
    | nil =>
      cases d with
      | int i => cases r1.int_v; exact .inl ⟨i, rfl, k _ H _ M (.int _) m GG.refl h⟩
      | bl i => cases r1.bl_v; exact .inr ⟨i, rfl, k _ H _ M (.int _) m GG.refl h⟩
      | _ => exact h.elim
def str1R : DRC := fun xs M Q => match xs with
  | [.int i] => i.natAbs.log2 < 1920 ∧ Q (.str (toString i)) M
  | _ => False
theorem lift_str1 {K : PySem.W.Frag} : LiftC K (fun xs H Q => ∃ i, xs = [.int i] ∧ i.natAbs.log2 < 1920 ∧ Q (.str (toString i)) H) str1R := by
  intro vs ds H M Q Q0 r m h k
  cases r with
  | nil => exact h.elim
  | cons r1 r2 =>
    rename_i d v _ _
    cases r2 with
    | cons _ _ => cases d <;> exact h.elim
    | nil =>
      cases d with
      | int i => cases r1.int_v; exact ⟨i, rfl, h.1, k _ H _ M (.str _) m GG.refl h.2⟩
      | _ => exact h.elim
/-! isinstance -/
def tyName (M : Mm) : D → String
  | .non => "NoneType"
  | .bl _ => "bool"
  | .int _ => "int"
  | .str _ => "str"
  | .tup _ => "tuple"
  | .ref a => (match M a with | some (.lst _) => "list" | some (.dic _) => "dict" | _ => "?")
  | .ty _ => "?"
  | .lst _ => "list"
  | .dic _ => "dict"
  | .dit _ => "?"
def isiB (a n : String) : Bool := a == n || (a == "bool" && n == "int")
def isiOk (a n : String) : Bool := ["NoneType", "bool", "int", "str", "tuple", "list", "dict"].contains a && ["bool", "int", "str", "tuple", "list", "dict"].contains n
theorem isi_tab : ∀ a ∈ ["NoneType", "bool", "int", "str", "tuple", "list", "dict"], ∀ n ∈ ["bool", "int", "str", "tuple", "list", "dict"], kitB a n = some (isiB a n) := by decide +kernel
theorem kitB_of {a n : String} (h : isiOk a n = true) : kitB a n = some (isiB a n) := by
  unfold isiOk at h
  rw [Bool.and_eq_true] at h
  exact isi_tab a (by simpa using h.1) n (by simpa using h.2)
def isiR : DRC := fun xs M Q => match xs with
  | [x, .ty n] => isiOk (tyName M x) n = true ∧ Q (.bl (isiB (tyName M x) n)) M
  | _ => False
theorem tyX_of {K : PySem.W.Frag} {H : HF} {M : Mm} {d : D} {v : V} (r : VR K H d v) (m : MR K M H) (h : tyName M d ≠ "?") : TyX K H.h v (.type (tyName M d)) := by
  cases r with
  | non => exact .base .non
  | bl b => exact .base (.bl b)
  | int b => exact .base (.int b)
  | str b => exact .base (.str b)
  | ty n => exact absurd rfl h
  | dit _ _ _ => exact absurd rfl h
  | lst h1 f1 ra => exact .base (.lst h1)
  | dic h1 f1 ra => exact .base (.dK h1)
  | tup sa ra =>
    show TyX K H.h _ (.type "tuple")
    exact .base (.tup sa)
  | ref a =>
    have e0 : tyName M (.ref a) = (match M a with | some (.lst _) => "list" | some (.dic _) => "dict" | _ => "?") := by unfold tyName; rfl
    rw [e0] at h ⊢
    cases e : M a with
    | none => rw [e] at h; exact absurd rfl h
    | some o =>
      cases o with
      | lst ys =>
        obtain ⟨us, h1, r3⟩ := m.ob a _ e
        exact .base (.lst h1)
      | dic kvs =>
        obtain ⟨us, h1, r3⟩ := m.ob a _ e
        exact .base (.dK h1)
      | dit _ => rw [e] at h; exact absurd rfl h
      | ins _ _ => rw [e] at h; exact absurd rfl h
      | xd _ => rw [e] at h; exact absurd rfl h
theorem lift_isi {K : PySem.W.Frag} : LiftC K (rIsi K) isiR := by
  intro vs ds H M Q Q0 r m h k
  cases r with
  | nil => exact h.elim
  | cons r1 r2 =>
    cases r2 with
    | nil => exact h.elim
    | cons r2 r3 =>
      rename_i d v e w _ _
      cases r3 with
      | cons _ _ => cases e <;> exact h.elim
      | nil =>
        cases e with
        | ty n =>
          cases r2.ty_v
          obtain ⟨ok, h⟩ := h
          have hne : tyName M d ≠ "?" := by
            intro z
            rw [z] at ok
            unfold isiOk at ok
            rw [Bool.and_eq_true] at ok
            exact absurd ok.1 (by decide)
          exact ⟨v, .ty n, _, _, _, rfl, .ty n, tyX_of r1 m hne, kit_ty (kitB_of ok), k _ H _ M (.bl _) m GG.refl h⟩
        | _ => exact h.elim
/-! tuple, list, sum, all, any -/
/-- a tuple, a list -/
def rdS (M : Mm) : D → Option (List D)
  | .tup xs => some xs
  | .lst xs => some xs
  | .ref a => lstOf M a
  | _ => none
@[simp] theorem rdS_tup {M : Mm} {xs : List D} : rdS M (.tup xs) = some xs := rfl
@[simp] theorem rdS_lst {M : Mm} {xs : List D} : rdS M (.lst xs) = some xs := rfl
@[simp] theorem rdS_ref {M : Mm} {a : Addr} : rdS M (.ref a) = lstOf M a := rfl
theorem rdS_v {K : PySem.W.Frag} {M : Mm} {H : HF} {d : D} {v : V} {xs : List D} (m : MR K M H) (r : VR K H d v) (e : rdS M d = some xs) : ∃ a vs, v = .ref a ∧ VRs K H xs vs ∧ ((d = .tup xs ∧ SqT K H.h a vs) ∨ H.h a = some (.lst vs)) := by
  cases d with
  | tup ys =>
    cases e
    obtain ⟨a, vs, rfl, h, q⟩ := r.tup_v
    exact ⟨a, vs, rfl, q, .inl ⟨rfl, h⟩⟩
  | lst ys =>
    cases e
    obtain ⟨a, vs, rfl, h, _, q⟩ := r.lst_v
    exact ⟨a, vs, rfl, q, .inr h⟩
  | ref a =>
    cases r.ref_v
    obtain ⟨vs, h1, r1⟩ := m.ob a _ (of_lstOf e)
    exact ⟨a, vs, rfl, r1, .inr h1⟩
  | _ => cases e
def tup1R : DRC := fun xs M Q => match xs with
  | [x] => (match rdS M x with | some ys => Q (.tup ys) M | none => False)
  | _ => False
def tup1T (K : PySem.W.Frag) : List V → Hp → VK → Prop := fun xs H Q => ∃ p ys, xs = [.ref p] ∧ ((SqL K H p ys ∧ ∀ l, H l = none → Q (.ref l) (upd H l (.tup ys))) ∨ (SqT K H p ys ∧ Q (.ref p) H))
theorem lift_tup1 {K : PySem.W.Frag} : LiftC K (tup1T K) tup1R := by
  intro vs ds H M Q Q0 r m h k
  unfold tup1R at h
  split at h
  · split at h
    · rename_i x ys e
      obtain ⟨v, rfl, r1⟩ := r.one
      obtain ⟨a, us, rfl, ra, h1 | h1⟩ := rdS_v m r1 e
      · rw [h1.1] at r1
        exact ⟨a, us, rfl, .inr ⟨h1.2, k _ H _ M r1 m GG.refl h⟩⟩
      · exact ⟨a, us, rfl, .inl ⟨SqL.of h1, fun l hl => k _ (H.up l _) _ M (.tup upd_same (VRs.mono (TX.new m hl) _ _ ra)) (m.newT hl) (GG.newT hl) h⟩⟩
    · exact h.elim
  · exact h.elim
/-- the ints, bools, texts of a list -/
def intsOf : List D → Option (List Int)
  | [] => some []
  | .int i :: r => (intsOf r).map (i :: ·)
  | _ => none
def blsOf : List D → Option (List Bool)
  | [] => some []
  | .bl i :: r => (blsOf r).map (i :: ·)
  | _ => none
def strsOf : List D → Option (List Str)
  | [] => some []
  | .str i :: r => (strsOf r).map (i :: ·)
  | _ => none
theorem intsOf_v {K : PySem.W.Frag} {H : HF} : ∀ {ds : List D} {vs : List V} {ns : List Int}, VRs K H ds vs → intsOf ds = some ns → vs = ns.map V.int
  | [], _, _, r, h => by cases r; simp [intsOf] at h; subst h; rfl
  | d :: ds, _, ns, r, h => by
    cases r with
    | cons r1 r2 =>
      cases d with
      | int i =>
        simp only [intsOf, Option.map_eq_some_iff] at h
        obtain ⟨ms, h1, rfl⟩ := h
        rw [r1.int_v, intsOf_v r2 h1]
        rfl
      | _ => simp [intsOf] at h
theorem blsOf_v {K : PySem.W.Frag} {H : HF} : ∀ {ds : List D} {vs : List V} {ns : List Bool}, VRs K H ds vs → blsOf ds = some ns → vs = ns.map V.bl
  | [], _, _, r, h => by cases r; simp [blsOf] at h; subst h; rfl
  | d :: ds, _, ns, r, h => by
    cases r with
    | cons r1 r2 =>
      cases d with
      | bl i =>
        simp only [blsOf, Option.map_eq_some_iff] at h
        obtain ⟨ms, h1, rfl⟩ := h
        rw [r1.bl_v, blsOf_v r2 h1]
        rfl
      | _ => simp [blsOf] at h
theorem strsOf_v {K : PySem.W.Frag} {H : HF} : ∀ {ds : List D} {vs : List V} {ns : List Str}, VRs K H ds vs → strsOf ds = some ns → vs = ns.map V.str
  | [], _, _, r, h => by cases r; simp [strsOf] at h; subst h; rfl
  | d :: ds, _, ns, r, h => by
    cases r with
    | cons r1 r2 =>
      cases d with
      | str i =>
        simp only [strsOf, Option.map_eq_some_iff] at h
        obtain ⟨ms, h1, rfl⟩ := h
        rw [r1.str_v, strsOf_v r2 h1]
        rfl
      | _ => simp [strsOf] at h
theorem intsOf_map {α : Type} (f : α → Int) : ∀ l : List α, intsOf (l.map fun x => D.int (f x)) = some (l.map f)
  | [] => rfl
  | a :: l => by rw [List.map_cons, intsOf, intsOf_map f l]; rfl
theorem blsOf_map {α : Type} (f : α → Bool) : ∀ l : List α, blsOf (l.map fun x => D.bl (f x)) = some (l.map f)
  | [] => rfl
  | a :: l => by rw [List.map_cons, blsOf, blsOf_map f l]; rfl
theorem strsOf_map {α : Type} (f : α → Str) : ∀ l : List α, strsOf (l.map fun x => D.str (f x)) = some (l.map f)
  | [] => rfl
  | a :: l => by rw [List.map_cons, strsOf, strsOf_map f l]; rfl
def sumLR : DRC := fun xs M Q => match intsOf xs with | some ns => Q (.int ns.sum) M | none => False
def allLR : DRC := fun xs M Q => match blsOf xs with | some bs => Q (.bl (bs.all id)) M | none => False
def anyLR : DRC := fun xs M Q => match blsOf xs with | some bs => Q (.bl (bs.any id)) M | none => False
theorem lift_sumL {K : PySem.W.Frag} : LiftL K (rSum K) sumLR := by
  intro p vs xs H M Q Q0 hp r m h k
  unfold sumLR at h
  split at h
  · rename_i ns e
    exact ⟨p, ns, rfl, by rw [← intsOf_v r e]; exact SqL.of hp, k _ H _ M (.int _) m GG.refl h⟩
  · exact h.elim
theorem lift_allL {K : PySem.W.Frag} : LiftL K (rAll K) allLR := by
  intro p vs xs H M Q Q0 hp r m h k
  unfold allLR at h
  split at h
  · rename_i ns e
    exact ⟨p, ns, rfl, by rw [← blsOf_v r e]; exact SqL.of hp, k _ H _ M (.bl _) m GG.refl h⟩
  · exact h.elim
theorem lift_anyL {K : PySem.W.Frag} : LiftL K (rAny K) anyLR := by
  intro p vs xs H M Q Q0 hp r m h k
  unfold anyLR at h
  split at h
  · rename_i ns e
    exact ⟨p, ns, rfl, by rw [← blsOf_v r e]; exact SqL.of hp, k _ H _ M (.bl _) m GG.refl h⟩
  · exact h.elim
theorem lift_ofL {K : PySem.W.Frag} {r : List V → Hp → VK → Prop} {lr : DRC} (h : LiftL K r lr) : LiftC K r (ofLst lr) := by
  intro vs ds H M Q Q0 rr m q k
  unfold ofLst at q
  split at q
  · split at q
    · rename_i x ys e
      obtain ⟨v, rfl, r1⟩ := rr.one
      obtain ⟨a, us, rfl, h1, r3⟩ := rdL_v m r1 e
      exact h a us ys H M Q Q0 h1 r3 m q k
    · exact q.elim
  · exact q.elim
/-! max, min of two ints -/
def max2R : DRC := fun xs M Q => match xs with | [.int i, .int j] => Q (.int (if j > i then j else i)) M | _ => False
def min2R : DRC := fun xs M Q => match xs with | [.int i, .int j] => Q (.int (if j < i then j else i)) M | _ => False
theorem lift_max2 {K : PySem.W.Frag} : LiftC K (fun xs H Q => ∃ i j, xs = [.int i, .int j] ∧ Q (.int (if j > i then j else i)) H) max2R := by
  intro vs ds H M Q Q0 r m h k
  unfold max2R at h
  split at h
  · obtain ⟨v, w, rfl, r1, r2⟩ := r.two
    cases r1.int_v
    cases r2.int_v
    exact ⟨_, _, rfl, k _ H _ M (.int _) m GG.refl h⟩
  · exact h.elim
theorem lift_min2 {K : PySem.W.Frag} : LiftC K (fun xs H Q => ∃ i j, xs = [.int i, .int j] ∧ Q (.int (if j < i then j else i)) H) min2R := by
  intro vs ds H M Q Q0 r m h k
  unfold min2R at h
  split at h
  · obtain ⟨v, w, rfl, r1, r2⟩ := r.two
    cases r1.int_v
    cases r2.int_v
    exact ⟨_, _, rfl, k _ H _ M (.int _) m GG.refl h⟩
  · exact h.elim
section
variable {X : Cx} {p pos : Pos} {e f : Expr} {es : List Expr} {t : TDA} {tl : TDL}
theorem je_len (hm : X.mg "len" = none) (ha : JA X (e :: es) t) (hg : Gl X "len" := by rfl) (he : starEach (e :: es) X.env = (false, eval e X.env) :: starEach es X.env := by rfl) (hpl : (backTo pos (starEach es X.env)).any (·.1) = false := by rfl) :
    JE X (.Call (.Name "len" p) (e :: es) [] pos) (dCB lenR t) := je_callB call_lenT lift_len hg hm PySem.boot_len ha (by decide) (by decide) he hpl
theorem je_int1 (hm : X.mg "int" = none) (ha : JA X (e :: es) t) (hg : Gl X "int" := by rfl) (he : starEach (e :: es) X.env = (false, eval e X.env) :: starEach es X.env := by rfl) (hpl : (backTo pos (starEach es X.env)).any (·.1) = false := by rfl) :
    JE X (.Call (.Name "int" p) (e :: es) [] pos) (dCB int1R t) := je_callTy call_int1 lift_int1 hg hm PyProof.Rows.boot_int ha (by decide) (by decide) he hpl
theorem je_str1 (hm : X.mg "str" = none) (ha : JA X (e :: es) t) (hg : Gl X "str" := by rfl) (he : starEach (e :: es) X.env = (false, eval e X.env) :: starEach es X.env := by rfl) (hpl : (backTo pos (starEach es X.env)).any (·.1) = false := by rfl) :
    JE X (.Call (.Name "str" p) (e :: es) [] pos) (dCB str1R t) := je_callTy call_str_int lift_str1 hg hm PyProof.Rows.boot_str ha (by decide) (by decide) he hpl
theorem je_isi (hm : X.mg "isinstance" = none) (ha : JA X (e :: es) t) (hg : Gl X "isinstance" := by rfl) (he : starEach (e :: es) X.env = (false, eval e X.env) :: starEach es X.env := by rfl) (hpl : (backTo pos (starEach es X.env)).any (·.1) = false := by rfl) :
    JE X (.Call (.Name "isinstance" p) (e :: es) [] pos) (dCB isiR t) := je_callB call_isi lift_isi hg hm PyProof.Rows.boot_isinstance ha (by decide) (by decide) he hpl
theorem je_tuple (hm : X.mg "tuple" = none) (ha : JA X (e :: es) t) (hg : Gl X "tuple" := by rfl) (he : starEach (e :: es) X.env = (false, eval e X.env) :: starEach es X.env := by rfl) (hpl : (backTo pos (starEach es X.env)).any (·.1) = false := by rfl) :
    JE X (.Call (.Name "tuple" p) (e :: es) [] pos) (dCB tup1R t) := je_callTy call_tuple_of lift_tup1 hg hm PyProof.Rows.boot_tuple ha (by decide) (by decide) he hpl
theorem je_sum (hc : X.calm = true) (hm : X.mg "sum" = none) (ha : JA X (e :: es) t) (hg : Gl X "sum" := by rfl) (he : starEach (e :: es) X.env = (false, eval e X.env) :: starEach es X.env := by rfl) (hpl : (backTo pos (starEach es X.env)).any (·.1) = false := by rfl) :
    JE X (.Call (.Name "sum" p) (e :: es) [] pos) (dCB (ofLst sumLR) t) := je_callB (cr_sum hc) (lift_ofL lift_sumL) hg hm PyProof.Rows.boot_sum ha (by decide) (by decide) he hpl
theorem je_all (hc : X.calm = true) (hm : X.mg "all" = none) (ha : JA X (e :: es) t) (hg : Gl X "all" := by rfl) (he : starEach (e :: es) X.env = (false, eval e X.env) :: starEach es X.env := by rfl) (hpl : (backTo pos (starEach es X.env)).any (·.1) = false := by rfl) :
    JE X (.Call (.Name "all" p) (e :: es) [] pos) (dCB (ofLst allLR) t) := je_callB (cr_all hc) (lift_ofL lift_allL) hg hm PyProof.Rows.boot_all ha (by decide) (by decide) he hpl
theorem je_any (hc : X.calm = true) (hm : X.mg "any" = none) (ha : JA X (e :: es) t) (hg : Gl X "any" := by rfl) (he : starEach (e :: es) X.env = (false, eval e X.env) :: starEach es X.env := by rfl) (hpl : (backTo pos (starEach es X.env)).any (·.1) = false := by rfl) :
    JE X (.Call (.Name "any" p) (e :: es) [] pos) (dCB (ofLst anyLR) t) := je_callB (cr_any hc) (lift_ofL lift_anyL) hg hm PyProof.Rows.boot_any ha (by decide) (by decide) he hpl
theorem je_max2 (hc : X.calm = true) (hm : X.mg "max" = none) (ha : JA X (e :: es) t) (hg : Gl X "max" := by rfl) (he : starEach (e :: es) X.env = (false, eval e X.env) :: starEach es X.env := by rfl) (hpl : (backTo pos (starEach es X.env)).any (·.1) = false := by rfl) :
    JE X (.Call (.Name "max" p) (e :: es) [] pos) (dCB max2R t) := je_callB (call_max2 hc) lift_max2 hg hm PyProof.Rows.boot_max ha (by decide) (by decide) he hpl
theorem je_min2 (hc : X.calm = true) (hm : X.mg "min" = none) (ha : JA X (e :: es) t) (hg : Gl X "min" := by rfl) (he : starEach (e :: es) X.env = (false, eval e X.env) :: starEach es X.env := by rfl) (hpl : (backTo pos (starEach es X.env)).any (·.1) = false := by rfl) :
    JE X (.Call (.Name "min" p) (e :: es) [] pos) (dCB min2R t) := je_callB (call_min2 hc) lift_min2 hg hm PyProof.Rows.boot_min ha (by decide) (by decide) he hpl
/-- list(x): a new list -/
def dListOf (t : TDA) : TDL := fun ds M Q => t ds M fun xs M1 => match xs with
  | [x] => (match rdS M1 x with | some ys => Q ys M1 | none => False)
  | _ => False
theorem jl_list (hm : X.mg "list" = none) (ha : JA X (e :: es) t) (hg : Gl X "list" := by rfl) (he : starEach (e :: es) X.env = (false, eval e X.env) :: starEach es X.env := by rfl) (hpl : (backTo pos (starEach es X.env)).any (·.1) = false := by rfl) :
    JL X (.Call (.Name "list" p) (e :: es) [] pos) (dListOf t) := by
  obtain ⟨u, q, g⟩ := ha
  refine ⟨_, pe_callTy call_list_of hg hm PyProof.Rows.boot_list q (by decide) (by decide) he hpl, fun ds σ H M Q Q0 s m q k => ?_⟩
  refine g ds σ H M _ _ s m q fun vs H1 es M1 r1 m1 g1 q1 => ?_
  split at q1
  · split at q1
    · rename_i x ys e
      obtain ⟨v, rfl, r5⟩ := r1.one
      obtain ⟨a, us, rfl, ra, h1⟩ := rdS_v m1 r5 e
      have fin : ∀ l, H1.h l = none → Q0 (.ref l) (upd H1.h l (.lst us)) := fun l hl => k l (H1.up l _) _ us M1 (g1.free hl) upd_same (VRs.mono (TX.new m1 hl) _ _ ra) (m1.free hl) (m1.freeF hl) (m1.newT hl) (g1.trans (GG.newT hl)) q1
      rcases h1 with h1 | h1
      · exact ⟨a, us, rfl, .inr h1.2, fin⟩
      · exact ⟨a, us, rfl, .inl (SqL.of h1), fin⟩
    · exact q1.elim
  · exact q1.elim
/-- x + y, lists: a new list -/
def dCat (ta tb : TDE) : TDL := fun ds M Q => ta ds M fun x M1 => tb ds M1 fun y M2 => match rdL M2 x, rdL M2 y with
  | some i, some j => i.length + j.length ≤ sizeLine ∧ Q (i ++ j) M2
  | _, _ => False
theorem jl_cat {a b : Expr} {ta tb : TDE} (ha : JE X a ta) (hb : JE X b tb) : JL X (.BinOp a .Add b pos) (dCat ta tb) := by
  obtain ⟨u, p, g⟩ := ha
  obtain ⟨u', p', g'⟩ := hb
  refine ⟨_, pe_op op_cat p p', fun ds σ H M Q Q0 s m q k => ?_⟩
  refine g ds σ H M _ _ s m q fun v H1 d M1 r1 m1 g1 q1 => ?_
  refine g' ds σ H1 M1 _ _ (s.gg m g1) m1 q1 fun w H2 e M2 r2 m2 g2 q2 => ?_
  split at q2
  · rename_i i j e1 e2
    obtain ⟨hz, q2⟩ := q2
    obtain ⟨a, vs, rfl, h1, ra⟩ := rdL_v m2 (VR.mono (g2.tx m1) _ _ r1) e1
    obtain ⟨b, ws, rfl, h2, rb⟩ := rdL_v m2 r2 e2
    refine ⟨a, b, vs, ws, rfl, rfl, h1, h2, by rw [← ra.length, ← rb.length]; exact hz, fun l hl => ?_⟩
    exact k l (H2.up l _) _ _ M2 ((g1.trans g2).free hl) upd_same (VRs.append (VRs.mono (TX.new m2 hl) _ _ ra) (VRs.mono (TX.new m2 hl) _ _ rb)) (m2.free hl) (m2.freeF hl) (m2.newT hl) ((g1.trans g2).trans (GG.newT hl)) q2
  · exact q2.elim
/-- xs[lo:hi], a list: a new list -/
def dSlL (te : TDE) (tl th : TDO) : TDL := fun ds M Q => te ds M fun x M1 => tl ds M1 fun l M2 => th ds M2 fun u M3 => match rdL M3 x with | some xs => Q (cutL xs l u) M3 | none => False
theorem jl_slice {te : TDE} {tl th : TDO} {lo hi : Option Expr} {p2 : Pos} (he : JE X e te) (hl : JO X lo tl) (hu : JO X hi th) : JL X (.Subscript e (.Slice lo hi none p2) pos) (dSlL te tl th) := by
  obtain ⟨u, p, g⟩ := he
  obtain ⟨u1, p1, g1⟩ := hl
  obtain ⟨u2, p2, g2⟩ := hu
  refine ⟨_, pe_slice sl_list p p1 p2, fun ds σ H M Q Q0 s m q k => ?_⟩
  refine g ds σ H M _ _ s m q fun v H1 d M1 r1 m1 gg1 q1 => ?_
  refine g1 ds σ H1 M1 _ _ (s.gg m gg1) m1 q1 fun l H2 M2 m2 gg2 q2 => ?_
  refine g2 ds σ H2 M2 _ _ (s.gg m (gg1.trans gg2)) m2 q2 fun u H3 M3 m3 gg3 q3 => ?_
  split at q3
  · rename_i xs e1
    obtain ⟨a, vs, rfl, h1, ra⟩ := rdL_v m3 (VR.mono ((gg2.trans gg3).tx m1) _ _ r1) e1
    refine ⟨a, vs, rfl, SqL.of h1, fun p hp => ?_⟩
    have G := (gg1.trans gg2).trans gg3
    exact k p (H3.up p _) _ _ M3 (G.free hp) upd_same (VRs.mono (TX.new m3 hp) _ _ (ra.cut l u)) (m3.free hp) (m3.freeF hp) (m3.newT hp) (G.trans (GG.newT hp)) q3
  · exact q3.elim
end
end DM

namespace DM
open PySem L2
open PyProof.Rows (b2i)

/-! ### zip -/
def zipD (xs ys : List D) : List D := (xs.zip ys).map fun p => .tup [p.1, p.2]
theorem zipD_get {xs ys : List D} {i : Nat} {d : D} (h : (zipD xs ys)[i]? = some d) : ∃ x y, xs[i]? = some x ∧ ys[i]? = some y ∧ d = .tup [x, y] := by
  unfold zipD at h
  rw [List.getElem?_map] at h
  obtain ⟨p, h1, rfl⟩ := Option.map_eq_some_iff.mp h
  rw [List.getElem?_zip_eq_some] at h1
  exact ⟨p.1, p.2, h1.1, h1.2, rfl⟩
theorem zipD_len {xs ys : List D} : (zipD xs ys).length = min xs.length ys.length := by simp [zipD]
section
variable {K : PySem.W.Frag} {M M1 : Mm} {H H1 : HF}
theorem it_zipT {a b : Addr} {xs ys : List D} {vs ws : List V} (sa : SqT K H.h a vs) (ra : VRs K H xs vs) (sb : SqT K H.h b ws) (rb : VRs K H ys ws) (m0 : MR K M H) : ItOk K (RZ.ItzT K a b) ⟨zipD xs ys, fun _ => True⟩ M H where
  go := fun i d M2 H2 g m _ e => by
    obtain ⟨x, y, h1, h2, rfl⟩ := zipD_get e
    obtain ⟨v, e1, _⟩ := ra.get h1
    obtain ⟨w, e2, _⟩ := rb.get h2
    exact ⟨vs, ws, v, w, (g.tx m0).tu _ _ sa, (g.tx m0).tu _ _ sb, e1, e2⟩
  yld := fun i d M2 H2 x H3 g m _ e y => by
    obtain ⟨x', y', h1, h2, rfl⟩ := zipD_get e
    obtain ⟨v, e1, r1⟩ := ra.get h1
    obtain ⟨w, e2, r2⟩ := rb.get h2
    obtain ⟨T, p, q, rfl, hT, rfl, hx, hy⟩ := y
    have f1 := hx vs ((g.tx m0).tu _ _ sa)
    have f2 := hy ws ((g.tx m0).tu _ _ sb)
    rw [e1] at f1
    rw [e2] at f2
    cases f1
    cases f2
    exact ⟨H2.up _ _, rfl, .tup upd_same (.cons (VR.mono (TX.new m hT) _ _ (VR.mono (g.tx m0) _ _ r1)) (.cons (VR.mono (TX.new m hT) _ _ (VR.mono (g.tx m0) _ _ r2)) .nil)), m.newT hT, GG.newT hT⟩
  stop := fun M2 H2 g m _ => by
    refine ⟨vs, ws, (g.tx m0).tu _ _ sa, (g.tx m0).tu _ _ sb, ?_⟩
    have : (zipD xs ys).length = min vs.length ws.length := by rw [zipD_len, ra.length, rb.length]
    show vs.length ≤ (zipD xs ys).length ∨ ws.length ≤ (zipD xs ys).length
    omega
theorem it_zipL {a b : Addr} {xs ys : List D} {x y : D} (r1 : VR K H x (.ref a)) (r2 : VR K H y (.ref b)) (m0 : MR K M H) : ItOk K (Itz K a b) ⟨zipD xs ys, fun M' => rdL M' x = some xs ∧ rdL M' y = some ys⟩ M H where
  go := fun i d M2 H2 g m ok e => by
    obtain ⟨x, y, h1, h2, rfl⟩ := zipD_get e
    obtain ⟨a', vs, ea, q1, s1⟩ := rdL_v m (VR.mono (g.tx m0) _ _ r1) ok.1
    obtain ⟨b', ws, eb, q2, s2⟩ := rdL_v m (VR.mono (g.tx m0) _ _ r2) ok.2
    cases ea
    cases eb
    obtain ⟨v, e1, _⟩ := s1.get h1
    obtain ⟨w, e2, _⟩ := s2.get h2
    exact ⟨vs, ws, v, w, SqL.of q1, SqL.of q2, e1, e2⟩
  yld := fun i d M2 H2 x H3 g m ok e y => by
    obtain ⟨x', y', h1, h2, rfl⟩ := zipD_get e
    obtain ⟨a', vs, ea, q1, s1⟩ := rdL_v m (VR.mono (g.tx m0) _ _ r1) ok.1
    obtain ⟨b', ws, eb, q2, s2⟩ := rdL_v m (VR.mono (g.tx m0) _ _ r2) ok.2
    cases ea
    cases eb
    obtain ⟨v, e1, s1⟩ := s1.get h1
    obtain ⟨w, e2, s2⟩ := s2.get h2
    obtain ⟨T, p, q, rfl, hT, rfl, hx, hy⟩ := y
    have f1 := hx vs (SqL.of q1)
    have f2 := hy ws (SqL.of q2)
    rw [e1] at f1
    rw [e2] at f2
    cases f1
    cases f2
    exact ⟨H2.up _ _, rfl, .tup upd_same (.cons (VR.mono (TX.new m hT) _ _ s1) (.cons (VR.mono (TX.new m hT) _ _ s2) .nil)), m.newT hT, GG.newT hT⟩
  stop := fun M2 H2 g m ok => by
    obtain ⟨a', vs, ea, q1, s1⟩ := rdL_v m (VR.mono (g.tx m0) _ _ r1) ok.1
    obtain ⟨b', ws, eb, q2, s2⟩ := rdL_v m (VR.mono (g.tx m0) _ _ r2) ok.2
    cases ea
    cases eb
    refine ⟨vs, ws, SqL.of q1, SqL.of q2, ?_⟩
    have : (zipD xs ys).length = min vs.length ws.length := by rw [zipD_len, s1.length, s2.length]
    show vs.length ≤ (zipD xs ys).length ∨ ws.length ≤ (zipD xs ys).length
    omega
end
def zipQ (x y : D) (M2 : Mm) (Q : DIt → Mm → Prop) : Prop := match rdL M2 x, rdL M2 y with | some xs, some ys => Q ⟨zipD xs ys, fun M' => rdL M' x = some xs ∧ rdL M' y = some ys⟩ M2 | _, _ => False
def diZip (ta tb : TDE) : TDI := fun ds M Q => ta ds M fun x M1 => tb ds M1 fun y M2 => match x, y with
  | .tup xs, .tup ys => Q ⟨zipD xs ys, fun _ => True⟩ M2
  | x, y => zipQ x y M2 Q
theorem ji_zip {X : Cx} {e f : Expr} {te tf : TDE} {p pos tpos : Pos} {elts : List Expr} {kk : Nat} (hm : X.mg "zip" = none) (h : JE X e te) (h' : JE X f tf) (hg : Gl X "zip" := by rfl)
    (hs : starEach [e, f] X.env = (false, eval e X.env) :: starEach [f] X.env := by rfl) (hs2 : starEach [f] X.env = (false, eval f X.env) :: starEach [] X.env := by rfl) (hpl : (backTo pos (starEach [f] X.env)).any (·.1) = false := by rfl) :
    JI X (.Tuple elts kk tpos) (.Call (.Name "zip" p) [e, f] [] pos) (diZip te tf) := by
  obtain ⟨u, q, g⟩ := h
  obtain ⟨u', q', g'⟩ := h'
  refine ⟨_, RZ.pi_zipA hg hm (pa_cons q (pa_cons q' pa_nil hs2) hs) hs hpl, fun ds σ H M Q R0 s m q k => ?_⟩
  refine g ds σ H M _ _ s m q fun v H1 d M1 r1 m1 g1 q1 => ?_
  refine g' ds σ H1 M1 _ _ (s.gg m g1) m1 q1 fun w H2 d2 M2 r2 m2 g2 q2 => ?_
  have r1 := VR.mono (g2.tx m1) _ _ r1
  split at q2
  · obtain ⟨a, vs, rfl, sa, ra⟩ := r1.tup_v
    obtain ⟨b, ws, rfl, sb, rb⟩ := r2.tup_v
    exact ⟨a, b, vs, ws, rfl, .inr ⟨sa, sb, k _ H2 _ M2 (it_zipT sa ra sb rb m2) m2 (g1.trans g2) q2⟩⟩
  · unfold zipQ at q2
    split at q2
    · rename_i xs ys e1 e2
      obtain ⟨a, vs, rfl, h1, _⟩ := rdL_v m2 r1 e1
      obtain ⟨b, ws, rfl, h2, _⟩ := rdL_v m2 r2 e2
      exact ⟨_, _, vs, ws, rfl, .inl ⟨SqL.of h1, SqL.of h2, k _ H2 _ M2 (it_zipL r1 r2 m2) m2 (g1.trans g2) q2⟩⟩
    · exact q2.elim

/-! ### methods of lists -/
abbrev DRM := D → List D → Mm → DQ → Prop
def LiftM (K : PySem.W.Frag) (r : V → List V → Hp → VK → Prop) (dr : DRM) : Prop := ∀ (x : V) (vs : List V) (dx : D) (ds : List D) (H : HF) (M : Mm) (Q : DQ) (Q0 : VK), VR K H dx x → VRs K H ds vs → MR K M H → dr dx ds M Q →
  (∀ v H' d M', VR K H' d v → MR K M' H' → GG M H M' H' → Q d M' → Q0 v H'.h) → r x vs H.h Q0
def isLst (x : D) (M : Mm) : Prop := match x with | .ref a => (lstOf M a).isSome = true | _ => False
theorem isLst_ty {K : PySem.W.Frag} {M : Mm} {H : HF} {x : D} {v : V} (r : VR K H x v) (m : MR K M H) (h : isLst x M) : tyV K "list" v H.h := by
  cases r with
  | ref a =>
    have h' : (lstOf M a).isSome = true := h
    obtain ⟨xs, e⟩ := Option.isSome_iff_exists.mp h'
    obtain ⟨vs, h1, _⟩ := m.ob a _ (of_lstOf e)
    exact .inl ⟨rfl, vs, SqL.of h1⟩
  | _ => exact h.elim
def dBM (r : DRM) (to : TDE) (t : TDA) : TDE := fun ds M Q => to ds M fun x M1 => isLst x M1 ∧ t ds M1 fun xs M2 => r x xs M2 Q
def dBM0 (r : DRM) (to : TDE) : TDE := fun ds M Q => to ds M fun x M1 => isLst x M1 ∧ r x [] M1 Q
section
variable {X : Cx} {o e : Expr} {es : List Expr} {to : TDE} {t : TDA} {name : Str} {apos cpos : Pos} {id : String} {r : V → List V → Hp → VK → Prop} {dr : DRM}
theorem je_bm0 (slot : Slot "list" name id) (hty : typeOf (.builtin id) = pure (.type "method_descriptor")) (hm : MtR X id r) (hl : LiftM X.K r dr) (ho : JE X o to)
    (hbase : attributeBase o name X.env (eval o X.env) = eval o X.env := by rfl) (hline : (apos.endLine == cpos.line) = true := by rfl) : JE X (.Call (.Attribute o name apos) [] [] cpos) (dBM0 dr to) := by
  obtain ⟨u, p, g⟩ := ho
  refine je_pe (pe_bm0 PySem.F.plainAttrs_list slot hty hm p hbase hline) fun ds σ H M Q Q0 s m q k => ?_
  refine g ds σ H M _ _ s m q fun v H1 d M1 r1 m1 g1 q1 => ⟨isLst_ty r1 m1 q1.1, ?_⟩
  exact hl v [] d [] H1 M1 Q Q0 r1 .nil m1 q1.2 fun w H2 d2 M2 r2 m2 g2 q2 => k w H2 d2 M2 r2 m2 (g1.trans g2) q2
theorem je_bm (slot : Slot "list" name id) (hty : typeOf (.builtin id) = pure (.type "method_descriptor")) (hm : MtR X id r) (hl : LiftM X.K r dr) (ho : JE X o to) (ha : JA X (e :: es) t)
    (hbase : attributeBase o name X.env (eval o X.env) = eval o X.env := by rfl)
    (hfew : ((backTo cpos (starEach (e :: es) X.env)).all (fun x => !x.1) && (backToKw cpos (keywordEach [] X.env)).all (fun x => x.1.isSome)
      && decide ((e :: es).length + ([] : List Keyword).length + (if ([] : List Keyword).isEmpty then 0 else 1) < 30)) = true := by rfl)
    (hline : (apos.endLine == cpos.line) = true := by rfl) (hs : starEach (e :: es) X.env = (false, eval e X.env) :: starEach es X.env := by rfl) (hplain : (backTo cpos (starEach es X.env)).any (·.1) = false := by rfl) :
    JE X (.Call (.Attribute o name apos) (e :: es) [] cpos) (dBM dr to t) := by
  obtain ⟨u, p, g⟩ := ho
  obtain ⟨u', p', g'⟩ := ha
  refine je_pe (pe_bm PySem.F.plainAttrs_list slot hty hm p p' hbase hfew hline hs hplain) fun ds σ H M Q Q0 s m q k => ?_
  refine g ds σ H M _ _ s m q fun v H1 d M1 r1 m1 g1 q1 => ⟨isLst_ty r1 m1 q1.1, ?_⟩
  refine g' ds σ H1 M1 _ _ (s.gg m g1) m1 q1.2 fun vs H2 xs M2 r2 m2 g2 q2 => ?_
  exact hl v vs d xs H2 M2 Q Q0 (VR.mono (g2.tx m1) _ _ r1) r2 m2 q2 fun w H3 d3 M3 r3 m3 g3 q3 => k w H3 d3 M3 r3 m3 ((g1.trans g2).trans g3) q3
end
def appendR : DRM := fun x xs M Q => match x, xs with
  | .ref a, [d] => (match lstOf M a with | some ys => ys.length < sizeLine ∧ Q .non (mup M a (.lst (ys ++ [d]))) | none => False)
  | _, _ => False
theorem lift_append {K : PySem.W.Frag} : LiftM K rAppend appendR := by
  intro x vs dx ds H M Q Q0 rx rs m h k
  unfold appendR at h
  split at h
  · rename_i a d
    cases rx.ref_v
    obtain ⟨v, rfl, r1⟩ := rs.one
    split at h
    · rename_i ys e
      obtain ⟨hz, h⟩ := h
      obtain ⟨us, h1, r2⟩ := m.ob a _ (of_lstOf e)
      have t := TX.put (u := .lst (us ++ [v])) m (of_lstOf e)
      refine ⟨a, us, v, rfl, rfl, h1, by rw [← r2.length]; exact hz, ?_⟩
      exact k _ (H.up a _) _ _ .non (m.put (w := .lst (ys ++ [d])) (of_lstOf e) ⟨_, upd_same, VRs.append (VRs.mono t _ _ r2) (.cons (VR.mono t _ _ r1) .nil)⟩) (GG.put (of_lstOf e)) h
    · exact h.elim
  · exact h.elim
def popR : DRM := fun x xs M Q => match x, xs with
  | .ref a, [] => (match lstOf M a with | some ys => (match ys[ys.length - 1]? with | some d => Q d (mup M a (.lst ys.dropLast)) | none => False) | none => False)
  | _, _ => False
theorem lift_pop {K : PySem.W.Frag} : LiftM K rPop popR := by
  intro x vs dx ds H M Q Q0 rx rs m h k
  unfold popR at h
  split at h
  · rename_i a
    cases rx.ref_v
    cases rs
    split at h
    · rename_i ys e
      split at h
      · rename_i d e2
        obtain ⟨us, h1, r2⟩ := m.ob a _ (of_lstOf e)
        rw [r2.length] at e2
        obtain ⟨v, e3, r3⟩ := r2.get e2
        have t := TX.put (u := .lst us.dropLast) m (of_lstOf e)
        exact ⟨a, us, v, rfl, rfl, h1, e3, k _ (H.up a _) _ _ (VR.mono t _ _ r3) (m.put (w := .lst ys.dropLast) (of_lstOf e) ⟨_, upd_same, (VRs.mono t _ _ r2).dropLast⟩) (GG.put (of_lstOf e)) h⟩
      · exact h.elim
    · exact h.elim
  · exact h.elim
def popAtR : DRM := fun x xs M Q => match x, xs with
  | .ref a, [.int i] => (match lstOf M a with | some ys => (0 ≤ i ∧ i < 2 ^ 62) ∧ (match ys[i.toNat]? with | some d => Q d (mup M a (.lst (ys.eraseIdx i.toNat))) | none => False) | none => False)
  | _, _ => False
theorem lift_popAt {K : PySem.W.Frag} : LiftM K rPopAt popAtR := by
  intro x vs dx ds H M Q Q0 rx rs m h k
  unfold popAtR at h
  split at h
  · rename_i a i
    cases rx.ref_v
    obtain ⟨v, rfl, r1⟩ := rs.one
    cases r1.int_v
    split at h
    · rename_i ys e
      obtain ⟨⟨h0, hi⟩, h⟩ := h
      split at h
      · rename_i d e2
        obtain ⟨us, h1, r2⟩ := m.ob a _ (of_lstOf e)
        obtain ⟨v, e3, r3⟩ := r2.get e2
        have t := TX.put (u := .lst (us.eraseIdx i.toNat)) m (of_lstOf e)
        have hlt := (List.getElem?_eq_some_iff.mp e3).1
        refine ⟨a, us, i, i.toNat, v, rfl, rfl, h1, by omega, by omega, ?_, e3, ?_⟩
        · exact seqIndex_of h0 (by omega)
        · exact k _ (H.up a _) _ _ (VR.mono t _ _ r3) (m.put (w := .lst (ys.eraseIdx i.toNat)) (of_lstOf e) ⟨_, upd_same, (VRs.mono t _ _ r2).eraseIdx _⟩) (GG.put (of_lstOf e)) h
      · exact h.elim
    · exact h.elim
  · exact h.elim
def insertR : DRM := fun x xs M Q => match x, xs with
  | .ref a, [.int i, d] => (match lstOf M a with | some ys => (ys.length < sizeLine ∧ 0 ≤ i ∧ i < 2 ^ 62) ∧ Q .non (mup M a (.lst (ys.take i.toNat ++ [d] ++ ys.drop i.toNat))) | none => False)
  | _, _ => False
def insertT : V → List V → Hp → VK → Prop := fun x vs H Q => ∃ (l : Addr) (xs : List V) (i : Int) (y : V), x = .ref l ∧ vs = [.int i, y] ∧ H l = some (.lst xs) ∧ xs.length < sizeLine ∧ 0 ≤ i ∧ i < 2 ^ 63 ∧
    Q .non (upd H l (.lst (xs.take i.toNat ++ [y] ++ xs.drop i.toNat)))
theorem lift_insert {K : PySem.W.Frag} : LiftM K insertT insertR := by
  intro x vs dx ds H M Q Q0 rx rs m h k
  unfold insertR at h
  split at h
  · rename_i a i d
    cases rx.ref_v
    obtain ⟨v, w, rfl, r1, r4⟩ := rs.two
    cases r1.int_v
    split at h
    · rename_i ys e
      obtain ⟨⟨hz, h0, hi⟩, h⟩ := h
      obtain ⟨us, h1, r2⟩ := m.ob a _ (of_lstOf e)
      have t := TX.put (u := .lst (us.take i.toNat ++ [w] ++ us.drop i.toNat)) m (of_lstOf e)
      have r2' := VRs.mono t _ _ r2
      refine ⟨a, us, i, w, rfl, rfl, h1, by rw [← r2.length]; exact hz, h0, by omega, ?_⟩
      exact k _ (H.up a _) _ _ .non (m.put (w := .lst (ys.take i.toNat ++ [d] ++ ys.drop i.toNat)) (of_lstOf e) ⟨_, upd_same, VRs.append (VRs.append (r2'.take _) (.cons (VR.mono t _ _ r4) .nil)) (r2'.drop _)⟩) (GG.put (of_lstOf e)) h
    · exact h.elim
  · exact h.elim
def extendR : DRM := fun x xs M Q => match x, xs with
  | .ref a, [y] => (match lstOf M a, rdL M y with | some ys, some zs => ys.length + zs.length ≤ sizeLine ∧ Q .non (mup M a (.lst (ys ++ zs))) | _, _ => False)
  | _, _ => False
theorem lift_extend {K : PySem.W.Frag} : LiftM K rExtend extendR := by
  intro x vs dx ds H M Q Q0 rx rs m h k
  unfold extendR at h
  split at h
  · rename_i a y
    cases rx.ref_v
    obtain ⟨v, rfl, r1⟩ := rs.one
    split at h
    · rename_i ys zs e e2
      obtain ⟨hz, h⟩ := h
      obtain ⟨us, h1, r2⟩ := m.ob a _ (of_lstOf e)
      obtain ⟨b, ws, rfl, h2, r3⟩ := rdL_v m r1 e2
      have t := TX.put (u := .lst (us ++ ws)) m (of_lstOf e)
      refine ⟨a, b, us, ws, rfl, rfl, h1, h2, by rw [← r2.length, ← r3.length]; exact hz, ?_⟩
      exact k _ (H.up a _) _ _ .non (m.put (w := .lst (ys ++ zs)) (of_lstOf e) ⟨_, upd_same, VRs.append (VRs.mono t _ _ r2) (VRs.mono t _ _ r3)⟩) (GG.put (of_lstOf e)) h
    · exact h.elim
  · exact h.elim
section
variable {X : Cx} {o e f : Expr} {to te tf : TDE} {apos cpos : Pos}
theorem je_append (ho : JE X o to) (ha : JE X e te) (hbase : attributeBase o "append" X.env (eval o X.env) = eval o X.env := by rfl)
    (hfew : ((backTo cpos (starEach [e] X.env)).all (fun x => !x.1) && (backToKw cpos (keywordEach [] X.env)).all (fun x => x.1.isSome)
      && decide (([e]).length + ([] : List Keyword).length + (if ([] : List Keyword).isEmpty then 0 else 1) < 30)) = true := by rfl)
    (hline : (apos.endLine == cpos.line) = true := by rfl) (hs : starEach [e] X.env = (false, eval e X.env) :: starEach [] X.env := by rfl) (hplain : (backTo cpos (starEach [] X.env)).any (·.1) = false := by rfl) :
    JE X (.Call (.Attribute o "append" apos) [e] [] cpos) (dBM appendR to (dCons te dNil)) := je_bm PySem.F.slot_list_append PySem.F.type_list_append mt_append lift_append ho (ja_cons ha ja_nil hs) hbase hfew hline hs hplain
theorem je_extend (ho : JE X o to) (ha : JE X e te) (hbase : attributeBase o "extend" X.env (eval o X.env) = eval o X.env := by rfl)
    (hfew : ((backTo cpos (starEach [e] X.env)).all (fun x => !x.1) && (backToKw cpos (keywordEach [] X.env)).all (fun x => x.1.isSome)
      && decide (([e]).length + ([] : List Keyword).length + (if ([] : List Keyword).isEmpty then 0 else 1) < 30)) = true := by rfl)
    (hline : (apos.endLine == cpos.line) = true := by rfl) (hs : starEach [e] X.env = (false, eval e X.env) :: starEach [] X.env := by rfl) (hplain : (backTo cpos (starEach [] X.env)).any (·.1) = false := by rfl) :
    JE X (.Call (.Attribute o "extend" apos) [e] [] cpos) (dBM extendR to (dCons te dNil)) := je_bm PySem.F.slot_list_extend PySem.F.type_list_extend mt_extend lift_extend ho (ja_cons ha ja_nil hs) hbase hfew hline hs hplain
theorem je_pop0 (ho : JE X o to) (hbase : attributeBase o "pop" X.env (eval o X.env) = eval o X.env := by rfl) (hline : (apos.endLine == cpos.line) = true := by rfl) :
    JE X (.Call (.Attribute o "pop" apos) [] [] cpos) (dBM0 popR to) := je_bm0 PySem.F.slot_list_pop PySem.F.type_list_pop mt_pop lift_pop ho hbase hline
theorem je_popAt (ho : JE X o to) (ha : JE X e te) (hbase : attributeBase o "pop" X.env (eval o X.env) = eval o X.env := by rfl)
    (hfew : ((backTo cpos (starEach [e] X.env)).all (fun x => !x.1) && (backToKw cpos (keywordEach [] X.env)).all (fun x => x.1.isSome)
      && decide (([e]).length + ([] : List Keyword).length + (if ([] : List Keyword).isEmpty then 0 else 1) < 30)) = true := by rfl)
    (hline : (apos.endLine == cpos.line) = true := by rfl) (hs : starEach [e] X.env = (false, eval e X.env) :: starEach [] X.env := by rfl) (hplain : (backTo cpos (starEach [] X.env)).any (·.1) = false := by rfl) :
    JE X (.Call (.Attribute o "pop" apos) [e] [] cpos) (dBM popAtR to (dCons te dNil)) := je_bm PySem.F.slot_list_pop PySem.F.type_list_pop mt_popAt lift_popAt ho (ja_cons ha ja_nil hs) hbase hfew hline hs hplain
theorem je_insert (ho : JE X o to) (ha : JE X e te) (hb : JE X f tf) (hbase : attributeBase o "insert" X.env (eval o X.env) = eval o X.env := by rfl)
    (hfew : ((backTo cpos (starEach [e, f] X.env)).all (fun x => !x.1) && (backToKw cpos (keywordEach [] X.env)).all (fun x => x.1.isSome)
      && decide (([e, f]).length + ([] : List Keyword).length + (if ([] : List Keyword).isEmpty then 0 else 1) < 30)) = true := by rfl)
    (hline : (apos.endLine == cpos.line) = true := by rfl) (hs : starEach [e, f] X.env = (false, eval e X.env) :: starEach [f] X.env := by rfl) (hs2 : starEach [f] X.env = (false, eval f X.env) :: starEach [] X.env := by rfl) (hplain : (backTo cpos (starEach [f] X.env)).any (·.1) = false := by rfl) :
    JE X (.Call (.Attribute o "insert" apos) [e, f] [] cpos) (dBM insertR to (dCons te (dCons tf dNil))) := je_bm PySem.F.slot_list_insert PySem.F.type_list_insert mt_insert lift_insert ho (ja_cons ha (ja_cons hb ja_nil hs2) hs) hbase hfew hline hs hplain
/-- sep.join(a list of texts) -/
def joinQ (a : Str) (xs : List D) (M : Mm) (Q : DQ) : Prop := match strsOf xs with | some ys => (ys.map (·.length)).sum + ys.length * a.length ≤ 16777216 ∧ Q (.str (Txt.join a ys)) M | none => False
def dJoin (to te : TDE) : TDE := fun ds M Q => to ds M fun x M1 => match x with
  | .str a => te ds M1 fun y M2 => (match rdL M2 y with | some xs => joinQ a xs M2 Q | none => False)
  | _ => False
theorem je_join (ho : JE X o to) (he : JE X e te) (hs : starEach [e] X.env = [(false, eval e X.env)] := by rfl) (hbase : attributeBase o "join" X.env (eval o X.env) = eval o X.env := by rfl) (hline : (apos.endLine == cpos.line) = true := by rfl) :
    JE X (.Call (.Attribute o "join" apos) [e] [] cpos) (dJoin to te) := by
  obtain ⟨u, p, g⟩ := ho
  obtain ⟨u', p', g'⟩ := he
  refine je_pe (pe_join p p' hs hbase hline) fun ds σ H M Q Q0 s m q k => ?_
  refine g ds σ H M _ _ s m q fun v H1 d M1 r1 m1 g1 q1 => ?_
  cases d with
  | str a =>
    cases r1.str_v
    refine ⟨⟨a, rfl⟩, ?_⟩
    refine g' ds σ H1 M1 _ _ (s.gg m g1) m1 q1 fun w H2 d2 M2 r2 m2 g2 q2 => ?_
    split at q2
    · rename_i xs e
      unfold joinQ at q2
      split at q2
      · rename_i ys e2
        obtain ⟨b, vs, rfl, h1, r3⟩ := rdL_v m2 r2 e
        exact ⟨a, b, ys, rfl, rfl, .inl (by rw [← strsOf_v r3 e2]; exact SqL.of h1), q2.1, k _ H2 _ M2 (.str _) m2 (g1.trans g2) q2.2⟩
      · exact q2.elim
    · exact q2.elim
  | _ => exact q1.elim
end

/-! ### dicts with keys that are ints and texts -/
def keyD : D → Option Key
  | .int i => some (.inl i)
  | .str x => some (.inr x)
  | _ => none
theorem keyD_v {K : PySem.W.Frag} {H : HF} {d : D} {v : V} {k : Key} (r : VR K H d v) (h : keyD d = some k) : v = kV k := by
  cases r with
  | int i => cases h; rfl
  | str i => cases h; rfl
  | _ => cases h
def valD (kvs : List (Key × D)) (k : Key) : Option D := (kvs.find? fun kv => decide (kv.1 = k)).map (·.2)
def putD (kvs : List (Key × D)) (k : Key) (d : D) : List (Key × D) :=
  if (kvs.any fun kv => decide (kv.1 = k)) = true then kvs.map (fun kv => if kv.1 = k then (kv.1, d) else kv) else kvs ++ [(k, d)]
section
variable {K : PySem.W.Frag} {H : HF}
theorem FR.val : ∀ {ds : List (Key × D)} {vs : List (Key × V)} {k : Key} {d : D}, FR K H ds vs → valD ds k = some d → ∃ v, valV vs k = some v ∧ VR K H d v
  | _, _, _, _, .nil, h => by simp [valD] at h
  | (k', d') :: ds, (_, v') :: vs, k, d, .cons r q, h => by
    unfold valD valV at *
    by_cases e : k' = k
    · simp [List.find?_cons, e] at h ⊢
      subst h
      exact r
    · simp only [List.find?_cons, e, decide_false] at h ⊢
      exact FR.val (k := k) (d := d) q h
theorem FR.valN : ∀ {ds : List (Key × D)} {vs : List (Key × V)} {k : Key}, FR K H ds vs → valD ds k = none → valV vs k = none
  | _, _, _, .nil, h => by simp [valV]
  | (k', d') :: ds, (_, v') :: vs, k, .cons r q, h => by
    unfold valD valV at *
    by_cases e : k' = k
    · simp [List.find?_cons, e] at h
    · simp only [List.find?_cons, e, decide_false] at h ⊢
      exact FR.valN (k := k) q h
theorem FR.any : ∀ {ds : List (Key × D)} {vs : List (Key × V)} {k : Key}, FR K H ds vs → (ds.any fun kv => decide (kv.1 = k)) = vs.any fun kv => decide (kv.1 = k)
  | _, _, _, .nil => rfl
  | (k', d') :: ds, (_, v') :: vs, k, .cons r q => by rw [List.any_cons, List.any_cons, FR.any q]
theorem FR.snoc {k : Key} {d : D} {v : V} (r : VR K H d v) : ∀ {ds : List (Key × D)} {vs : List (Key × V)}, FR K H ds vs → FR K H (ds ++ [(k, d)]) (vs ++ [(k, v)])
  | _, _, .nil => .cons r .nil
  | _, _, .cons q t => .cons q (FR.snoc r t)
theorem FR.repl {k : Key} {d : D} {v : V} (r : VR K H d v) : ∀ {ds : List (Key × D)} {vs : List (Key × V)}, FR K H ds vs → FR K H (ds.map fun kv => if kv.1 = k then (kv.1, d) else kv) (vs.map fun kv => if kv.1 = k then (kv.1, v) else kv)
  | _, _, .nil => .nil
  | (k', d') :: ds, (_, v') :: vs, .cons q t => by
    rw [List.map_cons, List.map_cons]
    by_cases e : k' = k
    · simp only [e, if_true]
      exact .cons r (FR.repl r t)
    · simp only [e, if_false]
      exact .cons q (FR.repl r t)
theorem FR.put {k : Key} {d : D} {v : V} (r : VR K H d v) {ds : List (Key × D)} {vs : List (Key × V)} (h : FR K H ds vs) : FR K H (putD ds k d) (putK vs k v) := by
  unfold putD putK
  rw [h.any]
  split
  · exact h.repl r
  · exact h.snoc r
end
def dicOf (M : Mm) (a : Addr) : Option (List (Key × D)) := match M a with | some (.dic kvs) => some kvs | _ => none
theorem dicOf_some {M : Mm} {a : Addr} {xs : List (Key × D)} (h : M a = some (.dic xs)) : dicOf M a = some xs := by unfold dicOf; rw [h]
theorem of_dicOf {M : Mm} {a : Addr} {xs : List (Key × D)} (h : dicOf M a = some xs) : M a = some (.dic xs) := by
  unfold dicOf at h
  split at h
  · cases h; assumption
  · cases h
/-- a dict, frozen or in the store -/
def rdD (M : Mm) : D → Option (List (Key × D))
  | .dic kvs => some kvs
  | .ref a => dicOf M a
  | _ => none
@[simp] theorem rdD_dic {M : Mm} {kvs : List (Key × D)} : rdD M (.dic kvs) = some kvs := rfl
@[simp] theorem rdD_ref {M : Mm} {a : Addr} : rdD M (.ref a) = dicOf M a := rfl
theorem rdD_v {K : PySem.W.Frag} {M : Mm} {H : HF} {d : D} {v : V} {xs : List (Key × D)} (m : MR K M H) (r : VR K H d v) (e : rdD M d = some xs) : ∃ a vs, v = .ref a ∧ H.h a = some (.dK vs) ∧ FR K H xs vs := by
  cases d with
  | dic ys =>
    cases e
    obtain ⟨a, vs, rfl, h, _, q⟩ := r.dic_v
    exact ⟨a, vs, rfl, h, q⟩
  | ref a =>
    cases r.ref_v
    obtain ⟨vs, h1, r1⟩ := m.ob a _ (of_dicOf e)
    exact ⟨a, vs, rfl, h1, r1⟩
  | _ => cases e
def dgetR : DR2 := fun x y M Q => match rdD M x, keyD y with
  | some kvs, some k => (match valD kvs k with | some d => Q d M | none => False)
  | _, _ => False
section
variable {X : Cx} {o i e : Expr} {to ti te : TDE} {pos pos' : Pos} {k : Nat}
theorem je_dget (hr : Room k X.A) (ho : JE X o to) (hi : JE X i ti) (hs : NoSl i := by exact fun _ _ => rfl) : JE X (.Subscript o i pos) (dOp dgetR to ti) := by
  obtain ⟨u, p, g⟩ := ho
  obtain ⟨u', p', g'⟩ := hi
  refine je_pe (pe_dget (hu_of hr) p p' hs) fun ds σ H M Q Q0 s m q kk => ?_
  refine g ds σ H M _ _ s m q fun v H1 d M1 r1 m1 g1 q1 => ?_
  refine g' ds σ H1 M1 _ _ (s.gg m g1) m1 q1 fun w H2 d2 M2 r2 m2 g2 q2 => ?_
  unfold dgetR at q2
  split at q2
  · rename_i kvs k e1 e2
    split at q2
    · rename_i d3 e3
      obtain ⟨a, vs, rfl, h1, r3⟩ := rdD_v m2 (VR.mono (g2.tx m1) _ _ r1) e1
      obtain ⟨z, e4, r4⟩ := r3.val e3
      rw [keyD_v r2 e2]
      exact ⟨a, z, rfl, by rw [← e4]; exact DGet.k h1, kk _ H2 _ M2 r4 m2 (g1.trans g2) q2⟩
    · exact q2.elim
  · exact q2.elim
/-- o[i] = e, o a dict -/
def dputS (te to ti : TDE) : TDS := fun D ds M => te ds M fun v M1 => to ds M1 fun x M2 => ti ds M2 fun y M3 => match x, keyD y with
  | .ref a, some k => (match dicOf M3 a with | some kvs => kvs.length < sizeLine ∧ D.nx ds (mup M3 a (.dic (putD kvs k v))) | none => False)
  | _, _ => False
theorem js_dput {W : WX} (hr : Room k X.A) (ho : JE X o to) (hi : JE X i ti) (he : JE X e te) (hs : swapsWith e (some (.Subscript o i pos')) pos.line X.env = pure false := by rfl) : JS X W (.Assign [.Subscript o i pos'] e pos) (dputS te to ti) := by
  obtain ⟨u, p, g⟩ := ho
  obtain ⟨u', p', g'⟩ := hi
  obtain ⟨ue, pe, ge⟩ := he
  refine ⟨_, ps_dput (hu_of hr) p p' pe hs, fun M0 H0 D0 D1 l ds σ H M gg s m q => ?_⟩
  refine ge ds σ H M _ _ s m q fun v H1 d M1 r1 m1 g1 q1 => ?_
  refine g ds σ H1 M1 _ _ (s.gg m g1) m1 q1 fun w H2 d2 M2 r2 m2 g2 q2 => ?_
  refine g' ds σ H2 M2 _ _ (s.gg m (g1.trans g2)) m2 q2 fun z H3 d3 M3 r3 m3 g3 q3 => ?_
  split at q3
  · rename_i a k e1
    cases r2.ref_v
    split at q3
    · rename_i kvs e2
      obtain ⟨hz, q3⟩ := q3
      obtain ⟨vs, h1, r4⟩ := m3.ob a _ (of_dicOf e2)
      rw [keyD_v r3 e1]
      refine ⟨a, _, rfl, DPut.k h1 (by rw [← r4.length]; exact hz), ?_⟩
      have t := TX.put (u := .dK (putK vs k v)) m3 (of_dicOf e2)
      have r1' : VR X.K H3 d v := VR.mono ((g2.trans g3).tx m1) _ _ r1
      have gp : GG M3 H3 (mup M3 a (.dic (putD kvs k d))) (H3.up a (.dK (putK vs k v))) := GG.put (of_dicOf e2)
      exact l.nx σ ds _ _ ((((gg.trans g1).trans g2).trans g3).trans gp) ((s.gg m ((g1.trans g2).trans g3)).gg m3 gp)
        (m3.put (w := .dic (putD kvs k d)) (of_dicOf e2) ⟨_, upd_same, (r4.mono t).put (VR.mono t _ _ r1')⟩) q3
    · exact q3.elim
  · exact q3.elim
/-- o[i] = e, o a list -/
def dlputS (te to ti : TDE) : TDS := fun D ds M => te ds M fun v M1 => to ds M1 fun x M2 => ti ds M2 fun y M3 => match x, y with
  | .ref a, .int i => (match lstOf M3 a with | some xs => (match ixN xs.length i with | some j => D.nx ds (mup M3 a (.lst (xs.set j v))) | none => False) | none => False)
  | _, _ => False
theorem js_lput {W : WX} (ho : JE X o to) (hi : JE X i ti) (he : JE X e te) (hs : swapsWithSole [.Subscript o i pos'] e pos.line X.env = pure false := by rfl) (hw : swappedStores [.Subscript o i pos'] e X.env = pure none := by rfl)
    (h1 : (assignEach [.Subscript o i pos'] X.env).map (·.2) = [assign (.Subscript o i pos') X.env] := by rfl)
    (hA : ∀ v, assign (.Subscript o i pos') X.env v = (do
      let ov ← holding [v] (eval o X.env)
      let iv ← holding [v, ov] (eval i X.env)
      standAt pos'
      holding [v, ov, iv] (setItem ov iv v)
      release [v, ov, iv] []) := by intro _; rfl) : JS X W (.Assign [.Subscript o i pos'] e pos) (dlputS te to ti) := by
  obtain ⟨u, p, g⟩ := ho
  obtain ⟨u', p', g'⟩ := hi
  obtain ⟨ue, pe, ge⟩ := he
  refine ⟨_, ps_asg pe (pg_sub p p' set_list hA) hs hw h1, fun M0 H0 D0 D1 l ds σ H M gg s m q => ?_⟩
  refine ge ds σ H M _ _ s m q fun v H1 d M1 r1 m1 g1 q1 => ?_
  refine g ds σ H1 M1 _ _ (s.gg m g1) m1 q1 fun w H2 d2 M2 r2 m2 g2 q2 => ?_
  refine g' ds σ H2 M2 _ _ (s.gg m (g1.trans g2)) m2 q2 fun z H3 d3 M3 r3 m3 g3 q3 => ?_
  split at q3
  · rename_i a i
    cases r2.ref_v
    cases r3.int_v
    split at q3
    · rename_i xs e2
      split at q3
      · rename_i j e3
        obtain ⟨vs, h1, r4⟩ := m3.ob a _ (of_lstOf e2)
        have r1' : VR X.K H3 d v := VR.mono ((g2.trans g3).tx m1) _ _ r1
        have t := TX.put (u := .lst (vs.set j v)) m3 (of_lstOf e2)
        have gp : GG M3 H3 (mup M3 a (.lst (xs.set j d))) (H3.up a (.lst (vs.set j v))) := GG.put (of_lstOf e2)
        refine ⟨a, vs, i, j, rfl, rfl, h1, by rw [← r4.length]; exact e3, ?_⟩
        exact l.nx σ ds _ _ ((((gg.trans g1).trans g2).trans g3).trans gp) ((s.gg m ((g1.trans g2).trans g3)).gg m3 gp)
          (m3.put (w := .lst (xs.set j d)) (of_lstOf e2) ⟨_, upd_same, (VRs.mono t _ _ r4).set (VR.mono t _ _ r1') j⟩) q3
      · exact q3.elim
    · exact q3.elim
  · exact q3.elim
/-- {} -/
def dDict0 : TDE := fun _ M Q => ∀ p, M p = none → Q (.ref p) (mup M p (.dic []))
theorem je_dict0 : JE X (.Dict [] [] pos) dDict0 := je_pe pe_dnewK fun ds σ H M Q Q0 s m q k p hp => k _ (H.up p _) _ _ (.ref p) (m.new (w := .dic []) hp ⟨[], upd_same, .nil⟩) (GG.new hp) (q p (m.free hp))
end
end DM

namespace DM
open PySem L2
open PyProof.Rows (b2i)

/-! ### a list, a tuple or a text that is walked -/
theorem pi_any {X : Cx} {tg l : Expr} {tl : TE} (hl : PE X l tl) : PI X tg l (fun σ H R => tl σ H fun x H1 => (∃ a, x = .ref a ∧ (∃ xs, SqL X.K H1 a xs) ∧ R (Itl X.K a) H1) ∨ (∃ a, x = .ref a ∧ (∃ xs, SqT X.K H1 a xs) ∧ R (Itt X.K a) H1) ∨ ∃ z, x = .str z ∧ R (Its z) H1) := by
  refine ⟨fun pins s σ H R I h => ?_⟩
  refine thn (hl.run pins s σ H _ I h) fun v s1 ⟨x, H1, I1, r1, q1⟩ => ?_
  rcases q1 with ⟨a, e, ⟨xs, hq⟩, q⟩ | ⟨a, e, ⟨xs, hq⟩, q⟩ | ⟨z, e, q⟩
  · subst e
    cases r1
    obtain ⟨its, rv, p, hz⟩ := I1.list hq
    refine wpAny_pyIter_list p.isList ?_
    refine ⟨s1.heap.objs.size, [s1.heap.objs.size], _, _, H1, rfl, I1.kept (t' := s1.toks) fun b o e => Heap.get?_push_of_some _ e, turn_list a _, ⟨_, Heap.get?_push_size _ rfl, rfl, rfl⟩, fun b hb => ?_, q⟩
    have e : b = s1.heap.objs.size := by simpa using hb
    subst e
    exact I1.fpOk (Nat.le_refl _) (I1.hok.fresh (Nat.le_refl _))
  · subst e
    cases r1
    obtain ⟨its, rv, p, hz⟩ := I1.tuple hq
    refine wpAny_pyIter_tuple (show s1.heap.IsTuple a its.toArray from p) ?_
    refine ⟨s1.heap.objs.size, [s1.heap.objs.size], _, _, H1, rfl, I1.kept (t' := s1.toks) fun b o e => Heap.get?_push_of_some _ e, turn_tuple a _, ⟨_, Heap.get?_push_size _ rfl, rfl, rfl⟩, fun b hb => ?_, q⟩
    have e : b = s1.heap.objs.size := by simpa using hb
    subst e
    exact I1.fpOk (Nat.le_refl _) (I1.hok.fresh (Nat.le_refl _))
  · subst e
    obtain ⟨t, rfl⟩ := r1
    cases ha : z.cps.all (· < 128)
    · exact wpAny_pyIter_wide ha (pi_one (tk := s1.toks) I1 _ (turn_str _ z t "str_iterator" (.inr rfl)) ⟨_, Heap.get?_push_size _ rfl, rfl, rfl⟩ q)
    · exact wpAny_pyIter_ascii ha (pi_one (tk := s1.toks) I1 _ (turn_str _ z t "str_ascii_iterator" (.inl rfl)) ⟨_, Heap.get?_push_size _ rfl, rfl, rfl⟩ q)
def diAny (te : TDE) : TDI := fun ds M Q => te ds M fun x M1 => match x with
  | .tup xs => Q ⟨xs, fun _ => True⟩ M1
  | .str z => Q ⟨signs z, fun _ => True⟩ M1
  | .ref a => (match lstOf M1 a with | some xs => Q ⟨xs, fun M' => lstOf M' a = some xs⟩ M1 | none => False)
  | .lst xs => Q ⟨xs, fun _ => True⟩ M1
  | _ => False
theorem ji_any {X : Cx} {tg e : Expr} {te : TDE} (h : JE X e te) : JI X tg e (diAny te) := by
  obtain ⟨u, p, g⟩ := h
  refine ⟨_, pi_any p, fun ds σ H M Q R0 s m q k => ?_⟩
  refine g ds σ H M _ _ s m q fun v H1 d M1 r1 m1 g1 q1 => ?_
  cases d with
  | tup xs =>
    obtain ⟨a, vs, rfl, sa, ra⟩ := r1.tup_v
    exact .inr (.inl ⟨a, rfl, ⟨vs, sa⟩, k _ H1 _ M1 (it_tup sa ra m1) m1 g1 q1⟩)
  | str z =>
    cases r1.str_v
    exact .inr (.inr ⟨z, rfl, k _ H1 _ M1 it_str m1 g1 q1⟩)
  | ref a =>
    cases r1.ref_v
    simp only at q1
    split at q1
    · rename_i xs e
      obtain ⟨vs, h1, r2⟩ := m1.ob a _ (of_lstOf e)
      exact .inl ⟨a, rfl, ⟨vs, SqL.of h1⟩, k _ H1 _ M1 it_lst m1 g1 q1⟩
    · exact q1.elim
  | lst xs =>
    obtain ⟨a, vs, rfl, h1, f1, ra⟩ := r1.lst_v
    exact .inl ⟨a, rfl, ⟨vs, SqL.of h1⟩, k _ H1 _ M1 (it_own h1 ra (m1.nf a f1) m1) m1 g1 q1⟩
  | _ => exact q1.elim

/-! ### subscripts of sequences and dicts -/
open PyProof.Rows in
theorem ix_dict {X : Cx} (hu : X.A.units + 1 < cLine) : IxR X (fun x y H Q => ∃ a v, x = .ref a ∧ DGet H a y (some v) ∧ Q v H) := by
  intro value slice pins s σ H x y v u Q I rx ry h hs
  obtain ⟨a, z, rfl, g, q⟩ := h
  obtain rfl : v = Value.ref a := rx
  have hT := dict_typeIs I g
  have h₂ : wpAny (model X.prog X.w) X.A (getItem (.ref a) u) (EP X pins σ Q) X.xe s := d_getItem hu I g ry fun w' s3 I3 rw' => ⟨z, H, I3, rw', q⟩
  unfold subscriptTail
  refine wpAny_bind ?_
  rw [getitemInPython_of_ne hT.not_modules]
  refine wpAny_bind (wpAny_specialOf hT PySem.F.slot_dict_getitem.lookup ?_)
  have fin : wpAny (model X.prog X.w) X.A (subscripted slice false (.ref a) u) (fun r s₃ => wpAny (model X.prog X.w) X.A (letTemporaryGo value (.ref a) r >>= fun _ => pure r) (EP X pins σ Q) X.xe s₃) X.xe s := by
    rw [hs]
    exact wpAny_operating (wpAny_mono h₂ (fun r s₃ h₃ => wpAny_bind (wpAny_letTemporaryGo (wpAny_pure h₃))) fun _ _ x => x)
  first
    | exact wpAny_pure (wpAny_bind fin)
    | exact wpAny_bind (wpAny_pure (wpAny_bind fin))
    | exact wpAny_bind fin
def ixA : DR2 := fun x y M Q => match rdD M x with
  | some kvs => (match keyD y with | some k => (match valD kvs k with | some d => Q d M | none => False) | none => False)
  | none => ixR x y M Q
theorem lift_ixA {K : PySem.W.Frag} : Lift2 K (fun x y H Q => rIx K x y H Q ∨ ∃ a v, x = .ref a ∧ DGet H a y (some v) ∧ Q v H) ixA := by
  intro x y dx dy H M Q Q0 rx ry m h k
  unfold ixA at h
  split at h
  · rename_i kvs e
    split at h
    · rename_i kk e1
      split at h
      · rename_i d3 e3
        obtain ⟨a, vs, rfl, h1, r3⟩ := rdD_v m rx e
        obtain ⟨z, e4, r4⟩ := r3.val e3
        rw [keyD_v ry e1]
        exact .inr ⟨a, z, rfl, by rw [← e4]; exact DGet.k h1, k _ H _ M r4 m GG.refl h⟩
      · exact h.elim
    · exact h.elim
  · exact .inl (lift_ix x y dx dy H M Q Q0 rx ry m h k)
theorem je_ixA {X : Cx} {a b : Expr} {ta tb : TDE} {pos : Pos} {k : Nat} (hr : Room k X.A) (ha : JE X a ta) (hb : JE X b tb) (hs : PlainIx b := by exact fun _ _ => rfl) : JE X (.Subscript a b pos) (dOp ixA ta tb) := by
  obtain ⟨u, p, g⟩ := ha
  obtain ⟨u', p', g'⟩ := hb
  exact je_pe (pe_ix (ix_seq.or (ix_dict (hu_of hr))) p p' hs) (op2 lift_ixA g g')

/-! ### what a pure value is, is told by the heap -/
section
variable {X : Cx} {pins : List (Addr × Obj)} {σ : L2.St} {H : HF} {s : Shared}
mutual
theorem VR_inj (I : Inv X pins σ H.h s) : ∀ (d e : D) (v : V), VR X.K H d v → VR X.K H e v → pureD d = true → pureD e = true → d = e
  | .non, e, _, r, q, _, _ => by cases r; cases q; rfl
  | .bl _, e, _, r, q, _, _ => by cases r; cases q; rfl
  | .int _, e, _, r, q, _, _ => by cases r; cases q; rfl
  | .str _, e, _, r, q, _, _ => by cases r; cases q; rfl
  | .ref _, _, _, _, _, h, _ => by simp [pureD] at h
  | .ty _, _, _, _, _, h, _ => by simp [pureD] at h
  | .dic _, _, _, _, _, h, _ => by simp [pureD] at h
  | .dit _, _, _, _, _, h, _ => by simp [pureD] at h
  | .tup xs, e, _, r, q, h, h' => by
    obtain ⟨a, vs, rfl, sa, ra⟩ := r.tup_v
    cases q with
    | ref _ => simp [pureD] at h'
    | dic _ _ _ => simp [pureD] at h'
    | dit _ _ _ => simp [pureD] at h'
    | @tup ys _ ws sb rb =>
      have := I.tuple_inj sa (SqT.of sb)
      subst this
      rw [VRs_inj I xs ys vs ra rb (by simpa [pureD] using h) (by simpa [pureD] using h')]
    | lst sb _ _ => exact (tup_no_lst I sa sb).elim
  | .lst xs, e, _, r, q, h, h' => by
    obtain ⟨a, vs, rfl, sa, _, ra⟩ := r.lst_v
    cases q with
    | ref _ => simp [pureD] at h'
    | dic _ _ _ => simp [pureD] at h'
    | dit _ _ _ => simp [pureD] at h'
    | tup sb _ => exact (tup_no_lst I (SqT.of sb) sa).elim
    | @lst ys _ ws sb _ rb =>
      have := lst_inj I sa sb
      subst this
      rw [VRs_inj I xs ys vs ra rb (by simpa [pureD] using h) (by simpa [pureD] using h')]
theorem VRs_inj (I : Inv X pins σ H.h s) : ∀ (ds es : List D) (vs : List V), VRs X.K H ds vs → VRs X.K H es vs → pureDs ds = true → pureDs es = true → ds = es
  | [], es, _, r, q, _, _ => by cases r; cases q; rfl
  | d :: ds, es, _, r, q, h, h' => by
    cases r with
    | cons r1 r2 =>
      cases q with
      | cons q1 q2 =>
        have h1 := Bool.and_eq_true_iff.mp (show (pureD d && pureDs ds) = true by simpa [pureDs] using h)
        have h2 := Bool.and_eq_true_iff.mp (show (pureD _ && pureDs _) = true by simpa [pureDs] using h')
        rw [VR_inj I d _ _ r1 q1 h1.1 h2.1, VRs_inj I ds _ _ r2 q2 h1.2 h2.2]
end
/-- the answers by the items' values -/
noncomputable def eqBy (ys : List D) (us : List Value) (d : D) (u : Value) : Bool := by
  classical
  exact if h : ∃ j : Nat, us[j]? = some u ∧ j < ys.length then (match ys[h.choose]? with | some y => eqvD y d | none => false) else false
theorem eqBy_of (I : Inv X pins σ H.h s) {ys : List D} {vs : List V} {us : List Value} {d : D} (r : VRs X.K H ys vs) (rv : Vals vs us) (hp : pureDs ys = true) {j : Nat} {y : D} {u : Value} (hy : ys[j]? = some y) (hu : us[j]? = some u) : eqBy ys us d u = eqvD y d := by
  have hj : j < ys.length := (List.getElem?_eq_some_iff.mp hy).1
  have h : ∃ j : Nat, us[j]? = some u ∧ j < ys.length := ⟨j, hu, hj⟩
  unfold eqBy
  rw [dif_pos h]
  obtain ⟨h1, h2⟩ := h.choose_spec
  obtain ⟨y', hy'⟩ : ∃ y', ys[h.choose]? = some y' := ⟨_, List.getElem?_eq_getElem h2⟩
  rw [hy']
  obtain ⟨v, hv, q⟩ := r.get hy
  obtain ⟨v', hv', q'⟩ := r.get hy'
  obtain ⟨w, hw, rw1⟩ := rv.get hv
  obtain ⟨w', hw', rw2⟩ := rv.get hv'
  rw [hu] at hw
  rw [h1] at hw'
  cases hw
  cases hw'
  have e := rw1.inj rw2
  subst e
  show eqvD y' d = eqvD y d
  rw [VR_inj I y y' v q q' (pureDs_get hp hy) (pureDs_get hp hy')]
theorem any_eqBy (I : Inv X pins σ H.h s) {ys : List D} {vs : List V} {us : List Value} {d : D} (r : VRs X.K H ys vs) (rv : Vals vs us) (hp : pureDs ys = true) : us.toArray.any (eqBy ys us d) = ys.any fun y => eqvD y d := by
  have hl : us.length = ys.length := by rw [← rv.length, ← r.length]
  have e : us.toArray.any (eqBy ys us d) = us.any (eqBy ys us d) := by simp
  rw [e, Bool.eq_iff_iff, List.any_eq_true, List.any_eq_true]
  constructor
  · rintro ⟨u, hu, h⟩
    obtain ⟨j, hj, hj2⟩ := List.getElem_of_mem hu
    have h1 : us[j]? = some u := by rw [List.getElem?_eq_getElem hj, hj2]
    have h2 : ys[j]? = some ys[j] := List.getElem?_eq_getElem (by omega)
    rw [eqBy_of I r rv hp h2 h1] at h
    exact ⟨_, List.getElem_mem _, h⟩
  · rintro ⟨y, hy, h⟩
    obtain ⟨j, hj, hj2⟩ := List.getElem_of_mem hy
    have h1 : us[j]? = some us[j] := List.getElem?_eq_getElem (by omega)
    have h2 : ys[j]? = some y := by rw [List.getElem?_eq_getElem hj, hj2]
    exact ⟨_, List.getElem_mem _, by rw [eqBy_of I r rv hp h2 h1]; exact h⟩
theorem mem_eqBy (I : Inv X pins σ H.h s) {ys : List D} {vs : List V} {us : List Value} {d : D} {v : V} {t : Value} {A : Around} (r : VRs X.K H ys vs) (rv : Vals vs us) (hp : pureDs ys = true) (rd : VR X.K H d v) (rt : RelV v t) (hd : pureD d = true)
    (hu : A.units + 100 < cLine) (hb : depDs ys ≤ 100) : ∀ u, u ∈ us.toArray → SeqAt.EqAt A s u t (eqBy ys us d u) := by
  intro u hm
  have hl : us.length = ys.length := by rw [← rv.length, ← r.length]
  have hm' : u ∈ us := by simpa using hm
  obtain ⟨j, hj, hj2⟩ := List.getElem_of_mem hm'
  have h1 : us[j]? = some u := by rw [List.getElem?_eq_getElem hj, hj2]
  have h2 : ys[j]? = some ys[j] := List.getElem?_eq_getElem (by omega)
  rw [eqBy_of I r rv hp h2 h1]
  obtain ⟨z, hz, q⟩ := r.get h2
  obtain ⟨u', hu', q2⟩ := rv.get hz
  rw [h1] at hu'
  cases hu'
  have := depDs_get h2
  exact eqAt_D I _ d z v u t A q rd q2 rt (pureDs_get hp h2) hd (by omega)
end

/-! ### in, not in -/
def inStr (c z : Str) : Bool := !(Builtin.Str.occurrences z c 0 z.length 1).isEmpty
theorem inStr_sign (c : Nat) (z : Str) : inStr ⟨#[c]⟩ z = decide (c ∈ z.cps.toList) := PySem.StrLaws.found_one z c
def memC (ys : List D) (d : D) : Prop := pureD d = true ∧ pureDs ys = true ∧ depDs ys ≤ 100
def inAny (ys : List D) (d : D) : Bool := ys.any fun y => eqvD y d
def inDQ (neg : Bool) : DR2 := fun x y M Q => match rdD M y, keyD x with
  | some kvs, some k => Q (.bl (neg != (valD kvs k).isSome)) M
  | _, _ => False
def inQ (neg : Bool) : DR2 := fun x y M Q => match y with
  | .str z => (match x with | .str c => Q (.bl (neg != inStr c z)) M | _ => False)
  | y => (match rdS M y with | some ys => memC ys x ∧ Q (.bl (neg != inAny ys x)) M | none => inDQ neg x y M Q)
theorem inQ_out {neg : Bool} {x y : D} {M : Mm} {Q : DQ} (h : inQ neg x y M Q) : (∃ z c, y = .str z ∧ x = .str c ∧ Q (.bl (neg != inStr c z)) M) ∨ (∃ ys, rdS M y = some ys ∧ memC ys x ∧ Q (.bl (neg != inAny ys x)) M) ∨
    ∃ kvs k, rdD M y = some kvs ∧ keyD x = some k ∧ Q (.bl (neg != (valD kvs k).isSome)) M := by
  have two : (match rdS M y with | some ys => memC ys x ∧ Q (.bl (neg != inAny ys x)) M | none => inDQ neg x y M Q) → (∃ ys, rdS M y = some ys ∧ memC ys x ∧ Q (.bl (neg != inAny ys x)) M) ∨
      ∃ kvs k, rdD M y = some kvs ∧ keyD x = some k ∧ Q (.bl (neg != (valD kvs k).isSome)) M := by
    intro h
    split at h
    · rename_i ys e
      exact .inl ⟨ys, e, h⟩
    · unfold inDQ at h
      split at h
      · rename_i kvs k e1 e2
        exact .inr ⟨kvs, k, e1, e2, h⟩
      · exact h.elim
  cases y with
  | str z =>
    cases x with
    | str c => exact .inl ⟨z, c, rfl, rfl, h⟩
    | _ => exact h.elim
  | _ => exact .inr (two h)
abbrev inR : DR2 := inQ false
abbrev notInR : DR2 := inQ true
theorem op_inT {X : Cx} (hu : X.A.units + 150 < cLine) : OpD X (compareOp .In) inR := by
  intro pins s σ H M d e x y v u Q Q0 I m rd re rx ry hq k
  have hu1 : X.A.in1.units + 100 < cLine := by show X.A.units + 1 + 100 < cLine; omega
  rcases inQ_out hq with ⟨z, c, rfl, rfl, hq'⟩ | ⟨ys, e1, ⟨p1, p2, p3⟩, hq'⟩ | ⟨kvs, kk, e1, ek, hq'⟩
  · cases re.str_v
    obtain ⟨t, rfl⟩ := ry
    cases rd.str_v
    obtain ⟨t', rfl⟩ := rx
    simp only [Bool.false_bne, Bool.true_bne] at hq'
    exact PyProof.Rows.in_str ⟨.bl _, H.h, I, rfl, k _ H _ M (.bl _) m GG.refl hq'⟩
  · simp only [Bool.false_bne, Bool.true_bne] at hq'
    obtain ⟨a, ws, rfl, ra, h1 | h1⟩ := rdS_v m re e1
    · obtain ⟨its, rv, ht⟩ := tup_at I h1.2
      cases ry
      refine SeqAt.in_tupleAt (eqBy ys its d) ht (mem_eqBy I ra rv p2 rd rx p1 hu1 p3) ?_
      rw [any_eqBy I ra rv p2]
      exact ⟨.bl _, H.h, I, rfl, k _ H _ M (.bl _) m GG.refl hq'⟩
    · obtain ⟨its, rv, ht⟩ := lst_at I (SqL.of h1)
      cases ry
      refine SeqAt.in_listAt (eqBy ys its d) ht (mem_eqBy I ra rv p2 rd rx p1 hu1 p3) ?_
      rw [any_eqBy I ra rv p2]
      exact ⟨.bl _, H.h, I, rfl, k _ H _ M (.bl _) m GG.refl hq'⟩
  · simp only [Bool.false_bne, Bool.true_bne] at hq'
    obtain ⟨a, ws, rfl, h1, ra⟩ := rdD_v m re e1
    cases ry
    have hv := keyD_v rd ek
    subst hv
    refine d_in (by omega) I (DGet.k h1) rx fun s' I' => ⟨.bl _, H.h, I', rfl, ?_⟩
    have : (valV ws kk).isSome = (valD kvs kk).isSome := by
      cases e3 : valD kvs kk with
      | none => rw [ra.valN e3]; rfl
      | some d3 => obtain ⟨z, e4, _⟩ := ra.val e3; rw [e4]; rfl
    rw [this]
    exact k _ H _ M (.bl _) m GG.refl hq'
theorem op_notInT {X : Cx} (hu : X.A.units + 150 < cLine) : OpD X (compareOp .NotIn) notInR := by
  intro pins s σ H M d e x y v u Q Q0 I m rd re rx ry hq k
  have hu1 : X.A.in1.units + 100 < cLine := by show X.A.units + 1 + 100 < cLine; omega
  rcases inQ_out hq with ⟨z, c, rfl, rfl, hq'⟩ | ⟨ys, e1, ⟨p1, p2, p3⟩, hq'⟩ | ⟨kvs, kk, e1, ek, hq'⟩
  · cases re.str_v
    obtain ⟨t, rfl⟩ := ry
    cases rd.str_v
    obtain ⟨t', rfl⟩ := rx
    simp only [Bool.false_bne, Bool.true_bne] at hq'
    exact PyProof.Rows.notIn_str ⟨.bl _, H.h, I, rfl, k _ H _ M (.bl _) m GG.refl hq'⟩
  · simp only [Bool.false_bne, Bool.true_bne] at hq'
    obtain ⟨a, ws, rfl, ra, h1 | h1⟩ := rdS_v m re e1
    · obtain ⟨its, rv, ht⟩ := tup_at I h1.2
      cases ry
      refine SeqAt.notIn_tupleAt (eqBy ys its d) ht (mem_eqBy I ra rv p2 rd rx p1 hu1 p3) ?_
      rw [any_eqBy I ra rv p2]
      exact ⟨.bl _, H.h, I, rfl, k _ H _ M (.bl _) m GG.refl hq'⟩
    · obtain ⟨its, rv, ht⟩ := lst_at I (SqL.of h1)
      cases ry
      refine SeqAt.notIn_listAt (eqBy ys its d) ht (mem_eqBy I ra rv p2 rd rx p1 hu1 p3) ?_
      rw [any_eqBy I ra rv p2]
      exact ⟨.bl _, H.h, I, rfl, k _ H _ M (.bl _) m GG.refl hq'⟩
  · simp only [Bool.false_bne, Bool.true_bne] at hq'
    obtain ⟨a, ws, rfl, h1, ra⟩ := rdD_v m re e1
    cases ry
    have hv := keyD_v rd ek
    subst hv
    refine d_notIn (by omega) I (DGet.k h1) rx fun s' I' => ⟨.bl _, H.h, I', rfl, ?_⟩
    have : (valV ws kk).isSome = (valD kvs kk).isSome := by
      cases e3 : valD kvs kk with
      | none => rw [ra.valN e3]; rfl
      | some d3 => obtain ⟨z, e4, _⟩ := ra.val e3; rw [e4]; rfl
    rw [this]
    exact k _ H _ M (.bl _) m GG.refl hq'

/-! ### is, is not: None, truths -/
def isNonD : D → Bool | .non => true | _ => false
def isQ (neg : Bool) : DR2 := fun x y M Q => match y with
  | .non => Q (.bl (neg != isNonD x)) M
  | .bl b => (match x with | .bl a => Q (.bl (neg != decide (a = b))) M | _ => False)
  | _ => False
abbrev isR : DR2 := isQ false
abbrev isNotR : DR2 := isQ true
theorem dec_non {K : PySem.W.Frag} {H : HF} {x : D} {v : V} (r : VR K H x v) : decide (v = .non) = isNonD x := by
  cases r <;> rfl
theorem lift_is {K : PySem.W.Frag} : Lift2 K (fun x y H Q => (y = .non ∧ Q (.bl (decide (x = .non))) H) ∨ rIsB x y H Q) isR := by
  intro x y dx dy H M Q Q0 rx ry m h k
  cases dy with
  | non =>
    cases ry.non_v
    refine .inl ⟨rfl, ?_⟩
    rw [dec_non rx]
    exact k _ H _ M (.bl _) m GG.refl (by simpa [isQ] using h)
  | bl b =>
    cases ry.bl_v
    cases dx with
    | bl a =>
      cases rx.bl_v
      exact .inr ⟨a, b, rfl, rfl, k _ H _ M (.bl _) m GG.refl (by simpa [isQ] using h)⟩
    | _ => exact h.elim
  | _ => exact h.elim
theorem lift_isNot {K : PySem.W.Frag} : Lift2 K (fun x y H Q => (y = .non ∧ Q (.bl (!decide (x = .non))) H) ∨ rNotB x y H Q) isNotR := by
  intro x y dx dy H M Q Q0 rx ry m h k
  cases dy with
  | non =>
    cases ry.non_v
    refine .inl ⟨rfl, ?_⟩
    rw [dec_non rx]
    exact k _ H _ M (.bl _) m GG.refl (by simpa [isQ] using h)
  | bl b =>
    cases ry.bl_v
    cases dx with
    | bl a =>
      cases rx.bl_v
      exact .inr ⟨a, b, rfl, rfl, k _ H _ M (.bl _) m GG.refl (by simpa [isQ] using h)⟩
    | _ => exact h.elim
  | _ => exact h.elim
section
variable {X : Cx} {a b : Expr} {ta tb : TDE} {pos : Pos} {k : Nat}
theorem je_in (hr : Room k X.A) (ha : JE X a ta) (hb : JE X b tb) (hm : behindInMarks .In b = false := by rfl) : JE X (.Compare a [.In] [b] pos) (dOp inR ta tb) := je_cmpR (op_inT (hu150 hr)).opR lift_of ha hb hm
theorem je_notin (hr : Room k X.A) (ha : JE X a ta) (hb : JE X b tb) (hm : behindInMarks .NotIn b = false := by rfl) : JE X (.Compare a [.NotIn] [b] pos) (dOp notInR ta tb) := je_cmpR (op_notInT (hu150 hr)).opR lift_of ha hb hm
theorem jt_in (hr : Room k X.A) (ha : JE X a ta) (hb : JE X b tb) (hm : behindInMarks .In b = false := by rfl) : JT X (.Compare a [.In] [b] pos) (dTest (dOp inR ta tb)) := jt_cmpR (op_inT (hu150 hr)).opR lift_of ha hb hm
theorem jt_notin (hr : Room k X.A) (ha : JE X a ta) (hb : JE X b tb) (hm : behindInMarks .NotIn b = false := by rfl) : JT X (.Compare a [.NotIn] [b] pos) (dTest (dOp notInR ta tb)) := jt_cmpR (op_notInT (hu150 hr)).opR lift_of ha hb hm
theorem je_is (ha : JE X a ta) (hb : JE X b tb) : JE X (.Compare a [.Is] [b] pos) (dOp isR ta tb) := je_cmpR (op_isN.or op_isBl) lift_is ha hb (nomark _)
theorem je_isnot (ha : JE X a ta) (hb : JE X b tb) : JE X (.Compare a [.IsNot] [b] pos) (dOp isNotR ta tb) := je_cmpR (op_notN.or op_notBl) lift_isNot ha hb (nomark _)
theorem jt_is (ha : JE X a ta) (hb : JE X b tb) : JT X (.Compare a [.Is] [b] pos) (dTest (dOp isR ta tb)) := jt_cmpR (op_isN.or op_isBl) lift_is ha hb (nomark _)
theorem jt_isnot (ha : JE X a ta) (hb : JE X b tb) : JT X (.Compare a [.IsNot] [b] pos) (dTest (dOp isNotR ta tb)) := jt_cmpR (op_notN.or op_notBl) lift_isNot ha hb (nomark _)
end
end DM

namespace DM
open PySem L2
open PyProof.Rows (b2i)

/-! ### the deck of draws -/
structure DeckS where
  cs : List Int
  at_ : Int
  sum : Int
def DeckS.ok (S : DeckS) (r : Nat) : Prop := S.cs.length ≤ 63 ∧ 0 ≤ S.at_ ∧ S.at_ + (r : Int) ≤ 2 ^ 60
def deckD (c : Addr) (S : DeckS) : List (Key × D) := [(.inr "cells", .ref c), (.inr "at", .int S.at_), (.inr "sum", .int S.sum)]
/-- the deck at d, its cells at c; r draws at least are left -/
def Deck (M : Mm) (d c : Addr) (r : Nat) : Prop := d ≠ c ∧ ∃ S : DeckS, S.ok r ∧ M d = some (.dic (deckD c S)) ∧ M c = some (.lst (S.cs.map D.int))
/-- all but the deck stays -/
def Upto (d c : Addr) (M M' : Mm) : Prop := ∀ a, a ≠ d → a ≠ c → M' a = M a
theorem Upto.refl {d c : Addr} {M : Mm} : Upto d c M M := fun _ _ _ => rfl
theorem Upto.trans {d c : Addr} {M M1 M2 : Mm} (a : Upto d c M M1) (b : Upto d c M1 M2) : Upto d c M M2 := fun x h1 h2 => (b x h1 h2).trans (a x h1 h2)
theorem Deck.mono {M : Mm} {d c : Addr} {r r' : Nat} (h : Deck M d c r) (e : r' ≤ r) : Deck M d c r' := by
  obtain ⟨n, S, ⟨o1, o2, o3⟩, h1, h2⟩ := h
  exact ⟨n, S, ⟨o1, o2, by omega⟩, h1, h2⟩
theorem Deck.new {M : Mm} {d c p : Addr} {r : Nat} {o : MO} (h : Deck M d c r) (hp : M p = none) : Deck (mup M p o) d c r ∧ p ≠ d ∧ p ≠ c := by
  obtain ⟨n, S, ok, h1, h2⟩ := h
  have hd : p ≠ d := by rintro rfl; rw [hp] at h1; cases h1
  have hc : p ≠ c := by rintro rfl; rw [hp] at h2; cases h2
  exact ⟨⟨n, S, ok, by rw [mup_ne hd.symm]; exact h1, by rw [mup_ne hc.symm]; exact h2⟩, hd, hc⟩
theorem Deck.put {M : Mm} {d c p : Addr} {r : Nat} {o : MO} (h : Deck M d c r) (hd : p ≠ d) (hc : p ≠ c) : Deck (mup M p o) d c r := by
  obtain ⟨n, S, ok, h1, h2⟩ := h
  exact ⟨n, S, ok, by rw [mup_ne hd.symm]; exact h1, by rw [mup_ne hc.symm]; exact h2⟩
/-- what a draw is worth -/
def spDraw : DSp := fun ds M Q => match ds with
  | [.ref d, .int most] => ∃ c r, Deck M d c (r + 1) ∧ (0 < most ∧ most ≤ 2 ^ 62) ∧ ∀ n M', 0 ≤ n → n < most → Deck M' d c r → Upto d c M M' → Q (.int n) M'
  | _ => False
/-- what the deck's making is worth -/
def spDeckH (K : PySem.W.Frag) : Sp := fun vs H Q _ => ∃ (a : Addr) (ns : List Int), vs = [.ref a] ∧ SqL K H a (ns.map V.int) ∧ ns.length ≤ 63 ∧
  ∀ (d c : Addr) (H' : Hp) (S : DeckS), H c = none → H d = none → d ≠ c → S.ok (2 ^ 59) → H' c = some (.lst (S.cs.map V.int)) → H' d = some (.dK [(.inr "cells", .ref c), (.inr "at", .int S.at_), (.inr "sum", .int S.sum)]) → (∀ b o, H b = some o → H' b = some o) → Q (.ref d) H'
def spLawH (K : PySem.W.Frag) : Sp := fun vs H Q _ => ∃ (a : Addr) (ns : List Int), vs = [.ref a] ∧ SqL K H a (ns.map V.int) ∧ ns.length ≤ 63 ∧ ∀ H', Q (.bl true) H'

section
variable {P : Program} {w : World} {K : PySem.W.Frag} {mg : Str → Option Value} {base : Heap}
theorem vrs_ints {H : HF} : ∀ ns : List Int, VRs K H (ns.map D.int) (ns.map V.int)
  | [] => .nil
  | n :: ns => .cons (.int n) (vrs_ints ns)
theorem cut63 {ns : List Int} (h : ns.length ≤ 63) : cutV (ns.map V.int) none (some 63) = ns.map V.int := by
  unfold cutV
  rw [HT.sIx_none, show HT.sIx (ns.map V.int).length (ns.map V.int).length (some 63) = min 63 (ns.map V.int).length from HT.sIx_nat _ _ 63]
  rw [List.length_map]
  rw [List.drop_zero, Nat.sub_zero, List.take_of_length_le (by rw [List.length_map]; omega)]
theorem ok_deck {st : Stmt} {f : Addr} {fd : FuncData} (F : Fun K "_law_deck" "_law_deck" st f fd) (S : FnScope ["_law_script", "_law_cells"] ["_law_script"] (defScope st))
    (body : ∀ (cdv : Value) (A : Around) (outer : List Env) (s : Shared) (H : Hp) (E : XK),
      PSs (cxOf CX0 P w K mg base ["_law_script", "_law_cells"] "_law_deck" (defScope st) f cdv A outer s H E).nox (defBody st)
        (tSeq (tAsg (tCB (fun xs H Q => ∃ p ys, xs = [.ref p] ∧ (SqL K H p ys ∨ SqT K H p ys) ∧ ∀ l, H l = none → Q (.ref l) (upd H l (.lst ys))) (tCons (tSl (rSlL K) (tVar 0) tNoPart (tPart (tC (.int 63)))) tNil)) (gName 1))
        (tRet (tDisp [(tC (.str "cells"), tVar 1), (tC (.str "at"), tC (.int 0)), (tC (.str "sum"), tOp (rI0 fun i j => .int (i + j)) (tOp (rI (fun _ j => 0 < j) fun i j => .int (i % j)) (tCB (rSum K) (tCons (tVar 1) tNil)) (tC (.int 2147483629)))
          (tCB (fun xs H Q => ∃ p ys, xs = [.ref p] ∧ (SqL K H p ys ∨ SqT K H p ys) ∧ Q (.int ys.length) H) (tCons (tVar 1) tNil)))])))) :
    FnOk P w K mg base CX0 1 f fd ["_law_script"] (spDeckH K) := by
  refine F.ok S (fun vs H Q E h => ?_) fun cdv A outer s H vs Q E hr h => ?_
  · obtain ⟨a, ns, rfl, _⟩ := h
    rfl
  · obtain ⟨a, ns, rfl, hS, hlen, k⟩ := h
    have hb := body cdv A outer s H E
    refine ⟨_, hb, ?_⟩
    refine ⟨_, rfl, 63, rfl, a, ns.map V.int, rfl, hS, fun p hp => ?_⟩
    rw [cut63 hlen]
    have hS1 : SqL K (upd H p (.lst (ns.map V.int))) p (ns.map V.int) := SqL.of upd_same
    refine ⟨p, ns.map V.int, rfl, .inl hS1, fun c hc => ?_⟩
    have hpc : p ≠ c := by rintro rfl; rw [upd_same] at hc; cases hc
    have hHc : H c = none := by rw [upd_ne hpc.symm] at hc; exact hc
    intro d hd
    have hdc : d ≠ c := by rintro rfl; rw [upd_same] at hd; cases hd
    have hdp : d ≠ p := by rintro rfl; rw [upd_ne hpc, upd_same] at hd; cases hd
    have hHd : H d = none := by rw [upd_ne hdc, upd_ne hdp] at hd; exact hd
    have hC : SqL K (upd (upd (upd H p (.lst (ns.map V.int))) c (.lst (ns.map V.int))) d (.dK [])) c (ns.map V.int) := SqL.of (by rw [upd_ne hdc.symm, upd_same])
    refine ⟨.ref c, rfl, .ref c, rfl, c, ns, rfl, hC, _, _, rfl, rfl, (by show (0:Int) < 2147483629; decide), .ref c, rfl, c, _, rfl, .inl hC, _, _, rfl, rfl, upd_same, ?_⟩
    refine ⟨[(.inr "cells", .ref c), (.inr "at", .int 0), (.inr "sum", .int (ns.sum % 2147483629 + ((ns.map V.int).length : Nat)))], rfl, (by show 3 ≤ 15; decide), ?_⟩
    refine k d c _ ⟨ns, 0, ns.sum % 2147483629 + ((ns.map V.int).length : Nat)⟩ hHc hHd hdc ⟨hlen, by simp, by simp⟩ ?_ ?_ fun b o e => ?_
    · rw [upd_ne hdc.symm, upd_ne hdc.symm, upd_same]
    · rw [upd_same]
      rfl
    · have b1 : b ≠ d := by rintro rfl; rw [hHd] at e; cases e
      have b2 : b ≠ c := by rintro rfl; rw [hHc] at e; cases e
      have b3 : b ≠ p := by rintro rfl; rw [hp] at e; cases e
      rw [upd_ne b1, upd_ne b1, upd_ne b2, upd_ne b3]
      exact e
theorem law_ok {st st0 : Stmt} {rest : List Stmt} {f : Addr} {fd : FuncData} {N : List Str} {k : Nat} (F : Fun K "law" "law" st f fd) (S : FnScope N ["_law_script"] (defScope st)) (hN : 2 ≤ N.length) (hbd : defBody st = st0 :: rest)
    (body : ∀ (cdv : Value) (A : Around) (outer : List Env) (s : Shared) (H : Hp) (E : XK), Room k (A.deeper (PyProof.Rows.envOfC "law" (defScope st) s.heap.objs.size f cdv)) →
      ∃ t, PS (cxOf CX0 P w K mg base N "law" (defScope st) f cdv A outer s H E).nox st0 (tAsg (tCall (spDeckH K) [] E0 (tCons (tVar 0) tNil)) (gName 1)) ∧
        JB (cxOf CX0 P w K mg base N "law" (defScope st) f cdv A outer s H E).nox (fun _ _ _ _ => False) rest t ∧
        ∀ (M : Mm) (d c : Addr), Deck M d c (2 ^ 59) → t { nx := fun _ _ => False, rt := fun v _ => v = .bl true } (none :: some (.ref d) :: List.replicate (N.length - 2) none) M) :
    FnOk P w K mg base CX0 (k + 1) f fd ["_law_script"] (spLawH K) := by
  refine F.ok S (fun vs H Q E h => ?_) fun cdv A outer s H vs Q E hr h => ?_
  · obtain ⟨a, ns, rfl, _⟩ := h
    rfl
  · obtain ⟨a, ns, rfl, hS, hlen, kk⟩ := h
    obtain ⟨t, h1, ⟨t0, p, g⟩, hb⟩ := body cdv A outer s H E hr
    rw [hbd]
    refine ⟨_, pss_cons h1 p, ?_⟩
    obtain ⟨x1, x2, N', rfl⟩ : ∃ x1 x2 N', N = x1 :: x2 :: N' := by
      match N, hN with
      | x1 :: x2 :: N', _ => exact ⟨x1, x2, N', rfl⟩
    refine ⟨.ref a, rfl, a, ns, rfl, hS, hlen, fun d c H' Sd hc hd hdc ok e1 e2 hk => ?_⟩
    let M : Mm := mup (mup (fun _ => none) d (.dic (deckD c Sd))) c (.lst (Sd.cs.map D.int))
    have hM : MR K M ⟨H', fun _ => False⟩ := by
      refine ⟨fun b o e => ?_, fun _ f => f.elim, fun _ f => f.elim⟩
      by_cases hbc : b = c
      · subst hbc
        have : o = .lst (Sd.cs.map D.int) := by
          have e' : M b = some (.lst (Sd.cs.map D.int)) := mup_same
          rw [e'] at e
          exact (Option.some.inj e).symm
        subst this
        exact ⟨_, e1, vrs_ints _⟩
      · by_cases hbd : b = d
        · subst hbd
          have : o = .dic (deckD c Sd) := by
            have e' : M b = some (.dic (deckD c Sd)) := by show mup _ c _ b = _; rw [mup_ne hbc, mup_same]
            rw [e'] at e
            exact (Option.some.inj e).symm
          subst this
          exact ⟨_, e2, .cons (.ref c) (.cons (.int _) (.cons (.int _) .nil))⟩
        · have e' : M b = none := by show mup _ c _ b = _; rw [mup_ne hbc, mup_ne hbd]
          rw [e'] at e
          cases e
    have hD : Deck M d c (2 ^ 59) := ⟨hdc, Sd, ok, by show mup _ c _ d = _; rw [mup_ne hdc, mup_same], mup_same⟩
    refine g M ⟨H', fun _ => False⟩ _ _ ⟨?_, ?_, ?_, ?_, ?_⟩ _ _ ⟨H', fun _ => False⟩ M GG.refl ?_ hM (hb M d c hD)
    · intro _ _ _ _ _ _ _ q
      exact q.elim
    · rintro v d' H2 M2 _ r2 _ rfl
      cases r2
      exact kk H2.h
    · intro _ _ _ _ _ _ _ q
      exact q.elim
    · intro _ _ _ _ _ _ _ q
      exact q.elim
    · intro _ _ _ _ _ _ _ _ _ _ _ _ q
      exact q.elim
    · refine ⟨by simp [L2.start], fun i e h => ?_⟩
      match i with
      | 0 => simp at h
      | 1 =>
        simp at h
        subst h
        exact ⟨.ref d, by simp [L2.start, List.replicate_succ], .ref d⟩
      | i + 2 =>
        simp only [List.getElem?_cons_succ] at h
        rw [List.getElem?_replicate] at h
        split at h <;> cases h
end
end DM

namespace DM
open PySem L2
open PyProof.Rows (b2i)

/-! ### loops by invariants -/
section
variable {ok : Mm → Prop} {g : TDG} {tb : TDS} {D : DEnds} {c : TDT}
theorem forW_go (I : Nat → DSt → Mm → Prop) (xs : List DM.D) (hok : ∀ i ds M, I i ds M → ok M)
    (step : ∀ (i : Nat) (x : DM.D) (N : DSt → Mm → Prop), xs[i]? = some x → (∀ ds M, I (i + 1) ds M → N ds M) → ∀ ds M, I i ds M → g x ds M fun ds' M' => tb { D with nx := N, ct := N, bk := D.nx } ds' M')
    (fin : ∀ ds M, I xs.length ds M → D.nx ds M) : ∀ ds M, I 0 ds M → forW ok g tb D xs ds M := by
  have key : ∀ (n i : Nat), xs.length - i = n → i ≤ xs.length → ∀ ds M, I i ds M → forW ok g tb D (xs.drop i) ds M := by
    intro n
    induction n with
    | zero =>
      intro i e hi ds M h
      have : i = xs.length := by omega
      subst this
      rw [List.drop_length]
      exact ⟨hok _ _ _ h, fin ds M h⟩
    | succ n ih =>
      intro i e hi ds M h
      have hlt : i < xs.length := by omega
      rw [List.drop_eq_getElem_cons hlt]
      exact ⟨hok _ _ _ h, step i _ _ (List.getElem?_eq_getElem hlt) (fun ds M h => ih (i + 1) (by omega) (by omega) ds M h) ds M h⟩
  intro ds M h
  have := key xs.length 0 (by simp) (Nat.zero_le _) ds M h
  rwa [List.drop_zero] at this
/-- through a range -/
theorem forW_rng (I : Nat → DSt → Mm → Prop) {lo : Int} {n : Nat}
    (step : ∀ (i : Nat) (N : DSt → Mm → Prop), i < n → (∀ ds M, I (i + 1) ds M → N ds M) → ∀ ds M, I i ds M → g (.int (lo + (i : Int))) ds M fun ds' M' => tb { D with nx := N, ct := N, bk := D.nx } ds' M')
    (fin : ∀ ds M, I n ds M → D.nx ds M) : ∀ ds M, I 0 ds M → forW (fun _ => True) g tb D (rangeD lo n) ds M := by
  have hl : (rangeD lo n).length = n := by simp [rangeD]
  refine forW_go I (rangeD lo n) (fun _ _ _ _ => trivial) (fun i x N e hN ds M h => ?_) (fun ds M h => fin ds M (by rw [hl] at h; exact h))
  obtain ⟨h1, rfl⟩ := rangeD_get e
  exact step i N h1 hN ds M h
theorem whileN_go (I : Nat → DSt → Mm → Prop)
    (base : ∀ (N : DSt → Mm → Prop) ds M, I 0 ds M → c ds M fun b M1 => if b = true then tb { D with nx := N, ct := N, bk := D.nx } ds M1 else D.nx ds M1)
    (step : ∀ (m : Nat) (N : DSt → Mm → Prop), (∀ ds M, I m ds M → N ds M) → ∀ ds M, I (m + 1) ds M → c ds M fun b M1 => if b = true then tb { D with nx := N, ct := N, bk := D.nx } ds M1 else D.nx ds M1) :
    ∀ (m : Nat) ds M, I m ds M → dWhile c tb D ds M := by
  have key : ∀ (m : Nat) ds M, I m ds M → whileN c tb D (m + 1) ds M := by
    intro m
    induction m with
    | zero => exact fun ds M h => base _ ds M h
    | succ m ih => exact fun ds M h => step m _ ih ds M h
  exact fun m ds M h => ⟨m + 1, key m ds M h⟩
end
section
variable {ok : Mm → Prop} {g : TDG} {tt : TDT} {te : TDE} {ds0 : DSt} {Q : List D → Mm → Prop}
theorem lcW_go (I : Nat → List D → Mm → Prop) (xs : List D) (hok : ∀ i acc M, I i acc M → ok M)
    (step : ∀ (i : Nat) (x : D) (N : List D → Mm → Prop), xs[i]? = some x → (∀ acc M, I (i + 1) acc M → N acc M) → ∀ acc M, I i acc M →
      g x ds0 M fun ds' M2 => tt ds' M2 fun b M3 => if b = true then te ds' M3 fun d M4 => acc.length < sizeLine ∧ N (acc ++ [d]) M4 else N acc M3)
    (fin : ∀ acc M, I xs.length acc M → Q acc M) : ∀ M, I 0 [] M → lcW ok g tt te ds0 Q xs [] M := by
  have key : ∀ (n i : Nat), xs.length - i = n → i ≤ xs.length → ∀ acc M, I i acc M → lcW ok g tt te ds0 Q (xs.drop i) acc M := by
    intro n
    induction n with
    | zero =>
      intro i e hi acc M h
      have : i = xs.length := by omega
      subst this
      rw [List.drop_length]
      exact ⟨hok _ _ _ h, fin acc M h⟩
    | succ n ih =>
      intro i e hi acc M h
      have hlt : i < xs.length := by omega
      rw [List.drop_eq_getElem_cons hlt]
      exact ⟨hok _ _ _ h, step i _ _ (List.getElem?_eq_getElem hlt) (fun acc M h => ih (i + 1) (by omega) (by omega) acc M h) acc M h⟩
  intro M h
  have := key xs.length 0 (by simp) (Nat.zero_le _) [] M h
  rwa [List.drop_zero] at this
/-- each item's answer alone: the store stays -/
theorem lcW_pure (f : D → Option D) {xs : List D} {M : Mm} (hz : xs.length ≤ sizeLine) (hok : ok M)
    (h : ∀ x ∈ xs, ∀ (N1 : DQ) (N2 : Mm → Prop), (∀ d, f x = some d → N1 d M) → (f x = none → N2 M) → g x ds0 M fun ds' M2 => tt ds' M2 fun b M3 => if b = true then te ds' M3 N1 else N2 M3)
    (fin : Q (xs.filterMap f) M) : lcW ok g tt te ds0 Q xs [] M := by
  refine lcW_go (fun i acc M' => M' = M ∧ acc = (xs.take i).filterMap f) xs (fun i acc M' h => by rw [h.1]; exact hok) (fun i x N e hN acc M' hI => ?_) (fun acc M' hI => ?_) M ⟨rfl, by simp⟩
  · obtain ⟨rfl, rfl⟩ := hI
    have hx : x ∈ xs := List.mem_of_getElem? e
    have hlt : i < xs.length := (List.getElem?_eq_some_iff.mp e).1
    have et : xs.take (i + 1) = xs.take i ++ [x] := by rw [List.take_add_one, e]; rfl
    refine h x hx _ _ (fun d hd => ⟨?_, hN _ _ ⟨rfl, ?_⟩⟩) (fun hn => hN _ _ ⟨rfl, ?_⟩)
    · refine Nat.lt_of_le_of_lt (List.length_filterMap_le _ _) ?_
      rw [List.length_take]
      omega
    · rw [et, List.filterMap_append]
      simp [hd]
    · rw [et, List.filterMap_append]
      simp [hn]
  · obtain ⟨rfl, rfl⟩ := hI
    rw [List.take_length]
    exact fin
theorem lcW_map (f : D → D) {xs : List D} {M : Mm} (hz : xs.length ≤ sizeLine) (hok : ok M)
    (h : ∀ x ∈ xs, ∀ (N1 : DQ), N1 (f x) M → g x ds0 M fun ds' M2 => te ds' M2 N1)
    (fin : Q (xs.map f) M) : lcW ok g dYes te ds0 Q xs [] M := by
  refine lcW_pure (fun x => some (f x)) hz hok (fun x hx N1 N2 h1 _ => ?_) ?_
  · exact h x hx _ (h1 _ rfl)
  · rw [show xs.filterMap (fun x => some (f x)) = xs.map f by simp]
    exact fin
end
/-! ### numbers -/
theorem log2_lt {n k : Nat} (hk : 0 < k) (h : n < 2 ^ k) : n.log2 < k := by
  by_cases h0 : n = 0
  · subst h0; simpa using hk
  · exact (Nat.log2_lt h0).mpr h
theorem cmul_ok {i j : Int} (hi : i.natAbs < 2 ^ 200) (hj : j.natAbs < 2 ^ 200) : CMulW i j := by
  have h1 := log2_lt (by decide) hi
  have h2 := log2_lt (by decide) hj
  show _ + _ < 1000000
  omega
theorem nabs_mul {i j : Int} {a b : Nat} (hi : i.natAbs < 2 ^ a) (hj : j.natAbs < 2 ^ b) : (i * j).natAbs < 2 ^ (a + b) := by
  rw [Int.natAbs_mul, Nat.pow_add]
  exact Nat.mul_lt_mul'' hi hj
theorem nabs_up {i : Int} {a b : Nat} (h : i.natAbs < 2 ^ a) (e : a ≤ b) : i.natAbs < 2 ^ b := Nat.lt_of_lt_of_le h (Nat.pow_le_pow_right (by decide) e)
theorem nabs64 {i : Int} (h : -(2 ^ 63) < i ∧ i < 2 ^ 63) : i.natAbs < 2 ^ 63 := by omega
theorem cdiv_ok {i j : Int} (h0 : 0 < j) (h : j < 2 ^ 63) : CDivW i j := by
  refine ⟨h0, ?_⟩
  have := log2_lt (n := j.natAbs) (k := 63) (by decide) (by omega)
  omega
/-! ### operations on known kinds -/
section
variable {i j : Int} {M : Mm} {Q : DQ} {x y : Str} {xs ys : List D} {a b : Bool}
theorem addR_ii : addR (.int i) (.int j) M Q = Q (.int (i + j)) M := (rfl)
theorem addR_ib : addR (.int i) (.bl b) M Q = Q (.int (i + b2i b)) M := (rfl)
theorem addR_ss : addR (.str x) (.str y) M Q = (x.length + y.length ≤ sizeLine ∧ Q (.str (x ++ y)) M) := (rfl)
theorem addR_tt : addR (.tup xs) (.tup ys) M Q = (xs.length + ys.length ≤ sizeLine ∧ Q (.tup (xs ++ ys)) M) := (rfl)
theorem subR_ii : subR (.int i) (.int j) M Q = Q (.int (i - j)) M := (rfl)
theorem mulR_ii : mulR (.int i) (.int j) M Q = (CMulW i j ∧ Q (.int (i * j)) M) := (rfl)
theorem modR_ii : modR (.int i) (.int j) M Q = (0 < j ∧ Q (.int (i % j)) M) := (rfl)
theorem fdivR_ii : fdivR (.int i) (.int j) M Q = (CDivW i j ∧ Q (.int (i / j)) M) := (rfl)
theorem powR_ii : powR (.int i) (.int j) M Q = (CPow i j ∧ Q (.int (i ^ j.toNat)) M) := (rfl)
theorem ltR_ii : ltR (.int i) (.int j) M Q = Q (.bl (decide (i < j))) M := (rfl)
theorem leR_ii : leR (.int i) (.int j) M Q = Q (.bl (decide (i ≤ j))) M := (rfl)
theorem gtR_ii : gtR (.int i) (.int j) M Q = Q (.bl (decide (j < i))) M := (rfl)
theorem geR_ii : geR (.int i) (.int j) M Q = Q (.bl (decide (j ≤ i))) M := (rfl)
theorem keyD_s : keyD (.str x) = some (.inr x) := rfl
theorem keyD_i : keyD (.int i) = some (.inl i) := rfl
theorem eqM_ii : eqM M (.int i) (.int j) = (i == j) := (rfl)
theorem eqM_ss : eqM M (.str x) (.str y) = (x == y) := (rfl)
theorem eqM_bb : eqM M (.bl a) (.bl b) = (a == b) := (rfl)
theorem eqM_tt : eqM M (.tup xs) (.tup ys) = eqvDs xs ys := (rfl)
theorem okD_i : okD M (.int i) = True := by simp [okD, resD, pureD, depD]
theorem okD_s : okD M (.str x) = True := by simp [okD, resD, pureD, depD]
theorem okD_b : okD M (.bl a) = True := by simp [okD, resD, pureD, depD]
theorem okD_n : okD M .non = True := by simp [okD, resD, pureD, depD]
theorem okD_t : okD M (.tup xs) = (pureDs xs = true ∧ depDs xs ≤ 99) := by
  simp only [okD, resD, pureD, depD, eq_iff_iff]
  constructor <;> (intro h; refine ⟨h.1, ?_⟩; omega)
theorem okD_L : okD M (.lst xs) = (pureDs xs = true ∧ depDs xs ≤ 99) := by
  simp only [okD, resD, pureD, depD, eq_iff_iff]
  constructor <;> (intro h; refine ⟨h.1, ?_⟩; omega)
theorem okD_l {a : Addr} (e : lstOf M a = some xs) : okD M (.ref a) = (pureDs xs = true ∧ depDs xs ≤ 99) := by
  simp only [okD, resD, e, pureD, depD, eq_iff_iff]
  constructor <;> (intro h; refine ⟨h.1, ?_⟩; omega)
theorem eqM_ll {a b : Addr} (e : lstOf M a = some xs) (e2 : lstOf M b = some ys) : eqM M (.ref a) (.ref b) = eqvDs xs ys := by
  simp only [eqM, resD, e, e2, eqvD]
theorem eqM_lL {a : Addr} (e : lstOf M a = some xs) : eqM M (.ref a) (.lst ys) = eqvDs xs ys := by
  simp only [eqM, resD, e, eqvD]
theorem eqM_Ll {a : Addr} (e : lstOf M a = some xs) : eqM M (.lst ys) (.ref a) = eqvDs ys xs := by
  simp only [eqM, resD, e, eqvD]
theorem eqM_LL : eqM M (.lst xs) (.lst ys) = eqvDs xs ys := (rfl)
theorem eqvDs_nil : eqvDs xs [] = xs.isEmpty := by cases xs <;> simp [eqvDs]
theorem dicOf_mup_same {a : Addr} {xs : List (Key × D)} : dicOf (mup M a (.dic xs)) a = some xs := dicOf_some mup_same
theorem dicOf_mup_ne {a b : Addr} {o : MO} (h : b ≠ a) : dicOf (mup M a o) b = dicOf M b := by unfold dicOf; rw [mup_ne h]
end
theorem pureDs_map {α : Type} (f : α → D) (h : ∀ a, pureD (f a) = true) : ∀ l : List α, pureDs (l.map f) = true
  | [] => rfl
  | a :: l => by rw [List.map_cons, pureDs, h a, pureDs_map f h l]; rfl
theorem depDs_map {α : Type} (f : α → D) (k : Nat) (hk : 1 ≤ k) (h : ∀ a, depD (f a) ≤ k) : ∀ l : List α, depDs (l.map f) ≤ k
  | [] => hk
  | a :: l => by
    rw [List.map_cons, depDs]
    have h1 := h a
    have h2 := depDs_map f k hk h l
    omega
theorem pureDs_int (ns : List Int) : pureDs (ns.map D.int) = true := pureDs_map _ (fun _ => rfl) ns
theorem depDs_int (ns : List Int) : depDs (ns.map D.int) ≤ 1 := depDs_map _ 1 (Nat.le_refl _) (fun _ => by simp [depD]) ns
/-! ### the deck's fields -/
section
variable {c : Addr} {S : DeckS} {v : Int}
theorem deck_at : valD (deckD c S) (.inr "at") = some (.int S.at_) := rfl
theorem deck_sum : valD (deckD c S) (.inr "sum") = some (.int S.sum) := rfl
theorem deck_cells : valD (deckD c S) (.inr "cells") = some (.ref c) := rfl
theorem deck_len : (deckD c S).length = 3 := rfl
theorem deck_put : putD (deckD c S) (.inr "at") (.int v) = deckD c { S with at_ := v } := rfl
end
end DM

namespace DM
open PySem L2
open PyProof.Rows (b2i)

/-! ### the store grows; but the deck may change -/
def Ext (d c : Addr) (M M' : Mm) : Prop := ∀ a o, a ≠ d → a ≠ c → M a = some o → M' a = some o
theorem Upto.ext {d c : Addr} {M M' : Mm} (h : Upto d c M M') : Ext d c M M' := fun a o h1 h2 e => by rw [h a h1 h2]; exact e
theorem Ext.refl {d c : Addr} {M : Mm} : Ext d c M M := fun _ _ _ _ h => h
theorem Ext.trans {d c : Addr} {M M1 M2 : Mm} (x : Ext d c M M1) (y : Ext d c M1 M2) : Ext d c M M2 := fun a o h1 h2 e => y a o h1 h2 (x a o h1 h2 e)
theorem Ext.new {d c p : Addr} {M M1 : Mm} {o : MO} (x : Ext d c M M1) (hp : M1 p = none) : Ext d c M (mup M1 p o) := fun a u h1 h2 e => by
  have := x a u h1 h2 e
  rw [mup_ne]
  · exact this
  · rintro rfl; rw [hp] at this; cases this
/-- an object that came behind is written -/
theorem Ext.put {d c p : Addr} {M M1 : Mm} {o : MO} (x : Ext d c M M1) (hp : M p = none) : Ext d c M (mup M1 p o) := fun a u h1 h2 e => by
  rw [mup_ne]
  · exact x a u h1 h2 e
  · rintro rfl; rw [hp] at e; cases e
theorem Ext.lst {d c a : Addr} {M M' : Mm} {xs : List D} (x : Ext d c M M') (h1 : a ≠ d) (h2 : a ≠ c) (e : lstOf M a = some xs) : lstOf M' a = some xs := lstOf_some (x a _ h1 h2 (of_lstOf e))
theorem Ext.dic {d c a : Addr} {M M' : Mm} {xs : List (Key × D)} (x : Ext d c M M') (h1 : a ≠ d) (h2 : a ≠ c) (e : dicOf M a = some xs) : dicOf M' a = some xs := dicOf_some (x a _ h1 h2 (of_dicOf e))
theorem Deck.nd {M : Mm} {d c p : Addr} {r : Nat} (h : Deck M d c r) (hp : M p = none) : p ≠ d := (h.new (o := .lst []) hp).2.1
theorem Deck.nc {M : Mm} {d c p : Addr} {r : Nat} (h : Deck M d c r) (hp : M p = none) : p ≠ c := (h.new (o := .lst []) hp).2.2
theorem Deck.up {M : Mm} {d c p : Addr} {r : Nat} {o : MO} (h : Deck M d c r) (hp : M p = none) : Deck (mup M p o) d c r := (h.new hp).1
theorem Deck.nn {M : Mm} {d c : Addr} {r : Nat} (h : Deck M d c r) : M d ≠ none ∧ M c ≠ none := by
  obtain ⟨_, S, _, h1, h2⟩ := h
  exact ⟨by rw [h1]; simp, by rw [h2]; simp⟩
/-- a statement, what holds behind it, the others -/
theorem seq_cut {t u : TDS} {D : DEnds} {ds : DSt} {M : Mm} (J : DSt → Mm → Prop) (h1 : ∀ N : DSt → Mm → Prop, (∀ ds M, J ds M → N ds M) → t { D with nx := N } ds M) (h2 : ∀ ds M, J ds M → u D ds M) : dSeq t u D ds M := h1 (u D) h2
theorem seq_go {t u : TDS} {D : DEnds} {ds : DSt} {M : Mm} (h : t { D with nx := u D } ds M) : dSeq t u D ds M := h
theorem ifs {c : Prop} [Decidable c] {a b : Prop} (h1 : c → a) (h2 : ¬c → b) : if c then a else b := by
  split
  · exact h1 (by assumption)
  · exact h2 (by assumption)
instance (i : Int) : Decidable (inLine i) := by unfold inLine; infer_instance
/-! ### picking -/
section
variable {M : Mm} {Q : DQ} {p : Addr} {x y : D} {b : Bool} {xs : List D} {i : Int}
theorem int1R_b : int1R [.bl b] M Q = Q (.int (if b then 1 else 0)) M := (rfl)
theorem int1R_i : int1R [.int i] M Q = Q (.int i) M := (rfl)
theorem ix_pick (e : lstOf M p = some [x, y]) (h : Q (if b then y else x) M) : ixR (.ref p) (.int (if b then 1 else 0)) M Q := by
  unfold ixR
  simp only [e]
  cases b <;> exact h
theorem ix_l {d : D} (e : lstOf M p = some xs) (h0 : 0 ≤ i) (h1 : xs[i.toNat]? = some d) (h : Q d M) : ixR (.ref p) (.int i) M Q := by
  unfold ixR
  have e2 : atI xs i = some d := by
    have := atI_nat (j := i.toNat) h1
    rwa [show ((i.toNat : Nat) : Int) = i by omega] at this
  simp only [e, e2]
  exact h
theorem ix_t {d : D} (h0 : 0 ≤ i) (h1 : xs[i.toNat]? = some d) (h : Q d M) : ixR (.tup xs) (.int i) M Q := by
  unfold ixR
  have e2 : atI xs i = some d := by
    have := atI_nat (j := i.toNat) h1
    rwa [show ((i.toNat : Nat) : Int) = i by omega] at this
  simp only [e2]
  exact h
theorem ix_tn {d : D} {n : Nat} (h1 : xs[n]? = some d) (h : Q d M) : ixR (.tup xs) (.int (n : Int)) M Q := ix_t (by omega) (by simpa using h1) h
theorem ix_t0 {xs : List D} : ixR (.tup (x :: xs)) (.int 0) M Q = Q x M := by
  have e : atI (x :: xs) 0 = some x := atI_nat (j := 0) rfl
  unfold ixR
  simp only [e]
theorem ix_t1 {xs : List D} : ixR (.tup (x :: y :: xs)) (.int 1) M Q = Q y M := by
  have e : atI (x :: y :: xs) 1 = some y := atI_nat (j := 1) rfl
  unfold ixR
  simp only [e]
theorem ix_t2 {xs : List D} {z : D} : ixR (.tup (x :: y :: z :: xs)) (.int 2) M Q = Q z M := by
  have e : atI (x :: y :: z :: xs) 2 = some z := atI_nat (j := 2) rfl
  unfold ixR
  simp only [e]
theorem ix_t3 {xs : List D} {z u : D} : ixR (.tup (x :: y :: z :: u :: xs)) (.int 3) M Q = Q u M := by
  have e : atI (x :: y :: z :: u :: xs) 3 = some u := atI_nat (j := 3) rfl
  unfold ixR
  simp only [e]
theorem ix_t4 {xs : List D} {z u v : D} : ixR (.tup (x :: y :: z :: u :: v :: xs)) (.int 4) M Q = Q v M := by
  have e : atI (x :: y :: z :: u :: v :: xs) 4 = some v := atI_nat (j := 4) rfl
  unfold ixR
  simp only [e]
/-- the last one -/
theorem ix_tl {d : D} (h1 : xs[xs.length - 1]? = some d) (h : Q d M) : ixR (.tup xs) (.int (-1)) M Q := by
  unfold ixR
  have e2 : atI xs (-1) = some d := by
    obtain ⟨ys, rfl⟩ : ∃ ys, xs = ys ++ [d] := by
      have hne : xs ≠ [] := by rintro rfl; simp at h1
      refine ⟨xs.dropLast, ?_⟩
      have : xs.getLast hne = d := by
        rw [List.getLast_eq_getElem]
        rw [List.getElem?_eq_some_iff] at h1
        exact h1.2
      rw [← this, List.dropLast_concat_getLast]
    exact atI_last _ _
  simp only [e2]
  exact h
theorem revR_t : revR (.tup xs) M Q = Q (.tup xs.reverse) M := (rfl)
theorem lenR_t : lenR [.tup xs] M Q = Q (.int xs.length) M := (rfl)
theorem lenR_s {z : Str} : lenR [.str z] M Q = (z.length ≤ sizeLine ∧ Q (.int z.length) M) := (rfl)
theorem len_l (e : lstOf M p = some xs) (h : Q (.int xs.length) M) : lenR [.ref p] M Q := by
  unfold lenR
  simp only [of_lstOf e]
  exact h
theorem slR_t {lo hi : Option Int} : slR (.tup xs) lo hi M Q = Q (.tup (cutL xs lo hi)) M := (rfl)
theorem slR_s {z : Str} {lo hi : Option Int} : slR (.str z) lo hi M Q = (z.length ≤ sizeLine ∧ Q (.str (cutS z lo hi)) M) := (rfl)
end
theorem cutL_from {α : Type} (xs : List α) (n : Nat) : cutL xs (some (n : Int)) none = xs.drop n := by
  unfold cutL
  rw [show HT.sIx xs.length 0 (some (n : Int)) = min n xs.length from HT.sIx_nat xs.length 0 n, HT.sIx_none]
  by_cases h : n ≤ xs.length
  · rw [Nat.min_eq_left h, List.take_of_length_le (by rw [List.length_drop]; omega)]
  · rw [Nat.min_eq_right (by omega), List.drop_length, List.take_nil, List.drop_eq_nil_of_le (by omega)]
theorem cutL_from1 {α : Type} (xs : List α) : cutL xs (some 1) none = xs.drop 1 := cutL_from xs 1
theorem cutL_from2 {α : Type} (xs : List α) : cutL xs (some 2) none = xs.drop 2 := cutL_from xs 2
theorem cutL_to {α : Type} (xs : List α) (n : Nat) : cutL xs none (some (n : Int)) = xs.take n := by
  unfold cutL
  rw [show HT.sIx xs.length xs.length (some (n : Int)) = min n xs.length from HT.sIx_nat xs.length xs.length n, HT.sIx_none]
  rw [List.drop_zero, Nat.sub_zero]
  by_cases h : n ≤ xs.length
  · rw [Nat.min_eq_left h]
  · rw [Nat.min_eq_right (by omega), List.take_length, List.take_of_length_le (by omega)]
theorem cutL_mid {α : Type} (xs : List α) (m n : Nat) : cutL xs (some (m : Int)) (some (n : Int)) = (xs.drop m).take (n - m) := by
  unfold cutL
  rw [show HT.sIx xs.length xs.length (some (n : Int)) = min n xs.length from HT.sIx_nat xs.length xs.length n, show HT.sIx xs.length 0 (some (m : Int)) = min m xs.length from HT.sIx_nat xs.length 0 m]
  rcases Nat.le_total m xs.length with h | h
  · rw [Nat.min_eq_left h]
    rcases Nat.le_total n xs.length with h2 | h2
    · rw [Nat.min_eq_left h2]
    · rw [Nat.min_eq_right h2, List.take_of_length_le (by rw [List.length_drop]; omega), List.take_of_length_le (by rw [List.length_drop]; omega)]
  · rw [Nat.min_eq_right h, List.drop_length, List.take_nil, List.drop_eq_nil_of_le h, List.take_nil]
theorem inLine_nat {n : Nat} (h : n < 2 ^ 62) : inLine (n : Int) := ⟨by omega, by omega⟩
theorem small_line {n : Nat} (h : n ≤ 1000000) : n ≤ sizeLine := by rw [sizeLine_eq]; omega
theorem small_ltline {n : Nat} (h : n ≤ 1000000) : n < sizeLine := by rw [sizeLine_eq]; omega
end DM

namespace L2
open PySem PySem.Spec PyProof.Rows
theorem tuple_mul1 (l : Addr) (items : Array Value) (n : Nat) (dd : Option Addr) (sl : Array (Option Value)) (x : Int) (u : Tok) (c0 : (decide (x < -(2 ^ 63)) || decide (x ≥ 2 ^ 63)) = false) (c1 : (items.isEmpty || x == 1) = true) :
    Meets (Builtin.«tuple.__mul__» ⟨[.ref l, .int x u], []⟩) (fun _ R s => s.heap.get? l = some { cls := .type "tuple", dict := dd, data := .seq items n, slots := sl } ∧ R (.ok (.ret (Value.ref l))) s) :=
  .of_wp fun prog w A R s h => by
    obtain ⟨hp, g, d, tk, os⟩ := s
    obtain ⟨hl, h⟩ := h
    have f1 := AutoSeq1.idx_int
    wp_walk using wpAny_loadPart' hl
    repeat (first
      | (refine wpAny_ite_false (decide_eq_false (by rw [c0]; exact Bool.false_ne_true)) ?_; wp_walk using wpAny_loadPart' hl)
      | (refine wpAny_ite_true (decide_eq_true c1) ?_; wp_walk using wpAny_loadPart' hl))
    exact ⟨_, rfl, h⟩
theorem tuple_mul0 (l : Addr) (items : Array Value) (n : Nat) (dd : Option Addr) (sl : Array (Option Value)) (x : Int) (u : Tok) (c0 : (decide (x < -(2 ^ 63)) || decide (x ≥ 2 ^ 63)) = false) (c1 : (items.isEmpty || x == 1) = false) (c2 : (decide (x ≤ 0) || items.isEmpty) = true) :
    Meets (Builtin.«tuple.__mul__» ⟨[.ref l, .int x u], []⟩) (fun _ R s => s.heap.get? l = some { cls := .type "tuple", dict := dd, data := .seq items n, slots := sl } ∧
      R (.ok (.ret (Value.ref s.heap.objs.size))) { s with heap := s.heap.push { cls := Value.type "tuple", data := Data.seq #[] }, toks := s.toks }) :=
  .of_wp fun prog w A R s h => by
    obtain ⟨hp, g, d, tk, os⟩ := s
    obtain ⟨hl, h⟩ := h
    have f1 := AutoSeq1.idx_int
    wp_walk using wpAny_loadPart' hl
    repeat (first
      | (refine wpAny_ite_false (decide_eq_false (by rw [c0]; exact Bool.false_ne_true)) ?_; wp_walk using wpAny_loadPart' hl)
      | (refine wpAny_ite_false (decide_eq_false (by rw [c1]; exact Bool.false_ne_true)) ?_; wp_walk using wpAny_loadPart' hl)
      | (refine wpAny_ite_true (decide_eq_true c2) ?_; wp_walk using wpAny_loadPart' hl))
    exact ⟨_, rfl, h⟩
def rRepU (K : PySem.W.Frag) : R2 := fun x y H Q => ∃ l k xs, x = .ref l ∧ y = .int k ∧ SqT K H l xs ∧ (-(2 ^ 63) ≤ k ∧ k < 2 ^ 63) ∧ (((xs = [] ∨ k = 1) ∧ Q (.ref l) H) ∨ ((xs ≠ [] ∧ k ≤ 0) ∧ ∀ p, H p = none → Q (.ref p) (upd H p (.tup []))))
theorem op_repU {X : Cx} : OpR X (binaryOp .Mult) (rRepU X.K) := by
  intro pins s σ H x y v u Q I rx ry h
  obtain ⟨l, k, xs, rfl, rfl, hT, ⟨h1, h2⟩, q⟩ := h
  cases rx
  obtain ⟨t, rfl⟩ := ry
  obtain ⟨its, r, ⟨⟨cls, dd, data, sl⟩, ho, hc, n, hd⟩, hs⟩ := I.tuple hT
  simp only at hc hd
  subst hc hd
  have hle : its.length = xs.length := r.length.symm
  have hi : its.toArray.isEmpty = xs.isEmpty := by
    cases its <;> cases xs <;> simp at hle ⊢
  have c0 : (decide (k < -(2 ^ 63)) || decide (k ≥ 2 ^ 63)) = false := by
    rw [decide_eq_false (by omega), decide_eq_false (by omega)] <;> rfl
  rcases q with ⟨hq, q⟩ | ⟨⟨hne, hk⟩, q⟩
  · have c1 : (its.toArray.isEmpty || k == 1) = true := by
      rw [hi]
      rcases hq with rfl | rfl
      · rfl
      · simp
    refine wpAny_binaryOp_repeat_ref (T := "tuple") (U := "int") (by decide) ⟨_, ho, rfl⟩ (fun s' => typeIs_int s' k t) noFill_tuple_mul F.fills_int_mul F.slot_int_rmul repeat_tuple F.slot_int_index.lookup
      (call_meets F.slot_int_rmul (typeIs_int s k t) F.entry_int_rmul (F.args_int_rmul_2 _ _) (int_rmul_tuple k t l its.toArray n dd sl)
        ⟨ho, rfl, ⟨_, ho, rfl⟩, call_meets F.slot_tuple_mul ⟨_, ho, rfl⟩ F.entry_tuple_mul (F.args_tuple_mul_2 _ _) (tuple_mul1 l its.toArray n dd sl k t c0 c1) ⟨ho, ?_⟩⟩)
    exact ⟨.ref l, H, I, rfl, q⟩
  · have hx : xs.isEmpty = false := by cases xs with | nil => exact absurd rfl hne | cons _ _ => rfl
    have c1 : (its.toArray.isEmpty || k == 1) = false := by
      rw [hi, hx, Bool.false_or]
      exact beq_eq_false_iff_ne.mpr (by omega)
    have c2 : (decide (k ≤ 0) || its.toArray.isEmpty) = true := by
      rw [decide_eq_true hk]; rfl
    refine wpAny_binaryOp_repeat_ref (T := "tuple") (U := "int") (by decide) ⟨_, ho, rfl⟩ (fun s' => typeIs_int s' k t) noFill_tuple_mul F.fills_int_mul F.slot_int_rmul repeat_tuple F.slot_int_index.lookup
      (call_meets F.slot_int_rmul (typeIs_int s k t) F.entry_int_rmul (F.args_int_rmul_2 _ _) (int_rmul_tuple k t l its.toArray n dd sl)
        ⟨ho, rfl, ⟨_, ho, rfl⟩, call_meets F.slot_tuple_mul ⟨_, ho, rfl⟩ F.entry_tuple_mul (F.args_tuple_mul_2 _ _) (tuple_mul0 l its.toArray n dd sl k t c0 c1 c2) ⟨ho, ?_⟩⟩)
    refine ⟨.ref s.heap.objs.size, _, I.laid (t' := s.toks) (o := .tup []) (fun b ob q => Heap.get?_push_of_some _ q) (Nat.le_refl _) ?_, rfl, q _ (I.hok.fresh (Nat.le_refl _))⟩
    exact ⟨by simp, [], .nil, IsTup.new _ _⟩
end L2
namespace DM
open PySem L2
open PyProof.Rows (b2i)

/-! ### times -/
def repL {α : Type} (n : Nat) (xs : List α) : List α := (List.replicate n xs).flatten
theorem repL_succ {α : Type} (n : Nat) (xs : List α) : repL (n + 1) xs = xs ++ repL n xs := by simp [repL, List.replicate_succ]
theorem VRs.rep {K : PySem.W.Frag} {H : HF} {ds : List D} {vs : List V} (r : VRs K H ds vs) : ∀ n : Nat, VRs K H (repL n ds) (repL n vs)
  | 0 => .nil
  | n + 1 => by rw [repL_succ, repL_succ]; exact r.append (VRs.rep r n)
def mulA : DR2 := fun x y M Q => match x, y with
  | .int i, .int j => CMulW i j ∧ Q (.int (i * j)) M
  | .tup xs, .int k => (-(2 ^ 63) ≤ k ∧ k ≤ 1000 ∧ xs.length ≤ 1000) ∧ Q (.tup (repL k.toNat xs)) M
  | x, .int k => (match rdL M x with | some xs => (-(2 ^ 63) ≤ k ∧ k < 2 ^ 63 ∧ xs.length * k.toNat ≤ sizeLine) ∧ Q (.lst (repL k.toNat xs)) M | none => False)
  | _, _ => False
def mulT (K : PySem.W.Frag) : R2 := fun x y H Q => rI CMulW (fun i j => .int (i * j)) x y H Q ∨ rRepT K x y H Q ∨ rRep x y H Q ∨ rRepU K x y H Q
theorem op_mulT {X : Cx} : OpR X (binaryOp .Mult) (mulT X.K) := op_mulW.or (op_repT.or (op_rep.or op_repU))
theorem lift_mulA {K : PySem.W.Frag} : Lift2 K (mulT K) mulA := by
  intro x y dx dy H M Q Q0 rx ry m h k
  have lists : ∀ (kk : Int) (xs : List D), rdL M dx = some xs → y = .int kk → (-(2 ^ 63) ≤ kk ∧ kk < 2 ^ 63 ∧ xs.length * kk.toNat ≤ sizeLine) ∧ Q (.lst (repL kk.toNat xs)) M → mulT K x y H.h Q0 := by
    intro kk xs e ey hq
    obtain ⟨⟨h1, h2, h3⟩, q⟩ := hq
    obtain ⟨a, vs, rfl, hh, ra⟩ := rdL_v m rx e
    refine .inr (.inr (.inl ⟨a, kk, vs, rfl, ey, hh, h1, h2, by rw [← ra.length]; exact h3, fun p hp => ?_⟩))
    obtain ⟨z1, z2, z3⟩ := frz_new m hp (ra.rep kk.toNat)
    exact k _ _ _ _ z1 z2 z3 q
  cases dy with
  | int j =>
    cases ry.int_v
    cases dx with
    | int i =>
      cases rx.int_v
      exact .inl ⟨i, j, rfl, rfl, h.1, k _ H _ M (.int _) m GG.refl h.2⟩
    | tup xs =>
      obtain ⟨⟨h1, h2, h3⟩, q⟩ := h
      obtain ⟨a, vs, rfl, sa0, ra⟩ := rx.tup_t
      have sa := SqT.of (K := K) sa0
      have hl := ra.length
      by_cases c1 : xs = [] ∨ j = 1
      · refine .inr (.inr (.inr ⟨a, j, vs, rfl, rfl, sa, ⟨h1, by omega⟩, .inl ⟨?_, ?_⟩⟩))
        · rcases c1 with rfl | c1
          · cases ra; exact .inl rfl
          · exact .inr c1
        · refine k _ H _ M (.tup sa0 ra) m GG.refl ?_
          rcases c1 with rfl | rfl
          · have : repL j.toNat ([] : List D) = [] := by
              generalize j.toNat = n
              induction n with
              | zero => rfl
              | succ n ih => rw [repL_succ, ih]; rfl
            rw [this] at q; exact q
          · have : repL (Int.toNat 1) xs = xs := by
              show repL 1 xs = xs
              rw [repL_succ]
              show xs ++ repL 0 xs = xs
              simp [repL]
            rw [this] at q; exact q
      · have hx : xs ≠ [] := fun e => c1 (.inl e)
        have hv : vs ≠ [] := by rintro rfl; cases ra; exact hx rfl
        by_cases c2 : j ≤ 0
        · refine .inr (.inr (.inr ⟨a, j, vs, rfl, rfl, sa, ⟨h1, by omega⟩, .inr ⟨⟨hv, c2⟩, fun p hp => ?_⟩⟩))
          have : repL j.toNat xs = [] := by rw [show j.toNat = 0 by omega]; rfl
          rw [this] at q
          exact k _ (H.up p _) _ M (.tup upd_same .nil) (m.newT hp) (GG.newT hp) q
        · have : 2 ≤ j := by have : j ≠ 1 := fun e => c1 (.inr e); omega
          refine .inr (.inl ⟨a, j, vs, rfl, rfl, sa, hv, this, h2, by omega, fun p hp => ?_⟩)
          exact k _ (H.up p _) _ M (.tup upd_same (VRs.mono (TX.new m hp) _ _ (ra.rep j.toNat))) (m.newT hp) (GG.newT hp) q
    | lst xs => exact lists j xs rfl rfl h
    | ref a =>
      cases e : lstOf M a with
      | none => simp [mulA, e] at h
      | some xs => exact lists j xs e rfl (by simpa [mulA, e] using h)
    | _ => exact h.elim
  | _ => cases dx <;> exact h.elim
section
variable {X : Cx} {a b : Expr} {ta tb : TDE} {pos : Pos}
theorem je_mulA (ha : JE X a ta) (hb : JE X b tb) : JE X (.BinOp a .Mult b pos) (dOp mulA ta tb) := je_op op_mulT lift_mulA ha hb
end

/-! ### s.index(c), a sign that is in it -/
def indexQ (x y : D) (M : Mm) (Q : DQ) : Prop := match x, y with
  | .str a, .str b => (match Builtin.Str.occurrences a b 0 a.length 1 with | i :: _ => Q (.int (i : Nat)) M | [] => False)
  | _, _ => False
def dIndex (to te : TDE) : TDE := fun ds M Q => to ds M fun x M1 => (match x with | .str _ => True | _ => False) ∧ te ds M1 fun y M2 => indexQ x y M2 Q
section
variable {X : Cx} {o e : Expr} {to te : TDE} {apos cpos : Pos}
theorem je_sindex (ho : JE X o to) (ha : JE X e te) (hbase : attributeBase o "index" X.env (eval o X.env) = eval o X.env := by rfl)
    (hfew : ((backTo cpos (starEach [e] X.env)).all (fun x => !x.1) && (backToKw cpos (keywordEach [] X.env)).all (fun x => x.1.isSome)
      && decide (([e]).length + ([] : List Keyword).length + (if ([] : List Keyword).isEmpty then 0 else 1) < 30)) = true := by rfl)
    (hline : (apos.endLine == cpos.line) = true := by rfl) (hs : starEach [e] X.env = (false, eval e X.env) :: starEach [] X.env := by rfl) (hplain : (backTo cpos (starEach [] X.env)).any (·.1) = false := by rfl) :
    JE X (.Call (.Attribute o "index" apos) [e] [] cpos) (dIndex to te) := by
  obtain ⟨u, p, g⟩ := ho
  obtain ⟨u', p', g'⟩ := ha
  refine je_pe (pe_bm PySem.F.plainAttrs_str PySem.F.slot_str_index PySem.F.type_str_index mt_sindex p (pa_cons p' pa_nil hs) hbase hfew hline hs hplain) fun ds σ H M Q Q0 s m q k => ?_
  refine g ds σ H M _ _ s m q fun v H1 d M1 r1 m1 g1 q1 => ?_
  obtain ⟨hx, q1⟩ := q1
  cases d with
  | str z =>
    cases r1.str_v
    refine ⟨by first | exact .inr ⟨rfl, z, rfl⟩ | exact .inl ⟨rfl, z, rfl⟩ | exact ⟨z, rfl⟩ | rfl, ?_⟩
    refine g' ds σ H1 M1 _ _ (s.gg m g1) m1 q1 fun w H2 e M2 r2 m2 g2 q2 => ?_
    cases e with
    | str y =>
      cases r2.str_v
      unfold indexQ at q2
      simp only at q2
      split at q2
      · rename_i i r ei
        exact ⟨z, y, i, r, rfl, rfl, ei, k _ H2 _ M2 (.int _) m2 (g1.trans g2) q2⟩
      · exact q2.elim
    | _ => exact q2.elim
  | _ => exact hx.elim
end

/-! ### {k: v, ..} -/
def dPairs : List (TDE × TDE) → DSt → Mm → (List (Key × D) → Mm → Prop) → Prop
  | [], _, M, Q => Q [] M
  | (tk, tv) :: r, ds, M, Q => tk ds M fun x M1 => tv ds M1 fun y M2 => dPairs r ds M2 fun ps M3 => match keyD x with | some k => Q ((k, y) :: ps) M3 | none => False
structure JPs (X : Cx) (pos : Pos) (keys : List (Option Expr)) (values : List Expr) (ts : List (TDE × TDE)) : Prop where
  go : ∃ trs, PPs X pos keys values trs ∧ ∀ (ds : DSt) (σ : L2.St) (H : HF) (M : Mm) (Q : List (Key × D) → Mm → Prop) (Q0 : List (V × V) → Hp → Prop), SR X.K H ds σ → MR X.K M H → dPairs ts ds M Q →
    (∀ ps H' es vs M', ps = vs.map (fun kv => (kV kv.1, kv.2)) → FR X.K H' es vs → MR X.K M' H' → GG M H M' H' → Q es M' → Q0 ps H'.h) → tPairs trs σ H.h Q0
section
variable {X : Cx} {pos : Pos}
theorem jps_nil : JPs X pos [] [] [] := ⟨_, pps_nil, fun ds σ H M Q Q0 s m q k => k [] H [] [] M rfl .nil m GG.refl q⟩
theorem jps_cons {k v : Expr} {ks : List (Option Expr)} {vs : List Expr} {tk tv : TDE} {ts : List (TDE × TDE)} (hk : JE X k tk) (hv : JE X v tv) (hr : JPs X pos ks vs ts) : JPs X pos (some k :: ks) (v :: vs) ((tk, tv) :: ts) := by
  obtain ⟨u, p, g⟩ := hk
  obtain ⟨u1, p1, g1⟩ := hv
  obtain ⟨tr, p2, g2⟩ := hr
  refine ⟨_, pps_cons p p1 p2, fun ds σ H M Q Q0 s m q k => ?_⟩
  refine g ds σ H M _ _ s m q fun x H1 d1 M1 r1 m1 gg1 q1 => ?_
  refine g1 ds σ H1 M1 _ _ (s.gg m gg1) m1 q1 fun y H2 d2 M2 r2 m2 gg2 q2 => ?_
  refine g2 ds σ H2 M2 _ _ (s.gg m (gg1.trans gg2)) m2 q2 fun ps H3 es us M3 ep r3 m3 gg3 q3 => ?_
  split at q3
  · rename_i kk e
    refine k _ H3 ((kk, d2) :: es) ((kk, y) :: us) M3 ?_ (.cons (VR.mono (gg3.tx m2) _ _ r2) r3) m3 ((gg1.trans gg2).trans gg3) q3
    rw [List.map_cons, ep, keyD_v r1 e]
  · exact q3.elim
def mergeD (kvs more : List (Key × D)) : List (Key × D) := more.foldl (fun acc kv => putD acc kv.1 kv.2) kvs
theorem FR.merge {K : PySem.W.Frag} {H : HF} : ∀ {more : List (Key × D)} {ms : List (Key × V)} {kvs : List (Key × D)} {vs : List (Key × V)}, FR K H more ms → FR K H kvs vs → FR K H (mergeD kvs more) (mergeK vs ms)
  | _, _, _, _, .nil, h => h
  | _, _, kvs, vs, .cons r q, h => by
    show FR K H (mergeD (putD kvs _ _) _) (mergeK (putK vs _ _) _)
    exact FR.merge q (h.put r)
abbrev TDD := DSt → Mm → (List (Key × D) → Mm → Prop) → Prop
/-- a new dict -/
structure JD (X : Cx) (e : Expr) (t : TDD) : Prop where
  go : ∃ t0, PE X e t0 ∧ ∀ (ds : DSt) (σ : L2.St) (H : HF) (M : Mm) (Q : List (Key × D) → Mm → Prop) (Q0 : VK), SR X.K H ds σ → MR X.K M H → t ds M Q →
    (∀ p H' xs vs M', H.h p = none → H'.h p = some (.dK vs) → FR X.K H' xs vs → M' p = none → ¬H'.F p → MR X.K M' H' → GG M H M' H' → Q xs M' → Q0 (.ref p) H'.h) → t0 σ H.h Q0
def dDispD (ts : List (TDE × TDE)) : TDD := fun ds M Q => dPairs ts ds M fun es M1 => es.length ≤ 15 ∧ Q (mergeD [] es) M1
theorem jd_disp {keys : List (Option Expr)} {values : List Expr} {ts : List (TDE × TDE)} (h : JPs X pos keys values ts) (hall : keys.all (·.isSome) = true := by rfl) (hl : keys.length = values.length := by rfl) (h0 : keys ≠ [] := by simp) (h15 : keys.length ≤ 15 := by decide) :
    JD X (.Dict keys values pos) (dDispD ts) := by
  obtain ⟨tr, p, g⟩ := h
  refine ⟨_, pe_disp p hall hl h0 h15, fun ds σ H M Q Q0 s m q k => ?_⟩
  intro l hl
  refine g ds σ (H.up l (.dK [])) M _ _ (s.mono (TX.new m hl)) (m.newT hl) q fun ps H' es vs M' ep r m' gg q' => ?_
  obtain ⟨h1, n1, f1⟩ := gg.nfr (p := l) upd_same (m.free hl) (m.freeF hl)
  have gH : GG M H M' H' := GG.newT hl |>.trans gg
  have t : TX X.K H' (H'.up l (.dK (mergeK [] vs))) := TX.upne (fun _ e => by rw [h1] at e; cases e) (fun _ _ e => by rw [h1] at e; cases e) f1
  refine ⟨h1, vs, ep, by rw [← r.length]; exact q'.1, ?_⟩
  refine k l (H'.up l (.dK (mergeK [] vs))) _ _ M' hl upd_same (FR.merge (r.mono t) .nil) n1 f1 ?_ ?_ q'.2
  · exact ⟨fun b w e => by
      have : b ≠ l := by rintro rfl; rw [n1] at e; cases e
      exact (m'.ob b w e).mono t (upd_ne this), m'.nf, fun b f => by
      obtain ⟨o, e⟩ := m'.sm b f
      exact upd_al b o e⟩
  · exact gH.hidden hl
theorem jd_empty : JD X (.Dict [] [] pos) (fun _ M Q => Q [] M) := ⟨_, pe_dnewK, fun ds σ H M Q Q0 s m q k p hp => k p (H.up p _) [] [] M hp upd_same .nil (m.free hp) (m.freeF hp) (m.newT hp) (GG.newT hp) q⟩
def dFreshD (t : TDD) : TDE := fun ds M Q => t ds M fun xs M1 => ∀ p, M1 p = none → Q (.ref p) (mup M1 p (.dic xs))
def dFrzD (t : TDD) : TDE := fun ds M Q => t ds M fun xs M1 => Q (.dic xs) M1
theorem je_freshD {e : Expr} {t : TDD} (h : JD X e t) : JE X e (dFreshD t) := by
  obtain ⟨u, p, g⟩ := h
  refine je_pe p fun ds σ H M Q Q0 s m q k => ?_
  refine g ds σ H M _ _ s m q fun p H' xs vs M' hp hp' r n nf m' gg q' => ?_
  exact k _ H' _ _ (.ref p) (m'.known (w := .dic xs) ⟨vs, hp', r⟩ nf) (gg.known hp) (q' p n)
theorem je_frzD {e : Expr} {t : TDD} (h : JD X e t) : JE X e (dFrzD t) := by
  obtain ⟨u, p, g⟩ := h
  refine je_pe p fun ds σ H M Q Q0 s m q k => ?_
  refine g ds σ H M _ _ s m q fun p H' xs vs M' hp hp' r n nf m' gg q' => ?_
  exact k _ (H'.fz p) _ _ (.dic hp' (.inr rfl) (r.mono TX.fzz).kr) (m'.fzz hp' n) (gg.fzz hp) q'
end

/-! ### d.get(k, x), d.get(k) -/
def getQ (x y z : D) (M : Mm) (Q : DQ) : Prop := match rdD M x, keyD y with
  | some kvs, some k => Q ((valD kvs k).getD z) M
  | _, _ => False
def isDic (x : D) (M : Mm) : Prop := (rdD M x).isSome = true
def dGet2 (to te tf : TDE) : TDE := fun ds M Q => to ds M fun x M1 => isDic x M1 ∧ te ds M1 fun y M2 => tf ds M2 fun z M3 => getQ x y z M3 Q
def dGet1 (to te : TDE) : TDE := fun ds M Q => to ds M fun x M1 => isDic x M1 ∧ te ds M1 fun y M2 => getQ x y .non M2 Q
section
variable {X : Cx} {o e f : Expr} {to te tf : TDE} {apos cpos : Pos} {k : Nat}
theorem isDic_of {K : PySem.W.Frag} {H : HF} {M : Mm} {x : D} {v : V} (r : VR K H x v) (m : MR K M H) (h : isDic x M) : ∃ a, v = .ref a ∧ IsD H.h a := by
  obtain ⟨kvs, e⟩ := Option.isSome_iff_exists.mp h
  obtain ⟨a, vs, rfl, h1, _⟩ := rdD_v m r e
  exact ⟨a, rfl, by first | exact .inl ⟨vs, .inl h1⟩ | exact .inl ⟨vs, h1⟩⟩
theorem je_get2 (hr : Room k X.A) (ho : JE X o to) (he : JE X e te) (hf : JE X f tf) (m : M2 X o "get" apos e f cpos := by exact ⟨rfl, rfl, rfl, rfl⟩) : JE X (.Call (.Attribute o "get" apos) [e, f] [] cpos) (dGet2 to te tf) := by
  obtain ⟨u, p, g⟩ := ho
  obtain ⟨u1, p1, g1⟩ := he
  obtain ⟨u2, p2, g2⟩ := hf
  refine je_pe (pe_dget2 (hu_of hr) p p1 p2 m) fun ds σ H M Q Q0 s mm q kk => ?_
  refine g ds σ H M _ _ s mm q fun v H1 d M1 r1 m1 gg1 q1 => ?_
  obtain ⟨hd, q1⟩ := q1
  obtain ⟨a, rfl, hd⟩ := isDic_of r1 m1 hd
  refine ⟨a, rfl, hd, ?_⟩
  refine g1 ds σ H1 M1 _ _ (s.gg mm gg1) m1 q1 fun w H2 d2 M2 r2 m2 gg2 q2 => ?_
  refine g2 ds σ H2 M2 _ _ (s.gg mm (gg1.trans gg2)) m2 q2 fun z H3 d3 M3 r3 m3 gg3 q3 => ?_
  unfold getQ at q3
  split at q3
  · rename_i kvs key e1 e2
    obtain ⟨b, vs, ea, h1, rf⟩ := rdD_v m3 (VR.mono ((gg2.trans gg3).tx m1) _ _ r1) e1
    cases ea
    rw [keyD_v r2 e2]
    refine ⟨valV vs key, DGet.k h1, ?_⟩
    cases e3 : valD kvs key with
    | none => rw [e3] at q3; rw [rf.valN e3]; exact kk _ H3 _ M3 r3 m3 ((gg1.trans gg2).trans gg3) q3
    | some d4 =>
      rw [e3] at q3
      obtain ⟨z4, e4, r4⟩ := rf.val e3
      rw [e4]
      exact kk _ H3 _ M3 r4 m3 ((gg1.trans gg2).trans gg3) q3
  · exact q3.elim
theorem je_get1 (hr : Room k X.A) (ho : JE X o to) (he : JE X e te) (m : M1 X o "get" apos e cpos := by exact ⟨rfl, rfl, rfl, rfl⟩) : JE X (.Call (.Attribute o "get" apos) [e] [] cpos) (dGet1 to te) := by
  obtain ⟨u, p, g⟩ := ho
  obtain ⟨u1, p1, g1⟩ := he
  refine je_pe (pe_dget1 (hu_of hr) p p1 m) fun ds σ H M Q Q0 s mm q kk => ?_
  refine g ds σ H M _ _ s mm q fun v H1 d M1 r1 m1 gg1 q1 => ?_
  obtain ⟨hd, q1⟩ := q1
  obtain ⟨a, rfl, hd⟩ := isDic_of r1 m1 hd
  refine ⟨a, rfl, hd, ?_⟩
  refine g1 ds σ H1 M1 _ _ (s.gg mm gg1) m1 q1 fun w H3 d2 M3 r2 m3 gg2 q3 => ?_
  unfold getQ at q3
  split at q3
  · rename_i kvs key e1 e2
    obtain ⟨b, vs, ea, h1, rf⟩ := rdD_v m3 (VR.mono (gg2.tx m1) _ _ r1) e1
    cases ea
    rw [keyD_v r2 e2]
    refine ⟨valV vs key, DGet.k h1, ?_⟩
    cases e3 : valD kvs key with
    | none => rw [e3] at q3; rw [rf.valN e3]; exact kk _ H3 _ M3 .non m3 (gg1.trans gg2) q3
    | some d4 =>
      rw [e3] at q3
      obtain ⟨z4, e4, r4⟩ := rf.val e3
      rw [e4]
      exact kk _ H3 _ M3 r4 m3 (gg1.trans gg2) q3
  · exact q3.elim
end

/-! ### operations on known kinds -/
section
variable {M : Mm} {Q : DQ} {i j : Int} {xs ys : List D}
theorem mulA_ii : mulA (.int i) (.int j) M Q = (CMulW i j ∧ Q (.int (i * j)) M) := (rfl)
theorem mulA_t : mulA (.tup xs) (.int j) M Q = ((-(2 ^ 63) ≤ j ∧ j ≤ 1000 ∧ xs.length ≤ 1000) ∧ Q (.tup (repL j.toNat xs)) M) := (rfl)
theorem mulA_L : mulA (.lst xs) (.int j) M Q = ((-(2 ^ 63) ≤ j ∧ j < 2 ^ 63 ∧ xs.length * j.toNat ≤ sizeLine) ∧ Q (.lst (repL j.toNat xs)) M) := (rfl)
theorem addR_LL : addR (.lst xs) (.lst ys) M Q = (xs.length + ys.length ≤ sizeLine ∧ Q (.lst (xs ++ ys)) M) := (rfl)
theorem ix_L {d : D} (h0 : 0 ≤ i) (h1 : xs[i.toNat]? = some d) (h : Q d M) : ixR (.lst xs) (.int i) M Q := by
  have := ix_t (M := M) (Q := Q) h0 h1 h
  exact this
theorem ix_Ll {d : D} (h1 : xs[xs.length - 1]? = some d) (h : Q d M) : ixR (.lst xs) (.int (-1)) M Q := by
  have := ix_tl (M := M) (Q := Q) h1 h
  exact this
theorem ix_Lb {x y : D} {b : Bool} (h : Q (if b then y else x) M) : ixR (.lst [x, y]) (.int (if b then 1 else 0)) M Q := by
  cases b
  · exact ix_L (by decide) rfl h
  · exact ix_L (by decide) rfl h
theorem lenR_L : lenR [.lst xs] M Q = Q (.int xs.length) M := (rfl)
theorem slR_L {lo hi : Option Int} : slR (.lst xs) lo hi M Q = Q (.lst (cutL xs lo hi)) M := (rfl)
theorem revR_L : revR (.lst xs) M Q = Q (.lst xs.reverse) M := (rfl)
theorem tup1R_L : tup1R [.lst xs] M Q = Q (.tup xs) M := (rfl)
theorem tup1R_t : tup1R [.tup xs] M Q = Q (.tup xs) M := (rfl)
end
end DM

namespace DM
open PySem L2
open PyProof.Rows (b2i)

/-! ### the deck's part of the store alone -/
def mixD (d c : Addr) (M0 M' : Mm) : Mm := fun a => if a = d ∨ a = c then M' a else M0 a
theorem mixD_upto {d c : Addr} {M0 M' : Mm} : Upto d c M0 (mixD d c M0 M') := fun a h1 h2 => by
  unfold mixD; rw [if_neg]; rintro (h | h)
  · exact h1 h
  · exact h2 h
theorem mixD_deck {d c : Addr} {M0 M' : Mm} {r : Nat} (h : Deck M' d c r) : Deck (mixD d c M0 M') d c r := by
  obtain ⟨h1, S, h2, h3, h4⟩ := h
  exact ⟨h1, S, h2, by unfold mixD; rw [if_pos (.inl rfl)]; exact h3, by unfold mixD; rw [if_pos (.inr rfl)]; exact h4⟩
theorem mixD_sub {d c : Addr} {M0 M' : Mm} (x : Ext d c M0 M') : Sub (mixD d c M0 M') M' := fun a o e => by
  unfold mixD at e
  split at e
  · exact e
  · rename_i h
    exact x a o (fun z => h (.inl z)) (fun z => h (.inr z)) e
theorem mixD_none {d c p : Addr} {M0 M' : Mm} {r : Nat} (h : Deck M0 d c r) (n : M0 p = none) : mixD d c M0 M' p = none := by
  unfold mixD
  rw [if_neg]
  · exact n
  · rintro (e | e)
    · exact h.nd n e
    · exact h.nc n e
/-- at a def's end: all but the deck as it was -/
theorem Shr.deck {R : DQ} {x : D} {d c : Addr} {M0 M' : Mm} {r : Nat} (X : Ext d c M0 M') (D : Deck M' d c r) (h : ∀ M2, Upto d c M0 M2 → Deck M2 d c r → R x M2) : Shr R x M' :=
  .of (h _ mixD_upto (mixD_deck D)) (mixD_sub X)
theorem Shr.deckL {R : DQ} {p d c : Addr} {M0 M' : Mm} {r r0 : Nat} {xs : List D} (D0 : Deck M0 d c r0) (n : M0 p = none) (e : lstOf M' p = some xs) (X : Ext d c M0 M') (D : Deck M' d c r)
    (h : ∀ M2, Upto d c M0 M2 → Deck M2 d c r → R (.lst xs) M2) : Shr R (.ref p) M' :=
  .frz e (mixD_sub X) (mixD_none D0 n) (h _ mixD_upto (mixD_deck D))
/-- without a deck -/
theorem Shr.lst {R : DQ} {p : Addr} {M0 M' : Mm} {xs : List D} (n : M0 p = none) (e : lstOf M' p = some xs) (X : Sub M0 M') (h : R (.lst xs) M0) : Shr R (.ref p) M' := .frz e X n h
theorem Upto.none {d c p : Addr} {M M' : Mm} {r : Nat} (h : Upto d c M M') (D : Deck M d c r) : M' p = none → p ≠ d → p ≠ c → M p = none := fun e h1 h2 => by rw [← h p h1 h2]; exact e
theorem Upto.lst {d c p : Addr} {M M' : Mm} (h : Upto d c M M') (h1 : p ≠ d) (h2 : p ≠ c) : lstOf M' p = lstOf M p := by unfold lstOf; rw [h p h1 h2]
theorem Upto.fresh {d c p : Addr} {M M' : Mm} {r : Nat} (h : Upto d c M M') (D : Deck M' d c r) (n : M' p = Option.none) : M p = Option.none := by rw [← h p (D.nd n) (D.nc n)]; exact n
theorem Ext.fresh {d c p : Addr} {M M' : Mm} {r : Nat} (h : Ext d c M M') (D : Deck M' d c r) (n : M' p = Option.none) : M p = Option.none := by
  cases e : M p with
  | none => rfl
  | some o => rw [h p o (D.nd n) (D.nc n) e] at n; cases n
/-- a draw -/
def spDraw' : DSp := fun ds M Q => match ds with
  | [.ref d, .int most] => ∃ c r, Deck M d c (r + 1) ∧ (0 < most ∧ most ≤ 2 ^ 62) ∧ ∀ n M', 0 ≤ n → n < most → Deck M' d c r → Upto d c M M' → Q (.int n) M'
  | _ => False
end DM

namespace DM
open PySem L2
open PyProof.Rows (b2i)

/-! ### texts as lists of signs -/
abbrev cps (z : Str) : List Nat := z.cps.toList
theorem cps_len (z : Str) : z.length = (cps z).length := by simp [Str.length]
theorem cps_append (x y : Str) : cps (x ++ y) = cps x ++ cps y := by
  show ((x.cps ++ y.cps).toList) = _
  simp
theorem cps_inj {x y : Str} (h : cps x = cps y) : x = y := by
  cases x; cases y
  simp only [cps] at h
  congr 1
  exact Array.toList_inj.mp h
theorem cps_cut (z : Str) (lo hi : Option Int) : cps (cutS z lo hi) = cutL (cps z) lo hi := by
  unfold cutS cutL
  simp [cps, Str.length]
theorem cps_one (c : Nat) : cps (⟨#[c]⟩ : Str) = [c] := rfl
theorem cps_join0 : ∀ ys : List Str, cps (Txt.join (⟨#[]⟩ : Str) ys) = (ys.map cps).flatten := by
  intro ys
  rw [TL.join_eq]
  induction ys with
  | nil => rfl
  | cons x r ih =>
    cases r with
    | nil => simp [Str.join]
    | cons y r =>
      show cps (x ++ ⟨#[]⟩ ++ Str.join ⟨#[]⟩ (y :: r)) = _
      rw [cps_append, cps_append, ih]
      simp [cps]
section
variable {M : Mm} {Q : DQ} {i : Int} {z : Str}
theorem ix_s {c : Nat} (h0 : 0 ≤ i) (h1 : (cps z)[i.toNat]? = some c) (hz : z.length ≤ sizeLine) (h : Q (.str ⟨#[c]⟩) M) : ixR (.str z) (.int i) M Q := by
  unfold ixR
  have e2 : L2.atI z.cps.toList i = some c := by
    have := atI_nat (j := i.toNat) h1
    rwa [show ((i.toNat : Nat) : Int) = i by omega] at this
  simp only [e2]
  exact ⟨hz, h⟩
end
/-! ### from lists of data to lists of things -/
theorem all_map {α : Type} (f : α → D) (P : α → Prop) : ∀ {ys : List D}, (∀ y ∈ ys, ∃ a, P a ∧ y = f a) → ∃ as : List α, ys = as.map f ∧ (∀ a ∈ as, P a) ∧ as.length = ys.length
  | [], _ => ⟨[], rfl, by simp, rfl⟩
  | y :: ys, h => by
    obtain ⟨a, ha, rfl⟩ := h y List.mem_cons_self
    obtain ⟨as, rfl, h2, h3⟩ := all_map f P (ys := ys) fun z hz => h z (List.mem_cons_of_mem _ hz)
    exact ⟨a :: as, rfl, fun b hb => by
      rcases List.mem_cons.mp hb with rfl | hb
      · exact ha
      · exact h2 b hb, by simp⟩
/-! ### comprehensions and loops over a deck -/
section
variable {ok : Mm → Prop} {g : TDG} {tt : TDT} {te : TDE} {ds0 : DSt} {Q : List D → Mm → Prop}
theorem lcW_deck {d c : Addr} {r : Nat} (b : Nat) (P : D → Prop) {xs : List D} {M : Mm} (hz : xs.length ≤ sizeLine) (D0 : Deck M d c (r + b * xs.length)) (hok : ∀ M', Upto d c M M' → ok M')
    (step : ∀ x ∈ xs, ∀ (r' : Nat) (M1 : Mm) (N : D → Mm → Prop) (F : Mm → Prop), Deck M1 d c (r' + b) → Upto d c M M1 → (∀ y M2, P y → Deck M2 d c r' → Upto d c M M2 → N y M2) →
      g x ds0 M1 fun ds' M2 => tt ds' M2 fun k M3 => if k = true then te ds' M3 N else F M3)
    (fin : ∀ ys M', ys.length = xs.length → (∀ y ∈ ys, P y) → Deck M' d c r → Upto d c M M' → Q ys M') : lcW ok g tt te ds0 Q xs [] M := by
  refine lcW_go (fun i acc M' => acc.length = i ∧ i ≤ xs.length ∧ (∀ y ∈ acc, P y) ∧ Deck M' d c (r + b * (xs.length - i)) ∧ Upto d c M M') xs (fun i acc M' h => hok _ h.2.2.2.2) (fun i x N e hN acc M' hI => ?_) (fun acc M' hI => ?_) M ⟨rfl, Nat.zero_le _, by simp, by simpa using D0, Upto.refl⟩
  · obtain ⟨h1, h2, h3, h4, h5⟩ := hI
    have hlt : i < xs.length := (List.getElem?_eq_some_iff.mp e).1
    have hm : x ∈ xs := List.mem_of_getElem? e
    have D1 : Deck M' d c (r + b * (xs.length - (i + 1)) + b) := h4.mono (by rw [show xs.length - i = (xs.length - (i + 1)) + 1 by omega, Nat.mul_add, Nat.mul_one]; omega)
    exact step x hm _ M' (fun y M2 => acc.length < sizeLine ∧ N (acc ++ [y]) M2) _ D1 h5 fun y M2 py D2 u2 => ⟨by omega, hN _ _ ⟨by simp [h1], hlt, fun z hz => by
      rcases List.mem_append.mp hz with hz | hz
      · exact h3 z hz
      · rw [List.mem_singleton.mp hz]; exact py, D2, u2⟩⟩
  · obtain ⟨h1, h2, h3, h4, h5⟩ := hI
    exact fin acc M' h1 h3 (by simpa using h4) h5
end
end DM

namespace DM
open PySem L2
open PyProof.Rows (b2i)
section
variable {M : Mm} {Q : DQ}
theorem joinQ_map {α : Type} (f : α → Str) {a : Str} {l : List α} (h1 : ((l.map f).map (·.length)).sum + (l.map f).length * a.length ≤ 16777216) (h : Q (.str (Txt.join a (l.map f))) M) : joinQ a (l.map fun x => .str (f x)) M Q := by
  unfold joinQ
  rw [strsOf_map]
  exact ⟨h1, h⟩
theorem addR_ll {p q : Addr} {xs ys : List D} (e1 : lstOf M p = some xs) (e2 : lstOf M q = some ys) (hz : xs.length + ys.length ≤ sizeLine) (h : Q (.lst (xs ++ ys)) M) : addR (.ref p) (.ref q) M Q := by
  show catR (.ref p) (.ref q) M Q
  simp only [catR, rdL_ref, e1, e2]
  exact ⟨hz, h⟩
theorem addR_lL {p : Addr} {xs ys : List D} (e1 : lstOf M p = some xs) (hz : xs.length + ys.length ≤ sizeLine) (h : Q (.lst (xs ++ ys)) M) : addR (.ref p) (.lst ys) M Q := by
  show catR (.ref p) (.lst ys) M Q
  simp only [catR, rdL_ref, rdL_lst, e1]
  exact ⟨hz, h⟩
theorem addR_Ll {p : Addr} {xs ys : List D} (e1 : lstOf M p = some xs) (hz : ys.length + xs.length ≤ sizeLine) (h : Q (.lst (ys ++ xs)) M) : addR (.lst ys) (.ref p) M Q := by
  show catR (.lst ys) (.ref p) M Q
  simp only [catR, rdL_ref, rdL_lst, e1]
  exact ⟨hz, h⟩
theorem append_go {p : Addr} {xs : List D} {d : D} (e : lstOf M p = some xs) (hz : xs.length < sizeLine) (h : Q .non (mup M p (.lst (xs ++ [d])))) : appendR (.ref p) [d] M Q := by
  unfold appendR
  simp only [e]
  exact ⟨hz, h⟩
theorem popAt_go {p : Addr} {xs : List D} {d : D} {i : Int} (e : lstOf M p = some xs) (h0 : 0 ≤ i) (h1 : i < 2 ^ 62) (e2 : xs[i.toNat]? = some d) (h : Q d (mup M p (.lst (xs.eraseIdx i.toNat)))) : popAtR (.ref p) [.int i] M Q := by
  unfold popAtR
  simp only [e, e2]
  exact ⟨⟨h0, h1⟩, h⟩
theorem pop_go {p : Addr} {xs : List D} {d : D} (e : lstOf M p = some (xs ++ [d])) (h : Q d (mup M p (.lst xs))) : popR (.ref p) [] M Q := by
  unfold popR
  simp only [e]
  rw [show (xs ++ [d])[(xs ++ [d]).length - 1]? = some d by simp]
  simpa using h
theorem ne_nil_l {p : Addr} {xs : List D} (e : lstOf M p = some xs) (h1 : pureDs xs = true) (h2 : depDs xs ≤ 99) (h : Q (.bl (!xs.isEmpty)) M) : neR (.ref p) (.lst []) M Q := by
  unfold neR
  rw [okD_l e, eqM_lL e, eqvDs_nil]
  exact ⟨⟨⟨h1, h2⟩, by simp [okD, resD, pureD, pureDs, depD, depDs]⟩, h⟩
theorem eq_nil_l {p : Addr} {xs : List D} (e : lstOf M p = some xs) (h1 : pureDs xs = true) (h2 : depDs xs ≤ 99) (h : Q (.bl xs.isEmpty) M) : eqR (.ref p) (.lst []) M Q := by
  unfold eqR
  rw [okD_l e, eqM_lL e, eqvDs_nil]
  exact ⟨⟨⟨h1, h2⟩, by simp [okD, resD, pureD, pureDs, depD, depDs]⟩, h⟩
theorem ne_nil_L {xs : List D} (h1 : pureDs xs = true) (h2 : depDs xs ≤ 99) (h : Q (.bl (!xs.isEmpty)) M) : neR (.lst xs) (.lst []) M Q := by
  unfold neR
  rw [okD_L, eqM_LL, eqvDs_nil]
  exact ⟨⟨⟨h1, h2⟩, by simp [okD, resD, pureD, pureDs, depD, depDs]⟩, h⟩
theorem eq_nil_L {xs : List D} (h1 : pureDs xs = true) (h2 : depDs xs ≤ 99) (h : Q (.bl xs.isEmpty) M) : eqR (.lst xs) (.lst []) M Q := by
  unfold eqR
  rw [okD_L, eqM_LL, eqvDs_nil]
  exact ⟨⟨⟨h1, h2⟩, by simp [okD, resD, pureD, pureDs, depD, depDs]⟩, h⟩
end
section
variable {M : Mm} {Q : DQ} {i j : Int} {x y : Str} {a b : Bool} {xs ys : List D}
theorem eqR_ii : eqR (.int i) (.int j) M Q = Q (.bl (i == j)) M := by simp only [eqR, okD_i, eqM_ii, and_true, true_and]
theorem eqR_ss : eqR (.str x) (.str y) M Q = Q (.bl (x == y)) M := by simp only [eqR, okD_s, eqM_ss, and_true, true_and]
theorem eqR_bb : eqR (.bl a) (.bl b) M Q = Q (.bl (a == b)) M := by simp only [eqR, okD_b, eqM_bb, and_true, true_and]
theorem eqR_tt : eqR (.tup xs) (.tup ys) M Q = (((pureDs xs = true ∧ depDs xs ≤ 99) ∧ pureDs ys = true ∧ depDs ys ≤ 99) ∧ Q (.bl (eqvDs xs ys)) M) := by simp only [eqR, okD_t, eqM_tt]
theorem eqR_LL : eqR (.lst xs) (.lst ys) M Q = (((pureDs xs = true ∧ depDs xs ≤ 99) ∧ pureDs ys = true ∧ depDs ys ≤ 99) ∧ Q (.bl (eqvDs xs ys)) M) := by simp only [eqR, okD_L, eqM_LL]
theorem neR_ii : neR (.int i) (.int j) M Q = Q (.bl (!(i == j))) M := by simp only [neR, okD_i, eqM_ii, and_true, true_and]
theorem neR_ss : neR (.str x) (.str y) M Q = Q (.bl (!(x == y))) M := by simp only [neR, okD_s, eqM_ss, and_true, true_and]
theorem neR_bb : neR (.bl a) (.bl b) M Q = Q (.bl (!(a == b))) M := by simp only [neR, okD_b, eqM_bb, and_true, true_and]
theorem neR_tt : neR (.tup xs) (.tup ys) M Q = (((pureDs xs = true ∧ depDs xs ≤ 99) ∧ pureDs ys = true ∧ depDs ys ≤ 99) ∧ Q (.bl (!eqvDs xs ys)) M) := by simp only [neR, okD_t, eqM_tt]
theorem neR_LL : neR (.lst xs) (.lst ys) M Q = (((pureDs xs = true ∧ depDs xs ≤ 99) ∧ pureDs ys = true ∧ depDs ys ≤ 99) ∧ Q (.bl (!eqvDs xs ys)) M) := by simp only [neR, okD_L, eqM_LL]
end
theorem ifs2 {c e : Prop} [Decidable c] [Decidable e] {a b : Prop} (h1 : c → e → a) (h2 : ¬(c ∧ e) → b) : if c then (if e then a else b) else b := by
  split
  · split
    · exact h1 (by assumption) (by assumption)
    · rename_i h; exact h2 fun z => h z.2
  · rename_i h; exact h2 fun z => h z.1
theorem ifs2o {c e : Prop} [Decidable c] [Decidable e] {a b : Prop} (h1 : c ∨ e → a) (h2 : ¬c → ¬e → b) : if c then a else if e then a else b := by
  split
  · exact h1 (.inl (by assumption))
  · split
    · exact h1 (.inr (by assumption))
    · exact h2 (by assumption) (by assumption)
theorem cut_nat {z : Str} (i : Nat) : cps (cutS z none (some (0 + (i : Int) + 1))) = (cps z).take (i + 1) := by
  rw [cps_cut, show (0 + (i : Int) + 1) = ((i + 1 : Nat) : Int) by omega, cutL_to]
theorem pureDs_str (ns : List Str) : pureDs (ns.map D.str) = true := pureDs_map _ (fun _ => rfl) ns
theorem depDs_str (ns : List Str) : depDs (ns.map D.str) ≤ 1 := depDs_map _ 1 (Nat.le_refl _) (fun _ => by simp [depD]) ns
/-- the store grows; the list at p may change -/
theorem Ext.mup {d c p : Addr} {M M1 : Mm} {o : MO} (x : Ext d c M M1) (n : M p = none) : Ext d c M (mup M1 p o) := x.put n
theorem lstOf_keep {M : Mm} {p q : Addr} {o : MO} {xs : List D} (h : p ≠ q) (e : lstOf M p = some xs) : lstOf (mup M q o) p = some xs := by rw [lstOf_mup_ne h]; exact e
theorem Deck.keep {M : Mm} {d c p : Addr} {r : Nat} {o : MO} (h : Deck M d c r) (h1 : p ≠ d) (h2 : p ≠ c) : Deck (DM.mup M p o) d c r := h.put h1 h2
theorem ne_of_lst {M : Mm} {p q : Addr} {xs : List D} (e : lstOf M p = some xs) (n : M q = none) : p ≠ q := by
  rintro rfl
  rw [of_lstOf e] at n
  cases n
end DM

namespace DM
open PySem L2
open PyProof.Rows (b2i)

/-! ### what == tells of plain values -/
mutual
theorem eqvD_refl : ∀ d : D, pureD d = true → eqvD d d = true
  | .non, _ => by simp [eqvD]
  | .bl _, _ => by simp [eqvD]
  | .int _, _ => by simp [eqvD]
  | .str _, _ => by simp [eqvD]
  | .tup xs, h => by simp only [eqvD]; exact eqvDs_refl xs (by simpa [pureD] using h)
  | .lst xs, h => by simp only [eqvD]; exact eqvDs_refl xs (by simpa [pureD] using h)
  | .ref _, h => by simp [pureD] at h
  | .ty _, h => by simp [pureD] at h
  | .dic _, h => by simp [pureD] at h
theorem eqvDs_refl : ∀ ds : List D, pureDs ds = true → eqvDs ds ds = true
  | [], _ => by simp [eqvDs]
  | d :: ds, h => by
    have h1 := Bool.and_eq_true_iff.mp (show (pureD d && pureDs ds) = true by simpa [pureDs] using h)
    simp only [eqvDs, Bool.and_eq_true]
    exact ⟨eqvD_refl d h1.1, eqvDs_refl ds h1.2⟩
end
/-! no truths, no whole numbers beside them -/
mutual
def noBl : D → Bool
  | .bl _ => false
  | .tup xs => noBls xs
  | .lst xs => noBls xs
  | .ref _ => false
  | .ty _ => false
  | .dic _ => false
  | .dit _ => false
  | .non => true
  | .int _ => true
  | .str _ => true
def noBls : List D → Bool
  | [] => true
  | x :: xs => noBl x && noBls xs
end
mutual
theorem eqvD_eq : ∀ d e : D, noBl d = true → noBl e = true → eqvD d e = true → d = e
  | .non, e, _, _, h => by cases e <;> simp [eqvD] at h ⊢
  | .int _, e, _, he, h => by cases e <;> simp_all [eqvD, noBl]
  | .str _, e, _, _, h => by cases e <;> simp_all [eqvD]
  | .bl _, _, h, _, _ => by simp [noBl] at h
  | .ref _, _, h, _, _ => by simp [noBl] at h
  | .ty _, _, h, _, _ => by simp [noBl] at h
  | .dic _, _, h, _, _ => by simp [noBl] at h
  | .tup xs, e, hd, he, h => by
    cases e with
    | tup ys =>
      simp only [eqvD] at h
      rw [eqvDs_eq xs ys (by simpa [noBl] using hd) (by simpa [noBl] using he) h]
    | _ => simp [eqvD] at h
  | .lst xs, e, hd, he, h => by
    cases e with
    | lst ys =>
      simp only [eqvD] at h
      rw [eqvDs_eq xs ys (by simpa [noBl] using hd) (by simpa [noBl] using he) h]
    | _ => simp [eqvD] at h
theorem eqvDs_eq : ∀ ds es : List D, noBls ds = true → noBls es = true → eqvDs ds es = true → ds = es
  | [], es, _, _, h => by cases es with
    | nil => rfl
    | cons _ _ => simp [eqvDs] at h
  | d :: ds, es, hd, he, h => by
    cases es with
    | nil => simp [eqvDs] at h
    | cons e es =>
      have h1 := Bool.and_eq_true_iff.mp (show (noBl d && noBls ds) = true by simpa [noBls] using hd)
      have h2 := Bool.and_eq_true_iff.mp (show (noBl e && noBls es) = true by simpa [noBls] using he)
      have h3 := Bool.and_eq_true_iff.mp (show (eqvD d e && eqvDs ds es) = true by simpa [eqvDs] using h)
      rw [eqvD_eq d e h1.1 h2.1 h3.1, eqvDs_eq ds es h1.2 h2.2 h3.2]
end
mutual
theorem pure_noBl : ∀ d : D, noBl d = true → pureD d = true
  | .non, _ => rfl
  | .int _, _ => rfl
  | .str _, _ => rfl
  | .bl _, h => by simp [noBl] at h
  | .ref _, h => by simp [noBl] at h
  | .ty _, h => by simp [noBl] at h
  | .dic _, h => by simp [noBl] at h
  | .dit _, h => by simp [noBl] at h
  | .tup xs, h => by simp only [pureD]; exact pure_noBls xs (by simpa [noBl] using h)
  | .lst xs, h => by simp only [pureD]; exact pure_noBls xs (by simpa [noBl] using h)
theorem pure_noBls : ∀ ds : List D, noBls ds = true → pureDs ds = true
  | [], _ => rfl
  | d :: ds, h => by
    have h1 := Bool.and_eq_true_iff.mp (show (noBl d && noBls ds) = true by simpa [noBls] using h)
    simp only [pureDs, Bool.and_eq_true]
    exact ⟨pure_noBl d h1.1, pure_noBls ds h1.2⟩
end
noncomputable instance : DecidableEq D := fun a b => Classical.propDecidable _
theorem eqvD_dec {d e : D} (h : noBl d = true) (h' : noBl e = true) : eqvD d e = true ↔ d = e := ⟨eqvD_eq d e h h', fun q => by rw [q]; exact eqvD_refl _ (pure_noBl _ h')⟩
theorem eqvDs_dec {d e : List D} (h : noBls d = true) (h' : noBls e = true) : eqvDs d e = true ↔ d = e := ⟨eqvDs_eq d e h h', fun q => by rw [q]; exact eqvDs_refl _ (pure_noBls _ h')⟩
theorem noBls_map {α : Type} (f : α → D) (h : ∀ a, noBl (f a) = true) : ∀ l : List α, noBls (l.map f) = true
  | [] => rfl
  | a :: l => by rw [List.map_cons, noBls, h a, noBls_map f h l]; rfl
theorem noBls_str (ns : List Str) : noBls (ns.map D.str) = true := noBls_map _ (fun _ => rfl) ns
theorem map_str_inj : ∀ {a b : List Str}, a.map D.str = b.map D.str → a = b
  | [], [], _ => rfl
  | [], _ :: _, h => by simp at h
  | _ :: _, [], h => by simp at h
  | x :: a, y :: b, h => by
    simp only [List.map_cons, List.cons.injEq, D.str.injEq] at h
    rw [h.1, map_str_inj h.2]
theorem eqvDs_strs {a b : List Str} : eqvDs (a.map D.str) (b.map D.str) = decide (a = b) := by
  rw [Bool.eq_iff_iff, eqvDs_dec (noBls_str _) (noBls_str _), decide_eq_true_eq]
  exact ⟨map_str_inj, fun q => by rw [q]⟩
/-! ### at a def's end -/
theorem Shr.up {R : DQ} {x : D} {d c : Addr} {M0 M' : Mm} {r : Nat} (X : Upto d c M0 M') (D : Deck M' d c r) (h : ∀ M2, Upto d c M0 M2 → Deck M2 d c r → R x M2) : Shr R x M' := Shr.all (h M' X D)
/-! ### loops with a list of their own: pure -/
section
variable {ok : Mm → Prop} {g : TDG} {tt : TDT} {te : TDE} {ds0 : DSt} {Q : List D → Mm → Prop}
/-- each item's answer alone: a thing for a thing -/
theorem lcW_fun {α : Type} (e : α → D) (f : α → D) {l : List α} {M : Mm} (hz : l.length ≤ sizeLine) (hok : ok M)
    (h : ∀ x ∈ l, ∀ (N : DQ) (F : Mm → Prop), N (f x) M → g (e x) ds0 M fun ds' M2 => tt ds' M2 fun b M3 => if b = true then te ds' M3 N else F M3)
    (fin : Q (l.map f) M) : lcW ok g tt te ds0 Q (l.map e) [] M := by
  refine lcW_go (fun i acc M' => M' = M ∧ acc = (l.take i).map f ∧ i ≤ l.length) (l.map e) (fun i acc M' h => by rw [h.1]; exact hok) (fun i x N ex hN acc M' hI => ?_) (fun acc M' hI => ?_) M ⟨rfl, by simp, Nat.zero_le _⟩
  · obtain ⟨rfl, rfl, hi⟩ := hI
    rw [List.getElem?_map] at ex
    obtain ⟨y, hy, rfl⟩ := Option.map_eq_some_iff.mp ex
    have hlt := (List.getElem?_eq_some_iff.mp hy).1
    refine h y (List.mem_of_getElem? hy) (fun d M4 => ((l.take i).map f).length < sizeLine ∧ N ((l.take i).map f ++ [d]) M4) _ ⟨?_, hN _ _ ⟨rfl, ?_, hlt⟩⟩
    · simp only [List.length_map, List.length_take]; omega
    · rw [List.take_add_one, hy]; simp
  · obtain ⟨rfl, rfl, _⟩ := hI
    rw [List.length_map, List.take_length]
    exact fin
/-- with a test -/
theorem lcW_filter {α : Type} (e : α → D) (p : α → Bool) (f : α → D) {l : List α} {M : Mm} (hz : l.length ≤ sizeLine) (hok : ok M)
    (h : ∀ x ∈ l, ∀ (N : DQ) (F : Mm → Prop), (p x = true → N (f x) M) → (p x = false → F M) → g (e x) ds0 M fun ds' M2 => tt ds' M2 fun b M3 => if b = true then te ds' M3 N else F M3)
    (fin : Q ((l.filter p).map f) M) : lcW ok g tt te ds0 Q (l.map e) [] M := by
  refine lcW_go (fun i acc M' => M' = M ∧ acc = ((l.take i).filter p).map f ∧ i ≤ l.length) (l.map e) (fun i acc M' h => by rw [h.1]; exact hok) (fun i x N ex hN acc M' hI => ?_) (fun acc M' hI => ?_) M ⟨rfl, by simp, Nat.zero_le _⟩
  · obtain ⟨rfl, rfl, hi⟩ := hI
    rw [List.getElem?_map] at ex
    obtain ⟨y, hy, rfl⟩ := Option.map_eq_some_iff.mp ex
    have hlt := (List.getElem?_eq_some_iff.mp hy).1
    have hle : ((l.take i).filter p).length ≤ i := Nat.le_trans (List.length_filter_le _ _) (by simp; omega)
    refine h y (List.mem_of_getElem? hy) (fun d M4 => (((l.take i).filter p).map f).length < sizeLine ∧ N (((l.take i).filter p).map f ++ [d]) M4) _ (fun hp => ⟨?_, hN _ _ ⟨rfl, ?_, hlt⟩⟩) fun hp => hN _ _ ⟨rfl, ?_, hlt⟩
    · simp only [List.length_map]; omega
    · rw [List.take_add_one, hy]; simp [List.filter_cons, hp]
    · rw [List.take_add_one, hy]; simp [List.filter_cons, hp]
  · obtain ⟨rfl, rfl, _⟩ := hI
    rw [List.length_map, List.take_length]
    exact fin
end
section
variable {M : Mm} {Q : DQ} {i : Int} {x : Str} {a b : Bool} {xs : List D} {p : Addr} {kvs : List (Key × D)}
theorem isR_nn : isR .non .non M Q = Q (.bl true) M := by simp [isR, DM.isQ, isNonD]
theorem isR_tn : isR (.tup xs) .non M Q = Q (.bl false) M := by simp [isR, DM.isQ, isNonD]
theorem isR_Ln : isR (.lst xs) .non M Q = Q (.bl false) M := by simp [isR, DM.isQ, isNonD]
theorem isR_sn : isR (.str x) .non M Q = Q (.bl false) M := by simp [isR, DM.isQ, isNonD]
theorem isR_in : isR (.int i) .non M Q = Q (.bl false) M := by simp [isR, DM.isQ, isNonD]
theorem isR_bn : isR (.bl a) .non M Q = Q (.bl false) M := by simp [isR, DM.isQ, isNonD]
theorem isR_bb : isR (.bl a) (.bl b) M Q = Q (.bl (decide (a = b))) M := by simp [isR, DM.isQ]
theorem isNotR_nn : isNotR .non .non M Q = Q (.bl false) M := by simp [isNotR, DM.isQ, isNonD]
theorem isNotR_tn : isNotR (.tup xs) .non M Q = Q (.bl true) M := by simp [isNotR, DM.isQ, isNonD]
theorem isNotR_Ln : isNotR (.lst xs) .non M Q = Q (.bl true) M := by simp [isNotR, DM.isQ, isNonD]
theorem isNotR_sn : isNotR (.str x) .non M Q = Q (.bl true) M := by simp [isNotR, DM.isQ, isNonD]
theorem isNotR_in : isNotR (.int i) .non M Q = Q (.bl true) M := by simp [isNotR, DM.isQ, isNonD]
theorem isNotR_bn : isNotR (.bl a) .non M Q = Q (.bl true) M := by simp [isNotR, DM.isQ, isNonD]
theorem isNotR_bb : isNotR (.bl a) (.bl b) M Q = Q (.bl (!decide (a = b))) M := by simp [isNotR, DM.isQ]
/-! isinstance of known kinds -/
theorem isi_t_bool : isiR [.tup xs, .ty "bool"] M Q = Q (.bl false) M := by
  show (isiOk "tuple" "bool" = true ∧ Q (.bl (isiB "tuple" "bool")) M) = _
  rw [show isiOk "tuple" "bool" = true by decide, show isiB "tuple" "bool" = false by decide]; simp
theorem isi_t_int : isiR [.tup xs, .ty "int"] M Q = Q (.bl false) M := by
  show (isiOk "tuple" "int" = true ∧ Q (.bl (isiB "tuple" "int")) M) = _
  rw [show isiOk "tuple" "int" = true by decide, show isiB "tuple" "int" = false by decide]; simp
theorem isi_t_str : isiR [.tup xs, .ty "str"] M Q = Q (.bl false) M := by
  show (isiOk "tuple" "str" = true ∧ Q (.bl (isiB "tuple" "str")) M) = _
  rw [show isiOk "tuple" "str" = true by decide, show isiB "tuple" "str" = false by decide]; simp
theorem isi_t_tuple : isiR [.tup xs, .ty "tuple"] M Q = Q (.bl true) M := by
  show (isiOk "tuple" "tuple" = true ∧ Q (.bl (isiB "tuple" "tuple")) M) = _
  rw [show isiOk "tuple" "tuple" = true by decide, show isiB "tuple" "tuple" = true by decide]; simp
theorem isi_t_list : isiR [.tup xs, .ty "list"] M Q = Q (.bl false) M := by
  show (isiOk "tuple" "list" = true ∧ Q (.bl (isiB "tuple" "list")) M) = _
  rw [show isiOk "tuple" "list" = true by decide, show isiB "tuple" "list" = false by decide]; simp
theorem isi_t_dict : isiR [.tup xs, .ty "dict"] M Q = Q (.bl false) M := by
  show (isiOk "tuple" "dict" = true ∧ Q (.bl (isiB "tuple" "dict")) M) = _
  rw [show isiOk "tuple" "dict" = true by decide, show isiB "tuple" "dict" = false by decide]; simp
theorem isi_s_bool : isiR [.str x, .ty "bool"] M Q = Q (.bl false) M := by
  show (isiOk "str" "bool" = true ∧ Q (.bl (isiB "str" "bool")) M) = _
  rw [show isiOk "str" "bool" = true by decide, show isiB "str" "bool" = false by decide]; simp
theorem isi_s_int : isiR [.str x, .ty "int"] M Q = Q (.bl false) M := by
  show (isiOk "str" "int" = true ∧ Q (.bl (isiB "str" "int")) M) = _
  rw [show isiOk "str" "int" = true by decide, show isiB "str" "int" = false by decide]; simp
theorem isi_s_str : isiR [.str x, .ty "str"] M Q = Q (.bl true) M := by
  show (isiOk "str" "str" = true ∧ Q (.bl (isiB "str" "str")) M) = _
  rw [show isiOk "str" "str" = true by decide, show isiB "str" "str" = true by decide]; simp
theorem isi_s_tuple : isiR [.str x, .ty "tuple"] M Q = Q (.bl false) M := by
  show (isiOk "str" "tuple" = true ∧ Q (.bl (isiB "str" "tuple")) M) = _
  rw [show isiOk "str" "tuple" = true by decide, show isiB "str" "tuple" = false by decide]; simp
theorem isi_s_list : isiR [.str x, .ty "list"] M Q = Q (.bl false) M := by
  show (isiOk "str" "list" = true ∧ Q (.bl (isiB "str" "list")) M) = _
  rw [show isiOk "str" "list" = true by decide, show isiB "str" "list" = false by decide]; simp
theorem isi_s_dict : isiR [.str x, .ty "dict"] M Q = Q (.bl false) M := by
  show (isiOk "str" "dict" = true ∧ Q (.bl (isiB "str" "dict")) M) = _
  rw [show isiOk "str" "dict" = true by decide, show isiB "str" "dict" = false by decide]; simp
theorem isi_i_bool : isiR [.int i, .ty "bool"] M Q = Q (.bl false) M := by
  show (isiOk "int" "bool" = true ∧ Q (.bl (isiB "int" "bool")) M) = _
  rw [show isiOk "int" "bool" = true by decide, show isiB "int" "bool" = false by decide]; simp
theorem isi_i_int : isiR [.int i, .ty "int"] M Q = Q (.bl true) M := by
  show (isiOk "int" "int" = true ∧ Q (.bl (isiB "int" "int")) M) = _
  rw [show isiOk "int" "int" = true by decide, show isiB "int" "int" = true by decide]; simp
theorem isi_i_str : isiR [.int i, .ty "str"] M Q = Q (.bl false) M := by
  show (isiOk "int" "str" = true ∧ Q (.bl (isiB "int" "str")) M) = _
  rw [show isiOk "int" "str" = true by decide, show isiB "int" "str" = false by decide]; simp
theorem isi_i_tuple : isiR [.int i, .ty "tuple"] M Q = Q (.bl false) M := by
  show (isiOk "int" "tuple" = true ∧ Q (.bl (isiB "int" "tuple")) M) = _
  rw [show isiOk "int" "tuple" = true by decide, show isiB "int" "tuple" = false by decide]; simp
theorem isi_i_list : isiR [.int i, .ty "list"] M Q = Q (.bl false) M := by
  show (isiOk "int" "list" = true ∧ Q (.bl (isiB "int" "list")) M) = _
  rw [show isiOk "int" "list" = true by decide, show isiB "int" "list" = false by decide]; simp
theorem isi_i_dict : isiR [.int i, .ty "dict"] M Q = Q (.bl false) M := by
  show (isiOk "int" "dict" = true ∧ Q (.bl (isiB "int" "dict")) M) = _
  rw [show isiOk "int" "dict" = true by decide, show isiB "int" "dict" = false by decide]; simp
theorem isi_b_bool : isiR [.bl a, .ty "bool"] M Q = Q (.bl true) M := by
  show (isiOk "bool" "bool" = true ∧ Q (.bl (isiB "bool" "bool")) M) = _
  rw [show isiOk "bool" "bool" = true by decide, show isiB "bool" "bool" = true by decide]; simp
theorem isi_b_int : isiR [.bl a, .ty "int"] M Q = Q (.bl true) M := by
  show (isiOk "bool" "int" = true ∧ Q (.bl (isiB "bool" "int")) M) = _
  rw [show isiOk "bool" "int" = true by decide, show isiB "bool" "int" = true by decide]; simp
theorem isi_b_str : isiR [.bl a, .ty "str"] M Q = Q (.bl false) M := by
  show (isiOk "bool" "str" = true ∧ Q (.bl (isiB "bool" "str")) M) = _
  rw [show isiOk "bool" "str" = true by decide, show isiB "bool" "str" = false by decide]; simp
theorem isi_b_tuple : isiR [.bl a, .ty "tuple"] M Q = Q (.bl false) M := by
  show (isiOk "bool" "tuple" = true ∧ Q (.bl (isiB "bool" "tuple")) M) = _
  rw [show isiOk "bool" "tuple" = true by decide, show isiB "bool" "tuple" = false by decide]; simp
theorem isi_b_list : isiR [.bl a, .ty "list"] M Q = Q (.bl false) M := by
  show (isiOk "bool" "list" = true ∧ Q (.bl (isiB "bool" "list")) M) = _
  rw [show isiOk "bool" "list" = true by decide, show isiB "bool" "list" = false by decide]; simp
theorem isi_b_dict : isiR [.bl a, .ty "dict"] M Q = Q (.bl false) M := by
  show (isiOk "bool" "dict" = true ∧ Q (.bl (isiB "bool" "dict")) M) = _
  rw [show isiOk "bool" "dict" = true by decide, show isiB "bool" "dict" = false by decide]; simp
theorem isi_n_bool : isiR [.non, .ty "bool"] M Q = Q (.bl false) M := by
  show (isiOk "NoneType" "bool" = true ∧ Q (.bl (isiB "NoneType" "bool")) M) = _
  rw [show isiOk "NoneType" "bool" = true by decide, show isiB "NoneType" "bool" = false by decide]; simp
theorem isi_n_int : isiR [.non, .ty "int"] M Q = Q (.bl false) M := by
  show (isiOk "NoneType" "int" = true ∧ Q (.bl (isiB "NoneType" "int")) M) = _
  rw [show isiOk "NoneType" "int" = true by decide, show isiB "NoneType" "int" = false by decide]; simp
theorem isi_n_str : isiR [.non, .ty "str"] M Q = Q (.bl false) M := by
  show (isiOk "NoneType" "str" = true ∧ Q (.bl (isiB "NoneType" "str")) M) = _
  rw [show isiOk "NoneType" "str" = true by decide, show isiB "NoneType" "str" = false by decide]; simp
theorem isi_n_tuple : isiR [.non, .ty "tuple"] M Q = Q (.bl false) M := by
  show (isiOk "NoneType" "tuple" = true ∧ Q (.bl (isiB "NoneType" "tuple")) M) = _
  rw [show isiOk "NoneType" "tuple" = true by decide, show isiB "NoneType" "tuple" = false by decide]; simp
theorem isi_n_list : isiR [.non, .ty "list"] M Q = Q (.bl false) M := by
  show (isiOk "NoneType" "list" = true ∧ Q (.bl (isiB "NoneType" "list")) M) = _
  rw [show isiOk "NoneType" "list" = true by decide, show isiB "NoneType" "list" = false by decide]; simp
theorem isi_n_dict : isiR [.non, .ty "dict"] M Q = Q (.bl false) M := by
  show (isiOk "NoneType" "dict" = true ∧ Q (.bl (isiB "NoneType" "dict")) M) = _
  rw [show isiOk "NoneType" "dict" = true by decide, show isiB "NoneType" "dict" = false by decide]; simp
theorem isi_L_bool : isiR [.lst xs, .ty "bool"] M Q = Q (.bl false) M := by
  show (isiOk "list" "bool" = true ∧ Q (.bl (isiB "list" "bool")) M) = _
  rw [show isiOk "list" "bool" = true by decide, show isiB "list" "bool" = false by decide]; simp
theorem isi_L_int : isiR [.lst xs, .ty "int"] M Q = Q (.bl false) M := by
  show (isiOk "list" "int" = true ∧ Q (.bl (isiB "list" "int")) M) = _
  rw [show isiOk "list" "int" = true by decide, show isiB "list" "int" = false by decide]; simp
theorem isi_L_str : isiR [.lst xs, .ty "str"] M Q = Q (.bl false) M := by
  show (isiOk "list" "str" = true ∧ Q (.bl (isiB "list" "str")) M) = _
  rw [show isiOk "list" "str" = true by decide, show isiB "list" "str" = false by decide]; simp
theorem isi_L_tuple : isiR [.lst xs, .ty "tuple"] M Q = Q (.bl false) M := by
  show (isiOk "list" "tuple" = true ∧ Q (.bl (isiB "list" "tuple")) M) = _
  rw [show isiOk "list" "tuple" = true by decide, show isiB "list" "tuple" = false by decide]; simp
theorem isi_L_list : isiR [.lst xs, .ty "list"] M Q = Q (.bl true) M := by
  show (isiOk "list" "list" = true ∧ Q (.bl (isiB "list" "list")) M) = _
  rw [show isiOk "list" "list" = true by decide, show isiB "list" "list" = true by decide]; simp
theorem isi_L_dict : isiR [.lst xs, .ty "dict"] M Q = Q (.bl false) M := by
  show (isiOk "list" "dict" = true ∧ Q (.bl (isiB "list" "dict")) M) = _
  rw [show isiOk "list" "dict" = true by decide, show isiB "list" "dict" = false by decide]; simp
theorem isi_d_bool : isiR [.dic kvs, .ty "bool"] M Q = Q (.bl false) M := by
  show (isiOk "dict" "bool" = true ∧ Q (.bl (isiB "dict" "bool")) M) = _
  rw [show isiOk "dict" "bool" = true by decide, show isiB "dict" "bool" = false by decide]; simp
theorem isi_d_int : isiR [.dic kvs, .ty "int"] M Q = Q (.bl false) M := by
  show (isiOk "dict" "int" = true ∧ Q (.bl (isiB "dict" "int")) M) = _
  rw [show isiOk "dict" "int" = true by decide, show isiB "dict" "int" = false by decide]; simp
theorem isi_d_str : isiR [.dic kvs, .ty "str"] M Q = Q (.bl false) M := by
  show (isiOk "dict" "str" = true ∧ Q (.bl (isiB "dict" "str")) M) = _
  rw [show isiOk "dict" "str" = true by decide, show isiB "dict" "str" = false by decide]; simp
theorem isi_d_tuple : isiR [.dic kvs, .ty "tuple"] M Q = Q (.bl false) M := by
  show (isiOk "dict" "tuple" = true ∧ Q (.bl (isiB "dict" "tuple")) M) = _
  rw [show isiOk "dict" "tuple" = true by decide, show isiB "dict" "tuple" = false by decide]; simp
theorem isi_d_list : isiR [.dic kvs, .ty "list"] M Q = Q (.bl false) M := by
  show (isiOk "dict" "list" = true ∧ Q (.bl (isiB "dict" "list")) M) = _
  rw [show isiOk "dict" "list" = true by decide, show isiB "dict" "list" = false by decide]; simp
theorem isi_d_dict : isiR [.dic kvs, .ty "dict"] M Q = Q (.bl true) M := by
  show (isiOk "dict" "dict" = true ∧ Q (.bl (isiB "dict" "dict")) M) = _
  rw [show isiOk "dict" "dict" = true by decide, show isiB "dict" "dict" = true by decide]; simp
theorem isiOk_all : (∀ a ∈ ["NoneType", "bool", "int", "str", "tuple", "list", "dict"], ∀ n ∈ ["bool", "int", "str", "tuple", "list", "dict"], isiOk a n = true) := by decide
end
theorem natlit_eq {n : Nat} : ((no_index (OfNat.ofNat n) : Nat) : Int) = OfNat.ofNat n := rfl
theorem small_line2 {n : Nat} (h : n ≤ 16000000) : n ≤ sizeLine := by rw [sizeLine_eq]; omega
theorem ixN_nat {n j : Nat} (hj : j < n) : ixN n (j : Int) = some j := by
  unfold ixN
  rw [if_pos (by omega), if_pos (by omega), Int.toNat_natCast]
theorem rangeD_map (lo : Int) (n : Nat) : rangeD lo n = (List.range n).map fun (i : Nat) => D.int (lo + (i : Int)) := rfl
end DM

/-! what this program is about: names, rules, stands -/
namespace DM
open PySem L2
open PyProof.Rows (b2i)
/-! _law_names -/
def lets : List Nat := (List.range 26).map (97 + ·)
def sgns : List Nat := lets ++ (List.range 10).map (48 + ·)
theorem cps_lets : cps ("abcdefghijklmnopqrstuvwxyz" : Str) = lets := by decide +kernel
theorem cps_sgns : cps (("abcdefghijklmnopqrstuvwxyz" : Str) ++ ("0123456789" : Str)) = sgns := by decide +kernel
/-- what a name is -/
def NameL (l : List Nat) : Prop := (∃ c r, l = c :: r ∧ c ∈ lets) ∧ (∀ c ∈ l, c ∈ sgns) ∧ l.length ≤ 8
def NameS (z : Str) : Prop := NameL (cps z)
theorem lets_sgns {c : Nat} (h : c ∈ lets) : c ∈ sgns := List.mem_append_left _ h
theorem occ_lets : ∀ j : Fin 26, Builtin.Str.occurrences ("abcdefghijklmnopqrstuvwxyz" : Str) ⟨#[lets[j.1]!]⟩ 0 26 1 = [j.1] := by decide +kernel
theorem occ_sgns : ∀ j : Fin 36, Builtin.Str.occurrences (("abcdefghijklmnopqrstuvwxyz" : Str) ++ ("0123456789" : Str)) ⟨#[sgns[j.1]!]⟩ 0 36 1 = [j.1] := by decide +kernel
theorem lets_len : lets.length = 26 := by decide
theorem sgns_len : sgns.length = 36 := by decide
theorem lets_get {j : Nat} (h : j < 26) : ∃ c, lets[j]? = some c ∧ c ∈ lets := ⟨lets[j]'(by rw [lets_len]; exact h), List.getElem?_eq_getElem _, List.getElem_mem _⟩
theorem sgns_get {j : Nat} (h : j < 36) : ∃ c, sgns[j]? = some c ∧ c ∈ sgns := ⟨sgns[j]'(by rw [sgns_len]; exact h), List.getElem?_eq_getElem _, List.getElem_mem _⟩
theorem idx_lets {c : Nat} (h : c ∈ lets) : ∃ j, j < 26 ∧ lets[j]? = some c ∧ Builtin.Str.occurrences ("abcdefghijklmnopqrstuvwxyz" : Str) ⟨#[c]⟩ 0 26 1 = [j] := by
  obtain ⟨j, hj, rfl⟩ := List.getElem_of_mem h
  rw [lets_len] at hj
  have := occ_lets ⟨j, hj⟩
  rw [show lets[j]! = lets[j] from getElem!_pos lets j (by rw [lets_len]; exact hj)] at this
  exact ⟨j, hj, List.getElem?_eq_getElem _, this⟩
theorem idx_sgns {c : Nat} (h : c ∈ sgns) : ∃ j, j < 36 ∧ sgns[j]? = some c ∧ Builtin.Str.occurrences (("abcdefghijklmnopqrstuvwxyz" : Str) ++ ("0123456789" : Str)) ⟨#[c]⟩ 0 36 1 = [j] := by
  obtain ⟨j, hj, rfl⟩ := List.getElem_of_mem h
  rw [sgns_len] at hj
  have := occ_sgns ⟨j, hj⟩
  rw [show sgns[j]! = sgns[j] from getElem!_pos sgns j (by rw [sgns_len]; exact hj)] at this
  exact ⟨j, hj, List.getElem?_eq_getElem _, this⟩
theorem lets_nodup : lets.Nodup := by decide
theorem sgns_nodup : sgns.Nodup := by decide
theorem signs_one {z : Str} (h : z.length ≤ sizeLine) : True := trivial
theorem join_signs {cs : List Nat} : cps (Txt.join ("" : Str) (cs.map fun c => (⟨#[c]⟩ : Str))) = cs := by
  rw [show ("" : Str) = (⟨#[]⟩ : Str) from rfl, cps_join0, List.map_map]
  induction cs with
  | nil => rfl
  | cons c r ih => rw [List.map_cons, List.flatten_cons, ih]; rfl
theorem sum_ones (cs : List Nat) : ((cs.map fun c => (⟨#[c]⟩ : Str)).map (·.length)).sum = cs.length := by
  induction cs with
  | nil => rfl
  | cons c r ih => rw [List.map_cons, List.map_cons, List.sum_cons, ih]; show 1 + r.length = _; simp; omega
theorem index_lets {M : Mm} {Q : DQ} {c : Nat} (h : c ∈ lets) (k : ∀ j : Nat, j < 26 → Q (.int (j : Nat)) M) : indexQ (.str ("abcdefghijklmnopqrstuvwxyz" : Str)) (.str ⟨#[c]⟩) M Q := by
  obtain ⟨j, hj, _, e⟩ := idx_lets h
  unfold indexQ
  simp only
  rw [show ("abcdefghijklmnopqrstuvwxyz" : Str).length = 26 by decide +kernel, e]
  exact k j hj
theorem index_sgns {M : Mm} {Q : DQ} {c : Nat} (h : c ∈ sgns) (k : ∀ j : Nat, j < 36 → Q (.int (j : Nat)) M) : indexQ (.str (("abcdefghijklmnopqrstuvwxyz" : Str) ++ ("0123456789" : Str))) (.str ⟨#[c]⟩) M Q := by
  obtain ⟨j, hj, _, e⟩ := idx_sgns h
  unfold indexQ
  simp only
  rw [show (("abcdefghijklmnopqrstuvwxyz" : Str) ++ ("0123456789" : Str)).length = 36 by decide +kernel, e]
  exact k j hj
theorem len_le {z : Str} {l : List Nat} (e : cps z = l) (h : l.length ≤ 1000) : z.length ≤ sizeLine := by
  rw [cps_len, e]
  exact small_line (by omega)
theorem eraseIdx_map {α β : Type} (f : α → β) : ∀ (l : List α) (i : Nat), (l.map f).eraseIdx i = (l.eraseIdx i).map f
  | [], _ => rfl
  | _ :: _, 0 => rfl
  | _ :: l, i + 1 => by simp [eraseIdx_map f l i]
theorem name_take {c : Nat} {r : List Nat} (hc : c ∈ lets) (hr : ∀ x ∈ r, x ∈ sgns) (hl : r.length ≤ 7) (k : Nat) : NameL ((c :: r).take (k + 1)) := by
  refine ⟨⟨c, r.take k, by simp, hc⟩, fun x hx => ?_, ?_⟩
  · have := List.mem_of_mem_take hx
    rcases List.mem_cons.mp this with rfl | h
    · exact lets_sgns hc
    · exact hr x h
  · simp only [List.length_take, List.length_cons]; omega
theorem name_put0 {s : Nat} {m : List Nat} (hs : s ∈ lets) (hm : ∀ x ∈ m, x ∈ sgns) (hl : m.length ≤ 7) : NameL (s :: m) :=
  ⟨⟨s, m, rfl, hs⟩, fun x hx => by
    rcases List.mem_cons.mp hx with rfl | h
    · exact lets_sgns hs
    · exact hm x h, by simp; omega⟩
/-! _law_program -/
structure Rl where
  p : Str
  m : Str
  o : Str
  w : List Str
def ruleD (r : Rl) : D := .tup [.str r.p, .str r.m, .str r.o, .tup (r.w.map D.str)]
def progD (rs : List Rl) : D := .tup (rs.map ruleD)
/-- a rule of some places and marks -/
def RuleIn (ps ms : List Str) (x : Rl) : Prop := x.p ∈ ps ∧ x.m ∈ ms ∧ x.o ∈ ps ∧ x.w.length ≤ 2 ∧ ∀ y ∈ x.w, y ∈ ms
theorem sizes_ok : ∀ y ∈ [D.lst [.int 0, .int 1, .int 2], .lst [.int 0, .int 0, .int 1, .int 2], .lst [.int 0, .int 1, .int 2, .int 2], .lst [.int 0, .int 2]], ∃ zs : List Int, y = .lst (zs.map D.int) ∧ zs ≠ [] ∧ (∀ z ∈ zs, 0 ≤ z ∧ z ≤ 2) ∧ zs.length ≤ 4 := by
  intro y hy
  simp only [List.mem_cons, List.not_mem_nil, or_false] at hy
  rcases hy with rfl | rfl | rfl | rfl
  · exact ⟨[0, 1, 2], rfl, by decide, by decide, by decide⟩
  · exact ⟨[0, 0, 1, 2], rfl, by decide, by decide, by decide⟩
  · exact ⟨[0, 1, 2, 2], rfl, by decide, by decide, by decide⟩
  · exact ⟨[0, 2], rfl, by decide, by decide, by decide⟩
theorem noBl_rule (x : Rl) : noBl (ruleD x) = true := by simp [ruleD, noBl, noBls, noBls_str]
theorem noBls_rules (rs : List Rl) : noBls (rs.map ruleD) = true := noBls_map _ noBl_rule rs
/-! behind -/
abbrev St2 := Str × List Str
def stD (s : St2) : D := .tup [.str s.1, .tup (s.2.map D.str)]
def optD : Option St2 → D
  | none => .non
  | some s => stD s
def stepF (r : Rl) (s : St2) : Option St2 := if s.1 = r.p ∧ s.2.take 1 = [r.m] then some (r.o, r.w ++ s.2.drop 1) else none
def behF (rs : List Rl) (s : St2) (n : Int) : Option St2 := if 0 ≤ n then (match rs[n.toNat]? with | some r => stepF r s | none => none) else none
theorem noBl_st (s : St2) : noBl (stD s) = true := by simp [stD, noBl, noBls, noBls_str]
theorem eqv_take {xs : List Str} {t : Str} : eqvDs (cutL (xs.map D.str) none (some 1)) [D.str t] = decide (xs.take 1 = [t]) := by
  have e : cutL (xs.map D.str) none (some 1) = (xs.take 1).map D.str := by rw [show (1 : Int) = ((1 : Nat) : Int) from rfl, cutL_to, List.map_take]
  rw [e, show [D.str t] = [t].map D.str from rfl, eqvDs_strs]
theorem cut_drop1 {xs : List Str} : cutL (xs.map D.str) (some 1) none = (xs.drop 1).map D.str := by rw [cutL_from1, List.map_drop]
theorem strs_ok {xs : List Str} : pureDs (xs.map D.str) = true ∧ depDs (xs.map D.str) ≤ 99 := ⟨pureDs_str _, Nat.le_trans (depDs_str _) (by decide)⟩
theorem cut1_ok {xs : List Str} : pureDs (cutL (xs.map D.str) none (some 1)) = true ∧ depDs (cutL (xs.map D.str) none (some 1)) ≤ 99 := by
  have e : cutL (xs.map D.str) none (some 1) = (xs.take 1).map D.str := by rw [show (1 : Int) = ((1 : Nat) : Int) from rfl, cutL_to, List.map_take]
  rw [e]; exact strs_ok
/-! steps_of -/
def stepsF (rs : List Rl) (s : St2) : List (Int × St2) := (List.range rs.length).filterMap fun (n : Nat) => (behF rs s (n : Nat)).map fun t => ((n : Int), t)
def stepD (q : Int × St2) : D := .tup [.int q.1, stD q.2]
theorem stepsF_take {rs : List Rl} {s : St2} (i : Nat) : (List.range (i + 1)).filterMap (fun n => (behF rs s (n : Nat)).map fun t => ((n : Int), t)) =
    (List.range i).filterMap (fun n => (behF rs s (n : Nat)).map fun t => ((n : Int), t)) ++ (match behF rs s (i : Nat) with | some t => [((i : Int), t)] | none => []) := by
  rw [List.range_succ, List.filterMap_append]
  cases h : behF rs s (i : Nat) <;> simp [h]
theorem rules_dep (rs : List Rl) : depDs (rs.map ruleD) ≤ 99 := Nat.le_trans (depDs_map ruleD 3 (by decide) (fun r => by have := depDs_str r.w; simp only [ruleD, depD, depDs]; omega) rs) (by decide)
theorem cut_take {α : Type} (xs : List α) : cutL xs none (some 16) = xs.take 16 := by rw [show (16 : Int) = ((16 : Nat) : Int) from rfl, cutL_to]
section
variable {ok : Mm → Prop} {g : TDG} {tb : TDS} {D : DEnds}
/-- a loop whose turns keep what holds -/
theorem forW_keep (J : DSt → Mm → Prop) {xs : List DM.D} {ds : DSt} {M : Mm} (hok : ∀ ds M, J ds M → ok M)
    (step : ∀ x ∈ xs, ∀ (N : DSt → Mm → Prop), (∀ ds M, J ds M → N ds M) → ∀ ds M, J ds M → g x ds M fun ds' M' => tb { D with nx := N, ct := N, bk := D.nx } ds' M')
    (fin : ∀ ds M, J ds M → D.nx ds M) (h0 : J ds M) : forW ok g tb D xs ds M :=
  forW_go (fun _ ds M => J ds M) xs (fun _ ds M h => hok ds M h) (fun i x N e hN ds M h => step x (List.mem_of_getElem? e) N hN ds M h) (fun ds M h => fin ds M h) ds M h0
end
end DM

/-! enumerate of a tuple -/
namespace DMX
open PySem PySem.Spec
open AutoSeq1 (wpAny_loadPart')
theorem meets_enumT (l : Addr) (items : Array Value) (n : Nat) (dct : Option Addr) (sl : Array (Option Value)) :
    Meets (Builtin.«enumerate.__new__» ⟨[.type "enumerate", .ref l], []⟩) (fun _ R s => s.heap.get? l = some { cls := .type "tuple", dict := dct, data := .seq items n, slots := sl } ∧
      R (.ok (.ret (.ref (s.heap.push { cls := .type "tuple_iterator", data := .fields #[.ref l, .int 0 0] }).objs.size)))
        { s with heap := (s.heap.push { cls := .type "tuple_iterator", data := .fields #[.ref l, .int 0 0] }).push { cls := .type "enumerate", data := .fields #[.none, .bool false, .ref s.heap.objs.size, rawInt 0, .none, .none] } }) :=
  .of_wp fun prog w A R s h => by
    obtain ⟨hp, g, d, tk, os⟩ := s; obtain ⟨hl, h⟩ := h
    have hsub := sub_enumerate
    have hL : Heap.IsTuple (Shared.heap ⟨hp, g, d, tk, os⟩) l items := ⟨_, hl, rfl, n, rfl⟩
    wp_walk using wpAny_loadPart' hl
    refine wpAny_stack_any fun st => wpAny_pure ?_
    split
    · rename_i c _ _ _ _ _
      cases (c == Value.type "enumerate")
      · wp_walk using wpAny_loadPart' hl, wpAny_pyIter_tuple hL
        exact ⟨_, rfl, h⟩
      · wp_walk using wpAny_loadPart' hl, wpAny_pyIter_tuple hL
        exact ⟨_, rfl, h⟩
    · wp_walk using wpAny_loadPart' hl, wpAny_pyIter_tuple hL
      exact ⟨_, rfl, h⟩
section
variable {prog : Program} {w : World} {A : Around} {E : Value → Shared → Prop} {s : Shared}
theorem call_enumT {l : Addr} {items : Array Value} {Q : Value → Shared → Prop} (hL : s.heap.IsTuple l items)
    (h : ∀ h', IsEnum h' (s.heap.objs.size + 1) s.heap.objs.size 0 .none → h'.IsTupleIter s.heap.objs.size l 0 → h'.objs.size = s.heap.objs.size + 2 →
      (∀ b o, s.heap.get? b = some o → h'.get? b = some o) → Q (.ref (s.heap.objs.size + 1)) { s with heap := h' }) :
    wpAny (model prog w) A (call (.type "enumerate") [.ref l]) Q E s := by
  obtain ⟨⟨c, dct, dt, sl⟩, hl, hc, n, hd⟩ := hL
  replace hc : c = .type "tuple" := hc
  replace hd : dt = .seq items n := hd
  subst hc hd
  refine callType_new F.called_enumerate (by decide) (F.typeCall_enumerate_1 _) (F.newCall_enumerate_1 _) (fun obj => F.args_object_init_2 obj _) F.entry_enumerate_new
    (meets_enumT l items n dct sl) ⟨hl, ?_⟩
  have hz : (s.heap.push { cls := .type "tuple_iterator", data := .fields #[.ref l, .int 0 0] }).objs.size = s.heap.objs.size + 1 := Heap.size_push ..
  show _ ∧ _
  rw [hz]
  have he : IsEnum ((s.heap.push { cls := .type "tuple_iterator", data := .fields #[.ref l, .int 0 0] }).push
      { cls := .type "enumerate", data := .fields #[.none, .bool false, .ref s.heap.objs.size, rawInt 0, .none, .none] }) (s.heap.objs.size + 1) s.heap.objs.size 0 .none := by
    have := Heap.get?_push_size (s.heap.push { cls := .type "tuple_iterator", data := .fields #[.ref l, .int 0 0] })
      (o := { cls := .type "enumerate", data := .fields #[.none, .bool false, .ref s.heap.objs.size, rawInt 0, .none, .none] }) rfl
    rw [hz] at this; exact this
  refine ⟨⟨_, he, rfl⟩, h _ he ⟨_, Heap.get?_push_of_some _ (Heap.get?_push_size _ rfl), rfl, rfl⟩ (by rw [Heap.size_push, hz]) fun b o x => Heap.get?_push_of_some _ (Heap.get?_push_of_some _ x)⟩
end
end DMX
namespace L2
open PySem PySem.Spec PyProof.Rows
/-- the tuple at a, each item in a new pair -/
def IteT (K : PySem.W.Frag) (a : Addr) : It :=
  ⟨fun i H => ∃ (xs : List V) (x : V), SqT K H a xs ∧ xs[i]? = some x, fun i H v H' => ∃ T x, v = .ref T ∧ H T = none ∧ H' = upd H T (.tup [.int (i : Nat), x]) ∧ ∀ xs, SqT K H a xs → xs[i]? = some x, fun i H => ∃ xs : List V, SqT K H a xs ∧ xs.length = i⟩
theorem turn_enumT {P : Program} {w : World} {K : PySem.W.Frag} {elts : List Expr} {kk : Nat} {tpos : Pos} (a e it : Addr) (hai : a ≠ it) (hae : e ≠ a) :
    Turn P w K (.Tuple elts kk tpos) (IteT K a) [e, it] e (fun i h => (∃ old, IsEnum h e it ((i : Nat) : Int) old) ∧ h.IsTupleIter it a i ∧ e ≠ it) where
  mem := by simp
  obj := fun i h st b hb => by
    obtain ⟨⟨old, he⟩, ⟨o, ho, hc, hd⟩, _⟩ := st
    have e' : b = e ∨ b = it := by simpa using hb
    rcases e' with z | z
    · rw [z]; exact ⟨_, he, fun v q => nomatch q⟩
    · rw [z]; exact ⟨o, ho, fun v q => by rw [hd] at q; cases q⟩
  keep := fun i h h' st k => let ⟨⟨old, he⟩, hi, hne⟩ := st; ⟨⟨old, k e (by simp) _ he⟩, hi.at fun o q => k it (by simp) o q, hne⟩
  item := by
    intro X hP hw hK hc i pins s σ H E I hf st hg
    subst hP hw hK
    obtain ⟨⟨old, he⟩, hit, hne⟩ := st
    obtain ⟨xs, x, hq, hx⟩ := hg
    obtain ⟨its, rv, p, hz⟩ := I.tuple hq
    obtain ⟨u, hu, ru⟩ := rv.get hx
    have hel : e < s.heap.objs.size := Heap.lt_size he
    have hil : it < s.heap.objs.size := by obtain ⟨_, q, _⟩ := hit; exact Heap.lt_size q
    have Dr := Draws.tuple (prog := X.prog) (w := X.w) (A := X.A.in1) (I.ok.hd hc) it a hai its.toArray
    have hlt : i < its.toArray.size := by
      have := (List.getElem?_eq_some_iff.mp hu).1
      simpa using this
    refine wpAny_pyNext_enum_itemC Dr he ⟨hit, p⟩ hlt hne (by simp [hne, hae]) fun x' h' tk hP ho hit' hT hsz hk => ?_
    have ex : x' = u := by
      have e1 : its.toArray[i]? = some u := by simpa using hu
      exact Option.some.inj (hP.symm.trans e1)
    subst ex
    refine ⟨_, rfl, wpAny_letOwnedTupleGo_enum (s := { s with heap := h', toks := tk + 1 }) ho fun h'' he' sb => ?_⟩
    have hT2 : h''.get? s.heap.objs.size = some { cls := .type "tuple", data := .seq #[.int i tk, x'] } := (sb.2 _ (Nat.ne_of_gt hel)).trans hT
    have new : ObjOk X.prog X.w (upd H s.heap.objs.size (.tup [.int (i : Nat), x])) h'' s.heap.objs.size (.tup [.int (i : Nat), x]) :=
      ⟨by show 2 ≤ sizeLine; decide, [.int i tk, x'], .cons ⟨_, rfl⟩ (.cons ru .nil), ⟨_, hT2, rfl, _, rfl⟩⟩
    have I1 : Inv X pins σ (upd H s.heap.objs.size (.tup [.int (i : Nat), x])) { s with heap := h'', toks := tk + 1 } :=
      I.turnedNew (ch := [e, it]) (fun b ob hb q => (sb.2 b (fun z => hb (by simp [z]))).trans (hk b ob (fun z => hb (by simp [z])) (fun z => hb (by simp [z])) q)) hf (Nat.le_refl _) new
    refine ⟨.ref s.heap.objs.size, _, I1, rfl, ⟨_, x, rfl, I.hok.fresh (Nat.le_refl _), rfl, fun ys hy => by rw [I.tuple_inj hy hq]; exact hx⟩, ⟨⟨x', ?_⟩, hit'.1.at fun o q => (sb.2 it (Ne.symm hne)).trans q, hne⟩, fun b hb => ?_⟩
    · have e1 : ((i + 1 : Nat) : Int) = (i : Int) + 1 := by omega
      rw [e1]; exact he'
    · have hb' : b < s.heap.objs.size := by
        have e' : b = e ∨ b = it := by simpa using hb
        rcases e' with z | z
        · rw [z]; exact hel
        · rw [z]; exact hil
      rw [upd_ne (Nat.ne_of_lt hb')]
      exact (hf b hb).1
  done := by
    intro X hP hw hK hc i pins s σ H E I hf st hg
    subst hP hw hK
    obtain ⟨⟨old, he⟩, hit, hne⟩ := st
    obtain ⟨xs, hq, hx⟩ := hg
    obtain ⟨its, rv, p, hz⟩ := I.tuple hq
    obtain ⟨f0, f1, f2, f3, f4, f5⟩ := hf it (by simp)
    have hl := rv.length
    have Dr := Draws.tuple (prog := X.prog) (w := X.w) (A := X.A.in1) (I.ok.hd hc) it a hai its.toArray
    have hsz : its.toArray.size = i := by simp; omega
    exact wpAny_pyNext_enum_endD Dr he (by rw [hsz]; exact ⟨hit, p⟩) fun h' eb => ⟨rfl, I.turned (t' := s.toks) (fun b o hb q => eb b o hb q) f0 f1 f3 f4 f5⟩
  self := fun A i s Q E st h => let ⟨⟨_, he⟩, _⟩ := st; wpAny_pyIter_enum he h
/-- enumerate(x): x a list or a tuple -/
def iEnumA (K : PySem.W.Frag) (ta : TA) : TI := fun σ H R => ta σ H fun vs H1 => ∃ a, vs = [.ref a] ∧ ((∃ xs, SqL K H1 a xs ∧ R (Ite K a) H1) ∨ ∃ xs, SqT K H1 a xs ∧ R (IteT K a) H1)
theorem pi_enumA {X : Cx} {e : Expr} {ta : TA} {p pos tpos : Pos} {elts : List Expr} {kk : Nat} (hg : Gl X "enumerate") (hm : X.mg "enumerate" = none) (ha : PA X [e] ta) (hs : starEach [e] X.env = [(false, eval e X.env)] := by rfl) :
    PI X (.Tuple elts kk tpos) (.Call (.Name "enumerate" p) [e] [] pos) (iEnumA X.K ta) := by
  refine ⟨fun pins s σ H R I h => ?_⟩
  refine Call_ (ld_blt I hg hm boot_enumerate (PyProof.Rows.callWith_type1 (thn (ha.run pos pins s σ H _ I h) fun us s1 ⟨vs, H1, I1, r1, q1⟩ => ?_) hs rfl))
  obtain ⟨a, ex, q1⟩ := q1
  subst ex
  cases r1 with
  | cons r rr =>
    cases rr
    cases r
    have fr : ∀ b ∈ [s1.heap.objs.size + 1, s1.heap.objs.size], s1.heap.objs.size ≤ b := fun b hb => by
      have e' : b = s1.heap.objs.size + 1 ∨ b = s1.heap.objs.size := by simpa using hb
      rcases e' with z | z
      · rw [z]; exact Nat.le_add_right _ _
      · rw [z]; exact Nat.le_refl _
    rcases q1 with ⟨xs, hq, q⟩ | ⟨xs, hq, q⟩
    · obtain ⟨its, rv, p', hz⟩ := I1.list hq
      refine call_enumerate_list p'.isList fun h' he hit hsz hk => wpAny_pyIter_enum he ?_
      have I2 : Inv X pins σ H1 { s1 with heap := h' } := I1.kept (t' := s1.toks) hk
      exact ⟨s1.heap.objs.size + 1, [s1.heap.objs.size + 1, s1.heap.objs.size], _, _, H1, rfl, I2, turn_enum a (s1.heap.objs.size + 1) s1.heap.objs.size, ⟨⟨.none, he⟩, hit, Nat.succ_ne_self _⟩, fun b hb => I1.fpOk (fr b hb) (I1.hok.fresh (fr b hb)), q⟩
    · obtain ⟨its, rv, p', hz⟩ := I1.tuple hq
      obtain ⟨oo, hoo, _⟩ := id p'
      have hlt : a < s1.heap.objs.size := Heap.lt_size hoo
      refine DMX.call_enumT p' fun h' he hit hsz hk => wpAny_pyIter_enum he ?_
      have I2 : Inv X pins σ H1 { s1 with heap := h' } := I1.kept (t' := s1.toks) hk
      exact ⟨s1.heap.objs.size + 1, [s1.heap.objs.size + 1, s1.heap.objs.size], _, _, H1, rfl, I2, turn_enumT a (s1.heap.objs.size + 1) s1.heap.objs.size (Nat.ne_of_lt hlt) (Nat.ne_of_gt (Nat.lt_succ_of_lt hlt)), ⟨⟨.none, he⟩, hit, Nat.succ_ne_self _⟩, fun b hb => I1.fpOk (fr b hb) (I1.hok.fresh (fr b hb)), q⟩
end L2
namespace DM
open PySem L2
open PyProof.Rows (b2i)
def enumD : Nat → List D → List D
  | _, [] => []
  | n, x :: xs => .tup [.int (n : Nat), x] :: enumD (n + 1) xs
theorem enumD_len : ∀ (n : Nat) (xs : List D), (enumD n xs).length = xs.length
  | _, [] => rfl
  | n, x :: xs => by simp [enumD, enumD_len (n + 1) xs]
theorem enumD_get : ∀ {n : Nat} {xs : List D} {i : Nat} {d : D}, (enumD n xs)[i]? = some d → ∃ x, xs[i]? = some x ∧ d = .tup [.int ((n + i : Nat) : Int), x]
  | n, [], i, d, h => by simp [enumD] at h
  | n, x :: xs, 0, d, h => by
    simp only [enumD, List.getElem?_cons_zero, Option.some.injEq] at h
    exact ⟨x, rfl, by rw [← h]; simp⟩
  | n, x :: xs, i + 1, d, h => by
    simp only [enumD, List.getElem?_cons_succ] at h
    obtain ⟨y, h1, h2⟩ := enumD_get h
    exact ⟨y, by simpa using h1, by rw [h2, show n + 1 + i = n + (i + 1) by omega]⟩
section
variable {K : PySem.W.Frag} {M M1 : Mm} {H H1 : HF}
theorem it_enumT {a : Addr} {xs : List D} {vs : List V} (sa : SqT K H.h a vs) (ra : VRs K H xs vs) (m0 : MR K M H) : ItOk K (IteT K a) ⟨enumD 0 xs, fun _ => True⟩ M H where
  go := fun i d M2 H2 g m _ e => by
    obtain ⟨x, h1, rfl⟩ := enumD_get e
    obtain ⟨v, e1, _⟩ := ra.get h1
    exact ⟨vs, v, (g.tx m0).tu _ _ sa, e1⟩
  yld := fun i d M2 H2 x H3 g m _ e y => by
    obtain ⟨x', h1, rfl⟩ := enumD_get e
    obtain ⟨v, e1, r1⟩ := ra.get h1
    obtain ⟨T, p, rfl, hT, rfl, hx⟩ := y
    have f1 := hx vs ((g.tx m0).tu _ _ sa)
    rw [e1] at f1
    cases f1
    refine ⟨H2.up _ _, rfl, .tup upd_same (.cons ?_ (.cons (VR.mono (TX.new m hT) _ _ (VR.mono (g.tx m0) _ _ r1)) .nil)), m.newT hT, GG.newT hT⟩
    rw [Nat.zero_add]
    exact .int _
  stop := fun M2 H2 g m _ => ⟨vs, (g.tx m0).tu _ _ sa, by rw [enumD_len]; exact ra.length.symm⟩
theorem it_enumL {a : Addr} {xs : List D} {x : D} (r1 : VR K H x (.ref a)) (m0 : MR K M H) : ItOk K (Ite K a) ⟨enumD 0 xs, fun M' => rdL M' x = some xs⟩ M H where
  go := fun i d M2 H2 g m ok e => by
    obtain ⟨x, h1, rfl⟩ := enumD_get e
    obtain ⟨a', vs, ea, q1, s1⟩ := rdL_v m (VR.mono (g.tx m0) _ _ r1) ok
    cases ea
    obtain ⟨v, e1, _⟩ := s1.get h1
    exact ⟨vs, v, SqL.of q1, e1⟩
  yld := fun i d M2 H2 x H3 g m ok e y => by
    obtain ⟨x', h1, rfl⟩ := enumD_get e
    obtain ⟨a', vs, ea, q1, s1⟩ := rdL_v m (VR.mono (g.tx m0) _ _ r1) ok
    cases ea
    obtain ⟨v, e1, s1⟩ := s1.get h1
    obtain ⟨T, p, rfl, hT, rfl, hx⟩ := y
    have f1 := hx vs (SqL.of q1)
    rw [e1] at f1
    cases f1
    refine ⟨H2.up _ _, rfl, .tup upd_same (.cons ?_ (.cons (VR.mono (TX.new m hT) _ _ s1) .nil)), m.newT hT, GG.newT hT⟩
    rw [Nat.zero_add]
    exact .int _
  stop := fun M2 H2 g m ok => by
    obtain ⟨a', vs, ea, q1, s1⟩ := rdL_v m (VR.mono (g.tx m0) _ _ r1) ok
    cases ea
    exact ⟨vs, SqL.of q1, by rw [enumD_len, s1.length]; exact Nat.le_refl _⟩
end
def enumQ (x : D) (M2 : Mm) (Q : DIt → Mm → Prop) : Prop := match rdL M2 x with | some xs => Q ⟨enumD 0 xs, fun M' => rdL M' x = some xs⟩ M2 | _ => False
def diEnum (ta : TDE) : TDI := fun ds M Q => ta ds M fun x M1 => match x with
  | .tup xs => Q ⟨enumD 0 xs, fun _ => True⟩ M1
  | x => enumQ x M1 Q
theorem ji_enum {X : Cx} {e : Expr} {te : TDE} {p pos tpos : Pos} {elts : List Expr} {kk : Nat} (hm : X.mg "enumerate" = none) (h : JE X e te) (hg : Gl X "enumerate" := by rfl)
    (hs : starEach [e] X.env = [(false, eval e X.env)] := by rfl) (hs' : starEach (e :: []) X.env = (false, eval e X.env) :: starEach [] X.env := by rfl) :
    JI X (.Tuple elts kk tpos) (.Call (.Name "enumerate" p) [e] [] pos) (diEnum te) := by
  obtain ⟨u, q, g⟩ := h
  refine ⟨_, pi_enumA hg hm (pa_cons q pa_nil hs') hs, fun ds σ H M Q R0 s m q k => ?_⟩
  refine g ds σ H M _ _ s m q fun v H1 d M1 r1 m1 g1 q1 => ?_
  split at q1
  · obtain ⟨a, vs, rfl, sa, ra⟩ := r1.tup_v
    exact ⟨a, rfl, .inr ⟨vs, sa, k _ H1 _ M1 (it_enumT sa ra m1) m1 g1 q1⟩⟩
  · unfold enumQ at q1
    split at q1
    · rename_i xs e1
      obtain ⟨a, vs, rfl, h1, _⟩ := rdL_v m1 r1 e1
      exact ⟨_, rfl, .inl ⟨vs, SqL.of h1, k _ H1 _ M1 (it_enumL r1 m1) m1 g1 q1⟩⟩
    · exact q1.elim
end DM
namespace L2
open PySem PySem.Spec PyProof.Rows
/-- a, b = x, y with plain local names: stored from the right; the tuple itself is not tracked -/
def tPar2 (i j : Nat) (ta : TA) : TS := fun D σ H => ta σ H fun vs H1 => ∃ u v, vs = [u, v] ∧ D.nx ((σ.set i (some u)).set j (some v)) H1
theorem ps_par2 {X : Cx} {i j : Nat} {x y : Str} {a b : Expr} {ta : TA} {px py pt pos : Pos} {kt k2 pt2} (hc : X.calm = true) (hN : X.N.Nodup) (hi : X.N[i]? = some x) (hj : X.N[j]? = some y) (hij : i ≠ j)
    (hx : X.env.scope.names.lookup x = some .local) (hy : X.env.scope.names.lookup y = some .local) (ha : PA X [a, b] ta)
    (hw : swappedStores [.Tuple [.Name x px, .Name y py] kt pt] (.Tuple [a, b] k2 pt2) X.env = pure (some [x, y]))
    (hs : swapsWithSole [.Tuple [.Name x px, .Name y py] kt pt] (.Tuple [a, b] k2 pt2) pos.line X.env = pure false := by rfl) :
    PS X (.Assign [.Tuple [.Name x px, .Name y py] kt pt] (.Tuple [a, b] k2 pt2) pos) (tPar2 i j ta) := by
  refine ⟨fun pins s σ H D I h => ?_⟩
  rw [exec_Assign_arm]
  refine wpAny_bind (wpAny_standAt ?_)
  rw [hs]
  refine wpAny_bind (wpAny_pure ?_)
  rw [if_neg (by decide)]
  refine wpAny_bind (Tuple_ (thn (ha.run _ pins s σ H _ I h) fun us s1 ⟨vs, H1, I1, r1, q1⟩ => ?_))
  obtain ⟨v1, v2, e1, q1⟩ := q1
  subst e1
  obtain ⟨u1, u2, rfl, r1', r2'⟩ : ∃ u1 u2, us = [u1, u2] ∧ RelV v1 u1 ∧ RelV v2 u2 := by
    cases r1 with
    | cons p q =>
      cases q with
      | cons p' q' =>
        cases q'
        exact ⟨_, _, rfl, p, p'⟩
  refine wpAny_newObj_type ?_ (by show 2 ≤ sizeLine; decide)
  have I2 : Inv X pins σ H1 { s1 with heap := s1.heap.push { cls := .type "tuple", data := .seq [u1, u2].toArray } } := I1.kept (t' := s1.toks) fun b o e => Heap.get?_push_of_some _ e
  rw [hw]
  refine wpAny_bind (wpAny_pure ?_)
  show wpAny (model X.prog X.w) X.A (do rule "assign.swapped-stores"; let items ← unpackItems (.ref s1.heap.objs.size) 2 none; assignInOrder [fun v => bindName X.env y v, fun v => bindName X.env x v] items.reverse; pure Flow.next) _ _ _
  refine wpAny_bind (wpAny_rule (wpAny_bind (unpackItems_tuple (items := #[u1, u2]) (I.ok.hd hc) (IsTup.new s1.heap _) fun h' hx' => ?_)))
  have I3 := I2.kept (h' := h') (t' := s1.toks) fun b o e => hx' b o (Nat.ne_of_lt (Heap.lt_size e)) e
  show wpAny _ _ (assignInOrder [fun v => bindName X.env y v, fun v => bindName X.env x v] [u2, u1] >>= fun _ => pure Flow.next) _ _ _
  refine wpAny_bind (assignInOrder_cons (wpAny_bindName (store_ok I3 hN hj (.inl hy) r2' (fun s3 I5 => ?_) (.inr hy))))
  refine assignInOrder_cons (wpAny_bindName (store_ok I5 hN hi (.inl hx) r1' (fun s4 I6 => assignInOrder_nil (wpAny_pure ?_)) (.inr hx)))
  rw [List.set_comm _ _ (Ne.symm hij)] at I6
  exact ⟨_, H1, I6, q1⟩
end L2
namespace DM
open PySem L2
open PyProof.Rows (b2i)
def dPar2 (i j : Nat) (t : TDA) : TDS := fun D ds M => t ds M fun xs M1 => match xs with | [u, v] => D.nx ((ds.set i (some u)).set j (some v)) M1 | _ => False
theorem js_par2 {X : Cx} {W : WX} {i j : Nat} {x y : Str} {a b : Expr} {t : TDA} {px py pt pos : Pos} {kt k2 pt2} (hc : X.calm = true) (hN : X.N.Nodup) (ha : JA X [a, b] t) (hij : i ≠ j := by decide) (hi : X.N[i]? = some x := by rfl) (hj : X.N[j]? = some y := by rfl)
    (hx : X.env.scope.names.lookup x = some .local := by rfl) (hy : X.env.scope.names.lookup y = some .local := by rfl)
    (hw : swappedStores [.Tuple [.Name x px, .Name y py] kt pt] (.Tuple [a, b] k2 pt2) X.env = pure (some [x, y]) := by rfl)
    (hs : swapsWithSole [.Tuple [.Name x px, .Name y py] kt pt] (.Tuple [a, b] k2 pt2) pos.line X.env = pure false := by rfl) :
    JS X W (.Assign [.Tuple [.Name x px, .Name y py] kt pt] (.Tuple [a, b] k2 pt2) pos) (dPar2 i j t) := by
  obtain ⟨t0, p, g⟩ := ha
  refine ⟨_, ps_par2 hc hN hi hj hij hx hy p hw hs, fun M0 H0 D0 D1 l ds σ H M gg s m q => ?_⟩
  refine g ds σ H M _ _ s m q fun vs H1 es M1 r1 m1 g1 q1 => ?_
  match es, r1, q1 with
  | [u, v], .cons (v := v1) a (.cons (v := v2) b .nil), q1 => exact ⟨v1, v2, rfl, l.nx _ _ H1 M1 (gg.trans g1) (((s.gg m g1).set a i).set b j) m1 q1⟩
end DM

/-! exceptions: what a caught one is, whatever its dict -/
namespace DX
open PySem PySem.W PySem.Spec PySem.Calls PyProof.Rows
section
variable {prog : Program} {w : World} {A : Around} {E : Value → Shared → Prop} {s : Shared} {K : Frag} {x C : Addr} {ox : Obj} {od : Option Obj}
theorem own_data {nm : Str} {a g : Value} (h1 : (clsIn K C).isSome = true) (h2 : findIn K (.ref C) nm = some (some a)) (h3 : specialIn K a "__get__" = some (some g)) (h4 : takesIn K a = some true) :
    findObj K C od nm = some (.bind g a) := by
  obtain ⟨cd, e⟩ := Option.isSome_iff_exists.mp h1
  unfold findObj
  simp [e, h2, h3, h4]
/-- e.__class__ of a caught one -/
theorem cls_of {Q : Option Value → Shared → Prop} (T : L2.ExcC K C) (X : K.In s.heap) (I : InstAt s.heap x ox C od) (h : Q (some (.ref C)) { s with toks := s.toks + 1 }) :
    wpAny (model prog w) A (getAttr? (.ref x) "__class__") Q E s := by
  have fnd : findObj K C od "__class__" = some (.bind (.builtin "getset_descriptor.__get__") (.builtin "object.__class__")) :=
    own_data (by obtain ⟨cd, hc, _⟩ := any_some T.hd; rw [hc] <;> rfl) T.ha T.hn T.ht
  obtain ⟨hp, gn, dr, tk, os⟩ := s
  have TY := I.type (M := model prog w)
  have GA := looks_findIn (M := model prog w) X T.hg
  have GT := looks_findIn (M := model prog w) X T.hk
  have FD := looks_find (M := model prog w) X I fnd
  have SB : Looks (model prog w) hp (isInstance (.ref x) (.type "BaseException")) true := TY.andThen (looks_subIn X T.hs)
  have n2 : (Value.builtin "BaseException.__getattribute__" == Value.builtin "object.__getattribute__") = false := by decide +kernel
  have n1 : (onTheHeap (Value.ref C) && Value.builtin "BaseException.__getattribute__" == Value.builtin "object.__getattribute__") = false := by rw [n2, Bool.and_false]
  unfold getAttr? getAttrBy? getAttrBy
  refine wpAny_bind (wpAny_mkText (wpAny_bind (wpAny_attempt (wpAny_holding (wpAny_bind (TY.at (wpAny_bind (GA.at ?_))))))))
  show wpAny _ _ (if (onTheHeap (Value.ref C) && Value.builtin "BaseException.__getattribute__" == Value.builtin "object.__getattribute__") = true then _ else _) _ _ _
  rw [n1, if_neg Bool.false_ne_true]
  unfold getAttrByItsOwn hookBefore
  refine wpAny_bind ?_; rw [if_pos (show onTheHeap (Value.ref C) = true from rfl)]
  refine GT.at (wpAny_bind (wpAny_attempt (wpAny_holding ?_)))
  unfold callGetattribute
  rw [show (false && onTheHeap (Value.builtin "BaseException.__getattribute__")) = false from rfl, if_neg Bool.false_ne_true]
  unfold boundAndCalled
  rw [PySem.F.excAttr_ValueError.ga.bind (.ref x)]
  refine wpAny_bind (wpAny_pure ?_)
  show wpAny _ _ (call (.builtin "BaseException.__getattribute__") [.ref x, .str "__class__" tk]) _ _ _
  refine wpAny_call (codeAny_call_builtin PySem.F.excAttr_ValueError.ga.plain PySem.F.entry_bexc_ga ?_)
  refine @check_slot (model prog w) _ _ ⟨hp, gn, dr, tk + 1, os⟩ "BaseException.__getattribute__" "BaseException" "__getattribute__" (.ref x) [.str "__class__" tk] [] _ (by decide +kernel) (by decide +kernel) SB (PySem.F.args_bexc_ga (.ref x) (.str "__class__" tk)) ?_
  unfold Builtin.«object.__getattribute__»
  refine wpAny_bind (wpAny_of_eq (a := ((Value.ref x : Value), [Value.str "__class__" tk])) (by first | rfl | (simp only [slotArgs]; rfl)) (wpAny_bind (wpAny_pure (wpAny_bind (TY.at (wpAny_bind (FD.at ?_)))))))
  show wpAny _ _ (holding [Value.builtin "object.__class__"] (call (.builtin "getset_descriptor.__get__") [.builtin "object.__class__", .ref x, .ref C]) >>= ret) _ _ _
  refine wpAny_bind (wpAny_holding (wpAny_call (class_get (s := ⟨hp, gn, dr, tk + 1, os⟩) (ox := ox) (od := od) X I T.hm (wpAny_pure ?_))))
  show wpAny _ _ (handedOut (.ref C)) _ _ _
  rw [handedOut_of (v := .ref C) rfl]
  first
    | exact wpAny_pure (wpAny_pure h)
    | exact wpAny_pure h
    | exact wpAny_pure (wpAny_bind (wpAny_pure (wpAny_pure h)))
theorem kitx (T : L2.ExcC K C) : KitX K (.ref x) (.ref C) (fun h => InstAt h x ox C od) where
  ty := fun _ _ _ I => I.type
  it := fun M h X _ => by
    obtain ⟨cd, hc, _⟩ := any_some T.hd
    unfold clsIn at hc
    split at hc
    · rename_i ho
      intro A' Q' E' s' k q
      unfold isType loadHead
      exact wpAny_bind (wpAny_loadPart (k _ _ (X _ _ ho)) (wpAny_pure q))
    · cases hc
  ne := fun h tp dd its n sl X htp => by
    obtain ⟨cd, hc, _⟩ := any_some T.hd
    rw [Bool.eq_false_iff]
    intro q
    cases Value.ref.inj (beq_iff_eq.mp q)
    unfold clsIn at hc
    split at hc
    · rename_i ho
      cases (X _ _ ho).symm.trans htp
    · cases hc
  ca := fun X I k => cls_of T X I k
end
end DX
namespace L2
open PySem PySem.Spec PyProof.Rows
/-- the caught exception's dict stands -/
def DictAt (d : Option Addr) (H : Hp) : Prop := match d with | none => True | some dd => ∃ fs, H dd = some (.xd fs)
/-- the classes that an isinstance asks for -/
inductive ClsQ (K : PySem.W.Frag) (H : Hp) (C : Addr) : V → Bool → Prop
  | one {c : V} {cv : Value} {b : Bool} : ClsV c cv → PySem.W.kitOne K (.ref C) cv = some b → ClsQ K H C c b
  | tup {t : Addr} {cs : List V} {ws : List Value} {b : Bool} : SqT K H t cs → Paired ClsV cs ws → PySem.W.kitAny K (.ref C) ws = some b → ClsQ K H C (.ref t) b
def rIsX (K : PySem.W.Frag) (C a : Addr) (d : Option Addr) : List V → Hp → VK → Prop := fun xs H Q => ∃ (c : V) (b : Bool), xs = [.ref a, c] ∧ ExcC K C ∧ DictAt d H ∧ ClsQ K H C c b ∧ Q (.bl b) H
theorem inst_at {X : Cx} {pins : List (Addr × Obj)} {σ : St} {H : Hp} {s : Shared} {a C : Addr} {oe : Obj} {d : Option Addr} {pn : List (Addr × Obj)} (I : Inv (X.suite a ((a, oe) :: pn)) pins σ H s) (hz : Zc (.ref C) d oe) (hf : ∃ vs, oe.data = .fields vs) (hd : DictAt d H) :
    ∃ od, PySem.W.InstAt s.heap a oe C od := by
  obtain ⟨hget, _⟩ := I.pin (a, oe) (List.mem_append.mpr (.inl List.mem_cons_self))
  obtain ⟨vs, hv⟩ := hf
  cases d with
  | none =>
    refine ⟨none, hget, hz.1, by unfold PySem.W.notCls; rw [hv] <;> rfl, ?_⟩
    rw [hz.2]
    trivial
  | some dd =>
    obtain ⟨fs, ea⟩ := hd
    obtain ⟨mA, hns, hr⟩ := (show ObjOk X.prog X.w H s.heap dd (.xd fs) from I.hok dd _ ea)
    obtain ⟨od, ho, _⟩ := lookIn_ns hns
    refine ⟨some od, hget, hz.1, by unfold PySem.W.notCls; rw [hv] <;> rfl, ?_⟩
    rw [hz.2]
    exact ho
theorem call_isX {X : Cx} {a C : Addr} {oe : Obj} {d : Option Addr} {pn : List (Addr × Obj)} (hz : Zc (.ref C) d oe) (hf : ∃ vs, oe.data = .fields vs) : CallR (X.suite a ((a, oe) :: pn)) (.builtin "isinstance") (rIsX X.K C a d) := by
  intro pins s σ H xs us Q I r h
  obtain ⟨c, b, rfl, T, hd, hc, q⟩ := h
  obtain ⟨od, J⟩ := inst_at I hz hf hd
  obtain ⟨u1, u2, rfl, r1, r2⟩ := vals2 r
  cases r1
  cases hc with
  | one hc e =>
    cases hc.eq r2
    exact PySem.W.kia_one (DX.kitx T) I.kIn J e (fun z => nomatch z) fun tk => ⟨.bl b, H, I.kept (t' := tk) fun _ _ z => z, rfl, q⟩
  | tup hT k e =>
    cases r2
    obtain ⟨its, rv, ⟨o, h1, h2, n, h3⟩, _⟩ := I.tuple hT
    cases ClsV.all k rv
    obtain ⟨oc, odd, dt, sl⟩ := o
    simp only at h2 h3
    subst h2 h3
    exact PySem.W.kia_tup (DX.kitx T) I.kIn J h1 e (fun z => nomatch z) fun tk => ⟨.bl b, H, I.kept (t' := tk) fun _ _ z => z, rfl, q⟩
/-- B.__init__(self, text), B an own class over ValueError -/
theorem pe_binit {X : Cx} {B : Addr} {bn : Str} {e : Expr} {es : List Expr} {ta : TA} {p1 p2 pos : Pos} {pl : Sem Bool} (hg : Gl X bn) (hm : X.mg bn = some (.ref B)) (h1 : PySem.W.specialIn X.K (.ref B) "__getattribute__" = some (some (.builtin "type.__getattribute__")))
    (h2 : PySem.W.readsIn X.K B (.type "type") = true) (h3 : PySem.W.findCls X.K (.ref B) (.type "type") "__init__" = some (.val (.builtin "ValueError.__init__"))) (ha : PA X (e :: es) ta) (hdb : (bn == ("__debug__" : Str)) = false := by decide)
    (hc : eval (.Call (.Attribute (.Name bn p1) "__init__" p2) (e :: es) [] pos) X.env = (do
      let ov ← eval (.Name bn p1) X.env
      standAt p2.atName
      let (f, first) ← holding [ov] (getMethod ov "__init__" pl)
      callWith pos f first (backTo pos (starEach (e :: es) X.env)) (backToKw pos (keywordEach [] X.env))) := by rfl)
    (he : starEach (e :: es) X.env = (false, eval e X.env) :: starEach es X.env := by rfl) (hpl : (backTo pos (starEach es X.env)).any (·.1) = false := by rfl) :
    PE X (.Call (.Attribute (.Name bn p1) "__init__" p2) (e :: es) [] pos) (tVeI X.K ta) := by
  refine ⟨fun pins s σ H Q I h => ?_⟩
  refine PySem.W.methodCall_KW (ld_glob I hg hm ?_ hdb) hc
  refine PySem.W.method_cls I.kIn h1 (PySem.W.cls_value I.kIn h2 h3 (by decide +kernel) ?_)
  show wpAny _ _ (callWith pos (Value.builtin "ValueError.__init__") [] (backTo pos (starEach (e :: es) X.env)) []) _ _ _
  refine PyProof.Rows.callWith_method1 (thn (ha.run pos pins _ σ H _ (I.tok _) h) fun us s1 hh => ?_) he hpl
  obtain ⟨vs, H1, I1, r1, a, C, ws, rfl, hl, T, ea, q⟩ := hh
  cases r1 with
  | @cons _ u0 _ ur ra rr =>
    cases (show u0 = Value.ref a from ra)
    exact oinit_ok T I1 ea (by rw [← Paired.length rr, sizeLine_eq]; omega) fun s' J => ⟨.non, H1, J, rfl, q⟩
end L2

namespace DM
open PySem L2
open PyProof.Rows (b2i)

/-! ### expressions that may raise -/
def LinkX (K : PySem.W.Frag) (W : WX) (M0 : Mm) (H0 : HF) (xc : DX) : Prop := ∀ C od σ ds fs H M, XF H0 od → GG M0 H0 M H → SR K H ds σ → XR K M H od fs → MR K M H → xc C fs ds M → W (.ref C) od σ H.h
abbrev TDEX := DX → DSt → Mm → DQ → Prop
abbrev TDAX := DX → DSt → Mm → (List D → Mm → Prop) → Prop
structure JX (X : Cx) (W : WX) (e : Expr) (t : TDEX) : Prop where
  go : ∃ t0, PE X e t0 ∧ ∀ (M0 : Mm) (H0 : HF) (xc : DX), LinkX X.K W M0 H0 xc → ∀ (ds : DSt) (σ : St) (H : HF) (M : Mm) (Q : DQ) (Q0 : VK), GG M0 H0 M H → SR X.K H ds σ → MR X.K M H → t xc ds M Q →
    (∀ v H' d M', VR X.K H' d v → MR X.K M' H' → GG M H M' H' → Q d M' → Q0 v H'.h) → t0 σ H.h Q0
structure JAX (X : Cx) (W : WX) (es : List Expr) (t : TDAX) : Prop where
  go : ∃ t0, PA X es t0 ∧ ∀ (M0 : Mm) (H0 : HF) (xc : DX), LinkX X.K W M0 H0 xc → ∀ (ds : DSt) (σ : St) (H : HF) (M : Mm) (Q : List D → Mm → Prop) (Q0 : List V → Hp → Prop), GG M0 H0 M H → SR X.K H ds σ → MR X.K M H → t xc ds M Q →
    (∀ vs H' es M', VRs X.K H' es vs → MR X.K M' H' → GG M H M' H' → Q es M' → Q0 vs H'.h) → t0 σ H.h Q0
abbrev DSpX := List D → Mm → DQ → (Addr → List (Str × D) → Mm → Prop) → Prop
def toSpX (K : PySem.W.Frag) (sp : DSpX) : Sp := fun vs h Q E => ∃ ds M R xc H, h = H.h ∧ VRs K H ds vs ∧ MR K M H ∧ sp ds M R xc ∧ (∀ v H' d M', VR K H' d v → MR K M' H' → GG M H M' H' → R d M' → Q v H'.h) ∧
  ∀ C od fs H' M', XF H od → GG M H M' H' → XR K M' H' od fs → MR K M' H' → xc C fs M' → E (.ref C) od H'.h
section
variable {X : Cx} {W : WX} {e o : Expr} {es : List Expr} {te : TDE} {tx : TDEX} {ta : TDAX} {tt : TDA} {pos : Pos}
theorem jx_of (h : JE X e te) : JX X W e (fun _ => te) := by
  obtain ⟨u, p, g⟩ := h
  exact ⟨u, p, fun M0 H0 xc l ds σ H M Q Q0 gg s m q k => g ds σ H M Q Q0 s m q k⟩
theorem jax_of (h : JA X es tt) : JAX X W es (fun _ => tt) := by
  obtain ⟨u, p, g⟩ := h
  exact ⟨u, p, fun M0 H0 xc l ds σ H M Q Q0 gg s m q k => g ds σ H M Q Q0 s m q k⟩
def dConsX (t : TDEX) (u : TDAX) : TDAX := fun xc ds M Q => t xc ds M fun x M1 => u xc ds M1 fun xs M2 => Q (x :: xs) M2
theorem jax_cons (h1 : JX X W e tx) (h2 : JAX X W es ta) (hs : starEach (e :: es) X.env = (false, eval e X.env) :: starEach es X.env := by rfl) : JAX X W (e :: es) (dConsX tx ta) := by
  obtain ⟨t0, p, g⟩ := h1
  obtain ⟨u0, p', g'⟩ := h2
  refine ⟨_, pa_cons p p' hs, fun M0 H0 xc l ds σ H M Q Q0 gg s m q k => ?_⟩
  refine g M0 H0 xc l ds σ H M _ _ gg s m q fun v H1 d M1 r1 m1 g1 q1 => ?_
  refine g' M0 H0 xc l ds σ H1 M1 _ _ (gg.trans g1) (s.gg m g1) m1 q1 fun vs H2 es M2 r2 m2 g2 q2 => ?_
  exact k _ H2 _ M2 (.cons (VR.mono (g2.tx m1) _ _ r1) r2) m2 (g1.trans g2) q2
def dTupX (t : TDAX) : TDEX := fun xc ds M Q => t xc ds M fun xs M1 => xs.length ≤ sizeLine ∧ Q (.tup xs) M1
theorem jx_tup {x1} (h : JAX X W es ta) : JX X W (.Tuple es x1 pos) (dTupX ta) := by
  obtain ⟨t0, p, g⟩ := h
  refine ⟨_, pe_tup p, fun M0 H0 xc l ds σ H M Q Q0 gg s m q k => ?_⟩
  refine g M0 H0 xc l ds σ H M _ _ gg s m q fun vs H1 es M1 r1 m1 g1 q1 => ⟨by rw [← r1.length]; exact q1.1, fun a ha => ?_⟩
  exact k _ (H1.up a _) _ M1 (.tup upd_same (VRs.mono (TX.new m1 ha) _ _ r1)) (m1.newT ha) (g1.trans (GG.newT ha)) q1.2
def dFrzX (t : TDAX) : TDEX := fun xc ds M Q => t xc ds M fun xs M1 => xs.length ≤ sizeLine ∧ Q (.lst xs) M1
theorem jx_lst (h : JAX X W es ta) : JX X W (.List es pos) (dFrzX ta) := by
  obtain ⟨t0, p, g⟩ := h
  refine ⟨_, pe_lst p, fun M0 H0 xc l ds σ H M Q Q0 gg s m q k => ?_⟩
  refine g M0 H0 xc l ds σ H M _ _ gg s m q fun vs H1 es M1 r1 m1 g1 q1 => ⟨by rw [← r1.length]; exact q1.1, fun a ha => ?_⟩
  obtain ⟨z1, z2, z3⟩ := frz_new m1 ha r1
  exact k _ _ _ _ z1 z2 (g1.trans z3) q1.2
/-- a call of a def that may raise -/
def dCallX (sp : DSpX) (t : TDAX) : TDEX := fun xc ds M Q => t xc ds M fun xs M1 => sp xs M1 Q fun C fs M' => xc C fs ds M'
theorem jx_call {k : Nat} {f : Addr} {fd : FuncData} {ps : List Str} {sp : DSpX} {x : Str} {p : Pos} (F : FnOk X.prog X.w X.K X.mg X.base (L2.CX X.prog X.w) k f fd ps (toSpX X.K sp)) (tk : Takes X W) (hr : Room k X.A) (hg : Gl X x) (hm : X.mg x = some (.ref f))
    (hk : PySem.W.keepIn X.K (.ref f) = true) (hb : Binds X.K fd ps []) (ha : JAX X W (e :: es) ta) (hdb : (x == ("__debug__" : Str)) = false := by decide) (he : starEach (e :: es) X.env = (false, eval e X.env) :: starEach es X.env := by rfl)
    (hpl : (backTo pos (starEach es X.env)).any (·.1) = false := by rfl) : JX X W (.Call (.Name x p) (e :: es) [] pos) (dCallX sp ta) := by
  obtain ⟨u, q, g⟩ := ha
  refine ⟨_, pe_callS F hr hg hm hk hb (fun σ => passAt tk σ) q hdb he hpl, fun M0 H0 xc l ds σ H M Q Q0 gg s m q k => ?_⟩
  refine g M0 H0 xc l ds σ H M _ _ gg s m q fun vs H1 es M1 r1 m1 g1 q1 => ?_
  exact ⟨es, M1, Q, _, H1, rfl, r1, m1, q1, fun v H' d M' r' m' g' q' => k v H' d M' r' m' (g1.trans g') q', fun C od fs H' M' f' g' x' m' q' => l C od σ ds fs H' M' (fun dd e => (gg.trans g1).free (f' dd e)) ((gg.trans g1).trans g') ((s.gg m g1).gg m1 g') x' m' q'⟩
/-! ### statements -/
variable {st : Stmt}
def dDropX (t : TDEX) : TDS := fun D ds M => t D.xc ds M fun _ M1 => D.nx ds M1
def dRetX (t : TDEX) : TDS := fun D ds M => t D.xc ds M D.rt
def dAsgX (t : TDEX) (g : TDG) : TDS := fun D ds M => t D.xc ds M fun x M1 => g x ds M1 D.nx
theorem Link.x {K : PySem.W.Frag} {M0 : Mm} {H0 : HF} {D0 : Ends} {D1 : DEnds} (l : Link K W M0 H0 D0 D1) : LinkX K W M0 H0 D1.xc := l.xc
theorem js_exprX (he : JX X W e tx) (hs : swapsWith e none pos.line X.env = pure false := by rfl) : JS X W (.Expr e pos) (dDropX tx) := by
  obtain ⟨t0, p, g⟩ := he
  refine ⟨_, ps_expr p hs, fun M0 H0 D0 D1 l ds σ H M gg s m q => ?_⟩
  exact g M0 H0 D1.xc l.x ds σ H M _ _ gg s m q fun v H1 d M1 r1 m1 g1 q1 => l.nx σ ds H1 M1 (gg.trans g1) (s.gg m g1) m1 q1
theorem js_retX (he : JX X W e tx) : JS X W (.Return (some e) pos) (dRetX tx) := by
  obtain ⟨t0, p, g⟩ := he
  refine ⟨_, ps_ret p, fun M0 H0 D0 D1 l ds σ H M gg s m q => ?_⟩
  exact g M0 H0 D1.xc l.x ds σ H M _ _ gg s m q fun v H1 d M1 r1 m1 g1 q1 => l.rt v d H1 M1 (gg.trans g1) r1 m1 q1
theorem js_setX {i : Nat} {x : Str} {pos' : Pos} (hN : X.N.Nodup) (he : JX X W e tx) (hi : X.N[i]? = some x := by rfl) (hx : Loc X.env.scope x := by first | exact Or.inl rfl | exact Or.inr rfl) (hs : swapsWith e (some (.Name x pos')) pos.line X.env = pure false := by rfl)
    (hf : X.fn x = true ∨ X.env.scope.names.lookup x = some .local := by first | exact .inl rfl | exact .inr rfl | assumption) : JS X W (.Assign [.Name x pos'] e pos) (dAsgX tx (dgName i)) := by
  obtain ⟨t0, p, ge⟩ := he
  refine ⟨_, ps_set hN hi hx p hs hf, fun M0 H0 D0 D1 l ds σ H M gg s m q => ?_⟩
  refine ge M0 H0 D1.xc l.x ds σ H M _ _ gg s m q fun v H1 d M1 r1 m1 g1 q1 => ?_
  exact l.nx _ _ H1 M1 (gg.trans g1) ((s.gg m g1).set r1 i) m1 q1
theorem js_asgX {tg : Expr} {g : TDG} (he : JX X W e tx) (hg : JG X tg g) (hs : swapsWithSole [tg] e pos.line X.env = pure false := by rfl) (hw : swappedStores [tg] e X.env = pure none := by rfl)
    (h1 : (assignEach [tg] X.env).map (·.2) = [assign tg X.env] := by rfl) : JS X W (.Assign [tg] e pos) (dAsgX tx g) := by
  obtain ⟨t0, p, ge⟩ := he
  obtain ⟨g0, p', gg'⟩ := hg
  refine ⟨_, ps_asg p p' hs hw h1, fun M0 H0 D0 D1 l ds σ H M gg s m q => ?_⟩
  refine ge M0 H0 D1.xc l.x ds σ H M _ _ gg s m q fun v H1 d M1 r1 m1 g1 q1 => ?_
  exact gg' d v ds σ H1 M1 _ _ r1 (s.gg m g1) m1 q1 fun ds' σ' H' M' s' m' g2 q2 => l.nx σ' ds' H' M' ((gg.trans g1).trans g2) s' m' q2
/-- raise C(e), C an own class without __init__ -/
def dRaise0 (C : Addr) (t : TDE) : TDS := fun D ds M => t ds M fun _ M1 => D.xc C [] ds M1
theorem js_raise0 {x : Str} {C : Addr} {bm : List Value} {B n1 n2 : String} {p p2 : Pos} (hc : X.calm = true) (tk : Takes X W) (F : ExcBaseFacts B n1 n2 bm) (q : PySem.W.excIn X.K C bm n1 = true) (gC : X.mg x = some (.ref C)) (kC : PySem.W.keepIn X.K (.ref C) = true) (r : Raises X (.ref C)) (hg : Gl X x)
    (he : JE X e te) (hs : starEach [e] X.env = (false, eval e X.env) :: starEach [] X.env := by rfl) (hdb : (x == ("__debug__" : Str)) = false := by decide) : JS X W (.Raise (some (.Call (.Name x p) [e] [] pos)) none p2) (dRaise0 C te) := by
  obtain ⟨u, pe, g⟩ := he
  refine ⟨_, ps_raise hc tk (SkE.pmk_own1 F q gC kC r hg pe hs hdb), fun M0 H0 D0 D1 l ds σ H M gg s m q => ?_⟩
  exact g ds σ H M _ _ s m q fun v H1 d M1 r1 m1 g1 q1 => l.xc C none σ ds [] H1 M1 (fun _ e => nomatch e) (gg.trans g1) (s.gg m g1) rfl m1 q1
end
/-- C's own __init__: one field, a whole number -/
def spInit (C : Addr) (f : Str) : Sp := fun vs H Q _ => ∃ (a : Addr) (n : Int), vs = [.ref a, .int n] ∧ n.natAbs.log2 < 1920 ∧ H a = some (exo a C none) ∧
  ∀ d, H d = none → d ≠ a → Q .non (upd (upd H d (exd d [(f, .int n)])) a (exo a C (some d)))
/-- raise C(e), C an own class with such an __init__ -/
def dRaise1 (C : Addr) (f : Str) (t : TDE) : TDS := fun D ds M => t ds M fun x M1 => match x with | .int n => n.natAbs.log2 < 1920 ∧ D.xc C [(f, .int n)] ds M1 | _ => False
section
variable {X : Cx} {W : WX} {e : Expr} {te : TDE}
theorem js_raise1 {x f : Str} {C fI : Addr} {fd : FuncData} {ps : List Str} {k : Nat} {p p2 pos : Pos} (hc : X.calm = true) (tk : Takes X W) (T : OexC X.K C) (iC : PySem.W.findIn X.K (.ref C) "__init__" = some (some (.ref fI))) (tI : PySem.W.typeIn X.K (.ref fI) = some (.type "function"))
    (F1 : FnOk X.prog X.w X.K X.mg X.base CX0 k fI fd ps (spInit C f)) (hr : Room (k + 1) X.A) (hb : Binds X.K fd ps []) (hg : Gl X x) (hm : X.mg x = some (.ref C)) (he : JE X e te)
    (hdb : (x == ("__debug__" : Str)) = false := by decide) (hs : starEach [e] X.env = (false, eval e X.env) :: starEach [] X.env := by rfl) : JS X W (.Raise (some (.Call (.Name x p) [e] [] pos)) none p2) (dRaise1 C f te) := by
  obtain ⟨u, pe, g⟩ := he
  refine ⟨_, ps_raise hc tk (pmk_oex T iC tI F1 hr hb .nil pass0 hg hm (pa_cons pe pa_nil hs) hdb hs (by rfl)), fun M0 H0 D0 D1 l ds σ H M gg s m q => ?_⟩
  refine g ds σ H M _ _ s m q fun v H1 d M1 r1 m1 g1 q1 => ?_
  cases d with
  | int n =>
    cases r1.int_v
    obtain ⟨hn, q1⟩ := q1
    refine ⟨by simp, fun a ha => ?_⟩
    refine ⟨a, n, rfl, hn, upd_same, fun d hd hda => ⟨rfl, d, [(f, .int n)], upd_same, ?_, ?_, ?_⟩⟩
    · rw [upd_ne hda, upd_same]
    · rw [upd_ne hda] at hd; exact hd
    · have hd1 : H1.h d = none := by rw [upd_ne hda] at hd; exact hd
      have eH : upd (del (upd (upd (upd H1.h a (exo a C none)) d (exd d [(f, .int n)])) a (exo a C (some d))) a) d (.xd [(f, V.int n)]) = (H1.up d (.xd [(f, .int n)])).h := by
        funext b
        show upd _ d _ b = upd H1.h d _ b
        by_cases hbd : b = d
        · subst hbd; rw [upd_same, upd_same]
        · rw [upd_ne hbd, upd_ne hbd]
          by_cases hba : b = a
          · subst hba; rw [del_same, ha]
          · rw [del_ne hba, upd_ne hba, upd_ne hbd, upd_ne hba]
      rw [eH]
      refine l.xc C (some d) σ ds [(f, .int n)] (H1.up d (.xd [(f, .int n)])) M1 (fun dd e => by cases e; exact (gg.trans g1).free hd1) ((gg.trans g1).trans (GG.newT hd1)) ((s.gg m g1).gg m1 (GG.newT hd1)) ⟨m1.free hd1, m1.freeF hd1, _, upd_same, .cons (.int n) .nil⟩ (m1.newT hd1) q1
  | _ => exact q1.elim
end
end DM

namespace DM
open PySem L2
open PyProof.Rows (b2i)

/-! ### try -/
/-- the suite's ends: slot i is the caught one's -/
def asEnds (i : Nat) (D : DEnds) : DEnds := { nx := fun ds M => D.nx (ds.set i none) M, rt := D.rt, bk := fun ds M => D.bk (ds.set i none) M, ct := fun ds M => D.ct (ds.set i none) M }
/-- what the clause wishes of an exception: the caught one at a, of class C, its fields at dd -/
def dAs (K : PySem.W.Frag) (c : Value) (i : Nat) (ts : Addr → Addr → Option Addr → TDS) (D : DEnds) : DX := fun C fs ds M => ∃ b, PySem.W.exmOne K (.ref C) c = some b ∧
  (b = true → ∀ a, M a = none → (fs = [] → ts a C none (asEnds i D) (ds.set i (some (.ref a))) M) ∧ ∀ dd, M dd = none → a ≠ dd → ts a C (some dd) (asEnds i D) (ds.set i (some (.ref a))) (mup M dd (.xd fs))) ∧
  (b = false → D.xc C fs ds M)
def dTryAs (K : PySem.W.Frag) (c : Value) (i : Nat) (tb : TDS) (ts : Addr → Addr → Option Addr → TDS) : TDS := fun D ds M => tb { D with xc := dAs K c i ts D } ds M
def dOnly (K : PySem.W.Frag) (c : Value) (ts : TDS) (D : DEnds) : DX := fun C fs ds M => ∃ b, PySem.W.exmOne K (.ref C) c = some b ∧ (b = true → ts { D with xc := fun _ _ _ _ => False } ds M) ∧ (b = false → D.xc C fs ds M)
def dTryOnly (K : PySem.W.Frag) (c : Value) (tb : TDS) (ts : TDS) : TDS := fun D ds M => tb { D with xc := dOnly K c ts D } ds M
/-- what is raised in a body, seen through the clause: the answers below -/
structure JTB (X : Cx) (W : WX) (body : List Stmt) (tb : TDS) : Prop where
  go : ∃ t : WX → TS, (∀ (W : WX) (pn : List (Addr × Obj)) (xe : Value → Shared → Prop), Takes (X.tr pn xe) W → PassesOwn (model X.prog X.w) X.A X.env xe → PSs (X.tr pn xe) body (t W)) ∧
    ∀ (W : WX) (M0 : Mm) (H0 : HF) (D0 : Ends) (D1 : DEnds), Link X.K W M0 H0 D0 D1 → ∀ (ds : DSt) (σ : St) (H : HF) (M : Mm), GG M0 H0 M H → SR X.K H ds σ → MR X.K M H → tb D1 ds M → t W D0 σ H.h
theorem jtb_of {X : Cx} {W0 : WX} {body : List Stmt} {tb : TDS} (h : ∀ (W : WX) (pn : List (Addr × Obj)) (xe : Value → Shared → Prop), Takes (X.tr pn xe) W → PassesOwn (model X.prog X.w) X.A X.env xe → JB (X.tr pn xe) W body tb) : JTB X W0 body tb := by
  refine ⟨fun W D σ H => ∀ pn xe (tk : Takes (X.tr pn xe) W) (po : PassesOwn (model X.prog X.w) X.A X.env xe), (h W pn xe tk po).go.choose D σ H, fun W pn xe tk po => ?_, fun W M0 H0 D0 D1 l ds σ H M gg s m q pn xe tk po => ?_⟩
  · have key := (h W pn xe tk po).go.choose_spec.1
    exact ⟨fun pins s σ H D I hh => key.run pins s σ H D I (hh pn xe tk po)⟩
  · exact (h W pn xe tk po).go.choose_spec.2 M0 H0 D0 D1 l ds σ H M gg s m q
/-- the suite, whatever the caught one is -/
structure JSu (X : Cx) (suite : List Stmt) (ts : Addr → Addr → Option Addr → TDS) : Prop where
  go : ∃ t : Addr → Value → Option Addr → TS, (∀ (a : Addr) (oe : Obj) (cls : Value) (d : Option Addr) (pn : List (Addr × Obj)), Zc cls d oe → (∃ vs, oe.data = .fields vs) → PSs (X.suite a ((a, oe) :: pn)) suite (t a cls d)) ∧
    ∀ (a C : Addr) (d : Option Addr) (M0 : Mm) (H0 : HF) (D0 : Ends) (D1 : DEnds), Link X.K (fun _ _ _ _ => False) M0 H0 D0 D1 → ∀ (ds : DSt) (σ : St) (H : HF) (M : Mm), GG M0 H0 M H → SR X.K H ds σ → MR X.K M H → ts a C d D1 ds M → t a (.ref C) d D0 σ H.h
theorem jsu_of {X : Cx} {suite : List Stmt} {ts : Addr → Addr → Option Addr → TDS}
    (h : ∀ (a : Addr) (oe : Obj) (C : Addr) (d : Option Addr) (pn : List (Addr × Obj)), Zc (.ref C) d oe → (∃ vs, oe.data = .fields vs) → JB (X.suite a ((a, oe) :: pn)) (fun _ _ _ _ => False) suite (ts a C d)) : JSu X suite ts := by
  refine ⟨fun a cls d D σ H => ∃ C, cls = .ref C ∧ ∀ oe pn (hz : Zc (.ref C) d oe) (hf : ∃ vs, oe.data = .fields vs), (h a oe C d pn hz hf).go.choose D σ H, fun a oe cls d pn hz hf => ?_, fun a C d M0 H0 D0 D1 l ds σ H M gg s m q => ⟨C, rfl, fun oe pn hz hf => ?_⟩⟩
  · refine ⟨fun pins s σ H D I hh => ?_⟩
    obtain ⟨C, rfl, hh⟩ := hh
    exact (h a oe C d pn hz hf).go.choose_spec.1.run pins s σ H D I (hh oe pn hz hf)
  · exact (h a oe C d pn hz hf).go.choose_spec.2 M0 H0 D0 D1 l ds σ H M gg s m q
section
variable {X : Cx} {W : WX} {x n : Str} {c : Value} {i : Nat} {body suite : List Stmt} {b₀ : Stmt} {np pos pos' : Pos} {tb : TDS} {ts : Addr → Addr → Option Addr → TDS}
theorem js_tryAs (hN : X.N.Nodup) (hc : Names X x c) (tk : Takes X W) (hb : JTB X W body tb) (hsu : JSu X (b₀ :: suite) ts) (hs : X.stack = X.env :: X.outer := by rfl) (hf : X.env.frame = some X.env.locals := by rfl) (hi : X.N[i]? = some n := by rfl) (hln : X.env.kindOf n = some .local := by rfl) :
    JS X W (.Try body [.ExceptHandler (some (.Name x np)) (some n) (b₀ :: suite) pos'] [] [] pos) (dTryAs X.K c i tb ts) := by
  obtain ⟨t, pb, gb⟩ := hb
  obtain ⟨u, pu, gu⟩ := hsu
  refine ⟨_, ps_try_as hs hf hN hi hln hc tk pb pu, fun M0 H0 D0 D1 l ds σ H M gg s m q => ?_⟩
  refine gb _ M0 H0 D0 { D1 with xc := dAs X.K c i ts D1 } ⟨l.nx, l.rt, l.bk, l.ct, ?_⟩ ds σ H M gg s m q
  intro C od σ4 ds4 fs H4 M4 f4 g4 s4 x4 m4 q4
  obtain ⟨b, hb1, hyes, hno⟩ := q4
  refine ⟨b, hb1, fun e a ha => ?_, fun e => l.xc C od σ4 ds4 fs H4 M4 f4 g4 s4 x4 m4 (hno e)⟩
  have na := m4.free ha
  have L : ∀ H0' M0', GG M0 H0 M0' H0' → Link X.K (fun _ _ _ _ => False) M0' H0' { nx := fun σ' H' => D0.nx (σ'.set i none) H', rt := D0.rt, bk := fun σ' H' => D0.bk (σ'.set i none) H', ct := fun σ' H' => D0.ct (σ'.set i none) H' } (asEnds i D1) := fun H0' M0' g0 =>
    ⟨fun σ5 ds5 H5 M5 g5 s5 m5 q5 => l.nx _ _ H5 M5 (g0.trans g5) (s5.forget i) m5 q5, fun v d H5 M5 g5 r5 m5 q5 => l.rt v d H5 M5 (g0.trans g5) r5 m5 q5, fun σ5 ds5 H5 M5 g5 s5 m5 q5 => l.bk _ _ H5 M5 (g0.trans g5) (s5.forget i) m5 q5,
      fun σ5 ds5 H5 M5 g5 s5 m5 q5 => l.ct _ _ H5 M5 (g0.trans g5) (s5.forget i) m5 q5, fun _ _ _ _ _ _ _ _ _ _ _ _ z => z.elim⟩
  cases od with
  | none => exact gu a C none M4 H4 _ _ (L H4 M4 g4) (ds4.set i (some (.ref a))) _ H4 M4 GG.refl (s4.set (.ref a) i) m4 ((hyes e a na).1 x4)
  | some dd =>
    obtain ⟨xn, xf, vs, xh, xr⟩ := x4
    have hne : a ≠ dd := by rintro rfl; rw [ha] at xh; cases xh
    have m5 : MR X.K (mup M4 dd (.xd fs)) H4 := m4.known (w := .xd fs) ⟨vs, xh, xr⟩ xf
    exact gu a C (some dd) (mup M4 dd (.xd fs)) H4 _ _ (L H4 _ (g4.known (f4 dd rfl))) (ds4.set i (some (.ref a))) _ H4 _ GG.refl (s4.set (.ref a) i) m5 ((hyes e a na).2 dd xn hne)
theorem js_tryOnly {ts : TDS} (hc : Names X x c) (tk : Takes X W) (hb : JTB X W body tb) (hsu : JSu X (b₀ :: suite) fun _ _ _ => ts) (hs : X.stack = X.env :: X.outer := by rfl) (hf : X.env.frame = some X.env.locals := by rfl) :
    JS X W (.Try body [.ExceptHandler (some (.Name x np)) none (b₀ :: suite) pos'] [] [] pos) (dTryOnly X.K c tb ts) := by
  obtain ⟨t, pb, gb⟩ := hb
  obtain ⟨u, pu, gu⟩ := hsu
  refine ⟨_, ps_try_only hs hf hc tk pb pu, fun M0 H0 D0 D1 l ds σ H M gg s m q => ?_⟩
  refine gb _ M0 H0 D0 { D1 with xc := dOnly X.K c ts D1 } ⟨l.nx, l.rt, l.bk, l.ct, ?_⟩ ds σ H M gg s m q
  intro C od σ4 ds4 fs H4 M4 f4 g4 s4 x4 m4 q4
  obtain ⟨b, hb1, hyes, hno⟩ := q4
  refine ⟨b, hb1, fun e a ha => ?_, fun e => l.xc C od σ4 ds4 fs H4 M4 f4 g4 s4 x4 m4 (hno e)⟩
  refine gu a C od M4 H4 D0 { D1 with xc := fun _ _ _ _ => False } ⟨fun σ5 ds5 H5 M5 g5 s5 m5 q5 => l.nx _ _ H5 M5 (g4.trans g5) s5 m5 q5, fun v d H5 M5 g5 r5 m5 q5 => l.rt v d H5 M5 (g4.trans g5) r5 m5 q5, fun σ5 ds5 H5 M5 g5 s5 m5 q5 => l.bk _ _ H5 M5 (g4.trans g5) s5 m5 q5,
      fun σ5 ds5 H5 M5 g5 s5 m5 q5 => l.ct _ _ H5 M5 (g4.trans g5) s5 m5 q5, fun _ _ _ _ _ _ _ _ _ _ _ _ z => z.elim⟩ ds4 σ4 H4 M4 GG.refl s4 m4 (hyes e)
end

/-! ### the caught one: its class, its field -/
def clsD : D → Option Value
  | .ref C => some (.ref C)
  | .ty n => some (.type n)
  | _ => none
def clsDs : List D → Option (List Value)
  | [] => some []
  | d :: r => (clsD d).bind fun v => (clsDs r).map (v :: ·)
/-- isinstance(e, c), e caught -/
def isX (K : PySem.W.Frag) (C a : Addr) (d : Option Addr) : DRC := fun xs M Q => match xs with
  | [.ref b, y] => b = a ∧ L2.ExcC K C ∧ (match d with | none => True | some dd => ∃ fs, M dd = some (.xd fs)) ∧ (match y with
    | .tup ys => (match clsDs ys with | some ws => (match PySem.W.kitAny K (.ref C) ws with | some k => Q (.bl k) M | none => False) | none => False)
    | y => (match clsD y with | some w => (match PySem.W.kitOne K (.ref C) w with | some k => Q (.bl k) M | none => False) | none => False))
  | _ => False
theorem clsD_v {K : PySem.W.Frag} {H : HF} {d : D} {v : V} {w : Value} (r : VR K H d v) (h : clsD d = some w) : ClsV v w := by
  cases r with
  | ref C => cases h; exact .own C
  | ty n => cases h; exact .ty n
  | _ => cases h
theorem clsDs_v {K : PySem.W.Frag} {H : HF} : ∀ {ds : List D} {vs : List V} {ws : List Value}, VRs K H ds vs → clsDs ds = some ws → Paired ClsV vs ws
  | [], _, _, r, h => by cases r; cases h; exact .nil
  | d :: ds, _, _, r, h => by
    cases r with
    | cons r1 r2 =>
      unfold clsDs at h
      obtain ⟨w, h1, h2⟩ := Option.bind_eq_some_iff.mp h
      obtain ⟨ws, h3, rfl⟩ := Option.map_eq_some_iff.mp h2
      exact .cons (clsD_v r1 h1) (clsDs_v r2 h3)
theorem lift_isX {K : PySem.W.Frag} {C a : Addr} {d : Option Addr} : LiftC K (rIsX K C a d) (isX K C a d) := by
  intro vs ds H M Q Q0 r m h k
  unfold isX at h
  split at h
  · rename_i b y
    obtain ⟨rfl, T, hd, h⟩ := h
    obtain ⟨v, w, rfl, r1, r2⟩ := r.two
    cases r1.ref_v
    have hD : DictAt d H.h := by
      cases d with
      | none => trivial
      | some dd =>
        obtain ⟨fs, e⟩ := hd
        obtain ⟨us, h1, _⟩ := m.ob dd _ e
        exact ⟨us, h1⟩
    split at h
    · rename_i ys
      obtain ⟨t, us, rfl, st, rt⟩ := r2.tup_v
      split at h
      · rename_i ws e1
        split at h
        · rename_i kk e2
          exact ⟨.ref t, kk, rfl, T, hD, .tup st (clsDs_v rt e1) e2, k _ H _ M (.bl _) m GG.refl h⟩
        · exact h.elim
      · exact h.elim
    · split at h
      · rename_i ww e1
        split at h
        · rename_i kk e2
          exact ⟨w, kk, rfl, T, hD, .one (clsD_v r2 e1) e2, k _ H _ M (.bl _) m GG.refl h⟩
        · exact h.elim
      · exact h.elim
  · exact h.elim
end DM

namespace DM
open PySem L2
open PyProof.Rows (b2i)

section
variable {X : Cx} {a C : Addr} {oe : Obj} {d : Option Addr} {pn : List (Addr × Obj)} {e : Expr} {es : List Expr} {te : TDE} {ta : TDA} {pos p : Pos}
theorem je_isX (hz : Zc (.ref C) d oe) (hf : ∃ vs, oe.data = .fields vs) (hm : X.mg "isinstance" = none) (ha : JA (X.suite a ((a, oe) :: pn)) (e :: es) ta) (hg : Gl (X.suite a ((a, oe) :: pn)) "isinstance" := by rfl)
    (he : starEach (e :: es) X.env = (false, eval e X.env) :: starEach es X.env := by rfl) (hpl : (backTo pos (starEach es X.env)).any (·.1) = false := by rfl) :
    JE (X.suite a ((a, oe) :: pn)) (.Call (.Name "isinstance" p) (e :: es) [] pos) (dCB (isX X.K C a d) ta) := je_callB (call_isX hz hf) lift_isX hg hm PyProof.Rows.boot_isinstance ha (by decide) (by decide) he hpl
theorem je_gcls {X : Cx} {x : Str} {C : Addr} {pos : Pos} (hg : Gl X x) (hm : X.mg x = some (.ref C)) (hd : (x == ("__debug__" : Str)) = false := by decide) : JE X (.Name x pos) (dC (.ref C)) := je_c (pe_glob (v := .ref C) hg hm rfl hd) fun _ => .ref C
/-- e.f, e the caught one -/
def dXf (a C : Addr) (d : Option Addr) (C0 : Addr) (f : Str) (te : TDE) : TDE := fun ds M Q => te ds M fun x M1 => x = .ref a ∧ C = C0 ∧ ∃ dd fs v, d = some dd ∧ M1 dd = some (.xd fs) ∧ fs.lookup f = some v ∧ Q v M1
theorem FR.lookup {K : PySem.W.Frag} {H : HF} {f : Str} : ∀ {fs : List (Str × D)} {us : List (Str × V)} {v : D}, FR K H fs us → fs.lookup f = some v → ∃ u, us.lookup f = some u ∧ VR K H v u
  | _, _, _, .nil, h => by cases h
  | (g, x) :: fs, (_, y) :: us, v, .cons r1 r2, h => by
    simp only [List.lookup_cons] at h ⊢
    split at h
    · rename_i e
      cases h
      exact ⟨y, by simp_all, r1⟩
    · rename_i e
      obtain ⟨u, h1, h2⟩ := FR.lookup r2 h
      exact ⟨u, by simp_all, h2⟩
theorem je_xf {f : Str} {C0 : Addr} (T : L2.XfC X.K C0) (hno : PySem.W.findIn X.K (.ref C0) f = some none) (hz : Zc (.ref C) d oe) (hf : ∃ vs, oe.data = .fields vs) (he : JE (X.suite a ((a, oe) :: pn)) e te) (hb : attributeBase e f X.env (eval e X.env) = eval e X.env := by rfl) :
    JE (X.suite a ((a, oe) :: pn)) (.Attribute e f pos) (dXf a C d C0 f te) := by
  obtain ⟨u, q, g⟩ := he
  refine je_pe (pe_xf T hno hz hf q hb) fun ds σ H M Q Q0 s m q k => ?_
  refine g ds σ H M _ _ s m q fun v H1 d1 M1 r1 m1 g1 q1 => ?_
  obtain ⟨rfl, rfl, dd, fs, w, e1, e2, e3, q2⟩ := q1
  cases r1.ref_v
  obtain ⟨us, h1, h2⟩ := m1.ob dd _ e2
  obtain ⟨y, h3, h4⟩ := h2.lookup e3
  exact ⟨rfl, rfl, dd, us, y, e1, h1, h3, k y H1 w M1 h4 m1 g1 q2⟩
end
/-! ### a def that may raise -/
def ShrX (xc : Addr → List (Str × D) → Mm → Prop) : DX := fun C fs _ M' => ∃ M2, Sub M2 M' ∧ xc C fs M2
section
variable {P : Program} {w : World} {K : PySem.W.Frag} {mg : Str → Option Value} {base : Heap}
theorem fn_okX {x qual : Str} {st : Stmt} {f : Addr} {fd : FuncData} {N ps : List Str} {k : Nat} {sp : DSpX} (F : Fun K x qual st f fd) (S : FnScope N ps (defScope st)) (len : ∀ ds M R xc, sp ds M R xc → ds.length = ps.length)
    (body : ∀ (cdv : Value) (A : Around) (outer : List Env) (s : Shared) (H : Hp) (E : XK), Room k (A.deeper (PyProof.Rows.envOfC qual (defScope st) s.heap.objs.size f cdv)) →
      ∃ t, JB (cxOf (L2.CX P w) P w K mg base N qual (defScope st) f cdv A outer s H E) (fun cls d _ H => E cls d H) (defBody st) t ∧ ∀ (ds : List D) (M : Mm) (R : DQ) (xc : Addr → List (Str × D) → Mm → Prop), sp ds M R xc → t { nx := fun _ M' => Shr R .non M', rt := Shr R, xc := ShrX xc } (dstart N ds) M) :
    FnOk P w K mg base (L2.CX P w) (k + 1) f fd ps (toSpX K sp) := by
  refine F.okX S (fun vs H Q E h => ?_) fun cdv A outer s H vs Q E hr h => ?_
  · obtain ⟨ds, M, R, xc, H, _, r, _, h, _⟩ := h
    rw [← r.length]
    exact len ds M R xc h
  · obtain ⟨ds, M, R, xc, H, rfl, r, m, h, k, kx⟩ := h
    obtain ⟨t, ⟨t0, p, g⟩, hb⟩ := body cdv A outer s H.h E hr
    refine ⟨t0, p, ?_⟩
    refine g M H _ _ ⟨?_, ?_, ?_, ?_, ?_⟩ (dstart N ds) (L2.start N vs) H M GG.refl (SR.start r) m (hb ds M R xc h)
    · rintro σ ds' H' M' gg s' m' ⟨M2, d2, sb, fz, q⟩
      exact k _ (frzF M' M2 H') d2 M2 (fz.vr m' .non) (m'.frz sb) (gg.frz sb) q
    · rintro v d H' M' gg r' m' ⟨M2, d2, sb, fz, q⟩
      exact k v (frzF M' M2 H') d2 M2 (fz.vr m' r') (m'.frz sb) (gg.frz sb) q
    · intro _ _ _ _ _ _ _ q
      exact q.elim
    · intro _ _ _ _ _ _ _ q
      exact q.elim
    · rintro C od σ ds' fs H' M' xf gg s' xr m' ⟨M2, sb, q⟩
      refine kx C od fs (frzF M' M2 H') M2 xf (gg.frz sb) ?_ (m'.frz sb) q
      cases od with
      | none => exact xr
      | some dd =>
        obtain ⟨n1, n2, vs', h1, h2⟩ := xr
        refine ⟨sb.none n1, ?_, vs', h1, h2.mono TX.frz⟩
        rintro (f | ⟨⟨o, e⟩, _⟩)
        · exact n2 f
        · rw [n1] at e; cases e
/-! ### own classes -/
structure ClF (K : PySem.W.Frag) (C : Addr) : Prop where
  self : PySem.W.subIn K (.ref C) (.ref C) = some true
  kC : PySem.W.keepIn K (.ref C) = true
  eC : PySem.W.subIn K (.ref C) (.type "BaseException") = some true
  tC : PySem.W.typeIn K (.ref C) = some (.type "type")
  iC : PySem.W.isClsIn K C = true
  ga : PySem.W.findIn K (.ref C) "__getattribute__" = some (some (.builtin "BaseException.__getattribute__"))
  gg : PySem.W.findIn K (.ref C) "__getattr__" = some none
  ha : PySem.W.findIn K (.ref C) "__class__" = some (some (.builtin "object.__class__"))
  hd : PySem.W.hasDictIn K C = true
  hm : PySem.W.mroIn K C (.type "object") = some true
  ve : PySem.W.subIn K (.ref C) (.type "ValueError") = some true
  hn : PySem.W.specialIn K (.builtin "object.__class__") "__get__" = some (some (.builtin "getset_descriptor.__get__"))
  ht : PySem.W.takesIn K (.builtin "object.__class__") = some true
theorem ClF.exc {C : Addr} (T : ClF K C) : ExcC K C := ⟨T.ga, T.gg, T.eC, T.hd, T.ha, T.hn, T.ht, T.hm⟩
theorem ClF.xf {C : Addr} (T : ClF K C) : XfC K C := ⟨T.ga, T.gg, T.eC, T.hd⟩
theorem ClF.raises {X : Cx} {C : Addr} (T : ClF X.K C) : Raises X (.ref C) := raises_own T.eC T.tC
theorem kit_own {C D : Addr} {b : Bool} (TC : ClF K C) (T : ClF K D) (h : PySem.W.subIn K (.ref C) (.ref D) = some b) : PySem.W.kitOne K (.ref C) (.ref D) = some b := by
  have e2 : ((PySem.W.clsIn K D).isSome && PySem.W.typeIn K (.ref D) == some (.type "type")) = true := by
    have h2' : (PySem.W.clsIn K D).isSome = true := T.iC
    rw [h2', T.tC] <;> rfl
  have e : PySem.W.kitCls K (.ref C) (.ref D) = some b := by
    show (if ((PySem.W.clsIn K D).isSome && PySem.W.typeIn K (.ref D) == some (.type "type")) = true then PySem.W.subIn K (.ref C) (.ref D) else none) = some b
    rw [if_pos e2]
    exact h
  unfold PySem.W.kitOne
  split
  · rename_i q
    have q := Value.ref.inj (beq_iff_eq.mp q)
    subst q
    rw [TC.self] at h
    rw [h]
  · exact e
theorem kit_ve {C : Addr} (T : ClF K C) : PySem.W.kitOne K (.ref C) (.type "ValueError") = some true := by
  have e : PySem.W.kitCls K (.ref C) (.type "ValueError") = some true := by
    show (if PySem.W.kitMeta "ValueError" = true then PySem.W.subIn K (.ref C) (.type "ValueError") else none) = some true
    rw [if_pos (by decide +kernel)]
    exact T.ve
  unfold PySem.W.kitOne
  split
  · rfl
  · exact e
theorem exm_own {C D : Addr} {b : Bool} (T : ClF K D) (h : PySem.W.subIn K (.ref C) (.ref D) = some b) : PySem.W.exmOne K (.ref C) (.ref D) = some b := by
  have e1 : (PySem.W.subIn K (.ref D) (.type "BaseException") == some true) = true := by rw [T.eC] <;> rfl
  have e2 : ((PySem.W.clsIn K D).isSome && PySem.W.typeIn K (.ref D) == some (.type "type")) = true := by
    have h2' : (PySem.W.clsIn K D).isSome = true := T.iC
    rw [h2', T.tC] <;> rfl
  show (if (PySem.W.subIn K (.ref D) (.type "BaseException") == some true) = true then (if ((PySem.W.clsIn K D).isSome && PySem.W.typeIn K (.ref D) == some (.type "type")) = true then PySem.W.subIn K (.ref C) (.ref D) else none) else none) = some b
  rw [if_pos e1, if_pos e2]
  exact h
/-- C.__init__, over its base B -/
theorem init_go {C a : Addr} {n : Int} {f : Str} {H : Hp} {Q : VK} {m : List V → Hp → (List V → Hp → Prop) → Prop} (T : OexC K C) (hno : PySem.W.findIn K (.ref C) f = some none) (e : H a = some (exo a C none))
    (q : ∀ d, H d = none → d ≠ a → Q .non (upd (upd H d (exd d [(f, .int n)])) a (exo a C (some d)))) :
    tOst K f (tVar 0) (tVar 1) { nx := fun _ H' => Q .non H', rt := Q } [some (.ref a), some (.int n)] H := by
  exact ⟨.int n, rfl, .ref a, rfl, a, C, rfl, T, hno, .inl ⟨e, fun dx h1 h2 => q dx h1 h2⟩⟩
def tStrI (z : Str) : TE := tOp (fun x y H Q => ∃ i j : Str, x = .str i ∧ y = .str j ∧ i.length + j.length ≤ sizeLine ∧ Q (.str (i ++ j)) H) (tC (.str z)) (tCB (fun xs H Q => ∃ i, xs = [.int i] ∧ i.natAbs.log2 < 1920 ∧ Q (.str (toString i)) H) (tCons (tVar 1) tNil))
theorem ok_init {C f : Addr} {fd : FuncData} {n qual : Str} {st : Stmt} {te : TE} (F : Fun K "__init__" qual st f fd) (S : FnScope ["self", n] ["self", n] (defScope st)) (T : OexC K C) (hno : PySem.W.findIn K (.ref C) n = some none)
    (ht : ∀ (a : Addr) (i : Int) (H : Hp) (Q : VK), i.natAbs.log2 < 1920 → (∀ z, Q (.str z) H) → te [some (.ref a), some (.int i)] H Q)
    (body : ∀ (cdv : Value) (A : Around) (outer : List Env) (s : Shared) (H : Hp) (E : XK), PSs (cxOf CX0 P w K mg base ["self", n] qual (defScope st) f cdv A outer s H E).nox (defBody st) (tSeq (tDrop (tVeI K (tCons (tVar 0) (tCons te tNil)))) (tOst K n (tVar 0) (tVar 1)))) :
    FnOk P w K mg base CX0 1 f fd ["self", n] (spInit C n) := by
  refine F.ok S (fun vs H Q E h => ?_) fun cdv A outer s H vs Q E hr h => ⟨_, body cdv A outer s H E, ?_⟩
  · obtain ⟨a, n, rfl, _⟩ := h
    rfl
  · obtain ⟨a, i, rfl, hn, e, k⟩ := h
    refine ⟨.ref a, rfl, ht a i H _ hn fun z => ⟨a, C, [.str z], rfl, (by simp), T, e, ?_⟩⟩
    exact ⟨.int i, rfl, .ref a, rfl, a, C, rfl, T, hno, .inl ⟨e, fun dx h1 h2 => k dx h1 h2⟩⟩
theorem tStrI_ok {z : Str} (hz : z.length ≤ 1000) (a : Addr) (i : Int) (H : Hp) (Q : VK) (h : i.natAbs.log2 < 1920) (q : ∀ z, Q (.str z) H) : tStrI z [some (.ref a), some (.int i)] H Q := by
  refine ⟨.int i, rfl, i, rfl, h, z, _, rfl, rfl, ?_, q _⟩
  have e := int_text_length_le (k := 1920) (by decide) h
  have e2 : (Str.ofString (toString i)).length = (toString i).length := ofString_length _
  show z.length + (Str.ofString (toString i)).length ≤ sizeLine
  rw [e2, sizeLine_eq]
  omega
end
end DM
namespace DM
open PySem
/-- a class's member -/
def memS (s : Stmt) (j : Nat) : Stmt := match s with
  | .ClassDef _ _ _ b _ _ _ _ _ _ _ => b.getD j (.Pass ⟨0, 0, 0, 0⟩)
  | _ => .Pass ⟨0, 0, 0, 0⟩
end DM
namespace DM
open PySem L2
open PyProof.Rows (b2i)
section
variable {K : PySem.W.Frag} {C a : Addr} {d : Option Addr} {M : Mm} {Q : DQ} {c : Value} {i : Nat} {D : DEnds} {ts : Addr → Addr → Option Addr → TDS} {fs : List (Str × DM.D)} {ds : DSt}
def DicX (d : Option Addr) (M : Mm) : Prop := match d with | none => True | some dd => ∃ fs, M dd = some (.xd fs)
theorem isX_ref {D : Addr} {k : Bool} (T : ExcC K C) (hd : DicX d M) (hk : PySem.W.kitOne K (.ref C) (.ref D) = some k) (h : Q (.bl k) M) : isX K C a d [.ref a, .ref D] M Q := ⟨rfl, T, hd, by simp only [clsD, hk]; exact h⟩
theorem isX_ty {n : String} {k : Bool} (T : ExcC K C) (hd : DicX d M) (hk : PySem.W.kitOne K (.ref C) (.type n) = some k) (h : Q (.bl k) M) : isX K C a d [.ref a, .ty n] M Q := ⟨rfl, T, hd, by simp only [clsD, hk]; exact h⟩
theorem isX_tup {ys : List DM.D} {ws : List Value} {k : Bool} (T : ExcC K C) (hd : DicX d M) (hw : clsDs ys = some ws) (hk : PySem.W.kitAny K (.ref C) ws = some k) (h : Q (.bl k) M) : isX K C a d [.ref a, .tup ys] M Q := ⟨rfl, T, hd, by simp only [hw, hk]; exact h⟩
theorem kitAny_no {D : Value} {ws : List Value} {k : Bool} (h : PySem.W.kitOne K (.ref C) D = some false) (h2 : PySem.W.kitAny K (.ref C) ws = some k) : PySem.W.kitAny K (.ref C) (D :: ws) = some k := by unfold PySem.W.kitAny; rw [h]; exact h2
theorem kitAny_yes {D : Value} {ws : List Value} (h : PySem.W.kitOne K (.ref C) D = some true) : PySem.W.kitAny K (.ref C) (D :: ws) = some true := by unfold PySem.W.kitAny; rw [h]
/-- caught -/
theorem dAs_go (h : PySem.W.exmOne K (.ref C) c = some true) (h0 : ∀ a, M a = none → fs = [] → ts a C none (asEnds i D) (ds.set i (some (.ref a))) M)
    (h1 : ∀ a dd, M a = none → M dd = none → a ≠ dd → ts a C (some dd) (asEnds i D) (ds.set i (some (.ref a))) (mup M dd (.xd fs))) : dAs K c i ts D C fs ds M :=
  ⟨true, h, fun _ a ha => ⟨h0 a ha, fun dd hd hne => h1 a dd ha hd hne⟩, (fun e => by cases e)⟩
theorem dAs_thru (h : PySem.W.exmOne K (.ref C) c = some false) (h0 : D.xc C fs ds M) : dAs K c i ts D C fs ds M := ⟨false, h, (fun e => by cases e), fun _ => h0⟩
theorem dOnly_go {ts : TDS} (h : PySem.W.exmOne K (.ref C) c = some true) (h0 : ts { D with xc := fun _ _ _ _ => False } ds M) : dOnly K c ts D C fs ds M := ⟨true, h, fun _ => h0, (fun e => by cases e)⟩
end
theorem ShrX.all {xc : Addr → List (Str × D) → Mm → Prop} {C : Addr} {fs : List (Str × D)} {ds : DSt} {M : Mm} (h : xc C fs M) : ShrX xc C fs ds M := ⟨M, Sub.refl, h⟩
theorem ShrX.of {xc : Addr → List (Str × D) → Mm → Prop} {C : Addr} {fs : List (Str × D)} {ds : DSt} {M M2 : Mm} (h : xc C fs M2) (s : Sub M2 M) : ShrX xc C fs ds M := ⟨M2, s, h⟩
end DM
namespace DM
open PySem L2
theorem cutL_map {α β : Type} (f : α → β) (xs : List α) (lo hi : Option Int) : cutL (xs.map f) lo hi = (cutL xs lo hi).map f := by
  unfold cutL
  rw [List.length_map, List.map_take, List.map_drop]
theorem cutL_le {α : Type} (xs : List α) (lo hi : Option Int) : (cutL xs lo hi).length ≤ xs.length := by
  unfold cutL
  rw [List.length_take, List.length_drop]
  omega
theorem cutL_mem {α : Type} {xs : List α} {lo hi : Option Int} {x : α} (h : x ∈ cutL xs lo hi) : x ∈ xs := by
  unfold cutL at h
  exact List.mem_of_mem_drop (List.mem_of_mem_take h)
end DM

/-! runs -/
namespace DM
open PySem L2
open PyProof.Rows (b2i)
/-- the stand behind a run, or the place of the first step that doesn't go -/
def goF (rs : List Rl) : St2 → List Int → Nat → St2 ⊕ Nat
  | s, [], _ => .inl s
  | s, n :: ns, at_ => match behF rs s n with | some t => goF rs t ns (at_ + 1) | none => .inr at_
theorem behF_len2 {rs : List Rl} {s t : St2} {n : Int} (hw : ∀ r ∈ rs, r.w.length ≤ 2) (h : behF rs s n = some t) : t.2.length ≤ 2 + s.2.length := by
  unfold behF at h
  split at h
  · split at h
    · rename_i r hr
      unfold stepF at h
      split at h
      · cases h
        have := hw r (List.mem_of_getElem? hr)
        simp; omega
      · cases h
    · cases h
  · cases h
theorem goF_lt {rs : List Rl} : ∀ {ns : List Int} {s : St2} {a k : Nat}, goF rs s ns a = .inr k → k < a + ns.length
  | [], s, a, k, h => by cases h
  | n :: ns, s, a, k, h => by
    unfold goF at h
    split at h
    · have := goF_lt h; simp; omega
    · cases h; simp
/-- the stand behind a run, or the place of the first step that doesn't go -/
def dueD : St2 ⊕ Nat → D
  | .inl t => stD t
  | .inr k => .int (k : Nat)
/-- [the stand behind a run], or the place of the first step that doesn't go -/
def toldD : St2 ⊕ Nat → D
  | .inl t => .lst [stD t]
  | .inr k => .int (k : Nat)
section
variable {M : Mm} {Q : DQ}
theorem ix_last {p : Addr} {xs : List D} {d : D} (e : lstOf M p = some xs) (h1 : xs[xs.length - 1]? = some d) (h : Q d M) : ixR (.ref p) (.int (-1)) M Q := by
  have := ix_Ll (M := M) (Q := Q) h1 h
  unfold ixR at this ⊢
  simp only [e]
  exact this
end
end DM

/-! the deck and what a def has made; loops by the slots that they change -/
namespace DM
open PySem L2
open PyProof.Rows (b2i)
/-- the store behind M0: a deck, the objects L that the def has made, the rest as it was -/
structure Bx (d c : Addr) (r : Nat) (M0 : Mm) (L : List (Addr × MO)) (M : Mm) : Prop where
  dk : Deck M d c r
  ex : Ext d c M0 M
  lo : ∀ q ∈ L, M q.1 = some q.2 ∧ M0 q.1 = none ∧ q.1 ≠ d ∧ q.1 ≠ c
  nd : (L.map (·.1)).Nodup
section
variable {d c p q : Addr} {r r' n : Nat} {M0 M M' : Mm} {L : List (Addr × MO)} {o o' : MO} {xs ys : List D}
theorem Bx.start (D : Deck M d c r) : Bx d c r M [] M := ⟨D, Ext.refl, by simp, by simp⟩
theorem Bx.mono (b : Bx d c r M0 L M) (e : r' ≤ r) : Bx d c r' M0 L M := ⟨b.dk.mono e, b.ex, b.lo, b.nd⟩
theorem Bx.new (b : Bx d c r M0 L M) (h : M p = none) : Bx d c r M0 ((p, o) :: L) (mup M p o) := by
  have hpd := b.dk.nd h
  have hpc := b.dk.nc h
  refine ⟨b.dk.up h, b.ex.new h, fun q hq => ?_, ?_⟩
  · rcases List.mem_cons.mp hq with rfl | hq
    · exact ⟨mup_same, b.ex.fresh b.dk h, hpd, hpc⟩
    · obtain ⟨h1, h2, h3, h4⟩ := b.lo q hq
      refine ⟨?_, h2, h3, h4⟩
      rw [mup_ne]
      · exact h1
      · intro e; rw [e, h] at h1; cases h1
  · rw [List.map_cons, List.nodup_cons]
    refine ⟨fun hm => ?_, b.nd⟩
    obtain ⟨q, hq, e⟩ := List.mem_map.mp hm
    have := (b.lo q hq).1
    rw [e] at this
    simp only at this
    rw [h] at this
    cases this
theorem Bx.fresh (b : Bx d c r M0 L M) (h : M p = none) : M0 p = none := b.ex.fresh b.dk h
theorem Bx.put1 (b : Bx d c r M0 ((p, o) :: L) M) : Bx d c r M0 ((p, o') :: L) (mup M p o') := by
  obtain ⟨h1, h2, h3, h4⟩ := b.lo (p, o) (by simp)
  simp only at h1 h2 h3 h4
  have nd := b.nd
  rw [List.map_cons, List.nodup_cons] at nd
  refine ⟨b.dk.keep h3 h4, b.ex.put h2, fun q hq => ?_, b.nd⟩
  rcases List.mem_cons.mp hq with rfl | hq
  · exact ⟨mup_same, h2, h3, h4⟩
  · obtain ⟨g1, g2, g3, g4⟩ := b.lo q (List.mem_cons_of_mem _ hq)
    refine ⟨?_, g2, g3, g4⟩
    rw [mup_ne]
    · exact g1
    · intro e; exact nd.1 (e ▸ List.mem_map.mpr ⟨q, hq, rfl⟩)
theorem Bx.put2 {y : Addr × MO} (b : Bx d c r M0 (y :: (p, o) :: L) M) : Bx d c r M0 (y :: (p, o') :: L) (mup M p o') := by
  obtain ⟨h1, h2, h3, h4⟩ := b.lo (p, o) (by simp)
  simp only at h1 h2 h3 h4
  have nd := b.nd
  simp only [List.map_cons, List.nodup_cons, List.mem_cons, not_or] at nd
  refine ⟨b.dk.keep h3 h4, b.ex.put h2, fun q hq => ?_, b.nd⟩
  rcases List.mem_cons.mp hq with rfl | hq
  · obtain ⟨g1, g2, g3, g4⟩ := b.lo q (by simp)
    exact ⟨by rw [mup_ne nd.1.1]; exact g1, g2, g3, g4⟩
  · rcases List.mem_cons.mp hq with rfl | hq
    · exact ⟨mup_same, h2, h3, h4⟩
    · obtain ⟨g1, g2, g3, g4⟩ := b.lo q (by simp [hq])
      refine ⟨?_, g2, g3, g4⟩
      rw [mup_ne]
      · exact g1
      · intro e; exact nd.2.1 (e ▸ List.mem_map.mpr ⟨q, hq, rfl⟩)
theorem Bx.at1 (b : Bx d c r M0 ((p, o) :: L) M) : M p = some o := (b.lo (p, o) (by simp)).1
theorem Bx.at2 {y : Addr × MO} (b : Bx d c r M0 (y :: (p, o) :: L) M) : M p = some o := (b.lo (p, o) (by simp)).1
theorem Bx.at3 {y z : Addr × MO} (b : Bx d c r M0 (y :: z :: (p, o) :: L) M) : M p = some o := (b.lo (p, o) (by simp)).1
theorem Bx.lst1 (b : Bx d c r M0 ((p, .lst xs) :: L) M) : lstOf M p = some xs := lstOf_some b.at1
theorem Bx.lst2 {y : Addr × MO} (b : Bx d c r M0 (y :: (p, .lst xs) :: L) M) : lstOf M p = some xs := lstOf_some b.at2
theorem Bx.lst3 {y z : Addr × MO} (b : Bx d c r M0 (y :: z :: (p, .lst xs) :: L) M) : lstOf M p = some xs := lstOf_some b.at3
theorem Bx.dic1 {kvs : List (Key × D)} (b : Bx d c r M0 ((p, .dic kvs) :: L) M) : dicOf M p = some kvs := dicOf_some b.at1
theorem Bx.dic2 {y : Addr × MO} {kvs : List (Key × D)} (b : Bx d c r M0 (y :: (p, .dic kvs) :: L) M) : dicOf M p = some kvs := dicOf_some b.at2
theorem Bx.call (b : Bx d c r M0 L M) (D : Deck M' d c r') (U : Upto d c M M') : Bx d c r' M0 L M' :=
  ⟨D, b.ex.trans U.ext, fun q hq => by
    obtain ⟨h1, h2, h3, h4⟩ := b.lo q hq
    exact ⟨by rw [U q.1 h3 h4]; exact h1, h2, h3, h4⟩, b.nd⟩
theorem Bx.drop1 {y : Addr × MO} (b : Bx d c r M0 (y :: L) M) : Bx d c r M0 L M := ⟨b.dk, b.ex, fun q hq => b.lo q (List.mem_cons_of_mem _ hq), (List.nodup_cons.mp b.nd).2⟩
theorem Bx.fin {R : DQ} {x : D} (b : Bx d c r M0 L M) (h : ∀ M2, Deck M2 d c r → Upto d c M0 M2 → R x M2) : Shr R x M := Shr.deck b.ex b.dk fun M2 U D => h M2 D U
theorem Bx.finL {R : DQ} {r0 : Nat} (b : Bx d c r M0 ((p, .lst xs) :: L) M) (D0 : Deck M0 d c r0) (h : ∀ M2, Deck M2 d c r → Upto d c M0 M2 → R (.lst xs) M2) : Shr R (.ref p) M :=
  Shr.deckL D0 (b.lo (p, .lst xs) (by simp)).2.1 b.lst1 b.ex b.dk fun M2 U D => h M2 D U
/-- draws: some answer of a kind, so many draws less -/
def Draws (d : Addr) (cost : Nat) (P : D → Prop) (M : Mm) (R : DQ) : Prop := ∃ c r, Deck M d c (r + cost) ∧ ∀ x M', P x → Deck M' d c r → Upto d c M M' → R x M'
theorem Bx.draws {cost : Nat} {P : D → Prop} {R : DQ} (b : Bx d c n M0 L M) (h : cost ≤ n) (k : ∀ x M', P x → Bx d c (n - cost) M0 L M' → R x M') : Draws d cost P M R :=
  ⟨c, n - cost, b.dk.mono (by omega), fun x M' hx D U => k x M' hx (b.call D U)⟩
end
/-! loops, the slots they change named -/
def puts : DSt → List Nat → List (Option D) → DSt
  | ds, i :: is, v :: vs => puts (ds.set i v) is vs
  | ds, [], _ => ds
  | ds, _ :: _, [] => ds
theorem puts_len : ∀ (is : List Nat) (vs : List (Option D)) (ds : DSt), (puts ds is vs).length = ds.length
  | [], vs, ds => by cases vs <;> rfl
  | _ :: _, [], ds => rfl
  | i :: is, v :: vs, ds => by rw [puts, puts_len is vs, List.length_set]
theorem puts_self : ∀ (is : List Nat) (ds : DSt), puts ds is (is.map (dget ds)) = ds
  | [], ds => rfl
  | i :: is, ds => by
    rw [List.map_cons, puts]
    have e : ds.set i (dget ds i) = ds := by
      apply List.ext_getElem?
      intro j
      by_cases h : i = j
      · subst h
        by_cases hl : i < ds.length
        · rw [List.getElem?_set_self hl, dget, List.getElem?_eq_getElem hl]; rfl
        · rw [List.getElem?_eq_none (by rw [List.length_set]; omega), List.getElem?_eq_none (by omega)]
      · rw [List.getElem?_set_ne h]
    rw [e]
    exact puts_self is ds
section
variable {ok : Mm → Prop} {g : TDG} {tb : TDS} {D : DEnds}
theorem forS (idx : List Nat) (I : Nat → List (Option DM.D) → Mm → Prop) {xs : List DM.D} {ds : DSt} {M : Mm} (hok : ∀ i vs M, I i vs M → ok M)
    (step : ∀ i x (N : DSt → Mm → Prop), xs[i]? = some x → (∀ vs ds' M, ds' = puts ds idx vs → I (i + 1) vs M → N ds' M) → ∀ vs M, I i vs M → g x (puts ds idx vs) M fun ds' M' => tb { D with nx := N, ct := N, bk := D.nx } ds' M')
    (fin : ∀ vs M, I xs.length vs M → D.nx (puts ds idx vs) M) (h0 : I 0 (idx.map (dget ds)) M) : forW ok g tb D xs ds M :=
  forW_go (fun i ds' M => ∃ vs, ds' = puts ds idx vs ∧ I i vs M) xs (fun i ds M ⟨vs, _, h⟩ => hok i vs M h)
    (fun i x N e hN ds' M ⟨vs, e', h⟩ => e' ▸ step i x N e (fun vs ds' M e h => hN ds' M ⟨vs, e, h⟩) vs M h) (fun ds' M ⟨vs, e, h⟩ => e ▸ fin vs M h) ds M ⟨_, (puts_self idx ds).symm, h0⟩
theorem forR (idx : List Nat) (I : Nat → List (Option DM.D) → Mm → Prop) {lo : Int} {n : Nat} {ds : DSt} {M : Mm} (hok : ∀ i vs M, I i vs M → ok M)
    (step : ∀ i (N : DSt → Mm → Prop), i < n → (∀ vs ds' M, ds' = puts ds idx vs → I (i + 1) vs M → N ds' M) → ∀ vs M, I i vs M → g (.int (lo + (i : Int))) (puts ds idx vs) M fun ds' M' => tb { D with nx := N, ct := N, bk := D.nx } ds' M')
    (fin : ∀ vs M, I n vs M → D.nx (puts ds idx vs) M) (h0 : I 0 (idx.map (dget ds)) M) : forW ok g tb D (rangeD lo n) ds M :=
  forS idx I hok (fun i x N e hN vs M h => by
    obtain ⟨h1, rfl⟩ := rangeD_get e
    exact step i N h1 hN vs M h) (fun vs M h => by rw [show (rangeD lo n).length = n by simp [rangeD]] at h; exact fin vs M h) h0
theorem forK (idx : List Nat) (I : List (Option DM.D) → Mm → Prop) {xs : List DM.D} {ds : DSt} {M : Mm} (hok : ∀ vs M, I vs M → ok M)
    (step : ∀ x ∈ xs, ∀ (N : DSt → Mm → Prop), (∀ vs ds' M, ds' = puts ds idx vs → I vs M → N ds' M) → ∀ vs M, I vs M → g x (puts ds idx vs) M fun ds' M' => tb { D with nx := N, ct := N, bk := D.nx } ds' M')
    (fin : ∀ vs M, I vs M → D.nx (puts ds idx vs) M) (h0 : I (idx.map (dget ds)) M) : forW ok g tb D xs ds M :=
  forS idx (fun _ => I) (fun _ => hok) (fun i x N e hN vs M h => step x (List.mem_of_getElem? e) N hN vs M h) fin h0
end
theorem seqS {t u : TDS} {D : DEnds} {ds : DSt} {M : Mm} (idx : List Nat) (J : List (Option DM.D) → Mm → Prop) (h1 : ∀ N : DSt → Mm → Prop, (∀ vs ds' M, ds' = puts ds idx vs → J vs M → N ds' M) → t { D with nx := N } ds M)
    (h2 : ∀ vs M, J vs M → u D (puts ds idx vs) M) : dSeq t u D ds M :=
  seq_cut (fun ds' M => ∃ vs, ds' = puts ds idx vs ∧ J vs M) (fun N hN => h1 N fun vs ds' M e h => hN ds' M ⟨vs, e, h⟩) fun ds' M ⟨vs, e, h⟩ => e ▸ h2 vs M h
/-! on a list just written -/
section
variable {M : Mm} {Q : DQ} {p : Addr} {xs ys : List D} {d : D}
theorem appendR_same : appendR (.ref p) [d] (mup M p (.lst xs)) Q = (xs.length < sizeLine ∧ Q .non (mup M p (.lst (xs ++ [d])))) := by
  unfold appendR
  simp only [lstOf_mup_same, mup_mup]
theorem lenR_same : lenR [.ref p] (mup M p (.lst xs)) Q = Q (.int xs.length) (mup M p (.lst xs)) := by
  unfold lenR
  simp only [mup_same]
theorem tup1R_same : tup1R [.ref p] (mup M p (.lst xs)) Q = Q (.tup xs) (mup M p (.lst xs)) := by
  unfold tup1R
  simp only [rdS_ref, lstOf_mup_same]
end
end DM

/-! more that simp may know -/
namespace DM
open PySem L2
open PyProof.Rows (b2i)
theorem sz0 : (0 ≤ sizeLine) = True := by simp
theorem sz1 : (1 ≤ sizeLine) = True := eq_true (small_line (by decide))
theorem sz2 : (2 ≤ sizeLine) = True := eq_true (small_line (by decide))
theorem sz3 : (3 ≤ sizeLine) = True := eq_true (small_line (by decide))
theorem sz4 : (4 ≤ sizeLine) = True := eq_true (small_line (by decide))
theorem sz5 : (5 ≤ sizeLine) = True := eq_true (small_line (by decide))
theorem sz6 : (6 ≤ sizeLine) = True := eq_true (small_line (by decide))
theorem sz7 : (7 ≤ sizeLine) = True := eq_true (small_line (by decide))
theorem sz8 : (8 ≤ sizeLine) = True := eq_true (small_line (by decide))
theorem sz9 : (9 ≤ sizeLine) = True := eq_true (small_line (by decide))
theorem sz10 : (10 ≤ sizeLine) = True := eq_true (small_line (by decide))
section
variable {M : Mm} {Q : DQ} {x y z u v : D} {xs ys : List D} {p : Addr} {n : Nat} {s : Str} {i : Int} {b : Bool}
theorem ix_L0 : ixR (.lst (x :: xs)) (.int 0) M Q = Q x M := by
  have e : atI (x :: xs) 0 = some x := atI_nat (j := 0) rfl
  unfold ixR
  simp only [e]
theorem ix_L1 : ixR (.lst (x :: y :: xs)) (.int 1) M Q = Q y M := by
  have e : atI (x :: y :: xs) 1 = some y := atI_nat (j := 1) rfl
  unfold ixR
  simp only [e]
theorem ix_L2 : ixR (.lst (x :: y :: z :: xs)) (.int 2) M Q = Q z M := by
  have e : atI (x :: y :: z :: xs) 2 = some z := atI_nat (j := 2) rfl
  unfold ixR
  simp only [e]
theorem ix_Lbs : ixR (.lst [x, y]) (.int (if b = true then 1 else 0)) M Q = Q (if b = true then y else x) M := by
  cases b
  · exact ix_L0
  · exact ix_L1
theorem dep_nil : (depDs [] ≤ n + 1) = True := eq_true (by simp [depDs])
theorem dep_cons : (depDs (x :: xs) ≤ n) = (depD x ≤ n ∧ depDs xs ≤ n) := by
  show (max (depD x) (depDs xs) ≤ n) = _
  exact propext Nat.max_le
theorem dep_tup : (depD (.tup xs) ≤ n + 1) = (depDs xs ≤ n) := by
  simp only [depD]
  exact propext ⟨fun h => by omega, fun h => by omega⟩
theorem dep_lst : (depD (.lst xs) ≤ n + 1) = (depDs xs ≤ n) := by
  simp only [depD]
  exact propext ⟨fun h => by omega, fun h => by omega⟩
theorem dep_str : (depD (.str s) ≤ n + 1) = True := eq_true (by simp [depD])
theorem dep_int : (depD (.int i) ≤ n + 1) = True := eq_true (by simp [depD])
theorem dep_bl : (depD (.bl b) ≤ n + 1) = True := eq_true (by simp [depD])
theorem dep_non : (depD .non ≤ n + 1) = True := eq_true (by simp [depD])
theorem dep_strs {l : List Str} : (depDs (l.map D.str) ≤ n + 1) = True := eq_true (Nat.le_trans (depDs_str l) (by omega))
theorem dep_ints {l : List Int} : (depDs (l.map D.int) ≤ n + 1) = True := eq_true (Nat.le_trans (depDs_int l) (by omega))
theorem dep_app : (depDs (xs ++ ys) ≤ n + 1) = (depDs xs ≤ n + 1 ∧ depDs ys ≤ n + 1) := by
  induction xs with
  | nil => simp [dep_nil]
  | cons a l ih => rw [List.cons_append, dep_cons, ih, dep_cons]; simp [and_assoc]
theorem dep_rules {rs : List Rl} : (depDs (rs.map ruleD) ≤ n + 3) = True := eq_true (Nat.le_trans (depDs_map ruleD 3 (by decide) (fun r => by have := depDs_str r.w; simp only [ruleD, depD, depDs]; omega) rs) (by omega))
theorem dep_prog {rs : List Rl} : (depD (progD rs) ≤ n + 4) = True := by unfold progD; rw [dep_tup]; exact dep_rules
theorem dep_st {t : St2} : (depD (stD t) ≤ n + 3) = True := by simp only [stD, dep_tup, dep_cons, dep_str, dep_strs, dep_nil, and_true]
theorem pu_nil : pureDs [] = true := rfl
theorem pu_cons : pureDs (x :: xs) = (pureD x && pureDs xs) := rfl
theorem pu_tup : pureD (.tup xs) = pureDs xs := by simp [pureD]
theorem pu_lst : pureD (.lst xs) = pureDs xs := by simp [pureD]
theorem pu_str : pureD (.str s) = true := rfl
theorem pu_int : pureD (.int i) = true := rfl
theorem pu_bl : pureD (.bl b) = true := rfl
theorem pu_non : pureD .non = true := rfl
theorem pu_app : pureDs (xs ++ ys) = (pureDs xs && pureDs ys) := by
  induction xs with
  | nil => rfl
  | cons a l ih => rw [List.cons_append, pu_cons, ih, pu_cons, Bool.and_assoc]
theorem pu_rule {r : Rl} : pureD (ruleD r) = true := pure_noBl _ (noBl_rule r)
theorem pu_rules {rs : List Rl} : pureDs (rs.map ruleD) = true := pure_noBls _ (noBls_rules rs)
theorem pu_prog {rs : List Rl} : pureD (progD rs) = true := by unfold progD; rw [pu_tup]; exact pu_rules
theorem pu_st {t : St2} : pureD (stD t) = true := pure_noBl _ (noBl_st t)
theorem eqv_self (h : pureDs xs = true) : eqvDs xs xs = true := eqvDs_refl _ h
theorem eqv_cons : eqvDs (x :: xs) (y :: ys) = (eqvD x y && eqvDs xs ys) := by simp [eqvDs]
theorem eqv_nn : eqvDs [] [] = true := by simp [eqvDs]
theorem eqv_nc : eqvDs [] (y :: ys) = false := by simp [eqvDs]
theorem eqv_cn : eqvDs (x :: xs) [] = false := by simp [eqvDs]
theorem eqv_tt : eqvD (.tup xs) (.tup ys) = eqvDs xs ys := by simp [eqvD]
theorem eqv_ss {t : Str} : eqvD (.str s) (.str t) = (s == t) := by simp [eqvD]
theorem eqv_ii {j : Int} : eqvD (.int i) (.int j) = (i == j) := by simp [eqvD]
end

theorem cutL_to1 {α : Type} (xs : List α) : cutL xs none (some 1) = xs.take 1 := cutL_to xs 1
theorem cutL_to2 {α : Type} (xs : List α) : cutL xs none (some 2) = xs.take 2 := cutL_to xs 2
theorem cutL_to3 {α : Type} (xs : List α) : cutL xs none (some 3) = xs.take 3 := cutL_to xs 3
theorem cutL_to15 {α : Type} (xs : List α) : cutL xs none (some 15) = xs.take 15 := cutL_to xs 15
/-- [one for one in xs if not isinstance(one, str)], xs texts -/
theorem lc_nostr {i : Nat} {ds0 : DSt} {Q : List D → Mm → Prop} {xs : List Str} {M : Mm} (hi : i < ds0.length) (hz : xs.length ≤ sizeLine) (h : Q [] M) :
    lcW (fun _ => True) (dgName i) (dNot (dTest (dCB isiR (dCons (dVar i) (dCons (dC (.ty "str")) dNil))))) (dVar i) ds0 Q (xs.map D.str) [] M := by
  refine lcW_filter D.str (fun _ => false) (fun _ => .non) hz trivial (fun x hx N F h1 h2 => ?_) ?_
  · have e : dget (ds0.set i (some (D.str x))) i = some (.str x) := by rw [dget, List.getElem?_set_self hi]; rfl
    simp only [dgName, dNot, dTest, dCB, dCons, dVar, dC, dNil, e, isi_s_str, isB, Bool.not_true, Bool.false_eq_true, if_false]
    exact h2 rfl
  · rw [show xs.filter (fun _ => false) = [] by simp, List.map_nil]
    exact h

theorem max2R_ii {i j : Int} {M : Mm} {Q : DQ} : max2R [.int i, .int j] M Q = Q (.int (max i j)) M := by
  show Q (.int (if j > i then j else i)) M = _
  congr 2
  split <;> omega
theorem min2R_ii {i j : Int} {M : Mm} {Q : DQ} : min2R [.int i, .int j] M Q = Q (.int (min i j)) M := by
  show Q (.int (if j < i then j else i)) M = _
  congr 2
  split <;> omega
theorem if_int {c : Prop} [Decidable c] {a b : Int} : (if c then D.int a else D.int b) = .int (if c then a else b) := by split <;> rfl

section
variable {M : Mm} {Q : DQ} {xs : List D} {i : Int}
theorem ix_allL (P : D → Prop) (h0 : 0 ≤ i) (h1 : i < xs.length) (hP : ∀ y ∈ xs, P y) (h : ∀ y, P y → Q y M) : ixR (.lst xs) (.int i) M Q := by
  obtain ⟨y, hy, my⟩ : ∃ y, xs[i.toNat]? = some y ∧ y ∈ xs := ⟨_, List.getElem?_eq_getElem (by omega), List.getElem_mem _⟩
  exact ix_L h0 hy (h y (hP y my))
theorem ix_allT (P : D → Prop) (h0 : 0 ≤ i) (h1 : i < xs.length) (hP : ∀ y ∈ xs, P y) (h : ∀ y, P y → Q y M) : ixR (.tup xs) (.int i) M Q := by
  obtain ⟨y, hy, my⟩ : ∃ y, xs[i.toNat]? = some y ∧ y ∈ xs := ⟨_, List.getElem?_eq_getElem (by omega), List.getElem_mem _⟩
  exact ix_t h0 hy (h y (hP y my))
theorem cutL_toN {α : Type} {xs : List α} {n : Nat} : cutL xs none (some (n : Int)) = xs.take n := cutL_to xs n
theorem cutL_toS {α : Type} {xs : List α} {n : Nat} : cutL xs none (some ((n : Int) + 1)) = xs.take (n + 1) := cutL_to xs (n + 1)
theorem cutL_fromN {α : Type} {xs : List α} {n : Nat} : cutL xs (some (n : Int)) none = xs.drop n := cutL_from xs n
theorem cutL_fromS {α : Type} {xs : List α} {n : Nat} : cutL xs (some ((n : Int) + 1)) none = xs.drop (n + 1) := cutL_from xs (n + 1)
end

section
variable {d c p : Addr} {r n r0 : Nat} {M0 M : Mm} {L : List (Addr × MO)} {P : D → Prop} {R : DQ} {x : D} {xs : List D}
theorem Bx.done (b : Bx d c n M0 L M) (k : ∀ x M', P x → Deck M' d c r → Upto d c M0 M' → R x M') (hx : P x) (hn : r ≤ n) : Shr R x M := b.fin fun M2 D U => k x M2 hx (D.mono hn) U
theorem Bx.doneL (b : Bx d c n M0 ((p, .lst xs) :: L) M) (D0 : Deck M0 d c r0) (k : ∀ x M', P x → Deck M' d c r → Upto d c M0 M' → R x M') (hx : P (.lst xs)) (hn : r ≤ n) : Shr R (.ref p) M := b.finL D0 fun M2 D U => k _ M2 hx (D.mono hn) U
end
section
variable {D : DEnds} {ds : DSt} {M : Mm} {s : TDS}
theorem sq_asg {te : TDE} {g : TDG} (h : dAsg te g { D with nx := s D } ds M) : dSeq (dAsg te g) s D ds M := h
theorem sq_drop {te : TDE} (h : dDrop te { D with nx := s D } ds M) : dSeq (dDrop te) s D ds M := h
theorem sq_for {ti : TDI} {g : TDG} {tb : TDS} (h : dFor ti g tb { D with nx := s D } ds M) : dSeq (dFor ti g tb) s D ds M := h
theorem sq_while {c : TDT} {tb : TDS} (h : dWhile c tb { D with nx := s D } ds M) : dSeq (dWhile c tb) s D ds M := h
theorem sq_dput {a b c : TDE} (h : dputS a b c { D with nx := s D } ds M) : dSeq (dputS a b c) s D ds M := h
theorem sq_lput {a b c : TDE} (h : dlputS a b c { D with nx := s D } ds M) : dSeq (dlputS a b c) s D ds M := h
theorem sq_par2 {i j : Nat} {t : TDA} (h : dPar2 i j t { D with nx := s D } ds M) : dSeq (dPar2 i j t) s D ds M := h
theorem sq_asgX {te : TDEX} {g : TDG} (h : dAsgX te g { D with nx := s D } ds M) : dSeq (dAsgX te g) s D ds M := h
theorem sq_dropX {te : TDEX} (h : dDropX te { D with nx := s D } ds M) : dSeq (dDropX te) s D ds M := h
end

theorem neR_prog0 {rs : List Rl} {M : Mm} {Q : DQ} : neR (progD rs) (.tup []) M Q = Q (.bl (!rs.isEmpty)) M := by
  unfold progD
  simp only [neR_tt, pu_rules, dep_rules, pu_nil, dep_nil, true_and, and_true, eqvDs_nil]
  cases rs <;> rfl
theorem eqR_prog0 {rs : List Rl} {M : Mm} {Q : DQ} : eqR (progD rs) (.tup []) M Q = Q (.bl rs.isEmpty) M := by
  unfold progD
  simp only [eqR_tt, pu_rules, dep_rules, pu_nil, dep_nil, true_and, and_true, eqvDs_nil]
  cases rs <;> rfl
theorem lenR_prog {rs : List Rl} {M : Mm} {Q : DQ} : lenR [progD rs] M Q = Q (.int rs.length) M := by
  unfold progD
  rw [lenR_t, List.length_map]

theorem cmul_sm {i j : Int} (h0 : -1000000000000 ≤ i) (h1 : i ≤ 1000000000000) (h2 : -1000000000000 ≤ j) (h3 : j ≤ 1000000000000) : CMulW i j :=
  cmul_ok (Nat.lt_of_le_of_lt (show i.natAbs ≤ 1000000000000 by omega) (by decide)) (Nat.lt_of_le_of_lt (show j.natAbs ≤ 1000000000000 by omega) (by decide))
section
variable {α : Type} {f : α → D} {xs : List α} {i : Int} {M : Mm} {Q : DQ}
theorem ix_mapL (h0 : 0 ≤ i) (h1 : i < xs.length) (h : ∀ y ∈ xs, Q (f y) M) : ixR (.lst (xs.map f)) (.int i) M Q := by
  obtain ⟨y, hy, my⟩ : ∃ y, xs[i.toNat]? = some y ∧ y ∈ xs := ⟨_, List.getElem?_eq_getElem (by omega), List.getElem_mem _⟩
  exact ix_L h0 (by rw [List.getElem?_map, hy]; rfl) (h y my)
theorem ix_mapT (h0 : 0 ≤ i) (h1 : i < xs.length) (h : ∀ y ∈ xs, Q (f y) M) : ixR (.tup (xs.map f)) (.int i) M Q := by
  obtain ⟨y, hy, my⟩ : ∃ y, xs[i.toNat]? = some y ∧ y ∈ xs := ⟨_, List.getElem?_eq_getElem (by omega), List.getElem_mem _⟩
  exact ix_t h0 (by rw [List.getElem?_map, hy]; rfl) (h y my)
theorem ix_mapLl (h1 : xs ≠ []) (h : ∀ y ∈ xs, Q (f y) M) : ixR (.lst (xs.map f)) (.int (-1)) M Q := by
  have hl := List.length_pos_iff.mpr h1
  obtain ⟨y, hy, my⟩ : ∃ y, xs[xs.length - 1]? = some y ∧ y ∈ xs := ⟨_, List.getElem?_eq_getElem (by omega), List.getElem_mem _⟩
  exact ix_Ll (by rw [List.length_map, List.getElem?_map, hy]; rfl) (h y my)
end
theorem rep1 {α : Type} (n : Nat) (x : α) : repL n [x] = List.replicate n x := by simp [repL]
end DM

/-! while by its slots; lines of papers -/
namespace DM
open PySem L2
open PyProof.Rows (b2i)
section
variable {c : TDT} {tb : TDS} {D : DEnds} {ds : DSt} {M : Mm}
theorem whileS (idx : List Nat) (I : Nat → List (Option DM.D) → Mm → Prop) (m : Nat)
    (step : ∀ (m : Nat) (N : DSt → Mm → Prop), (∀ m' vs ds' M, m' < m → ds' = puts ds idx vs → I m' vs M → N ds' M) → ∀ vs M, I m vs M →
      c (puts ds idx vs) M fun b M1 => if b = true then tb { D with nx := N, ct := N, bk := D.nx } (puts ds idx vs) M1 else D.nx (puts ds idx vs) M1)
    (h0 : I m (idx.map (dget ds)) M) : dWhile c tb D ds M := by
  refine whileN_go (fun m ds' M => ∃ m' ≤ m, ∃ vs, ds' = puts ds idx vs ∧ I m' vs M) (fun N ds' M ⟨m', h1, vs, e, h⟩ => ?_) (fun m N hN ds' M ⟨m', h1, vs, e, h⟩ => ?_) m ds M ⟨m, Nat.le_refl _, _, (puts_self idx ds).symm, h0⟩
  · subst e
    exact step m' N (fun m'' vs ds' M h2 => absurd h2 (by omega)) vs M h
  · subst e
    exact step m' N (fun m'' vs ds' M h2 e h => hN ds' M ⟨m'', by omega, vs, e, h⟩) vs M h
end
section
variable {M : Mm} {Q : DQ} {r : DRC} {xs : List D} {p : Addr}
theorem ofLst_L : ofLst r [.lst xs] M Q = r xs M Q := (rfl)
theorem sumLR_map {α : Type} {f : α → Int} {l : List α} : sumLR (l.map fun x => D.int (f x)) M Q = Q (.int (l.map f).sum) M := by
  unfold sumLR
  rw [intsOf_map]
theorem allLR_map {α : Type} {f : α → Bool} {l : List α} : allLR (l.map fun x => D.bl (f x)) M Q = Q (.bl (l.all f)) M := by
  unfold allLR
  rw [blsOf_map]
  simp only [List.all_map, Function.comp_def, id]
theorem anyLR_map {α : Type} {f : α → Bool} {l : List α} : anyLR (l.map fun x => D.bl (f x)) M Q = Q (.bl (l.any f)) M := by
  unfold anyLR
  rw [blsOf_map]
  simp only [List.any_map, Function.comp_def, id]
end
/-! ### lines of a paper -/
structure Ln where
  s : Str
  a : Str
  t : Str
  r : Option (Int × List Nat)
def natD (j : Nat) : D := .int (j : Nat)
def reasonD : Option (Int × List Nat) → D
  | none => .tup [.str "told"]
  | some (n, js) => .tup [.str "rule", .int n, .tup (js.map natD)]
def lnD (l : Ln) : D := .tup [.tup [.str l.s, .str l.a, .str l.t], reasonD l.r]
/-- what is reckoned line by line -/
def lf {β : Type} (b0 : β) (g : Int → List β → β) (z : Nat → β) (l : Ln) : β := match l.r with | none => b0 | some (n, js) => g n (js.map z)
def scn {β : Type} (b0 : β) (g : Int → List β → β) (ls : List Ln) : List β := ls.foldl (fun acc l => acc ++ [lf b0 g (fun j => acc.getD j b0) l]) []
theorem scn_snoc {β : Type} {b0 : β} {g : Int → List β → β} {ls : List Ln} {l : Ln} : scn b0 g (ls ++ [l]) = scn b0 g ls ++ [lf b0 g (fun j => (scn b0 g ls).getD j b0) l] := by
  unfold scn
  rw [List.foldl_append]
  rfl
theorem rev_ind {α : Type} {P : List α → Prop} (h0 : P []) (h1 : ∀ l x, P l → P (l ++ [x])) (l : List α) : P l := by
  have key : ∀ m : List α, P m.reverse := fun m => by
    induction m with
    | nil => exact h0
    | cons x m ih => rw [List.reverse_cons]; exact h1 _ _ ih
  have := key l.reverse
  rwa [List.reverse_reverse] at this
section
variable {β : Type} {b0 : β} {g : Int → List β → β}
theorem scn_len (ls : List Ln) : (scn b0 g ls).length = ls.length := by
  induction ls using rev_ind with
  | h0 => rfl
  | h1 l x ih => rw [scn_snoc, List.length_append, List.length_append, ih]; rfl
theorem scn_app (ls ms : List Ln) : ∃ r, scn b0 g (ls ++ ms) = scn b0 g ls ++ r := by
  induction ms using rev_ind with
  | h0 => exact ⟨[], by simp⟩
  | h1 l x ih =>
    obtain ⟨r, e⟩ := ih
    exact ⟨r ++ [lf b0 g (fun j => (scn b0 g (ls ++ l)).getD j b0) x], by rw [← List.append_assoc, scn_snoc, e]; simp⟩
theorem scn_take (ls : List Ln) (i : Nat) (h : i ≤ ls.length) : (scn b0 g ls).take i = scn b0 g (ls.take i) := by
  obtain ⟨r, e⟩ := scn_app (b0 := b0) (g := g) (ls.take i) (ls.drop i)
  rw [List.take_append_drop] at e
  have : (scn b0 g (ls.take i)).length = i := by rw [scn_len, List.length_take]; omega
  rw [e, List.take_append_of_le_length (by omega), List.take_of_length_le (by omega)]
theorem getD_take {l : List β} {i j : Nat} (h : j < i) : (l.take i).getD j b0 = l.getD j b0 := by
  rw [List.getD_eq_getElem?_getD, List.getD_eq_getElem?_getD, List.getElem?_take, if_pos h]
end
def LnsOk (ls : List Ln) : Prop := ∀ (i : Nat) (l : Ln) (n : Int) (js : List Nat), ls[i]? = some l → l.r = some (n, js) → ∀ j ∈ js, j < i
theorem LnsOk.take {ls : List Ln} {m : Nat} (h : LnsOk ls) : LnsOk (ls.take m) := fun i l n js e => by
  rw [List.getElem?_take] at e
  split at e
  · exact h i l n js e
  · cases e
section
variable {β : Type} {b0 : β} {g : Int → List β → β} {ls : List Ln} {l : Ln} {i : Nat}
theorem lf_local {z z' : Nat → β} (h : ∀ n js, l.r = some (n, js) → ∀ j ∈ js, z j = z' j) : lf b0 g z l = lf b0 g z' l := by
  unfold lf
  split
  · rfl
  · rename_i n js e
    rw [List.map_congr_left (h n js e)]
theorem scn_at (e : ls[i]? = some l) : (scn b0 g ls)[i]? = some (lf b0 g (fun j => (scn b0 g (ls.take i)).getD j b0) l) := by
  have hi := (List.getElem?_eq_some_iff.mp e).1
  have h2 : ls.take (i + 1) = ls.take i ++ [l] := by rw [List.take_add_one, e]; rfl
  have h3 := scn_take (b0 := b0) (g := g) ls (i + 1) hi
  rw [h2, scn_snoc] at h3
  have h4 : ((scn b0 g ls).take (i + 1))[i]? = (scn b0 g ls)[i]? := by rw [List.getElem?_take, if_pos (by omega)]
  rw [← h4, h3, List.getElem?_append_right (by rw [scn_len, List.length_take]; omega), scn_len, List.length_take, Nat.min_eq_left (by omega), Nat.sub_self]
  rfl
theorem scn_eq (ok : LnsOk ls) (e : ls[i]? = some l) : (scn b0 g ls).getD i b0 = lf b0 g (fun j => (scn b0 g ls).getD j b0) l := by
  rw [List.getD_eq_getElem?_getD, scn_at e]
  show lf b0 g _ l = _
  refine lf_local fun n js h j hj => ?_
  have hi := (List.getElem?_eq_some_iff.mp e).1
  rw [← scn_take ls i (by omega), getD_take (ok i l n js e h j hj)]
/-- a run, unrolled; nodes gone -/
def rnG (n : Int) (xs : List (List Int)) : List Int := n :: xs.flatten
def ndG (_ : Int) (xs : List Nat) : Nat := 1 + xs.sum
def lenG (_ : Int) (xs : List Int) : Int := 1 + xs.sum
def rnF (ls : List Ln) (j : Nat) : List Int := (scn [] rnG ls).getD j []
def ndF (ls : List Ln) (j : Nat) : Nat := (scn 1 ndG ls).getD j 1
def lenF (ls : List Ln) (j : Nat) : Int := (scn 0 lenG ls).getD j 0
def wayR (ls : List Ln) (w : List Nat) : List Int := (w.map (rnF ls)).flatten
def wayN (ls : List Ln) (w : List Nat) : Nat := (w.map (ndF ls)).sum
def wayL (ls : List Ln) (w : List Nat) : Int := (w.map (lenF ls)).sum
theorem flat_len : ∀ xs : List (List Int), ((xs.flatten).length : Int) = (xs.map fun x => (x.length : Int)).sum
  | [] => rfl
  | x :: xs => by rw [List.flatten_cons, List.length_append, Int.natCast_add, flat_len xs]; rfl
/-- the length told is the run's -/
theorem lenF_eq (ok : LnsOk ls) : ∀ i : Nat, lenF ls i = ((rnF ls i).length : Int) := by
  intro i
  induction i using Nat.strongRecOn with
  | _ i ih =>
    cases e : ls[i]? with
    | none =>
      have : ls.length ≤ i := by simpa using e
      unfold lenF rnF
      rw [List.getD_eq_getElem?_getD, List.getD_eq_getElem?_getD, List.getElem?_eq_none (by rw [scn_len]; exact this), List.getElem?_eq_none (by rw [scn_len]; exact this)]
      rfl
    | some l =>
      unfold lenF rnF
      rw [scn_eq ok e, scn_eq ok e]
      unfold lf
      split
      · rfl
      · rename_i n js h
        show 1 + (js.map (lenF ls)).sum = (((n :: (js.map (rnF ls)).flatten).length : Nat) : Int)
        rw [List.length_cons, Int.natCast_add, flat_len, List.map_map, List.map_congr_left (fun j hj => ih j (ok i l n js e h j hj))]
        show _ = (js.map fun j => ((rnF ls j).length : Int)).sum + 1
        omega
theorem wayL_eq (ok : LnsOk ls) (w : List Nat) : wayL ls w = ((wayR ls w).length : Int) := by
  unfold wayL wayR
  rw [flat_len, List.map_map]
  congr 1
  exact List.map_congr_left fun j _ => lenF_eq ok j
end

theorem map_toNat_inj : ∀ {a b : List Char}, a.map Char.toNat = b.map Char.toNat → a = b
  | [], [], _ => rfl
  | [], _ :: _, h => by simp at h
  | _ :: _, [], h => by simp at h
  | x :: a, y :: b, h => by
    simp only [List.map_cons, List.cons.injEq] at h
    rw [map_toNat_inj h.2, show x = y from Char.ext (UInt32.toNat_inj.mp h.1)]
theorem ofString_inj {a b : String} : (Str.ofString a = Str.ofString b) = (a = b) := by
  refine propext ⟨fun h => ?_, fun h => by rw [h]⟩
  rw [Str.ofString_eq_toList, Str.ofString_eq_toList] at h
  have h2 : a.toList.map Char.toNat = b.toList.map Char.toNat := by
    have := congrArg (fun z : Str => z.cps.toList) h
    simpa using this
  exact String.toList_inj.mp (map_toNat_inj h2)
theorem ofString_beq {a b : String} : (Str.ofString a == Str.ofString b) = (a == b) := by
  rw [Bool.eq_iff_iff, beq_iff_eq, beq_iff_eq, ofString_inj]

theorem small_lt2 {n : Nat} (h : n < 16000000) : n < sizeLine := by rw [sizeLine_eq]; omega
end DM

/-! extend by a tuple -/
namespace DMX
open PySem PySem.Spec PySem.AutoSeq1
theorem meets_extendT (l : Addr) (items : Array Value) (n : Nat) (b : Addr) (items2 : Array Value) (n2 : Nat) (dct : Option Addr) (sl : Array (Option Value)) (hs0 : ¬(!items.isEmpty && Builtin.List.listTooLong (items.size + items2.size)) = true) (hs1 : items.size ≤ sizeLine) (hs2 : items.size + items2.size ≤ sizeLine + 1) :
    Meets (Builtin.«list.extend» ⟨[.ref l, .ref b], []⟩) (fun _ R s => s.heap.get? l = some { cls := .type "list", dict := none, data := .seq items n, slots := #[] } ∧ s.heap.get? b = some { cls := .type "tuple", dict := dct, data := .seq items2 n2, slots := sl } ∧ R (.ok (.ret Value.none)) { s with heap := s.heap.update l (Obj.mapSeq fun x => x ++ items2), toks := s.toks }) :=
  .of_wp fun prog w A R s h => by
    obtain ⟨hp, g, d, tk, os⟩ := s; obtain ⟨hl, hb, h⟩ := h; have f1 := idx_int; have f2 := sub_tuple_tuple; have f3 := sub_list_list; have f4 := sub_tuple_list; have f5 := sub_list_tuple;
    have hz' : (items ++ items2).size ≤ sizeLine + 1 := by rw [Array.size_append]; exact hs2
    wp_walk using (wpAny_updateSeq hl rfl (hz := hs1) (_hz' := hz')), wpAny_loadPart' hl, wpAny_loadPart' hb; exact ⟨_, rfl, h⟩
end DMX
namespace L2
open PySem PySem.Spec PyProof.Rows
def rExtendT (K : PySem.W.Frag) : V → List V → Hp → VK → Prop := fun x vs H Q => ∃ l b xs zs, x = .ref l ∧ vs = [.ref b] ∧ H l = some (.lst xs) ∧ SqT K H b zs ∧ xs.length + zs.length ≤ sizeLine ∧ Q .non (upd H l (.lst (xs ++ zs)))
theorem mt_extendT {X : Cx} : MtM X "list.extend" (rExtendT X.K) := by
  intro pins s σ H x vs v us Q I rx rv h
  obtain ⟨l, b, xs, zs, rfl, rfl, hH, hB, hz, q⟩ := h
  cases rx
  obtain ⟨u, rfl, ru⟩ := rv.one
  cases ru
  obtain ⟨z, its, n, r, hl, e⟩ := I.lstM hH
  obtain ⟨its2, r2, ⟨⟨c, dct, dt, sl⟩, e2, hc, n2, hd⟩, z2⟩ := I.tuple hB
  replace hc : c = .type "tuple" := hc
  replace hd : dt = .seq its2.toArray n2 := hd
  subst hc hd
  have hl2 := r2.length
  have hsz : its.toArray.size + its2.toArray.size ≤ sizeLine := by rw [List.size_toArray, List.size_toArray]; omega
  have hlong : ¬ (!its.toArray.isEmpty && Builtin.List.listTooLong (its.toArray.size + its2.toArray.size)) = true := by
    rw [notLongL hsz, Bool.and_false]
    exact Bool.false_ne_true
  refine call_meets F.slot_list_extend ⟨_, e, rfl⟩ F.entry_list_extend (F.args_list_extend_2 _ _)
    (DMX.meets_extendT l its.toArray n b its2.toArray n2 dct sl hlong (by rw [List.size_toArray]; omega) (by omega)) ⟨e, e2, ?_⟩
  refine ⟨.non, _, I.lset (its' := its ++ its2) hH e (by simp) (r.append r2) ?_, rfl, q⟩
  rw [List.length_append]
  omega
end L2
namespace DM
open PySem L2
open PyProof.Rows (b2i)
/-- extend by a list or a tuple -/
def extendA : DRM := fun x xs M Q => match x, xs with
  | .ref a, [y] => (match lstOf M a, rdS M y with | some ys, some zs => ys.length + zs.length ≤ sizeLine ∧ Q .non (mup M a (.lst (ys ++ zs))) | _, _ => False)
  | _, _ => False
def rExtA (K : PySem.W.Frag) : V → List V → Hp → VK → Prop := fun x vs H Q => rExtend x vs H Q ∨ rExtendT K x vs H Q
theorem mt_extA {X : Cx} : MtM X "list.extend" (rExtA X.K) := fun pins s σ H x vs v us Q I rx rv h => by
  rcases h with h | h
  · exact mt_extend pins s σ H x vs v us Q I rx rv h
  · exact mt_extendT pins s σ H x vs v us Q I rx rv h
theorem lift_extA {K : PySem.W.Frag} : LiftM K (rExtA K) extendA := by
  intro x vs dx ds H M Q Q0 rx rs m h k
  unfold extendA at h
  split at h
  · rename_i a y
    cases rx.ref_v
    obtain ⟨v, rfl, r1⟩ := rs.one
    split at h
    · rename_i ys zs e e2
      obtain ⟨hz, h⟩ := h
      obtain ⟨us, h1, r2⟩ := m.ob a _ (of_lstOf e)
      obtain ⟨b, ws, rfl, r3, hh⟩ := rdS_v m r1 e2
      have t := TX.put (u := .lst (us ++ ws)) m (of_lstOf e)
      have fin := k _ (H.up a (.lst (us ++ ws))) _ _ .non (m.put (w := .lst (ys ++ zs)) (of_lstOf e) ⟨_, upd_same, VRs.append (VRs.mono t _ _ r2) (VRs.mono t _ _ r3)⟩) (GG.put (of_lstOf e)) h
      rcases hh with ⟨_, h2⟩ | h2
      · exact .inr ⟨a, b, us, ws, rfl, rfl, h1, h2, by rw [← r2.length, ← r3.length]; exact hz, fin⟩
      · exact .inl ⟨a, b, us, ws, rfl, rfl, h1, h2, by rw [← r2.length, ← r3.length]; exact hz, fin⟩
    · exact h.elim
  · exact h.elim
section
variable {X : Cx} {o e : Expr} {to te : TDE} {apos cpos : Pos}
theorem je_extendA (ho : JE X o to) (ha : JE X e te) (hbase : attributeBase o "extend" X.env (eval o X.env) = eval o X.env := by rfl)
    (hfew : ((backTo cpos (starEach [e] X.env)).all (fun x => !x.1) && (backToKw cpos (keywordEach [] X.env)).all (fun x => x.1.isSome)
      && decide (([e]).length + ([] : List Keyword).length + (if ([] : List Keyword).isEmpty then 0 else 1) < 30)) = true := by rfl)
    (hline : (apos.endLine == cpos.line) = true := by rfl) (hs : starEach [e] X.env = (false, eval e X.env) :: starEach [] X.env := by rfl) (hplain : (backTo cpos (starEach [] X.env)).any (·.1) = false := by rfl) :
    JE X (.Call (.Attribute o "extend" apos) [e] [] cpos) (dBM extendA to (dCons te dNil)) := je_bm PySem.F.slot_list_extend PySem.F.type_list_extend mt_extA lift_extA ho (ja_cons ha ja_nil hs) hbase hfew hline hs hplain
end
section
variable {M : Mm} {Q : DQ} {p q : Addr} {xs ys : List D} {d : D} {o : MO}
theorem extA_t : extendA (.ref p) [.tup ys] (mup M p (.lst xs)) Q = (xs.length + ys.length ≤ sizeLine ∧ Q .non (mup M p (.lst (xs ++ ys)))) := by
  unfold extendA
  simp only [lstOf_mup_same, rdS_tup, mup_mup]
theorem extA_L : extendA (.ref p) [.lst ys] (mup M p (.lst xs)) Q = (xs.length + ys.length ≤ sizeLine ∧ Q .non (mup M p (.lst (xs ++ ys)))) := by
  unfold extendA
  simp only [lstOf_mup_same, rdS_lst, mup_mup]
/-- a list beneath another one -/
theorem append_under (h : p ≠ q) : appendR (.ref p) [d] (mup (mup M p (.lst xs)) q o) Q = (xs.length < sizeLine ∧ Q .non (mup (mup M p (.lst (xs ++ [d]))) q o)) := by
  unfold appendR
  simp only [lstOf_mup_ne h, lstOf_mup_same]
  rw [mup_comm (Ne.symm h), mup_mup]
theorem pop_same (e : xs = ys ++ [d]) (h : Q d (mup M p (.lst ys))) : popR (.ref p) [] (mup M p (.lst xs)) Q := by
  subst e
  refine pop_go lstOf_mup_same ?_
  rw [mup_mup]
  exact h
theorem isSome_same : (lstOf (mup M p (.lst xs)) p).isSome = true := by rw [lstOf_mup_same]; rfl
theorem ne_nil_same (h1 : pureDs xs = true) (h2 : depDs xs ≤ 99) : neR (.ref p) (.lst []) (mup M p (.lst xs)) Q = Q (.bl (!xs.isEmpty)) (mup M p (.lst xs)) := by
  refine propext ⟨fun h => ?_, fun h => ne_nil_l lstOf_mup_same h1 h2 h⟩
  have := h.2
  unfold eqM at this
  simp only [resD, lstOf_mup_same, eqvD, eqvDs_nil] at this
  exact this
end

theorem js_at {ls : List Ln} {i : Nat} {l : Ln} {n : Int} {js : List Nat} (ok : LnsOk ls) (h : ls[i]? = some l) (hr : l.r = some (n, js)) {j : Nat} (hj : j ∈ js) : j < i := ok i l n js h hr j hj
theorem map_get {α : Type} {f : α → D} {l : List α} {j : Nat} {b0 : α} (h : j < l.length) : (l.map f)[j]? = some (f (l.getD j b0)) := by
  rw [List.getElem?_map, List.getD_eq_getElem?_getD, List.getElem?_eq_getElem h]; rfl
theorem lines_dep {ls : List Ln} : True := trivial
theorem pu_nats {l : List Nat} : pureDs (l.map natD) = true := pureDs_map _ (fun _ => rfl) l
theorem dep_nats {l : List Nat} {n : Nat} : (depDs (l.map natD) ≤ n + 1) = True := eq_true (Nat.le_trans (depDs_map natD 1 (by decide) (fun _ => by simp [natD, depD]) l) (by omega))
/-- the runs of a way whose first line is l -/
theorem wayR_cons {ls : List Ln} {j : Nat} {w : List Nat} : wayR ls (j :: w) = rnF ls j ++ wayR ls w := rfl
theorem wayR_app {ls : List Ln} {v w : List Nat} : wayR ls (v ++ w) = wayR ls v ++ wayR ls w := by unfold wayR; rw [List.map_append, List.flatten_append]
theorem wayN_cons {ls : List Ln} {j : Nat} {w : List Nat} : wayN ls (j :: w) = ndF ls j + wayN ls w := rfl
theorem wayN_app {ls : List Ln} {v w : List Nat} : wayN ls (v ++ w) = wayN ls v + wayN ls w := by unfold wayN; rw [List.map_append, List.sum_append]
theorem rnF_told {ls : List Ln} {j : Nat} {l : Ln} (ok : LnsOk ls) (h : ls[j]? = some l) (e : l.r = none) : rnF ls j = [] := by
  unfold rnF; rw [scn_eq ok h, lf, e]
theorem rnF_rule {ls : List Ln} {j : Nat} {l : Ln} {n : Int} {js : List Nat} (ok : LnsOk ls) (h : ls[j]? = some l) (e : l.r = some (n, js)) : rnF ls j = n :: wayR ls js := by
  unfold rnF; rw [scn_eq ok h, lf, e]; rfl
theorem ndF_told {ls : List Ln} {j : Nat} {l : Ln} (ok : LnsOk ls) (h : ls[j]? = some l) (e : l.r = none) : ndF ls j = 1 := by
  unfold ndF; rw [scn_eq ok h, lf, e]
theorem ndF_rule {ls : List Ln} {j : Nat} {l : Ln} {n : Int} {js : List Nat} (ok : LnsOk ls) (h : ls[j]? = some l) (e : l.r = some (n, js)) : ndF ls j = 1 + wayN ls js := by
  unfold ndF; rw [scn_eq ok h, lf, e]; rfl

theorem sub1 {M : Mm} {p : Addr} {o : MO} (hp : M p = none) : Sub M (mup M p o) := sub_new Sub.refl hp
theorem sub2 {M : Mm} {p q : Addr} {o u : MO} (hp : M p = none) (hq : M q = none) : Sub M (mup (mup M p o) q u) := sub_new (sub_new Sub.refl hp) hq
theorem fresh2 {M : Mm} {p q : Addr} {o : MO} (h : mup M p o q = none) : p ≠ q ∧ M q = none := by
  have : p ≠ q := by rintro rfl; rw [mup_same] at h; cases h
  exact ⟨this, by rw [mup_ne (Ne.symm this)] at h; exact h⟩
section
variable {M : Mm} {Q : DQ} {p q : Addr} {xs ys : List D} {d : D} {o : MO}
theorem tup1_under (h : p ≠ q) : tup1R [.ref p] (mup (mup M p (.lst xs)) q o) Q = Q (.tup xs) (mup (mup M p (.lst xs)) q o) := by
  unfold tup1R
  simp only [rdS_ref, lstOf_mup_ne h, lstOf_mup_same]
theorem isSome_under (h : p ≠ q) : (lstOf (mup (mup M p (.lst xs)) q o) p).isSome = true := by rw [lstOf_mup_ne h, lstOf_mup_same]; rfl
end
end DM

/-! what a def has made, without a deck -/
namespace DM
open PySem L2
open PyProof.Rows (b2i)
structure Px (M0 : Mm) (L : List (Addr × MO)) (M : Mm) : Prop where
  ex : Sub M0 M
  lo : ∀ q ∈ L, M q.1 = some q.2 ∧ M0 q.1 = none
  nd : (L.map (·.1)).Nodup
section
variable {p q : Addr} {M0 M M' : Mm} {L : List (Addr × MO)} {o o' : MO} {xs ys : List D}
theorem Px.start : Px M [] M := ⟨Sub.refl, by simp, by simp⟩
theorem Px.fresh (b : Px M0 L M) (h : M p = none) : M0 p = none := b.ex.none h
theorem Px.new (b : Px M0 L M) (h : M p = none) : Px M0 ((p, o) :: L) (mup M p o) := by
  refine ⟨sub_new b.ex (b.fresh h), fun q hq => ?_, ?_⟩
  · rcases List.mem_cons.mp hq with rfl | hq
    · exact ⟨mup_same, b.fresh h⟩
    · obtain ⟨h1, h2⟩ := b.lo q hq
      refine ⟨?_, h2⟩
      rw [mup_ne]
      · exact h1
      · intro e; rw [e, h] at h1; cases h1
  · rw [List.map_cons, List.nodup_cons]
    refine ⟨fun hm => ?_, b.nd⟩
    obtain ⟨q, hq, e⟩ := List.mem_map.mp hm
    have := (b.lo q hq).1
    rw [e] at this
    simp only at this
    rw [h] at this
    cases this
theorem Px.swap {x y : Addr × MO} (b : Px M0 (x :: y :: L) M) : Px M0 (y :: x :: L) M := by
  refine ⟨b.ex, fun q hq => b.lo q ?_, ?_⟩
  · simp only [List.mem_cons] at hq ⊢
    rcases hq with h | h | h
    · exact .inr (.inl h)
    · exact .inl h
    · exact .inr (.inr h)
  · have := b.nd
    simp only [List.map_cons, List.nodup_cons, List.mem_cons, not_or] at this ⊢
    exact ⟨⟨fun e => this.1.1 e.symm, this.2.1⟩, this.1.2, this.2.2⟩
theorem Px.put1 (b : Px M0 ((p, o) :: L) M) : Px M0 ((p, o') :: L) (mup M p o') := by
  obtain ⟨h1, h2⟩ := b.lo (p, o) (by simp)
  simp only at h1 h2
  have nd := b.nd
  rw [List.map_cons, List.nodup_cons] at nd
  refine ⟨sub_new b.ex h2, fun q hq => ?_, b.nd⟩
  rcases List.mem_cons.mp hq with rfl | hq
  · exact ⟨mup_same, h2⟩
  · obtain ⟨g1, g2⟩ := b.lo q (List.mem_cons_of_mem _ hq)
    refine ⟨?_, g2⟩
    rw [mup_ne]
    · exact g1
    · intro e; exact nd.1 (e ▸ List.mem_map.mpr ⟨q, hq, rfl⟩)
theorem Px.put2 {y : Addr × MO} (b : Px M0 (y :: (p, o) :: L) M) : Px M0 (y :: (p, o') :: L) (mup M p o') := b.swap.put1.swap
theorem Px.drop1 {y : Addr × MO} (b : Px M0 (y :: L) M) : Px M0 L M := ⟨b.ex, fun q hq => b.lo q (List.mem_cons_of_mem _ hq), (List.nodup_cons.mp b.nd).2⟩
theorem Px.drop2 {x y : Addr × MO} (b : Px M0 (x :: y :: L) M) : Px M0 (x :: L) M := b.swap.drop1
theorem Px.at1 (b : Px M0 ((p, o) :: L) M) : M p = some o := (b.lo (p, o) (by simp)).1
theorem Px.at2 {y : Addr × MO} (b : Px M0 (y :: (p, o) :: L) M) : M p = some o := (b.lo (p, o) (by simp)).1
theorem Px.lst1 (b : Px M0 ((p, .lst xs) :: L) M) : lstOf M p = some xs := lstOf_some b.at1
theorem Px.lst2 {y : Addr × MO} (b : Px M0 (y :: (p, .lst xs) :: L) M) : lstOf M p = some xs := lstOf_some b.at2
theorem Px.dic1 {kvs : List (Key × D)} (b : Px M0 ((p, .dic kvs) :: L) M) : dicOf M p = some kvs := dicOf_some b.at1
theorem Px.dic2 {y : Addr × MO} {kvs : List (Key × D)} (b : Px M0 (y :: (p, .dic kvs) :: L) M) : dicOf M p = some kvs := dicOf_some b.at2
theorem Px.fin {R : DQ} {x : D} (b : Px M0 L M) (h : R x M0) : Shr R x M := Shr.of h b.ex
theorem Px.finL {R : DQ} (b : Px M0 ((p, .lst xs) :: L) M) (h : R (.lst xs) M0) : Shr R (.ref p) M := Shr.lst (b.lo (p, .lst xs) (by simp)).2 b.lst1 b.ex h
theorem Px.finX {xc : Addr → List (Str × D) → Mm → Prop} {C : Addr} {fs : List (Str × D)} {ds : DSt} (b : Px M0 L M) (h : xc C fs M0) : ShrX xc C fs ds M := ShrX.of h b.ex
theorem Bx.swap {d c : Addr} {r : Nat} {x y : Addr × MO} (b : Bx d c r M0 (x :: y :: L) M) : Bx d c r M0 (y :: x :: L) M := by
  refine ⟨b.dk, b.ex, fun q hq => b.lo q ?_, ?_⟩
  · simp only [List.mem_cons] at hq ⊢
    rcases hq with h | h | h
    · exact .inr (.inl h)
    · exact .inl h
    · exact .inr (.inr h)
  · have := b.nd
    simp only [List.map_cons, List.nodup_cons, List.mem_cons, not_or] at this ⊢
    exact ⟨⟨fun e => this.1.1 e.symm, this.2.1⟩, this.1.2, this.2.2⟩
theorem Bx.drop2 {d c : Addr} {r : Nat} {x y : Addr × MO} (b : Bx d c r M0 (x :: y :: L) M) : Bx d c r M0 (x :: L) M := b.swap.drop1
end
section
variable {M : Mm} {Q : DQ} {p : Addr} {xs ys : List D} {d : D} {o : MO}
theorem ixN_last {n : Nat} (h : 0 < n) : ixN n (-1) = some (n - 1) := by
  unfold ixN
  rw [if_neg (by omega), if_pos (by omega)]
  congr 1
  omega
theorem popAt0_go (e : lstOf M p = some (d :: xs)) (h : Q d (mup M p (.lst xs))) : popAtR (.ref p) [.int 0] M Q := popAt_go e (by omega) (by omega) rfl h
theorem set_last {α : Type} {l : List α} {x y : α} : (l ++ [x]).set l.length y = l ++ [y] := by
  rw [List.set_append_right _ _ (Nat.le_refl _), Nat.sub_self]
  rfl
end

theorem getD_app {α : Type} {l m : List α} {j : Nat} {b : α} (h : j < l.length) : (l ++ m).getD j b = l.getD j b := by
  rw [List.getD_eq_getElem?_getD, List.getD_eq_getElem?_getD, List.getElem?_append_left h]

theorem LnsOk.snoc {ls : List Ln} {l : Ln} (ok : LnsOk ls) (h : ∀ n js, l.r = some (n, js) → ∀ j ∈ js, j < ls.length) : LnsOk (ls ++ [l]) := fun i l' n js e er j hj => by
  by_cases hi : i < ls.length
  · rw [List.getElem?_append_left hi] at e
    exact ok i l' n js e er j hj
  · rw [List.getElem?_append_right (by omega)] at e
    have hi2 : i - ls.length = 0 := by
      have := (List.getElem?_eq_some_iff.mp e).1
      simp at this; omega
    rw [hi2] at e
    cases e
    have := h n js er j hj
    omega
theorem LnsOk.nil : LnsOk [] := fun i l n js e => by simp at e

theorem sum_le_mul {l : List Nat} {B : Nat} (h : ∀ x ∈ l, x ≤ B) : l.sum ≤ l.length * B := by
  induction l with
  | nil => simp
  | cons a l ih =>
    have := ih fun x hx => h x (by simp [hx])
    have := h a (by simp)
    rw [List.sum_cons, List.length_cons, Nat.add_mul, Nat.one_mul]
    omega
theorem flat_lenN {α : Type} : ∀ xs : List (List α), (xs.flatten).length = (xs.map List.length).sum
  | [] => rfl
  | x :: xs => by rw [List.flatten_cons, List.length_append, flat_lenN xs]; rfl
theorem wayR_len {ls : List Ln} {w : List Nat} : (wayR ls w).length = (w.map fun j => (rnF ls j).length).sum := by
  unfold wayR
  rw [flat_lenN, List.map_map]
  rfl
theorem rn_le {ls : List Ln} (ok : LnsOk ls) {c : Nat} (hc : ∀ l ∈ ls, ∀ n js, l.r = some (n, js) → js.length ≤ c) (f : Nat → Nat)
    (hf : ∀ (j : Nat) (js : List Nat), js.length ≤ c → (∀ i ∈ js, i < j) → 1 + (js.map f).sum ≤ f j) : ∀ j, j < ls.length → (rnF ls j).length ≤ f j := by
  intro j
  induction j using Nat.strongRecOn with
  | _ j ih =>
    intro hj
    obtain ⟨l, hl, ml⟩ : ∃ l, ls[j]? = some l ∧ l ∈ ls := ⟨_, List.getElem?_eq_getElem hj, List.getElem_mem _⟩
    rcases hr : l.r with _ | ⟨n, js⟩
    · rw [rnF_told ok hl hr]; simp
    · rw [rnF_rule ok hl hr, List.length_cons, wayR_len]
      have h1 := hf j js (hc l ml n js hr) (fun i hi => js_at ok hl hr hi)
      have h2 : (js.map fun j => (rnF ls j).length).sum ≤ (js.map f).sum := by
        have : ∀ m : List Nat, (∀ i ∈ m, i ∈ js) → (m.map fun j => (rnF ls j).length).sum ≤ (m.map f).sum := by
          intro m
          induction m with
          | nil => intro _; simp
          | cons a m ihm =>
            intro hm
            have ha := js_at ok hl hr (hm a (by simp))
            have := ih a ha (by omega)
            have := ihm fun i hi => hm i (by simp [hi])
            simp only [List.map_cons, List.sum_cons]
            omega
        exact this js fun i hi => hi
      omega
theorem f2_ok (j : Nat) (js : List Nat) (h : js.length ≤ 2) (hj : ∀ i ∈ js, i < j) : 1 + (js.map fun j => 2 ^ (j + 1) - 1).sum ≤ 2 ^ (j + 1) - 1 := by
  have hp : ∀ i ∈ js, 2 ^ (i + 1) - 1 ≤ 2 ^ j - 1 := fun i hi => by
    have : 2 ^ (i + 1) ≤ 2 ^ j := Nat.pow_le_pow_right (by decide) (hj i hi)
    omega
  have h0 : 1 ≤ 2 ^ j := Nat.one_le_two_pow
  have h1 := sum_le_mul (l := js.map fun j => 2 ^ (j + 1) - 1) (B := 2 ^ j - 1) (by simpa using hp)
  rw [List.length_map] at h1
  have h2 : js.length * (2 ^ j - 1) ≤ 2 * (2 ^ j - 1) := Nat.mul_le_mul_right _ h
  rw [Nat.pow_succ]
  omega
theorem f1_ok (j : Nat) (js : List Nat) (h : js.length ≤ 1) (hj : ∀ i ∈ js, i < j) : 1 + (js.map fun j => j + 1).sum ≤ j + 1 := by
  rcases js with _ | ⟨a, _ | ⟨b, r⟩⟩
  · simp
  · have := hj a (by simp); simp; omega
  · simp at h
theorem way_log {ls : List Ln} {w : List Nat} (ok : LnsOk ls) {B : Nat} (h : ∀ j ∈ w, (rnF ls j).length ≤ B) (hB : w.length * B < 2 ^ 200) : (wayL ls w).natAbs.log2 < 1920 := by
  rw [wayL_eq ok, Int.natAbs_natCast]
  have h1 : (wayR ls w).length < 2 ^ 200 := by
    rw [wayR_len]
    have := sum_le_mul (l := w.map fun j => (rnF ls j).length) (B := B) (by simpa using h)
    rw [List.length_map] at this
    omega
  exact Nat.lt_trans (log2_lt (by decide) h1) (by decide)
end DM

/-! what the terms mean, as equations that are not by unfolding -/
namespace DM
open PySem L2
open PyProof.Rows (b2i)
theorem dSeq_e {t u : TDS} {D : DEnds} {ds : DSt} {M : Mm} : dSeq t u D ds M = (t { D with nx := u D } ds M) := (rfl)
theorem dNext_e  {D : DEnds} {ds : DSt} {M : Mm} : dNext  D ds M = (D.nx ds M) := (rfl)
theorem dBreak_e  {D : DEnds} {ds : DSt} {M : Mm} : dBreak  D ds M = (D.bk ds M) := (rfl)
theorem dCont_e  {D : DEnds} {ds : DSt} {M : Mm} : dCont  D ds M = (D.ct ds M) := (rfl)
theorem dDrop_e {te : TDE} {D : DEnds} {ds : DSt} {M : Mm} : dDrop te D ds M = (te ds M fun _ M1 => D.nx ds M1) := (rfl)
theorem dRet_e {te : TDE} {D : DEnds} {ds : DSt} {M : Mm} : dRet te D ds M = (te ds M D.rt) := (rfl)
theorem dRetN_e  {D : DEnds} {_ds0 : DSt} {M : Mm} : dRetN  D _ds0 M = (D.rt .non M) := (rfl)
theorem dIfS_e {c : TDT} {t u : TDS} {D : DEnds} {ds : DSt} {M : Mm} : dIfS c t u D ds M = (c ds M fun b M1 => if b = true then t D ds M1 else u D ds M1) := (rfl)
theorem dAsg_e {te : TDE} {g : TDG} {D : DEnds} {ds : DSt} {M : Mm} : dAsg te g D ds M = (te ds M fun x M1 => g x ds M1 D.nx) := (rfl)
theorem dOp_e {r : DR2} {ta tb : TDE} {ds : DSt} {M : Mm} {Q : DQ} : dOp r ta tb ds M Q = (ta ds M fun x M1 => tb ds M1 fun y M2 => r x y M2 Q) := (rfl)
theorem dC_e {d : D} {_ds0 : DSt} {M : Mm} {Q : DQ} : dC d _ds0 M Q = (Q d M) := (rfl)
theorem dTest_e {t : TDE} {ds : DSt} {M : Mm} {Q : Bool → Mm → Prop} : dTest t ds M Q = (t ds M fun x M1 => isB x fun b => Q b M1) := (rfl)
theorem dNil_e  {_ds0 : DSt} {M : Mm} {Q : List DM.D → Mm → Prop} : dNil  _ds0 M Q = (Q [] M) := (rfl)
theorem dCons_e {ta : TDE} {tr : TDA} {ds : DSt} {M : Mm} {Q : List DM.D → Mm → Prop} : dCons ta tr ds M Q = (ta ds M fun x M1 => tr ds M1 fun xs M2 => Q (x :: xs) M2) := (rfl)
theorem dgName_e {i : Nat} {d : DM.D} {ds : DSt} {M : Mm} {Q : DSt → Mm → Prop} : dgName i d ds M Q = (Q (ds.set i (some d)) M) := (rfl)
theorem dTup_e {t : TDA} {ds : DSt} {M : Mm} {Q : DQ} : dTup t ds M Q = (t ds M fun xs M1 => xs.length ≤ sizeLine ∧ Q (.tup xs) M1) := (rfl)
theorem dCB_e {r : DRC} {t : TDA} {ds : DSt} {M : Mm} {Q : DQ} : dCB r t ds M Q = (t ds M fun xs M1 => r xs M1 Q) := (rfl)
theorem dFresh_e {t : TDL} {ds : DSt} {M : Mm} {Q : DQ} : dFresh t ds M Q = (t ds M fun xs M1 => ∀ p, M1 p = none → Q (.ref p) (mup M1 p (.lst xs))) := (rfl)
theorem dFrz_e {t : TDL} {ds : DSt} {M : Mm} {Q : DQ} : dFrz t ds M Q = (t ds M fun xs M1 => Q (.lst xs) M1) := (rfl)
theorem dFreshD_e {t : TDD} {ds : DSt} {M : Mm} {Q : DQ} : dFreshD t ds M Q = (t ds M fun xs M1 => ∀ p, M1 p = none → Q (.ref p) (mup M1 p (.dic xs))) := (rfl)
theorem dFrzD_e {t : TDD} {ds : DSt} {M : Mm} {Q : DQ} : dFrzD t ds M Q = (t ds M fun xs M1 => Q (.dic xs) M1) := (rfl)
theorem dDispD_e {ts : List (TDE × TDE)} {ds : DSt} {M : Mm} {Q : List (Key × DM.D) → Mm → Prop} : dDispD ts ds M Q = (dPairs ts ds M fun es M1 => es.length ≤ 15 ∧ Q (mergeD [] es) M1) := (rfl)
theorem dDisp_e {t : TDA} {ds : DSt} {M : Mm} {Q : List DM.D → Mm → Prop} : dDisp t ds M Q = (t ds M fun xs M1 => xs.length ≤ sizeLine ∧ Q xs M1) := (rfl)
theorem dBM_e {r : DRM} {to : TDE} {t : TDA} {ds : DSt} {M : Mm} {Q : DQ} : dBM r to t ds M Q = (to ds M fun x M1 => isLst x M1 ∧ t ds M1 fun xs M2 => r x xs M2 Q) := (rfl)
theorem dBM0_e {r : DRM} {to : TDE} {ds : DSt} {M : Mm} {Q : DQ} : dBM0 r to ds M Q = (to ds M fun x M1 => isLst x M1 ∧ r x [] M1 Q) := (rfl)
theorem dAndV_e {ta tb : TDE} {ds : DSt} {M : Mm} {Q : DQ} : dAndV ta tb ds M Q = (ta ds M fun x M1 => isB x fun c => if c = true then tb ds M1 Q else Q (.bl false) M1) := (rfl)
theorem dOrV_e {ta tb : TDE} {ds : DSt} {M : Mm} {Q : DQ} : dOrV ta tb ds M Q = (ta ds M fun x M1 => isB x fun c => if c = true then Q (.bl true) M1 else tb ds M1 Q) := (rfl)
theorem dNotV_e {ta : TDE} {ds : DSt} {M : Mm} {Q : DQ} : dNotV ta ds M Q = (ta ds M fun x M1 => isB x fun c => Q (.bl (!c)) M1) := (rfl)
theorem dAnd_e {t u : TDT} {ds : DSt} {M : Mm} {Q : Bool → Mm → Prop} : dAnd t u ds M Q = (t ds M fun c M1 => if c = true then u ds M1 Q else Q false M1) := (rfl)
theorem dOr_e {t u : TDT} {ds : DSt} {M : Mm} {Q : Bool → Mm → Prop} : dOr t u ds M Q = (t ds M fun c M1 => if c = true then Q true M1 else u ds M1 Q) := (rfl)
theorem dNot_e {t : TDT} {ds : DSt} {M : Mm} {Q : Bool → Mm → Prop} : dNot t ds M Q = (t ds M fun c M1 => Q (!c) M1) := (rfl)
theorem dCall_e {sp : DSp} {t : TDA} {ds : DSt} {M : Mm} {Q : DQ} : dCall sp t ds M Q = (t ds M fun xs M1 => sp xs M1 Q) := (rfl)
theorem dIf_e {t : TDT} {ta tb : TDE} {ds : DSt} {M : Mm} {Q : DQ} : dIf t ta tb ds M Q = (t ds M fun c M1 => if c = true then ta ds M1 Q else tb ds M1 Q) := (rfl)
theorem dFor_e {ti : TDI} {g : TDG} {tb : TDS} {D : DEnds} {ds : DSt} {M : Mm} : dFor ti g tb D ds M = (ti ds M fun it M1 => forW it.ok g tb D it.xs ds M1) := (rfl)
theorem dSl_e {te : TDE} {tl th : TDO} {ds : DSt} {M : Mm} {Q : DQ} : dSl te tl th ds M Q = (te ds M fun x M1 => tl ds M1 fun l M2 => th ds M2 fun u M3 => slR x l u M3 Q) := (rfl)
theorem dPart_e {t : TDE} {ds : DSt} {M : Mm} {Q : Option Int → Mm → Prop} : dPart t ds M Q = (t ds M fun x M1 => isI x fun i => Q (some i) M1) := (rfl)
theorem dNoPart_e  {_ds0 : DSt} {M : Mm} {Q : Option Int → Mm → Prop} : dNoPart  _ds0 M Q = (Q none M) := (rfl)
theorem diRng1_e {te : TDE} {ds : DSt} {M : Mm} {Q : DIt → Mm → Prop} : diRng1 te ds M Q = (te ds M fun x M1 => isI x fun j => inLine j ∧ Q ⟨rangeD 0 j.toNat, fun _ => True⟩ M1) := (rfl)
theorem diRng2_e {ta tb : TDE} {ds : DSt} {M : Mm} {Q : DIt → Mm → Prop} : diRng2 ta tb ds M Q = (ta ds M fun x M1 => tb ds M1 fun y M2 => isI x fun i => isI y fun j => inLine i ∧ inLine j ∧ Q ⟨rangeD i (j - i).toNat, fun _ => True⟩ M2) := (rfl)
theorem dRev_e {te : TDE} {ds : DSt} {M : Mm} {Q : DQ} : dRev te ds M Q = (te ds M fun x M1 => revR x M1 Q) := (rfl)
theorem dRetX_e {t : TDEX} {D : DEnds} {ds : DSt} {M : Mm} : dRetX t D ds M = (t D.xc ds M D.rt) := (rfl)
theorem dDropX_e {t : TDEX} {D : DEnds} {ds : DSt} {M : Mm} : dDropX t D ds M = (t D.xc ds M fun _ M1 => D.nx ds M1) := (rfl)
theorem dAsgX_e {t : TDEX} {g : TDG} {D : DEnds} {ds : DSt} {M : Mm} : dAsgX t g D ds M = (t D.xc ds M fun x M1 => g x ds M1 D.nx) := (rfl)
theorem dCallX_e {sp : DSpX} {t : TDAX} {xc : DX} {ds : DSt} {M : Mm} {Q : DQ} : dCallX sp t xc ds M Q = (t xc ds M fun xs M1 => sp xs M1 Q fun C fs M' => xc C fs ds M') := (rfl)
theorem dConsX_e {t : TDEX} {u : TDAX} {xc : DX} {ds : DSt} {M : Mm} {Q : List DM.D → Mm → Prop} : dConsX t u xc ds M Q = (t xc ds M fun x M1 => u xc ds M1 fun xs M2 => Q (x :: xs) M2) := (rfl)
theorem dTupX_e {t : TDAX} {xc : DX} {ds : DSt} {M : Mm} {Q : DQ} : dTupX t xc ds M Q = (t xc ds M fun xs M1 => xs.length ≤ sizeLine ∧ Q (.tup xs) M1) := (rfl)
theorem dFrzX_e {t : TDAX} {xc : DX} {ds : DSt} {M : Mm} {Q : DQ} : dFrzX t xc ds M Q = (t xc ds M fun xs M1 => xs.length ≤ sizeLine ∧ Q (.lst xs) M1) := (rfl)
theorem dRaise0_e {C : Addr} {t : TDE} {D : DEnds} {ds : DSt} {M : Mm} : dRaise0 C t D ds M = (t ds M fun _ M1 => D.xc C [] ds M1) := (rfl)
theorem dTryAs_e {K : PySem.W.Frag} {c : Value} {i : Nat} {tb : TDS} {ts : Addr → Addr → Option Addr → TDS} {D : DEnds} {ds : DSt} {M : Mm} : dTryAs K c i tb ts D ds M = (tb { D with xc := dAs K c i ts D } ds M) := (rfl)
theorem dTryOnly_e {K : PySem.W.Frag} {c : Value} {tb : TDS} {ts : TDS} {D : DEnds} {ds : DSt} {M : Mm} : dTryOnly K c tb ts D ds M = (tb { D with xc := dOnly K c ts D } ds M) := (rfl)
theorem dXf_e {a C : Addr} {d : Option Addr} {C0 : Addr} {f : Str} {te : TDE} {ds : DSt} {M : Mm} {Q : DQ} : dXf a C d C0 f te ds M Q = (te ds M fun x M1 => x = .ref a ∧ C = C0 ∧ ∃ dd fs v, d = some dd ∧ M1 dd = some (.xd fs) ∧ fs.lookup f = some v ∧ Q v M1) := (rfl)
theorem dLc_e {ti : TDI} {g : TDG} {tt : TDT} {te : TDE} {vs : List Nat} {ds : DSt} {M : Mm} {Q : List DM.D → Mm → Prop} : dLc ti g tt te vs ds M Q = (ti ds M fun it M1 => lcW it.ok g tt te (wipeD ds vs) Q it.xs [] M1) := (rfl)
theorem dGet2_e {to te tf : TDE} {ds : DSt} {M : Mm} {Q : DQ} : dGet2 to te tf ds M Q = (to ds M fun x M1 => isDic x M1 ∧ te ds M1 fun y M2 => tf ds M2 fun z M3 => getQ x y z M3 Q) := (rfl)
theorem dGet1_e {to te : TDE} {ds : DSt} {M : Mm} {Q : DQ} : dGet1 to te ds M Q = (to ds M fun x M1 => isDic x M1 ∧ te ds M1 fun y M2 => getQ x y .non M2 Q) := (rfl)
theorem dYes_e  {_ds0 : DSt} {M : Mm} {Q : Bool → Mm → Prop} : dYes  _ds0 M Q = (Q true M) := (rfl)
section
variable {ds : DSt} {M : Mm} {Q : DQ} {b : Bool} {i : Int} {QB : Bool → Prop} {QI : Int → Prop} {xs ys : List D} {d : D} {a : Addr} {z : Str} {n : Nat}
def varI (o : Option D) (M : Mm) (Q : DQ) : Prop := match o with | some d => Q d M | none => False
theorem varI_s : varI (some d) M Q = Q d M := (rfl)
theorem dVar_e {i : Nat} : dVar i ds M Q = varI (dget ds i) M Q := (rfl)
theorem isB_b : isB (.bl b) QB = QB b := (rfl)
theorem isI_i : isI (.int i) QI = QI i := (rfl)
theorem isLst_r : isLst (.ref a) M = ((lstOf M a).isSome = true) := (rfl)
theorem dgTup_t {t : TDGs} {Q : DSt → Mm → Prop} : dgTup n t (.tup xs) ds M Q = (xs.length = n ∧ t xs ds M Q) := (rfl)
theorem dgTup_l {t : TDGs} {Q : DSt → Mm → Prop} : dgTup n t (.lst xs) ds M Q = (xs.length = n ∧ t xs ds M Q) := (rfl)
theorem dgCons_e {t : TDG} {u : TDGs} {Q : DSt → Mm → Prop} : dgCons t u (d :: xs) ds M Q = t d ds M fun ds' M' => u xs ds' M' Q := (rfl)
theorem dgNil_e {Q : DSt → Mm → Prop} : dgNil [] ds M Q = Q ds M := (rfl)
def negI (x : D) (M : Mm) (Q : DQ) : Prop := match x with | .int i => Q (.int (-i)) M | _ => False
theorem negI_i : negI (.int i) M Q = Q (.int (-i)) M := (rfl)
theorem dNeg_e {ta : TDE} : dNeg ta ds M Q = ta ds M fun x M1 => negI x M1 Q := (rfl)
def anyI (x : D) (M1 : Mm) (Q : DIt → Mm → Prop) : Prop := match x with
  | .tup xs => Q ⟨xs, fun _ => True⟩ M1
  | .str z => Q ⟨signs z, fun _ => True⟩ M1
  | .ref a => (match lstOf M1 a with | some xs => Q ⟨xs, fun M' => lstOf M' a = some xs⟩ M1 | none => False)
  | .lst xs => Q ⟨xs, fun _ => True⟩ M1
  | _ => False
def anyR (a : Addr) (o : Option (List D)) (M1 : Mm) (Q : DIt → Mm → Prop) : Prop := match o with | some xs => Q ⟨xs, fun M' => lstOf M' a = some xs⟩ M1 | none => False
theorem anyI_t {Q : DIt → Mm → Prop} : anyI (.tup xs) M Q = Q ⟨xs, fun _ => True⟩ M := (rfl)
theorem anyI_s {Q : DIt → Mm → Prop} : anyI (.str z) M Q = Q ⟨signs z, fun _ => True⟩ M := (rfl)
theorem anyI_L {Q : DIt → Mm → Prop} : anyI (.lst xs) M Q = Q ⟨xs, fun _ => True⟩ M := (rfl)
theorem anyI_r {Q : DIt → Mm → Prop} : anyI (.ref a) M Q = anyR a (lstOf M a) M Q := (rfl)
theorem anyR_s {Q : DIt → Mm → Prop} : anyR a (some xs) M Q = Q ⟨xs, fun M' => lstOf M' a = some xs⟩ M := (rfl)
theorem diAny_e {te : TDE} {Q : DIt → Mm → Prop} : diAny te ds M Q = te ds M fun x M1 => anyI x M1 Q := (rfl)
def someI {α : Type} (o : Option α) (Q : α → Prop) : Prop := match o with | some x => Q x | none => False
theorem someI_s {α : Type} {x : α} {Q : α → Prop} : someI (some x) Q = Q x := (rfl)
def listI (xs : List D) (M1 : Mm) (Q : List D → Mm → Prop) : Prop := match xs with
  | [x] => (match rdS M1 x with | some ys => Q ys M1 | none => False)
  | _ => False
theorem listI_1 {Q : List D → Mm → Prop} : listI [d] M Q = someI (rdS M d) fun ys => Q ys M := by
  unfold listI someI
  simp only
  cases rdS M d <;> rfl
theorem dListOf_e {t : TDA} {Q : List D → Mm → Prop} : dListOf t ds M Q = t ds M fun xs M1 => listI xs M1 Q := (rfl)
def joinI (x : D) (ds : DSt) (te : TDE) (M1 : Mm) (Q : DQ) : Prop := match x with
  | .str a => te ds M1 fun y M2 => (match rdL M2 y with | some xs => joinQ a xs M2 Q | none => False)
  | _ => False
theorem joinI_s {te : TDE} : joinI (.str z) ds te M Q = te ds M fun y M2 => someI (rdL M2 y) fun xs => joinQ z xs M2 Q := by
  show te ds M _ = _
  congr 1
  funext y M2
  unfold someI
  cases rdL M2 y <;> rfl
theorem dJoin_e {to te : TDE} : dJoin to te ds M Q = to ds M fun x M1 => joinI x ds te M1 Q := (rfl)
def isStr (x : D) : Prop := match x with | .str _ => True | _ => False
theorem isStr_s : isStr (.str z) = True := (rfl)
theorem dIndex_e {to te : TDE} : dIndex to te ds M Q = to ds M fun x M1 => isStr x ∧ te ds M1 fun y M2 => indexQ x y M2 Q := (rfl)
def zipI (x y : D) (M2 : Mm) (Q : DIt → Mm → Prop) : Prop := match x, y with
  | .tup xs, .tup ys => Q ⟨zipD xs ys, fun _ => True⟩ M2
  | x, y => zipQ x y M2 Q
theorem zipI_tt {Q : DIt → Mm → Prop} : zipI (.tup xs) (.tup ys) M Q = Q ⟨zipD xs ys, fun _ => True⟩ M := (rfl)
theorem zipI_LL {Q : DIt → Mm → Prop} : zipI (.lst xs) (.lst ys) M Q = Q ⟨zipD xs ys, fun M' => rdL M' (.lst xs) = some xs ∧ rdL M' (.lst ys) = some ys⟩ M := (rfl)
theorem diZip_e {ta tb : TDE} {Q : DIt → Mm → Prop} : diZip ta tb ds M Q = ta ds M fun x M1 => tb ds M1 fun y M2 => zipI x y M2 Q := (rfl)
def par2I (i j : Nat) (xs : List D) (ds : DSt) (M1 : Mm) (N : DSt → Mm → Prop) : Prop := match xs with | [u, v] => N ((ds.set i (some u)).set j (some v)) M1 | _ => False
theorem par2I_2 {i j : Nat} {u v : D} {N : DSt → Mm → Prop} : par2I i j [u, v] ds M N = N ((ds.set i (some u)).set j (some v)) M := (rfl)
theorem dPar2_e {i j : Nat} {t : TDA} {D : DEnds} : dPar2 i j t D ds M = t ds M fun xs M1 => par2I i j xs ds M1 D.nx := (rfl)
def enumI (x : D) (M1 : Mm) (Q : DIt → Mm → Prop) : Prop := match x with
  | .tup xs => Q ⟨enumD 0 xs, fun _ => True⟩ M1
  | x => enumQ x M1 Q
theorem enumI_t {Q : DIt → Mm → Prop} : enumI (.tup xs) M Q = Q ⟨enumD 0 xs, fun _ => True⟩ M := (rfl)
theorem enumI_L {Q : DIt → Mm → Prop} : enumI (.lst xs) M Q = Q ⟨enumD 0 xs, fun M' => rdL M' (.lst xs) = some xs⟩ M := (rfl)
theorem diEnum_e {ta : TDE} {Q : DIt → Mm → Prop} : diEnum ta ds M Q = ta ds M fun x M1 => enumI x M1 Q := (rfl)
def raiseI (f : Str) (x : D) (M1 : Mm) (Q : Int → Mm → Prop) : Prop := match x with | .int n => n.natAbs.log2 < 1920 ∧ Q n M1 | _ => False
theorem raiseI_i {f : Str} {Q : Int → Mm → Prop} : raiseI f (.int i) M Q = (i.natAbs.log2 < 1920 ∧ Q i M) := (rfl)
theorem dRaise1_e {C : Addr} {f : Str} {t : TDE} {D : DEnds} : dRaise1 C f t D ds M = t ds M fun x M1 => raiseI f x M1 fun n M2 => D.xc C [(f, .int n)] ds M2 := (rfl)
def catI (o u : Option (List D)) (Q : List D → Prop) : Prop := match o, u with
  | some i, some j => i.length + j.length ≤ sizeLine ∧ Q (i ++ j)
  | _, _ => False
theorem catI_s {Q : List D → Prop} : catI (some xs) (some ys) Q = (xs.length + ys.length ≤ sizeLine ∧ Q (xs ++ ys)) := (rfl)
theorem dCat_e {ta tb : TDE} {Q : List D → Mm → Prop} : dCat ta tb ds M Q = ta ds M fun x M1 => tb ds M1 fun y M2 => catI (rdL M2 x) (rdL M2 y) fun zs => Q zs M2 := (rfl)
theorem dSlL_e {te : TDE} {tl th : TDO} {Q : List D → Mm → Prop} : dSlL te tl th ds M Q = te ds M fun x M1 => tl ds M1 fun l M2 => th ds M2 fun u M3 => someI (rdL M3 x) fun xs => Q (cutL xs l u) M3 := by
  show te ds M _ = _
  congr 1
  funext x M1
  congr 1
  funext l M2
  congr 1
  funext u M3
  unfold someI
  cases rdL M3 x <;> rfl
def dputI (x y v : D) (ds : DSt) (M3 : Mm) (N : DSt → Mm → Prop) : Prop := match x, keyD y with
  | .ref a, some k => (match dicOf M3 a with | some kvs => kvs.length < sizeLine ∧ N ds (mup M3 a (.dic (putD kvs k v))) | none => False)
  | _, _ => False
theorem dputI_s {v : D} {N : DSt → Mm → Prop} : dputI (.ref a) (.str z) v ds M N = someI (dicOf M a) fun kvs => kvs.length < sizeLine ∧ N ds (mup M a (.dic (putD kvs (.inr z) v))) := by
  unfold dputI someI
  simp only [keyD]
  cases dicOf M a <;> rfl
theorem dputI_i {v : D} {N : DSt → Mm → Prop} : dputI (.ref a) (.int i) v ds M N = someI (dicOf M a) fun kvs => kvs.length < sizeLine ∧ N ds (mup M a (.dic (putD kvs (.inl i) v))) := by
  unfold dputI someI
  simp only [keyD]
  cases dicOf M a <;> rfl
theorem dputS_e {te to ti : TDE} {D : DEnds} : dputS te to ti D ds M = te ds M fun v M1 => to ds M1 fun x M2 => ti ds M2 fun y M3 => dputI x y v ds M3 D.nx := (rfl)
def dlputI (x y v : D) (ds : DSt) (M3 : Mm) (N : DSt → Mm → Prop) : Prop := match x, y with
  | .ref a, .int i => (match lstOf M3 a with | some xs => (match ixN xs.length i with | some j => N ds (mup M3 a (.lst (xs.set j v))) | none => False) | none => False)
  | _, _ => False
theorem dlputI_r {v : D} {N : DSt → Mm → Prop} : dlputI (.ref a) (.int i) v ds M N = someI (lstOf M a) fun xs => someI (ixN xs.length i) fun j => N ds (mup M a (.lst (xs.set j v))) := by
  unfold dlputI someI
  simp only
  cases lstOf M a with
  | none => rfl
  | some xs => simp only; cases ixN xs.length i <;> rfl
theorem dlputS_e {te to ti : TDE} {D : DEnds} : dlputS te to ti D ds M = te ds M fun v M1 => to ds M1 fun x M2 => ti ds M2 fun y M3 => dlputI x y v ds M3 D.nx := (rfl)
theorem dPairs_nil {Q : List (Key × D) → Mm → Prop} : dPairs [] ds M Q = Q [] M := (rfl)
theorem dPairs_cons {tk tv : TDE} {r : List (TDE × TDE)} {Q : List (Key × D) → Mm → Prop} : dPairs ((tk, tv) :: r) ds M Q = tk ds M fun x M1 => tv ds M1 fun y M2 => dPairs r ds M2 fun ps M3 => someI (keyD x) fun k => Q ((k, y) :: ps) M3 := by
  show tk ds M _ = _
  congr 1
  funext x M1
  congr 1
  funext y M2
  congr 1
  funext ps M3
  unfold someI
  cases keyD x <;> rfl
theorem dgetR_s {x : D} : dgetR x (.str z) M Q = someI (rdD M x) fun kvs => someI (valD kvs (.inr z)) fun d => Q d M := by
  unfold dgetR someI
  cases rdD M x with
  | none => rfl
  | some kvs => simp only [keyD]; cases valD kvs (.inr z) <;> rfl
theorem dgetR_i {x : D} : dgetR x (.int i) M Q = someI (rdD M x) fun kvs => someI (valD kvs (.inl i)) fun d => Q d M := by
  unfold dgetR someI
  cases rdD M x with
  | none => rfl
  | some kvs => simp only [keyD]; cases valD kvs (.inl i) <;> rfl
theorem getQ_s {x w : D} : getQ x (.str z) w M Q = someI (rdD M x) fun kvs => Q ((valD kvs (.inr z)).getD w) M := by
  unfold getQ
  cases rdD M x with
  | none => rfl
  | some kvs => rfl
theorem getQ_i {x w : D} : getQ x (.int i) w M Q = someI (rdD M x) fun kvs => Q ((valD kvs (.inl i)).getD w) M := by
  unfold getQ
  cases rdD M x with
  | none => rfl
  | some kvs => rfl
end
end DM

/-! what comes behind a statement, as a letter -/
namespace DM
open PySem L2
open PyProof.Rows (b2i)
def KEq (N s : DSt → Mm → Prop) : Prop := ∀ ds M, s ds M → N ds M
theorem kgo {N s : DSt → Mm → Prop} {ds : DSt} {M : Mm} (h : KEq N s) (g : s ds M) : N ds M := h ds M g
section
variable {D : DEnds} {ds : DSt} {M : Mm} {s : TDS}
theorem sa {t : TDS} (h : ∀ Nx, KEq Nx (s D) → t { D with nx := Nx } ds M) : dSeq t s D ds M := h _ fun _ _ h => h
theorem sa_asg {te : TDE} {g : TDG} (h : ∀ Nx, KEq Nx (s D) → dAsg te g { D with nx := Nx } ds M) : dSeq (dAsg te g) s D ds M := h _ fun _ _ h => h
theorem sa_drop {te : TDE} (h : ∀ Nx, KEq Nx (s D) → dDrop te { D with nx := Nx } ds M) : dSeq (dDrop te) s D ds M := h _ fun _ _ h => h
theorem sa_for {ti : TDI} {g : TDG} {tb : TDS} (h : ∀ Nx, KEq Nx (s D) → dFor ti g tb { D with nx := Nx } ds M) : dSeq (dFor ti g tb) s D ds M := h _ fun _ _ h => h
theorem sa_while {c : TDT} {tb : TDS} (h : ∀ Nx, KEq Nx (s D) → dWhile c tb { D with nx := Nx } ds M) : dSeq (dWhile c tb) s D ds M := h _ fun _ _ h => h
theorem sa_dput {a b c : TDE} (h : ∀ Nx, KEq Nx (s D) → dputS a b c { D with nx := Nx } ds M) : dSeq (dputS a b c) s D ds M := h _ fun _ _ h => h
theorem sa_lput {a b c : TDE} (h : ∀ Nx, KEq Nx (s D) → dlputS a b c { D with nx := Nx } ds M) : dSeq (dlputS a b c) s D ds M := h _ fun _ _ h => h
theorem sa_par2 {i j : Nat} {t : TDA} (h : ∀ Nx, KEq Nx (s D) → dPar2 i j t { D with nx := Nx } ds M) : dSeq (dPar2 i j t) s D ds M := h _ fun _ _ h => h
theorem sa_asgX {te : TDEX} {g : TDG} (h : ∀ Nx, KEq Nx (s D) → dAsgX te g { D with nx := Nx } ds M) : dSeq (dAsgX te g) s D ds M := h _ fun _ _ h => h
theorem sa_dropX {te : TDEX} (h : ∀ Nx, KEq Nx (s D) → dDropX te { D with nx := Nx } ds M) : dSeq (dDropX te) s D ds M := h _ fun _ _ h => h
end
end DM

/-! yards -/
namespace DM
open PySem L2
open PyProof.Rows (b2i)
theorem dChain_e {r r' : DR2} {ta tb tc : TDE} {ds : DSt} {M : Mm} {Q : DQ} : dChain r r' ta tb tc ds M Q = ta ds M fun x M1 => tb ds M1 fun y M2 => r x y M2 fun z M3 => isB z fun k => if k = true then tc ds M3 fun w M4 => r' y w M4 Q else Q (.bl false) M3 := (rfl)
abbrev YSt := Str × List (List Str)
def pileD (p : List Str) : D := .tup (p.map D.str)
def ystD (s : YSt) : D := .tup [.str s.1, .tup (s.2.map pileD)]
def yardD (ys : List (List Rl)) : D := .tup (ys.map progD)
def stpD (q : Int × Int) : D := .tup [.int q.1, .int q.2]
def ystep (ys : List (List Rl)) (s : YSt) (q : Int × Int) : Option YSt := if 0 ≤ q.1 then (match ys[q.1.toNat]?, s.2[q.1.toNat]? with
  | some rs, some p => (behF rs (s.1, p) q.2).map fun t => (t.1, s.2.set q.1.toNat t.2)
  | _, _ => none) else none
def optY : Option YSt → D
  | none => .non
  | some s => ystD s
def goY (ys : List (List Rl)) : YSt → List (Int × Int) → Nat → YSt ⊕ Nat
  | s, [], _ => .inl s
  | s, q :: qs, at_ => match ystep ys s q with | some t => goY ys t qs (at_ + 1) | none => .inr at_
structure YOk (ys : List (List Rl)) : Prop where
  l : ys.length ≤ 1000
  r : ∀ rs ∈ ys, rs.length ≤ 1000 ∧ ∀ r ∈ rs, r.w.length ≤ 2
structure SOk (ys : List (List Rl)) (s : YSt) (B : Nat) : Prop where
  l : s.2.length = ys.length
  p : ∀ p ∈ s.2, p.length ≤ B
theorem SOk.mono {ys : List (List Rl)} {s : YSt} {B B' : Nat} (h : SOk ys s B) (e : B ≤ B') : SOk ys s B' := ⟨h.l, fun p hp => Nat.le_trans (h.p p hp) e⟩
theorem ystep_ok {ys : List (List Rl)} {s t : YSt} {q : Int × Int} {B : Nat} (hy : YOk ys) (hs : SOk ys s B) (h : ystep ys s q = some t) : SOk ys t (B + 2) := by
  unfold ystep at h
  split at h
  · split at h
    · rename_i rs p h1 h2
      obtain ⟨u, hu, rfl⟩ := Option.map_eq_some_iff.mp h
      refine ⟨by rw [List.length_set]; exact hs.l, fun x hx => ?_⟩
      rcases List.mem_or_eq_of_mem_set hx with hx | rfl
      · have := hs.p x hx; omega
      · have := behF_len2 (hy.r rs (List.mem_of_getElem? h1)).2 hu
        have := hs.p p (List.mem_of_getElem? h2)
        simp only at *
        omega
    · cases h
  · cases h
theorem set_slices {α : Type} {l : List α} {i : Nat} {x : α} (h : i < l.length) : l.take i ++ [x] ++ l.drop (i + 1) = l.set i x := by
  rw [List.set_eq_take_append_cons_drop, if_pos h]
  simp
theorem pu_pile {p : List Str} : pureD (pileD p) = true := by simp only [pileD, pu_tup, pureDs_str]
theorem pu_piles {l : List (List Str)} : pureDs (l.map pileD) = true := pureDs_map _ (fun _ => pu_pile) l
theorem dep_pile {p : List Str} {n : Nat} : (depD (pileD p) ≤ n + 2) = True := by simp only [pileD, dep_tup, dep_strs]
theorem dep_piles {l : List (List Str)} {n : Nat} : (depDs (l.map pileD) ≤ n + 2) = True := eq_true (Nat.le_trans (depDs_map pileD 2 (by decide) (fun p => by have := depDs_str p; simp only [pileD, depD]; omega) l) (by omega))
theorem pu_yst {s : YSt} : pureD (ystD s) = true := by simp only [ystD, pu_tup, pu_cons, pu_str, pu_piles, pu_nil, Bool.and_self]
theorem dep_yst {s : YSt} {n : Nat} : (depD (ystD s) ≤ n + 4) = True := by simp only [ystD, dep_tup, dep_cons, dep_str, dep_piles, dep_nil, and_true]
theorem optY_st {s : YSt} : optY (some s) = ystD s := (rfl)
theorem optY_no : optY none = .non := (rfl)
theorem isNonD_yst {s : YSt} : isNonD (ystD s) = false := rfl
section
variable {M : Mm} {Q : DQ} {s : YSt} {t : St2}
theorem isR_yst : isR (ystD s) .non M Q = Q (.bl false) M := isR_tn
theorem isNotR_yst : isNotR (ystD s) .non M Q = Q (.bl true) M := isNotR_tn
theorem isR_st : isR (stD t) .non M Q = Q (.bl false) M := isR_tn
theorem isNotR_st : isNotR (stD t) .non M Q = Q (.bl true) M := isNotR_tn
theorem lenR_yard {ys : List (List Rl)} : lenR [yardD ys] M Q = Q (.int ys.length) M := by
  unfold yardD
  rw [lenR_t, List.length_map]
end

def dueY : YSt ⊕ Nat → D
  | .inl t => .tup [.str "stand", ystD t]
  | .inr k => .tup [.str "none", .int (k : Nat)]
def strsL (ms : List Str) : D := .lst (ms.map D.str)
end DM

/-! a truth and a whole number: +, - -/
namespace DMX
open PySem PySem.Spec
theorem gives_add_bi (a : Bool) (b : Int) (u : Tok) : Gives (Builtin.«int.__add__» ⟨[.bool a, .int b u], []⟩) (.int ((if a = true then (1 : Int) else 0) + b)) :=
  .of_wp fun M A E s Q h => by obtain ⟨hp, g, d, tk, os⟩ := s; wp_walk; exact ⟨_, rfl, h⟩
theorem gives_sub_bi (a : Bool) (b : Int) (u : Tok) : Gives (Builtin.«int.__sub__» ⟨[.bool a, .int b u], []⟩) (.int ((if a = true then (1 : Int) else 0) - b)) :=
  .of_wp fun M A E s Q h => by obtain ⟨hp, g, d, tk, os⟩ := s; wp_walk; exact ⟨_, rfl, h⟩
section
variable {prog : Program} {w : World} {A : Around} {E : Value → Shared → Prop} {s : Shared} {a : Bool} {b : Int} {u : Tok}
theorem add_bi {Q : Value → Shared → Prop} (h : Q (.int ((if a = true then (1 : Int) else 0) + b) s.toks) { s with toks := s.toks + 1 }) : wpAny (model prog w) A (binaryOp .Add (.bool a) (.int b u)) Q E s :=
  binaryOp_left_gives (op := .Add) (T := "bool") (U := "int") (by decide) rfl (fun s' => typeIs_int s' b u) F.fills_bool_add F.fills_int_add F.sub_int_bool F.slot_bool_add F.slot_int_radd F.entry_int_add (F.args_int_add_2 _ _) (gives_add_bi a b u) trivial h
theorem sub_bi {Q : Value → Shared → Prop} (h : Q (.int ((if a = true then (1 : Int) else 0) - b) s.toks) { s with toks := s.toks + 1 }) : wpAny (model prog w) A (binaryOp .Sub (.bool a) (.int b u)) Q E s :=
  binaryOp_left_gives (op := .Sub) (T := "bool") (U := "int") (by decide) rfl (fun s' => typeIs_int s' b u) F.fills_bool_sub F.fills_int_sub F.sub_int_bool F.slot_bool_sub F.slot_int_rsub F.entry_int_sub (F.args_int_sub_2 _ _) (gives_sub_bi a b u) trivial h
end
end DMX
namespace DM
open PySem L2
open PyProof.Rows (b2i)
theorem op_add_bi {X : Cx} : OpR X (binaryOp .Add) (fun x y H Q => ∃ k i, x = .bl k ∧ y = .int i ∧ Q (.int (b2i k + i)) H) := by
  intro pins s σ H x y v u Q I rx ry h
  obtain ⟨k, i, rfl, rfl, q⟩ := h
  cases rx
  obtain ⟨t, rfl⟩ := ry
  exact DMX.add_bi ⟨.int (b2i k + i), H, I.tok _, ⟨_, rfl⟩, q⟩
theorem op_sub_bi {X : Cx} : OpR X (binaryOp .Sub) (fun x y H Q => ∃ k i, x = .bl k ∧ y = .int i ∧ Q (.int (b2i k - i)) H) := by
  intro pins s σ H x y v u Q I rx ry h
  obtain ⟨k, i, rfl, rfl, q⟩ := h
  cases rx
  obtain ⟨t, rfl⟩ := ry
  exact DMX.sub_bi ⟨.int (b2i k - i), H, I.tok _, ⟨_, rfl⟩, q⟩
/-- +, a truth on the left too -/
def addB : DR2 := fun x y M Q => match x, y with
  | .bl k, .int i => Q (.int (b2i k + i)) M
  | x, y => addR x y M Q
def subB : DR2 := fun x y M Q => match x, y with
  | .bl k, .int i => Q (.int (b2i k - i)) M
  | x, y => subR x y M Q
def addBT (K : PySem.W.Frag) : R2 := fun x y H Q => addT K x y H Q ∨ ∃ k i, x = .bl k ∧ y = .int i ∧ Q (.int (b2i k + i)) H
def subBT : R2 := fun x y H Q => rI0 (fun i j => .int (i - j)) x y H Q ∨ ∃ k i, x = .bl k ∧ y = .int i ∧ Q (.int (b2i k - i)) H
theorem lift_addB {K : PySem.W.Frag} : Lift2 K (addBT K) addB := by
  intro x y dx dy H M Q Q0 rx ry m h k
  unfold addB at h
  split at h
  · cases rx.bl_v
    cases ry.int_v
    exact .inr ⟨_, _, rfl, rfl, k _ H _ M (.int _) m GG.refl h⟩
  · exact .inl (lift_add x y _ _ H M Q Q0 rx ry m h k)
theorem lift_subB {K : PySem.W.Frag} : Lift2 K subBT subB := by
  intro x y dx dy H M Q Q0 rx ry m h k
  unfold subB at h
  split at h
  · cases rx.bl_v
    cases ry.int_v
    exact .inr ⟨_, _, rfl, rfl, k _ H _ M (.int _) m GG.refl h⟩
  · exact .inl (lift_int0 (fun _ _ _ => .int _) x y _ _ H M Q Q0 rx ry m h k)
section
variable {X : Cx} {a b : Expr} {ta tb : TDE} {pos : Pos}
theorem je_addB (ha : JE X a ta) (hb : JE X b tb) : JE X (.BinOp a .Add b pos) (dOp addB ta tb) := je_op (op_addT.or op_add_bi) lift_addB ha hb
theorem je_subB (ha : JE X a ta) (hb : JE X b tb) : JE X (.BinOp a .Sub b pos) (dOp subB ta tb) := je_op (op_sub.or op_sub_bi) lift_subB ha hb
end
section
variable {M : Mm} {Q : DQ} {i j : Int} {k : Bool} {x y : D}
theorem addB_ii : addB (.int i) (.int j) M Q = Q (.int (i + j)) M := (rfl)
theorem addB_bi : addB (.bl k) (.int j) M Q = Q (.int (b2i k + j)) M := (rfl)
theorem subB_ii : subB (.int i) (.int j) M Q = Q (.int (i - j)) M := (rfl)
theorem subB_bi : subB (.bl k) (.int j) M Q = Q (.int (b2i k - j)) M := (rfl)
end
/-! values of three things -/
def jn (a b : Nat) : Nat := a ||| b
theorem bor_fin : ∀ a b : Fin 8, Builtin.bitOr (a.1 : Int) (b.1 : Int) = ((a.1 ||| b.1 : Nat) : Int) := by decide +kernel
theorem bor_nat {a b : Nat} (ha : a < 8) (hb : b < 8) : Builtin.bitOr (a : Int) (b : Int) = ((jn a b : Nat) : Int) := bor_fin ⟨a, ha⟩ ⟨b, hb⟩
theorem jn_fin : ∀ a b : Fin 8, jn a.1 b.1 < 8 := by decide +kernel
theorem jn_lt {a b : Nat} (ha : a < 8) (hb : b < 8) : jn a b < 8 := jn_fin ⟨a, ha⟩ ⟨b, hb⟩
def hasV (a b : Nat) : Bool := jn a b == a
def partsV (a : Nat) : List Nat := [1, 2, 4].filter fun p => a / p % 2 == 1
theorem join_fin : ∀ a b : Fin 8, (([1, 2, 4].filter fun p => p ∈ partsV a.1 ++ partsV b.1).sum : Nat) = jn a.1 b.1 := by decide +kernel
/-- what a table is -/
def isValD : D → Bool
  | .int i => decide (0 ≤ i) && decide (i < 8)
  | _ => false
def monoV (v : List Nat) : Bool := (List.range 8).all fun a => (List.range 8).all fun b => !hasV a b || hasV (v.getD a 0) (v.getD b 0)
def isTabD : D → Bool
  | .tup xs => xs.length == 8 && xs.all isValD && monoV (xs.map fun x => match x with | .int i => i.toNat | _ => 0)
  | _ => false
def sumsV (v : List Nat) : Bool := (List.range 8).all fun a => (List.range 8).all fun b => v.getD (jn a b) 0 == jn (v.getD a 0) (v.getD b 0)
theorem all_vals : ∀ {xs : List D}, xs.all isValD = true → ∃ v : List Nat, xs = v.map natD ∧ (∀ n ∈ v, n < 8) ∧ v.length = xs.length
  | [], _ => ⟨[], rfl, by simp, rfl⟩
  | x :: xs, h => by
    simp only [List.all_cons, Bool.and_eq_true] at h
    obtain ⟨v, rfl, h1, h2⟩ := all_vals h.2
    cases x with
    | int i =>
      simp only [isValD, Bool.and_eq_true, decide_eq_true_eq] at h
      exact ⟨i.toNat :: v, by simp [natD, Int.toNat_of_nonneg h.1.1], by simpa using ⟨by omega, h1⟩, by simp⟩
    | _ => simp [isValD] at h
theorem isTab_nat {v : List Nat} (h : ∀ n ∈ v, n < 8) : isTabD (.tup (v.map natD)) = (v.length == 8 && monoV v) := by
  have e : (v.map natD).all isValD = true := by
    rw [List.all_map, List.all_eq_true]
    intro n hn
    have := h n hn
    simp only [Function.comp, natD, isValD, Bool.and_eq_true, decide_eq_true_eq]
    omega
  have e2 : (v.map natD).map (fun x => match x with | .int i => i.toNat | _ => 0) = v := by
    rw [List.map_map]
    exact (List.map_congr_left fun n _ => by simp [natD]).trans (List.map_id _)
  simp only [isTabD, e, e2, List.length_map, Bool.and_true]

/-- of a kind that is known without the store -/
def KnD : D → Prop
  | .ref _ => False
  | .ty _ => False
  | .dit _ => False
  | _ => True
def ElK : D → Prop
  | .tup xs => pureDs xs = true ∧ depDs xs ≤ 60 ∧ xs.length ≤ 100000
  | x => KnD x
theorem kn_pure {x : D} (h : pureD x = true) : KnD x := by cases x <;> first | trivial | (simp [pureD] at h)
theorem kn_mem {xs : List D} (h : pureDs xs = true) {x : D} (hx : x ∈ xs) : KnD x := by
  obtain ⟨j, hj, rfl⟩ := List.getElem_of_mem hx
  exact kn_pure (pureDs_get h (List.getElem?_eq_getElem hj))
theorem ElK.kn {x : D} (h : ElK x) : KnD x := by cases x <;> first | trivial | exact h
def isIntD : D → Bool
  | .int _ => true
  | .bl _ => true
  | _ => false
def isBlD : D → Bool
  | .bl _ => true
  | _ => false
def isTupD : D → Bool
  | .tup _ => true
  | _ => false
def isWholeD : D → Bool
  | .int _ => true
  | _ => false
section
variable {M : Mm} {Q : DQ} {x : D}
theorem isi_int_k (h : KnD x) : isiR [x, .ty "int"] M Q = Q (.bl (isIntD x)) M := by
  cases x with
  | non => exact isi_n_int
  | bl b => exact isi_b_int
  | int i => exact isi_i_int
  | str z => exact isi_s_int
  | tup xs => exact isi_t_int
  | lst xs => exact isi_L_int
  | dic k => exact isi_d_int
  | dit k => exact h.elim
  | _ => exact h.elim
theorem isi_bool_k (h : KnD x) : isiR [x, .ty "bool"] M Q = Q (.bl (isBlD x)) M := by
  cases x with
  | non => exact isi_n_bool
  | bl b => exact isi_b_bool
  | int i => exact isi_i_bool
  | str z => exact isi_s_bool
  | tup xs => exact isi_t_bool
  | lst xs => exact isi_L_bool
  | dic k => exact isi_d_bool
  | dit k => exact h.elim
  | _ => exact h.elim
theorem isi_tup_k (h : KnD x) : isiR [x, .ty "tuple"] M Q = Q (.bl (isTupD x)) M := by
  cases x with
  | non => exact isi_n_tuple
  | bl b => exact isi_b_tuple
  | int i => exact isi_i_tuple
  | str z => exact isi_s_tuple
  | tup xs => exact isi_t_tuple
  | lst xs => exact isi_L_tuple
  | dic k => exact isi_d_tuple
  | dit k => exact h.elim
  | _ => exact h.elim
end

theorem sum_nat : ∀ l : List Nat, (l.map fun (n : Nat) => (n : Int)).sum = ((l.sum : Nat) : Int)
  | [] => rfl
  | x :: l => by rw [List.map_cons, List.sum_cons, sum_nat l, List.sum_cons]; omega
theorem sumLR_nat {l : List Nat} {M : Mm} {Q : DQ} : sumLR (l.map natD) M Q = Q (natD l.sum) M := by
  have := sumLR_map (f := fun n : Nat => (n : Int)) (l := l) (M := M) (Q := Q)
  rw [sum_nat] at this
  exact this
theorem inAny_nat {l : List Nat} {x : Nat} : inAny (l.map natD) (natD x) = decide (x ∈ l) := by
  unfold inAny
  induction l with
  | nil => rfl
  | cons a l ih =>
    rw [List.map_cons, List.any_cons, ih]
    simp only [natD, eqvD]
    rw [Bool.eq_iff_iff]
    simp
    constructor
    · rintro (h | h)
      · exact .inl (by omega)
      · exact .inr h
    · rintro (h | h)
      · exact .inl (by omega)
      · exact .inr h
theorem inR_natL {l : List Nat} {x : Nat} {M : Mm} {Q : DQ} : inR (natD x) (.lst (l.map natD)) M Q = Q (.bl (decide (x ∈ l))) M := by
  refine Eq.trans (b := (memC (l.map natD) (natD x) ∧ Q (.bl (false != inAny (l.map natD) (natD x))) M)) rfl ?_
  rw [inAny_nat]
  have : memC (l.map natD) (natD x) := ⟨rfl, pu_nats, by rw [dep_nats]; trivial⟩
  simp [this]
theorem inR_natT {l : List Nat} {x : Nat} {M : Mm} {Q : DQ} : inR (natD x) (.tup (l.map natD)) M Q = Q (.bl (decide (x ∈ l))) M := by
  refine Eq.trans (b := (memC (l.map natD) (natD x) ∧ Q (.bl (false != inAny (l.map natD) (natD x))) M)) rfl ?_
  rw [inAny_nat]
  have : memC (l.map natD) (natD x) := ⟨rfl, pu_nats, by rw [dep_nats]; trivial⟩
  simp [this]

theorem mono_iff {v : List Nat} : monoV v = true ↔ ∀ a, a < 8 → ∀ b, b < 8 → hasV a b = true → hasV (v.getD a 0) (v.getD b 0) = true := by
  unfold monoV
  simp only [List.all_eq_true, List.mem_range, Bool.or_eq_true, Bool.not_eq_true']
  constructor
  · intro h a ha b hb hh
    rcases h a ha b hb with h | h
    · rw [hh] at h; cases h
    · exact h
  · intro h a ha b hb
    cases hh : hasV a b with
    | false => exact .inl rfl
    | true => exact .inr (h a ha b hb hh)
theorem sums_iff {v : List Nat} : sumsV v = true ↔ ∀ a, a < 8 → ∀ b, b < 8 → v.getD (jn a b) 0 = jn (v.getD a 0) (v.getD b 0) := by
  unfold sumsV
  simp only [List.all_eq_true, List.mem_range, beq_iff_eq]
theorem getD_lt {v : List Nat} (h : ∀ n ∈ v, n < 8) (a : Nat) : v.getD a 0 < 8 := by
  rw [List.getD_eq_getElem?_getD]
  cases e : v[a]? with
  | none => simp
  | some n => exact h n (List.mem_of_getElem? e)
theorem ix_nat {v : List Nat} {a : Nat} {M : Mm} {Q : DQ} (h : a < v.length) (k : Q (natD (v.getD a 0)) M) : ixR (.tup (v.map natD)) (.int (a : Int)) M Q :=
  ix_t (by omega) (by rw [Int.toNat_natCast]; exact map_get h) k

theorem pure_filter {p : D → Bool} : ∀ {xs : List D}, pureDs xs = true → pureDs (xs.filter p) = true
  | [], _ => rfl
  | x :: xs, h => by
    have h' : (pureD x && pureDs xs) = true := h
    rw [Bool.and_eq_true] at h'
    rw [List.filter_cons]
    split
    · show (pureD x && pureDs (xs.filter p)) = true
      rw [h'.1, pure_filter h'.2]; rfl
    · exact pure_filter h'.2
theorem dep_filter {p : D → Bool} {n : Nat} : ∀ {xs : List D}, depDs xs ≤ n → depDs (xs.filter p) ≤ n
  | [], h => h
  | x :: xs, h => by
    have h' : max (depD x) (depDs xs) ≤ n := h
    rw [List.filter_cons]
    split
    · show max (depD x) (depDs (xs.filter p)) ≤ n
      have := dep_filter (p := p) (xs := xs) (n := n) (by omega)
      omega
    · exact dep_filter (by omega)
theorem filter_vals {xs : List D} : (xs.filter fun x => !isValD x).isEmpty = xs.all isValD := by
  induction xs with
  | nil => rfl
  | cons x xs ih =>
    rw [List.filter_cons, List.all_cons]
    cases isValD x with
    | true => simpa using ih
    | false => simp

/-! tables put together -/
theorem has_iff {a b : Nat} : hasV a b = true ↔ a ||| b = a := by unfold hasV jn; exact beq_iff_eq
theorem has_join {z x y : Nat} (hx : hasV z x = true) (hy : hasV z y = true) : hasV z (jn x y) = true := by
  rw [has_iff] at *
  unfold jn
  rw [← Nat.or_assoc, hx, hy]
theorem has_joinL {z x y : Nat} (h : hasV z x = true) : hasV (jn z y) x = true := by
  rw [has_iff] at *
  unfold jn
  rw [Nat.or_assoc, Nat.or_comm y x, ← Nat.or_assoc, h]
theorem has_joinR {z x : Nat} : hasV (jn z x) x = true := by
  rw [has_iff]
  unfold jn
  rw [Nat.or_assoc, Nat.or_self]
theorem has_zero {z : Nat} : hasV z 0 = true := by rw [has_iff]; exact Nat.or_zero z
theorem has_trans {a b c : Nat} (h1 : hasV a b = true) (h2 : hasV b c = true) : hasV a c = true := by
  rw [has_iff] at *
  rw [← h1, Nat.or_assoc, h2]
/-- led so far, by the first n -/
def ledF (s : List Nat) (a n : Nat) : Nat := (List.range n).foldl (fun acc b => if hasV a b then jn acc (s.getD b 0) else acc) 0
theorem ledF_succ {s : List Nat} {a n : Nat} : ledF s a (n + 1) = if hasV a n then jn (ledF s a n) (s.getD n 0) else ledF s a n := by
  unfold ledF
  rw [List.range_succ, List.foldl_append]
  rfl
theorem ledF_lt {s : List Nat} (hs : ∀ n ∈ s, n < 8) (a : Nat) : ∀ n, ledF s a n < 8
  | 0 => by simp [ledF]
  | n + 1 => by
    rw [ledF_succ]
    split
    · exact jn_lt (ledF_lt hs a n) (getD_lt hs n)
    · exact ledF_lt hs a n
theorem ledF_has {s : List Nat} {a : Nat} : ∀ {n c : Nat}, c < n → hasV a c = true → hasV (ledF s a n) (s.getD c 0) = true
  | n + 1, c, h, hc => by
    rw [ledF_succ]
    by_cases e : c = n
    · subst e
      rw [if_pos hc]
      exact has_joinR
    · have ih := ledF_has (s := s) (n := n) (c := c) (by omega) hc
      split
      · exact has_joinL ih
      · exact ih
theorem ledF_le {s : List Nat} {b z : Nat} : ∀ {n : Nat}, (∀ c, c < n → hasV b c = true → hasV z (s.getD c 0) = true) → hasV z (ledF s b n) = true
  | 0, _ => has_zero
  | n + 1, h => by
    have ih := ledF_le (s := s) (b := b) (z := z) (n := n) fun c hc => h c (by omega)
    rw [ledF_succ]
    split
    · rename_i e
      exact has_join ih (h n (by omega) e)
    · exact ih
theorem led_mono (s : List Nat) : monoV ((List.range 8).map fun a => ledF s a 8) = true := by
  refine mono_iff.mpr fun a ha b hb h => ?_
  have e : ∀ c, c < 8 → ((List.range 8).map fun a => ledF s a 8).getD c 0 = ledF s c 8 := fun c hc => by
    rw [List.getD_eq_getElem?_getD, List.getElem?_map, List.getElem?_range hc]; rfl
  rw [e a ha, e b hb]
  exact ledF_le fun c hc hbc => ledF_has hc (has_trans h hbc)
/-- things of bounded depth and length -/
structure Th (n : Nat) (x : D) : Prop where
  p : pureD x = true
  d : depD x ≤ n
  l : ∀ xs, x = .tup xs → xs.length ≤ n
theorem Th.elk {n : Nat} {x : D} (h : Th n x) (hn : n ≤ 60) : ElK x := by
  cases x with
  | tup xs =>
    have h1 := h.d
    have h2 := h.l xs rfl
    exact ⟨by simpa [pureD] using h.p, by simp only [depD] at h1; omega, by omega⟩
  | _ => exact kn_pure h.p
theorem Th.mono {n m : Nat} {x : D} (h : Th n x) (e : n ≤ m) : Th m x := ⟨h.p, Nat.le_trans h.d e, fun xs hx => Nat.le_trans (h.l xs hx) e⟩
section
variable {M : Mm} {Q : DQ} {j : Int} {a : Bool}
theorem eqR_bi : eqR (.bl a) (.int j) M Q = Q (.bl ((if a then 1 else 0) == j)) M := by
  unfold eqR
  rw [okD_b, okD_i]
  simp only [true_and, and_true]
  rfl
end
theorem pure_take {xs : List D} (n : Nat) (h : pureDs xs = true) : pureDs (xs.take n) = true := by
  have e := List.take_append_drop n xs
  rw [← e, pu_app, Bool.and_eq_true] at h
  exact h.1
theorem pure_drop {xs : List D} (n : Nat) (h : pureDs xs = true) : pureDs (xs.drop n) = true := by
  have e := List.take_append_drop n xs
  rw [← e, pu_app, Bool.and_eq_true] at h
  exact h.2
theorem dep_take {xs : List D} (n : Nat) {m : Nat} (h : depDs xs ≤ m + 1) : depDs (xs.take n) ≤ m + 1 := by
  have e := List.take_append_drop n xs
  rw [← e, dep_app] at h
  exact h.1
theorem dep_drop {xs : List D} (n : Nat) {m : Nat} (h : depDs xs ≤ m + 1) : depDs (xs.drop n) ≤ m + 1 := by
  have e := List.take_append_drop n xs
  rw [← e, dep_app] at h
  exact h.2
theorem pure_rev {xs : List D} (h : pureDs xs = true) : pureDs xs.reverse = true := by
  induction xs with
  | nil => rfl
  | cons x xs ih =>
    rw [pu_cons, Bool.and_eq_true] at h
    rw [List.reverse_cons, pu_app, ih h.2, pu_cons, h.1]; rfl
theorem dep_rev {xs : List D} {m : Nat} (h : depDs xs ≤ m + 1) : depDs xs.reverse ≤ m + 1 := by
  induction xs with
  | nil => exact h
  | cons x xs ih =>
    rw [dep_cons] at h
    rw [List.reverse_cons, dep_app, dep_cons, dep_nil]
    exact ⟨ih h.2, h.1, trivial⟩

theorem cutL_mid2 {α : Type} {xs : List α} {n : Nat} : cutL xs (some (n : Int)) (some ((n : Int) + 2)) = (xs.drop n).take 2 := by
  have := cutL_mid xs n (n + 2)
  rw [show n + 2 - n = 2 by omega] at this
  exact this
theorem cutL_from2S {α : Type} {xs : List α} {n : Nat} : cutL xs (some ((n : Int) + 2)) none = xs.drop (n + 2) := cutL_from xs (n + 2)
theorem th_tup {n : Nat} {xs : List D} (h1 : pureDs xs = true) (h2 : depDs xs ≤ n + 1) (h3 : xs.length ≤ n + 2) : Th (n + 2) (.tup xs) := ⟨by rw [pu_tup]; exact h1, by simp only [depD]; omega, fun ys e => by cases e; exact h3⟩

theorem addB_tt {xs ys : List D} {M : Mm} {Q : DQ} : addB (.tup xs) (.tup ys) M Q = (xs.length + ys.length ≤ sizeLine ∧ Q (.tup (xs ++ ys)) M) := (rfl)
theorem addB_LL {xs ys : List D} {M : Mm} {Q : DQ} : addB (.lst xs) (.lst ys) M Q = (xs.length + ys.length ≤ sizeLine ∧ Q (.lst (xs ++ ys)) M) := (rfl)
end DM

/-! sorted of lists of like things -/
namespace DM
open PySem L2
open PyProof.Rows (b2i)
mutual
def toPy : D → PyData
  | .bl b => .bool b
  | .int i => .int i
  | .str x => .str x
  | .tup xs => .tuple (toPys xs)
  | .lst xs => .list (toPys xs)
  | .non => .none
  | .ref _ => .none
  | .ty _ => .none
  | .dic _ => .none
  | .dit _ => .none
def toPys : List D → List PyData
  | [] => []
  | x :: xs => toPy x :: toPys xs
end
theorem toPys_map : ∀ xs : List D, toPys xs = xs.map toPy
  | [] => rfl
  | x :: xs => by rw [toPys, toPys_map xs]; rfl
mutual
theorem depth_py : ∀ d : D, (toPy d).depth ≤ depD d
  | .tup xs => by
    have := depths_py xs
    simp only [toPy, PyData.depth, depD]; omega
  | .lst xs => by
    have := depths_py xs
    simp only [toPy, PyData.depth, depD]; omega
  | .bl _ => by simp [toPy, PyData.depth]
  | .int _ => by simp [toPy, PyData.depth]
  | .str _ => by simp [toPy, PyData.depth]
  | .non => by simp [toPy, PyData.depth]
  | .ref _ => by simp [toPy, PyData.depth]
  | .ty _ => by simp [toPy, PyData.depth]
  | .dic _ => by simp [toPy, PyData.depth]
  | .dit _ => by simp [toPy, PyData.depth]
theorem depths_py : ∀ ds : List D, PyData.depthAll (toPys ds) ≤ depDs ds
  | [] => by simp [toPys, PyData.depthAll]
  | x :: xs => by
    have h1 := depth_py x
    have h2 := depths_py xs
    simp only [toPys, PyData.depthAll, depDs]; omega
end
section
variable {X : Cx} {pins : List (Addr × Obj)} {σ : L2.St} {H : HF} {s : Shared}
mutual
theorem reads_D (I : Inv X pins σ H.h s) : ∀ (d : D) (v : V) (u : Value), VR X.K H d v → RelV v u → pureD d = true → ∃ as, Reads s.heap u (toPy d) as
  | .non, _, _, r, ru, _ => by cases r; cases ru; exact ⟨_, .none⟩
  | .bl b, _, _, r, ru, _ => by cases r; cases ru; exact ⟨_, .bool b⟩
  | .int i, _, _, r, ru, _ => by cases r; obtain ⟨t, rfl⟩ := ru; exact ⟨_, .int i t⟩
  | .str x, _, _, r, ru, _ => by cases r; obtain ⟨t, rfl⟩ := ru; exact ⟨_, .str x t⟩
  | .tup xs, _, _, r, ru, p => by
    obtain ⟨a, vs, rfl, h, q⟩ := r.tup_v
    cases ru
    obtain ⟨its, rv, o, h1, h2, n, h3⟩ := tup_at I h
    obtain ⟨as, hr⟩ := readss_D I xs vs its q rv (by simpa [pureD] using p)
    exact ⟨as, .tuple h1 h2 h3 (by simpa using hr)⟩
  | .lst xs, _, _, r, ru, p => by
    obtain ⟨a, vs, rfl, h, _, q⟩ := r.lst_v
    cases ru
    obtain ⟨z, its, n, rv, hl, e⟩ := I.lstM h
    obtain ⟨as, hr⟩ := readss_D I xs vs its q rv (by simpa [pureD] using p)
    exact ⟨_, .list e rfl rfl (by simpa using hr)⟩
  | .ref _, _, _, _, _, p => by simp [pureD] at p
  | .ty _, _, _, _, _, p => by simp [pureD] at p
  | .dic _, _, _, _, _, p => by simp [pureD] at p
  | .dit _, _, _, _, _, p => by simp [pureD] at p
theorem readss_D (I : Inv X pins σ H.h s) : ∀ (ds : List D) (vs : List V) (us : List Value), VRs X.K H ds vs → Vals vs us → pureDs ds = true → ∃ as, ReadsAll s.heap us (toPys ds) as
  | [], _, _, r, ru, _ => by cases r; cases ru; exact ⟨_, .nil⟩
  | d :: ds, _, _, r, ru, p => by
    cases r with
    | cons r1 r2 =>
      cases ru with
      | cons u1 u2 =>
        have p' := Bool.and_eq_true_iff.mp (show (pureD d && pureDs ds) = true by simpa [pureDs] using p)
        obtain ⟨as, h1⟩ := reads_D I d _ _ r1 u1 p'.1
        obtain ⟨bs, h2⟩ := readss_D I ds _ _ r2 u2 p'.2
        exact ⟨_, .cons h1 h2⟩
end
end
section
variable {prog : Program} {w : World} {A : Around} {E : Value → Shared → Prop} {s : Shared} {β : Type} {vs : List Value} {bs : List β} {enc : β → PyData} {R : Value → β → Prop}
open PySem PySem.Calls PyProof.Rows PySem.W in
/-- a tuple's items, gathered into a list -/
theorem collect_tup {l : Addr} {vs : List Value} {Q : List Value → Shared → Prop} (hl : s.heap.IsTuple l vs.toArray)
    (h : Q vs { s with heap := (s.heap.push (seqObj "list" #[] 0)).update s.heap.objs.size (Obj.mapSeq (· ++ vs.toArray)) }) (hsz : vs.length ≤ sizeLine) :
    wpAny (model prog w) A (collect (.ref l)) Q E s := by
  obtain ⟨o, ho, hc, n, hd⟩ := id hl
  unfold collect
  refine wpAny_bind (wpAny_runValue (codeAny_builtin entry_proto_collect' ?_))
  show wpAny _ _ (do again (.builtin "list.__iadd__" ⟨[← newList [], .ref l], []⟩)) _ _ s
  refine wpAny_bind (wpAny_newList (wpAny_pure ⟨Code.quiet_builtin _ (by decide +kernel), codeAny_builtin entry_list_iadd' ?_⟩))
  show wpAny _ _ (Builtin.List.listExtendWith (.ref s.heap.objs.size) (.ref l) (.ref s.heap.objs.size)) _ _ { s with heap := s.heap.push (seqObj "list" #[] 0) }
  unfold Builtin.List.listExtendWith
  have ho' : (s.heap.push (seqObj "list" #[] 0)).get? l = some o := Heap.get?_push_of_some _ ho
  refine wpAny_bind (wpAny_typeOf (T := "tuple") ⟨o, ho', hc⟩ ?_)
  have ht : (Value.type "tuple" == Value.type "tuple") = true := by rfl
  rw [if_pos (by rw [ht]; simp)]
  refine wpAny_bind (listItems_at ho' hd ?_)
  refine wpAny_bind (listItems_at (xs := #[]) (n := 0) (Heap.get?_push_size _ rfl) rfl ?_)
  rw [if_neg (by simp)]
  refine wpAny_bind (listUpdate_at (xs := #[]) (n := 0) (Heap.get?_push_size _ rfl) rfl ?_ (Nat.zero_le _) (by show (#[] ++ vs.toArray).size ≤ sizeLine + 1; simp only [Array.size_append, List.size_toArray, List.length_nil]; omega))
  refine wpAny_pure ?_
  show wpAny (model prog w) A (do
      let o ← load s.heap.objs.size
      match o.data with
      | .seq xs _ => pure xs.toList
      | _ => unsupported "internal:collect") Q E { s with heap := (s.heap.push (seqObj "list" #[] 0)).update s.heap.objs.size (Obj.mapSeq (· ++ vs.toArray)) }
  refine wpAny_bind (wpAny_load (get?_update_seq (Heap.get?_push_size _ rfl) _) ?_)
  show wpAny _ _ (pure ((#[] : Array Value) ++ vs.toArray).toList) Q E _
  rw [show ((#[] : Array Value) ++ vs.toArray).toList = vs by simp]
  exact wpAny_pure h
open PySem PySem.Calls PyProof.Rows PySem.W in
theorem sorted_tup_data {l : Addr} {Q : Value → Shared → Prop} (hl : s.heap.IsTuple l vs.toArray) (e : EachIs R vs bs) (er : EachIs (fun v b => ∃ as, Reads s.heap v (enc b) as) vs bs) (hal : AllAlike (bs.map enc)) (hk : Sortable (bs.map enc)) (hL : bs.length ≤ sizeLine)
    (hu : ∀ b, b ∈ bs → A.units + 2 + (enc b).depth < cLine) (h : ∀ out, out.length = bs.length → EachIs R out (bs.mergeSort (dataLe false enc)) → Q (.ref (s.heap.objs.size + 1)) { s with heap := sortedAll s.heap vs (List.toArray out) }) :
    wpAny (model prog w) A (call (.builtin "sorted") [.ref l]) Q E s := by
  have er' : EachIs (fun v b => ∃ as, Reads (sortingHeap (copyHeap s.heap vs) (s.heap.objs.size + 1) vs) v (enc b) as) vs bs := er.mono fun _ _ ⟨as, r⟩ => ⟨as, PyProof.Rows.Reads.keeps (fun _ _ => sorting_copy_old) r⟩
  have hL' : vs.length ≤ sizeLine := by rw [e.length]; exact hL
  have S := SortsAt.data (prog := prog) (w := w) (A := A.in1.in1) (s := { s with heap := sortingHeap (copyHeap s.heap vs) (s.heap.objs.size + 1) vs }) (each_map (R := fun v d => ∃ as, Reads (sortingHeap (copyHeap s.heap vs) (s.heap.objs.size + 1) vs) v d as) enc er') hal hk (bound_map hu)
  refine call_function_entry kind_sorted plain_sorted entry_sorted (args_sorted1 _) ?_
  unfold Builtin.«sorted»
  refine wpAny_bind (m := checkCount "sorted" 1 1 _) (wpAny_pure ?_)
  refine wpAny_bind (collect_tup hl ?_ hL')
  refine wpAny_bind (wpAny_newList ?_ hL')
  have hsz : ((s.heap.push (seqObj "list" #[] 0)).update s.heap.objs.size (Obj.mapSeq (· ++ vs.toArray))).objs.size = s.heap.objs.size + 1 := by
    rw [Heap.size_update, size_push']
  show wpAny _ _ _ _ _ { s with heap := copyHeap s.heap vs }
  rw [hsz]
  refine wpAny_bind (wpAny_holding (wpAny_call_entry slot_list_sort ⟨_, copyHeap_at s.heap vs, rfl⟩ entry_list_sort ?body (args_list_sort _)))
  case body =>
    show wpAny (model prog w) A.in1.in1 (Builtin.«list.sort» ⟨[.ref (s.heap.objs.size + 1)], []⟩) _ _ _
    refine list_sort_vals (s := { s with heap := copyHeap s.heap vs }) (copyHeap_at s.heap vs) S hL' ⟨_, rfl, wpAny_pure ⟨_, rfl, ?_⟩⟩
    exact h _ (by rw [sortVals_length false rfl]; exact e.length) (sortVals_data false e er' hal)
end
/-- the order -/
def leD : D → D → Bool := PySem.W.dataLe false toPy
def sortD (xs : List D) : List D := xs.mergeSort leD
/-- what may be sorted -/
def SortOk (xs : List D) : Prop := pureDs xs = true ∧ depDs xs ≤ 100 ∧ PySem.W.AllAlike (xs.map toPy) ∧ PySem.W.Sortable (xs.map toPy)
def rSortD (K : PySem.W.Frag) : List V → Hp → VK → Prop := fun vs H0 Q0 => ∃ (H : HF) (a : Addr) (us : List V) (xs : List D), H0 = H.h ∧ vs = [.ref a] ∧ (SqL K H.h a us ∨ (SqT K H.h a us ∧ xs.length ≤ sizeLine)) ∧ VRs K H xs us ∧ SortOk xs ∧
  ∀ (ys : List V) (p : Addr), H.h p = none → VRs K H (sortD xs) ys → Q0 (.ref p) (upd H.h p (.lst ys))

section
variable {X : Cx} {pins : List (Addr × Obj)} {σ : L2.St} {H : HF} {s : Shared}
/-- a value that stands for d -/
def StF (K : PySem.W.Frag) (H : HF) (u : Value) (d : D) : Prop := ∃ v : V, RelV v u ∧ VR K H d v
theorem each_of {K : PySem.W.Frag} : ∀ {ds : List D} {vs : List V} {us : List Value}, VRs K H ds vs → Vals vs us → PySem.W.EachIs (StF K H) us ds
  | _, _, _, .nil, .nil => .nil
  | _, _, _, .cons r1 r2, .cons u1 u2 => .cons ⟨_, u1, r1⟩ (each_of r2 u2)
theorem each_out {K : PySem.W.Frag} : ∀ {ds : List D} {us : List Value}, PySem.W.EachIs (StF K H) us ds → ∃ vs : List V, VRs K H ds vs ∧ Vals vs us
  | _, _, .nil => ⟨[], .nil, .nil⟩
  | _, _, .cons ⟨v, h1, h2⟩ t => by
    obtain ⟨vs, h3, h4⟩ := each_out t
    exact ⟨v :: vs, .cons h2 h3, .cons h1 h4⟩
theorem each_reads (I : Inv X pins σ H.h s) : ∀ {ds : List D} {vs : List V} {us : List Value}, VRs X.K H ds vs → Vals vs us → pureDs ds = true → PySem.W.EachIs (fun v b => ∃ as, Reads s.heap v (toPy b) as) us ds
  | _, _, _, .nil, .nil, _ => .nil
  | _, _, _, .cons r1 r2, .cons u1 u2, p => by
    have p' := Bool.and_eq_true_iff.mp (show (pureD _ && pureDs _) = true by simpa [pureDs] using p)
    exact .cons (reads_D I _ _ _ r1 u1 p'.1) (each_reads I r2 u2 p'.2)
theorem call_sortD (hu : X.A.units + 150 < cLine) : CallR X (.builtin "sorted") (rSortD X.K) := by
  intro pins s σ H0 vs us Q I r h
  obtain ⟨H, a, ws, xs, rfl, rfl, hs, rx, ⟨hp, hd, hal, hso⟩, q⟩ := h
  rw [Vals.ref1 r]
  have dep : ∀ b ∈ xs, X.A.units + 2 + (toPy b).depth < cLine := fun b hb => by
    have h1 := depth_py b
    obtain ⟨j, hj, rfl⟩ := List.getElem_of_mem hb
    have h2 := depDs_get (List.getElem?_eq_getElem hj)
    omega
  rcases hs with hs | ⟨hs, hlx⟩
  · obtain ⟨its, rv, hl, hz⟩ := I.list hs
    have hlx : xs.length ≤ sizeLine := by rw [rx.length]; exact hz
    refine PySem.W.sorted_data (enc := toPy) hl.isList (each_of rx rv) (each_reads I rx rv hp) hal hso hlx dep fun out ho eo => ?_
    obtain ⟨ys, ry, vy⟩ := each_out eo
    obtain ⟨ep, he'⟩ := PyProof.Rows.sortedAll_at s.heap its out.toArray
    have hlen : ys.length ≤ sizeLine := by rw [vy.length, ho]; exact hlx
    have hfree := I.hok.fresh (Nat.le_succ s.heap.objs.size)
    exact ⟨.ref _, upd H.h (s.heap.objs.size + 1) (.lst ys), I.laid (t' := s.toks) (fun _ _ => PyProof.Rows.sortedAll_old) (Nat.le_succ _) ⟨hlen, out, ep, vy, he'⟩, rfl, q ys _ hfree ry⟩
  · obtain ⟨its, rv, hl⟩ := tup_at I hs
    refine sorted_tup_data (enc := toPy) hl (each_of rx rv) (each_reads I rx rv hp) hal hso hlx dep fun out ho eo => ?_
    obtain ⟨ys, ry, vy⟩ := each_out eo
    obtain ⟨ep, he'⟩ := PyProof.Rows.sortedAll_at s.heap its out.toArray
    have hlen : ys.length ≤ sizeLine := by rw [vy.length, ho]; exact hlx
    have hfree := I.hok.fresh (Nat.le_succ s.heap.objs.size)
    exact ⟨.ref _, upd H.h (s.heap.objs.size + 1) (.lst ys), I.laid (t' := s.toks) (fun _ _ => PyProof.Rows.sortedAll_old) (Nat.le_succ _) ⟨hlen, out, ep, vy, he'⟩, rfl, q ys _ hfree ry⟩
end
/-- sorted of a list -/
def dSorted (t : TDA) : TDL := fun ds M Q => t ds M fun xs M1 => match xs with
  | [x] => (match x with | .tup ys => (SortOk ys ∧ ys.length ≤ sizeLine) ∧ Q (sortD ys) M1 | x => (match rdL M1 x with | some ys => SortOk ys ∧ Q (sortD ys) M1 | none => False))
  | _ => False
section
variable {X : Cx} {e : Expr} {es : List Expr} {t : TDA} {p pos : Pos} {k : Nat}
theorem jl_sorted (hr : Room k X.A) (hm : X.mg "sorted" = none) (ha : JA X (e :: es) t) (hg : Gl X "sorted" := by rfl) (he : starEach (e :: es) X.env = (false, eval e X.env) :: starEach es X.env := by rfl) (hpl : (backTo pos (starEach es X.env)).any (·.1) = false := by rfl) :
    JL X (.Call (.Name "sorted" p) (e :: es) [] pos) (dSorted t) := by
  obtain ⟨u, q, g⟩ := ha
  refine ⟨_, pe_callB (call_sortD (hu150 hr)) hg hm PyProof.Rows.boot_sorted q (by decide) (by decide) he hpl, fun ds σ H M Q Q0 s m q k => ?_⟩
  refine g ds σ H M _ _ s m q fun vs H1 es M1 r1 m1 g1 q1 => ?_
  split at q1
  · split at q1
    · rename_i ys
      obtain ⟨v, rfl, r5⟩ := r1.one
      obtain ⟨a, us, rfl, h1, ra⟩ := r5.tup_v
      refine ⟨H1, a, us, ys, rfl, rfl, .inr ⟨h1, q1.1.2⟩, ra, q1.1.1, fun zs l hl rz => ?_⟩
      exact k l (H1.up l _) _ zs M1 (g1.free hl) upd_same (VRs.mono (TX.new m1 hl) _ _ rz) (m1.free hl) (m1.freeF hl) (m1.newT hl) (g1.trans (GG.newT hl)) q1.2
    · split at q1
      · rename_i ys e
        obtain ⟨v, rfl, r5⟩ := r1.one
        obtain ⟨a, us, rfl, h1, ra⟩ := rdL_v m1 r5 e
        refine ⟨H1, a, us, ys, rfl, rfl, .inl (SqL.of h1), ra, q1.1, fun zs l hl rz => ?_⟩
        exact k l (H1.up l _) _ zs M1 (g1.free hl) upd_same (VRs.mono (TX.new m1 hl) _ _ rz) (m1.free hl) (m1.freeF hl) (m1.newT hl) (g1.trans (GG.newT hl)) q1.2
      · exact q1.elim
  · exact q1.elim
end

section
variable {ds : DSt} {M : Mm} {xs : List D} {a : Addr}
def sortedI (xs : List D) (M1 : Mm) (Q : List D → Mm → Prop) : Prop := match xs with
  | [x] => (match x with | .tup ys => (SortOk ys ∧ ys.length ≤ sizeLine) ∧ Q (sortD ys) M1 | x => (match rdL M1 x with | some ys => SortOk ys ∧ Q (sortD ys) M1 | none => False))
  | _ => False
theorem dSorted_e {t : TDA} {Q : List D → Mm → Prop} : dSorted t ds M Q = t ds M fun xs M1 => sortedI xs M1 Q := (rfl)
theorem sortedI_L {Q : List D → Mm → Prop} : sortedI [.lst xs] M Q = (SortOk xs ∧ Q (sortD xs) M) := (rfl)
theorem sortedI_t {Q : List D → Mm → Prop} : sortedI [.tup xs] M Q = ((SortOk xs ∧ xs.length ≤ sizeLine) ∧ Q (sortD xs) M) := (rfl)
theorem sortedI_r {Q : List D → Mm → Prop} : sortedI [.ref a] M Q = someI (lstOf M a) fun ys => SortOk ys ∧ Q (sortD ys) M := by
  unfold sortedI someI
  simp only [rdL_ref]
  cases lstOf M a <;> rfl
end
theorem sortD_map {α : Type} (f : α → D) (l : List α) : sortD (l.map f) = (l.mergeSort fun a b => leD (f a) (f b)).map f := by
  unfold sortD
  exact (List.map_mergeSort (f := f) (fun _ _ _ _ => rfl)).symm
theorem sortD_perm (xs : List D) : (sortD xs).Perm xs := List.mergeSort_perm _ _
theorem sortD_len (xs : List D) : (sortD xs).length = xs.length := (sortD_perm xs).length_eq
theorem sortD_mem {xs : List D} {x : D} : x ∈ sortD xs ↔ x ∈ xs := (sortD_perm xs).mem_iff
end DM

/-! promises that know that no repr is under way (A.guards = some []) -/
namespace DM
open PySem L2
open PyProof.Rows
structure RoomG (k : Nat) (A : Around) : Prop where
  r : Room k A
  g : A.guards = some []
theorem RoomG.mono {j k : Nat} {A : Around} (h : RoomG k A) (l : j ≤ k) : RoomG j A := ⟨h.r.mono l, h.g⟩
theorem RoomG.deeper {k : Nat} {A : Around} (h : RoomG (k + 1) A) (env : Env) : RoomG k (A.deeper env) := ⟨h.r.deeper env, h.g⟩
/-- as FnOk, where no repr is under way -/
structure FnG (P : Program) (w : World) (K : PySem.W.Frag) (mg : Str → Option Value) (base : Heap) (CX : CXT) (k : Nat) (f : Addr) (fd : FuncData) (ps : List Str) (sp : Sp) : Prop where
  len : ∀ vs H Q E, sp vs H Q E → vs.length = ps.length
  run : ∀ (A : Around) (outer : List Env) (s : Shared) (H : Hp) (args : Args) (us : List Value) (vs : List V) (Q : VK) (E : XK), RoomG k A → Env0 P w K mg base A outer s H → BindsTo s fd args (ps.zip us) → Vals vs us → sp vs H Q E →
    codeAny (model P w) A (.call (.ref f) args) (CR CX outer P w H s Q E) s
section
variable {P : Program} {w : World} {K : PySem.W.Frag} {mg : Str → Option Value} {base : Heap} {CX : CXT} {f : Addr} {fd : FuncData} {ps : List Str} {sp : Sp}
theorem FnG.of {k : Nat} (F : FnOk P w K mg base CX k f fd ps sp) : FnG P w K mg base CX k f fd ps sp := ⟨F.len, fun A outer s H args us vs Q E hr => F.run A outer s H args us vs Q E hr.r⟩
theorem FnG.mono {j k : Nat} (F : FnG P w K mg base CX j f fd ps sp) (h : j ≤ k) : FnG P w K mg base CX k f fd ps sp := ⟨F.len, fun A outer s H args us vs Q E hr => F.run A outer s H args us vs Q E (hr.mono h)⟩
theorem FnG.imp {k : Nat} {sp' : Sp} (F : FnG P w K mg base CX k f fd ps sp) (h : ∀ vs H Q E, sp' vs H Q E → sp vs H Q E) : FnG P w K mg base CX k f fd ps sp' :=
  ⟨fun vs H Q E q => F.len vs H Q E (h _ _ _ _ q), fun A outer s H args us vs Q E hr he hb hv hs => F.run A outer s H args us vs Q E hr he hb hv (h _ _ _ _ hs)⟩
/-- a def by its body's reading -/
theorem fun_g {x qual : Str} {st : Stmt} {N : List Str} {k : Nat} (F : Fun K x qual st f fd) (S : FnScope N ps (defScope st)) (len : ∀ vs H Q E, sp vs H Q E → vs.length = ps.length)
    (hbody : ∀ (cdv : Value) (A : Around) (outer : List Env) (s : Shared) (H : Hp) (vs : List V) (Q : VK) (E : XK), RoomG k (A.deeper (envOfC qual (defScope st) s.heap.objs.size f cdv)) → sp vs H Q E →
      ∃ t, PSs (cxOf CX P w K mg base N qual (defScope st) f cdv A outer s H E) (defBody st) t ∧ t { nx := fun _ H' => Q .non H', rt := Q } (start N vs) H) : FnG P w K mg base CX (k + 1) f fd ps sp := by
  obtain ⟨oc, od, kV, doc, pm, an, cdv, ct, osl, rfl, lk, hcd⟩ := F.ex
  refine ⟨len, fun A outer s H args us vs Q E hr e0 hb r hsp => ?_⟩
  have hl := len _ _ _ _ hsp
  have hK : K.In s.heap := e0.mod.kin.keeps fun b o e => (e0.bs b o e).1
  have hL : s.heap.NoLimit := e0.mod.nolimit.keeps fun b o e => (e0.bs b o e).1
  refine codeAny_call_function hr.r.depth (hK _ _ lk) rfl S.co S.gen rfl (PySem.W.codeRec_of hK hcd) (hb _ _ _ _ (wpAny_newFunctionEnv_cells S.kind (fun y hy => ?_) fun env he s1 x => ?_))
  · cases y with
    | mk n v =>
      cases S.par n (List.of_mem_zip hy).1 with
      | inl q => exact .inl q
      | inr q => exact .inr ⟨q, PySem.W.cellsFrom_some _ _ _ (.inl q)⟩
  · subst he
    obtain ⟨t, ht, hq⟩ := hbody cdv A outer s H vs Q E (hr.deeper _) hsp
    have I0 := inv_start (CX := CX) (P := P) (w := w) (K := K) (mg := mg) (base := base) (cd := cdv) (E := E) S hr.r.hd e0 hl r x
    refine ⟨hL.keeps x.toInCall.keep, codeAny_func (wpAny_mono (ht.run [] s1 (start N vs) H _ I0 hq) (fun fl s' z => ?_) fun _ _ z => z)⟩
    cases fl with
    | ret u => obtain ⟨v, σ', H', J, rv, q⟩ := z; exact ⟨v, H', J.os, J.bare, J.base, J.hok, rv, q⟩
    | next => obtain ⟨σ', H', J, q⟩ := z; exact ⟨V.non, H', J.os, J.bare, J.base, J.hok, rfl, q⟩
    | brk => obtain ⟨_, _, _, q⟩ := z; exact q.elim
    | cont => obtain ⟨_, _, _, q⟩ := z; exact q.elim
theorem fun_g0 {x qual : Str} {st : Stmt} {N : List Str} {k : Nat} (F : Fun K x qual st f fd) (S : FnScope N ps (defScope st)) (len : ∀ vs H Q E, sp vs H Q E → vs.length = ps.length)
    (hbody : ∀ (cdv : Value) (A : Around) (outer : List Env) (s : Shared) (H : Hp) (vs : List V) (Q : VK) (E : XK), RoomG k (A.deeper (envOfC qual (defScope st) s.heap.objs.size f cdv)) → sp vs H Q E →
      ∃ t, PSs (cxOf CX0 P w K mg base N qual (defScope st) f cdv A outer s H E).nox (defBody st) t ∧ t { nx := fun _ H' => Q .non H', rt := Q } (start N vs) H) : FnG P w K mg base CX0 (k + 1) f fd ps sp :=
  fun_g F S len fun cdv A outer s H vs Q E hr hsp => let ⟨t, h, q⟩ := hbody cdv A outer s H vs Q E hr hsp; ⟨t, h.nox, q⟩
/-- THE RULE for a def, its promise by data -/
theorem fn_okG {sp : DSp} {x qual : Str} {st : Stmt} {N : List Str} {k : Nat} (F : Fun K x qual st f fd) (S : FnScope N ps (defScope st)) (len : ∀ ds M R, sp ds M R → ds.length = ps.length)
    (body : ∀ (cdv : Value) (A : Around) (outer : List Env) (s : Shared) (H : Hp) (E : XK), RoomG k (A.deeper (envOfC qual (defScope st) s.heap.objs.size f cdv)) →
      ∃ t, JB (cxOf CX0 P w K mg base N qual (defScope st) f cdv A outer s H E).nox (fun _ _ _ _ => False) (defBody st) t ∧ ∀ (ds : List D) (M : Mm) (R : DQ), sp ds M R → t { nx := fun _ M' => Shr R .non M', rt := Shr R } (dstart N ds) M) : FnG P w K mg base CX0 (k + 1) f fd ps (toSp K sp) := by
  refine fun_g0 F S (fun vs H Q E h => ?_) fun cdv A outer s H vs Q E hr h => ?_
  · obtain ⟨ds, M, R, H, _, r, _, h, _⟩ := h
    rw [← r.length]
    exact len ds M R h
  · obtain ⟨ds, M, R, H, rfl, r, m, h, k⟩ := h
    obtain ⟨t, ⟨t0, p, g⟩, hb⟩ := body cdv A outer s H.h E hr
    refine ⟨t0, p, ?_⟩
    refine g M H _ _ ⟨?_, ?_, ?_, ?_, ?_⟩ (dstart N ds) (L2.start N vs) H M GG.refl (SR.start r) m (hb ds M R h)
    · rintro σ ds' H' M' gg s' m' ⟨M2, d2, sb, fz, q⟩
      exact k _ (frzF M' M2 H') d2 M2 (fz.vr m' .non) (m'.frz sb) (gg.frz sb) q
    · rintro v d H' M' gg r' m' ⟨M2, d2, sb, fz, q⟩
      exact k v (frzF M' M2 H') d2 M2 (fz.vr m' r') (m'.frz sb) (gg.frz sb) q
    · intro _ _ _ _ _ _ _ q
      exact q.elim
    · intro _ _ _ _ _ _ _ q
      exact q.elim
    · intro _ _ _ _ _ _ _ _ _ _ _ _ q
      exact q.elim
end
section
variable {X : Cx} {CX : CXT} {k : Nat} {f : Addr} {fd : FuncData} {ps : List Str} {sp : Sp} {x : Str} {p pos : Pos} {e : Expr} {es : List Expr} {E : XK}
theorem run_g {pins : List (Addr × Obj)} {σ : L2.St} {H : Hp} {s : Shared} {Q : VK} {us : List Value} {vs : List V} (F : FnG X.prog X.w X.K X.mg X.base CX k f fd ps sp) (hr : RoomG k X.A) (hb : Binds X.K fd ps []) (hx : Passes CX X E)
    (I : Inv X pins σ H s) (r : Vals vs us) (h : sp vs H Q E) : wpAny (model X.prog X.w) X.A (call (.ref f) us) (EP X pins σ Q) X.xe s := by
  have hl : (us ++ ([] : List Value)).length = ps.length := by rw [List.append_nil, ← r.length]; exact F.len _ _ _ _ h
  have b := hb s us I.kIn hl
  rw [List.append_nil] at b
  refine wpAny_call (codeAny_mono (F.run X.A X.stack s H ⟨us, []⟩ us vs Q E hr I.env0 b r h) fun r s' hq => ?_)
  match r, hq with
  | .error e, hq => exact hx pins σ H s e s' I hq
  | .ok (.ret u), hq => exact I.after hq
theorem pe_callG {t : TA} (F : FnG X.prog X.w X.K X.mg X.base CX k f fd ps sp) (hr : RoomG k X.A) (hg : Gl X x) (hm : X.mg x = some (.ref f)) (hk : PySem.W.keepIn X.K (.ref f) = true) (hb : Binds X.K fd ps []) (hx : Passes CX X E)
    (ha : PA X (e :: es) t) (hdb : (x == ("__debug__" : Str)) = false := by decide) (he : starEach (e :: es) X.env = (false, eval e X.env) :: starEach es X.env := by rfl) (hpl : (backTo pos (starEach es X.env)).any (·.1) = false := by rfl) :
    PE X (.Call (.Name x p) (e :: es) [] pos) (tCall sp [] E t) := by
  refine ⟨fun pins s σ H Q I h => wpAny_Call_Name_kw (ld_glob I hg hm ?_ hdb)⟩
  refine PySem.W.callWith_K (h₀ := X.base) I.ok.mod.kin hk (thn (ha.run pos pins s σ H _ I h) fun us s1 ⟨vs, H1, I1, r, q⟩ => ⟨I1.kIn, ?_⟩) he hpl
  have q' : sp (vs ++ []) H1 Q E := q
  rw [List.append_nil] at q'
  exact run_g F hr hb hx I1 r q'
theorem pe_callG0 (F : FnG X.prog X.w X.K X.mg X.base CX k f fd ps sp) (hr : RoomG k X.A) (hg : Gl X x) (hm : X.mg x = some (.ref f)) (hk : PySem.W.keepIn X.K (.ref f) = true) (hb : Binds X.K fd ps []) (hx : Passes CX X E)
    (hdb : (x == ("__debug__" : Str)) = false := by decide) : PE X (.Call (.Name x p) [] [] pos) (tCall sp [] E tNil) :=
  ⟨fun pins s σ H Q I h => wpAny_Call_Name_kw (ld_glob I hg hm (PySem.W.callWith_K0 I.kIn hk (run_g (us := []) F hr hb hx I .nil h)) hdb)⟩
end
section
variable {X : Cx} {k : Nat} {f : Addr} {fd : FuncData} {ps : List Str} {sp : DSp} {x : Str} {p pos : Pos} {e : Expr} {es : List Expr} {t : TDA}
theorem je_callG (F : FnG X.prog X.w X.K X.mg X.base CX0 k f fd ps (toSp X.K sp)) (hr : RoomG k X.A) (hg : Gl X x) (hm : X.mg x = some (.ref f)) (hk : PySem.W.keepIn X.K (.ref f) = true) (hb : Binds X.K fd ps [])
    (ha : JA X (e :: es) t) (hdb : (x == ("__debug__" : Str)) = false := by decide) (he : starEach (e :: es) X.env = (false, eval e X.env) :: starEach es X.env := by rfl) (hpl : (backTo pos (starEach es X.env)).any (·.1) = false := by rfl) :
    JE X (.Call (.Name x p) (e :: es) [] pos) (dCall sp t) := by
  obtain ⟨u, q, g⟩ := ha
  refine je_pe (pe_callG F hr hg hm hk hb pass0 q hdb he hpl) fun ds σ H M Q Q0 s m q k => ?_
  refine g ds σ H M _ _ s m q fun vs H1 es M1 r1 m1 g1 q1 => ?_
  rw [List.append_nil]
  exact ⟨es, M1, Q, H1, rfl, r1, m1, q1, fun v H' d M' r' m' g' q' => k v H' d M' r' m' (g1.trans g') q'⟩
theorem je_callG0 (F : FnG X.prog X.w X.K X.mg X.base CX0 k f fd ps (toSp X.K sp)) (hr : RoomG k X.A) (hg : Gl X x) (hm : X.mg x = some (.ref f)) (hk : PySem.W.keepIn X.K (.ref f) = true) (hb : Binds X.K fd ps [])
    (hdb : (x == ("__debug__" : Str)) = false := by decide) :
    JE X (.Call (.Name x p) [] [] pos) (dCall sp dNil) := by
  refine je_pe (pe_callG0 F hr hg hm hk hb pass0 hdb) fun ds σ H M Q Q0 s m q k => ?_
  exact ⟨[], M, Q, H, rfl, .nil, m, q, fun v H' d M' r' m' g' q' => k v H' d M' r' m' g' q'⟩
end
end DM

/-! the law's own def and the head, no repr under way -/
namespace DM
open PySem L2
open PyProof.Rows (b2i)
section
variable {P : Program} {w : World} {K : PySem.W.Frag} {mg : Str → Option Value} {base : Heap}
theorem law_okG {st st0 : Stmt} {rest : List Stmt} {f : Addr} {fd : FuncData} {N : List Str} {k : Nat} (F : Fun K "law" "law" st f fd) (S : FnScope N ["_law_script"] (defScope st)) (hN : 2 ≤ N.length) (hbd : defBody st = st0 :: rest)
    (body : ∀ (cdv : Value) (A : Around) (outer : List Env) (s : Shared) (H : Hp) (E : XK), RoomG k (A.deeper (PyProof.Rows.envOfC "law" (defScope st) s.heap.objs.size f cdv)) →
      ∃ t, PS (cxOf CX0 P w K mg base N "law" (defScope st) f cdv A outer s H E).nox st0 (tAsg (tCall (spDeckH K) [] E0 (tCons (tVar 0) tNil)) (gName 1)) ∧
        JB (cxOf CX0 P w K mg base N "law" (defScope st) f cdv A outer s H E).nox (fun _ _ _ _ => False) rest t ∧
        ∀ (M : Mm) (d c : Addr), Deck M d c (2 ^ 59) → t { nx := fun _ _ => False, rt := fun v _ => v = .bl true } (none :: some (.ref d) :: List.replicate (N.length - 2) none) M) :
    FnG P w K mg base CX0 (k + 1) f fd ["_law_script"] (spLawH K) := by
  refine fun_g0 F S (fun vs H Q E h => ?_) fun cdv A outer s H vs Q E hr h => ?_
  · obtain ⟨a, ns, rfl, _⟩ := h
    rfl
  · obtain ⟨a, ns, rfl, hS, hlen, kk⟩ := h
    obtain ⟨t, h1, ⟨t0, p, g⟩, hb⟩ := body cdv A outer s H E hr
    rw [hbd]
    refine ⟨_, pss_cons h1 p, ?_⟩
    obtain ⟨x1, x2, N', rfl⟩ : ∃ x1 x2 N', N = x1 :: x2 :: N' := by
      match N, hN with
      | x1 :: x2 :: N', _ => exact ⟨x1, x2, N', rfl⟩
    refine ⟨.ref a, rfl, a, ns, rfl, hS, hlen, fun d c H' Sd hc hd hdc ok e1 e2 hk => ?_⟩
    let M : Mm := mup (mup (fun _ => none) d (.dic (deckD c Sd))) c (.lst (Sd.cs.map D.int))
    have hM : MR K M ⟨H', fun _ => False⟩ := by
      refine ⟨fun b o e => ?_, fun _ f => f.elim, fun _ f => f.elim⟩
      by_cases hbc : b = c
      · subst hbc
        have : o = .lst (Sd.cs.map D.int) := by
          have e' : M b = some (.lst (Sd.cs.map D.int)) := mup_same
          rw [e'] at e
          exact (Option.some.inj e).symm
        subst this
        exact ⟨_, e1, vrs_ints _⟩
      · by_cases hbd : b = d
        · subst hbd
          have : o = .dic (deckD c Sd) := by
            have e' : M b = some (.dic (deckD c Sd)) := by show mup _ c _ b = _; rw [mup_ne hbc, mup_same]
            rw [e'] at e
            exact (Option.some.inj e).symm
          subst this
          exact ⟨_, e2, .cons (.ref c) (.cons (.int _) (.cons (.int _) .nil))⟩
        · have e' : M b = none := by show mup _ c _ b = _; rw [mup_ne hbc, mup_ne hbd]
          rw [e'] at e
          cases e
    have hD : Deck M d c (2 ^ 59) := ⟨hdc, Sd, ok, by show mup _ c _ d = _; rw [mup_ne hdc, mup_same], mup_same⟩
    refine g M ⟨H', fun _ => False⟩ _ _ ⟨?_, ?_, ?_, ?_, ?_⟩ _ _ ⟨H', fun _ => False⟩ M GG.refl ?_ hM (hb M d c hD)
    · intro _ _ _ _ _ _ _ q
      exact q.elim
    · rintro v d' H2 M2 _ r2 _ rfl
      cases r2
      exact kk H2.h
    · intro _ _ _ _ _ _ _ q
      exact q.elim
    · intro _ _ _ _ _ _ _ q
      exact q.elim
    · intro _ _ _ _ _ _ _ _ _ _ _ _ q
      exact q.elim
    · refine ⟨by simp [L2.start], fun i e h => ?_⟩
      match i with
      | 0 => simp at h
      | 1 =>
        simp at h
        subst h
        exact ⟨.ref d, by simp [L2.start, List.replicate_succ], .ref d⟩
      | i + 2 =>
        simp only [List.getElem?_cons_succ] at h
        rw [List.getElem?_replicate] at h
        split at h <;> cases h
end
open PySem.Spec PyProof.Rows
theorem callerG {k : Nat} (h : Room k callerA) : RoomG k callerA := ⟨h, rfl⟩
/-- the law's call, from its promise: nothing but the script's list may be known -/
theorem law_callG {P : Program} {w : World} {K : PySem.W.Frag} {mg mb : Str → Option Value} {k : Nat} {fa a : Addr} {fd : FuncData} {x : Str} {s₁ : Shared} {vs : List Value} {ns : List Int}
    (KX : K.In s₁.heap) (hns : s₁.heap.Ns mainGlobals mg) (hb : s₁.heap.Ns builtinsNs mb) (hbb : ∀ x : Str, x ≠ "__name__" → mb x = bootBuiltins x) (hlim : s₁.heap.NoLimit) (hg : s₁.gens = #[])
    (ha : s₁.heap.get? a = some { cls := .type "list", data := .seq vs.toArray }) (hi : IntsAre vs ns) (hl : ns.length ≤ 63) (hr : Room k callerA)
    (F : ∀ base : Heap, K.In base → base.Ns mainGlobals mg → FnG P w K mg base CX0 k fa fd [x] (spLawH K)) (hbind : ∀ (s : Shared) (u : Value), BindsTo s fd ⟨[u], []⟩ [(x, u)]) :
    codeAny (model P w) callerA (.call (.ref fa) ⟨[.ref a], []⟩) (fun r s' => r = .ok (.ret (.bool true)) ∧ OldK s₁.heap s'.heap ∧ s'.os = s₁.os ∧ AllBare s'.gens) s₁ := by
  have rv : Vals (ns.map V.int) vs := vals_ints hi
  have fit : ns.length ≤ sizeLine := Nat.le_trans hl (by decide)
  -- what is known of the heap before the call: the list, unless it is an object of the module
  obtain ⟨H, hO, hS, hok, only⟩ : ∃ H : Hp, (∀ b, H b = none ∨ H b = some (.frz { cls := .type "list", data := .seq vs.toArray } (.lst (ns.map V.int)))) ∧ SqL K H a (ns.map V.int) ∧ HOk P w H s₁.heap ∧ ∀ b, H b ≠ none → b = a ∧ K.lookup a = none := by
    cases hk : K.lookup a with
    | some o =>
      have e := KX a o hk
      rw [ha] at e
      cases e
      exact ⟨fun _ => none, fun _ => .inl rfl, .inr ⟨_, vs.toArray, _, hk, rfl, rfl, rfl, by rw [List.size_toArray, hi.length]; exact fit, by simpa using rv⟩, fun b u z => by { have z' : (none : Option HO) = some u := z; cases z' }, fun b z => absurd rfl z⟩
    | none =>
      refine ⟨upd (fun _ => none) a (.frz { cls := .type "list", data := .seq vs.toArray } (.lst (ns.map V.int))), fun b => ?_, .inl (.inr ⟨_, upd_same⟩), fun b u z => ?_, fun b z => ?_⟩
      · by_cases e : b = a
        · subst e; exact .inr upd_same
        · exact .inl (upd_ne e)
      · by_cases e : b = a
        · subst e
          rw [upd_same] at z
          cases z
          exact ⟨ha, by rw [List.length_map]; exact fit, vs, _, rv, ha⟩
        · rw [upd_ne e] at z; cases z
      · by_cases e : b = a
        · exact ⟨e, rfl⟩
        · rw [upd_ne e] at z; exact absurd rfl z
  have free : ∀ {b : Addr} {o : Obj}, s₁.heap.get? b = some o → (b = a → (∃ xs c, o.data = .seq xs c) → False) → H b = none := fun {b o} e n => by
    cases q : H b with
    | none => rfl
    | some u =>
      obtain ⟨rfl, _⟩ := only b (by rw [q]; simp)
      rw [ha] at e; cases e
      exact (n rfl ⟨_, _, rfl⟩).elim
  have hid : ∀ {d : Addr} {m : Str → Option Value}, s₁.heap.Ns d m → (hidT s₁.heap H).Ns d m := fun {d m} ⟨o, es, ep, e, dd, r⟩ =>
    ⟨o, es, ep, hidT_get e (free e fun _ ⟨xs, c, z⟩ => by rw [dd] at z; cases z), dd, r⟩
  have kin : K.In (hidT s₁.heap H) := fun b o e => hidT_get (KX b o e) (by
    cases q : H b with
    | none => rfl
    | some u =>
      obtain ⟨rfl, n⟩ := only b (by rw [q]; simp)
      rw [n] at e; cases e)
  have e0 : Env0 P w K mg (hidT s₁.heap H) callerA [] s₁ H := ⟨rfl, ⟨kin, hid hns, ⟨mb, hid hb, hbb⟩, let ⟨mc, h1, h2⟩ := hlim; ⟨mc, hid h1, h2⟩⟩, fun _ _ e => of_hidT e, Nat.le_of_eq (hidT_size _ _), trivial, fun _ z => (by cases z), hok, .of_eq hg⟩
  refine codeAny_mono ((F _ kin (hid hns)).run callerA [] s₁ H ⟨[.ref a], []⟩ [.ref a] [.ref a] (fun v _ => v = .bl true) (fun _ _ _ => False) (callerG hr) e0 (hbind s₁ (.ref a)) (.cons rfl .nil) ⟨a, ns, rfl, hS, hl, fun _ => rfl⟩) fun r s' h => ?_
  match r, h with
  | .ok (.ret u), ⟨v, H', os, bare, un, hok', r', q⟩ =>
    obtain rfl : v = .bl true := q
    obtain rfl : u = Value.bool true := r'
    refine ⟨rfl, OldK.of_keep fun b o e => ?_, os, bare⟩
    cases hO b with
    | inl z => exact un.keep b o e z (by intro z; cases z) (by simp)
    | inr z =>
      obtain ⟨e1, _⟩ := hok b _ z
      obtain ⟨e2, _⟩ := hok' b _ (un.frzs b _ _ z)
      rw [e] at e1; cases e1
      exact e2
/-- the end of a law whose def's promise wants the guards -/
theorem walk_ofG {l : PySem.W.OpenLaw} {k : Nat} {q : Program} {loose : List Str} {XP : (Str → Option Value) → Heap → Prop} {YP : World → Heap → Prop} {d : DefRec} {K : Params → PySem.W.Frag} {x : Str}
    (hn : l.most = some 63) (hdf : d.params.defaults = []) (hr : Room k callerA) (hY : ∀ (w : World) (h : Heap), YP w h → (K w.params).In h)
    (F : ∀ (w : World) (mg : Str → Option Value) (fa : Addr) (h : Heap), (K w.params).In h → h.Ns mainGlobals mg → mg d.name = some (.ref fa) →
      ∃ fd : FuncData, (∀ (s : Shared) (u : Value), BindsTo s fd ⟨[u], []⟩ [(x, u)]) ∧ ∀ base : Heap, (K w.params).In base → base.Ns mainGlobals mg → FnG l.prog w (K w.params) mg base CX0 k fa fd [x] (spLawH (K w.params))) :
    PySem.W.WalkO q loose XP YP l.row.toRowW d [] (fun f vs => PySem.call f vs) :=
  Att.attach_call hn hdf fun w s₀ s₁ mg mb fa o pm cd doc a vs ns G Y ho hd hcd hmg hobj hints hlen hg => by
    obtain ⟨fd, hb, hF⟩ := F w mg fa _ (hY w _ Y) G.T.g hmg
    exact law_callG (hY w _ Y) G.T.g G.T.b G.T.builtins G.T.nolimit hg hobj hints hlen hr hF hb
end DM

/-! repr of frozen data -/
namespace DM
open PySem L2
open PyProof.Rows (b2i)
mutual
theorem noDict_py : ∀ d : D, (toPy d).hasDict = false
  | .tup xs => by simp only [toPy, PyData.hasDict]; exact noDict_pys xs
  | .lst xs => by simp only [toPy, PyData.hasDict]; exact noDict_pys xs
  | .bl _ => by simp only [toPy, PyData.hasDict]
  | .int _ => by simp only [toPy, PyData.hasDict]
  | .str _ => by simp only [toPy, PyData.hasDict]
  | .non => by simp only [toPy, PyData.hasDict]
  | .ref _ => by simp only [toPy, PyData.hasDict]
  | .ty _ => by simp only [toPy, PyData.hasDict]
  | .dic _ => by simp only [toPy, PyData.hasDict]
  | .dit _ => by simp only [toPy, PyData.hasDict]
theorem noDict_pys : ∀ ds : List D, PyData.hasDictAll (toPys ds) = false
  | [] => by simp only [toPys, PyData.hasDictAll]
  | x :: xs => by simp only [toPys, PyData.hasDictAll, noDict_py x, noDict_pys xs, Bool.or_self]
end
/-- the text of repr -/
def shw (d : D) : Str := (toPy d).shown
/-- what may be shown -/
def ShowOk (d : D) : Prop := pureD d = true ∧ depD d ≤ 100 ∧ (toPy d).showable = true ∧ (shw d).length ≤ sizeLine
def rRepr (K : PySem.W.Frag) : List V → Hp → VK → Prop := fun vs H0 Q0 => ∃ (H : HF) (v : V) (d : D), H0 = H.h ∧ vs = [v] ∧ VR K H d v ∧ ShowOk d ∧ Q0 (.str (shw d)) H.h
section
variable {X : Cx} {pins : List (Addr × Obj)} {σ : L2.St} {H : HF} {s : Shared}
theorem call_repr (hg : X.A.guards = some []) (hu : X.A.units + 150 < cLine) : CallR X (.builtin "repr") (rRepr X.K) := by
  intro pins s σ H0 vs us Q I r h
  obtain ⟨H, v, d, rfl, rfl, rd, ⟨hp, hd, hs, hz⟩, q⟩ := h
  obtain ⟨u, rfl, ru⟩ := vals1 r
  obtain ⟨as, hr⟩ := reads_D I d v u rd ru hp
  have hdep := depth_py d
  have goal : ∀ h' t tk, (∀ b o, s.heap.get? b = some o → h'.get? b = some o) → EP X pins σ Q (.str (shw d) t) { s with heap := h', toks := tk } := fun h' t tk hk => ⟨.str (shw d), H.h, I.kept hk, ⟨_, rfl⟩, q⟩
  have byRef : ∀ a, u = .ref a → wpAny (model X.prog X.w) X.A (call (.builtin "repr") [u]) (EP X pins σ Q) X.xe s := by
    rintro a rfl
    exact repr_of_reads' hr hs (PyData.noDict_hsm (noDict_py d)) hg (by omega) (fun _ _ e => e) (fun h' u tk hk => goal h' u tk hk) hz
  cases d with
  | non => cases rd; cases ru; exact PySem.P.repr_of_none (goal s.heap _ _ fun _ _ e => e)
  | bl b =>
    cases rd; cases ru
    have g1 := goal s.heap s.toks (s.toks + 1) fun _ _ e => e
    refine PySem.P.repr_of_bool ?_
    cases b <;> exact g1
  | int i =>
    cases rd; obtain ⟨t, rfl⟩ := ru
    refine PySem.P.repr_of_int (by simpa [toPy, PyData.showable] using hs) ?_
    exact goal s.heap _ _ fun _ _ e => e
  | str x =>
    cases rd; obtain ⟨t, rfl⟩ := ru
    exact PySem.P.repr_of_str (goal s.heap _ _ fun _ _ e => e) hz
  | tup xs => obtain ⟨a, _, rfl, _⟩ := rd.tup_v; cases ru; exact byRef _ rfl
  | lst xs => obtain ⟨a, _, rfl, _⟩ := rd.lst_v; cases ru; exact byRef _ rfl
  | ref _ => simp [pureD] at hp
  | ty _ => simp [pureD] at hp
  | dic _ => simp [pureD] at hp
  | dit _ => simp [pureD] at hp
end
/-- repr(e) -/
def dRepr (t : TDA) : TDE := fun ds M Q => t ds M fun xs M1 => match xs with
  | [x] => ShowOk x ∧ Q (.str (shw x)) M1
  | _ => False
section
variable {X : Cx} {e : Expr} {es : List Expr} {t : TDA} {p pos : Pos} {k : Nat}
theorem je_repr (hr : RoomG k X.A) (hm : X.mg "repr" = none) (ha : JA X (e :: es) t) (hg : Gl X "repr" := by rfl) (he : starEach (e :: es) X.env = (false, eval e X.env) :: starEach es X.env := by rfl) (hpl : (backTo pos (starEach es X.env)).any (·.1) = false := by rfl) :
    JE X (.Call (.Name "repr" p) (e :: es) [] pos) (dRepr t) := by
  obtain ⟨u, q, g⟩ := ha
  refine je_pe (pe_callB (call_repr hr.g (hu150 hr.r)) hg hm PyProof.Rows.boot_repr q (by decide) (by decide) he hpl) fun ds σ H M Q Q0 s m q k => ?_
  refine g ds σ H M _ _ s m q fun vs H1 es M1 r1 m1 g1 q1 => ?_
  split at q1
  · obtain ⟨v, rfl, r5⟩ := r1.one
    exact ⟨H1, v, _, rfl, rfl, r5, q1.1, k _ H1 _ M1 (.str _) m1 g1 q1.2⟩
  · exact q1.elim
end
end DM

/-! list(range(..)) -/
namespace DM
open PySem L2
open PyProof.Rows (b2i)
def rgD (a b : Int) : List D := (List.range (b - a).toNat).map fun i => .int (a + (i : Nat))
theorem vrs_rg {K : PySem.W.Frag} {H : HF} (a b : Int) : VRs K H (rgD a b) (rgV a b) := by
  unfold rgD rgV
  induction List.range (b - a).toNat with
  | nil => exact .nil
  | cons x xs ih => exact .cons (.int _) ih
def dLstRg1 (t : TDE) : TDL := fun ds M Q => t ds M fun x M1 => match x with
  | .int n => RgOk 0 n ∧ Q (rgD 0 n) M1
  | _ => False
section
variable {X : Cx} {a b : Expr} {ta tb : TDE} {p p' pos pos' : Pos}
theorem jl_listRg1 (hc : X.calm = true) (hm : X.mg "list" = none) (hmr : X.mg "range" = none) (ha : JE X a ta) (hg : Gl X "list" := by rfl) (hgr : Gl X "range" := by rfl)
    (n1 : starEach [.Call (.Name "range" p) [a] [] pos] X.env = (false, eval (.Call (.Name "range" p) [a] [] pos) X.env) :: starEach [] X.env := by rfl) (n2 : starEach [a] X.env = (false, eval a X.env) :: starEach [] X.env := by rfl) :
    JL X (.Call (.Name "list" p') [.Call (.Name "range" p) [a] [] pos] [] pos') (dLstRg1 ta) := by
  obtain ⟨u, q, g⟩ := ha
  refine ⟨_, pe_listRg hc hg hm (prg_1 hgr hmr q n2) n1, fun ds σ H M Q Q0 s m q k => ?_⟩
  refine g ds σ H M _ _ s m q fun v H1 d M1 r1 m1 g1 q1 => ?_
  split at q1
  · cases r1
    refine ⟨_, rfl, q1.1, fun l hl => ?_⟩
    exact k l (H1.up l _) _ _ M1 (g1.free hl) upd_same (vrs_rg 0 _) (m1.free hl) (m1.freeF hl) (m1.newT hl) (g1.trans (GG.newT hl)) q1.2
  · exact q1.elim
end
section
variable {ds : DSt} {M : Mm}
def lstRgI (x : D) (M1 : Mm) (Q : List D → Mm → Prop) : Prop := match x with
  | .int n => RgOk 0 n ∧ Q (rgD 0 n) M1
  | _ => False
theorem dLstRg1_e {t : TDE} {Q : List D → Mm → Prop} : dLstRg1 t ds M Q = t ds M fun x M1 => lstRgI x M1 Q := (rfl)
theorem lstRgI_i {n : Int} {Q : List D → Mm → Prop} : lstRgI (.int n) M Q = (RgOk 0 n ∧ Q (rgD 0 n) M) := (rfl)
/-- repr -/
def reprI (xs : List D) (M1 : Mm) (Q : D → Mm → Prop) : Prop := match xs with
  | [x] => ShowOk x ∧ Q (.str (shw x)) M1
  | _ => False
theorem dRepr_e {t : TDA} {Q : DQ} : dRepr t ds M Q = t ds M fun xs M1 => reprI xs M1 Q := (rfl)
theorem reprI_1 {x : D} {Q : DQ} : reprI [x] M Q = (ShowOk x ∧ Q (.str (shw x)) M) := (rfl)
end
end DM

/-! numbers below a bound; papers of lines -/
namespace DM
open PySem L2
open PyProof.Rows (b2i)
def isNumD (n : Int) : D → Bool
  | .int i => decide (0 ≤ i) && decide (i < n)
  | _ => false
def numsD (many n : Int) : D → Bool
  | .tup xs => decide ((xs.length : Int) = many) && xs.all (isNumD n)
  | _ => false
/-- a paper's edges -/
def edgeOf (ls : List D) (n : Nat) : Str × Str × Str := match ls[n]? with
  | some (.tup (.tup [.str a, .str b, .str c] :: _)) => (a, b, c)
  | _ => ("", "", "")
/-- a line of a paper, its edge three texts -/
def EdgeAt (ls : List D) (n : Nat) : Prop := ∃ a b c r, ls[n]? = some (.tup [.tup [.str a, .str b, .str c], r])
theorem EdgeAt.eq {ls : List D} {n : Nat} (h : EdgeAt ls n) : ∃ r, ls[n]? = some (.tup [.tup [.str (edgeOf ls n).1, .str (edgeOf ls n).2.1, .str (edgeOf ls n).2.2], r]) := by
  obtain ⟨a, b, c, r, e⟩ := h
  exact ⟨r, by rw [e]; simp only [edgeOf, e]⟩
/-- where the lines lead, or none -/
def readD (E : Nat → Str × Str × Str) : List Nat → Str → List Str → Option Str
  | n :: ns, s, m :: ms => if (E n).1 = s ∧ (E n).2.1 = m then readD E ns (E n).2.2 ms else none
  | _, s, _ => some s
theorem drop_get {α : Type} {l : List α} {i : Nat} {x : α} (h : l[i]? = some x) : l.drop i = x :: l.drop (i + 1) := by
  obtain ⟨hi, rfl⟩ := List.getElem?_eq_some_iff.mp h
  exact List.drop_eq_getElem_cons hi
theorem readD_step {E : Nat → Str × Str × Str} {ns : List Nat} {ms : List Str} {i n : Nat} {s m : Str} (hn : ns[i]? = some n) (hm : ms[i]? = some m) :
    readD E (ns.drop i) s (ms.drop i) = if (E n).1 = s ∧ (E n).2.1 = m then readD E (ns.drop (i + 1)) (E n).2.2 (ms.drop (i + 1)) else none := by
  rw [drop_get hn, drop_get hm]; rfl
theorem readD_end {E : Nat → Str × Str × Str} {ns : List Nat} {ms : List Str} {s : Str} {k : Nat} (h : k = min ns.length ms.length) : readD E (ns.drop k) s (ms.drop k) = some s := by
  by_cases hl : ns.length ≤ ms.length
  · rw [List.drop_eq_nil_of_le (as := ns) (by omega)]; rfl
  · rw [List.drop_eq_nil_of_le (as := ms) (by omega)]; cases List.drop k ns <;> rfl
def osD : Option Str → D
  | some s => .str s
  | none => .non
def isStrD : D → Bool
  | .str _ => true
  | _ => false
theorem isi_str_k {M : Mm} {Q : DQ} {x : D} (h : KnD x) : isiR [x, .ty "str"] M Q = Q (.bl (isStrD x)) M := by
  cases x with
  | non => exact isi_n_str
  | bl b => exact isi_b_str
  | int i => exact isi_i_str
  | str z => exact isi_s_str
  | tup xs => exact isi_t_str
  | lst xs => exact isi_L_str
  | dic k => exact isi_d_str
  | dit k => exact h.elim
  | _ => exact h.elim
/-- whether anything is a reason -/
def isWhyD : D → Bool
  | .tup (r :: _) => isStrD r
  | _ => false
/-- whether anything is a line of a paper -/
def isLineD : D → Bool
  | .tup [.tup es, b] => decide (es.length = 3) && es.all isStrD && isWhyD b
  | _ => false
theorem isStr_of {x : D} (h : isStrD x = true) : ∃ a, x = .str a := by
  cases x with
  | str a => exact ⟨a, rfl⟩
  | _ => cases h
theorem isLine_of {x : D} (h : isLineD x = true) : ∃ a b c r rs, x = .tup [.tup [.str a, .str b, .str c], .tup (.str r :: rs)] := by
  unfold isLineD at h
  split at h
  · rename_i es b
    simp only [Bool.and_eq_true, decide_eq_true_eq] at h
    obtain ⟨⟨h3, hs⟩, hw⟩ := h
    match es, h3 with
    | [e0, e1, e2], _ =>
      simp only [List.all_cons, List.all_nil, Bool.and_true, Bool.and_eq_true] at hs
      obtain ⟨a, rfl⟩ := isStr_of hs.1
      obtain ⟨a1, rfl⟩ := isStr_of hs.2.1
      obtain ⟨a2, rfl⟩ := isStr_of hs.2.2
      unfold isWhyD at hw
      split at hw
      · obtain ⟨r, rfl⟩ := isStr_of hw
        exact ⟨_, _, _, _, _, rfl⟩
      · cases hw
  · cases h
abbrev Ed := Str × Str × Str
def edD (e : Ed) : D := .tup [.str e.1, .str e.2.1, .str e.2.2]
theorem eqv_ed {e f : Ed} : eqvD (edD e) (edD f) = decide (e = f) := by
  obtain ⟨a, b, c⟩ := e
  obtain ⟨a', b', c'⟩ := f
  have h := eqvDs_strs (a := [a, b, c]) (b := [a', b', c'])
  simp only [List.map_cons, List.map_nil] at h
  simp only [edD, eqvD, h]
  simp
theorem pu_eds : ∀ {T : List Ed}, pureDs (T.map edD) = true
  | [] => rfl
  | e :: T => by
    have := pu_eds (T := T)
    simp [pureDs, pureD, edD, this]
theorem dep_eds : ∀ {T : List Ed}, depDs (T.map edD) ≤ 2
  | [] => by simp [depDs]
  | e :: T => by
    have := dep_eds (T := T)
    simp [depDs, depD, edD, this]
theorem inAny_ed {T : List Ed} {e : Ed} : inAny (T.map edD) (edD e) = decide (e ∈ T) := by
  unfold inAny
  induction T with
  | nil => rfl
  | cons f T ih =>
    rw [List.map_cons, List.any_cons, ih]
    simp only [eqv_ed]
    rw [Bool.eq_iff_iff]
    simp only [Bool.or_eq_true, decide_eq_true_eq, List.mem_cons]
    exact ⟨fun h => h.elim (fun h => .inl (by first | exact h | exact h.symm)) .inr, fun h => h.elim (fun h => .inl (by first | exact h | exact h.symm)) .inr⟩
theorem inR_ed {T : List Ed} {e : Ed} {M : Mm} {Q : DQ} : inR (edD e) (.tup (T.map edD)) M Q = Q (.bl (decide (e ∈ T))) M := by
  refine Eq.trans (b := (memC (T.map edD) (edD e) ∧ Q (.bl (false != inAny (T.map edD) (edD e))) M)) rfl ?_
  rw [inAny_ed]
  have : memC (T.map edD) (edD e) := ⟨by simp [pureD, pureDs, edD], pu_eds, by have := dep_eds (T := T); omega⟩
  simp [this]
/-- the numbers of a tuple -/
def numsOf : D → List Nat
  | .tup xs => xs.map fun x => match x with | .int i => i.toNat | _ => 0
  | _ => []
/-- whether the line at n of a paper is right: told, or by a rule and earlier lines -/
def rightD (P : List Rl) (T : List Ed) (ls : List D) (n : Nat) : D → Bool
  | .tup [.tup [.str a, .str b, .str c], .tup [.str r]] => decide (r = "told") && decide ((a, b, c) ∈ T)
  | .tup [.tup [.str a, .str b, .str c], .tup [.str r, .int i, ns]] => decide (r = "rule") && isNumD P.length (.int i) &&
      (match P[i.toNat]? with
      | some q => numsD q.w.length n ns && decide (a = q.p ∧ b = q.m ∧ readD (edgeOf ls) (numsOf ns) q.o q.w = some c)
      | none => false)
  | _ => false
/-- frozen data of small depth, of any length -/
def ElP : D → Prop
  | .tup xs => pureDs xs = true ∧ depDs xs ≤ 60
  | x => KnD x
theorem ElP.kn {x : D} (h : ElP x) : KnD x := by cases x <;> first | trivial | exact h
theorem ElP.of {x : D} (h : pureD x = true) (d : depD x ≤ 60) : ElP x := by
  cases x with
  | tup xs => exact ⟨by simpa [pureD] using h, by simp only [depD] at d; omega⟩
  | _ => exact kn_pure h
theorem filter_notp {α : Type} {p : α → Bool} {xs : List α} : (xs.filter fun x => !p x).isEmpty = xs.all p := by
  induction xs with
  | nil => rfl
  | cons x xs ih =>
    rw [List.filter_cons, List.all_cons]
    cases h : p x <;> simp [ih]
end DM

/-! papers that a stand leads to a target -/
namespace DM
open PySem L2
open PyProof.Rows (b2i)
section
variable {P : List Rl} {T : List Ed} {ls : List D} {n : Nat} {x : D}
theorem right_line (h : rightD P T ls n x = true) : isLineD x = true := by
  unfold rightD at h
  split at h
  · simp [isLineD, isStrD, isWhyD]
  · simp [isLineD, isStrD, isWhyD]
  · cases h
theorem line_right_and : (isLineD x && rightD P T ls n x) = rightD P T ls n x := by
  cases h : rightD P T ls n x with
  | true => rw [right_line h]; rfl
  | false => simp
theorem right_edge (h : rightD P T ls n x = true) (hx : ls[n]? = some x) : EdgeAt ls n := by
  obtain ⟨a, b, c, r, rs, rfl⟩ := isLine_of (right_line h)
  exact ⟨a, b, c, _, hx⟩
end
/-- whether all lines of a paper are right -/
def allRightD (P : List Rl) (T : List Ed) (ls : List D) : Bool := (List.range ls.length).all fun i => rightD P T ls i (ls.getD i .non)
def endsIn (E : List Str) : Option Str → Bool
  | some z => decide (z ∈ E)
  | none => false
/-- whether lines and a way are a paper that a stand leads to the target -/
def paperD (P : List Rl) (T : List Ed) (E : List Str) (s : Str) (w : List Str) (way : D) : D → Bool
  | .tup ls => allRightD P T ls && (numsD w.length ls.length way && endsIn E (readD (edgeOf ls) (numsOf way) s w))
  | _ => false
/-- whose edge, if it is a tuple within a pair, is three texts -/
def LnK (x : D) : Prop := ∀ es b, x = .tup [.tup es, b] → ∃ a b c, es = [.str a, .str b, .str c]
/-- lines and a way that may be asked of -/
structure PapOk (P : List Rl) (T : List Ed) (w : List Str) (lns way : D) : Prop where
  pl : P.length ≤ 5000
  pw : ∀ r ∈ P, r.w.length ≤ 5000
  tl : T.length ≤ 5000
  wl : w.length ≤ 5000
  lp : pureD lns = true
  ll : ∀ ls, lns = .tup ls → ls.length ≤ 5000
  lk : ∀ ls, lns = .tup ls → ∀ x ∈ ls, ElP x
  ln : ∀ ls, lns = .tup ls → ∀ x ∈ ls, LnK x
  wk : ElP way
theorem allRight_edge {P : List Rl} {T : List Ed} {ls : List D} (h : ∀ j, j < n → ∀ x, ls[j]? = some x → rightD P T ls j x = true) (hn : n ≤ ls.length) : ∀ j < n, EdgeAt ls j := fun j hj =>
  right_edge (h j hj _ (List.getElem?_eq_getElem (by omega))) (List.getElem?_eq_getElem (by omega))
theorem allRight_iff {P : List Rl} {T : List Ed} {ls : List D} : allRightD P T ls = true ↔ ∀ j, j < ls.length → ∀ x, ls[j]? = some x → rightD P T ls j x = true := by
  unfold allRightD
  rw [List.all_eq_true]
  refine ⟨fun h j hj x hx => ?_, fun h j hj => ?_⟩
  · have := h j (List.mem_range.mpr hj)
    rwa [List.getD_eq_getElem?_getD, hx] at this
  · have hj := List.mem_range.mp hj
    rw [List.getD_eq_getElem?_getD, List.getElem?_eq_getElem hj]
    exact h j hj _ (List.getElem?_eq_getElem hj)
theorem nums_of {m n : Int} {x : D} (h : numsD m n x = true) : x = .tup ((numsOf x).map natD) ∧ ((numsOf x).length : Int) = m ∧ ∀ k ∈ numsOf x, (k : Int) < n := by
  cases x with
  | tup xs =>
    simp only [numsD, Bool.and_eq_true, decide_eq_true_eq, List.all_eq_true] at h
    obtain ⟨hl, ha⟩ := h
    have key : ∀ x ∈ xs, ∃ k : Nat, x = natD k ∧ (k : Int) < n := by
      intro x hx
      have := ha x hx
      cases x with
      | int i =>
        simp only [isNumD, Bool.and_eq_true, decide_eq_true_eq] at this
        exact ⟨i.toNat, by unfold natD; congr 1; omega, by omega⟩
      | _ => cases this
    refine ⟨?_, by simp only [numsOf, List.length_map]; exact hl, ?_⟩
    · congr 1
      simp only [numsOf, List.map_map]
      refine (List.map_id _).symm.trans (List.map_congr_left fun x hx => ?_)
      obtain ⟨k, rfl, _⟩ := key x hx
      simp [natD]
    · intro k hk
      simp only [numsOf, List.mem_map] at hk
      obtain ⟨x, hx, e⟩ := hk
      obtain ⟨j, rfl, hj⟩ := key x hx
      simp only [natD, Int.toNat_natCast] at e
      omega
  | _ => cases h
theorem resD_pure {M : Mm} {x : D} (h : pureD x = true) : resD M x = x := by cases x <;> first | rfl | (simp [pureD] at h)
theorem eqR_pure {M : Mm} {Q : DQ} {x y : D} (hx : pureD x = true ∧ depD x ≤ 100) (hy : pureD y = true ∧ depD y ≤ 100) : eqR x y M Q = Q (.bl (eqvD x y)) M := by
  simp only [eqR, okD, eqM, resD_pure hx.1, resD_pure hy.1, hx, hy, and_true, true_and]
theorem neR_pure {M : Mm} {Q : DQ} {x y : D} (hx : pureD x = true ∧ depD x ≤ 100) (hy : pureD y = true ∧ depD y ≤ 100) : neR x y M Q = Q (.bl (!eqvD x y)) M := by
  simp only [neR, okD, eqM, resD_pure hx.1, resD_pure hy.1, hx, hy, and_true, true_and]
theorem os_ok (o : Option Str) : pureD (osD o) = true ∧ depD (osD o) ≤ 99 := by cases o <;> simp [osD, pureD, depD]
theorem eqv_edge {a b c p m : Str} {o : Option Str} : eqvDs [.str a, .str b, .str c] [.str p, .str m, osD o] = decide (a = p ∧ b = m ∧ o = some c) := by
  cases o with
  | none => simp [eqvDs, eqvD, osD]
  | some z =>
    have h := eqvDs_strs (a := [a, b, c]) (b := [p, m, z])
    simp only [List.map_cons, List.map_nil] at h
    rw [osD, h]
    simp [eq_comm]
theorem inR_os {E : List Str} {o : Option Str} {M : Mm} {Q : DQ} : inR (osD o) (.tup (E.map .str)) M Q = Q (.bl (endsIn E o)) M := by
  have e : inAny (E.map .str) (osD o) = endsIn E o := by
    unfold inAny
    cases o with
    | none =>
      simp only [endsIn, osD]
      induction E with
      | nil => rfl
      | cons a E ih => rw [List.map_cons, List.any_cons, ih]; rfl
    | some z =>
      simp only [endsIn, osD]
      induction E with
      | nil => rfl
      | cons a E ih =>
        rw [List.map_cons, List.any_cons, ih]
        rw [Bool.eq_iff_iff]
        simp only [Bool.or_eq_true, decide_eq_true_eq, List.mem_cons, eqvD, beq_iff_eq]
        exact ⟨fun h => h.elim (fun h => .inl (by first | exact h | exact h.symm)) .inr, fun h => h.elim (fun h => .inl (by first | exact h | exact h.symm)) .inr⟩
  refine Eq.trans (b := (memC (E.map .str) (osD o) ∧ Q (.bl (false != inAny (E.map .str) (osD o))) M)) (by cases o <;> rfl) ?_
  rw [e]
  have : memC (E.map .str) (osD o) := ⟨by cases o <;> simp [pureD, osD], pureDs_str _, Nat.le_trans (depDs_str _) (by decide)⟩
  simp [this]
end DM

/-! list.index on lists of numbers; ends of defs that freeze more than one object -/
namespace DM
open PySem L2
open PyProof.Rows (b2i)
theorem vrs_ints_of {K : PySem.W.Frag} {H : HF} : ∀ {ns : List Int} {us : List V}, VRs K H (ns.map D.int) us → us = ns.map V.int
  | [], _, r => by cases r; rfl
  | n :: ns, _, r => by
    cases r with
    | cons r1 r2 =>
      cases r1
      rw [vrs_ints_of r2]; rfl
def lindexR : DRM := fun x xs M Q => match x, xs with
  | .ref a, [.int i] => ∃ ns : List Int, lstOf M a = some (ns.map D.int) ∧ i ∈ ns ∧ Q (.int (ns.idxOf i : Nat)) M
  | _, _ => False
theorem idxOf_get {i : Int} : ∀ {ns : List Int}, i ∈ ns → ns[ns.idxOf i]? = some i
  | [], h => by cases h
  | n :: ns, h => by
    rw [List.idxOf_cons]
    by_cases e : n = i
    · subst e; rw [beq_self_eq_true]; rfl
    · have : i ∈ ns := (List.mem_cons.mp h).resolve_left (fun z => e z.symm)
      rw [show (n == i) = false by simpa using e]; exact idxOf_get this
theorem idxOf_min {i : Int} : ∀ {ns : List Int} {m : Nat}, m < ns.idxOf i → ns[m]? ≠ some i
  | [], m, h => by simp
  | n :: ns, m, h => by
    rw [List.idxOf_cons] at h
    by_cases e : n = i
    · subst e; rw [beq_self_eq_true] at h; exact absurd h (Nat.not_lt_zero _)
    · have e' : (n == i) = false := by simpa using e
      rw [e'] at h
      cases m with
      | zero => simpa using e
      | succ m =>
        rw [List.getElem?_cons_succ]
        exact idxOf_min (ns := ns) (m := m) (by simpa using h)
theorem lift_lindex {K : PySem.W.Frag} : LiftM K (rIndex K) lindexR := by
  intro x vs dx ds H M Q Q0 rx rs m h k
  unfold lindexR at h
  split at h
  · rename_i a i
    cases rx.ref_v
    obtain ⟨v, rfl, r1⟩ := rs.one
    cases r1.int_v
    obtain ⟨ns, e, hi, h⟩ := h
    obtain ⟨us, h1, r2⟩ := m.ob a _ (of_lstOf e)
    cases vrs_ints_of r2
    refine ⟨a, ns.map V.int, .int i, ns.idxOf i, .int i, rfl, rfl, SqL.of h1, rfl, by rw [List.all_map]; exact List.all_eq_true.mpr fun _ _ => rfl, by rw [List.getElem?_map, idxOf_get hi]; rfl, by simp [eqV], fun j z hj hz => ?_, k _ H _ M (.int _) m GG.refl h⟩
    rw [List.getElem?_map] at hz
    obtain ⟨n, hn, rfl⟩ := Option.map_eq_some_iff.mp hz
    have : n ≠ i := fun e => idxOf_min hj (by rw [hn, e])
    simp [eqV, this]
  · exact h.elim
section
variable {X : Cx} {o e : Expr} {to te : TDE} {apos cpos : Pos}
theorem je_lindex (ho : JE X o to) (ha : JE X e te) (hbase : attributeBase o "index" X.env (eval o X.env) = eval o X.env := by rfl)
    (hfew : ((backTo cpos (starEach [e] X.env)).all (fun x => !x.1) && (backToKw cpos (keywordEach [] X.env)).all (fun x => x.1.isSome)
      && decide (([e]).length + ([] : List Keyword).length + (if ([] : List Keyword).isEmpty then 0 else 1) < 30)) = true := by rfl)
    (hline : (apos.endLine == cpos.line) = true := by rfl) (hs : starEach [e] X.env = (false, eval e X.env) :: starEach [] X.env := by rfl) (hplain : (backTo cpos (starEach [] X.env)).any (·.1) = false := by rfl) :
    JE X (.Call (.Attribute o "index" apos) [e] [] cpos) (dBM lindexR to (dCons te dNil)) := je_bm PySem.F.slot_list_index PySem.F.type_list_index mt_index lift_lindex ho (ja_cons ha ja_nil hs) hbase hfew hline hs hplain
end
section
variable {M M0 M' : Mm} {Q : DQ} {a d c : Addr} {i : Int} {r r0 : Nat} {L : List (Addr × MO)}
theorem ix_L3 {x0 x1 x2 x3 : D} {xs : List D} : ixR (.lst (x0 :: x1 :: x2 :: x3 :: xs)) (.int 3) M Q = Q x3 M := by
  have e : atI (x0 :: x1 :: x2 :: x3 :: xs) 3 = some x3 := atI_nat (j := 3) rfl
  unfold ixR
  simp only [e]
theorem ix_L4 {x0 x1 x2 x3 x4 : D} {xs : List D} : ixR (.lst (x0 :: x1 :: x2 :: x3 :: x4 :: xs)) (.int 4) M Q = Q x4 M := by
  have e : atI (x0 :: x1 :: x2 :: x3 :: x4 :: xs) 4 = some x4 := atI_nat (j := 4) rfl
  unfold ixR
  simp only [e]
theorem ix_L5 {x0 x1 x2 x3 x4 x5 : D} {xs : List D} : ixR (.lst (x0 :: x1 :: x2 :: x3 :: x4 :: x5 :: xs)) (.int 5) M Q = Q x5 M := by
  have e : atI (x0 :: x1 :: x2 :: x3 :: x4 :: x5 :: xs) 5 = some x5 := atI_nat (j := 5) rfl
  unfold ixR
  simp only [e]
theorem ix_t5 {x0 x1 x2 x3 x4 x5 : D} {xs : List D} : ixR (.tup (x0 :: x1 :: x2 :: x3 :: x4 :: x5 :: xs)) (.int 5) M Q = Q x5 M := by
  have e : atI (x0 :: x1 :: x2 :: x3 :: x4 :: x5 :: xs) 5 = some x5 := atI_nat (j := 5) rfl
  unfold ixR
  simp only [e]
theorem ix_L6 {x0 x1 x2 x3 x4 x5 x6 : D} {xs : List D} : ixR (.lst (x0 :: x1 :: x2 :: x3 :: x4 :: x5 :: x6 :: xs)) (.int 6) M Q = Q x6 M := by
  have e : atI (x0 :: x1 :: x2 :: x3 :: x4 :: x5 :: x6 :: xs) 6 = some x6 := atI_nat (j := 6) rfl
  unfold ixR
  simp only [e]
theorem ix_t6 {x0 x1 x2 x3 x4 x5 x6 : D} {xs : List D} : ixR (.tup (x0 :: x1 :: x2 :: x3 :: x4 :: x5 :: x6 :: xs)) (.int 6) M Q = Q x6 M := by
  have e : atI (x0 :: x1 :: x2 :: x3 :: x4 :: x5 :: x6 :: xs) 6 = some x6 := atI_nat (j := 6) rfl
  unfold ixR
  simp only [e]
theorem ix_L7 {x0 x1 x2 x3 x4 x5 x6 x7 : D} {xs : List D} : ixR (.lst (x0 :: x1 :: x2 :: x3 :: x4 :: x5 :: x6 :: x7 :: xs)) (.int 7) M Q = Q x7 M := by
  have e : atI (x0 :: x1 :: x2 :: x3 :: x4 :: x5 :: x6 :: x7 :: xs) 7 = some x7 := atI_nat (j := 7) rfl
  unfold ixR
  simp only [e]
theorem ix_t7 {x0 x1 x2 x3 x4 x5 x6 x7 : D} {xs : List D} : ixR (.tup (x0 :: x1 :: x2 :: x3 :: x4 :: x5 :: x6 :: x7 :: xs)) (.int 7) M Q = Q x7 M := by
  have e : atI (x0 :: x1 :: x2 :: x3 :: x4 :: x5 :: x6 :: x7 :: xs) 7 = some x7 := atI_nat (j := 7) rfl
  unfold ixR
  simp only [e]
theorem ix_L8 {x0 x1 x2 x3 x4 x5 x6 x7 x8 : D} {xs : List D} : ixR (.lst (x0 :: x1 :: x2 :: x3 :: x4 :: x5 :: x6 :: x7 :: x8 :: xs)) (.int 8) M Q = Q x8 M := by
  have e : atI (x0 :: x1 :: x2 :: x3 :: x4 :: x5 :: x6 :: x7 :: x8 :: xs) 8 = some x8 := atI_nat (j := 8) rfl
  unfold ixR
  simp only [e]
theorem ix_t8 {x0 x1 x2 x3 x4 x5 x6 x7 x8 : D} {xs : List D} : ixR (.tup (x0 :: x1 :: x2 :: x3 :: x4 :: x5 :: x6 :: x7 :: x8 :: xs)) (.int 8) M Q = Q x8 M := by
  have e : atI (x0 :: x1 :: x2 :: x3 :: x4 :: x5 :: x6 :: x7 :: x8 :: xs) 8 = some x8 := atI_nat (j := 8) rfl
  unfold ixR
  simp only [e]
theorem ix_L9 {x0 x1 x2 x3 x4 x5 x6 x7 x8 x9 : D} {xs : List D} : ixR (.lst (x0 :: x1 :: x2 :: x3 :: x4 :: x5 :: x6 :: x7 :: x8 :: x9 :: xs)) (.int 9) M Q = Q x9 M := by
  have e : atI (x0 :: x1 :: x2 :: x3 :: x4 :: x5 :: x6 :: x7 :: x8 :: x9 :: xs) 9 = some x9 := atI_nat (j := 9) rfl
  unfold ixR
  simp only [e]
theorem ix_t9 {x0 x1 x2 x3 x4 x5 x6 x7 x8 x9 : D} {xs : List D} : ixR (.tup (x0 :: x1 :: x2 :: x3 :: x4 :: x5 :: x6 :: x7 :: x8 :: x9 :: xs)) (.int 9) M Q = Q x9 M := by
  have e : atI (x0 :: x1 :: x2 :: x3 :: x4 :: x5 :: x6 :: x7 :: x8 :: x9 :: xs) 9 = some x9 := atI_nat (j := 9) rfl
  unfold ixR
  simp only [e]
theorem cutL_from3 {α : Type} (xs : List α) : cutL xs (some 3) none = xs.drop 3 := cutL_from xs 3
theorem cutL_from4 {α : Type} (xs : List α) : cutL xs (some 4) none = xs.drop 4 := cutL_from xs 4
theorem cutL_from5 {α : Type} (xs : List α) : cutL xs (some 5) none = xs.drop 5 := cutL_from xs 5
theorem cutL_from6 {α : Type} (xs : List α) : cutL xs (some 6) none = xs.drop 6 := cutL_from xs 6
theorem cutL_from8 {α : Type} (xs : List α) : cutL xs (some 8) none = xs.drop 8 := cutL_from xs 8
theorem cutL_to0 {α : Type} (xs : List α) : cutL xs none (some 0) = [] := cutL_to xs 0
theorem cutL_to4 {α : Type} (xs : List α) : cutL xs none (some 4) = xs.take 4 := cutL_to xs 4
theorem cutL_to5 {α : Type} (xs : List α) : cutL xs none (some 5) = xs.take 5 := cutL_to xs 5
theorem cutL_to6 {α : Type} (xs : List α) : cutL xs none (some 6) = xs.take 6 := cutL_to xs 6
theorem cutL_to8 {α : Type} (xs : List α) : cutL xs none (some 8) = xs.take 8 := cutL_to xs 8
theorem add_rL {xs ys : List D} (e : lstOf M a = some xs) (hz : xs.length + ys.length ≤ sizeLine) (h : Q (.lst (xs ++ ys)) M) : addR (.ref a) (.lst ys) M Q := by
  have : catR (.ref a) (.lst ys) M Q := by
    unfold catR
    simp only [rdL_ref, e, rdL_lst]
    exact ⟨hz, h⟩
  exact this
theorem add_Lr {xs ys : List D} (e : lstOf M a = some ys) (hz : xs.length + ys.length ≤ sizeLine) (h : Q (.lst (xs ++ ys)) M) : addR (.lst xs) (.ref a) M Q := by
  have : catR (.lst xs) (.ref a) M Q := by
    unfold catR
    simp only [rdL_ref, e, rdL_lst]
    exact ⟨hz, h⟩
  exact this
theorem add_rr {xs ys : List D} {b : Addr} (e : lstOf M a = some xs) (e2 : lstOf M b = some ys) (hz : xs.length + ys.length ≤ sizeLine) (h : Q (.lst (xs ++ ys)) M) : addR (.ref a) (.ref b) M Q := by
  have : catR (.ref a) (.ref b) M Q := by
    unfold catR
    simp only [rdL_ref, e, e2]
    exact ⟨hz, h⟩
  exact this
theorem lindex_go {ns : List Int} (e : lstOf M a = some (ns.map D.int)) (hi : i ∈ ns) (h : Q (.int (ns.idxOf i : Nat)) M) : lindexR (.ref a) [.int i] M Q := ⟨ns, e, hi, h⟩
theorem sortOk_ed {T : List Ed} : SortOk (T.map edD) := by
  have key : ∀ x ∈ (T.map edD).map toPy, ∃ e : Ed, x = .tuple [.str e.1, .str e.2.1, .str e.2.2] := by
    intro x hx
    rw [List.map_map] at hx
    obtain ⟨e, _, rfl⟩ := List.mem_map.mp hx
    exact ⟨e, rfl⟩
  refine ⟨pu_eds, Nat.le_trans dep_eds (by decide), fun x hx y hy => ?_, .inl fun x hx => ?_⟩
  · obtain ⟨e, rfl⟩ := key x hx
    obtain ⟨f, rfl⟩ := key y hy
    rfl
  · obtain ⟨e, rfl⟩ := key x hx
    exact ⟨_, _, rfl⟩
theorem sortD_ed (T : List Ed) : ∃ T' : List Ed, sortD (T.map edD) = T'.map edD ∧ T'.Perm T := ⟨_, sortD_map edD T, List.mergeSort_perm _ _⟩
/-- a drawn one taken from what is left, put behind what is gone -/
theorem move_perm {α : Type} {left gone all : List α} {i : Nat} {x : α} (h : left[i]? = some x) (p : (gone ++ left).Perm all) : (gone ++ [x] ++ left.eraseIdx i).Perm all := by
  obtain ⟨hi, rfl⟩ := List.getElem?_eq_some_iff.mp h
  rw [List.append_assoc]
  refine (List.Perm.append_left gone ?_).trans p
  rw [List.eraseIdx_eq_take_drop_succ]
  have e : left = left.take i ++ left[i] :: left.drop (i + 1) := by rw [← List.drop_eq_getElem_cons hi, List.take_append_drop]
  exact (List.perm_middle (a := left[i]) (l₁ := left.take i) (l₂ := left.drop (i + 1))).symm.trans (by rw [← e])
/-- at a def's end: what it answers is frozen -/
theorem Bx.finF {R : DQ} {x y : D} (b : Bx d c r M0 L M) (D0 : Deck M0 d c r0) (hf : ∀ M2 : Mm, (∀ q ∈ L, M2 q.1 = none) → FzD M M2 x y) (h : ∀ M2, Deck M2 d c r → Upto d c M0 M2 → R y M2) : Shr R x M :=
  ⟨mixD d c M0 M, y, mixD_sub b.ex, hf _ fun q hq => mixD_none D0 (b.lo q hq).2.1, h _ (mixD_deck b.dk) mixD_upto⟩
end
end DM

/-! k36: the small world -/
namespace DM
open PySem L2
open PyProof.Rows (b2i)
structure Sm where
  p : Str
  q : Str
  r : Str
  a : Str
  b : Str
  c : Str
  prog : List Rl
  a0 : Int
  a1 : Int
  a2 : Int
  a3 : Int
  a4 : Int
  a5 : Int
  T : List Ed
instance : Inhabited Rl := ⟨⟨"", "", "", []⟩⟩
def rules6 (p q r a b c : Str) : List Rl := [⟨p, a, q, [b, a]⟩, ⟨q, b, q, []⟩, ⟨q, a, r, []⟩, ⟨p, a, r, []⟩, ⟨q, b, r, [c]⟩, ⟨p, a, q, [b, a]⟩]
namespace Sm
def rules (S : Sm) : List Rl := rules6 S.p S.q S.r S.a S.b S.c
def ends (S : Sm) : List Str := ["1", S.r]
def lines (S : Sm) : List D := [.tup [.tup [.str S.q, .str S.b, .str S.q], .tup [.str "rule", .int S.a1, .tup []]], .tup [.tup [.str S.q, .str S.a, .str S.r], .tup [.str "rule", .int S.a2, .tup []]],
  .tup [.tup [.str S.r, .str S.c, .str "1"], .tup [.str "told"]], .tup [.tup [.str S.p, .str S.a, .str S.r], .tup [.str "rule", .int S.a0, .tup [.int 0, .int 1]]],
  .tup [.tup [.str S.q, .str S.b, .str "1"], .tup [.str "rule", .int S.a4, .tup [.int 2]]]]
def names (S : Sm) : List D := [.str S.p, .str S.q, .str S.r, .str S.a, .str S.b, .str S.c]
def ats (S : Sm) : List D := [.int S.a0, .int S.a1, .int S.a2, .int S.a3, .int S.a4, .int S.a5]
def all (S : Sm) : D := .tup [progD S.prog, .tup [.tup (S.T.map edD), .tup [.str "1", .str S.r]], .tup S.names, .lst S.ats, .lst S.lines]
structure Ok (S : Sm) : Prop where
  pl : S.prog.length = 6
  pw : ∀ r ∈ S.prog, r.w.length ≤ 2
  g0 : (0 ≤ S.a0 ∧ S.a0 < 6) ∧ S.prog[S.a0.toNat]? = some ⟨S.p, S.a, S.q, [S.b, S.a]⟩
  g1 : (0 ≤ S.a1 ∧ S.a1 < 6) ∧ S.prog[S.a1.toNat]? = some ⟨S.q, S.b, S.q, []⟩
  g2 : (0 ≤ S.a2 ∧ S.a2 < 6) ∧ S.prog[S.a2.toNat]? = some ⟨S.q, S.a, S.r, []⟩
  g4 : (0 ≤ S.a4 ∧ S.a4 < 6) ∧ S.prog[S.a4.toNat]? = some ⟨S.q, S.b, S.r, [S.c]⟩
  g3 : 0 ≤ S.a3 ∧ S.a3 < 6
  g5 : 0 ≤ S.a5 ∧ S.a5 < 6
  tl : S.T.length = 3
  tm : (S.r, S.c, ("1" : Str)) ∈ S.T
end Sm
/-- a small world by the order of its rules -/
def smOf (p q r a b c : Str) (o : List Nat) (T : List Ed) : Sm := ⟨p, q, r, a, b, c, o.map fun k => (rules6 p q r a b c).getD k default, (o.map fun (k : Nat) => (k : Int)).idxOf 0, (o.map fun (k : Nat) => (k : Int)).idxOf 1, (o.map fun (k : Nat) => (k : Int)).idxOf 2, (o.map fun (k : Nat) => (k : Int)).idxOf 3, (o.map fun (k : Nat) => (k : Int)).idxOf 4, (o.map fun (k : Nat) => (k : Int)).idxOf 5, T⟩
theorem idx_prog {o : List Nat} {f : Nat → Rl} {k : Nat} (hp : o.Perm (List.range 6)) (hk : k < 6) :
    (0 ≤ (((o.map fun (k : Nat) => (k : Int)).idxOf (k : Int) : Nat) : Int) ∧ (((o.map fun (k : Nat) => (k : Int)).idxOf (k : Int) : Nat) : Int) < 6) ∧ (o.map f)[(((o.map fun (k : Nat) => (k : Int)).idxOf (k : Int) : Nat) : Int).toNat]? = some (f k) := by
  have hm : (k : Int) ∈ o.map fun (k : Nat) => (k : Int) := List.mem_map.mpr ⟨k, hp.mem_iff.mpr (List.mem_range.mpr hk), rfl⟩
  have h1 := idxOf_get hm
  have h2 := (List.getElem?_eq_some_iff.mp h1).1
  rw [List.length_map, hp.length_eq, List.length_range] at h2
  rw [List.getElem?_map] at h1
  obtain ⟨k', e1, e2⟩ := Option.map_eq_some_iff.mp h1
  have : k' = k := by omega
  subst this
  refine ⟨⟨by omega, by omega⟩, ?_⟩
  rw [Int.toNat_natCast, List.getElem?_map, e1]; rfl
theorem smOf_ok {p q r a b c : Str} {o : List Nat} {T : List Ed} (hp : o.Perm (List.range 6)) (hl : T.length = 3) (hm : (r, c, ("1" : Str)) ∈ T) : (smOf p q r a b c o T).Ok where
  pl := by show (o.map _).length = 6; rw [List.length_map, hp.length_eq]; rfl
  pw := by
    intro x hx
    obtain ⟨k, hk, rfl⟩ := List.mem_map.mp hx
    have hk6 : k < 6 := List.mem_range.mp (hp.mem_iff.mp hk)
    have ex : (k = 0 ∨ k = 1 ∨ k = 2 ∨ k = 3 ∨ k = 4 ∨ k = 5) := by omega
    rcases ex with rfl | rfl | rfl | rfl | rfl | rfl <;> simp [rules6]
  g0 := idx_prog (k := 0) hp (by omega)
  g1 := idx_prog (k := 1) hp (by omega)
  g2 := idx_prog (k := 2) hp (by omega)
  g4 := idx_prog (k := 4) hp (by omega)
  g3 := (idx_prog (k := 3) (f := fun _ => default) hp (by omega)).1
  g5 := (idx_prog (k := 5) (f := fun _ => default) hp (by omega)).1
  tl := hl
  tm := hm
end DM
namespace DM
open PySem L2
/-- lines that may be asked of -/
structure BentOk (x : D) : Prop where
  p : pureD x = true
  d : depD x ≤ 60
  l : ∀ ls, x = .tup ls → ls.length ≤ 100 ∧ ∀ y ∈ ls, LnK y
end DM
namespace DM
open PySem L2
/-- a line that may stand in a paper -/
structure OthOk (x : D) : Prop where
  p : pureD x = true
  d : depD x ≤ 8
  l : LnK x
theorem mem_pure {xs : List D} (h : pureDs xs = true) {x : D} (hx : x ∈ xs) : pureD x = true := by
  obtain ⟨j, hj, rfl⟩ := List.getElem_of_mem hx
  exact pureDs_get h (List.getElem?_eq_getElem hj)
theorem mem_dep {n : Nat} : ∀ {xs : List D}, depDs xs ≤ n → ∀ {x : D}, x ∈ xs → depD x ≤ n
  | y :: ys, h, x, hx => by
    simp only [depDs] at h
    rcases List.mem_cons.mp hx with rfl | hx
    · omega
    · exact mem_dep (by omega) hx
theorem LnK.line {a b c : Str} {r : D} : LnK (.tup [.tup [.str a, .str b, .str c], r]) := fun es b h => by
  cases h; exact ⟨_, _, _, rfl⟩
theorem all_pure {xs : List D} (h : ∀ x ∈ xs, pureD x = true) : pureDs xs = true := by
  induction xs with
  | nil => rfl
  | cons x xs ih => simp only [pureDs, h x (by simp), ih fun y hy => h y (by simp [hy]), Bool.and_self]
theorem all_dep {n : Nat} {xs : List D} (hn : 1 ≤ n) (h : ∀ x ∈ xs, depD x ≤ n) : depDs xs ≤ n := by
  induction xs with
  | nil => simpa [depDs] using hn
  | cons x xs ih =>
    have h1 := h x (by simp)
    have h2 := ih fun y hy => h y (by simp [hy])
    simp only [depDs]; omega
theorem BentOk.of {xs : List D} (h : ∀ x ∈ xs, OthOk x) (hl : xs.length ≤ 100) : BentOk (.tup xs) :=
  ⟨by simpa only [pureD] using all_pure fun x hx => (h x hx).p, by have := all_dep (n := 8) (by omega) fun x hx => (h x hx).d; simp only [depD]; omega, fun ls e => by cases e; exact ⟨hl, fun y hy => (h y hy).l⟩⟩
theorem BentOk.ofL {xs : List D} (h : ∀ x ∈ xs, OthOk x) : BentOk (.lst xs) :=
  ⟨by simpa only [pureD] using all_pure fun x hx => (h x hx).p, by have := all_dep (n := 8) (by omega) fun x hx => (h x hx).d; simp only [depD]; omega, fun ls e => by cases e⟩
theorem OthOk.line {a b c : Str} {r : D} (h : pureD r = true) (d : depD r ≤ 6) : OthOk (.tup [.tup [.str a, .str b, .str c], r]) :=
  ⟨by simp [pureD, pureDs, h], by simp only [depD, depDs]; omega, LnK.line⟩
section
variable {ok : Mm → Prop} {g : TDG} {tt : TDT} {te : TDE} {ds0 : DSt} {Q : List D → Mm → Prop}
theorem lcW_prop (f : D → D) (Pp : D → Prop) {l : List D} {M : Mm} (hz : l.length ≤ sizeLine) (hok : ok M) (hl : ∀ x ∈ l, Pp (f x))
    (h : ∀ x ∈ l, ∀ (N : DQ) (F : Mm → Prop), N (f x) M → g x ds0 M fun ds' M2 => tt ds' M2 fun b M3 => if b = true then te ds' M3 N else F M3)
    (fin : ∀ ys : List D, ys.length = l.length → (∀ y ∈ ys, Pp y) → Q ys M) : lcW ok g tt te ds0 Q l [] M := by
  have := lcW_fun (ok := ok) (g := g) (tt := tt) (te := te) (ds0 := ds0) (Q := Q) (fun x : D => x) f hz hok h (fin _ (by simp) (by simpa using hl))
  simpa using this
end
end DM
namespace DM
open PySem L2
def askD (s : Str) (w : List Str) (ns : List Int) : D := .tup [.tup [.str s, .tup (w.map .str)], .tup (ns.map .int)]
def AskOk (x : D) : Prop := ∃ (s : Str) (w : List Str) (ns : List Int), x = askD s w ns ∧ w.length ≤ 4
def TgtOk (x : D) : Prop := ∃ (T : List Ed) (E : List Str), x = .tup [.tup (T.map edD), .tup (E.map .str)] ∧ T.length ≤ 100
theorem papOk_of {S : Sm} (hS : S.Ok) {T : List Ed} (hT : T.length ≤ 100) {w : List Str} (hw : w.length ≤ 4) {o : D} (ho : BentOk o) {ns : List Int} : PapOk S.prog T w o (.tup (ns.map .int)) where
  pl := by rw [hS.pl]; decide
  pw := fun r hr => Nat.le_trans (hS.pw r hr) (by decide)
  tl := by omega
  wl := by omega
  lp := ho.p
  ll := fun ls e => Nat.le_trans (ho.l ls e).1 (by decide)
  lk := fun ls e x hx => .of (mem_pure (by have := ho.p; rw [e] at this; simpa [pureD] using this) hx) (by
    have := ho.d
    rw [e] at this
    simp only [depD] at this
    exact mem_dep (by omega) hx)
  ln := fun ls e => (ho.l ls e).2
  wk := ⟨pureDs_int ns, Nat.le_trans (depDs_map D.int 1 (by decide) (fun _ => by simp [depD]) ns) (by decide)⟩
theorem lines_ok {S : Sm} : BentOk (.tup S.lines) := by
  refine .of (fun x hx => ?_) (by simp [Sm.lines])
  simp only [Sm.lines, List.mem_cons, List.not_mem_nil, or_false] at hx
  rcases hx with rfl | rfl | rfl | rfl | rfl <;> exact .line (by simp [pureD, pureDs]) (by simp [depDs, depD])
theorem sortOk_str {E : List Str} : SortOk (E.map .str) := by
  have key : ∀ x ∈ (E.map D.str).map toPy, ∃ e : Str, x = .str e := by
    intro x hx
    rw [List.map_map] at hx
    obtain ⟨e, _, rfl⟩ := List.mem_map.mp hx
    exact ⟨e, rfl⟩
  refine ⟨pureDs_str E, Nat.le_trans (depDs_str E) (by decide), fun x hx y hy => ?_, .inr fun x hx => ?_⟩
  · obtain ⟨e, rfl⟩ := key x hx
    obtain ⟨f, rfl⟩ := key y hy
    rfl
  · obtain ⟨e, rfl⟩ := key x hx
    exact ⟨by simp, by simp⟩
/-- whether the good lines are a paper -/
theorem good_lines {S : Sm} (hS : S.Ok) : ∀ j, j < S.lines.length → ∀ x, S.lines[j]? = some x → rightD S.prog S.T S.lines j x = true := by
  intro j hj x hx
  have h0 := hS.g0
  have h1 := hS.g1
  have h2 := hS.g2
  have h4 := hS.g4
  have hl := hS.pl
  have hj5 : j < 5 := hj
  have ex : (j = 0 ∨ j = 1 ∨ j = 2 ∨ j = 3 ∨ j = 4) := by omega
  rcases ex with rfl | rfl | rfl | rfl | rfl
  all_goals (cases hx; simp only [rightD, h0.2, h1.2, h2.2, h4.2]; simp [isNumD, numsD, numsOf, readD, edgeOf, Sm.lines, hS.tm, h0.1, h1.1, h2.1, h4.1, hl])
theorem good_ask {S : Sm} (hS : S.Ok) {x : D} (h : x ∈ [askD S.p [S.a, S.c] [3, 2], askD S.p [S.a] [3], askD S.q [S.b] [4], askD S.r [] [], askD S.q [S.b, S.b, S.a, S.c] [0, 0, 1, 2]]) :
    ∃ s w ns, x = askD s w ns ∧ w.length ≤ 4 ∧ paperD S.prog S.T ["1", S.r] s w (.tup (ns.map .int)) (.tup S.lines) = true := by
  have hg := allRight_iff.mpr (good_lines hS)
  simp only [List.mem_cons, List.not_mem_nil, or_false] at h
  rcases h with rfl | rfl | rfl | rfl | rfl
  all_goals (refine ⟨_, _, _, rfl, by simp, ?_⟩; simp only [paperD, hg]; simp [isNumD, numsD, numsOf, readD, edgeOf, Sm.lines, endsIn])
end DM

/-! dicts keyed by tuples of texts and numbers -/
namespace DM
open PySem L2
open PyProof.Rows (b2i)
/-! ### what a walk gives, gathered; sorted of it -/
section
variable {prog : Program} {w : World} {A : Around} {E : Value → Shared → Prop} {s : Shared} {T : String} {r d : Addr} {n : Nat} {P : Nat → Value → Prop} {OK : Heap → Prop}
open PySem PySem.Calls PyProof.Rows PySem.W in
theorem collect_src {Q : List Value → Shared → Prop} (K : KdlSrc prog w T r d n P OK) (hh : A.handled = none) (hok : OK s.heap) (hn : n ≤ sizeLine)
    (hQ : ∀ h' tk (acc : Array Value), (∀ b o, s.heap.get? b = some o → h'.get? b = some o) → s.heap.objs.size ≤ h'.objs.size → ItemsOf P acc n → Q acc.toList { s with heap := h', toks := tk }) :
    wpAny (model prog w) A (collect (.ref r)) Q E s := by
  have hlt := K.there _ hok
  unfold collect
  refine wpAny_bind (wpAny_runValue (codeAny_builtin F.entry_proto_collect ?_))
  rw [Around.under_plainId F.plain_proto_collect _]
  show wpAny _ A.in1 (newList [] >>= fun l => again (.builtin "list.__iadd__" ⟨[l, .ref r], []⟩)) _ _ s
  refine wpAny_bind (wpAny_newObj_type ?_)
  refine wpAny_pure ⟨plainId_quiet F.plain_list_iadd _, codeAny_builtin F.entry_list_iadd ?_⟩
  rw [Around.under_plainId F.plain_list_iadd _]
  show wpAny _ A.in1 (Builtin.List.listExtendWith (.ref s.heap.objs.size) (.ref r) (.ref s.heap.objs.size)) _ _ _
  have hS : (s.heap.push { cls := .type "list", data := .seq ([] : List Value).toArray }).get? s.heap.objs.size = some { cls := .type "list", data := .seq ([] : List Value).toArray } := Heap.get?_push_size _ rfl
  refine kdl_extend (R := fun r s' => match r with
      | Except.ok (Flow.ret v) => wpAny (model prog w) A (match v with
        | .ref a => (do
          match (← load a).data with
          | .seq xs _ => pure xs.toList
          | _ => unsupported "internal:collect")
        | _ => unsupported "internal:collect") Q E s'
      | Except.ok _ => False
      | Except.error e => E e s') (s := { s with heap := s.heap.push { cls := .type "list", data := .seq ([] : List Value).toArray } }) K hh (K.keep _ _ hok fun b _ o e => Heap.get?_push_of_some _ e) s.heap.objs.size (Nat.ne_of_gt hlt.1) (Nat.ne_of_gt hlt.2) (.ref s.heap.objs.size) 0 hS (fun h' tk acc c' hk hS' hacc => ?_) hn
  show wpAny _ A (load s.heap.objs.size >>= _) _ _ _
  refine wpAny_bind (wpAny_load hS' ?_)
  exact wpAny_pure (hQ h' tk acc (fun b o e => hk b o (Nat.ne_of_lt (Heap.lt_size e)) (Heap.get?_push_of_some _ e)) (Nat.le_of_lt (Heap.lt_size hS')) hacc)
variable {β : Type} {vs : List Value} {bs : List β} {enc : β → PyData} {R : Value → β → Prop}
open PySem PySem.Calls PyProof.Rows PySem.W in
/-- sorted of anything that is gathered to vs -/
theorem sorted_src {l : Addr} {Q : Value → Shared → Prop} (e : EachIs R vs bs) (er : EachIs (fun v b => ∃ as, Reads s.heap v (enc b) as) vs bs) (hal : AllAlike (bs.map enc)) (hk : Sortable (bs.map enc)) (hL : bs.length ≤ sizeLine)
    (hu : ∀ b, b ∈ bs → A.units + 2 + (enc b).depth < cLine)
    (hc : ∀ (Q' : List Value → Shared → Prop) (E' : Value → Shared → Prop), (∀ h' tk, (∀ b o, s.heap.get? b = some o → h'.get? b = some o) → s.heap.objs.size ≤ h'.objs.size → Q' vs { s with heap := h', toks := tk }) → wpAny (model prog w) A.in1 (collect (.ref l)) Q' E' s)
    (h : ∀ h' tk out c a, (∀ b o, s.heap.get? b = some o → h'.get? b = some o) → s.heap.objs.size ≤ a → h'.get? a = some (seqObj "list" (List.toArray out) c) → out.length = bs.length → EachIs R out (bs.mergeSort (dataLe false enc)) → Q (.ref a) { s with heap := h', toks := tk }) :
    wpAny (model prog w) A (call (.builtin "sorted") [.ref l]) Q E s := by
  have hL' : vs.length ≤ sizeLine := by rw [e.length]; exact hL
  refine call_function_entry kind_sorted plain_sorted entry_sorted (args_sorted1 _) ?_
  unfold Builtin.«sorted»
  refine wpAny_bind (m := checkCount "sorted" 1 1 _) (wpAny_pure ?_)
  refine wpAny_bind (hc _ _ fun h1 tk k1 z1 => ?_)
  refine wpAny_bind (wpAny_newList ?_ hL')
  have ho : (h1.push (seqObj "list" vs.toArray 0)).get? h1.objs.size = some (seqObj "list" vs.toArray 0) := Heap.get?_push_size _ rfl
  have k2 : ∀ b o, s.heap.get? b = some o → (sortingHeap (h1.push (seqObj "list" vs.toArray 0)) h1.objs.size vs).get? b = some o := fun b o q =>
    sortingHeap_old (Nat.ne_of_lt (Nat.lt_of_lt_of_le (Heap.lt_size q) z1)) (Heap.get?_push_of_some _ (k1 b o q))
  have er' : EachIs (fun v b => ∃ as, Reads (sortingHeap (h1.push (seqObj "list" vs.toArray 0)) h1.objs.size vs) v (enc b) as) vs bs := er.mono fun _ _ ⟨as, r⟩ => ⟨as, PyProof.Rows.Reads.keeps k2 r⟩
  have S := SortsAt.data (prog := prog) (w := w) (A := A.in1.in1) (s := { s with heap := sortingHeap (h1.push (seqObj "list" vs.toArray 0)) h1.objs.size vs, toks := tk }) (each_map (R := fun v d => ∃ as, Reads (sortingHeap (h1.push (seqObj "list" vs.toArray 0)) h1.objs.size vs) v d as) enc er') hal hk (bound_map hu)
  show wpAny _ _ _ _ _ { s with heap := h1.push (seqObj "list" vs.toArray 0), toks := tk }
  refine wpAny_bind (wpAny_holding (wpAny_call_entry slot_list_sort ⟨_, ho, rfl⟩ entry_list_sort ?body (args_list_sort _)))
  case body =>
    show wpAny (model prog w) A.in1.in1 (Builtin.«list.sort» ⟨[.ref h1.objs.size], []⟩) _ _ _
    refine list_sort_vals (s := { s with heap := h1.push (seqObj "list" vs.toArray 0), toks := tk }) ho S hL' ⟨_, rfl, wpAny_pure ⟨_, rfl, ?_⟩⟩
    obtain ⟨c, hc⟩ := PyProof.Rows.sortedHeap_at (vs := vs) (out := (sortVals (dataKind (sortingHeap (h1.push (seqObj "list" vs.toArray 0)) h1.objs.size vs) (bs.map enc)) false vs vs).toArray) ho
    refine h _ tk _ c h1.objs.size (fun b o q => ?_) z1 hc (by rw [sortVals_length false rfl]; exact e.length) (sortVals_data false e er' hal)
    have q1 := Heap.get?_push_of_some (seqObj "list" vs.toArray 0) (k1 b o q)
    exact (PyProof.Rows.sortedHeap_old (Nat.ne_of_lt (Nat.lt_of_lt_of_le (Heap.lt_size q) z1)) (Heap.lt_size q1)).trans q1
end
/-! ### keys -/
def kD : Key → D
  | .inl i => .int i
  | .inr x => .str x
/-- a key that is a tuple -/
def tkD (k : List Key) : D := .tup (k.map kD)
def keysD : List D → Option (List Key)
  | [] => some []
  | .int i :: xs => (keysD xs).map (.inl i :: ·)
  | .str x :: xs => (keysD xs).map (.inr x :: ·)
  | _ :: _ => none
def keyT : D → Option (List Key)
  | .tup xs => keysD xs
  | _ => none
theorem keysD_eq : ∀ {xs : List D} {k : List Key}, keysD xs = some k → xs = k.map kD
  | [], k, h => by cases h; rfl
  | .int i :: xs, k, h => by
    simp only [keysD] at h
    obtain ⟨k', e, rfl⟩ := Option.map_eq_some_iff.mp h
    rw [keysD_eq e]; rfl
  | .str i :: xs, k, h => by
    simp only [keysD] at h
    obtain ⟨k', e, rfl⟩ := Option.map_eq_some_iff.mp h
    rw [keysD_eq e]; rfl
  | .non :: _, _, h => by cases h
  | .bl _ :: _, _, h => by cases h
  | .tup _ :: _, _, h => by cases h
  | .lst _ :: _, _, h => by cases h
  | .ref _ :: _, _, h => by cases h
  | .ty _ :: _, _, h => by cases h
  | .dic _ :: _, _, h => by cases h
  | .dit _ :: _, _, h => by cases h
theorem keysD_map : ∀ k : List Key, keysD (k.map kD) = some k
  | [] => rfl
  | .inl i :: k => by simp only [List.map_cons, kD, keysD, keysD_map k]; rfl
  | .inr i :: k => by simp only [List.map_cons, kD, keysD, keysD_map k]; rfl
theorem keyT_tk (k : List Key) : keyT (tkD k) = some k := keysD_map k
theorem keyT_eq {x : D} {k : List Key} (h : keyT x = some k) : x = tkD k := by
  cases x with
  | tup xs => rw [tkD, keysD_eq (show keysD xs = some k from h)]
  | _ => cases h
section
variable {K : PySem.W.Frag} {H : HF}
theorem vrs_keys : ∀ {k : List Key} {vs : List V}, VRs K H (k.map kD) vs → vs = k.map kV
  | [], _, r => by cases r; rfl
  | .inl i :: k, _, r => by
    cases r with
    | cons r1 r2 => cases r1; rw [vrs_keys r2]; rfl
  | .inr i :: k, _, r => by
    cases r with
    | cons r1 r2 => cases r1; rw [vrs_keys r2]; rfl
theorem keys_vrs : ∀ (k : List Key), VRs K H (k.map kD) (k.map kV)
  | [] => .nil
  | .inl i :: k => .cons (.int i) (keys_vrs k)
  | .inr i :: k => .cons (.str i) (keys_vrs k)
/-- a key's own tuple -/
theorem key_v {x : D} {v : V} {k : List Key} (r : VR K H x v) (e : keyT x = some k) : ∃ b, v = .ref b ∧ H.h b = some (.tup (k.map kV)) := by
  have := keyT_eq e
  subst this
  obtain ⟨b, vs, rfl, h, q⟩ := VR.tup_t r
  rw [vrs_keys q] at h
  exact ⟨b, rfl, h⟩
theorem vr_key {b : Addr} {k : List Key} (h : H.h b = some (.tup (k.map kV))) : VR K H (tkD k) (.ref b) := .tup h (keys_vrs k)
end
/-! ### the store -/
def ditOf (M : Mm) (a : Addr) : Option (List (List Key × D)) := match M a with | some (.dit kvs) => some kvs | _ => none
theorem of_ditOf {M : Mm} {a : Addr} {kvs : List (List Key × D)} (e : ditOf M a = some kvs) : M a = some (.dit kvs) := by
  unfold ditOf at e
  split at e
  · rename_i h; cases e; exact h
  · cases e
theorem ditOf_some {M : Mm} {a : Addr} {kvs : List (List Key × D)} (e : M a = some (.dit kvs)) : ditOf M a = some kvs := by unfold ditOf; rw [e]
theorem ditOf_mup_same {M : Mm} {a : Addr} {kvs : List (List Key × D)} : ditOf (mup M a (.dit kvs)) a = some kvs := ditOf_some mup_same
def rdT (M : Mm) : D → Option (List (List Key × D))
  | .dit kvs => some kvs
  | .ref a => ditOf M a
  | _ => none
@[simp] theorem rdT_dit {M : Mm} {xs : List (List Key × D)} : rdT M (.dit xs) = some xs := rfl
@[simp] theorem rdT_ref {M : Mm} {a : Addr} : rdT M (.ref a) = ditOf M a := rfl
theorem rdT_v {K : PySem.W.Frag} {M : Mm} {H : HF} {d : D} {v : V} {xs : List (List Key × D)} (m : MR K M H) (r : VR K H d v) (e : rdT M d = some xs) : ∃ a vs, v = .ref a ∧ H.h a = some (.dT vs) ∧ FR K H xs vs := by
  cases d with
  | dit ys =>
    cases e
    obtain ⟨a, vs, rfl, h, _, q⟩ := r.dit_v
    exact ⟨a, vs, rfl, h, q⟩
  | ref a =>
    cases r.ref_v
    obtain ⟨vs, h1, r1⟩ := m.ob a _ (of_ditOf e)
    exact ⟨a, vs, rfl, h1, r1⟩
  | _ => cases e
end DM

/-! dicts keyed by tuples: put, get, in, sorted -/
namespace DM
open PySem L2
open PyProof.Rows (b2i)
def valT {κ δ : Type} [DecidableEq κ] (kvs : List (κ × δ)) (k : κ) : Option δ := (kvs.find? fun kv => decide (kv.1 = k)).map (·.2)
def putT {κ δ : Type} [DecidableEq κ] (kvs : List (κ × δ)) (k : κ) (d : δ) : List (κ × δ) :=
  if (kvs.any fun kv => decide (kv.1 = k)) = true then kvs.map (fun kv => if kv.1 = k then (kv.1, d) else kv) else kvs ++ [(k, d)]
section
variable {K : PySem.W.Frag} {H : HF} {κ : Type} [DecidableEq κ]
theorem FR.valt : ∀ {ds : List (κ × D)} {vs : List (κ × V)} {k : κ} {d : D}, FR K H ds vs → valT ds k = some d → ∃ v, valV vs k = some v ∧ VR K H d v
  | _, _, _, _, .nil, h => by simp [valT] at h
  | (k', d') :: ds, (_, v') :: vs, k, d, .cons r q, h => by
    unfold valT valV at *
    by_cases e : k' = k
    · simp [List.find?_cons, e] at h ⊢
      subst h
      exact r
    · simp only [List.find?_cons, e, decide_false] at h ⊢
      exact FR.valt (k := k) (d := d) q h
theorem FR.valtN : ∀ {ds : List (κ × D)} {vs : List (κ × V)} {k : κ}, FR K H ds vs → valT ds k = none → valV vs k = none
  | _, _, _, .nil, h => by simp [valV]
  | (k', d') :: ds, (_, v') :: vs, k, .cons r q, h => by
    unfold valT valV at *
    by_cases e : k' = k
    · simp [List.find?_cons, e] at h
    · simp only [List.find?_cons, e, decide_false] at h ⊢
      exact FR.valtN (k := k) q h
theorem FR.anyt : ∀ {ds : List (κ × D)} {vs : List (κ × V)} {k : κ}, FR K H ds vs → (ds.any fun kv => decide (kv.1 = k)) = vs.any fun kv => decide (kv.1 = k)
  | _, _, _, .nil => rfl
  | (k', d') :: ds, (_, v') :: vs, k, .cons r q => by rw [List.any_cons, List.any_cons, FR.anyt q]
theorem FR.snoct {k : κ} {d : D} {v : V} (r : VR K H d v) : ∀ {ds : List (κ × D)} {vs : List (κ × V)}, FR K H ds vs → FR K H (ds ++ [(k, d)]) (vs ++ [(k, v)])
  | _, _, .nil => .cons r .nil
  | _, _, .cons q t => .cons q (FR.snoct r t)
theorem FR.replt {k : κ} {d : D} {v : V} (r : VR K H d v) : ∀ {ds : List (κ × D)} {vs : List (κ × V)}, FR K H ds vs → FR K H (ds.map fun kv => if kv.1 = k then (kv.1, d) else kv) (vs.map fun kv => if kv.1 = k then (kv.1, v) else kv)
  | _, _, .nil => .nil
  | (k', d') :: ds, (_, v') :: vs, .cons q t => by
    rw [List.map_cons, List.map_cons]
    by_cases e : k' = k
    · simp only [e, if_true]
      exact .cons r (FR.replt r t)
    · simp only [e, if_false]
      exact .cons q (FR.replt r t)
theorem FR.putt {k : κ} {d : D} {v : V} (r : VR K H d v) {ds : List (κ × D)} {vs : List (κ × V)} (h : FR K H ds vs) : FR K H (putT ds k d) (putK vs k v) := by
  unfold putT putK
  rw [h.anyt]
  split
  · exact h.replt r
  · exact h.snoct r
theorem FR.len {κ : Type} : ∀ {ds : List (κ × D)} {vs : List (κ × V)}, FR K H ds vs → ds.length = vs.length
  | _, _, .nil => rfl
  | _, _, .cons _ q => by simp [FR.len q]
theorem FR.getV {κ : Type} : ∀ {ds : List (κ × D)} {vs : List (κ × V)} {i : Nat} {k : κ} {v : V}, FR K H ds vs → vs[i]? = some (k, v) → ∃ d, ds[i]? = some (k, d) ∧ VR K H d v
  | _, _, _, _, _, .nil, h => by simp at h
  | _, _, 0, _, _, .cons r _, h => by simp at h; obtain ⟨rfl, rfl⟩ := h; exact ⟨_, rfl, r⟩
  | _, _, i + 1, k, v, .cons _ t, h => by
    obtain ⟨d, h1, h2⟩ := FR.getV (i := i) (k := k) (v := v) t (by simpa using h)
    exact ⟨d, by simpa using h1, h2⟩
end
/-- d[k], d with tuple keys -/
def dgetT : DR2 := fun x y M Q => match rdT M x, keyT y with
  | some kvs, some k => (match valT kvs k with | some d => Q d M | none => False)
  | _, _ => False
def inTQ (neg : Bool) : DR2 := fun x y M Q => match rdT M y, keyT x with
  | some kvs, some k => Q (.bl (neg != (valT kvs k).isSome)) M
  | _, _ => False
section
variable {X : Cx} {o i e : Expr} {to ti te : TDE} {pos pos' : Pos} {k : Nat} {a b : Expr} {ta tb : TDE}
theorem je_dgetT (hr : Room k X.A) (ho : JE X o to) (hi : JE X i ti) (hs : NoSl i := by exact fun _ _ => rfl) : JE X (.Subscript o i pos) (dOp dgetT to ti) := by
  obtain ⟨u, p, g⟩ := ho
  obtain ⟨u', p', g'⟩ := hi
  refine je_pe (pe_dget (hu_of hr) p p' hs) fun ds σ H M Q Q0 s m q kk => ?_
  refine g ds σ H M _ _ s m q fun v H1 d M1 r1 m1 g1 q1 => ?_
  refine g' ds σ H1 M1 _ _ (s.gg m g1) m1 q1 fun w H2 d2 M2 r2 m2 g2 q2 => ?_
  unfold dgetT at q2
  split at q2
  · rename_i kvs k e1 e2
    split at q2
    · rename_i d3 e3
      obtain ⟨a, vs, rfl, h1, r3⟩ := rdT_v m2 (VR.mono (g2.tx m1) _ _ r1) e1
      obtain ⟨z, e4, r4⟩ := r3.valt e3
      obtain ⟨b, rfl, hb⟩ := key_v r2 e2
      exact ⟨a, z, rfl, by rw [← e4]; exact DGet.t h1 hb, kk _ H2 _ M2 r4 m2 (g1.trans g2) q2⟩
    · exact q2.elim
  · exact q2.elim
/-- o[i] = e -/
def dputTS (te to ti : TDE) : TDS := fun D ds M => te ds M fun v M1 => to ds M1 fun x M2 => ti ds M2 fun y M3 => match x, keyT y with
  | .ref a, some k => (match ditOf M3 a with | some kvs => kvs.length < sizeLine ∧ D.nx ds (mup M3 a (.dit (putT kvs k v))) | none => False)
  | _, _ => False
theorem js_dputT {W : WX} (hr : Room k X.A) (ho : JE X o to) (hi : JE X i ti) (he : JE X e te) (hs : swapsWith e (some (.Subscript o i pos')) pos.line X.env = pure false := by rfl) : JS X W (.Assign [.Subscript o i pos'] e pos) (dputTS te to ti) := by
  obtain ⟨u, p, g⟩ := ho
  obtain ⟨u', p', g'⟩ := hi
  obtain ⟨ue, pe, ge⟩ := he
  refine ⟨_, ps_dput (hu_of hr) p p' pe hs, fun M0 H0 D0 D1 l ds σ H M gg s m q => ?_⟩
  refine ge ds σ H M _ _ s m q fun v H1 d M1 r1 m1 g1 q1 => ?_
  refine g ds σ H1 M1 _ _ (s.gg m g1) m1 q1 fun w H2 d2 M2 r2 m2 g2 q2 => ?_
  refine g' ds σ H2 M2 _ _ (s.gg m (g1.trans g2)) m2 q2 fun z H3 d3 M3 r3 m3 g3 q3 => ?_
  split at q3
  · rename_i a k e1
    cases r2.ref_v
    split at q3
    · rename_i kvs e2
      obtain ⟨hz, q3⟩ := q3
      obtain ⟨vs, h1, r4⟩ := m3.ob a _ (of_ditOf e2)
      obtain ⟨b, rfl, hb⟩ := key_v r3 e1
      refine ⟨a, _, rfl, DPut.t h1 hb (by rw [← r4.len]; exact hz), ?_⟩
      have t := TX.put (u := .dT (putK vs k v)) m3 (of_ditOf e2)
      have r1' : VR X.K H3 d v := VR.mono ((g2.trans g3).tx m1) _ _ r1
      have gp : GG M3 H3 (mup M3 a (.dit (putT kvs k d))) (H3.up a (.dT (putK vs k v))) := GG.put (of_ditOf e2)
      exact l.nx σ ds _ _ ((((gg.trans g1).trans g2).trans g3).trans gp) ((s.gg m ((g1.trans g2).trans g3)).gg m3 gp)
        (m3.put (w := .dit (putT kvs k d)) (of_ditOf e2) ⟨_, upd_same, (r4.mono t).putt (VR.mono t _ _ r1')⟩) q3
    · exact q3.elim
  · exact q3.elim
def dDictT : TDE := fun _ M Q => ∀ p, M p = none → Q (.ref p) (mup M p (.dit []))
theorem je_dictT : JE X (.Dict [] [] pos) dDictT := je_pe pe_dnewT fun ds σ H M Q Q0 s m q k p hp => k _ (H.up p _) _ _ (.ref p) (m.new (w := .dit []) hp ⟨[], upd_same, .nil⟩) (GG.new hp) (q p (m.free hp))
/-- k in d -/
theorem op_inTd (hu : X.A.units + 150 < cLine) : OpD X (compareOp .In) (inTQ false) := by
  intro pins s σ H M d e x y v u Q Q0 I m rd re rx ry hq k
  unfold inTQ at hq
  split at hq
  · rename_i kvs kk e1 ek
    simp only [Bool.false_bne] at hq
    obtain ⟨a, ws, rfl, h1, ra⟩ := rdT_v m re e1
    cases ry
    obtain ⟨b, rfl, hb⟩ := key_v rd ek
    refine d_in (by omega) I (DGet.t h1 hb) rx fun s' I' => ⟨.bl _, H.h, I', rfl, ?_⟩
    have : (valV ws kk).isSome = (valT kvs kk).isSome := by
      cases e3 : valT kvs kk with
      | none => rw [ra.valtN e3]; rfl
      | some d3 => obtain ⟨z, e4, _⟩ := ra.valt e3; rw [e4]; rfl
    rw [this]
    exact k _ H _ M (.bl _) m GG.refl hq
  · exact hq.elim
theorem op_ninTd (hu : X.A.units + 150 < cLine) : OpD X (compareOp .NotIn) (inTQ true) := by
  intro pins s σ H M d e x y v u Q Q0 I m rd re rx ry hq k
  unfold inTQ at hq
  split at hq
  · rename_i kvs kk e1 ek
    simp only [Bool.true_bne] at hq
    obtain ⟨a, ws, rfl, h1, ra⟩ := rdT_v m re e1
    cases ry
    obtain ⟨b, rfl, hb⟩ := key_v rd ek
    refine d_notIn (by omega) I (DGet.t h1 hb) rx fun s' I' => ⟨.bl _, H.h, I', rfl, ?_⟩
    have : (valV ws kk).isSome = (valT kvs kk).isSome := by
      cases e3 : valT kvs kk with
      | none => rw [ra.valtN e3]; rfl
      | some d3 => obtain ⟨z, e4, _⟩ := ra.valt e3; rw [e4]; rfl
    rw [this]
    exact k _ H _ M (.bl _) m GG.refl hq
  · exact hq.elim
abbrev inT : DR2 := inTQ false
abbrev notInT : DR2 := inTQ true
theorem je_inT (hr : Room k X.A) (ha : JE X a ta) (hb : JE X b tb) (hm : behindInMarks .In b = false := by rfl) : JE X (.Compare a [.In] [b] pos) (dOp inT ta tb) := je_cmpR (op_inTd (hu150 hr)).opR lift_of ha hb hm
theorem je_notinT (hr : Room k X.A) (ha : JE X a ta) (hb : JE X b tb) (hm : behindInMarks .NotIn b = false := by rfl) : JE X (.Compare a [.NotIn] [b] pos) (dOp notInT ta tb) := je_cmpR (op_ninTd (hu150 hr)).opR lift_of ha hb hm
theorem jt_inT (hr : Room k X.A) (ha : JE X a ta) (hb : JE X b tb) (hm : behindInMarks .In b = false := by rfl) : JT X (.Compare a [.In] [b] pos) (dTest (dOp inT ta tb)) := jt_cmpR (op_inTd (hu150 hr)).opR lift_of ha hb hm
theorem jt_notinT (hr : Room k X.A) (ha : JE X a ta) (hb : JE X b tb) (hm : behindInMarks .NotIn b = false := by rfl) : JT X (.Compare a [.NotIn] [b] pos) (dTest (dOp notInT ta tb)) := jt_cmpR (op_ninTd (hu150 hr)).opR lift_of ha hb hm
end
/-! ### the keys, in order -/
theorem keys_std {K : PySem.W.Frag} {H : HF} : ∀ {kvs : List (List Key × V)} {bs : List Addr}, IsKeys H.h kvs bs → VRs K H (kvs.map fun kv => tkD kv.1) (bs.map V.ref)
  | _, _, .nil => .nil
  | _, _, .cons h t => .cons (vr_key h) (keys_std t)
theorem FR.keysEq {K : PySem.W.Frag} {H : HF} {κ : Type} : ∀ {ds : List (κ × D)} {vs : List (κ × V)}, FR K H ds vs → ds.map (·.1) = vs.map (·.1)
  | _, _, .nil => rfl
  | _, _, .cons _ t => by simp [FR.keysEq t]
def keysTD (kvs : List (List Key × D)) : List D := kvs.map fun kv => tkD kv.1
def rSortDT (K : PySem.W.Frag) : List V → Hp → VK → Prop := fun vs H0 Q0 => ∃ (H : HF) (a : Addr) (ws : List (List Key × V)) (xs : List D), H0 = H.h ∧ vs = [.ref a] ∧ H.h a = some (.dT ws) ∧ xs = (ws.map fun kv => tkD kv.1) ∧ SortOk xs ∧
  ∀ (ys : List V) (p : Addr), H.h p = none → VRs K H (sortD xs) ys → Q0 (.ref p) (upd H.h p (.lst ys))
section
variable {X : Cx}
theorem call_sortDT (hc : X.calm = true) (hu : X.A.units + 150 < cLine) : CallR X (.builtin "sorted") (rSortDT X.K) := by
  intro pins s σ H0 vs us Q I r h
  obtain ⟨H, a, ws, xs, rfl, rfl, hd, rfl, ⟨hp, hdp, hal, hso⟩, q⟩ := h
  rw [Vals.ref1 r]
  obtain ⟨z, hs, ks, pr, o, es, ep, ho, hx, hdt, he, hn⟩ := (show ObjOk X.prog X.w H.h s.heap a (.dT ws) from I.hok a _ hd)
  have l1 : es.size = ks.length := size_of_entries he
  have l2 : ws.length = ks.length := Paired.length pr
  have hk := isKeys_of pr
  have rk : VRs X.K H (ws.map fun kv => tkD kv.1) ((ks.map fun x => x.2.1).map V.ref) := keys_std hk
  have rv := vals_refs (ks.map fun x => x.2.1)
  have hL : (ws.map fun kv => tkD kv.1).length ≤ sizeLine := by rw [List.length_map]; exact z
  have dep : ∀ b ∈ (ws.map fun kv => tkD kv.1), X.A.units + 2 + (toPy b).depth < cLine := fun b hb => by
    have h1 := depth_py b
    obtain ⟨j, hj, rfl⟩ := List.getElem_of_mem hb
    have h2 := depDs_get (List.getElem?_eq_getElem hj)
    omega
  refine sorted_src (enc := toPy) (each_of rk rv) (each_reads I rk rv hp) hal hso hL dep (fun Q' E' hQ' => ?_) fun h' tk out c p k1 hp1 hp2 ho' eo => ?_
  · refine collect_src (kdl_raw hs hx hdt) (I.ok.hd hc) ho (by omega) fun h' tk acc kp sz it => ?_
    have ea : acc.toList = (ks.map fun x => x.2.1).map Value.ref := by
      rw [List.map_map]
      have hl : acc.toList.length = ks.length := by rw [Array.length_toList, it.1]; exact l1
      apply List.ext_getElem?
      intro j
      rw [List.getElem?_map]
      cases hj : acc.toList[j]? with
      | none =>
        have h1 := List.getElem?_eq_none_iff.mp hj
        rw [List.getElem?_eq_none (by omega)]
        all_goals rfl
      | some v =>
        obtain ⟨en, hen, hv⟩ := it.2 j v (by rw [← Array.getElem?_toList]; exact hj)
        have qe := entry_at he j
        rw [hen] at qe
        cases hb : ks[j]? with
        | none =>
          rw [hb] at qe
          exact nomatch (show some en = none from qe)
        | some b =>
          rw [hb] at qe
          have e2 : en = entryOfKey (tupleKind (mixKind X.prog X.w)) b := Option.some.inj qe
          rw [hv, e2]
          all_goals rfl
    rw [ea]
    exact hQ' h' tk kp sz
  · obtain ⟨ys, ry, vy⟩ := each_out eo
    have hlen : ys.length ≤ sizeLine := by rw [vy.length, ho']; exact hL
    have hfree := I.hok.fresh hp1
    refine ⟨.ref _, upd H.h p (.lst ys), I.laid (t' := tk) k1 hp1 ⟨hlen, out, c, vy, hp2⟩, rfl, q ys _ hfree ry⟩
end
/-- sorted of a dict -/
def dSortedT (t : TDA) : TDL := fun ds M Q => t ds M fun xs M1 => match xs with
  | [x] => (match rdT M1 x with | some kvs => SortOk (keysTD kvs) ∧ Q (sortD (keysTD kvs)) M1 | none => False)
  | _ => False
def lenTR (xs : List D) (M : Mm) (Q : DQ) : Prop := match xs with
  | [x] => (match rdT M x with | some kvs => Q (.int kvs.length) M | none => False)
  | _ => False
section
variable {X : Cx} {e : Expr} {es : List Expr} {t : TDA} {p pos : Pos} {k : Nat}
theorem jl_sortedT (hc : X.calm = true) (hr : Room k X.A) (hm : X.mg "sorted" = none) (ha : JA X (e :: es) t) (hg : Gl X "sorted" := by rfl) (he : starEach (e :: es) X.env = (false, eval e X.env) :: starEach es X.env := by rfl) (hpl : (backTo pos (starEach es X.env)).any (·.1) = false := by rfl) :
    JL X (.Call (.Name "sorted" p) (e :: es) [] pos) (dSortedT t) := by
  obtain ⟨u, q, g⟩ := ha
  refine ⟨_, pe_callB (call_sortDT hc (hu150 hr)) hg hm PyProof.Rows.boot_sorted q (by decide) (by decide) he hpl, fun ds σ H M Q Q0 s m q k => ?_⟩
  refine g ds σ H M _ _ s m q fun vs H1 es M1 r1 m1 g1 q1 => ?_
  split at q1
  · split at q1
    · rename_i kvs e
      obtain ⟨v, rfl, r5⟩ := r1.one
      obtain ⟨a, us, rfl, h1, ra⟩ := rdT_v m1 r5 e
      have ek : keysTD kvs = us.map fun kv => tkD kv.1 := by
        have := ra.keysEq
        unfold keysTD
        rw [show (kvs.map fun kv => tkD kv.1) = (kvs.map (·.1)).map tkD by rw [List.map_map]; rfl, this, List.map_map]; rfl
      refine ⟨H1, a, us, keysTD kvs, rfl, rfl, h1, ek, q1.1, fun zs l hl rz => ?_⟩
      exact k l (H1.up l _) _ zs M1 (g1.free hl) upd_same (VRs.mono (TX.new m1 hl) _ _ rz) (m1.free hl) (m1.freeF hl) (m1.newT hl) (g1.trans (GG.newT hl)) q1.2
    · exact q1.elim
  · exact q1.elim
end
section
variable {ds : DSt} {M : Mm} {xs : List D} {a : Addr} {kvs : List (List Key × D)} {k : List Key} {Q : DQ}
def sortedTI (xs : List D) (M1 : Mm) (Q : List D → Mm → Prop) : Prop := match xs with
  | [x] => (match rdT M1 x with | some kvs => SortOk (keysTD kvs) ∧ Q (sortD (keysTD kvs)) M1 | none => False)
  | _ => False
theorem dSortedT_e {t : TDA} {Q : List D → Mm → Prop} : dSortedT t ds M Q = t ds M fun xs M1 => sortedTI xs M1 Q := (rfl)
theorem dDictT_e : dDictT ds M Q = ∀ p, M p = none → Q (.ref p) (mup M p (.dit [])) := (rfl)
def dputTI (x y v : D) (M3 : Mm) (nx : Mm → Prop) : Prop := match x, keyT y with
  | .ref a, some k => (match ditOf M3 a with | some kvs => kvs.length < sizeLine ∧ nx (mup M3 a (.dit (putT kvs k v))) | none => False)
  | _, _ => False
theorem dputTS_e {te to ti : TDE} {D : DEnds} : dputTS te to ti D ds M = te ds M fun v M1 => to ds M1 fun x M2 => ti ds M2 fun y M3 => dputTI x y v M3 fun M4 => D.nx ds M4 := (rfl)
theorem keyT_2s {x y : Str} : keyT (.tup [.str x, .str y]) = some [.inr x, .inr y] := (rfl)
theorem keyT_3s {x y z : Str} : keyT (.tup [.str x, .str y, .str z]) = some [.inr x, .inr y, .inr z] := (rfl)
theorem dputTI_2s {x y : Str} {v : D} {nx : Mm → Prop} : dputTI (.ref a) (.tup [.str x, .str y]) v M nx = someI (ditOf M a) fun kvs => kvs.length < sizeLine ∧ nx (mup M a (.dit (putT kvs [.inr x, .inr y] v))) := by
  unfold dputTI someI
  simp only [keyT_2s]
  cases ditOf M a <;> rfl
theorem dputTI_3s {x y z : Str} {v : D} {nx : Mm → Prop} : dputTI (.ref a) (.tup [.str x, .str y, .str z]) v M nx = someI (ditOf M a) fun kvs => kvs.length < sizeLine ∧ nx (mup M a (.dit (putT kvs [.inr x, .inr y, .inr z] v))) := by
  unfold dputTI someI
  simp only [keyT_3s]
  cases ditOf M a <;> rfl
theorem inT_2s {x y : Str} : inT (.tup [.str x, .str y]) (.ref a) M Q = someI (ditOf M a) fun kvs => Q (.bl (valT kvs [.inr x, .inr y]).isSome) M := by
  unfold inT inTQ someI
  simp only [rdT_ref, keyT_2s]
  cases ditOf M a <;> simp
theorem inT_3s {x y z : Str} : inT (.tup [.str x, .str y, .str z]) (.ref a) M Q = someI (ditOf M a) fun kvs => Q (.bl (valT kvs [.inr x, .inr y, .inr z]).isSome) M := by
  unfold inT inTQ someI
  simp only [rdT_ref, keyT_3s]
  cases ditOf M a <;> simp
theorem notInT_2s {x y : Str} : notInT (.tup [.str x, .str y]) (.ref a) M Q = someI (ditOf M a) fun kvs => Q (.bl (!(valT kvs [.inr x, .inr y]).isSome)) M := by
  unfold notInT inTQ someI
  simp only [rdT_ref, keyT_2s]
  cases ditOf M a <;> simp
theorem notInT_3s {x y z : Str} : notInT (.tup [.str x, .str y, .str z]) (.ref a) M Q = someI (ditOf M a) fun kvs => Q (.bl (!(valT kvs [.inr x, .inr y, .inr z]).isSome)) M := by
  unfold notInT inTQ someI
  simp only [rdT_ref, keyT_3s]
  cases ditOf M a <;> simp
theorem sortedTI_r {Q : List D → Mm → Prop} : sortedTI [.ref a] M Q = someI (ditOf M a) fun kvs => SortOk (keysTD kvs) ∧ Q (sortD (keysTD kvs)) M := by
  unfold sortedTI someI
  simp only [rdT_ref]
  cases ditOf M a <;> rfl
end
end DM

/-! comprehensions over a deck; edges as keys -/
namespace DM
open PySem L2
open PyProof.Rows (b2i)
section
variable {ok : Mm → Prop} {g : TDG} {tt : TDT} {te : TDE} {ds0 : DSt} {Q : List D → Mm → Prop} {d c p : Addr} {r r' n : Nat} {M0 M M' : Mm} {L : List (Addr × MO)} {o o' : MO}
theorem str1R_i {i : Int} {Q : DQ} : str1R [.int i] M Q = (i.natAbs.log2 < 1920 ∧ Q (.str (toString i)) M) := (rfl)
theorem sa_dputT {a b c : TDE} {s : TDS} {D : DEnds} {ds : DSt} (h : ∀ Nx, KEq Nx (s D) → dputTS a b c { D with nx := Nx } ds M) : dSeq (dputTS a b c) s D ds M := h _ fun _ _ h => h
/-- each item with so many draws; it may be left out -/
theorem lcW_B (k : Nat) (P : D → Prop) {xs : List D} (hz : xs.length ≤ sizeLine) (b : Bx d c n M0 L M) (hb : k * xs.length ≤ n) (hok : ∀ n' M', Bx d c n' M0 L M' → ok M')
    (step : ∀ x ∈ xs, ∀ (n' : Nat) (M1 : Mm) (N : D → Mm → Prop) (F : Mm → Prop), Bx d c (n' + k) M0 L M1 → (∀ y M2, P y → Bx d c n' M0 L M2 → N y M2) → (∀ M2, Bx d c n' M0 L M2 → F M2) →
      g x ds0 M1 fun ds' M2 => tt ds' M2 fun k M3 => if k = true then te ds' M3 N else F M3)
    (fin : ∀ ys M', ys.length ≤ xs.length → (∀ y ∈ ys, P y) → Bx d c (n - k * xs.length) M0 L M' → Q ys M') : lcW ok g tt te ds0 Q xs [] M := by
  refine lcW_go (fun i acc M' => acc.length ≤ i ∧ i ≤ xs.length ∧ (∀ y ∈ acc, P y) ∧ Bx d c (n - k * xs.length + k * (xs.length - i)) M0 L M') xs (fun i acc M' h => hok _ _ h.2.2.2) (fun i x N e hN acc M' hI => ?_) (fun acc M' hI => ?_) M ⟨Nat.zero_le _, Nat.zero_le _, by simp, b.mono (by simp; omega)⟩
  · obtain ⟨h1, h2, h3, h4⟩ := hI
    have hlt : i < xs.length := (List.getElem?_eq_some_iff.mp e).1
    have hm : x ∈ xs := List.mem_of_getElem? e
    have b1 : Bx d c (n - k * xs.length + k * (xs.length - (i + 1)) + k) M0 L M' := h4.mono (by rw [show xs.length - i = (xs.length - (i + 1)) + 1 by omega, Nat.mul_add, Nat.mul_one]; omega)
    refine step x hm _ M' (fun y M2 => acc.length < sizeLine ∧ N (acc ++ [y]) M2) _ b1 (fun y M2 py b2 => ⟨by omega, hN _ _ ⟨by simp; omega, hlt, fun z hz => ?_, b2⟩⟩) fun M2 b2 => hN _ _ ⟨by omega, hlt, h3, b2⟩
    rcases List.mem_append.mp hz with hz | hz
    · exact h3 z hz
    · rw [List.mem_singleton.mp hz]; exact py
  · obtain ⟨h1, h2, h3, h4⟩ := hI
    exact fin acc M' h1 h3 (h4.mono (by simp))
/-- each item with so many draws; none is left out -/
theorem lcW_Bk (k : Nat) (P : D → Prop) {xs : List D} (hz : xs.length ≤ sizeLine) (b : Bx d c n M0 L M) (hb : k * xs.length ≤ n) (hok : ∀ n' M', Bx d c n' M0 L M' → ok M')
    (step : ∀ x ∈ xs, ∀ (n' : Nat) (M1 : Mm) (N : D → Mm → Prop) (F : Mm → Prop), Bx d c (n' + k) M0 L M1 → (∀ y M2, P y → Bx d c n' M0 L M2 → N y M2) →
      g x ds0 M1 fun ds' M2 => tt ds' M2 fun k M3 => if k = true then te ds' M3 N else F M3)
    (fin : ∀ ys M', ys.length = xs.length → (∀ y ∈ ys, P y) → Bx d c (n - k * xs.length) M0 L M' → Q ys M') : lcW ok g tt te ds0 Q xs [] M := by
  refine lcW_go (fun i acc M' => acc.length = i ∧ i ≤ xs.length ∧ (∀ y ∈ acc, P y) ∧ Bx d c (n - k * xs.length + k * (xs.length - i)) M0 L M') xs (fun i acc M' h => hok _ _ h.2.2.2) (fun i x N e hN acc M' hI => ?_) (fun acc M' hI => ?_) M ⟨rfl, Nat.zero_le _, by simp, b.mono (by simp; omega)⟩
  · obtain ⟨h1, h2, h3, h4⟩ := hI
    have hlt : i < xs.length := (List.getElem?_eq_some_iff.mp e).1
    have hm : x ∈ xs := List.mem_of_getElem? e
    have b1 : Bx d c (n - k * xs.length + k * (xs.length - (i + 1)) + k) M0 L M' := h4.mono (by rw [show xs.length - i = (xs.length - (i + 1)) + 1 by omega, Nat.mul_add, Nat.mul_one]; omega)
    refine step x hm _ M' (fun y M2 => acc.length < sizeLine ∧ N (acc ++ [y]) M2) _ b1 (fun y M2 py b2 => ⟨by omega, hN _ _ ⟨by simp; omega, hlt, fun z hz => ?_, b2⟩⟩)
    rcases List.mem_append.mp hz with hz | hz
    · exact h3 z hz
    · rw [List.mem_singleton.mp hz]; exact py
  · obtain ⟨h1, h2, h3, h4⟩ := hI
    exact fin acc M' h1 h3 (h4.mono (by simp))
theorem Bx.dit1 {kvs : List (List Key × D)} (b : Bx d c r M0 ((p, .dit kvs) :: L) M) : ditOf M p = some kvs := ditOf_some b.at1
theorem Bx.dit2 {y : Addr × MO} {kvs : List (List Key × D)} (b : Bx d c r M0 (y :: (p, .dit kvs) :: L) M) : ditOf M p = some kvs := ditOf_some b.at2
theorem Bx.doneF {P : D → Prop} {R : DQ} {x y : D} (b : Bx d c n M0 L M) (D0 : Deck M0 d c r') (k : ∀ x M', P x → Deck M' d c r → Upto d c M0 M' → R x M') (hf : ∀ M2 : Mm, (∀ q ∈ L, M2 q.1 = none) → FzD M M2 x y) (hy : P y) (hn : r ≤ n) : Shr R x M :=
  b.finF D0 hf fun M2 D U => k _ M2 hy (D.mono hn) U
end
def edK (e : Ed) : List Key := [.inr e.1, .inr e.2.1, .inr e.2.2]
theorem tkD_ed (e : Ed) : tkD (edK e) = edD e := rfl
theorem edK_inj {e f : Ed} (h : edK e = edK f) : e = f := by
  obtain ⟨a, b, c⟩ := e
  obtain ⟨a', b', c'⟩ := f
  simp only [edK, List.cons.injEq, Sum.inr.injEq, and_true] at h
  obtain ⟨rfl, rfl, rfl⟩ := h
  rfl
/-- a dict of edges, each True -/
def esD (es : List Ed) : List (List Key × D) := es.map fun e => (edK e, .bl true)
def insE (es : List Ed) (e : Ed) : List Ed := if e ∈ es then es else es ++ [e]
theorem insE_mem {es : List Ed} {e f : Ed} : f ∈ insE es e ↔ f ∈ es ∨ f = e := by
  unfold insE
  split
  · exact ⟨.inl, fun h => h.elim id fun h => h ▸ by assumption⟩
  · simp
theorem insE_nodup {es : List Ed} {e : Ed} (h : es.Nodup) : (insE es e).Nodup := by
  unfold insE
  split
  · exact h
  · rw [List.nodup_append]
    refine ⟨h, by simp, fun a ha b hb => ?_⟩
    rw [List.mem_singleton.mp hb]
    rintro rfl
    contradiction
theorem insE_len {es : List Ed} {e : Ed} : (insE es e).length ≤ es.length + 1 := by unfold insE; split <;> simp
theorem esD_any {es : List Ed} {e : Ed} : ((esD es).any fun kv => decide (kv.1 = edK e)) = decide (e ∈ es) := by
  unfold esD
  rw [List.any_map, Bool.eq_iff_iff, List.any_eq_true, decide_eq_true_eq]
  exact ⟨fun ⟨f, hf, h⟩ => edK_inj (of_decide_eq_true h) ▸ hf, fun h => ⟨e, h, decide_eq_true rfl⟩⟩
theorem put_es {es : List Ed} {e : Ed} : putT (esD es) (edK e) (.bl true) = esD (insE es e) := by
  unfold putT
  rw [esD_any]
  unfold insE
  by_cases h : e ∈ es
  · rw [if_pos (decide_eq_true h), if_pos h]
    unfold esD
    rw [List.map_map]
    apply List.map_congr_left
    intro f hf
    simp only [Function.comp]
    split <;> rfl
  · rw [if_neg (by simpa using h), if_neg h]
    simp [esD]
theorem val_es {es : List Ed} {e : Ed} : (valT (esD es) (edK e)).isSome = decide (e ∈ es) := by
  unfold valT
  rw [Option.isSome_map, ← esD_any]
  generalize esD es = l
  induction l with
  | nil => rfl
  | cons x l ih =>
    rw [List.find?_cons, List.any_cons]
    cases decide (x.1 = edK e) with
    | true => rfl
    | false => simpa using ih
theorem keys_es {es : List Ed} : keysTD (esD es) = es.map edD := by
  unfold keysTD esD
  rw [List.map_map]; rfl
theorem esD_len {es : List Ed} : (esD es).length = es.length := by simp [esD]
end DM

/-! targets -/
namespace DM
open PySem L2
open PyProof.Rows (b2i)
def sortE (l : List Ed) : List Ed := l.mergeSort fun a b => leD (edD a) (edD b)
def sortS (l : List Str) : List Str := l.mergeSort fun a b => leD (.str a) (.str b)
theorem sortD_eds (l : List Ed) : sortD (l.map edD) = (sortE l).map edD := sortD_map edD l
theorem sortD_strs (l : List Str) : sortD (l.map D.str) = (sortS l).map D.str := sortD_map D.str l
theorem sortE_perm (l : List Ed) : (sortE l).Perm l := List.mergeSort_perm _ _
theorem sortS_perm (l : List Str) : (sortS l).Perm l := List.mergeSort_perm _ _
theorem sortE_len (l : List Ed) : (sortE l).length = l.length := (sortE_perm l).length_eq
theorem sortS_len (l : List Str) : (sortS l).length = l.length := (sortS_perm l).length_eq
theorem sortE_mem {l : List Ed} {e : Ed} : e ∈ sortE l ↔ e ∈ l := (sortE_perm l).mem_iff
theorem sortS_mem {l : List Str} {e : Str} : e ∈ sortS l ↔ e ∈ l := (sortS_perm l).mem_iff
def tgtD (T : List Ed) (E : List Str) : D := .tup [.tup (T.map edD), .tup (E.map .str)]
/-- a drawn target: edges of places, marks and numbered states, ends -/
structure TgtIn (ps ms ns : List Str) (n : Nat) (T : List Ed) (E : List Str) : Prop where
  nl : ns.length ≤ n
  nf : ∀ s ∈ ns, ∃ k : Nat, s = (toString (k : Int) : String)
  tl : T.length ≤ 2 + 2 * n
  tn : T.Nodup
  t0 : T ≠ []
  ts : ∃ T0, T = sortE T0
  te : ∀ e ∈ T, (e.1 ∈ ps ∨ e.1 ∈ ns) ∧ e.2.1 ∈ ms ∧ e.2.2 ∈ ns
  e0 : E ≠ []
  el : E.length ≤ ps.length + n
  es : ∃ E0, E = sortS E0
  ee : ∀ s ∈ E, s ∈ ps ∨ s ∈ ns
def TgtS (ps ms : List Str) (n : Nat) (x : D) : Prop := ∃ (T : List Ed) (E ns : List Str), x = tgtD T E ∧ TgtIn ps ms ns n T E
theorem sumLR_2 {i j : Int} {M : Mm} {Q : DQ} : sumLR [.int i, .int j] M Q = Q (.int (i + j)) M := by
  have := sumLR_map (f := fun x : Int => x) (l := [i, j]) (M := M) (Q := Q)
  simpa using this
theorem sIx_m1 (n d : Nat) : HT.sIx n d (some (-1)) = n - 1 := by
  show (if ((-1 : Int) < 0) then ((-1 : Int) + (n : Int)).toNat else min (-1 : Int).toNat n) = n - 1
  rw [if_pos (by omega)]; omega
theorem sIx_no (n d : Nat) : HT.sIx n d none = d := rfl
theorem cutL_toM1 {α : Type} (xs : List α) : cutL xs none (some (-1)) = xs.dropLast := by
  unfold cutL
  rw [sIx_m1, sIx_no, List.dropLast_eq_take, List.drop_zero, Nat.sub_zero]
theorem cutL_fromM1 {α : Type} (xs : List α) : cutL xs (some (-1)) none = xs.drop (xs.length - 1) := by
  unfold cutL
  rw [sIx_m1, sIx_no]
  exact List.take_of_length_le (by rw [List.length_drop]; omega)
theorem cutL_midN {α : Type} (xs : List α) (m n : Nat) : cutL xs (some (m : Int)) (some (n : Int)) = (xs.drop m).take (n - m) := cutL_mid xs m n
/-- at a comprehension's end: all that are kept are of a kind -/
theorem all_mapS {ys : List D} {P : Str → Prop} (h : ∀ y ∈ ys, ∃ s, P s ∧ y = .str s) : ∃ l : List Str, ys = l.map D.str ∧ (∀ s ∈ l, P s) ∧ l.length = ys.length := all_map D.str P h
end DM

/-! lines by another hand -/
namespace DM
open PySem L2
open PyProof.Rows (b2i)
section
variable {M : Mm} {a : Addr}
theorem enumI_r {Q : DIt → Mm → Prop} : enumI (.ref a) M Q = someI (lstOf M a) fun xs => Q ⟨enumD 0 xs, fun M' => rdL M' (.ref a) = some xs⟩ M := by
  unfold enumI enumQ someI
  simp only [rdL_ref]
  cases lstOf M a <;> rfl
theorem ix_rl {xs : List D} {x : D} {Q : DQ} (e : lstOf M a = some (xs ++ [x])) (h : Q x M) : ixR (.ref a) (.int (-1)) M Q := by
  unfold ixR
  simp only [e]
  have : L2.atI (xs ++ [x]) (-1) = some x := by
    unfold L2.atI ixN
    rw [if_neg (by decide), if_pos (by simp only [List.length_append, List.length_cons, List.length_nil]; omega), Option.bind_some, List.length_append, List.length_cons, List.length_nil]
    rw [show (-1 + ((xs.length + (0 + 1) : Nat) : Int)).toNat = xs.length by omega, List.getElem?_append_right (Nat.le_refl _), Nat.sub_self]
    rfl
  rw [this]
  exact h
end
instance : Inhabited D := ⟨.non⟩
theorem enumD_range {α : Type} [Inhabited α] (f : α → D) (l : List α) : enumD 0 (l.map f) = (List.range l.length).map fun n => .tup [.int (n : Nat), f (l.getD n default)] := by
  apply List.ext_getElem?
  intro j
  rw [List.getElem?_map]
  by_cases hj : j < l.length
  · rw [List.getElem?_range hj]
    obtain ⟨y, hy⟩ : ∃ y, (enumD 0 (l.map f))[j]? = some y := ⟨_, List.getElem?_eq_getElem (by rw [enumD_len, List.length_map]; exact hj)⟩
    obtain ⟨x, hx, rfl⟩ := enumD_get hy
    rw [List.getElem?_map, List.getElem?_eq_getElem hj] at hx
    cases hx
    rw [hy, Nat.zero_add, Option.map_some, List.getD_eq_getElem?_getD, List.getElem?_eq_getElem hj]
    rfl
  · rw [List.getElem?_eq_none (by rw [enumD_len, List.length_map]; omega), List.getElem?_eq_none (by rw [List.length_range]; omega)]
    rfl
theorem readD_congr {E E' : Nat → Str × Str × Str} : ∀ {ns : List Nat} {s : Str} {ms : List Str}, (∀ n ∈ ns, E n = E' n) → readD E ns s ms = readD E' ns s ms
  | [], _, _, _ => by unfold readD; rfl
  | n :: ns, s, [], _ => by unfold readD; rfl
  | n :: ns, s, m :: ms, h => by
    unfold readD
    rw [h n (by simp), readD_congr (ns := ns) fun k hk => h k (by simp [hk])]
theorem readD_snoc {E : Nat → Str × Str × Str} {n : Nat} {m t : Str} : ∀ {ns : List Nat} {s : Str} {ms : List Str}, ns.length = ms.length → readD E ns s ms = some t → readD E (ns ++ [n]) s (ms ++ [m]) = if (E n).1 = t ∧ (E n).2.1 = m then some (E n).2.2 else none
  | [], s, [], _, h => by
    simp only [readD, Option.some.injEq] at h
    subst h
    simp [readD]
  | k :: ns, s, m' :: ms, e, h => by
    simp only [readD] at h
    simp only [List.cons_append, readD]
    split at h
    · rename_i h1
      rw [if_pos h1]
      exact readD_snoc (by simpa using e) h
    · cases h
  | [], _, _ :: _, e, _ => by simp at e
  | _ :: _, _, [], e, _ => by simp at e
/-- a line: an edge and why -/
abbrev Lp := Ed × D
def lpD (q : Lp) : D := .tup [edD q.1, q.2]
theorem edgeOf_lp {L : List Lp} {n : Nat} {q : Lp} (h : L[n]? = some q) : edgeOf (L.map lpD) n = q.1 := by
  unfold edgeOf
  rw [List.getElem?_map, h]
  rfl
theorem edgeOf_app {L L' : List Lp} {n : Nat} (h : n < L.length) : edgeOf ((L ++ L').map lpD) n = edgeOf (L.map lpD) n := by
  unfold edgeOf
  rw [List.map_append, List.getElem?_append_left (by simpa using h)]
theorem right_congr {P : List Rl} {T : List Ed} {ls ls' : List D} {n : Nat} {x : D} (h : ∀ j < n, edgeOf ls j = edgeOf ls' j) : rightD P T ls n x = rightD P T ls' n x := by
  unfold rightD
  split
  · rfl
  · rename_i a b c r i ns
    split
    · rename_i q hq
      by_cases hn : numsD q.w.length n ns = true
      · obtain ⟨_, _, h3⟩ := nums_of hn
        rw [readD_congr (E := edgeOf ls) (E' := edgeOf ls') fun k hk => h k (by have := h3 k hk; omega)]
      · simp [Bool.eq_false_iff.mpr hn]
    · rfl
  · rfl
/-- lines that are right -/
def LpOk (P : List Rl) (T : List Ed) (L : List Lp) : Prop := ∀ n q, L[n]? = some q → rightD P T (L.map lpD) n (lpD q) = true ∧ pureD q.2 = true ∧ depD q.2 ≤ 6
theorem LpOk.nil {P : List Rl} {T : List Ed} : LpOk P T [] := fun n q h => by simp at h
theorem LpOk.snoc {P : List Rl} {T : List Ed} {L : List Lp} {q : Lp} (h : LpOk P T L) (h1 : rightD P T (L.map lpD) L.length (lpD q) = true) (h2 : pureD q.2 = true) (h3 : depD q.2 ≤ 6) : LpOk P T (L ++ [q]) := by
  intro n q' e
  by_cases hn : n < L.length
  · rw [List.getElem?_append_left hn] at e
    obtain ⟨a, b, c⟩ := h n q' e
    refine ⟨?_, b, c⟩
    rw [right_congr (ls' := L.map lpD) fun j hj => edgeOf_app (by omega)]
    exact a
  · have hlt := (List.getElem?_eq_some_iff.mp e).1
    have hn : n = L.length := by simp at hlt; omega
    subst hn
    rw [List.getElem?_append_right (Nat.le_refl _), Nat.sub_self] at e
    cases e
    refine ⟨?_, h2, h3⟩
    rw [right_congr (ls' := L.map lpD) fun j hj => edgeOf_app (by omega)]
    exact h1
theorem LpOk.all {P : List Rl} {T : List Ed} {L : List Lp} (h : LpOk P T L) : allRightD P T (L.map lpD) = true := by
  rw [allRight_iff]
  intro j hj x hx
  rw [List.getElem?_map] at hx
  obtain ⟨q, hq, rfl⟩ := Option.map_eq_some_iff.mp hx
  exact (h j q hq).1
theorem right_told {P : List Rl} {T : List Ed} {ls : List D} {n : Nat} {e : Ed} (h : e ∈ T) : rightD P T ls n (lpD (e, .tup [.str "told"])) = true := by
  obtain ⟨a, b, c⟩ := e
  simp [rightD, lpD, edD, h]
theorem nums_nat {ns : List Nat} {m n : Nat} (h : ns.length = m) (hn : ∀ k ∈ ns, k < n) : numsD m n (.tup (ns.map natD)) = true := by
  simp only [numsD, List.length_map, h, decide_true, Bool.true_and]
  rw [List.all_eq_true]
  intro x hx
  obtain ⟨k, hk, rfl⟩ := List.mem_map.mp hx
  have := hn k hk
  simp only [natD, isNumD, Bool.and_eq_true, decide_eq_true_eq]
  omega
theorem numsOf_nat {ns : List Nat} : numsOf (.tup (ns.map natD)) = ns := by
  simp only [numsOf, List.map_map]
  refine Eq.trans (List.map_congr_left (g := id) fun k _ => ?_) (List.map_id ns)
  simp [natD]
theorem right_rule {P : List Rl} {T : List Ed} {ls : List D} {n r : Nat} {q : Rl} {ns : List Nat} {t : Str} (hr : P[r]? = some q) (h : ns.length = q.w.length) (hn : ∀ k ∈ ns, k < n) (hd : readD (edgeOf ls) ns q.o q.w = some t) :
    rightD P T ls n (lpD ((q.p, q.m, t), .tup [.str "rule", .int r, .tup (ns.map natD)])) = true := by
  have hlt := (List.getElem?_eq_some_iff.mp hr).1
  simp only [rightD, lpD, edD, Int.toNat_natCast, hr, nums_nat h hn, numsOf_nat, hd, isNumD]
  simp
  omega
theorem papOk_lp {P : List Rl} {T : List Ed} {L : List Lp} {w : List Str} {way : D} (h1 : P.length ≤ 5000) (h2 : ∀ r ∈ P, r.w.length ≤ 5000) (h3 : T.length ≤ 5000) (h4 : w.length ≤ 5000) (h5 : L.length ≤ 5000) (h6 : ∀ q ∈ L, pureD q.2 = true ∧ depD q.2 ≤ 6) (h7 : ElP way) : PapOk P T w (.tup (L.map lpD)) way where
  pl := h1
  pw := h2
  tl := h3
  wl := h4
  lp := by
    simp only [pureD]
    exact all_pure fun x hx => by
      obtain ⟨q, hq, rfl⟩ := List.mem_map.mp hx
      simp [lpD, edD, pureD, pureDs, (h6 q hq).1]
  ll := fun ls e => by cases e; simpa using h5
  lk := fun ls e x hx => by
    cases e
    obtain ⟨q, hq, rfl⟩ := List.mem_map.mp hx
    have := h6 q hq
    exact .of (by simp [lpD, edD, pureD, pureDs, this.1]) (by simp only [lpD, edD, depD, depDs]; omega)
  ln := fun ls e x hx => by
    cases e
    obtain ⟨q, hq, rfl⟩ := List.mem_map.mp hx
    exact LnK.line
  wk := h7
theorem elP_nats {ns : List Nat} : ElP (.tup (ns.map natD)) := by
  have h : depDs (ns.map natD) ≤ 0 + 1 := by rw [dep_nats]; trivial
  exact .of (by simp only [pureD]; exact pu_nats) (by simp only [depD]; omega)
theorem paper_good {P : List Rl} {T : List Ed} {E : List Str} {L : List Lp} {ns : List Nat} {s t : Str} {w : List Str} (ok : LpOk P T L) (h1 : w.length = ns.length) (h2 : ∀ k ∈ ns, k < L.length) (h3 : readD (edgeOf (L.map lpD)) ns s w = some t) :
    paperD P T E s w (.tup (ns.map natD)) (.tup (L.map lpD)) = decide (t ∈ E) := by
  have h4 := nums_nat (ns := ns) (m := w.length) (n := L.length) h1.symm h2
  simp only [paperD, ok.all, Bool.true_and, List.length_map, h4, numsOf_nat, h3, endsIn]
theorem paper_bad {P : List Rl} {T : List Ed} {E : List Str} {ls : List D} {s : Str} {w : List Str} {way x : D} {j : Nat} (h : ls[j]? = some x) (h2 : rightD P T ls j x = false) : paperD P T E s w way (.tup ls) = false := by
  have : allRightD P T ls = false := Bool.eq_false_iff.mpr fun h' => by
    rw [allRight_iff.mp h' j (List.getElem?_eq_some_iff.mp h).1 x h] at h2
    cases h2
  simp [paperD, this]
end DM

/-! sets, by what stands in them after so many items -/
namespace DM
open PySem PySem.Spec PyProof.Rows L2
section
variable {P : Program} {w : World} {A : Around} {E : Value → Shared → Prop} {s : Shared}
/-- how one more item is put in -/
def AddsTo (P : Program) (w : World) (S : Addr) (n : Nat) (items : Array Value) (J : Nat → Heap → Prop) (h0 : Heap) : Prop :=
  ∀ (B : Around) (i : Nat) (v : Value) (t : Shared) (Q : Bool → Shared → Prop) (F : Value → Shared → Prop), i < n → items[i]? = some v → J i t.heap → (∀ b o, h0.get? b = some o → t.heap.get? b = some o) →
    (∀ (b : Bool) (h' : Heap) (tk : Nat), Heap.SameBut S t.heap h' → t.toks ≤ tk → J (i + 1) h' → Q b { t with heap := h', toks := tk }) → wpAny (model P w) B (setAdd S v) Q F t
theorem set_loop {I : Addr} {fp wr : List Addr} {G : Array GenState → Array GenState → Prop} {n : Nat} {items : Array Value} {St : Nat → Shared → Prop} {R : Result → Shared → Prop} {J : Nat → Heap → Prop} {h0 : Heap} {S : Addr}
    (W : WalksS P w A.in1 I fp wr G n (fun i v => items[i]? = some v) St) (nf : S ∉ fp) (new : ∀ b ∈ S :: wr, h0.get? b = none)
    (keep : ∀ (i : Nat) (h h' : Heap), J i h → (∀ o, h.get? S = some o → h'.get? S = some o) → (∀ b o, h0.get? b = some o → h'.get? b = some o) → J i h') (add : AddsTo P w S n items J h0) :
    ∀ (k i : Nat) (t : Shared), n - i = k → i ≤ n → St i t → J i t.heap → (∀ b o, h0.get? b = some o → t.heap.get? b = some o) →
      (∀ t', Moved (S :: wr) G t t' → J n t'.heap → (∀ b o, h0.get? b = some o → t'.heap.get? b = some o) → R (.ok (.ret .none)) t') → codeAny (model P w) A (.builtin "set.update.loop" ⟨[.ref S, .ref I], []⟩) R t := by
  have sw : S ∉ wr := fun hm => nf (W.sub _ hm)
  have old : ∀ {t t' : Shared}, Moved wr G t t' → (∀ b o, h0.get? b = some o → t.heap.get? b = some o) → ∀ b o, h0.get? b = some o → t'.heap.get? b = some o := fun mv ok b o e =>
    mv.heap b o (fun hb => by have := new b (List.mem_cons_of_mem _ hb); rw [this] at e; cases e) (ok b o e)
  intro k
  induction k with
  | zero =>
    intro i t e1 e2 st j ok fin
    obtain rfl : i = n := by omega
    refine codeAny_builtin F.entry_set_update_loop ?_
    rw [Around.under_plainId F.plain_set_update_loop _]
    show wpAny _ A.in1 (pyNext (.ref I) >>= _) _ _ t
    refine wpAny_bind (W.done t _ _ st fun t' mv => ?_)
    show wpAny _ A.in1 (ret Value.none) _ _ t'
    exact wpAny_pure (fin t' (mv.mono fun b hb => List.mem_cons_of_mem _ hb) (keep _ _ _ j (fun o e => mv.heap S o sw e) (old mv ok)) (old mv ok))
  | succ k ih =>
    intro i t e1 e2 st j ok fin
    have lt : i < n := by omega
    refine codeAny_builtin F.entry_set_update_loop ?_
    rw [Around.under_plainId F.plain_set_update_loop _]
    show wpAny _ A.in1 (pyNext (.ref I) >>= _) _ _ t
    refine wpAny_bind (W.item i t _ _ lt st fun v t' hv st' mv => ?_)
    have j' := keep _ _ _ j (fun o e => mv.heap S o sw e) (old mv ok)
    show wpAny _ A.in1 (holding [v] (setAdd S v) >>= _) _ _ t'
    refine wpAny_bind (wpAny_holding (add A.in1 i v t' _ _ lt hv j' (old mv ok) fun b h' tk sb ht j2 => ?_))
    have ok2 : ∀ b o, h0.get? b = some o → h'.get? b = some o := fun b o e =>
      (sb.2 b (fun z => by have := new b (by simp [z]); rw [this] at e; cases e)).trans (old mv ok b o e)
    refine wpAny_pure ⟨plainId_quiet F.plain_set_update_loop _, ih (i + 1) _ (by omega) lt (W.frame _ t' _ _ st' ht fun b hb o e => ?_) j2 ok2 fun t'' mv2 j3 ok3 => ?_⟩
    · exact (sb.2 b (fun z => nf (z ▸ hb))).trans e
    · refine fin t'' (Moved.trans W.gtrans ((mv.mono fun b hb => List.mem_cons_of_mem _ hb).then_heap ht fun b o hb e => ?_) mv2) j3 ok3
      exact (sb.2 b (fun z => hb (by rw [z]; exact List.mem_cons_self))).trans e
/-- an empty set -/
def set0 (w : World) : Obj := { cls := .type "set", dict := none, data := .set #[] 0 (.fresh 0 0 (!w.params.followText "set-order")) }
set_option maxHeartbeats 4000000 in
theorem set_of_list {l : Addr} {items : Array Value} {J : Nat → Heap → Prop} {Q : Value → Shared → Prop} (hh : A.handled = none) (hl : s.heap.IsList l items)
    (keep : ∀ (i : Nat) (h h' : Heap), J i h → (∀ o, h.get? s.heap.objs.size = some o → h'.get? s.heap.objs.size = some o) → (∀ b o, s.heap.get? b = some o → h'.get? b = some o) → J i h')
    (j0 : ∀ h, h.get? s.heap.objs.size = some (set0 w) → J 0 h) (add : AddsTo P w s.heap.objs.size items.size items J s.heap)
    (fin : ∀ (h' : Heap) (tk : Nat), J items.size h' → (∀ b o, s.heap.get? b = some o → h'.get? b = some o) → Q (.ref s.heap.objs.size) { s with heap := h', toks := tk }) :
    wpAny (model P w) A (call (.type "set") [.ref l]) Q E s := by
  obtain ⟨c, tl, hmro⟩ := F.called_set.mro
  have q1 := F.called_set.made
  have q2 := F.called_set.sub
  refine wpAny_call (codeAny_of_tree ?_)
  show wpAny _ _ (callAny (.type "set") _) _ _ _
  refine wpAny_pure ⟨Code.quiet_builtin _ (by decide +kernel), codeAny_builtin F.entry_type_call ?_⟩
  rw [Around.under_plain (weight_type_call_type "set" [.ref l] []) rfl]
  have q3 := F.called_set.notType
  have q4 := F.called_set.canCreate
  have q5 := F.typeCall_set_1 (.ref l)
  repeat (any_goals (first | assumption | wp_step))
  refine codeAny_mono (code_set_led1 (.ref l) (E := E) (Q₁ := fun z t => z = .ref s.heap.objs.size ∧ t = { s with heap := s.heap.push (set0 w) }) ⟨rfl, rfl⟩) fun r t hr => ?_
  rcases r with e | fl
  · exact hr
  cases fl with
  | ret z =>
    obtain ⟨rfl, rfl⟩ := hr
    have at1 : (s.heap.push (set0 w)).get? s.heap.objs.size = some (set0 w) := Heap.get?_push_size _ rfl
    have ty1 : Shared.TypeIs { s with heap := s.heap.push (set0 w) } (.ref s.heap.objs.size) "set" := ⟨_, at1, rfl⟩
    have q6 := F.called_set.init.lookup
    have q7 := F.called_set.init.bind (.ref s.heap.objs.size)
    repeat (any_goals (first | assumption | wp_step))
    refine codeAny_mono (codeAny_call_builtin (R := wants (fun r t => r = .none ∧ ∃ h' tk, t = { s with heap := h', toks := tk } ∧ J items.size h' ∧ ∀ b o, s.heap.get? b = some o → h'.get? b = some o) E) F.called_set.init.plain F.entry_set_init (check_set_init_1 ty1 ?_)) fun r t hr => ?_
    · obtain ⟨ol, al, cl, nl, dl⟩ := hl
      obtain ⟨_, od, _, os⟩ := ol
      simp only at cl dl
      subst cl dl
      have al' : (s.heap.push (set0 w)).get? l = some { cls := .type "list", dict := od, data := .seq items nl, slots := os } := Heap.get?_push_of_some _ al
      have q8 := F.sub_list_set
      have q9 := F.sub_list_frozenset
      have q10 : (Value.type "list" == Value.type "dict") = false := by decide
      have il : (s.heap.push (set0 w)).IsList l items := ⟨_, al', rfl, nl, rfl⟩
      have ls : l < s.heap.objs.size := Heap.lt_size al
      unfold Builtin.«set.__init__» noKeywords Builtin.Frozenset.updateFrom
      generalize hPI : pyIter = PI
      wp_walk
      subst hPI
      refine wpAny_pyIter_list il ?_
      refine wpAny_bind (wpAny_runValue ?_)
      have sz : (s.heap.push (set0 w)).objs.size = s.heap.objs.size + 1 := Heap.size_push ..
      have none_of : ∀ b, s.heap.objs.size ≤ b → s.heap.get? b = none := fun b hb => by
        cases q : s.heap.get? b with
        | none => rfl
        | some o => exact absurd (Nat.lt_of_lt_of_le (Heap.lt_size q) hb) (Nat.lt_irrefl _)
      refine set_loop (h0 := s.heap) (J := J) ((Walks.list (by simp [hh]) _ l (by rw [sz]; exact Nat.ne_of_lt (Nat.lt_succ_of_lt ls)) items).toS)
        (by rw [sz]; simp only [List.mem_cons, List.not_mem_nil, or_false, not_or]; exact ⟨Nat.ne_of_lt (Nat.lt_succ_self _), Nat.ne_of_gt ls⟩)
        (fun b hb => none_of b (by rw [sz] at hb; rcases List.mem_cons.mp hb with z | z; exact Nat.le_of_eq z.symm; rw [List.mem_singleton.mp z]; exact Nat.le_succ _)) keep add (items.size - 0) 0 _ rfl (Nat.zero_le _)
        ⟨⟨_, Heap.get?_push_size _ rfl, rfl, rfl⟩, il.push _⟩ (j0 _ (Heap.get?_push_of_some _ at1)) (fun b o e => Heap.get?_push_of_some _ (Heap.get?_push_of_some _ e)) fun t' mv j ok => ?_
      obtain ⟨h', g2, d', tk', os'⟩ := t'
      obtain rfl : g2 = s.gens := mv.gens
      obtain rfl : d' = s.drawn := mv.drawn
      obtain rfl : os' = s.os := mv.os
      show wpAny _ _ _ _ _ _
      refine wpAny_pure ?_
      show wpAny _ _ (ret Value.none) _ _ _
      exact wpAny_pure ⟨rfl, h', tk', rfl, j, ok⟩
    · rcases r with e | fl2
      · exact hr
      cases fl2 with
      | ret r =>
        obtain ⟨rfl, h', tk, rfl, j, ok⟩ := hr
        repeat (any_goals (first | assumption | wp_step))
        exact fin _ _ j ok
      | _ => exact hr.elim
  | _ => exact hr.elim
set_option maxHeartbeats 4000000 in
theorem set_of_tup {l : Addr} {items : Array Value} {J : Nat → Heap → Prop} {Q : Value → Shared → Prop} (hh : A.handled = none) (hl : s.heap.IsTuple l items)
    (keep : ∀ (i : Nat) (h h' : Heap), J i h → (∀ o, h.get? s.heap.objs.size = some o → h'.get? s.heap.objs.size = some o) → (∀ b o, s.heap.get? b = some o → h'.get? b = some o) → J i h')
    (j0 : ∀ h, h.get? s.heap.objs.size = some (set0 w) → J 0 h) (add : AddsTo P w s.heap.objs.size items.size items J s.heap)
    (fin : ∀ (h' : Heap) (tk : Nat), J items.size h' → (∀ b o, s.heap.get? b = some o → h'.get? b = some o) → Q (.ref s.heap.objs.size) { s with heap := h', toks := tk }) :
    wpAny (model P w) A (call (.type "set") [.ref l]) Q E s := by
  obtain ⟨c, tl, hmro⟩ := F.called_set.mro
  have q1 := F.called_set.made
  have q2 := F.called_set.sub
  refine wpAny_call (codeAny_of_tree ?_)
  show wpAny _ _ (callAny (.type "set") _) _ _ _
  refine wpAny_pure ⟨Code.quiet_builtin _ (by decide +kernel), codeAny_builtin F.entry_type_call ?_⟩
  rw [Around.under_plain (weight_type_call_type "set" [.ref l] []) rfl]
  have q3 := F.called_set.notType
  have q4 := F.called_set.canCreate
  have q5 := F.typeCall_set_1 (.ref l)
  repeat (any_goals (first | assumption | wp_step))
  refine codeAny_mono (code_set_led1 (.ref l) (E := E) (Q₁ := fun z t => z = .ref s.heap.objs.size ∧ t = { s with heap := s.heap.push (set0 w) }) ⟨rfl, rfl⟩) fun r t hr => ?_
  rcases r with e | fl
  · exact hr
  cases fl with
  | ret z =>
    obtain ⟨rfl, rfl⟩ := hr
    have at1 : (s.heap.push (set0 w)).get? s.heap.objs.size = some (set0 w) := Heap.get?_push_size _ rfl
    have ty1 : Shared.TypeIs { s with heap := s.heap.push (set0 w) } (.ref s.heap.objs.size) "set" := ⟨_, at1, rfl⟩
    have q6 := F.called_set.init.lookup
    have q7 := F.called_set.init.bind (.ref s.heap.objs.size)
    repeat (any_goals (first | assumption | wp_step))
    refine codeAny_mono (codeAny_call_builtin (R := wants (fun r t => r = .none ∧ ∃ h' tk, t = { s with heap := h', toks := tk } ∧ J items.size h' ∧ ∀ b o, s.heap.get? b = some o → h'.get? b = some o) E) F.called_set.init.plain F.entry_set_init (check_set_init_1 ty1 ?_)) fun r t hr => ?_
    · obtain ⟨ol, al, cl, nl, dl⟩ := hl
      obtain ⟨_, od, _, os⟩ := ol
      simp only at cl dl
      subst cl dl
      have al' : (s.heap.push (set0 w)).get? l = some { cls := .type "tuple", dict := od, data := .seq items nl, slots := os } := Heap.get?_push_of_some _ al
      have q8 := F.sub_tuple_set
      have q9 := F.sub_tuple_frozenset
      have q10 : (Value.type "tuple" == Value.type "dict") = false := by decide
      have il : (s.heap.push (set0 w)).IsTuple l items := ⟨_, al', rfl, nl, rfl⟩
      have ls : l < s.heap.objs.size := Heap.lt_size al
      unfold Builtin.«set.__init__» noKeywords Builtin.Frozenset.updateFrom
      generalize hPI : pyIter = PI
      wp_walk
      subst hPI
      refine wpAny_pyIter_tuple il ?_
      refine wpAny_bind (wpAny_runValue ?_)
      have sz : (s.heap.push (set0 w)).objs.size = s.heap.objs.size + 1 := Heap.size_push ..
      have none_of : ∀ b, s.heap.objs.size ≤ b → s.heap.get? b = none := fun b hb => by
        cases q : s.heap.get? b with
        | none => rfl
        | some o => exact absurd (Nat.lt_of_lt_of_le (Heap.lt_size q) hb) (Nat.lt_irrefl _)
      refine set_loop (h0 := s.heap) (J := J) ((Walks.tuple (by simp [hh]) _ l (by rw [sz]; exact Nat.ne_of_lt (Nat.lt_succ_of_lt ls)) items).toS)
        (by rw [sz]; simp only [List.mem_cons, List.not_mem_nil, or_false, not_or]; exact ⟨Nat.ne_of_lt (Nat.lt_succ_self _), Nat.ne_of_gt ls⟩)
        (fun b hb => none_of b (by rw [sz] at hb; rcases List.mem_cons.mp hb with z | z; exact Nat.le_of_eq z.symm; rw [List.mem_singleton.mp z]; exact Nat.le_succ _)) keep add (items.size - 0) 0 _ rfl (Nat.zero_le _)
        ⟨⟨_, Heap.get?_push_size _ rfl, rfl, rfl⟩, il.push _⟩ (j0 _ (Heap.get?_push_of_some _ at1)) (fun b o e => Heap.get?_push_of_some _ (Heap.get?_push_of_some _ e)) fun t' mv j ok => ?_
      obtain ⟨h', g2, d', tk', os'⟩ := t'
      obtain rfl : g2 = s.gens := mv.gens
      obtain rfl : d' = s.drawn := mv.drawn
      obtain rfl : os' = s.os := mv.os
      show wpAny _ _ _ _ _ _
      refine wpAny_pure ?_
      show wpAny _ _ (ret Value.none) _ _ _
      exact wpAny_pure ⟨rfl, h', tk', rfl, j, ok⟩
    · rcases r with e | fl2
      · exact hr
      cases fl2 with
      | ret r =>
        obtain ⟨rfl, h', tk, rfl, j, ok⟩ := hr
        repeat (any_goals (first | assumption | wp_step))
        exact fin _ _ j ok
      | _ => exact hr.elim
  | _ => exact hr.elim
end
end DM

/-! sets of numbers and texts: set(xs), sorted of it, how many -/
namespace DM
open PySem PySem.Spec PyProof.Rows L2
def keyM : Value → Key
  | .int k _ => .inl k
  | .str x _ => .inr x
  | _ => .inl 0
theorem keyM_is {k : Key} {v : Value} (h : keyIs k v = true) : keyM v = k := by
  rcases keyIs_shape h with ⟨i, t, rfl, rfl⟩ | ⟨x, t, rfl, rfl⟩ <;> rfl
theorem scan_is {k : Key} {v : Value} (h : keyIs k v = true) : v.scannable = true := by
  rcases keyIs_shape h with ⟨i, t, rfl, rfl⟩ | ⟨x, t, rfl, rfl⟩ <;> rfl
def OkM (w : World) (e : Int × Value) : Prop := keyIs (keyM e.2) e.2 = true ∧ e.1 = keyH w (keyM e.2)
def km (e : Int × Value) : Key := keyM e.2
/-- the set at a: its members in some order -/
structure SetIn (w : World) (ks : List Key) (o : Obj) (es : Array (Int × Value)) (ep : Nat) (t : SetTable) : Prop where
  ex : o.ExactSet
  dt : o.data = .set es ep t
  ok : ∀ e ∈ es.toList, OkM w e
  pm : (es.toList.map km).Perm ks
  nd : ks.Nodup
  sz : es.size < scanBound
  ft : t.fits es.size = true
  rs : Ris t.place.toList
  ld : w.params.followText "set-order" = true ∨ t.led = true
def SetM (w : World) (h : Heap) (a : Addr) (ks : List Key) : Prop := ∃ o es ep t, h.get? a = some o ∧ SetIn w ks o es ep t
section
variable {P : Program} {w : World} {A : Around} {E : Value → Shared → Prop} {s : Shared} {a : Addr} {ks : List Key}
theorem okM_elems {l : List (Int × Value)} (g : ∀ e ∈ l, OkM w e) : ElemsOf (mixKind P w) l := fun e he => ⟨⟨km e, (g e he).1, (g e he).2⟩, scan_is (g e he).1⟩
theorem okM_iff {e : Int × Value} (g : OkM w e) (k : Key) : (mixKind P w).is k e.2 = true ↔ km e = k := ⟨fun h => keyM_is h, fun h => h ▸ g.1⟩
theorem SetM.keep {h h' : Heap} (R : SetM w h a ks) (e : ∀ o, h.get? a = some o → h'.get? a = some o) : SetM w h' a ks := let ⟨o, es, ep, t, ho, r⟩ := R; ⟨o, es, ep, t, e o ho, r⟩
theorem SetIn.len {o : Obj} {es : Array (Int × Value)} {ep : Nat} {t : SetTable} (R : SetIn w ks o es ep t) : es.size = ks.length := by
  rw [← R.pm.length_eq, List.length_map, Array.length_toList]
/-- what storing leaves behind -/
theorem setM_tail {g : Bool → Sem Unit} (hg : ∀ (b : Bool) (s₁ : Shared) (Q' : Unit → Shared → Prop), Q' () s₁ → wpAny (model P w) A (g b) Q' E s₁)
    {o : Obj} {es : Array (Int × Value)} {ep : Nat} {t : SetTable} (ho : s.heap.get? a = some o) (hd : o.data = .set es ep t) {es1 : Array (Int × Value)} {t2 : SetTable} (R1 : ∀ o', o'.ExactSet → ∀ ep', o'.data = .set es1 ep' t2 → SetIn w ks o' es1 ep' t2) (hx : o.ExactSet)
    {wd : Bool} {R : Option Bool → Shared → Prop} (fin : ∀ h', Heap.SameBut a s.heap h' → SetM w h' a ks → R (some true) { s with heap := h' }) :
    wpAny (model P w) A (do
        storeSet a es1 t2
        if (!wd && t2.tooFull) = true then do
            g (relayAll t2 es1 (SetTable.grown es1.size)).2.2
            storeSet a (relayAll t2 es1 (SetTable.grown es1.size)).1 (relayAll t2 es1 (SetTable.grown es1.size)).2.1
            pure (some true)
          else pure (some true)) R E s := by
  have o1 := store_at (es' := es1) (t' := t2) ho hd
  have n1 : ({ o with data := .set es1 (ep + 1) t2 } : Obj).ExactSet := hx
  have r1 := R1 _ n1 (ep + 1) rfl
  have b1 : es1.size ≤ sizeLine := fits_of_scanBound r1.sz
  refine wpAny_bind (wpAny_storeSet_of ho hd ?_ b1)
  have c1 := Heap.SameBut.update s.heap a (Obj.putSet es1 t2)
  split
  · have pm := relayAll_perm t2 es1 (SetTable.grown es1.size)
    have ft := relayAll_fits t2 es1 (SetTable.grown es1.size)
    have rs := relayAll_ris t2 es1 (SetTable.grown es1.size)
    have ld := relayAll_led t2 es1 (SetTable.grown es1.size)
    revert pm ft rs ld
    generalize relayAll t2 es1 (SetTable.grown es1.size) = Z
    obtain ⟨es2, t3, gv⟩ := Z
    intro pm ft rs ld
    have z2 : es2.size = es1.size := by rw [← Array.length_toList, pm.length_eq, Array.length_toList]
    refine wpAny_bind (hg _ _ _ (wpAny_bind (wpAny_storeSet_of o1 rfl ?_ (by rw [z2]; exact b1))))
    have o2 := store_at (es' := es2) (t' := t3) o1 rfl
    refine wpAny_pure (fin _ (c1.trans (Heap.SameBut.update _ a _)) ⟨_, es2, ep + 1 + 1, t3, o2, ?_⟩)
    exact { ex := n1, dt := rfl, ok := fun e he => r1.ok e (pm.mem_iff.mp he), pm := (pm.map km).trans r1.pm, nd := r1.nd, sz := by rw [z2]; exact r1.sz, ft := ft, rs := rs, ld := r1.ld.imp id fun z => ld.trans z }
  · exact wpAny_pure (fin _ c1 ⟨_, es1, _, t2, o1, r1⟩)
open Classical in
/-- one more member -/
noncomputable def addK (ks : List Key) (k : Key) : List Key := if k ∈ ks then ks else k :: ks
theorem addK_mem {ks : List Key} {k j : Key} : j ∈ addK ks k ↔ j = k ∨ j ∈ ks := by
  unfold addK
  split
  · exact ⟨.inr, fun h => h.elim (fun h => h ▸ by assumption) id⟩
  · simp
theorem addK_nodup {ks : List Key} {k : Key} (h : ks.Nodup) : (addK ks k).Nodup := by
  unfold addK
  split
  · exact h
  · exact List.nodup_cons.mpr ⟨by assumption, h⟩
theorem addK_len {ks : List Key} {k : Key} : (addK ks k).length ≤ ks.length + 1 := by unfold addK; split <;> simp
theorem setM_add {k : Key} {x : Value} {Q : Bool → Shared → Prop} (hk : keyIs k x = true) (R : SetM w s.heap a ks) (room : ks.length + 1 < scanBound)
    (fin : ∀ b h', Heap.SameBut a s.heap h' → SetM w h' a (addK ks k) → Q b { s with heap := h' }) : wpAny (model P w) A (setAddHashed a x ((mixKind P w).hash k)) Q E s := by
  obtain ⟨o, es, ep, t, ho, r⟩ := R
  have hsc := scan_is hk
  have hel : ElemsOf (mixKind P w) es.toList := okM_elems r.ok
  unfold setAddHashed setAddHashedIn
  refine wpAny_holding (wpAny_bind (wpAny_setState_of ho r.dt r.ft ?_))
  dsimp only
  rw [byScan_of hsc r.sz hel]
  simp only [↓reduceIte]
  unfold setAddByScan
  refine wpAny_bind (wpAny_bind (wpAny_rule (wpAny_bind (wpAny_setScan_of hk ho r.dt r.ft hel ?_))))
  cases hf : List.findIdx? (fun e => (mixKind P w).is k e.2) es.toList with
  | some j =>
    obtain ⟨hj, pj, _⟩ := List.findIdx?_eq_some_iff_getElem.mp hf
    have hm : k ∈ ks := r.pm.mem_iff.mp (List.mem_map.mpr ⟨es.toList[j], List.getElem_mem hj, (okM_iff (P := P) (r.ok _ (List.getElem_mem hj)) k).mp pj⟩)
    dsimp only
    refine wpAny_pure (wpAny_pure (fin _ s.heap (Heap.SameBut.refl a s.heap) ⟨o, es, ep, t, ho, ?_⟩))
    rw [addK, if_pos hm]
    exact r
  | none =>
    have hm : k ∉ ks := fun hm => by
      obtain ⟨e, he, q⟩ := List.mem_map.mp (r.pm.mem_iff.mpr hm)
      have c := List.findIdx?_eq_none_iff.mp hf e he
      rw [(okM_iff (P := P) (r.ok e he) k).mpr q] at c
      cases c
    have pm := layNew_perm t es ((mixKind P w).hash k) x
    have ft := layNew_fits t es ((mixKind P w).hash k) x
    have rs := layNew_ris t es ((mixKind P w).hash k) x r.rs
    have ld := layNew_led t es ((mixKind P w).hash k) x
    dsimp only
    revert pm ft rs ld
    generalize layNew t es ((mixKind P w).hash k) x = Z
    obtain ⟨es1, t1, wd, gv⟩ := Z
    intro pm ft rs ld
    rw [Array.toList_push] at pm
    have pc : es1.toList.Perm (((mixKind P w).hash k, x) :: es.toList) := pm.trans (List.perm_append_singleton _ _)
    have hlen : es1.size = ks.length + 1 := by rw [← Array.length_toList, pc.length_eq, List.length_cons, Array.length_toList, r.len]
    have okx : OkM w ((mixKind P w).hash k, x) := ⟨by rw [keyM_is hk]; exact hk, by show (mixKind P w).hash k = keyH w (keyM x); rw [keyM_is hk]; rfl⟩
    have mk : ∀ (t2 : SetTable), t2.fits es1.size = true → Ris t2.place.toList → (w.params.followText "set-order" = true ∨ t2.led = true) → ∀ o' : Obj, o'.ExactSet → ∀ ep', o'.data = .set es1 ep' t2 → SetIn w (addK ks k) o' es1 ep' t2 := fun t2 f2 r2 l2 o' x' ep' d' => by
      rw [addK, if_neg hm]
      exact { ex := x', dt := d', ok := fun e he => (List.mem_cons.mp (pc.mem_iff.mp he)).elim (fun z => z ▸ okx) (r.ok e), pm := (pc.map km).trans (by rw [List.map_cons, show km ((mixKind P w).hash k, x) = k from keyM_is hk]; exact r.pm.cons k), nd := List.nodup_cons.mpr ⟨hm, r.nd⟩, sz := by rw [hlen]; exact room, ft := f2, rs := r2, ld := l2 }
    have l1 : w.params.followText "set-order" = true ∨ t1.led = true := r.ld.imp id fun z => ld.trans z
    have gw : ∀ (b : Bool) {s₁ : Shared} {Q' : Unit → Shared → Prop}, Q' () s₁ → wpAny (model P w) A (match b with | true => rule "set.scan.the-table-gave-way" | false => pure ()) Q' E s₁ := fun b s₁ Q' q => by
      cases b
      · exact wpAny_pure q
      · exact wpAny_rule q
    dsimp only at ft rs ⊢
    refine wpAny_bind (gw _ ?_)
    split
    · refine wpAny_bind ?_
      rw [hashByValue_scannable 8 hsc]
      refine wpAny_pure ?_
      refine setM_tail (ks := addK ks k) ?_ ho r.dt ?_ r.ex fun h' sb r' => ?_
      · intro b s₁ Q' q
        cases b
        · exact wpAny_pure q
        · exact wpAny_rule q
      · split
        · exact mk _ (SetTable.fits_plain_off ft) rs l1
        · exact mk _ ft rs l1
      · exact wpAny_pure (fin _ h' sb r')
    · refine wpAny_bind (wpAny_pure ?_)
      simp only [↓reduceIte]
      refine setM_tail (ks := addK ks k) ?_ ho r.dt (mk _ ft rs l1) r.ex fun h' sb r' => ?_
      · intro b s₁ Q' q
        cases b
        · exact wpAny_pure q
        · exact wpAny_rule q
      · exact wpAny_pure (fin _ h' sb r')
theorem setM_put {k : Key} {x : Value} {Q : Bool → Shared → Prop} (hk : keyIs k x = true) (R : SetM w s.heap a ks) (room : ks.length + 1 < scanBound)
    (fin : ∀ b h' tk, Heap.SameBut a s.heap h' → s.toks ≤ tk → SetM w h' a (addK ks k) → Q b { s with heap := h', toks := tk }) : wpAny (model P w) A (setAdd a x) Q E s := by
  unfold setAdd
  refine wpAny_holding (wpAny_bind ((mixKind P w).pyHash hk ?_))
  exact setM_add hk (s := { s with toks := s.toks + 1 }) R room fun b h' sb r => fin b h' _ sb (Nat.le_succ _) r
theorem set0_in {ob : Obj} (e : ob = set0 w) : SetIn w [] ob #[] 0 (.fresh 0 0 (!w.params.followText "set-order")) := by
  subst e
  refine { ex := ⟨rfl, rfl, rfl⟩, dt := rfl, ok := fun e he => by simp at he, pm := .nil, nd := List.nodup_nil, sz := by decide, ft := by rfl, rs := List.Pairwise.nil, ld := ?_ }
  show _ ∨ (!w.params.followText "set-order") = true
  cases w.params.followText "set-order"
  · exact .inr rfl
  · exact .inl rfl
/-- after so many items -/
def setJ (w : World) (S : Addr) (keys : List Key) (i : Nat) (h : Heap) : Prop := ∃ ks, SetM w h S ks ∧ (∀ k, k ∈ ks ↔ k ∈ keys.take i) ∧ ks.length ≤ i
theorem setJ_adds {S : Addr} {items : Array Value} {keys : List Key} (hs : items.size = keys.length) (hk : ∀ (i : Nat) (v : Value) (k : Key), items[i]? = some v → keys[i]? = some k → keyIs k v = true) (hb : keys.length + 1 < scanBound) : AddsTo P w S items.size items (setJ w S keys) s.heap := by
  intro B i v t Q F lt hv ⟨ks, R, m, l⟩ _ fin
  obtain ⟨k, e⟩ : ∃ k, keys[i]? = some k := ⟨_, List.getElem?_eq_getElem (by omega)⟩
  refine setM_put (hk i v k hv e) R (by omega) fun b h' tk sb ht r => fin b h' tk sb ht ⟨_, r, fun j => ?_, by have := addK_len (ks := ks) (k := k); omega⟩
  rw [addK_mem, m, List.take_add_one, e]
  simp only [Option.toList_some, List.mem_append, List.mem_singleton]
  exact Or.comm
theorem setJ_keep {S : Addr} {keys : List Key} {h0 : Heap} (i : Nat) (h h' : Heap) (j : setJ w S keys i h) (e : ∀ o, h.get? S = some o → h'.get? S = some o) (_ : ∀ b o, h0.get? b = some o → h'.get? b = some o) : setJ w S keys i h' :=
  let ⟨ks, R, m⟩ := j
  ⟨ks, R.keep e, m⟩
end
/-- the set as an object below -/
def setO (w : World) (a : Addr) (ks : List Key) : HO := .ext fun h => SetM w h a ks
theorem setO_ok {P : Program} {w : World} {H : Hp} {h : Heap} {a : Addr} {ks : List Key} (R : SetM w h a ks) : ObjOk P w H h a (setO w a ks) := by
  have ⟨o, _, _, _, ho, _⟩ := R
  exact ⟨R, ⟨o, ho⟩, fun h1 h2 p k => SetM.keep p k⟩
def rSetM (K : PySem.W.Frag) (w : World) : List V → Hp → VK → Prop := fun xs H Q => ∃ (l : Addr) (keys : List Key), xs = [V.ref l] ∧ (SqL K H l (keys.map kV) ∨ SqT K H l (keys.map kV)) ∧ keys.length + 1 < scanBound ∧
  ∀ p ks, ks.Nodup → (∀ k, k ∈ ks ↔ k ∈ keys) → H p = none → Q (.ref p) (upd H p (setO w p ks))
theorem keys_rel {keys : List Key} {its : List Value} (r : Vals (keys.map kV) its) {i : Nat} {v : Value} {k : Key} (h1 : its[i]? = some v) (h2 : keys[i]? = some k) : keyIs k v = true := by
  obtain ⟨u, h3, h4⟩ := r.get (i := i) (x := kV k) (by rw [List.getElem?_map, h2]; rfl)
  rw [h1] at h3
  cases h3
  cases k with
  | inl i => obtain ⟨t, rfl⟩ := h4; exact keyIs_int i t
  | inr x => obtain ⟨t, rfl⟩ := h4; exact keyIs_str x t
theorem call_setM {X : Cx} (hc : X.calm = true) : CallR X (.type "set") (rSetM X.K X.w) := by
  intro pins s σ H xs us Q I r h
  obtain ⟨l, keys, rfl, hs, hb, q⟩ := h
  rw [Vals.ref1 r]
  have fin : ∀ (its : List Value), Vals (keys.map kV) its → ∀ (h' : Heap) (tk : Nat), setJ X.w s.heap.objs.size keys its.toArray.size h' → (∀ b o, s.heap.get? b = some o → h'.get? b = some o) → ∃ v H', Inv X pins σ H' { s with heap := h', toks := tk } ∧ RelV v (.ref s.heap.objs.size) ∧ Q v H' := by
    intro its rv h' tk ⟨ks, R, m, _⟩ keep
    have hl : its.toArray.size = keys.length := by rw [List.size_toArray, ← rv.length, List.length_map]
    have nd : ks.Nodup := let ⟨_, _, _, _, _, r⟩ := R; r.nd
    exact ⟨.ref s.heap.objs.size, upd H s.heap.objs.size (setO X.w s.heap.objs.size ks), I.laid (t' := tk) keep (Nat.le_refl _) (setO_ok R), rfl, q _ ks nd (fun k => by rw [m, hl, List.take_length]) (I.hok.fresh (Nat.le_refl _))⟩
  rcases hs with hs | hs
  · obtain ⟨its, rv, hl, hz⟩ := I.list hs
    have hlen : its.toArray.size = keys.length := by rw [List.size_toArray, ← rv.length, List.length_map]
    refine set_of_list (I.ok.hd hc) hl.isList (J := setJ X.w s.heap.objs.size keys) setJ_keep (fun h e => ⟨[], ⟨_, _, _, _, e, set0_in rfl⟩, by simp, by simp⟩) (setJ_adds hlen (fun i v k h1 h2 => keys_rel rv (by simpa using h1) h2) hb) fun h' tk j keep => fin its rv h' tk j keep
  · obtain ⟨its, rv, hl⟩ := tup_at (H := ⟨H, fun _ => False⟩) I hs
    have hlen : its.toArray.size = keys.length := by rw [List.size_toArray, ← rv.length, List.length_map]
    refine set_of_tup (I.ok.hd hc) hl (J := setJ X.w s.heap.objs.size keys) setJ_keep (fun h e => ⟨[], ⟨_, _, _, _, e, set0_in rfl⟩, by simp, by simp⟩) (setJ_adds hlen (fun i v k h1 h2 => keys_rel rv (by simpa using h1) h2) hb) fun h' tk j keep => fin its rv h' tk j keep
end DM

/-! sorted of a set; its length -/
namespace DM
open PySem PySem.Spec PyProof.Rows L2
section
variable {prog : Program} {w : World} {A : Around} {E : Value → Shared → Prop} {s : Shared} {R : Value → D → Prop}
open PySem PySem.Calls PyProof.Rows PySem.W in
/-- sorted of what is gathered in some order -/
theorem sorted_some {l : Addr} {n : Nat} {B : List Value → List D → Shared → Prop} {Q : Value → Shared → Prop} (hL : n ≤ sizeLine)
    (hB : ∀ vs bs t, B vs bs t → bs.length = n ∧ EachIs R vs bs ∧ EachIs (fun v b => ∃ as, Reads t.heap v (toPy b) as) vs bs ∧ AllAlike (bs.map toPy) ∧ Sortable (bs.map toPy) ∧ (∀ b, b ∈ bs → A.units + 2 + (toPy b).depth < cLine) ∧ (∀ b o, s.heap.get? b = some o → t.heap.get? b = some o) ∧ s.heap.objs.size ≤ t.heap.objs.size ∧ t.gens = s.gens ∧ t.os = s.os)
    (hc : ∀ (Q' : List Value → Shared → Prop) (E' : Value → Shared → Prop), (∀ vs bs t, B vs bs t → Q' vs t) → wpAny (model prog w) A.in1 (collect (.ref l)) Q' E' s)
    (fin : ∀ vs bs t, B vs bs t → ∀ h' out c a, (∀ b o, s.heap.get? b = some o → h'.get? b = some o) → s.heap.objs.size ≤ a → h'.get? a = some (seqObj "list" (List.toArray out) c) → out.length = n → EachIs R out (sortD bs) → Q (.ref a) { t with heap := h' }) :
    wpAny (model prog w) A (call (.builtin "sorted") [.ref l]) Q E s := by
  refine call_function_entry kind_sorted plain_sorted entry_sorted (args_sorted1 _) ?_
  unfold Builtin.«sorted»
  refine wpAny_bind (m := checkCount "sorted" 1 1 _) (wpAny_pure (wpAny_bind (hc _ _ fun vs bs t hb => ?_)))
  obtain ⟨hn, e, er, hal, hk, hu, k1, z1, _, _⟩ := hB vs bs t hb
  have hv : vs.length = n := by rw [e.length, hn]
  refine wpAny_bind (wpAny_newList ?_ (by rw [hv]; exact hL))
  have ho : (t.heap.push (seqObj "list" vs.toArray 0)).get? t.heap.objs.size = some (seqObj "list" vs.toArray 0) := Heap.get?_push_size _ rfl
  have k2 : ∀ b o, t.heap.get? b = some o → (sortingHeap (t.heap.push (seqObj "list" vs.toArray 0)) t.heap.objs.size vs).get? b = some o := fun b o q => sortingHeap_old (Nat.ne_of_lt (Heap.lt_size q)) (Heap.get?_push_of_some _ q)
  have er2 : EachIs (fun v b => ∃ as, Reads (sortingHeap (t.heap.push (seqObj "list" vs.toArray 0)) t.heap.objs.size vs) v (toPy b) as) vs bs := er.mono fun _ _ ⟨as, r⟩ => ⟨as, PyProof.Rows.Reads.keeps k2 r⟩
  have S := SortsAt.data (prog := prog) (w := w) (A := A.in1.in1) (s := { t with heap := sortingHeap (t.heap.push (seqObj "list" vs.toArray 0)) t.heap.objs.size vs }) (each_map (R := fun v d => ∃ as, Reads (sortingHeap (t.heap.push (seqObj "list" vs.toArray 0)) t.heap.objs.size vs) v d as) toPy er2) hal hk (bound_map hu)
  show wpAny _ _ _ _ _ { t with heap := t.heap.push (seqObj "list" vs.toArray 0) }
  refine wpAny_bind (wpAny_holding (wpAny_call_entry slot_list_sort ⟨_, ho, rfl⟩ entry_list_sort ?body (args_list_sort _)))
  case body =>
    show wpAny (model prog w) A.in1.in1 (Builtin.«list.sort» ⟨[.ref t.heap.objs.size], []⟩) _ _ _
    refine list_sort_vals (s := { t with heap := t.heap.push (seqObj "list" vs.toArray 0) }) ho S (by rw [hv]; exact hL) ⟨_, rfl, wpAny_pure ⟨_, rfl, ?_⟩⟩
    obtain ⟨c, hc⟩ := PyProof.Rows.sortedHeap_at (vs := vs) (out := (sortVals (dataKind (sortingHeap (t.heap.push (seqObj "list" vs.toArray 0)) t.heap.objs.size vs) (bs.map toPy)) false vs vs).toArray) ho
    refine fin vs bs t hb _ _ c t.heap.objs.size (fun b o q => ?_) z1 hc (by rw [sortVals_length false rfl]; exact hv) (sortVals_data false e er2 hal)
    have q1 := Heap.get?_push_of_some (seqObj "list" vs.toArray 0) (k1 b o q)
    exact (PyProof.Rows.sortedHeap_old (Nat.ne_of_lt (Nat.lt_of_lt_of_le (Heap.lt_size q) z1)) (Heap.lt_size q1)).trans q1
end
theorem SortOk.perm {xs ys : List D} (h : SortOk xs) (p : ys.Perm xs) : SortOk ys := by
  obtain ⟨h1, h2, h3, h4⟩ := h
  have m : ∀ x ∈ ys.map toPy, x ∈ xs.map toPy := fun x hx => (p.map toPy).mem_iff.mp hx
  refine ⟨all_pure fun x hx => mem_pure h1 (p.mem_iff.mp hx), all_dep (by decide) fun x hx => mem_dep h2 (p.mem_iff.mp hx), fun x hx y hy => h3 x (m x hx) y (m y hy), ?_⟩
  rcases h4 with h4 | h4
  · exact .inl fun x hx => h4 x (m x hx)
  · exact .inr fun x hx => h4 x (m x hx)
def rSortM (w : World) : List V → Hp → VK → Prop := fun vs H Q => ∃ (a : Addr) (ks : List Key), vs = [V.ref a] ∧ H a = some (setO w a ks) ∧ SortOk (ks.map kD) ∧
  ∀ (out ys : List Key) (p : Addr), out.Perm ks → ys.map kD = sortD (out.map kD) → H p = none → Q (.ref p) (upd H p (.lst (ys.map kV)))
theorem each_keys {h : Heap} : ∀ {vs : List Value} {ks : List Key}, vs.map keyM = ks → (∀ v ∈ vs, keyIs (keyM v) v = true) → PySem.W.EachIs (fun v d => ∃ k, d = kD k ∧ keyIs k v = true) vs (ks.map kD) ∧ PySem.W.EachIs (fun v b => ∃ as, Reads h v (toPy b) as) vs (ks.map kD)
  | [], _, rfl, _ => ⟨.nil, .nil⟩
  | v :: vs, _, rfl, hv => by
    obtain ⟨h1, h2⟩ := each_keys (h := h) (vs := vs) rfl fun u hu => hv u (List.mem_cons_of_mem _ hu)
    have h3 := hv v List.mem_cons_self
    refine ⟨.cons ⟨_, rfl, h3⟩ h1, .cons ?_ h2⟩
    rcases keyIs_shape h3 with ⟨i, t, e1, e2⟩ | ⟨x, t, e1, e2⟩
    · rw [e1, e2]; exact ⟨_, .int i t⟩
    · rw [e1, e2]; exact ⟨_, .str x t⟩
theorem each_keys_out : ∀ {vs : List Value} {ds : List D}, PySem.W.EachIs (fun v d => ∃ k, d = kD k ∧ keyIs k v = true) vs ds → ∃ ks : List Key, ds = ks.map kD ∧ Vals (ks.map kV) vs
  | _, _, .nil => ⟨[], rfl, .nil⟩
  | v :: _, _, .cons ⟨k, e, h⟩ t => by
    obtain ⟨ks, e2, r⟩ := each_keys_out t
    refine ⟨k :: ks, by rw [e, e2]; rfl, .cons ?_ r⟩
    rcases keyIs_shape h with ⟨i, t, rfl, rfl⟩ | ⟨x, t, rfl, rfl⟩
    · exact ⟨t, rfl⟩
    · exact ⟨t, rfl⟩
theorem call_sortM {X : Cx} (hc : X.calm = true) (hu : X.A.units + 150 < cLine) : CallR X (.builtin "sorted") (rSortM X.w) := by
  intro pins s σ H vs us Q I r h
  obtain ⟨a, ks, rfl, ha, ⟨hp, hdp, hal, hso⟩, q⟩ := h
  rw [Vals.ref1 r]
  obtain ⟨o, es, ep, t, ho, R⟩ := (show SetM X.w s.heap a ks from (I.hok a _ ha).1)
  have hL : ks.length ≤ sizeLine := by rw [← R.len]; exact fits_of_scanBound R.sz
  have perm_all : ∀ out : List Key, out.Perm ks → SortOk (out.map kD) := fun out pm => SortOk.perm ⟨hp, hdp, hal, hso⟩ (pm.map kD)
  refine sorted_some (R := fun v d => ∃ k, d = kD k ∧ keyIs k v = true) (n := ks.length) (B := fun vs bs t => ∃ out : List Key, bs = out.map kD ∧ out.Perm ks ∧ vs.map keyM = out ∧ (∀ v ∈ vs, keyIs (keyM v) v = true) ∧ (∀ b o, s.heap.get? b = some o → t.heap.get? b = some o) ∧ s.heap.objs.size ≤ t.heap.objs.size ∧ t.gens = s.gens ∧ t.os = s.os) hL (fun vs bs t hb => ?_) (fun Q' E' hQ' => ?_) fun vs bs t hb h' out c p keep hp hg hl eo => ?_
  · obtain ⟨out, rfl, pm, e, hv, k1, z1, g1, o1⟩ := hb
    obtain ⟨h1, h2⟩ := each_keys (h := t.heap) e hv
    obtain ⟨_, sd, sa, ss⟩ := perm_all out pm
    refine ⟨by rw [List.length_map, pm.length_eq], h1, h2, sa, ss, fun b hb => ?_, k1, z1, g1, o1⟩
    have h1 := depth_py b
    obtain ⟨j, hj, rfl⟩ := List.getElem_of_mem hb
    have h2 := depDs_get (List.getElem?_eq_getElem hj)
    omega
  · refine collect_set (I.ok.hd hc) ⟨o, ho, R.ex.1, R.dt⟩ R.ft R.sz R.rs R.ld fun s' out k1 z1 g1 o1 pm => hQ' out _ s' ⟨_, rfl, (pm.map keyM).trans (by rw [List.map_map]; exact R.pm), rfl, fun v hv => ?_, k1, z1, g1, o1⟩
    obtain ⟨e, he, rfl⟩ := List.mem_map.mp (pm.mem_iff.mp hv)
    exact (R.ok e he).1
  · obtain ⟨out0, rfl, pm, _, _, k1, z1, g1, o1⟩ := hb
    obtain ⟨ys, e, rv⟩ := each_keys_out eo
    have hlen : (ys.map kV).length ≤ sizeLine := by rw [rv.length, hl]; exact hL
    have hn : H p = none := I.hok.fresh hp
    have J : Inv X pins σ (upd H p (.lst (ys.map kV))) { s with heap := h', gens := t.gens, drawn := t.drawn, toks := t.toks } :=
      I.call (ch := []) (Un.laid keep hp hn) (I.hok.laid keep hp ⟨hlen, out, c, rv, hg⟩) (by rw [g1]; exact I.bare) (fun _ z => nomatch z)
    have et : ({ t with heap := h' } : Shared) = { s with heap := h', gens := t.gens, drawn := t.drawn, toks := t.toks } := by
      cases t
      cases s
      cases o1
      rfl
    rw [et]
    exact ⟨.ref p, _, J, rfl, q out0 ys p pm e.symm hn⟩
end DM

/-! sorted(set(x)), len(set(x)) of numbers and texts -/
namespace DM
open PySem L2
open PyProof.Rows (b2i)
/-- sorted(set(e)) -/
def sortSetQ (x : D) (M : Mm) (Q : List D → Mm → Prop) : Prop := match rdS M x with
  | some xs => (match keysD xs with | some keys => (keys.length + 1 < 4096 ∧ SortOk xs) ∧ ∀ ks : List Key, ks.Nodup → (∀ k, k ∈ ks ↔ k ∈ keys) → Q (sortD (ks.map kD)) M | none => False)
  | none => False
def dSortSet (te : TDE) : TDL := fun ds M Q => te ds M fun x M1 => sortSetQ x M1 Q
theorem kd_mem {ks keys : List Key} (h : ∀ k, k ∈ ks ↔ k ∈ keys) (so : SortOk (keys.map kD)) : SortOk (ks.map kD) := by
  obtain ⟨h1, h2, h3, h4⟩ := so
  have m : ∀ x ∈ ks.map kD, x ∈ keys.map kD := fun x hx => by
    obtain ⟨k, hk, rfl⟩ := List.mem_map.mp hx
    exact List.mem_map.mpr ⟨k, (h k).mp hk, rfl⟩
  have m2 : ∀ x ∈ (ks.map kD).map toPy, x ∈ (keys.map kD).map toPy := fun x hx => by
    obtain ⟨k, hk, rfl⟩ := List.mem_map.mp hx
    exact List.mem_map.mpr ⟨k, m k hk, rfl⟩
  refine ⟨all_pure fun x hx => mem_pure h1 (m x hx), all_dep (by decide) fun x hx => mem_dep h2 (m x hx), fun x hx y hy => h3 x (m2 x hx) y (m2 y hy), ?_⟩
  rcases h4 with h4 | h4
  · exact .inl fun x hx => h4 x (m2 x hx)
  · exact .inr fun x hx => h4 x (m2 x hx)
section
variable {X : Cx} {e : Expr} {te : TDE} {p p2 pos pos2 : Pos} {k : Nat}
theorem jl_sortSet (hc : X.calm = true) (hr : Room k X.A) (hm : X.mg "sorted" = none) (hm2 : X.mg "set" = none) (ha : JE X e te) (hg : Gl X "sorted" := by rfl) (hg2 : Gl X "set" := by rfl)
    (n1 : starEach [.Call (.Name "set" p2) [e] [] pos2] X.env = (false, eval (.Call (.Name "set" p2) [e] [] pos2) X.env) :: starEach [] X.env := by rfl) (n2 : starEach [e] X.env = (false, eval e X.env) :: starEach [] X.env := by rfl)
    (n3 : (backTo pos (starEach [] X.env)).any (·.1) = false := by rfl) (n4 : (backTo pos2 (starEach [] X.env)).any (·.1) = false := by rfl) :
    JL X (.Call (.Name "sorted" p) [.Call (.Name "set" p2) [e] [] pos2] [] pos) (dSortSet te) := by
  obtain ⟨u, q, g⟩ := ha
  refine ⟨_, pe_callB (call_sortM hc (hu150 hr)) hg hm PyProof.Rows.boot_sorted (pa_cons (pe_callTy (call_setM hc) hg2 hm2 PyProof.Rows.boot_set (pa_cons q pa_nil n2) (by decide) (by decide) n2 n4) pa_nil n1) (by decide) (by decide) n1 n3, fun ds σ H M Q Q0 s m q k => ?_⟩
  refine g ds σ H M _ _ s m q fun v H1 d M1 r1 m1 g1 q1 => ?_
  unfold sortSetQ at q1
  split at q1
  · rename_i xs e1
    split at q1
    · rename_i keys e2
      obtain ⟨⟨hl, so⟩, q1⟩ := q1
      have ex := keysD_eq e2
      subst ex
      obtain ⟨a, ws, rfl, ra, h1⟩ := rdS_v m1 r1 e1
      have ew := vrs_keys ra
      subst ew
      refine ⟨a, keys, rfl, h1.symm.imp (fun h => SqL.of h) (fun h => h.2), hl, fun o ks nd hk ho => ?_⟩
      refine ⟨o, ks, rfl, upd_same, kd_mem hk so, fun out ys l pm ey hl2 => ?_⟩
      have m2 : MR X.K M1 (H1.up o (setO X.w o ks)) := m1.newT ho
      have g2 : GG M1 H1 M1 (H1.up o (setO X.w o ks)) := GG.newT ho
      have ry : VRs X.K (H1.up o (setO X.w o ks)) (sortD (out.map kD)) (ys.map kV) := by rw [← ey]; exact keys_vrs ys
      exact k l ((H1.up o (setO X.w o ks)).up l _) (sortD (out.map kD)) (ys.map kV) M1 ((g1.trans g2).free hl2) upd_same (VRs.mono (TX.new m2 hl2) _ _ ry) (m2.free hl2) (m2.freeF hl2) (m2.newT hl2) ((g1.trans g2).trans (GG.newT hl2)) (q1 out (pm.nodup_iff.mpr nd) fun j => (pm.mem_iff).trans (hk j))
    · exact q1.elim
  · exact q1.elim
end
end DM

/-! own classes: fields, methods, new instances -/
namespace DM
open PySem L2
open PyProof.Rows (b2i)
def insOf (M : Mm) (a : Addr) : Option (Addr × List (Str × D)) := match M a with | some (.ins C fs) => some (C, fs) | _ => none
theorem insOf_some {M : Mm} {a C : Addr} {fs : List (Str × D)} (h : M a = some (.ins C fs)) : insOf M a = some (C, fs) := by unfold insOf; rw [h]
theorem of_insOf {M : Mm} {a C : Addr} {fs : List (Str × D)} (h : insOf M a = some (C, fs)) : M a = some (.ins C fs) := by
  unfold insOf at h
  split at h
  · cases h; assumption
  · cases h
theorem insOf_mup_same {M : Mm} {a C : Addr} {fs : List (Str × D)} : insOf (mup M a (.ins C fs)) a = some (C, fs) := insOf_some mup_same
theorem insOf_mup_ne {M : Mm} {a b : Addr} {o : MO} (h : b ≠ a) : insOf (mup M a o) b = insOf M b := by unfold insOf; rw [mup_ne h]
/-- a field written -/
def putFD (f : Str) (d : D) : List (Str × D) → List (Str × D)
  | [] => [(f, d)]
  | (g, x) :: r => if g = f then (g, d) :: r else (g, x) :: putFD f d r
section
variable {K : PySem.W.Frag} {H : HF}
theorem FR.look : ∀ {ds : List (Str × D)} {vs : List (Str × V)} {f : Str} {d : D}, FR K H ds vs → ds.lookup f = some d → ∃ v, vs.lookup f = some v ∧ VR K H d v
  | _, _, _, _, .nil, h => by simp at h
  | (g, d') :: ds, (_, v') :: vs, f, d, .cons r q, h => by
    rw [List.lookup_cons] at h ⊢
    cases e : (f == g) with
    | true => rw [e] at h; cases h; exact ⟨_, rfl, r⟩
    | false => rw [e] at h; exact FR.look q h
theorem FR.lookN : ∀ {ds : List (Str × D)} {vs : List (Str × V)} {f : Str}, FR K H ds vs → ds.lookup f = none → vs.lookup f = none
  | _, _, _, .nil, h => rfl
  | (g, d') :: ds, (_, v') :: vs, f, .cons r q, h => by
    rw [List.lookup_cons] at h ⊢
    cases e : (f == g) with
    | true => rw [e] at h; cases h
    | false => rw [e] at h; exact FR.lookN q h
end
theorem FR.putf {K : PySem.W.Frag} {H : HF} {f : Str} {d : D} {v : V} (r : VR K H d v) : ∀ {ds : List (Str × D)} {vs : List (Str × V)}, FR K H ds vs → FR K H (putFD f d ds) (putF f v vs)
  | _, _, .nil => .cons r .nil
  | (g, d') :: ds, (_, v') :: vs, .cons q t => by
    unfold putFD putF
    by_cases e : g = f
    · rw [if_pos e, if_pos e]; exact .cons r t
    · rw [if_neg e, if_neg e]; exact .cons q (FR.putf r t)
/-- a class and a field of its instances -/
structure FldOk (K : PySem.W.Frag) (C : Addr) (f : Str) : Prop where
  c : L2.Cls K C
  n : NoAttr K C f
def fldQ (C : Addr) (f : Str) (x : D) (M : Mm) (Q : DQ) : Prop := match x with
  | .ref a => (match insOf M a with | some (C', fs) => C' = C ∧ (match fs.lookup f with | some d => Q d M | none => False) | none => False)
  | _ => False
def dFld (C : Addr) (f : Str) (te : TDE) : TDE := fun ds M Q => te ds M fun x M1 => fldQ C f x M1 Q
def fputQ (C : Addr) (f : Str) (x y : D) (M : Mm) (N : Mm → Prop) : Prop := match x with
  | .ref a => (match insOf M a with | some (C', fs) => (C' = C ∧ fs.length < 1000) ∧ N (mup M a (.ins C (putFD f y fs))) | none => False)
  | _ => False
def dFput (C : Addr) (f : Str) (te to : TDE) : TDS := fun D ds M => te ds M fun y M1 => to ds M1 fun x M2 => fputQ C f x y M2 fun M3 => D.nx ds M3
def faddQ1 (C : Addr) (f : Str) (x : D) (M : Mm) (N : Addr → Int → Prop) : Prop := match x with
  | .ref a => (match insOf M a with | some (C', fs) => C' = C ∧ (match fs.lookup f with | some (.int i) => N a i | _ => False) | none => False)
  | _ => False
/-- o.f += e -/
def dFadd (C : Addr) (f : Str) (to te : TDE) : TDS := fun D ds M => to ds M fun x M1 => faddQ1 C f x M1 fun a i => te ds M1 fun y M2 => match y with
  | .int j => fputQ C f (.ref a) (.int (i + j)) M2 fun M3 => D.nx ds M3
  | _ => False
def methQ (C : Addr) (m : Str) (sp : DSp) (x : D) (ds : DSt) (t : TDA) (M : Mm) (Q : DQ) : Prop := match x with
  | .ref a => (match insOf M a with | some (C', fs) => (C' = C ∧ fs.lookup m = none) ∧ t ds M fun xs M2 => sp (.ref a :: xs) M2 Q | none => False)
  | _ => False
def dMeth (C : Addr) (m : Str) (sp : DSp) (to : TDE) (t : TDA) : TDE := fun ds M Q => to ds M fun x M1 => methQ C m sp x ds t M1 Q
def dMake (C : Addr) (sp : DSp) (t : TDA) : TDE := fun ds M Q => t ds M fun xs M1 => ∀ x, M1 x = none → sp (.ref x :: xs) (mup M1 x (.ins C [])) fun v M2 => v = .non ∧ Q (.ref x) M2
section
variable {X : Cx} {k : Nat} {f C : Addr} {fd : FuncData} {ps : List Str} {sp : DSp} {x m g : Str} {p pos apos pos' tpos : Pos} {e o : Expr} {es : List Expr} {t : TDA} {te to : TDE}
theorem je_fld (c : FldOk X.K C g) (he : JE X e te) (hb : attributeBase e g X.env (eval e X.env) = eval e X.env := by rfl) : JE X (.Attribute e g pos) (dFld C g te) := by
  obtain ⟨u, q, gg⟩ := he
  refine je_pe (pe_fld q hb) fun ds σ H M Q Q0 s m q k => ?_
  refine gg ds σ H M _ _ s m q fun v H1 d M1 r1 m1 g1 q1 => ?_
  unfold fldQ at q1
  split at q1
  · rename_i a
    split at q1
    · rename_i C' fs e1
      obtain ⟨rfl, q1⟩ := q1
      split at q1
      · rename_i d e2
        cases r1.ref_v
        obtain ⟨dx, vs, h1, r2⟩ := m1.ob a _ (of_insOf e1)
        obtain ⟨v, e3, r3⟩ := r2.look e2
        exact ⟨a, C', dx, vs, v, rfl, h1, c.c, c.n, e3, k v H1 d M1 r3 m1 g1 q1⟩
      · exact q1.elim
    · exact q1.elim
  · exact q1.elim
theorem fput_go {W : WX} {M0 M : Mm} {H0 H : HF} {D0 : Ends} {D1 : DEnds} {ds : DSt} {σ : L2.St} {y : D} {v : V} {a : Addr} {x : D} (c : FldOk X.K C g) (l : Link X.K W M0 H0 D0 D1) (gg : GG M0 H0 M H) (s : SR X.K H ds σ) (m : MR X.K M H) (rx : VR X.K H x (.ref a)) (ry : VR X.K H y v)
    (q : fputQ C g x y M fun M3 => D1.nx ds M3) : ∃ dx fs, H.h a = some (.ins C dx fs) ∧ fs.length < 1000 ∧ D0.nx σ (upd H.h a (.ins C dx (putF g v fs))) := by
  unfold fputQ at q
  split at q
  · rename_i b
    cases rx
    split at q
    · rename_i C' fs e1
      obtain ⟨⟨rfl, hl⟩, q⟩ := q
      obtain ⟨dx, vs, h1, r2⟩ := m.ob a _ (of_insOf e1)
      refine ⟨dx, vs, h1, by rw [← r2.len]; exact hl, ?_⟩
      have t := TX.put (u := .ins C' dx (putF g v vs)) m (of_insOf e1)
      have gp : GG M H (mup M a (.ins C' (putFD g y fs))) (H.up a (.ins C' dx (putF g v vs))) := GG.put (of_insOf e1)
      exact l.nx σ ds _ _ (gg.trans gp) (s.gg m gp) (m.put (w := .ins C' (putFD g y fs)) (of_insOf e1) ⟨dx, _, upd_same, (r2.mono t).putf (VR.mono t _ _ ry)⟩) q
    · exact q.elim
  · exact q.elim
theorem fput_ref {x y : D} {M : Mm} {N : Mm → Prop} (q : fputQ C g x y M N) : ∃ a, x = .ref a := by
  cases x with
  | ref a => exact ⟨a, rfl⟩
  | _ => exact q.elim
theorem js_fput {W : WX} (c : FldOk X.K C g) (ho : JE X o to) (he : JE X e te) (hs : swapsWith e (some (.Attribute o g pos')) pos.line X.env = pure false := by rfl) : JS X W (.Assign [.Attribute o g pos'] e pos) (dFput C g te to) := by
  obtain ⟨u, p, gg1⟩ := ho
  obtain ⟨ue, pe, ge⟩ := he
  refine ⟨_, ps_fld p pe hs, fun M0 H0 D0 D1 l ds σ H M gg s m q => ?_⟩
  refine ge ds σ H M _ _ s m q fun v H1 d M1 r1 m1 g1 q1 => ?_
  refine gg1 ds σ H1 M1 _ _ (s.gg m g1) m1 q1 fun w H2 d2 M2 r2 m2 g2 q2 => ?_
  obtain ⟨a, rfl⟩ := fput_ref q2
  cases r2.ref_v
  obtain ⟨dx, fs, h1, h2, h3⟩ := fput_go c l ((gg.trans g1).trans g2) (s.gg m (g1.trans g2)) m2 r2 (VR.mono (g2.tx m1) _ _ r1) q2
  exact ⟨a, C, dx, fs, rfl, h1, c.c, c.n, h2, h3⟩
theorem js_fadd {W : WX} (c : FldOk X.K C g) (ho : JE X o to) (he : JE X e te) : JS X W (.AugAssign (.Attribute o g tpos) .Add e pos) (dFadd C g to te) := by
  obtain ⟨u, p, gg1⟩ := ho
  obtain ⟨ue, pe, ge⟩ := he
  refine ⟨_, ps_fldaug p pe in_add, fun M0 H0 D0 D1 l ds σ H M gg s m q => ?_⟩
  refine gg1 ds σ H M _ _ s m q fun v H1 d M1 r1 m1 g1 q1 => ?_
  unfold faddQ1 at q1
  split at q1
  · rename_i a
    split at q1
    · rename_i C' fs e1
      obtain ⟨rfl, q1⟩ := q1
      split at q1
      · rename_i i e2
        cases r1.ref_v
        obtain ⟨dx, vs, h1, r2⟩ := m1.ob a _ (of_insOf e1)
        obtain ⟨v, e3, r3⟩ := r2.look e2
        cases r3.int_v
        refine ⟨a, C', dx, vs, .int i, rfl, h1, c.c, c.n, e3, ?_⟩
        refine ge ds σ H1 M1 _ _ (s.gg m g1) m1 q1 fun w H2 d2 M2 r4 m2 g2 q2 => ?_
        split at q2
        · rename_i j
          cases r4.int_v
          obtain ⟨dx', fs', h5, h6, h7⟩ := fput_go (y := .int (i + j)) c l ((gg.trans g1).trans g2) (s.gg m (g1.trans g2)) m2 (.ref a) (.int (i + j)) q2
          exact ⟨i, j, rfl, rfl, dx', fs', h5, h6, h7⟩
        · exact q2.elim
      · exact q1.elim
    · exact q1.elim
  · exact q1.elim
theorem je_meth {pl : Sem Bool} (c : L2.Cls X.K C) (hm : Meth X.K C m f) (F : FnOk X.prog X.w X.K X.mg X.base CX0 k f fd ps (toSp X.K sp)) (hr : Room k X.A) (hb : Binds X.K fd ps []) (ho : JE X o to) (ha : JA X (e :: es) t)
    (hst : starEach (e :: es) X.env = (false, eval e X.env) :: starEach es X.env := by rfl) (hpl : (backTo pos (starEach es X.env)).any (·.1) = false := by rfl)
    (ht : eval (.Call (.Attribute o m apos) (e :: es) [] pos) X.env = (do
      let ov ← eval o X.env
      standAt apos.atName
      let (f, first) ← holding [ov] (getMethod ov m pl)
      callWith pos f first (backTo pos (starEach (e :: es) X.env)) (backToKw pos (keywordEach [] X.env))) := by rfl) :
    JE X (.Call (.Attribute o m apos) (e :: es) [] pos) (dMeth C m sp to t) := by
  obtain ⟨uo, po, go⟩ := ho
  obtain ⟨ua, pa, ga⟩ := ha
  refine je_pe (pe_meth (pl := pl) po c hm F hr hb .nil pass0 pa hst hpl ht) fun ds σ H M Q Q0 s m q k => ?_
  refine go ds σ H M _ _ s m q fun v H1 d M1 r1 m1 g1 q1 => ?_
  unfold methQ at q1
  split at q1
  · rename_i a
    split at q1
    · rename_i C' fs e1
      obtain ⟨⟨rfl, hl⟩, q1⟩ := q1
      cases r1.ref_v
      obtain ⟨dx, vs, h1, r2⟩ := m1.ob a _ (of_insOf e1)
      refine ⟨a, dx, vs, rfl, h1, r2.lookN hl, ?_⟩
      refine ga ds σ H1 M1 _ _ (s.gg m g1) m1 q1 fun ws H2 es M2 r3 m2 g2 q2 => ?_
      rw [List.append_nil]
      exact ⟨.ref a :: es, M2, Q, H2, rfl, .cons (.ref a) r3, m2, q2, fun v H' d M' r' m' g' q' => k v H' d M' r' m' ((g1.trans g2).trans g') q'⟩
    · exact q1.elim
  · exact q1.elim
theorem je_meth0 {pl : Sem Bool} (c : L2.Cls X.K C) (hm : Meth X.K C m f) (F : FnOk X.prog X.w X.K X.mg X.base CX0 k f fd ps (toSp X.K sp)) (hr : Room k X.A) (hb : Binds X.K fd ps []) (ho : JE X o to)
    (ht : eval (.Call (.Attribute o m apos) [] [] pos) X.env = (do
      let ov ← eval o X.env
      standAt apos.atName
      let (f, first) ← holding [ov] (getMethod ov m pl)
      callWith pos f first (backTo pos (starEach [] X.env)) (backToKw pos (keywordEach [] X.env))) := by rfl) :
    JE X (.Call (.Attribute o m apos) [] [] pos) (dMeth C m sp to dNil) := by
  obtain ⟨uo, po, go⟩ := ho
  refine je_pe (pe_meth0 (pl := pl) po c hm F hr hb .nil pass0 ht) fun ds σ H M Q Q0 s m q k => ?_
  refine go ds σ H M _ _ s m q fun v H1 d M1 r1 m1 g1 q1 => ?_
  unfold methQ at q1
  split at q1
  · rename_i a
    split at q1
    · rename_i C' fs e1
      obtain ⟨⟨rfl, hl⟩, q1⟩ := q1
      cases r1.ref_v
      obtain ⟨dx, vs, h1, r2⟩ := m1.ob a _ (of_insOf e1)
      refine ⟨a, dx, vs, rfl, h1, r2.lookN hl, ?_⟩
      exact ⟨[.ref a], M1, Q, H1, rfl, .cons (.ref a) .nil, m1, q1, fun v H' d M' r' m' g' q' => k v H' d M' r' m' (g1.trans g') q'⟩
    · exact q1.elim
  · exact q1.elim
theorem make_go {E0 : XK} {ds : List D} {M1 : Mm} {H1 : HF} {vs : List V} {Q : DQ} {Q0 : VK} (r : VRs X.K H1 ds vs) (m1 : MR X.K M1 H1) (q : ∀ x, M1 x = none → sp (.ref x :: ds) (mup M1 x (.ins C [])) fun v M2 => v = .non ∧ Q (.ref x) M2)
    (k : ∀ x H' M', MR X.K M' H' → GG M1 H1 M' H' → Q (.ref x) M' → Q0 (.ref x) H'.h) (x dx : Addr) (hx : H1.h x = none) (hd : H1.h dx = none) (ne : dx ≠ x) :
    toSp X.K sp (.ref x :: (vs ++ [])) (upd (upd H1.h dx (.own x)) x (.ins C dx [])) (fun v H2 => v = .non ∧ Q0 (.ref x) H2) E0 := by
  rw [List.append_nil]
  have m2 : MR X.K M1 (H1.up dx (.own x)) := m1.newT hd
  have g2 : GG M1 H1 M1 (H1.up dx (.own x)) := GG.newT hd
  have hx2 : (H1.up dx (.own x)).h x = none := by
    show upd H1.h dx (.own x) x = none
    rw [upd_ne ne.symm]; exact hx
  have t1 := g2.tx m1
  have t2 : TX X.K (H1.up dx (.own x)) ((H1.up dx (.own x)).up x (.ins C dx [])) := TX.new m2 hx2
  refine ⟨.ref x :: ds, mup M1 x (.ins C []), _, (H1.up dx (.own x)).up x (.ins C dx []), rfl, .cons (.ref x) (VRs.mono t2 _ _ (VRs.mono t1 _ _ r)), m2.new hx2 ⟨dx, [], upd_same, .nil⟩, q x (m1.free hx), fun v H' d M' r' m' g' q' => ?_⟩
  obtain ⟨rfl, q'⟩ := q'
  exact ⟨r'.non_v, k x H' M' m' ((g2.trans (GG.new hx2)).trans g') q'⟩
theorem je_make (M : Mk X.K C f) (F : FnOk X.prog X.w X.K X.mg X.base CX0 k f fd ps (toSp X.K sp)) (hr : Room (k + 1) X.A) (hg : Gl X x) (hm : X.mg x = some (.ref C)) (hb : Binds X.K fd ps []) (ha : JA X (e :: es) t)
    (hdb : (x == ("__debug__" : Str)) = false := by decide) (he : starEach (e :: es) X.env = (false, eval e X.env) :: starEach es X.env := by rfl) (hpl : (backTo pos (starEach es X.env)).any (·.1) = false := by rfl) :
    JE X (.Call (.Name x p) (e :: es) [] pos) (dMake C sp t) := by
  obtain ⟨u, q, g⟩ := ha
  refine je_pe (pe_make M F hr hg hm hb .nil pass0 q hdb he hpl) fun ds σ H M Q Q0 s m q k => ?_
  refine g ds σ H M _ _ s m q fun vs H1 es M1 r1 m1 g1 q1 => ?_
  exact fun x dx hx hd ne => make_go r1 m1 q1 (fun x H' M' m' g' q' => k (.ref x) H' _ M' (.ref x) m' (g1.trans g') q') x dx hx hd ne
end
end DM

/-! texts in order -/
namespace DM
open PySem L2
open PyProof.Rows (b2i)
def leS (a b : Str) : Bool := decide (a.cps.toList ≤ b.cps.toList)
theorem leD_str (a b : Str) : leD (.str a) (.str b) = leS a b := congrFun (congrFun (PySem.W.dataLe_str (fun x : Str => x)) a) b
theorem leS_refl (a : Str) : leS a a = true := by unfold leS; exact decide_eq_true (List.le_refl _)
theorem leS_trans {a b c : Str} (h : leS a b = true) (h' : leS b c = true) : leS a c = true := decide_eq_true (List.le_trans (of_decide_eq_true h) (of_decide_eq_true h'))
theorem leS_total (a b : Str) : (leS a b || leS b a) = true := by
  rcases List.le_total a.cps.toList b.cps.toList with h | h
  · simp [leS, h]
  · simp [leS, h]
theorem leS_anti {a b : Str} (h : leS a b = true) (h' : leS b a = true) : a = b := cps_inj (List.le_antisymm (of_decide_eq_true h) (of_decide_eq_true h'))
/-- rising, each once -/
def RisS (l : List Str) : Prop := l.Pairwise fun a b => leS a b = true ∧ a ≠ b
theorem ris_eq : ∀ {xs ys : List Str}, RisS xs → RisS ys → (∀ z, z ∈ xs ↔ z ∈ ys) → xs = ys
  | [], [], _, _, _ => rfl
  | [], y :: ys, _, _, h => absurd ((h y).mpr List.mem_cons_self) List.not_mem_nil
  | x :: xs, [], _, _, h => absurd ((h x).mp List.mem_cons_self) List.not_mem_nil
  | x :: xs, y :: ys, hx, hy, h => by
    obtain ⟨hx1, hx2⟩ := List.pairwise_cons.mp hx
    obtain ⟨hy1, hy2⟩ := List.pairwise_cons.mp hy
    have e : x = y := by
      rcases List.mem_cons.mp ((h x).mp List.mem_cons_self) with e | hm
      · exact e
      · rcases List.mem_cons.mp ((h y).mpr List.mem_cons_self) with e | hm2
        · exact e.symm
        · exact leS_anti (hx1 y hm2).1 (hy1 x hm).1
    subst e
    have : xs = ys := ris_eq hx2 hy2 fun z => ⟨fun hz => by
      rcases List.mem_cons.mp ((h z).mp (List.mem_cons_of_mem _ hz)) with rfl | hm
      · exact absurd rfl (hx1 z hz).2
      · exact hm, fun hz => by
      rcases List.mem_cons.mp ((h z).mpr (List.mem_cons_of_mem _ hz)) with rfl | hm
      · exact absurd rfl (hy1 z hz).2
      · exact hm⟩
    rw [this]
theorem sortS_ris {l : List Str} (h : l.Nodup) : RisS (sortS l) := by
  have h1 : (sortS l).Pairwise fun a b => leD (.str a) (.str b) = true := List.pairwise_mergeSort (fun a b c h h' => by rw [leD_str] at *; exact leS_trans h h') (fun a b => by rw [leD_str, leD_str]; exact leS_total a b) l
  have h2 : (sortS l).Nodup := (sortS_perm l).nodup_iff.mpr h
  exact (h1.and h2).imp fun ⟨a, b⟩ => ⟨by rw [← leD_str]; exact a, b⟩
theorem ris_nodup {l : List Str} (h : RisS l) : l.Nodup := h.imp fun x => x.2
theorem sortS_of_ris {l : List Str} (h : RisS l) : sortS l = l := ris_eq (sortS_ris (ris_nodup h)) h fun z => sortS_mem
theorem sortS_ext {l l' : List Str} (h : l.Nodup) (h' : l'.Nodup) (e : ∀ z, z ∈ l ↔ z ∈ l') : sortS l = sortS l' := ris_eq (sortS_ris h) (sortS_ris h') fun z => by rw [sortS_mem, sortS_mem, e]
/-- each once, as they come -/
def oneEach (l : List Str) : List Str := l.foldl (fun acc x => if x ∈ acc then acc else acc ++ [x]) []
theorem oneEach_go : ∀ (l acc : List Str), acc.Nodup → ((l.foldl (fun acc x => if x ∈ acc then acc else acc ++ [x]) acc).Nodup ∧ ∀ z, z ∈ l.foldl (fun acc x => if x ∈ acc then acc else acc ++ [x]) acc ↔ z ∈ acc ∨ z ∈ l)
  | [], acc, h => ⟨h, by simp⟩
  | x :: l, acc, h => by
    rw [List.foldl_cons]
    by_cases hx : x ∈ acc
    · rw [if_pos hx]
      obtain ⟨h1, h2⟩ := oneEach_go l acc h
      exact ⟨h1, fun z => by rw [h2]; simp only [List.mem_cons]; exact ⟨fun h => h.elim .inl (fun h => .inr (.inr h)), fun h => h.elim .inl fun h => h.elim (fun e => .inl (e ▸ hx)) .inr⟩⟩
    · rw [if_neg hx]
      obtain ⟨h1, h2⟩ := oneEach_go l (acc ++ [x]) (by rw [List.nodup_append]; exact ⟨h, by simp, fun a ha b hb => by rw [List.mem_singleton.mp hb]; rintro rfl; exact hx ha⟩)
      exact ⟨h1, fun z => by rw [h2]; simp [or_assoc]⟩
theorem oneEach_nodup (l : List Str) : (oneEach l).Nodup := (oneEach_go l [] (by simp)).1
theorem oneEach_mem {l : List Str} {z : Str} : z ∈ oneEach l ↔ z ∈ l := by rw [oneEach, (oneEach_go l [] (by simp)).2]; simp
/-- the members of a list, rising -/
def rise (l : List Str) : List Str := sortS (oneEach l)
theorem rise_ris (l : List Str) : RisS (rise l) := sortS_ris (oneEach_nodup l)
theorem rise_mem {l : List Str} {z : Str} : z ∈ rise l ↔ z ∈ l := by rw [rise, sortS_mem, oneEach_mem]
theorem rise_len (l : List Str) : (rise l).length ≤ l.length := by
  rw [rise, sortS_len]
  have key : ∀ (l acc : List Str), (l.foldl (fun acc x => if x ∈ acc then acc else acc ++ [x]) acc).length ≤ acc.length + l.length := by
    intro l
    induction l with
    | nil => intro acc; simp
    | cons x l ih =>
      intro acc
      rw [List.foldl_cons, List.length_cons]
      have h1 := ih (if x ∈ acc then acc else acc ++ [x])
      have h2 : (if x ∈ acc then acc else acc ++ [x]).length ≤ acc.length + 1 := by split <;> simp
      omega
  have := key l []
  rw [List.length_nil, Nat.zero_add] at this
  exact this
section
variable {ds : DSt} {M : Mm} {a : Addr}
theorem dSortSet_e {te : TDE} {Q : List D → Mm → Prop} : dSortSet te ds M Q = te ds M fun x M1 => sortSetQ x M1 Q := (rfl)
theorem keysD_strs (l : List Str) : keysD (l.map D.str) = some (l.map Sum.inr) := by
  have := keysD_map (l.map Sum.inr)
  rwa [List.map_map] at this
/-- sorted(set(xs)) of texts -/
theorem sortSet_go {x : D} {l : List Str} {Q : List D → Mm → Prop} (e : rdS M x = some (l.map D.str)) (hl : l.length ≤ 4000) (h : Q ((rise l).map D.str) M) : sortSetQ x M Q := by
  unfold sortSetQ
  simp only [e, keysD_strs]
  refine ⟨⟨by rw [List.length_map]; omega, sortOk_str⟩, fun ks nd hk => ?_⟩
  obtain ⟨l', rfl⟩ : ∃ l' : List Str, ks = l'.map Sum.inr := by
    have : ∀ k ∈ ks, ∃ s : Str, Sum.inr s = k := fun k hk' => by
      obtain ⟨s, _, e⟩ := List.mem_map.mp ((hk k).mp hk')
      exact ⟨s, e⟩
    clear nd hk
    induction ks with
    | nil => exact ⟨[], rfl⟩
    | cons k ks ih =>
      obtain ⟨s, rfl⟩ := this k List.mem_cons_self
      obtain ⟨l', rfl⟩ := ih fun k hk => this k (List.mem_cons_of_mem _ hk)
      exact ⟨s :: l', rfl⟩
  have nd' : l'.Nodup := List.Pairwise.of_map (S := (· ≠ ·)) Sum.inr (fun a b h e => h (e ▸ rfl)) nd
  have hm : ∀ z, z ∈ l' ↔ z ∈ l := fun z => by
    have := hk (Sum.inr z)
    simpa using this
  rw [show (l'.map Sum.inr).map kD = l'.map D.str by rw [List.map_map]; rfl, sortD_strs, sortS_ext nd' (oneEach_nodup l) (fun z => by rw [hm, oneEach_mem])]
  exact h
theorem sortSet_L {l : List Str} {Q : List D → Mm → Prop} (hl : l.length ≤ 4000) (h : Q ((rise l).map D.str) M) : sortSetQ (.lst (l.map D.str)) M Q := sortSet_go rfl hl h
end
end DM

/-! setdefault; len and get of dicts with tuple keys -/
namespace DM
open PySem L2
open PyProof.Rows (b2i)
def setdQ (x y z : D) (M : Mm) (Q : DQ) : Prop := match x, keyD y with
  | .ref a, some k => (match dicOf M a with | some kvs => kvs.length < sizeLine ∧ (match valD kvs k with | some v => Q v M | none => Q z (mup M a (.dic (putD kvs k z)))) | none => False)
  | _, _ => False
def dSetd (to te tf : TDE) : TDE := fun ds M Q => to ds M fun x M1 => isDic x M1 ∧ te ds M1 fun y M2 => tf ds M2 fun z M3 => setdQ x y z M3 Q
def isDit (x : D) (M : Mm) : Prop := (rdT M x).isSome = true
def setdTQ (x y z : D) (M : Mm) (Q : DQ) : Prop := match x, keyT y with
  | .ref a, some k => (match ditOf M a with | some kvs => kvs.length < sizeLine ∧ (match valT kvs k with | some v => Q v M | none => Q z (mup M a (.dit (putT kvs k z)))) | none => False)
  | _, _ => False
def dSetdT (to te tf : TDE) : TDE := fun ds M Q => to ds M fun x M1 => isDit x M1 ∧ te ds M1 fun y M2 => tf ds M2 fun z M3 => setdTQ x y z M3 Q
def getTQ (x y z : D) (M : Mm) (Q : DQ) : Prop := match rdT M x, keyT y with
  | some kvs, some k => Q ((valT kvs k).getD z) M
  | _, _ => False
def dGet2T (to te tf : TDE) : TDE := fun ds M Q => to ds M fun x M1 => isDit x M1 ∧ te ds M1 fun y M2 => tf ds M2 fun z M3 => getTQ x y z M3 Q
section
variable {X : Cx} {pins : List (Addr × Obj)} {σ : L2.St} {H : Hp} {s : Shared} {a b : Addr} {r : Value} {d : V} {k : List Key} {A : Around} {E : Value → Shared → Prop}
theorem d_setdT {kvs : List (List Key × V)} {Q : Value → Shared → Prop} (hu : A.units + 1 < cLine) (I : Inv X pins σ H s) (e : H a = some (.dT kvs)) (eb : H b = some (.tup (k.map kV))) (rd : RelV d r) (hl : kvs.length < sizeLine)
    (h1 : ∀ v, valV kvs k = some v → ∀ (w' : Value) (s' : Shared), Inv X pins σ H s' → RelV v w' → Q w' s') (h2 : valV kvs k = none → ∀ (w' : Value) (s' : Shared), Inv X pins σ (upd H a (.dT (putK kvs k d))) s' → RelV d w' → Q w' s') :
    wpAny (model X.prog X.w) A (call (.builtin "dict.setdefault") [.ref a, .ref b, r]) Q E s := by
  obtain ⟨z, hd, xs, rel, dd⟩ := dt_of I.hok e
  have hz : xs.length ≤ sizeLine := by rw [← Paired.length rel]; exact z
  refine call_setdefault_heap (hsz := hz) (tupleKind_room_in1 hu) (key_of I.hok eb) hd dd (fun p hp => ?_) fun hn h' dd' sb => ?_
  · obtain ⟨v, hv, rv⟩ : ∃ v, valV kvs k = some v ∧ RelV v p.2 := by
      have q := rel.val k
      rw [hp] at q
      cases e3 : valV kvs k with
      | none => rw [e3] at q; exact q.elim
      | some v => rw [e3] at q; exact ⟨v, rfl, q⟩
    exact h1 v hv _ _ (I.tok _) rv
  · have hv : valV kvs k = none := by
      have q := rel.val k
      rw [hn] at q
      cases e3 : valV kvs k with
      | none => rfl
      | some v => rw [e3] at q; exact q.elim
    have hl2 : (putK kvs k d).length ≤ sizeLine := by have := length_putK kvs k d; omega
    obtain ⟨q, es, ep, hq, g2, g3, g4, _, g5⟩ := dd'
    refine h2 hv _ _ (d_write (t' := _) I (by rw [e]; exact True.intro) sb ⟨q, hq⟩ ⟨hl2, hd, _, (rel.put k eb rd).keeps fun c ys ec => ?_, q, es, ep, hq, g2, g3, g4, g5⟩) rd
    rw [upd_ne (ne_of ec e (fun z => nomatch z))]
    exact ec
end
/-- below: d.setdefault(y, z), tuple keys -/
def tSetdT (td ty tx : TE) : TE := fun σ H Q => td σ H fun x H1 => ∃ a, x = .ref a ∧ IsD H1 a ∧ ty σ H1 fun y H2 => tx σ H2 fun z H3 => ∃ (kvs : List (List Key × V)) (k : List Key) (b : Addr), H3 a = some (.dT kvs) ∧ y = .ref b ∧ H3 b = some (.tup (k.map kV)) ∧ kvs.length < sizeLine ∧
  (∀ v, valV kvs k = some v → Q v H3) ∧ (valV kvs k = none → Q z (upd H3 a (.dT (putK kvs k z))))
section
variable {X : Cx} {o e f : Expr} {to te tf : TDE} {td ty tx : TE} {apos cpos p pos : Pos} {es : List Expr} {t : TDA} {k : Nat}
theorem pe_setdT (hu : X.A.units + 1 < cLine) (ho : PE X o td) (he : PE X e ty) (hf : PE X f tx) (m : M2 X o "setdefault" apos e f cpos) : PE X (.Call (.Attribute o "setdefault" apos) [e, f] [] cpos) (tSetdT td ty tx) := by
  refine ⟨fun pins s σ H Q I h => ?_⟩
  refine wpAny_Call_method m.base m.few m.line PySem.F.plainAttrs_dict PySem.F.slot_dict_setdefault PySem.F.type_dict_setdefault (thn (ho.run pins s σ H _ I h) fun u s1 ⟨x, H1, I1, rx, a, ex, d, q1⟩ => ?_)
  subst ex
  obtain rfl : u = Value.ref a := rx
  obtain ⟨t1, t2, _⟩ := isD_at I1 d
  refine ⟨t1, t2, ?_⟩
  rw [m.trees]
  refine Calls.callWith_builtin rfl (Calls.evalArgs_plain (Calls.spliced_cons (thn (he.run pins s1 σ H1 _ I1 q1) fun iv s2 ⟨y, H2, I2, ry, q2⟩ =>
    Calls.spliced_cons (thn (hf.run pins s2 σ H2 _ I2 q2) fun fv s3 ⟨z, H3, I3, rz, kvs, k, b, ea, ey, eb, hl, q3, q4⟩ => Calls.spliced_nil ?_))))
  subst ey
  obtain rfl : iv = Value.ref b := ry
  exact d_setdT hu I3 ea eb rz hl (fun v hv w' s4 I4 rw' => ⟨v, _, I4, rw', q3 v hv⟩) fun hn w' s4 I4 rw' => ⟨z, _, I4, rw', q4 hn⟩
theorem je_setd (ho : JE X o to) (he : JE X e te) (hf : JE X f tf) (m : M2 X o "setdefault" apos e f cpos := by exact ⟨rfl, rfl, rfl, rfl⟩) : JE X (.Call (.Attribute o "setdefault" apos) [e, f] [] cpos) (dSetd to te tf) := by
  obtain ⟨u, p, g⟩ := ho
  obtain ⟨u1, p1, g1⟩ := he
  obtain ⟨u2, p2, g2⟩ := hf
  refine je_pe (pe_dsetd p p1 p2 m) fun ds σ H M Q Q0 s mm q kk => ?_
  refine g ds σ H M _ _ s mm q fun v H1 d M1 r1 m1 gg1 q1 => ?_
  obtain ⟨hd, q1⟩ := q1
  obtain ⟨a, rfl, hd⟩ := isDic_of r1 m1 hd
  refine ⟨a, rfl, hd, ?_⟩
  refine g1 ds σ H1 M1 _ _ (s.gg mm gg1) m1 q1 fun w H2 d2 M2 r2 m2 gg2 q2 => ?_
  refine g2 ds σ H2 M2 _ _ (s.gg mm (gg1.trans gg2)) m2 q2 fun z H3 d3 M3 r3 m3 gg3 q3 => ?_
  unfold setdQ at q3
  split at q3
  · rename_i b key e1
    cases r1
    split at q3
    · rename_i kvs e2
      obtain ⟨hz, q3⟩ := q3
      obtain ⟨vs, h1, r4⟩ := m3.ob _ _ (of_dicOf e2)
      rw [keyD_v r2 e1]
      refine ⟨vs, key, h1, rfl, by rw [← r4.length]; exact hz, fun v hv => ?_, fun hn => ?_⟩
      · cases e3 : valD kvs key with
        | none => rw [r4.valN e3] at hv; cases hv
        | some d4 =>
          rw [e3] at q3
          obtain ⟨z4, e4, r5⟩ := r4.val e3
          rw [hv] at e4
          cases e4
          exact kk _ H3 _ M3 r5 m3 ((gg1.trans gg2).trans gg3) q3
      · have e3 : valD kvs key = none := by
          cases e3 : valD kvs key with
          | none => rfl
          | some d4 => obtain ⟨z4, e4, _⟩ := r4.val e3; rw [hn] at e4; cases e4
        rw [e3] at q3
        have t := TX.put (u := .dK (putK vs key z)) m3 (of_dicOf e2)
        have gp : GG M3 H3 (mup M3 a (.dic (putD kvs key d3))) (H3.up a (.dK (putK vs key z))) := GG.put (of_dicOf e2)
        exact kk z (H3.up a _) d3 _ (VR.mono t _ _ r3) (m3.put (w := .dic (putD kvs key d3)) (of_dicOf e2) ⟨_, upd_same, (r4.mono t).put (VR.mono t _ _ r3)⟩) (((gg1.trans gg2).trans gg3).trans gp) q3
    · exact q3.elim
  · exact q3.elim
theorem isDit_of {K : PySem.W.Frag} {H : HF} {M : Mm} {x : D} {v : V} (r : VR K H x v) (m : MR K M H) (h : isDit x M) : ∃ a, v = .ref a ∧ IsD H.h a := by
  obtain ⟨kvs, e⟩ := Option.isSome_iff_exists.mp h
  obtain ⟨a, vs, rfl, h1, _⟩ := rdT_v m r e
  exact ⟨a, rfl, .inr ⟨vs, .inl h1⟩⟩
theorem je_setdT (hr : Room k X.A) (ho : JE X o to) (he : JE X e te) (hf : JE X f tf) (m : M2 X o "setdefault" apos e f cpos := by exact ⟨rfl, rfl, rfl, rfl⟩) : JE X (.Call (.Attribute o "setdefault" apos) [e, f] [] cpos) (dSetdT to te tf) := by
  obtain ⟨u, p, g⟩ := ho
  obtain ⟨u1, p1, g1⟩ := he
  obtain ⟨u2, p2, g2⟩ := hf
  refine je_pe (pe_setdT (hu_of hr) p p1 p2 m) fun ds σ H M Q Q0 s mm q kk => ?_
  refine g ds σ H M _ _ s mm q fun v H1 d M1 r1 m1 gg1 q1 => ?_
  obtain ⟨hd, q1⟩ := q1
  obtain ⟨a, rfl, hd⟩ := isDit_of r1 m1 hd
  refine ⟨a, rfl, hd, ?_⟩
  refine g1 ds σ H1 M1 _ _ (s.gg mm gg1) m1 q1 fun w H2 d2 M2 r2 m2 gg2 q2 => ?_
  refine g2 ds σ H2 M2 _ _ (s.gg mm (gg1.trans gg2)) m2 q2 fun z H3 d3 M3 r3 m3 gg3 q3 => ?_
  unfold setdTQ at q3
  split at q3
  · rename_i b key e1
    cases r1
    split at q3
    · rename_i kvs e2
      obtain ⟨hz, q3⟩ := q3
      obtain ⟨vs, h1, r4⟩ := m3.ob _ _ (of_ditOf e2)
      obtain ⟨c, rfl, hc⟩ := key_v (VR.mono (gg3.tx m2) _ _ r2) e1
      refine ⟨vs, key, c, h1, rfl, hc, by rw [← r4.len]; exact hz, fun v hv => ?_, fun hn => ?_⟩
      · cases e3 : valT kvs key with
        | none => rw [r4.valtN e3] at hv; cases hv
        | some d4 =>
          rw [e3] at q3
          obtain ⟨z4, e4, r5⟩ := r4.valt e3
          rw [hv] at e4
          cases e4
          exact kk _ H3 _ M3 r5 m3 ((gg1.trans gg2).trans gg3) q3
      · have e3 : valT kvs key = none := by
          cases e3 : valT kvs key with
          | none => rfl
          | some d4 => obtain ⟨z4, e4, _⟩ := r4.valt e3; rw [hn] at e4; cases e4
        rw [e3] at q3
        have t := TX.put (u := .dT (putK vs key z)) m3 (of_ditOf e2)
        have gp : GG M3 H3 (mup M3 a (.dit (putT kvs key d3))) (H3.up a (.dT (putK vs key z))) := GG.put (of_ditOf e2)
        exact kk z (H3.up a _) d3 _ (VR.mono t _ _ r3) (m3.put (w := .dit (putT kvs key d3)) (of_ditOf e2) ⟨_, upd_same, (r4.mono t).putt (VR.mono t _ _ r3)⟩) (((gg1.trans gg2).trans gg3).trans gp) q3
    · exact q3.elim
  · exact q3.elim
theorem je_get2T (hr : Room k X.A) (ho : JE X o to) (he : JE X e te) (hf : JE X f tf) (m : M2 X o "get" apos e f cpos := by exact ⟨rfl, rfl, rfl, rfl⟩) : JE X (.Call (.Attribute o "get" apos) [e, f] [] cpos) (dGet2T to te tf) := by
  obtain ⟨u, p, g⟩ := ho
  obtain ⟨u1, p1, g1⟩ := he
  obtain ⟨u2, p2, g2⟩ := hf
  refine je_pe (pe_dget2 (hu_of hr) p p1 p2 m) fun ds σ H M Q Q0 s mm q kk => ?_
  refine g ds σ H M _ _ s mm q fun v H1 d M1 r1 m1 gg1 q1 => ?_
  obtain ⟨hd, q1⟩ := q1
  obtain ⟨a, rfl, hd⟩ := isDit_of r1 m1 hd
  refine ⟨a, rfl, hd, ?_⟩
  refine g1 ds σ H1 M1 _ _ (s.gg mm gg1) m1 q1 fun w H2 d2 M2 r2 m2 gg2 q2 => ?_
  refine g2 ds σ H2 M2 _ _ (s.gg mm (gg1.trans gg2)) m2 q2 fun z H3 d3 M3 r3 m3 gg3 q3 => ?_
  unfold getTQ at q3
  split at q3
  · rename_i kvs key e1 e2
    obtain ⟨b, vs, ea, h1, rf⟩ := rdT_v m3 (VR.mono ((gg2.trans gg3).tx m1) _ _ r1) e1
    cases ea
    obtain ⟨c, rfl, hc⟩ := key_v (VR.mono (gg3.tx m2) _ _ r2) e2
    refine ⟨valV vs key, DGet.t h1 hc, ?_⟩
    cases e3 : valT kvs key with
    | none => rw [e3] at q3; rw [rf.valtN e3]; exact kk _ H3 _ M3 r3 m3 ((gg1.trans gg2).trans gg3) q3
    | some d4 =>
      rw [e3] at q3
      obtain ⟨z4, e4, r4⟩ := rf.valt e3
      rw [e4]
      exact kk _ H3 _ M3 r4 m3 ((gg1.trans gg2).trans gg3) q3
  · exact q3.elim
theorem lift_lenT {K : PySem.W.Frag} : LiftC K rLenT lenTR := by
  intro vs ds H M Q Q0 r m h k
  unfold lenTR at h
  split at h
  · split at h
    · rename_i x kvs e
      obtain ⟨v, rfl, r1⟩ := r.one
      obtain ⟨a, ws, rfl, h1, r2⟩ := rdT_v m r1 e
      exact ⟨a, ws, rfl, h1, by rw [← r2.len]; exact k _ H _ M (.int _) m GG.refl h⟩
    · exact h.elim
  · exact h.elim
theorem je_lenT (hm : X.mg "len" = none) (ha : JA X (e :: es) t) (hg : Gl X "len" := by rfl) (he : starEach (e :: es) X.env = (false, eval e X.env) :: starEach es X.env := by rfl) (hpl : (backTo pos (starEach es X.env)).any (·.1) = false := by rfl) :
    JE X (.Call (.Name "len" p) (e :: es) [] pos) (dCB lenTR t) := je_callB call_len_dT lift_lenT hg hm PySem.boot_len ha (by decide) (by decide) he hpl
end
end DM

/-! equations for the new words -/
namespace DM
open PySem L2
open PyProof.Rows (b2i)
section
variable {ds : DSt} {M : Mm} {a C : Addr} {Q : DQ} {x y z v d : D} {f m : Str} {fs : List (Str × D)} {sp : DSp} {te to tf : TDE} {t : TDA} {D0 : DEnds} {kvs : List (Key × D)} {s : TDS} {xs : List D}
theorem dFld_e : dFld C f te ds M Q = te ds M fun x M1 => fldQ C f x M1 Q := (rfl)
theorem fldQ_r : fldQ C f (.ref a) M Q = someI (insOf M a) fun p => p.1 = C ∧ someI (p.2.lookup f) fun d => Q d M := by
  unfold fldQ someI
  cases e : insOf M a with
  | none => simp only [e]
  | some p =>
    obtain ⟨C', fs⟩ := p
    simp only [e]
    cases List.lookup f fs <;> rfl
theorem fld_go (h : insOf M a = some (C, fs)) (e : fs.lookup f = some d) (k : Q d M) : fldQ C f (.ref a) M Q := by
  rw [fldQ_r, h]
  exact ⟨rfl, by simp only [e]; exact k⟩
theorem dFput_e : dFput C f te to D0 ds M = te ds M fun y M1 => to ds M1 fun x M2 => fputQ C f x y M2 fun M3 => D0.nx ds M3 := (rfl)
theorem fput_g {N : Mm → Prop} (h : insOf M a = some (C, fs)) (hl : fs.length < 1000) (k : N (mup M a (.ins C (putFD f y fs)))) : fputQ C f (.ref a) y M N := by
  unfold fputQ
  simp only [h]
  exact ⟨⟨trivial, hl⟩, k⟩
def dFadd2 (C : Addr) (f : Str) (a : Addr) (i : Int) (y : D) (ds : DSt) (M2 : Mm) (N : DSt → Mm → Prop) : Prop := match y with
  | .int j => fputQ C f (.ref a) (.int (i + j)) M2 fun M3 => N ds M3
  | _ => False
theorem dFadd_e : dFadd C f to te D0 ds M = to ds M fun x M1 => faddQ1 C f x M1 fun a i => te ds M1 fun y M2 => dFadd2 C f a i y ds M2 D0.nx := (rfl)
theorem dFadd2_i {a : Addr} {i j : Int} {N : DSt → Mm → Prop} : dFadd2 C f a i (.int j) ds M N = fputQ C f (.ref a) (.int (i + j)) M fun M3 => N ds M3 := (rfl)
theorem fadd_g {N : Addr → Int → Prop} {i : Int} (h : insOf M a = some (C, fs)) (e : fs.lookup f = some (.int i)) (k : N a i) : faddQ1 C f (.ref a) M N := by
  unfold faddQ1
  simp only [h, e]
  exact ⟨trivial, k⟩
theorem dMeth_e : dMeth C m sp to t ds M Q = to ds M fun x M1 => methQ C m sp x ds t M1 Q := (rfl)
theorem meth_g (h : insOf M a = some (C, fs)) (e : fs.lookup m = none) (k : t ds M fun xs M2 => sp (.ref a :: xs) M2 Q) : methQ C m sp (.ref a) ds t M Q := by
  unfold methQ
  simp only [h]
  exact ⟨⟨trivial, e⟩, k⟩
theorem dMake_e : dMake C sp t ds M Q = t ds M fun xs M1 => ∀ x, M1 x = none → sp (.ref x :: xs) (mup M1 x (.ins C [])) fun v M2 => v = .non ∧ Q (.ref x) M2 := (rfl)
theorem dSetd_e : dSetd to te tf ds M Q = to ds M fun x M1 => isDic x M1 ∧ te ds M1 fun y M2 => tf ds M2 fun z M3 => setdQ x y z M3 Q := (rfl)
theorem setd_s {w : Str} (h : dicOf M a = some kvs) (hl : kvs.length < sizeLine) (k1 : ∀ v, valD kvs (.inr w) = some v → Q v M) (k2 : valD kvs (.inr w) = none → Q z (mup M a (.dic (putD kvs (.inr w) z)))) : setdQ (.ref a) (.str w) z M Q := by
  unfold setdQ keyD
  simp only [h]
  refine ⟨hl, ?_⟩
  cases e : valD kvs (.inr w) with
  | none => exact k2 e
  | some v => exact k1 v e
theorem isDic_r (h : dicOf M a = some kvs) : isDic (.ref a) M := by
  unfold isDic
  rw [rdD_ref, h]; rfl
theorem dSetdT_e : dSetdT to te tf ds M Q = to ds M fun x M1 => isDit x M1 ∧ te ds M1 fun y M2 => tf ds M2 fun z M3 => setdTQ x y z M3 Q := (rfl)
theorem setdT_g {kvs : List (List Key × D)} {k : List Key} (e : keyT y = some k) (h : ditOf M a = some kvs) (hl : kvs.length < sizeLine) (k1 : ∀ v, valT kvs k = some v → Q v M) (k2 : valT kvs k = none → Q z (mup M a (.dit (putT kvs k z)))) : setdTQ (.ref a) y z M Q := by
  unfold setdTQ
  simp only [h, e]
  refine ⟨hl, ?_⟩
  cases e : valT kvs k with
  | none => exact k2 e
  | some v => exact k1 v e
theorem isDit_r {kvs : List (List Key × D)} (h : ditOf M a = some kvs) : isDit (.ref a) M := by
  unfold isDit
  rw [rdT_ref, h]; rfl
theorem dGet2T_e : dGet2T to te tf ds M Q = to ds M fun x M1 => isDit x M1 ∧ te ds M1 fun y M2 => tf ds M2 fun z M3 => getTQ x y z M3 Q := (rfl)
theorem getT_g {kvs : List (List Key × D)} {k : List Key} (e : keyT y = some k) (h : rdT M x = some kvs) (k1 : Q ((valT kvs k).getD z) M) : getTQ x y z M Q := by
  unfold getTQ
  simp only [h, e]
  exact k1
theorem lenTR_r : lenTR [.ref a] M Q = someI (ditOf M a) fun kvs => Q (.int kvs.length) M := by
  unfold lenTR someI
  simp only [rdT_ref]
  cases ditOf M a <;> rfl
theorem sa_fput {a b : TDE} (h : ∀ Nx, KEq Nx (s D0) → dFput C f a b { D0 with nx := Nx } ds M) : dSeq (dFput C f a b) s D0 ds M := h _ fun _ _ h => h
theorem sa_fadd {a b : TDE} (h : ∀ Nx, KEq Nx (s D0) → dFadd C f a b { D0 with nx := Nx } ds M) : dSeq (dFadd C f a b) s D0 ds M := h _ fun _ _ h => h
theorem look_here : List.lookup f ((f, d) :: fs) = some d := by simp [List.lookup_cons]
theorem look_there {g : Str} (h : (f == g) = false) : List.lookup f ((g, d) :: fs) = List.lookup f fs := by rw [List.lookup_cons, h]
end
end DM

/-! a machine's edges by states and marks, in the store -/
namespace DM
open PySem L2
open PyProof.Rows (b2i)
theorem valT_put {κ δ : Type} [DecidableEq κ] (k : κ) (d : δ) : ∀ (kvs : List (κ × δ)) (j : κ), valT (putT kvs k d) j = if j = k then some d else valT kvs j := by
  have rep : ∀ (kvs : List (κ × δ)) (j : κ), valT (kvs.map fun kv => if kv.1 = k then (kv.1, d) else kv) j = if j = k then (if (kvs.any fun kv => decide (kv.1 = k)) = true then some d else none) else valT kvs j := by
    intro kvs
    induction kvs with
    | nil => intro j; by_cases e : j = k <;> simp [valT, e]
    | cons p kvs ih =>
      intro j
      have ih := ih j
      unfold valT at *
      rw [List.map_cons, List.find?_cons, List.any_cons]
      by_cases h : p.1 = k
      · rw [if_pos h]
        by_cases e : j = k
        · subst e; simp [h]
        · have : ¬ p.1 = j := fun h' => e (h'.symm.trans h)
          simp only [this, decide_false]
          rw [ih, if_neg e, if_neg e, List.find?_cons]
          simp only [this, decide_false]
      · rw [if_neg h]
        by_cases e : p.1 = j
        · have : ¬ j = k := fun h' => h (e.trans h')
          simp [e, this]
        · simp only [e, decide_false]
          rw [ih, List.find?_cons]
          simp only [e, decide_false, h, Bool.false_or]
  intro kvs j
  unfold putT
  by_cases h : (kvs.any fun kv => decide (kv.1 = k)) = true
  · rw [if_pos h, rep, if_pos h]
  · rw [if_neg h]
    unfold valT
    rw [List.find?_append]
    by_cases e : j = k
    · subst e
      have : kvs.find? (fun kv => decide (kv.1 = j)) = none := by
        rw [List.find?_eq_none]
        intro x hx hd
        exact h (List.any_eq_true.mpr ⟨x, hx, hd⟩)
      simp [this]
    · have : ¬ k = j := fun h' => e h'.symm
      rw [if_neg e, List.find?_cons]
      simp [this]
theorem valD_put (k : Key) (d : D) (kvs : List (Key × D)) (j : Key) : valD (putD kvs k d) j = if j = k then some d else valD kvs j := valT_put k d kvs j
theorem putD_len (k : Key) (d : D) (kvs : List (Key × D)) : (putD kvs k d).length ≤ kvs.length + 1 := by
  unfold putD; split <;> simp
theorem putT_len {κ δ : Type} [DecidableEq κ] (k : κ) (d : δ) (kvs : List (κ × δ)) : (putT kvs k d).length ≤ kvs.length + 1 := by
  unfold putT; split <;> simp
theorem dicOf_mup_same2 {M : Mm} {a : Addr} {kvs : List (Key × D)} : dicOf (mup M a (.dic kvs)) a = some kvs := dicOf_some mup_same
theorem dic_ne_lst {M : Mm} {a b : Addr} {kvs : List (Key × D)} {xs : List D} (h : dicOf M a = some kvs) (h' : lstOf M b = some xs) : a ≠ b := by
  rintro rfl
  have := of_lstOf h'
  rw [of_dicOf h] at this
  cases this
structure Lds (M : Mm) (l : Addr) (pA : Str → Addr) (qA : Str → Str → Addr) (S : Str → Prop) (T : Str → Str → Prop) (L : Str → Str → List Str) (n : Nat) : Prop where
  ld : ∃ kvs, dicOf M l = some kvs ∧ kvs.length ≤ n ∧ ∀ s d, valD kvs (.inr s) = some d ↔ S s ∧ d = .ref (pA s)
  inn : ∀ s, S s → ∃ ms, dicOf M (pA s) = some ms ∧ ms.length ≤ n ∧ ∀ m d, valD ms (.inr m) = some d ↔ T s m ∧ d = .ref (qA s m)
  lst : ∀ s m, T s m → lstOf M (qA s m) = some ((L s m).map .str)
  out : ∀ s m, ¬ T s m → L s m = []
  ts : ∀ s m, T s m → S s
  pl : ∀ s, S s → pA s ≠ l
  pp : ∀ s s', S s → S s' → pA s = pA s' → s = s'
  qq : ∀ s m s' m', T s m → T s' m' → qA s m = qA s' m' → s = s' ∧ m = m'
section
variable {M M' : Mm} {l p0 q0 : Addr} {pA : Str → Addr} {qA : Str → Str → Addr} {S : Str → Prop} {T : Str → Str → Prop} {L : Str → Str → List Str} {n : Nat} {s m t : Str} {kvs ms : List (Key × D)}
theorem dicOf_sub (e : Sub M M') {a : Addr} {kvs : List (Key × D)} (h : dicOf M a = some kvs) : dicOf M' a = some kvs := dicOf_some (e a _ (of_dicOf h))
theorem lstOf_sub (e : Sub M M') {a : Addr} {xs : List D} (h : lstOf M a = some xs) : lstOf M' a = some xs := lstOf_some (e a _ (of_lstOf h))
theorem ditOf_sub (e : Sub M M') {a : Addr} {xs : List (List Key × D)} (h : ditOf M a = some xs) : ditOf M' a = some xs := ditOf_some (e a _ (of_ditOf h))
theorem insOf_sub (e : Sub M M') {a : Addr} {x : Addr × List (Str × D)} (h : insOf M a = some x) : insOf M' a = some x := insOf_some (e a _ (of_insOf h))
theorem Lds.frame (h : Lds M l pA qA S T L n) (e : Sub M M') : Lds M' l pA qA S T L n where
  ld := let ⟨kvs, h1, h2⟩ := h.ld; ⟨kvs, dicOf_sub e h1, h2⟩
  inn := fun s hs => let ⟨ms, h1, h2⟩ := h.inn s hs; ⟨ms, dicOf_sub e h1, h2⟩
  lst := fun s m ht => lstOf_sub e (h.lst s m ht)
  out := h.out
  ts := h.ts
  pl := h.pl
  pp := h.pp
  qq := h.qq
theorem Lds.mono {n' : Nat} (h : Lds M l pA qA S T L n) (e : n ≤ n') : Lds M l pA qA S T L n' where
  ld := let ⟨kvs, h1, h2, h3⟩ := h.ld; ⟨kvs, h1, Nat.le_trans h2 e, h3⟩
  inn := fun s hs => let ⟨ms, h1, h2, h3⟩ := h.inn s hs; ⟨ms, h1, Nat.le_trans h2 e, h3⟩
  lst := h.lst
  out := h.out
  ts := h.ts
  pl := h.pl
  pp := h.pp
  qq := h.qq
theorem Lds.none_ld (h : Lds M l pA qA S T L n) (hk : dicOf M l = some kvs) (hs : ¬ S s) : valD kvs (.inr s) = none := by
  obtain ⟨k2, h1, _, h3⟩ := h.ld
  rw [hk] at h1
  cases h1
  cases e : valD kvs (.inr s) with
  | none => rfl
  | some d => exact absurd ((h3 s d).mp e).1 hs
theorem Lds.none_of (h : Lds M l pA qA S T L n) (hk : dicOf M l = some kvs) (e : valD kvs (.inr s) = none) : ¬ S s := fun hs => by
  obtain ⟨k2, h1, _, h3⟩ := h.ld
  rw [hk] at h1
  cases h1
  have := (h3 s _).mpr ⟨hs, rfl⟩
  rw [e] at this
  cases this
open Classical in
/-- a new state -/
theorem Lds.addS (h : Lds M l pA qA S T L n) (hk : dicOf M l = some kvs) (hs : ¬ S s) (hp : M p0 = none) :
    Lds (mup (mup M p0 (.dic [])) l (.dic (putD kvs (.inr s) (.ref p0)))) l (fun x => if x = s then p0 else pA x) qA (fun x => S x ∨ x = s) T L (n + 1) := by
  obtain ⟨k2, h1, hl, h3⟩ := h.ld
  rw [hk] at h1
  cases h1
  have npl : p0 ≠ l := by rintro rfl; rw [of_dicOf hk] at hp; cases hp
  have old : ∀ x, x ≠ l → M x ≠ none → mup (mup M p0 (.dic [])) l (.dic (putD kvs (.inr s) (.ref p0))) x = M x := fun x h1 h2 => by
    rw [mup_ne h1, mup_ne]
    rintro rfl; exact h2 hp
  refine ⟨⟨_, dicOf_mup_same2, by have := putD_len (.inr s) (.ref p0) kvs; omega, fun x d => ?_⟩, fun x hx => ?_, fun x m ht => ?_, h.out, fun x m ht => .inl (h.ts x m ht), fun x hx => ?_, fun x y hx hy e => ?_, h.qq⟩
  · rw [valD_put]
    by_cases e : x = s
    · subst e
      simp only [if_true, or_true, true_and, Option.some.injEq]
      exact eq_comm
    · rw [if_neg (fun h => e (Sum.inr.inj h)), h3, if_neg e]
      simp [e]
  · by_cases e : x = s
    · subst e
      rw [if_pos rfl]
      refine ⟨[], ?_, by simp, fun m d => ?_⟩
      · rw [dicOf_mup_ne npl]; exact dicOf_mup_same2
      · simp only [valD, List.find?_nil, Option.map_none, reduceCtorEq, false_iff]
        exact fun ⟨ht, _⟩ => hs (h.ts x m ht)
    · rw [if_neg e]
      have hx : S x := hx.resolve_right e
      obtain ⟨ms, g1, g2, g3⟩ := h.inn x hx
      refine ⟨ms, ?_, by omega, g3⟩
      unfold dicOf
      rw [old _ (h.pl x hx) (by rw [of_dicOf g1]; simp)]
      exact g1
  · have g := h.lst x m ht
    unfold lstOf
    rw [old _ (dic_ne_lst hk g).symm (by rw [of_lstOf g]; simp)]
    exact g
  · by_cases e : x = s
    · subst e; rw [if_pos rfl]; exact npl
    · rw [if_neg e]; exact h.pl x (hx.resolve_right e)
  · have nw : ∀ z, S z → pA z ≠ p0 := fun z hz e => by
      obtain ⟨ms, g1, _⟩ := h.inn z hz
      rw [e] at g1
      rw [of_dicOf g1] at hp
      cases hp
    by_cases e1 : x = s
    · by_cases e2 : y = s
      · rw [e1, e2]
      · rw [if_pos e1, if_neg e2] at e
        exact absurd e.symm (nw y (hy.resolve_right e2))
    · by_cases e2 : y = s
      · rw [if_neg e1, if_pos e2] at e
        exact absurd e (nw x (hx.resolve_right e1))
      · rw [if_neg e1, if_neg e2] at e
        exact h.pp x y (hx.resolve_right e1) (hy.resolve_right e2) e
open Classical in
/-- a new mark of a state -/
theorem Lds.addT (h : Lds M l pA qA S T L n) (hs : S s) (hm : dicOf M (pA s) = some ms) (ht : ¬ T s m) (hq : M q0 = none) :
    Lds (mup (mup M q0 (.lst [])) (pA s) (.dic (putD ms (.inr m) (.ref q0)))) l pA (fun x y => if x = s ∧ y = m then q0 else qA x y) S (fun x y => T x y ∨ (x = s ∧ y = m)) L (n + 1) := by
  obtain ⟨kvs, hk, hl, h3⟩ := h.ld
  obtain ⟨m2, g1, gl, g3⟩ := h.inn s hs
  rw [hm] at g1
  cases g1
  have nq : q0 ≠ pA s := by rintro rfl; rw [of_dicOf hm] at hq; cases hq
  have old : ∀ x, x ≠ pA s → M x ≠ none → mup (mup M q0 (.lst [])) (pA s) (.dic (putD ms (.inr m) (.ref q0))) x = M x := fun x h1 h2 => by
    rw [mup_ne h1, mup_ne]
    rintro rfl; exact h2 hq
  refine ⟨⟨kvs, ?_, by omega, h3⟩, fun x hx => ?_, fun x y ht' => ?_, fun x y hn => ?_, fun x y ht' => ?_, h.pl, h.pp, fun x y x' y' h1 h2 e => ?_⟩
  · unfold dicOf
    rw [old _ (h.pl s hs).symm (by rw [of_dicOf hk]; simp)]
    exact hk
  · by_cases e : x = s
    · subst e
      refine ⟨_, dicOf_mup_same2, by have := putD_len (.inr m) (.ref q0) ms; omega, fun y d => ?_⟩
      rw [valD_put]
      by_cases e : y = m
      · subst e
        simp only [if_true, and_self, or_true, true_and, Option.some.injEq]
        exact eq_comm
      · rw [if_neg (fun h => e (Sum.inr.inj h)), g3, if_neg (fun h => e h.2)]
        simp [e]
    · obtain ⟨m3, k1, k2, k3⟩ := h.inn x hx
      refine ⟨m3, ?_, by omega, fun y d => ?_⟩
      · unfold dicOf
        rw [old _ (fun h' => e (h.pp x s hx hs h')) (by rw [of_dicOf k1]; simp)]
        exact k1
      · rw [k3, if_neg (fun h => e h.1)]
        simp [e]
  · by_cases e : x = s ∧ y = m
    · rw [if_pos e, e.1, e.2, h.out s m ht, lstOf_mup_ne nq]
      exact lstOf_mup_same
    · rw [if_neg e]
      have g := h.lst x y (ht'.resolve_right e)
      unfold lstOf
      rw [old _ (dic_ne_lst hm g).symm (by rw [of_lstOf g]; simp)]
      exact g
  · exact h.out x y fun h' => hn (.inl h')
  · rcases ht' with ht' | ⟨rfl, _⟩
    · exact h.ts x y ht'
    · exact hs
  · have nw : ∀ a b, T a b → qA a b ≠ q0 := fun a b hab e => by
      have g := h.lst a b hab
      rw [e] at g
      rw [of_lstOf g] at hq
      cases hq
    by_cases e1 : x = s ∧ y = m
    · by_cases e2 : x' = s ∧ y' = m
      · exact ⟨e1.1.trans e2.1.symm, e1.2.trans e2.2.symm⟩
      · rw [if_pos e1, if_neg e2] at e
        exact absurd e.symm (nw _ _ (h2.resolve_right e2))
    · by_cases e2 : x' = s ∧ y' = m
      · rw [if_neg e1, if_pos e2] at e
        exact absurd e (nw _ _ (h1.resolve_right e1))
      · rw [if_neg e1, if_neg e2] at e
        exact h.qq _ _ _ _ (h1.resolve_right e1) (h2.resolve_right e2) e
open Classical in
/-- one more state behind a state and mark -/
theorem Lds.app (h : Lds M l pA qA S T L n) (ht : T s m) : Lds (mup M (qA s m) (.lst ((L s m ++ [t]).map .str))) l pA qA S T (fun x y => if x = s ∧ y = m then L s m ++ [t] else L x y) n := by
  obtain ⟨kvs, hk, hl, h3⟩ := h.ld
  have g := h.lst s m ht
  refine ⟨⟨kvs, by rw [dicOf_mup_ne (dic_ne_lst hk g)]; exact hk, hl, h3⟩, fun x hx => ?_, fun x y hxy => ?_, fun x y hn => ?_, h.ts, h.pl, h.pp, h.qq⟩
  · obtain ⟨ms, g1, g2⟩ := h.inn x hx
    exact ⟨ms, by rw [dicOf_mup_ne (dic_ne_lst g1 g)]; exact g1, g2⟩
  · by_cases e : x = s ∧ y = m
    · rw [if_pos e, e.1, e.2]; exact lstOf_mup_same
    · rw [if_neg e, lstOf_mup_ne (fun h' => e (h.qq _ _ _ _ hxy ht h'))]; exact h.lst x y hxy
  · rw [if_neg (by rintro ⟨rfl, rfl⟩; exact hn ht)]; exact h.out x y hn
end
/-- the states behind a state and mark -/
def byE (E : List Ed) (s m : Str) : List Str := (E.filter fun e => decide (e.1 = s ∧ e.2.1 = m)).map (·.2.2)
theorem byE_snoc {E : List Ed} {s m t x y : Str} : byE (E ++ [(s, m, t)]) x y = if x = s ∧ y = m then byE E s m ++ [t] else byE E x y := by
  unfold byE
  rw [List.filter_append, List.map_append]
  by_cases e : x = s ∧ y = m
  · rw [if_pos e, e.1, e.2]; simp
  · rw [if_neg e, List.filter_cons]
    have : ¬ (s = x ∧ m = y) := fun h => e ⟨h.1.symm, h.2.symm⟩
    simp [this]
theorem byE_mem {E : List Ed} {s m z : Str} : z ∈ byE E s m ↔ (s, m, z) ∈ E := by
  unfold byE
  rw [List.mem_map]
  constructor
  · rintro ⟨⟨a, b, c⟩, he, rfl⟩
    obtain ⟨h1, h2⟩ := List.mem_filter.mp he
    obtain ⟨rfl, rfl⟩ : a = s ∧ b = m := by simpa using h2
    exact h1
  · intro h
    exact ⟨_, List.mem_filter.mpr ⟨h, by simp⟩, rfl⟩
theorem byE_len (E : List Ed) (s m : Str) : (byE E s m).length ≤ E.length := by
  unfold byE
  rw [List.length_map]
  exact List.length_filter_le _ _
/-- a Reader's tables; what it owns stands outside M0 -/
structure LdsO (M0 M : Mm) (l : Addr) (pA : Str → Addr) (qA : Str → Str → Addr) (S : Str → Prop) (T : Str → Str → Prop) (L : Str → Str → List Str) (n : Nat) : Prop where
  to : Lds M l pA qA S T L n
  ol : M0 l = none
  op : ∀ s, S s → M0 (pA s) = none
  oq : ∀ s m, T s m → M0 (qA s m) = none
def LdsE (M0 M : Mm) (l : Addr) (E : List Ed) : Prop := ∃ pA qA S T L n, LdsO M0 M l pA qA S T L n ∧ n ≤ 2 * E.length ∧ ∀ s m, L s m = byE E s m
def RdrAt (M0 M : Mm) (Reader a : Addr) (E : List Ed) : Prop := ∃ l, insOf M a = some (Reader, [(("leads" : Str), D.ref l)]) ∧ LdsE M0 M l E
theorem LdsE.frame {M0 M M' : Mm} {l : Addr} {E : List Ed} (h : LdsE M0 M l E) (e : Sub M M') : LdsE M0 M' l E := let ⟨pA, qA, S, T, L, n, h1, h2⟩ := h; ⟨pA, qA, S, T, L, n, ⟨h1.to.frame e, h1.ol, h1.op, h1.oq⟩, h2⟩
theorem RdrAt.frame {M0 M M' : Mm} {Reader a : Addr} {E : List Ed} (h : RdrAt M0 M Reader a E) (e : Sub M M') : RdrAt M0 M' Reader a E := let ⟨l, h1, h2⟩ := h; ⟨l, insOf_sub e h1, h2.frame e⟩
theorem LdsE.nil {M0 M : Mm} {l : Addr} (h : dicOf M l = some []) (h0 : M0 l = none) : LdsE M0 M l [] :=
  ⟨fun _ => 0, fun _ _ => 0, fun _ => False, fun _ _ => False, fun _ _ => [], 0, ⟨⟨⟨[], h, by simp, fun s d => by simp [valD]⟩, fun _ h => h.elim, fun _ _ h => h.elim, fun _ _ _ => rfl, fun _ _ h => h.elim, fun _ h => h.elim, fun _ _ h => h.elim, fun _ _ _ _ h => h.elim⟩, h0, fun _ h => h.elim, fun _ _ h => h.elim⟩, by simp, fun _ _ => rfl⟩
theorem isLst_l {M : Mm} {a : Addr} {xs : List D} (h : lstOf M a = some xs) : isLst (.ref a) M := by
  rw [isLst_r, h]; rfl
open Classical in
/-- leads.setdefault(s, {}).setdefault(m, []).append(t) -/
theorem leads_go {M0 M : Mm} {l : Addr} {E : List Ed} {s m t : Str} {N : D → Mm → Prop} (h : LdsE M0 M l E) (hE : E.length ≤ 300000) (hb : ∀ p, M p = none → M0 p = none)
    (fin : ∀ M2, LdsE M0 M2 l (E ++ [(s, m, t)]) → (∀ x, M0 x ≠ none → M2 x = M x) → (∀ x, M x ≠ none → M2 x ≠ none) → N .non M2) :
    (rdD M (.ref l)).isSome = true ∧ ∀ p, M p = none → setdQ (.ref l) (.str s) (.ref p) (mup M p (.dic [])) fun x M1 => (rdD M1 x).isSome = true ∧ ∀ p, M1 p = none →
      setdQ x (.str m) (.ref p) (mup M1 p (.lst [])) fun x M1 => isLst x M1 ∧ appendR x [.str t] M1 N := by
  obtain ⟨pA, qA, S, T, L, n, h, hn, hL⟩ := h
  have big : ∀ k, k ≤ 1000000 → k < sizeLine := fun k hk => small_lt2 (by omega)
  obtain ⟨kvs, hk, hl, h3⟩ := h.to.ld
  refine ⟨by rw [rdD_ref, hk]; rfl, fun p hp => ?_⟩
  have npl : l ≠ p := by rintro rfl; rw [of_dicOf hk] at hp; cases hp
  have key : ∀ M1 pA S, LdsO M0 M1 l pA qA S T L (n + 1) → S s → (∀ x, M0 x ≠ none → M1 x = M x) → (∀ x, M x ≠ none → M1 x ≠ none) → (rdD M1 (.ref (pA s))).isSome = true ∧ ∀ p, M1 p = none →
      setdQ (.ref (pA s)) (.str m) (.ref p) (mup M1 p (.lst [])) fun x M1 => isLst x M1 ∧ appendR x [.str t] M1 N := by
    intro M1 pA S h1 hs fr al
    obtain ⟨ms, hm, hml, hm3⟩ := h1.to.inn s hs
    refine ⟨by rw [rdD_ref, hm]; rfl, fun q hq => ?_⟩
    have nq : pA s ≠ q := by rintro rfl; rw [of_dicOf hm] at hq; cases hq
    have key2 : ∀ M2 qA T, LdsO M0 M2 l pA qA S T L (n + 2) → T s m → (∀ x, M0 x ≠ none → M2 x = M x) → (∀ x, M x ≠ none → M2 x ≠ none) → isLst (.ref (qA s m)) M2 ∧ appendR (.ref (qA s m)) [.str t] M2 N := by
      intro M2 qA T h2 ht fr2 al2
      have g := h2.to.lst s m ht
      refine ⟨isLst_l g, append_go g ?_ ?_⟩
      · rw [List.length_map, hL]; exact big _ (by have := byE_len E s m; omega)
      · rw [show (L s m).map D.str ++ [D.str t] = (L s m ++ [t]).map D.str by simp]
        refine fin _ ⟨pA, qA, S, T, _, n + 2, ⟨h2.to.app ht, h2.ol, h2.op, h2.oq⟩, by simp; omega, fun x y => ?_⟩ (fun x hx => ?_) fun x hx => ?_
        · rw [byE_snoc]
          by_cases e : x = s ∧ y = m
          · rw [if_pos e, if_pos e, hL]
          · rw [if_neg e, if_neg e, hL]
        · rw [mup_ne (by rintro rfl; exact hx (h2.oq s m ht))]
          exact fr2 x hx
        · by_cases e : x = qA s m
          · rw [e, mup_same]; simp
          · rw [mup_ne e]; exact al2 x hx
    have hq0 : M0 q = none := by
      cases e : M0 q with
      | none => rfl
      | some o => rw [fr q (by rw [e]; simp)] at hq; rw [hb q hq] at e; cases e
    refine setd_s (by rw [dicOf_mup_ne nq]; exact hm) (big _ (by omega)) (fun v hv => ?_) fun hv => ?_
    · obtain ⟨ht, rfl⟩ := (hm3 m v).mp hv
      have h2 : LdsO M0 (mup M1 q (.lst [])) l pA qA S T L (n + 2) := ⟨(h1.to.frame (Sub.mup hq)).mono (by omega), h1.ol, h1.op, h1.oq⟩
      refine key2 _ _ _ h2 ht (fun x hx => ?_) fun x hx => ?_
      · rw [mup_ne (by rintro rfl; exact hx hq0)]; exact fr x hx
      · by_cases e : x = q
        · rw [e, mup_same]; simp
        · rw [mup_ne e]; exact al x hx
    · have ht : ¬ T s m := fun ht => by
        have := (hm3 m _).mpr ⟨ht, rfl⟩
        rw [hv] at this
        cases this
      have h2 := h1.to.addT hs hm ht hq
      have := key2 _ _ _ ⟨h2, h1.ol, h1.op, fun x y hxy => by
        by_cases e : x = s ∧ y = m
        · simp only [e, and_self, if_true]; exact hq0
        · simp only [e, if_false]; exact h1.oq x y (hxy.resolve_right e)⟩ (.inr ⟨rfl, rfl⟩) (fun x hx => by
        rw [mup_ne (by rintro rfl; exact hx (h1.op s hs)), mup_ne (by rintro rfl; exact hx hq0)]
        exact fr x hx) (fun x hx => by
        by_cases e : x = pA s
        · rw [e, mup_same]; simp
        · rw [mup_ne e]
          by_cases e : x = q
          · rw [e, mup_same]; simp
          · rw [mup_ne e]; exact al x hx)
      simpa using this
  have hp0 := hb p hp
  refine setd_s (by rw [dicOf_mup_ne npl]; exact hk) (big _ (by omega)) (fun v hv => ?_) fun hv => ?_
  · obtain ⟨hs, rfl⟩ := (h3 s v).mp hv
    refine key _ _ _ ⟨(h.to.frame (Sub.mup hp)).mono (by omega), h.ol, h.op, h.oq⟩ hs (fun x hx => ?_) fun x hx => ?_
    · rw [mup_ne (by rintro rfl; exact hx hp0)]
    · by_cases e : x = p
      · rw [e, mup_same]; simp
      · rw [mup_ne e]; exact hx
  · have hs : ¬ S s := h.to.none_of hk hv
    have h2 := h.to.addS hk hs hp
    have := key _ _ _ ⟨h2, h.ol, fun x hx => by
      by_cases e : x = s
      · simp only [e, if_true]; exact hp0
      · simp only [e, if_false]; exact h.op x (hx.resolve_right e), h.oq⟩ (.inr rfl) (fun x hx => by
      rw [mup_ne (by rintro rfl; exact hx h.ol), mup_ne (by rintro rfl; exact hx hp0)]) (fun x hx => by
      by_cases e : x = l
      · rw [e, mup_same]; simp
      · rw [mup_ne e]
        by_cases e : x = p
        · rw [e, mup_same]; simp
        · rw [mup_ne e]; exact hx)
    simpa using this
end DM

/-! sorted of a dict with keys of one kind -/
namespace DM
open PySem PySem.Spec PyProof.Rows L2
def rSortDK : List V → Hp → VK → Prop := fun vs H Q => ∃ (a : Addr) (kvs : List (Key × V)), vs = [V.ref a] ∧ H a = some (.dK kvs) ∧ SortOk (kvs.map fun kv => kD kv.1) ∧
  ∀ (ys : List Key) (p : Addr), ys.map kD = sortD (kvs.map fun kv => kD kv.1) → H p = none → Q (.ref p) (upd H p (.lst (ys.map kV)))
theorem call_sortDK {X : Cx} (hc : X.calm = true) (hu : X.A.units + 150 < cLine) : CallR X (.builtin "sorted") rSortDK := by
  intro pins s σ H vs us Q I r h
  obtain ⟨a, kvs, rfl, ha, so, q⟩ := h
  rw [Vals.ref1 r]
  obtain ⟨z, lo, ws, rk, hd⟩ := (show ObjOk X.prog X.w H s.heap a (.dK kvs) from I.hok a _ ha)
  obtain ⟨ep, hat⟩ := hd.dictAt
  have hl : kvs.length = ws.length := Paired.length rk
  obtain ⟨hp, hdp, hal, hso⟩ := so
  have ek : (kvs.map fun kv => kD kv.1) = (kvs.map (·.1)).map kD := by rw [List.map_map]; rfl
  refine sorted_some (R := fun v d => ∃ k, d = kD k ∧ keyIs k v = true) (n := kvs.length) (B := fun vs bs t => bs = (kvs.map (·.1)).map kD ∧ vs.map keyM = kvs.map (·.1) ∧ (∀ v ∈ vs, keyIs (keyM v) v = true) ∧ (∀ b o, s.heap.get? b = some o → t.heap.get? b = some o) ∧ s.heap.objs.size ≤ t.heap.objs.size ∧ t.gens = s.gens ∧ t.os = s.os) z (fun vs bs t hb => ?_) (fun Q' E' hQ' => ?_) fun vs bs t hb h' out c p keep hp hg hl eo => ?_
  · obtain ⟨rfl, e, hv, k1, z1, g1, o1⟩ := hb
    obtain ⟨h1, h2⟩ := each_keys (h := t.heap) e hv
    refine ⟨by simp, h1, h2, by rw [← ek]; exact hal, by rw [← ek]; exact hso, fun b hb => ?_, k1, z1, g1, o1⟩
    rw [← ek] at hb
    have h1 := depth_py b
    obtain ⟨j, hj, rfl⟩ := List.getElem_of_mem hb
    have h2 := depDs_get (List.getElem?_eq_getElem hj)
    omega
  · refine collect_src (PySem.W.kdl_dict (knd := mixKind X.prog X.w) (kvs := ws) (ep := ep) lo) (I.ok.hd hc) hat (by rw [← hl]; exact z) fun h' tk acc kp sz it => ?_
    have hal : acc.toList.length = kvs.length := by rw [Array.length_toList, it.1, hl]
    have pt : ∀ (j : Nat) (v : Value) (k : Key), acc.toList[j]? = some v → (kvs.map (·.1))[j]? = some k → keyIs k v = true := fun j v k h1 h2 => by
      obtain ⟨k', y, e1, e2⟩ := it.2 j v (by rw [← Array.getElem?_toList]; exact h1)
      rw [KV.keys rk, List.getElem?_map, e1] at h2
      cases h2
      exact e2
    have em : acc.toList.map keyM = kvs.map (·.1) := by
      apply List.ext_getElem?
      intro j
      rw [List.getElem?_map]
      cases h1 : acc.toList[j]? with
      | none =>
        have := List.getElem?_eq_none_iff.mp h1
        rw [List.getElem?_eq_none (by rw [List.length_map]; omega)]; rfl
      | some v =>
        have hj := (List.getElem?_eq_some_iff.mp h1).1
        obtain ⟨k, h2⟩ : ∃ k, (kvs.map (·.1))[j]? = some k := ⟨_, List.getElem?_eq_getElem (by rw [List.length_map]; omega)⟩
        rw [h2, Option.map_some, keyM_is (pt j v k h1 h2)]
    refine hQ' acc.toList _ _ ⟨rfl, em, fun v hv => ?_, kp, sz, rfl, rfl⟩
    obtain ⟨j, hj, rfl⟩ := List.getElem_of_mem hv
    obtain ⟨k, h2⟩ : ∃ k, (kvs.map (·.1))[j]? = some k := ⟨_, List.getElem?_eq_getElem (by rw [List.length_map]; omega)⟩
    have := pt j _ k (List.getElem?_eq_getElem hj) h2
    rw [keyM_is this]; exact this
  · obtain ⟨rfl, _, _, k1, z1, g1, o1⟩ := hb
    obtain ⟨ys, e, rv⟩ := each_keys_out eo
    have hlen : (ys.map kV).length ≤ sizeLine := by rw [rv.length, hl]; exact z
    have hn : H p = none := I.hok.fresh hp
    have J : Inv X pins σ (upd H p (.lst (ys.map kV))) { s with heap := h', gens := t.gens, drawn := t.drawn, toks := t.toks } :=
      I.call (ch := []) (Un.laid keep hp hn) (I.hok.laid keep hp ⟨hlen, out, c, rv, hg⟩) (by rw [g1]; exact I.bare) (fun _ z => nomatch z)
    have et : ({ t with heap := h' } : Shared) = { s with heap := h', gens := t.gens, drawn := t.drawn, toks := t.toks } := by
      cases t
      cases s
      cases o1
      rfl
    rw [et]
    exact ⟨.ref p, _, J, rfl, q ys p (by rw [ek]; exact e.symm) hn⟩
/-- the keys of a dict -/
def keysKD (kvs : List (Key × D)) : List D := kvs.map fun kv => kD kv.1
def dSortedK (te : TDE) : TDL := fun ds M Q => te ds M fun x M1 => match rdD M1 x with | some kvs => SortOk (keysKD kvs) ∧ Q (sortD (keysKD kvs)) M1 | none => False
def sortedKI (x : D) (M1 : Mm) (Q : List D → Mm → Prop) : Prop := match rdD M1 x with | some kvs => SortOk (keysKD kvs) ∧ Q (sortD (keysKD kvs)) M1 | none => False
section
variable {X : Cx} {e : Expr} {te : TDE} {p pos : Pos} {k : Nat}
theorem jl_sortedK (hc : X.calm = true) (hr : Room k X.A) (hm : X.mg "sorted" = none) (ha : JE X e te) (hg : Gl X "sorted" := by rfl) (n2 : starEach [e] X.env = (false, eval e X.env) :: starEach [] X.env := by rfl) (n3 : (backTo pos (starEach [] X.env)).any (·.1) = false := by rfl) :
    JL X (.Call (.Name "sorted" p) [e] [] pos) (dSortedK te) := by
  obtain ⟨u, q, g⟩ := ha
  refine ⟨_, pe_callB (call_sortDK hc (hu150 hr)) hg hm PyProof.Rows.boot_sorted (pa_cons q pa_nil n2) (by decide) (by decide) n2 n3, fun ds σ H M Q Q0 s m q k => ?_⟩
  refine g ds σ H M _ _ s m q fun v H1 d M1 r1 m1 g1 q1 => ?_
  split at q1
  · rename_i kvs e1
    obtain ⟨so, q1⟩ := q1
    obtain ⟨a, ws, rfl, h1, ra⟩ := rdD_v m1 r1 e1
    have ek : (ws.map fun kv => kD kv.1) = keysKD kvs := by
      have := ra.keysEq
      unfold keysKD
      rw [show (kvs.map fun kv => kD kv.1) = (kvs.map (·.1)).map kD by rw [List.map_map]; rfl, this, List.map_map]; rfl
    refine ⟨a, ws, rfl, h1, by rw [ek]; exact so, fun ys l ey hl => ?_⟩
    have ry : VRs X.K H1 (sortD (keysKD kvs)) (ys.map kV) := by rw [← ek, ← ey]; exact keys_vrs ys
    exact k l (H1.up l _) (sortD (keysKD kvs)) (ys.map kV) M1 (g1.free hl) upd_same (VRs.mono (TX.new m1 hl) _ _ ry) (m1.free hl) (m1.freeF hl) (m1.newT hl) (g1.trans (GG.newT hl)) q1
  · exact q1.elim
end
section
variable {ds : DSt} {M : Mm} {a : Addr}
theorem dSortedK_e {te : TDE} {Q : List D → Mm → Prop} : dSortedK te ds M Q = te ds M fun x M1 => sortedKI x M1 Q := (rfl)
theorem sortedK_g {Q : List D → Mm → Prop} {kvs : List (Key × D)} (h : dicOf M a = some kvs) (so : SortOk (keysKD kvs)) (k : Q (sortD (keysKD kvs)) M) : sortedKI (.ref a) M Q := by
  unfold sortedKI
  simp only [rdD_ref, h]
  exact ⟨so, k⟩
end
/-- a dict of texts, each True -/
def txD (F : List Str) : List (Key × D) := F.map fun s => (.inr s, .bl true)
def insS (F : List Str) (s : Str) : List Str := if s ∈ F then F else F ++ [s]
theorem insS_mem {F : List Str} {s z : Str} : z ∈ insS F s ↔ z ∈ F ∨ z = s := by
  unfold insS
  split
  · exact ⟨.inl, fun h => h.elim id fun h => h ▸ by assumption⟩
  · simp
theorem insS_nodup {F : List Str} {s : Str} (h : F.Nodup) : (insS F s).Nodup := by
  unfold insS
  split
  · exact h
  · rw [List.nodup_append]
    refine ⟨h, by simp, fun a ha b hb => ?_⟩
    rw [List.mem_singleton.mp hb]
    rintro rfl
    contradiction
theorem insS_len {F : List Str} {s : Str} : (insS F s).length ≤ F.length + 1 := by unfold insS; split <;> simp
theorem txD_any {F : List Str} {s : Str} : ((txD F).any fun kv => decide (kv.1 = Sum.inr s)) = decide (s ∈ F) := by
  unfold txD
  rw [List.any_map, Bool.eq_iff_iff, List.any_eq_true, decide_eq_true_eq]
  exact ⟨fun ⟨f, hf, h⟩ => Sum.inr.inj (of_decide_eq_true h) ▸ hf, fun h => ⟨s, h, decide_eq_true rfl⟩⟩
theorem put_tx {F : List Str} {s : Str} : putD (txD F) (.inr s) (.bl true) = txD (insS F s) := by
  unfold putD
  rw [txD_any]
  unfold insS
  by_cases h : s ∈ F
  · rw [if_pos (decide_eq_true h), if_pos h]
    unfold txD
    rw [List.map_map]
    apply List.map_congr_left
    intro f hf
    simp only [Function.comp]
    split <;> rfl
  · rw [if_neg (by simpa using h), if_neg h]
    simp [txD]
theorem val_tx {F : List Str} {s : Str} : (valD (txD F) (.inr s)).isSome = decide (s ∈ F) := by
  unfold valD
  rw [Option.isSome_map, ← txD_any]
  generalize txD F = l
  induction l with
  | nil => rfl
  | cons x l ih =>
    rw [List.find?_cons, List.any_cons]
    cases decide (x.1 = Sum.inr s) with
    | true => rfl
    | false => simpa using ih
theorem keys_tx {F : List Str} : keysKD (txD F) = F.map D.str := by
  unfold keysKD txD
  rw [List.map_map]; rfl
theorem txD_len {F : List Str} : (txD F).length = F.length := by simp [txD]
end DM

/-! where a pile leads in a machine -/
namespace DM
open PySem L2
open PyProof.Rows (b2i)
inductive Slips (E : List Ed) (S : Str → Prop) : Str → Prop
  | base {x : Str} : S x → Slips E S x
  | step {x z : Str} : Slips E S x → (x, ("" : Str), z) ∈ E → Slips E S z
def stepP (E : List Ed) (m : Str) (S : Str → Prop) (z : Str) : Prop := ∃ x, S x ∧ (x, m, z) ∈ E
def readP (E : List Ed) : (Str → Prop) → List Str → Str → Prop
  | S, [] => S
  | S, m :: ms => readP E (Slips E (stepP E m S)) ms
/-- where a pile leads from a state -/
def ReadsTo (E : List Ed) (s : Str) (w : List Str) : Str → Prop := readP E (Slips E (· = s)) w
theorem Slips.mono {E : List Ed} {S S' : Str → Prop} (h : ∀ x, S x → S' x) {z : Str} (k : Slips E S z) : Slips E S' z := by
  induction k with
  | base hx => exact .base (h _ hx)
  | step _ he ih => exact .step ih he
theorem Slips.congr {E : List Ed} {S S' : Str → Prop} (h : ∀ x, S x ↔ S' x) (z : Str) : Slips E S z ↔ Slips E S' z := ⟨Slips.mono fun x => (h x).mp, Slips.mono fun x => (h x).mpr⟩
theorem stepP_congr {E : List Ed} {m : Str} {S S' : Str → Prop} (h : ∀ x, S x ↔ S' x) (z : Str) : stepP E m S z ↔ stepP E m S' z := ⟨fun ⟨x, a, b⟩ => ⟨x, (h x).mp a, b⟩, fun ⟨x, a, b⟩ => ⟨x, (h x).mpr a, b⟩⟩
theorem readP_congr {E : List Ed} : ∀ {w : List Str} {S S' : Str → Prop}, (∀ x, S x ↔ S' x) → ∀ z, readP E S w z ↔ readP E S' w z
  | [], _, _, h => h
  | m :: w, _, _, h => readP_congr (w := w) fun x => Slips.congr (stepP_congr h) x
theorem readP_snoc {E : List Ed} {m : Str} : ∀ {w : List Str} {S : Str → Prop}, readP E S (w ++ [m]) = Slips E (stepP E m (readP E S w))
  | [], _ => rfl
  | _ :: w, _ => readP_snoc (w := w)
/-- edges alike in members lead alike -/
theorem Slips.edges {E E' : List Ed} {S : Str → Prop} (h : ∀ e, e ∈ E → e ∈ E') {z : Str} (k : Slips E S z) : Slips E' S z := by
  induction k with
  | base hx => exact .base hx
  | step _ he ih => exact .step ih (h _ he)
theorem readP_edges {E E' : List Ed} (h : ∀ e, e ∈ E → e ∈ E') : ∀ {w : List Str} {S S' : Str → Prop}, (∀ x, S x → S' x) → ∀ z, readP E S w z → readP E' S' w z
  | [], _, _, hs, z, k => hs z k
  | m :: w, _, _, hs, z, k => readP_edges h (w := w) (fun x hx => Slips.mono (fun y ⟨u, h1, h2⟩ => ⟨u, hs u h1, h _ h2⟩) (Slips.edges h hx)) z k
theorem readP_mem {E E' : List Ed} (h : ∀ e, e ∈ E ↔ e ∈ E') {w : List Str} {s z : Str} : ReadsTo E s w z ↔ ReadsTo E' s w z :=
  ⟨readP_edges (fun e => (h e).mp) (fun x hx => Slips.edges (fun e => (h e).mp) hx) z, readP_edges (fun e => (h e).mpr) (fun x hx => Slips.edges (fun e => (h e).mpr) hx) z⟩
/-- what is come to is there at first or behind an edge -/
theorem Slips.from {E : List Ed} {S : Str → Prop} {z : Str} (k : Slips E S z) : S z ∨ ∃ e ∈ E, e.2.2 = z := by
  cases k with
  | base h => exact .inl h
  | step _ he => exact .inr ⟨_, he, rfl⟩
theorem readP_from {E : List Ed} : ∀ {w : List Str} {S : Str → Prop} {z : Str}, readP E S w z → S z ∨ ∃ e ∈ E, e.2.2 = z
  | [], _, _, h => .inl h
  | m :: w, S, z, h => by
    rcases readP_from (w := w) h with h | h
    · rcases Slips.from h with ⟨x, _, h⟩ | h
      · exact .inr ⟨(x, m, z), h, rfl⟩
      · exact .inr h
    · exact .inr h
theorem sub_len {α : Type} [DecidableEq α] : ∀ {l m : List α}, l.Nodup → (∀ x ∈ l, x ∈ m) → l.length ≤ m.length
  | [], _, _, _ => Nat.zero_le _
  | x :: l, m, h, hs => by
    obtain ⟨h1, h2⟩ := List.nodup_cons.mp h
    have hx := hs x List.mem_cons_self
    have := sub_len (l := l) (m := m.erase x) h2 fun y hy => (List.mem_erase_of_ne (by rintro rfl; exact h1 hy)).mpr (hs y (List.mem_cons_of_mem _ hy))
    rw [List.length_erase_of_mem hx] at this
    have hm := List.length_pos_of_mem hx
    rw [List.length_cons]; omega
theorem slips_len {E : List Ed} {l xs : List Str} (h : l.Nodup) (hs : ∀ z ∈ l, z ∈ xs ∨ ∃ e ∈ E, e.2.2 = z) : l.length ≤ xs.length + E.length := by
  have := sub_len (m := xs ++ E.map (·.2.2)) h fun x hx => by
    rcases hs x hx with h | ⟨e, he, rfl⟩
    · exact List.mem_append_left _ h
    · exact List.mem_append_right _ (List.mem_map.mpr ⟨e, he, rfl⟩)
  simpa using this
/-- so many slips are still to be gone -/
def slipsLeft (E : List Ed) (F : List Str) : Nat := (E.filter fun e => decide (e.2.1 = ("" : Str) ∧ e.1 ∉ F)).length
theorem slipsLeft_nil (E : List Ed) : slipsLeft E [] ≤ E.length := List.length_filter_le _ _
theorem slipsLeft_add {E : List Ed} {F : List Str} {s : Str} (h : s ∉ F) : slipsLeft E (F ++ [s]) + (byE E s ("" : Str)).length = slipsLeft E F := by
  unfold slipsLeft byE
  rw [List.length_map]
  induction E with
  | nil => rfl
  | cons e E ih =>
    simp only [List.filter_cons]
    simp at ih
    by_cases h1 : e.2.1 = ("" : Str)
    · by_cases h2 : e.1 = s
      · have : e.1 ∉ F := h2 ▸ h
        simp [h1, h2, h]
        omega
      · by_cases h3 : e.1 ∈ F
        · simp [h1, h2, h3]; omega
        · simp [h1, h2, h3]; omega
    · simp [h1]; omega
/-- the states found when nothing waits any more -/
theorem slips_done {E : List Ed} {S : Str → Prop} {F : List Str} (h1 : ∀ z ∈ F, Slips E S z) (h2 : ∀ z, S z → z ∈ F) (h3 : ∀ x ∈ F, ∀ z, (x, ("" : Str), z) ∈ E → z ∈ F) (z : Str) : z ∈ F ↔ Slips E S z := by
  refine ⟨h1 z, fun h => ?_⟩
  induction h with
  | base hx => exact h2 _ hx
  | step _ he ih => exact h3 _ ih _ he
end DM

/-! small words on the store -/
namespace DM
open PySem L2
open PyProof.Rows (b2i)
section
variable {M M' : Mm} {a : Addr} {x y d : D} {xs ys zs : List D} {Q : DQ} {s : Str} {kvs : List (Key × D)}
theorem rdS_sub (e : Sub M M') (h : rdS M x = some xs) : rdS M' x = some xs := by
  cases x with
  | ref a => exact lstOf_sub e h
  | tup _ => exact h
  | lst _ => exact h
  | _ => cases h
theorem rdL_sub (e : Sub M M') (h : rdL M x = some xs) : rdL M' x = some xs := by
  cases x with
  | ref a => exact lstOf_sub e h
  | lst _ => exact h
  | _ => cases h
theorem rdS_of_L (h : rdL M x = some xs) : rdS M x = some xs := by
  cases x with
  | ref a => exact h
  | lst _ => exact h
  | _ => cases h
theorem ext_go (e : lstOf M a = some ys) (e2 : rdS M y = some zs) (hl : ys.length + zs.length ≤ sizeLine) (h : Q .non (mup M a (.lst (ys ++ zs)))) : extendA (.ref a) [y] M Q := by
  unfold extendA
  simp only [e, e2]
  exact ⟨hl, h⟩
theorem lst_dic_no (h : dicOf M a = some kvs) : lstOf M a = none := by
  unfold lstOf
  rw [of_dicOf h]
theorem in_dic (h : dicOf M a = some kvs) (k : Q (.bl (valD kvs (.inr s)).isSome) M) : inR (.str s) (.ref a) M Q := by
  show (match rdS M (.ref a) with | some ys => memC ys (.str s) ∧ Q (.bl (false != inAny ys (.str s))) M | none => inDQ false (.str s) (.ref a) M Q)
  rw [show rdS M (.ref a) = none from lst_dic_no h]
  unfold inDQ
  simp only [rdD_ref, h, keyD, Bool.false_bne]
  exact k
theorem notin_dic (h : dicOf M a = some kvs) (k : Q (.bl (!(valD kvs (.inr s)).isSome)) M) : notInR (.str s) (.ref a) M Q := by
  show (match rdS M (.ref a) with | some ys => memC ys (.str s) ∧ Q (.bl (true != inAny ys (.str s))) M | none => inDQ true (.str s) (.ref a) M Q)
  rw [show rdS M (.ref a) = none from lst_dic_no h]
  unfold inDQ
  simp only [rdD_ref, h, keyD, Bool.true_bne]
  exact k
end
/-- what stands behind some states and a mark -/
theorem behind_mem {E : List Ed} {m z : Str} {ys : List Str} : z ∈ ys.flatMap (byE E · m) ↔ stepP E m (· ∈ ys) z := by
  rw [List.mem_flatMap]
  exact ⟨fun ⟨x, h1, h2⟩ => ⟨x, h1, byE_mem.mp h2⟩, fun ⟨x, h1, h2⟩ => ⟨x, h1, byE_mem.mpr h2⟩⟩
theorem behind_len {m : Str} : ∀ {E : List Ed} {ys : List Str}, ys.Nodup → (ys.flatMap (byE E · m)).length ≤ E.length
  | [], ys, _ => by
    have : ys.flatMap (byE [] · m) = [] := by simp [byE]
    rw [this]; simp
  | e :: E, ys, h => by
    have ih := behind_len (m := m) (E := E) h
    have key : ∀ {ys : List Str}, ys.Nodup → (ys.flatMap (byE (e :: E) · m)).length ≤ (ys.flatMap (byE E · m)).length + 1 ∧ (e.1 ∉ ys → (ys.flatMap (byE (e :: E) · m)).length = (ys.flatMap (byE E · m)).length) := by
      intro ys
      induction ys with
      | nil => simp
      | cons y ys ih =>
        intro h
        obtain ⟨h1, h2⟩ := List.nodup_cons.mp h
        obtain ⟨i1, i2⟩ := ih h2
        simp only [List.flatMap_cons, List.length_append]
        have hb : (byE (e :: E) y m).length ≤ (byE E y m).length + 1 ∧ (e.1 ≠ y → (byE (e :: E) y m).length = (byE E y m).length) := by
          unfold byE
          simp only [List.length_map, List.filter_cons]
          constructor
          · split <;> simp
          · intro hn; simp [hn]
        by_cases e1 : e.1 = y
        · have := i2 (by rw [e1]; exact h1)
          refine ⟨by omega, fun hn => absurd (by simp [e1]) hn⟩
        · have := hb.2 e1
          refine ⟨by omega, fun hn => ?_⟩
          rw [this, i2 (fun hm => hn (by simp [hm]))]
    have := (key h).1
    rw [List.length_cons]; omega
theorem flat_take {α β : Type} {f : α → List β} {ys : List α} {i : Nat} {y : α} (h : ys[i]? = some y) : (ys.take (i + 1)).flatMap f = (ys.take i).flatMap f ++ f y := by
  rw [List.take_add_one, h, List.flatMap_append]
  simp
theorem reads_len {E : List Ed} {s : Str} {w zs : List Str} (h : RisS zs) (hm : ∀ z, z ∈ zs ↔ ReadsTo E s w z) : zs.length ≤ E.length + 1 := by
  have := slips_len (xs := [s]) (E := E) (ris_nodup h) fun z hz => by
    rcases readP_from ((hm z).mp hz) with h | h
    · rcases Slips.from h with rfl | h
      · exact .inl (by simp)
      · exact .inr h
    · exact .inr h
  simp at this; omega
theorem inAny_str {l : List Str} {x : Str} : inAny (l.map D.str) (.str x) = decide (x ∈ l) := by
  unfold inAny
  induction l with
  | nil => rfl
  | cons a l ih =>
    rw [List.map_cons, List.any_cons, ih]
    simp only [eqvD]
    rw [Bool.eq_iff_iff]
    simp only [Bool.or_eq_true, decide_eq_true_eq, beq_iff_eq, List.mem_cons]
    exact ⟨fun h => h.elim (fun h => .inl (by first | exact h | exact h.symm)) .inr, fun h => h.elim (fun h => .inl (by first | exact h | exact h.symm)) .inr⟩
theorem memC_str {l : List Str} {x : Str} : memC (l.map D.str) (.str x) := ⟨rfl, pureDs_str l, Nat.le_trans (depDs_str l) (by decide)⟩
theorem inR_strS {l : List Str} {x : Str} {y : D} {M : Mm} {Q : DQ} (e : rdS M y = some (l.map .str)) (h : Q (.bl (decide (x ∈ l))) M) : inR (.str x) y M Q := by
  have key : memC (l.map D.str) (.str x) ∧ Q (.bl (false != inAny (l.map D.str) (.str x))) M := ⟨memC_str, by rw [inAny_str, Bool.false_bne]; exact h⟩
  cases y with
  | ref a =>
    show (match rdS M (.ref a) with | some ys => memC ys (.str x) ∧ Q (.bl (false != inAny ys (.str x))) M | none => inDQ false (.str x) (.ref a) M Q)
    rw [e]; exact key
  | tup xs => cases e; exact key
  | lst xs => cases e; exact key
  | _ => cases e
theorem notInR_strS {l : List Str} {x : Str} {y : D} {M : Mm} {Q : DQ} (e : rdS M y = some (l.map .str)) (h : Q (.bl (!decide (x ∈ l))) M) : notInR (.str x) y M Q := by
  have key : memC (l.map D.str) (.str x) ∧ Q (.bl (true != inAny (l.map D.str) (.str x))) M := ⟨memC_str, by rw [inAny_str, Bool.true_bne]; exact h⟩
  cases y with
  | ref a =>
    show (match rdS M (.ref a) with | some ys => memC ys (.str x) ∧ Q (.bl (true != inAny ys (.str x))) M | none => inDQ true (.str x) (.ref a) M Q)
    rw [e]; exact key
  | tup xs => cases e; exact key
  | lst xs => cases e; exact key
  | _ => cases e
/-- a table of edges by state and mark; what it owns stands outside M0 -/
structure ThrO (M0 M : Mm) (p : Addr) (E : List Ed) (q : Str → Str → Addr) (T : Str → Str → Prop) : Prop where
  td : ∃ kvs, ditOf M p = some kvs ∧ kvs.length ≤ E.length ∧ ∀ s m d, valT kvs [.inr s, .inr m] = some d ↔ T s m ∧ d = .ref (q s m)
  ls : ∀ s m, T s m → lstOf M (q s m) = some ((byE E s m).map .str)
  no : ∀ s m, ¬ T s m → byE E s m = []
  op : M0 p = none
  oq : ∀ s m, T s m → M0 (q s m) = none
  qq : ∀ s m s' m', T s m → T s' m' → q s m = q s' m' → s = s' ∧ m = m'
def Thr (M0 M : Mm) (p : Addr) (E : List Ed) : Prop := ∃ q T, ThrO M0 M p E q T
theorem Thr.frame {M0 M M' : Mm} {p : Addr} {E : List Ed} (h : Thr M0 M p E) (e : Sub M M') : Thr M0 M' p E := let ⟨q, T, h⟩ := h; ⟨q, T, let ⟨kvs, h1, h2⟩ := h.td; ⟨kvs, ditOf_sub e h1, h2⟩, fun s m ht => lstOf_sub e (h.ls s m ht), h.no, h.op, h.oq, h.qq⟩
/-- there.get((s, m), []) -/
theorem Thr.get {M0 M : Mm} {p : Addr} {E : List Ed} {s m : Str} {Q : DQ} (h : Thr M0 M p E) (k1 : ∀ a, lstOf M a = some ((byE E s m).map .str) → Q (.ref a) M) (k2 : byE E s m = [] → Q (.lst []) M) : getTQ (.ref p) (.tup [.str s, .str m]) (.lst []) M Q := by
  obtain ⟨q, T, h⟩ := h
  obtain ⟨kvs, h1, h2, h3⟩ := h.td
  unfold getTQ
  rw [show keyT (.tup [.str s, .str m]) = some [.inr s, .inr m] from rfl, show rdT M (.ref p) = some kvs from h1]
  show Q ((valT kvs [.inr s, .inr m]).getD (.lst [])) M
  by_cases ht : T s m
  · rw [(h3 s m _).mpr ⟨ht, rfl⟩]
    exact k1 _ (h.ls s m ht)
  · have : valT kvs [.inr s, .inr m] = none := by
      cases e : valT kvs [.inr s, .inr m] with
      | none => rfl
      | some d => exact absurd ((h3 s m d).mp e).1 ht
    rw [this]
    exact k2 (h.no s m ht)
/-- a machine of at most so many edges -/
def MchS (n : Nat) (x : D) : Prop := ∃ (E : List Ed) (F : List Str), x = tgtD E F ∧ E.length ≤ n
theorem tup_go {M : Mm} {a : Addr} {xs : List D} {Q : DQ} (e : lstOf M a = some xs) (h : Q (.tup xs) M) : tup1R [.ref a] M Q := by
  unfold tup1R
  simp only [rdS, e]
  exact h
end DM

/-! a table of edges by state and mark: one more edge -/
namespace DM
open PySem L2
open PyProof.Rows (b2i)
theorem ditOf_mup_ne {M : Mm} {a b : Addr} {o : MO} (h : b ≠ a) : ditOf (mup M a o) b = ditOf M b := by unfold ditOf; rw [mup_ne h]
theorem lst_ne_dit {M : Mm} {a b : Addr} {xs : List D} {kvs : List (List Key × D)} (h : lstOf M a = some xs) (h' : ditOf M b = some kvs) : a ≠ b := by
  rintro rfl
  have := of_ditOf h'
  rw [of_lstOf h] at this
  cases this
open Classical in
theorem there_go {M0 M : Mm} {p : Addr} {E : List Ed} {s m t : Str} {N : D → Mm → Prop} (h : Thr M0 M p E) (hE : E.length ≤ 100000) (hb : ∀ x, M x = none → M0 x = none)
    (fin : ∀ M2, Thr M0 M2 p (E ++ [(s, m, t)]) → (∀ x, M0 x ≠ none → M2 x = M x) → N .non M2) :
    isDit (.ref p) M ∧ ∀ a, M a = none → setdTQ (.ref p) (.tup [.str s, .str m]) (.ref a) (mup M a (.lst [])) fun x M1 => isLst x M1 ∧ appendR x [.str t] M1 N := by
  obtain ⟨q, T, h⟩ := h
  obtain ⟨kvs, hk, hl, h3⟩ := h.td
  refine ⟨by unfold isDit; rw [show rdT M (.ref p) = some kvs from hk]; rfl, fun a ha => ?_⟩
  have npa : p ≠ a := by rintro rfl; rw [of_ditOf hk] at ha; cases ha
  have ha0 := hb a ha
  refine setdT_g (k := [.inr s, .inr m]) rfl (by rw [ditOf_mup_ne npa]; exact hk) (small_lt2 (by omega)) (fun v hv => ?_) fun hv => ?_
  · obtain ⟨ht, rfl⟩ := (h3 s m v).mp hv
    have g := h.ls s m ht
    have nqa : q s m ≠ a := by rintro e; rw [← e, of_lstOf g] at ha; cases ha
    have nqp := lst_ne_dit g hk
    have g' : lstOf (mup M a (.lst [])) (q s m) = some ((byE E s m).map .str) := by rw [lstOf_mup_ne nqa]; exact g
    refine ⟨isLst_l g', append_go g' ?_ ?_⟩
    · rw [List.length_map]; exact small_lt2 (by have := byE_len E s m; omega)
    · rw [show (byE E s m).map D.str ++ [D.str t] = (byE E s m ++ [t]).map D.str by simp]
      refine fin _ ⟨q, T, ⟨⟨kvs, ?_, by simp; omega, h3⟩, fun x y hxy => ?_, fun x y hn => ?_, h.op, h.oq, h.qq⟩⟩ fun x hx => ?_
      · rw [ditOf_mup_ne nqp.symm, ditOf_mup_ne npa]; exact hk
      · rw [byE_snoc]
        by_cases e : x = s ∧ y = m
        · rw [if_pos e, e.1, e.2]; exact lstOf_mup_same
        · rw [if_neg e, lstOf_mup_ne (fun h' => e (h.qq _ _ _ _ hxy ht h'))]
          have g2 := h.ls x y hxy
          rw [lstOf_mup_ne (by rintro e; rw [← e, of_lstOf g2] at ha; cases ha)]
          exact g2
      · rw [byE_snoc, if_neg (by rintro ⟨rfl, rfl⟩; exact hn ht)]; exact h.no x y hn
      · rw [mup_ne (by rintro rfl; exact hx (h.oq s m ht)), mup_ne (by rintro rfl; exact hx ha0)]
  · have ht : ¬ T s m := fun ht => by
      have := (h3 s m _).mpr ⟨ht, rfl⟩
      rw [hv] at this; cases this
    have g' : lstOf (mup (mup M a (.lst [])) p (.dit (putT kvs [.inr s, .inr m] (.ref a)))) a = some [] := by rw [lstOf_mup_ne npa.symm]; exact lstOf_mup_same
    refine ⟨isLst_l g', append_go (xs := []) g' (by decide) ?_⟩
    refine fin _ ⟨fun x y => if x = s ∧ y = m then a else q x y, fun x y => T x y ∨ (x = s ∧ y = m), ⟨⟨putT kvs [.inr s, .inr m] (.ref a), ?_, by have := putT_len (κ := List Key) [.inr s, .inr m] (.ref a) kvs; rw [List.length_append]; simp only [List.length_cons, List.length_nil]; omega, fun x y d => ?_⟩, fun x y hxy => ?_, fun x y hn => ?_, h.op, fun x y hxy => ?_, fun x y x' y' k1 k2 e => ?_⟩⟩ fun x hx => ?_
    · rw [ditOf_mup_ne npa]; exact ditOf_mup_same
    · rw [valT_put]
      by_cases e : x = s ∧ y = m
      · obtain ⟨rfl, rfl⟩ := e
        simp only [if_true, and_self, or_true, true_and, Option.some.injEq]
        exact eq_comm
      · rw [if_neg (by intro h; simp at h; exact e h), h3, if_neg e]
        simp [e]
    · rw [byE_snoc]
      by_cases e : x = s ∧ y = m
      · rw [if_pos e, if_pos e, h.no s m ht]; exact lstOf_mup_same
      · rw [if_neg e, if_neg e]
        have g2 := h.ls x y (hxy.resolve_right e)
        rw [lstOf_mup_ne (by rintro e; rw [← e, of_lstOf g2] at ha; cases ha), lstOf_mup_ne (lst_ne_dit g2 hk), lstOf_mup_ne (by rintro e; rw [← e, of_lstOf g2] at ha; cases ha)]
        exact g2
    · rw [byE_snoc, if_neg (fun e => hn (.inr e))]; exact h.no x y fun h' => hn (.inl h')
    · by_cases e : x = s ∧ y = m
      · simp only [e, and_self, if_true]; exact ha0
      · simp only [e, if_false]; exact h.oq x y (hxy.resolve_right e)
    · have nw : ∀ u v, T u v → q u v ≠ a := fun u v huv e => by
        have g := h.ls u v huv
        rw [e] at g
        rw [of_lstOf g] at ha
        cases ha
      by_cases e1 : x = s ∧ y = m
      · by_cases e2 : x' = s ∧ y' = m
        · exact ⟨e1.1.trans e2.1.symm, e1.2.trans e2.2.symm⟩
        · rw [if_pos e1, if_neg e2] at e
          exact absurd e.symm (nw _ _ (k2.resolve_right e2))
      · by_cases e2 : x' = s ∧ y' = m
        · rw [if_neg e1, if_pos e2] at e
          exact absurd e (nw _ _ (k1.resolve_right e1))
        · rw [if_neg e1, if_neg e2] at e
          exact h.qq _ _ _ _ (k1.resolve_right e1) (k2.resolve_right e2) e
    · rw [mup_ne (by rintro rfl; exact hx ha0), mup_ne (by rintro rfl; exact hx h.op), mup_ne (by rintro rfl; exact hx ha0)]
/-- there.get((s, m), []), in a later store -/
theorem Thr.get2 {M0 M M' : Mm} {p : Addr} {E : List Ed} {s m : Str} {Q : DQ} (h : Thr M0 M p E) (u : Sub M M') (k1 : ∀ a, lstOf M a = some ((byE E s m).map .str) → Q (.ref a) M') (k2 : byE E s m = [] → Q (.lst []) M') : getTQ (.ref p) (.tup [.str s, .str m]) (.lst []) M' Q := by
  obtain ⟨q, T, h⟩ := h
  obtain ⟨kvs, h1, h2, h3⟩ := h.td
  unfold getTQ
  rw [show keyT (.tup [.str s, .str m]) = some [.inr s, .inr m] from rfl, show rdT M' (.ref p) = some kvs from ditOf_sub u h1]
  show Q ((valT kvs [.inr s, .inr m]).getD (.lst [])) M'
  by_cases ht : T s m
  · rw [(h3 s m _).mpr ⟨ht, rfl⟩]
    exact k1 _ (h.ls s m ht)
  · have : valT kvs [.inr s, .inr m] = none := by
      cases e : valT kvs [.inr s, .inr m] with
      | none => rfl
      | some d => exact absurd ((h3 s m d).mp e).1 ht
    rw [this]
    exact k2 (h.no s m ht)
theorem Thr.isD {M0 M : Mm} {p : Addr} {E : List Ed} (h : Thr M0 M p E) : isDit (.ref p) M := by
  obtain ⟨q, T, h⟩ := h
  obtain ⟨kvs, hk, _⟩ := h.td
  unfold isDit; rw [show rdT M (.ref p) = some kvs from hk]; rfl
theorem Thr.nil {M : Mm} {p : Addr} (hp : M p = none) : Thr M (mup M p (.dit [])) p [] :=
  ⟨fun _ _ => 0, fun _ _ => False, ⟨⟨[], ditOf_mup_same, by simp, fun s m d => by simp [valT]⟩, fun _ _ h => h.elim, fun _ _ _ => rfl, hp, fun _ _ h => h.elim, fun _ _ _ _ h => h.elim⟩⟩
/-- a wheel's edge -/
def wheelE (m : Str) (n k : Nat) : Ed := (((toString (k : Int) : String) : Str), m, ((toString (((k + 1) % n : Nat) : Int) : String) : Str))
end DM

/-! a wheel of states -/
namespace DM
open PySem L2
open PyProof.Rows (b2i)
def dgS (k : Nat) : Str := ((toString (k : Int) : String) : Str)
theorem cps_dg : ∀ k : Fin 8, cps (dgS k.1) = [48 + k.1] := by decide +kernel
theorem dg_inj {j k : Nat} (hj : j < 8) (hk : k < 8) (h : dgS j = dgS k) : j = k := by
  have h1 := cps_dg ⟨j, hj⟩
  have h2 := cps_dg ⟨k, hk⟩
  simp only at h1 h2
  rw [h, h2] at h1
  simp at h1
  omega
theorem name_ne_dg {p : Str} (h : NameS p) {k : Nat} (hk : k < 8) : p ≠ dgS k := by
  rintro rfl
  obtain ⟨⟨c, r, e, hc⟩, _⟩ := h
  have h1 := cps_dg ⟨k, hk⟩
  simp only at h1
  rw [h1] at e
  obtain ⟨rfl, rfl⟩ := List.cons.inj e
  unfold lets at hc
  obtain ⟨i, _, hi⟩ := List.mem_map.mp hc
  omega
theorem name_ne_nil {p : Str} (h : NameS p) : p ≠ ("" : Str) := by
  rintro rfl
  obtain ⟨⟨c, r, e, hc⟩, _⟩ := h
  cases e
theorem wheelE_eq {m : Str} {n k : Nat} : wheelE m n k = (dgS k, m, dgS ((k + 1) % n)) := rfl
section
variable {p m : Str} {n : Nat} {E : List Ed}
/-- where a wheel's pile leads -/
theorem wheel_reads (hn : 2 ≤ n) (hn8 : n ≤ 8) (hp : NameS p) (hm : NameS m) (hE : ∀ e, e ∈ E ↔ e = (p, ("" : Str), dgS 0) ∨ ∃ k, k < n ∧ e = wheelE m n k) :
    ∀ (i : Nat) (z : Str), ReadsTo E p (List.replicate i m) z ↔ (i = 0 ∧ z = p) ∨ z = dgS (i % n) := by
  have edge : ∀ {j : Nat} {z : Str}, j < n → ((dgS j, m, z) ∈ E ↔ z = dgS ((j + 1) % n)) := fun {j z} hj => by
    rw [hE]
    constructor
    · rintro (h | ⟨k, hk, h⟩)
      · exact absurd (congrArg Prod.fst h).symm (name_ne_dg hp (by omega))
      · rw [wheelE_eq] at h
        simp only [Prod.mk.injEq] at h
        obtain ⟨h1, _, h2⟩ := h
        rw [h2, dg_inj (by omega) (by omega) h1]
    · rintro rfl
      exact .inr ⟨j, hj, rfl⟩
  have slip0 : ∀ {j : Nat} {z : Str}, j < n → (dgS j, ("" : Str), z) ∉ E := fun {j z} hj h => by
    rcases (hE _).mp h with h | ⟨k, hk, h⟩
    · exact absurd (congrArg Prod.fst h).symm (name_ne_dg hp (by omega))
    · rw [wheelE_eq] at h
      simp only [Prod.mk.injEq] at h
      exact name_ne_nil hm h.2.1.symm
  have pm : ∀ {z : Str}, (p, m, z) ∉ E := fun {z} h => by
    rcases (hE _).mp h with h | ⟨k, hk, h⟩
    · simp only [Prod.mk.injEq] at h
      exact name_ne_nil hm h.2.1
    · rw [wheelE_eq] at h
      simp only [Prod.mk.injEq] at h
      exact name_ne_dg hp (by omega) h.1
  have ps : ∀ {z : Str}, (p, ("" : Str), z) ∈ E ↔ z = dgS 0 := fun {z} => by
    rw [hE]
    constructor
    · rintro (h | ⟨k, hk, h⟩)
      · simp only [Prod.mk.injEq] at h
        exact h.2.2
      · rw [wheelE_eq] at h
        simp only [Prod.mk.injEq] at h
        exact absurd h.1 (name_ne_dg hp (by omega))
    · rintro rfl
      exact .inl rfl
  intro i
  induction i with
  | zero =>
    intro z
    rw [Nat.zero_mod]
    constructor
    · suffices key : ∀ x, Slips E (· = p) x → (0 = 0 ∧ x = p) ∨ x = dgS 0 from fun h => key z h
      intro x h
      induction h with
      | base h => exact .inl ⟨rfl, h⟩
      | step _ he ih =>
        rcases ih with ⟨_, rfl⟩ | rfl
        · exact .inr (ps.mp he)
        · exact absurd he (slip0 (by omega))
    · rintro (⟨_, rfl⟩ | rfl)
      · exact Slips.base rfl
      · exact Slips.step (Slips.base rfl) (ps.mpr rfl)
  | succ i ih =>
    intro z
    have hlt : i % n < n := Nat.mod_lt _ (by omega)
    have hmod : (i % n + 1) % n = (i + 1) % n := by rw [Nat.mod_add_mod]
    have st : ∀ x, stepP E m (ReadsTo E p (List.replicate i m)) x ↔ x = dgS ((i + 1) % n) := fun x => by
      constructor
      · rintro ⟨y, hy, he⟩
        rcases (ih y).mp hy with ⟨_, rfl⟩ | rfl
        · exact absurd he pm
        · rw [← hmod]; exact (edge hlt).mp he
      · rintro rfl
        exact ⟨_, (ih _).mpr (.inr rfl), (edge hlt).mpr (by rw [hmod])⟩
    rw [show List.replicate (i + 1) m = List.replicate i m ++ [m] from List.replicate_succ' ..]
    unfold ReadsTo
    rw [readP_snoc]
    constructor
    · suffices key : ∀ x, Slips E (stepP E m (ReadsTo E p (List.replicate i m))) x → (i + 1 = 0 ∧ x = p) ∨ x = dgS ((i + 1) % n) from fun h => key z h
      intro x h
      induction h with
      | base h => exact .inr ((st _).mp h)
      | step _ he ih2 =>
        rcases ih2 with ⟨h0, _⟩ | rfl
        · omega
        · exact absurd he (slip0 (Nat.mod_lt _ (by omega)))
    · rintro (⟨h0, _⟩ | rfl)
      · omega
      · exact Slips.base ((st _).mpr rfl)
theorem goF_wheel {i : Nat} : ∀ (j a : Nat), goF [⟨p, m, p, [m, m]⟩] (p, List.replicate (j + 1) m) (List.replicate i 0) a = .inl (p, List.replicate (j + 1 + i) m) := by
  induction i with
  | zero => intro j a; rfl
  | succ i ih =>
    intro j a
    have : behF [⟨p, m, p, [m, m]⟩] (p, List.replicate (j + 1) m) 0 = some (p, List.replicate (j + 2) m) := by
      unfold behF stepF
      simp [List.replicate_succ]
    rw [List.replicate_succ (a := (0 : Int))]
    show (match behF [⟨p, m, p, [m, m]⟩] (p, List.replicate (j + 1) m) 0 with | some t => goF [⟨p, m, p, [m, m]⟩] t (List.replicate i 0) (a + 1) | none => .inr a) = _
    rw [this]
    refine (ih (j + 1) (a + 1)).trans ?_
    rw [show j + 1 + 1 + i = j + 1 + (i + 1) by omega]
theorem ris_one {x : Str} {zs : List Str} (h : RisS zs) (hm : ∀ z, z ∈ zs ↔ z = x) : zs = [x] := ris_eq h (List.pairwise_singleton _ _) fun z => by rw [hm]; simp
end
end DM

/-! a machine grown backwards -/
namespace DM
open PySem L2
open PyProof.Rows (b2i)
/-- a Growing in the store, over a base store -/
structure GrwO (M0 M : Mm) (Growing Reader a p r l : Addr) (E : List Ed) (F : D) : Prop where
  ia : insOf M a = some (Growing, [(("edges" : Str), .ref p), (("ends" : Str), F), (("reader" : Str), .ref r)])
  ed : ditOf M p = some (esD E)
  rd : insOf M r = some (Reader, [(("leads" : Str), .ref l)])
  ld : LdsE M0 M l E
  bs : Sub M0 M
  pn : M0 p = none
def GrwAt (M0 M : Mm) (Growing Reader a : Addr) (E : List Ed) (F : D) : Prop := ∃ p r l, GrwO M0 M Growing Reader a p r l E F
/-- an edge of the least machine -/
def Grown (rs : List Rl) (E0 : List Ed) (e : Ed) : Prop := ∀ E : List Ed, (∀ e ∈ E0, e ∈ E) → (∀ r ∈ rs, ∀ z, ReadsTo E r.o r.w z → (r.p, r.m, z) ∈ E) → e ∈ E
def GrownL (rs : List Rl) (E0 E : List Ed) : Prop := E.Nodup ∧ ∀ e, e ∈ E ↔ Grown rs E0 e
theorem Grown.base {rs : List Rl} {E0 : List Ed} {e : Ed} (h : e ∈ E0) : Grown rs E0 e := fun E h1 _ => h1 e h
theorem Grown.step {rs : List Rl} {E0 E : List Ed} {r : Rl} {z : Str} (hr : r ∈ rs) (hE : ∀ e ∈ E, Grown rs E0 e) (h : ReadsTo E r.o r.w z) : Grown rs E0 (r.p, r.m, z) :=
  fun X h1 h2 => h2 r hr z (readP_edges (fun e he => hE e he X h1 h2) (fun x hx => Slips.edges (fun e he => hE e he X h1 h2) hx) z h)
/-- what may stand in it at most -/
def allE (rs : List Rl) (E0 : List Ed) : List Ed := E0 ++ rs.flatMap fun r => (rs.map (·.o) ++ E0.map (·.2.2)).map fun z => (r.p, r.m, z)
theorem allE_len {rs : List Rl} {E0 : List Ed} : (allE rs E0).length = E0.length + rs.length * (rs.length + E0.length) := by
  unfold allE
  rw [List.length_append, List.length_flatMap]
  congr 1
  have : ∀ l : List Rl, (l.map fun r => ((rs.map (·.o) ++ E0.map (·.2.2)).map fun z => ((r.p, r.m, z) : Ed)).length).sum = l.length * (rs.length + E0.length) := by
    intro l
    induction l with
    | nil => simp
    | cons a l ih => rw [List.map_cons, List.sum_cons, ih]; simp [Nat.succ_mul, Nat.add_mul]; omega
  exact this rs
theorem allE_tgt {rs : List Rl} {E0 : List Ed} {e : Ed} (h : e ∈ allE rs E0) : (∃ r ∈ rs, r.o = e.2.2) ∨ ∃ f ∈ E0, f.2.2 = e.2.2 := by
  unfold allE at h
  rcases List.mem_append.mp h with h | h
  · exact .inr ⟨e, h, rfl⟩
  · obtain ⟨r, hr, h⟩ := List.mem_flatMap.mp h
    obtain ⟨z, hz, rfl⟩ := List.mem_map.mp h
    rcases List.mem_append.mp hz with hz | hz
    · obtain ⟨r', h1, h2⟩ := List.mem_map.mp hz
      exact .inl ⟨r', h1, h2⟩
    · obtain ⟨f, h1, h2⟩ := List.mem_map.mp hz
      exact .inr ⟨f, h1, h2⟩
theorem allE_step {rs : List Rl} {E0 E : List Ed} {r : Rl} {z : Str} (hr : r ∈ rs) (hE : ∀ e ∈ E, e ∈ allE rs E0) (h : ReadsTo E r.o r.w z) : (r.p, r.m, z) ∈ allE rs E0 := by
  have hz : (∃ r ∈ rs, r.o = z) ∨ ∃ f ∈ E0, f.2.2 = z := by
    have key : (∃ e ∈ E, e.2.2 = z) → (∃ r ∈ rs, r.o = z) ∨ ∃ f ∈ E0, f.2.2 = z := by
      rintro ⟨e, he, rfl⟩
      exact allE_tgt (hE e he)
    rcases readP_from h with h | h
    · rcases Slips.from h with rfl | h
      · exact .inl ⟨r, hr, rfl⟩
      · exact key h
    · exact key h
  unfold allE
  refine List.mem_append_right _ (List.mem_flatMap.mpr ⟨r, hr, List.mem_map.mpr ⟨z, ?_, rfl⟩⟩)
  rcases hz with ⟨r', h1, h2⟩ | ⟨f, h1, h2⟩
  · exact List.mem_append_left _ (List.mem_map.mpr ⟨r', h1, h2⟩)
  · exact List.mem_append_right _ (List.mem_map.mpr ⟨f, h1, h2⟩)
/-- a machine on its way -/
structure GrwI (rs : List Rl) (E0 E : List Ed) : Prop where
  nd : E.Nodup
  up : ∀ e ∈ E0, e ∈ E
  gr : ∀ e ∈ E, Grown rs E0 e
  al : ∀ e ∈ E, e ∈ allE rs E0
theorem GrwI.len {rs : List Rl} {E0 E : List Ed} (h : GrwI rs E0 E) : E.length ≤ (allE rs E0).length := sub_len h.nd h.al
theorem GrwI.start {rs : List Rl} {E0 : List Ed} (h : E0.Nodup) : GrwI rs E0 E0 := ⟨h, fun _ h => h, fun _ h => .base h, fun _ h => List.mem_append_left _ h⟩
theorem GrwI.add {rs : List Rl} {E0 E E1 : List Ed} {r : Rl} {z : Str} (h : GrwI rs E0 E) (h1 : GrwI rs E0 E1) (hr : r ∈ rs) (hz : ReadsTo E1 r.o r.w z) : GrwI rs E0 (insE E (r.p, r.m, z)) :=
  ⟨insE_nodup h.nd, fun e he => insE_mem.mpr (.inl (h.up e he)), fun e he => (insE_mem.mp he).elim (h.gr e) fun e' => e' ▸ Grown.step hr h1.gr hz, fun e he => (insE_mem.mp he).elim (h.al e) fun e' => e' ▸ allE_step hr h1.al hz⟩
theorem GrwI.done {rs : List Rl} {E0 E : List Ed} (h : GrwI rs E0 E) (c : ∀ r ∈ rs, ∀ z, ReadsTo E r.o r.w z → (r.p, r.m, z) ∈ E) : GrownL rs E0 E := ⟨h.nd, fun e => ⟨h.gr e, fun g => g E h.up c⟩⟩
theorem insE_in {E : List Ed} {e : Ed} (h : e ∈ E) : insE E e = E := if_pos h
theorem insE_out {E : List Ed} {e : Ed} (h : e ∉ E) : insE E e = E ++ [e] := if_neg h
section
variable {M0 M0' M M' : Mm} {l p a r Growing Reader : Addr} {E : List Ed} {F : D} {o : MO}
theorem dicOf_mup_ne' {b : Addr} (h : b ≠ p) : dicOf (mup M p o) b = dicOf M b := by unfold dicOf; rw [mup_ne h]
theorem LdsE.rebase (h : LdsE M0 M l E) (hk : ∀ x, M0 x = none → ((dicOf M x).isSome = true ∨ (lstOf M x).isSome = true) → M0' x = none) : LdsE M0' M l E := by
  obtain ⟨pA, qA, S, T, L, n, h, hn, hL⟩ := h
  refine ⟨pA, qA, S, T, L, n, ⟨h.to, ?_, fun s hs => ?_, fun s m ht => ?_⟩, hn, hL⟩
  · obtain ⟨kvs, e, _⟩ := h.to.ld
    exact hk _ h.ol (.inl (by rw [e]; rfl))
  · obtain ⟨kvs, e, _⟩ := h.to.inn s hs
    exact hk _ (h.op s hs) (.inl (by rw [e]; rfl))
  · exact hk _ (h.oq s m ht) (.inr (by rw [h.to.lst s m ht]; rfl))
/-- a place that is no dict of texts and no list may be written -/
theorem LdsE.put (h : LdsE M0 M l E) (h1 : dicOf M p = none) (h2 : lstOf M p = none) : LdsE M0 (mup M p o) l E := by
  obtain ⟨pA, qA, S, T, L, n, h, hn, hL⟩ := h
  have nd : ∀ {x kvs}, dicOf M x = some kvs → x ≠ p := fun {x kvs} e => by rintro rfl; rw [h1] at e; cases e
  have nl : ∀ {x xs}, lstOf M x = some xs → x ≠ p := fun {x xs} e => by rintro rfl; rw [h2] at e; cases e
  refine ⟨pA, qA, S, T, L, n, ⟨⟨?_, fun s hs => ?_, fun s m ht => ?_, h.to.out, h.to.ts, h.to.pl, h.to.pp, h.to.qq⟩, h.ol, h.op, h.oq⟩, hn, hL⟩
  · obtain ⟨kvs, e, g⟩ := h.to.ld
    exact ⟨kvs, by rw [dicOf_mup_ne' (nd e)]; exact e, g⟩
  · obtain ⟨kvs, e, g⟩ := h.to.inn s hs
    exact ⟨kvs, by rw [dicOf_mup_ne' (nd e)]; exact e, g⟩
  · have e := h.to.lst s m ht
    rw [lstOf_mup_ne (nl e)]; exact e
theorem dit_not (h : ditOf M p = some kvs) : dicOf M p = none ∧ lstOf M p = none := by
  unfold dicOf lstOf; rw [of_ditOf h]; exact ⟨rfl, rfl⟩
theorem ins_not {x : Addr × List (Str × D)} (h : insOf M p = some x) : dicOf M p = none ∧ lstOf M p = none := by
  unfold dicOf lstOf; rw [of_insOf h]; exact ⟨rfl, rfl⟩
/-- one edge more, the dict already put -/
theorem grow_leads {N : D → Mm → Prop} {s m t : Str} (g : GrwO M0 M Growing Reader a p r l E F) (hE : E.length ≤ 200000)
    (fin : ∀ M2, GrwO M0 M2 Growing Reader a p r l (E ++ [(s, m, t)]) F → N .non M2) :
    let M1 := mup M p (.dit (esD (E ++ [(s, m, t)])))
    insOf M1 a = some (Growing, [(("edges" : Str), .ref p), (("ends" : Str), F), (("reader" : Str), .ref r)]) ∧ insOf M1 r = some (Reader, [(("leads" : Str), .ref l)]) ∧
    (rdD M1 (.ref l)).isSome = true ∧ ∀ p, M1 p = none → setdQ (.ref l) (.str s) (.ref p) (mup M1 p (.dic [])) fun x M2 => (rdD M2 x).isSome = true ∧ ∀ p, M2 p = none →
      setdQ x (.str m) (.ref p) (mup M2 p (.lst [])) fun x M1 => isLst x M1 ∧ appendR x [.str t] M1 N := by
  intro M1
  have pa : a ≠ p := by rintro rfl; have := of_ditOf g.ed; rw [of_insOf g.ia] at this; cases this
  have pr : r ≠ p := by rintro rfl; have := of_ditOf g.ed; rw [of_insOf g.rd] at this; cases this
  have ia : insOf M1 a = _ := (insOf_mup_ne pa).trans g.ia
  have rd : insOf M1 r = _ := (insOf_mup_ne pr).trans g.rd
  have ed : ditOf M1 p = some (esD (E ++ [(s, m, t)])) := ditOf_mup_same
  refine ⟨ia, rd, ?_⟩
  have b1 : Sub M0 M1 := fun x o h => by
    rw [show M1 x = M x from mup_ne (by rintro rfl; rw [g.pn] at h; cases h)]
    exact g.bs x o h
  let M3 : Mm := fun x => if x = a ∨ x = p ∨ x = r then M1 x else M0 x
  have h3 : LdsE M3 M1 l E := by
    refine (g.ld.put (o := .dit (esD (E ++ [(s, m, t)]))) (dit_not g.ed).1 (dit_not g.ed).2).rebase fun x h0 hk => ?_
    show (if x = a ∨ x = p ∨ x = r then M1 x else M0 x) = none
    rw [if_neg]
    · exact h0
    · have key : ¬ (dicOf M1 x = none ∧ lstOf M1 x = none) := fun ⟨h1, h2⟩ => by
        rcases hk with h | h
        · rw [show dicOf _ x = dicOf M1 x from rfl, h1] at h; cases h
        · rw [show lstOf _ x = lstOf M1 x from rfl, h2] at h; cases h
      rintro (rfl | rfl | rfl)
      · exact key (ins_not ia)
      · exact key (dit_not ed)
      · exact key (ins_not rd)
  refine leads_go h3 (by omega) (fun x hx => ?_) fun M2 hL fr al => ?_
  · show (if x = a ∨ x = p ∨ x = r then M1 x else M0 x) = none
    split
    · exact hx
    · cases e : M0 x with
      | none => rfl
      | some o => rw [b1 x o e] at hx; cases hx
  · have keep : ∀ x, (x = a ∨ x = p ∨ x = r) → M2 x = M1 x := fun x hx => by
      by_cases e : M1 x = none
      · rcases hx with rfl | rfl | rfl
        · rw [of_insOf ia] at e; cases e
        · rw [of_ditOf ed] at e; cases e
        · rw [of_insOf rd] at e; cases e
      · exact fr x (by show (if x = a ∨ x = p ∨ x = r then M1 x else M0 x) ≠ none; rw [if_pos hx]; exact e)
    refine fin M2 ⟨?_, ?_, ?_, hL.rebase fun x h0 hk => ?_, fun x o h => ?_, g.pn⟩
    · unfold insOf; rw [keep a (.inl rfl)]; exact ia
    · unfold ditOf; rw [keep p (.inr (.inl rfl))]; exact ed
    · unfold insOf; rw [keep r (.inr (.inr rfl))]; exact rd
    · have h9 : (if x = a ∨ x = p ∨ x = r then M1 x else M0 x) = none := h0
      by_cases hx : x = a ∨ x = p ∨ x = r
      · rw [if_pos hx] at h9
        rcases hx with rfl | rfl | rfl
        · rw [of_insOf ia] at h9; cases h9
        · rw [of_ditOf ed] at h9; cases h9
        · rw [of_insOf rd] at h9; cases h9
      · rwa [if_neg hx] at h9
    · by_cases hx : x = a ∨ x = p ∨ x = r
      · rw [keep x hx]; exact b1 x o h
      · rw [fr x (by show (if x = a ∨ x = p ∨ x = r then M1 x else M0 x) ≠ none; rw [if_neg hx, h]; simp)]
        exact b1 x o h
end
end DM

/-! dict(pairs), keys that are tuples -/
namespace DM
open PySem L2
open PyProof.Rows (b2i)
/-- later pairs win, the place is the first one's -/
def mergeT (kvs : List (List Key × V)) (more : List (List Key × Addr × V)) : List (List Key × V) := more.foldl (fun acc q => putK acc q.1 q.2.2) kvs
theorem mergeT_len : ∀ (more : List (List Key × Addr × V)) (kvs : List (List Key × V)), (mergeT kvs more).length ≤ kvs.length + more.length
  | [], kvs => by show kvs.length ≤ kvs.length + 0; omega
  | p :: r, kvs => by
    have h1 := mergeT_len r (putK kvs p.1 p.2.2)
    have h2 := length_putK kvs p.1 p.2.2
    show (mergeT (putK kvs p.1 p.2.2) r).length ≤ _
    rw [List.length_cons]; omega
/-- the pairs as they lie in the store -/
def PT (H : Hp) (qs : List (List Key × Addr × V)) (xs : List (List Key × Addr × Value)) : Prop := Paired (fun (p : List Key × Addr × V) (q : List Key × Addr × Value) => p.1 = q.1 ∧ p.2.1 = q.2.1 ∧ H p.2.1 = some (.tup (p.1.map kV)) ∧ RelV p.2.2 q.2.2) qs xs
theorem PT.keys {H : Hp} {qs : List (List Key × Addr × V)} {xs : List (List Key × Addr × Value)} (r : PT H qs xs) : ∀ x ∈ xs, H x.2.1 = some (.tup (x.1.map kV)) := by
  unfold PT at r
  induction r with
  | nil => intro x hx; cases hx
  | cons h t ih =>
    intro x hx
    rcases List.mem_cons.mp hx with rfl | hx
    · rw [← h.1, ← h.2.1]; exact h.2.2.1
    · exact ih x hx
theorem KT_merge {H : Hp} : ∀ {qs : List (List Key × Addr × V)} {xs : List (List Key × Addr × Value)} {kvs : List (List Key × V)} {vs : List (List Key × Addr × Value)}, PT H qs xs → KT H kvs vs → KT H (mergeT kvs qs) (storedAllH vs xs) := by
  intro qs xs kvs vs r
  unfold PT at r
  induction r generalizing kvs vs with
  | nil => intro q; exact q
  | @cons p q ps qs h t ih =>
    intro r0
    obtain ⟨h1, h2, h3, h4⟩ := h
    show KT H (mergeT (putK kvs p.1 p.2.2) ps) (storedAllH (storedH vs q.1 q.2.1 q.2.2) qs)
    refine ih ?_
    rw [← h1, ← h2]
    exact r0.put p.1 h3 h4
section
variable {X : Cx}
theorem pairsT_of {pins : List (Addr × Obj)} {σ : L2.St} {H : Hp} {s : Shared} (I : Inv X pins σ H s) : ∀ {ps : List Addr} {qs : List (List Key × Addr × V)}, Paired (fun p q => SqT X.K H p [.ref q.2.1, q.2.2] ∧ H q.2.1 = some (.tup (q.1.map kV))) ps qs →
    ∃ xs : List (List Key × Addr × Value), PT H qs xs ∧ xs.length = ps.length ∧ ∀ (j : Nat) (q : List Key × Addr × Value), xs[j]? = some q → ∃ b : Addr, ps[j]? = some b ∧ s.heap.IsTuple b #[.ref q.2.1, q.2.2]
  | _, _, .nil => ⟨[], .nil, rfl, fun j q e => by simp at e⟩
  | _, _, .cons (a := p) (b := kv) h t => by
    obtain ⟨xs, r, hl, hp⟩ := pairsT_of I t
    obtain ⟨its, rv, ⟨o0, g1, g2, n0, g3⟩, _⟩ := I.tuple h.1
    obtain ⟨u, y, ei, ru, ry⟩ := vals2 rv
    subst ei
    have ht : s.heap.IsTuple p #[u, y] := ⟨o0, g1, g2, n0, g3⟩
    obtain rfl : u = Value.ref kv.2.1 := ru
    refine ⟨(kv.1, kv.2.1, y) :: xs, .cons ⟨rfl, rfl, h.2, ry⟩ r, by rw [List.length_cons, List.length_cons, hl], fun j q e => ?_⟩
    cases j with
    | zero =>
      have e' : (kv.1, kv.2.1, y) = q := Option.some.inj e
      subst e'
      exact ⟨p, rfl, ht⟩
    | succ j =>
      obtain ⟨b, e1, e2⟩ := hp j q (by simpa using e)
      exact ⟨b, by simpa using e1, e2⟩
theorem call_dictPT (hcalm : X.calm = true) (hu : X.A.units + 2 < cLine) : CallR X (.type "dict") (fun xs H Q => ∃ (a : Addr) (ps : List Addr) (qs : List (List Key × Addr × V)), xs = [.ref a] ∧ SqL X.K H a (ps.map V.ref) ∧ Paired (fun p q => SqT X.K H p [.ref q.2.1, q.2.2] ∧ H q.2.1 = some (.tup (q.1.map kV))) ps qs ∧
    ∀ p, H p = none → Q (.ref p) (upd H p (.dT (mergeT [] qs)))) := by
  intro pins s σ H xs us Q I r q
  obtain ⟨a, ps, qs, ex, hq, hp, q⟩ := q
  subst ex
  obtain ⟨u, eu, rx⟩ := vals1 r
  subst eu
  cases rx
  obtain ⟨its, rv, pl, hz⟩ := I.list hq
  have ei := refs_at rv
  subst ei
  rw [List.length_map] at hz
  obtain ⟨prs, rel, hl, hpr⟩ := pairsT_of I hp
  obtain ⟨o, n, ho, hc, hd, hdat⟩ := pl
  have hkeys : ∀ x ∈ prs, H x.2.1 = some (.tup (x.1.map kV)) := rel.keys
  have P := PairArg.list (prog := X.prog) (w := X.w) a (ps.map Value.ref).toArray (fun j => ps.getD j 0) (prs.map fun x => (Value.ref x.2.1, x.2.2))
  refine call_dict_pairsH (knd := tupleKind (mixKind X.prog X.w)) (ps := prs) P (I.ok.hd hcalm) hu ⟨⟨o, n, ho, hc, hd, hdat⟩, by simp [hl], fun j k v e => ?_⟩ ⟨by simp, fun i key v e => ?_⟩ (fun h' hk x hx => ?_) (by simpa [hl] using hz) fun h' tk hd' hk => ?_
  · rw [List.getElem?_map] at e
    obtain ⟨x, hx, e⟩ := Option.map_eq_some_iff.mp e
    simp only [Prod.mk.injEq] at e
    obtain ⟨rfl, rfl⟩ := e
    obtain ⟨b, e1, e2⟩ := hpr j x hx
    have : ps.getD j 0 = b := by simp [List.getD, e1]
    refine ⟨by simp [e1, this], .inl ?_⟩
    show s.heap.IsTuple (ps.getD j 0) _
    rw [this]
    exact e2
  · have e : (prs.map fun x => (Value.ref x.2.1, x.2.2))[i]? = some (key, v) := e
    rw [List.getElem?_map] at e
    obtain ⟨x, hx, e⟩ := Option.map_eq_some_iff.mp e
    simp only [Prod.mk.injEq] at e
    obtain ⟨rfl, rfl⟩ := e
    exact ⟨x.1, x.2.1, hx, rfl⟩
  · obtain ⟨o1, its, n1, g1, g2, g3, g4⟩ := key_of I.hok (hkeys x hx)
    exact ⟨o1, its, n1, hk _ _ (Nat.ne_of_lt (Heap.lt_size g1)) (by simp) g1, g2, g3, g4⟩
  · have hm : (s.heap.objs.size == sysModules) = false := beq_eq_false_iff_ne.mpr (Nat.ne_of_gt I.big)
    have hlen : (mergeT [] qs).length ≤ sizeLine := by
      refine Nat.le_trans (mergeT_len qs []) ?_
      have : qs.length = prs.length := Paired.length rel
      rw [List.length_nil, Nat.zero_add, this, hl]
      exact hz
    have hf : H s.heap.objs.size = none := I.hok.fresh (Nat.le_refl _)
    obtain ⟨q1, es, ep, k1, k2, k3, k4, _, k5⟩ := hd'
    refine ⟨.ref s.heap.objs.size, upd H s.heap.objs.size (.dT (mergeT [] qs)), I.laid (t' := tk) (fun b o e => hk b o (by simp) e) (Nat.le_refl _) (show ObjOk X.prog X.w _ _ _ (.dT (mergeT [] qs)) from ⟨hlen, hm, storedAllH [] prs, (KT_merge rel .nil).keeps fun c ys ec => ?_, q1, es, ep, k1, k2, k3, k4, k5⟩), rfl, q _ hf⟩
    rw [upd_ne (by rintro rfl; rw [hf] at ec; cases ec)]
    exact ec
end
def pairT (d : D) : Option (List Key × D) := match d with
  | .tup [k, v] => (keyT k).map fun kk => (kk, v)
  | _ => none
def pairsT : List D → Option (List (List Key × D))
  | [] => some []
  | d :: ds => match pairT d, pairsT ds with
    | some q, some qs => some (q :: qs)
    | _, _ => none
def mergeTD (kvs more : List (List Key × D)) : List (List Key × D) := more.foldl (fun acc q => putT acc q.1 q.2) kvs
def dictPQ (o : Option (List D)) (M : Mm) (Q : DQ) : Prop := match o with
  | some ys => (match pairsT ys with | some kvs => ∀ p, M p = none → Q (.ref p) (mup M p (.dit (mergeTD [] kvs))) | none => False)
  | none => False
def dictPR : DRC := fun xs M Q => match xs with
  | [x] => dictPQ (rdL M x) M Q
  | _ => False
def rDictPT (K : PySem.W.Frag) : List V → Hp → VK → Prop := fun xs H Q => ∃ (a : Addr) (ps : List Addr) (qs : List (List Key × Addr × V)), xs = [.ref a] ∧ SqL K H a (ps.map V.ref) ∧ Paired (fun p q => SqT K H p [.ref q.2.1, q.2.2] ∧ H q.2.1 = some (.tup (q.1.map kV))) ps qs ∧
    ∀ p, H p = none → Q (.ref p) (upd H p (.dT (mergeT [] qs)))
theorem pairs_v {K : PySem.W.Frag} {H : HF} : ∀ {ys : List D} {vs : List V} {kvs : List (List Key × D)}, VRs K H ys vs → pairsT ys = some kvs →
    ∃ (ps : List Addr) (qs : List (List Key × Addr × V)), vs = ps.map V.ref ∧ Paired (fun p q => SqT K H.h p [.ref q.2.1, q.2.2] ∧ H.h q.2.1 = some (.tup (q.1.map kV))) ps qs ∧ FR K H kvs (qs.map fun q => (q.1, q.2.2))
  | [], _, kvs, r, e => by
    cases r
    cases e
    exact ⟨[], [], rfl, .nil, .nil⟩
  | d :: ds, _, kvs, r, e => by
    cases r with
    | cons r1 r2 =>
      unfold pairsT at e
      split at e
      · rename_i q qs0 e1 e2
        cases e
        obtain ⟨ps, qs, rfl, hp, hf⟩ := pairs_v r2 e2
        unfold pairT at e1
        split at e1
        · rename_i k v
          obtain ⟨kk, hk, e1⟩ := Option.map_eq_some_iff.mp e1
          cases e1
          obtain ⟨b, ws, rfl, hb, rw⟩ := VR.tup_t r1
          cases rw with
          | cons rk rw =>
            cases rw with
            | cons rv rw =>
              cases rw
              obtain ⟨c, rfl, hc⟩ := key_v rk hk
              exact ⟨b :: ps, (kk, c, _) :: qs, rfl, .cons ⟨.inl (.inl hb), hc⟩ hp, .cons rv hf⟩
        · cases e1
      · cases e
theorem FR_mergeT {K : PySem.W.Frag} {H : HF} : ∀ {qs : List (List Key × Addr × V)} {kvs acc : List (List Key × D)} {vs : List (List Key × V)}, FR K H kvs (qs.map fun q => (q.1, q.2.2)) → FR K H acc vs → FR K H (mergeTD acc kvs) (mergeT vs qs)
  | [], kvs, acc, vs, r, r0 => by
    cases r
    exact r0
  | q :: qs, kvs, acc, vs, r, r0 => by
    rw [List.map_cons] at r
    cases r with
    | cons r1 r2 =>
      exact FR_mergeT (qs := qs) (acc := putT acc q.1 _) (vs := putK vs q.1 q.2.2) r2 (FR.putt (k := q.1) r1 r0)
theorem lift_dictP {K : PySem.W.Frag} : LiftC K (rDictPT K) dictPR := by
  intro vs ds H M Q Q0 r m h k
  unfold dictPR at h
  split at h
  · rename_i x
    obtain ⟨v, rfl, r1⟩ := r.one
    unfold dictPQ at h
    split at h
    · rename_i ys e
      obtain ⟨a, ws, rfl, h1, r2⟩ := rdL_v m r1 e
      split at h
      · rename_i kvs e2
        obtain ⟨ps, qs, rfl, hp, hf⟩ := pairs_v r2 e2
        refine ⟨a, ps, qs, rfl, .inl (.inl h1), hp, fun p hpn => ?_⟩
        have hm := FR_mergeT (acc := []) (vs := []) hf .nil
        exact k (.ref p) (H.up p _) (.ref p) _ (.ref p) (m.new (w := .dit _) hpn ⟨_, upd_same, hm.mono (TX.new m hpn)⟩) (GG.new hpn) (h p (m.free hpn))
      · exact h.elim
    · exact h.elim
  · exact h.elim
section
variable {X : Cx} {e : Expr} {es : List Expr} {t : TDA} {p pos : Pos} {k : Nat}
theorem je_dictP (hc : X.calm = true) (hr : Room k X.A) (hm : X.mg "dict" = none) (ha : JA X (e :: es) t) (hg : Gl X "dict" := by rfl) (he : starEach (e :: es) X.env = (false, eval e X.env) :: starEach es X.env := by rfl) (hpl : (backTo pos (starEach es X.env)).any (·.1) = false := by rfl) :
    JE X (.Call (.Name "dict" p) (e :: es) [] pos) (dCB dictPR t) := je_callTy (call_dictPT hc (by have := hr.un; omega)) lift_dictP hg hm PyProof.Rows.boot_dict ha (by decide) (by decide) he hpl
end
/-- dict([(e, True) for e in E]) -/
theorem pairs_es {E : List Ed} : pairsT (E.map fun e => .tup [edD e, .bl true]) = some (esD E) := by
  induction E with
  | nil => rfl
  | cons e E ih =>
    rw [List.map_cons]
    unfold pairsT
    rw [ih]
    rfl
theorem merge_es {E : List Ed} (h : E.Nodup) : mergeTD [] (esD E) = esD E := by
  have key : ∀ (E acc : List Ed), (acc ++ E).Nodup → mergeTD (esD acc) (esD E) = esD (acc ++ E) := by
    intro E
    induction E with
    | nil => intro acc _; rw [List.append_nil]; rfl
    | cons e E ih =>
      intro acc h
      show mergeTD (putT (esD acc) (edK e) (.bl true)) (esD E) = _
      have hn : e ∉ acc := fun hm => by
        rw [List.nodup_append] at h
        exact h.2.2 e hm e List.mem_cons_self rfl
      rw [put_es, insE_out hn, ih (acc ++ [e]) (by simpa using h)]
      simp
  exact key E [] (by simpa using h)
theorem dictP_es {E : List Ed} {x : D} {M : Mm} {Q : DQ} (e : rdL M x = some (E.map fun e => .tup [edD e, .bl true])) (h : E.Nodup) (k : ∀ p, M p = none → Q (.ref p) (mup M p (.dit (esD E)))) : dictPR [x] M Q := by
  show dictPQ (rdL M x) M Q
  rw [e]
  unfold dictPQ
  simp only [pairs_es, merge_es h]
  exact k
end DM

namespace pileruns_k14_piles_read
open PySem PySem.Spec PyProof.Rows L2 DM
open PyProof.Rows (b2i)

local macro_rules | `(tactic| simp_all only [$xs,*]) => `(tactic| try simp only [dNext_e, dBreak_e, dCont_e, dDrop_e, dRet_e, dRetN_e, dIfS_e, dAsg_e, dputS_e, dlputS_e, dOp_e, dVar_e, dC_e, dget_zero, dget_succ, dTest_e, dNil_e, dCons_e, dgName_e, dTup_e, dCB_e, dFresh_e, dFrz_e, dFreshD_e, dFrzD_e, dDispD_e, dDisp_e, dBM_e, dBM0_e, dAndV_e, dOrV_e, dNotV_e, dAnd_e, dOr_e, dNot_e, dCall_e, dNeg_e, dIf_e, dFor_e, dSl_e, dPart_e, dNoPart_e, diRng1_e, diRng2_e, diAny_e, dstart, List.set_cons_zero, List.set_cons_succ, List.map_cons, List.map_nil, List.length_cons, List.length_nil, List.cons_append, List.nil_append, Nat.reduceAdd, Nat.reduceSub, Int.reduceAdd, Int.reduceSub, List.replicate, dListOf_e, dJoin_e, dIndex_e, dRev_e, diZip_e, dPar2_e, diEnum_e, dRetX_e, dDropX_e, dAsgX_e, dCallX_e, dConsX_e, dTupX_e, dFrzX_e, dRaise0_e, dRaise1_e, dTryAs_e, dTryOnly_e, dXf_e, asEnds, dLc_e, wipeD, dCat_e, dSlL_e, dGet2_e, dGet1_e, ite_true, ite_false, if_true, if_false, reduceIte, Bool.false_eq_true, Bool.true_eq_false, and_true, true_and, rdL_lst, rdL_ref, rdS_lst, rdS_ref, rdS_tup, rdD_dic, rdD_ref, addR_ii, addR_ib, addR_ss, addR_tt, addR_LL, subR_ii, mulR_ii, mulA_ii, mulA_t, mulA_L, modR_ii, fdivR_ii, powR_ii, ltR_ii, leR_ii, gtR_ii, geR_ii, keyD_s, keyD_i, eqR_ii, eqR_ss, eqR_bb, eqR_tt, eqR_LL, neR_ii, neR_ss, neR_bb, neR_tt, neR_LL, eqM_ii, eqM_ss, eqM_bb, eqM_tt, eqM_LL, okD_i, okD_s, okD_b, okD_n, okD_t, okD_L, deck_at, deck_sum, deck_cells, deck_len, deck_put, dicOf_mup_same, lstOf_mup_same, int1R_b, int1R_i, ix_t0, ix_t1, ix_t2, ix_t3, ix_t4, lenR_t, lenR_s, lenR_L, slR_t, slR_s, slR_L, cutL_from1, cutL_from2, revR_t, revR_L, tup1R_L, tup1R_t, beq_self_eq_true, Bool.not_true, Bool.not_false, Option.isSome_some, List.isEmpty_nil, List.isEmpty_cons, isR_nn, isR_tn, isR_Ln, isR_sn, isR_in, isR_bn, isR_bb, isNotR_nn, isNotR_tn, isNotR_Ln, isNotR_sn, isNotR_in, isNotR_bn, isNotR_bb, isi_t_bool, isi_t_int, isi_t_str, isi_t_tuple, isi_t_list, isi_t_dict, isi_s_bool, isi_s_int, isi_s_str, isi_s_tuple, isi_s_list, isi_s_dict, isi_i_bool, isi_i_int, isi_i_str, isi_i_tuple, isi_i_list, isi_i_dict, isi_b_bool, isi_b_int, isi_b_str, isi_b_tuple, isi_b_list, isi_b_dict, isi_n_bool, isi_n_int, isi_n_str, isi_n_tuple, isi_n_list, isi_n_dict, isi_L_bool, isi_L_int, isi_L_str, isi_L_tuple, isi_L_list, isi_L_dict, isi_d_bool, isi_d_int, isi_d_str, isi_d_tuple, isi_d_list, isi_d_dict, natlit_eq, Int.reduceNeg, puts, appendR_same, lenR_same, tup1R_same, sz0, sz1, sz2, sz3, sz4, sz5, sz6, sz7, sz8, sz9, sz10, ix_L0, ix_L1, ix_L2, ix_Lbs, dep_nil, dep_cons, dep_tup, dep_lst, dep_str, dep_int, dep_bl, dep_non, dep_strs, dep_ints, dep_app, dep_rules, dep_prog, dep_st, pu_nil, pu_cons, pu_tup, pu_lst, pu_str, pu_int, pu_bl, pu_non, pu_app, pureDs_str, pureDs_int, pu_rule, pu_rules, pu_prog, pu_st, eqv_self, eqvDs_nil, Bool.and_self, Bool.and_true, Bool.true_and, List.length_map, List.length_append, Int.zero_add, Nat.zero_add, cutL_to1, cutL_to2, cutL_to3, cutL_to15, List.take_succ_cons, List.take_zero, List.take_nil, List.drop_succ_cons, List.drop_zero, List.drop_nil, max2R_ii, min2R_ii, cutL_toN, cutL_toS, cutL_fromN, cutL_fromS, List.length_take, List.length_drop, ← List.map_take, ← List.map_drop, ← List.map_append, neR_prog0, eqR_prog0, lenR_prog, rep1, List.length_replicate, Int.toNat_natCast, ofLst_L, sumLR_map, allLR_map, anyLR_map, ofString_beq, ofString_inj, String.reduceBEq, String.reduceEq, decide_true, decide_false, extA_t, extA_L, isSome_same, List.length_reverse, ← List.map_reverse, dYes_e, varI_s, isB_b, isI_i, isLst_r, dgTup_t, dgTup_l, dgCons_e, dgNil_e, negI_i, anyI_t, anyI_s, anyI_L, anyI_r, anyR_s, someI_s, listI_1, joinI_s, isStr_s, zipI_tt, zipI_LL, par2I_2, enumI_t, enumI_L, raiseI_i, catI_s, dputI_s, dputI_i, dlputI_r, dPairs_nil, dPairs_cons, dgetR_s, dgetR_i, getQ_s, getQ_i, isDic, dChain_e, pu_pile, pu_piles, dep_pile, dep_piles, pu_yst, dep_yst, isR_yst, isNotR_yst, isR_st, isNotR_st, lenR_yard, addB_ii, addB_bi, subB_ii, subB_bi, sumLR_nat, inR_natL, inR_natT, pu_nats, dep_nats, eqR_bi, cutL_mid2, cutL_from2S, addB_tt, addB_LL, dSorted_e, sortedI_L, sortedI_r, dLstRg1_e, lstRgI_i, dRepr_e, reprI_1, ix_L3, ix_L4, ix_L5, ix_L6, ix_L7, ix_L8, ix_L9, ix_t5, ix_t6, ix_t7, ix_t8, ix_t9, cutL_from3, cutL_from4, cutL_from5, cutL_from6, cutL_from8, cutL_to4, cutL_to5, cutL_to6, cutL_to8, cutL_to0, sortedI_t, dputTS_e, dDictT_e, dSortedT_e, sortedTI_r, dputTI_2s, dputTI_3s, inT_2s, inT_3s, notInT_2s, notInT_3s, str1R_i, cutL_toM1, cutL_fromM1, List.length_dropLast, sumLR_2, enumI_r, ← List.map_dropLast, dFld_e, dFput_e, dFadd_e, dFadd2_i, dMeth_e, dMake_e, dSetd_e, dSetdT_e, dGet2T_e, dSortSet_e, dSortedK_e, $xs,*])
local macro_rules | `(tactic| simp_all? only [$xs,*]) => `(tactic| try simp only [dSeq_e, dNext_e, dBreak_e, dCont_e, dDrop_e, dRet_e, dRetN_e, dIfS_e, dAsg_e, dputS_e, dlputS_e, dOp_e, dVar_e, dC_e, dget_zero, dget_succ, dTest_e, dNil_e, dCons_e, dgName_e, dTup_e, dCB_e, dFresh_e, dFrz_e, dFreshD_e, dFrzD_e, dDispD_e, dDisp_e, dBM_e, dBM0_e, dAndV_e, dOrV_e, dNotV_e, dAnd_e, dOr_e, dNot_e, dCall_e, dNeg_e, dIf_e, dFor_e, dSl_e, dPart_e, dNoPart_e, diRng1_e, diRng2_e, diAny_e, dstart, List.set_cons_zero, List.set_cons_succ, List.map_cons, List.map_nil, List.length_cons, List.length_nil, List.cons_append, List.nil_append, Nat.reduceAdd, Nat.reduceSub, Int.reduceAdd, Int.reduceSub, List.replicate, dListOf_e, dJoin_e, dIndex_e, dRev_e, diZip_e, dPar2_e, diEnum_e, dRetX_e, dDropX_e, dAsgX_e, dCallX_e, dConsX_e, dTupX_e, dFrzX_e, dRaise0_e, dRaise1_e, dTryAs_e, dTryOnly_e, dXf_e, asEnds, dLc_e, wipeD, dCat_e, dSlL_e, dGet2_e, dGet1_e, ite_true, ite_false, if_true, if_false, reduceIte, Bool.false_eq_true, Bool.true_eq_false, and_true, true_and, rdL_lst, rdL_ref, rdS_lst, rdS_ref, rdS_tup, rdD_dic, rdD_ref, addR_ii, addR_ib, addR_ss, addR_tt, addR_LL, subR_ii, mulR_ii, mulA_ii, mulA_t, mulA_L, modR_ii, fdivR_ii, powR_ii, ltR_ii, leR_ii, gtR_ii, geR_ii, keyD_s, keyD_i, eqR_ii, eqR_ss, eqR_bb, eqR_tt, eqR_LL, neR_ii, neR_ss, neR_bb, neR_tt, neR_LL, eqM_ii, eqM_ss, eqM_bb, eqM_tt, eqM_LL, okD_i, okD_s, okD_b, okD_n, okD_t, okD_L, deck_at, deck_sum, deck_cells, deck_len, deck_put, dicOf_mup_same, lstOf_mup_same, int1R_b, int1R_i, ix_t0, ix_t1, ix_t2, ix_t3, ix_t4, lenR_t, lenR_s, lenR_L, slR_t, slR_s, slR_L, cutL_from1, cutL_from2, revR_t, revR_L, tup1R_L, tup1R_t, beq_self_eq_true, Bool.not_true, Bool.not_false, Option.isSome_some, List.isEmpty_nil, List.isEmpty_cons, isR_nn, isR_tn, isR_Ln, isR_sn, isR_in, isR_bn, isR_bb, isNotR_nn, isNotR_tn, isNotR_Ln, isNotR_sn, isNotR_in, isNotR_bn, isNotR_bb, isi_t_bool, isi_t_int, isi_t_str, isi_t_tuple, isi_t_list, isi_t_dict, isi_s_bool, isi_s_int, isi_s_str, isi_s_tuple, isi_s_list, isi_s_dict, isi_i_bool, isi_i_int, isi_i_str, isi_i_tuple, isi_i_list, isi_i_dict, isi_b_bool, isi_b_int, isi_b_str, isi_b_tuple, isi_b_list, isi_b_dict, isi_n_bool, isi_n_int, isi_n_str, isi_n_tuple, isi_n_list, isi_n_dict, isi_L_bool, isi_L_int, isi_L_str, isi_L_tuple, isi_L_list, isi_L_dict, isi_d_bool, isi_d_int, isi_d_str, isi_d_tuple, isi_d_list, isi_d_dict, natlit_eq, Int.reduceNeg, puts, appendR_same, lenR_same, tup1R_same, sz0, sz1, sz2, sz3, sz4, sz5, sz6, sz7, sz8, sz9, sz10, ix_L0, ix_L1, ix_L2, ix_Lbs, dep_nil, dep_cons, dep_tup, dep_lst, dep_str, dep_int, dep_bl, dep_non, dep_strs, dep_ints, dep_app, dep_rules, dep_prog, dep_st, pu_nil, pu_cons, pu_tup, pu_lst, pu_str, pu_int, pu_bl, pu_non, pu_app, pureDs_str, pureDs_int, pu_rule, pu_rules, pu_prog, pu_st, eqv_self, eqvDs_nil, Bool.and_self, Bool.and_true, Bool.true_and, List.length_map, List.length_append, Int.zero_add, Nat.zero_add, cutL_to1, cutL_to2, cutL_to3, cutL_to15, List.take_succ_cons, List.take_zero, List.take_nil, List.drop_succ_cons, List.drop_zero, List.drop_nil, max2R_ii, min2R_ii, cutL_toN, cutL_toS, cutL_fromN, cutL_fromS, List.length_take, List.length_drop, ← List.map_take, ← List.map_drop, ← List.map_append, neR_prog0, eqR_prog0, lenR_prog, rep1, List.length_replicate, Int.toNat_natCast, ofLst_L, sumLR_map, allLR_map, anyLR_map, ofString_beq, ofString_inj, String.reduceBEq, String.reduceEq, decide_true, decide_false, extA_t, extA_L, isSome_same, List.length_reverse, ← List.map_reverse, dYes_e, varI_s, isB_b, isI_i, isLst_r, dgTup_t, dgTup_l, dgCons_e, dgNil_e, negI_i, anyI_t, anyI_s, anyI_L, anyI_r, anyR_s, someI_s, listI_1, joinI_s, isStr_s, zipI_tt, zipI_LL, par2I_2, enumI_t, enumI_L, raiseI_i, catI_s, dputI_s, dputI_i, dlputI_r, dPairs_nil, dPairs_cons, dgetR_s, dgetR_i, getQ_s, getQ_i, isDic, dChain_e, pu_pile, pu_piles, dep_pile, dep_piles, pu_yst, dep_yst, isR_yst, isNotR_yst, isR_st, isNotR_st, lenR_yard, addB_ii, addB_bi, subB_ii, subB_bi, sumLR_nat, inR_natL, inR_natT, pu_nats, dep_nats, eqR_bi, cutL_mid2, cutL_from2S, addB_tt, addB_LL, dSorted_e, sortedI_L, sortedI_r, dLstRg1_e, lstRgI_i, dRepr_e, reprI_1, ix_L3, ix_L4, ix_L5, ix_L6, ix_L7, ix_L8, ix_L9, ix_t5, ix_t6, ix_t7, ix_t8, ix_t9, cutL_from3, cutL_from4, cutL_from5, cutL_from6, cutL_from8, cutL_to4, cutL_to5, cutL_to6, cutL_to8, cutL_to0, sortedI_t, dputTS_e, dDictT_e, dSortedT_e, sortedTI_r, dputTI_2s, dputTI_3s, inT_2s, inT_3s, notInT_2s, notInT_3s, str1R_i, cutL_toM1, cutL_fromM1, List.length_dropLast, sumLR_2, enumI_r, ← List.map_dropLast, dFld_e, dFput_e, dFadd_e, dFadd2_i, dMeth_e, dMake_e, dSetd_e, dSetdT_e, dGet2T_e, dSortSet_e, dSortedK_e, $xs,*])
local macro_rules | `(tactic| simp? only [$xs,*]) => `(tactic| try simp only [dNext, dBreak, dCont, dDrop, dRet, dRetN, dIfS, dAsg, dputS, dlputS, dOp, dVar, dC, dget_zero, dget_succ, dTest, isB, dNil, dCons, dgName, dTup, dCB, dFresh, dFrz, dFreshD, dFrzD, dDispD, dDisp, dBM, dBM0, dAndV, dOrV, dNotV, dAnd, dOr, dNot, dCall, dNeg, dIf, dFor, dSl, dPart, dNoPart, diRng1, diRng2, diAny, isI, dstart, List.set_cons_zero, List.set_cons_succ, List.map_cons, List.map_nil, List.length_cons, List.length_nil, List.cons_append, List.nil_append, Nat.reduceAdd, Nat.reduceSub, Int.reduceAdd, Int.reduceSub, List.replicate, isLst, dgTup, dgCons, dgNil, dListOf, dJoin, dIndex, dRev, diZip, dPar2, diEnum, dRetX, dDropX, dAsgX, dCallX, dConsX, dTupX, dFrzX, dRaise0, dRaise1, dTryAs, dTryOnly, dXf, asEnds, dLc, wipeD, dCat, dSlL, dPairs, dGet2, dGet1, isDic, ite_true, ite_false, if_true, if_false, reduceIte, Bool.false_eq_true, Bool.true_eq_false, and_true, true_and, rdL_lst, rdL_ref, rdS_lst, rdS_ref, rdS_tup, rdD_dic, rdD_ref, addR_ii, addR_ib, addR_ss, addR_tt, addR_LL, subR_ii, mulR_ii, mulA_ii, mulA_t, mulA_L, modR_ii, fdivR_ii, powR_ii, ltR_ii, leR_ii, gtR_ii, geR_ii, keyD_s, keyD_i, dgetR, eqR_ii, eqR_ss, eqR_bb, eqR_tt, eqR_LL, neR_ii, neR_ss, neR_bb, neR_tt, neR_LL, eqM_ii, eqM_ss, eqM_bb, eqM_tt, eqM_LL, okD_i, okD_s, okD_b, okD_n, okD_t, okD_L, deck_at, deck_sum, deck_cells, deck_len, deck_put, dicOf_mup_same, lstOf_mup_same, int1R_b, int1R_i, ix_t0, ix_t1, ix_t2, ix_t3, ix_t4, lenR_t, lenR_s, lenR_L, slR_t, slR_s, slR_L, cutL_from1, cutL_from2, revR_t, revR_L, tup1R_L, tup1R_t, beq_self_eq_true, Bool.not_true, Bool.not_false, Option.isSome_some, List.isEmpty_nil, List.isEmpty_cons, isR_nn, isR_tn, isR_Ln, isR_sn, isR_in, isR_bn, isR_bb, isNotR_nn, isNotR_tn, isNotR_Ln, isNotR_sn, isNotR_in, isNotR_bn, isNotR_bb, isi_t_bool, isi_t_int, isi_t_str, isi_t_tuple, isi_t_list, isi_t_dict, isi_s_bool, isi_s_int, isi_s_str, isi_s_tuple, isi_s_list, isi_s_dict, isi_i_bool, isi_i_int, isi_i_str, isi_i_tuple, isi_i_list, isi_i_dict, isi_b_bool, isi_b_int, isi_b_str, isi_b_tuple, isi_b_list, isi_b_dict, isi_n_bool, isi_n_int, isi_n_str, isi_n_tuple, isi_n_list, isi_n_dict, isi_L_bool, isi_L_int, isi_L_str, isi_L_tuple, isi_L_list, isi_L_dict, isi_d_bool, isi_d_int, isi_d_str, isi_d_tuple, isi_d_list, isi_d_dict, natlit_eq, Int.reduceNeg, $xs,*])
local macro_rules | `(tactic| dsimp? only [$xs,*]) => `(tactic| try simp only [dSeq, dNext, dBreak, dCont, dDrop, dRet, dRetN, dIfS, dAsg, dputS, dlputS, dOp, dVar, dC, dget_zero, dget_succ, dTest, isB, dNil, dCons, dgName, dTup, dCB, dFresh, dFrz, dFreshD, dFrzD, dDispD, dDisp, dBM, dBM0, dAndV, dOrV, dNotV, dAnd, dOr, dNot, dCall, dNeg, dIf, dFor, dSl, dPart, dNoPart, diRng1, diRng2, diAny, isI, dstart, List.set_cons_zero, List.set_cons_succ, List.map_cons, List.map_nil, List.length_cons, List.length_nil, List.cons_append, List.nil_append, Nat.reduceAdd, Nat.reduceSub, Int.reduceAdd, Int.reduceSub, List.replicate, isLst, dgTup, dgCons, dgNil, dListOf, dJoin, dIndex, dRev, diZip, dPar2, diEnum, dRetX, dDropX, dAsgX, dCallX, dConsX, dTupX, dFrzX, dRaise0, dRaise1, dTryAs, dTryOnly, dXf, asEnds, dLc, wipeD, dCat, dSlL, dPairs, dGet2, dGet1, isDic, ite_true, ite_false, if_true, if_false, reduceIte, Bool.false_eq_true, Bool.true_eq_false, and_true, true_and, rdL_lst, rdL_ref, rdS_lst, rdS_ref, rdS_tup, rdD_dic, rdD_ref, addR_ii, addR_ib, addR_ss, addR_tt, addR_LL, subR_ii, mulR_ii, mulA_ii, mulA_t, mulA_L, modR_ii, fdivR_ii, powR_ii, ltR_ii, leR_ii, gtR_ii, geR_ii, keyD_s, keyD_i, dgetR, eqR_ii, eqR_ss, eqR_bb, eqR_tt, eqR_LL, neR_ii, neR_ss, neR_bb, neR_tt, neR_LL, eqM_ii, eqM_ss, eqM_bb, eqM_tt, eqM_LL, okD_i, okD_s, okD_b, okD_n, okD_t, okD_L, deck_at, deck_sum, deck_cells, deck_len, deck_put, dicOf_mup_same, lstOf_mup_same, int1R_b, int1R_i, ix_t0, ix_t1, ix_t2, ix_t3, ix_t4, lenR_t, lenR_s, lenR_L, slR_t, slR_s, slR_L, cutL_from1, cutL_from2, revR_t, revR_L, tup1R_L, tup1R_t, beq_self_eq_true, Bool.not_true, Bool.not_false, Option.isSome_some, List.isEmpty_nil, List.isEmpty_cons, isR_nn, isR_tn, isR_Ln, isR_sn, isR_in, isR_bn, isR_bb, isNotR_nn, isNotR_tn, isNotR_Ln, isNotR_sn, isNotR_in, isNotR_bn, isNotR_bb, isi_t_bool, isi_t_int, isi_t_str, isi_t_tuple, isi_t_list, isi_t_dict, isi_s_bool, isi_s_int, isi_s_str, isi_s_tuple, isi_s_list, isi_s_dict, isi_i_bool, isi_i_int, isi_i_str, isi_i_tuple, isi_i_list, isi_i_dict, isi_b_bool, isi_b_int, isi_b_str, isi_b_tuple, isi_b_list, isi_b_dict, isi_n_bool, isi_n_int, isi_n_str, isi_n_tuple, isi_n_list, isi_n_dict, isi_L_bool, isi_L_int, isi_L_str, isi_L_tuple, isi_L_list, isi_L_dict, isi_d_bool, isi_d_int, isi_d_str, isi_d_tuple, isi_d_list, isi_d_dict, natlit_eq, Int.reduceNeg, $xs,*])
local macro_rules | `(tactic| infer_instance) => `(tactic| repeat (first | (with_reducible refine sa_asg fun Nx hNx => ?_) | (with_reducible refine sa_drop fun Nx hNx => ?_) | (with_reducible refine sa_for fun Nx hNx => ?_) | (with_reducible refine sa_while fun Nx hNx => ?_) | (with_reducible refine sa_dput fun Nx hNx => ?_) | (with_reducible refine sa_dputT fun Nx hNx => ?_) | (with_reducible refine sa_lput fun Nx hNx => ?_) | (with_reducible refine sa_fput fun Nx hNx => ?_) | (with_reducible refine sa_fadd fun Nx hNx => ?_) | (with_reducible refine sa_par2 fun Nx hNx => ?_) | (with_reducible refine sa_asgX fun Nx hNx => ?_) | (with_reducible refine sa_dropX fun Nx hNx => ?_) | (simp only [dNext_e, dBreak_e, dCont_e, dDrop_e, dRet_e, dRetN_e, dIfS_e, dAsg_e, dputS_e, dlputS_e, dOp_e, dVar_e, dC_e, dget_zero, dget_succ, dTest_e, dNil_e, dCons_e, dgName_e, dTup_e, dCB_e, dFresh_e, dFrz_e, dFreshD_e, dFrzD_e, dDispD_e, dDisp_e, dBM_e, dBM0_e, dAndV_e, dOrV_e, dNotV_e, dAnd_e, dOr_e, dNot_e, dCall_e, dNeg_e, dIf_e, dFor_e, dSl_e, dPart_e, dNoPart_e, diRng1_e, diRng2_e, diAny_e, dstart, List.set_cons_zero, List.set_cons_succ, List.map_cons, List.map_nil, List.length_cons, List.length_nil, List.cons_append, List.nil_append, Nat.reduceAdd, Nat.reduceSub, Int.reduceAdd, Int.reduceSub, List.replicate, dListOf_e, dJoin_e, dIndex_e, dRev_e, diZip_e, dPar2_e, diEnum_e, dRetX_e, dDropX_e, dAsgX_e, dCallX_e, dConsX_e, dTupX_e, dFrzX_e, dRaise0_e, dRaise1_e, dTryAs_e, dTryOnly_e, dXf_e, asEnds, dLc_e, wipeD, dCat_e, dSlL_e, dGet2_e, dGet1_e, ite_true, ite_false, if_true, if_false, reduceIte, Bool.false_eq_true, Bool.true_eq_false, and_true, true_and, rdL_lst, rdL_ref, rdS_lst, rdS_ref, rdS_tup, rdD_dic, rdD_ref, addR_ii, addR_ib, addR_ss, addR_tt, addR_LL, subR_ii, mulR_ii, mulA_ii, mulA_t, mulA_L, modR_ii, fdivR_ii, powR_ii, ltR_ii, leR_ii, gtR_ii, geR_ii, keyD_s, keyD_i, eqR_ii, eqR_ss, eqR_bb, eqR_tt, eqR_LL, neR_ii, neR_ss, neR_bb, neR_tt, neR_LL, eqM_ii, eqM_ss, eqM_bb, eqM_tt, eqM_LL, okD_i, okD_s, okD_b, okD_n, okD_t, okD_L, deck_at, deck_sum, deck_cells, deck_len, deck_put, dicOf_mup_same, lstOf_mup_same, int1R_b, int1R_i, ix_t0, ix_t1, ix_t2, ix_t3, ix_t4, lenR_t, lenR_s, lenR_L, slR_t, slR_s, slR_L, cutL_from1, cutL_from2, revR_t, revR_L, tup1R_L, tup1R_t, beq_self_eq_true, Bool.not_true, Bool.not_false, Option.isSome_some, List.isEmpty_nil, List.isEmpty_cons, isR_nn, isR_tn, isR_Ln, isR_sn, isR_in, isR_bn, isR_bb, isNotR_nn, isNotR_tn, isNotR_Ln, isNotR_sn, isNotR_in, isNotR_bn, isNotR_bb, isi_t_bool, isi_t_int, isi_t_str, isi_t_tuple, isi_t_list, isi_t_dict, isi_s_bool, isi_s_int, isi_s_str, isi_s_tuple, isi_s_list, isi_s_dict, isi_i_bool, isi_i_int, isi_i_str, isi_i_tuple, isi_i_list, isi_i_dict, isi_b_bool, isi_b_int, isi_b_str, isi_b_tuple, isi_b_list, isi_b_dict, isi_n_bool, isi_n_int, isi_n_str, isi_n_tuple, isi_n_list, isi_n_dict, isi_L_bool, isi_L_int, isi_L_str, isi_L_tuple, isi_L_list, isi_L_dict, isi_d_bool, isi_d_int, isi_d_str, isi_d_tuple, isi_d_list, isi_d_dict, natlit_eq, Int.reduceNeg, puts, appendR_same, lenR_same, tup1R_same, sz0, sz1, sz2, sz3, sz4, sz5, sz6, sz7, sz8, sz9, sz10, ix_L0, ix_L1, ix_L2, ix_Lbs, dep_nil, dep_cons, dep_tup, dep_lst, dep_str, dep_int, dep_bl, dep_non, dep_strs, dep_ints, dep_app, dep_rules, dep_prog, dep_st, pu_nil, pu_cons, pu_tup, pu_lst, pu_str, pu_int, pu_bl, pu_non, pu_app, pureDs_str, pureDs_int, pu_rule, pu_rules, pu_prog, pu_st, eqv_self, eqvDs_nil, Bool.and_self, Bool.and_true, Bool.true_and, List.length_map, List.length_append, Int.zero_add, Nat.zero_add, cutL_to1, cutL_to2, cutL_to3, cutL_to15, List.take_succ_cons, List.take_zero, List.take_nil, List.drop_succ_cons, List.drop_zero, List.drop_nil, max2R_ii, min2R_ii, cutL_toN, cutL_toS, cutL_fromN, cutL_fromS, List.length_take, List.length_drop, ← List.map_take, ← List.map_drop, ← List.map_append, neR_prog0, eqR_prog0, lenR_prog, rep1, List.length_replicate, Int.toNat_natCast, ofLst_L, sumLR_map, allLR_map, anyLR_map, ofString_beq, ofString_inj, String.reduceBEq, String.reduceEq, decide_true, decide_false, extA_t, extA_L, isSome_same, List.length_reverse, ← List.map_reverse, dYes_e, varI_s, isB_b, isI_i, isLst_r, dgTup_t, dgTup_l, dgCons_e, dgNil_e, negI_i, anyI_t, anyI_s, anyI_L, anyI_r, anyR_s, someI_s, listI_1, joinI_s, isStr_s, zipI_tt, zipI_LL, par2I_2, enumI_t, enumI_L, raiseI_i, catI_s, dputI_s, dputI_i, dlputI_r, dPairs_nil, dPairs_cons, dgetR_s, dgetR_i, getQ_s, getQ_i, isDic, dChain_e, pu_pile, pu_piles, dep_pile, dep_piles, pu_yst, dep_yst, isR_yst, isNotR_yst, isR_st, isNotR_st, lenR_yard, addB_ii, addB_bi, subB_ii, subB_bi, sumLR_nat, inR_natL, inR_natT, pu_nats, dep_nats, eqR_bi, cutL_mid2, cutL_from2S, addB_tt, addB_LL, dSorted_e, sortedI_L, sortedI_r, dLstRg1_e, lstRgI_i, dRepr_e, reprI_1, ix_L3, ix_L4, ix_L5, ix_L6, ix_L7, ix_L8, ix_L9, ix_t5, ix_t6, ix_t7, ix_t8, ix_t9, cutL_from3, cutL_from4, cutL_from5, cutL_from6, cutL_from8, cutL_to4, cutL_to5, cutL_to6, cutL_to8, cutL_to0, sortedI_t, dputTS_e, dDictT_e, dSortedT_e, sortedTI_r, dputTI_2s, dputTI_3s, inT_2s, inT_3s, notInT_2s, notInT_3s, str1R_i, cutL_toM1, cutL_fromM1, List.length_dropLast, sumLR_2, enumI_r, ← List.map_dropLast, dFld_e, dFput_e, dFadd_e, dFadd2_i, dMeth_e, dMake_e, dSetd_e, dSetdT_e, dGet2T_e, dSortSet_e, dSortedK_e]) | (with_reducible refine kgo (by assumption) ?_) | ((with_reducible refine And.intro ?_ ?_); focus (first | with_reducible exact small_line2 (by omega) | with_reducible exact small_lt2 (by omega) | with_reducible exact cmul_sm (by omega) (by omega) (by omega) (by omega) | with_reducible exact cdiv_ok (by decide) (by decide) | with_reducible exact inLine_nat (by omega) | exact ⟨by omega, by omega⟩ | exact ⟨by omega, by omega, by first | omega | exact small_line2 (by decide)⟩ | omega | decide))))
local macro_rules | `(tactic| and_intros) => `(tactic| repeat (first | (with_reducible refine sa fun Nx hNx => ?_) | (simp only [dNext_e, dBreak_e, dCont_e, dDrop_e, dRet_e, dRetN_e, dIfS_e, dAsg_e, dputS_e, dlputS_e, dOp_e, dVar_e, dC_e, dget_zero, dget_succ, dTest_e, dNil_e, dCons_e, dgName_e, dTup_e, dCB_e, dFresh_e, dFrz_e, dFreshD_e, dFrzD_e, dDispD_e, dDisp_e, dBM_e, dBM0_e, dAndV_e, dOrV_e, dNotV_e, dAnd_e, dOr_e, dNot_e, dCall_e, dNeg_e, dIf_e, dFor_e, dSl_e, dPart_e, dNoPart_e, diRng1_e, diRng2_e, diAny_e, dstart, List.set_cons_zero, List.set_cons_succ, List.map_cons, List.map_nil, List.length_cons, List.length_nil, List.cons_append, List.nil_append, Nat.reduceAdd, Nat.reduceSub, Int.reduceAdd, Int.reduceSub, List.replicate, dListOf_e, dJoin_e, dIndex_e, dRev_e, diZip_e, dPar2_e, diEnum_e, dRetX_e, dDropX_e, dAsgX_e, dCallX_e, dConsX_e, dTupX_e, dFrzX_e, dRaise0_e, dRaise1_e, dTryAs_e, dTryOnly_e, dXf_e, asEnds, dLc_e, wipeD, dCat_e, dSlL_e, dGet2_e, dGet1_e, ite_true, ite_false, if_true, if_false, reduceIte, Bool.false_eq_true, Bool.true_eq_false, and_true, true_and, rdL_lst, rdL_ref, rdS_lst, rdS_ref, rdS_tup, rdD_dic, rdD_ref, addR_ii, addR_ib, addR_ss, addR_tt, addR_LL, subR_ii, mulR_ii, mulA_ii, mulA_t, mulA_L, modR_ii, fdivR_ii, powR_ii, ltR_ii, leR_ii, gtR_ii, geR_ii, keyD_s, keyD_i, eqR_ii, eqR_ss, eqR_bb, eqR_tt, eqR_LL, neR_ii, neR_ss, neR_bb, neR_tt, neR_LL, eqM_ii, eqM_ss, eqM_bb, eqM_tt, eqM_LL, okD_i, okD_s, okD_b, okD_n, okD_t, okD_L, deck_at, deck_sum, deck_cells, deck_len, deck_put, dicOf_mup_same, lstOf_mup_same, int1R_b, int1R_i, ix_t0, ix_t1, ix_t2, ix_t3, ix_t4, lenR_t, lenR_s, lenR_L, slR_t, slR_s, slR_L, cutL_from1, cutL_from2, revR_t, revR_L, tup1R_L, tup1R_t, beq_self_eq_true, Bool.not_true, Bool.not_false, Option.isSome_some, List.isEmpty_nil, List.isEmpty_cons, isR_nn, isR_tn, isR_Ln, isR_sn, isR_in, isR_bn, isR_bb, isNotR_nn, isNotR_tn, isNotR_Ln, isNotR_sn, isNotR_in, isNotR_bn, isNotR_bb, isi_t_bool, isi_t_int, isi_t_str, isi_t_tuple, isi_t_list, isi_t_dict, isi_s_bool, isi_s_int, isi_s_str, isi_s_tuple, isi_s_list, isi_s_dict, isi_i_bool, isi_i_int, isi_i_str, isi_i_tuple, isi_i_list, isi_i_dict, isi_b_bool, isi_b_int, isi_b_str, isi_b_tuple, isi_b_list, isi_b_dict, isi_n_bool, isi_n_int, isi_n_str, isi_n_tuple, isi_n_list, isi_n_dict, isi_L_bool, isi_L_int, isi_L_str, isi_L_tuple, isi_L_list, isi_L_dict, isi_d_bool, isi_d_int, isi_d_str, isi_d_tuple, isi_d_list, isi_d_dict, natlit_eq, Int.reduceNeg, puts, appendR_same, lenR_same, tup1R_same, sz0, sz1, sz2, sz3, sz4, sz5, sz6, sz7, sz8, sz9, sz10, ix_L0, ix_L1, ix_L2, ix_Lbs, dep_nil, dep_cons, dep_tup, dep_lst, dep_str, dep_int, dep_bl, dep_non, dep_strs, dep_ints, dep_app, dep_rules, dep_prog, dep_st, pu_nil, pu_cons, pu_tup, pu_lst, pu_str, pu_int, pu_bl, pu_non, pu_app, pureDs_str, pureDs_int, pu_rule, pu_rules, pu_prog, pu_st, eqv_self, eqvDs_nil, Bool.and_self, Bool.and_true, Bool.true_and, List.length_map, List.length_append, Int.zero_add, Nat.zero_add, cutL_to1, cutL_to2, cutL_to3, cutL_to15, List.take_succ_cons, List.take_zero, List.take_nil, List.drop_succ_cons, List.drop_zero, List.drop_nil, max2R_ii, min2R_ii, cutL_toN, cutL_toS, cutL_fromN, cutL_fromS, List.length_take, List.length_drop, ← List.map_take, ← List.map_drop, ← List.map_append, neR_prog0, eqR_prog0, lenR_prog, rep1, List.length_replicate, Int.toNat_natCast, ofLst_L, sumLR_map, allLR_map, anyLR_map, ofString_beq, ofString_inj, String.reduceBEq, String.reduceEq, decide_true, decide_false, extA_t, extA_L, isSome_same, List.length_reverse, ← List.map_reverse, dYes_e, varI_s, isB_b, isI_i, isLst_r, dgTup_t, dgTup_l, dgCons_e, dgNil_e, negI_i, anyI_t, anyI_s, anyI_L, anyI_r, anyR_s, someI_s, listI_1, joinI_s, isStr_s, zipI_tt, zipI_LL, par2I_2, enumI_t, enumI_L, raiseI_i, catI_s, dputI_s, dputI_i, dlputI_r, dPairs_nil, dPairs_cons, dgetR_s, dgetR_i, getQ_s, getQ_i, isDic, dChain_e, pu_pile, pu_piles, dep_pile, dep_piles, pu_yst, dep_yst, isR_yst, isNotR_yst, isR_st, isNotR_st, lenR_yard, addB_ii, addB_bi, subB_ii, subB_bi, sumLR_nat, inR_natL, inR_natT, pu_nats, dep_nats, eqR_bi, cutL_mid2, cutL_from2S, addB_tt, addB_LL, dSorted_e, sortedI_L, sortedI_r, dLstRg1_e, lstRgI_i, dRepr_e, reprI_1, ix_L3, ix_L4, ix_L5, ix_L6, ix_L7, ix_L8, ix_L9, ix_t5, ix_t6, ix_t7, ix_t8, ix_t9, cutL_from3, cutL_from4, cutL_from5, cutL_from6, cutL_from8, cutL_to4, cutL_to5, cutL_to6, cutL_to8, cutL_to0, sortedI_t, dputTS_e, dDictT_e, dSortedT_e, sortedTI_r, dputTI_2s, dputTI_3s, inT_2s, inT_3s, notInT_2s, notInT_3s, str1R_i, cutL_toM1, cutL_fromM1, List.length_dropLast, sumLR_2, enumI_r, ← List.map_dropLast, dFld_e, dFput_e, dFadd_e, dFadd2_i, dMeth_e, dMake_e, dSetd_e, dSetdT_e, dGet2T_e, dSortSet_e, dSortedK_e]) | (with_reducible refine kgo (by assumption) ?_) | ((with_reducible refine And.intro ?_ ?_); focus (first | with_reducible exact small_line2 (by omega) | with_reducible exact small_lt2 (by omega) | with_reducible exact cmul_sm (by omega) (by omega) (by omega) (by omega) | with_reducible exact cdiv_ok (by decide) (by decide) | with_reducible exact inLine_nat (by omega) | exact ⟨by omega, by omega⟩ | exact ⟨by omega, by omega, by first | omega | exact small_line2 (by decide)⟩ | omega | decide))))
local macro_rules | `(tactic| symm_saturate) => `(tactic| repeat ((with_reducible refine And.intro ?_ ?_); focus (first | with_reducible exact small_line2 (by omega) | with_reducible exact small_lt2 (by omega) | with_reducible exact cmul_sm (by omega) (by omega) (by omega) (by omega) | with_reducible exact cdiv_ok (by decide) (by decide) | with_reducible exact inLine_nat (by omega) | exact ⟨by omega, by omega⟩ | exact ⟨by omega, by omega, by first | omega | exact small_line2 (by decide)⟩ | omega | decide)))
def topS (i : Nat) : Stmt := PySem.Challenge.pw_pileruns_k14_piles_read.main.body.getD i (.Pass ⟨0, 0, 0, 0⟩)
abbrev st__law_deck : Stmt := topS 11
abbrev N__law_deck : List Str := ["_law_script", "_law_cells"]
theorem sc__law_deck : FnScope N__law_deck ["_law_script"] (defScope st__law_deck) := ⟨rfl, rfl, rfl, by decide +kernel, rfl, by decide +kernel, by decide +kernel⟩
abbrev st__law_draw : Stmt := topS 12
abbrev N__law_draw : List Str := ["_law_deck_here", "_law_most", "_law_at", "_law_cells", "_law_seed", "_law_number"]
theorem sc__law_draw : FnScope N__law_draw ["_law_deck_here", "_law_most"] (defScope st__law_draw) := ⟨rfl, rfl, rfl, by decide +kernel, rfl, by decide +kernel, by decide +kernel⟩
abbrev st__law_names : Stmt := topS 14
abbrev N__law_names : List Str := ["_law_deck_here", "_law_many", "_law_letters", "_law_signs", "_law_way", "_law_word", "_law_at", "_law_long", "_law_found", "_law_k", "_law_some", "_law_spot", "_law_sign", "_law_left", "_law_turned"]
theorem sc__law_names : FnScope N__law_names ["_law_deck_here", "_law_many"] (defScope st__law_names) := ⟨rfl, rfl, rfl, by decide +kernel, rfl, by decide +kernel, by decide +kernel⟩
abbrev st__law_numbers : Stmt := topS 15
abbrev N__law_numbers : List Str := ["_law_deck_here", "_law_most", "_law_some", "_law_turn"]
theorem sc__law_numbers : FnScope N__law_numbers ["_law_deck_here", "_law_most"] (defScope st__law_numbers) := ⟨rfl, rfl, rfl, by decide +kernel, rfl, by decide +kernel, by decide +kernel⟩
abbrev st__law_pick : Stmt := topS 13
abbrev N__law_pick : List Str := ["_law_deck_here", "_law_some"]
theorem sc__law_pick : FnScope N__law_pick ["_law_deck_here", "_law_some"] (defScope st__law_pick) := ⟨rfl, rfl, rfl, by decide +kernel, rfl, by decide +kernel, by decide +kernel⟩
abbrev st__law_machine : Stmt := topS 16
abbrev N__law_machine : List Str := ["_law_deck_here", "_law_places", "_law_marks", "_law_sort", "_law_most", "_law_great_here", "_law_numbers_here", "_law_states", "_law_goals", "_law_some", "_law_k", "_law_slip", "_law_mark", "_law_ends", "_law_state"]
theorem sc__law_machine : FnScope N__law_machine ["_law_deck_here", "_law_places", "_law_marks", "_law_sort", "_law_most"] (defScope st__law_machine) := ⟨rfl, rfl, rfl, by decide +kernel, rfl, by decide +kernel, by decide +kernel⟩
abbrev st__law_great : Stmt := topS 17
abbrev N__law_great : List Str := ["_law_deck_here", "_law_places", "_law_marks", "_law_numbers_here", "_law_states", "_law_some", "_law_k", "_law_mark", "_law_ends", "_law_state"]
theorem sc__law_great : FnScope N__law_great ["_law_deck_here", "_law_places", "_law_marks"] (defScope st__law_great) := ⟨rfl, rfl, rfl, by decide +kernel, rfl, by decide +kernel, by decide +kernel⟩
abbrev st__law_pile : Stmt := topS 20
abbrev N__law_pile : List Str := ["_law_deck_here", "_law_machine_here", "_law_marks", "_law_state", "_law_way", "_law_long", "_law_pile_here", "_law_tries", "_law_some", "_law_edge"]
theorem sc__law_pile : FnScope N__law_pile ["_law_deck_here", "_law_machine_here", "_law_marks", "_law_state"] (defScope st__law_pile) := ⟨rfl, rfl, rfl, by decide +kernel, rfl, by decide +kernel, by decide +kernel⟩
abbrev st_behind : Stmt := topS 8
abbrev N_behind : List Str := ["program", "stand", "number", "place", "pile", "there", "top", "on", "put"]
theorem sc_behind : FnScope N_behind ["program", "stand", "number"] (defScope st_behind) := ⟨rfl, rfl, rfl, by decide +kernel, rfl, by decide +kernel, by decide +kernel⟩
abbrev st_walked : Stmt := topS 9
abbrev N_walked : List Str := ["program", "stand", "run", "at", "number"]
theorem sc_walked : FnScope N_walked ["program", "stand", "run"] (defScope st_walked) := ⟨rfl, rfl, rfl, by decide +kernel, rfl, by decide +kernel, by decide +kernel⟩
abbrev st_Reader_by : Stmt := memS (topS 1) 1
abbrev N_Reader_by : List Str := ["self", "state", "mark"]
theorem sc_Reader_by : FnScope N_Reader_by ["self", "state", "mark"] (defScope st_Reader_by) := ⟨rfl, rfl, rfl, by decide +kernel, rfl, by decide +kernel, by decide +kernel⟩
abbrev st_Reader_slipped : Stmt := memS (topS 1) 2
abbrev N_Reader_slipped : List Str := ["self", "states", "found", "waiting", "state"]
theorem sc_Reader_slipped : FnScope N_Reader_slipped ["self", "states"] (defScope st_Reader_slipped) := ⟨rfl, rfl, rfl, by decide +kernel, rfl, by decide +kernel, by decide +kernel⟩
abbrev st_Reader_on : Stmt := memS (topS 1) 3
abbrev N_Reader_on : List Str := ["self", "states", "mark", "found", "state"]
theorem sc_Reader_on : FnScope N_Reader_on ["self", "states", "mark"] (defScope st_Reader_on) := ⟨rfl, rfl, rfl, by decide +kernel, rfl, by decide +kernel, by decide +kernel⟩
abbrev st_Reader_read : Stmt := memS (topS 1) 4
abbrev N_Reader_read : List Str := ["self", "state", "pile", "here", "mark"]
theorem sc_Reader_read : FnScope N_Reader_read ["self", "state", "pile"] (defScope st_Reader_read) := ⟨rfl, rfl, rfl, by decide +kernel, rfl, by decide +kernel, by decide +kernel⟩
abbrev st_Reader_init : Stmt := memS (topS 1) 0
abbrev N_Reader_init : List Str := ["self", "edges", "one", "mark", "other"]
theorem sc_Reader_init : FnScope N_Reader_init ["self", "edges"] (defScope st_Reader_init) := ⟨rfl, rfl, rfl, by decide +kernel, rfl, by decide +kernel, by decide +kernel⟩
abbrev st_led_to : Stmt := topS 2
abbrev N_led_to : List Str := ["machine", "state", "pile"]
theorem sc_led_to : FnScope N_led_to ["machine", "state", "pile"] (defScope st_led_to) := ⟨rfl, rfl, rfl, by decide +kernel, rfl, by decide +kernel, by decide +kernel⟩
abbrev st_is_held : Stmt := topS 3
abbrev N_is_held : List Str := ["machine", "stand", "place", "pile", "state"]
theorem sc_is_held : FnScope N_is_held ["machine", "stand"] (defScope st_is_held) := ⟨rfl, rfl, rfl, by decide +kernel, rfl, by decide +kernel, by decide +kernel⟩
abbrev st__law_long_right : Stmt := topS 22
abbrev N__law_long_right : List Str := ["_law_deck_here", "_law_place", "_law_mark", "_law_size", "_law_long", "_law_last", "_law_edges", "_law_machine_here", "_law_stand", "_law_k"]
theorem sc__law_long_right : FnScope N__law_long_right ["_law_deck_here", "_law_place", "_law_mark"] (defScope st__law_long_right) := ⟨rfl, rfl, rfl, by decide +kernel, rfl, by decide +kernel, by decide +kernel⟩
abbrev st__law_slipped : Stmt := topS 18
abbrev N__law_slipped : List Str := ["_law_there", "_law_states", "_law_found", "_law_at", "_law_t"]
theorem sc__law_slipped : FnScope N__law_slipped ["_law_there", "_law_states"] (defScope st__law_slipped) := ⟨rfl, rfl, rfl, by decide +kernel, rfl, by decide +kernel, by decide +kernel⟩
abbrev st__law_read : Stmt := topS 19
abbrev N__law_read : List Str := ["_law_machine_here", "_law_state", "_law_pile_here", "_law_there", "_law_s", "_law_a", "_law_t", "_law_here", "_law_mark", "_law_found", "_law_one"]
theorem sc__law_read : FnScope N__law_read ["_law_machine_here", "_law_state", "_law_pile_here"] (defScope st__law_read) := ⟨rfl, rfl, rfl, by decide +kernel, rfl, by decide +kernel, by decide +kernel⟩
abbrev st__law_right : Stmt := topS 21
abbrev N__law_right : List Str := ["_law_machine_here", "_law_state", "_law_pile_here", "_law_due", "_law_turn", "_law_told"]
theorem sc__law_right : FnScope N__law_right ["_law_machine_here", "_law_state", "_law_pile_here"] (defScope st__law_right) := ⟨rfl, rfl, rfl, by decide +kernel, rfl, by decide +kernel, by decide +kernel⟩
abbrev st_law : Stmt := topS 23
abbrev N_law : List Str := ["_law_script", "_law_deck_here", "_law_sort", "_law_names_here", "_law_places", "_law_marks", "_law_machine_here", "_law_turn", "_law_state", "_law_pile_here", "_law_place", "_law_one", "_law_due", "_law_told", "_law_there"]
theorem sc_law : FnScope N_law ["_law_script"] (defScope st_law) := ⟨rfl, rfl, rfl, by decide +kernel, rfl, by decide +kernel, by decide +kernel⟩
abbrev st_NoRun_init : Stmt := memS (topS 6) 0
theorem sc_NoRun_init : FnScope ["self", "at"] ["self", "at"] (defScope st_NoRun_init) := ⟨rfl, rfl, rfl, by decide +kernel, rfl, by decide +kernel, by decide +kernel⟩
structure Exs (K : PySem.W.Frag) (mg : Str → Option Value) (f_PileError f_NoRun f_NoRun_init : Addr) : Prop where
  c_PileError : ClF K f_PileError
  m_PileError : mg "PileError" = some (.ref f_PileError)
  c_NoRun : ClF K f_NoRun
  m_NoRun : mg "NoRun" = some (.ref f_NoRun)
  s_NoRun_PileError : PySem.W.subIn K (.ref f_NoRun) (.ref f_PileError) = some true
  s_NoRun_NoRun : PySem.W.subIn K (.ref f_NoRun) (.ref f_NoRun) = some true
  o_NoRun : OexC K f_NoRun
  i_NoRun : PySem.W.findIn K (.ref f_NoRun) "__init__" = some (some (.ref f_NoRun_init))
  ti_NoRun : PySem.W.typeIn K (.ref f_NoRun_init) = some (.type "function")
  n_NoRun : PySem.W.findIn K (.ref f_NoRun) "at" = some none
  b1_PileError : PySem.W.specialIn K (.ref f_PileError) "__getattribute__" = some (some (.builtin "type.__getattribute__"))
  b2_PileError : PySem.W.readsIn K f_PileError (.type "type") = true
  b3_PileError : PySem.W.findCls K (.ref f_PileError) (.type "type") "__init__" = some (.val (.builtin "ValueError.__init__"))
structure Owns (K : PySem.W.Frag) (mg : Str → Option Value) (f_Reader f_Reader_by f_Reader_slipped f_Reader_on f_Reader_read f_Reader_init : Addr) : Prop where
  c_Reader : L2.Cls K f_Reader
  m_Reader : mg "Reader" = some (.ref f_Reader)
  n_Reader_leads : NoAttr K f_Reader "leads"
  t_Reader_by : Meth K f_Reader "by" f_Reader_by
  t_Reader_slipped : Meth K f_Reader "slipped" f_Reader_slipped
  t_Reader_on : Meth K f_Reader "on" f_Reader_on
  t_Reader_read : Meth K f_Reader "read" f_Reader_read
  k_Reader : Mk K f_Reader f_Reader_init
section
variable {P : Program} {w : World} {K : PySem.W.Frag} {mg : Str → Option Value} {base : Heap}
theorem ok_NoRun_init {f_PileError f_NoRun f_NoRun_init : Addr} {fd : FuncData} (F : Fun K "__init__" "NoRun.__init__" st_NoRun_init f_NoRun_init fd) (TX : Exs K mg f_PileError f_NoRun f_NoRun_init) (z_str : mg "str" = none) : FnOk P w K mg base CX0 1 f_NoRun_init fd ["self", "at"] (spInit f_NoRun "at") := by
  refine ok_init F sc_NoRun_init TX.o_NoRun TX.n_NoRun (tStrI_ok (z := "no run, at ") (by decide)) fun cdv A outer s H E => ?_
  exact pss_cons (ps_expr (pe_binit (by rfl) TX.m_PileError TX.b1_PileError TX.b2_PileError TX.b3_PileError (pa_cons (pv 0) (pa_cons (pe_op op_add_str pe_str (pe_callTy call_str_int (by rfl) z_str PyProof.Rows.boot_str (pa_cons (pv 1) pa_nil))) pa_nil)))) (pss_one (ps_ost (pv 0) (pv 1)))
theorem draw_small {a : Int} (h0 : 0 ≤ a) (h1 : a ≤ 2 ^ 61) : a.natAbs < 2 ^ 62 := by omega
theorem draw_mod (a : Int) {m : Int} (h0 : 0 < m) (h1 : m ≤ 2 ^ 62) : (a % m).natAbs < 2 ^ 62 := by
  have := Int.emod_nonneg a (by omega : m ≠ 0)
  have := Int.emod_lt_of_pos a h0
  omega
theorem draw_tail {t most : Int} (t0 : 0 ≤ t) (t1 : t ≤ 2 ^ 61) (m0 : 0 < most) (m1 : most ≤ 2 ^ 62) (seed : Int) {Q : Int → Prop} (h : ∀ n, 0 ≤ n → n < most → Q n) :
    (0 : Int) < 2147483647 ∧ CMulW (seed % 2147483647) 48271 ∧ CMulW 69621 t ∧ CMulW (69621 * t) t ∧ (0 : Int) < 2147483629 ∧
      CMulW ((seed % 2147483647 * 48271 + 69621 * t * t + 7919) % 2147483629) ((seed % 2147483647 * 48271 + 69621 * t * t + 7919) % 2147483629) ∧ (0 : Int) < 2147483587 ∧
      CMulW ((seed % 2147483647 * 48271 + 69621 * t * t + 7919) % 2147483629 * ((seed % 2147483647 * 48271 + 69621 * t * t + 7919) % 2147483629) % 2147483587)
        ((seed % 2147483647 * 48271 + 69621 * t * t + 7919) % 2147483629 * ((seed % 2147483647 * 48271 + 69621 * t * t + 7919) % 2147483629) % 2147483587 + 39373) ∧ (0 : Int) < 2147483563 ∧
      CDivW ((seed % 2147483647 * 48271 + 69621 * t * t + 7919) % 2147483629 * ((seed % 2147483647 * 48271 + 69621 * t * t + 7919) % 2147483629) % 2147483587 *
        ((seed % 2147483647 * 48271 + 69621 * t * t + 7919) % 2147483629 * ((seed % 2147483647 * 48271 + 69621 * t * t + 7919) % 2147483629) % 2147483587 + 39373) % 2147483563) 64 ∧ 0 < most ∧
      Q ((seed % 2147483647 * 48271 + 69621 * t * t + 7919) % 2147483629 * ((seed % 2147483647 * 48271 + 69621 * t * t + 7919) % 2147483629) % 2147483587 *
        ((seed % 2147483647 * 48271 + 69621 * t * t + 7919) % 2147483629 * ((seed % 2147483647 * 48271 + 69621 * t * t + 7919) % 2147483629) % 2147483587 + 39373) % 2147483563 / 64 % most) := by
  have b1 := draw_mod seed (m := 2147483647) (by decide) (by decide)
  have bt : t.natAbs < 2 ^ 62 := draw_small t0 t1
  have b2 : (69621 * t).natAbs < 2 ^ (62 + 62) := nabs_mul (by decide) bt
  generalize seed % 2147483647 * 48271 + 69621 * t * t + 7919 = u
  have b3 := draw_mod u (m := 2147483629) (by decide) (by decide)
  generalize u % 2147483629 = v at *
  have b4 := draw_mod (v * v) (m := 2147483587) (by decide) (by decide)
  have b5 : (v * v % 2147483587 + 39373).natAbs < 2 ^ 63 := by
    have := Int.emod_nonneg (v * v) (by decide : (2147483587 : Int) ≠ 0)
    have := Int.emod_lt_of_pos (v * v) (by decide : (0 : Int) < 2147483587)
    omega
  refine ⟨by decide, cmul_ok (nabs_up b1 (by decide)) (by decide), cmul_ok (by decide) (nabs_up bt (by decide)), cmul_ok (nabs_up b2 (by decide)) (nabs_up bt (by decide)), by decide, cmul_ok (nabs_up b3 (by decide)) (nabs_up b3 (by decide)), by decide,
    cmul_ok (nabs_up b4 (by decide)) (nabs_up b5 (by decide)), by decide, cdiv_ok (by decide) (by decide), m0, h _ (Int.emod_nonneg _ (by omega)) (Int.emod_lt_of_pos _ m0)⟩
/-- a draw: some number below most; one draw less is left -/
def sp__law_draw : DSp := fun ds M R => ∃ (d : Addr) (most : Int), ds = [.ref d, .int most] ∧ ∃ c r, Deck M d c (r + 1) ∧ (0 < most ∧ most ≤ 2 ^ 62) ∧ ∀ n M', 0 ≤ n → n < most → Deck M' d c r → Upto d c M M' → R (.int n) M'
theorem draw_go {M : Mm} {d c : Addr} {r : Nat} {most : Int} {R : DQ} (D0 : Deck M d c (r + 1)) (h0 : 0 < most) (h1 : most ≤ 2 ^ 62) (k : ∀ n M', 0 ≤ n → n < most → Deck M' d c r → Upto d c M M' → R (.int n) M') : sp__law_draw [.ref d, .int most] M R := ⟨d, most, rfl, c, r, D0, ⟨h0, h1⟩, k⟩
theorem draw_B {M M0 : Mm} {d c : Addr} {n : Nat} {L : List (Addr × MO)} {most : Int} {R : DQ} (b : Bx d c n M0 L M) (hn : 1 ≤ n) (h0 : 0 < most) (h1 : most ≤ 2 ^ 62) (k : ∀ i M', 0 ≤ i → i < most → Bx d c (n - 1) M0 L M' → R (.int i) M') : sp__law_draw [.ref d, .int most] M R :=
  draw_go (r := n - 1) (b.dk.mono (by omega)) h0 h1 fun i M' h0 h1 D U => k i M' h0 h1 (b.call D U)
theorem ok__law_draw {f__law_draw : Addr} {fd__law_draw : FuncData} (F__law_draw : Fun K "_law_draw" "_law_draw" st__law_draw f__law_draw fd__law_draw) : FnOk P w K mg base CX0 1 f__law_draw fd__law_draw ["_law_deck_here", "_law_most"] (toSp K sp__law_draw) := by
  refine fn_ok (k := 0) F__law_draw sc__law_draw (fun ds M R h => ?_) (fun cdv A outer s H E hr => ⟨_, (jb_cons (js_dput hr (jv 0) je_str (je_add (je_dget hr (jv 0) je_str) je_int))
      (jb_cons (js_set (i := 2) sc__law_draw.nd (je_dget hr (jv 0) je_str))
      (jb_cons (js_set (i := 3) sc__law_draw.nd (je_dget hr (jv 0) je_str))
      (jb_cons (js_set (i := 4) sc__law_draw.nd (je_add (je_dget hr (jv 0) je_str) (jv 2)))
      (jb_cons (js_if (jt_ne hr (jv 3) (je_frz (jl_disp ja_nil))) (jb_cons (js_set (i := 4) sc__law_draw.nd (je_popAt (jv 3) je_int)) (jb_one (js_if (jt_ge (jv 4) (je_pow je_int je_int)) (jb_cons (js_expr (je_insert (jv 3) je_int (je_fdiv (jv 4) (jv 1)))) (jb_one (js_ret (je_mod (jv 4) (jv 1))))) jb_nil))) jb_nil)
      (jb_cons (js_set (i := 5) sc__law_draw.nd (je_mod (je_add (je_add (je_mul (je_mod (jv 4) je_int) je_int) (je_mul (je_mul je_int (jv 2)) (jv 2))) je_int) je_int))
      (jb_cons (js_set (i := 5) sc__law_draw.nd (je_mod (je_mul (jv 5) (jv 5)) je_int))
      (jb_one (js_ret (je_mod (je_fdiv (je_mod (je_mul (jv 5) (je_add (jv 5) je_int)) je_int) je_int) (jv 1))))))))))), fun ds M R h => ?_⟩)
  · unfold sp__law_draw at h
    first | (obtain ⟨rfl, _⟩ := h; rfl) | (obtain ⟨_, rfl, _⟩ := h; rfl) | (obtain ⟨_, _, rfl, _⟩ := h; rfl) | (obtain ⟨_, _, _, rfl, _⟩ := h; rfl) | (obtain ⟨_, _, _, _, rfl, _⟩ := h; rfl) | (obtain ⟨_, _, _, _, _, rfl, _⟩ := h; rfl) | (obtain ⟨_, _, _, _, _, _, rfl, _⟩ := h; rfl) | (obtain ⟨_, _, _, _, _, _, _, rfl, _⟩ := h; rfl) | (obtain ⟨_, _, _, _, _, _, _, _, rfl, _⟩ := h; rfl) | (split at h <;> first | rfl | exact h.elim)
  · unfold sp__law_draw at h
    obtain ⟨d, most, rfl, c, r, ⟨hdc, ⟨cs, at_, sm⟩, ⟨o1, o2, o3⟩, e1, e2⟩, ⟨hm0, hm1⟩, k⟩ := h
    simp only at o1 o2 o3 e1 e2
    have hcd := hdc.symm
    have f1 := dicOf_some e1
    dsimp? only [N__law_draw, f1]
    refine ⟨by decide, by decide, ?_⟩
    have g1 : lstOf (mup M d (.dic (deckD c ⟨cs, at_ + 1, sm⟩))) c = some (cs.map D.int) := by
      rw [lstOf_mup_ne hcd]
      exact lstOf_some e2
    refine ne_nil_l g1 (pureDs_int _) (Nat.le_trans (depDs_int _) (by decide)) ?_
    dsimp? only [g1]
    have t0 : 0 ≤ at_ + 1 := by omega
    have t1 : at_ + 1 ≤ 2 ^ 61 := by omega
    have t2 : at_ + 1 + (r : Int) ≤ 2 ^ 60 := by omega
    -- the answer, the deck's cells being cs'
    have fin : ∀ (cs' : List Int) (M1 : Mm), cs'.length ≤ 63 → (∀ a, a ≠ d → a ≠ c → M1 a = M a) → M1 d = some (.dic (deckD c ⟨cs, at_ + 1, sm⟩)) → M1 c = some (.lst (cs'.map D.int)) → ∀ n, 0 ≤ n → n < most → Shr R (.int n) M1 := by
      intro cs' M1 hl hM h1 h2 n n0 n1
      exact Shr.all (k n _ n0 n1 ⟨hdc, ⟨cs', at_ + 1, sm⟩, ⟨hl, t0, t2⟩, h1, h2⟩ hM)
    cases cs with
    | nil =>
      dsimp? only [List.map_nil, List.isEmpty_nil, Bool.not_true]
      refine draw_tail t0 t1 hm0 hm1 _ fun n n0 n1 => fin [] _ (by decide) (fun a h1 h2 => ?_) ?_ ?_ n n0 n1
      · rw [mup_ne h1]
      · rw [mup_same]
      · rw [mup_ne hcd]; exact e2
    | cons z zs =>
      rw [List.map_cons] at g1
      dsimp? only [List.map_cons, List.isEmpty_cons, Bool.not_false, popAtR, g1]
      refine ⟨⟨by decide, by decide⟩, ?_⟩
      dsimp? only [Int.toNat_zero, List.getElem?_cons_zero, List.eraseIdx_cons_zero, insertR]
      refine ⟨⟨by decide, by decide, by decide⟩, ?_⟩
      have o1' : zs.length ≤ 62 := by simpa using o1
      split
      · refine ⟨cdiv_ok hm0 (by omega), ⟨?_, by decide, by decide⟩, hm0, ?_⟩
        · rw [List.length_map]
          exact Nat.lt_of_le_of_lt o1' (by decide)
        · refine fin (z / most :: zs) _ (by simpa using o1') (fun a h1 h2 => ?_) ?_ ?_ _ (Int.emod_nonneg _ (by omega)) (Int.emod_lt_of_pos _ hm0)
          · rw [mup_ne h2, mup_ne h2, mup_ne h1]
          · rw [mup_ne hdc, mup_ne hdc, mup_same]
          · rw [mup_same]
            rfl
      · refine draw_tail t0 t1 hm0 hm1 _ fun n n0 n1 => fin zs _ (by omega) (fun a h1 h2 => ?_) ?_ ?_ n n0 n1
        · rw [mup_ne h2, mup_ne h1]
        · rw [mup_ne hdc, mup_same]
        · rw [mup_same]
/-- names: so many -/
def sp__law_names : DSp := fun ds M R => ∃ (d : Addr) (many : Nat), ds = [.ref d, .int many] ∧ many ≤ 26 ∧ ∃ c r, Deck M d c (r + 100) ∧
  ∀ (ns : List Str) M', ns.length = many → (∀ n ∈ ns, NameS n) → Deck M' d c r → Upto d c M M' → R (.lst (ns.map D.str)) M'
theorem names_go {M : Mm} {d c : Addr} {r many : Nat} {R : DQ} (D0 : Deck M d c (r + 100)) (hm : many ≤ 26) (k : ∀ (ns : List Str) M', ns.length = many → (∀ n ∈ ns, NameS n) → Deck M' d c r → Upto d c M M' → R (.lst (ns.map D.str)) M') : sp__law_names [.ref d, .int many] M R := ⟨d, many, rfl, hm, c, r, D0, k⟩
theorem ok__law_names {f__law_names f__law_draw : Addr} {fd__law_names fd__law_draw : FuncData} (F__law_names : Fun K "_law_names" "_law_names" st__law_names f__law_names fd__law_names) (G__law_draw : FnOk P w K mg base CX0 1 f__law_draw fd__law_draw ["_law_deck_here", "_law_most"] (toSp K sp__law_draw)) (g__law_draw : mg "_law_draw" = some (.ref f__law_draw)) (k__law_draw : PySem.W.keepIn K (.ref f__law_draw) = true) (b__law_draw : Binds K fd__law_draw ["_law_deck_here", "_law_most"] []) (z_range : mg "range" = none) (z_int : mg "int" = none) (z_len : mg "len" = none) (z_list : mg "list" = none) : FnOk P w K mg base CX0 2 f__law_names fd__law_names ["_law_deck_here", "_law_many"] (toSp K sp__law_names) := by
  refine fn_ok (k := 1) F__law_names sc__law_names (fun ds M R h => ?_) (fun cdv A outer s H E hr => ⟨_, (jb_cons (js_set (i := 2) sc__law_names.nd je_str)
      (jb_cons (js_set (i := 3) sc__law_names.nd (je_add (jv 2) je_str))
      (jb_cons (js_set (i := 4) sc__law_names.nd (je_call G__law_draw (hr.mono (by decide)) (by rfl) g__law_draw k__law_draw b__law_draw (ja_cons (jv 0) (ja_cons je_int ja_nil))))
      (jb_cons (js_set (i := 5) sc__law_names.nd (je_add (je_ix (jv 2) (je_call G__law_draw (hr.mono (by decide)) (by rfl) g__law_draw k__law_draw b__law_draw (ja_cons (jv 0) (ja_cons je_int ja_nil)))) (je_join je_str (je_frz (jl_lc rfl sc__law_names.nd (jlc (ji_rng1 (by rfl) z_range je_int) (blkOk_by (own := [("_law_k", 9)]) (N := N__law_names) (sc := defScope st__law_names) (by decide +kernel)) (fun _ _ _ _ _ => (jgv_name (i := 9) sc__law_names.nd (by decide))) (fun _ _ _ _ _ => jts_nil) (fun _ _ _ _ _ => (je_ix (jv 3) (je_call G__law_draw (hr.mono (by decide)) (by rfl) g__law_draw k__law_draw b__law_draw (ja_cons (jv 0) (ja_cons je_int ja_nil)))))))))))
      (jb_cons (js_set (i := 6) sc__law_names.nd (je_call G__law_draw (hr.mono (by decide)) (by rfl) g__law_draw k__law_draw b__law_draw (ja_cons (jv 0) (ja_cons je_int ja_nil))))
      (jb_cons (js_set (i := 7) sc__law_names.nd (je_ix (je_frz (jl_disp (ja_cons (je_add je_int (je_call G__law_draw (hr.mono (by decide)) (by rfl) g__law_draw k__law_draw b__law_draw (ja_cons (jv 0) (ja_cons je_int ja_nil)))) (ja_cons (je_add (je_add (jv 6) je_int) (je_call G__law_draw (hr.mono (by decide)) (by rfl) g__law_draw k__law_draw b__law_draw (ja_cons (jv 0) (ja_cons (je_sub je_int (jv 6)) ja_nil)))) ja_nil)))) (je_int1 z_int (ja_cons (je_eq hr (jv 4) je_int) ja_nil))))
      (jb_cons (js_set (i := 8) sc__law_names.nd (je_fresh (jl_disp ja_nil)))
      (jb_cons (js_for PassesOwn.never rfl (ji_rng1 (by rfl) z_range (jv 1)) (jg_name (i := 9) sc__law_names.nd) (jb_one (js_if (JW.jt (jw_and (jt_eq hr (jv 4) je_int) (jw_and1 (jt_lt (jv 1) je_int)))) (jb_one (js_expr (je_append (jv 8) (je_slice (jv 5) jo_none (jo_some (je_add (jv 9) je_int)))))) (jb_cons (js_set (i := 10) sc__law_names.nd (je_ix (je_frz (jl_disp (ja_cons (jv 2) (ja_cons (jv 3) ja_nil)))) (je_int1 z_int (ja_cons (je_gt (jv 6) je_int) ja_nil)))) (jb_cons (js_set (i := 11) sc__law_names.nd (je_ix (je_frz (jl_disp (ja_cons je_int (ja_cons (jv 6) ja_nil)))) (je_int1 z_int (ja_cons (je_eq hr (jv 4) je_int) ja_nil)))) (jb_cons (js_set (i := 12) sc__law_names.nd (je_ix (jv 2) (je_mod (je_add (je_sindex (jv 2) (je_ix (jv 5) je_int)) (jv 9)) je_int))) (jb_cons (js_if (jt_gt (jv 11) je_int) (jb_one (js_set (i := 12) sc__law_names.nd (je_ix (jv 10) (je_mod (je_add (je_sindex (jv 10) (je_ix (jv 5) (jv 11))) (jv 9)) (je_len z_len (ja_cons (jv 10) ja_nil)))))) jb_nil) (jb_one (js_expr (je_append (jv 8) (je_add (je_add (je_slice (jv 5) jo_none (jo_some (jv 11))) (jv 12)) (je_slice (jv 5) (jo_some (je_add (jv 11) je_int)) (jo_some (jv 7))))))))))))))
      (jb_cons (js_set (i := 13) sc__law_names.nd (je_fresh (jl_list z_list (ja_cons (jv 8) ja_nil))))
      (jb_cons (js_set (i := 14) sc__law_names.nd (je_fresh (jl_disp ja_nil)))
      (jb_cons (js_while PassesOwn.never (jt_ne hr (jv 13) (je_frz (jl_disp ja_nil))) (jb_one (js_expr (je_append (jv 14) (je_popAt (jv 13) (je_call G__law_draw (hr.mono (by decide)) (by rfl) g__law_draw k__law_draw b__law_draw (ja_cons (jv 0) (ja_cons (je_len z_len (ja_cons (jv 13) ja_nil)) ja_nil))))))))
      (jb_one (js_ret (jv 14)))))))))))))), fun ds M R h => ?_⟩)
  · unfold sp__law_names at h
    first | (obtain ⟨rfl, _⟩ := h; rfl) | (obtain ⟨_, rfl, _⟩ := h; rfl) | (obtain ⟨_, _, rfl, _⟩ := h; rfl) | (obtain ⟨_, _, _, rfl, _⟩ := h; rfl) | (obtain ⟨_, _, _, _, rfl, _⟩ := h; rfl) | (obtain ⟨_, _, _, _, _, rfl, _⟩ := h; rfl) | (obtain ⟨_, _, _, _, _, _, rfl, _⟩ := h; rfl) | (obtain ⟨_, _, _, _, _, _, _, rfl, _⟩ := h; rfl) | (obtain ⟨_, _, _, _, _, _, _, _, rfl, _⟩ := h; rfl) | (split at h <;> first | rfl | exact h.elim)
  · unfold sp__law_names at h
    obtain ⟨d, many, rfl, hm, c, r, D0, k⟩ := h
    dsimp? only [N__law_names]
    refine ⟨by decide +kernel, ?_⟩
    refine draw_go (r := r + 99) (D0.mono (by omega)) (by decide) (by decide) fun way M1 w0 w1 D1 U1 => ?_
    refine draw_go (r := r + 98) D1 (by decide) (by decide) fun i0 M2 a2 b2 D2 U2 => ?_
    obtain ⟨c0, hc0, mc0⟩ := lets_get (j := i0.toNat) (by omega)
    refine ix_s a2 (by rw [cps_lets]; exact hc0) (by decide +kernel) ⟨by decide, ?_⟩
    refine lcW_deck (d := d) (c := c) (r := r + 91) 1 (fun y => ∃ c, c ∈ sgns ∧ y = .str ⟨#[c]⟩) (by decide) (D2.mono (by simp [rangeD])) (fun _ _ => trivial) (fun x hx r' M3 N F D3 U3 hN => ?_) (fun ys M3 hl hP D3 U3 => ?_)
    · simp? only [dYes]
      refine draw_go D3 (by decide) (by decide) fun n M4 a4 b4 D4 U4 => ?_
      obtain ⟨e, he, me⟩ := sgns_get (j := n.toNat) (by omega)
      exact ix_s a4 (by rw [cps_sgns]; exact he) (by decide +kernel) (hN _ _ ⟨e, me, rfl⟩ D4 (U3.trans U4))
    · obtain ⟨cs, rfl, hcs, hlen⟩ := all_map (fun c => D.str ⟨#[c]⟩) (· ∈ sgns) hP
      have hcl : cs.length = 7 := by rw [hlen, hl]; simp [rangeD]
      refine joinQ_map (fun c => (⟨#[c]⟩ : Str)) (by rw [sum_ones]; simp [hcl]; decide +kernel) ?_
      obtain ⟨w, hw, ew⟩ : ∃ w : Str, cps w = c0 :: cs ∧ w = (⟨#[c0]⟩ : Str) ++ Txt.join ("" : Str) (cs.map fun c => (⟨#[c]⟩ : Str)) := ⟨_, by rw [cps_append, cps_one, join_signs]; rfl, rfl⟩
      dsimp? only []
      rw [← ew]
      refine ⟨?_, ?_⟩
      · rw [cps_len, cps_len, join_signs, hcl]; show 1 + 7 ≤ sizeLine; decide +kernel
      refine draw_go (r := r + 90) D3 (by decide) (by decide) fun at_ M4 at0 at1 D4 U4 => ?_
      refine draw_go (r := r + 89) D4 (by decide) (by decide) fun l1 M5 a5 b5 D5 U5 => ?_
      try dsimp? only []
      refine draw_go (r := r + 88) (most := 8 - at_) D5 (by omega) (by omega) fun l2 M6 a6 b6 D6 U6 => ?_
      try dsimp? only []
      refine ⟨by decide, ?_⟩
      refine ix_Lb ⟨by decide, fun p hp => ⟨inLine_nat (by omega), ?_⟩⟩
      have U06 : Upto d c M M6 := U1.trans <| U2.trans <| U3.trans (U4.trans (U5.trans U6))
      have hpd := D6.nd hp
      have hpc := D6.nc hp
      have hp0 : M p = none := U06.fresh D6 hp
      have hwl : w.length ≤ sizeLine := len_le hw (by simp [hcl])
      obtain ⟨long, hlong, hl1, hl8⟩ : ∃ long : Nat, (if (way == 1) = true then D.int (at_ + 1 + l2) else D.int (1 + l1)) = .int (long : Int) ∧ 1 ≤ long ∧ long ≤ 8 ∧ (way = 1 → at_ < long) := by
        split
        · exact ⟨(at_ + 1 + l2).toNat, by congr 1; omega, by omega, by omega, fun _ => by omega⟩
        · rename_i hw
          exact ⟨(1 + l1).toNat, by congr 1; omega, by omega, by omega, fun e => by simp [e] at hw⟩
      rw [hlong, Int.toNat_natCast]
      refine forW_rng (fun i ds M' => ∃ (ns : List Str) (x9 x10 x11 x12 : Option D), ds = [some (D.ref d), some (D.int many), some (D.str (Str.ofString "abcdefghijklmnopqrstuvwxyz")), some (D.str (Str.ofString "abcdefghijklmnopqrstuvwxyz" ++ Str.ofString "0123456789")),
          some (D.int way), some (D.str w), some (D.int at_), some (.int (long : Int)), some (D.ref p), x9, x10, x11, x12, none, none] ∧ ns.length = i ∧ i ≤ many ∧ (∀ n ∈ ns, NameS n) ∧ lstOf M' p = some (ns.map D.str) ∧ Ext d c M M' ∧ Deck M' d c (r + 88))
        (fun i N hi hN ds M' hI => ?_) (fun ds M' hI => ?_) _ _ ⟨[], none, none, none, none, rfl, rfl, Nat.zero_le _, by simp, lstOf_mup_same, (U06.ext).new hp, D6.up hp⟩
      · obtain ⟨ns, x9, x10, x11, x12, rfl, hnl, hi2, hns, hL, hX, hD⟩ := hI
        have fin : ∀ (z : Str) (y9 y10 y11 y12 : Option D), NameS z → isLst (.ref p) M' ∧ appendR (.ref p) [.str z] M' fun _ M1 => N [some (D.ref d), some (D.int many), some (D.str (Str.ofString "abcdefghijklmnopqrstuvwxyz")), some (D.str (Str.ofString "abcdefghijklmnopqrstuvwxyz" ++ Str.ofString "0123456789")),
            some (D.int way), some (D.str w), some (D.int at_), some (.int (long : Int)), some (D.ref p), y9, y10, y11, y12, none, none] M1 := by
          intro z y9 y10 y11 y12 hz
          refine ⟨by simp [isLst, hL], append_go hL (by rw [List.length_map]; exact small_ltline (by omega)) (hN _ _ ⟨ns ++ [z], y9, y10, y11, y12, rfl, by simp [hnl], by omega, fun n hn => ?_, by rw [lstOf_mup_same]; simp, hX.put hp0, hD.keep hpd hpc⟩)⟩
          rcases List.mem_append.mp hn with hn | hn
          · exact hns n hn
          · rw [List.mem_singleton.mp hn]; exact hz
        have hmem : ∀ x ∈ c0 :: cs, x ∈ sgns := fun x hx => by
          rcases List.mem_cons.mp hx with rfl | hx
          · exact lets_sgns mc0
          · exact hcs x hx
        try simp? only []
        refine ifs2 (fun _ hm9 => ?_) (fun _ => ?_)
        · obtain ⟨f1, f2⟩ := fin (cutS w none (some (0 + (i : Int) + 1))) _ _ _ _ (by show NameL _; rw [cut_nat, hw]; exact name_take mc0 hcs (by omega) i)
          exact ⟨by simp [hL], hwl, f2⟩
        · try dsimp? only []
          refine ⟨by decide, ix_Lb ?_⟩
          obtain ⟨some_, hsome⟩ : ∃ z : D, z = (if decide (0 < at_) = true then D.str (Str.ofString "abcdefghijklmnopqrstuvwxyz" ++ Str.ofString "0123456789") else D.str (Str.ofString "abcdefghijklmnopqrstuvwxyz")) := ⟨_, rfl⟩
          rw [← hsome]
          refine ⟨by decide, ix_Lb ?_⟩
          obtain ⟨spot, hspot, hs7, hs8⟩ : ∃ spot : Nat, (if (way == 1) = true then D.int at_ else D.int 0) = .int (spot : Int) ∧ spot ≤ 7 ∧ (0 < spot → way = 1 ∧ at_ = spot) := by
            split
            · rename_i hw
              exact ⟨at_.toNat, by congr 1; omega, by omega, fun _ => ⟨by simpa using hw, by omega⟩⟩
            · exact ⟨0, rfl, by omega, by omega⟩
          rw [hspot]
          refine ix_s (c := c0) (by decide) (by rw [hw]; rfl) hwl ?_
          refine index_lets mc0 fun j hj => ?_
          try dsimp? only []
          refine ⟨by decide, ?_⟩
          obtain ⟨c1, hc1, mc1⟩ := lets_get (j := (((j : Int) + (0 + (i : Int))) % 26).toNat) (by omega)
          refine ix_s (by omega) (by rw [cps_lets]; exact hc1) (by decide +kernel) ?_
          try dsimp? only []
          -- what is put
          have fin2 : ∀ (e : Nat) (y9 y10 y11 y12 : Option D), e ∈ sgns → (spot = 0 → e ∈ lets) → (lstOf M' p).isSome = true ∧ w.length ≤ sizeLine ∧ (cutS w none (some (spot : Int))).length + (⟨#[e]⟩ : Str).length ≤ sizeLine ∧ w.length ≤ sizeLine ∧
              (cutS w none (some (spot : Int)) ++ (⟨#[e]⟩ : Str)).length + (cutS w (some ((spot : Int) + 1)) (some (long : Int))).length ≤ sizeLine ∧
              appendR (.ref p) [.str (cutS w none (some (spot : Int)) ++ (⟨#[e]⟩ : Str) ++ cutS w (some ((spot : Int) + 1)) (some (long : Int)))] M' fun _ M1 => N [some (D.ref d), some (D.int many), some (D.str (Str.ofString "abcdefghijklmnopqrstuvwxyz")), some (D.str (Str.ofString "abcdefghijklmnopqrstuvwxyz" ++ Str.ofString "0123456789")),
            some (D.int way), some (D.str w), some (D.int at_), some (.int (long : Int)), some (D.ref p), y9, y10, y11, y12, none, none] M1 := by
            intro e y9 y10 y11 y12 me ml
            have e1 : cps (cutS w none (some (spot : Int))) = (c0 :: cs).take spot := by rw [cps_cut, hw, cutL_to]
            have e2 : cps (cutS w (some ((spot : Int) + 1)) (some (long : Int))) = ((c0 :: cs).drop (spot + 1)).take (long - (spot + 1)) := by rw [cps_cut, hw, show (spot : Int) + 1 = ((spot + 1 : Nat) : Int) by omega, cutL_mid]
            have e3 : cps (cutS w none (some (spot : Int)) ++ (⟨#[e]⟩ : Str)) = (c0 :: cs).take spot ++ [e] := by rw [cps_append, e1, cps_one]
            refine ⟨by simp [hL], hwl, ?_, hwl, ?_, ?_⟩
            · rw [cps_len, cps_len, e1, cps_one]; exact small_line (by simp only [List.length_take, List.length_cons, List.length_nil]; omega)
            · rw [cps_len, cps_len, e3, e2]; exact small_line (by simp only [List.length_append, List.length_take, List.length_drop, List.length_cons, List.length_nil]; omega)
            · refine (fin _ _ _ _ _ ?_).2
              show NameL _
              rw [cps_append, e3, e2]
              have hlen : ((c0 :: cs).take spot ++ [e] ++ ((c0 :: cs).drop (spot + 1)).take (long - (spot + 1))).length ≤ 8 := by
                simp only [List.length_append, List.length_take, List.length_drop, List.length_cons, List.length_nil]; omega
              refine ⟨?_, fun x hx => ?_, hlen⟩
              · cases spot with
                | zero => exact ⟨e, _, rfl, ml rfl⟩
                | succ s => exact ⟨c0, _, rfl, mc0⟩
              · rcases List.mem_append.mp hx with hx | hx
                · rcases List.mem_append.mp hx with hx | hx
                  · exact hmem x (List.mem_of_mem_take hx)
                  · rw [List.mem_singleton.mp hx]; exact me
                · exact hmem x (List.mem_of_mem_drop (List.mem_of_mem_take hx))
          refine ifs (fun h0 => ?_) (fun h0 => ?_)
          · have h0 : 0 < spot := by simpa using h0
            obtain ⟨hw1, hat⟩ := hs8 h0
            have hsg : some_ = D.str (Str.ofString "abcdefghijklmnopqrstuvwxyz" ++ Str.ofString "0123456789") := by rw [hsome, if_pos (by simp; omega)]
            clear hsome
            subst hsg
            obtain ⟨e, he, me⟩ : ∃ e, (c0 :: cs)[spot]? = some e ∧ e ∈ sgns := by
              have : spot < (c0 :: cs).length := by simp [hcl]; omega
              exact ⟨_, List.getElem?_eq_getElem this, hmem _ (List.getElem_mem _)⟩
            refine ⟨trivial, ix_s (c := e) (by omega) (by rw [hw]; simpa using he) hwl ?_⟩
            refine index_sgns me fun j2 hj2 => ?_
            try dsimp? only []
            refine ⟨by decide +kernel, ?_⟩
            rw [show ((Str.ofString "abcdefghijklmnopqrstuvwxyz" ++ Str.ofString "0123456789").length : Int) = 36 by decide +kernel]
            obtain ⟨c2, hc2, mc2⟩ := sgns_get (j := (((j2 : Int) + (0 + (i : Int))) % 36).toNat) (by omega)
            refine ⟨by decide, ix_s (by omega) (by rw [cps_sgns]; exact hc2) (by decide +kernel) ?_⟩
            exact fin2 c2 _ _ _ _ mc2 (by omega)
          · exact fin2 c1 _ _ _ _ (lets_sgns mc1) (fun _ => mc1)
      · obtain ⟨ns, x9, x10, x11, x12, rfl, hnl, hi2, hns, hL, hX, hD⟩ := hI
        dsimp? only [hL]
        refine fun q hq => ⟨by decide, fun t ht => ?_⟩
        have hqd := hD.nd hq
        have hqc := hD.nc hq
        have hq0 : M q = none := hX.fresh hD hq
        have hD2 : Deck (mup M' q (.lst (ns.map D.str))) d c (r + 88) := hD.up hq
        have htd := hD2.nd ht
        have htc := hD2.nc ht
        have ht0 : M t = none := (hX.new hq).fresh hD2 ht
        have htq : t ≠ q := by rintro rfl; rw [mup_same] at ht; cases ht
        refine whileN_go (fun m ds M2 => ∃ (ls ts : List Str) , ds = [some (D.ref d), some (D.int many), some (D.str (Str.ofString "abcdefghijklmnopqrstuvwxyz")), some (D.str (Str.ofString "abcdefghijklmnopqrstuvwxyz" ++ Str.ofString "0123456789")),
          some (D.int way), some (D.str w), some (D.int at_), some (.int (long : Int)), some (D.ref p), x9, x10, x11, x12, some (D.ref q), some (D.ref t)] ∧ ls.length = m ∧ ls.length + ts.length = many ∧ (∀ n ∈ ls, NameS n) ∧ (∀ n ∈ ts, NameS n) ∧
          lstOf M2 q = some (ls.map D.str) ∧ lstOf M2 t = some (ts.map D.str) ∧ Ext d c M M2 ∧ Deck M2 d c (r + m)) (fun N ds M2 hI => ?_) (fun m N hN ds M2 hI => ?_) many _ _
          ⟨ns, [], rfl, by omega, by simp; omega, hns, by simp, lstOf_keep htq.symm lstOf_mup_same, lstOf_mup_same, (hX.new hq).new ht, (hD2.up ht).mono (by omega)⟩
        · obtain ⟨ls, ts, rfl, hl0, hlt, h1, h2, e1, e2, hX2, hD3⟩ := hI
          have : ls = [] := List.eq_nil_of_length_eq_zero hl0
          subst this
          try simp? only []
          refine ⟨by decide, ne_nil_l e1 (pureDs_str _) (Nat.le_trans (depDs_str _) (by decide)) ?_⟩
          exact Shr.deckL D0 ht0 e2 hX2 hD3 fun M3 U D3 => k ts M3 (by simpa using hlt) h2 D3 U
        · obtain ⟨ls, ts, rfl, hl0, hlt, h1, h2, e1, e2, hX2, hD3⟩ := hI
          try simp? only []
          refine ⟨by decide, ne_nil_l e1 (pureDs_str _) (Nat.le_trans (depDs_str _) (by decide)) ?_⟩
          obtain ⟨l0, lr, rfl⟩ : ∃ l0 lr, ls = l0 :: lr := by
            cases ls with
            | nil => simp at hl0
            | cons a b => exact ⟨a, b, rfl⟩
          dsimp? only [List.isEmpty_cons, e2]
          refine ⟨by simp [e1], len_l e1 ?_⟩
          refine draw_go (r := r + m) (hD3.mono (by omega)) (by simp at hlt ⊢; try omega) (by simp at hlt ⊢; omega) fun j M3 j0 j1 D3 U3 => ?_
          have e1' : lstOf M3 q = some ((l0 :: lr).map D.str) := by rw [U3.lst hqd hqc]; exact e1
          have e2' : lstOf M3 t = some (ts.map D.str) := by rw [U3.lst htd htc]; exact e2
          obtain ⟨z, hz, mz⟩ : ∃ z, (l0 :: lr)[j.toNat]? = some z ∧ z ∈ (l0 :: lr) := by
            have : j.toNat < (l0 :: lr).length := by simp at j1 ⊢; omega
            exact ⟨_, List.getElem?_eq_getElem this, List.getElem_mem _⟩
          refine popAt_go (d := .str z) e1' j0 (by simp at j1 hlt; omega) (by rw [List.getElem?_map, hz]; rfl) ?_
          refine append_go (xs := ts.map D.str) (lstOf_keep htq e2') (by rw [List.length_map]; exact small_ltline (by omega)) ?_
          try dsimp? only []
          have hlen : ((l0 :: lr).eraseIdx j.toNat).length = m := by
            rw [List.length_eraseIdx_of_lt (by simp at j1 ⊢; omega)]; omega
          refine hN _ _ ⟨(l0 :: lr).eraseIdx j.toNat, ts ++ [z], rfl, hlen, by rw [hlen]; simp at hlt hl0 ⊢; omega, fun n hn => h1 n (List.mem_of_mem_eraseIdx hn), fun n hn => ?_, ?_, ?_, ((hX2.trans U3.ext).put hq0).put ht0, (D3.keep hqd hqc).keep htd htc⟩
          · rcases List.mem_append.mp hn with hn | hn
            · exact h2 n hn
            · rw [List.mem_singleton.mp hn]; exact h1 z mz
          · rw [lstOf_mup_ne htq.symm, lstOf_mup_same]; exact congrArg some (eraseIdx_map D.str (l0 :: lr) _)
          · rw [lstOf_mup_same]; simp
/-- some numbers, as texts -/
def sp__law_numbers : DSp := fun ds M R => ∃ (d : Addr) (n : Nat), ds = [.ref d, .int n] ∧ 1 ≤ n ∧ n ≤ 8 ∧ Draws d 2 (fun x => ∃ ns : List Str, x = .lst (ns.map D.str) ∧ ns ≠ [] ∧ ns.length ≤ 8) M R
theorem numbers_B {M M0 : Mm} {d c : Addr} {r : Nat} {L : List (Addr × MO)} {n : Nat} {R : DQ} (b : Bx d c r M0 L M) (h5 : 1 ≤ n) (h6 : n ≤ 8) (hr : 2 ≤ r)
    (k : ∀ (ns : List Str) M', ns ≠ [] → ns.length ≤ 8 → Bx d c (r - 2) M0 L M' → R (.lst (ns.map D.str)) M') : sp__law_numbers [.ref d, .int n] M R :=
  ⟨d, n, rfl, h5, h6, b.draws hr fun x M' ⟨ns, e, h1, h2⟩ b' => e ▸ k ns M' h1 h2 b'⟩
theorem ok__law_numbers {f__law_numbers f__law_draw : Addr} {fd__law_numbers fd__law_draw : FuncData} (F__law_numbers : Fun K "_law_numbers" "_law_numbers" st__law_numbers f__law_numbers fd__law_numbers) (G__law_draw : FnOk P w K mg base CX0 1 f__law_draw fd__law_draw ["_law_deck_here", "_law_most"] (toSp K sp__law_draw)) (g__law_draw : mg "_law_draw" = some (.ref f__law_draw)) (k__law_draw : PySem.W.keepIn K (.ref f__law_draw) = true) (b__law_draw : Binds K fd__law_draw ["_law_deck_here", "_law_most"] []) (z_sorted : mg "sorted" = none) : FnOk P w K mg base CX0 2 f__law_numbers fd__law_numbers ["_law_deck_here", "_law_most"] (toSp K sp__law_numbers) := by
  refine fn_ok (k := 1) F__law_numbers sc__law_numbers (fun ds M R h => ?_) (fun cdv A outer s H E hr => ⟨_, (jb_cons (js_set (i := 2) sc__law_numbers.nd (je_frz (jl_disp (ja_cons je_str (ja_cons je_str (ja_cons je_str (ja_cons je_str (ja_cons je_str (ja_cons je_str (ja_cons je_str (ja_cons je_str ja_nil)))))))))))
      (jb_cons (js_set (i := 3) sc__law_numbers.nd (je_call G__law_draw (hr.mono (by decide)) (by rfl) g__law_draw k__law_draw b__law_draw (ja_cons (jv 0) (ja_cons je_int ja_nil))))
      (jb_one (js_ret (je_frz (jl_sorted hr z_sorted (ja_cons (je_slice (je_add (je_slice (jv 2) (jo_some (jv 3)) jo_none) (je_slice (jv 2) jo_none (jo_some (jv 3)))) jo_none (jo_some (je_add je_int (je_call G__law_draw (hr.mono (by decide)) (by rfl) g__law_draw k__law_draw b__law_draw (ja_cons (jv 0) (ja_cons (jv 1) ja_nil)))))) ja_nil))))))), fun ds M R h => ?_⟩)
  · unfold sp__law_numbers at h
    first | (obtain ⟨rfl, _⟩ := h; rfl) | (obtain ⟨_, rfl, _⟩ := h; rfl) | (obtain ⟨_, _, rfl, _⟩ := h; rfl) | (obtain ⟨_, _, _, rfl, _⟩ := h; rfl) | (obtain ⟨_, _, _, _, rfl, _⟩ := h; rfl) | (obtain ⟨_, _, _, _, _, rfl, _⟩ := h; rfl) | (obtain ⟨_, _, _, _, _, _, rfl, _⟩ := h; rfl) | (obtain ⟨_, _, _, _, _, _, _, rfl, _⟩ := h; rfl) | (obtain ⟨_, _, _, _, _, _, _, _, rfl, _⟩ := h; rfl) | (split at h <;> first | rfl | exact h.elim)
  · unfold sp__law_numbers at h
    obtain ⟨d, n, rfl, hn1, hn, c, r, D0, k⟩ := h
    have b0 := Bx.start D0
    simp_all only [N__law_numbers]
    infer_instance
    refine draw_B b0 (by omega) (by omega) (by omega) fun t M1 t0 t1 b1 => ?_
    infer_instance
    obtain ⟨K, hK, hKl⟩ : ∃ K : List Str, K.map D.str = [D.str (Str.ofString "0"), D.str (Str.ofString "1"), D.str (Str.ofString "10"), D.str (Str.ofString "11"), D.str (Str.ofString "2"), D.str (Str.ofString "205"), D.str (Str.ofString "3"), D.str (Str.ofString "7")] ∧ K.length = 8 := ⟨[_, _, _, _, _, _, _, _], rfl, rfl⟩
    rw [← hK]
    obtain ⟨u, rfl⟩ : ∃ u : Nat, t = u := ⟨t.toNat, by omega⟩
    rw [cutL_fromN, cutL_toN, ← List.map_drop, ← List.map_take, ← List.map_append]
    have hl : (K.drop u ++ K.take u).length = 8 := by simp; omega
    refine ⟨?_, ?_⟩
    · have := hl; simp at this ⊢; exact small_line2 (by omega)
    refine draw_B b1 (by omega) (by omega) (by omega) fun q M2 q0 q1 b2 => ?_
    infer_instance
    obtain ⟨j, hj⟩ : ∃ j : Nat, (1 : Int) + q = j := ⟨(1 + q).toNat, by omega⟩
    rw [hj, cutL_toN, ← List.map_take]
    refine ⟨sortOk_str, ?_⟩
    rw [sortD_strs]
    refine b2.done k ⟨_, rfl, ?_, ?_⟩ (by omega)
    · intro h
      have := congrArg List.length h
      rw [sortS_len] at this
      simp at this hl
      omega
    · rw [sortS_len]; simp at hl ⊢; omega
/-- one of some -/
def sp__law_pick : DSp := fun ds M R => ∃ (d : Addr) (x : D) (xs : List D), ds = [.ref d, x] ∧ (x = .lst xs ∨ x = .tup xs) ∧ xs ≠ [] ∧ xs.length ≤ 2 ^ 60 ∧ ∃ c r, Deck M d c (r + 1) ∧ ∀ y ∈ xs, ∀ M', Deck M' d c r → Upto d c M M' → R y M'
theorem pick_L {M : Mm} {d c : Addr} {r : Nat} {xs : List D} {R : DQ} (D0 : Deck M d c (r + 1)) (h0 : xs ≠ []) (h1 : xs.length ≤ 2 ^ 60) (k : ∀ y ∈ xs, ∀ M', Deck M' d c r → Upto d c M M' → R y M') : sp__law_pick [.ref d, .lst xs] M R := ⟨d, _, xs, rfl, .inl rfl, h0, h1, c, r, D0, k⟩
theorem pick_t {M : Mm} {d c : Addr} {r : Nat} {xs : List D} {R : DQ} (D0 : Deck M d c (r + 1)) (h0 : xs ≠ []) (h1 : xs.length ≤ 2 ^ 60) (k : ∀ y ∈ xs, ∀ M', Deck M' d c r → Upto d c M M' → R y M') : sp__law_pick [.ref d, .tup xs] M R := ⟨d, _, xs, rfl, .inr rfl, h0, h1, c, r, D0, k⟩
/-- of a list of things -/
theorem pick_Lm {α : Type} {f : α → D} {M : Mm} {d c : Addr} {r : Nat} {xs : List α} {R : DQ} (D0 : Deck M d c (r + 1)) (h0 : xs ≠ []) (h1 : xs.length ≤ 2 ^ 60) (k : ∀ y ∈ xs, ∀ M', Deck M' d c r → Upto d c M M' → R (f y) M') : sp__law_pick [.ref d, .lst (xs.map f)] M R :=
  pick_L D0 (by simpa using h0) (by simpa using h1) fun y hy M' D U => by
    obtain ⟨z, hz, rfl⟩ := List.mem_map.mp hy
    exact k z hz M' D U
theorem pick_tm {α : Type} {f : α → D} {M : Mm} {d c : Addr} {r : Nat} {xs : List α} {R : DQ} (D0 : Deck M d c (r + 1)) (h0 : xs ≠ []) (h1 : xs.length ≤ 2 ^ 60) (k : ∀ y ∈ xs, ∀ M', Deck M' d c r → Upto d c M M' → R (f y) M') : sp__law_pick [.ref d, .tup (xs.map f)] M R :=
  pick_t D0 (by simpa using h0) (by simpa using h1) fun y hy M' D U => by
    obtain ⟨z, hz, rfl⟩ := List.mem_map.mp hy
    exact k z hz M' D U
theorem pick_BL {α : Type} {f : α → D} {M M0 : Mm} {d c : Addr} {n : Nat} {L : List (Addr × MO)} {xs : List α} {R : DQ} (b : Bx d c n M0 L M) (hn : 1 ≤ n) (h0 : xs ≠ []) (h1 : xs.length ≤ 2 ^ 60) (k : ∀ y ∈ xs, ∀ M', Bx d c (n - 1) M0 L M' → R (f y) M') : sp__law_pick [.ref d, .lst (xs.map f)] M R :=
  pick_Lm (r := n - 1) (b.dk.mono (by omega)) h0 h1 fun y hy M' D U => k y hy M' (b.call D U)
theorem pick_Bt {α : Type} {f : α → D} {M M0 : Mm} {d c : Addr} {n : Nat} {L : List (Addr × MO)} {xs : List α} {R : DQ} (b : Bx d c n M0 L M) (hn : 1 ≤ n) (h0 : xs ≠ []) (h1 : xs.length ≤ 2 ^ 60) (k : ∀ y ∈ xs, ∀ M', Bx d c (n - 1) M0 L M' → R (f y) M') : sp__law_pick [.ref d, .tup (xs.map f)] M R :=
  pick_tm (r := n - 1) (b.dk.mono (by omega)) h0 h1 fun y hy M' D U => k y hy M' (b.call D U)
theorem ok__law_pick {f__law_pick f__law_draw : Addr} {fd__law_pick fd__law_draw : FuncData} (F__law_pick : Fun K "_law_pick" "_law_pick" st__law_pick f__law_pick fd__law_pick) (G__law_draw : FnOk P w K mg base CX0 1 f__law_draw fd__law_draw ["_law_deck_here", "_law_most"] (toSp K sp__law_draw)) (g__law_draw : mg "_law_draw" = some (.ref f__law_draw)) (k__law_draw : PySem.W.keepIn K (.ref f__law_draw) = true) (b__law_draw : Binds K fd__law_draw ["_law_deck_here", "_law_most"] []) (z_len : mg "len" = none) : FnOk P w K mg base CX0 2 f__law_pick fd__law_pick ["_law_deck_here", "_law_some"] (toSp K sp__law_pick) := by
  refine fn_ok (k := 1) F__law_pick sc__law_pick (fun ds M R h => ?_) (fun cdv A outer s H E hr => ⟨_, (jb_one (js_ret (je_ix (jv 1) (je_call G__law_draw (hr.mono (by decide)) (by rfl) g__law_draw k__law_draw b__law_draw (ja_cons (jv 0) (ja_cons (je_len z_len (ja_cons (jv 1) ja_nil)) ja_nil)))))), fun ds M R h => ?_⟩)
  · unfold sp__law_pick at h
    first | (obtain ⟨rfl, _⟩ := h; rfl) | (obtain ⟨_, rfl, _⟩ := h; rfl) | (obtain ⟨_, _, rfl, _⟩ := h; rfl) | (obtain ⟨_, _, _, rfl, _⟩ := h; rfl) | (obtain ⟨_, _, _, _, rfl, _⟩ := h; rfl) | (obtain ⟨_, _, _, _, _, rfl, _⟩ := h; rfl) | (obtain ⟨_, _, _, _, _, _, rfl, _⟩ := h; rfl) | (obtain ⟨_, _, _, _, _, _, _, rfl, _⟩ := h; rfl) | (obtain ⟨_, _, _, _, _, _, _, _, rfl, _⟩ := h; rfl) | (split at h <;> first | rfl | exact h.elim)
  · unfold sp__law_pick at h
    obtain ⟨d, x, xs, rfl, hx, h0, h1, c, r, D0, k⟩ := h
    have hpos : 0 < xs.length := List.length_pos_iff.mpr h0
    dsimp? only [N__law_pick]
    have hlen : ∀ {Q : DQ}, Q (.int xs.length) M → lenR [x] M Q := by
      rcases hx with rfl | rfl <;> exact fun h => h
    refine hlen ?_
    refine draw_go D0 (by omega) (by omega) fun n M1 n0 n1 D1 U1 => ?_
    obtain ⟨y, hy, my⟩ : ∃ y, xs[n.toNat]? = some y ∧ y ∈ xs := ⟨_, List.getElem?_eq_getElem (by omega), List.getElem_mem _⟩
    rcases hx with rfl | rfl
    · exact ix_L n0 hy (Shr.all (k y my M1 D1 U1))
    · exact ix_t n0 hy (Shr.all (k y my M1 D1 U1))
--TD _law_some
/-- a machine drawn -/
def sp__law_machine : DSp := fun ds M R => ∃ (d : Addr) (ps ms : List Str) (s n : Nat), ds = [.ref d, .lst (ps.map D.str), .lst (ms.map D.str), .int s, .int n] ∧ ps ≠ [] ∧ ms ≠ [] ∧ ps.length ≤ 100 ∧ ms.length ≤ 100 ∧ s ≤ 3 ∧ 1 ≤ n ∧ n ≤ 8 ∧ Draws d 400 (MchS 50) M R
theorem machine_B {M M0 : Mm} {d c : Addr} {r : Nat} {L : List (Addr × MO)} {ps ms : List Str} {s n : Nat} {R : DQ} (b : Bx d c r M0 L M) (h1 : ps ≠ []) (h2 : ms ≠ []) (h3 : ps.length ≤ 100) (h4 : ms.length ≤ 100) (hs : s ≤ 3) (h5 : 1 ≤ n) (h6 : n ≤ 8) (hr : 400 ≤ r)
    (k : ∀ E F M', E.length ≤ 50 → Bx d c (r - 400) M0 L M' → R (tgtD E F) M') : sp__law_machine [.ref d, .lst (ps.map D.str), .lst (ms.map D.str), .int s, .int n] M R :=
  ⟨d, ps, ms, s, n, rfl, h1, h2, h3, h4, hs, h5, h6, b.draws hr fun x M' ⟨E, F, e, h⟩ b' => e ▸ k E F M' h b'⟩
theorem ok__law_machine {f__law_machine f__law_draw f__law_numbers f__law_pick : Addr} {fd__law_machine fd__law_draw fd__law_numbers fd__law_pick : FuncData} (F__law_machine : Fun K "_law_machine" "_law_machine" st__law_machine f__law_machine fd__law_machine) (G__law_draw : FnOk P w K mg base CX0 1 f__law_draw fd__law_draw ["_law_deck_here", "_law_most"] (toSp K sp__law_draw)) (g__law_draw : mg "_law_draw" = some (.ref f__law_draw)) (k__law_draw : PySem.W.keepIn K (.ref f__law_draw) = true) (b__law_draw : Binds K fd__law_draw ["_law_deck_here", "_law_most"] []) (G__law_numbers : FnOk P w K mg base CX0 2 f__law_numbers fd__law_numbers ["_law_deck_here", "_law_most"] (toSp K sp__law_numbers)) (g__law_numbers : mg "_law_numbers" = some (.ref f__law_numbers)) (k__law_numbers : PySem.W.keepIn K (.ref f__law_numbers) = true) (b__law_numbers : Binds K fd__law_numbers ["_law_deck_here", "_law_most"] []) (G__law_pick : FnOk P w K mg base CX0 2 f__law_pick fd__law_pick ["_law_deck_here", "_law_some"] (toSp K sp__law_pick)) (g__law_pick : mg "_law_pick" = some (.ref f__law_pick)) (k__law_pick : PySem.W.keepIn K (.ref f__law_pick) = true) (b__law_pick : Binds K fd__law_pick ["_law_deck_here", "_law_some"] []) (z_list : mg "list" = none) (z_range : mg "range" = none) (z_int : mg "int" = none) (z_tuple : mg "tuple" = none) (z_sorted : mg "sorted" = none) : FnOk P w K mg base CX0 3 f__law_machine fd__law_machine ["_law_deck_here", "_law_places", "_law_marks", "_law_sort", "_law_most"] (toSp K sp__law_machine) := by
  refine fn_ok (k := 2) F__law_machine sc__law_machine (fun ds M R h => ?_) (fun cdv A outer s H E hr => ⟨_, (jb_cons (js_set (i := 5) sc__law_machine.nd (je_eq hr (je_call G__law_draw (hr.mono (by decide)) (by rfl) g__law_draw k__law_draw b__law_draw (ja_cons (jv 0) (ja_cons je_int ja_nil))) je_int))
      (jb_cons (js_set (i := 6) sc__law_machine.nd (je_call G__law_numbers (hr.mono (by decide)) (by rfl) g__law_numbers k__law_numbers b__law_numbers (ja_cons (jv 0) (ja_cons (jv 4) ja_nil))))
      (jb_cons (js_set (i := 7) sc__law_machine.nd (je_add (je_frz (jl_list z_list (ja_cons (jv 1) ja_nil))) (jv 6)))
      (jb_cons (js_set (i := 8) sc__law_machine.nd (je_ix (je_frz (jl_disp (ja_cons (jv 6) (ja_cons (jv 7) (ja_cons (jv 7) (ja_cons (jv 7) ja_nil)))))) (jv 3)))
      (jb_cons (js_set (i := 9) sc__law_machine.nd je_dictT)
      (jb_cons (js_for PassesOwn.never rfl (ji_rng1 (by rfl) z_range (je_ix (je_frz (jl_disp (ja_cons (je_add je_int (je_call G__law_draw (hr.mono (by decide)) (by rfl) g__law_draw k__law_draw b__law_draw (ja_cons (jv 0) (ja_cons je_int ja_nil)))) (ja_cons je_int ja_nil)))) (je_int1 z_int (ja_cons (jv 5) ja_nil)))) (jg_name (i := 10) sc__law_machine.nd) (jb_cons (js_set (i := 11) sc__law_machine.nd (je_and (je_gt (jv 3) je_int) (je_one (je_eq hr (je_call G__law_draw (hr.mono (by decide)) (by rfl) g__law_draw k__law_draw b__law_draw (ja_cons (jv 0) (ja_cons (je_ix (je_frz (jl_disp (ja_cons je_int (ja_cons je_int ja_nil)))) (je_mod (jv 3) je_int)) ja_nil))) je_int)))) (jb_cons (js_set (i := 12) sc__law_machine.nd (je_ix (je_frz (jl_disp (ja_cons (je_call G__law_pick (hr.mono (by decide)) (by rfl) g__law_pick k__law_pick b__law_pick (ja_cons (jv 0) (ja_cons (jv 2) ja_nil))) (ja_cons je_str ja_nil)))) (je_int1 z_int (ja_cons (jv 11) ja_nil)))) (jb_one (js_dputT hr (jv 9) (je_tup (ja_cons (je_call G__law_pick (hr.mono (by decide)) (by rfl) g__law_pick k__law_pick b__law_pick (ja_cons (jv 0) (ja_cons (jv 7) ja_nil))) (ja_cons (jv 12) (ja_cons (je_call G__law_pick (hr.mono (by decide)) (by rfl) g__law_pick k__law_pick b__law_pick (ja_cons (jv 0) (ja_cons (jv 8) ja_nil))) ja_nil)))) je_bl)))))
      (jb_cons (js_setLcF (i := 13) rfl sc__law_machine.nd (jlc (ji_any (jv 7)) (blkOk_by (own := [("_law_state", 14)]) (N := N__law_machine) (sc := defScope st__law_machine) (by decide +kernel)) (fun _ _ _ _ _ => (jgv_name (i := 14) sc__law_machine.nd (by decide))) (fun _ _ _ _ _ => (jts_one (jt_eq hr (je_call G__law_draw (hr.mono (by decide)) (by rfl) g__law_draw k__law_draw b__law_draw (ja_cons (jv 0) (ja_cons je_int ja_nil))) je_int))) (fun _ _ _ _ _ => (jv 14))) (sw_true rfl rfl rfl (by decide +kernel)))
      (jb_one (js_ret (je_tup (ja_cons (je_tuple z_tuple (ja_cons (je_frz (jl_sortedT rfl hr z_sorted (ja_cons (jv 9) ja_nil))) ja_nil)) (ja_cons (je_tuple z_tuple (ja_cons (je_frz (jl_sorted hr z_sorted (ja_cons (jv 13) ja_nil))) ja_nil)) ja_nil)))))))))))), fun ds M R h => ?_⟩)
  · unfold sp__law_machine at h
    first | (obtain ⟨rfl, _⟩ := h; rfl) | (obtain ⟨_, rfl, _⟩ := h; rfl) | (obtain ⟨_, _, rfl, _⟩ := h; rfl) | (obtain ⟨_, _, _, rfl, _⟩ := h; rfl) | (obtain ⟨_, _, _, _, rfl, _⟩ := h; rfl) | (obtain ⟨_, _, _, _, _, rfl, _⟩ := h; rfl) | (obtain ⟨_, _, _, _, _, _, rfl, _⟩ := h; rfl) | (obtain ⟨_, _, _, _, _, _, _, rfl, _⟩ := h; rfl) | (obtain ⟨_, _, _, _, _, _, _, _, rfl, _⟩ := h; rfl) | (split at h <;> first | rfl | exact h.elim)
  · unfold sp__law_machine at h
    obtain ⟨d, ps, ms, s, n, rfl, hp, hm, hpl, hml, hs, hn1, hn, c, r, D0, k⟩ := h
    have b0 := Bx.start D0
    simp_all only [N__law_machine]
    infer_instance
    refine draw_B b0 (by omega) (by omega) (by omega) fun g M1 g0 g1 b1 => ?_
    infer_instance
    refine numbers_B b1 hn1 hn (by omega) fun ns M2 hn0 hnl b2 => ?_
    infer_instance
    refine ix_allL (fun y => ∃ gs : List Str, y = .lst (gs.map D.str) ∧ gs ≠ [] ∧ gs.length ≤ 108) (by omega) (by simp; omega) (fun y hy => ?_) fun y hy => ?_
    · simp only [List.mem_cons, List.not_mem_nil, or_false] at hy
      rcases hy with rfl | rfl | rfl | rfl
      · exact ⟨ns, rfl, hn0, by omega⟩
      all_goals exact ⟨ps ++ ns, rfl, by simp [hp], by simp; omega⟩
    obtain ⟨gs, rfl, hg0, hgl⟩ := hy
    infer_instance
    intro p hpn
    have b3 := b2.new (p := p) (o := .dit (esD [])) hpn
    infer_instance
    refine draw_B b3 (by omega) (by omega) (by omega) fun q M3 q0 q1 b4 => ?_
    infer_instance
    obtain ⟨j, hj, j0, j1⟩ : ∃ j : Int, (if (g == 5) = true then D.int 40 else D.int (2 + q)) = .int j ∧ 2 ≤ j ∧ j ≤ 40 := by
      by_cases e : (g == 5) = true
      · rw [if_pos e]; exact ⟨40, rfl, by omega, by omega⟩
      · rw [if_neg e]; exact ⟨2 + q, rfl, by omega, by omega⟩
    rw [hj]
    infer_instance
    refine forR [10, 11, 12] (fun i vs M' => ∃ x10 x11 x12 es, vs = [x10, x11, x12] ∧ Bx d c (r + 150 + 5 * (j.toNat - i)) M [(p, .dit (esD es))] M' ∧ es.length ≤ i ∧ es.Nodup) (fun _ _ _ _ => trivial) (fun i N hi hN vs M' hI => ?_) (fun vs M' hI => ?_) ⟨_, _, _, [], rfl, b4.mono (by omega), by simp, by simp⟩
    · obtain ⟨x10, x11, x12, es, rfl, b5, h1, h2⟩ := hI
      refine seqS [11] (fun vs M' => ∃ b : Bool, vs = [some (.bl b)] ∧ Bx d c (r + 150 + 5 * (j.toNat - (i + 1)) + 4) M [(p, .dit (esD es))] M') (fun N hN => ?_) fun vs M4 hJ => ?_
      · try simp_all only []
        refine ifs (fun _ => ?_) (fun _ => ?_)
        · refine ⟨by decide, ?_⟩
          refine ix_allL (fun y => ∃ z : Int, y = .int z ∧ 1 ≤ z ∧ z ≤ 7) (by omega) (by simp; omega) (fun y hy => ?_) fun y hy => ?_
          · simp only [List.mem_cons, List.not_mem_nil, or_false] at hy
            rcases hy with rfl | rfl <;> exact ⟨_, rfl, by omega, by omega⟩
          obtain ⟨z, rfl, z0, z1⟩ := hy
          refine draw_B b5 (by omega) (by omega) (by omega) fun u M5 u0 u1 b6 => ?_
          and_intros
          exact hN _ _ _ (by rw [Int.zero_add]; rfl) ⟨_, rfl, b6.mono (by omega)⟩
        · exact hN _ _ _ (by rw [Int.zero_add]; rfl) ⟨_, rfl, b5.mono (by omega)⟩
      · obtain ⟨b, rfl, b6⟩ := hJ
        infer_instance
        refine pick_BL b6 (by omega) hm (by omega) fun mk hmk M5 b7 => ?_
        infer_instance
        refine pick_BL b7 (by omega) (by simp [hp]) (by simp; omega) fun a ha M6 b8 => ?_
        infer_instance
        refine pick_BL b8 (by omega) hg0 (by omega) fun t ht M7 b9 => ?_
        infer_instance
        obtain ⟨mk', hmk'⟩ : ∃ m' : Str, (if b = true then D.str (Str.ofString "") else D.str mk) = .str m' := by
          cases b
          · exact ⟨mk, rfl⟩
          · exact ⟨_, rfl⟩
        rw [hmk']
        infer_instance
        rw [b9.dit1]
        infer_instance
        refine ⟨small_lt2 (by rw [esD_len]; omega), ?_⟩
        rw [show ([.inr a, .inr mk', .inr t] : List Key) = edK (a, mk', t) from rfl, put_es]
        refine hN _ _ _ rfl ⟨_, _, _, insE es (a, mk', t), rfl, b9.put1.mono (by omega), by have := insE_len (es := es) (e := (a, mk', t)); omega, insE_nodup h2⟩
    · obtain ⟨x10, x11, x12, es, rfl, b5, h1, h2⟩ := hI
      infer_instance
      refine lcW_B 1 (fun y => ∃ s, (s ∈ ps ∨ s ∈ ns) ∧ y = .str s) (small_line2 (by simp; omega)) b5 (by simp; omega) (fun _ _ _ => trivial) (fun x hx n' M4 N F b6 hN hF => ?_) fun ys M4 hl hys b6 => ?_
      · obtain ⟨s, hs, rfl⟩ := List.mem_map.mp hx
        infer_instance
        refine draw_B b6 (by omega) (by omega) (by omega) fun u M5 u0 u1 b7 => ?_
        infer_instance
        refine ifs (fun _ => ?_) (fun _ => ?_)
        · exact hN _ _ ⟨s, by simpa using hs, rfl⟩ (b7.mono (by omega))
        · exact hF _ (b7.mono (by omega))
      · obtain ⟨Ee, rfl, hE, hEl⟩ := all_mapS hys
        infer_instance
        have b6 : Bx d c r M [(p, .dit (esD es))] M4 := b6.mono (by simp; simp at hl; omega)
        rw [b6.dit1]
        infer_instance
        rw [keys_es, sortD_eds]
        refine ⟨sortOk_ed, ?_⟩
        infer_instance
        refine ⟨sortOk_str, ?_⟩
        rw [sortD_strs]
        infer_instance
        refine b6.done k ⟨sortE es, sortS Ee, rfl, ?_⟩ (Nat.le_refl _)
        rw [sortE_len]; omega
--TD _law_some
/-- a great machine drawn -/
def sp__law_great : DSp := fun ds M R => ∃ (d : Addr) (ps ms : List Str), ds = [.ref d, .lst (ps.map D.str), .lst (ms.map D.str)] ∧ ps ≠ [] ∧ ms ≠ [] ∧ ps.length ≤ 100 ∧ ms.length ≤ 100 ∧ Draws d 1000 (MchS 250) M R
theorem great_B {M M0 : Mm} {d c : Addr} {r : Nat} {L : List (Addr × MO)} {ps ms : List Str} {R : DQ} (b : Bx d c r M0 L M) (h1 : ps ≠ []) (h2 : ms ≠ []) (h3 : ps.length ≤ 100) (h4 : ms.length ≤ 100) (hr : 1000 ≤ r)
    (k : ∀ E F M', E.length ≤ 250 → Bx d c (r - 1000) M0 L M' → R (tgtD E F) M') : sp__law_great [.ref d, .lst (ps.map D.str), .lst (ms.map D.str)] M R :=
  ⟨d, ps, ms, rfl, h1, h2, h3, h4, b.draws hr fun x M' ⟨E, F, e, h⟩ b' => e ▸ k E F M' h b'⟩
theorem ok__law_great {f__law_great f__law_draw f__law_pick : Addr} {fd__law_great fd__law_draw fd__law_pick : FuncData} (F__law_great : Fun K "_law_great" "_law_great" st__law_great f__law_great fd__law_great) (G__law_draw : FnOk P w K mg base CX0 1 f__law_draw fd__law_draw ["_law_deck_here", "_law_most"] (toSp K sp__law_draw)) (g__law_draw : mg "_law_draw" = some (.ref f__law_draw)) (k__law_draw : PySem.W.keepIn K (.ref f__law_draw) = true) (b__law_draw : Binds K fd__law_draw ["_law_deck_here", "_law_most"] []) (G__law_pick : FnOk P w K mg base CX0 2 f__law_pick fd__law_pick ["_law_deck_here", "_law_some"] (toSp K sp__law_pick)) (g__law_pick : mg "_law_pick" = some (.ref f__law_pick)) (k__law_pick : PySem.W.keepIn K (.ref f__law_pick) = true) (b__law_pick : Binds K fd__law_pick ["_law_deck_here", "_law_some"] []) (z_range : mg "range" = none) (z_str : mg "str" = none) (z_list : mg "list" = none) (z_int : mg "int" = none) (z_tuple : mg "tuple" = none) (z_sorted : mg "sorted" = none) : FnOk P w K mg base CX0 3 f__law_great fd__law_great ["_law_deck_here", "_law_places", "_law_marks"] (toSp K sp__law_great) := by
  refine fn_ok (k := 2) F__law_great sc__law_great (fun ds M R h => ?_) (fun cdv A outer s H E hr => ⟨_, (jb_cons (js_setLcF (i := 3) rfl sc__law_great.nd (jlc (ji_rng1 (by rfl) z_range je_int) (blkOk_by (own := [("_law_k", 6)]) (N := N__law_great) (sc := defScope st__law_great) (by decide +kernel)) (fun _ _ _ _ _ => (jgv_name (i := 6) sc__law_great.nd (by decide))) (fun _ _ _ _ _ => jts_nil) (fun _ _ _ _ _ => (je_str1 z_str (ja_cons (jv 6) ja_nil)))) (sw_true rfl rfl rfl (by decide +kernel)))
      (jb_cons (js_set (i := 4) sc__law_great.nd (je_add (je_frz (jl_list z_list (ja_cons (jv 1) ja_nil))) (jv 3)))
      (jb_cons (js_set (i := 5) sc__law_great.nd je_dictT)
      (jb_cons (js_for PassesOwn.never rfl (ji_rng1 (by rfl) z_range (je_add je_int (je_call G__law_draw (hr.mono (by decide)) (by rfl) g__law_draw k__law_draw b__law_draw (ja_cons (jv 0) (ja_cons je_int ja_nil))))) (jg_name (i := 6) sc__law_great.nd) (jb_cons (js_set (i := 7) sc__law_great.nd (je_ix (je_frz (jl_disp (ja_cons (je_call G__law_pick (hr.mono (by decide)) (by rfl) g__law_pick k__law_pick b__law_pick (ja_cons (jv 0) (ja_cons (jv 2) ja_nil))) (ja_cons je_str ja_nil)))) (je_int1 z_int (ja_cons (je_eq hr (je_call G__law_draw (hr.mono (by decide)) (by rfl) g__law_draw k__law_draw b__law_draw (ja_cons (jv 0) (ja_cons je_int ja_nil))) je_int) ja_nil)))) (jb_one (js_dputT hr (jv 5) (je_tup (ja_cons (je_call G__law_pick (hr.mono (by decide)) (by rfl) g__law_pick k__law_pick b__law_pick (ja_cons (jv 0) (ja_cons (jv 4) ja_nil))) (ja_cons (jv 7) (ja_cons (je_call G__law_pick (hr.mono (by decide)) (by rfl) g__law_pick k__law_pick b__law_pick (ja_cons (jv 0) (ja_cons (jv 4) ja_nil))) ja_nil)))) je_bl))))
      (jb_cons (js_setLcF (i := 8) rfl sc__law_great.nd (jlc (ji_any (jv 4)) (blkOk_by (own := [("_law_state", 9)]) (N := N__law_great) (sc := defScope st__law_great) (by decide +kernel)) (fun _ _ _ _ _ => (jgv_name (i := 9) sc__law_great.nd (by decide))) (fun _ _ _ _ _ => (jts_one (jt_eq hr (je_call G__law_draw (hr.mono (by decide)) (by rfl) g__law_draw k__law_draw b__law_draw (ja_cons (jv 0) (ja_cons je_int ja_nil))) je_int))) (fun _ _ _ _ _ => (jv 9))) (sw_true rfl rfl rfl (by decide +kernel)))
      (jb_one (js_ret (je_tup (ja_cons (je_tuple z_tuple (ja_cons (je_frz (jl_sortedT rfl hr z_sorted (ja_cons (jv 5) ja_nil))) ja_nil)) (ja_cons (je_tuple z_tuple (ja_cons (je_frz (jl_sorted hr z_sorted (ja_cons (jv 8) ja_nil))) ja_nil)) ja_nil)))))))))), fun ds M R h => ?_⟩)
  · unfold sp__law_great at h
    first | (obtain ⟨rfl, _⟩ := h; rfl) | (obtain ⟨_, rfl, _⟩ := h; rfl) | (obtain ⟨_, _, rfl, _⟩ := h; rfl) | (obtain ⟨_, _, _, rfl, _⟩ := h; rfl) | (obtain ⟨_, _, _, _, rfl, _⟩ := h; rfl) | (obtain ⟨_, _, _, _, _, rfl, _⟩ := h; rfl) | (obtain ⟨_, _, _, _, _, _, rfl, _⟩ := h; rfl) | (obtain ⟨_, _, _, _, _, _, _, rfl, _⟩ := h; rfl) | (obtain ⟨_, _, _, _, _, _, _, _, rfl, _⟩ := h; rfl) | (split at h <;> first | rfl | exact h.elim)
  · unfold sp__law_great at h
    obtain ⟨d, ps, ms, rfl, hp, hm, hpl, hml, c, r, D0, k⟩ := h
    have b0 := Bx.start D0
    simp_all only [N__law_great]
    infer_instance
    refine lcW_fun (l := List.range 16) (fun (i : Nat) => D.int (0 + (i : Int))) (fun (i : Nat) => D.str (toString (i : Int) : String)) (small_line2 (by simp)) trivial (fun x hx N F h' => ?_) ?_
    · have hx2 := List.mem_range.mp hx
      and_intros
      refine ⟨log2_lt (by decide) (Nat.lt_of_le_of_lt (m := 100000) (by omega) (by decide +kernel)), h'⟩
    obtain ⟨ns, hns, hn0, hnl⟩ : ∃ ns : List Str, (List.range 16).map (fun (i : Nat) => D.str (toString (i : Int) : String)) = ns.map D.str ∧ ns ≠ [] ∧ ns.length = 16 := ⟨(List.range 16).map fun (i : Nat) => ((toString (i : Int) : String) : Str), by rw [List.map_map]; rfl, by simp, by simp⟩
    rw [hns]
    infer_instance
    intro p hpn
    have b3 := b0.new (p := p) (o := .dit (esD [])) hpn
    infer_instance
    refine draw_B b3 (by omega) (by omega) (by omega) fun q M3 q0 q1 b4 => ?_
    infer_instance
    refine forR [6, 7] (fun i vs M' => ∃ x6 x7 es, vs = [x6, x7] ∧ Bx d c (r + 120 + 4 * ((100 + q).toNat - i)) M [(p, .dit (esD es))] M' ∧ es.length ≤ i ∧ es.Nodup) (fun _ _ _ _ => trivial) (fun i N hi hN vs M' hI => ?_) (fun vs M' hI => ?_) ⟨_, _, [], rfl, b4.mono (by omega), by simp, by simp⟩
    · obtain ⟨x6, x7, es, rfl, b5, h1, h2⟩ := hI
      infer_instance
      refine pick_BL b5 (by omega) hm (by omega) fun mk hmk M5 b6 => ?_
      infer_instance
      refine draw_B b6 (by omega) (by omega) (by omega) fun u M5 u0 u1 b7 => ?_
      infer_instance
      obtain ⟨b, hb⟩ : ∃ b, (u == 0) = b := ⟨_, rfl⟩
      refine pick_BL b7 (by omega) (by simp [hp]) (by simp; omega) fun a ha M6 b8 => ?_
      infer_instance
      refine pick_BL b8 (by omega) (by simp [hp]) (by simp; omega) fun t ht M7 b9 => ?_
      infer_instance
      try rw [hb]
      obtain ⟨mk', hmk'⟩ : ∃ m' : Str, (if b = true then D.str (Str.ofString "") else D.str mk) = .str m' := by
        cases b
        · exact ⟨mk, rfl⟩
        · exact ⟨_, rfl⟩
      rw [hmk']
      infer_instance
      rw [b9.dit1]
      infer_instance
      refine ⟨small_lt2 (by rw [esD_len]; omega), ?_⟩
      rw [show ([.inr a, .inr mk', .inr t] : List Key) = edK (a, mk', t) from rfl, put_es]
      refine hN _ _ _ rfl ⟨_, _, insE es (a, mk', t), rfl, b9.put1.mono (by omega), by have := insE_len (es := es) (e := (a, mk', t)); omega, insE_nodup h2⟩
    · obtain ⟨x6, x7, es, rfl, b5, h1, h2⟩ := hI
      infer_instance
      refine lcW_B 1 (fun y => ∃ s, (s ∈ ps ∨ s ∈ ns) ∧ y = .str s) (small_line2 (by simp; omega)) b5 (by simp; omega) (fun _ _ _ => trivial) (fun x hx n' M4 N F b6 hN hF => ?_) fun ys M4 hl hys b6 => ?_
      · obtain ⟨s, hs, rfl⟩ := List.mem_map.mp hx
        infer_instance
        refine draw_B b6 (by omega) (by omega) (by omega) fun u M5 u0 u1 b7 => ?_
        infer_instance
        refine ifs (fun _ => ?_) (fun _ => ?_)
        · exact hN _ _ ⟨s, by simpa using hs, rfl⟩ (b7.mono (by omega))
        · exact hF _ (b7.mono (by omega))
      · obtain ⟨Ee, rfl, hE, hEl⟩ := all_mapS hys
        infer_instance
        have b6 : Bx d c r M [(p, .dit (esD es))] M4 := b6.mono (by simp; simp at hl; omega)
        rw [b6.dit1]
        infer_instance
        rw [keys_es, sortD_eds]
        refine ⟨sortOk_ed, ?_⟩
        infer_instance
        refine ⟨sortOk_str, ?_⟩
        rw [sortD_strs]
        infer_instance
        refine b6.done k ⟨sortE es, sortS Ee, rfl, ?_⟩ (Nat.le_refl _)
        rw [sortE_len]; omega
/-- a pile drawn -/
def sp__law_pile : DSp := fun ds M R => ∃ (d : Addr) (E : List Ed) (F ms : List Str) (s : Str), ds = [.ref d, tgtD E F, .lst (ms.map D.str), .str s] ∧ ms ≠ [] ∧ ms.length ≤ 100 ∧ E.length ≤ 1000 ∧ Draws d 100 (fun x => ∃ w : List Str, x = .tup (w.map D.str) ∧ w.length ≤ 50) M R
theorem pile_B {M M0 : Mm} {d c : Addr} {r : Nat} {L : List (Addr × MO)} {E : List Ed} {F ms : List Str} {s : Str} {R : DQ} (b : Bx d c r M0 L M) (h1 : ms ≠ []) (h2 : ms.length ≤ 100) (h3 : E.length ≤ 1000) (hr : 100 ≤ r)
    (k : ∀ (w : List Str) M', w.length ≤ 50 → Bx d c (r - 100) M0 L M' → R (.tup (w.map D.str)) M') : sp__law_pile [.ref d, tgtD E F, .lst (ms.map D.str), .str s] M R :=
  ⟨d, E, F, ms, s, rfl, h1, h2, h3, b.draws hr fun x M' ⟨w, e, h⟩ b' => e ▸ k w M' h b'⟩
theorem ok__law_pile {f__law_pile f__law_draw f__law_pick : Addr} {fd__law_pile fd__law_draw fd__law_pick : FuncData} (F__law_pile : Fun K "_law_pile" "_law_pile" st__law_pile f__law_pile fd__law_pile) (G__law_draw : FnOk P w K mg base CX0 1 f__law_draw fd__law_draw ["_law_deck_here", "_law_most"] (toSp K sp__law_draw)) (g__law_draw : mg "_law_draw" = some (.ref f__law_draw)) (k__law_draw : PySem.W.keepIn K (.ref f__law_draw) = true) (b__law_draw : Binds K fd__law_draw ["_law_deck_here", "_law_most"] []) (G__law_pick : FnOk P w K mg base CX0 2 f__law_pick fd__law_pick ["_law_deck_here", "_law_some"] (toSp K sp__law_pick)) (g__law_pick : mg "_law_pick" = some (.ref f__law_pick)) (k__law_pick : PySem.W.keepIn K (.ref f__law_pick) = true) (b__law_pick : Binds K fd__law_pick ["_law_deck_here", "_law_some"] []) (z_int : mg "int" = none) (z_len : mg "len" = none) (z_tuple : mg "tuple" = none) : FnOk P w K mg base CX0 3 f__law_pile fd__law_pile ["_law_deck_here", "_law_machine_here", "_law_marks", "_law_state"] (toSp K sp__law_pile) := by
  refine fn_ok (k := 2) F__law_pile sc__law_pile (fun ds M R h => ?_) (fun cdv A outer s H E hr => ⟨_, (jb_cons (js_set (i := 4) sc__law_pile.nd (je_call G__law_draw (hr.mono (by decide)) (by rfl) g__law_draw k__law_draw b__law_draw (ja_cons (jv 0) (ja_cons je_int ja_nil))))
      (jb_cons (js_set (i := 5) sc__law_pile.nd (je_ix (je_frz (jl_disp (ja_cons (je_call G__law_draw (hr.mono (by decide)) (by rfl) g__law_draw k__law_draw b__law_draw (ja_cons (jv 0) (ja_cons je_int ja_nil))) (ja_cons je_int ja_nil)))) (je_int1 z_int (ja_cons (je_eq hr (je_call G__law_draw (hr.mono (by decide)) (by rfl) g__law_draw k__law_draw b__law_draw (ja_cons (jv 0) (ja_cons je_int ja_nil))) je_int) ja_nil))))
      (jb_cons (js_set (i := 6) sc__law_pile.nd (je_fresh (jl_disp ja_nil)))
      (jb_cons (js_set (i := 7) sc__law_pile.nd je_int)
      (jb_cons (js_while PassesOwn.never (JW.jt (jw_and (jt_lt (je_len z_len (ja_cons (jv 6) ja_nil)) (jv 5)) (jw_and1 (jt_lt (jv 7) je_int)))) (jb_cons (js_set (i := 7) sc__law_pile.nd (je_add (jv 7) je_int)) (jb_cons (js_setLcF (i := 8) rfl sc__law_pile.nd (jlc (ji_any (je_ix (jv 1) je_int)) (blkOk_by (own := [("_law_edge", 9)]) (N := N__law_pile) (sc := defScope st__law_pile) (by decide +kernel)) (fun _ _ _ _ _ => (jgv_name (i := 9) sc__law_pile.nd (by decide))) (fun _ _ _ _ _ => (jts_one (jt_eq hr (je_ix (jv 9) je_int) (jv 3)))) (fun _ _ _ _ _ => (jv 9))) (sw_true rfl rfl rfl (by decide +kernel))) (jb_one (js_if (JW.jt (jw_and (jt_gt (jv 4) je_int) (jw_and1 (jt_ne hr (jv 8) (je_frz (jl_disp ja_nil)))))) (jb_cons (js_set (i := 9) sc__law_pile.nd (je_call G__law_pick (hr.mono (by decide)) (by rfl) g__law_pick k__law_pick b__law_pick (ja_cons (jv 0) (ja_cons (jv 8) ja_nil)))) (jb_cons (js_set (i := 3) sc__law_pile.nd (je_ix (jv 9) je_int)) (jb_one (js_set (i := 6) sc__law_pile.nd (je_fresh (jl_cat (jv 6) (je_mulA (je_frz (jl_disp (ja_cons (je_ix (jv 9) je_int) ja_nil))) (je_int1 z_int (ja_cons (je_ne hr (je_ix (jv 9) je_int) je_str) ja_nil))))))))) (jb_one (js_expr (je_append (jv 6) (je_call G__law_pick (hr.mono (by decide)) (by rfl) g__law_pick k__law_pick b__law_pick (ja_cons (jv 0) (ja_cons (jv 2) ja_nil)))))))))))
      (jb_cons (js_if (JW.jt (jw_and (jt_eq hr (jv 4) je_int) (jw_and1 (jt_ne hr (jv 6) (je_frz (jl_disp ja_nil)))))) (jb_one (js_lput (jv 6) (je_call G__law_draw (hr.mono (by decide)) (by rfl) g__law_draw k__law_draw b__law_draw (ja_cons (jv 0) (ja_cons (je_len z_len (ja_cons (jv 6) ja_nil)) ja_nil))) (je_call G__law_pick (hr.mono (by decide)) (by rfl) g__law_pick k__law_pick b__law_pick (ja_cons (jv 0) (ja_cons (je_add (jv 2) (je_frz (jl_disp (ja_cons je_str ja_nil)))) ja_nil))))) jb_nil)
      (jb_one (js_ret (je_tuple z_tuple (ja_cons (jv 6) ja_nil)))))))))), fun ds M R h => ?_⟩)
  · unfold sp__law_pile at h
    first | (obtain ⟨rfl, _⟩ := h; rfl) | (obtain ⟨_, rfl, _⟩ := h; rfl) | (obtain ⟨_, _, rfl, _⟩ := h; rfl) | (obtain ⟨_, _, _, rfl, _⟩ := h; rfl) | (obtain ⟨_, _, _, _, rfl, _⟩ := h; rfl) | (obtain ⟨_, _, _, _, _, rfl, _⟩ := h; rfl) | (obtain ⟨_, _, _, _, _, _, rfl, _⟩ := h; rfl) | (obtain ⟨_, _, _, _, _, _, _, rfl, _⟩ := h; rfl) | (obtain ⟨_, _, _, _, _, _, _, _, rfl, _⟩ := h; rfl) | (split at h <;> first | rfl | exact h.elim)
  · unfold sp__law_pile at h
    obtain ⟨d, E, F, ms, s, rfl, hm, hml, hE, c, r, D0, k⟩ := h
    have b0 := Bx.start D0
    unfold tgtD
    simp_all only [N__law_pile]
    infer_instance
    refine draw_B b0 (by omega) (by omega) (by omega) fun wy M1 w0 w1 b1 => ?_
    infer_instance
    refine draw_B b1 (by omega) (by omega) (by omega) fun lg M2 l0 l1 b2 => ?_
    infer_instance
    refine draw_B b2 (by omega) (by omega) (by omega) fun e8 M3 e0 e1 b3 => ?_
    infer_instance
    intro p hpn
    have b4 := b3.new (p := p) (o := .lst []) hpn
    infer_instance
    obtain ⟨lo, hlo, lo0, lo1⟩ : ∃ lo : Int, (if (e8 == 3) = true then D.int 16 else D.int lg) = .int lo ∧ 0 ≤ lo ∧ lo ≤ 16 := by
      by_cases e : (e8 == 3) = true
      · rw [if_pos e]; exact ⟨16, rfl, by omega, by omega⟩
      · rw [if_neg e]; exact ⟨lg, rfl, by omega, by omega⟩
    rw [hlo]
    refine whileS [3, 6, 7, 8, 9] (fun m vs M' => ∃ (s : Str) (q : Addr) (w : List Str) (t : Nat) (z : Int) (x8 x9 : Option DM.D), vs = [some (.str s), some (.ref q), some (.int z), x8, x9] ∧ z = t ∧ Bx d c (r + 3 + 2 * m) M [(q, .lst (w.map .str))] M' ∧ t + m = 40 ∧ w.length ≤ t) 40 (fun m N hN vs M' hI => ?_) ⟨_, p, [], 0, _, _, _, rfl, rfl, b4.mono (by omega), by omega, by simp⟩
    obtain ⟨s, q, w, t, z, x8, x9, rfl, rfl, b5, h1, h2⟩ := hI
    simp_all only []
    refine len_l (xs := w.map .str) b5.lst1 ?_
    simp_all only []
    refine ifs (fun c1 => ifs (fun c2 => ?_) (fun c2 => ?_)) (fun c1 => ?_)
    rotate_left
    · infer_instance
      refine seqS [] (fun vs M2 => vs = [] ∧ ∃ w' : List Str, Bx d c r M [(q, .lst (w'.map .str))] M2 ∧ w'.length ≤ 40) (fun N2 hN2 => ?_) fun vs M4 hJ => ?_
      · try simp_all only []
        refine ifs (fun _ => ?_) (fun _ => hN2 [] _ _ rfl ⟨rfl, w, b5.mono (by omega), by omega⟩)
        refine ne_nil_l b5.lst1 (pureDs_str _) (Nat.le_trans (depDs_str _) (by decide)) ?_
        simp_all only []
        refine ifs (fun c3 => ?_) (fun _ => hN2 [] _ _ rfl ⟨rfl, w, b5.mono (by omega), by omega⟩)
        have hw0 : 0 < w.length := by cases w with | nil => simp at c3 | cons _ _ => simp
        refine ⟨small_line2 (by omega), ?_⟩
        rw [show ms.map D.str ++ [D.str (Str.ofString "nowhere")] = (ms ++ [Str.ofString "nowhere"]).map D.str by simp]
        refine pick_BL b5 (by omega) (by simp) (by simp; omega) fun u hu M5 b6 => ?_
        refine len_l (xs := w.map .str) b6.lst1 ?_
        rw [List.length_map]
        refine draw_B b6 (by omega) (by omega) (by omega) fun y M6 y0 y1 b7 => ?_
        obtain ⟨yn, rfl⟩ : ∃ k : Nat, y = k := ⟨y.toNat, by omega⟩
        rw [dlputI_r, b7.lst1]
        infer_instance
        rw [ixN_nat (by first | omega | (simp; omega))]
        infer_instance
        exact hN2 [] _ _ rfl ⟨rfl, w.set yn u, by rw [List.map_set]; exact b7.put1.mono (by omega), by simp; omega⟩
      · obtain ⟨rfl, w', b6, hw'⟩ := hJ
        infer_instance
        refine tup_go b6.lst1 ?_
        exact b6.done k ⟨w', rfl, by omega⟩ (Nat.le_refl _)
    · infer_instance
      refine seqS [] (fun vs M2 => vs = [] ∧ ∃ w' : List Str, Bx d c r M [(q, .lst (w'.map .str))] M2 ∧ w'.length ≤ 40) (fun N2 hN2 => ?_) fun vs M4 hJ => ?_
      · try simp_all only []
        refine ifs (fun _ => ?_) (fun _ => hN2 [] _ _ rfl ⟨rfl, w, b5.mono (by omega), by omega⟩)
        refine ne_nil_l b5.lst1 (pureDs_str _) (Nat.le_trans (depDs_str _) (by decide)) ?_
        simp_all only []
        refine ifs (fun c3 => ?_) (fun _ => hN2 [] _ _ rfl ⟨rfl, w, b5.mono (by omega), by omega⟩)
        have hw0 : 0 < w.length := by cases w with | nil => simp at c3 | cons _ _ => simp
        refine ⟨small_line2 (by omega), ?_⟩
        rw [show ms.map D.str ++ [D.str (Str.ofString "nowhere")] = (ms ++ [Str.ofString "nowhere"]).map D.str by simp]
        refine pick_BL b5 (by omega) (by simp) (by simp; omega) fun u hu M5 b6 => ?_
        refine len_l (xs := w.map .str) b6.lst1 ?_
        rw [List.length_map]
        refine draw_B b6 (by omega) (by omega) (by omega) fun y M6 y0 y1 b7 => ?_
        obtain ⟨yn, rfl⟩ : ∃ k : Nat, y = k := ⟨y.toNat, by omega⟩
        rw [dlputI_r, b7.lst1]
        infer_instance
        rw [ixN_nat (by first | omega | (simp; omega))]
        infer_instance
        exact hN2 [] _ _ rfl ⟨rfl, w.set yn u, by rw [List.map_set]; exact b7.put1.mono (by omega), by simp; omega⟩
      · obtain ⟨rfl, w', b6, hw'⟩ := hJ
        infer_instance
        refine tup_go b6.lst1 ?_
        exact b6.done k ⟨w', rfl, by omega⟩ (Nat.le_refl _)
    · infer_instance
      refine lcW_filter edD (fun e => decide (e.1 = s)) edD (small_line2 (by omega)) trivial (fun e _ NN F h1 h2 => ?_) ?_
      · simp only [edD]
        infer_instance
        exact ifs (fun c => h1 (by simpa using c)) (fun c => h2 (by simpa using c))
      · have hfl : (E.filter fun e => decide (e.1 = s)).length ≤ E.length := List.length_filter_le _ _
        revert hfl
        generalize (E.filter fun e => decide (e.1 = s)) = G
        intro hG
        infer_instance
        refine ifs (fun _ => ?_) (fun _ => ?_)
        · refine ⟨⟨pu_eds, by have := dep_eds (T := G); omega⟩, ?_⟩
          refine ifs (fun c3 => ?_) (fun _ => ?_)
          · have hG0 : G ≠ [] := by rintro rfl; simp at c3
            infer_instance
            refine pick_BL b5 (by omega) hG0 (by omega) fun e he M5 b6 => ?_
            obtain ⟨e1, e2, e3⟩ := e
            simp only [edD]
            infer_instance
            obtain ⟨kk, hk1, hk⟩ : ∃ k : Nat, k ≤ 1 ∧ (if (!e2 == Str.ofString "") = true then (1 : Int) else 0) = k := by
              by_cases c : (!e2 == Str.ofString "") = true
              · rw [if_pos c]; exact ⟨1, by omega, rfl⟩
              · rw [if_neg c]; exact ⟨0, by omega, rfl⟩
            rw [hk]
            refine ⟨⟨by omega, by omega, small_line2 (by omega)⟩, ?_⟩
            rw [b6.lst1, Int.toNat_natCast, ← List.map_replicate]
            infer_instance
            intro p2 hp2
            refine hN (m - 1) _ _ _ (by simp at c2; omega) rfl ⟨e3, p2, w ++ List.replicate kk e2, t + 1, _, _, _, rfl, by simp, ((b6.drop1).new hp2).mono (by simp at c2; omega), by simp at c2; omega, by simp; omega⟩
          · refine ⟨by rw [b5.lst1]; rfl, ?_⟩
            refine pick_BL b5 (by omega) hm (by omega) fun u hu M5 b6 => ?_
            refine append_go b6.lst1 (by rw [List.length_map]; exact small_lt2 (by omega)) ?_
            rw [show w.map D.str ++ [D.str u] = (w ++ [u]).map D.str by simp]
            try simp_all only []
            exact hN (m - 1) _ _ _ (by simp at c2; omega) rfl ⟨s, q, w ++ [u], t + 1, _, _, _, rfl, by simp, b6.put1.mono (by simp at c2; omega), by simp at c2; omega, by simp; omega⟩
        · refine ⟨by rw [b5.lst1]; rfl, ?_⟩
          refine pick_BL b5 (by omega) hm (by omega) fun u hu M5 b6 => ?_
          refine append_go b6.lst1 (by rw [List.length_map]; exact small_lt2 (by omega)) ?_
          rw [show w.map D.str ++ [D.str u] = (w ++ [u]).map D.str by simp]
          try simp_all only []
          exact hN (m - 1) _ _ _ (by simp at c2; omega) rfl ⟨s, q, w ++ [u], t + 1, _, _, _, rfl, by simp, b6.put1.mono (by simp at c2; omega), by simp at c2; omega, by simp; omega⟩
/-- the stand behind a rule, or None -/
def sp_behind : DSp := fun ds M R => ∃ (rs : List Rl) (s : St2) (n : Int), ds = [progD rs, stD s, .int n] ∧ rs.length ≤ 100000 ∧ s.2.length ≤ 1000000 ∧ (∀ r ∈ rs, r.w.length ≤ 1000) ∧ R (optD (behF rs s n)) M
theorem behind_go {M : Mm} {R : DQ} {rs : List Rl} {s : St2} {n : Int} (h1 : rs.length ≤ 100000) (h2 : s.2.length ≤ 1000000) (h3 : ∀ r ∈ rs, r.w.length ≤ 1000) (k : R (optD (behF rs s n)) M) : sp_behind [progD rs, stD s, .int n] M R := ⟨rs, s, n, rfl, h1, h2, h3, k⟩
theorem ok_behind {f_behind : Addr} {fd_behind : FuncData} (F_behind : Fun K "behind" "behind" st_behind f_behind fd_behind) (z_len : mg "len" = none) : FnOk P w K mg base CX0 1 f_behind fd_behind ["program", "stand", "number"] (toSp K sp_behind) := by
  refine fn_ok (k := 0) F_behind sc_behind (fun ds M R h => ?_) (fun cdv A outer s H E hr => ⟨_, (jb_cons (js_if (jt_not (jt_chain op_le op_lt l_le l_lt je_int (jv 2) (je_len z_len (ja_cons (jv 0) ja_nil)))) (jb_one (js_ret je_non)) jb_nil)
      (jb_cons (js_asg (jv 1) (jg_tup (n := 2) rfl (jgs_cons (jg_name (i := 3) sc_behind.nd) (jgs_cons (jg_name (i := 4) sc_behind.nd) jgs_nil))))
      (jb_cons (js_asg (je_ix (jv 0) (jv 2)) (jg_tup (n := 4) rfl (jgs_cons (jg_name (i := 5) sc_behind.nd) (jgs_cons (jg_name (i := 6) sc_behind.nd) (jgs_cons (jg_name (i := 7) sc_behind.nd) (jgs_cons (jg_name (i := 8) sc_behind.nd) jgs_nil))))))
      (jb_cons (js_if (JW.jt (jw_or (jt_ne hr (jv 3) (jv 5)) (jw_or1 (jt_ne hr (je_slice (jv 4) jo_none (jo_some je_int)) (je_tup (ja_cons (jv 6) ja_nil)))))) (jb_one (js_ret je_non)) jb_nil)
      (jb_one (js_ret (je_tup (ja_cons (jv 7) (ja_cons (je_add (jv 8) (je_slice (jv 4) (jo_some je_int) jo_none)) ja_nil))))))))), fun ds M R h => ?_⟩)
  · unfold sp_behind at h
    first | (obtain ⟨rfl, _⟩ := h; rfl) | (obtain ⟨_, rfl, _⟩ := h; rfl) | (obtain ⟨_, _, rfl, _⟩ := h; rfl) | (obtain ⟨_, _, _, rfl, _⟩ := h; rfl) | (obtain ⟨_, _, _, _, rfl, _⟩ := h; rfl) | (obtain ⟨_, _, _, _, _, rfl, _⟩ := h; rfl) | (obtain ⟨_, _, _, _, _, _, rfl, _⟩ := h; rfl) | (obtain ⟨_, _, _, _, _, _, _, rfl, _⟩ := h; rfl) | (obtain ⟨_, _, _, _, _, _, _, _, rfl, _⟩ := h; rfl) | (split at h <;> first | rfl | exact h.elim)
  · unfold sp_behind at h
    obtain ⟨rs, ⟨pl, pile⟩, n, rfl, hl, hs, hw, k⟩ := h
    dsimp? only [N_behind, progD, stD, List.length_map, dChain]
    refine ifs (fun h0 => ?_) (fun h0 => ?_)
    · have h0 : 0 ≤ n := by simpa using h0
      refine ifs (fun h1 => ?_) (fun h1 => ?_)
      · have h1 : (rs.length : Int) ≤ n := by simpa using h1
        rw [show behF rs (pl, pile) n = none by unfold behF; rw [if_pos h0, List.getElem?_eq_none (by omega)]] at k
        exact Shr.all k
      · have h1 : n < (rs.length : Int) := by simpa using h1
        obtain ⟨r, hr, mr⟩ : ∃ r, rs[n.toNat]? = some r ∧ r ∈ rs := ⟨_, List.getElem?_eq_getElem (by omega), List.getElem_mem _⟩
        rw [show behF rs (pl, pile) n = DM.stepF r (pl, pile) by unfold behF; rw [if_pos h0, hr]] at k
        refine ix_t (d := ruleD r) h0 (by rw [List.getElem?_map, hr]; rfl) ?_
        dsimp? only [ruleD]
        refine ifs (fun h2 => ?_) (fun h2 => ?_)
        · rw [show DM.stepF r (pl, pile) = none by unfold DM.stepF; rw [if_neg]; rintro ⟨e, _⟩; simp only at e; rw [e] at h2; simp at h2] at k
          exact Shr.all k
        · have h2 : pl = r.p := by simpa using h2
          refine ⟨by decide, ⟨cut1_ok, strs_ok (xs := [r.m])⟩, ?_⟩
          rw [eqv_take]
          refine ifs (fun h3 => ?_) (fun h3 => ?_)
          · have h3 : ¬ pile.take 1 = [r.m] := by simpa using h3
            rw [show DM.stepF r (pl, pile) = none by unfold DM.stepF; rw [if_neg]; rintro ⟨_, e⟩; exact h3 e] at k
            exact Shr.all k
          · have h3 : pile.take 1 = [r.m] := by simpa using h3
            rw [show DM.stepF r (pl, pile) = some (r.o, r.w ++ pile.drop 1) by unfold DM.stepF; rw [if_pos ⟨h2, h3⟩]] at k
            rw [← List.map_drop]
            refine ⟨small_line2 (by simp only [List.length_map, List.length_drop]; have := hw r mr; simp only at hs; omega), by decide, ?_⟩
            rw [← List.map_append]
            exact Shr.all k
    · rw [show behF rs (pl, pile) n = none by unfold behF; rw [if_neg (by simpa using h0)]] at k
      exact Shr.all k
/-- the stand behind a run; NoRun, with the place of the first step that doesn't go -/
def sp_walked (NoRun : Addr) : DSpX := fun ds M R xc => ∃ (rs : List Rl) (s : St2) (ns : List Int), ds = [progD rs, stD s, .tup (ns.map D.int)] ∧ rs.length ≤ 100000 ∧ ns.length ≤ 100000 ∧ s.2.length ≤ 100000 ∧ (∀ r ∈ rs, r.w.length ≤ 2) ∧
  match goF rs s ns 0 with | .inl t => R (stD t) M | .inr k => xc NoRun [("at", .int (k : Nat))] M
theorem walked_go {NoRun : Addr} {M : Mm} {R : DQ} {xc : Addr → List (Str × D) → Mm → Prop} {rs : List Rl} {s : St2} {ns : List Int} (h1 : rs.length ≤ 100000) (h2 : ns.length ≤ 100000) (h3 : s.2.length ≤ 100000) (h4 : ∀ r ∈ rs, r.w.length ≤ 2)
    (h : ∀ t, goF rs s ns 0 = .inl t → R (stD t) M) (h' : ∀ k, goF rs s ns 0 = .inr k → xc NoRun [("at", .int (k : Nat))] M) : sp_walked NoRun [progD rs, stD s, .tup (ns.map D.int)] M R xc :=
  ⟨rs, s, ns, rfl, h1, h2, h3, h4, by
    split
    · exact h _ ‹_›
    · exact h' _ ‹_›⟩
theorem ok_walked {f_walked f_behind : Addr} {fd_walked fd_behind : FuncData} {f_PileError f_NoRun f_NoRun_init : Addr} (TX : Exs K mg f_PileError f_NoRun f_NoRun_init) {fd_NoRun_init : FuncData} (G_NoRun_init : FnOk P w K mg base CX0 1 f_NoRun_init fd_NoRun_init ["self", "at"] (spInit f_NoRun "at")) (b_NoRun_init : Binds K fd_NoRun_init ["self", "at"] []) (F_walked : Fun K "walked" "walked" st_walked f_walked fd_walked) (G_behind : FnOk P w K mg base CX0 1 f_behind fd_behind ["program", "stand", "number"] (toSp K sp_behind)) (g_behind : mg "behind" = some (.ref f_behind)) (k_behind : PySem.W.keepIn K (.ref f_behind) = true) (b_behind : Binds K fd_behind ["program", "stand", "number"] []) (z_enumerate : mg "enumerate" = none) : FnOk P w K mg base (L2.CX P w) 3 f_walked fd_walked ["program", "stand", "run"] (toSpX K (sp_walked f_NoRun)) := by
  refine fn_okX (k := 2) F_walked sc_walked (fun ds M R xc h => ?_) (fun cdv A outer s H E hr => ⟨_, (jb_cons (js_for (passes_of rfl) rfl (ji_enum z_enumerate (jv 2)) (jg_tup (n := 2) rfl (jgs_cons (jg_name (i := 3) sc_walked.nd) (jgs_cons (jg_name (i := 4) sc_walked.nd) jgs_nil))) (jb_cons (js_set (i := 1) sc_walked.nd (je_call G_behind (hr.mono (by decide)) (by rfl) g_behind k_behind b_behind (ja_cons (jv 0) (ja_cons (jv 1) (ja_cons (jv 4) ja_nil))))) (jb_one (js_if (jt_is (jv 1) je_non) (jb_one (js_raise1 rfl (takes_of rfl rfl rfl rfl) TX.o_NoRun TX.i_NoRun TX.ti_NoRun G_NoRun_init (hr.mono (by decide)) b_NoRun_init (by rfl) TX.m_NoRun (jv 3))) jb_nil))))
      (jb_one (js_ret (jv 1)))), fun ds M R xc h => ?_⟩)
  · unfold sp_walked at h
    first | (obtain ⟨rfl, _⟩ := h; rfl) | (obtain ⟨_, rfl, _⟩ := h; rfl) | (obtain ⟨_, _, rfl, _⟩ := h; rfl) | (obtain ⟨_, _, _, rfl, _⟩ := h; rfl) | (obtain ⟨_, _, _, _, rfl, _⟩ := h; rfl) | (obtain ⟨_, _, _, _, _, rfl, _⟩ := h; rfl)
  · unfold sp_walked at h
    obtain ⟨rs, s, ns, rfl, hl, hn, hs, hw, k⟩ := h
    simp? only [N_walked]
    refine seq_cut (fun ds M' => M' = M ∧ ∃ s' x3 x4, ds = [some (progD rs), some (stD s'), some (.tup (ns.map D.int)), x3, x4] ∧ goF rs s ns 0 = .inl s') (fun N hN => ?_) fun ds M' hJ => ?_
    · try simp? only []
      refine forW_go (fun i ds M' => M' = M ∧ ∃ s' x3 x4, ds = [some (progD rs), some (stD s'), some (.tup (ns.map D.int)), x3, x4] ∧ goF rs s ns 0 = goF rs s' (ns.drop i) i ∧ i ≤ ns.length ∧ s'.2.length ≤ 100000 + 2 * i) _ (fun _ _ _ _ => trivial) (fun i x N' e hN' ds M' hI => ?_) (fun ds M' hI => ?_) _ _ ⟨rfl, s, none, none, rfl, rfl, Nat.zero_le _, by omega⟩
      · obtain ⟨rfl, s', x3, x4, rfl, hg, hi, hsl⟩ := hI
        obtain ⟨y, h1, rfl⟩ := enumD_get e
        rw [List.getElem?_map] at h1
        obtain ⟨n, h2, rfl⟩ := Option.map_eq_some_iff.mp h1
        have hlt := (List.getElem?_eq_some_iff.mp h2).1
        have hdrop : ns.drop i = n :: ns.drop (i + 1) := by
          rw [List.drop_eq_getElem_cons hlt]
          rw [List.getElem?_eq_getElem hlt] at h2
          cases h2; rfl
        rw [hdrop] at hg
        try simp? only []
        refine seq_go ?_
        try simp? only []
        refine behind_go hl (by omega) (fun r hr => by have := hw r hr; omega) ?_
        try simp? only []
        rw [show goF rs s' (n :: ns.drop (i + 1)) i = (match behF rs s' n with | some t => goF rs t (ns.drop (i + 1)) (i + 1) | none => .inr i) from rfl] at hg
        cases hb : behF rs s' n with
        | none =>
          simp? only [optD]
          rw [hb] at hg
          simp only at hg
          rw [hg] at k
          rw [Nat.zero_add]
          exact ⟨log2_lt (by decide) (Nat.lt_of_le_of_lt (show (i : Int).natAbs ≤ 100000 by omega) (by decide)), ShrX.all k⟩
        | some t =>
          simp? only [optD, stD]
          rw [hb] at hg
          exact hN' _ _ ⟨rfl, t, _, _, rfl, hg, hlt, by have := behF_len2 hw hb; omega⟩
      · obtain ⟨rfl, s', x3, x4, rfl, hg, hi, hsl⟩ := hI
        rw [enumD_len, List.length_map, List.drop_length] at hg
        exact hN _ _ ⟨rfl, s', _, _, rfl, hg⟩
    · obtain ⟨rfl, s', x3, x4, rfl, hg⟩ := hJ
      rw [hg] at k
      try simp? only []
      exact Shr.all k
/-- the states behind a state and a mark -/
def sp_Reader_by (Reader : Addr) : DSp := fun ds M R => ∃ (M0 : Mm) (a : Addr) (E : List Ed) (s m : Str), ds = [.ref a, .str s, .str m] ∧ RdrAt M0 M Reader a E ∧ ∀ d, rdL M d = some ((byE E s m).map .str) → (∃ xs, d = .lst xs) ∨ (∃ q, d = .ref q ∧ M0 q = none) → R d M
theorem by_go {M M0 : Mm} {R : DQ} {Reader a : Addr} {E : List Ed} {s m : Str} (h : RdrAt M0 M Reader a E) (k : ∀ d, rdL M d = some ((byE E s m).map .str) → (∃ xs, d = .lst xs) ∨ (∃ q, d = .ref q ∧ M0 q = none) → R d M) : sp_Reader_by Reader [.ref a, .str s, .str m] M R := ⟨M0, a, E, s, m, rfl, h, k⟩
theorem ok_Reader_by {f_Reader_by f_Reader f_Reader_slipped f_Reader_on f_Reader_read f_Reader_init : Addr} {fd_Reader_by : FuncData} (TC : Owns K mg f_Reader f_Reader_by f_Reader_slipped f_Reader_on f_Reader_read f_Reader_init) (F_Reader_by : Fun K "by" "Reader.by" st_Reader_by f_Reader_by fd_Reader_by) : FnOk P w K mg base CX0 1 f_Reader_by fd_Reader_by ["self", "state", "mark"] (toSp K (sp_Reader_by f_Reader)) := by
  refine fn_ok (k := 0) F_Reader_by sc_Reader_by (fun ds M R h => ?_) (fun cdv A outer s H E hr => ⟨_, (jb_one (js_ret (je_get2 hr (je_get2 hr (je_fld ⟨TC.c_Reader, TC.n_Reader_leads⟩ (jv 0)) (jv 1) (je_frzD jd_empty)) (jv 2) (je_frz (jl_disp ja_nil))))), fun ds M R h => ?_⟩)
  · unfold sp_Reader_by at h
    first | (obtain ⟨rfl, _⟩ := h; rfl) | (obtain ⟨_, rfl, _⟩ := h; rfl) | (obtain ⟨_, _, rfl, _⟩ := h; rfl) | (obtain ⟨_, _, _, rfl, _⟩ := h; rfl) | (obtain ⟨_, _, _, _, rfl, _⟩ := h; rfl) | (obtain ⟨_, _, _, _, _, rfl, _⟩ := h; rfl) | (obtain ⟨_, _, _, _, _, _, rfl, _⟩ := h; rfl) | (obtain ⟨_, _, _, _, _, _, _, rfl, _⟩ := h; rfl) | (obtain ⟨_, _, _, _, _, _, _, _, rfl, _⟩ := h; rfl) | (split at h <;> first | rfl | exact h.elim)
  · unfold sp_Reader_by at h
    obtain ⟨M0, a, E, s, m, rfl, ⟨l, hi, pA, qA, S, T, L, n, hL, hn, hLE⟩, k⟩ := h
    obtain ⟨kvs, hk, hl, h3⟩ := hL.to.ld
    simp_all only [N_Reader_by]
    infer_instance
    refine fld_go hi (by rfl) ?_
    infer_instance
    rw [hk]
    refine ⟨rfl, ?_⟩
    simp only [someI_s]
    cases e1 : valD kvs (Sum.inr s) with
    | none =>
      have hs := hL.to.none_of hk e1
      have e2 : byE E s m = [] := by rw [← hLE]; exact hL.to.out s m fun ht => hs (hL.to.ts s m ht)
      rw [e2] at k
      exact ⟨rfl, Shr.all (k (.lst []) rfl (.inl ⟨_, rfl⟩))⟩
    | some d =>
      obtain ⟨hs, rfl⟩ := (h3 s d).mp e1
      obtain ⟨ms, hm, hml, hm3⟩ := hL.to.inn s hs
      simp only [Option.getD_some, rdD_ref, hm, someI_s]
      refine ⟨rfl, ?_⟩
      cases e2 : valD ms (Sum.inr m) with
      | none =>
        have e3 : byE E s m = [] := by
          rw [← hLE]
          refine hL.to.out s m fun ht => ?_
          have := (hm3 m _).mpr ⟨ht, rfl⟩
          rw [e2] at this
          cases this
        rw [e3] at k
        exact Shr.all (k (.lst []) rfl (.inl ⟨_, rfl⟩))
      | some d =>
        obtain ⟨ht, rfl⟩ := (hm3 m d).mp e2
        have := hL.to.lst s m ht
        rw [hLE] at this
        exact Shr.all (k _ this (.inr ⟨_, rfl, hL.oq s m ht⟩))
--KD found
--MUT waiting
/-- all to which slips lead from some states, rising -/
def sp_Reader_slipped (Reader : Addr) : DSp := fun ds M R => ∃ (M0 : Mm) (a : Addr) (E : List Ed) (x : D) (xs : List Str), ds = [.ref a, x] ∧ RdrAt M0 M Reader a E ∧ rdS M x = some (xs.map .str) ∧ E.length ≤ 200000 ∧ xs.length ≤ 200000 ∧ ∀ ys, RisS ys → (∀ z, z ∈ ys ↔ Slips E (· ∈ xs) z) → R (.tup (ys.map .str)) M
theorem slipped_go {M M0 : Mm} {R : DQ} {Reader a : Addr} {E : List Ed} {x : D} {xs : List Str} (h : RdrAt M0 M Reader a E) (e : rdS M x = some (xs.map .str)) (h1 : E.length ≤ 200000) (h2 : xs.length ≤ 200000) (k : ∀ ys, RisS ys → (∀ z, z ∈ ys ↔ Slips E (· ∈ xs) z) → R (.tup (ys.map .str)) M) : sp_Reader_slipped Reader [.ref a, x] M R := ⟨M0, a, E, x, xs, rfl, h, e, h1, h2, k⟩
theorem ok_Reader_slipped {f_Reader_slipped f_Reader_by f_Reader f_Reader_on f_Reader_read f_Reader_init : Addr} {fd_Reader_slipped fd_Reader_by : FuncData} (TC : Owns K mg f_Reader f_Reader_by f_Reader_slipped f_Reader_on f_Reader_read f_Reader_init) (F_Reader_slipped : Fun K "slipped" "Reader.slipped" st_Reader_slipped f_Reader_slipped fd_Reader_slipped) (G_Reader_by : FnOk P w K mg base CX0 1 f_Reader_by fd_Reader_by ["self", "state", "mark"] (toSp K (sp_Reader_by f_Reader))) (b_Reader_by : Binds K fd_Reader_by ["self", "state", "mark"] []) (z_list : mg "list" = none) (z_tuple : mg "tuple" = none) (z_sorted : mg "sorted" = none) : FnOk P w K mg base CX0 2 f_Reader_slipped fd_Reader_slipped ["self", "states"] (toSp K (sp_Reader_slipped f_Reader)) := by
  refine fn_ok (k := 1) F_Reader_slipped sc_Reader_slipped (fun ds M R h => ?_) (fun cdv A outer s H E hr => ⟨_, (jb_cons (js_set (i := 2) sc_Reader_slipped.nd (je_freshD jd_empty))
      (jb_cons (js_set (i := 3) sc_Reader_slipped.nd (je_fresh (jl_list z_list (ja_cons (jv 1) ja_nil))))
      (jb_cons (js_while PassesOwn.never (jt_ne hr (jv 3) (je_frz (jl_disp ja_nil))) (jb_cons (js_set (i := 4) sc_Reader_slipped.nd (je_pop0 (jv 3))) (jb_one (js_if (jt_notin hr (jv 4) (jv 2)) (jb_cons (js_dput hr (jv 2) (jv 4) je_bl) (jb_one (js_expr (je_extendA (jv 3) (je_meth TC.c_Reader TC.t_Reader_by G_Reader_by (hr.mono (by decide)) b_Reader_by (jv 0) (ja_cons (jv 4) (ja_cons je_str ja_nil))))))) jb_nil))))
      (jb_one (js_ret (je_tuple z_tuple (ja_cons (je_frz (jl_sortedK rfl hr z_sorted (jv 2))) ja_nil))))))), fun ds M R h => ?_⟩)
  · unfold sp_Reader_slipped at h
    first | (obtain ⟨rfl, _⟩ := h; rfl) | (obtain ⟨_, rfl, _⟩ := h; rfl) | (obtain ⟨_, _, rfl, _⟩ := h; rfl) | (obtain ⟨_, _, _, rfl, _⟩ := h; rfl) | (obtain ⟨_, _, _, _, rfl, _⟩ := h; rfl) | (obtain ⟨_, _, _, _, _, rfl, _⟩ := h; rfl) | (obtain ⟨_, _, _, _, _, _, rfl, _⟩ := h; rfl) | (obtain ⟨_, _, _, _, _, _, _, rfl, _⟩ := h; rfl) | (obtain ⟨_, _, _, _, _, _, _, _, rfl, _⟩ := h; rfl) | (split at h <;> first | rfl | exact h.elim)
  · unfold sp_Reader_slipped at h
    obtain ⟨M0, a, E, x, xs, rfl, hR, ex, hE, hx, k⟩ := h
    simp_all only [N_Reader_slipped]
    infer_instance
    intro f hf
    infer_instance
    rw [rdS_sub (Sub.mup hf) ex]
    infer_instance
    intro w hw
    have b0 := ((Px.start (M := M)).new (o := .dic (txD [])) hf).new (o := .lst (xs.map .str)) hw
    infer_instance
    refine whileS [4] (fun m vs M' => ∃ x4 F W, vs = [x4] ∧ Px M [(w, .lst (W.map .str)), (f, .dic (txD F))] M' ∧ W.length + slipsLeft E F = m ∧ m ≤ xs.length + E.length ∧ F.Nodup ∧ (∀ z, z ∈ F ∨ z ∈ W → Slips E (· ∈ xs) z) ∧ (∀ z, z ∈ xs → z ∈ F ∨ z ∈ W) ∧ ∀ x ∈ F, ∀ z, (x, ("" : Str), z) ∈ E → z ∈ F ∨ z ∈ W) (xs.length + slipsLeft E []) (fun m N hN vs M' hI => ?_) ⟨_, [], xs, rfl, b0, rfl, by have := slipsLeft_nil E; omega, by simp, fun z hz => .base (by simpa using hz), fun z hz => .inr hz, by simp⟩
    obtain ⟨x4, F, W, rfl, b, hm, hm2, hF, h1, h2, h3⟩ := hI
    simp_all only []
    refine ne_nil_l b.lst1 (pureDs_str _) (Nat.le_trans (depDs_str _) (by decide)) ?_
    have hFl : F.length ≤ xs.length + E.length := slips_len hF fun z hz => Slips.from (h1 z (.inl hz))
    rcases List.eq_nil_or_concat W with rfl | ⟨W', s, rfl⟩
    · infer_instance
      refine sortedK_g b.dic2 (by rw [keys_tx]; exact sortOk_str) ?_
      rw [keys_tx, sortD_strs]
      infer_instance
      refine b.fin (k _ (sortS_ris hF) fun z => ?_)
      rw [sortS_mem]
      exact slips_done (fun z hz => h1 z (.inl hz)) (fun z hz => by simpa using h2 z hz) (fun x hx z he => by simpa using h3 x hx z he) z
    · simp only [List.concat_eq_append] at *
      have e : ((W' ++ [s]).map D.str).isEmpty = false := by simp
      rw [e]
      infer_instance
      refine ⟨by rw [b.lst1]; rfl, ?_⟩
      refine pop_go (xs := W'.map D.str) (d := .str s) (by rw [b.lst1]; simp) ?_
      have b2 := b.put1 (o' := .lst (W'.map .str))
      infer_instance
      refine notin_dic b2.dic2 ?_
      rw [val_tx]
      infer_instance
      by_cases hs : s ∈ F
      · rw [if_neg (by simp [hs])]
        refine hN (W'.length + slipsLeft E F) _ _ _ (by simp at hm; omega) rfl ⟨_, F, W', rfl, b2, rfl, by simp at hm; omega, hF, fun z hz => h1 z (hz.imp id fun h => by simp [h]), fun z hz => ?_, fun y hy z he => ?_⟩
        · rcases h2 z hz with h | h
          · exact .inl h
          · rcases List.mem_append.mp h with h | h
            · exact .inr h
            · rw [List.mem_singleton.mp h]; exact .inl hs
        · rcases h3 y hy z he with h | h
          · exact .inl h
          · rcases List.mem_append.mp h with h | h
            · exact .inr h
            · rw [List.mem_singleton.mp h]; exact .inl hs
      · rw [if_pos (by simp [hs])]
        infer_instance
        rw [b2.dic2]
        refine ⟨by rw [show (txD F).length = F.length by simp [txD]]; exact small_lt2 (by omega), ?_⟩
        rw [put_tx]
        have b3 := b2.put2 (o' := .dic (txD (insS F s)))
        have e3 : insS F s = F ++ [s] := if_neg hs
        have hsl := slipsLeft_add (E := E) hs
        have hbl := byE_len E s ("" : Str)
        infer_instance
        refine ⟨by rw [b3.lst1]; rfl, ?_⟩
        obtain ⟨l, hRi, hRl⟩ := hR
        refine meth_g (insOf_sub b3.ex hRi) (by rfl) ?_
        infer_instance
        refine by_go (RdrAt.frame ⟨l, hRi, hRl⟩ b3.ex) fun d hd ho => ?_
        refine ext_go b3.lst1 (rdS_of_L hd) ?_ ?_
        · exact Nat.le_of_lt (small_lt2 (by simp at hm ⊢; omega))
        · have b4 := b3.put1 (o' := .lst ((W' ++ byE E s ("" : Str)).map .str))
          rw [← List.map_append]
          infer_instance
          have hsS : Slips E (· ∈ xs) s := h1 s (.inr (by simp))
          refine hN (W'.length + slipsLeft E F) _ _ _ (by simp at hm; omega) rfl ⟨_, insS F s, W' ++ byE E s ("" : Str), rfl, b4, by rw [e3, List.length_append]; omega, by simp at hm; omega, insS_nodup hF, fun z hz => ?_, fun z hz => ?_, fun y hy z he => ?_⟩
          · rw [insS_mem, List.mem_append, byE_mem] at hz
            rcases hz with (h | rfl) | h | h
            · exact h1 z (.inl h)
            · exact hsS
            · exact h1 z (.inr (by simp [h]))
            · exact .step hsS h
          · rw [insS_mem, List.mem_append]
            rcases h2 z hz with h | h
            · exact .inl (.inl h)
            · rcases List.mem_append.mp h with h | h
              · exact .inr (.inl h)
              · rw [List.mem_singleton.mp h]; exact .inl (.inr rfl)
          · rw [insS_mem, List.mem_append, byE_mem]
            rw [insS_mem] at hy
            rcases hy with hy | rfl
            · rcases h3 y hy z he with h | h
              · exact .inl (.inl h)
              · rcases List.mem_append.mp h with h | h
                · exact .inr (.inl h)
                · rw [List.mem_singleton.mp h]; exact .inl (.inr rfl)
            · exact .inr (.inr he)
--MUT found
/-- the states behind some states and a mark -/
def sp_Reader_on (Reader : Addr) : DSp := fun ds M R => ∃ (M0 : Mm) (a : Addr) (E : List Ed) (ys : List Str) (m : Str), ds = [.ref a, .tup (ys.map .str), .str m] ∧ RdrAt M0 M Reader a E ∧ RisS ys ∧ E.length ≤ 200000 ∧ ∀ zs, RisS zs → (∀ z, z ∈ zs ↔ Slips E (stepP E m (· ∈ ys)) z) → R (.tup (zs.map .str)) M
theorem on_go {M M0 : Mm} {R : DQ} {Reader a : Addr} {E : List Ed} {ys : List Str} {m : Str} (h : RdrAt M0 M Reader a E) (hy : RisS ys) (h1 : E.length ≤ 200000) (k : ∀ zs, RisS zs → (∀ z, z ∈ zs ↔ Slips E (stepP E m (· ∈ ys)) z) → R (.tup (zs.map .str)) M) : sp_Reader_on Reader [.ref a, .tup (ys.map .str), .str m] M R := ⟨M0, a, E, ys, m, rfl, h, hy, h1, k⟩
theorem ok_Reader_on {f_Reader_on f_Reader_by f_Reader_slipped f_Reader f_Reader_read f_Reader_init : Addr} {fd_Reader_on fd_Reader_by fd_Reader_slipped : FuncData} (TC : Owns K mg f_Reader f_Reader_by f_Reader_slipped f_Reader_on f_Reader_read f_Reader_init) (F_Reader_on : Fun K "on" "Reader.on" st_Reader_on f_Reader_on fd_Reader_on) (G_Reader_by : FnOk P w K mg base CX0 1 f_Reader_by fd_Reader_by ["self", "state", "mark"] (toSp K (sp_Reader_by f_Reader))) (b_Reader_by : Binds K fd_Reader_by ["self", "state", "mark"] []) (G_Reader_slipped : FnOk P w K mg base CX0 2 f_Reader_slipped fd_Reader_slipped ["self", "states"] (toSp K (sp_Reader_slipped f_Reader))) (b_Reader_slipped : Binds K fd_Reader_slipped ["self", "states"] []) : FnOk P w K mg base CX0 3 f_Reader_on fd_Reader_on ["self", "states", "mark"] (toSp K (sp_Reader_on f_Reader)) := by
  refine fn_ok (k := 2) F_Reader_on sc_Reader_on (fun ds M R h => ?_) (fun cdv A outer s H E hr => ⟨_, (jb_cons (js_set (i := 3) sc_Reader_on.nd (je_fresh (jl_disp ja_nil)))
      (jb_cons (js_for PassesOwn.never rfl (ji_any (jv 1)) (jg_name (i := 4) sc_Reader_on.nd) (jb_one (js_expr (je_extendA (jv 3) (je_meth TC.c_Reader TC.t_Reader_by G_Reader_by (hr.mono (by decide)) b_Reader_by (jv 0) (ja_cons (jv 4) (ja_cons (jv 2) ja_nil)))))))
      (jb_one (js_ret (je_meth TC.c_Reader TC.t_Reader_slipped G_Reader_slipped (hr.mono (by decide)) b_Reader_slipped (jv 0) (ja_cons (jv 3) ja_nil)))))), fun ds M R h => ?_⟩)
  · unfold sp_Reader_on at h
    first | (obtain ⟨rfl, _⟩ := h; rfl) | (obtain ⟨_, rfl, _⟩ := h; rfl) | (obtain ⟨_, _, rfl, _⟩ := h; rfl) | (obtain ⟨_, _, _, rfl, _⟩ := h; rfl) | (obtain ⟨_, _, _, _, rfl, _⟩ := h; rfl) | (obtain ⟨_, _, _, _, _, rfl, _⟩ := h; rfl) | (obtain ⟨_, _, _, _, _, _, rfl, _⟩ := h; rfl) | (obtain ⟨_, _, _, _, _, _, _, rfl, _⟩ := h; rfl) | (obtain ⟨_, _, _, _, _, _, _, _, rfl, _⟩ := h; rfl) | (split at h <;> first | rfl | exact h.elim)
  · unfold sp_Reader_on at h
    obtain ⟨M0, a, E, ys, m, rfl, hR, hys, hE, k⟩ := h
    simp_all only [N_Reader_on]
    infer_instance
    intro f hf
    infer_instance
    have b0 := (Px.start (M := M)).new (o := .lst []) hf
    have hfl : ∀ i, ((ys.take i).flatMap (byE E · m)).length ≤ E.length := fun i => behind_len ((List.take_sublist i ys).nodup (ris_nodup hys))
    refine forS [4] (fun i vs M' => ∃ x4, vs = [x4] ∧ Px M [(f, .lst (((ys.take i).flatMap (byE E · m)).map .str))] M') (fun _ _ _ _ => trivial) (fun i x N e hN vs M' hI => ?_) (fun vs M' hI => ?_) ⟨_, rfl, b0⟩
    · obtain ⟨x4, rfl, b⟩ := hI
      rw [List.getElem?_map] at e
      obtain ⟨y, he, rfl⟩ := Option.map_eq_some_iff.mp e
      infer_instance
      refine ⟨by rw [b.lst1]; rfl, ?_⟩
      obtain ⟨l, hRi, hRl⟩ := hR
      refine meth_g (insOf_sub b.ex hRi) (by rfl) ?_
      infer_instance
      refine by_go (RdrAt.frame ⟨l, hRi, hRl⟩ b.ex) fun d hd ho => ?_
      have h1 := hfl (i + 1)
      rw [flat_take he, List.length_append] at h1
      refine ext_go b.lst1 (rdS_of_L hd) ?_ ?_
      · simp only [List.length_map]; exact Nat.le_of_lt (small_lt2 (by omega))
      · rw [← List.map_append, ← flat_take (f := (byE E · m)) he]
        infer_instance
        exact hN _ _ _ rfl ⟨_, rfl, b.put1⟩
    · obtain ⟨x4, rfl, b⟩ := hI
      rw [List.length_map, List.take_length] at b
      have h1 := hfl ys.length
      rw [List.take_length] at h1
      obtain ⟨l, hRi, hRl⟩ := hR
      infer_instance
      refine meth_g (insOf_sub b.ex hRi) (by rfl) ?_
      infer_instance
      refine slipped_go (xs := ys.flatMap (byE E · m)) (RdrAt.frame ⟨l, hRi, hRl⟩ b.ex) (show lstOf _ _ = _ from b.lst1) hE (by omega) fun zs hz hm => ?_
      infer_instance
      exact b.fin (k zs hz fun z => (hm z).trans (Slips.congr (fun x => behind_mem) z))
/-- where a pile leads from a state -/
def sp_Reader_read (Reader : Addr) : DSp := fun ds M R => ∃ (M0 : Mm) (a : Addr) (E : List Ed) (s : Str) (w : List Str), ds = [.ref a, .str s, .tup (w.map .str)] ∧ RdrAt M0 M Reader a E ∧ w.length ≤ 100000 ∧ E.length ≤ 200000 ∧ ∀ zs, RisS zs → (∀ z, z ∈ zs ↔ ReadsTo E s w z) → R (.tup (zs.map .str)) M
theorem read_go {M M0 : Mm} {R : DQ} {Reader a : Addr} {E : List Ed} {s : Str} {w : List Str} (h : RdrAt M0 M Reader a E) (hw : w.length ≤ 100000) (h1 : E.length ≤ 200000) (k : ∀ zs, RisS zs → (∀ z, z ∈ zs ↔ ReadsTo E s w z) → R (.tup (zs.map .str)) M) : sp_Reader_read Reader [.ref a, .str s, .tup (w.map .str)] M R := ⟨M0, a, E, s, w, rfl, h, hw, h1, k⟩
theorem ok_Reader_read {f_Reader_read f_Reader_slipped f_Reader_on f_Reader f_Reader_by f_Reader_init : Addr} {fd_Reader_read fd_Reader_slipped fd_Reader_on : FuncData} (TC : Owns K mg f_Reader f_Reader_by f_Reader_slipped f_Reader_on f_Reader_read f_Reader_init) (F_Reader_read : Fun K "read" "Reader.read" st_Reader_read f_Reader_read fd_Reader_read) (G_Reader_slipped : FnOk P w K mg base CX0 2 f_Reader_slipped fd_Reader_slipped ["self", "states"] (toSp K (sp_Reader_slipped f_Reader))) (b_Reader_slipped : Binds K fd_Reader_slipped ["self", "states"] []) (G_Reader_on : FnOk P w K mg base CX0 3 f_Reader_on fd_Reader_on ["self", "states", "mark"] (toSp K (sp_Reader_on f_Reader))) (b_Reader_on : Binds K fd_Reader_on ["self", "states", "mark"] []) : FnOk P w K mg base CX0 4 f_Reader_read fd_Reader_read ["self", "state", "pile"] (toSp K (sp_Reader_read f_Reader)) := by
  refine fn_ok (k := 3) F_Reader_read sc_Reader_read (fun ds M R h => ?_) (fun cdv A outer s H E hr => ⟨_, (jb_cons (js_set (i := 3) sc_Reader_read.nd (je_meth TC.c_Reader TC.t_Reader_slipped G_Reader_slipped (hr.mono (by decide)) b_Reader_slipped (jv 0) (ja_cons (je_frz (jl_disp (ja_cons (jv 1) ja_nil))) ja_nil)))
      (jb_cons (js_for PassesOwn.never rfl (ji_any (jv 2)) (jg_name (i := 4) sc_Reader_read.nd) (jb_one (js_set (i := 3) sc_Reader_read.nd (je_meth TC.c_Reader TC.t_Reader_on G_Reader_on (hr.mono (by decide)) b_Reader_on (jv 0) (ja_cons (jv 3) (ja_cons (jv 4) ja_nil))))))
      (jb_one (js_ret (jv 3))))), fun ds M R h => ?_⟩)
  · unfold sp_Reader_read at h
    first | (obtain ⟨rfl, _⟩ := h; rfl) | (obtain ⟨_, rfl, _⟩ := h; rfl) | (obtain ⟨_, _, rfl, _⟩ := h; rfl) | (obtain ⟨_, _, _, rfl, _⟩ := h; rfl) | (obtain ⟨_, _, _, _, rfl, _⟩ := h; rfl) | (obtain ⟨_, _, _, _, _, rfl, _⟩ := h; rfl) | (obtain ⟨_, _, _, _, _, _, rfl, _⟩ := h; rfl) | (obtain ⟨_, _, _, _, _, _, _, rfl, _⟩ := h; rfl) | (obtain ⟨_, _, _, _, _, _, _, _, rfl, _⟩ := h; rfl) | (split at h <;> first | rfl | exact h.elim)
  · unfold sp_Reader_read at h
    obtain ⟨M0, a, E, s, w, rfl, hR, hw, hE, k⟩ := h
    simp_all only [N_Reader_read]
    infer_instance
    have hR' := hR
    obtain ⟨l, hRi, hRl⟩ := hR
    refine meth_g hRi (by rfl) ?_
    infer_instance
    refine slipped_go (xs := [s]) hR' rfl hE (by simp) fun ys hy hm => ?_
    infer_instance
    refine forS [3, 4] (fun i vs M' => ∃ zs x4, vs = [some (.tup (zs.map .str)), x4] ∧ M' = M ∧ RisS zs ∧ ∀ z, z ∈ zs ↔ ReadsTo E s (w.take i) z) (fun _ _ _ _ => trivial) (fun i x N e hN vs M' hI => ?_) (fun vs M' hI => ?_) ⟨_, _, rfl, rfl, hy, fun z => (hm z).trans (Slips.congr (fun x => by simp) z)⟩
    · obtain ⟨zs, x4, rfl, rfl, hz, hzm⟩ := hI
      rw [List.getElem?_map] at e
      obtain ⟨y, he, rfl⟩ := Option.map_eq_some_iff.mp e
      infer_instance
      refine meth_g hRi (by rfl) ?_
      infer_instance
      refine on_go hR' hz hE fun us hu hum => ?_
      infer_instance
      refine hN _ _ _ rfl ⟨us, _, rfl, rfl, hu, fun z => ?_⟩
      rw [List.take_add_one, he]
      unfold ReadsTo
      show z ∈ us ↔ readP E _ (w.take i ++ [y]) z
      rw [readP_snoc, hum]
      exact Slips.congr (stepP_congr hzm) z
    · obtain ⟨zs, x4, rfl, rfl, hz, hzm⟩ := hI
      rw [List.length_map, List.take_length] at hzm
      infer_instance
      exact Shr.all (k zs hz hzm)
/-- a Reader made of some edges -/
def sp_Reader_init (Reader : Addr) : DSp := fun ds M R => ∃ (M0 : Mm) (a : Addr) (E : List Ed), ds = [.ref a, .tup (E.map edD)] ∧ M a = some (.ins Reader []) ∧ E.length ≤ 100000 ∧ (∀ x, M x = none → M0 x = none) ∧ M0 a = none ∧
  ∀ M', (∀ x, M0 x ≠ none → M' x = M x) → (∀ x, M x ≠ none → M' x ≠ none) → RdrAt M0 M' Reader a E → R .non M'
theorem rinit_go {M : Mm} {Reader x : Addr} {E : List Ed} {Q : DQ} (hx : M x = none) (hE : E.length ≤ 100000) (k : ∀ M', Sub M M' → RdrAt M M' Reader x E → Q .non M') : sp_Reader_init Reader [.ref x, .tup (E.map edD)] (mup M x (.ins Reader [])) Q :=
  ⟨M, x, E, rfl, mup_same, hE, fun y hy => by
    by_cases e : y = x
    · rw [e]; exact hx
    · rwa [mup_ne e] at hy, hx, fun M' h1 _ h3 => k M' (fun y o hy => by
    have hyx : y ≠ x := by rintro rfl; rw [hx] at hy; cases hy
    rw [h1 y (by rw [hy]; simp), mup_ne hyx, hy]) h3⟩
theorem ok_Reader_init {f_Reader_init f_Reader f_Reader_by f_Reader_slipped f_Reader_on f_Reader_read : Addr} {fd_Reader_init : FuncData} (TC : Owns K mg f_Reader f_Reader_by f_Reader_slipped f_Reader_on f_Reader_read f_Reader_init) (F_Reader_init : Fun K "__init__" "Reader.__init__" st_Reader_init f_Reader_init fd_Reader_init) : FnOk P w K mg base CX0 1 f_Reader_init fd_Reader_init ["self", "edges"] (toSp K (sp_Reader_init f_Reader)) := by
  refine fn_ok (k := 0) F_Reader_init sc_Reader_init (fun ds M R h => ?_) (fun cdv A outer s H E hr => ⟨_, (jb_cons (js_fput ⟨TC.c_Reader, TC.n_Reader_leads⟩ (jv 0) (je_freshD jd_empty))
      (jb_one (js_for PassesOwn.never rfl (ji_any (jv 1)) (jg_tup (n := 3) rfl (jgs_cons (jg_name (i := 2) sc_Reader_init.nd) (jgs_cons (jg_name (i := 3) sc_Reader_init.nd) (jgs_cons (jg_name (i := 4) sc_Reader_init.nd) jgs_nil)))) (jb_one (js_expr (je_append (je_setd (je_setd (je_fld ⟨TC.c_Reader, TC.n_Reader_leads⟩ (jv 0)) (jv 2) (je_freshD jd_empty)) (jv 3) (je_fresh (jl_disp ja_nil))) (jv 4))))))), fun ds M R h => ?_⟩)
  · unfold sp_Reader_init at h
    first | (obtain ⟨rfl, _⟩ := h; rfl) | (obtain ⟨_, rfl, _⟩ := h; rfl) | (obtain ⟨_, _, rfl, _⟩ := h; rfl) | (obtain ⟨_, _, _, rfl, _⟩ := h; rfl) | (obtain ⟨_, _, _, _, rfl, _⟩ := h; rfl) | (obtain ⟨_, _, _, _, _, rfl, _⟩ := h; rfl) | (obtain ⟨_, _, _, _, _, _, rfl, _⟩ := h; rfl) | (obtain ⟨_, _, _, _, _, _, _, rfl, _⟩ := h; rfl) | (obtain ⟨_, _, _, _, _, _, _, _, rfl, _⟩ := h; rfl) | (split at h <;> first | rfl | exact h.elim)
  · unfold sp_Reader_init at h
    obtain ⟨M0, a, E, rfl, ha, hE, hb, ha0, k⟩ := h
    simp_all only [N_Reader_init]
    infer_instance
    intro l hl
    have hal : a ≠ l := by rintro rfl; rw [ha] at hl; cases hl
    refine fput_g (C := f_Reader) (fs := []) (by rw [insOf_mup_ne hal]; exact insOf_some ha) (by decide) ?_
    simp only [putFD]
    infer_instance
    have hl0 := hb l hl
    refine forS [2, 3, 4] (fun i vs M' => ∃ x2 x3 x4, vs = [x2, x3, x4] ∧ (∀ x, M0 x ≠ none → M' x = M x) ∧ (∀ x, M x ≠ none → M' x ≠ none) ∧ insOf M' a = some (f_Reader, [(("leads" : Str), D.ref l)]) ∧ LdsE (fun x => if x = a then some (.lst []) else M0 x) M' l (E.take i)) (fun _ _ _ _ => trivial) (fun i x N e hN vs M' hI => ?_) (fun vs M' hI => ?_) ⟨_, _, _, rfl, ?_, ?_, ?_, ?_⟩
    · obtain ⟨x2, x3, x4, rfl, hk, hal', hi, hL⟩ := hI
      rw [List.getElem?_map] at e
      obtain ⟨⟨s, m, t⟩, he, rfl⟩ := Option.map_eq_some_iff.mp e
      have hlt := (List.getElem?_eq_some_iff.mp he).1
      simp only [edD]
      infer_instance
      refine fld_go hi (by rfl) ?_
      refine leads_go (s := s) (m := m) hL (by rw [List.length_take]; omega) (fun p hp => ?_) fun M2 hL2 fr al => ?_
      · have hpa : p ≠ a := by rintro rfl; rw [of_insOf hi] at hp; cases hp
        rw [if_neg hpa]
        cases e0 : M0 p with
        | none => rfl
        | some o =>
          have h1 := hk p (by rw [e0]; simp)
          have h2 : M p ≠ none := fun h => by rw [hb p h] at e0; cases e0
          rw [hp] at h1
          exact absurd h1.symm h2
      · refine hN _ _ _ rfl ⟨_, _, _, rfl, fun x hx => ?_, fun x hx => al x (hal' x hx), ?_, ?_⟩
        · rw [fr x (by by_cases e : x = a <;> simp [e]; exact hx)]; exact hk x hx
        · have := fr a (by simp)
          unfold insOf
          rw [this]
          exact hi
        · rw [List.take_add_one, he]
          exact hL2
    · obtain ⟨x2, x3, x4, rfl, hk, hal', hi, hL⟩ := hI
      infer_instance
      have hlen : (List.map edD E).length = E.length := List.length_map ..
      rw [hlen, List.take_length] at hL
      obtain ⟨pA, qA, S, T, L, n, h1, h2⟩ := hL
      have un : ∀ {x : Addr}, (if x = a then some (MO.lst []) else M0 x) = none → M0 x = none := fun {x} h => by
        by_cases e : x = a
        · rw [if_pos e] at h; cases h
        · rwa [if_neg e] at h
      exact Shr.all (k _ hk hal' ⟨l, hi, pA, qA, S, T, L, n, ⟨h1.to, un h1.ol, fun s hs => un (h1.op s hs), fun s m ht => un (h1.oq s m ht)⟩, h2⟩)
    · intro x hx
      rw [mup_ne (by rintro rfl; exact hx ha0), mup_ne (by rintro rfl; exact hx hl0)]
    · intro x hx
      by_cases e : x = a
      · rw [e, mup_same]; simp
      · rw [mup_ne e]
        by_cases e : x = l
        · rw [e, mup_same]; simp
        · rw [mup_ne e]; exact hx
    · exact insOf_mup_same
    · refine LdsE.nil (by rw [dicOf_mup_ne hal.symm]; exact dicOf_mup_same2) ?_
      rw [if_neg hal.symm]; exact hl0
/-- where a pile leads from a state, told -/
def sp_led_to (Reader : Addr) : DSp := fun ds M R => ∃ (E : List Ed) (d2 : D) (s : Str) (w : List Str), ds = [.tup [.tup (E.map edD), d2], .str s, .tup (w.map .str)] ∧ w.length ≤ 100000 ∧ E.length ≤ 100000 ∧ ∀ zs, RisS zs → (∀ z, z ∈ zs ↔ ReadsTo E s w z) → R (.tup (zs.map .str)) M
theorem led_go {M : Mm} {R : DQ} {Reader : Addr} {E : List Ed} {d2 : D} {s : Str} {w : List Str} (hw : w.length ≤ 100000) (h1 : E.length ≤ 100000) (k : ∀ zs, RisS zs → (∀ z, z ∈ zs ↔ ReadsTo E s w z) → R (.tup (zs.map .str)) M) : sp_led_to Reader [.tup [.tup (E.map edD), d2], .str s, .tup (w.map .str)] M R := ⟨E, d2, s, w, rfl, hw, h1, k⟩
theorem ok_led_to {f_led_to f_Reader_read f_Reader_init f_Reader f_Reader_by f_Reader_slipped f_Reader_on : Addr} {fd_led_to fd_Reader_read fd_Reader_init : FuncData} (TC : Owns K mg f_Reader f_Reader_by f_Reader_slipped f_Reader_on f_Reader_read f_Reader_init) (F_led_to : Fun K "led_to" "led_to" st_led_to f_led_to fd_led_to) (G_Reader_read : FnOk P w K mg base CX0 4 f_Reader_read fd_Reader_read ["self", "state", "pile"] (toSp K (sp_Reader_read f_Reader))) (b_Reader_read : Binds K fd_Reader_read ["self", "state", "pile"] []) (G_Reader_init : FnOk P w K mg base CX0 1 f_Reader_init fd_Reader_init ["self", "edges"] (toSp K (sp_Reader_init f_Reader))) (b_Reader_init : Binds K fd_Reader_init ["self", "edges"] []) : FnOk P w K mg base CX0 5 f_led_to fd_led_to ["machine", "state", "pile"] (toSp K (sp_led_to f_Reader)) := by
  refine fn_ok (k := 4) F_led_to sc_led_to (fun ds M R h => ?_) (fun cdv A outer s H E hr => ⟨_, (jb_one (js_ret (je_meth TC.c_Reader TC.t_Reader_read G_Reader_read (hr.mono (by decide)) b_Reader_read (je_make TC.k_Reader G_Reader_init (hr.mono (by decide)) (by rfl) TC.m_Reader b_Reader_init (ja_cons (je_ix (jv 0) je_int) ja_nil)) (ja_cons (jv 1) (ja_cons (jv 2) ja_nil))))), fun ds M R h => ?_⟩)
  · unfold sp_led_to at h
    first | (obtain ⟨rfl, _⟩ := h; rfl) | (obtain ⟨_, rfl, _⟩ := h; rfl) | (obtain ⟨_, _, rfl, _⟩ := h; rfl) | (obtain ⟨_, _, _, rfl, _⟩ := h; rfl) | (obtain ⟨_, _, _, _, rfl, _⟩ := h; rfl) | (obtain ⟨_, _, _, _, _, rfl, _⟩ := h; rfl) | (obtain ⟨_, _, _, _, _, _, rfl, _⟩ := h; rfl) | (obtain ⟨_, _, _, _, _, _, _, rfl, _⟩ := h; rfl) | (obtain ⟨_, _, _, _, _, _, _, _, rfl, _⟩ := h; rfl) | (split at h <;> first | rfl | exact h.elim)
  · unfold sp_led_to at h
    obtain ⟨E, d2, s, w, rfl, hw, hE, k⟩ := h
    simp_all only [N_led_to]
    infer_instance
    intro x hx
    refine rinit_go hx hE fun M' hs hr => ?_
    refine ⟨rfl, ?_⟩
    have hr' := hr
    obtain ⟨l, hRi, hRl⟩ := hr
    refine meth_g hRi (by rfl) ?_
    infer_instance
    refine read_go hr' hw (by omega) fun zs hz hm => ?_
    exact Shr.of (k zs hz hm) hs
/-- whether a machine holds a stand -/
def sp_is_held (Reader : Addr) : DSp := fun ds M R => ∃ (E : List Ed) (F : List Str) (s : Str) (w : List Str), ds = [.tup [.tup (E.map edD), .tup (F.map .str)], .tup [.str s, .tup (w.map .str)]] ∧ w.length ≤ 100000 ∧ E.length ≤ 100000 ∧ ∀ b : Bool, (b = true ↔ ∃ z, z ∈ F ∧ ReadsTo E s w z) → R (.bl b) M
theorem held_go {M : Mm} {R : DQ} {Reader : Addr} {E : List Ed} {F : List Str} {s : Str} {w : List Str} (hw : w.length ≤ 100000) (h1 : E.length ≤ 100000) (k : ∀ b : Bool, (b = true ↔ ∃ z, z ∈ F ∧ ReadsTo E s w z) → R (.bl b) M) : sp_is_held Reader [.tup [.tup (E.map edD), .tup (F.map .str)], .tup [.str s, .tup (w.map .str)]] M R := ⟨E, F, s, w, rfl, hw, h1, k⟩
theorem ok_is_held {f_is_held f_led_to f_Reader f_Reader_by f_Reader_slipped f_Reader_on f_Reader_read f_Reader_init : Addr} {fd_is_held fd_led_to : FuncData} (TC : Owns K mg f_Reader f_Reader_by f_Reader_slipped f_Reader_on f_Reader_read f_Reader_init) (F_is_held : Fun K "is_held" "is_held" st_is_held f_is_held fd_is_held) (G_led_to : FnOk P w K mg base CX0 5 f_led_to fd_led_to ["machine", "state", "pile"] (toSp K (sp_led_to f_Reader))) (g_led_to : mg "led_to" = some (.ref f_led_to)) (k_led_to : PySem.W.keepIn K (.ref f_led_to) = true) (b_led_to : Binds K fd_led_to ["machine", "state", "pile"] []) (z_any : mg "any" = none) : FnOk P w K mg base CX0 6 f_is_held fd_is_held ["machine", "stand"] (toSp K (sp_is_held f_Reader)) := by
  refine fn_ok (k := 5) F_is_held sc_is_held (fun ds M R h => ?_) (fun cdv A outer s H E hr => ⟨_, (jb_cons (js_asg (jv 1) (jg_tup (n := 2) rfl (jgs_cons (jg_name (i := 2) sc_is_held.nd) (jgs_cons (jg_name (i := 3) sc_is_held.nd) jgs_nil))))
      (jb_one (js_ret (je_any rfl z_any (ja_cons (je_frz (jl_lc rfl sc_is_held.nd (jlc (ji_any (je_call G_led_to (hr.mono (by decide)) (by rfl) g_led_to k_led_to b_led_to (ja_cons (jv 0) (ja_cons (jv 2) (ja_cons (jv 3) ja_nil))))) (blkOk_by (own := [("state", 4)]) (N := N_is_held) (sc := defScope st_is_held) (by decide +kernel)) (fun _ _ _ _ _ => (jgv_name (i := 4) sc_is_held.nd (by decide))) (fun _ _ _ _ _ => jts_nil) (fun _ _ _ _ _ => (je_in hr (jv 4) (je_ix (jv 0) je_int)))))) ja_nil))))), fun ds M R h => ?_⟩)
  · unfold sp_is_held at h
    first | (obtain ⟨rfl, _⟩ := h; rfl) | (obtain ⟨_, rfl, _⟩ := h; rfl) | (obtain ⟨_, _, rfl, _⟩ := h; rfl) | (obtain ⟨_, _, _, rfl, _⟩ := h; rfl) | (obtain ⟨_, _, _, _, rfl, _⟩ := h; rfl) | (obtain ⟨_, _, _, _, _, rfl, _⟩ := h; rfl) | (obtain ⟨_, _, _, _, _, _, rfl, _⟩ := h; rfl) | (obtain ⟨_, _, _, _, _, _, _, rfl, _⟩ := h; rfl) | (obtain ⟨_, _, _, _, _, _, _, _, rfl, _⟩ := h; rfl) | (split at h <;> first | rfl | exact h.elim)
  · unfold sp_is_held at h
    obtain ⟨E, F, s, w, rfl, hw, hE, k⟩ := h
    simp_all only [N_is_held]
    infer_instance
    refine led_go hw hE fun zs hz hm => ?_
    infer_instance
    have hl := reads_len hz hm
    refine lcW_fun D.str (fun z => D.bl (decide (z ∈ F))) (small_line2 (by omega)) trivial (fun z _ N F' h' => ?_) ?_
    · infer_instance
      exact inR_strS (l := F) rfl h'
    · rw [anyLR_map]
      refine Shr.all (k _ ?_)
      rw [List.any_eq_true]
      exact ⟨fun ⟨z, h1, h2⟩ => ⟨z, by simpa using h2, (hm z).mp h1⟩, fun ⟨z, h1, h2⟩ => ⟨z, (hm z).mpr h2, by simpa using h1⟩⟩
/-- a long stand read rightly -/
def sp__law_long_right (Reader NoRun : Addr) : DSp := fun ds M R => ∃ (d : Addr) (p m : Str), ds = [.ref d, .str p, .str m] ∧ NameS p ∧ NameS m ∧ Draws d 10 (fun x => x = .bl true) M R
theorem llong_B {M M0 : Mm} {d c : Addr} {r : Nat} {L : List (Addr × MO)} {p m : Str} {R : DQ} {Reader NoRun : Addr} (b : Bx d c r M0 L M) (h1 : NameS p) (h2 : NameS m) (hr : 10 ≤ r) (k : ∀ M', Bx d c (r - 10) M0 L M' → R (.bl true) M') : sp__law_long_right Reader NoRun [.ref d, .str p, .str m] M R :=
  ⟨d, p, m, rfl, h1, h2, b.draws hr fun x M' e b' => e ▸ k M' b'⟩
theorem ok__law_long_right {f__law_long_right f__law_draw f_walked f_led_to f_is_held f_Reader f_Reader_by f_Reader_slipped f_Reader_on f_Reader_read f_Reader_init : Addr} {fd__law_long_right fd__law_draw fd_walked fd_led_to fd_is_held : FuncData} (TC : Owns K mg f_Reader f_Reader_by f_Reader_slipped f_Reader_on f_Reader_read f_Reader_init) (F__law_long_right : Fun K "_law_long_right" "_law_long_right" st__law_long_right f__law_long_right fd__law_long_right) (G__law_draw : FnOk P w K mg base CX0 1 f__law_draw fd__law_draw ["_law_deck_here", "_law_most"] (toSp K sp__law_draw)) (g__law_draw : mg "_law_draw" = some (.ref f__law_draw)) (k__law_draw : PySem.W.keepIn K (.ref f__law_draw) = true) (b__law_draw : Binds K fd__law_draw ["_law_deck_here", "_law_most"] []) (G_walked : FnOk P w K mg base (L2.CX P w) 3 f_walked fd_walked ["program", "stand", "run"] (toSpX K (sp_walked f_NoRun))) (g_walked : mg "walked" = some (.ref f_walked)) (k_walked : PySem.W.keepIn K (.ref f_walked) = true) (b_walked : Binds K fd_walked ["program", "stand", "run"] []) (G_led_to : FnOk P w K mg base CX0 5 f_led_to fd_led_to ["machine", "state", "pile"] (toSp K (sp_led_to f_Reader))) (g_led_to : mg "led_to" = some (.ref f_led_to)) (k_led_to : PySem.W.keepIn K (.ref f_led_to) = true) (b_led_to : Binds K fd_led_to ["machine", "state", "pile"] []) (G_is_held : FnOk P w K mg base CX0 6 f_is_held fd_is_held ["machine", "stand"] (toSp K (sp_is_held f_Reader))) (g_is_held : mg "is_held" = some (.ref f_is_held)) (k_is_held : PySem.W.keepIn K (.ref f_is_held) = true) (b_is_held : Binds K fd_is_held ["machine", "stand"] []) (z_range : mg "range" = none) (z_str : mg "str" = none) (z_tuple : mg "tuple" = none) (z_sorted : mg "sorted" = none) (z_repr : mg "repr" = none) : FnG P w K mg base CX0 7 f__law_long_right fd__law_long_right ["_law_deck_here", "_law_place", "_law_mark"] (toSp K (sp__law_long_right f_Reader f_NoRun)) := by
  refine fn_okG (k := 6) F__law_long_right sc__law_long_right (fun ds M R h => ?_) (fun cdv A outer s H E hrG => have hr := hrG.r; ⟨_, (jb_cons (js_set (i := 3) sc__law_long_right.nd (je_add je_int (je_call G__law_draw (hr.mono (by decide)) (by rfl) g__law_draw k__law_draw b__law_draw (ja_cons (jv 0) (ja_cons je_int ja_nil)))))
      (jb_cons (js_set (i := 4) sc__law_long_right.nd (je_add je_int (je_call G__law_draw (hr.mono (by decide)) (by rfl) g__law_draw k__law_draw b__law_draw (ja_cons (jv 0) (ja_cons je_int ja_nil)))))
      (jb_cons (js_set (i := 5) sc__law_long_right.nd (je_call G__law_draw (hr.mono (by decide)) (by rfl) g__law_draw k__law_draw b__law_draw (ja_cons (jv 0) (ja_cons (jv 3) ja_nil))))
      (jb_cons (js_set (i := 6) sc__law_long_right.nd (je_add (je_frz (jl_disp (ja_cons (je_tup (ja_cons (jv 1) (ja_cons je_str (ja_cons je_str ja_nil)))) ja_nil))) (je_frz (jl_lc rfl sc__law_long_right.nd (jlc (ji_rng1 (by rfl) z_range (jv 3)) (blkOk_by (own := [("_law_k", 9)]) (N := N__law_long_right) (sc := defScope st__law_long_right) (by decide +kernel)) (fun _ _ _ _ _ => (jgv_name (i := 9) sc__law_long_right.nd (by decide))) (fun _ _ _ _ _ => jts_nil) (fun _ _ _ _ _ => (je_tup (ja_cons (je_str1 z_str (ja_cons (jv 9) ja_nil)) (ja_cons (jv 2) (ja_cons (je_str1 z_str (ja_cons (je_mod (je_add (jv 9) je_int) (jv 3)) ja_nil)) ja_nil))))))))))
      (jb_cons (js_set (i := 7) sc__law_long_right.nd (je_tup (ja_cons (je_tuple z_tuple (ja_cons (je_frz (jl_sorted hr z_sorted (ja_cons (jv 6) ja_nil))) ja_nil)) (ja_cons (je_tup (ja_cons (je_str1 z_str (ja_cons (jv 5) ja_nil)) ja_nil)) ja_nil))))
      (jb_cons (js_setX (i := 8) sc__law_long_right.nd (jx_call G_walked takes0 (hr.mono (by decide)) (by rfl) g_walked k_walked b_walked (jax_of (ja_cons (je_tup (ja_cons (je_tup (ja_cons (jv 1) (ja_cons (jv 2) (ja_cons (jv 1) (ja_cons (je_tup (ja_cons (jv 2) (ja_cons (jv 2) ja_nil))) ja_nil))))) ja_nil)) (ja_cons (je_tup (ja_cons (jv 1) (ja_cons (je_tup (ja_cons (jv 2) ja_nil)) ja_nil))) (ja_cons (je_mulA (je_tup (ja_cons je_int ja_nil)) (je_sub (jv 4) je_int)) ja_nil))))))
      (jb_cons (js_if (JW.jt (jw_or (jt_ne hr (jv 8) (je_tup (ja_cons (jv 1) (ja_cons (je_mulA (je_tup (ja_cons (jv 2) ja_nil)) (jv 4)) ja_nil)))) (jw_or1 (jt_ne hr (je_call G_led_to (hr.mono (by decide)) (by rfl) g_led_to k_led_to b_led_to (ja_cons (jv 7) (ja_cons (je_ix (jv 8) je_int) (ja_cons (je_ix (jv 8) je_int) ja_nil)))) (je_tup (ja_cons (je_str1 z_str (ja_cons (je_mod (jv 4) (jv 3)) ja_nil)) ja_nil)))))) (jb_one (js_ret je_bl)) jb_nil)
      (jb_one (js_ret (je_eq hr (je_repr hrG z_repr (ja_cons (je_call G_is_held (hr.mono (by decide)) (by rfl) g_is_held k_is_held b_is_held (ja_cons (jv 7) (ja_cons (jv 8) ja_nil))) ja_nil)) (je_repr hrG z_repr (ja_cons (je_eq hr (je_mod (jv 4) (jv 3)) (jv 5)) ja_nil)))))))))))), fun ds M R h => ?_⟩)
  · unfold sp__law_long_right at h
    first | (obtain ⟨rfl, _⟩ := h; rfl) | (obtain ⟨_, rfl, _⟩ := h; rfl) | (obtain ⟨_, _, rfl, _⟩ := h; rfl) | (obtain ⟨_, _, _, rfl, _⟩ := h; rfl) | (obtain ⟨_, _, _, _, rfl, _⟩ := h; rfl) | (obtain ⟨_, _, _, _, _, rfl, _⟩ := h; rfl) | (obtain ⟨_, _, _, _, _, _, rfl, _⟩ := h; rfl) | (obtain ⟨_, _, _, _, _, _, _, rfl, _⟩ := h; rfl) | (obtain ⟨_, _, _, _, _, _, _, _, rfl, _⟩ := h; rfl) | (split at h <;> first | rfl | exact h.elim)
  · unfold sp__law_long_right at h
    obtain ⟨d, p, m, rfl, hp, hm, c, r, D0, k⟩ := h
    have b0 := Bx.start D0
    simp_all only [N__law_long_right]
    infer_instance
    refine draw_B b0 (by omega) (by omega) (by omega) fun sz M1 s0 s1 b1 => ?_
    infer_instance
    refine draw_B b1 (by omega) (by omega) (by omega) fun lg M2 l0 l1 b2 => ?_
    infer_instance
    refine draw_B b2 (by omega) (by omega) (by omega) fun la M3 a0 a1 b3 => ?_
    infer_instance
    obtain ⟨n, hn⟩ : ∃ n : Nat, 2 + sz = n := ⟨(2 + sz).toNat, by omega⟩
    rw [hn]
    have hn2 : 2 ≤ n := by omega
    have hn8 : n ≤ 8 := by omega
    clear hn
    refine lcW_fun (l := List.range n) (fun (i : Nat) => D.int (0 + (i : Int))) (fun k => edD (wheelE m n k)) (small_line2 (by simp; omega)) trivial (fun x hx N F h' => ?_) ?_
    · have hx2 := List.mem_range.mp hx
      infer_instance
      refine ⟨log2_lt (by decide) (Nat.lt_of_le_of_lt (m := 100000) (by omega) (by decide +kernel)), by omega, log2_lt (by decide) ?_, ?_⟩
      · have := Int.emod_lt_of_pos ((x : Int) + 1) (show (0 : Int) < n by omega)
        have := Int.emod_nonneg ((x : Int) + 1) (show (n : Int) ≠ 0 by omega)
        exact Nat.lt_of_le_of_lt (m := 100000) (by omega) (by decide +kernel)
      · have e : ((x : Int) + 1) % n = (((x + 1) % n : Nat) : Int) := by simp
        rw [e]; exact h'
    infer_instance
    obtain ⟨E, hE⟩ : ∃ E, E = (p, (Str.ofString ""), (Str.ofString "0")) :: (List.range n).map (wheelE m n) := ⟨_, rfl⟩
    rw [show (D.tup [D.str p, D.str (Str.ofString ""), D.str (Str.ofString "0")] :: List.map (fun k => edD (wheelE m n k)) (List.range n)) = E.map edD by rw [hE, List.map_cons, List.map_map]; rfl]
    refine ⟨small_line2 (by simp; omega), ?_⟩
    infer_instance
    rw [sortD_eds]
    refine ⟨sortOk_ed, log2_lt (by decide) (Nat.lt_of_le_of_lt (m := 100000) (by omega) (by decide +kernel)), ?_⟩
    infer_instance
    obtain ⟨L, hL⟩ : ∃ L : Nat, 300 + lg = L := ⟨(300 + lg).toNat, by omega⟩
    rw [hL]
    have hL1 : 300 ≤ L := by omega
    have hL2 : L ≤ 1000 := by omega
    clear hL
    rw [show ((L : Int) - 1).toNat = L - 1 by omega, show List.replicate (L - 1) (D.int 0) = (List.replicate (L - 1) (0 : Int)).map D.int by rw [List.map_replicate]]
    refine walked_go (rs := [⟨p, m, p, [m, m]⟩]) (s := (p, [m])) (by simp) (by simp; omega) (by simp) (by simp) (fun t ht => ?_) (fun k hk => ?_)
    rotate_left
    · have := goF_wheel (p := p) (m := m) (i := L - 1) 0 0
      rw [show List.replicate (0 + 1) m = [m] from rfl, hk] at this
      cases this
    have hg := goF_wheel (p := p) (m := m) (i := L - 1) 0 0
    rw [show List.replicate (0 + 1) m = [m] from rfl, ht] at hg
    obtain rfl := Sum.inl.inj hg
    rw [show 0 + 1 + (L - 1) = L by omega]
    have hEm : ∀ e, e ∈ sortE E ↔ e = (p, ("" : Str), dgS 0) ∨ ∃ k, k < n ∧ e = wheelE m n k := fun e => by
      rw [sortE_mem, hE, List.mem_cons, List.mem_map]
      refine or_congr Iff.rfl ⟨fun ⟨k, hk, e⟩ => ⟨k, List.mem_range.mp hk, e.symm⟩, fun ⟨k, hk, e⟩ => ⟨k, List.mem_range.mpr hk, e.symm⟩⟩
    have hEl : (sortE E).length ≤ 100 := by rw [sortE_len, hE]; simp; omega
    have hrd := wheel_reads hn2 hn8 hp hm hEm L
    simp only [stD]
    infer_instance
    have hmodn : (L : Int) % n = ((L % n : Nat) : Int) := by simp
    have hmlt : L % n < n := Nat.mod_lt _ (by omega)
    have hRl : List.replicate L (D.str m) = (List.replicate L m).map D.str := by rw [List.map_replicate]
    refine seqS [] (fun vs M' => vs = [] ∧ M' = M3) (fun N2 hN2 => ?_) fun vs M4 hJ => ?_
    · try simp_all only []
      rw [hRl]
      refine ⟨⟨by omega, by omega, by omega⟩, ⟨pureDs_str _, Nat.le_trans (depDs_str _) (by decide)⟩, ?_⟩
      have heq : eqvDs [D.str p, D.tup ((List.replicate L m).map D.str)] [D.str p, D.tup ((List.replicate L m).map D.str)] = true := by
        have h0 : eqvDs ((List.replicate L m).map D.str) ((List.replicate L m).map D.str) = true := by rw [eqvDs_strs]; simp
        simp only [eqvDs, eqvD, h0]; simp
      rw [heq]
      simp_all only []
      refine led_go (by simp; omega) (by omega) fun zs hz hzm => ?_
      obtain rfl : zs = [dgS (L % n)] := ris_one hz fun z => by
        rw [hzm, hrd]
        exact ⟨fun h => h.elim (fun h => by omega) id, .inr⟩
      refine ⟨by omega, log2_lt (by decide) (Nat.lt_of_le_of_lt (m := 100000) (by omega) (by decide +kernel)), ?_⟩
      rw [hmodn]
      try simp_all only []
      rw [show eqvDs [D.str (dgS (L % n))] [D.str (Str.ofString (toString ((L % n : Nat) : Int)))] = true by
        rw [show [D.str (dgS (L % n))] = [dgS (L % n)].map D.str from rfl, show [D.str (Str.ofString (toString ((L % n : Nat) : Int)))] = [dgS (L % n)].map D.str from rfl, eqvDs_strs]; simp]
      try simp_all only []
      exact hN2 [] _ _ rfl ⟨rfl, rfl⟩
    · obtain ⟨rfl, rfl⟩ := hJ
      infer_instance
      obtain ⟨q, rfl⟩ : ∃ q : Nat, la = q := ⟨la.toNat, by omega⟩
      refine held_go (F := [dgS q]) (by simp; omega) (by omega) fun b hb => ?_
      have hbe : b = ((L : Int) % n == (q : Int)) := by
        rw [Bool.eq_iff_iff, hb]
        constructor
        · rintro ⟨z, hz, hr⟩
          rw [List.mem_singleton.mp hz] at hr
          rcases (hrd _).mp hr with ⟨h0, _⟩ | h
          · omega
          · have := dg_inj (by omega) (by omega) h
            rw [hmodn]; simp; omega
        · intro h
          rw [hmodn] at h
          simp at h
          exact ⟨dgS q, by simp, (hrd _).mpr (.inr (by congr 1; omega))⟩
      rw [hbe]
      infer_instance
      have hsh : ∀ b : Bool, ShowOk (.bl b) := fun b => by cases b <;> exact ⟨rfl, by decide, by decide +kernel, by decide +kernel⟩
      exact ⟨hsh _, by omega, hsh _, b3.done k rfl (by omega)⟩
--TD _law_there
--MUT _law_found
/-- where slips lead from some states, by a table -/
def sp__law_slipped : DSp := fun ds M R => ∃ (M0 : Mm) (p : Addr) (E : List Ed) (xs : List Str), ds = [.ref p, .lst (xs.map .str)] ∧ Thr M0 M p E ∧ E.length ≤ 1000 ∧ xs.length ≤ 2000 ∧ xs.Nodup ∧ ∀ zs : List Str, zs.Nodup → zs.length ≤ 3000 → (∀ z, z ∈ zs ↔ Slips E (· ∈ xs) z) → R (.lst (zs.map .str)) M
theorem lslipped_go {M M0 : Mm} {R : DQ} {p : Addr} {E : List Ed} {xs : List Str} (h : Thr M0 M p E) (h1 : E.length ≤ 1000) (h2 : xs.length ≤ 2000) (h3 : xs.Nodup) (k : ∀ zs : List Str, zs.Nodup → zs.length ≤ 3000 → (∀ z, z ∈ zs ↔ Slips E (· ∈ xs) z) → R (.lst (zs.map .str)) M) : sp__law_slipped [.ref p, .lst (xs.map .str)] M R := ⟨M0, p, E, xs, rfl, h, h1, h2, h3, k⟩
theorem ok__law_slipped {f__law_slipped : Addr} {fd__law_slipped : FuncData} (F__law_slipped : Fun K "_law_slipped" "_law_slipped" st__law_slipped f__law_slipped fd__law_slipped) (z_list : mg "list" = none) (z_len : mg "len" = none) : FnOk P w K mg base CX0 1 f__law_slipped fd__law_slipped ["_law_there", "_law_states"] (toSp K sp__law_slipped) := by
  refine fn_ok (k := 0) F__law_slipped sc__law_slipped (fun ds M R h => ?_) (fun cdv A outer s H E hr => ⟨_, (jb_cons (js_set (i := 2) sc__law_slipped.nd (je_fresh (jl_list z_list (ja_cons (jv 1) ja_nil))))
      (jb_cons (js_set (i := 3) sc__law_slipped.nd je_int)
      (jb_cons (js_while PassesOwn.never (jt_lt (jv 3) (je_len z_len (ja_cons (jv 2) ja_nil))) (jb_cons (js_for PassesOwn.never rfl (ji_any (je_get2T hr (jv 0) (je_tup (ja_cons (je_ix (jv 2) (jv 3)) (ja_cons je_str ja_nil))) (je_frz (jl_disp ja_nil)))) (jg_name (i := 4) sc__law_slipped.nd) (jb_one (js_if (jt_notin hr (jv 4) (jv 2)) (jb_one (js_expr (je_append (jv 2) (jv 4)))) jb_nil))) (jb_one (js_set (i := 3) sc__law_slipped.nd (je_add (jv 3) je_int)))))
      (jb_one (js_ret (jv 2)))))), fun ds M R h => ?_⟩)
  · unfold sp__law_slipped at h
    first | (obtain ⟨rfl, _⟩ := h; rfl) | (obtain ⟨_, rfl, _⟩ := h; rfl) | (obtain ⟨_, _, rfl, _⟩ := h; rfl) | (obtain ⟨_, _, _, rfl, _⟩ := h; rfl) | (obtain ⟨_, _, _, _, rfl, _⟩ := h; rfl) | (obtain ⟨_, _, _, _, _, rfl, _⟩ := h; rfl) | (obtain ⟨_, _, _, _, _, _, rfl, _⟩ := h; rfl) | (obtain ⟨_, _, _, _, _, _, _, rfl, _⟩ := h; rfl) | (obtain ⟨_, _, _, _, _, _, _, _, rfl, _⟩ := h; rfl) | (split at h <;> first | rfl | exact h.elim)
  · unfold sp__law_slipped at h
    obtain ⟨M0, p, E, xs, rfl, hT, hE, hx, hxn, k⟩ := h
    simp_all only [N__law_slipped]
    infer_instance
    intro f hf
    infer_instance
    have b0 := (Px.start (M := M)).new (o := .lst (xs.map .str)) hf
    refine whileS [3, 4] (fun m vs M' => ∃ (n : Nat) (z : Int) (x4 : Option DM.D) (F : List Str), vs = [some (.int z), x4] ∧ z = n ∧ Px M [(f, .lst (F.map .str))] M' ∧ m = xs.length + E.length - n ∧ n ≤ F.length ∧ F.Nodup ∧ (∀ z ∈ F, Slips E (· ∈ xs) z) ∧ (∀ z ∈ xs, z ∈ F) ∧ ∀ x ∈ F.take n, ∀ z, (x, ("" : Str), z) ∈ E → z ∈ F) (xs.length + E.length) (fun m N hN vs M' hI => ?_) ⟨0, _, _, xs, rfl, rfl, b0, by omega, by omega, hxn, fun z hz => .base hz, fun z hz => hz, by simp⟩
    obtain ⟨n, z, x4, F, rfl, rfl, b, hm, hn, hF, h1, h2, h3⟩ := hI
    have hFl : F.length ≤ xs.length + E.length := slips_len hF fun z hz => Slips.from (h1 z hz)
    simp_all only []
    refine len_l (xs := F.map .str) b.lst1 ?_
    simp_all only []
    refine ifs (fun c => ?_) (fun c => ?_)
    rotate_left
    · infer_instance
      refine b.finL (k F hF (by omega) (slips_done h1 h2 (fun x hx z he => h3 x (by rw [List.take_of_length_le (by simp at c; omega)]; exact hx) z he)))
    · infer_instance
      have hlt : n < F.length := by simp at c; omega
      refine ⟨(hT.frame b.ex).isD, ?_⟩
      have hxn := List.getElem?_eq_getElem hlt
      refine ix_l (d := .str F[n]) b.lst1 (by omega) (by rw [Int.toNat_natCast, List.getElem?_map, hxn]; rfl) ?_
      refine hT.get2 b.ex (fun a ha => ?_) fun he => ?_
      · rw [anyI_r, lstOf_sub b.ex ha]
        infer_instance
        refine forS [4] (fun i vs M2 => ∃ (x4 : Option DM.D) (G : List Str), vs = [x4] ∧ Px M [(f, .lst ((F ++ G).map .str))] M2 ∧ (F ++ G).Nodup ∧ (∀ z ∈ G, Slips E (· ∈ xs) z) ∧ ∀ z ∈ (byE E F[n] ("" : Str)).take i, z ∈ F ++ G) (fun i vs M2 hI => (by obtain ⟨x4, G, rfl, b2, _⟩ := hI; exact lstOf_sub b2.ex ha)) (fun i x N2 e hN2 vs M2 hI => ?_) (fun vs M2 hI => ?_) ⟨_, [], rfl, by rw [List.append_nil]; exact b, by simpa using hF, by simp, by simp⟩
        · obtain ⟨x4, G, rfl, b2, g1, g2, g3⟩ := hI
          rw [List.getElem?_map] at e
          obtain ⟨y, hy, rfl⟩ := Option.map_eq_some_iff.mp e
          have hye : (F[n], ("" : Str), y) ∈ E := byE_mem.mp (List.mem_of_getElem? hy)
          have hys : Slips E (· ∈ xs) y := .step (h1 _ (List.getElem_mem hlt)) hye
          have hGl : (F ++ G).length ≤ xs.length + E.length := slips_len g1 fun z hz => Slips.from ((List.mem_append.mp hz).elim (h1 z) (g2 z))
          infer_instance
          refine notInR_strS (l := F ++ G) b2.lst1 ?_
          simp_all only []
          refine ifs (fun c2 => ?_) (fun c2 => ?_)
          · refine ⟨by rw [b2.lst1]; rfl, ?_⟩
            refine append_go b2.lst1 (by rw [List.length_map]; exact small_lt2 (by omega)) ?_
            rw [show (F ++ G).map D.str ++ [D.str y] = (F ++ (G ++ [y])).map D.str by simp]
            try simp_all only []
            have hyn : y ∉ F ++ G := by simpa using c2
            refine hN2 _ _ _ rfl ⟨_, G ++ [y], rfl, b2.put1, ?_, fun z hz => ?_, fun z hz => ?_⟩
            · rw [← List.append_assoc, List.nodup_append]
              exact ⟨g1, by simp, fun a ha b hb => by rw [List.mem_singleton.mp hb]; rintro rfl; exact hyn ha⟩
            · rcases List.mem_append.mp hz with hz | hz
              · exact g2 z hz
              · rw [List.mem_singleton.mp hz]; exact hys
            · rw [← List.append_assoc]
              rw [List.take_add_one, hy] at hz
              rcases List.mem_append.mp hz with hz | hz
              · exact List.mem_append_left _ (g3 z hz)
              · exact List.mem_append_right _ (by simpa using hz)
          · try simp_all only []
            refine hN2 _ _ _ rfl ⟨_, G, rfl, b2, g1, g2, fun z hz => ?_⟩
            rw [List.take_add_one, hy] at hz
            rcases List.mem_append.mp hz with hz | hz
            · exact g3 z hz
            · have : z = y := by simpa using hz
              rw [this]
              by_cases hh : y ∈ F ++ G
              · exact hh
              · exact absurd (by simp [hh]) c2
        · obtain ⟨x4, G, rfl, b2, g1, g2, g3⟩ := hI
          rw [List.length_map, List.take_length] at g3
          infer_instance
          refine hN (xs.length + E.length - (n + 1)) _ _ _ (by omega) rfl ⟨n + 1, _, _, F ++ G, rfl, by simp, b2, rfl, by simp; omega, g1, fun z hz => (List.mem_append.mp hz).elim (h1 z) (g2 z), fun z hz => List.mem_append_left _ (h2 z hz), fun x hx z he => ?_⟩
          rw [List.take_append_of_le_length (by omega), List.take_add_one, hxn] at hx
          rcases List.mem_append.mp hx with hx | hx
          · exact List.mem_append_left _ (h3 x hx z he)
          · have : x = F[n] := by simpa using hx
            exact g3 z (byE_mem.mpr (this ▸ he))
      · infer_instance
        rw [show ([] : List DM.D) = (byE E F[n] ("" : Str)).map D.str by rw [he]; rfl]
        refine forS [4] (fun i vs M2 => ∃ (x4 : Option DM.D) (G : List Str), vs = [x4] ∧ Px M [(f, .lst ((F ++ G).map .str))] M2 ∧ (F ++ G).Nodup ∧ (∀ z ∈ G, Slips E (· ∈ xs) z) ∧ ∀ z ∈ (byE E F[n] ("" : Str)).take i, z ∈ F ++ G) (fun i vs M2 hI => trivial) (fun i x N2 e hN2 vs M2 hI => ?_) (fun vs M2 hI => ?_) ⟨_, [], rfl, by rw [List.append_nil]; exact b, by simpa using hF, by simp, by simp⟩
        · obtain ⟨x4, G, rfl, b2, g1, g2, g3⟩ := hI
          rw [List.getElem?_map] at e
          obtain ⟨y, hy, rfl⟩ := Option.map_eq_some_iff.mp e
          have hye : (F[n], ("" : Str), y) ∈ E := byE_mem.mp (List.mem_of_getElem? hy)
          have hys : Slips E (· ∈ xs) y := .step (h1 _ (List.getElem_mem hlt)) hye
          have hGl : (F ++ G).length ≤ xs.length + E.length := slips_len g1 fun z hz => Slips.from ((List.mem_append.mp hz).elim (h1 z) (g2 z))
          infer_instance
          refine notInR_strS (l := F ++ G) b2.lst1 ?_
          simp_all only []
          refine ifs (fun c2 => ?_) (fun c2 => ?_)
          · refine ⟨by rw [b2.lst1]; rfl, ?_⟩
            refine append_go b2.lst1 (by rw [List.length_map]; exact small_lt2 (by omega)) ?_
            rw [show (F ++ G).map D.str ++ [D.str y] = (F ++ (G ++ [y])).map D.str by simp]
            try simp_all only []
            have hyn : y ∉ F ++ G := by simpa using c2
            refine hN2 _ _ _ rfl ⟨_, G ++ [y], rfl, b2.put1, ?_, fun z hz => ?_, fun z hz => ?_⟩
            · rw [← List.append_assoc, List.nodup_append]
              exact ⟨g1, by simp, fun a ha b hb => by rw [List.mem_singleton.mp hb]; rintro rfl; exact hyn ha⟩
            · rcases List.mem_append.mp hz with hz | hz
              · exact g2 z hz
              · rw [List.mem_singleton.mp hz]; exact hys
            · rw [← List.append_assoc]
              rw [List.take_add_one, hy] at hz
              rcases List.mem_append.mp hz with hz | hz
              · exact List.mem_append_left _ (g3 z hz)
              · exact List.mem_append_right _ (by simpa using hz)
          · try simp_all only []
            refine hN2 _ _ _ rfl ⟨_, G, rfl, b2, g1, g2, fun z hz => ?_⟩
            rw [List.take_add_one, hy] at hz
            rcases List.mem_append.mp hz with hz | hz
            · exact g3 z hz
            · have : z = y := by simpa using hz
              rw [this]
              by_cases hh : y ∈ F ++ G
              · exact hh
              · exact absurd (by simp [hh]) c2
        · obtain ⟨x4, G, rfl, b2, g1, g2, g3⟩ := hI
          rw [List.length_map, List.take_length] at g3
          infer_instance
          refine hN (xs.length + E.length - (n + 1)) _ _ _ (by omega) rfl ⟨n + 1, _, _, F ++ G, rfl, by simp, b2, rfl, by simp; omega, g1, fun z hz => (List.mem_append.mp hz).elim (h1 z) (g2 z), fun z hz => List.mem_append_left _ (h2 z hz), fun x hx z he => ?_⟩
          rw [List.take_append_of_le_length (by omega), List.take_add_one, hxn] at hx
          rcases List.mem_append.mp hx with hx | hx
          · exact List.mem_append_left _ (h3 x hx z he)
          · have : x = F[n] := by simpa using hx
            exact g3 z (byE_mem.mpr (this ▸ he))
--TD _law_there
--MUT _law_found
/-- where a pile leads from a state, by a table -/
def sp__law_read : DSp := fun ds M R => ∃ (E : List Ed) (d2 : D) (s : Str) (w : List Str), ds = [.tup [.tup (E.map edD), d2], .str s, .tup (w.map .str)] ∧ w.length ≤ 2000 ∧ E.length ≤ 1000 ∧ ∀ zs, RisS zs → (∀ z, z ∈ zs ↔ ReadsTo E s w z) → R (.lst (zs.map .str)) M
theorem lread_go {M : Mm} {R : DQ} {E : List Ed} {d2 : D} {s : Str} {w : List Str} (hw : w.length ≤ 2000) (h1 : E.length ≤ 1000) (k : ∀ zs, RisS zs → (∀ z, z ∈ zs ↔ ReadsTo E s w z) → R (.lst (zs.map .str)) M) : sp__law_read [.tup [.tup (E.map edD), d2], .str s, .tup (w.map .str)] M R := ⟨E, d2, s, w, rfl, hw, h1, k⟩
theorem ok__law_read {f__law_read f__law_slipped : Addr} {fd__law_read fd__law_slipped : FuncData} (F__law_read : Fun K "_law_read" "_law_read" st__law_read f__law_read fd__law_read) (G__law_slipped : FnOk P w K mg base CX0 1 f__law_slipped fd__law_slipped ["_law_there", "_law_states"] (toSp K sp__law_slipped)) (g__law_slipped : mg "_law_slipped" = some (.ref f__law_slipped)) (k__law_slipped : PySem.W.keepIn K (.ref f__law_slipped) = true) (b__law_slipped : Binds K fd__law_slipped ["_law_there", "_law_states"] []) (z_sorted : mg "sorted" = none) (z_set : mg "set" = none) : FnOk P w K mg base CX0 2 f__law_read fd__law_read ["_law_machine_here", "_law_state", "_law_pile_here"] (toSp K sp__law_read) := by
  refine fn_ok (k := 1) F__law_read sc__law_read (fun ds M R h => ?_) (fun cdv A outer s H E hr => ⟨_, (jb_cons (js_set (i := 3) sc__law_read.nd je_dictT)
      (jb_cons (js_for PassesOwn.never rfl (ji_any (je_ix (jv 0) je_int)) (jg_tup (n := 3) rfl (jgs_cons (jg_name (i := 4) sc__law_read.nd) (jgs_cons (jg_name (i := 5) sc__law_read.nd) (jgs_cons (jg_name (i := 6) sc__law_read.nd) jgs_nil)))) (jb_one (js_expr (je_append (je_setdT hr (jv 3) (je_tup (ja_cons (jv 4) (ja_cons (jv 5) ja_nil))) (je_fresh (jl_disp ja_nil))) (jv 6)))))
      (jb_cons (js_set (i := 7) sc__law_read.nd (je_call G__law_slipped (hr.mono (by decide)) (by rfl) g__law_slipped k__law_slipped b__law_slipped (ja_cons (jv 3) (ja_cons (je_frz (jl_disp (ja_cons (jv 1) ja_nil))) ja_nil))))
      (jb_cons (js_for PassesOwn.never rfl (ji_any (jv 2)) (jg_name (i := 8) sc__law_read.nd) (jb_cons (js_set (i := 9) sc__law_read.nd (je_fresh (jl_disp ja_nil))) (jb_cons (js_for PassesOwn.never rfl (ji_any (jv 7)) (jg_name (i := 10) sc__law_read.nd) (jb_one (js_expr (je_extendA (jv 9) (je_get2T hr (jv 3) (je_tup (ja_cons (jv 10) (ja_cons (jv 8) ja_nil))) (je_frz (jl_disp ja_nil))))))) (jb_one (js_set (i := 7) sc__law_read.nd (je_call G__law_slipped (hr.mono (by decide)) (by rfl) g__law_slipped k__law_slipped b__law_slipped (ja_cons (jv 3) (ja_cons (je_frz (jl_sortSet rfl hr z_sorted z_set (jv 9))) ja_nil))))))))
      (jb_one (js_ret (je_frz (jl_sorted hr z_sorted (ja_cons (jv 7) ja_nil))))))))), fun ds M R h => ?_⟩)
  · unfold sp__law_read at h
    first | (obtain ⟨rfl, _⟩ := h; rfl) | (obtain ⟨_, rfl, _⟩ := h; rfl) | (obtain ⟨_, _, rfl, _⟩ := h; rfl) | (obtain ⟨_, _, _, rfl, _⟩ := h; rfl) | (obtain ⟨_, _, _, _, rfl, _⟩ := h; rfl) | (obtain ⟨_, _, _, _, _, rfl, _⟩ := h; rfl) | (obtain ⟨_, _, _, _, _, _, rfl, _⟩ := h; rfl) | (obtain ⟨_, _, _, _, _, _, _, rfl, _⟩ := h; rfl) | (obtain ⟨_, _, _, _, _, _, _, _, rfl, _⟩ := h; rfl) | (split at h <;> first | rfl | exact h.elim)
  · unfold sp__law_read at h
    obtain ⟨E, d2, s, w, rfl, hw, hE, k⟩ := h
    simp_all only [N__law_read]
    infer_instance
    intro p hp
    infer_instance
    refine forS [4, 5, 6] (fun i vs M' => ∃ x4 x5 x6, vs = [x4, x5, x6] ∧ (∀ x, M x ≠ none → M' x = M x) ∧ Thr M M' p (E.take i)) (fun _ _ _ _ => trivial) (fun i x N e hN vs M' hI => ?_) (fun vs M' hI => ?_) ⟨_, _, _, rfl, ?_, ?_⟩
    · obtain ⟨x4, x5, x6, rfl, hk, hL⟩ := hI
      rw [List.getElem?_map] at e
      obtain ⟨⟨s, m, t⟩, he, rfl⟩ := Option.map_eq_some_iff.mp e
      have hlt := (List.getElem?_eq_some_iff.mp he).1
      simp only [edD]
      infer_instance
      refine there_go (s := s) (m := m) hL (by rw [List.length_take]; omega) (fun x hx => ?_) fun M2 hL2 fr => ?_
      · cases e0 : M x with
        | none => rfl
        | some o => have := hk x (by rw [e0]; simp); rw [hx, e0] at this; cases this
      · refine hN _ _ _ rfl ⟨_, _, _, rfl, fun x hx => (fr x hx).trans (hk x hx), ?_⟩
        rw [List.take_add_one, he]
        exact hL2
    · obtain ⟨x4, x5, x6, rfl, hk, hL⟩ := hI
      have hlen : (List.map edD E).length = E.length := List.length_map ..
      rw [hlen, List.take_length] at hL
      have hs : Sub M M' := fun a o h => by rw [hk a (by rw [h]; simp)]; exact h
      infer_instance
      refine lslipped_go (xs := [s]) hL hE (by simp) (by simp) fun ys hy hyl hym => ?_
      infer_instance
      refine forS [7, 8, 9, 10] (fun i vs M2 => ∃ (us : List Str) (x8 x9 x10 : Option DM.D), vs = [some (.lst (us.map .str)), x8, x9, x10] ∧ Sub M' M2 ∧ us.Nodup ∧ us.length ≤ 3000 ∧ ∀ z, z ∈ us ↔ ReadsTo E s (w.take i) z) (fun _ _ _ _ => trivial) (fun i x N e hN vs M2 hI => ?_) (fun vs M2 hI => ?_) ⟨ys, _, _, _, rfl, fun _ _ h => h, hy, hyl, fun z => (hym z).trans (Slips.congr (fun x => by simp) z)⟩
      · obtain ⟨us, x8, x9, x10, rfl, hs2, hu, hul, hum⟩ := hI
        rw [List.getElem?_map] at e
        obtain ⟨mk, hmk, rfl⟩ := Option.map_eq_some_iff.mp e
        infer_instance
        intro f hf
        infer_instance
        have b0 := (Px.start (M := M2)).new (o := .lst []) hf
        have hfl : ∀ i, ((us.take i).flatMap (byE E · mk)).length ≤ E.length := fun i => behind_len ((List.take_sublist i us).nodup hu)
        refine forS [10] (fun i vs M3 => ∃ x10, vs = [x10] ∧ Px M2 [(f, .lst (((us.take i).flatMap (byE E · mk)).map .str))] M3) (fun _ _ _ _ => trivial) (fun i x N2 e hN2 vs M3 hI => ?_) (fun vs M3 hI => ?_) ⟨_, rfl, b0⟩
        · obtain ⟨x10, rfl, b⟩ := hI
          rw [List.getElem?_map] at e
          obtain ⟨y, he, rfl⟩ := Option.map_eq_some_iff.mp e
          have h1 := hfl (i + 1)
          rw [flat_take he, List.length_append] at h1
          have hu2 : Sub M' M3 := hs2.trans b.ex
          infer_instance
          refine ⟨by rw [b.lst1]; rfl, (hL.frame hu2).isD, ?_⟩
          refine hL.get2 hu2 (fun a ha => ?_) fun hen => ?_
          · refine ext_go b.lst1 (zs := (byE E y mk).map .str) (show lstOf M3 a = _ from lstOf_sub hu2 ha) (by simp only [List.length_map]; exact small_line2 (by omega)) ?_
            rw [← List.map_append, ← flat_take (f := (byE E · mk)) he]
            try simp_all only []
            exact hN2 _ _ _ rfl ⟨_, rfl, b.put1⟩
          · refine ext_go b.lst1 (zs := (byE E y mk).map .str) (by rw [hen]; rfl) (by simp only [List.length_map]; exact small_line2 (by omega)) ?_
            rw [← List.map_append, ← flat_take (f := (byE E · mk)) he]
            try simp_all only []
            exact hN2 _ _ _ rfl ⟨_, rfl, b.put1⟩
        · obtain ⟨x10, rfl, b⟩ := hI
          rw [List.length_map, List.take_length] at b
          have h1 := hfl us.length
          rw [List.take_length] at h1
          infer_instance
          have hrl := rise_len (us.flatMap (byE E · mk))
          refine sortSet_go (l := us.flatMap (byE E · mk)) b.lst1 (by omega) ?_
          refine lslipped_go (hL.frame (hs2.trans b.ex)) hE (by omega) (ris_nodup (rise_ris _)) fun vs hv hvl hvm => ?_
          refine hN _ _ _ rfl ⟨vs, _, _, _, rfl, hs2.trans b.ex, hv, hvl, fun z => ?_⟩
          rw [List.take_add_one, hmk]
          unfold ReadsTo
          show z ∈ vs ↔ readP E _ (w.take i ++ [mk]) z
          rw [readP_snoc, hvm]
          refine Slips.congr (fun x => ?_) z
          rw [rise_mem, behind_mem]
          exact stepP_congr hum x
      · obtain ⟨us, x8, x9, x10, rfl, hs2, hu, hul, hum⟩ := hI
        rw [List.length_map, List.take_length] at hum
        infer_instance
        refine ⟨sortOk_str, ?_⟩
        rw [sortD_strs]
        refine Shr.of (k _ (sortS_ris hu) fun z => ?_) (hs.trans hs2)
        rw [sortS_mem]; exact hum z
    · intro x hx
      rw [mup_ne (by rintro rfl; exact hx hp)]
    · exact Thr.nil hp
/-- told rightly where a pile leads -/
def sp__law_right (Reader : Addr) : DSp := fun ds M R => ∃ (E : List Ed) (F : List Str) (s : Str) (w : List Str), ds = [tgtD E F, .str s, .tup (w.map .str)] ∧ w.length ≤ 2000 ∧ E.length ≤ 1000 ∧ R (.bl true) M
theorem lright_go {M : Mm} {R : DQ} {Reader : Addr} {E : List Ed} {F : List Str} {s : Str} {w : List Str} (hw : w.length ≤ 2000) (h1 : E.length ≤ 1000) (k : R (.bl true) M) : sp__law_right Reader [tgtD E F, .str s, .tup (w.map .str)] M R := ⟨E, F, s, w, rfl, hw, h1, k⟩
theorem ok__law_right {f__law_right f__law_read f_led_to f_Reader f_Reader_by f_Reader_slipped f_Reader_on f_Reader_read f_Reader_init : Addr} {fd__law_right fd__law_read fd_led_to : FuncData} (TC : Owns K mg f_Reader f_Reader_by f_Reader_slipped f_Reader_on f_Reader_read f_Reader_init) (F__law_right : Fun K "_law_right" "_law_right" st__law_right f__law_right fd__law_right) (G__law_read : FnOk P w K mg base CX0 2 f__law_read fd__law_read ["_law_machine_here", "_law_state", "_law_pile_here"] (toSp K sp__law_read)) (g__law_read : mg "_law_read" = some (.ref f__law_read)) (k__law_read : PySem.W.keepIn K (.ref f__law_read) = true) (b__law_read : Binds K fd__law_read ["_law_machine_here", "_law_state", "_law_pile_here"] []) (G_led_to : FnOk P w K mg base CX0 5 f_led_to fd_led_to ["machine", "state", "pile"] (toSp K (sp_led_to f_Reader))) (g_led_to : mg "led_to" = some (.ref f_led_to)) (k_led_to : PySem.W.keepIn K (.ref f_led_to) = true) (b_led_to : Binds K fd_led_to ["machine", "state", "pile"] []) (z_tuple : mg "tuple" = none) (z_range : mg "range" = none) (z_isinstance : mg "isinstance" = none) : FnOk P w K mg base CX0 6 f__law_right fd__law_right ["_law_machine_here", "_law_state", "_law_pile_here"] (toSp K (sp__law_right f_Reader)) := by
  refine fn_ok (k := 5) F__law_right sc__law_right (fun ds M R h => ?_) (fun cdv A outer s H E hr => ⟨_, (jb_cons (js_set (i := 3) sc__law_right.nd (je_tuple z_tuple (ja_cons (je_call G__law_read (hr.mono (by decide)) (by rfl) g__law_read k__law_read b__law_read (ja_cons (jv 0) (ja_cons (jv 1) (ja_cons (jv 2) ja_nil)))) ja_nil)))
      (jb_cons (js_for PassesOwn.never rfl (ji_rng1 (by rfl) z_range je_int) (jg_name (i := 4) sc__law_right.nd) (jb_cons (js_set (i := 5) sc__law_right.nd (je_call G_led_to (hr.mono (by decide)) (by rfl) g_led_to k_led_to b_led_to (ja_cons (jv 0) (ja_cons (jv 1) (ja_cons (jv 2) ja_nil))))) (jb_one (js_if (JW.jt (jw_or (jt_not (jt_val (je_isi z_isinstance (ja_cons (jv 5) (ja_cons (je_ty (by rfl) z_tuple PyProof.Rows.boot_tuple) ja_nil))))) (jw_or1 (jt_ne hr (jv 5) (jv 3))))) (jb_one (js_ret je_bl)) jb_nil))))
      (jb_one (js_ret je_bl)))), fun ds M R h => ?_⟩)
  · unfold sp__law_right at h
    first | (obtain ⟨rfl, _⟩ := h; rfl) | (obtain ⟨_, rfl, _⟩ := h; rfl) | (obtain ⟨_, _, rfl, _⟩ := h; rfl) | (obtain ⟨_, _, _, rfl, _⟩ := h; rfl) | (obtain ⟨_, _, _, _, rfl, _⟩ := h; rfl) | (obtain ⟨_, _, _, _, _, rfl, _⟩ := h; rfl) | (obtain ⟨_, _, _, _, _, _, rfl, _⟩ := h; rfl) | (obtain ⟨_, _, _, _, _, _, _, rfl, _⟩ := h; rfl) | (obtain ⟨_, _, _, _, _, _, _, _, rfl, _⟩ := h; rfl) | (split at h <;> first | rfl | exact h.elim)
  · unfold sp__law_right at h
    obtain ⟨E, F, s, w, rfl, hw, hE, k⟩ := h
    unfold tgtD
    simp_all only [N__law_right]
    infer_instance
    refine lread_go hw hE fun ds hd hdm => ?_
    infer_instance
    refine forR [4, 5] (fun i vs M' => ∃ x4 x5, vs = [x4, x5] ∧ M' = M) (fun _ _ _ _ => trivial) (fun i N hi hN vs M' hI => ?_) (fun vs M' hI => ?_) ⟨_, _, rfl, rfl⟩
    · obtain ⟨x4, x5, rfl, rfl⟩ := hI
      infer_instance
      refine led_go (by omega) (by omega) fun zs hz hzm => ?_
      obtain rfl : zs = ds := ris_eq hz hd fun z => (hzm z).trans (hdm z).symm
      infer_instance
      exact hN _ _ _ rfl ⟨_, _, rfl, rfl⟩
    · obtain ⟨x4, x5, rfl, rfl⟩ := hI
      infer_instance
      exact Shr.all k
theorem ok_law {f_law f__law_draw f__law_names f__law_machine f__law_great f__law_long_right f__law_pick f__law_pile f__law_right f__law_read f_is_held f_led_to f__law_deck f_Reader f_Reader_by f_Reader_slipped f_Reader_on f_Reader_read f_Reader_init : Addr} {fd_law fd__law_draw fd__law_names fd__law_machine fd__law_great fd__law_long_right fd__law_pick fd__law_pile fd__law_right fd__law_read fd_is_held fd_led_to fd__law_deck : FuncData} (TC : Owns K mg f_Reader f_Reader_by f_Reader_slipped f_Reader_on f_Reader_read f_Reader_init) (F_law : Fun K "law" "law" st_law f_law fd_law) (G__law_draw : FnOk P w K mg base CX0 1 f__law_draw fd__law_draw ["_law_deck_here", "_law_most"] (toSp K sp__law_draw)) (g__law_draw : mg "_law_draw" = some (.ref f__law_draw)) (k__law_draw : PySem.W.keepIn K (.ref f__law_draw) = true) (b__law_draw : Binds K fd__law_draw ["_law_deck_here", "_law_most"] []) (G__law_names : FnOk P w K mg base CX0 2 f__law_names fd__law_names ["_law_deck_here", "_law_many"] (toSp K sp__law_names)) (g__law_names : mg "_law_names" = some (.ref f__law_names)) (k__law_names : PySem.W.keepIn K (.ref f__law_names) = true) (b__law_names : Binds K fd__law_names ["_law_deck_here", "_law_many"] []) (G__law_machine : FnOk P w K mg base CX0 3 f__law_machine fd__law_machine ["_law_deck_here", "_law_places", "_law_marks", "_law_sort", "_law_most"] (toSp K sp__law_machine)) (g__law_machine : mg "_law_machine" = some (.ref f__law_machine)) (k__law_machine : PySem.W.keepIn K (.ref f__law_machine) = true) (b__law_machine : Binds K fd__law_machine ["_law_deck_here", "_law_places", "_law_marks", "_law_sort", "_law_most"] []) (G__law_great : FnOk P w K mg base CX0 3 f__law_great fd__law_great ["_law_deck_here", "_law_places", "_law_marks"] (toSp K sp__law_great)) (g__law_great : mg "_law_great" = some (.ref f__law_great)) (k__law_great : PySem.W.keepIn K (.ref f__law_great) = true) (b__law_great : Binds K fd__law_great ["_law_deck_here", "_law_places", "_law_marks"] []) (G__law_long_right : FnG P w K mg base CX0 7 f__law_long_right fd__law_long_right ["_law_deck_here", "_law_place", "_law_mark"] (toSp K (sp__law_long_right f_Reader f_NoRun))) (g__law_long_right : mg "_law_long_right" = some (.ref f__law_long_right)) (k__law_long_right : PySem.W.keepIn K (.ref f__law_long_right) = true) (b__law_long_right : Binds K fd__law_long_right ["_law_deck_here", "_law_place", "_law_mark"] []) (G__law_pick : FnOk P w K mg base CX0 2 f__law_pick fd__law_pick ["_law_deck_here", "_law_some"] (toSp K sp__law_pick)) (g__law_pick : mg "_law_pick" = some (.ref f__law_pick)) (k__law_pick : PySem.W.keepIn K (.ref f__law_pick) = true) (b__law_pick : Binds K fd__law_pick ["_law_deck_here", "_law_some"] []) (G__law_pile : FnOk P w K mg base CX0 3 f__law_pile fd__law_pile ["_law_deck_here", "_law_machine_here", "_law_marks", "_law_state"] (toSp K sp__law_pile)) (g__law_pile : mg "_law_pile" = some (.ref f__law_pile)) (k__law_pile : PySem.W.keepIn K (.ref f__law_pile) = true) (b__law_pile : Binds K fd__law_pile ["_law_deck_here", "_law_machine_here", "_law_marks", "_law_state"] []) (G__law_right : FnOk P w K mg base CX0 6 f__law_right fd__law_right ["_law_machine_here", "_law_state", "_law_pile_here"] (toSp K (sp__law_right f_Reader))) (g__law_right : mg "_law_right" = some (.ref f__law_right)) (k__law_right : PySem.W.keepIn K (.ref f__law_right) = true) (b__law_right : Binds K fd__law_right ["_law_machine_here", "_law_state", "_law_pile_here"] []) (G__law_read : FnOk P w K mg base CX0 2 f__law_read fd__law_read ["_law_machine_here", "_law_state", "_law_pile_here"] (toSp K sp__law_read)) (g__law_read : mg "_law_read" = some (.ref f__law_read)) (k__law_read : PySem.W.keepIn K (.ref f__law_read) = true) (b__law_read : Binds K fd__law_read ["_law_machine_here", "_law_state", "_law_pile_here"] []) (G_is_held : FnOk P w K mg base CX0 6 f_is_held fd_is_held ["machine", "stand"] (toSp K (sp_is_held f_Reader))) (g_is_held : mg "is_held" = some (.ref f_is_held)) (k_is_held : PySem.W.keepIn K (.ref f_is_held) = true) (b_is_held : Binds K fd_is_held ["machine", "stand"] []) (G_led_to : FnOk P w K mg base CX0 5 f_led_to fd_led_to ["machine", "state", "pile"] (toSp K (sp_led_to f_Reader))) (g_led_to : mg "led_to" = some (.ref f_led_to)) (k_led_to : PySem.W.keepIn K (.ref f_led_to) = true) (b_led_to : Binds K fd_led_to ["machine", "state", "pile"] []) (G__law_deck : FnOk P w K mg base CX0 1 f__law_deck fd__law_deck ["_law_script"] (spDeckH K)) (g__law_deck : mg "_law_deck" = some (.ref f__law_deck)) (k__law_deck : PySem.W.keepIn K (.ref f__law_deck) = true) (b__law_deck : Binds K fd__law_deck ["_law_script"] []) (z_range : mg "range" = none) (z_isinstance : mg "isinstance" = none) (z_bool : mg "bool" = none) : FnG P w K mg base CX0 8 f_law fd_law ["_law_script"] (spLawH K) := by
  refine law_okG (k := 7) F_law sc_law (by decide) (by rfl) fun cdv A outer s H E hrG => have hr := hrG.r; ⟨_, (ps_set (i := 1) sc_law.nd rfl (by first | exact Or.inl rfl | exact Or.inr rfl) (pe_call G__law_deck (hr.mono (by decide)) (by rfl) g__law_deck k__law_deck b__law_deck .nil pass0 (pa_cons (pv 0) pa_nil))),
    (jb_cons (js_set (i := 2) sc_law.nd (je_call G__law_draw (hr.mono (by decide)) (by rfl) g__law_draw k__law_draw b__law_draw (ja_cons (jv 1) (ja_cons je_int ja_nil))))
      (jb_cons (js_set (i := 3) sc_law.nd (je_call G__law_names (hr.mono (by decide)) (by rfl) g__law_names k__law_names b__law_names (ja_cons (jv 1) (ja_cons je_int ja_nil))))
      (jb_cons (js_set (i := 4) sc_law.nd (je_slice (jv 3) jo_none (jo_some (je_add je_int (je_call G__law_draw (hr.mono (by decide)) (by rfl) g__law_draw k__law_draw b__law_draw (ja_cons (jv 1) (ja_cons je_int ja_nil)))))))
      (jb_cons (js_set (i := 5) sc_law.nd (je_slice (jv 3) (jo_some je_int) (jo_some (je_add je_int (je_call G__law_draw (hr.mono (by decide)) (by rfl) g__law_draw k__law_draw b__law_draw (ja_cons (jv 1) (ja_cons je_int ja_nil)))))))
      (jb_cons (js_set (i := 6) sc_law.nd (je_call G__law_machine (hr.mono (by decide)) (by rfl) g__law_machine k__law_machine b__law_machine (ja_cons (jv 1) (ja_cons (jv 4) (ja_cons (jv 5) (ja_cons (jv 2) (ja_cons je_int ja_nil)))))))
      (jb_cons (js_if (jt_eq hr (je_call G__law_draw (hr.mono (by decide)) (by rfl) g__law_draw k__law_draw b__law_draw (ja_cons (jv 1) (ja_cons je_int ja_nil))) je_int) (jb_one (js_set (i := 6) sc_law.nd (je_call G__law_great (hr.mono (by decide)) (by rfl) g__law_great k__law_great b__law_great (ja_cons (jv 1) (ja_cons (jv 4) (ja_cons (jv 5) ja_nil)))))) jb_nil)
      (jb_cons (js_if (JW.jt (jw_and (jt_eq hr (je_call G__law_draw (hr.mono (by decide)) (by rfl) g__law_draw k__law_draw b__law_draw (ja_cons (jv 1) (ja_cons je_int ja_nil))) je_int) (jw_and1 (jt_not (jt_val (je_callG G__law_long_right (hrG.mono (by decide)) (by rfl) g__law_long_right k__law_long_right b__law_long_right (ja_cons (jv 1) (ja_cons (je_ix (jv 4) je_int) (ja_cons (je_ix (jv 5) je_int) ja_nil))))))))) (jb_one (js_ret je_bl)) jb_nil)
      (jb_cons (js_for PassesOwn.never rfl (ji_rng1 (by rfl) z_range je_int) (jg_name (i := 7) sc_law.nd) (jb_cons (js_set (i := 8) sc_law.nd (je_call G__law_pick (hr.mono (by decide)) (by rfl) g__law_pick k__law_pick b__law_pick (ja_cons (jv 1) (ja_cons (je_add (jv 4) (je_frz (jl_disp (ja_cons je_str (ja_cons je_str (ja_cons je_str (ja_cons je_str (ja_cons je_str ja_nil)))))))) ja_nil)))) (jb_cons (js_set (i := 9) sc_law.nd (je_call G__law_pile (hr.mono (by decide)) (by rfl) g__law_pile k__law_pile b__law_pile (ja_cons (jv 1) (ja_cons (jv 6) (ja_cons (jv 5) (ja_cons (jv 8) ja_nil)))))) (jb_cons (js_if (jt_not (jt_val (je_call G__law_right (hr.mono (by decide)) (by rfl) g__law_right k__law_right b__law_right (ja_cons (jv 6) (ja_cons (jv 8) (ja_cons (jv 9) ja_nil)))))) (jb_one (js_ret je_bl)) jb_nil) (jb_cons (js_set (i := 10) sc_law.nd (je_call G__law_pick (hr.mono (by decide)) (by rfl) g__law_pick k__law_pick b__law_pick (ja_cons (jv 1) (ja_cons (je_add (jv 4) (je_frz (jl_disp (ja_cons je_str ja_nil)))) ja_nil)))) (jb_one (js_for PassesOwn.never rfl (ji_any (je_frz (jl_disp (ja_cons (jv 10) (ja_cons (jv 8) ja_nil))))) (jg_name (i := 11) sc_law.nd) (jb_cons (js_set (i := 12) sc_law.nd (je_ne hr (je_frz (jl_lc rfl sc_law.nd (jlc (ji_any (je_call G__law_read (hr.mono (by decide)) (by rfl) g__law_read k__law_read b__law_read (ja_cons (jv 6) (ja_cons (jv 11) (ja_cons (jv 9) ja_nil))))) (blkOk_by (own := [("_law_there", 14)]) (N := N_law) (sc := defScope st_law) (by decide +kernel)) (fun _ _ _ _ _ => (jgv_name (i := 14) sc_law.nd (by decide))) (fun _ _ _ _ _ => (jts_one (jt_in hr (jv 14) (je_ix (jv 6) je_int)))) (fun _ _ _ _ _ => (jv 14))))) (je_frz (jl_disp ja_nil)))) (jb_one (js_if (jt_notin hr (je_ix (jv 11) je_int) je_str) (jb_cons (js_set (i := 13) sc_law.nd (je_call G_is_held (hr.mono (by decide)) (by rfl) g_is_held k_is_held b_is_held (ja_cons (jv 6) (ja_cons (je_tup (ja_cons (jv 11) (ja_cons (jv 9) ja_nil))) ja_nil)))) (jb_one (js_if (JW.jt (jw_or (jt_not (jt_val (je_isi z_isinstance (ja_cons (jv 13) (ja_cons (je_ty (by rfl) z_bool PyProof.Rows.boot_bool) ja_nil))))) (jw_or1 (jt_ne hr (jv 13) (jv 12))))) (jb_one (js_ret je_bl)) jb_nil))) jb_nil))))))))))
      (jb_one (js_ret (je_and (je_eq hr (je_call G_led_to (hr.mono (by decide)) (by rfl) g_led_to k_led_to b_led_to (ja_cons (je_tup (ja_cons (je_tup ja_nil) (ja_cons (je_tup ja_nil) ja_nil))) (ja_cons (je_ix (jv 4) je_int) (ja_cons (je_tup ja_nil) ja_nil)))) (je_tup (ja_cons (je_ix (jv 4) je_int) ja_nil))) (je_one (je_eq hr (je_call G_led_to (hr.mono (by decide)) (by rfl) g_led_to k_led_to b_led_to (ja_cons (je_tup (ja_cons (je_tup ja_nil) (ja_cons (je_tup ja_nil) ja_nil))) (ja_cons (je_ix (jv 4) je_int) (ja_cons (je_tup (ja_cons je_str ja_nil)) ja_nil)))) (je_tup ja_nil)))))))))))))), fun M d c hD => ?_⟩
  have b0 := Bx.start (hD.mono (r' := 1000000) (by decide))
  simp_all only [N_law]
  infer_instance
  refine draw_B b0 (by omega) (by omega) (by omega) fun so M1 s0 s1 b1 => ?_
  infer_instance
  refine names_go (many := 10) (r := 900000) (b1.dk.mono (by omega)) (by decide) fun ns M2 hnl hns D2 U2 => ?_
  have b2 : Bx d c 900000 _ [] M2 := (b1.mono (r' := 900000) (by omega)).call D2 U2
  clear D2 U2
  infer_instance
  refine draw_B b2 (by omega) (by omega) (by omega) fun np M3 p0 p1 b3 => ?_
  infer_instance
  obtain ⟨kp, hkp⟩ : ∃ k : Nat, 1 + np = k := ⟨(1 + np).toNat, by omega⟩
  rw [hkp, cutL_toN, ← List.map_take]
  infer_instance
  refine draw_B b3 (by omega) (by omega) (by omega) fun nm M4 m0 m1 b4 => ?_
  infer_instance
  obtain ⟨km, hkm⟩ : ∃ k : Nat, 5 + nm = k := ⟨(5 + nm).toNat, by omega⟩
  rw [hkm, show (4 : Int) = ((4 : Nat) : Int) from rfl, cutL_midN, ← List.map_drop, ← List.map_take]
  infer_instance
  have hps : ∀ s ∈ ns.take kp, NameS s := fun s hs => hns s (List.mem_of_mem_take hs)
  have hms : ∀ s ∈ (ns.drop 4).take (km - 4), NameS s := fun s hs => hns s (List.mem_of_mem_drop (List.mem_of_mem_take hs))
  have hpl : (ns.take kp).length = kp := by rw [List.length_take]; omega
  have hml : ((ns.drop 4).take (km - 4)).length = km - 4 := by rw [List.length_take, List.length_drop]; omega
  generalize ns.take kp = ps at *
  generalize (ns.drop 4).take (km - 4) = ms at *
  have hp0 : ps ≠ [] := by rintro rfl; simp at hpl; omega
  have hm0 : ms ≠ [] := by rintro rfl; simp at hml; omega
  obtain ⟨s, rfl⟩ : ∃ s : Nat, so = s := ⟨so.toNat, by omega⟩
  refine machine_B (n := 8) b4 hp0 hm0 (by omega) (by omega) (by omega) (by omega) (by omega) (by omega) fun E F M5 hE b5 => ?_
  infer_instance
  refine seqS [6] (fun vs M' => ∃ E F, vs = [some (tgtD E F)] ∧ E.length ≤ 250 ∧ Bx d c 800000 M [] M') (fun N hN => ?_) fun vs M7 hJ => ?_
  · try simp_all only []
    refine draw_B b5 (by omega) (by omega) (by omega) fun u M6 u0 u1 b6 => ?_
    try simp_all only []
    refine ifs (fun _ => ?_) (fun _ => ?_)
    · refine great_B b6 hp0 hm0 (by omega) (by omega) (by omega) fun E F M7 hE b7 => ?_
      exact hN _ _ _ rfl ⟨E, F, rfl, by omega, b7.mono (by omega)⟩
    · exact hN _ _ _ rfl ⟨E, F, rfl, by omega, b6.mono (by omega)⟩
  clear hE b5
  obtain ⟨E, F, rfl, hE, b7⟩ := hJ
  refine seqS [] (fun vs M' => vs = [] ∧ Bx d c 700000 M [] M') (fun N hN => ?_) fun vs M8 hJ => ?_
  · try simp_all only []
    refine draw_B b7 (by omega) (by omega) (by omega) fun u M6 u0 u1 b8 => ?_
    try simp_all only []
    refine ifs (fun _ => ?_) (fun _ => ?_)
    · obtain ⟨p, ps', rfl⟩ := List.exists_cons_of_ne_nil hp0
      obtain ⟨m, ms', rfl⟩ := List.exists_cons_of_ne_nil hm0
      try simp_all only []
      refine llong_B b8 (hps p (by simp)) (hms m (by simp)) (by omega) fun M9 b9 => ?_
      try simp_all only []
      exact hN _ _ _ rfl ⟨rfl, b9.mono (by omega)⟩
    · exact hN _ _ _ rfl ⟨rfl, b8.mono (by omega)⟩
  obtain ⟨rfl, b8⟩ := hJ
  infer_instance
  have hfirst : ∀ x, (x ∈ ps ∨ x ∈ [Str.ofString "0", Str.ofString "10", Str.ofString "7", Str.ofString "55", Str.ofString "elsewher"]) → (∃ c, (cps x)[0]? = some c) ∧ x.length ≤ sizeLine := by
    rintro x (hx | hx)
    · obtain ⟨⟨c, r, e, _⟩, _, hl⟩ := hps x hx
      exact ⟨⟨c, by rw [e]; rfl⟩, len_le rfl (by omega)⟩
    · simp only [List.mem_cons, List.not_mem_nil, or_false] at hx
      rcases hx with rfl | rfl | rfl | rfl | rfl <;> exact ⟨⟨_, rfl⟩, by decide⟩
  refine forR [7, 8, 9, 10, 11, 12, 13, 14] (fun i vs M' => ∃ x7 x8 x9 x10 x11 x12 x13 x14, vs = [x7, x8, x9, x10, x11, x12, x13, x14] ∧ Bx d c (100000 + 10000 * (10 - i)) M [] M') (fun _ _ _ _ => trivial) (fun i N hi hN vs M' hI => ?_) (fun vs M' hI => ?_) ⟨_, _, _, _, _, _, _, _, rfl, b8.mono (by omega)⟩
  · obtain ⟨x7, x8, x9, x10, x11, x12, x13, x14, rfl, b9⟩ := hI
    infer_instance
    rw [show ps.map D.str ++ [D.str (Str.ofString "0"), D.str (Str.ofString "10"), D.str (Str.ofString "7"), D.str (Str.ofString "55"), D.str (Str.ofString "elsewher")] = (ps ++ [Str.ofString "0", Str.ofString "10", Str.ofString "7", Str.ofString "55", Str.ofString "elsewher"]).map D.str by simp]
    refine pick_BL b9 (by omega) (by simp) (by simp; omega) fun st hst M9 b10 => ?_
    infer_instance
    refine pile_B b10 hm0 (by omega) (by omega) (by omega) fun w M10 hw b11 => ?_
    and_intros
    refine lright_go (E := E) (F := F) (w := w) (by omega) (by omega) ?_
    infer_instance
    rw [show ps.map D.str ++ [D.str (Str.ofString "elsewher")] = (ps ++ [Str.ofString "elsewher"]).map D.str by simp]
    refine pick_BL b11 (by omega) (by simp) (by simp; omega) fun pl hpl2 M11 b12 => ?_
    infer_instance
    have hys : ∀ x ∈ [D.str pl, D.str st], ∃ y : Str, x = .str y ∧ (∃ c, (cps y)[0]? = some c) ∧ y.length ≤ sizeLine := by
      intro x hx
      simp only [List.mem_cons, List.not_mem_nil, or_false] at hx
      rcases hx with rfl | rfl
      · exact ⟨pl, rfl, hfirst pl ((List.mem_append.mp hpl2).imp id fun h => by rw [List.mem_singleton.mp h]; simp)⟩
      · exact ⟨st, rfl, hfirst st (List.mem_append.mp hst)⟩
    refine forS [11, 12, 13, 14] (fun j vs M'' => ∃ x11 x12 x13 x14, vs = [x11, x12, x13, x14] ∧ M'' = M11) (fun _ _ _ _ => trivial) (fun j x N2 e hN2 vs M'' hI => ?_) (fun vs M'' hI => ?_) ⟨_, _, _, _, rfl, rfl⟩
    · obtain ⟨x11, x12, x13, x14, rfl, rfl⟩ := hI
      obtain ⟨y, rfl, ⟨ch, hch⟩, hyl⟩ := hys x (List.mem_of_getElem? e)
      infer_instance
      refine lread_go (E := E) (w := w) (by omega) (by omega) fun zs hz hzm => ?_
      have hzl := reads_len hz hzm
      infer_instance
      refine lcW_filter D.str (fun z => decide (z ∈ F)) D.str (small_line2 (by omega)) trivial (fun z _ NN FF h1 h2 => ?_) ?_
      · unfold tgtD
        infer_instance
        refine inR_strS (l := F) rfl ?_
        exact ifs (fun c => h1 c) (fun c => h2 (by simpa using c))
      · and_intros
        refine ix_s (by omega) hch hyl ?_
        try simp_all only []
        refine ifs (fun _ => ?_) (fun _ => ?_)
        · and_intros
          refine held_go (E := E) (F := F) (w := w) (by omega) (by omega) fun b hb => ?_
          have hbe : b = !(List.map D.str (List.filter (fun z => decide (z ∈ F)) zs)).isEmpty := by
            rw [Bool.eq_iff_iff, hb]
            cases hf : List.filter (fun z => decide (z ∈ F)) zs with
            | nil =>
              simp only [List.map_nil, List.isEmpty_nil, Bool.not_true, Bool.false_eq_true, iff_false]
              rintro ⟨z, h1, h2⟩
              have : z ∈ List.filter (fun z => decide (z ∈ F)) zs := List.mem_filter.mpr ⟨(hzm z).mpr h2, by simpa using h1⟩
              rw [hf] at this
              cases this
            | cons z l =>
              simp only [List.map_cons, List.isEmpty_cons, Bool.not_false, iff_true]
              have : z ∈ List.filter (fun z => decide (z ∈ F)) zs := by rw [hf]; exact List.mem_cons_self
              obtain ⟨h1, h2⟩ := List.mem_filter.mp this
              exact ⟨z, by simpa using h2, (hzm z).mp h1⟩
          rw [hbe]
          and_intros
          exact hN2 _ _ _ rfl ⟨_, _, _, _, rfl, rfl⟩
        · exact hN2 _ _ _ rfl ⟨_, _, _, _, rfl, rfl⟩
    · obtain ⟨x11, x12, x13, x14, rfl, rfl⟩ := hI
      exact hN _ _ _ rfl ⟨_, _, _, _, _, _, _, _, rfl, b12.mono (by omega)⟩
  · obtain ⟨x7, x8, x9, x10, x11, x12, x13, x14, rfl, b9⟩ := hI
    obtain ⟨p, ps', rfl⟩ := List.exists_cons_of_ne_nil hp0
    and_intros
    have hno : ∀ {S : Str → Prop} {z : Str}, Slips [] S z ↔ S z := fun {S z} => ⟨fun h => (by rcases h with h | ⟨_, he⟩; exact h; cases he), fun h => Slips.base h⟩
    refine led_go (E := []) (w := []) (by simp) (by simp) fun zs hz hzm => ?_
    obtain rfl : zs = [p] := ris_one hz fun z => (hzm z).trans hno
    try simp_all only []
    refine led_go (E := []) (w := [Str.ofString "a"]) (by simp) (by simp) fun zs hz hzm => ?_
    obtain rfl : zs = [] := by
      cases zs with
      | nil => rfl
      | cons z l =>
        obtain ⟨y, _, he⟩ := hno.mp ((hzm z).mp List.mem_cons_self)
        cases he
    try simp_all only []
theorem ok__law_deck {f fd} (F : Fun K "_law_deck" "_law_deck" st__law_deck f fd) (z_list : mg "list" = none) (z_sum : mg "sum" = none) (z_len : mg "len" = none) : FnOk P w K mg base CX0 1 f fd ["_law_script"] (spDeckH K) := by
  refine ok_deck F sc__law_deck fun cdv A outer s H E => ?_
  exact pss_cons (ps_set (i := 1) sc__law_deck.nd rfl (.inl rfl) (pe_callTy call_list_of (by rfl) z_list PyProof.Rows.boot_list (pa_cons (pe_slice sl_list (pv 0) po_none (po_some pe_int)) pa_nil)))
    (pss_one (ps_ret (pe_disp (pps_cons pe_str (pv 1) (pps_cons pe_str pe_int (pps_cons pe_str (pe_op op_add (pe_op op_mod (pe_callB (cr_sum rfl) (by rfl) z_sum PyProof.Rows.boot_sum (pa_cons (pv 1) pa_nil)) pe_int) (pe_callB call_len_seq (by rfl) z_len PySem.boot_len (pa_cons (pv 1) pa_nil))) pps_nil))) rfl rfl (by simp) (by decide))))
theorem all_mk {fa : Addr} {h : Heap} {f__law_deck f__law_draw f__law_names f__law_numbers f__law_pick f__law_machine f__law_great f__law_pile f_behind f_walked f_Reader_by f_Reader_slipped f_Reader_on f_Reader_read f_Reader_init f_led_to f_is_held f__law_long_right f__law_slipped f__law_read f__law_right f_law f_Reader f_PileError f_NoRun f_NoRun_init : Addr} (XX : K.In h) (GG0 : h.Ns mainGlobals mg) (hfa : mg "law" = some (.ref fa)) {od__law_deck an__law_deck : Option Addr} {sl__law_deck : Array (Option Value)} {oc__law_deck kV__law_deck dc__law_deck pm__law_deck cd__law_deck ct__law_deck : Value} (a__law_deck : PySem.W.nsIn K mainGlobals "_law_deck" = some (some (.ref f__law_deck))) (l__law_deck : K.lookup f__law_deck = some ⟨oc__law_deck, od__law_deck, .func (PySem.W.fnOf "_law_deck" "_law_deck" (defArgs st__law_deck) (defBody st__law_deck) (defScope st__law_deck) .none kV__law_deck dc__law_deck pm__law_deck an__law_deck cd__law_deck ct__law_deck), sl__law_deck⟩) (c__law_deck : PySem.W.codeIn K cd__law_deck "_law_deck" = true) (k__law_deck : PySem.W.keepIn K (.ref f__law_deck) = true) {od__law_draw an__law_draw : Option Addr} {sl__law_draw : Array (Option Value)} {oc__law_draw kV__law_draw dc__law_draw pm__law_draw cd__law_draw ct__law_draw : Value} (a__law_draw : PySem.W.nsIn K mainGlobals "_law_draw" = some (some (.ref f__law_draw))) (l__law_draw : K.lookup f__law_draw = some ⟨oc__law_draw, od__law_draw, .func (PySem.W.fnOf "_law_draw" "_law_draw" (defArgs st__law_draw) (defBody st__law_draw) (defScope st__law_draw) .none kV__law_draw dc__law_draw pm__law_draw an__law_draw cd__law_draw ct__law_draw), sl__law_draw⟩) (c__law_draw : PySem.W.codeIn K cd__law_draw "_law_draw" = true) (k__law_draw : PySem.W.keepIn K (.ref f__law_draw) = true) {od__law_names an__law_names : Option Addr} {sl__law_names : Array (Option Value)} {oc__law_names kV__law_names dc__law_names pm__law_names cd__law_names ct__law_names : Value} (a__law_names : PySem.W.nsIn K mainGlobals "_law_names" = some (some (.ref f__law_names))) (l__law_names : K.lookup f__law_names = some ⟨oc__law_names, od__law_names, .func (PySem.W.fnOf "_law_names" "_law_names" (defArgs st__law_names) (defBody st__law_names) (defScope st__law_names) .none kV__law_names dc__law_names pm__law_names an__law_names cd__law_names ct__law_names), sl__law_names⟩) (c__law_names : PySem.W.codeIn K cd__law_names "_law_names" = true) (k__law_names : PySem.W.keepIn K (.ref f__law_names) = true) {od__law_numbers an__law_numbers : Option Addr} {sl__law_numbers : Array (Option Value)} {oc__law_numbers kV__law_numbers dc__law_numbers pm__law_numbers cd__law_numbers ct__law_numbers : Value} (a__law_numbers : PySem.W.nsIn K mainGlobals "_law_numbers" = some (some (.ref f__law_numbers))) (l__law_numbers : K.lookup f__law_numbers = some ⟨oc__law_numbers, od__law_numbers, .func (PySem.W.fnOf "_law_numbers" "_law_numbers" (defArgs st__law_numbers) (defBody st__law_numbers) (defScope st__law_numbers) .none kV__law_numbers dc__law_numbers pm__law_numbers an__law_numbers cd__law_numbers ct__law_numbers), sl__law_numbers⟩) (c__law_numbers : PySem.W.codeIn K cd__law_numbers "_law_numbers" = true) (k__law_numbers : PySem.W.keepIn K (.ref f__law_numbers) = true) {od__law_pick an__law_pick : Option Addr} {sl__law_pick : Array (Option Value)} {oc__law_pick kV__law_pick dc__law_pick pm__law_pick cd__law_pick ct__law_pick : Value} (a__law_pick : PySem.W.nsIn K mainGlobals "_law_pick" = some (some (.ref f__law_pick))) (l__law_pick : K.lookup f__law_pick = some ⟨oc__law_pick, od__law_pick, .func (PySem.W.fnOf "_law_pick" "_law_pick" (defArgs st__law_pick) (defBody st__law_pick) (defScope st__law_pick) .none kV__law_pick dc__law_pick pm__law_pick an__law_pick cd__law_pick ct__law_pick), sl__law_pick⟩) (c__law_pick : PySem.W.codeIn K cd__law_pick "_law_pick" = true) (k__law_pick : PySem.W.keepIn K (.ref f__law_pick) = true) {od__law_machine an__law_machine : Option Addr} {sl__law_machine : Array (Option Value)} {oc__law_machine kV__law_machine dc__law_machine pm__law_machine cd__law_machine ct__law_machine : Value} (a__law_machine : PySem.W.nsIn K mainGlobals "_law_machine" = some (some (.ref f__law_machine))) (l__law_machine : K.lookup f__law_machine = some ⟨oc__law_machine, od__law_machine, .func (PySem.W.fnOf "_law_machine" "_law_machine" (defArgs st__law_machine) (defBody st__law_machine) (defScope st__law_machine) .none kV__law_machine dc__law_machine pm__law_machine an__law_machine cd__law_machine ct__law_machine), sl__law_machine⟩) (c__law_machine : PySem.W.codeIn K cd__law_machine "_law_machine" = true) (k__law_machine : PySem.W.keepIn K (.ref f__law_machine) = true) {od__law_great an__law_great : Option Addr} {sl__law_great : Array (Option Value)} {oc__law_great kV__law_great dc__law_great pm__law_great cd__law_great ct__law_great : Value} (a__law_great : PySem.W.nsIn K mainGlobals "_law_great" = some (some (.ref f__law_great))) (l__law_great : K.lookup f__law_great = some ⟨oc__law_great, od__law_great, .func (PySem.W.fnOf "_law_great" "_law_great" (defArgs st__law_great) (defBody st__law_great) (defScope st__law_great) .none kV__law_great dc__law_great pm__law_great an__law_great cd__law_great ct__law_great), sl__law_great⟩) (c__law_great : PySem.W.codeIn K cd__law_great "_law_great" = true) (k__law_great : PySem.W.keepIn K (.ref f__law_great) = true) {od__law_pile an__law_pile : Option Addr} {sl__law_pile : Array (Option Value)} {oc__law_pile kV__law_pile dc__law_pile pm__law_pile cd__law_pile ct__law_pile : Value} (a__law_pile : PySem.W.nsIn K mainGlobals "_law_pile" = some (some (.ref f__law_pile))) (l__law_pile : K.lookup f__law_pile = some ⟨oc__law_pile, od__law_pile, .func (PySem.W.fnOf "_law_pile" "_law_pile" (defArgs st__law_pile) (defBody st__law_pile) (defScope st__law_pile) .none kV__law_pile dc__law_pile pm__law_pile an__law_pile cd__law_pile ct__law_pile), sl__law_pile⟩) (c__law_pile : PySem.W.codeIn K cd__law_pile "_law_pile" = true) (k__law_pile : PySem.W.keepIn K (.ref f__law_pile) = true) {od_behind an_behind : Option Addr} {sl_behind : Array (Option Value)} {oc_behind kV_behind dc_behind pm_behind cd_behind ct_behind : Value} (a_behind : PySem.W.nsIn K mainGlobals "behind" = some (some (.ref f_behind))) (l_behind : K.lookup f_behind = some ⟨oc_behind, od_behind, .func (PySem.W.fnOf "behind" "behind" (defArgs st_behind) (defBody st_behind) (defScope st_behind) .none kV_behind dc_behind pm_behind an_behind cd_behind ct_behind), sl_behind⟩) (c_behind : PySem.W.codeIn K cd_behind "behind" = true) (k_behind : PySem.W.keepIn K (.ref f_behind) = true) {od_walked an_walked : Option Addr} {sl_walked : Array (Option Value)} {oc_walked kV_walked dc_walked pm_walked cd_walked ct_walked : Value} (a_walked : PySem.W.nsIn K mainGlobals "walked" = some (some (.ref f_walked))) (l_walked : K.lookup f_walked = some ⟨oc_walked, od_walked, .func (PySem.W.fnOf "walked" "walked" (defArgs st_walked) (defBody st_walked) (defScope st_walked) .none kV_walked dc_walked pm_walked an_walked cd_walked ct_walked), sl_walked⟩) (c_walked : PySem.W.codeIn K cd_walked "walked" = true) (k_walked : PySem.W.keepIn K (.ref f_walked) = true) {od_Reader_by an_Reader_by : Option Addr} {sl_Reader_by : Array (Option Value)} {oc_Reader_by kV_Reader_by dc_Reader_by pm_Reader_by cd_Reader_by ct_Reader_by : Value} (l_Reader_by : K.lookup f_Reader_by = some ⟨oc_Reader_by, od_Reader_by, .func (PySem.W.fnOf "by" "Reader.by" (defArgs st_Reader_by) (defBody st_Reader_by) (defScope st_Reader_by) .none kV_Reader_by dc_Reader_by pm_Reader_by an_Reader_by cd_Reader_by ct_Reader_by), sl_Reader_by⟩) (c_Reader_by : PySem.W.codeIn K cd_Reader_by "Reader.by" = true) (k_Reader_by : PySem.W.keepIn K (.ref f_Reader_by) = true) {od_Reader_slipped an_Reader_slipped : Option Addr} {sl_Reader_slipped : Array (Option Value)} {oc_Reader_slipped kV_Reader_slipped dc_Reader_slipped pm_Reader_slipped cd_Reader_slipped ct_Reader_slipped : Value} (l_Reader_slipped : K.lookup f_Reader_slipped = some ⟨oc_Reader_slipped, od_Reader_slipped, .func (PySem.W.fnOf "slipped" "Reader.slipped" (defArgs st_Reader_slipped) (defBody st_Reader_slipped) (defScope st_Reader_slipped) .none kV_Reader_slipped dc_Reader_slipped pm_Reader_slipped an_Reader_slipped cd_Reader_slipped ct_Reader_slipped), sl_Reader_slipped⟩) (c_Reader_slipped : PySem.W.codeIn K cd_Reader_slipped "Reader.slipped" = true) (k_Reader_slipped : PySem.W.keepIn K (.ref f_Reader_slipped) = true) {od_Reader_on an_Reader_on : Option Addr} {sl_Reader_on : Array (Option Value)} {oc_Reader_on kV_Reader_on dc_Reader_on pm_Reader_on cd_Reader_on ct_Reader_on : Value} (l_Reader_on : K.lookup f_Reader_on = some ⟨oc_Reader_on, od_Reader_on, .func (PySem.W.fnOf "on" "Reader.on" (defArgs st_Reader_on) (defBody st_Reader_on) (defScope st_Reader_on) .none kV_Reader_on dc_Reader_on pm_Reader_on an_Reader_on cd_Reader_on ct_Reader_on), sl_Reader_on⟩) (c_Reader_on : PySem.W.codeIn K cd_Reader_on "Reader.on" = true) (k_Reader_on : PySem.W.keepIn K (.ref f_Reader_on) = true) {od_Reader_read an_Reader_read : Option Addr} {sl_Reader_read : Array (Option Value)} {oc_Reader_read kV_Reader_read dc_Reader_read pm_Reader_read cd_Reader_read ct_Reader_read : Value} (l_Reader_read : K.lookup f_Reader_read = some ⟨oc_Reader_read, od_Reader_read, .func (PySem.W.fnOf "read" "Reader.read" (defArgs st_Reader_read) (defBody st_Reader_read) (defScope st_Reader_read) .none kV_Reader_read dc_Reader_read pm_Reader_read an_Reader_read cd_Reader_read ct_Reader_read), sl_Reader_read⟩) (c_Reader_read : PySem.W.codeIn K cd_Reader_read "Reader.read" = true) (k_Reader_read : PySem.W.keepIn K (.ref f_Reader_read) = true) {od_Reader_init an_Reader_init : Option Addr} {sl_Reader_init : Array (Option Value)} {oc_Reader_init kV_Reader_init dc_Reader_init pm_Reader_init cd_Reader_init ct_Reader_init : Value} (l_Reader_init : K.lookup f_Reader_init = some ⟨oc_Reader_init, od_Reader_init, .func (PySem.W.fnOf "__init__" "Reader.__init__" (defArgs st_Reader_init) (defBody st_Reader_init) (defScope st_Reader_init) .none kV_Reader_init dc_Reader_init pm_Reader_init an_Reader_init cd_Reader_init ct_Reader_init), sl_Reader_init⟩) (c_Reader_init : PySem.W.codeIn K cd_Reader_init "Reader.__init__" = true) (k_Reader_init : PySem.W.keepIn K (.ref f_Reader_init) = true) {od_led_to an_led_to : Option Addr} {sl_led_to : Array (Option Value)} {oc_led_to kV_led_to dc_led_to pm_led_to cd_led_to ct_led_to : Value} (a_led_to : PySem.W.nsIn K mainGlobals "led_to" = some (some (.ref f_led_to))) (l_led_to : K.lookup f_led_to = some ⟨oc_led_to, od_led_to, .func (PySem.W.fnOf "led_to" "led_to" (defArgs st_led_to) (defBody st_led_to) (defScope st_led_to) .none kV_led_to dc_led_to pm_led_to an_led_to cd_led_to ct_led_to), sl_led_to⟩) (c_led_to : PySem.W.codeIn K cd_led_to "led_to" = true) (k_led_to : PySem.W.keepIn K (.ref f_led_to) = true) {od_is_held an_is_held : Option Addr} {sl_is_held : Array (Option Value)} {oc_is_held kV_is_held dc_is_held pm_is_held cd_is_held ct_is_held : Value} (a_is_held : PySem.W.nsIn K mainGlobals "is_held" = some (some (.ref f_is_held))) (l_is_held : K.lookup f_is_held = some ⟨oc_is_held, od_is_held, .func (PySem.W.fnOf "is_held" "is_held" (defArgs st_is_held) (defBody st_is_held) (defScope st_is_held) .none kV_is_held dc_is_held pm_is_held an_is_held cd_is_held ct_is_held), sl_is_held⟩) (c_is_held : PySem.W.codeIn K cd_is_held "is_held" = true) (k_is_held : PySem.W.keepIn K (.ref f_is_held) = true) {od__law_long_right an__law_long_right : Option Addr} {sl__law_long_right : Array (Option Value)} {oc__law_long_right kV__law_long_right dc__law_long_right pm__law_long_right cd__law_long_right ct__law_long_right : Value} (a__law_long_right : PySem.W.nsIn K mainGlobals "_law_long_right" = some (some (.ref f__law_long_right))) (l__law_long_right : K.lookup f__law_long_right = some ⟨oc__law_long_right, od__law_long_right, .func (PySem.W.fnOf "_law_long_right" "_law_long_right" (defArgs st__law_long_right) (defBody st__law_long_right) (defScope st__law_long_right) .none kV__law_long_right dc__law_long_right pm__law_long_right an__law_long_right cd__law_long_right ct__law_long_right), sl__law_long_right⟩) (c__law_long_right : PySem.W.codeIn K cd__law_long_right "_law_long_right" = true) (k__law_long_right : PySem.W.keepIn K (.ref f__law_long_right) = true) {od__law_slipped an__law_slipped : Option Addr} {sl__law_slipped : Array (Option Value)} {oc__law_slipped kV__law_slipped dc__law_slipped pm__law_slipped cd__law_slipped ct__law_slipped : Value} (a__law_slipped : PySem.W.nsIn K mainGlobals "_law_slipped" = some (some (.ref f__law_slipped))) (l__law_slipped : K.lookup f__law_slipped = some ⟨oc__law_slipped, od__law_slipped, .func (PySem.W.fnOf "_law_slipped" "_law_slipped" (defArgs st__law_slipped) (defBody st__law_slipped) (defScope st__law_slipped) .none kV__law_slipped dc__law_slipped pm__law_slipped an__law_slipped cd__law_slipped ct__law_slipped), sl__law_slipped⟩) (c__law_slipped : PySem.W.codeIn K cd__law_slipped "_law_slipped" = true) (k__law_slipped : PySem.W.keepIn K (.ref f__law_slipped) = true) {od__law_read an__law_read : Option Addr} {sl__law_read : Array (Option Value)} {oc__law_read kV__law_read dc__law_read pm__law_read cd__law_read ct__law_read : Value} (a__law_read : PySem.W.nsIn K mainGlobals "_law_read" = some (some (.ref f__law_read))) (l__law_read : K.lookup f__law_read = some ⟨oc__law_read, od__law_read, .func (PySem.W.fnOf "_law_read" "_law_read" (defArgs st__law_read) (defBody st__law_read) (defScope st__law_read) .none kV__law_read dc__law_read pm__law_read an__law_read cd__law_read ct__law_read), sl__law_read⟩) (c__law_read : PySem.W.codeIn K cd__law_read "_law_read" = true) (k__law_read : PySem.W.keepIn K (.ref f__law_read) = true) {od__law_right an__law_right : Option Addr} {sl__law_right : Array (Option Value)} {oc__law_right kV__law_right dc__law_right pm__law_right cd__law_right ct__law_right : Value} (a__law_right : PySem.W.nsIn K mainGlobals "_law_right" = some (some (.ref f__law_right))) (l__law_right : K.lookup f__law_right = some ⟨oc__law_right, od__law_right, .func (PySem.W.fnOf "_law_right" "_law_right" (defArgs st__law_right) (defBody st__law_right) (defScope st__law_right) .none kV__law_right dc__law_right pm__law_right an__law_right cd__law_right ct__law_right), sl__law_right⟩) (c__law_right : PySem.W.codeIn K cd__law_right "_law_right" = true) (k__law_right : PySem.W.keepIn K (.ref f__law_right) = true) {od_law an_law : Option Addr} {sl_law : Array (Option Value)} {oc_law kV_law dc_law pm_law cd_law ct_law : Value} (a_law : PySem.W.nsIn K mainGlobals "law" = some (some (.ref f_law))) (l_law : K.lookup f_law = some ⟨oc_law, od_law, .func (PySem.W.fnOf "law" "law" (defArgs st_law) (defBody st_law) (defScope st_law) .none kV_law dc_law pm_law an_law cd_law ct_law), sl_law⟩) (c_law : PySem.W.codeIn K cd_law "law" = true) (k_law : PySem.W.keepIn K (.ref f_law) = true) (n_list : PySem.W.nsIn K mainGlobals "list" = some none) (n_sum : PySem.W.nsIn K mainGlobals "sum" = some none) (n_len : PySem.W.nsIn K mainGlobals "len" = some none) (n_range : PySem.W.nsIn K mainGlobals "range" = some none) (n_int : PySem.W.nsIn K mainGlobals "int" = some none) (n_sorted : PySem.W.nsIn K mainGlobals "sorted" = some none) (n_tuple : PySem.W.nsIn K mainGlobals "tuple" = some none) (n_str : PySem.W.nsIn K mainGlobals "str" = some none) (n_enumerate : PySem.W.nsIn K mainGlobals "enumerate" = some none) (n_any : PySem.W.nsIn K mainGlobals "any" = some none) (n_repr : PySem.W.nsIn K mainGlobals "repr" = some none) (n_set : PySem.W.nsIn K mainGlobals "set" = some none) (n_isinstance : PySem.W.nsIn K mainGlobals "isinstance" = some none) (n_bool : PySem.W.nsIn K mainGlobals "bool" = some none) (opg_Reader : PySem.W.plainGet K f_Reader Str.empty = true) (ohd_Reader : PySem.W.hasDictIn K f_Reader = true) (opo_Reader : PySem.W.plainOver K f_Reader = true) (osa_Reader : PySem.W.findIn K (.ref f_Reader) "__setattr__" = some (some (.builtin "object.__setattr__"))) (omk_Reader : PySem.W.makesIn K f_Reader = true) (okc_Reader : PySem.W.keepIn K (.ref f_Reader) = true) (ons_Reader : PySem.W.nsIn K mainGlobals "Reader" = some (some (.ref f_Reader))) (on_Reader_leads : PySem.W.findIn K (.ref f_Reader) "leads" = some none) (oa_Reader_by : PySem.W.findIn K (.ref f_Reader) "by" = some (some (.ref f_Reader_by))) (oi_Reader_by : PySem.W.isFn K (.ref f_Reader_by) = true) (oa_Reader_slipped : PySem.W.findIn K (.ref f_Reader) "slipped" = some (some (.ref f_Reader_slipped))) (oi_Reader_slipped : PySem.W.isFn K (.ref f_Reader_slipped) = true) (oa_Reader_on : PySem.W.findIn K (.ref f_Reader) "on" = some (some (.ref f_Reader_on))) (oi_Reader_on : PySem.W.isFn K (.ref f_Reader_on) = true) (oa_Reader_read : PySem.W.findIn K (.ref f_Reader) "read" = some (some (.ref f_Reader_read))) (oi_Reader_read : PySem.W.isFn K (.ref f_Reader_read) = true) (oa_Reader_init : PySem.W.findIn K (.ref f_Reader) "__init__" = some (some (.ref f_Reader_init))) (oi_Reader_init : PySem.W.isFn K (.ref f_Reader_init) = true) {nm_NoRun q_NoRun : Str} {N_NoRun : Addr} {bs_NoRun sub_NoRun : List Value} {sn_NoRun : List Str} {ab_NoRun : Bool} {col_NoRun : Option Bool} {dd_NoRun : Option Addr} {k0_NoRun k1_NoRun k2_NoRun k3_NoRun k5_NoRun : Option Value} {od_NoRun an_NoRun : Option Addr} {sl_NoRun : Array (Option Value)} {oc_NoRun kV_NoRun dc_NoRun pm_NoRun cd_NoRun ct_NoRun : Value} (y_hn : PySem.W.specialIn K (.builtin "object.__class__") "__get__" = some (some (.builtin "getset_descriptor.__get__"))) (y_ht : PySem.W.takesIn K (.builtin "object.__class__") = some true) (v_PileError : PySem.W.nsIn K mainGlobals "PileError" = some (some (.ref f_PileError))) (y_PileError_self : PySem.W.subIn K (.ref f_PileError) (.ref f_PileError) = some true) (y_PileError_kC : PySem.W.keepIn K (.ref f_PileError) = true) (y_PileError_eC : PySem.W.subIn K (.ref f_PileError) (.type "BaseException") = some true) (y_PileError_tC : PySem.W.typeIn K (.ref f_PileError) = some (.type "type")) (y_PileError_iC : PySem.W.isClsIn K f_PileError = true) (y_PileError_ga : PySem.W.findIn K (.ref f_PileError) "__getattribute__" = some (some (.builtin "BaseException.__getattribute__"))) (y_PileError_gg : PySem.W.findIn K (.ref f_PileError) "__getattr__" = some none) (y_PileError_ha : PySem.W.findIn K (.ref f_PileError) "__class__" = some (some (.builtin "object.__class__"))) (y_PileError_hd : PySem.W.hasDictIn K f_PileError = true) (y_PileError_hm : PySem.W.mroIn K f_PileError (.type "object") = some true) (y_PileError_ve : PySem.W.subIn K (.ref f_PileError) (.type "ValueError") = some true) (v_NoRun : PySem.W.nsIn K mainGlobals "NoRun" = some (some (.ref f_NoRun))) (y_NoRun_self : PySem.W.subIn K (.ref f_NoRun) (.ref f_NoRun) = some true) (y_NoRun_kC : PySem.W.keepIn K (.ref f_NoRun) = true) (y_NoRun_eC : PySem.W.subIn K (.ref f_NoRun) (.type "BaseException") = some true) (y_NoRun_tC : PySem.W.typeIn K (.ref f_NoRun) = some (.type "type")) (y_NoRun_iC : PySem.W.isClsIn K f_NoRun = true) (y_NoRun_ga : PySem.W.findIn K (.ref f_NoRun) "__getattribute__" = some (some (.builtin "BaseException.__getattribute__"))) (y_NoRun_gg : PySem.W.findIn K (.ref f_NoRun) "__getattr__" = some none) (y_NoRun_ha : PySem.W.findIn K (.ref f_NoRun) "__class__" = some (some (.builtin "object.__class__"))) (y_NoRun_hd : PySem.W.hasDictIn K f_NoRun = true) (y_NoRun_hm : PySem.W.mroIn K f_NoRun (.type "object") = some true) (y_NoRun_ve : PySem.W.subIn K (.ref f_NoRun) (.type "ValueError") = some true) (s_NoRun_PileError : PySem.W.subIn K (.ref f_NoRun) (.ref f_PileError) = some true) (L_NoRun : K.lookup f_NoRun = some (excClassObj nm_NoRun q_NoRun f_NoRun N_NoRun bs_NoRun [.ref f_PileError, .type "ValueError", .type "Exception", .type "BaseException", .type "object"] true sn_NoRun sub_NoRun ab_NoRun col_NoRun dd_NoRun k0_NoRun k1_NoRun k2_NoRun k3_NoRun k5_NoRun "ValueError.__new__")) (sa_NoRun : PySem.W.findIn K (.ref f_NoRun) "__setattr__" = some (some (.builtin "object.__setattr__"))) (i_NoRun : PySem.W.findIn K (.ref f_NoRun) "__init__" = some (some (.ref f_NoRun_init))) (ti_NoRun : PySem.W.typeIn K (.ref f_NoRun_init) = some (.type "function")) (n_NoRun : PySem.W.findIn K (.ref f_NoRun) "at" = some none) (Li_NoRun : K.lookup f_NoRun_init = some ⟨oc_NoRun, od_NoRun, .func (PySem.W.fnOf "__init__" "NoRun.__init__" (defArgs st_NoRun_init) (defBody st_NoRun_init) (defScope st_NoRun_init) .none kV_NoRun dc_NoRun pm_NoRun an_NoRun cd_NoRun ct_NoRun), sl_NoRun⟩) (Ci_NoRun : PySem.W.codeIn K cd_NoRun "NoRun.__init__" = true) (Ki_NoRun : PySem.W.keepIn K (.ref f_NoRun_init) = true) (b1_PileError : PySem.W.specialIn K (.ref f_PileError) "__getattribute__" = some (some (.builtin "type.__getattribute__"))) (b2_PileError : PySem.W.readsIn K f_PileError (.type "type") = true) (b3_PileError : PySem.W.findCls K (.ref f_PileError) (.type "type") "__init__" = some (.val (.builtin "ValueError.__init__"))) :
    ∃ fd : FuncData, (∀ (s : Shared) (v : Value), BindsTo s fd ⟨[v], []⟩ [("_law_script", v)]) ∧ ∀ base : Heap, K.In base → base.Ns mainGlobals mg → FnG PySem.Challenge.pw_pileruns_k14_piles_read w K mg base CX0 8 fa fd ["_law_script"] (spLawH K) := by
  have e := hfa.symm.trans (PySem.W.mg_of XX GG0 a_law)
  cases e
  have z_list := PySem.W.mg_none_of XX GG0 n_list
  have z_sum := PySem.W.mg_none_of XX GG0 n_sum
  have z_len := PySem.W.mg_none_of XX GG0 n_len
  have z_range := PySem.W.mg_none_of XX GG0 n_range
  have z_int := PySem.W.mg_none_of XX GG0 n_int
  have z_sorted := PySem.W.mg_none_of XX GG0 n_sorted
  have z_tuple := PySem.W.mg_none_of XX GG0 n_tuple
  have z_str := PySem.W.mg_none_of XX GG0 n_str
  have z_enumerate := PySem.W.mg_none_of XX GG0 n_enumerate
  have z_any := PySem.W.mg_none_of XX GG0 n_any
  have z_repr := PySem.W.mg_none_of XX GG0 n_repr
  have z_set := PySem.W.mg_none_of XX GG0 n_set
  have z_isinstance := PySem.W.mg_none_of XX GG0 n_isinstance
  have z_bool := PySem.W.mg_none_of XX GG0 n_bool
  have F__law_deck := fun_mk (st := st__law_deck) l__law_deck c__law_deck k__law_deck
  have g__law_deck := PySem.W.mg_of XX GG0 a__law_deck
  have b__law_deck := F__law_deck.binds (ps := ["_law_script"]) fun _ _ _ _ _ _ us hl => match us, hl with | [_], _ => rfl
  have F__law_draw := fun_mk (st := st__law_draw) l__law_draw c__law_draw k__law_draw
  have g__law_draw := PySem.W.mg_of XX GG0 a__law_draw
  have b__law_draw := F__law_draw.binds (ps := ["_law_deck_here", "_law_most"]) fun _ _ _ _ _ _ us hl => match us, hl with | [_, _], _ => rfl
  have F__law_names := fun_mk (st := st__law_names) l__law_names c__law_names k__law_names
  have g__law_names := PySem.W.mg_of XX GG0 a__law_names
  have b__law_names := F__law_names.binds (ps := ["_law_deck_here", "_law_many"]) fun _ _ _ _ _ _ us hl => match us, hl with | [_, _], _ => rfl
  have F__law_numbers := fun_mk (st := st__law_numbers) l__law_numbers c__law_numbers k__law_numbers
  have g__law_numbers := PySem.W.mg_of XX GG0 a__law_numbers
  have b__law_numbers := F__law_numbers.binds (ps := ["_law_deck_here", "_law_most"]) fun _ _ _ _ _ _ us hl => match us, hl with | [_, _], _ => rfl
  have F__law_pick := fun_mk (st := st__law_pick) l__law_pick c__law_pick k__law_pick
  have g__law_pick := PySem.W.mg_of XX GG0 a__law_pick
  have b__law_pick := F__law_pick.binds (ps := ["_law_deck_here", "_law_some"]) fun _ _ _ _ _ _ us hl => match us, hl with | [_, _], _ => rfl
  have F__law_machine := fun_mk (st := st__law_machine) l__law_machine c__law_machine k__law_machine
  have g__law_machine := PySem.W.mg_of XX GG0 a__law_machine
  have b__law_machine := F__law_machine.binds (ps := ["_law_deck_here", "_law_places", "_law_marks", "_law_sort", "_law_most"]) fun _ _ _ _ _ _ us hl => match us, hl with | [_, _, _, _, _], _ => rfl
  have F__law_great := fun_mk (st := st__law_great) l__law_great c__law_great k__law_great
  have g__law_great := PySem.W.mg_of XX GG0 a__law_great
  have b__law_great := F__law_great.binds (ps := ["_law_deck_here", "_law_places", "_law_marks"]) fun _ _ _ _ _ _ us hl => match us, hl with | [_, _, _], _ => rfl
  have F__law_pile := fun_mk (st := st__law_pile) l__law_pile c__law_pile k__law_pile
  have g__law_pile := PySem.W.mg_of XX GG0 a__law_pile
  have b__law_pile := F__law_pile.binds (ps := ["_law_deck_here", "_law_machine_here", "_law_marks", "_law_state"]) fun _ _ _ _ _ _ us hl => match us, hl with | [_, _, _, _], _ => rfl
  have F_behind := fun_mk (st := st_behind) l_behind c_behind k_behind
  have g_behind := PySem.W.mg_of XX GG0 a_behind
  have b_behind := F_behind.binds (ps := ["program", "stand", "number"]) fun _ _ _ _ _ _ us hl => match us, hl with | [_, _, _], _ => rfl
  have F_walked := fun_mk (st := st_walked) l_walked c_walked k_walked
  have g_walked := PySem.W.mg_of XX GG0 a_walked
  have b_walked := F_walked.binds (ps := ["program", "stand", "run"]) fun _ _ _ _ _ _ us hl => match us, hl with | [_, _, _], _ => rfl
  have F_Reader_by := fun_mk (st := st_Reader_by) l_Reader_by c_Reader_by k_Reader_by
  have b_Reader_by := F_Reader_by.binds (ps := ["self", "state", "mark"]) fun _ _ _ _ _ _ us hl => match us, hl with | [_, _, _], _ => rfl
  have F_Reader_slipped := fun_mk (st := st_Reader_slipped) l_Reader_slipped c_Reader_slipped k_Reader_slipped
  have b_Reader_slipped := F_Reader_slipped.binds (ps := ["self", "states"]) fun _ _ _ _ _ _ us hl => match us, hl with | [_, _], _ => rfl
  have F_Reader_on := fun_mk (st := st_Reader_on) l_Reader_on c_Reader_on k_Reader_on
  have b_Reader_on := F_Reader_on.binds (ps := ["self", "states", "mark"]) fun _ _ _ _ _ _ us hl => match us, hl with | [_, _, _], _ => rfl
  have F_Reader_read := fun_mk (st := st_Reader_read) l_Reader_read c_Reader_read k_Reader_read
  have b_Reader_read := F_Reader_read.binds (ps := ["self", "state", "pile"]) fun _ _ _ _ _ _ us hl => match us, hl with | [_, _, _], _ => rfl
  have F_Reader_init := fun_mk (st := st_Reader_init) l_Reader_init c_Reader_init k_Reader_init
  have b_Reader_init := F_Reader_init.binds (ps := ["self", "edges"]) fun _ _ _ _ _ _ us hl => match us, hl with | [_, _], _ => rfl
  have F_led_to := fun_mk (st := st_led_to) l_led_to c_led_to k_led_to
  have g_led_to := PySem.W.mg_of XX GG0 a_led_to
  have b_led_to := F_led_to.binds (ps := ["machine", "state", "pile"]) fun _ _ _ _ _ _ us hl => match us, hl with | [_, _, _], _ => rfl
  have F_is_held := fun_mk (st := st_is_held) l_is_held c_is_held k_is_held
  have g_is_held := PySem.W.mg_of XX GG0 a_is_held
  have b_is_held := F_is_held.binds (ps := ["machine", "stand"]) fun _ _ _ _ _ _ us hl => match us, hl with | [_, _], _ => rfl
  have F__law_long_right := fun_mk (st := st__law_long_right) l__law_long_right c__law_long_right k__law_long_right
  have g__law_long_right := PySem.W.mg_of XX GG0 a__law_long_right
  have b__law_long_right := F__law_long_right.binds (ps := ["_law_deck_here", "_law_place", "_law_mark"]) fun _ _ _ _ _ _ us hl => match us, hl with | [_, _, _], _ => rfl
  have F__law_slipped := fun_mk (st := st__law_slipped) l__law_slipped c__law_slipped k__law_slipped
  have g__law_slipped := PySem.W.mg_of XX GG0 a__law_slipped
  have b__law_slipped := F__law_slipped.binds (ps := ["_law_there", "_law_states"]) fun _ _ _ _ _ _ us hl => match us, hl with | [_, _], _ => rfl
  have F__law_read := fun_mk (st := st__law_read) l__law_read c__law_read k__law_read
  have g__law_read := PySem.W.mg_of XX GG0 a__law_read
  have b__law_read := F__law_read.binds (ps := ["_law_machine_here", "_law_state", "_law_pile_here"]) fun _ _ _ _ _ _ us hl => match us, hl with | [_, _, _], _ => rfl
  have F__law_right := fun_mk (st := st__law_right) l__law_right c__law_right k__law_right
  have g__law_right := PySem.W.mg_of XX GG0 a__law_right
  have b__law_right := F__law_right.binds (ps := ["_law_machine_here", "_law_state", "_law_pile_here"]) fun _ _ _ _ _ _ us hl => match us, hl with | [_, _, _], _ => rfl
  have F_law := fun_mk (st := st_law) l_law c_law k_law
  have g_law := PySem.W.mg_of XX GG0 a_law
  have TC : Owns K mg f_Reader f_Reader_by f_Reader_slipped f_Reader_on f_Reader_read f_Reader_init := ⟨⟨opg_Reader, ohd_Reader, opo_Reader, osa_Reader⟩, PySem.W.mg_of XX GG0 ons_Reader, on_Reader_leads, ⟨oa_Reader_by, oi_Reader_by, k_Reader_by⟩, ⟨oa_Reader_slipped, oi_Reader_slipped, k_Reader_slipped⟩, ⟨oa_Reader_on, oi_Reader_on, k_Reader_on⟩, ⟨oa_Reader_read, oi_Reader_read, k_Reader_read⟩, ⟨omk_Reader, oa_Reader_init, oi_Reader_init, okc_Reader⟩⟩
  have TX : Exs K mg f_PileError f_NoRun f_NoRun_init := ⟨⟨y_PileError_self, y_PileError_kC, y_PileError_eC, y_PileError_tC, y_PileError_iC, y_PileError_ga, y_PileError_gg, y_PileError_ha, y_PileError_hd, y_PileError_hm, y_PileError_ve, y_hn, y_ht⟩, PySem.W.mg_of XX GG0 v_PileError, ⟨y_NoRun_self, y_NoRun_kC, y_NoRun_eC, y_NoRun_tC, y_NoRun_iC, y_NoRun_ga, y_NoRun_gg, y_NoRun_ha, y_NoRun_hd, y_NoRun_hm, y_NoRun_ve, y_hn, y_ht⟩, PySem.W.mg_of XX GG0 v_NoRun, s_NoRun_PileError, y_NoRun_self, ⟨⟨_, _, _, _, _, _, _, _, _, _, _, _, _, _, _, L_NoRun, by rfl⟩, sa_NoRun, y_NoRun_eC, y_NoRun_tC, y_NoRun_kC⟩, i_NoRun, ti_NoRun, n_NoRun, b1_PileError, b2_PileError, b3_PileError⟩
  have F_NoRun_init := fun_mk (st := st_NoRun_init) Li_NoRun Ci_NoRun Ki_NoRun
  have b_NoRun_init := F_NoRun_init.binds (ps := ["self", "at"]) fun _ _ _ _ _ _ us hl => match us, hl with | [_, _], _ => rfl
  refine ⟨PySem.W.fnOf "law" "law" (defArgs st_law) (defBody st_law) (defScope st_law) .none kV_law dc_law pm_law an_law cd_law ct_law, fun s v => .of_eq rfl, fun base _ _ => ?_⟩
  have G_NoRun_init : FnOk PySem.Challenge.pw_pileruns_k14_piles_read w K mg base CX0 1 f_NoRun_init _ ["self", "at"] (spInit f_NoRun "at") := ok_NoRun_init F_NoRun_init TX z_str
  have G__law_deck : FnOk PySem.Challenge.pw_pileruns_k14_piles_read w K mg base CX0 1 f__law_deck _ ["_law_script"] (spDeckH K) := ok__law_deck F__law_deck z_list z_sum z_len
  have G__law_draw : FnOk PySem.Challenge.pw_pileruns_k14_piles_read w K mg base CX0 1 f__law_draw _ ["_law_deck_here", "_law_most"] (toSp K sp__law_draw) := ok__law_draw F__law_draw
  have G__law_names : FnOk PySem.Challenge.pw_pileruns_k14_piles_read w K mg base CX0 2 f__law_names _ ["_law_deck_here", "_law_many"] (toSp K sp__law_names) := ok__law_names F__law_names G__law_draw g__law_draw k__law_draw b__law_draw z_range z_int z_len z_list
  have G__law_numbers : FnOk PySem.Challenge.pw_pileruns_k14_piles_read w K mg base CX0 2 f__law_numbers _ ["_law_deck_here", "_law_most"] (toSp K sp__law_numbers) := ok__law_numbers F__law_numbers G__law_draw g__law_draw k__law_draw b__law_draw z_sorted
  have G__law_pick : FnOk PySem.Challenge.pw_pileruns_k14_piles_read w K mg base CX0 2 f__law_pick _ ["_law_deck_here", "_law_some"] (toSp K sp__law_pick) := ok__law_pick F__law_pick G__law_draw g__law_draw k__law_draw b__law_draw z_len
  have G__law_machine : FnOk PySem.Challenge.pw_pileruns_k14_piles_read w K mg base CX0 3 f__law_machine _ ["_law_deck_here", "_law_places", "_law_marks", "_law_sort", "_law_most"] (toSp K sp__law_machine) := ok__law_machine F__law_machine G__law_draw g__law_draw k__law_draw b__law_draw G__law_numbers g__law_numbers k__law_numbers b__law_numbers G__law_pick g__law_pick k__law_pick b__law_pick z_list z_range z_int z_tuple z_sorted
  have G__law_great : FnOk PySem.Challenge.pw_pileruns_k14_piles_read w K mg base CX0 3 f__law_great _ ["_law_deck_here", "_law_places", "_law_marks"] (toSp K sp__law_great) := ok__law_great F__law_great G__law_draw g__law_draw k__law_draw b__law_draw G__law_pick g__law_pick k__law_pick b__law_pick z_range z_str z_list z_int z_tuple z_sorted
  have G__law_pile : FnOk PySem.Challenge.pw_pileruns_k14_piles_read w K mg base CX0 3 f__law_pile _ ["_law_deck_here", "_law_machine_here", "_law_marks", "_law_state"] (toSp K sp__law_pile) := ok__law_pile F__law_pile G__law_draw g__law_draw k__law_draw b__law_draw G__law_pick g__law_pick k__law_pick b__law_pick z_int z_len z_tuple
  have G_behind : FnOk PySem.Challenge.pw_pileruns_k14_piles_read w K mg base CX0 1 f_behind _ ["program", "stand", "number"] (toSp K sp_behind) := ok_behind F_behind z_len
  have G_walked : FnOk PySem.Challenge.pw_pileruns_k14_piles_read w K mg base (L2.CX PySem.Challenge.pw_pileruns_k14_piles_read w) 3 f_walked _ ["program", "stand", "run"] (toSpX K (sp_walked f_NoRun)) := ok_walked TX G_NoRun_init b_NoRun_init F_walked G_behind g_behind k_behind b_behind z_enumerate
  have G_Reader_by : FnOk PySem.Challenge.pw_pileruns_k14_piles_read w K mg base CX0 1 f_Reader_by _ ["self", "state", "mark"] (toSp K (sp_Reader_by f_Reader)) := ok_Reader_by TC F_Reader_by
  have G_Reader_slipped : FnOk PySem.Challenge.pw_pileruns_k14_piles_read w K mg base CX0 2 f_Reader_slipped _ ["self", "states"] (toSp K (sp_Reader_slipped f_Reader)) := ok_Reader_slipped TC F_Reader_slipped G_Reader_by b_Reader_by z_list z_tuple z_sorted
  have G_Reader_on : FnOk PySem.Challenge.pw_pileruns_k14_piles_read w K mg base CX0 3 f_Reader_on _ ["self", "states", "mark"] (toSp K (sp_Reader_on f_Reader)) := ok_Reader_on TC F_Reader_on G_Reader_by b_Reader_by G_Reader_slipped b_Reader_slipped
  have G_Reader_read : FnOk PySem.Challenge.pw_pileruns_k14_piles_read w K mg base CX0 4 f_Reader_read _ ["self", "state", "pile"] (toSp K (sp_Reader_read f_Reader)) := ok_Reader_read TC F_Reader_read G_Reader_slipped b_Reader_slipped G_Reader_on b_Reader_on
  have G_Reader_init : FnOk PySem.Challenge.pw_pileruns_k14_piles_read w K mg base CX0 1 f_Reader_init _ ["self", "edges"] (toSp K (sp_Reader_init f_Reader)) := ok_Reader_init TC F_Reader_init
  have G_led_to : FnOk PySem.Challenge.pw_pileruns_k14_piles_read w K mg base CX0 5 f_led_to _ ["machine", "state", "pile"] (toSp K (sp_led_to f_Reader)) := ok_led_to TC F_led_to G_Reader_read b_Reader_read G_Reader_init b_Reader_init
  have G_is_held : FnOk PySem.Challenge.pw_pileruns_k14_piles_read w K mg base CX0 6 f_is_held _ ["machine", "stand"] (toSp K (sp_is_held f_Reader)) := ok_is_held TC F_is_held G_led_to g_led_to k_led_to b_led_to z_any
  have G__law_long_right : FnG PySem.Challenge.pw_pileruns_k14_piles_read w K mg base CX0 7 f__law_long_right _ ["_law_deck_here", "_law_place", "_law_mark"] (toSp K (sp__law_long_right f_Reader f_NoRun)) := ok__law_long_right TC F__law_long_right G__law_draw g__law_draw k__law_draw b__law_draw G_walked g_walked k_walked b_walked G_led_to g_led_to k_led_to b_led_to G_is_held g_is_held k_is_held b_is_held z_range z_str z_tuple z_sorted z_repr
  have G__law_slipped : FnOk PySem.Challenge.pw_pileruns_k14_piles_read w K mg base CX0 1 f__law_slipped _ ["_law_there", "_law_states"] (toSp K sp__law_slipped) := ok__law_slipped F__law_slipped z_list z_len
  have G__law_read : FnOk PySem.Challenge.pw_pileruns_k14_piles_read w K mg base CX0 2 f__law_read _ ["_law_machine_here", "_law_state", "_law_pile_here"] (toSp K sp__law_read) := ok__law_read F__law_read G__law_slipped g__law_slipped k__law_slipped b__law_slipped z_sorted z_set
  have G__law_right : FnOk PySem.Challenge.pw_pileruns_k14_piles_read w K mg base CX0 6 f__law_right _ ["_law_machine_here", "_law_state", "_law_pile_here"] (toSp K (sp__law_right f_Reader)) := ok__law_right TC F__law_right G__law_read g__law_read k__law_read b__law_read G_led_to g_led_to k_led_to b_led_to z_tuple z_range z_isinstance
  exact ok_law TC F_law G__law_draw g__law_draw k__law_draw b__law_draw G__law_names g__law_names k__law_names b__law_names G__law_machine g__law_machine k__law_machine b__law_machine G__law_great g__law_great k__law_great b__law_great G__law_long_right g__law_long_right k__law_long_right b__law_long_right G__law_pick g__law_pick k__law_pick b__law_pick G__law_pile g__law_pile k__law_pile b__law_pile G__law_right g__law_right k__law_right b__law_right G__law_read g__law_read k__law_read b__law_read G_is_held g_is_held k_is_held b_is_held G_led_to g_led_to k_led_to b_led_to G__law_deck g__law_deck k__law_deck b__law_deck z_range z_isinstance z_bool
end
end pileruns_k14_piles_read
open PySem PySem.W PyProof.Rows
set_option maxHeartbeats 0 in
theorem PySem.Challenge.cw_pileruns_k14_piles_read_holds : PySem.Challenge.rw_pileruns_k14_piles_read.Holds := by
  w_on; o_law; k_head; (case hw => w_witness2)
  k_fill
  refine DM.walk_ofG (l := PySem.Challenge.rw_pileruns_k14_piles_read) (k := 8) (x := "_law_script") rfl rfl ⟨rfl, by decide, by decide⟩ (fun w h Y => PySem.W.kIn_of Y) ?F
  case F =>
    intro w mg fa h KX G hmg
    refine' pileruns_k14_piles_read.all_mk KX G hmg ?a__law_deck ?l__law_deck ?c__law_deck ?k__law_deck ?a__law_draw ?l__law_draw ?c__law_draw ?k__law_draw ?a__law_names ?l__law_names ?c__law_names ?k__law_names ?a__law_numbers ?l__law_numbers ?c__law_numbers ?k__law_numbers ?a__law_pick ?l__law_pick ?c__law_pick ?k__law_pick ?a__law_machine ?l__law_machine ?c__law_machine ?k__law_machine ?a__law_great ?l__law_great ?c__law_great ?k__law_great ?a__law_pile ?l__law_pile ?c__law_pile ?k__law_pile ?a_behind ?l_behind ?c_behind ?k_behind ?a_walked ?l_walked ?c_walked ?k_walked ?l_Reader_by ?c_Reader_by ?k_Reader_by ?l_Reader_slipped ?c_Reader_slipped ?k_Reader_slipped ?l_Reader_on ?c_Reader_on ?k_Reader_on ?l_Reader_read ?c_Reader_read ?k_Reader_read ?l_Reader_init ?c_Reader_init ?k_Reader_init ?a_led_to ?l_led_to ?c_led_to ?k_led_to ?a_is_held ?l_is_held ?c_is_held ?k_is_held ?a__law_long_right ?l__law_long_right ?c__law_long_right ?k__law_long_right ?a__law_slipped ?l__law_slipped ?c__law_slipped ?k__law_slipped ?a__law_read ?l__law_read ?c__law_read ?k__law_read ?a__law_right ?l__law_right ?c__law_right ?k__law_right ?a_law ?l_law ?c_law ?k_law ?n_list ?n_sum ?n_len ?n_range ?n_int ?n_sorted ?n_tuple ?n_str ?n_enumerate ?n_any ?n_repr ?n_set ?n_isinstance ?n_bool ?opg_Reader ?ohd_Reader ?opo_Reader ?osa_Reader ?omk_Reader ?okc_Reader ?ons_Reader ?on_Reader_leads ?oa_Reader_by ?oi_Reader_by ?oa_Reader_slipped ?oi_Reader_slipped ?oa_Reader_on ?oi_Reader_on ?oa_Reader_read ?oi_Reader_read ?oa_Reader_init ?oi_Reader_init ?y_hn ?y_ht ?v_PileError ?y_PileError_self ?y_PileError_kC ?y_PileError_eC ?y_PileError_tC ?y_PileError_iC ?y_PileError_ga ?y_PileError_gg ?y_PileError_ha ?y_PileError_hd ?y_PileError_hm ?y_PileError_ve ?v_NoRun ?y_NoRun_self ?y_NoRun_kC ?y_NoRun_eC ?y_NoRun_tC ?y_NoRun_iC ?y_NoRun_ga ?y_NoRun_gg ?y_NoRun_ha ?y_NoRun_hd ?y_NoRun_hm ?y_NoRun_ve ?s_NoRun_PileError ?L_NoRun ?sa_NoRun ?i_NoRun ?ti_NoRun ?n_NoRun ?Li_NoRun ?Ci_NoRun ?Ki_NoRun ?b1_PileError ?b2_PileError ?b3_PileError
    (case ons_Reader => k_is); (case opg_Reader => k_is); (case ohd_Reader => k_is); (case opo_Reader => k_is); (case osa_Reader => k_is); (case omk_Reader => k_is); (case okc_Reader => k_is); (case on_Reader_leads => k_is); (case oa_Reader_by => k_is); (case oi_Reader_by => k_is); (case oa_Reader_slipped => k_is); (case oi_Reader_slipped => k_is); (case oa_Reader_on => k_is); (case oi_Reader_on => k_is); (case oa_Reader_read => k_is); (case oi_Reader_read => k_is); (case oa_Reader_init => k_is); (case oi_Reader_init => k_is); (case a__law_deck => k_is); (case l__law_deck => k_is); (case c__law_deck => k_is); (case k__law_deck => k_is); (case a__law_draw => k_is); (case l__law_draw => k_is); (case c__law_draw => k_is); (case k__law_draw => k_is); (case a__law_names => k_is); (case l__law_names => k_is); (case c__law_names => k_is); (case k__law_names => k_is); (case a__law_numbers => k_is); (case l__law_numbers => k_is); (case c__law_numbers => k_is); (case k__law_numbers => k_is); (case a__law_pick => k_is); (case l__law_pick => k_is); (case c__law_pick => k_is); (case k__law_pick => k_is); (case a__law_machine => k_is); (case l__law_machine => k_is); (case c__law_machine => k_is); (case k__law_machine => k_is); (case a__law_great => k_is); (case l__law_great => k_is); (case c__law_great => k_is); (case k__law_great => k_is); (case a__law_pile => k_is); (case l__law_pile => k_is); (case c__law_pile => k_is); (case k__law_pile => k_is); (case a_behind => k_is); (case l_behind => k_is); (case c_behind => k_is); (case k_behind => k_is); (case a_walked => k_is); (case l_walked => k_is); (case c_walked => k_is); (case k_walked => k_is); (case l_Reader_by => k_is); (case c_Reader_by => k_is); (case k_Reader_by => k_is); (case l_Reader_slipped => k_is); (case c_Reader_slipped => k_is); (case k_Reader_slipped => k_is); (case l_Reader_on => k_is); (case c_Reader_on => k_is); (case k_Reader_on => k_is); (case l_Reader_read => k_is); (case c_Reader_read => k_is); (case k_Reader_read => k_is); (case l_Reader_init => k_is); (case c_Reader_init => k_is); (case k_Reader_init => k_is); (case a_led_to => k_is); (case l_led_to => k_is); (case c_led_to => k_is); (case k_led_to => k_is); (case a_is_held => k_is); (case l_is_held => k_is); (case c_is_held => k_is); (case k_is_held => k_is); (case a__law_long_right => k_is); (case l__law_long_right => k_is); (case c__law_long_right => k_is); (case k__law_long_right => k_is); (case a__law_slipped => k_is); (case l__law_slipped => k_is); (case c__law_slipped => k_is); (case k__law_slipped => k_is); (case a__law_read => k_is); (case l__law_read => k_is); (case c__law_read => k_is); (case k__law_read => k_is); (case a__law_right => k_is); (case l__law_right => k_is); (case c__law_right => k_is); (case k__law_right => k_is); (case a_law => k_is); (case l_law => k_is); (case c_law => k_is); (case k_law => k_is); (case n_list => k_is); (case n_sum => k_is); (case n_len => k_is); (case n_range => k_is); (case n_int => k_is); (case n_sorted => k_is); (case n_tuple => k_is); (case n_str => k_is); (case n_enumerate => k_is); (case n_any => k_is); (case n_repr => k_is); (case n_set => k_is); (case n_isinstance => k_is); (case n_bool => k_is); (case y_hn => k_is); (case y_ht => k_is); (case v_PileError => k_is); (case y_PileError_self => (first | rfl | k_is)); (case y_PileError_kC => k_is); (case y_PileError_eC => k_is); (case y_PileError_tC => k_is); (case y_PileError_iC => k_is); (case y_PileError_ga => k_is); (case y_PileError_gg => k_is); (case y_PileError_ha => k_is); (case y_PileError_hd => k_is); (case y_PileError_hm => k_is); (case y_PileError_ve => k_is); (case v_NoRun => k_is); (case y_NoRun_self => (first | rfl | k_is)); (case y_NoRun_kC => k_is); (case y_NoRun_eC => k_is); (case y_NoRun_tC => k_is); (case y_NoRun_iC => k_is); (case y_NoRun_ga => k_is); (case y_NoRun_gg => k_is); (case y_NoRun_ha => k_is); (case y_NoRun_hd => k_is); (case y_NoRun_hm => k_is); (case y_NoRun_ve => k_is); (case s_NoRun_PileError => k_is); (case L_NoRun => k_is); (case sa_NoRun => k_is); (case i_NoRun => k_is); (case ti_NoRun => k_is); (case n_NoRun => k_is); (case Li_NoRun => k_is); (case Ci_NoRun => k_is); (case Ki_NoRun => k_is); (case b1_PileError => k_is); (case b2_PileError => k_is); (case b3_PileError => k_is)
