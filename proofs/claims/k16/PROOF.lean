import PyProof.Rows.All
import Wide.All
import OpenK.AllK
import Wide.FinOn
import HandS.ForMost
import HandS.TupAny
import HandS.TupMul
import HandS.Zip
import HandS.Conv
import PyProof.ListMulRoad
import PyProof.FactsAll.tuple_2
import HandS.IsInst
import HandS.Style
import HandS.Deep
import HandS.Flow
import HandS.Wide
import HandS.Exc
import HandS.ExcOwn
import HandS.WordsExc
import HandS.TryOnly
import KE.KRevSl
import HandS.WordsDict
import HandS.More
import HandS.Replace
import KE.GoesEnum
import HandS.ExcInit
import HandS.ExcIs
import HandS.ExcField
import HandS.RaiseMore
import KE.SortData
import PyProof.ReprRoads
import PyProof.StrLawsRepr
import HandS.TupLen
import HandS.SetFor
import HandS.Strs
import HandS.TupSets
import HandS.SetKeys
import PyProof.DictMoreH
import KE.KDictPairs
import PyProof.Rows.StrJoinMade
import HandS.Iter
import KE.KDictWalk
import KE.KDictZip
import KE.DataCmp
import PyProof.TupleOfStr
import KE.DataEq
import PyProof.ReprBulk
import PyProof.Rows.StrDigitsNeg
import PyProof.Rows.StrFit
import PyProof.Rows.StrCase
import PyProof.CallStr
import PyProof.Rows.RegIntBool
import HandS.Sort
import PySem.Challenge.RW_pileruns_k16_begun_machines
set_option Elab.async false
set_option linter.all false
set_option maxRecDepth 100000
set_option maxHeartbeats 1000000
namespace DM
open PySem L2
def tupH (c : Bool) (ob : Obj) (vs : List V) : HO := match c with
  | true => .frz ob (.tup vs)
  | false => .tup vs
def NewT (H : Hp) (vs : List V) (Q : VK) : Prop := ∃ c : Bool, ∀ (p : Addr) (ob : Obj), ob.dict = none → H p = none → Q (.ref p) (upd H p (tupH c ob vs))
section
variable {P : Program} {w : World} {H : Hp} {h : Heap} {a : Addr}
theorem ok_tupH {c : Bool} {ob : Obj} {vs : List V} {its : List Value} {n : Nat} (z : vs.length ≤ sizeLine) (r : Vals vs its) (e : h.get? a = some ob) (hc : ob.cls = .type "tuple") (hd : ob.data = .seq its.toArray n) : ObjOk P w H h a (tupH c ob vs) := by
  cases c
  · exact ⟨z, its, r, ob, e, hc, n, hd⟩
  · exact ⟨e, z, its, r, ob, e, hc, n, hd⟩
end
section
variable {X : Cx} {pins : List (Addr × Obj)} {σ : L2.St} {H : Hp} {s : Shared}
theorem inv_newT {vs : List V} {its : List Value} {Q : VK} {tk : Nat} (I : Inv X pins σ H s) (r : Vals vs its) (z : vs.length ≤ sizeLine) (q : NewT H vs Q) :
    EP X pins σ Q (.ref s.heap.objs.size) { s with heap := s.heap.push { cls := .type "tuple", data := .seq its.toArray }, toks := tk } := by
  obtain ⟨c, q⟩ := q
  have old := I.hok.fresh (Nat.le_refl s.heap.objs.size)
  have new : ObjOk X.prog X.w (upd H s.heap.objs.size (tupH c { cls := .type "tuple", data := .seq its.toArray } vs)) (s.heap.push { cls := .type "tuple", data := .seq its.toArray }) s.heap.objs.size (tupH c { cls := .type "tuple", data := .seq its.toArray } vs) :=
    ok_tupH z r (Heap.get?_push_size _ rfl) rfl rfl
  exact ⟨.ref s.heap.objs.size, _, I.laid (t' := tk) (fun _ _ g => Heap.get?_push_of_some _ g) (Nat.le_refl _) new, rfl, q _ _ rfl old⟩
end
section
variable {X : Cx} {es : List Expr} {t : TA} {pos : Pos}
def tTupC (t : TA) : TE := fun σ H Q => t σ H fun xs H1 => xs.length ≤ sizeLine ∧ NewT H1 xs Q
theorem pe_tupC {x1} (h : PA X es t) : PE X (.Tuple es x1 pos) (tTupC t) := by
  constructor
  intro pins s σ H Q I hq
  refine wpAny_Tuple_spliced (thn (h.run pos pins s σ H _ I hq) ?_)
  rintro us s1 ⟨xs, H1, I1, r, z, q⟩
  exact ⟨by rw [← r.length]; exact z, inv_newT (tk := s1.toks) I1 r z q⟩
def rCatC (K : PySem.W.Frag) : R2 := fun x y H Q => ∃ a b xs ys, x = .ref a ∧ y = .ref b ∧ SqT K H a xs ∧ SqT K H b ys ∧ xs.length + ys.length ≤ sizeLine ∧
  (xs = [] → Q (.ref b) H) ∧ (xs ≠ [] → ys = [] → Q (.ref a) H) ∧ (xs ≠ [] → ys ≠ [] → NewT H (xs ++ ys) Q)
theorem op_catC : OpR X (binaryOp .Add) (rCatC X.K) := by
  intro pins s σ H x y v u Q I rx ry h
  obtain ⟨a, b, xs, ys, rfl, rfl, sa, sb, hz, q0, q1, q2⟩ := h
  by_cases hx : xs = []
  · subst hx
    cases rx
    cases ry
    obtain ⟨us, r1, p1, _⟩ := I.tuple sa
    obtain ⟨ws, r2, p2, _⟩ := I.tuple sb
    cases r1
    exact cat_tup0 p1 p2 ⟨.ref b, H, I, rfl, q0 rfl⟩
  · cases rx
    cases ry
    obtain ⟨us, r1, p1, _⟩ := I.tuple sa
    obtain ⟨ws, r2, p2, _⟩ := I.tuple sb
    have l1 := r1.length
    have l2 := r2.length
    refine HT.cat_tup p1 p2 (fun n => hx (List.eq_nil_of_length_eq_zero (by rw [l1, n]; rfl))) (fun n => ⟨.ref a, H, I, rfl, q1 hx (List.eq_nil_of_length_eq_zero (by rw [l2, n]; rfl))⟩) (fun n => ?_) (by omega)
    exact inv_newT (tk := s.toks) I (r1.append r2) (by rw [List.length_append]; exact hz) (q2 hx fun e => n (List.eq_nil_of_length_eq_zero (by rw [← l2, e]; rfl)))
def rSlC (K : PySem.W.Frag) : V → Option Int → Option Int → Hp → VK → Prop := fun x lo hi H Q => ∃ a xs, x = .ref a ∧ SqT K H a xs ∧
  (HT.sIx xs.length 0 lo = 0 ∧ HT.sIx xs.length xs.length hi = xs.length → Q (.ref a) H) ∧ (¬ (HT.sIx xs.length 0 lo = 0 ∧ HT.sIx xs.length xs.length hi = xs.length) → NewT H (cutV xs lo hi) Q)
theorem sl_tupC : SlR X (rSlC X.K) := by
  intro pins s σ H x v vl vu lo hi sl Q I rx hs pl pu h
  obtain ⟨a, xs, rfl, sa, q1, q2⟩ := h
  cases rx
  obtain ⟨us, r, pt, z⟩ := I.tuple sa
  have el : us.toArray.size = xs.length := by simp [r.length]
  refine ⟨"tuple", _, PyProof.Rows.slot_tuple_getitem.lookup, pt.typeIs, ?_⟩
  by_cases hw : HT.sIx xs.length 0 lo = 0 ∧ HT.sIx xs.length xs.length hi = xs.length
  · exact getItem_tuple_whole pt hs pl pu (by rw [el]; exact hw) ⟨.ref a, H, I, rfl, q1 hw⟩
  · refine HT.getItem_tuple_cut pt hs pl pu (by rw [el]; exact hw) ?_ (by rw [el]; exact z)
    rw [el]
    exact inv_newT (tk := s.toks) I ((r.drop (HT.sIx xs.length 0 lo)).take (HT.sIx xs.length xs.length hi - HT.sIx xs.length 0 lo)) (Nat.le_trans (cutV_length xs lo hi) z) (q2 hw)
def rTupC (K : PySem.W.Frag) : List V → Hp → VK → Prop := fun xs H Q => ∃ p ys, xs = [.ref p] ∧ ((SqL K H p ys ∧ NewT H ys Q) ∨ (SqT K H p ys ∧ Q (.ref p) H))
theorem call_tupC : CallR X (.type "tuple") (rTupC X.K) := by
  intro pins s σ H xs us Q I r h
  obtain ⟨p, ys, rfl, h⟩ := h
  obtain ⟨u, rfl, rx⟩ := vals1 r
  cases rx
  rcases h with ⟨hq, q⟩ | ⟨hq, q⟩
  · obtain ⟨vs, rv, pl, hz⟩ := I.list hq
    have hl := rv.length
    refine call_tuple_list pl.isList (fun g kp => ?_) (by rw [List.size_toArray]; omega)
    exact inv_newT (s := { s with heap := g }) (tk := s.toks) (I.kept (t' := s.toks) kp) rv hz q
  · obtain ⟨vs, rv, pl, hz⟩ := I.tuple hq
    exact call_tuple_same pl ⟨.ref p, H, I, rfl, q⟩
end
end DM
namespace DM
open PySem L2
inductive D where
  | non | bl (b : Bool) | int (i : Int) | str (x : Str) | tup (xs : List D) | ref (a : Addr) | ty (n : String) | lst (xs : List D) | dic (kvs : List (Key × D)) | dit (kvs : List (List Key × D))
def isPair : D → Bool
  | .tup [.str _, .tup _] => true
  | .tup [.tup _, .int _] => true
  | .tup [.tup _, .str _] => true
  | _ => false
def pq (ds : List D) : Bool := ds.all isPair
def TupAt (h : Hp) (a : Addr) (c : Bool) (vs : List V) : Prop := ∃ ob : Obj, ob.dict = none ∧ h a = some (tupH c ob vs)
def NEk {α : Type} (kvs : List (List Key × α)) : Prop := ∀ kv ∈ kvs, kv.1 ≠ []
structure HF where
  h : Hp
  F : Addr → Prop
abbrev HF.up (H : HF) (p : Addr) (u : HO) : HF := ⟨upd H.h p u, H.F⟩
abbrev HF.fz (H : HF) (p : Addr) : HF := ⟨H.h, fun a => H.F a ∨ a = p⟩
mutual
inductive VR (K : PySem.W.Frag) (H : HF) : D → V → Prop
  | non : VR K H .non .non
  | bl (b : Bool) : VR K H (.bl b) (.bl b)
  | int (i : Int) : VR K H (.int i) (.int i)
  | str (x : Str) : VR K H (.str x) (.str x)
  | ref (a : Addr) : VR K H (.ref a) (.ref a)
  | ty (n : String) : VR K H (.ty n) (.ty n)
  | tup {ds : List D} {a : Addr} {vs : List V} : TupAt H.h a (pq ds) vs → VRs K H ds vs → VR K H (.tup ds) (.ref a)
  | lst {ds : List D} {a : Addr} {vs : List V} : H.h a = some (.lst vs) → H.F a → VRs K H ds vs → VR K H (.lst ds) (.ref a)
  | dic {kvs : List (Key × D)} {a : Addr} {vs : List (Key × V)} : H.h a = some (.dK vs) → H.F a → KRs K H kvs vs → VR K H (.dic kvs) (.ref a)
  | dit {kvs : List (List Key × D)} {a : Addr} {vs : List (List Key × V)} : H.h a = some (.dT vs) → H.F a → TRs K H kvs vs → NEk kvs → VR K H (.dit kvs) (.ref a)
inductive VRs (K : PySem.W.Frag) (H : HF) : List D → List V → Prop
  | nil : VRs K H [] []
  | cons {d : D} {ds : List D} {v : V} {vs : List V} : VR K H d v → VRs K H ds vs → VRs K H (d :: ds) (v :: vs)
inductive KRs (K : PySem.W.Frag) (H : HF) : List (Key × D) → List (Key × V) → Prop
  | nil : KRs K H [] []
  | cons {k : Key} {d : D} {ds : List (Key × D)} {v : V} {vs : List (Key × V)} : VR K H d v → KRs K H ds vs → KRs K H ((k, d) :: ds) ((k, v) :: vs)
inductive TRs (K : PySem.W.Frag) (H : HF) : List (List Key × D) → List (List Key × V) → Prop
  | nil : TRs K H [] []
  | cons {k : List Key} {d : D} {ds : List (List Key × D)} {v : V} {vs : List (List Key × V)} : VR K H d v → TRs K H ds vs → TRs K H ((k, d) :: ds) ((k, v) :: vs)
end
structure TX (K : PySem.W.Frag) (H H' : HF) : Prop where
  tu : ∀ a xs, SqT K H.h a xs → SqT K H'.h a xs
  tp : ∀ a xs, H.h a = some (.tup xs) → H'.h a = some (.tup xs)
  tz : ∀ a ob xs, H.h a = some (.frz ob (.tup xs)) → H'.h a = some (.frz ob (.tup xs))
  fz : ∀ a o, H.F a → H.h a = some o → H'.F a ∧ H'.h a = some o
section
variable {K : PySem.W.Frag} {H H' H2 : HF}
theorem TX.refl : TX K H H := ⟨fun _ _ h => h, fun _ _ h => h, fun _ _ _ h => h, fun _ _ f h => ⟨f, h⟩⟩
theorem TupAt.mono {a : Addr} {c : Bool} {vs : List V} (t : TX K H H') (h : TupAt H.h a c vs) : TupAt H'.h a c vs := by
  obtain ⟨ob, hd, e⟩ := h
  cases c
  · exact ⟨ob, hd, t.tp _ _ e⟩
  · exact ⟨ob, hd, t.tz _ _ _ e⟩
theorem TX.trans (a : TX K H H') (b : TX K H' H2) : TX K H H2 := ⟨fun x y h => b.tu x y (a.tu x y h), fun x y h => b.tp x y (a.tp x y h), fun x o y h => b.tz x o y (a.tz x o y h), fun x o f h => by
  obtain ⟨f1, h1⟩ := a.fz x o f h
  exact b.fz x o f1 h1⟩
mutual
theorem VR.mono (t : TX K H H') : ∀ (d : D) (v : V), VR K H d v → VR K H' d v
  | _, _, .non => .non
  | _, _, .bl b => .bl b
  | _, _, .int b => .int b
  | _, _, .str b => .str b
  | _, _, .ref b => .ref b
  | _, _, .ty b => .ty b
  | _, _, .tup h q => .tup (h.mono t) (VRs.mono t _ _ q)
  | _, _, .lst h f q => .lst (t.fz _ _ f h).2 (t.fz _ _ f h).1 (VRs.mono t _ _ q)
  | _, _, .dic h f q => .dic (t.fz _ _ f h).2 (t.fz _ _ f h).1 (KRs.mono t _ _ q)
  | _, _, .dit h f q n => .dit (t.fz _ _ f h).2 (t.fz _ _ f h).1 (TRs.mono t _ _ q) n
theorem VRs.mono (t : TX K H H') : ∀ (ds : List D) (vs : List V), VRs K H ds vs → VRs K H' ds vs
  | _, _, .nil => .nil
  | _, _, .cons h q => .cons (VR.mono t _ _ h) (VRs.mono t _ _ q)
theorem KRs.mono (t : TX K H H') : ∀ (ds : List (Key × D)) (vs : List (Key × V)), KRs K H ds vs → KRs K H' ds vs
  | _, _, .nil => .nil
  | _, _, .cons h q => .cons (VR.mono t _ _ h) (KRs.mono t _ _ q)
theorem TRs.mono (t : TX K H H') : ∀ (ds : List (List Key × D)) (vs : List (List Key × V)), TRs K H ds vs → TRs K H' ds vs
  | _, _, .nil => .nil
  | _, _, .cons h q => .cons (VR.mono t _ _ h) (TRs.mono t _ _ q)
end
theorem VRs.length : ∀ {ds : List D} {vs : List V}, VRs K H ds vs → ds.length = vs.length
  | _, _, .nil => rfl
  | _, _, .cons _ q => by simp [VRs.length q]
theorem VRs.get : ∀ {ds : List D} {vs : List V} {i : Nat} {d : D}, VRs K H ds vs → ds[i]? = some d → ∃ v, vs[i]? = some v ∧ VR K H d v
  | _, _, _, _, .nil, e => by simp at e
  | _, _, 0, _, .cons r _, e => by simp at e; subst e; exact ⟨_, rfl, r⟩
  | _, _, i + 1, x, .cons _ t, e => by
    obtain ⟨u, h1, h2⟩ := VRs.get (i := i) (d := x) t (by simpa using e)
    exact ⟨u, by simpa using h1, h2⟩
theorem VRs.append : ∀ {ds es : List D} {vs ws : List V}, VRs K H ds vs → VRs K H es ws → VRs K H (ds ++ es) (vs ++ ws)
  | _, _, _, _, .nil, s => s
  | _, _, _, _, .cons r t, s => .cons r (VRs.append t s)
theorem VRs.take : ∀ {ds : List D} {vs : List V} (n : Nat), VRs K H ds vs → VRs K H (ds.take n) (vs.take n)
  | _, _, 0, _ => .nil
  | _, _, _ + 1, .nil => .nil
  | _, _, n + 1, .cons r t => .cons r (VRs.take n t)
theorem VRs.drop : ∀ {ds : List D} {vs : List V} (n : Nat), VRs K H ds vs → VRs K H (ds.drop n) (vs.drop n)
  | _, _, 0, r => r
  | _, _, _ + 1, .nil => .nil
  | _, _, n + 1, .cons _ t => VRs.drop n t
theorem VRs.set {d : D} {v : V} (r : VR K H d v) : ∀ {ds : List D} {vs : List V} (i : Nat), VRs K H ds vs → VRs K H (ds.set i d) (vs.set i v)
  | _, _, _, .nil => .nil
  | _, _, 0, .cons _ t => .cons r t
  | _, _, i + 1, .cons q t => .cons q (VRs.set r i t)
theorem VRs.eraseIdx : ∀ {ds : List D} {vs : List V} (i : Nat), VRs K H ds vs → VRs K H (ds.eraseIdx i) (vs.eraseIdx i)
  | _, _, _, .nil => .nil
  | _, _, 0, .cons _ t => t
  | _, _, i + 1, .cons q t => .cons q (VRs.eraseIdx i t)
theorem VRs.dropLast {ds : List D} {vs : List V} (h : VRs K H ds vs) : VRs K H ds.dropLast vs.dropLast := by
  rw [List.dropLast_eq_take, List.dropLast_eq_take, h.length]
  exact h.take _
end
inductive MO where
  | lst (xs : List D)
  | dic (kvs : List (Key × D))
  | dit (kvs : List (List Key × D))
  | ins (C : Addr) (fs : List (Str × D))
  | xd (fs : List (Str × D))
  | lkK (ob : Obj) (us : List (Key × V)) (kvs : List (Key × D))
  | lkT (ob : Obj) (us : List (List Key × V)) (kvs : List (List Key × D))
abbrev Mm := Addr → Option MO
def mup (M : Mm) (a : Addr) (o : MO) : Mm := fun b => if b = a then some o else M b
theorem mup_same {M : Mm} {a : Addr} {o : MO} : mup M a o a = some o := by unfold mup; rw [if_pos rfl]
theorem mup_ne {M : Mm} {a b : Addr} {o : MO} (h : b ≠ a) : mup M a o b = M b := by unfold mup; rw [if_neg h]
theorem mup_mup {M : Mm} {a : Addr} {o u : MO} : mup (mup M a o) a u = mup M a u := by
  funext b; unfold mup; split <;> rfl
inductive FR (K : PySem.W.Frag) (H : HF) {κ : Type} : List (κ × D) → List (κ × V) → Prop
  | nil : FR K H [] []
  | cons {k : κ} {d : D} {ds : List (κ × D)} {v : V} {vs : List (κ × V)} : VR K H d v → FR K H ds vs → FR K H ((k, d) :: ds) ((k, v) :: vs)
def OR (K : PySem.W.Frag) (H : HF) (a : Addr) : MO → Prop
  | .lst ds => ∃ vs, H.h a = some (.lst vs) ∧ VRs K H ds vs
  | .dic kvs => ∃ vs, H.h a = some (.dK vs) ∧ FR K H kvs vs
  | .dit kvs => ∃ vs, H.h a = some (.dT vs) ∧ FR K H kvs vs ∧ NEk kvs
  | .ins C fs => ∃ dx vs, H.h a = some (.ins C dx vs) ∧ FR K H fs vs
  | .xd fs => ∃ vs, H.h a = some (.xd vs) ∧ FR K H fs vs
  | .lkK ob us kvs => H.h a = some (.frz ob (.dK us)) ∧ FR K H kvs us
  | .lkT ob us kvs => H.h a = some (.frz ob (.dT us)) ∧ FR K H kvs us ∧ NEk kvs
structure MR (K : PySem.W.Frag) (M : Mm) (H : HF) : Prop where
  ob : ∀ a o, M a = some o → OR K H a o
  nf : ∀ a, H.F a → M a = none
  sm : ∀ a, H.F a → ∃ o, H.h a = some o
structure GG (M : Mm) (H : HF) (M' : Mm) (H' : HF) : Prop where
  fr : ∀ a o, H.h a = some o → M a = none → H'.h a = some o ∧ M' a = none ∧ (H'.F a ↔ H.F a)
  al : ∀ a o, H.h a = some o → ∃ u, H'.h a = some u
def Sub (M M' : Mm) : Prop := ∀ a o, M a = some o → M' a = some o
section
variable {K : PySem.W.Frag} {H H' H2 : HF} {M M' M2 : Mm} {a : Addr} {o : MO}
theorem FR.mono {κ : Type} (t : TX K H H') : ∀ {ds : List (κ × D)} {vs : List (κ × V)}, FR K H ds vs → FR K H' ds vs
  | _, _, .nil => .nil
  | _, _, .cons h q => .cons (VR.mono t _ _ h) (FR.mono t q)
theorem TRs.fr : ∀ {ds : List (List Key × D)} {vs : List (List Key × V)}, TRs K H ds vs → FR K H ds vs
  | _, _, .nil => .nil
  | _, _, .cons h q => .cons h (TRs.fr q)
theorem FR.tr : ∀ {ds : List (List Key × D)} {vs : List (List Key × V)}, FR K H ds vs → TRs K H ds vs
  | _, _, .nil => .nil
  | _, _, .cons h q => .cons h (FR.tr q)
theorem KRs.fr : ∀ {ds : List (Key × D)} {vs : List (Key × V)}, KRs K H ds vs → FR K H ds vs
  | _, _, .nil => .nil
  | _, _, .cons h q => .cons h (KRs.fr q)
theorem FR.kr : ∀ {ds : List (Key × D)} {vs : List (Key × V)}, FR K H ds vs → KRs K H ds vs
  | _, _, .nil => .nil
  | _, _, .cons h q => .cons h (FR.kr q)
theorem Sub.refl : Sub M M := fun _ _ h => h
theorem Sub.trans (x : Sub M M') (y : Sub M' M2) : Sub M M2 := fun a o h => y a o (x a o h)
theorem Sub.mup (h : M a = none) : Sub M (mup M a o) := fun b u e => by
  rw [mup_ne]
  · exact e
  · rintro rfl; rw [h] at e; cases e
theorem Sub.none (s : Sub M M') (h : M' a = none) : M a = none := by
  cases e : M a with
  | none => rfl
  | some u => rw [s a u e] at h; cases h
theorem MR.sub (m : MR K M' H) (s : Sub M M') : MR K M H := ⟨fun a o e => m.ob a o (s a o e), fun a f => s.none (m.nf a f), m.sm⟩
theorem GG.refl : GG M H M H := ⟨fun _ _ h n => ⟨h, n, Iff.rfl⟩, fun _ o h => ⟨o, h⟩⟩
theorem GG.trans (x : GG M H M' H') (y : GG M' H' M2 H2) : GG M H M2 H2 := ⟨fun a o h n => by
  obtain ⟨h1, n1, f1⟩ := x.fr a o h n
  obtain ⟨h2, n2, f2⟩ := y.fr a o h1 n1
  exact ⟨h2, n2, f2.trans f1⟩, fun a o h => by
  obtain ⟨u, h1⟩ := x.al a o h
  exact y.al a u h1⟩
theorem GG.sub (g : GG M H M' H') (s : Sub M2 M') : GG M H M2 H' := by
  refine ⟨fun a o h n => ?_, g.al⟩
  obtain ⟨h1, n1, f1⟩ := g.fr a o h n
  exact ⟨h1, s.none n1, f1⟩
theorem GG.free (g : GG M H M' H') {p : Addr} (h : H'.h p = none) : H.h p = none := by
  cases e : H.h p with
  | none => rfl
  | some o =>
    obtain ⟨u, h1⟩ := g.al p o e
    rw [h] at h1
    cases h1
theorem GG.nfr (g : GG M H M' H') {p : Addr} {o : HO} (h : H.h p = some o) (n : M p = none) (f : ¬H.F p) : H'.h p = some o ∧ M' p = none ∧ ¬H'.F p := by
  obtain ⟨h1, n1, f1⟩ := g.fr p o h n
  exact ⟨h1, n1, fun x => f (f1.mp x)⟩
theorem MR.ofree (m : MR K M H) (hx : ∀ u, ¬OR K H a u) : M a = none := by
  cases e : M a with
  | none => rfl
  | some u => exact absurd (m.ob a u e) (hx u)
theorem MR.no_tup (m : MR K M H) {xs : List V} (h : H.h a = some (.tup xs)) : M a = none := m.ofree fun u q => by
  cases u with
  | lst _ => obtain ⟨_, q, _⟩ := q; rw [h] at q; cases q
  | dic _ => obtain ⟨_, q, _⟩ := q; rw [h] at q; cases q
  | dit _ => obtain ⟨_, q, _⟩ := q; rw [h] at q; cases q
  | ins _ _ => obtain ⟨_, _, q, _⟩ := q; rw [h] at q; cases q
  | xd _ => obtain ⟨_, q, _⟩ := q; rw [h] at q; cases q
  | lkK _ _ _ => obtain ⟨q, _⟩ := q; rw [h] at q; cases q
  | lkT _ _ _ => obtain ⟨q, _⟩ := q; rw [h] at q; cases q
theorem MR.no_frz (m : MR K M H) {ob : Obj} {u : List V} (h : H.h a = some (.frz ob (.tup u))) : M a = none := m.ofree fun u q => by
  cases u with
  | lst _ => obtain ⟨_, q, _⟩ := q; rw [h] at q; cases q
  | dic _ => obtain ⟨_, q, _⟩ := q; rw [h] at q; cases q
  | dit _ => obtain ⟨_, q, _⟩ := q; rw [h] at q; cases q
  | ins _ _ => obtain ⟨_, _, q, _⟩ := q; rw [h] at q; cases q
  | xd _ => obtain ⟨_, q, _⟩ := q; rw [h] at q; cases q
  | lkK _ _ _ => obtain ⟨q, _⟩ := q; rw [h] at q; cases q
  | lkT _ _ _ => obtain ⟨q, _⟩ := q; rw [h] at q; cases q
theorem MR.free (m : MR K M H) (h : H.h a = none) : M a = none := m.ofree fun u q => by
  cases u with
  | lst _ => obtain ⟨_, q, _⟩ := q; rw [h] at q; cases q
  | dic _ => obtain ⟨_, q, _⟩ := q; rw [h] at q; cases q
  | dit _ => obtain ⟨_, q, _⟩ := q; rw [h] at q; cases q
  | ins _ _ => obtain ⟨_, _, q, _⟩ := q; rw [h] at q; cases q
  | xd _ => obtain ⟨_, q, _⟩ := q; rw [h] at q; cases q
  | lkK _ _ _ => obtain ⟨q, _⟩ := q; rw [h] at q; cases q
  | lkT _ _ _ => obtain ⟨q, _⟩ := q; rw [h] at q; cases q
theorem MR.freeF (m : MR K M H) (h : H.h a = none) : ¬H.F a := fun f => by
  obtain ⟨o, e⟩ := m.sm a f
  rw [h] at e
  cases e
theorem MR.knownF (m : MR K M H) (h : M a = some o) : ¬H.F a := fun f => by
  rw [m.nf a f] at h
  cases h
theorem GG.tx (g : GG M H M' H') (m : MR K M H) : TX K H H' := ⟨fun b xs h => by
  rcases h with (h | ⟨ob, h⟩) | h
  · exact .inl (.inl (g.fr b _ h (m.no_tup h)).1)
  · exact .inl (.inr ⟨ob, (g.fr b _ h (m.no_frz h)).1⟩)
  · exact .inr h, fun b xs h => (g.fr b _ h (m.no_tup h)).1, fun b ob xs h => (g.fr b _ h (m.no_frz h)).1, fun b o f h => by
  obtain ⟨h1, _, f1⟩ := g.fr b o h (m.nf b f)
  exact ⟨f1.mpr f, h1⟩⟩
theorem OR.mono (t : TX K H H') (e : H'.h a = H.h a) : ∀ {o : MO}, OR K H a o → OR K H' a o
  | .lst _, ⟨vs, h, r⟩ => ⟨vs, e.trans h, VRs.mono t _ _ r⟩
  | .dic _, ⟨vs, h, r⟩ => ⟨vs, e.trans h, r.mono t⟩
  | .dit _, ⟨vs, h, r, n⟩ => ⟨vs, e.trans h, r.mono t, n⟩
  | .ins _ _, ⟨dx, vs, h, r⟩ => ⟨dx, vs, e.trans h, r.mono t⟩
  | .xd _, ⟨vs, h, r⟩ => ⟨vs, e.trans h, r.mono t⟩
  | .lkK _ _ _, ⟨h, r⟩ => ⟨e.trans h, r.mono t⟩
  | .lkT _ _ _, ⟨h, r, n⟩ => ⟨e.trans h, r.mono t, n⟩
theorem TX.upne {p : Addr} {u : HO} (ht : ∀ xs, H.h p ≠ some (.tup xs)) (hz : ∀ ob xs, H.h p ≠ some (.frz ob (.tup xs))) (hf : ¬H.F p) : TX K H (H.up p u) := ⟨fun b xs q => by
  rcases q with (q | ⟨ob, q⟩) | q
  · exact .inl (.inl (by show upd H.h p u b = _; rw [upd_ne]; exact q; rintro rfl; exact ht _ q))
  · exact .inl (.inr ⟨ob, by show upd H.h p u b = _; rw [upd_ne]; exact q; rintro rfl; exact hz _ _ q⟩)
  · exact .inr q, fun b xs q => by show upd H.h p u b = _; rw [upd_ne]; exact q; rintro rfl; exact ht _ q, fun b ob xs q => by show upd H.h p u b = _; rw [upd_ne]; exact q; rintro rfl; exact hz _ _ q, fun b o f h => ⟨f, by show upd H.h p u b = _; rw [upd_ne]; exact h; rintro rfl; exact hf f⟩⟩
theorem TX.fzz {p : Addr} : TX K H (H.fz p) := ⟨fun _ _ h => h, fun _ _ h => h, fun _ _ _ h => h, fun _ _ f h => ⟨.inl f, h⟩⟩
theorem TX.new (m : MR K M H) {p : Addr} {u : HO} (h : H.h p = none) : TX K H (H.up p u) := TX.upne (fun _ e => by rw [h] at e; cases e) (fun _ _ e => by rw [h] at e; cases e) (m.freeF h)
theorem TX.put (m : MR K M H) {u : HO} (h : M a = some o) : TX K H (H.up a u) := TX.upne (fun _ e => by rw [m.no_tup e] at h; cases h) (fun _ _ e => by rw [m.no_frz e] at h; cases h) (m.knownF h)
theorem upd_al {H : Hp} {p : Addr} {u : HO} (a : Addr) (o : HO) (h : H a = some o) : ∃ w, upd H p u a = some w := by
  by_cases e : a = p
  · subst e; exact ⟨u, upd_same⟩
  · exact ⟨o, by rw [upd_ne e]; exact h⟩
theorem MR.newT (m : MR K M H) {p : Addr} {u : HO} (h : H.h p = none) : MR K M (H.up p u) := ⟨fun b w e => by
  have : b ≠ p := by rintro rfl; rw [m.free h] at e; cases e
  exact (m.ob b w e).mono (TX.new m h) (upd_ne this), m.nf, fun b f => by
  obtain ⟨o, e⟩ := m.sm b f
  exact upd_al b o e⟩
theorem GG.newT {p : Addr} {u : HO} (h : H.h p = none) : GG M H M (H.up p u) := ⟨fun b w e n => by
  have : b ≠ p := by rintro rfl; rw [h] at e; cases e
  exact ⟨by show upd H.h p u b = _; rw [upd_ne this]; exact e, n, Iff.rfl⟩, upd_al⟩
theorem MR.new (m : MR K M H) {p : Addr} {u : HO} {w : MO} (h : H.h p = none) (r : OR K (H.up p u) p w) : MR K (mup M p w) (H.up p u) := ⟨fun b z e => by
  by_cases hb : b = p
  · subst hb; rw [mup_same] at e; cases e; exact r
  · rw [mup_ne hb] at e
    exact (m.ob b z e).mono (TX.new m h) (upd_ne hb), fun b f => by
  have : b ≠ p := by rintro rfl; exact m.freeF h f
  rw [mup_ne this]
  exact m.nf b f, (m.newT h).sm⟩
theorem GG.new {p : Addr} {u : HO} {w : MO} (h : H.h p = none) : GG M H (mup M p w) (H.up p u) := ⟨fun b z e n => by
  have : b ≠ p := by rintro rfl; rw [h] at e; cases e
  exact ⟨by show upd H.h p u b = _; rw [upd_ne this]; exact e, by rw [mup_ne this]; exact n, Iff.rfl⟩, upd_al⟩
theorem MR.put (m : MR K M H) {u : HO} {w : MO} (h : M a = some o) (r : OR K (H.up a u) a w) : MR K (mup M a w) (H.up a u) := ⟨fun b z e => by
  by_cases hb : b = a
  · subst hb; rw [mup_same] at e; cases e; exact r
  · rw [mup_ne hb] at e
    exact (m.ob b z e).mono (TX.put m h) (upd_ne hb), fun b f => by
  have : b ≠ a := by rintro rfl; exact m.knownF h f
  rw [mup_ne this]
  exact m.nf b f, fun b f => by
  obtain ⟨o, e⟩ := m.sm b f
  exact upd_al b o e⟩
theorem GG.put {u : HO} {w : MO} (h : M a = some o) : GG M H (mup M a w) (H.up a u) := ⟨fun b z e n => by
  have : b ≠ a := by rintro rfl; rw [h] at n; cases n
  exact ⟨by show upd H.h a u b = _; rw [upd_ne this]; exact e, by rw [mup_ne this]; exact n, Iff.rfl⟩, upd_al⟩
theorem MR.fzz (m : MR K M H) {p : Addr} {u : HO} (h : H.h p = some u) (n : M p = none) : MR K M (H.fz p) := ⟨fun b w e => (m.ob b w e).mono TX.fzz rfl, fun b f => by
  rcases f with f | rfl
  · exact m.nf b f
  · exact n, fun b f => by
  rcases f with f | rfl
  · exact m.sm b f
  · exact ⟨u, h⟩⟩
theorem GG.fzz (g : GG M H M' H') {p : Addr} (h : H.h p = none) : GG M H M' (H'.fz p) := ⟨fun a o e n => by
  obtain ⟨h1, n1, f1⟩ := g.fr a o e n
  have : a ≠ p := by rintro rfl; rw [h] at e; cases e
  exact ⟨h1, n1, ⟨fun x => x.elim f1.mp (fun y => absurd y this), fun x => .inl (f1.mpr x)⟩⟩, g.al⟩
theorem MR.known (m : MR K M H) {p : Addr} {w : MO} (r : OR K H p w) (f : ¬H.F p) : MR K (mup M p w) H := ⟨fun b o e => by
  by_cases hb : b = p
  · subst hb; rw [mup_same] at e; cases e; exact r
  · rw [mup_ne hb] at e
    exact m.ob b o e, fun b g => by
  have : b ≠ p := by rintro rfl; exact f g
  rw [mup_ne this]
  exact m.nf b g, m.sm⟩
theorem GG.known {p : Addr} {w : MO} (g : GG M H M' H') (h : H.h p = none) : GG M H (mup M' p w) H' := ⟨fun a o e n => by
  obtain ⟨h1, n1, f1⟩ := g.fr a o e n
  have : a ≠ p := by rintro rfl; rw [h] at e; cases e
  exact ⟨h1, by rw [mup_ne this]; exact n1, f1⟩, g.al⟩
theorem TX.hidden {p : Addr} {u : HO} {vs : List V} (h : H.h p = some (.lst vs)) (f : ¬H.F p) : TX K H (H.up p u) := TX.upne (fun _ e => by rw [h] at e; cases e) (fun _ _ e => by rw [h] at e; cases e) f
theorem MR.hidden (m : MR K M H) {p : Addr} {u : HO} {vs : List V} (h : H.h p = some (.lst vs)) (n : M p = none) (f : ¬H.F p) : MR K M (H.up p u) := ⟨fun b w e => by
  have : b ≠ p := by rintro rfl; rw [n] at e; cases e
  exact (m.ob b w e).mono (TX.hidden h f) (upd_ne this), m.nf, fun b f => by
  obtain ⟨o, e⟩ := m.sm b f
  exact upd_al b o e⟩
theorem GG.hidden {p : Addr} {u : HO} (g : GG M H M' H') (h : H.h p = none) : GG M H M' (H'.up p u) := ⟨fun a o e n => by
  obtain ⟨h1, n1, f1⟩ := g.fr a o e n
  have : a ≠ p := by rintro rfl; rw [h] at e; cases e
  exact ⟨by show upd H'.h p u a = _; rw [upd_ne this]; exact h1, n1, f1⟩, fun a o e => by
  obtain ⟨u, e1⟩ := g.al a o e
  exact upd_al a u e1⟩
end
section
variable {K : PySem.W.Frag} {H : HF} {M : Mm} {a p : Addr} {ds : List D} {vs : List V}
theorem TupAt.sq {h : Hp} {c : Bool} (t : TupAt h a c vs) : SqT K h a vs := by
  obtain ⟨ob, _, e⟩ := t
  cases c
  · exact .inl (.inl e)
  · exact .inl (.inr ⟨ob, e⟩)
theorem VR.tupF (hf : pq ds = false) (h : H.h a = some (.tup vs)) (r : VRs K H ds vs) : VR K H (.tup ds) (.ref a) := .tup ⟨{ cls := .none, data := .fields #[] }, rfl, by rw [hf]; exact h⟩ r
theorem VR.tupN (m : MR K M H) {ob : Obj} (hd : ob.dict = none) (hp : H.h p = none) (r : VRs K H ds vs) : VR K (H.up p (tupH (pq ds) ob vs)) (.tup ds) (.ref p) :=
  .tup ⟨ob, hd, upd_same⟩ (VRs.mono (TX.new m hp) _ _ r)
theorem new_tup {Q : D → Mm → Prop} {Q0 : VK} (m : MR K M H) (r : VRs K H ds vs) (q : Q (.tup ds) M) (k : ∀ v H' d M', VR K H' d v → MR K M' H' → GG M H M' H' → Q d M' → Q0 v H'.h) : NewT H.h vs Q0 :=
  ⟨pq ds, fun p ob hd hp => k _ (H.up p _) _ M (VR.tupN m hd hp r) (m.newT hp) (GG.newT hp) q⟩
theorem new_tupG {Q : D → Mm → Prop} {Q0 : VK} {M0 : Mm} {H0 : HF} (m : MR K M H) (g : GG M0 H0 M H) (r : VRs K H ds vs) (q : Q (.tup ds) M) (k : ∀ v H' d M', VR K H' d v → MR K M' H' → GG M0 H0 M' H' → Q d M' → Q0 v H'.h) : NewT H.h vs Q0 :=
  new_tup m r q fun v H' d M' r' m' g' q' => k v H' d M' r' m' (g.trans g') q'
end
end DM
namespace DM
open PySem L2
abbrev DSt := List (Option D)
abbrev DQ := D → Mm → Prop
abbrev TDE := DSt → Mm → DQ → Prop
abbrev TDT := DSt → Mm → (Bool → Mm → Prop) → Prop
abbrev TDA := DSt → Mm → (List D → Mm → Prop) → Prop
abbrev DX := Addr → List (Str × D) → DSt → Mm → Prop
structure DEnds where
  nx : DSt → Mm → Prop
  rt : DQ
  xc : DX := fun _ _ _ _ => False
  bk : DSt → Mm → Prop := fun _ _ => False
  ct : DSt → Mm → Prop := fun _ _ => False
abbrev TDS := DEnds → DSt → Mm → Prop
def SR (K : PySem.W.Frag) (H : HF) (ds : DSt) (σ : St) : Prop := ds.length = σ.length ∧ ∀ (i : Nat) (d : D), ds[i]? = some (some d) → ∃ v, σ[i]? = some (some v) ∧ VR K H d v
section
variable {K : PySem.W.Frag} {H H' : HF} {M M' : Mm} {ds : DSt} {σ : St}
theorem SR.mono (s : SR K H ds σ) (t : TX K H H') : SR K H' ds σ := ⟨s.1, fun i d e => by
  obtain ⟨v, h1, h2⟩ := s.2 i d e
  exact ⟨v, h1, VR.mono t _ _ h2⟩⟩
theorem SR.gg (s : SR K H ds σ) (m : MR K M H) (g : GG M H M' H') : SR K H' ds σ := s.mono (g.tx m)
theorem SR.set (s : SR K H ds σ) {d : D} {v : V} (r : VR K H d v) (i : Nat) : SR K H (ds.set i (some d)) (σ.set i (some v)) := by
  refine ⟨by rw [List.length_set, List.length_set]; exact s.1, fun j e h => ?_⟩
  by_cases hij : i = j
  · subst hij
    by_cases hl : i < ds.length
    · rw [List.getElem?_set_self hl] at h
      cases h
      exact ⟨v, by rw [List.getElem?_set_self (by rw [← s.1]; exact hl)], r⟩
    · rw [List.getElem?_eq_none (by rw [List.length_set]; omega)] at h
      cases h
  · rw [List.getElem?_set_ne hij] at h ⊢
    exact s.2 j e h
theorem SR.forget (s : SR K H ds σ) (i : Nat) : SR K H (ds.set i none) (σ.set i none) := by
  refine ⟨by rw [List.length_set, List.length_set]; exact s.1, fun j e h => ?_⟩
  by_cases hij : i = j
  · subst hij
    by_cases hl : i < ds.length
    · rw [List.getElem?_set_self hl] at h
      cases h
    · rw [List.getElem?_eq_none (by rw [List.length_set]; omega)] at h
      cases h
  · rw [List.getElem?_set_ne hij] at h ⊢
    exact s.2 j e h
end
structure JE (X : Cx) (e : Expr) (t : TDE) : Prop where
  go : ∃ t0, PE X e t0 ∧ ∀ (ds : DSt) (σ : St) (H : HF) (M : Mm) (Q : DQ) (Q0 : VK), SR X.K H ds σ → MR X.K M H → t ds M Q →
    (∀ v H' d M', VR X.K H' d v → MR X.K M' H' → GG M H M' H' → Q d M' → Q0 v H'.h) → t0 σ H.h Q0
structure JT (X : Cx) (e : Expr) (t : TDT) : Prop where
  go : ∃ t0, PT X e t0 ∧ ∀ (ds : DSt) (σ : St) (H : HF) (M : Mm) (Q : Bool → Mm → Prop) (Q0 : Bool → Hp → Prop), SR X.K H ds σ → MR X.K M H → t ds M Q →
    (∀ b H' M', MR X.K M' H' → GG M H M' H' → Q b M' → Q0 b H'.h) → t0 σ H.h Q0
structure JW (X : Cx) (e : Expr) (t : TDT) : Prop where
  go : ∃ t0, PW X e t0 ∧ ∀ (ds : DSt) (σ : St) (H : HF) (M : Mm) (Q : Bool → Mm → Prop) (Q0 : Bool → Hp → Prop), SR X.K H ds σ → MR X.K M H → t ds M Q →
    (∀ b H' M', MR X.K M' H' → GG M H M' H' → Q b M' → Q0 b H'.h) → t0 σ H.h Q0
structure JA (X : Cx) (es : List Expr) (t : TDA) : Prop where
  go : ∃ t0, PA X es t0 ∧ ∀ (ds : DSt) (σ : St) (H : HF) (M : Mm) (Q : List D → Mm → Prop) (Q0 : List V → Hp → Prop), SR X.K H ds σ → MR X.K M H → t ds M Q →
    (∀ vs H' es M', VRs X.K H' es vs → MR X.K M' H' → GG M H M' H' → Q es M' → Q0 vs H'.h) → t0 σ H.h Q0
def XR (K : PySem.W.Frag) (M : Mm) (H : HF) (od : Option Addr) (fs : List (Str × D)) : Prop := match od with
  | none => fs = []
  | some a => M a = none ∧ ¬H.F a ∧ ∃ vs, H.h a = some (.xd vs) ∧ FR K H fs vs
def XF (H0 : HF) (od : Option Addr) : Prop := ∀ dd, od = some dd → H0.h dd = none
structure Link (K : PySem.W.Frag) (W : WX) (M0 : Mm) (H0 : HF) (D0 : Ends) (D1 : DEnds) : Prop where
  nx : ∀ σ ds H M, GG M0 H0 M H → SR K H ds σ → MR K M H → D1.nx ds M → D0.nx σ H.h
  rt : ∀ v d H M, GG M0 H0 M H → VR K H d v → MR K M H → D1.rt d M → D0.rt v H.h
  bk : ∀ σ ds H M, GG M0 H0 M H → SR K H ds σ → MR K M H → D1.bk ds M → D0.bk σ H.h
  ct : ∀ σ ds H M, GG M0 H0 M H → SR K H ds σ → MR K M H → D1.ct ds M → D0.ct σ H.h
  xc : ∀ C od σ ds fs H M, XF H0 od → GG M0 H0 M H → SR K H ds σ → XR K M H od fs → MR K M H → D1.xc C fs ds M → W (.ref C) od σ H.h
structure JS (X : Cx) (W : WX) (st : Stmt) (t : TDS) : Prop where
  go : ∃ t0, PS X st t0 ∧ ∀ (M0 : Mm) (H0 : HF) (D0 : Ends) (D1 : DEnds), Link X.K W M0 H0 D0 D1 → ∀ (ds : DSt) (σ : St) (H : HF) (M : Mm), GG M0 H0 M H → SR X.K H ds σ → MR X.K M H → t D1 ds M → t0 D0 σ H.h
structure JB (X : Cx) (W : WX) (st : List Stmt) (t : TDS) : Prop where
  go : ∃ t0, PSs X st t0 ∧ ∀ (M0 : Mm) (H0 : HF) (D0 : Ends) (D1 : DEnds), Link X.K W M0 H0 D0 D1 → ∀ (ds : DSt) (σ : St) (H : HF) (M : Mm), GG M0 H0 M H → SR X.K H ds σ → MR X.K M H → t D1 ds M → t0 D0 σ H.h
def dget (ds : DSt) (i : Nat) : Option D := (ds[i]?).getD none
@[simp] theorem dget_zero (x : Option D) (r : DSt) : dget (x :: r) 0 = x := rfl
@[simp] theorem dget_succ (x : Option D) (r : DSt) (i : Nat) : dget (x :: r) (i + 1) = dget r i := rfl
def dVar (i : Nat) : TDE := fun ds M Q => match dget ds i with | some d => Q d M | none => False
def dC (d : D) : TDE := fun _ M Q => Q d M
section
variable {X : Cx}
theorem je_pe {e : Expr} {t0 : TE} {t : TDE} (h : PE X e t0) (g : ∀ (ds : DSt) (σ : St) (H : HF) (M : Mm) (Q : DQ) (Q0 : VK), SR X.K H ds σ → MR X.K M H → t ds M Q →
    (∀ v H' d M', VR X.K H' d v → MR X.K M' H' → GG M H M' H' → Q d M' → Q0 v H'.h) → t0 σ H.h Q0) : JE X e t := ⟨t0, h, g⟩
theorem je_var {e : Expr} {i : Nat} (h : PE X e (tVar i)) : JE X e (dVar i) := je_pe h fun ds σ H M Q Q0 s m q k => by
  unfold dVar dget at q
  cases e : ds[i]? with
  | none => rw [e] at q; exact q.elim
  | some o =>
    cases o with
    | none => rw [e] at q; exact q.elim
    | some d =>
      rw [e] at q
      obtain ⟨v, h1, h2⟩ := s.2 i d e
      exact ⟨v, h1, k v H d M h2 m GG.refl q⟩
theorem jv (i : Nat) {x : Str} {pos : Pos} (hN : X.N[i]? = some x := by rfl) (hv : Vis X.env.scope x := by first | exact Or.inl rfl | exact Or.inr (Or.inl rfl) | exact Or.inr (Or.inr rfl)) (hd : (x == ("__debug__" : Str)) = false := by decide)
    (hcd : (x == ("__classdict__" : Str)) = false := by decide) : JE X (.Name x pos) (dVar i) := je_var (pe_var hN hv hd hcd)
theorem je_c {e : Expr} {d : D} {v : V} (h : PE X e (tC v)) (r : ∀ H, VR X.K H d v) : JE X e (dC d) := je_pe h fun _ _ H M _ _ _ m q k => k v H d M (r H) m GG.refl q
theorem je_int {i j pos} : JE X (.Constant (.int i) j pos) (dC (.int i)) := je_c pe_int fun _ => .int i
theorem je_bl {b j pos} : JE X (.Constant (.bool b) j pos) (dC (.bl b)) := je_c pe_bl fun _ => .bl b
theorem je_str {x j pos} : JE X (.Constant (.str x) j pos) (dC (.str x)) := je_c pe_str fun _ => .str x
theorem je_ty {x : Str} {n : String} {pos : Pos} (hg : Gl X x) (hm : X.mg x = none) (hv : bootBuiltins x = some (.type n)) (hn : x ≠ "__name__" := by decide) (hd : (x == ("__debug__" : Str)) = false := by decide) : JE X (.Name x pos) (dC (.ty n)) :=
  je_c (pe_bltn (v := .ty n) hg hm hv rfl hn hd) fun _ => .ty n
def dNil : TDA := fun _ M Q => Q [] M
def dCons (ta : TDE) (tr : TDA) : TDA := fun ds M Q => ta ds M fun x M1 => tr ds M1 fun xs M2 => Q (x :: xs) M2
theorem ja_nil : JA X [] dNil := ⟨_, pa_nil, fun _ _ H M _ _ _ m q k => k [] H [] M .nil m GG.refl q⟩
theorem ja_cons {e : Expr} {es : List Expr} {te : TDE} {t : TDA} (ha : JE X e te) (hr : JA X es t) (hs : starEach (e :: es) X.env = (false, eval e X.env) :: starEach es X.env := by rfl) : JA X (e :: es) (dCons te t) := by
  obtain ⟨t0, p, g⟩ := ha
  obtain ⟨u0, p', g'⟩ := hr
  refine ⟨_, pa_cons p p' hs, fun ds σ H M Q Q0 s m q k => ?_⟩
  refine g ds σ H M _ _ s m q fun v H1 d M1 r1 m1 g1 q1 => ?_
  refine g' ds σ H1 M1 _ _ (s.gg m g1) m1 q1 fun vs H2 es M2 r2 m2 g2 q2 => ?_
  exact k _ H2 _ M2 (.cons (VR.mono (g2.tx m1) _ _ r1) r2) m2 (g1.trans g2) q2
def dTup (t : TDA) : TDE := fun ds M Q => t ds M fun xs M1 => xs.length ≤ sizeLine ∧ Q (.tup xs) M1
theorem je_tup {es : List Expr} {x1} {pos : Pos} {t : TDA} (h : JA X es t) : JE X (.Tuple es x1 pos) (dTup t) := by
  obtain ⟨t0, p, g⟩ := h
  refine je_pe (pe_tupC p) fun ds σ H M Q Q0 s m q k => ?_
  refine g ds σ H M _ _ s m q fun vs H1 es M1 r1 m1 g1 q1 => ⟨by rw [← r1.length]; exact q1.1, ?_⟩
  exact new_tupG m1 g1 r1 q1.2 k
end
abbrev DR2 := D → D → Mm → DQ → Prop
def Lift2 (K : PySem.W.Frag) (r : R2) (dr : DR2) : Prop := ∀ (x y : V) (dx dy : D) (H : HF) (M : Mm) (Q : DQ) (Q0 : VK), VR K H dx x → VR K H dy y → MR K M H → dr dx dy M Q →
  (∀ v H' d M', VR K H' d v → MR K M' H' → GG M H M' H' → Q d M' → Q0 v H'.h) → r x y H.h Q0
def dOp (r : DR2) (ta tb : TDE) : TDE := fun ds M Q => ta ds M fun x M1 => tb ds M1 fun y M2 => r x y M2 Q
section
variable {X : Cx} {a b : Expr} {ta tb : TDE} {pos : Pos}
theorem op2 {ua ub : TE} {r : R2} {dr : DR2} (hl : Lift2 X.K r dr) (ga : ∀ (ds : DSt) (σ : St) (H : HF) (M : Mm) (Q : DQ) (Q0 : VK), SR X.K H ds σ → MR X.K M H → ta ds M Q →
    (∀ v H' d M', VR X.K H' d v → MR X.K M' H' → GG M H M' H' → Q d M' → Q0 v H'.h) → ua σ H.h Q0) (gb : ∀ (ds : DSt) (σ : St) (H : HF) (M : Mm) (Q : DQ) (Q0 : VK), SR X.K H ds σ → MR X.K M H → tb ds M Q →
    (∀ v H' d M', VR X.K H' d v → MR X.K M' H' → GG M H M' H' → Q d M' → Q0 v H'.h) → ub σ H.h Q0) (ds : DSt) (σ : St) (H : HF) (M : Mm) (Q : DQ) (Q0 : VK) (s : SR X.K H ds σ) (m : MR X.K M H) (q : dOp dr ta tb ds M Q)
    (k : ∀ v H' d M', VR X.K H' d v → MR X.K M' H' → GG M H M' H' → Q d M' → Q0 v H'.h) : tOp r ua ub σ H.h Q0 := by
  refine ga ds σ H M _ _ s m q fun v H1 d M1 r1 m1 g1 q1 => ?_
  refine gb ds σ H1 M1 _ _ (s.gg m g1) m1 q1 fun u H2 e M2 r2 m2 g2 q2 => ?_
  exact hl v u d e H2 M2 Q Q0 (VR.mono (g2.tx m1) _ _ r1) r2 m2 q2 fun w H3 f M3 r3 m3 g3 q3 => k w H3 f M3 r3 m3 ((g1.trans g2).trans g3) q3
theorem je_op {op : Operator} {r : R2} {dr : DR2} (ho : OpR X (binaryOp op) r) (hl : Lift2 X.K r dr) (ha : JE X a ta) (hb : JE X b tb) : JE X (.BinOp a op b pos) (dOp dr ta tb) := by
  obtain ⟨u, p, g⟩ := ha
  obtain ⟨u', p', g'⟩ := hb
  exact je_pe (pe_op ho p p') (op2 hl g g')
theorem je_cmpR {op : CmpOp} {r : R2} {dr : DR2} (ho : OpR X (compareOp op) r) (hl : Lift2 X.K r dr) (ha : JE X a ta) (hb : JE X b tb) (hm : behindInMarks op b = false) : JE X (.Compare a [op] [b] pos) (dOp dr ta tb) := by
  obtain ⟨u, p, g⟩ := ha
  obtain ⟨u', p', g'⟩ := hb
  exact je_pe (pe_cmpR ho p p' hm) (op2 hl g g')
def isB (d : D) (Q : Bool → Prop) : Prop := match d with | .bl b => Q b | _ => False
def dTest (t : TDE) : TDT := fun ds M Q => t ds M fun x M1 => isB x fun b => Q b M1
theorem isB_out {K : PySem.W.Frag} {H : HF} {d : D} {v : V} {Q : Bool → Prop} (r : VR K H d v) (q : isB d Q) : ∃ k, v = .bl k ∧ Q k := by
  cases r with
  | bl b => exact ⟨b, rfl, q⟩
  | _ => exact q.elim
theorem jt_cmpR {op : CmpOp} {r : R2} {dr : DR2} (ho : OpR X (compareOp op) r) (hl : Lift2 X.K r dr) (ha : JE X a ta) (hb : JE X b tb) (hm : behindInMarks op b = false) : JT X (.Compare a [op] [b] pos) (dTest (dOp dr ta tb)) := by
  obtain ⟨u, p, g⟩ := ha
  obtain ⟨u', p', g'⟩ := hb
  refine ⟨_, pt_cmpR ho p p' hm, fun ds σ H M Q Q0 s m q k => ?_⟩
  refine op2 hl g g' ds σ H M _ _ s m q fun v H' d M' r m' gg q' => ?_
  obtain ⟨b, e, q⟩ := isB_out r q'
  exact ⟨b, e, k b H' M' m' gg q⟩
theorem jt_val {e : Expr} {t : TDE} (h : JE X e t) (he : ∀ whole, isTrue e X.env whole = (do let v ← whole; standAt e.pos; holding [v] (truthy v)) := by intro _; rfl) : JT X e (dTest t) := by
  obtain ⟨u, p, g⟩ := h
  refine ⟨_, pt_val p he, fun ds σ H M Q Q0 s m q k => ?_⟩
  refine g ds σ H M _ _ s m q fun v H' d M' r m' gg q' => ?_
  obtain ⟨b, e, q⟩ := isB_out r q'
  exact ⟨b, e, k b H' M' m' gg q⟩
def dAnd (t u : TDT) : TDT := fun ds M Q => t ds M fun c M1 => if c = true then u ds M1 Q else Q false M1
def dOr (t u : TDT) : TDT := fun ds M Q => t ds M fun c M1 => if c = true then Q true M1 else u ds M1 Q
def dNot (t : TDT) : TDT := fun ds M Q => t ds M fun c M1 => Q (!c) M1
variable {t t' : TDT} {rest : List Expr}
theorem jw_and1 (ha : JT X a t) : JW X (.BoolOp .And [a] pos) t := by
  obtain ⟨u, p, g⟩ := ha
  exact ⟨_, pw_and1 p, g⟩
theorem jw_or1 (ha : JT X a t) : JW X (.BoolOp .Or [a] pos) t := by
  obtain ⟨u, p, g⟩ := ha
  exact ⟨_, pw_or1 p, g⟩
theorem jw_and (ha : JT X a t) (hb : JW X (.BoolOp .And (b :: rest) pos) t') : JW X (.BoolOp .And (a :: b :: rest) pos) (dAnd t t') := by
  obtain ⟨u, p, g⟩ := ha
  obtain ⟨u', p', g'⟩ := hb
  refine ⟨_, pw_and p p', fun ds σ H M Q Q0 s m q k => ?_⟩
  refine g ds σ H M _ _ s m q fun c H1 M1 m1 g1 q1 => ?_
  cases c with
  | true => exact g' ds σ H1 M1 _ _ (s.gg m g1) m1 q1 fun b H2 M2 m2 g2 q2 => k b H2 M2 m2 (g1.trans g2) q2
  | false => exact k false H1 M1 m1 g1 q1
theorem jw_or (ha : JT X a t) (hb : JW X (.BoolOp .Or (b :: rest) pos) t') : JW X (.BoolOp .Or (a :: b :: rest) pos) (dOr t t') := by
  obtain ⟨u, p, g⟩ := ha
  obtain ⟨u', p', g'⟩ := hb
  refine ⟨_, pw_or p p', fun ds σ H M Q Q0 s m q k => ?_⟩
  refine g ds σ H M _ _ s m q fun c H1 M1 m1 g1 q1 => ?_
  cases c with
  | false => exact g' ds σ H1 M1 _ _ (s.gg m g1) m1 q1 fun b H2 M2 m2 g2 q2 => k b H2 M2 m2 (g1.trans g2) q2
  | true => exact k true H1 M1 m1 g1 q1
theorem JW.jt {e : Expr} (h : JW X e t) : JT X e t := by
  obtain ⟨u, p, g⟩ := h
  exact ⟨u, p.pt, g⟩
theorem jt_not (ha : JT X a t) : JT X (.UnaryOp .Not a pos) (dNot t) := by
  obtain ⟨u, p, g⟩ := ha
  exact ⟨_, pt_not p, fun ds σ H M Q Q0 s m q k => g ds σ H M _ _ s m q fun c H1 M1 m1 g1 q1 => k _ H1 M1 m1 g1 q1⟩
def dAndV (ta tb : TDE) : TDE := fun ds M Q => ta ds M fun x M1 => isB x fun c => if c = true then tb ds M1 Q else Q (.bl false) M1
def dOrV (ta tb : TDE) : TDE := fun ds M Q => ta ds M fun x M1 => isB x fun c => if c = true then Q (.bl true) M1 else tb ds M1 Q
def dNotV (ta : TDE) : TDE := fun ds M Q => ta ds M fun x M1 => isB x fun c => Q (.bl (!c)) M1
theorem je_one {op} (h : JE X a ta) : JE X (.BoolOp op [a] pos) ta := by
  obtain ⟨u, p, g⟩ := h
  exact ⟨u, pe_one p, g⟩
theorem je_and (ha : JE X a ta) (hb : JE X (.BoolOp .And (b :: rest) pos) tb) : JE X (.BoolOp .And (a :: b :: rest) pos) (dAndV ta tb) := by
  obtain ⟨u, p, g⟩ := ha
  obtain ⟨u', p', g'⟩ := hb
  refine je_pe (pe_and p p') fun ds σ H M Q Q0 s m q k => ?_
  refine g ds σ H M _ _ s m q fun v H1 d M1 r1 m1 g1 q1 => ?_
  obtain ⟨c, e, q1⟩ := isB_out r1 q1
  refine ⟨c, e, ?_⟩
  cases c with
  | true => exact g' ds σ H1 M1 _ _ (s.gg m g1) m1 q1 fun v H2 d M2 r2 m2 g2 q2 => k v H2 d M2 r2 m2 (g1.trans g2) q2
  | false => exact k _ H1 _ M1 (.bl false) m1 g1 q1
theorem je_or (ha : JE X a ta) (hb : JE X (.BoolOp .Or (b :: rest) pos) tb) : JE X (.BoolOp .Or (a :: b :: rest) pos) (dOrV ta tb) := by
  obtain ⟨u, p, g⟩ := ha
  obtain ⟨u', p', g'⟩ := hb
  refine je_pe (pe_or p p') fun ds σ H M Q Q0 s m q k => ?_
  refine g ds σ H M _ _ s m q fun v H1 d M1 r1 m1 g1 q1 => ?_
  obtain ⟨c, e, q1⟩ := isB_out r1 q1
  refine ⟨c, e, ?_⟩
  cases c with
  | false => exact g' ds σ H1 M1 _ _ (s.gg m g1) m1 q1 fun v H2 d M2 r2 m2 g2 q2 => k v H2 d M2 r2 m2 (g1.trans g2) q2
  | true => exact k _ H1 _ M1 (.bl true) m1 g1 q1
theorem je_not (ha : JE X a ta) : JE X (.UnaryOp .Not a pos) (dNotV ta) := by
  obtain ⟨u, p, g⟩ := ha
  refine je_pe (pe_not p) fun ds σ H M Q Q0 s m q k => ?_
  refine g ds σ H M _ _ s m q fun v H1 d M1 r1 m1 g1 q1 => ?_
  obtain ⟨c, e, q1⟩ := isB_out r1 q1
  exact ⟨c, e, k _ H1 _ M1 (.bl _) m1 g1 q1⟩
end
end DM
namespace DM
open PySem L2
open PyProof.Rows (b2i)
section
variable {K : PySem.W.Frag} {H : HF} {M : Mm}
theorem VR.int_v {i : Int} {v : V} (r : VR K H (.int i) v) : v = .int i := by cases r; rfl
theorem VR.bl_v {i : Bool} {v : V} (r : VR K H (.bl i) v) : v = .bl i := by cases r; rfl
theorem VR.str_v {i : Str} {v : V} (r : VR K H (.str i) v) : v = .str i := by cases r; rfl
theorem VR.ref_v {i : Addr} {v : V} (r : VR K H (.ref i) v) : v = .ref i := by cases r; rfl
theorem VR.ty_v {n : String} {v : V} (r : VR K H (.ty n) v) : v = .ty n := by cases r; rfl
theorem VR.tup_v {ds : List D} {v : V} (r : VR K H (.tup ds) v) : ∃ a vs, v = .ref a ∧ SqT K H.h a vs ∧ VRs K H ds vs := by
  cases r with
  | tup h q => exact ⟨_, _, rfl, h.sq, q⟩
theorem VR.tup_t {ds : List D} {v : V} (r : VR K H (.tup ds) v) (hf : pq ds = false) : ∃ a vs, v = .ref a ∧ H.h a = some (.tup vs) ∧ VRs K H ds vs := by
  cases r with
  | tup h q =>
    rw [hf] at h
    obtain ⟨ob, _, e⟩ := h
    exact ⟨_, _, rfl, e, q⟩
theorem VR.lst_v {ds : List D} {v : V} (r : VR K H (.lst ds) v) : ∃ a vs, v = .ref a ∧ H.h a = some (.lst vs) ∧ H.F a ∧ VRs K H ds vs := by
  cases r with
  | lst h f q => exact ⟨_, _, rfl, h, f, q⟩
theorem VR.dic_v {ds : List (Key × D)} {v : V} (r : VR K H (.dic ds) v) : ∃ a vs, v = .ref a ∧ H.h a = some (.dK vs) ∧ H.F a ∧ FR K H ds vs := by
  cases r with
  | dic h f q => exact ⟨_, _, rfl, h, f, q.fr⟩
theorem VR.dit_v {ds : List (List Key × D)} {v : V} (r : VR K H (.dit ds) v) : ∃ a vs, v = .ref a ∧ H.h a = some (.dT vs) ∧ H.F a ∧ FR K H ds vs ∧ NEk ds := by
  cases r with
  | dit h f q n => exact ⟨_, _, rfl, h, f, q.fr, n⟩
end
def lstOf (M : Mm) (a : Addr) : Option (List D) := match M a with | some (.lst xs) => some xs | _ => none
theorem lstOf_some {M : Mm} {a : Addr} {xs : List D} (h : M a = some (.lst xs)) : lstOf M a = some xs := by unfold lstOf; rw [h]
theorem of_lstOf {M : Mm} {a : Addr} {xs : List D} (h : lstOf M a = some xs) : M a = some (.lst xs) := by
  unfold lstOf at h
  split at h
  · cases h; assumption
  · cases h
theorem lstOf_mup_same {M : Mm} {a : Addr} {xs : List D} : lstOf (mup M a (.lst xs)) a = some xs := lstOf_some mup_same
theorem lstOf_mup_ne {M : Mm} {a b : Addr} {o : MO} (h : b ≠ a) : lstOf (mup M a o) b = lstOf M b := by unfold lstOf; rw [mup_ne h]
def rdL (M : Mm) : D → Option (List D)
  | .lst xs => some xs
  | .ref a => lstOf M a
  | _ => none
@[simp] theorem rdL_lst {M : Mm} {xs : List D} : rdL M (.lst xs) = some xs := rfl
@[simp] theorem rdL_ref {M : Mm} {a : Addr} : rdL M (.ref a) = lstOf M a := rfl
theorem rdL_v {K : PySem.W.Frag} {M : Mm} {H : HF} {d : D} {v : V} {xs : List D} (m : MR K M H) (r : VR K H d v) (e : rdL M d = some xs) : ∃ a vs, v = .ref a ∧ H.h a = some (.lst vs) ∧ VRs K H xs vs := by
  cases d with
  | lst ys =>
    cases e
    obtain ⟨a, vs, rfl, h, _, q⟩ := r.lst_v
    exact ⟨a, vs, rfl, h, q⟩
  | ref a =>
    cases r.ref_v
    obtain ⟨vs, h1, r1⟩ := m.ob a _ (of_lstOf e)
    exact ⟨a, vs, rfl, h1, r1⟩
  | _ => cases e
def catR : DR2 := fun x y M Q => match rdL M x, rdL M y with
    | some i, some j => i.length + j.length ≤ sizeLine ∧ Q (.lst (i ++ j)) M
    | _, _ => False
theorem catR_out {x y : D} {M : Mm} {Q : DQ} (h : catR x y M Q) : ∃ i j, rdL M x = some i ∧ rdL M y = some j ∧ i.length + j.length ≤ sizeLine ∧ Q (.lst (i ++ j)) M := by
  unfold catR at h
  split at h
  · rename_i i j e1 e2
    exact ⟨i, j, e1, e2, h⟩
  · exact h.elim
def addR : DR2 := fun x y M Q => match x, y with
  | .int i, .int j => Q (.int (i + j)) M
  | .str i, .str j => i.length + j.length ≤ sizeLine ∧ Q (.str (i ++ j)) M
  | .tup i, .tup j => i.length + j.length ≤ sizeLine ∧ Q (.tup (i ++ j)) M
  | .int i, .bl k => Q (.int (i + b2i k)) M
  | x, y => catR x y M Q
def addT (K : PySem.W.Frag) : R2 := fun x y H Q => (∃ i j, x = .int i ∧ y = .int j ∧ Q (.int (i + j)) H) ∨ (∃ i j, x = .str i ∧ y = .str j ∧ i.length + j.length ≤ sizeLine ∧ Q (.str (i ++ j)) H) ∨
  rCatC K x y H Q ∨ rCat x y H Q ∨ ∃ i k, x = .int i ∧ y = .bl k ∧ Q (.int (i + b2i k)) H
theorem op_addT {X : Cx} : OpR X (binaryOp .Add) (addT X.K) := op_add.or (op_add_str.or (op_catC.or (op_cat.or op_add_ib)))
theorem catR_no1 {x y : D} {M : Mm} {Q : DQ} (e : rdL M x = none) : ¬catR x y M Q := fun h => by
  obtain ⟨i, _, e1, _⟩ := catR_out h
  rw [e] at e1
  cases e1
theorem lift_cat {K : PySem.W.Frag} {x y : V} {dx dy : D} {H : HF} {M : Mm} {Q : DQ} {Q0 : VK} (rx : VR K H dx x) (ry : VR K H dy y) (m : MR K M H) (h : catR dx dy M Q)
    (k : ∀ v H' d M', VR K H' d v → MR K M' H' → GG M H M' H' → Q d M' → Q0 v H'.h) : rCat x y H.h Q0 := by
  obtain ⟨i, j, e1, e2, hz, q⟩ := catR_out h
  obtain ⟨a, vs, rfl, h1, r1⟩ := rdL_v m rx e1
  obtain ⟨b, ws, rfl, h2, r2⟩ := rdL_v m ry e2
  refine ⟨a, b, vs, ws, rfl, rfl, h1, h2, by rw [← r1.length, ← r2.length]; exact hz, fun p hp => ?_⟩
  have t : TX K H ((H.up p (.lst (vs ++ ws))).fz p) := (TX.new m hp).trans TX.fzz
  exact k (.ref p) ((H.up p (.lst (vs ++ ws))).fz p) (.lst (i ++ j)) M (.lst upd_same (.inr rfl) (VRs.append (VRs.mono t _ _ r1) (VRs.mono t _ _ r2)))
    ((m.newT hp).fzz upd_same (m.free hp)) ((GG.newT hp).fzz hp) q
theorem lift_add {K : PySem.W.Frag} : Lift2 K (addT K) addR := by
  intro x y dx dy H M Q Q0 rx ry m h k
  cases dx with
  | int i =>
    cases dy with
    | int j =>
      cases rx.int_v
      cases ry.int_v
      exact .inl ⟨i, j, rfl, rfl, k _ H _ M (.int _) m GG.refl h⟩
    | bl j =>
      cases rx.int_v
      cases ry.bl_v
      exact .inr (.inr (.inr (.inr ⟨i, j, rfl, rfl, k _ H _ M (.int _) m GG.refl h⟩)))
    | _ => simp [addR, catR, rdL] at h
  | str i =>
    cases dy with
    | str j =>
      cases rx.str_v
      cases ry.str_v
      exact .inr (.inl ⟨i, j, rfl, rfl, h.1, k _ H _ M (.str _) m GG.refl h.2⟩)
    | _ => simp [addR, catR, rdL] at h
  | tup i =>
    cases dy with
    | tup j =>
      obtain ⟨a, vs, rfl, sa, ra⟩ := rx.tup_v
      obtain ⟨b, ws, rfl, sb, rb⟩ := ry.tup_v
      obtain ⟨hz, q⟩ := h
      refine .inr (.inr (.inl ⟨a, b, vs, ws, rfl, rfl, sa, sb, by rw [← ra.length, ← rb.length]; exact hz, fun e => ?_, fun _ e => ?_, fun _ _ => ?_⟩))
      · subst e
        cases ra
        exact k _ H _ M ry m GG.refl q
      · subst e
        cases rb
        rw [List.append_nil] at q
        exact k _ H _ M rx m GG.refl q
      · exact new_tup m (VRs.append ra rb) q k
    | _ => simp [addR, catR, rdL] at h
  | non => exact (catR_no1 (x := .non) (y := dy) (M := M) (Q := Q) rfl (by cases dy <;> exact h)).elim
  | bl z => exact (catR_no1 (x := .bl z) (y := dy) (M := M) (Q := Q) rfl (by cases dy <;> exact h)).elim
  | ty z => exact (catR_no1 (x := .ty z) (y := dy) (M := M) (Q := Q) rfl (by cases dy <;> exact h)).elim
  | dic z => exact (catR_no1 (x := .dic z) (y := dy) (M := M) (Q := Q) rfl (by cases dy <;> exact h)).elim
  | dit z => exact (catR_no1 (x := .dit z) (y := dy) (M := M) (Q := Q) rfl (by cases dy <;> exact h)).elim
  | lst z =>
    have h : catR (.lst z) dy M Q := by cases dy <;> exact h
    exact .inr (.inr (.inr (.inl (lift_cat rx ry m h k))))
  | ref z =>
    have h : catR (.ref z) dy M Q := by cases dy <;> exact h
    exact .inr (.inr (.inr (.inl (lift_cat rx ry m h k))))
def intR (C : Int → Int → Prop) (g : Int → Int → D) : DR2 := fun x y M Q => match x, y with
  | .int i, .int j => C i j ∧ Q (g i j) M
  | _, _ => False
theorem lift_int {K : PySem.W.Frag} {C : Int → Int → Prop} {g : Int → Int → V} {g' : Int → Int → D} (hg : ∀ i j H, VR K H (g' i j) (g i j)) : Lift2 K (rI C g) (intR C g') := by
  intro x y dx dy H M Q Q0 rx ry m h k
  cases dx with
  | int i =>
    cases dy with
    | int j =>
      cases rx.int_v
      cases ry.int_v
      exact ⟨i, j, rfl, rfl, h.1, k _ H _ M (hg i j H) m GG.refl h.2⟩
    | _ => exact h.elim
  | _ => cases dy <;> exact h.elim
def int0R (g : Int → Int → D) : DR2 := fun x y M Q => match x, y with
  | .int i, .int j => Q (g i j) M
  | _, _ => False
theorem lift_int0 {K : PySem.W.Frag} {g : Int → Int → V} {g' : Int → Int → D} (hg : ∀ i j H, VR K H (g' i j) (g i j)) : Lift2 K (rI0 g) (int0R g') := by
  intro x y dx dy H M Q Q0 rx ry m h k
  cases dx with
  | int i =>
    cases dy with
    | int j =>
      cases rx.int_v
      cases ry.int_v
      exact ⟨i, j, rfl, rfl, k _ H _ M (hg i j H) m GG.refl h⟩
    | _ => exact h.elim
  | _ => cases dy <;> exact h.elim
abbrev subR : DR2 := int0R fun i j => .int (i - j)
abbrev mulR : DR2 := intR CMulW fun i j => .int (i * j)
abbrev modR : DR2 := intR (fun _ j => 0 < j) fun i j => .int (i % j)
abbrev fdivR : DR2 := intR CDivW fun i j => .int (i / j)
abbrev powR : DR2 := intR CPow fun i j => .int (i ^ j.toNat)
section
variable {X : Cx} {a b : Expr} {ta tb : TDE} {pos : Pos}
theorem je_add (ha : JE X a ta) (hb : JE X b tb) : JE X (.BinOp a .Add b pos) (dOp addR ta tb) := je_op op_addT lift_add ha hb
theorem je_sub (ha : JE X a ta) (hb : JE X b tb) : JE X (.BinOp a .Sub b pos) (dOp subR ta tb) := je_op op_sub (lift_int0 fun _ _ _ => .int _) ha hb
theorem je_mul (ha : JE X a ta) (hb : JE X b tb) : JE X (.BinOp a .Mult b pos) (dOp mulR ta tb) := je_op op_mulW (lift_int fun _ _ _ => .int _) ha hb
theorem je_mod (ha : JE X a ta) (hb : JE X b tb) : JE X (.BinOp a .Mod b pos) (dOp modR ta tb) := je_op op_mod (lift_int fun _ _ _ => .int _) ha hb
theorem je_fdiv (ha : JE X a ta) (hb : JE X b tb) : JE X (.BinOp a .FloorDiv b pos) (dOp fdivR ta tb) := je_op op_fdivW (lift_int fun _ _ _ => .int _) ha hb
theorem je_pow (ha : JE X a ta) (hb : JE X b tb) : JE X (.BinOp a .Pow b pos) (dOp powR ta tb) := je_op op_pow (lift_int fun _ _ _ => .int _) ha hb
end
mutual
def pureD : D → Bool
  | .ref _ => false
  | .ty _ => false
  | .dic _ => false
  | .dit _ => false
  | .tup xs => pureDs xs
  | .lst xs => pureDs xs
  | .non => true
  | .bl _ => true
  | .int _ => true
  | .str _ => true
def pureDs : List D → Bool
  | [] => true
  | x :: xs => pureD x && pureDs xs
end
mutual
def depD : D → Nat
  | .tup xs => 1 + depDs xs
  | .lst xs => 1 + depDs xs
  | .non => 1
  | .bl _ => 1
  | .int _ => 1
  | .str _ => 1
  | .ref _ => 1
  | .ty _ => 1
  | .dic _ => 1
  | .dit _ => 1
def depDs : List D → Nat
  | [] => 1
  | x :: xs => max (depD x) (depDs xs)
end
mutual
def eqvD : D → D → Bool
  | .non, .non => true
  | .bl a, .bl b => a == b
  | .bl a, .int b => (if a then 1 else 0) == b
  | .int a, .bl b => a == (if b then 1 else 0)
  | .int a, .int b => a == b
  | .str a, .str b => a == b
  | .tup xs, .tup ys => eqvDs xs ys
  | .lst xs, .lst ys => eqvDs xs ys
  | _, _ => false
def eqvDs : List D → List D → Bool
  | [], [] => true
  | x :: xs, y :: ys => eqvD x y && eqvDs xs ys
  | _, _ => false
end
theorem eqvDs_len : ∀ {xs ys : List D}, eqvDs xs ys = true → xs.length = ys.length
  | [], [], _ => rfl
  | x :: xs, y :: ys, h => by
    have h' : (eqvD x y && eqvDs xs ys) = true := by simpa [eqvDs] using h
    rw [Bool.and_eq_true] at h'
    simp [eqvDs_len h'.2]
  | [], _ :: _, h => by simp [eqvDs] at h
  | _ :: _, [], h => by simp [eqvDs] at h
def eqAtN (xs ys : List D) (j : Nat) : Bool := match xs[j]?, ys[j]? with | some x, some y => eqvD x y | _, _ => false
theorem eqvDs_range : ∀ (xs ys : List D), ((List.range (min xs.length ys.length)).all (eqAtN xs ys) && xs.length == ys.length) = eqvDs xs ys
  | [], [] => by simp [eqvDs]
  | [], _ :: _ => by simp [eqvDs]
  | _ :: _, [] => by simp [eqvDs]
  | x :: xs, y :: ys => by
    have ih := eqvDs_range xs ys
    have hm : min (x :: xs).length (y :: ys).length = min xs.length ys.length + 1 := by simp only [List.length_cons]; omega
    rw [hm, List.range_succ_eq_map, List.all_cons, List.all_map]
    have e0 : eqAtN (x :: xs) (y :: ys) 0 = eqvD x y := rfl
    have e1 : (eqAtN (x :: xs) (y :: ys) ∘ Nat.succ) = eqAtN xs ys := rfl
    have e2 : ((x :: xs).length == (y :: ys).length) = (xs.length == ys.length) := by simp
    rw [e0, e1, e2, eqvDs, ← ih, Bool.and_assoc]
theorem eqvDs_rangeL {xs ys : List D} (h : xs.length = ys.length) : (List.range xs.length).all (eqAtN xs ys) = eqvDs xs ys := by
  have := eqvDs_range xs ys
  rw [← h, Nat.min_self, show (xs.length == xs.length) = true by simp, Bool.and_true] at this
  exact this
theorem pureDs_get : ∀ {xs : List D} {j : Nat} {x : D}, pureDs xs = true → xs[j]? = some x → pureD x = true
  | [], _, _, _, e => by simp at e
  | y :: ys, 0, x, h, e => by
    simp at e; subst e
    have : (pureD y && pureDs ys) = true := by simpa [pureDs] using h
    exact (Bool.and_eq_true_iff.mp this).1
  | y :: ys, j + 1, x, h, e => by
    have : (pureD y && pureDs ys) = true := by simpa [pureDs] using h
    exact pureDs_get (j := j) (Bool.and_eq_true_iff.mp this).2 (by simpa using e)
theorem depDs_get : ∀ {xs : List D} {j : Nat} {x : D}, xs[j]? = some x → depD x ≤ depDs xs
  | [], _, _, e => by simp at e
  | y :: ys, 0, x, e => by
    simp at e; subst e
    show depD y ≤ max (depD y) (depDs ys)
    omega
  | y :: ys, j + 1, x, e => by
    have := depDs_get (xs := ys) (j := j) (x := x) (by simpa using e)
    show depD x ≤ max (depD y) (depDs ys)
    omega
section
variable {X : Cx} {pins : List (Addr × Obj)} {σ : St} {H : HF} {s : Shared}
open PySem.SeqAt in
theorem tup_at (I : Inv X pins σ H.h s) {a : Addr} {vs : List V} (h : SqT X.K H.h a vs) : ∃ its : List Value, Vals vs its ∧ s.heap.IsTuple a its.toArray := by
  obtain ⟨its, r, ⟨o, h1, h2, n, h3⟩, _⟩ := I.tuple h
  exact ⟨its, r, o, h1, h2, n, h3⟩
open PySem.SeqAt in
theorem lst_at (I : Inv X pins σ H.h s) {a : Addr} {vs : List V} (h : SqL X.K H.h a vs) : ∃ its : List Value, Vals vs its ∧ s.heap.IsList a its.toArray := by
  obtain ⟨its, r, p, _⟩ := I.list h
  exact ⟨its, r, p.isList⟩
inductive Cls (X : Cx) (H : HF) (s : Shared) : D → V → Value → Prop
  | fl {d : D} {v : V} {u : Value} : VR X.K H d v → flatV v = true → RelV v u → Cls X H s d v u
  | tu {xs : List D} {a : Addr} {vs : List V} {its : List Value} : SqT X.K H.h a vs → s.heap.IsTuple a its.toArray → VRs X.K H xs vs → Vals vs its → Cls X H s (.tup xs) (.ref a) (.ref a)
  | li {xs : List D} {a : Addr} {vs : List V} {its : List Value} : H.h a = some (.lst vs) → s.heap.IsList a its.toArray → VRs X.K H xs vs → Vals vs its → Cls X H s (.lst xs) (.ref a) (.ref a)
theorem Cls.of (I : Inv X pins σ H.h s) {d : D} {v : V} {u : Value} (r : VR X.K H d v) (ru : RelV v u) (p : pureD d = true) : Cls X H s d v u := by
  cases r with
  | ref _ => simp [pureD] at p
  | ty _ => simp [pureD] at p
  | dic _ _ _ => simp [pureD] at p
  | dit _ _ _ => simp [pureD] at p
  | tup sa ra =>
    cases ru
    have sa : SqT X.K H.h _ _ := sa.sq
    obtain ⟨its, rv, ht⟩ := tup_at I sa
    exact .tu sa ht ra rv
  | lst sa f ra =>
    cases ru
    obtain ⟨its, rv, ht⟩ := lst_at I (SqL.of sa)
    exact .li sa ht ra rv
  | non => exact .fl .non rfl ru
  | bl b => exact .fl (.bl b) rfl ru
  | int b => exact .fl (.int b) rfl ru
  | str b => exact .fl (.str b) rfl ru
theorem lst_inj (I : Inv X pins σ H.h s) {a : Addr} {vs ws : List V} (h : H.h a = some (.lst vs)) (h' : H.h a = some (.lst ws)) : vs = ws := by
  rw [h] at h'
  cases h'
  rfl
theorem tup_no_lst (I : Inv X pins σ H.h s) {a : Addr} {vs ws : List V} (h : SqT X.K H.h a vs) (h' : H.h a = some (.lst ws)) : False := by
  obtain ⟨its, rv, ht⟩ := tup_at I h
  obtain ⟨its2, rv2, ht2⟩ := lst_at I (SqL.of h')
  exact PySem.SeqAt.ne_of_list_tuple ht2 ht rfl
mutual
theorem eqv_same (I : Inv X pins σ H.h s) : ∀ (d e : D) (v : V), VR X.K H d v → VR X.K H e v → pureD d = true → pureD e = true → eqvD d e = true
  | .non, e, _, r, q, _, _ => by cases r; cases q; simp [eqvD]
  | .bl _, e, _, r, q, _, _ => by cases r; cases q; simp [eqvD]
  | .int _, e, _, r, q, _, _ => by cases r; cases q; simp [eqvD]
  | .str _, e, _, r, q, _, _ => by cases r; cases q; simp [eqvD]
  | .ref _, _, _, _, _, h, _ => by simp [pureD] at h
  | .ty _, _, _, _, _, h, _ => by simp [pureD] at h
  | .dic _, _, _, _, _, h, _ => by simp [pureD] at h
  | .dit _, _, _, _, _, h, _ => by simp [pureD] at h
  | .tup xs, e, _, r, q, h, h' => by
    obtain ⟨a, vs, rfl, sa, ra⟩ := r.tup_v
    cases q with
    | ref _ => simp [pureD] at h'
    | dic _ _ _ => simp [pureD] at h'
    | dit _ _ _ => simp [pureD] at h'
    | @tup ys _ ws sb rb =>
      have := I.tuple_inj sa (sb.sq)
      subst this
      simp only [eqvD]
      exact eqvs_same I xs ys vs ra rb (by simpa [pureD] using h) (by simpa [pureD] using h')
    | lst sb _ _ => exact (tup_no_lst I sa sb).elim
  | .lst xs, e, _, r, q, h, h' => by
    obtain ⟨a, vs, rfl, sa, _, ra⟩ := r.lst_v
    cases q with
    | ref _ => simp [pureD] at h'
    | dic _ _ _ => simp [pureD] at h'
    | dit _ _ _ => simp [pureD] at h'
    | tup sb _ => exact (tup_no_lst I (sb.sq) sa).elim
    | @lst ys _ ws sb _ rb =>
      have := lst_inj I sa sb
      subst this
      simp only [eqvD]
      exact eqvs_same I xs ys vs ra rb (by simpa [pureD] using h) (by simpa [pureD] using h')
theorem eqvs_same (I : Inv X pins σ H.h s) : ∀ (ds es : List D) (vs : List V), VRs X.K H ds vs → VRs X.K H es vs → pureDs ds = true → pureDs es = true → eqvDs ds es = true
  | [], es, _, r, q, _, _ => by cases r; cases q; simp [eqvDs]
  | d :: ds, es, _, r, q, h, h' => by
    cases r with
    | cons r1 r2 =>
      cases q with
      | cons q1 q2 =>
        have h1 := Bool.and_eq_true_iff.mp (show (pureD d && pureDs ds) = true by simpa [pureDs] using h)
        have h2 := Bool.and_eq_true_iff.mp (show (pureD _ && pureDs _) = true by simpa [pureDs] using h')
        simp only [eqvDs, Bool.and_eq_true]
        exact ⟨eqv_same I d _ _ r1 q1 h1.1 h2.1, eqvs_same I ds _ _ r2 q2 h1.2 h2.2⟩
end
open PySem.SeqAt in
theorem flat_cont {A : Around} {v : V} {u : Value} (r : RelV v u) (f : flatV v = true) {l : Addr} {its : Array Value} (h : s.heap.IsTuple l its ∨ s.heap.IsList l its) (hu : A.units < cLine) :
    EqAt A s u (.ref l) false ∧ RcAt A s u (.ref l) false ∧ RcNeAt A s u (.ref l) true ∧ EqAt A s (.ref l) u false ∧ RcAt A s (.ref l) u false ∧ RcNeAt A s (.ref l) u true := by
  cases v with
  | non => cases r; rcases h with h | h <;> exact ⟨by first | exact EqAt.none_tuple h hu | exact EqAt.none_list h hu, by first | exact RcAt.none_tuple h hu | exact RcAt.none_list h hu, by first | exact RcNeAt.none_tuple h hu | exact RcNeAt.none_list h hu, by first | exact EqAt.tuple_none h hu | exact EqAt.list_none h hu, by first | exact RcAt.tuple_none h hu | exact RcAt.list_none h hu, by first | exact RcNeAt.tuple_none h hu | exact RcNeAt.list_none h hu⟩
  | bl b => cases r; rcases h with h | h <;> exact ⟨by first | exact EqAt.bool_tuple b h hu | exact EqAt.bool_list b h hu, by first | exact RcAt.bool_tuple b h hu | exact RcAt.bool_list b h hu, by first | exact RcNeAt.bool_tuple b h hu | exact RcNeAt.bool_list b h hu, by first | exact EqAt.tuple_bool b h hu | exact EqAt.list_bool b h hu, by first | exact RcAt.tuple_bool b h hu | exact RcAt.list_bool b h hu, by first | exact RcNeAt.tuple_bool b h hu | exact RcNeAt.list_bool b h hu⟩
  | int b => obtain ⟨k, rfl⟩ := r; rcases h with h | h <;> exact ⟨by first | exact EqAt.int_tuple b k h hu | exact EqAt.int_list b k h hu, by first | exact RcAt.int_tuple b k h hu | exact RcAt.int_list b k h hu, by first | exact RcNeAt.int_tuple b k h hu | exact RcNeAt.int_list b k h hu, by first | exact EqAt.tuple_int b k h hu | exact EqAt.list_int b k h hu, by first | exact RcAt.tuple_int b k h hu | exact RcAt.list_int b k h hu, by first | exact RcNeAt.tuple_int b k h hu | exact RcNeAt.list_int b k h hu⟩
  | str b => obtain ⟨k, rfl⟩ := r; rcases h with h | h <;> exact ⟨by first | exact EqAt.str_tuple b k h hu | exact EqAt.str_list b k h hu, by first | exact RcAt.str_tuple b k h hu | exact RcAt.str_list b k h hu, by first | exact RcNeAt.str_tuple b k h hu | exact RcNeAt.str_list b k h hu, by first | exact EqAt.tuple_str b k h hu | exact EqAt.list_str b k h hu, by first | exact RcAt.tuple_str b k h hu | exact RcAt.list_str b k h hu, by first | exact RcNeAt.tuple_str b k h hu | exact RcNeAt.list_str b k h hu⟩
  | _ => simp [flatV] at f
theorem flat_eqv {K : PySem.W.Frag} {d e : D} {v w : V} (r : VR K H d v) (r' : VR K H e w) (f : flatV v = true) (f' : flatV w = true) : eqvD d e = eqV v w := by
  cases r <;> cases r' <;> first | rfl | (simp [flatV] at f; done) | (simp [flatV] at f'; done) | (simp [eqvD, eqV]; done)
theorem flat_tup {K : PySem.W.Frag} {d : D} {v : V} {xs : List D} (r : VR K H d v) (f : flatV v = true) : eqvD d (.tup xs) = false ∧ eqvD d (.lst xs) = false ∧ eqvD (.tup xs) d = false ∧ eqvD (.lst xs) d = false := by
  cases r <;> first | (simp [flatV] at f; done) | (simp [eqvD]; done)
end
end DM
namespace DM
open PySem L2
open PyProof.Rows (b2i)
section
variable {X : Cx} {pins : List (Addr × Obj)} {σ : St} {H : HF} {s : Shared}
mutual
theorem eqAt_D (I : Inv X pins σ H.h s) : ∀ (d e : D) (v w : V) (u t : Value) (A : Around), VR X.K H d v → VR X.K H e w → RelV v u → RelV w t → pureD d = true → pureD e = true → A.units + depD d < cLine → SeqAt.EqAt A s u t (eqvD d e)
  | d, e, v, w, u, t, A, rd, re, ru, rt, h, h', hu => by
    have hu0 : A.units < cLine := by omega
    cases Cls.of I rd ru h with
    | fl r1 f1 ru1 =>
      cases Cls.of I re rt h' with
      | fl r2 f2 rt2 => rw [flat_eqv r1 r2 f1 f2]; exact eqAt_V ru1 rt2 f1 f2
      | tu sb hb rb rv2 => rw [(flat_tup r1 f1).1]; exact (flat_cont ru1 f1 (.inl hb) hu0).1
      | li sb hb rb rv2 => rw [(flat_tup r1 f1).2.1]; exact (flat_cont ru1 f1 (.inr hb) hu0).1
    | @tu xs a vs its sa ha ra rv =>
      cases Cls.of I re rt h' with
      | fl r2 f2 rt2 => rw [(flat_tup r2 f2).2.2.1]; exact (flat_cont rt2 f2 (.inl ha) hu0).2.2.2.1
      | @tu ys b ws its2 sb hb rb rv2 =>
        by_cases hab : a = b
        · subst hab
          have e1 : eqvD (.tup xs) (.tup ys) = true := eqv_same I _ _ (.ref a) rd re h h'
          rw [e1]
          exact SeqAt.EqAt.same _
        · refine SeqAt.EqAt.of_refs hab ?_
          have key := SeqAt.RcAt.tuples (e := eqAtN xs ys) ha hb hu0 fun j h1 h2 => eqAts_D I xs ys vs ws its its2 A.in1 j ra rb rv rv2 (by simpa [pureD] using h) (by simpa [pureD] using h') (by show A.units + 1 + depDs xs < cLine; simp only [depD] at hu; omega) h1 h2
          rw [List.size_toArray, List.size_toArray, ← rv.length, ← rv2.length, ← ra.length, ← rb.length, eqvDs_range] at key
          simp only [eqvD]
          exact key
      | li sb hb rb rv2 => simp only [eqvD]; exact SeqAt.EqAt.tuple_list ha hb hu0
    | @li xs a vs its sa ha ra rv =>
      cases Cls.of I re rt h' with
      | fl r2 f2 rt2 => rw [(flat_tup r2 f2).2.2.2]; exact (flat_cont rt2 f2 (.inr ha) hu0).2.2.2.1
      | tu sb hb rb rv2 => simp only [eqvD]; exact SeqAt.EqAt.list_tuple ha hb hu0
      | @li ys b ws its2 sb hb rb rv2 =>
        by_cases hab : a = b
        · subst hab
          have e1 : eqvD (.lst xs) (.lst ys) = true := eqv_same I _ _ (.ref a) rd re h h'
          rw [e1]
          exact SeqAt.EqAt.same _
        · refine SeqAt.EqAt.of_refs hab ?_
          simp only [eqvD]
          by_cases hsz : xs.length = ys.length
          · have hs : its.toArray.size = its2.toArray.size := by rw [List.size_toArray, List.size_toArray, ← rv.length, ← rv2.length, ← ra.length, ← rb.length]; exact hsz
            have key := SeqAt.RcAt.lists (e := eqAtN xs ys) ha hb hs hu0 fun j h1 h2 => eqAts_D I xs ys vs ws its its2 A.in1 j ra rb rv rv2 (by simpa [pureD] using h) (by simpa [pureD] using h') (by show A.units + 1 + depDs xs < cLine; simp only [depD] at hu; omega) h1 h2
            rw [List.size_toArray, ← rv.length, ← ra.length, eqvDs_rangeL hsz] at key
            exact key
          · have hs : (its.toArray.size != its2.toArray.size) = true := by
              rw [List.size_toArray, List.size_toArray, ← rv.length, ← rv2.length, ← ra.length, ← rb.length]
              simpa using hsz
            have e3 : eqvDs xs ys = false := by
              cases q : eqvDs xs ys with
              | false => rfl
              | true => exact absurd (eqvDs_len q) hsz
            rw [e3]
            exact SeqAt.RcAt.lists_lengths ha hb hs hu0
  termination_by d => (sizeOf d, 0)
theorem eqAts_D (I : Inv X pins σ H.h s) : ∀ (xs ys : List D) (vs ws : List V) (us ts : List Value) (A : Around) (j : Nat), VRs X.K H xs vs → VRs X.K H ys ws → Vals vs us → Vals ws ts → pureDs xs = true → pureDs ys = true → A.units + depDs xs < cLine →
    ∀ (h1 : j < us.toArray.size) (h2 : j < ts.toArray.size), SeqAt.EqAt A s us.toArray[j] ts.toArray[j] (eqAtN xs ys j)
  | [], _, _, _, _, _, _, _, rx, _, ru, _, _, _, _, h1, _ => by
    cases rx; cases ru; simp at h1
  | x :: xs, ys, _, _, _, _, A, j, rx, ry, ru, rt, px, py, hu, h1, h2 => by
    have hx : A.units + depD x < cLine := by
      have : depD x ≤ depDs (x :: xs) := by show depD x ≤ max (depD x) (depDs xs); omega
      omega
    have hxs : A.units + depDs xs < cLine := by
      have : depDs xs ≤ depDs (x :: xs) := by show depDs xs ≤ max (depD x) (depDs xs); omega
      omega
    have pp := Bool.and_eq_true_iff.mp (show (pureD x && pureDs xs) = true by simpa [pureDs] using px)
    cases rx with
    | cons rx1 rx2 =>
      cases ru with
      | cons ru1 ru2 =>
        cases ry with
        | nil => cases rt; simp at h2
        | @cons y ys w ws ry1 ry2 =>
          cases rt with
          | cons rt1 rt2 =>
            have pq := Bool.and_eq_true_iff.mp (show (pureD y && pureDs ys) = true by simpa [pureDs] using py)
            cases j with
            | zero => exact eqAt_D I x y _ _ _ _ A rx1 ry1 ru1 rt1 pp.1 pq.1 hx
            | succ j =>
              have key := eqAts_D I xs ys _ _ _ _ A j rx2 ry2 ru2 rt2 pp.2 pq.2 hxs (by simpa using h1) (by simpa using h2)
              simpa [eqAtN] using key
  termination_by xs => (sizeOf xs, 1)
end
end
end DM
namespace DM
open PySem L2
open PyProof.Rows (b2i)
open PySem.SeqAt (EqAt RcAt RcNeAt)
section
variable {X : Cx} {pins : List (Addr × Obj)} {σ : L2.St} {H : HF} {s : Shared} {M : Mm}
theorem rcAt_V {A : Around} {y x : V} {u v : Value} (ry : RelV y u) (rx : RelV x v) (fy : flatV y = true) (fx : flatV x = true) : RcAt A s u v (eqV y x) ∧ RcNeAt A s u v (!eqV y x) := by
  cases y with
  | non =>
    cases ry
    cases x with
    | non => cases rx; exact ⟨RcAt.none_none, RcNeAt.none_none⟩
    | bl b => cases rx; exact ⟨RcAt.none_bool b, RcNeAt.none_bool b⟩
    | int b => obtain ⟨t, rfl⟩ := rx; exact ⟨RcAt.none_int b t, RcNeAt.none_int b t⟩
    | str b => obtain ⟨t, rfl⟩ := rx; exact ⟨RcAt.none_str b t, RcNeAt.none_str b t⟩
    | _ => exact absurd (show false = true from fx) Bool.false_ne_true
  | bl a =>
    cases ry
    cases x with
    | non => cases rx; exact ⟨RcAt.bool_none a, RcNeAt.bool_none a⟩
    | bl b => cases rx; exact ⟨RcAt.bool_bool a b, RcNeAt.bool_bool a b⟩
    | int b => obtain ⟨t, rfl⟩ := rx; exact ⟨RcAt.bool_int a b t, RcNeAt.bool_int a b t⟩
    | str b => obtain ⟨t, rfl⟩ := rx; exact ⟨RcAt.bool_str a b t, RcNeAt.bool_str a b t⟩
    | _ => exact absurd (show false = true from fx) Bool.false_ne_true
  | int a =>
    obtain ⟨t', rfl⟩ := ry
    cases x with
    | non => cases rx; exact ⟨RcAt.int_none a t', RcNeAt.int_none a t'⟩
    | bl b => cases rx; exact ⟨RcAt.int_bool a t' b, RcNeAt.int_bool a t' b⟩
    | int b => obtain ⟨t, rfl⟩ := rx; exact ⟨RcAt.int_int a t' b t, RcNeAt.int_int a t' b t⟩
    | str b => obtain ⟨t, rfl⟩ := rx; exact ⟨RcAt.int_str a t' b t, RcNeAt.int_str a t' b t⟩
    | _ => exact absurd (show false = true from fx) Bool.false_ne_true
  | str a =>
    obtain ⟨t', rfl⟩ := ry
    cases x with
    | non => cases rx; exact ⟨RcAt.str_none a t', RcNeAt.str_none a t'⟩
    | bl b => cases rx; exact ⟨RcAt.str_bool a t' b, RcNeAt.str_bool a t' b⟩
    | int b => obtain ⟨t, rfl⟩ := rx; exact ⟨RcAt.str_int a t' b t, RcNeAt.str_int a t' b t⟩
    | str b => obtain ⟨t, rfl⟩ := rx; exact ⟨RcAt.str_str a t' b t, RcNeAt.str_str a t' b t⟩
    | _ => exact absurd (show false = true from fx) Bool.false_ne_true
  | _ => exact absurd (show false = true from fy) Bool.false_ne_true
def resD (M : Mm) : D → D
  | .ref a => (match lstOf M a with | some xs => .lst xs | none => .ref a)
  | d => d
def eqM (M : Mm) (d e : D) : Bool := eqvD (resD M d) (resD M e)
def okD (M : Mm) (d : D) : Prop := pureD (resD M d) = true ∧ depD (resD M d) ≤ 100
theorem Cls.res {M : Mm} (I : Inv X pins σ H.h s) (m : MR X.K M H) {d : D} {v : V} {u : Value} (r : VR X.K H d v) (ru : RelV v u) (p : pureD (resD M d) = true) : Cls X H s (resD M d) v u := by
  cases d with
  | ref a =>
    cases r.ref_v
    cases ru
    cases e : lstOf M a with
    | none => simp [resD, e, pureD] at p
    | some xs =>
      obtain ⟨vs, h1, r1⟩ := m.ob a _ (of_lstOf e)
      obtain ⟨its, rv, ht⟩ := lst_at I (SqL.of h1)
      rw [show resD M (.ref a) = .lst xs by simp [resD, e]]
      exact .li h1 ht r1 rv
  | _ => exact Cls.of I r ru p
open PySem.SeqAt in
theorem rc_D {M : Mm} (I : Inv X pins σ H.h s) (m : MR X.K M H) {d e : D} {v w : V} {u t : Value} (rd : VR X.K H d v) (re : VR X.K H e w) (ru : RelV v u) (rt : RelV w t) (h : okD M d) (h' : okD M e) (hu : X.A.units + 150 < cLine) :
    RcAt X.A s u t (eqM M d e) ∧ RcNeAt X.A s u t (!eqM M d e) := by
  have hu0 : X.A.units < cLine := by omega
  obtain ⟨p1, p2⟩ := h
  obtain ⟨q1, q2⟩ := h'
  have c1 := Cls.res I m rd ru p1
  have c2 := Cls.res I m re rt q1
  unfold eqM
  generalize resD M d = d' at *
  generalize resD M e = e' at *
  cases c1 with
  | fl r1 f1 ru1 =>
    cases c2 with
    | fl r2 f2 rt2 => rw [flat_eqv r1 r2 f1 f2]; exact rcAt_V ru1 rt2 f1 f2
    | tu sb hb rb rv2 => rw [(flat_tup r1 f1).1]; have z := flat_cont ru1 f1 (.inl hb) hu0; exact ⟨z.2.1, z.2.2.1⟩
    | li sb hb rb rv2 => rw [(flat_tup r1 f1).2.1]; have z := flat_cont ru1 f1 (.inr hb) hu0; exact ⟨z.2.1, z.2.2.1⟩
  | @tu xs a vs its sa ha ra rv =>
    cases c2 with
    | fl r2 f2 rt2 => rw [(flat_tup r2 f2).2.2.1]; have z := flat_cont rt2 f2 (.inl ha) hu0; exact ⟨z.2.2.2.2.1, z.2.2.2.2.2⟩
    | @tu ys b ws its2 sb hb rb rv2 =>
      have hx : X.A.in1.units + depDs xs < cLine := by show X.A.units + 1 + depDs xs < cLine; simp only [depD] at p2; omega
      have k1 := RcAt.tuples (e := eqAtN xs ys) ha hb hu0 fun j h1 h2 => eqAts_D I xs ys vs ws its its2 X.A.in1 j ra rb rv rv2 (by simpa [pureD] using p1) (by simpa [pureD] using q1) hx h1 h2
      have k2 := RcNeAt.tuples (e := eqAtN xs ys) ha hb hu0 fun j h1 h2 => eqAts_D I xs ys vs ws its its2 X.A.in1 j ra rb rv rv2 (by simpa [pureD] using p1) (by simpa [pureD] using q1) hx h1 h2
      rw [List.size_toArray, List.size_toArray, ← rv.length, ← rv2.length, ← ra.length, ← rb.length, eqvDs_range] at k1 k2
      simp only [eqvD]
      exact ⟨k1, k2⟩
    | li sb hb rb rv2 => simp only [eqvD]; exact ⟨RcAt.tuple_list ha hb hu0, RcNeAt.tuple_list ha hb hu0⟩
  | @li xs a vs its sa ha ra rv =>
    cases c2 with
    | fl r2 f2 rt2 => rw [(flat_tup r2 f2).2.2.2]; have z := flat_cont rt2 f2 (.inr ha) hu0; exact ⟨z.2.2.2.2.1, z.2.2.2.2.2⟩
    | tu sb hb rb rv2 => simp only [eqvD]; exact ⟨RcAt.list_tuple ha hb hu0, RcNeAt.list_tuple ha hb hu0⟩
    | @li ys b ws its2 sb hb rb rv2 =>
      simp only [eqvD]
      have hx : X.A.in1.units + depDs xs < cLine := by show X.A.units + 1 + depDs xs < cLine; simp only [depD] at p2; omega
      by_cases hsz : xs.length = ys.length
      · have hs : its.toArray.size = its2.toArray.size := by rw [List.size_toArray, List.size_toArray, ← rv.length, ← rv2.length, ← ra.length, ← rb.length]; exact hsz
        have k1 := RcAt.lists (e := eqAtN xs ys) ha hb hs hu0 fun j h1 h2 => eqAts_D I xs ys vs ws its its2 X.A.in1 j ra rb rv rv2 (by simpa [pureD] using p1) (by simpa [pureD] using q1) hx h1 h2
        have k2 := RcNeAt.lists (e := eqAtN xs ys) ha hb hs hu0 fun j h1 h2 => eqAts_D I xs ys vs ws its its2 X.A.in1 j ra rb rv rv2 (by simpa [pureD] using p1) (by simpa [pureD] using q1) hx h1 h2
        rw [List.size_toArray, ← rv.length, ← ra.length, eqvDs_rangeL hsz] at k1 k2
        exact ⟨k1, k2⟩
      · have hs : (its.toArray.size != its2.toArray.size) = true := by
          rw [List.size_toArray, List.size_toArray, ← rv.length, ← rv2.length, ← ra.length, ← rb.length]
          simpa using hsz
        have e3 : eqvDs xs ys = false := by
          cases q : eqvDs xs ys with
          | false => rfl
          | true => exact absurd (eqvDs_len q) hsz
        rw [e3]
        exact ⟨RcAt.lists_lengths ha hb hs hu0, RcNeAt.lists_lengths ha hb hs hu0⟩
end
def OpD (X : Cx) (f : Value → Value → Sem Value) (dr : DR2) : Prop :=
  ∀ (pins : List (Addr × Obj)) (s : Shared) (σ : L2.St) (H : HF) (M : Mm) (d e : D) (x y : V) (v u : Value) (Q : DQ) (Q0 : VK), Inv X pins σ H.h s → MR X.K M H → VR X.K H d x → VR X.K H e y → RelV x v → RelV y u → dr d e M Q →
    (∀ v H' d M', VR X.K H' d v → MR X.K M' H' → GG M H M' H' → Q d M' → Q0 v H'.h) → wpAny (model X.prog X.w) X.A (f v u) (EP X pins σ Q0) X.xe s
def rOf (K : PySem.W.Frag) (dr : DR2) : R2 := fun x y H0 Q0 => ∃ (H : HF) (d e : D) (M : Mm) (Q : DQ), H0 = H.h ∧ MR K M H ∧ VR K H d x ∧ VR K H e y ∧ dr d e M Q ∧ ∀ v H' d M', VR K H' d v → MR K M' H' → GG M H M' H' → Q d M' → Q0 v H'.h
theorem OpD.opR {X : Cx} {f : Value → Value → Sem Value} {dr : DR2} (h : OpD X f dr) : OpR X f (rOf X.K dr) := by
  intro pins s σ H x y v u Q0 I rx ry q
  obtain ⟨H, d, e, M, Q, rfl, m, rd, re, hq, k⟩ := q
  exact h pins s σ H M d e x y v u Q Q0 I m rd re rx ry hq k
theorem lift_of {K : PySem.W.Frag} {dr : DR2} : Lift2 K (rOf K dr) dr := by
  intro x y dx dy H M Q Q0 rx ry m h k
  exact ⟨H, dx, dy, M, Q, rfl, m, rx, ry, h, k⟩
def eqR : DR2 := fun d e M Q => (okD M d ∧ okD M e) ∧ Q (.bl (eqM M d e)) M
def neR : DR2 := fun d e M Q => (okD M d ∧ okD M e) ∧ Q (.bl (!eqM M d e)) M
theorem op_eqT {X : Cx} (hu : X.A.units + 150 < cLine) : OpD X (compareOp .Eq) eqR := by
  intro pins s σ H M d e x y v u Q Q0 I m rd re rx ry hq k
  exact (rc_D I m rd re rx ry hq.1.1 hq.1.2 hu).1 X.prog X.w _ _ ⟨.bl _, H.h, I, rfl, k _ H _ M (.bl _) m GG.refl hq.2⟩
theorem op_neT {X : Cx} (hu : X.A.units + 150 < cLine) : OpD X (compareOp .NotEq) neR := by
  intro pins s σ H M d e x y v u Q Q0 I m rd re rx ry hq k
  exact (rc_D I m rd re rx ry hq.1.1 hq.1.2 hu).2 X.prog X.w _ _ ⟨.bl _, H.h, I, rfl, k _ H _ M (.bl _) m GG.refl hq.2⟩
theorem hu150 {A : Around} {k : Nat} (hr : Room k A) : A.units + 150 < cLine := by have := hr.un; omega
section
variable {X : Cx} {a b : Expr} {ta tb : TDE} {pos : Pos} {k : Nat}
theorem je_eq (hr : Room k X.A) (ha : JE X a ta) (hb : JE X b tb) : JE X (.Compare a [.Eq] [b] pos) (dOp eqR ta tb) := je_cmpR (op_eqT (hu150 hr)).opR lift_of ha hb (nomark _)
theorem je_ne (hr : Room k X.A) (ha : JE X a ta) (hb : JE X b tb) : JE X (.Compare a [.NotEq] [b] pos) (dOp neR ta tb) := je_cmpR (op_neT (hu150 hr)).opR lift_of ha hb (nomark _)
theorem jt_eq (hr : Room k X.A) (ha : JE X a ta) (hb : JE X b tb) : JT X (.Compare a [.Eq] [b] pos) (dTest (dOp eqR ta tb)) := jt_cmpR (op_eqT (hu150 hr)).opR lift_of ha hb (nomark _)
theorem jt_ne (hr : Room k X.A) (ha : JE X a ta) (hb : JE X b tb) : JT X (.Compare a [.NotEq] [b] pos) (dTest (dOp neR ta tb)) := jt_cmpR (op_neT (hu150 hr)).opR lift_of ha hb (nomark _)
abbrev ltR : DR2 := int0R fun i j => .bl (decide (i < j))
abbrev leR : DR2 := int0R fun i j => .bl (decide (i ≤ j))
abbrev gtR : DR2 := int0R fun i j => .bl (decide (j < i))
abbrev geR : DR2 := int0R fun i j => .bl (decide (j ≤ i))
theorem je_gt (ha : JE X a ta) (hb : JE X b tb) : JE X (.Compare a [.Gt] [b] pos) (dOp gtR ta tb) := je_cmpR op_gt (lift_int0 fun _ _ _ => .bl _) ha hb (nomark _)
theorem jt_lt (ha : JE X a ta) (hb : JE X b tb) : JT X (.Compare a [.Lt] [b] pos) (dTest (dOp ltR ta tb)) := jt_cmpR op_lt (lift_int0 fun _ _ _ => .bl _) ha hb (nomark _)
theorem jt_gt (ha : JE X a ta) (hb : JE X b tb) : JT X (.Compare a [.Gt] [b] pos) (dTest (dOp gtR ta tb)) := jt_cmpR op_gt (lift_int0 fun _ _ _ => .bl _) ha hb (nomark _)
theorem jt_ge (ha : JE X a ta) (hb : JE X b tb) : JT X (.Compare a [.GtE] [b] pos) (dTest (dOp geR ta tb)) := jt_cmpR op_ge (lift_int0 fun _ _ _ => .bl _) ha hb (nomark _)
end
end DM
namespace DM
open PySem L2
open PyProof.Rows (b2i)
def dChain (r r' : DR2) (ta tb tc : TDE) : TDE := fun ds M Q => ta ds M fun x M1 => tb ds M1 fun y M2 => r x y M2 fun z M3 => isB z fun k => if k = true then tc ds M3 fun w M4 => r' y w M4 Q else Q (.bl false) M3
section
variable {X : Cx} {a b c : Expr} {ta tb tc : TDE} {pos : Pos}
theorem chain_go {r r' : R2} {dr dr' : DR2} {ua ub uc : TE} (hl : Lift2 X.K r dr) (hl' : Lift2 X.K r' dr')
    (ga : ∀ (ds : DSt) (σ : L2.St) (H : HF) (M : Mm) (Q : DQ) (Q0 : VK), SR X.K H ds σ → MR X.K M H → ta ds M Q → (∀ v H' d M', VR X.K H' d v → MR X.K M' H' → GG M H M' H' → Q d M' → Q0 v H'.h) → ua σ H.h Q0)
    (gb : ∀ (ds : DSt) (σ : L2.St) (H : HF) (M : Mm) (Q : DQ) (Q0 : VK), SR X.K H ds σ → MR X.K M H → tb ds M Q → (∀ v H' d M', VR X.K H' d v → MR X.K M' H' → GG M H M' H' → Q d M' → Q0 v H'.h) → ub σ H.h Q0)
    (gc : ∀ (ds : DSt) (σ : L2.St) (H : HF) (M : Mm) (Q : DQ) (Q0 : VK), SR X.K H ds σ → MR X.K M H → tc ds M Q → (∀ v H' d M', VR X.K H' d v → MR X.K M' H' → GG M H M' H' → Q d M' → Q0 v H'.h) → uc σ H.h Q0)
    (ds : DSt) (σ : L2.St) (H : HF) (M : Mm) (Q : DQ) (Q0 : VK) (s : SR X.K H ds σ) (m : MR X.K M H) (q : dChain dr dr' ta tb tc ds M Q)
    (k : ∀ v H' d M', VR X.K H' d v → MR X.K M' H' → GG M H M' H' → Q d M' → Q0 v H'.h) : tChain r r' ua ub uc σ H.h Q0 := by
  refine ga ds σ H M _ _ s m q fun v H1 d M1 r1 m1 g1 q1 => ?_
  refine gb ds σ H1 M1 _ _ (s.gg m g1) m1 q1 fun u H2 e M2 r2 m2 g2 q2 => ?_
  refine hl v u d e H2 M2 _ _ (VR.mono (g2.tx m1) _ _ r1) r2 m2 q2 fun z H3 f M3 r3 m3 g3 q3 => ?_
  obtain ⟨j, e3, q3⟩ := isB_out r3 q3
  refine ⟨j, e3, ?_⟩
  cases j with
  | false => exact k _ H3 _ M3 (.bl false) m3 ((g1.trans g2).trans g3) q3
  | true =>
    refine gc ds σ H3 M3 _ _ (s.gg m ((g1.trans g2).trans g3)) m3 q3 fun w H4 f4 M4 r4 m4 g4 q4 => ?_
    exact hl' u w e f4 H4 M4 Q Q0 (VR.mono ((g3.trans g4).tx m2) _ _ r2) r4 m4 q4 fun w5 H5 f5 M5 r5 m5 g5 q5 => k w5 H5 f5 M5 r5 m5 ((((g1.trans g2).trans g3).trans g4).trans g5) q5
theorem jt_chain {op op' : CmpOp} {r r' : R2} {dr dr' : DR2} (ho : OpR X (compareOp op) r) (ho' : OpR X (compareOp op') r') (hl : Lift2 X.K r dr) (hl' : Lift2 X.K r' dr') (ha : JE X a ta) (hb : JE X b tb) (hc : JE X c tc)
    (hm : lastMarks [op, op'] [b, c] = false := by with_unfolding_all rfl) : JT X (.Compare a [op, op'] [b, c] pos) (dTest (dChain dr dr' ta tb tc)) := by
  obtain ⟨ua, pa, ga⟩ := ha
  obtain ⟨ub, pb, gb⟩ := hb
  obtain ⟨uc, pc, gc⟩ := hc
  refine ⟨_, pt_chain ho ho' pa pb pc hm, fun ds σ H M Q Q0 s m q k => ?_⟩
  refine chain_go hl hl' ga gb gc ds σ H M _ _ s m q fun v H' d M' r m' gg q' => ?_
  obtain ⟨b, e, q⟩ := isB_out r q'
  exact ⟨b, e, k b H' M' m' gg q⟩
theorem l_le {K : PySem.W.Frag} : Lift2 K (rI0 fun i j => .bl (decide (i ≤ j))) leR := lift_int0 fun _ _ _ => .bl _
end
def ixR : DR2 := fun x y M Q => match x, y with
  | .tup xs, .int i => (match atI xs i with | some d => Q d M | none => False)
  | .str z, .int i => z.length ≤ sizeLine ∧ (match atI z.cps.toList i with | some c => Q (.str ⟨#[c]⟩) M | none => False)
  | .ref a, .int i => (match lstOf M a with | some xs => (match atI xs i with | some d => Q d M | none => False) | none => False)
  | .lst xs, .int i => (match atI xs i with | some d => Q d M | none => False)
  | _, _ => False
theorem frz_new {K : PySem.W.Frag} {H : HF} {M : Mm} {p : Addr} {xs : List D} {vs : List V} (m : MR K M H) (hp : H.h p = none) (r : VRs K H xs vs) :
    VR K ((H.up p (.lst vs)).fz p) (.lst xs) (.ref p) ∧ MR K M ((H.up p (.lst vs)).fz p) ∧ GG M H M ((H.up p (.lst vs)).fz p) :=
  ⟨.lst upd_same (.inr rfl) (VRs.mono ((TX.new m hp).trans TX.fzz) _ _ r), (m.newT hp).fzz upd_same (m.free hp), (GG.newT hp).fzz hp⟩
theorem VRs.atI {K : PySem.W.Frag} {H : HF} {ds : List D} {vs : List V} (r : VRs K H ds vs) {i : Int} {d : D} (h : L2.atI ds i = some d) : ∃ v, L2.atI vs i = some v ∧ VR K H d v := by
  unfold L2.atI at h ⊢
  rw [r.length] at h
  cases e : ixN vs.length i with
  | none => rw [e] at h; cases h
  | some j =>
    rw [e] at h
    exact r.get h
theorem lift_ix {K : PySem.W.Frag} : Lift2 K (rIx K) ixR := by
  intro x y dx dy H M Q Q0 rx ry m h k
  cases dy with
  | int i =>
    cases ry.int_v
    cases dx with
    | tup xs =>
      obtain ⟨a, vs, rfl, sa, ra⟩ := rx.tup_v
      unfold ixR at h
      simp only at h
      split at h
      · rename_i d e
        obtain ⟨v, e', r'⟩ := ra.atI e
        exact .inr (.inl ⟨a, vs, i, v, rfl, rfl, sa, e', k v H d M r' m GG.refl h⟩)
      · exact h.elim
    | str z =>
      cases rx.str_v
      unfold ixR at h
      simp only at h
      obtain ⟨hz, h⟩ := h
      split at h
      · rename_i c e
        exact .inr (.inr ⟨z, i, c, rfl, rfl, hz, e, k _ H _ M (.str _) m GG.refl h⟩)
      · exact h.elim
    | ref a =>
      cases rx.ref_v
      unfold ixR at h
      simp only at h
      split at h
      · rename_i xs e
        split at h
        · rename_i d e'
          obtain ⟨vs, h1, r1⟩ := m.ob a _ (of_lstOf e)
          obtain ⟨v, e2, r2⟩ := r1.atI e'
          exact .inl ⟨a, vs, i, v, rfl, rfl, SqL.of h1, e2, k v H d M r2 m GG.refl h⟩
        · exact h.elim
      · exact h.elim
    | lst xs =>
      obtain ⟨a, vs, rfl, sa, _, ra⟩ := rx.lst_v
      unfold ixR at h
      simp only at h
      split at h
      · rename_i d e
        obtain ⟨v, e', r'⟩ := ra.atI e
        exact .inl ⟨a, vs, i, v, rfl, rfl, SqL.of sa, e', k v H d M r' m GG.refl h⟩
      · exact h.elim
    | _ => exact h.elim
  | _ => cases dx <;> exact h.elim
section
variable {X : Cx} {a b : Expr} {ta tb : TDE} {pos : Pos}
theorem je_ix (ha : JE X a ta) (hb : JE X b tb) (hs : PlainIx b := by exact fun _ _ => rfl) : JE X (.Subscript a b pos) (dOp ixR ta tb) := by
  obtain ⟨u, p, g⟩ := ha
  obtain ⟨u', p', g'⟩ := hb
  exact je_pe (pe_ix ix_seq p p' hs) (op2 lift_ix g g')
end
abbrev TDO := DSt → Mm → (Option Int → Mm → Prop) → Prop
structure JO (X : Cx) (e : Option Expr) (t : TDO) : Prop where
  go : ∃ t0, PO X e t0 ∧ ∀ (ds : DSt) (σ : L2.St) (H : HF) (M : Mm) (Q : Option Int → Mm → Prop) (Q0 : Option Int → Hp → Prop), SR X.K H ds σ → MR X.K M H → t ds M Q →
    (∀ o H' M', MR X.K M' H' → GG M H M' H' → Q o M' → Q0 o H'.h) → t0 σ H.h Q0
def dNoPart : TDO := fun _ M Q => Q none M
def isI (d : D) (Q : Int → Prop) : Prop := match d with | .int i => Q i | _ => False
theorem isI_out {K : PySem.W.Frag} {H : HF} {d : D} {v : V} {Q : Int → Prop} (r : VR K H d v) (q : isI d Q) : ∃ k, v = .int k ∧ Q k := by
  cases r with
  | int b => exact ⟨b, rfl, q⟩
  | _ => exact q.elim
def dPart (t : TDE) : TDO := fun ds M Q => t ds M fun x M1 => isI x fun i => Q (some i) M1
section
variable {X : Cx} {e : Expr} {te : TDE}
theorem jo_none : JO X none dNoPart := ⟨_, po_none, fun _ _ H M _ _ _ m q k => k none H M m GG.refl q⟩
theorem jo_some (h : JE X e te) : JO X (some e) (dPart te) := by
  obtain ⟨u, p, g⟩ := h
  refine ⟨_, po_some p, fun ds σ H M Q Q0 s m q k => ?_⟩
  refine g ds σ H M _ _ s m q fun v H' d M' r m' gg q' => ?_
  obtain ⟨b, e, q⟩ := isI_out r q'
  exact ⟨b, e, k _ H' M' m' gg q⟩
end
def cutL {α : Type} (xs : List α) (lo hi : Option Int) : List α := (xs.drop (HT.sIx xs.length 0 lo)).take (HT.sIx xs.length xs.length hi - HT.sIx xs.length 0 lo)
theorem VRs.cut {K : PySem.W.Frag} {H : HF} {ds : List D} {vs : List V} (r : VRs K H ds vs) (lo hi : Option Int) : VRs K H (cutL ds lo hi) (cutV vs lo hi) := by
  unfold cutL cutV
  rw [r.length]
  exact (r.drop _).take _
theorem cutL_whole {α : Type} {xs : List α} {lo hi : Option Int} (h : HT.sIx xs.length 0 lo = 0 ∧ HT.sIx xs.length xs.length hi = xs.length) : cutL xs lo hi = xs := by
  unfold cutL
  rw [h.1, h.2]
  simp
def slR (x : D) (lo hi : Option Int) (M : Mm) (Q : DQ) : Prop := match x with
  | .tup xs => Q (.tup (cutL xs lo hi)) M
  | .str z => z.length ≤ sizeLine ∧ Q (.str (cutS z lo hi)) M
  | x => (match rdL M x with | some xs => Q (.lst (cutL xs lo hi)) M | none => False)
def dSl (te : TDE) (tl th : TDO) : TDE := fun ds M Q => te ds M fun x M1 => tl ds M1 fun l M2 => th ds M2 fun u M3 => slR x l u M3 Q
section
variable {X : Cx} {e : Expr} {te : TDE} {tl th : TDO} {lo hi : Option Expr} {pos p2 : Pos}
def slT (K : PySem.W.Frag) : V → Option Int → Option Int → Hp → VK → Prop := fun x lo hi H Q => rSlC K x lo hi H Q ∨ rSlS x lo hi H Q ∨ rSlL K x lo hi H Q
theorem sl_all : SlR X (slT X.K) := sl_tupC.or (sl_str.or sl_list)
theorem lift_sl {K : PySem.W.Frag} (x : V) (dx : D) (lo hi : Option Int) (H : HF) (M : Mm) (Q : DQ) (Q0 : VK) (rx : VR K H dx x) (m : MR K M H) (h : slR dx lo hi M Q)
    (k : ∀ v H' d M', VR K H' d v → MR K M' H' → GG M H M' H' → Q d M' → Q0 v H'.h) : slT K x lo hi H.h Q0 := by
  cases dx with
  | tup xs =>
    obtain ⟨a, vs, rfl, sa, ra⟩ := rx.tup_v
    have q : Q (.tup (cutL xs lo hi)) M := h
    refine .inl ⟨a, vs, rfl, sa, fun hw => ?_, fun hw => ?_⟩
    · rw [← ra.length] at hw
      rw [cutL_whole hw] at q
      exact k _ H _ M rx m GG.refl q
    · exact new_tup m (ra.cut lo hi) q k
  | str z =>
    cases rx.str_v
    exact .inr (.inl ⟨z, rfl, h.1, k _ H _ M (.str _) m GG.refl h.2⟩)
  | ref a =>
    cases e : lstOf M a with
    | none => simp [slR, e] at h
    | some xs =>
      have q : Q (.lst (cutL xs lo hi)) M := by simpa [slR, e] using h
      obtain ⟨a, vs, rfl, h1, r1⟩ := rdL_v m rx (show rdL M (.ref a) = some xs from e)
      refine .inr (.inr ⟨a, vs, rfl, SqL.of h1, fun p hp => ?_⟩)
      obtain ⟨z1, z2, z3⟩ := frz_new m hp (r1.cut lo hi)
      exact k _ _ _ _ z1 z2 z3 q
  | lst xs =>
    have q : Q (.lst (cutL xs lo hi)) M := h
    obtain ⟨a, vs, rfl, h1, r1⟩ := rdL_v m rx (show rdL M (.lst xs) = some xs from rfl)
    refine .inr (.inr ⟨a, vs, rfl, SqL.of h1, fun p hp => ?_⟩)
    obtain ⟨z1, z2, z3⟩ := frz_new m hp (r1.cut lo hi)
    exact k _ _ _ _ z1 z2 z3 q
  | _ => exact h.elim
theorem je_slice (he : JE X e te) (hl : JO X lo tl) (hu : JO X hi th) : JE X (.Subscript e (.Slice lo hi none p2) pos) (dSl te tl th) := by
  obtain ⟨u, p, g⟩ := he
  obtain ⟨u1, p1, g1⟩ := hl
  obtain ⟨u2, p2, g2⟩ := hu
  refine je_pe (pe_slice sl_all p p1 p2) fun ds σ H M Q Q0 s m q k => ?_
  refine g ds σ H M _ _ s m q fun v H1 d M1 r1 m1 gg1 q1 => ?_
  refine g1 ds σ H1 M1 _ _ (s.gg m gg1) m1 q1 fun l H2 M2 m2 gg2 q2 => ?_
  refine g2 ds σ H2 M2 _ _ (s.gg m (gg1.trans gg2)) m2 q2 fun u H3 M3 m3 gg3 q3 => ?_
  exact lift_sl v d l u H3 M3 Q Q0 (VR.mono ((gg2.trans gg3).tx m1) _ _ r1) m3 q3 fun w H4 f M4 r4 m4 gg4 q4 => k w H4 f M4 r4 m4 (((gg1.trans gg2).trans gg3).trans gg4) q4
end
end DM
namespace DM
open PySem L2
open PyProof.Rows (b2i)
abbrev TDG := D → DSt → Mm → (DSt → Mm → Prop) → Prop
abbrev TDGs := List D → DSt → Mm → (DSt → Mm → Prop) → Prop
structure JG (X : Cx) (target : Expr) (t : TDG) : Prop where
  go : ∃ t0, PG X target t0 ∧ ∀ (d : D) (v : V) (ds : DSt) (σ : L2.St) (H : HF) (M : Mm) (Q : DSt → Mm → Prop) (Q0 : L2.St → Hp → Prop), VR X.K H d v → SR X.K H ds σ → MR X.K M H → t d ds M Q →
    (∀ ds' σ' H' M', SR X.K H' ds' σ' → MR X.K M' H' → GG M H M' H' → Q ds' M' → Q0 σ' H'.h) → t0 v σ H.h Q0
structure JGs (X : Cx) (ts : List Expr) (t : TDGs) : Prop where
  go : ∃ t0, PGs X ts t0 ∧ ∀ (es : List D) (vs : List V) (ds : DSt) (σ : L2.St) (H : HF) (M : Mm) (Q : DSt → Mm → Prop) (Q0 : L2.St → Hp → Prop), VRs X.K H es vs → SR X.K H ds σ → MR X.K M H → t es ds M Q →
    (∀ ds' σ' H' M', SR X.K H' ds' σ' → MR X.K M' H' → GG M H M' H' → Q ds' M' → Q0 σ' H'.h) → t0 vs σ H.h Q0
def dgName (i : Nat) : TDG := fun d ds M Q => Q (ds.set i (some d)) M
def dgNil : TDGs := fun es ds M Q => match es with | [] => Q ds M | _ => False
def dgCons (t : TDG) (u : TDGs) : TDGs := fun es ds M Q => match es with | d :: r => t d ds M fun ds' M' => u r ds' M' Q | [] => False
def dgTup (n : Nat) (t : TDGs) : TDG := fun d ds M Q => match d with | .tup xs => xs.length = n ∧ t xs ds M Q | .lst xs => xs.length = n ∧ t xs ds M Q | _ => False
section
variable {X : Cx} {pos : Pos}
theorem jg_name {i : Nat} {x : Str} (hN : X.N.Nodup) (hi : X.N[i]? = some x := by rfl) (hx : Loc X.env.scope x := by first | exact Or.inl rfl | exact Or.inr rfl) (hf : X.fn x = true ∨ X.env.scope.names.lookup x = some .local := by first | exact .inl rfl | exact .inr rfl | assumption) : JG X (.Name x pos) (dgName i) :=
  ⟨_, pg_name hN hi hx hf, fun d v ds σ H M Q Q0 r s m q k => k _ _ H M (s.set r i) m GG.refl q⟩
theorem jgs_nil : JGs X [] dgNil := ⟨_, pgs_nil, fun es vs ds σ H M Q Q0 r s m q k => by
  cases r with
  | nil => exact ⟨rfl, k ds σ H M s m GG.refl q⟩
  | cons _ _ => exact q.elim⟩
theorem jgs_cons {e : Expr} {es : List Expr} {t : TDG} {u : TDGs} (h1 : JG X e t) (h2 : JGs X es u)
    (hs : (assignEach (e :: es) X.env).map (·.2) = assign e X.env :: (assignEach es X.env).map (·.2) := by rfl) : JGs X (e :: es) (dgCons t u) := by
  obtain ⟨t0, p, g⟩ := h1
  obtain ⟨u0, p', g'⟩ := h2
  refine ⟨_, pgs_cons p p' hs, fun es vs ds σ H M Q Q0 r s m q k => ?_⟩
  cases r with
  | nil => exact q.elim
  | cons r1 r2 =>
    refine ⟨_, _, rfl, ?_⟩
    refine g _ _ ds σ H M _ _ r1 s m q fun ds' σ' H' M' s' m' gg q' => ?_
    exact g' _ _ ds' σ' H' M' _ _ (VRs.mono (gg.tx m) _ _ r2) s' m' q' fun ds2 σ2 H2 M2 s2 m2 gg2 q2 => k ds2 σ2 H2 M2 s2 m2 (gg.trans gg2) q2
theorem pg_any {es : List Expr} {k : Nat} {t : TGs} {n : Nat} (hc : X.calm = true) (h : PGs X es t)
    (hn : (assignEach es X.env).length = n := by rfl) (hst : (assignEach es X.env).findIdx? (·.1) = none := by rfl) : PG X (.Tuple es k pos) (fun v σ H Q => gTup X.K n t v σ H Q ∨ gLst X.K n t v σ H Q) :=
  ⟨fun pins s σ H v u Q I r hw => hw.elim ((pg_tup hc h hn hst).run pins s σ H v u Q I r) ((pg_lst hc h hn hst).run pins s σ H v u Q I r)⟩
theorem jg_tup {es : List Expr} {k : Nat} {t : TDGs} {n : Nat} (hc : X.calm = true) (h : JGs X es t)
    (hn : (assignEach es X.env).length = n := by rfl) (hst : (assignEach es X.env).findIdx? (·.1) = none := by rfl) : JG X (.Tuple es k pos) (dgTup n t) := by
  obtain ⟨t0, p, g⟩ := h
  refine ⟨_, pg_any hc p hn hst, fun d v ds σ H M Q Q0 r s m q k => ?_⟩
  cases d with
  | tup xs =>
    obtain ⟨a, vs, rfl, sa, ra⟩ := r.tup_v
    obtain ⟨hl, q⟩ := q
    exact .inl ⟨a, vs, rfl, sa, by rw [← ra.length]; exact hl, g xs vs ds σ H M Q Q0 ra s m q k⟩
  | lst xs =>
    obtain ⟨a, vs, rfl, sa, _, ra⟩ := r.lst_v
    obtain ⟨hl, q⟩ := q
    exact .inr ⟨a, vs, rfl, SqL.of sa, by rw [← ra.length]; exact hl, g xs vs ds σ H M Q Q0 ra s m q k⟩
  | _ => exact q.elim
end
abbrev TDL := DSt → Mm → (List D → Mm → Prop) → Prop
structure JL (X : Cx) (e : Expr) (t : TDL) : Prop where
  go : ∃ t0, PE X e t0 ∧ ∀ (ds : DSt) (σ : L2.St) (H : HF) (M : Mm) (Q : List D → Mm → Prop) (Q0 : VK), SR X.K H ds σ → MR X.K M H → t ds M Q →
    (∀ p H' xs vs M', H.h p = none → H'.h p = some (.lst vs) → VRs X.K H' xs vs → M' p = none → ¬H'.F p → MR X.K M' H' → GG M H M' H' → Q xs M' → Q0 (.ref p) H'.h) → t0 σ H.h Q0
def dFresh (t : TDL) : TDE := fun ds M Q => t ds M fun xs M1 => ∀ p, M1 p = none → Q (.ref p) (mup M1 p (.lst xs))
def dFrz (t : TDL) : TDE := fun ds M Q => t ds M fun xs M1 => Q (.lst xs) M1
section
variable {X : Cx} {e : Expr} {t : TDL}
theorem je_fresh (h : JL X e t) : JE X e (dFresh t) := by
  obtain ⟨u, p, g⟩ := h
  refine je_pe p fun ds σ H M Q Q0 s m q k => ?_
  refine g ds σ H M _ _ s m q fun p H' xs vs M' hp hp' r n nf m' gg q' => ?_
  exact k _ H' _ _ (.ref p) (m'.known (w := .lst xs) ⟨vs, hp', r⟩ nf) (gg.known hp) (q' p n)
theorem je_frz (h : JL X e t) : JE X e (dFrz t) := by
  obtain ⟨u, p, g⟩ := h
  refine je_pe p fun ds σ H M Q Q0 s m q k => ?_
  refine g ds σ H M _ _ s m q fun p H' xs vs M' hp hp' r n nf m' gg q' => ?_
  exact k _ (H'.fz p) _ _ (.lst hp' (.inr rfl) (VRs.mono TX.fzz _ _ r)) (m'.fzz hp' n) (gg.fzz hp) q'
def dDisp (t : TDA) : TDL := fun ds M Q => t ds M fun xs M1 => xs.length ≤ sizeLine ∧ Q xs M1
theorem jl_disp {es : List Expr} {pos : Pos} {t : TDA} (h : JA X es t) : JL X (.List es pos) (dDisp t) := by
  obtain ⟨t0, p, g⟩ := h
  refine ⟨_, pe_lst p, fun ds σ H M Q Q0 s m q k => ?_⟩
  refine g ds σ H M _ _ s m q fun vs H1 es M1 r1 m1 g1 q1 => ⟨by rw [← r1.length]; exact q1.1, fun a ha => ?_⟩
  have hH : H.h a = none := g1.free ha
  exact k a (H1.up a _) _ vs M1 hH upd_same (VRs.mono (TX.new m1 ha) _ _ r1) (m1.free ha) (m1.freeF ha) (m1.newT ha) (g1.trans (GG.newT ha)) q1.2
end
structure DIt where
  xs : List D
  ok : Mm → Prop := fun _ => True
structure ItOk (K : PySem.W.Frag) (J : It) (it : DIt) (M1 : Mm) (H1 : HF) : Prop where
  go : ∀ (i : Nat) (d : D) (M : Mm) (H : HF), GG M1 H1 M H → MR K M H → it.ok M → it.xs[i]? = some d → J.go i H.h
  yld : ∀ (i : Nat) (d : D) (M : Mm) (H : HF) (x : V) (h' : Hp), GG M1 H1 M H → MR K M H → it.ok M → it.xs[i]? = some d → J.yld i H.h x h' → ∃ H' : HF, H'.h = h' ∧ VR K H' d x ∧ MR K M H' ∧ GG M H M H'
  stop : ∀ (M : Mm) (H : HF), GG M1 H1 M H → MR K M H → it.ok M → J.stop it.xs.length H.h
abbrev TDI := DSt → Mm → (DIt → Mm → Prop) → Prop
structure JI (X : Cx) (tg iter : Expr) (t : TDI) : Prop where
  go : ∃ wi, PI X tg iter wi ∧ ∀ (ds : DSt) (σ : L2.St) (H : HF) (M : Mm) (Q : DIt → Mm → Prop) (R0 : It → Hp → Prop), SR X.K H ds σ → MR X.K M H → t ds M Q →
    (∀ J H' it M', ItOk X.K J it M' H' → MR X.K M' H' → GG M H M' H' → Q it M' → R0 J H'.h) → wi σ H.h R0
section
variable {K : PySem.W.Frag} {M M' : Mm} {H H' : HF}
theorem it_lst {a : Addr} {xs : List D} : ItOk K (Itl K a) ⟨xs, fun M => lstOf M a = some xs⟩ M H where
  go := fun i d M2 H2 g m ok e => by
    obtain ⟨vs, h1, r1⟩ := m.ob a _ (of_lstOf ok)
    obtain ⟨v, e1, _⟩ := r1.get e
    exact ⟨vs, v, SqL.of h1, e1⟩
  yld := fun i d M2 H2 x H3 g m ok e y => by
    obtain ⟨vs, h1, r1⟩ := m.ob a _ (of_lstOf ok)
    obtain ⟨v, e1, r⟩ := r1.get e
    obtain ⟨eH, y⟩ := y
    subst eH
    have := y vs (SqL.of h1)
    rw [e1] at this
    cases this
    exact ⟨H2, rfl, r, m, GG.refl⟩
  stop := fun M2 H2 g m ok => by
    obtain ⟨vs, h1, r1⟩ := m.ob a _ (of_lstOf ok)
    exact ⟨vs, SqL.of h1, by rw [← r1.length]; exact Nat.le_refl _⟩
theorem it_own {a : Addr} {xs : List D} {vs : List V} (h1 : H.h a = some (.lst vs)) (r1 : VRs K H xs vs) (n : M a = none) (m0 : MR K M H) : ItOk K (Itl K a) ⟨xs, fun _ => True⟩ M H where
  go := fun i d M2 H2 g m _ e => by
    obtain ⟨v, e1, _⟩ := r1.get e
    exact ⟨vs, v, SqL.of (g.fr a _ h1 n).1, e1⟩
  yld := fun i d M2 H2 x H3 g m _ e y => by
    obtain ⟨v, e1, r⟩ := r1.get e
    obtain ⟨eH, y⟩ := y
    subst eH
    have := y vs (SqL.of (g.fr a _ h1 n).1)
    rw [e1] at this
    cases this
    exact ⟨H2, rfl, VR.mono (g.tx m0) _ _ r, m, GG.refl⟩
  stop := fun M2 H2 g m _ => ⟨vs, SqL.of (g.fr a _ h1 n).1, by rw [← r1.length]; exact Nat.le_refl _⟩
theorem it_tup {a : Addr} {xs : List D} {vs : List V} (h1 : SqT K H.h a vs) (r1 : VRs K H xs vs) (m0 : MR K M H) : ItOk K (Itt K a) ⟨xs, fun _ => True⟩ M H where
  go := fun i d M2 H2 g m _ e => by
    obtain ⟨v, e1, _⟩ := r1.get e
    exact ⟨vs, v, (g.tx m0).tu _ _ h1, e1⟩
  yld := fun i d M2 H2 x H3 g m _ e y => by
    obtain ⟨v, e1, r⟩ := r1.get e
    obtain ⟨eH, y⟩ := y
    subst eH
    have := y vs ((g.tx m0).tu _ _ h1)
    rw [e1] at this
    cases this
    exact ⟨H2, rfl, VR.mono (g.tx m0) _ _ r, m, GG.refl⟩
  stop := fun M2 H2 g m _ => ⟨vs, (g.tx m0).tu _ _ h1, by rw [← r1.length]; exact Nat.le_refl _⟩
def rangeD (lo : Int) (n : Nat) : List D := (List.range n).map fun (i : Nat) => D.int (lo + (i : Int))
theorem rangeD_get {lo : Int} {n i : Nat} {d : D} (h : (rangeD lo n)[i]? = some d) : i < n ∧ d = .int (lo + (i : Int)) := by
  unfold rangeD at h
  rw [List.getElem?_map] at h
  obtain ⟨j, h1, h2⟩ := Option.map_eq_some_iff.mp h
  rw [List.getElem?_range (by
    rcases Nat.lt_or_ge i n with q | q
    · exact q
    · rw [List.getElem?_eq_none (by simpa using q)] at h1; cases h1)] at h1
  cases h1
  refine ⟨?_, h2.symm⟩
  rcases Nat.lt_or_ge i n with q | q
  · exact q
  · rw [List.getElem?_eq_none (by simpa using q)] at h
    cases h
theorem it_rng {lo : Int} {n : Nat} : ItOk K (Itr lo n) ⟨rangeD lo n, fun _ => True⟩ M H where
  go := fun i d M2 H2 g m _ e => (rangeD_get e).1
  yld := fun i d M2 H2 x H3 g m _ e y => by
    obtain ⟨eH, y⟩ := y
    subst eH
    subst y
    rw [(rangeD_get e).2]
    exact ⟨H2, rfl, .int _, m, GG.refl⟩
  stop := fun M2 H2 g m _ => by
    show n ≤ (rangeD lo n).length
    simp [rangeD]
def signs (z : Str) : List D := z.cps.toList.map fun c => .str ⟨#[c]⟩
theorem it_str {z : Str} : ItOk K (Its z) ⟨signs z, fun _ => True⟩ M H where
  go := fun i d M2 H2 g m _ e => by
    unfold signs at e
    rw [List.getElem?_map] at e
    obtain ⟨c, h1, _⟩ := Option.map_eq_some_iff.mp e
    have := (List.getElem?_eq_some_iff.mp h1).1
    show i < z.cps.size
    simpa using this
  yld := fun i d M2 H2 x H3 g m _ e y => by
    obtain ⟨eH, c, y1, y2⟩ := y
    subst eH
    subst y2
    unfold signs at e
    rw [List.getElem?_map] at e
    obtain ⟨c', h1, h2⟩ := Option.map_eq_some_iff.mp e
    rw [Array.getElem?_toList, y1] at h1
    cases h1
    subst h2
    exact ⟨H2, rfl, .str _, m, GG.refl⟩
  stop := fun M2 H2 g m _ => by
    show z.cps.size ≤ (signs z).length
    simp [signs]
end
def inLine (i : Int) : Prop := -(2 ^ 62) ≤ i ∧ i < 2 ^ 62
def diRng1 (te : TDE) : TDI := fun ds M Q => te ds M fun x M1 => isI x fun j => inLine j ∧ Q ⟨rangeD 0 j.toNat, fun _ => True⟩ M1
section
variable {X : Cx} {tg e : Expr} {te : TDE}
theorem ji_rng1 {p pos : Pos} (hg : Gl X "range") (hm : X.mg "range" = none) (h : JE X e te) (hs : starEach [e] X.env = [(false, eval e X.env)] := by rfl) (hs' : starEach (e :: []) X.env = (false, eval e X.env) :: starEach [] X.env := by rfl) :
    JI X tg (.Call (.Name "range" p) [e] [] pos) (diRng1 te) := by
  obtain ⟨u, q, g⟩ := h
  refine ⟨_, pi_range1 hg hm (pa_cons q pa_nil hs') hs, fun ds σ H M Q R0 s m q k => ?_⟩
  refine g ds σ H M _ _ s m q fun v H1 d M1 r1 m1 g1 q1 => ?_
  obtain ⟨j, rfl, ⟨l1, l2⟩, q1⟩ := isI_out r1 q1
  exact ⟨j, rfl, l1, l2, k _ H1 _ M1 it_rng m1 g1 q1⟩
end
def dNext : TDS := fun D ds M => D.nx ds M
def dSeq (t u : TDS) : TDS := fun D ds M => t { D with nx := u D } ds M
def dDrop (te : TDE) : TDS := fun D ds M => te ds M fun _ M1 => D.nx ds M1
def dRet (te : TDE) : TDS := fun D ds M => te ds M D.rt
def dIfS (c : TDT) (t u : TDS) : TDS := fun D ds M => c ds M fun b M1 => if b = true then t D ds M1 else u D ds M1
def dAsg (te : TDE) (g : TDG) : TDS := fun D ds M => te ds M fun x M1 => g x ds M1 D.nx
def forW (ok : Mm → Prop) (g : TDG) (tb : TDS) (D : DEnds) : List DM.D → DSt → Mm → Prop
  | [], ds, M => ok M ∧ D.nx ds M
  | x :: r, ds, M => ok M ∧ g x ds M fun ds' M' => tb { D with nx := forW ok g tb D r, ct := forW ok g tb D r, bk := D.nx } ds' M'
def dFor (ti : TDI) (g : TDG) (tb : TDS) : TDS := fun D ds M => ti ds M fun it M1 => forW it.ok g tb D it.xs ds M1
def whileN (c : TDT) (tb : TDS) (D : DEnds) : Nat → DSt → Mm → Prop
  | 0, _, _ => False
  | n + 1, ds, M => c ds M fun b M1 => if b = true then tb { D with nx := whileN c tb D n, ct := whileN c tb D n, bk := D.nx } ds M1 else D.nx ds M1
def dWhile (c : TDT) (tb : TDS) : TDS := fun D ds M => ∃ n, whileN c tb D n ds M
section
variable {X : Cx} {W : WX} {st : Stmt} {rest : List Stmt} {t u : TDS} {e : Expr} {te : TDE} {pos : Pos}
theorem Link.with_nx {K : PySem.W.Frag} {W : WX} {M0 : Mm} {H0 : HF} {D0 : Ends} {D1 : DEnds} (l : Link K W M0 H0 D0 D1) {n0 : L2.St → Hp → Prop} {n1 : DSt → Mm → Prop}
    (h : ∀ σ ds H M, GG M0 H0 M H → SR K H ds σ → MR K M H → n1 ds M → n0 σ H.h) : Link K W M0 H0 { D0 with nx := n0 } { D1 with nx := n1 } := ⟨h, l.rt, l.bk, l.ct, l.xc⟩
theorem jb_nil : JB X W [] dNext := ⟨_, pss_nil, fun M0 H0 D0 D1 l ds σ H M g s m q => l.nx σ ds H M g s m q⟩
theorem jb_cons (h1 : JS X W st t) (h2 : JB X W rest u) : JB X W (st :: rest) (dSeq t u) := by
  obtain ⟨t0, p, g⟩ := h1
  obtain ⟨u0, p', g'⟩ := h2
  refine ⟨_, pss_cons p p', fun M0 H0 D0 D1 l ds σ H M gg s m q => ?_⟩
  exact g M0 H0 _ _ (l.with_nx fun σ' ds' H' M' g1 s1 m1 q1 => g' M0 H0 D0 D1 l ds' σ' H' M' g1 s1 m1 q1) ds σ H M gg s m q
theorem jb_one (h1 : JS X W st t) : JB X W [st] t := by
  obtain ⟨t0, p, g⟩ := h1
  exact ⟨_, pss_one p, g⟩
theorem js_expr (he : JE X e te) (hs : swapsWith e none pos.line X.env = pure false := by rfl) : JS X W (.Expr e pos) (dDrop te) := by
  obtain ⟨t0, p, g⟩ := he
  refine ⟨_, ps_expr p hs, fun M0 H0 D0 D1 l ds σ H M gg s m q => ?_⟩
  exact g ds σ H M _ _ s m q fun v H1 d M1 r1 m1 g1 q1 => l.nx σ ds H1 M1 (gg.trans g1) (s.gg m g1) m1 q1
theorem js_ret (he : JE X e te) : JS X W (.Return (some e) pos) (dRet te) := by
  obtain ⟨t0, p, g⟩ := he
  refine ⟨_, ps_ret p, fun M0 H0 D0 D1 l ds σ H M gg s m q => ?_⟩
  exact g ds σ H M _ _ s m q fun v H1 d M1 r1 m1 g1 q1 => l.rt v d H1 M1 (gg.trans g1) r1 m1 q1
theorem js_if {c : Expr} {a b : List Stmt} {tc : TDT} (hc : JT X c tc) (ha : JB X W a t) (hb : JB X W b u) : JS X W (.If c a b pos) (dIfS tc t u) := by
  obtain ⟨t0, p, g⟩ := hc
  obtain ⟨t1, p1, g1⟩ := ha
  obtain ⟨t2, p2, g2⟩ := hb
  refine ⟨_, ps_if p p1 p2, fun M0 H0 D0 D1 l ds σ H M gg s m q => ?_⟩
  refine g ds σ H M _ _ s m q fun b H1 M1 m1 gg1 q1 => ?_
  cases b with
  | true => exact g1 M0 H0 D0 D1 l ds σ H1 M1 (gg.trans gg1) (s.gg m gg1) m1 q1
  | false => exact g2 M0 H0 D0 D1 l ds σ H1 M1 (gg.trans gg1) (s.gg m gg1) m1 q1
theorem js_asg {tg : Expr} {g : TDG} (he : JE X e te) (hg : JG X tg g) (hs : swapsWithSole [tg] e pos.line X.env = pure false := by rfl) (hw : swappedStores [tg] e X.env = pure none := by rfl)
    (h1 : (assignEach [tg] X.env).map (·.2) = [assign tg X.env] := by rfl) : JS X W (.Assign [tg] e pos) (dAsg te g) := by
  obtain ⟨t0, p, ge⟩ := he
  obtain ⟨g0, p', gg'⟩ := hg
  refine ⟨_, ps_asg p p' hs hw h1, fun M0 H0 D0 D1 l ds σ H M gg s m q => ?_⟩
  refine ge ds σ H M _ _ s m q fun v H1 d M1 r1 m1 g1 q1 => ?_
  exact gg' d v ds σ H1 M1 _ _ r1 (s.gg m g1) m1 q1 fun ds' σ' H' M' s' m' g2 q2 => l.nx σ' ds' H' M' ((gg.trans g1).trans g2) s' m' q2
theorem js_set {i : Nat} {x : Str} {pos' : Pos} (hN : X.N.Nodup) (he : JE X e te) (hi : X.N[i]? = some x := by rfl) (hx : Loc X.env.scope x := by first | exact Or.inl rfl | exact Or.inr rfl) (hs : swapsWith e (some (.Name x pos')) pos.line X.env = pure false := by rfl) (hf : X.fn x = true ∨ X.env.scope.names.lookup x = some .local := by first | exact .inl rfl | exact .inr rfl | assumption) :
    JS X W (.Assign [.Name x pos'] e pos) (dAsg te (dgName i)) := by
  obtain ⟨t0, p, ge⟩ := he
  refine ⟨_, ps_set hN hi hx p hs hf, fun M0 H0 D0 D1 l ds σ H M gg s m q => ?_⟩
  refine ge ds σ H M _ _ s m q fun v H1 d M1 r1 m1 g1 q1 => ?_
  exact l.nx _ _ H1 M1 (gg.trans g1) ((s.gg m g1).set r1 i) m1 q1
theorem js_for {tg iter : Expr} {body : List Stmt} {ti : TDI} {g : TDG} {tb : TDS} (hp : PassesOwn (model X.prog X.w) X.A X.env X.xe) (hc : X.calm = true) (hi : JI X tg iter ti) (hg : JG X tg g) (hb : JB X W body tb)
    (hs : ∀ x, foldedSetIterable iter X.env x = pure x := by intro _; rfl) : JS X W (.For tg iter body [] pos) (dFor ti g tb) := by
  obtain ⟨wi, p, gi⟩ := hi
  obtain ⟨g0, pg, gg⟩ := hg
  obtain ⟨b0, pb, gb⟩ := hb
  refine ⟨_, ps_for hp hc p pg pb hs, fun M0 H0 D0 D1 l ds σ H M gg0 s m q => ?_⟩
  refine gi ds σ H M _ _ s m q fun J H1 it M1 io m1 g1 q1 => ?_
  refine ⟨fun i n σ2 h2 => n = it.xs.length - i ∧ i ≤ it.xs.length ∧ ∃ ds2 M2 H2, h2 = H2.h ∧ GG M1 H1 M2 H2 ∧ GG M0 H0 M2 H2 ∧ SR X.K H2 ds2 σ2 ∧ MR X.K M2 H2 ∧ forW it.ok g tb D1 (it.xs.drop i) ds2 M2,
    ⟨_, rfl, Nat.zero_le _, ds, M1, H1, rfl, GG.refl, gg0.trans g1, s.gg m g1, m1, by simpa using q1⟩, ?_⟩
  rintro i n σ2 h2 ⟨rfl, hi, ds2, M2, H2, rfl, ga, gb2, s2, m2, q2⟩
  by_cases hlt : i < it.xs.length
  · have e : it.xs.drop i = it.xs[i] :: it.xs.drop (i + 1) := List.drop_eq_getElem_cons hlt
    rw [e] at q2
    obtain ⟨ok, q2⟩ := q2
    have ei : it.xs[i]? = some it.xs[i] := List.getElem?_eq_getElem hlt
    refine .inr ⟨io.go i _ M2 H2 ga m2 ok ei, fun σ' h' => i + 1 ≤ it.xs.length ∧ ∃ ds' M' H', h' = H'.h ∧ GG M1 H1 M' H' ∧ GG M0 H0 M' H' ∧ SR X.K H' ds' σ' ∧ MR X.K M' H' ∧ forW it.ok g tb D1 (it.xs.drop (i + 1)) ds' M',
      fun σ' H' h => ⟨it.xs.length - (i + 1), by omega, rfl, h.1, h.2⟩, fun x h' y => ?_⟩
    obtain ⟨H', rfl, r', m', g'⟩ := io.yld i _ M2 H2 x h' ga m2 ok ei y
    refine gg _ x ds2 σ2 H' M2 _ _ r' (s2.gg m2 g') m' q2 fun ds3 σ3 H3 M3 s3 m3 g3 q3 => ?_
    -- the body, seen from the loop's start
    have G1 : GG M1 H1 M3 H3 := (ga.trans g').trans g3
    have G0 : GG M0 H0 M3 H3 := (gb2.trans g').trans g3
    refine gb M3 H3 _ _ ⟨?_, ?_, ?_, ?_, ?_⟩ ds3 σ3 H3 M3 GG.refl s3 m3 q3
    · exact fun σ4 ds4 H4 M4 g4 s4 m4 q4 => ⟨hlt, ds4, M4, H4, rfl, G1.trans g4, G0.trans g4, s4, m4, q4⟩
    · exact fun v d H4 M4 g4 r4 m4 q4 => l.rt v d H4 M4 (G0.trans g4) r4 m4 q4
    · exact fun σ4 ds4 H4 M4 g4 s4 m4 q4 => l.nx σ4 ds4 H4 M4 (G0.trans g4) s4 m4 q4
    · exact fun σ4 ds4 H4 M4 g4 s4 m4 q4 => ⟨hlt, ds4, M4, H4, rfl, G1.trans g4, G0.trans g4, s4, m4, q4⟩
    · exact fun C od σ4 ds4 fs H4 M4 f4 g4 s4 x4 m4 q4 => l.xc C od σ4 ds4 fs H4 M4 (fun dd e => G0.free (f4 dd e)) (G0.trans g4) s4 x4 m4 q4
  · have e : i = it.xs.length := by omega
    subst e
    rw [List.drop_length] at q2
    exact .inl ⟨io.stop M2 H2 ga m2 q2.1, l.nx σ2 ds2 H2 M2 gb2 s2 m2 q2.2⟩
theorem js_while {c : Expr} {body : List Stmt} {tc : TDT} {tb : TDS} (hp : PassesOwn (model X.prog X.w) X.A X.env X.xe) (hc : JT X c tc) (hb : JB X W body tb) : JS X W (.While c body [] pos) (dWhile tc tb) := by
  obtain ⟨c0, pc, gc⟩ := hc
  obtain ⟨b0, pb, gb⟩ := hb
  refine ⟨_, ps_while hp pc pb, fun M0 H0 D0 D1 l ds σ H M gg0 s m q => ?_⟩
  obtain ⟨n0, q⟩ := q
  refine ⟨fun n σ2 h2 => ∃ ds2 M2 H2, h2 = H2.h ∧ GG M0 H0 M2 H2 ∧ SR X.K H2 ds2 σ2 ∧ MR X.K M2 H2 ∧ whileN tc tb D1 n ds2 M2, ⟨n0, ds, M, H, rfl, gg0, s, m, q⟩, ?_⟩
  rintro n σ2 h2 ⟨ds2, M2, H2, rfl, g2, s2, m2, q2⟩
  cases n with
  | zero => exact q2.elim
  | succ n =>
    refine gc ds2 σ2 H2 M2 _ _ s2 m2 q2 fun b H3 M3 m3 g3 q3 => ?_
    cases b with
    | false => exact l.nx σ2 ds2 H3 M3 (g2.trans g3) (s2.gg m2 g3) m3 q3
    | true =>
      refine ⟨fun σ' h' => ∃ ds' M' H', h' = H'.h ∧ GG M0 H0 M' H' ∧ SR X.K H' ds' σ' ∧ MR X.K M' H' ∧ whileN tc tb D1 n ds' M', fun σ' H' h => ⟨n, Nat.lt_succ_self _, h⟩, ?_⟩
      refine gb M0 H0 _ _ ⟨?_, ?_, ?_, ?_, ?_⟩ ds2 σ2 H3 M3 (g2.trans g3) (s2.gg m2 g3) m3 q3
      · exact fun σ4 ds4 H4 M4 g4 s4 m4 q4 => ⟨ds4, M4, H4, rfl, g4, s4, m4, q4⟩
      · exact fun v d H4 M4 g4 r4 m4 q4 => l.rt v d H4 M4 g4 r4 m4 q4
      · exact fun σ4 ds4 H4 M4 g4 s4 m4 q4 => l.nx σ4 ds4 H4 M4 g4 s4 m4 q4
      · exact fun σ4 ds4 H4 M4 g4 s4 m4 q4 => ⟨ds4, M4, H4, rfl, g4, s4, m4, q4⟩
      · exact fun C od σ4 ds4 fs H4 M4 f4 g4 s4 x4 m4 q4 => l.xc C od σ4 ds4 fs H4 M4 f4 g4 s4 x4 m4 q4
end
end DM
namespace DM
open PySem L2
open PyProof.Rows (b2i)
def wipeD (ds : DSt) : List Nat → DSt
  | [] => ds
  | v :: vs => (wipeD ds vs).set v none
theorem SR.wipe {K : PySem.W.Frag} {H : HF} {ds : DSt} {σ : L2.St} (s : SR K H ds σ) : ∀ vs : List Nat, SR K H (wipeD ds vs) (L2.wipe σ vs)
  | [] => s
  | v :: vs => (SR.wipe s vs).forget v
structure JGv (X : Cx) (target : Expr) (vs : List Nat) (t : TDG) : Prop where
  go : ∃ t0, PG X target t0 ∧ ∀ (d : D) (v : V) (ds : DSt) (σ : L2.St) (H : HF) (M : Mm) (Q : DSt → Mm → Prop) (Q0 : L2.St → Hp → Prop), VR X.K H d v → SR X.K H ds σ → MR X.K M H → t d ds M Q →
    (∀ ds' σ' H' M', L2.wipe σ' vs = L2.wipe σ vs → SR X.K H' ds' σ' → MR X.K M' H' → GG M H M' H' → Q ds' M' → Q0 σ' H'.h) → t0 v σ H.h Q0
structure JGvs (X : Cx) (ts : List Expr) (vs : List Nat) (t : TDGs) : Prop where
  go : ∃ t0, PGs X ts t0 ∧ ∀ (es : List D) (us : List V) (ds : DSt) (σ : L2.St) (H : HF) (M : Mm) (Q : DSt → Mm → Prop) (Q0 : L2.St → Hp → Prop), VRs X.K H es us → SR X.K H ds σ → MR X.K M H → t es ds M Q →
    (∀ ds' σ' H' M', L2.wipe σ' vs = L2.wipe σ vs → SR X.K H' ds' σ' → MR X.K M' H' → GG M H M' H' → Q ds' M' → Q0 σ' H'.h) → t0 us σ H.h Q0
theorem wipe_set {i : Nat} {x : Option V} : ∀ {vs : List Nat} {σ : L2.St}, i ∈ vs → L2.wipe (σ.set i x) vs = L2.wipe σ vs
  | [], _, h => by cases h
  | v :: vs, σ, h => by
    show (L2.wipe (σ.set i x) vs).set v none = (L2.wipe σ vs).set v none
    by_cases hv : i ∈ vs
    · rw [wipe_set hv]
    · have e : i = v := by
        rcases List.mem_cons.mp h with e | e
        · exact e
        · exact absurd e hv
      subst e
      have comm : ∀ (ws : List Nat), i ∉ ws → L2.wipe (σ.set i x) ws = (L2.wipe σ ws).set i x := by
        intro ws
        induction ws with
        | nil => intro _; rfl
        | cons w ws ih =>
          intro hw
          show (L2.wipe (σ.set i x) ws).set w none = ((L2.wipe σ ws).set w none).set i x
          rw [ih fun z => hw (List.mem_cons_of_mem _ z), List.set_comm]
          intro z
          exact hw (by rw [z]; exact List.mem_cons_self)
      rw [comm vs hv, List.set_set]
section
variable {X : Cx} {pos : Pos}
theorem jgv_name {i : Nat} {x : Str} {vs : List Nat} (hN : X.N.Nodup) (hv : i ∈ vs) (hi : X.N[i]? = some x := by rfl) (hx : Loc X.env.scope x := by first | exact Or.inl rfl | exact Or.inr rfl) (hf : X.fn x = true ∨ X.env.scope.names.lookup x = some .local := by first | exact .inl rfl | exact .inr rfl | assumption) : JGv X (.Name x pos) vs (dgName i) :=
  ⟨_, pg_name hN hi hx hf, fun d v ds σ H M Q Q0 r s m q k => k _ _ H M (wipe_set hv) (s.set r i) m GG.refl q⟩
theorem jgvs_nil {vs : List Nat} : JGvs X [] vs dgNil := ⟨_, pgs_nil, fun es us ds σ H M Q Q0 r s m q k => by
  cases r with
  | nil => exact ⟨rfl, k ds σ H M rfl s m GG.refl q⟩
  | cons _ _ => exact q.elim⟩
theorem jgvs_cons {e : Expr} {es : List Expr} {vs : List Nat} {t : TDG} {u : TDGs} (h1 : JGv X e vs t) (h2 : JGvs X es vs u)
    (hs : (assignEach (e :: es) X.env).map (·.2) = assign e X.env :: (assignEach es X.env).map (·.2) := by rfl) : JGvs X (e :: es) vs (dgCons t u) := by
  obtain ⟨t0, p, g⟩ := h1
  obtain ⟨u0, p', g'⟩ := h2
  refine ⟨_, pgs_cons p p' hs, fun es us ds σ H M Q Q0 r s m q k => ?_⟩
  cases r with
  | nil => exact q.elim
  | cons r1 r2 =>
    refine ⟨_, _, rfl, ?_⟩
    refine g _ _ ds σ H M _ _ r1 s m q fun ds' σ' H' M' hw s' m' gg q' => ?_
    exact g' _ _ ds' σ' H' M' _ _ (VRs.mono (gg.tx m) _ _ r2) s' m' q' fun ds2 σ2 H2 M2 hw2 s2 m2 gg2 q2 => k ds2 σ2 H2 M2 (hw2.trans hw) s2 m2 (gg.trans gg2) q2
theorem jgv_tup {es : List Expr} {k : Nat} {t : TDGs} {n : Nat} {vs : List Nat} (hc : X.calm = true) (h : JGvs X es vs t)
    (hn : (assignEach es X.env).length = n := by rfl) (hst : (assignEach es X.env).findIdx? (·.1) = none := by rfl) : JGv X (.Tuple es k pos) vs (dgTup n t) := by
  obtain ⟨t0, p, g⟩ := h
  refine ⟨_, pg_any hc p hn hst, fun d v ds σ H M Q Q0 r s m q k => ?_⟩
  cases d with
  | tup xs =>
    obtain ⟨a, us, rfl, sa, ra⟩ := r.tup_v
    obtain ⟨hl, q⟩ := q
    exact .inl ⟨a, us, rfl, sa, by rw [← ra.length]; exact hl, g xs us ds σ H M Q Q0 ra s m q k⟩
  | lst xs =>
    obtain ⟨a, us, rfl, sa, _, ra⟩ := r.lst_v
    obtain ⟨hl, q⟩ := q
    exact .inr ⟨a, us, rfl, SqL.of sa, by rw [← ra.length]; exact hl, g xs us ds σ H M Q Q0 ra s m q k⟩
  | _ => exact q.elim
structure JTs (X : Cx) (ifs : List Expr) (t : TDT) : Prop where
  go : ∃ t0, PTs X ifs t0 ∧ ∀ (ds : DSt) (σ : L2.St) (H : HF) (M : Mm) (Q : Bool → Mm → Prop) (Q0 : Bool → Hp → Prop), SR X.K H ds σ → MR X.K M H → t ds M Q →
    (∀ b H' M', MR X.K M' H' → GG M H M' H' → Q b M' → Q0 b H'.h) → t0 σ H.h Q0
def dYes : TDT := fun _ M Q => Q true M
theorem jts_nil : JTs X [] dYes := ⟨_, pts_nil, fun ds σ H M Q Q0 s m q k => k true H M m GG.refl q⟩
theorem jts_one {c : Expr} {t : TDT} (h : JT X c t) : JTs X [c] t := by
  obtain ⟨u, p, g⟩ := h
  exact ⟨_, pts_one p, g⟩
end
def lcW (ok : Mm → Prop) (g : TDG) (tt : TDT) (te : TDE) (ds0 : DSt) (Q : List D → Mm → Prop) : List D → List D → Mm → Prop
  | [], acc, M => ok M ∧ Q acc M
  | x :: r, acc, M => ok M ∧ g x ds0 M fun ds' M2 => tt ds' M2 fun b M3 => if b = true then te ds' M3 fun d M4 => acc.length < sizeLine ∧ lcW ok g tt te ds0 Q r (acc ++ [d]) M4 else lcW ok g tt te ds0 Q r acc M3
def dLc (ti : TDI) (g : TDG) (tt : TDT) (te : TDE) (vs : List Nat) : TDL := fun ds M Q => ti ds M fun it M1 => lcW it.ok g tt te (wipeD ds vs) Q it.xs [] M1
abbrev Blk (X : Cx) (scope : Scope) (s : Shared) (H : Hp) (C : Addr) (cl : List (Str × Addr)) (fp : List Addr) : Cx := X.blk s H scope (compEnvC scope cl C X.env) fp
structure JLC (X : Cx) (elt tg iter : Expr) (ifs : List Expr) (scope : Scope) (own : List (Str × Nat)) (t : TDL) : Prop where
  go : ∃ (wi : TI) (g : TG) (tt : TT) (te : TE), PI X tg iter wi ∧ BlkOk X.N X.env.scope scope own ∧ (∀ s H C cl fp, PG (Blk X scope s H C cl fp) tg g) ∧ (∀ s H C cl fp, PTs (Blk X scope s H C cl fp) ifs tt) ∧ (∀ s H C cl fp, PE (Blk X scope s H C cl fp) elt te) ∧
    ∀ (ds : DSt) (σ : L2.St) (H : HF) (M : Mm) (Q : List D → Mm → Prop) (Q0 : VK), SR X.K H ds σ → MR X.K M H → t ds M Q →
    (∀ p H' xs vs M', H.h p = none → H'.h p = some (.lst vs) → VRs X.K H' xs vs → M' p = none → ¬H'.F p → MR X.K M' H' → GG M H M' H' → Q xs M' → Q0 (.ref p) H'.h) → tLc wi g tt te (own.map (·.2)) σ H.h Q0
theorem jlc {X : Cx} {elt tg iter : Expr} {ifs : List Expr} {scope : Scope} {own : List (Str × Nat)} {ti : TDI} {g : TDG} {tt : TDT} {te : TDE} (hi : JI X tg iter ti) (ok : BlkOk X.N X.env.scope scope own)
    (hg : ∀ s H C cl fp, JGv (Blk X scope s H C cl fp) tg (own.map (·.2)) g) (ht : ∀ s H C cl fp, JTs (Blk X scope s H C cl fp) ifs tt) (he : ∀ s H C cl fp, JE (Blk X scope s H C cl fp) elt te) :
    JLC X elt tg iter ifs scope own (dLc ti g tt te (own.map (·.2))) := by
  obtain ⟨wi, pi, gi⟩ := hi
  refine ⟨wi, fun v σ H Q => ∀ s H' C cl fp, (hg s H' C cl fp).go.choose v σ H Q, fun σ H Q => ∀ s H' C cl fp, (ht s H' C cl fp).go.choose σ H Q, fun σ H Q => ∀ s H' C cl fp, (he s H' C cl fp).go.choose σ H Q, pi, ok, ?_, ?_, ?_, ?_⟩
  · exact fun s H C cl fp => ⟨fun pins s' σ H' v u Q I r h => (hg s H C cl fp).go.choose_spec.1.run pins s' σ H' v u Q I r (h s H C cl fp)⟩
  · exact fun s H C cl fp => ⟨fun pins s' σ H' Q I h => (ht s H C cl fp).go.choose_spec.1.run pins s' σ H' Q I (h s H C cl fp)⟩
  · exact fun s H C cl fp => ⟨fun pins s' σ H' Q I h => (he s H C cl fp).go.choose_spec.1.run pins s' σ H' Q I (h s H C cl fp)⟩
  · intro ds σ H M Q Q0 s m q k
    refine gi ds σ H M _ _ s m q fun J H1 it M1 io m1 g1 q1 => ?_
    intro p hp
    refine ⟨fun i n h2 => n = it.xs.length - i ∧ i ≤ it.xs.length ∧ ∃ M2 acc va H2, h2 = H2.h ∧ GG M1 H1 M2 H2 ∧ MR X.K M2 H2 ∧ H2.h p = some (.lst va) ∧ (M2 p = none ∧ ¬H2.F p) ∧ VRs X.K H2 acc va ∧ lcW it.ok g tt te (wipeD ds (own.map (·.2))) Q (it.xs.drop i) acc M2,
      ⟨_, rfl, Nat.zero_le _, M1, [], [], H1.up p _, rfl, GG.newT hp, m1.newT hp, upd_same, ⟨m1.free hp, m1.freeF hp⟩, .nil, by simpa using q1⟩, ?_⟩
    rintro i n h2 ⟨rfl, hi, M2, acc, va, H2, rfl, g2, m2, hD, nD, ra, q2⟩
    have s2 : SR X.K H2 (wipeD ds (own.map (·.2))) (L2.wipe σ (own.map (·.2))) := ((s.gg m (g1.trans g2))).wipe _
    by_cases hlt : i < it.xs.length
    · have e : it.xs.drop i = it.xs[i] :: it.xs.drop (i + 1) := List.drop_eq_getElem_cons hlt
      rw [e] at q2
      obtain ⟨okM, q2⟩ := q2
      have ei : it.xs[i]? = some it.xs[i] := List.getElem?_eq_getElem hlt
      refine .inr ⟨io.go i _ M2 H2 g2 m2 okM ei, fun h' => i + 1 ≤ it.xs.length ∧ ∃ M2 acc va H', h' = H'.h ∧ GG M1 H1 M2 H' ∧ MR X.K M2 H' ∧ H'.h p = some (.lst va) ∧ (M2 p = none ∧ ¬H'.F p) ∧ VRs X.K H' acc va ∧ lcW it.ok g tt te (wipeD ds (own.map (·.2))) Q (it.xs.drop (i + 1)) acc M2,
        fun H' h => ⟨it.xs.length - (i + 1), by omega, rfl, h.1, h.2⟩, fun x h' y => ?_⟩
      obtain ⟨H', rfl, r', m', g'⟩ := io.yld i _ M2 H2 x h' g2 m2 okM ei y
      intro s' H'' C cl fp
      refine (hg s' H'' C cl fp).go.choose_spec.2 _ x _ _ H' M2 _ _ r' (s2.gg m2 g') m' q2 fun ds3 σ3 H3 M3 hw s3 m3 g3 q3 => ⟨?_, ?_⟩
      · rw [hw]
        have idem : ∀ (vs ws : List Nat), (∀ v ∈ ws, v ∈ vs) → L2.wipe (L2.wipe σ vs) ws = L2.wipe σ vs := by
          intro vs ws
          induction ws with
          | nil => intro _; rfl
          | cons w ws ih =>
            intro hs
            show (L2.wipe (L2.wipe σ vs) ws).set w none = L2.wipe σ vs
            rw [ih fun v hv => hs v (List.mem_cons_of_mem _ hv)]
            have hw := hs w List.mem_cons_self
            -- the slot is forgotten already
            have gone : ∀ (us : List Nat), w ∈ us → (L2.wipe σ us).set w none = L2.wipe σ us := by
              intro us
              induction us with
              | nil => intro z; cases z
              | cons u us ih2 =>
                intro z
                show ((L2.wipe σ us).set u none).set w none = (L2.wipe σ us).set u none
                by_cases hwu : w = u
                · subst hwu; rw [List.set_set]
                · have hz : w ∈ us := by
                    rcases List.mem_cons.mp z with z | z
                    · exact absurd z hwu
                    · exact z
                  rw [List.set_comm _ _ (Ne.symm hwu), ih2 hz]
            exact gone vs hw
        exact idem _ _ fun v hv => hv
      · intro s' H'' C cl fp
        refine (ht s' H'' C cl fp).go.choose_spec.2 ds3 σ3 H3 M3 _ _ s3 m3 q3 fun b H4 M4 m4 g4 q4 => ?_
        have g24 : GG M2 H2 M4 H4 := (g'.trans g3).trans g4
        cases b with
        | false =>
          rw [if_neg Bool.false_ne_true] at q4 ⊢
          obtain ⟨hD4, nD4⟩ := g24.nfr hD nD.1 nD.2
          exact ⟨hlt, M4, acc, va, H4, rfl, g2.trans g24, m4, hD4, nD4, VRs.mono (g24.tx m2) _ _ ra, q4⟩
        | true =>
          rw [if_pos rfl] at q4 ⊢
          intro s' H'' C cl fp
          refine (he s' H'' C cl fp).go.choose_spec.2 ds3 σ3 H4 M4 _ _ (s3.gg m3 g4) m4 q4 fun y H5 d M5 r5 m5 g5 q5 => ?_
          have g25 : GG M2 H2 M5 H5 := g24.trans g5
          obtain ⟨hD5, nD5⟩ := g25.nfr hD nD.1 nD.2
          have ra5 := VRs.mono (g25.tx m2) _ _ ra
          refine ⟨va, hD5, by rw [← ra5.length]; exact q5.1, hlt, M5, acc ++ [d], va ++ [y], H5.up p _, rfl, (g2.trans g25).hidden hp, m5.hidden hD5 nD5.1 nD5.2, upd_same, nD5, ?_, q5.2⟩
          exact VRs.append (VRs.mono (TX.hidden hD5 nD5.2) _ _ ra5) (.cons (VR.mono (TX.hidden hD5 nD5.2) _ _ r5) .nil)
    · have e : i = it.xs.length := by omega
      subst e
      rw [List.drop_length] at q2
      exact .inl ⟨io.stop M2 H2 g2 m2 q2.1, k p H2 acc va M2 (g1.free hp) hD ra nD.1 nD.2 m2 (g1.trans g2) q2.2⟩
section
variable {X : Cx} {elt tg iter : Expr} {ifs : List Expr} {scope : Scope} {own : List (Str × Nat)} {t : TDL} {pos spos : Pos}
theorem jl_lc (hc : X.calm = true) (hN : X.N.Nodup) (h : JLC X elt tg iter ifs scope own t) (hs : ∀ x, foldedSetIterable iter X.env x = pure x := by intro _; rfl) : JL X (.ListComp elt [⟨tg, iter, ifs, 0⟩] scope pos) t := by
  obtain ⟨wi, g, tt, te, h1, h2, h3, h4, h5, h6⟩ := h
  exact ⟨_, pe_lc hc hN h1 h2 h3 h4 h5 hs, h6⟩
theorem js_setLc {W : WX} {i : Nat} {y : Str} {py : Pos} (hc : X.calm = true) (hN : X.N.Nodup) (h : JLC X elt tg iter ifs scope own t) (hsw : swapsWith (.ListComp elt [⟨tg, iter, ifs, 0⟩] scope pos) (some (.Name y py)) spos.line X.env = pure true)
    (hy : X.N[i]? = some y := by rfl) (hyl : X.env.scope.names.lookup y = some .local := by rfl) (hs : ∀ x, foldedSetIterable iter X.env x = pure x := by intro _; rfl) :
    JS X W (.Assign [.Name y py] (.ListComp elt [⟨tg, iter, ifs, 0⟩] scope pos) spos) (dAsg (dFresh t) (dgName i)) := by
  obtain ⟨wi, g, tt, te, h1, h2, h3, h4, h5, h6⟩ := h
  refine ⟨_, ps_setLc hc hN hy hyl hsw h1 h2 h3 h4 h5 hs, fun M0 H0 D0 D1 l ds σ H M gg s m q => ?_⟩
  refine h6 ds σ H M _ _ s m q fun p H' xs vs M' hp hp' r n nf m' g' q' => ?_
  exact l.nx _ _ H' _ (gg.trans (g'.known hp)) ((s.gg m g').set (.ref p) i) (m'.known (w := .lst xs) ⟨vs, hp', r⟩ nf) (q' p n)
theorem js_setLcF {W : WX} {i : Nat} {y : Str} {py : Pos} (hc : X.calm = true) (hN : X.N.Nodup) (h : JLC X elt tg iter ifs scope own t) (hsw : swapsWith (.ListComp elt [⟨tg, iter, ifs, 0⟩] scope pos) (some (.Name y py)) spos.line X.env = pure true)
    (hy : X.N[i]? = some y := by rfl) (hyl : X.env.scope.names.lookup y = some .local := by rfl) (hs : ∀ x, foldedSetIterable iter X.env x = pure x := by intro _; rfl) :
    JS X W (.Assign [.Name y py] (.ListComp elt [⟨tg, iter, ifs, 0⟩] scope pos) spos) (dAsg (dFrz t) (dgName i)) := by
  obtain ⟨wi, g, tt, te, h1, h2, h3, h4, h5, h6⟩ := h
  refine ⟨_, ps_setLc hc hN hy hyl hsw h1 h2 h3 h4 h5 hs, fun M0 H0 D0 D1 l ds σ H M gg s m q => ?_⟩
  refine h6 ds σ H M _ _ s m q fun p H' xs vs M' hp hp' r n nf m' g' q' => ?_
  exact l.nx _ _ (H'.fz p) _ (gg.trans (g'.fzz hp)) (((s.gg m g').mono TX.fzz).set (.lst hp' (.inr rfl) (VRs.mono TX.fzz _ _ r)) i) (m'.fzz hp' n) q'
end
abbrev DSp := List D → Mm → DQ → Prop
def toSp (K : PySem.W.Frag) (sp : DSp) : Sp := fun vs h Q _ => ∃ ds M R H, h = H.h ∧ VRs K H ds vs ∧ MR K M H ∧ sp ds M R ∧ ∀ v H' d M', VR K H' d v → MR K M' H' → GG M H M' H' → R d M' → Q v H'.h
def dCall (sp : DSp) (t : TDA) : TDE := fun ds M Q => t ds M fun xs M1 => sp xs M1 Q
section
variable {X : Cx} {k : Nat} {f : Addr} {fd : FuncData} {ps : List Str} {sp : DSp} {x : Str} {p pos : Pos} {e : Expr} {es : List Expr} {t : TDA}
theorem je_call (F : FnOk X.prog X.w X.K X.mg X.base CX0 k f fd ps (toSp X.K sp)) (hr : Room k X.A) (hg : Gl X x) (hm : X.mg x = some (.ref f)) (hk : PySem.W.keepIn X.K (.ref f) = true) (hb : Binds X.K fd ps [])
    (ha : JA X (e :: es) t) (hdb : (x == ("__debug__" : Str)) = false := by decide) (he : starEach (e :: es) X.env = (false, eval e X.env) :: starEach es X.env := by rfl) (hpl : (backTo pos (starEach es X.env)).any (·.1) = false := by rfl) :
    JE X (.Call (.Name x p) (e :: es) [] pos) (dCall sp t) := by
  obtain ⟨u, q, g⟩ := ha
  refine je_pe (pe_call F hr hg hm hk hb .nil pass0 q hdb he hpl) fun ds σ H M Q Q0 s m q k => ?_
  refine g ds σ H M _ _ s m q fun vs H1 es M1 r1 m1 g1 q1 => ?_
  rw [List.append_nil]
  exact ⟨es, M1, Q, H1, rfl, r1, m1, q1, fun v H' d M' r' m' g' q' => k v H' d M' r' m' (g1.trans g') q'⟩
end
def frzF (M' M2 : Mm) (H : HF) : HF := ⟨H.h, fun a => H.F a ∨ ((∃ o, M' a = some o) ∧ M2 a = none)⟩
mutual
inductive FzD (M' M2 : Mm) : D → D → Prop
  | refl (d : D) : FzD M' M2 d d
  | lst {a : Addr} {xs ys : List D} : M' a = some (.lst xs) → M2 a = none → FzDs M' M2 xs ys → FzD M' M2 (.ref a) (.lst ys)
  | dic {a : Addr} {xs ys : List (Key × D)} : M' a = some (.dic xs) → M2 a = none → FzKs M' M2 xs ys → FzD M' M2 (.ref a) (.dic ys)
  | tup {xs ys : List D} : FzDs M' M2 xs ys → FzD M' M2 (.tup xs) (.tup ys)
  | dit {a : Addr} {xs ys : List (List Key × D)} : M' a = some (.dit xs) → M2 a = none → FzTs M' M2 xs ys → FzD M' M2 (.ref a) (.dit ys)
inductive FzDs (M' M2 : Mm) : List D → List D → Prop
  | refl (d : List D) : FzDs M' M2 d d
  | cons {x y : D} {xs ys : List D} : FzD M' M2 x y → FzDs M' M2 xs ys → FzDs M' M2 (x :: xs) (y :: ys)
inductive FzKs (M' M2 : Mm) : List (Key × D) → List (Key × D) → Prop
  | refl (d : List (Key × D)) : FzKs M' M2 d d
  | cons {k : Key} {x y : D} {xs ys : List (Key × D)} : FzD M' M2 x y → FzKs M' M2 xs ys → FzKs M' M2 ((k, x) :: xs) ((k, y) :: ys)
inductive FzTs (M' M2 : Mm) : List (List Key × D) → List (List Key × D) → Prop
  | refl (d : List (List Key × D)) : FzTs M' M2 d d
  | cons {k : List Key} {x y : D} {xs ys : List (List Key × D)} : FzD M' M2 x y → FzTs M' M2 xs ys → FzTs M' M2 ((k, x) :: xs) ((k, y) :: ys)
end
def kin : D → Nat
  | .str _ => 1
  | .tup _ => 2
  | .int _ => 3
  | _ => 0
theorem isPair_kin (xs : List D) : isPair (.tup xs) = match xs with | [a, b] => (kin a == 1 && kin b == 2) || (kin a == 2 && (kin b == 3 || kin b == 1)) | _ => false := by
  match xs with
  | [] => rfl
  | [a] => cases a <;> rfl
  | [a, b] => cases a <;> cases b <;> rfl
  | a :: b :: c :: r => cases a <;> cases b <;> rfl
theorem FzD.kin {M' M2 : Mm} {d e : D} (h : FzD M' M2 d e) : kin d = kin e := by cases h <;> rfl
theorem FzDs.two {M' M2 : Mm} : ∀ {a b : D} {ys : List D}, FzDs M' M2 [a, b] ys → ∃ c d, ys = [c, d] ∧ DM.kin a = DM.kin c ∧ DM.kin b = DM.kin d
  | a, b, _, .refl _ => ⟨a, b, rfl, rfl, rfl⟩
  | _, _, _, .cons x (.cons y (.refl _)) => ⟨_, _, rfl, x.kin, y.kin⟩
  | _, _, _, .cons x (.refl _) => ⟨_, _, rfl, x.kin, rfl⟩
theorem FzDs.len {M' M2 : Mm} : ∀ {xs ys : List D}, FzDs M' M2 xs ys → xs.length = ys.length
  | _, _, .refl _ => rfl
  | _, _, .cons _ t => by simp [FzDs.len t]
theorem FzD.pair {M' M2 : Mm} {d e : D} (h : FzD M' M2 d e) : isPair d = isPair e := by
  cases h with
  | refl => rfl
  | lst _ _ _ => rfl
  | dic _ _ _ => rfl
  | dit _ _ _ => rfl
  | tup q =>
    rename_i xs ys
    rw [isPair_kin, isPair_kin]
    have l := q.len
    match xs, ys, l, q with
    | [], [], _, _ => rfl
    | [_], [_], _, _ => rfl
    | [a, b], _, _, q => obtain ⟨c, d, rfl, e1, e2⟩ := q.two; simp only [e1, e2]
    | _ :: _ :: _ :: _, _ :: _ :: _ :: _, _, _ => rfl
theorem FzDs.pq {M' M2 : Mm} : ∀ {xs ys : List D}, FzDs M' M2 xs ys → pq xs = pq ys
  | _, _, .refl _ => rfl
  | _, _, .cons x t => by
    have := FzDs.pq t
    unfold DM.pq at *
    rw [List.all_cons, List.all_cons, x.pair, this]
theorem FzTs.ne {M' M2 : Mm} : ∀ {xs ys : List (List Key × D)}, FzTs M' M2 xs ys → NEk xs → NEk ys
  | _, _, .refl _, n => n
  | (_, x0) :: _, _, .cons x t, n => fun kv hm => by
    rcases List.mem_cons.mp hm with rfl | hm
    · exact n (_, x0) List.mem_cons_self
    · exact FzTs.ne t (fun kv h => n kv (List.mem_cons_of_mem _ h)) kv hm
section
variable {K : PySem.W.Frag} {M' M2 M : Mm} {H H0 : HF}
theorem TX.frz : TX K H (frzF M' M2 H) := ⟨fun _ _ h => h, fun _ _ h => h, fun _ _ _ h => h, fun _ _ f h => ⟨.inl f, h⟩⟩
mutual
theorem FzD.vr (m : MR K M' H) : ∀ {d d2 : D} {v : V}, FzD M' M2 d d2 → VR K H d v → VR K (frzF M' M2 H) d2 v
  | _, _, _, .refl _, r => VR.mono TX.frz _ _ r
  | _, _, _, .lst h n q, r => by
    cases r
    obtain ⟨vs, h1, r1⟩ := m.ob _ _ h
    exact .lst h1 (.inr ⟨⟨_, h⟩, n⟩) (FzDs.vr m q r1)
  | _, _, _, .dic h n q, r => by
    cases r
    obtain ⟨vs, h1, r1⟩ := m.ob _ _ h
    exact .dic h1 (.inr ⟨⟨_, h⟩, n⟩) (FzKs.vr m q r1.kr)
  | _, _, _, .tup q, r => by
    cases r with
    | tup h r1 => exact .tup (by rw [← q.pq]; exact h) (FzDs.vr m q r1)
  | _, _, _, .dit h n q, r => by
    cases r
    obtain ⟨vs, h1, r1, ne⟩ := m.ob _ _ h
    exact .dit h1 (.inr ⟨⟨_, h⟩, n⟩) (FzTs.vr m q r1.tr) (q.ne ne)
theorem FzDs.vr (m : MR K M' H) : ∀ {d d2 : List D} {v : List V}, FzDs M' M2 d d2 → VRs K H d v → VRs K (frzF M' M2 H) d2 v
  | _, _, _, .refl _, r => VRs.mono TX.frz _ _ r
  | _, _, _, .cons a b, .cons r1 r2 => .cons (FzD.vr m a r1) (FzDs.vr m b r2)
theorem FzKs.vr (m : MR K M' H) : ∀ {d d2 : List (Key × D)} {v : List (Key × V)}, FzKs M' M2 d d2 → KRs K H d v → KRs K (frzF M' M2 H) d2 v
  | _, _, _, .refl _, r => KRs.mono TX.frz _ _ r
  | _, _, _, .cons a b, .cons r1 r2 => .cons (FzD.vr m a r1) (FzKs.vr m b r2)
theorem FzTs.vr (m : MR K M' H) : ∀ {d d2 : List (List Key × D)} {v : List (List Key × V)}, FzTs M' M2 d d2 → TRs K H d v → TRs K (frzF M' M2 H) d2 v
  | _, _, _, .refl _, r => TRs.mono TX.frz _ _ r
  | _, _, _, .cons a b, .cons r1 r2 => .cons (FzD.vr m a r1) (FzTs.vr m b r2)
end
theorem MR.frz (m : MR K M' H) (s : Sub M2 M') : MR K M2 (frzF M' M2 H) := ⟨fun a o e => (m.ob a o (s a o e)).mono TX.frz rfl, fun a f => by
  rcases f with f | f
  · exact s.none (m.nf a f)
  · exact f.2, fun a f => by
  rcases f with f | ⟨⟨o, e⟩, _⟩
  · exact m.sm a f
  · have q := m.ob a o e
    cases o with
    | lst _ => obtain ⟨vs, q, _⟩ := q; exact ⟨_, q⟩
    | dic _ => obtain ⟨vs, q, _⟩ := q; exact ⟨_, q⟩
    | dit _ => obtain ⟨vs, q, _⟩ := q; exact ⟨_, q⟩
    | ins _ _ => obtain ⟨_, vs, q, _⟩ := q; exact ⟨_, q⟩
    | xd _ => obtain ⟨vs, q, _⟩ := q; exact ⟨_, q⟩
    | lkK _ _ _ => exact ⟨_, q.1⟩
    | lkT _ _ _ => exact ⟨_, q.1⟩⟩
theorem GG.frz (g : GG M H0 M' H) (s : Sub M2 M') : GG M H0 M2 (frzF M' M2 H) := by
  refine ⟨fun a o e n => ?_, g.al⟩
  obtain ⟨h1, n1, f1⟩ := g.fr a o e n
  refine ⟨h1, s.none n1, ⟨fun x => ?_, fun x => .inl (f1.mpr x)⟩⟩
  rcases x with x | ⟨⟨o, e⟩, _⟩
  · exact f1.mp x
  · rw [n1] at e
    cases e
end
def Shr (R : DQ) : DQ := fun d M' => ∃ M2 d2, Sub M2 M' ∧ FzD M' M2 d d2 ∧ R d2 M2
theorem Shr.of {R : DQ} {d : D} {M' M2 : Mm} (h : R d M2) (s : Sub M2 M') : Shr R d M' := ⟨M2, d, s, .refl d, h⟩
theorem Shr.all {R : DQ} {d : D} {M : Mm} (h : R d M) : Shr R d M := ⟨M, d, Sub.refl, .refl d, h⟩
theorem Shr.frz {R : DQ} {p : Addr} {M' M2 : Mm} {xs : List D} (e : lstOf M' p = some xs) (s : Sub M2 M') (n : M2 p = none) (h : R (.lst xs) M2) : Shr R (.ref p) M' := ⟨M2, .lst xs, s, .lst (of_lstOf e) n (.refl _), h⟩
theorem sub_new {M M' : Mm} {p : Addr} {o : MO} (s : Sub M M') (n : M p = none) : Sub M (mup M' p o) := fun a u e => by
  rw [mup_ne]
  · exact s a u e
  · rintro rfl; rw [n] at e; cases e
def dstart (N : List Str) (ds : List D) : DSt := ds.map some ++ List.replicate (N.length - ds.length) none
theorem SR.start {K : PySem.W.Frag} {H : HF} {N : List Str} {ds : List D} {vs : List V} (r : VRs K H ds vs) : SR K H (dstart N ds) (L2.start N vs) := by
  unfold dstart L2.start
  rw [r.length]
  refine ⟨by simp [r.length], fun i d h => ?_⟩
  by_cases hi : i < vs.length
  · rw [List.getElem?_append_left (by rw [List.length_map, r.length]; exact hi), List.getElem?_map] at h
    obtain ⟨d', h1, h2⟩ := Option.map_eq_some_iff.mp h
    cases h2
    obtain ⟨v, h3, h4⟩ := r.get h1
    exact ⟨v, by rw [List.getElem?_append_left (by rw [List.length_map]; exact hi), List.getElem?_map, h3] <;> rfl, h4⟩
  · rw [List.getElem?_append_right (by rw [List.length_map, r.length]; omega)] at h
    rw [List.getElem?_replicate] at h
    split at h
    · cases h
    · cases h
section
variable {P : Program} {w : World} {K : PySem.W.Frag} {mg : Str → Option Value} {base : Heap}
theorem fn_ok {x qual : Str} {st : Stmt} {f : Addr} {fd : FuncData} {N ps : List Str} {k : Nat} {sp : DSp} (F : Fun K x qual st f fd) (S : FnScope N ps (defScope st)) (len : ∀ ds M R, sp ds M R → ds.length = ps.length)
    (body : ∀ (cdv : Value) (A : Around) (outer : List Env) (s : Shared) (H : Hp) (E : XK), Room k (A.deeper (PyProof.Rows.envOfC qual (defScope st) s.heap.objs.size f cdv)) →
      ∃ t, JB (cxOf CX0 P w K mg base N qual (defScope st) f cdv A outer s H E).nox (fun _ _ _ _ => False) (defBody st) t ∧ ∀ (ds : List D) (M : Mm) (R : DQ), sp ds M R → t { nx := fun _ M' => Shr R .non M', rt := Shr R } (dstart N ds) M) : FnOk P w K mg base CX0 (k + 1) f fd ps (toSp K sp) := by
  refine F.ok S (fun vs H Q E h => ?_) fun cdv A outer s H vs Q E hr h => ?_
  · obtain ⟨ds, M, R, H, _, r, _, h, _⟩ := h
    rw [← r.length]
    exact len ds M R h
  · obtain ⟨ds, M, R, H, rfl, r, m, h, k⟩ := h
    obtain ⟨t, ⟨t0, p, g⟩, hb⟩ := body cdv A outer s H.h E hr
    refine ⟨t0, p, ?_⟩
    refine g M H _ _ ⟨?_, ?_, ?_, ?_, ?_⟩ (dstart N ds) (L2.start N vs) H M GG.refl (SR.start r) m (hb ds M R h)
    · rintro σ ds' H' M' gg s' m' ⟨M2, d2, sb, fz, q⟩
      exact k _ (frzF M' M2 H') d2 M2 (fz.vr m' .non) (m'.frz sb) (gg.frz sb) q
    · rintro v d H' M' gg r' m' ⟨M2, d2, sb, fz, q⟩
      exact k v (frzF M' M2 H') d2 M2 (fz.vr m' r') (m'.frz sb) (gg.frz sb) q
    · intro _ _ _ _ _ _ _ q
      exact q.elim
    · intro _ _ _ _ _ _ _ q
      exact q.elim
    · intro _ _ _ _ _ _ _ _ _ _ _ _ q
      exact q.elim
end
end DM
namespace DM
open PySem L2
open PyProof.Rows (b2i)
abbrev DRC := List D → Mm → DQ → Prop
def LiftC (K : PySem.W.Frag) (r : List V → Hp → VK → Prop) (dr : DRC) : Prop := ∀ (vs : List V) (ds : List D) (H : HF) (M : Mm) (Q : DQ) (Q0 : VK), VRs K H ds vs → MR K M H → dr ds M Q →
  (∀ v H' d M', VR K H' d v → MR K M' H' → GG M H M' H' → Q d M' → Q0 v H'.h) → r vs H.h Q0
def dCB (r : DRC) (t : TDA) : TDE := fun ds M Q => t ds M fun xs M1 => r xs M1 Q
section
variable {X : Cx} {id T : String} {x : Str} {r : List V → Hp → VK → Prop} {dr : DRC} {p pos : Pos} {e : Expr} {es : List Expr} {t : TDA}
theorem je_callB (hc : CallR X (.builtin id) r) (hl : LiftC X.K r dr) (hg : Gl X x) (hm : X.mg x = none) (hv : bootBuiltins x = some (.builtin id)) (ha : JA X (e :: es) t) (hn : x ≠ "__name__" := by decide) (hdb : (x == ("__debug__" : Str)) = false := by decide)
    (he : starEach (e :: es) X.env = (false, eval e X.env) :: starEach es X.env := by rfl) (hpl : (backTo pos (starEach es X.env)).any (·.1) = false := by rfl) : JE X (.Call (.Name x p) (e :: es) [] pos) (dCB dr t) := by
  obtain ⟨u, q, g⟩ := ha
  refine je_pe (pe_callB hc hg hm hv q hn hdb he hpl) fun ds σ H M Q Q0 s m q k => ?_
  refine g ds σ H M _ _ s m q fun vs H1 es M1 r1 m1 g1 q1 => ?_
  exact hl vs es H1 M1 Q Q0 r1 m1 q1 fun v H' d M' r' m' g' q' => k v H' d M' r' m' (g1.trans g') q'
theorem je_callTy (hc : CallR X (.type T) r) (hl : LiftC X.K r dr) (hg : Gl X x) (hm : X.mg x = none) (hv : bootBuiltins x = some (.type T)) (ha : JA X (e :: es) t) (hn : x ≠ "__name__" := by decide) (hdb : (x == ("__debug__" : Str)) = false := by decide)
    (he : starEach (e :: es) X.env = (false, eval e X.env) :: starEach es X.env := by rfl) (hpl : (backTo pos (starEach es X.env)).any (·.1) = false := by rfl) : JE X (.Call (.Name x p) (e :: es) [] pos) (dCB dr t) := by
  obtain ⟨u, q, g⟩ := ha
  refine je_pe (pe_callTy hc hg hm hv q hn hdb he hpl) fun ds σ H M Q Q0 s m q k => ?_
  refine g ds σ H M _ _ s m q fun vs H1 es M1 r1 m1 g1 q1 => ?_
  exact hl vs es H1 M1 Q Q0 r1 m1 q1 fun v H' d M' r' m' g' q' => k v H' d M' r' m' (g1.trans g') q'
end
def lenR : DRC := fun xs M Q => match xs with
  | [.tup ys] => Q (.int ys.length) M
  | [.str z] => z.length ≤ sizeLine ∧ Q (.int z.length) M
  | [.ref a] => (match M a with | some (.lst ys) => Q (.int ys.length) M | some (.dic kvs) => Q (.int kvs.length) M | _ => False)
  | [.lst ys] => Q (.int ys.length) M
  | [.dic ys] => Q (.int ys.length) M
  | _ => False
def lenT (K : PySem.W.Frag) : List V → Hp → VK → Prop := fun xs H Q => (∃ x n, xs = [x] ∧ LenV K x H n ∧ Q (.int n) H) ∨ ∃ a kvs, xs = [V.ref a] ∧ H a = some (.dK kvs) ∧ Q (.int kvs.length) H
theorem call_lenT {X : Cx} : CallR X (.builtin "len") (lenT X.K) := call_len.or call_lenD
theorem VRs.one {K : PySem.W.Frag} {H : HF} {d : D} {vs : List V} (r : VRs K H [d] vs) : ∃ v, vs = [v] ∧ VR K H d v := by
  cases r with
  | cons r1 r2 => cases r2; exact ⟨_, rfl, r1⟩
theorem VRs.two {K : PySem.W.Frag} {H : HF} {d e : D} {vs : List V} (r : VRs K H [d, e] vs) : ∃ v w, vs = [v, w] ∧ VR K H d v ∧ VR K H e w := by
  cases r with
  | cons r1 r2 =>
    obtain ⟨w, rfl, r4⟩ := r2.one
    exact ⟨_, _, rfl, r1, r4⟩
theorem FR.length {K : PySem.W.Frag} {H : HF} {κ : Type} : ∀ {ds : List (κ × D)} {vs : List (κ × V)}, FR K H ds vs → ds.length = vs.length
  | _, _, .nil => rfl
  | _, _, .cons _ q => by simp [FR.length q]
theorem lift_len {K : PySem.W.Frag} : LiftC K (lenT K) lenR := by
  intro vs ds H M Q Q0 r m h k
  cases r with
  | nil => exact h.elim
  | cons r1 r2 =>
    rename_i d v _ _
    cases r2 with
    | cons _ _ => cases d <;> exact h.elim
    | nil =>
      cases d with
      | tup ys =>
        obtain ⟨a, us, rfl, sa, ra⟩ := r1.tup_v
        exact .inl ⟨_, _, rfl, .inr ⟨us, sa, rfl⟩, by rw [← ra.length]; exact k _ H _ M (.int _) m GG.refl h⟩
      | str z =>
        cases r1.str_v
        exact .inl ⟨_, _, rfl, ⟨h.1, rfl⟩, k _ H _ M (.int _) m GG.refl h.2⟩
      | ref a =>
        cases r1.ref_v
        unfold lenR at h
        simp only at h
        split at h
        · rename_i ys e
          obtain ⟨us, h1, r3⟩ := m.ob a _ e
          exact .inl ⟨_, _, rfl, .inl ⟨us, SqL.of h1, rfl⟩, by rw [← r3.length]; exact k _ H _ M (.int _) m GG.refl h⟩
        · rename_i kvs e
          obtain ⟨us, h1, r3⟩ := m.ob a _ e
          exact .inr ⟨a, us, rfl, h1, by rw [← r3.length]; exact k _ H _ M (.int _) m GG.refl h⟩
        · exact h.elim
      | lst ys =>
        obtain ⟨a, us, rfl, h1, _, r3⟩ := r1.lst_v
        exact .inl ⟨_, _, rfl, .inl ⟨us, SqL.of h1, rfl⟩, by rw [← r3.length]; exact k _ H _ M (.int _) m GG.refl h⟩
      | dic ys =>
        obtain ⟨a, us, rfl, h1, _, r3⟩ := r1.dic_v
        exact .inr ⟨a, us, rfl, h1, by rw [← r3.length]; exact k _ H _ M (.int _) m GG.refl h⟩
      | _ => exact h.elim
def int1R : DRC := fun xs M Q => match xs with
  | [.int i] => Q (.int i) M
  | [.bl b] => Q (.int (if b then 1 else 0)) M
  | _ => False
theorem lift_int1 {K : PySem.W.Frag} : LiftC K (fun xs H Q => (∃ i, xs = [.int i] ∧ Q (.int i) H) ∨ ∃ k, xs = [.bl k] ∧ Q (.int (if k then 1 else 0)) H) int1R := by
  intro vs ds H M Q Q0 r m h k
  cases r with
  | nil => exact h.elim
  | cons r1 r2 =>
    rename_i d v _ _
    cases r2 with
    | cons _ _ => cases d <;> exact h.elim
    | nil =>
      cases d with
      | int i => cases r1.int_v; exact .inl ⟨i, rfl, k _ H _ M (.int _) m GG.refl h⟩
      | bl i => cases r1.bl_v; exact .inr ⟨i, rfl, k _ H _ M (.int _) m GG.refl h⟩
      | _ => exact h.elim
def str1R : DRC := fun xs M Q => match xs with
  | [.int i] => i.natAbs.log2 < 1920 ∧ Q (.str (toString i)) M
  | _ => False
theorem lift_str1 {K : PySem.W.Frag} : LiftC K (fun xs H Q => ∃ i, xs = [.int i] ∧ i.natAbs.log2 < 1920 ∧ Q (.str (toString i)) H) str1R := by
  intro vs ds H M Q Q0 r m h k
  cases r with
  | nil => exact h.elim
  | cons r1 r2 =>
    rename_i d v _ _
    cases r2 with
    | cons _ _ => cases d <;> exact h.elim
    | nil =>
      cases d with
      | int i => cases r1.int_v; exact ⟨i, rfl, h.1, k _ H _ M (.str _) m GG.refl h.2⟩
      | _ => exact h.elim
def tyName (M : Mm) : D → String
  | .non => "NoneType"
  | .bl _ => "bool"
  | .int _ => "int"
  | .str _ => "str"
  | .tup _ => "tuple"
  | .ref a => (match M a with | some (.lst _) => "list" | some (.dic _) => "dict" | _ => "?")
  | .ty _ => "?"
  | .lst _ => "list"
  | .dic _ => "dict"
  | .dit _ => "?"
def isiB (a n : String) : Bool := a == n || (a == "bool" && n == "int")
def isiOk (a n : String) : Bool := ["NoneType", "bool", "int", "str", "tuple", "list", "dict"].contains a && ["bool", "int", "str", "tuple", "list", "dict"].contains n
theorem isi_tab : ∀ a ∈ ["NoneType", "bool", "int", "str", "tuple", "list", "dict"], ∀ n ∈ ["bool", "int", "str", "tuple", "list", "dict"], kitB a n = some (isiB a n) := by decide +kernel
theorem kitB_of {a n : String} (h : isiOk a n = true) : kitB a n = some (isiB a n) := by
  unfold isiOk at h
  rw [Bool.and_eq_true] at h
  exact isi_tab a (by simpa using h.1) n (by simpa using h.2)
def isiR : DRC := fun xs M Q => match xs with
  | [x, .ty n] => isiOk (tyName M x) n = true ∧ Q (.bl (isiB (tyName M x) n)) M
  | _ => False
theorem tyX_of {K : PySem.W.Frag} {H : HF} {M : Mm} {d : D} {v : V} (r : VR K H d v) (m : MR K M H) (h : tyName M d ≠ "?") : TyX K H.h v (.type (tyName M d)) := by
  cases r with
  | non => exact .base .non
  | bl b => exact .base (.bl b)
  | int b => exact .base (.int b)
  | str b => exact .base (.str b)
  | ty n => exact absurd rfl h
  | dit _ _ _ _ => exact absurd rfl h
  | lst h1 f1 ra => exact .base (.lst h1)
  | dic h1 f1 ra => exact .base (.dK h1)
  | tup sa ra =>
    show TyX K H.h _ (.type "tuple")
    rename_i xs _ _
    obtain ⟨ob, _, e⟩ := sa
    cases hq : pq xs with
    | false => rw [hq] at e; exact .base (.tup e)
    | true => rw [hq] at e; exact .fTuple e
  | ref a =>
    have e0 : tyName M (.ref a) = (match M a with | some (.lst _) => "list" | some (.dic _) => "dict" | _ => "?") := by unfold tyName; rfl
    rw [e0] at h ⊢
    cases e : M a with
    | none => rw [e] at h; exact absurd rfl h
    | some o =>
      cases o with
      | lst ys =>
        obtain ⟨us, h1, r3⟩ := m.ob a _ e
        exact .base (.lst h1)
      | dic kvs =>
        obtain ⟨us, h1, r3⟩ := m.ob a _ e
        exact .base (.dK h1)
      | dit _ => rw [e] at h; exact absurd rfl h
      | ins _ _ => rw [e] at h; exact absurd rfl h
      | xd _ => rw [e] at h; exact absurd rfl h
      | lkK _ _ _ => rw [e] at h; exact absurd rfl h
      | lkT _ _ _ => rw [e] at h; exact absurd rfl h
theorem lift_isi {K : PySem.W.Frag} : LiftC K (rIsi K) isiR := by
  intro vs ds H M Q Q0 r m h k
  cases r with
  | nil => exact h.elim
  | cons r1 r2 =>
    cases r2 with
    | nil => exact h.elim
    | cons r2 r3 =>
      rename_i d v e w _ _
      cases r3 with
      | cons _ _ => cases e <;> exact h.elim
      | nil =>
        cases e with
        | ty n =>
          cases r2.ty_v
          obtain ⟨ok, h⟩ := h
          have hne : tyName M d ≠ "?" := by
            intro z
            rw [z] at ok
            unfold isiOk at ok
            rw [Bool.and_eq_true] at ok
            exact absurd ok.1 (by decide)
          exact ⟨v, .ty n, _, _, _, rfl, .ty n, tyX_of r1 m hne, kit_ty (kitB_of ok), k _ H _ M (.bl _) m GG.refl h⟩
        | _ => exact h.elim
def rdS (M : Mm) : D → Option (List D)
  | .tup xs => some xs
  | .lst xs => some xs
  | .ref a => lstOf M a
  | _ => none
@[simp] theorem rdS_tup {M : Mm} {xs : List D} : rdS M (.tup xs) = some xs := rfl
@[simp] theorem rdS_lst {M : Mm} {xs : List D} : rdS M (.lst xs) = some xs := rfl
@[simp] theorem rdS_ref {M : Mm} {a : Addr} : rdS M (.ref a) = lstOf M a := rfl
theorem rdS_v {K : PySem.W.Frag} {M : Mm} {H : HF} {d : D} {v : V} {xs : List D} (m : MR K M H) (r : VR K H d v) (e : rdS M d = some xs) : ∃ a vs, v = .ref a ∧ VRs K H xs vs ∧ ((d = .tup xs ∧ SqT K H.h a vs) ∨ H.h a = some (.lst vs)) := by
  cases d with
  | tup ys =>
    cases e
    obtain ⟨a, vs, rfl, h, q⟩ := r.tup_v
    exact ⟨a, vs, rfl, q, .inl ⟨rfl, h⟩⟩
  | lst ys =>
    cases e
    obtain ⟨a, vs, rfl, h, _, q⟩ := r.lst_v
    exact ⟨a, vs, rfl, q, .inr h⟩
  | ref a =>
    cases r.ref_v
    obtain ⟨vs, h1, r1⟩ := m.ob a _ (of_lstOf e)
    exact ⟨a, vs, rfl, r1, .inr h1⟩
  | _ => cases e
def tup1R : DRC := fun xs M Q => match xs with
  | [x] => (match rdS M x with | some ys => Q (.tup ys) M | none => False)
  | _ => False
def tup1T (K : PySem.W.Frag) : List V → Hp → VK → Prop := fun xs H Q => ∃ p ys, xs = [.ref p] ∧ ((SqL K H p ys ∧ NewT H ys Q) ∨ (SqT K H p ys ∧ Q (.ref p) H))
theorem lift_tup1 {K : PySem.W.Frag} : LiftC K (tup1T K) tup1R := by
  intro vs ds H M Q Q0 r m h k
  unfold tup1R at h
  split at h
  · split at h
    · rename_i x ys e
      obtain ⟨v, rfl, r1⟩ := r.one
      obtain ⟨a, us, rfl, ra, h1 | h1⟩ := rdS_v m r1 e
      · rw [h1.1] at r1
        exact ⟨a, us, rfl, .inr ⟨h1.2, k _ H _ M r1 m GG.refl h⟩⟩
      · exact ⟨a, us, rfl, .inl ⟨SqL.of h1, new_tup m ra h k⟩⟩
    · exact h.elim
  · exact h.elim
def strsOf : List D → Option (List Str)
  | [] => some []
  | .str i :: r => (strsOf r).map (i :: ·)
  | _ => none
theorem strsOf_v {K : PySem.W.Frag} {H : HF} : ∀ {ds : List D} {vs : List V} {ns : List Str}, VRs K H ds vs → strsOf ds = some ns → vs = ns.map V.str
  | [], _, _, r, h => by cases r; simp [strsOf] at h; subst h; rfl
  | d :: ds, _, ns, r, h => by
    cases r with
    | cons r1 r2 =>
      cases d with
      | str i =>
        simp only [strsOf, Option.map_eq_some_iff] at h
        obtain ⟨ms, h1, rfl⟩ := h
        rw [r1.str_v, strsOf_v r2 h1]
        rfl
      | _ => simp [strsOf] at h
theorem strsOf_map {α : Type} (f : α → Str) : ∀ l : List α, strsOf (l.map fun x => D.str (f x)) = some (l.map f)
  | [] => rfl
  | a :: l => by rw [List.map_cons, strsOf, strsOf_map f l]; rfl
section
variable {X : Cx} {p pos : Pos} {e f : Expr} {es : List Expr} {t : TDA} {tl : TDL}
theorem je_len (hm : X.mg "len" = none) (ha : JA X (e :: es) t) (hg : Gl X "len" := by rfl) (he : starEach (e :: es) X.env = (false, eval e X.env) :: starEach es X.env := by rfl) (hpl : (backTo pos (starEach es X.env)).any (·.1) = false := by rfl) :
    JE X (.Call (.Name "len" p) (e :: es) [] pos) (dCB lenR t) := je_callB call_lenT lift_len hg hm PySem.boot_len ha (by decide) (by decide) he hpl
theorem je_int1 (hm : X.mg "int" = none) (ha : JA X (e :: es) t) (hg : Gl X "int" := by rfl) (he : starEach (e :: es) X.env = (false, eval e X.env) :: starEach es X.env := by rfl) (hpl : (backTo pos (starEach es X.env)).any (·.1) = false := by rfl) :
    JE X (.Call (.Name "int" p) (e :: es) [] pos) (dCB int1R t) := je_callTy call_int1 lift_int1 hg hm PyProof.Rows.boot_int ha (by decide) (by decide) he hpl
theorem je_str1 (hm : X.mg "str" = none) (ha : JA X (e :: es) t) (hg : Gl X "str" := by rfl) (he : starEach (e :: es) X.env = (false, eval e X.env) :: starEach es X.env := by rfl) (hpl : (backTo pos (starEach es X.env)).any (·.1) = false := by rfl) :
    JE X (.Call (.Name "str" p) (e :: es) [] pos) (dCB str1R t) := je_callTy call_str_int lift_str1 hg hm PyProof.Rows.boot_str ha (by decide) (by decide) he hpl
theorem je_isi (hm : X.mg "isinstance" = none) (ha : JA X (e :: es) t) (hg : Gl X "isinstance" := by rfl) (he : starEach (e :: es) X.env = (false, eval e X.env) :: starEach es X.env := by rfl) (hpl : (backTo pos (starEach es X.env)).any (·.1) = false := by rfl) :
    JE X (.Call (.Name "isinstance" p) (e :: es) [] pos) (dCB isiR t) := je_callB call_isi lift_isi hg hm PyProof.Rows.boot_isinstance ha (by decide) (by decide) he hpl
theorem je_tuple (hm : X.mg "tuple" = none) (ha : JA X (e :: es) t) (hg : Gl X "tuple" := by rfl) (he : starEach (e :: es) X.env = (false, eval e X.env) :: starEach es X.env := by rfl) (hpl : (backTo pos (starEach es X.env)).any (·.1) = false := by rfl) :
    JE X (.Call (.Name "tuple" p) (e :: es) [] pos) (dCB tup1R t) := je_callTy call_tupC lift_tup1 hg hm PyProof.Rows.boot_tuple ha (by decide) (by decide) he hpl
def dListOf (t : TDA) : TDL := fun ds M Q => t ds M fun xs M1 => match xs with
  | [x] => (match rdS M1 x with | some ys => Q ys M1 | none => False)
  | _ => False
theorem jl_list (hm : X.mg "list" = none) (ha : JA X (e :: es) t) (hg : Gl X "list" := by rfl) (he : starEach (e :: es) X.env = (false, eval e X.env) :: starEach es X.env := by rfl) (hpl : (backTo pos (starEach es X.env)).any (·.1) = false := by rfl) :
    JL X (.Call (.Name "list" p) (e :: es) [] pos) (dListOf t) := by
  obtain ⟨u, q, g⟩ := ha
  refine ⟨_, pe_callTy call_list_of hg hm PyProof.Rows.boot_list q (by decide) (by decide) he hpl, fun ds σ H M Q Q0 s m q k => ?_⟩
  refine g ds σ H M _ _ s m q fun vs H1 es M1 r1 m1 g1 q1 => ?_
  split at q1
  · split at q1
    · rename_i x ys e
      obtain ⟨v, rfl, r5⟩ := r1.one
      obtain ⟨a, us, rfl, ra, h1⟩ := rdS_v m1 r5 e
      have fin : ∀ l, H1.h l = none → Q0 (.ref l) (upd H1.h l (.lst us)) := fun l hl => k l (H1.up l _) _ us M1 (g1.free hl) upd_same (VRs.mono (TX.new m1 hl) _ _ ra) (m1.free hl) (m1.freeF hl) (m1.newT hl) (g1.trans (GG.newT hl)) q1
      rcases h1 with h1 | h1
      · exact ⟨a, us, rfl, .inr h1.2, fin⟩
      · exact ⟨a, us, rfl, .inl (SqL.of h1), fin⟩
    · exact q1.elim
  · exact q1.elim
end
end DM
namespace DM
open PySem L2
open PyProof.Rows (b2i)
abbrev DRM := D → List D → Mm → DQ → Prop
def LiftM (K : PySem.W.Frag) (r : V → List V → Hp → VK → Prop) (dr : DRM) : Prop := ∀ (x : V) (vs : List V) (dx : D) (ds : List D) (H : HF) (M : Mm) (Q : DQ) (Q0 : VK), VR K H dx x → VRs K H ds vs → MR K M H → dr dx ds M Q →
  (∀ v H' d M', VR K H' d v → MR K M' H' → GG M H M' H' → Q d M' → Q0 v H'.h) → r x vs H.h Q0
def isLst (x : D) (M : Mm) : Prop := match x with | .ref a => (lstOf M a).isSome = true | _ => False
theorem isLst_ty {K : PySem.W.Frag} {M : Mm} {H : HF} {x : D} {v : V} (r : VR K H x v) (m : MR K M H) (h : isLst x M) : tyV K "list" v H.h := by
  cases r with
  | ref a =>
    have h' : (lstOf M a).isSome = true := h
    obtain ⟨xs, e⟩ := Option.isSome_iff_exists.mp h'
    obtain ⟨vs, h1, _⟩ := m.ob a _ (of_lstOf e)
    exact .inl ⟨rfl, vs, SqL.of h1⟩
  | _ => exact h.elim
def dBM (r : DRM) (to : TDE) (t : TDA) : TDE := fun ds M Q => to ds M fun x M1 => isLst x M1 ∧ t ds M1 fun xs M2 => r x xs M2 Q
def dBM0 (r : DRM) (to : TDE) : TDE := fun ds M Q => to ds M fun x M1 => isLst x M1 ∧ r x [] M1 Q
section
variable {X : Cx} {o e : Expr} {es : List Expr} {to : TDE} {t : TDA} {name : Str} {apos cpos : Pos} {id : String} {r : V → List V → Hp → VK → Prop} {dr : DRM}
theorem je_bm0 (slot : Slot "list" name id) (hty : typeOf (.builtin id) = pure (.type "method_descriptor")) (hm : MtR X id r) (hl : LiftM X.K r dr) (ho : JE X o to)
    (hbase : attributeBase o name X.env (eval o X.env) = eval o X.env := by rfl) (hline : (apos.endLine == cpos.line) = true := by rfl) : JE X (.Call (.Attribute o name apos) [] [] cpos) (dBM0 dr to) := by
  obtain ⟨u, p, g⟩ := ho
  refine je_pe (pe_bm0 PySem.F.plainAttrs_list slot hty hm p hbase hline) fun ds σ H M Q Q0 s m q k => ?_
  refine g ds σ H M _ _ s m q fun v H1 d M1 r1 m1 g1 q1 => ⟨isLst_ty r1 m1 q1.1, ?_⟩
  exact hl v [] d [] H1 M1 Q Q0 r1 .nil m1 q1.2 fun w H2 d2 M2 r2 m2 g2 q2 => k w H2 d2 M2 r2 m2 (g1.trans g2) q2
theorem je_bm (slot : Slot "list" name id) (hty : typeOf (.builtin id) = pure (.type "method_descriptor")) (hm : MtR X id r) (hl : LiftM X.K r dr) (ho : JE X o to) (ha : JA X (e :: es) t)
    (hbase : attributeBase o name X.env (eval o X.env) = eval o X.env := by rfl)
    (hfew : ((backTo cpos (starEach (e :: es) X.env)).all (fun x => !x.1) && (backToKw cpos (keywordEach [] X.env)).all (fun x => x.1.isSome)
      && decide ((e :: es).length + ([] : List Keyword).length + (if ([] : List Keyword).isEmpty then 0 else 1) < 30)) = true := by rfl)
    (hline : (apos.endLine == cpos.line) = true := by rfl) (hs : starEach (e :: es) X.env = (false, eval e X.env) :: starEach es X.env := by rfl) (hplain : (backTo cpos (starEach es X.env)).any (·.1) = false := by rfl) :
    JE X (.Call (.Attribute o name apos) (e :: es) [] cpos) (dBM dr to t) := by
  obtain ⟨u, p, g⟩ := ho
  obtain ⟨u', p', g'⟩ := ha
  refine je_pe (pe_bm PySem.F.plainAttrs_list slot hty hm p p' hbase hfew hline hs hplain) fun ds σ H M Q Q0 s m q k => ?_
  refine g ds σ H M _ _ s m q fun v H1 d M1 r1 m1 g1 q1 => ⟨isLst_ty r1 m1 q1.1, ?_⟩
  refine g' ds σ H1 M1 _ _ (s.gg m g1) m1 q1.2 fun vs H2 xs M2 r2 m2 g2 q2 => ?_
  exact hl v vs d xs H2 M2 Q Q0 (VR.mono (g2.tx m1) _ _ r1) r2 m2 q2 fun w H3 d3 M3 r3 m3 g3 q3 => k w H3 d3 M3 r3 m3 ((g1.trans g2).trans g3) q3
end
def appendR : DRM := fun x xs M Q => match x, xs with
  | .ref a, [d] => (match lstOf M a with | some ys => ys.length < sizeLine ∧ Q .non (mup M a (.lst (ys ++ [d]))) | none => False)
  | _, _ => False
theorem lift_append {K : PySem.W.Frag} : LiftM K rAppend appendR := by
  intro x vs dx ds H M Q Q0 rx rs m h k
  unfold appendR at h
  split at h
  · rename_i a d
    cases rx.ref_v
    obtain ⟨v, rfl, r1⟩ := rs.one
    split at h
    · rename_i ys e
      obtain ⟨hz, h⟩ := h
      obtain ⟨us, h1, r2⟩ := m.ob a _ (of_lstOf e)
      have t := TX.put (u := .lst (us ++ [v])) m (of_lstOf e)
      refine ⟨a, us, v, rfl, rfl, h1, by rw [← r2.length]; exact hz, ?_⟩
      exact k _ (H.up a _) _ _ .non (m.put (w := .lst (ys ++ [d])) (of_lstOf e) ⟨_, upd_same, VRs.append (VRs.mono t _ _ r2) (.cons (VR.mono t _ _ r1) .nil)⟩) (GG.put (of_lstOf e)) h
    · exact h.elim
  · exact h.elim
def popR : DRM := fun x xs M Q => match x, xs with
  | .ref a, [] => (match lstOf M a with | some ys => (match ys[ys.length - 1]? with | some d => Q d (mup M a (.lst ys.dropLast)) | none => False) | none => False)
  | _, _ => False
theorem lift_pop {K : PySem.W.Frag} : LiftM K rPop popR := by
  intro x vs dx ds H M Q Q0 rx rs m h k
  unfold popR at h
  split at h
  · rename_i a
    cases rx.ref_v
    cases rs
    split at h
    · rename_i ys e
      split at h
      · rename_i d e2
        obtain ⟨us, h1, r2⟩ := m.ob a _ (of_lstOf e)
        rw [r2.length] at e2
        obtain ⟨v, e3, r3⟩ := r2.get e2
        have t := TX.put (u := .lst us.dropLast) m (of_lstOf e)
        exact ⟨a, us, v, rfl, rfl, h1, e3, k _ (H.up a _) _ _ (VR.mono t _ _ r3) (m.put (w := .lst ys.dropLast) (of_lstOf e) ⟨_, upd_same, (VRs.mono t _ _ r2).dropLast⟩) (GG.put (of_lstOf e)) h⟩
      · exact h.elim
    · exact h.elim
  · exact h.elim
def popAtR : DRM := fun x xs M Q => match x, xs with
  | .ref a, [.int i] => (match lstOf M a with | some ys => (0 ≤ i ∧ i < 2 ^ 62) ∧ (match ys[i.toNat]? with | some d => Q d (mup M a (.lst (ys.eraseIdx i.toNat))) | none => False) | none => False)
  | _, _ => False
theorem lift_popAt {K : PySem.W.Frag} : LiftM K rPopAt popAtR := by
  intro x vs dx ds H M Q Q0 rx rs m h k
  unfold popAtR at h
  split at h
  · rename_i a i
    cases rx.ref_v
    obtain ⟨v, rfl, r1⟩ := rs.one
    cases r1.int_v
    split at h
    · rename_i ys e
      obtain ⟨⟨h0, hi⟩, h⟩ := h
      split at h
      · rename_i d e2
        obtain ⟨us, h1, r2⟩ := m.ob a _ (of_lstOf e)
        obtain ⟨v, e3, r3⟩ := r2.get e2
        have t := TX.put (u := .lst (us.eraseIdx i.toNat)) m (of_lstOf e)
        have hlt := (List.getElem?_eq_some_iff.mp e3).1
        refine ⟨a, us, i, i.toNat, v, rfl, rfl, h1, by omega, by omega, ?_, e3, ?_⟩
        · exact seqIndex_of h0 (by omega)
        · exact k _ (H.up a _) _ _ (VR.mono t _ _ r3) (m.put (w := .lst (ys.eraseIdx i.toNat)) (of_lstOf e) ⟨_, upd_same, (VRs.mono t _ _ r2).eraseIdx _⟩) (GG.put (of_lstOf e)) h
      · exact h.elim
    · exact h.elim
  · exact h.elim
def insertR : DRM := fun x xs M Q => match x, xs with
  | .ref a, [.int i, d] => (match lstOf M a with | some ys => (ys.length < sizeLine ∧ 0 ≤ i ∧ i < 2 ^ 62) ∧ Q .non (mup M a (.lst (ys.take i.toNat ++ [d] ++ ys.drop i.toNat))) | none => False)
  | _, _ => False
def insertT : V → List V → Hp → VK → Prop := fun x vs H Q => ∃ (l : Addr) (xs : List V) (i : Int) (y : V), x = .ref l ∧ vs = [.int i, y] ∧ H l = some (.lst xs) ∧ xs.length < sizeLine ∧ 0 ≤ i ∧ i < 2 ^ 63 ∧
    Q .non (upd H l (.lst (xs.take i.toNat ++ [y] ++ xs.drop i.toNat)))
theorem lift_insert {K : PySem.W.Frag} : LiftM K insertT insertR := by
  intro x vs dx ds H M Q Q0 rx rs m h k
  unfold insertR at h
  split at h
  · rename_i a i d
    cases rx.ref_v
    obtain ⟨v, w, rfl, r1, r4⟩ := rs.two
    cases r1.int_v
    split at h
    · rename_i ys e
      obtain ⟨⟨hz, h0, hi⟩, h⟩ := h
      obtain ⟨us, h1, r2⟩ := m.ob a _ (of_lstOf e)
      have t := TX.put (u := .lst (us.take i.toNat ++ [w] ++ us.drop i.toNat)) m (of_lstOf e)
      have r2' := VRs.mono t _ _ r2
      refine ⟨a, us, i, w, rfl, rfl, h1, by rw [← r2.length]; exact hz, h0, by omega, ?_⟩
      exact k _ (H.up a _) _ _ .non (m.put (w := .lst (ys.take i.toNat ++ [d] ++ ys.drop i.toNat)) (of_lstOf e) ⟨_, upd_same, VRs.append (VRs.append (r2'.take _) (.cons (VR.mono t _ _ r4) .nil)) (r2'.drop _)⟩) (GG.put (of_lstOf e)) h
    · exact h.elim
  · exact h.elim
section
variable {X : Cx} {o e f : Expr} {to te tf : TDE} {apos cpos : Pos}
theorem je_append (ho : JE X o to) (ha : JE X e te) (hbase : attributeBase o "append" X.env (eval o X.env) = eval o X.env := by rfl)
    (hfew : ((backTo cpos (starEach [e] X.env)).all (fun x => !x.1) && (backToKw cpos (keywordEach [] X.env)).all (fun x => x.1.isSome)
      && decide (([e]).length + ([] : List Keyword).length + (if ([] : List Keyword).isEmpty then 0 else 1) < 30)) = true := by rfl)
    (hline : (apos.endLine == cpos.line) = true := by rfl) (hs : starEach [e] X.env = (false, eval e X.env) :: starEach [] X.env := by rfl) (hplain : (backTo cpos (starEach [] X.env)).any (·.1) = false := by rfl) :
    JE X (.Call (.Attribute o "append" apos) [e] [] cpos) (dBM appendR to (dCons te dNil)) := je_bm PySem.F.slot_list_append PySem.F.type_list_append mt_append lift_append ho (ja_cons ha ja_nil hs) hbase hfew hline hs hplain
theorem je_pop0 (ho : JE X o to) (hbase : attributeBase o "pop" X.env (eval o X.env) = eval o X.env := by rfl) (hline : (apos.endLine == cpos.line) = true := by rfl) :
    JE X (.Call (.Attribute o "pop" apos) [] [] cpos) (dBM0 popR to) := je_bm0 PySem.F.slot_list_pop PySem.F.type_list_pop mt_pop lift_pop ho hbase hline
theorem je_popAt (ho : JE X o to) (ha : JE X e te) (hbase : attributeBase o "pop" X.env (eval o X.env) = eval o X.env := by rfl)
    (hfew : ((backTo cpos (starEach [e] X.env)).all (fun x => !x.1) && (backToKw cpos (keywordEach [] X.env)).all (fun x => x.1.isSome)
      && decide (([e]).length + ([] : List Keyword).length + (if ([] : List Keyword).isEmpty then 0 else 1) < 30)) = true := by rfl)
    (hline : (apos.endLine == cpos.line) = true := by rfl) (hs : starEach [e] X.env = (false, eval e X.env) :: starEach [] X.env := by rfl) (hplain : (backTo cpos (starEach [] X.env)).any (·.1) = false := by rfl) :
    JE X (.Call (.Attribute o "pop" apos) [e] [] cpos) (dBM popAtR to (dCons te dNil)) := je_bm PySem.F.slot_list_pop PySem.F.type_list_pop mt_popAt lift_popAt ho (ja_cons ha ja_nil hs) hbase hfew hline hs hplain
theorem je_insert (ho : JE X o to) (ha : JE X e te) (hb : JE X f tf) (hbase : attributeBase o "insert" X.env (eval o X.env) = eval o X.env := by rfl)
    (hfew : ((backTo cpos (starEach [e, f] X.env)).all (fun x => !x.1) && (backToKw cpos (keywordEach [] X.env)).all (fun x => x.1.isSome)
      && decide (([e, f]).length + ([] : List Keyword).length + (if ([] : List Keyword).isEmpty then 0 else 1) < 30)) = true := by rfl)
    (hline : (apos.endLine == cpos.line) = true := by rfl) (hs : starEach [e, f] X.env = (false, eval e X.env) :: starEach [f] X.env := by rfl) (hs2 : starEach [f] X.env = (false, eval f X.env) :: starEach [] X.env := by rfl) (hplain : (backTo cpos (starEach [f] X.env)).any (·.1) = false := by rfl) :
    JE X (.Call (.Attribute o "insert" apos) [e, f] [] cpos) (dBM insertR to (dCons te (dCons tf dNil))) := je_bm PySem.F.slot_list_insert PySem.F.type_list_insert mt_insert lift_insert ho (ja_cons ha (ja_cons hb ja_nil hs2) hs) hbase hfew hline hs hplain
def joinQ (a : Str) (xs : List D) (M : Mm) (Q : DQ) : Prop := match strsOf xs with | some ys => (ys.map (·.length)).sum + ys.length * a.length ≤ 16777216 ∧ Q (.str (Txt.join a ys)) M | none => False
def dJoin (to te : TDE) : TDE := fun ds M Q => to ds M fun x M1 => match x with
  | .str a => te ds M1 fun y M2 => (match rdL M2 y with | some xs => joinQ a xs M2 Q | none => False)
  | _ => False
theorem je_join (ho : JE X o to) (he : JE X e te) (hs : starEach [e] X.env = [(false, eval e X.env)] := by rfl) (hbase : attributeBase o "join" X.env (eval o X.env) = eval o X.env := by rfl) (hline : (apos.endLine == cpos.line) = true := by rfl) :
    JE X (.Call (.Attribute o "join" apos) [e] [] cpos) (dJoin to te) := by
  obtain ⟨u, p, g⟩ := ho
  obtain ⟨u', p', g'⟩ := he
  refine je_pe (pe_join p p' hs hbase hline) fun ds σ H M Q Q0 s m q k => ?_
  refine g ds σ H M _ _ s m q fun v H1 d M1 r1 m1 g1 q1 => ?_
  cases d with
  | str a =>
    cases r1.str_v
    refine ⟨⟨a, rfl⟩, ?_⟩
    refine g' ds σ H1 M1 _ _ (s.gg m g1) m1 q1 fun w H2 d2 M2 r2 m2 g2 q2 => ?_
    split at q2
    · rename_i xs e
      unfold joinQ at q2
      split at q2
      · rename_i ys e2
        obtain ⟨b, vs, rfl, h1, r3⟩ := rdL_v m2 r2 e
        exact ⟨a, b, ys, rfl, rfl, .inl (by rw [← strsOf_v r3 e2]; exact SqL.of h1), q2.1, k _ H2 _ M2 (.str _) m2 (g1.trans g2) q2.2⟩
      · exact q2.elim
    · exact q2.elim
  | _ => exact q1.elim
end
def keyD : D → Option Key
  | .int i => some (.inl i)
  | .str x => some (.inr x)
  | _ => none
theorem keyD_v {K : PySem.W.Frag} {H : HF} {d : D} {v : V} {k : Key} (r : VR K H d v) (h : keyD d = some k) : v = kV k := by
  cases r with
  | int i => cases h; rfl
  | str i => cases h; rfl
  | _ => cases h
def valD (kvs : List (Key × D)) (k : Key) : Option D := (kvs.find? fun kv => decide (kv.1 = k)).map (·.2)
def putD (kvs : List (Key × D)) (k : Key) (d : D) : List (Key × D) :=
  if (kvs.any fun kv => decide (kv.1 = k)) = true then kvs.map (fun kv => if kv.1 = k then (kv.1, d) else kv) else kvs ++ [(k, d)]
section
variable {K : PySem.W.Frag} {H : HF}
theorem FR.val : ∀ {ds : List (Key × D)} {vs : List (Key × V)} {k : Key} {d : D}, FR K H ds vs → valD ds k = some d → ∃ v, valV vs k = some v ∧ VR K H d v
  | _, _, _, _, .nil, h => by simp [valD] at h
  | (k', d') :: ds, (_, v') :: vs, k, d, .cons r q, h => by
    unfold valD valV at *
    by_cases e : k' = k
    · simp [List.find?_cons, e] at h ⊢
      subst h
      exact r
    · simp only [List.find?_cons, e, decide_false] at h ⊢
      exact FR.val (k := k) (d := d) q h
theorem FR.valN : ∀ {ds : List (Key × D)} {vs : List (Key × V)} {k : Key}, FR K H ds vs → valD ds k = none → valV vs k = none
  | _, _, _, .nil, h => by simp [valV]
  | (k', d') :: ds, (_, v') :: vs, k, .cons r q, h => by
    unfold valD valV at *
    by_cases e : k' = k
    · simp [List.find?_cons, e] at h
    · simp only [List.find?_cons, e, decide_false] at h ⊢
      exact FR.valN (k := k) q h
theorem FR.any : ∀ {ds : List (Key × D)} {vs : List (Key × V)} {k : Key}, FR K H ds vs → (ds.any fun kv => decide (kv.1 = k)) = vs.any fun kv => decide (kv.1 = k)
  | _, _, _, .nil => rfl
  | (k', d') :: ds, (_, v') :: vs, k, .cons r q => by rw [List.any_cons, List.any_cons, FR.any q]
theorem FR.snoc {k : Key} {d : D} {v : V} (r : VR K H d v) : ∀ {ds : List (Key × D)} {vs : List (Key × V)}, FR K H ds vs → FR K H (ds ++ [(k, d)]) (vs ++ [(k, v)])
  | _, _, .nil => .cons r .nil
  | _, _, .cons q t => .cons q (FR.snoc r t)
theorem FR.repl {k : Key} {d : D} {v : V} (r : VR K H d v) : ∀ {ds : List (Key × D)} {vs : List (Key × V)}, FR K H ds vs → FR K H (ds.map fun kv => if kv.1 = k then (kv.1, d) else kv) (vs.map fun kv => if kv.1 = k then (kv.1, v) else kv)
  | _, _, .nil => .nil
  | (k', d') :: ds, (_, v') :: vs, .cons q t => by
    rw [List.map_cons, List.map_cons]
    by_cases e : k' = k
    · simp only [e, if_true]
      exact .cons r (FR.repl r t)
    · simp only [e, if_false]
      exact .cons q (FR.repl r t)
theorem FR.put {k : Key} {d : D} {v : V} (r : VR K H d v) {ds : List (Key × D)} {vs : List (Key × V)} (h : FR K H ds vs) : FR K H (putD ds k d) (putK vs k v) := by
  unfold putD putK
  rw [h.any]
  split
  · exact h.repl r
  · exact h.snoc r
end
def dicOf (M : Mm) (a : Addr) : Option (List (Key × D)) := match M a with | some (.dic kvs) => some kvs | _ => none
theorem dicOf_some {M : Mm} {a : Addr} {xs : List (Key × D)} (h : M a = some (.dic xs)) : dicOf M a = some xs := by unfold dicOf; rw [h]
theorem of_dicOf {M : Mm} {a : Addr} {xs : List (Key × D)} (h : dicOf M a = some xs) : M a = some (.dic xs) := by
  unfold dicOf at h
  split at h
  · cases h; assumption
  · cases h
def dicL (M : Mm) (a : Addr) : Option (List (Key × D)) := match M a with | some (.lkK _ _ kvs) => some kvs | _ => none
theorem of_dicL {M : Mm} {a : Addr} {xs : List (Key × D)} (h : dicL M a = some xs) : ∃ ob us, M a = some (.lkK ob us xs) := by
  unfold dicL at h
  split at h
  · cases h; exact ⟨_, _, by assumption⟩
  · cases h
def orT {α : Type} (x y : Option α) : Option α := match x with | some v => some v | none => y
@[simp] theorem orT_some {α : Type} {v : α} {y : Option α} : orT (some v) y = some v := (rfl)
@[simp] theorem orT_none {α : Type} {y : Option α} : orT none y = y := (rfl)
theorem orT_eq {α : Type} {x y : Option α} {v : α} (h : orT x y = some v) : x = some v ∨ y = some v := by
  cases x with
  | none => exact .inr h
  | some z => exact .inl h
def rdDL (M : Mm) : D → Option (List (Key × D))
  | .dic kvs => some kvs
  | .ref a => orT (dicOf M a) (dicL M a)
  | _ => none
@[simp] theorem rdDL_dic {M : Mm} {kvs : List (Key × D)} : rdDL M (.dic kvs) = some kvs := rfl
@[simp] theorem rdDL_ref {M : Mm} {a : Addr} : rdDL M (.ref a) = orT (dicOf M a) (dicL M a) := rfl
theorem rdDL_of {M : Mm} {a : Addr} {kvs : List (Key × D)} (h : dicOf M a = some kvs) : rdDL M (.ref a) = some kvs := by rw [rdDL_ref, h]; rfl
theorem rdDL_v {K : PySem.W.Frag} {M : Mm} {H : HF} {d : D} {v : V} {xs : List (Key × D)} (m : MR K M H) (r : VR K H d v) (e : rdDL M d = some xs) : ∃ a vs, v = .ref a ∧ Rd H.h a (.dK vs) ∧ FR K H xs vs := by
  cases d with
  | dic ys =>
    cases e
    obtain ⟨a, vs, rfl, h, _, q⟩ := r.dic_v
    exact ⟨a, vs, rfl, .inl h, q⟩
  | ref a =>
    cases r.ref_v
    rcases orT_eq e with e | e
    · obtain ⟨vs, h1, r1⟩ := m.ob a _ (of_dicOf e)
      exact ⟨a, vs, rfl, .inl h1, r1⟩
    · obtain ⟨ob, us, e⟩ := of_dicL e
      obtain ⟨h1, r1⟩ := m.ob a _ e
      exact ⟨a, us, rfl, .inr ⟨ob, h1⟩, r1⟩
  | _ => cases e
theorem DGet.kr {H : Hp} {a : Addr} {kvs : List (Key × V)} {k : Key} (e : Rd H a (.dK kvs)) : DGet H a (kV k) (valV kvs k) := .inl ⟨kvs, k, e, rfl, rfl⟩
theorem DGet.tr {H : Hp} {a b : Addr} {kvs : List (List Key × V)} {k : List Key} (e : Rd H a (.dT kvs)) (eb : H b = some (.tup (k.map kV))) : DGet H a (.ref b) (valV kvs k) := .inr ⟨kvs, k, b, e, rfl, eb, rfl⟩
def rdD (M : Mm) : D → Option (List (Key × D))
  | .dic kvs => some kvs
  | .ref a => dicOf M a
  | _ => none
@[simp] theorem rdD_dic {M : Mm} {kvs : List (Key × D)} : rdD M (.dic kvs) = some kvs := rfl
@[simp] theorem rdD_ref {M : Mm} {a : Addr} : rdD M (.ref a) = dicOf M a := rfl
theorem rdD_v {K : PySem.W.Frag} {M : Mm} {H : HF} {d : D} {v : V} {xs : List (Key × D)} (m : MR K M H) (r : VR K H d v) (e : rdD M d = some xs) : ∃ a vs, v = .ref a ∧ H.h a = some (.dK vs) ∧ FR K H xs vs := by
  cases d with
  | dic ys =>
    cases e
    obtain ⟨a, vs, rfl, h, _, q⟩ := r.dic_v
    exact ⟨a, vs, rfl, h, q⟩
  | ref a =>
    cases r.ref_v
    obtain ⟨vs, h1, r1⟩ := m.ob a _ (of_dicOf e)
    exact ⟨a, vs, rfl, h1, r1⟩
  | _ => cases e
def dgetR : DR2 := fun x y M Q => match rdDL M x, keyD y with
  | some kvs, some k => (match valD kvs k with | some d => Q d M | none => False)
  | _, _ => False
section
variable {X : Cx} {o i e : Expr} {to ti te : TDE} {pos pos' : Pos} {k : Nat}
theorem je_dget (hr : Room k X.A) (ho : JE X o to) (hi : JE X i ti) (hs : NoSl i := by exact fun _ _ => rfl) : JE X (.Subscript o i pos) (dOp dgetR to ti) := by
  obtain ⟨u, p, g⟩ := ho
  obtain ⟨u', p', g'⟩ := hi
  refine je_pe (pe_dget (hu_of hr) p p' hs) fun ds σ H M Q Q0 s m q kk => ?_
  refine g ds σ H M _ _ s m q fun v H1 d M1 r1 m1 g1 q1 => ?_
  refine g' ds σ H1 M1 _ _ (s.gg m g1) m1 q1 fun w H2 d2 M2 r2 m2 g2 q2 => ?_
  unfold dgetR at q2
  split at q2
  · rename_i kvs k e1 e2
    split at q2
    · rename_i d3 e3
      obtain ⟨a, vs, rfl, h1, r3⟩ := rdDL_v m2 (VR.mono (g2.tx m1) _ _ r1) e1
      obtain ⟨z, e4, r4⟩ := r3.val e3
      rw [keyD_v r2 e2]
      exact ⟨a, z, rfl, by rw [← e4]; exact DGet.kr h1, kk _ H2 _ M2 r4 m2 (g1.trans g2) q2⟩
    · exact q2.elim
  · exact q2.elim
def dputS (te to ti : TDE) : TDS := fun D ds M => te ds M fun v M1 => to ds M1 fun x M2 => ti ds M2 fun y M3 => match x, keyD y with
  | .ref a, some k => (match dicOf M3 a with | some kvs => kvs.length < sizeLine ∧ D.nx ds (mup M3 a (.dic (putD kvs k v))) | none => False)
  | _, _ => False
theorem js_dput {W : WX} (hr : Room k X.A) (ho : JE X o to) (hi : JE X i ti) (he : JE X e te) (hs : swapsWith e (some (.Subscript o i pos')) pos.line X.env = pure false := by rfl) : JS X W (.Assign [.Subscript o i pos'] e pos) (dputS te to ti) := by
  obtain ⟨u, p, g⟩ := ho
  obtain ⟨u', p', g'⟩ := hi
  obtain ⟨ue, pe, ge⟩ := he
  refine ⟨_, ps_dput (hu_of hr) p p' pe hs, fun M0 H0 D0 D1 l ds σ H M gg s m q => ?_⟩
  refine ge ds σ H M _ _ s m q fun v H1 d M1 r1 m1 g1 q1 => ?_
  refine g ds σ H1 M1 _ _ (s.gg m g1) m1 q1 fun w H2 d2 M2 r2 m2 g2 q2 => ?_
  refine g' ds σ H2 M2 _ _ (s.gg m (g1.trans g2)) m2 q2 fun z H3 d3 M3 r3 m3 g3 q3 => ?_
  split at q3
  · rename_i a k e1
    cases r2.ref_v
    split at q3
    · rename_i kvs e2
      obtain ⟨hz, q3⟩ := q3
      obtain ⟨vs, h1, r4⟩ := m3.ob a _ (of_dicOf e2)
      rw [keyD_v r3 e1]
      refine ⟨a, _, rfl, DPut.k h1 (by rw [← r4.length]; exact hz), ?_⟩
      have t := TX.put (u := .dK (putK vs k v)) m3 (of_dicOf e2)
      have r1' : VR X.K H3 d v := VR.mono ((g2.trans g3).tx m1) _ _ r1
      have gp : GG M3 H3 (mup M3 a (.dic (putD kvs k d))) (H3.up a (.dK (putK vs k v))) := GG.put (of_dicOf e2)
      exact l.nx σ ds _ _ ((((gg.trans g1).trans g2).trans g3).trans gp) ((s.gg m ((g1.trans g2).trans g3)).gg m3 gp)
        (m3.put (w := .dic (putD kvs k d)) (of_dicOf e2) ⟨_, upd_same, (r4.mono t).put (VR.mono t _ _ r1')⟩) q3
    · exact q3.elim
  · exact q3.elim
def dlputS (te to ti : TDE) : TDS := fun D ds M => te ds M fun v M1 => to ds M1 fun x M2 => ti ds M2 fun y M3 => match x, y with
  | .ref a, .int i => (match lstOf M3 a with | some xs => (match ixN xs.length i with | some j => D.nx ds (mup M3 a (.lst (xs.set j v))) | none => False) | none => False)
  | _, _ => False
end
end DM
namespace DM
open PySem L2
open PyProof.Rows (b2i)
theorem pi_any {X : Cx} {tg l : Expr} {tl : TE} (hl : PE X l tl) : PI X tg l (fun σ H R => tl σ H fun x H1 => (∃ a, x = .ref a ∧ (∃ xs, SqL X.K H1 a xs) ∧ R (Itl X.K a) H1) ∨ (∃ a, x = .ref a ∧ (∃ xs, SqT X.K H1 a xs) ∧ R (Itt X.K a) H1) ∨ ∃ z, x = .str z ∧ R (Its z) H1) := by
  refine ⟨fun pins s σ H R I h => ?_⟩
  refine thn (hl.run pins s σ H _ I h) fun v s1 ⟨x, H1, I1, r1, q1⟩ => ?_
  rcases q1 with ⟨a, e, ⟨xs, hq⟩, q⟩ | ⟨a, e, ⟨xs, hq⟩, q⟩ | ⟨z, e, q⟩
  · subst e
    cases r1
    obtain ⟨its, rv, p, hz⟩ := I1.list hq
    refine wpAny_pyIter_list p.isList ?_
    refine ⟨s1.heap.objs.size, [s1.heap.objs.size], _, _, H1, rfl, I1.kept (t' := s1.toks) fun b o e => Heap.get?_push_of_some _ e, turn_list a _, ⟨_, Heap.get?_push_size _ rfl, rfl, rfl⟩, fun b hb => ?_, q⟩
    have e : b = s1.heap.objs.size := by simpa using hb
    subst e
    exact I1.fpOk (Nat.le_refl _) (I1.hok.fresh (Nat.le_refl _))
  · subst e
    cases r1
    obtain ⟨its, rv, p, hz⟩ := I1.tuple hq
    refine wpAny_pyIter_tuple (show s1.heap.IsTuple a its.toArray from p) ?_
    refine ⟨s1.heap.objs.size, [s1.heap.objs.size], _, _, H1, rfl, I1.kept (t' := s1.toks) fun b o e => Heap.get?_push_of_some _ e, turn_tuple a _, ⟨_, Heap.get?_push_size _ rfl, rfl, rfl⟩, fun b hb => ?_, q⟩
    have e : b = s1.heap.objs.size := by simpa using hb
    subst e
    exact I1.fpOk (Nat.le_refl _) (I1.hok.fresh (Nat.le_refl _))
  · subst e
    obtain ⟨t, rfl⟩ := r1
    cases ha : z.cps.all (· < 128)
    · exact wpAny_pyIter_wide ha (pi_one (tk := s1.toks) I1 _ (turn_str _ z t "str_iterator" (.inr rfl)) ⟨_, Heap.get?_push_size _ rfl, rfl, rfl⟩ q)
    · exact wpAny_pyIter_ascii ha (pi_one (tk := s1.toks) I1 _ (turn_str _ z t "str_ascii_iterator" (.inl rfl)) ⟨_, Heap.get?_push_size _ rfl, rfl, rfl⟩ q)
def diAny (te : TDE) : TDI := fun ds M Q => te ds M fun x M1 => match x with
  | .tup xs => Q ⟨xs, fun _ => True⟩ M1
  | .str z => Q ⟨signs z, fun _ => True⟩ M1
  | .ref a => (match lstOf M1 a with | some xs => Q ⟨xs, fun M' => lstOf M' a = some xs⟩ M1 | none => False)
  | .lst xs => Q ⟨xs, fun _ => True⟩ M1
  | _ => False
theorem ji_any {X : Cx} {tg e : Expr} {te : TDE} (h : JE X e te) : JI X tg e (diAny te) := by
  obtain ⟨u, p, g⟩ := h
  refine ⟨_, pi_any p, fun ds σ H M Q R0 s m q k => ?_⟩
  refine g ds σ H M _ _ s m q fun v H1 d M1 r1 m1 g1 q1 => ?_
  cases d with
  | tup xs =>
    obtain ⟨a, vs, rfl, sa, ra⟩ := r1.tup_v
    exact .inr (.inl ⟨a, rfl, ⟨vs, sa⟩, k _ H1 _ M1 (it_tup sa ra m1) m1 g1 q1⟩)
  | str z =>
    cases r1.str_v
    exact .inr (.inr ⟨z, rfl, k _ H1 _ M1 it_str m1 g1 q1⟩)
  | ref a =>
    cases r1.ref_v
    simp only at q1
    split at q1
    · rename_i xs e
      obtain ⟨vs, h1, r2⟩ := m1.ob a _ (of_lstOf e)
      exact .inl ⟨a, rfl, ⟨vs, SqL.of h1⟩, k _ H1 _ M1 it_lst m1 g1 q1⟩
    · exact q1.elim
  | lst xs =>
    obtain ⟨a, vs, rfl, h1, f1, ra⟩ := r1.lst_v
    exact .inl ⟨a, rfl, ⟨vs, SqL.of h1⟩, k _ H1 _ M1 (it_own h1 ra (m1.nf a f1) m1) m1 g1 q1⟩
  | _ => exact q1.elim
open PyProof.Rows in
theorem ix_dict {X : Cx} (hu : X.A.units + 1 < cLine) : IxR X (fun x y H Q => ∃ a v, x = .ref a ∧ DGet H a y (some v) ∧ Q v H) := by
  intro value slice pins s σ H x y v u Q I rx ry h hs
  obtain ⟨a, z, rfl, g, q⟩ := h
  obtain rfl : v = Value.ref a := rx
  have hT := dict_typeIs I g
  have h₂ : wpAny (model X.prog X.w) X.A (getItem (.ref a) u) (EP X pins σ Q) X.xe s := d_getItem hu I g ry fun w' s3 I3 rw' => ⟨z, H, I3, rw', q⟩
  unfold subscriptTail
  refine wpAny_bind ?_
  rw [getitemInPython_of_ne hT.not_modules]
  refine wpAny_bind (wpAny_specialOf hT PySem.F.slot_dict_getitem.lookup ?_)
  have fin : wpAny (model X.prog X.w) X.A (subscripted slice false (.ref a) u) (fun r s₃ => wpAny (model X.prog X.w) X.A (letTemporaryGo value (.ref a) r >>= fun _ => pure r) (EP X pins σ Q) X.xe s₃) X.xe s := by
    rw [hs]
    exact wpAny_operating (wpAny_mono h₂ (fun r s₃ h₃ => wpAny_bind (wpAny_letTemporaryGo (wpAny_pure h₃))) fun _ _ x => x)
  first
    | exact wpAny_pure (wpAny_bind fin)
    | exact wpAny_bind (wpAny_pure (wpAny_bind fin))
    | exact wpAny_bind fin
def ixA : DR2 := fun x y M Q => match rdDL M x with
  | some kvs => (match keyD y with | some k => (match valD kvs k with | some d => Q d M | none => False) | none => False)
  | none => ixR x y M Q
theorem lift_ixA {K : PySem.W.Frag} : Lift2 K (fun x y H Q => rIx K x y H Q ∨ ∃ a v, x = .ref a ∧ DGet H a y (some v) ∧ Q v H) ixA := by
  intro x y dx dy H M Q Q0 rx ry m h k
  unfold ixA at h
  split at h
  · rename_i kvs e
    split at h
    · rename_i kk e1
      split at h
      · rename_i d3 e3
        obtain ⟨a, vs, rfl, h1, r3⟩ := rdDL_v m rx e
        obtain ⟨z, e4, r4⟩ := r3.val e3
        rw [keyD_v ry e1]
        exact .inr ⟨a, z, rfl, by rw [← e4]; exact DGet.kr h1, k _ H _ M r4 m GG.refl h⟩
      · exact h.elim
    · exact h.elim
  · exact .inl (lift_ix x y dx dy H M Q Q0 rx ry m h k)
theorem je_ixA {X : Cx} {a b : Expr} {ta tb : TDE} {pos : Pos} {k : Nat} (hr : Room k X.A) (ha : JE X a ta) (hb : JE X b tb) (hs : PlainIx b := by exact fun _ _ => rfl) : JE X (.Subscript a b pos) (dOp ixA ta tb) := by
  obtain ⟨u, p, g⟩ := ha
  obtain ⟨u', p', g'⟩ := hb
  exact je_pe (pe_ix (ix_seq.or (ix_dict (hu_of hr))) p p' hs) (op2 lift_ixA g g')
section
variable {X : Cx} {pins : List (Addr × Obj)} {σ : L2.St} {H : HF} {s : Shared}
mutual
theorem VR_inj (I : Inv X pins σ H.h s) : ∀ (d e : D) (v : V), VR X.K H d v → VR X.K H e v → pureD d = true → pureD e = true → d = e
  | .non, e, _, r, q, _, _ => by cases r; cases q; rfl
  | .bl _, e, _, r, q, _, _ => by cases r; cases q; rfl
  | .int _, e, _, r, q, _, _ => by cases r; cases q; rfl
  | .str _, e, _, r, q, _, _ => by cases r; cases q; rfl
  | .ref _, _, _, _, _, h, _ => by simp [pureD] at h
  | .ty _, _, _, _, _, h, _ => by simp [pureD] at h
  | .dic _, _, _, _, _, h, _ => by simp [pureD] at h
  | .dit _, _, _, _, _, h, _ => by simp [pureD] at h
  | .tup xs, e, _, r, q, h, h' => by
    obtain ⟨a, vs, rfl, sa, ra⟩ := r.tup_v
    cases q with
    | ref _ => simp [pureD] at h'
    | dic _ _ _ => simp [pureD] at h'
    | dit _ _ _ => simp [pureD] at h'
    | @tup ys _ ws sb rb =>
      have := I.tuple_inj sa (sb.sq)
      subst this
      rw [VRs_inj I xs ys vs ra rb (by simpa [pureD] using h) (by simpa [pureD] using h')]
    | lst sb _ _ => exact (tup_no_lst I sa sb).elim
  | .lst xs, e, _, r, q, h, h' => by
    obtain ⟨a, vs, rfl, sa, _, ra⟩ := r.lst_v
    cases q with
    | ref _ => simp [pureD] at h'
    | dic _ _ _ => simp [pureD] at h'
    | dit _ _ _ => simp [pureD] at h'
    | tup sb _ => exact (tup_no_lst I (sb.sq) sa).elim
    | @lst ys _ ws sb _ rb =>
      have := lst_inj I sa sb
      subst this
      rw [VRs_inj I xs ys vs ra rb (by simpa [pureD] using h) (by simpa [pureD] using h')]
theorem VRs_inj (I : Inv X pins σ H.h s) : ∀ (ds es : List D) (vs : List V), VRs X.K H ds vs → VRs X.K H es vs → pureDs ds = true → pureDs es = true → ds = es
  | [], es, _, r, q, _, _ => by cases r; cases q; rfl
  | d :: ds, es, _, r, q, h, h' => by
    cases r with
    | cons r1 r2 =>
      cases q with
      | cons q1 q2 =>
        have h1 := Bool.and_eq_true_iff.mp (show (pureD d && pureDs ds) = true by simpa [pureDs] using h)
        have h2 := Bool.and_eq_true_iff.mp (show (pureD _ && pureDs _) = true by simpa [pureDs] using h')
        rw [VR_inj I d _ _ r1 q1 h1.1 h2.1, VRs_inj I ds _ _ r2 q2 h1.2 h2.2]
end
noncomputable def eqBy (ys : List D) (us : List Value) (d : D) (u : Value) : Bool := by
  classical
  exact if h : ∃ j : Nat, us[j]? = some u ∧ j < ys.length then (match ys[h.choose]? with | some y => eqvD y d | none => false) else false
theorem eqBy_of (I : Inv X pins σ H.h s) {ys : List D} {vs : List V} {us : List Value} {d : D} (r : VRs X.K H ys vs) (rv : Vals vs us) (hp : pureDs ys = true) {j : Nat} {y : D} {u : Value} (hy : ys[j]? = some y) (hu : us[j]? = some u) : eqBy ys us d u = eqvD y d := by
  have hj : j < ys.length := (List.getElem?_eq_some_iff.mp hy).1
  have h : ∃ j : Nat, us[j]? = some u ∧ j < ys.length := ⟨j, hu, hj⟩
  unfold eqBy
  rw [dif_pos h]
  obtain ⟨h1, h2⟩ := h.choose_spec
  obtain ⟨y', hy'⟩ : ∃ y', ys[h.choose]? = some y' := ⟨_, List.getElem?_eq_getElem h2⟩
  rw [hy']
  obtain ⟨v, hv, q⟩ := r.get hy
  obtain ⟨v', hv', q'⟩ := r.get hy'
  obtain ⟨w, hw, rw1⟩ := rv.get hv
  obtain ⟨w', hw', rw2⟩ := rv.get hv'
  rw [hu] at hw
  rw [h1] at hw'
  cases hw
  cases hw'
  have e := rw1.inj rw2
  subst e
  show eqvD y' d = eqvD y d
  rw [VR_inj I y y' v q q' (pureDs_get hp hy) (pureDs_get hp hy')]
theorem any_eqBy (I : Inv X pins σ H.h s) {ys : List D} {vs : List V} {us : List Value} {d : D} (r : VRs X.K H ys vs) (rv : Vals vs us) (hp : pureDs ys = true) : us.toArray.any (eqBy ys us d) = ys.any fun y => eqvD y d := by
  have hl : us.length = ys.length := by rw [← rv.length, ← r.length]
  have e : us.toArray.any (eqBy ys us d) = us.any (eqBy ys us d) := by simp
  rw [e, Bool.eq_iff_iff, List.any_eq_true, List.any_eq_true]
  constructor
  · rintro ⟨u, hu, h⟩
    obtain ⟨j, hj, hj2⟩ := List.getElem_of_mem hu
    have h1 : us[j]? = some u := by rw [List.getElem?_eq_getElem hj, hj2]
    have h2 : ys[j]? = some ys[j] := List.getElem?_eq_getElem (by omega)
    rw [eqBy_of I r rv hp h2 h1] at h
    exact ⟨_, List.getElem_mem _, h⟩
  · rintro ⟨y, hy, h⟩
    obtain ⟨j, hj, hj2⟩ := List.getElem_of_mem hy
    have h1 : us[j]? = some us[j] := List.getElem?_eq_getElem (by omega)
    have h2 : ys[j]? = some y := by rw [List.getElem?_eq_getElem hj, hj2]
    exact ⟨_, List.getElem_mem _, by rw [eqBy_of I r rv hp h2 h1]; exact h⟩
theorem mem_eqBy (I : Inv X pins σ H.h s) {ys : List D} {vs : List V} {us : List Value} {d : D} {v : V} {t : Value} {A : Around} (r : VRs X.K H ys vs) (rv : Vals vs us) (hp : pureDs ys = true) (rd : VR X.K H d v) (rt : RelV v t) (hd : pureD d = true)
    (hu : A.units + 100 < cLine) (hb : depDs ys ≤ 100) : ∀ u, u ∈ us.toArray → SeqAt.EqAt A s u t (eqBy ys us d u) := by
  intro u hm
  have hl : us.length = ys.length := by rw [← rv.length, ← r.length]
  have hm' : u ∈ us := by simpa using hm
  obtain ⟨j, hj, hj2⟩ := List.getElem_of_mem hm'
  have h1 : us[j]? = some u := by rw [List.getElem?_eq_getElem hj, hj2]
  have h2 : ys[j]? = some ys[j] := List.getElem?_eq_getElem (by omega)
  rw [eqBy_of I r rv hp h2 h1]
  obtain ⟨z, hz, q⟩ := r.get h2
  obtain ⟨u', hu', q2⟩ := rv.get hz
  rw [h1] at hu'
  cases hu'
  have := depDs_get h2
  exact eqAt_D I _ d z v u t A q rd q2 rt (pureDs_get hp h2) hd (by omega)
end
def inStr (c z : Str) : Bool := !(Builtin.Str.occurrences z c 0 z.length 1).isEmpty
theorem inStr_sign (c : Nat) (z : Str) : inStr ⟨#[c]⟩ z = decide (c ∈ z.cps.toList) := PySem.StrLaws.found_one z c
def memC (ys : List D) (d : D) : Prop := pureD d = true ∧ pureDs ys = true ∧ depDs ys ≤ 100
def inAny (ys : List D) (d : D) : Bool := ys.any fun y => eqvD y d
def inDQ (neg : Bool) : DR2 := fun x y M Q => match rdDL M y, keyD x with
  | some kvs, some k => Q (.bl (neg != (valD kvs k).isSome)) M
  | _, _ => False
def inQ (neg : Bool) : DR2 := fun x y M Q => match y with
  | .str z => (match x with | .str c => Q (.bl (neg != inStr c z)) M | _ => False)
  | y => (match rdS M y with | some ys => memC ys x ∧ Q (.bl (neg != inAny ys x)) M | none => inDQ neg x y M Q)
theorem inQ_out {neg : Bool} {x y : D} {M : Mm} {Q : DQ} (h : inQ neg x y M Q) : (∃ z c, y = .str z ∧ x = .str c ∧ Q (.bl (neg != inStr c z)) M) ∨ (∃ ys, rdS M y = some ys ∧ memC ys x ∧ Q (.bl (neg != inAny ys x)) M) ∨
    ∃ kvs k, rdDL M y = some kvs ∧ keyD x = some k ∧ Q (.bl (neg != (valD kvs k).isSome)) M := by
  have two : (match rdS M y with | some ys => memC ys x ∧ Q (.bl (neg != inAny ys x)) M | none => inDQ neg x y M Q) → (∃ ys, rdS M y = some ys ∧ memC ys x ∧ Q (.bl (neg != inAny ys x)) M) ∨
      ∃ kvs k, rdDL M y = some kvs ∧ keyD x = some k ∧ Q (.bl (neg != (valD kvs k).isSome)) M := by
    intro h
    split at h
    · rename_i ys e
      exact .inl ⟨ys, e, h⟩
    · unfold inDQ at h
      split at h
      · rename_i kvs k e1 e2
        exact .inr ⟨kvs, k, e1, e2, h⟩
      · exact h.elim
  cases y with
  | str z =>
    cases x with
    | str c => exact .inl ⟨z, c, rfl, rfl, h⟩
    | _ => exact h.elim
  | _ => exact .inr (two h)
abbrev inR : DR2 := inQ false
abbrev notInR : DR2 := inQ true
theorem op_inT {X : Cx} (hu : X.A.units + 150 < cLine) : OpD X (compareOp .In) inR := by
  intro pins s σ H M d e x y v u Q Q0 I m rd re rx ry hq k
  have hu1 : X.A.in1.units + 100 < cLine := by show X.A.units + 1 + 100 < cLine; omega
  rcases inQ_out hq with ⟨z, c, rfl, rfl, hq'⟩ | ⟨ys, e1, ⟨p1, p2, p3⟩, hq'⟩ | ⟨kvs, kk, e1, ek, hq'⟩
  · cases re.str_v
    obtain ⟨t, rfl⟩ := ry
    cases rd.str_v
    obtain ⟨t', rfl⟩ := rx
    simp only [Bool.false_bne, Bool.true_bne] at hq'
    exact PyProof.Rows.in_str ⟨.bl _, H.h, I, rfl, k _ H _ M (.bl _) m GG.refl hq'⟩
  · simp only [Bool.false_bne, Bool.true_bne] at hq'
    obtain ⟨a, ws, rfl, ra, h1 | h1⟩ := rdS_v m re e1
    · obtain ⟨its, rv, ht⟩ := tup_at I h1.2
      cases ry
      refine SeqAt.in_tupleAt (eqBy ys its d) ht (mem_eqBy I ra rv p2 rd rx p1 hu1 p3) ?_
      rw [any_eqBy I ra rv p2]
      exact ⟨.bl _, H.h, I, rfl, k _ H _ M (.bl _) m GG.refl hq'⟩
    · obtain ⟨its, rv, ht⟩ := lst_at I (SqL.of h1)
      cases ry
      refine SeqAt.in_listAt (eqBy ys its d) ht (mem_eqBy I ra rv p2 rd rx p1 hu1 p3) ?_
      rw [any_eqBy I ra rv p2]
      exact ⟨.bl _, H.h, I, rfl, k _ H _ M (.bl _) m GG.refl hq'⟩
  · simp only [Bool.false_bne, Bool.true_bne] at hq'
    obtain ⟨a, ws, rfl, h1, ra⟩ := rdDL_v m re e1
    cases ry
    have hv := keyD_v rd ek
    subst hv
    refine d_in (by omega) I (DGet.kr h1) rx fun s' I' => ⟨.bl _, H.h, I', rfl, ?_⟩
    have : (valV ws kk).isSome = (valD kvs kk).isSome := by
      cases e3 : valD kvs kk with
      | none => rw [ra.valN e3]; rfl
      | some d3 => obtain ⟨z, e4, _⟩ := ra.val e3; rw [e4]; rfl
    rw [this]
    exact k _ H _ M (.bl _) m GG.refl hq'
theorem op_notInT {X : Cx} (hu : X.A.units + 150 < cLine) : OpD X (compareOp .NotIn) notInR := by
  intro pins s σ H M d e x y v u Q Q0 I m rd re rx ry hq k
  have hu1 : X.A.in1.units + 100 < cLine := by show X.A.units + 1 + 100 < cLine; omega
  rcases inQ_out hq with ⟨z, c, rfl, rfl, hq'⟩ | ⟨ys, e1, ⟨p1, p2, p3⟩, hq'⟩ | ⟨kvs, kk, e1, ek, hq'⟩
  · cases re.str_v
    obtain ⟨t, rfl⟩ := ry
    cases rd.str_v
    obtain ⟨t', rfl⟩ := rx
    simp only [Bool.false_bne, Bool.true_bne] at hq'
    exact PyProof.Rows.notIn_str ⟨.bl _, H.h, I, rfl, k _ H _ M (.bl _) m GG.refl hq'⟩
  · simp only [Bool.false_bne, Bool.true_bne] at hq'
    obtain ⟨a, ws, rfl, ra, h1 | h1⟩ := rdS_v m re e1
    · obtain ⟨its, rv, ht⟩ := tup_at I h1.2
      cases ry
      refine SeqAt.notIn_tupleAt (eqBy ys its d) ht (mem_eqBy I ra rv p2 rd rx p1 hu1 p3) ?_
      rw [any_eqBy I ra rv p2]
      exact ⟨.bl _, H.h, I, rfl, k _ H _ M (.bl _) m GG.refl hq'⟩
    · obtain ⟨its, rv, ht⟩ := lst_at I (SqL.of h1)
      cases ry
      refine SeqAt.notIn_listAt (eqBy ys its d) ht (mem_eqBy I ra rv p2 rd rx p1 hu1 p3) ?_
      rw [any_eqBy I ra rv p2]
      exact ⟨.bl _, H.h, I, rfl, k _ H _ M (.bl _) m GG.refl hq'⟩
  · simp only [Bool.false_bne, Bool.true_bne] at hq'
    obtain ⟨a, ws, rfl, h1, ra⟩ := rdDL_v m re e1
    cases ry
    have hv := keyD_v rd ek
    subst hv
    refine d_notIn (by omega) I (DGet.kr h1) rx fun s' I' => ⟨.bl _, H.h, I', rfl, ?_⟩
    have : (valV ws kk).isSome = (valD kvs kk).isSome := by
      cases e3 : valD kvs kk with
      | none => rw [ra.valN e3]; rfl
      | some d3 => obtain ⟨z, e4, _⟩ := ra.val e3; rw [e4]; rfl
    rw [this]
    exact k _ H _ M (.bl _) m GG.refl hq'
section
variable {X : Cx} {a b : Expr} {ta tb : TDE} {pos : Pos} {k : Nat}
theorem jt_in (hr : Room k X.A) (ha : JE X a ta) (hb : JE X b tb) (hm : behindInMarks .In b = false := by rfl) : JT X (.Compare a [.In] [b] pos) (dTest (dOp inR ta tb)) := jt_cmpR (op_inT (hu150 hr)).opR lift_of ha hb hm
theorem jt_notin (hr : Room k X.A) (ha : JE X a ta) (hb : JE X b tb) (hm : behindInMarks .NotIn b = false := by rfl) : JT X (.Compare a [.NotIn] [b] pos) (dTest (dOp notInR ta tb)) := jt_cmpR (op_notInT (hu150 hr)).opR lift_of ha hb hm
end
end DM
namespace DM
open PySem L2
open PyProof.Rows (b2i)
structure DeckS where
  cs : List Int
  at_ : Int
  sum : Int
def DeckS.ok (S : DeckS) (r : Nat) : Prop := S.cs.length ≤ 63 ∧ 0 ≤ S.at_ ∧ S.at_ + (r : Int) ≤ 2 ^ 60
def deckD (c : Addr) (S : DeckS) : List (Key × D) := [(.inr "cells", .ref c), (.inr "at", .int S.at_), (.inr "sum", .int S.sum)]
def Deck (M : Mm) (d c : Addr) (r : Nat) : Prop := d ≠ c ∧ ∃ S : DeckS, S.ok r ∧ M d = some (.dic (deckD c S)) ∧ M c = some (.lst (S.cs.map D.int))
def Upto (d c : Addr) (M M' : Mm) : Prop := ∀ a, a ≠ d → a ≠ c → M' a = M a
theorem Upto.refl {d c : Addr} {M : Mm} : Upto d c M M := fun _ _ _ => rfl
theorem Upto.trans {d c : Addr} {M M1 M2 : Mm} (a : Upto d c M M1) (b : Upto d c M1 M2) : Upto d c M M2 := fun x h1 h2 => (b x h1 h2).trans (a x h1 h2)
theorem Deck.mono {M : Mm} {d c : Addr} {r r' : Nat} (h : Deck M d c r) (e : r' ≤ r) : Deck M d c r' := by
  obtain ⟨n, S, ⟨o1, o2, o3⟩, h1, h2⟩ := h
  exact ⟨n, S, ⟨o1, o2, by omega⟩, h1, h2⟩
theorem Deck.new {M : Mm} {d c p : Addr} {r : Nat} {o : MO} (h : Deck M d c r) (hp : M p = none) : Deck (mup M p o) d c r ∧ p ≠ d ∧ p ≠ c := by
  obtain ⟨n, S, ok, h1, h2⟩ := h
  have hd : p ≠ d := by rintro rfl; rw [hp] at h1; cases h1
  have hc : p ≠ c := by rintro rfl; rw [hp] at h2; cases h2
  exact ⟨⟨n, S, ok, by rw [mup_ne hd.symm]; exact h1, by rw [mup_ne hc.symm]; exact h2⟩, hd, hc⟩
theorem Deck.put {M : Mm} {d c p : Addr} {r : Nat} {o : MO} (h : Deck M d c r) (hd : p ≠ d) (hc : p ≠ c) : Deck (mup M p o) d c r := by
  obtain ⟨n, S, ok, h1, h2⟩ := h
  exact ⟨n, S, ok, by rw [mup_ne hd.symm]; exact h1, by rw [mup_ne hc.symm]; exact h2⟩
def spDeckH (K : PySem.W.Frag) : Sp := fun vs H Q _ => ∃ (a : Addr) (ns : List Int), vs = [.ref a] ∧ SqL K H a (ns.map V.int) ∧ ns.length ≤ 63 ∧
  ∀ (d c : Addr) (H' : Hp) (S : DeckS), H c = none → H d = none → d ≠ c → S.ok (2 ^ 59) → H' c = some (.lst (S.cs.map V.int)) → H' d = some (.dK [(.inr "cells", .ref c), (.inr "at", .int S.at_), (.inr "sum", .int S.sum)]) → (∀ b o, H b = some o → H' b = some o) → Q (.ref d) H'
def spLawH (K : PySem.W.Frag) : Sp := fun vs H Q _ => ∃ (a : Addr) (ns : List Int), vs = [.ref a] ∧ SqL K H a (ns.map V.int) ∧ ns.length ≤ 63 ∧ ∀ H', Q (.bl true) H'
section
variable {P : Program} {w : World} {K : PySem.W.Frag} {mg : Str → Option Value} {base : Heap}
theorem vrs_ints {H : HF} : ∀ ns : List Int, VRs K H (ns.map D.int) (ns.map V.int)
  | [] => .nil
  | n :: ns => .cons (.int n) (vrs_ints ns)
theorem cut63 {ns : List Int} (h : ns.length ≤ 63) : cutV (ns.map V.int) none (some 63) = ns.map V.int := by
  unfold cutV
  rw [HT.sIx_none, show HT.sIx (ns.map V.int).length (ns.map V.int).length (some 63) = min 63 (ns.map V.int).length from HT.sIx_nat _ _ 63]
  rw [List.length_map]
  rw [List.drop_zero, Nat.sub_zero, List.take_of_length_le (by rw [List.length_map]; omega)]
theorem ok_deck {st : Stmt} {f : Addr} {fd : FuncData} (F : Fun K "_law_deck" "_law_deck" st f fd) (S : FnScope ["_law_script", "_law_cells"] ["_law_script"] (defScope st))
    (body : ∀ (cdv : Value) (A : Around) (outer : List Env) (s : Shared) (H : Hp) (E : XK),
      PSs (cxOf CX0 P w K mg base ["_law_script", "_law_cells"] "_law_deck" (defScope st) f cdv A outer s H E).nox (defBody st)
        (tSeq (tAsg (tCB (fun xs H Q => ∃ p ys, xs = [.ref p] ∧ (SqL K H p ys ∨ SqT K H p ys) ∧ ∀ l, H l = none → Q (.ref l) (upd H l (.lst ys))) (tCons (tSl (rSlL K) (tVar 0) tNoPart (tPart (tC (.int 63)))) tNil)) (gName 1))
        (tRet (tDisp [(tC (.str "cells"), tVar 1), (tC (.str "at"), tC (.int 0)), (tC (.str "sum"), tOp (rI0 fun i j => .int (i + j)) (tOp (rI (fun _ j => 0 < j) fun i j => .int (i % j)) (tCB (rSum K) (tCons (tVar 1) tNil)) (tC (.int 2147483629)))
          (tCB (fun xs H Q => ∃ p ys, xs = [.ref p] ∧ (SqL K H p ys ∨ SqT K H p ys) ∧ Q (.int ys.length) H) (tCons (tVar 1) tNil)))])))) :
    FnOk P w K mg base CX0 1 f fd ["_law_script"] (spDeckH K) := by
  refine F.ok S (fun vs H Q E h => ?_) fun cdv A outer s H vs Q E hr h => ?_
  · obtain ⟨a, ns, rfl, _⟩ := h
    rfl
  · obtain ⟨a, ns, rfl, hS, hlen, k⟩ := h
    have hb := body cdv A outer s H E
    refine ⟨_, hb, ?_⟩
    refine ⟨_, rfl, 63, rfl, a, ns.map V.int, rfl, hS, fun p hp => ?_⟩
    rw [cut63 hlen]
    have hS1 : SqL K (upd H p (.lst (ns.map V.int))) p (ns.map V.int) := SqL.of upd_same
    refine ⟨p, ns.map V.int, rfl, .inl hS1, fun c hc => ?_⟩
    have hpc : p ≠ c := by rintro rfl; rw [upd_same] at hc; cases hc
    have hHc : H c = none := by rw [upd_ne hpc.symm] at hc; exact hc
    intro d hd
    have hdc : d ≠ c := by rintro rfl; rw [upd_same] at hd; cases hd
    have hdp : d ≠ p := by rintro rfl; rw [upd_ne hpc, upd_same] at hd; cases hd
    have hHd : H d = none := by rw [upd_ne hdc, upd_ne hdp] at hd; exact hd
    have hC : SqL K (upd (upd (upd H p (.lst (ns.map V.int))) c (.lst (ns.map V.int))) d (.dK [])) c (ns.map V.int) := SqL.of (by rw [upd_ne hdc.symm, upd_same])
    refine ⟨.ref c, rfl, .ref c, rfl, c, ns, rfl, hC, _, _, rfl, rfl, (by show (0:Int) < 2147483629; decide), .ref c, rfl, c, _, rfl, .inl hC, _, _, rfl, rfl, upd_same, ?_⟩
    refine ⟨[(.inr "cells", .ref c), (.inr "at", .int 0), (.inr "sum", .int (ns.sum % 2147483629 + ((ns.map V.int).length : Nat)))], rfl, (by show 3 ≤ 15; decide), ?_⟩
    refine k d c _ ⟨ns, 0, ns.sum % 2147483629 + ((ns.map V.int).length : Nat)⟩ hHc hHd hdc ⟨hlen, by simp, by simp⟩ ?_ ?_ fun b o e => ?_
    · rw [upd_ne hdc.symm, upd_ne hdc.symm, upd_same]
    · rw [upd_same]
      rfl
    · have b1 : b ≠ d := by rintro rfl; rw [hHd] at e; cases e
      have b2 : b ≠ c := by rintro rfl; rw [hHc] at e; cases e
      have b3 : b ≠ p := by rintro rfl; rw [hp] at e; cases e
      rw [upd_ne b1, upd_ne b1, upd_ne b2, upd_ne b3]
      exact e
theorem law_ok {st st0 : Stmt} {rest : List Stmt} {f : Addr} {fd : FuncData} {N : List Str} {k : Nat} (F : Fun K "law" "law" st f fd) (S : FnScope N ["_law_script"] (defScope st)) (hN : 2 ≤ N.length) (hbd : defBody st = st0 :: rest)
    (body : ∀ (cdv : Value) (A : Around) (outer : List Env) (s : Shared) (H : Hp) (E : XK), Room k (A.deeper (PyProof.Rows.envOfC "law" (defScope st) s.heap.objs.size f cdv)) →
      ∃ t, PS (cxOf CX0 P w K mg base N "law" (defScope st) f cdv A outer s H E).nox st0 (tAsg (tCall (spDeckH K) [] E0 (tCons (tVar 0) tNil)) (gName 1)) ∧
        JB (cxOf CX0 P w K mg base N "law" (defScope st) f cdv A outer s H E).nox (fun _ _ _ _ => False) rest t ∧
        ∀ (M : Mm) (d c : Addr), Deck M d c (2 ^ 59) → t { nx := fun _ _ => False, rt := fun v _ => v = .bl true } (none :: some (.ref d) :: List.replicate (N.length - 2) none) M) :
    FnOk P w K mg base CX0 (k + 1) f fd ["_law_script"] (spLawH K) := by
  refine F.ok S (fun vs H Q E h => ?_) fun cdv A outer s H vs Q E hr h => ?_
  · obtain ⟨a, ns, rfl, _⟩ := h
    rfl
  · obtain ⟨a, ns, rfl, hS, hlen, kk⟩ := h
    obtain ⟨t, h1, ⟨t0, p, g⟩, hb⟩ := body cdv A outer s H E hr
    rw [hbd]
    refine ⟨_, pss_cons h1 p, ?_⟩
    obtain ⟨x1, x2, N', rfl⟩ : ∃ x1 x2 N', N = x1 :: x2 :: N' := by
      match N, hN with
      | x1 :: x2 :: N', _ => exact ⟨x1, x2, N', rfl⟩
    refine ⟨.ref a, rfl, a, ns, rfl, hS, hlen, fun d c H' Sd hc hd hdc ok e1 e2 hk => ?_⟩
    let M : Mm := mup (mup (fun _ => none) d (.dic (deckD c Sd))) c (.lst (Sd.cs.map D.int))
    have hM : MR K M ⟨H', fun _ => False⟩ := by
      refine ⟨fun b o e => ?_, fun _ f => f.elim, fun _ f => f.elim⟩
      by_cases hbc : b = c
      · subst hbc
        have : o = .lst (Sd.cs.map D.int) := by
          have e' : M b = some (.lst (Sd.cs.map D.int)) := mup_same
          rw [e'] at e
          exact (Option.some.inj e).symm
        subst this
        exact ⟨_, e1, vrs_ints _⟩
      · by_cases hbd : b = d
        · subst hbd
          have : o = .dic (deckD c Sd) := by
            have e' : M b = some (.dic (deckD c Sd)) := by show mup _ c _ b = _; rw [mup_ne hbc, mup_same]
            rw [e'] at e
            exact (Option.some.inj e).symm
          subst this
          exact ⟨_, e2, .cons (.ref c) (.cons (.int _) (.cons (.int _) .nil))⟩
        · have e' : M b = none := by show mup _ c _ b = _; rw [mup_ne hbc, mup_ne hbd]
          rw [e'] at e
          cases e
    have hD : Deck M d c (2 ^ 59) := ⟨hdc, Sd, ok, by show mup _ c _ d = _; rw [mup_ne hdc, mup_same], mup_same⟩
    refine g M ⟨H', fun _ => False⟩ _ _ ⟨?_, ?_, ?_, ?_, ?_⟩ _ _ ⟨H', fun _ => False⟩ M GG.refl ?_ hM (hb M d c hD)
    · intro _ _ _ _ _ _ _ q
      exact q.elim
    · rintro v d' H2 M2 _ r2 _ rfl
      cases r2
      exact kk H2.h
    · intro _ _ _ _ _ _ _ q
      exact q.elim
    · intro _ _ _ _ _ _ _ q
      exact q.elim
    · intro _ _ _ _ _ _ _ _ _ _ _ _ q
      exact q.elim
    · refine ⟨by simp [L2.start], fun i e h => ?_⟩
      match i with
      | 0 => simp at h
      | 1 =>
        simp at h
        subst h
        exact ⟨.ref d, by simp [L2.start, List.replicate_succ], .ref d⟩
      | i + 2 =>
        simp only [List.getElem?_cons_succ] at h
        rw [List.getElem?_replicate] at h
        split at h <;> cases h
end
end DM
namespace DM
open PySem L2
open PyProof.Rows (b2i)
section
variable {ok : Mm → Prop} {g : TDG} {tb : TDS} {D : DEnds} {c : TDT}
theorem forW_go (I : Nat → DSt → Mm → Prop) (xs : List DM.D) (hok : ∀ i ds M, I i ds M → ok M)
    (step : ∀ (i : Nat) (x : DM.D) (N : DSt → Mm → Prop), xs[i]? = some x → (∀ ds M, I (i + 1) ds M → N ds M) → ∀ ds M, I i ds M → g x ds M fun ds' M' => tb { D with nx := N, ct := N, bk := D.nx } ds' M')
    (fin : ∀ ds M, I xs.length ds M → D.nx ds M) : ∀ ds M, I 0 ds M → forW ok g tb D xs ds M := by
  have key : ∀ (n i : Nat), xs.length - i = n → i ≤ xs.length → ∀ ds M, I i ds M → forW ok g tb D (xs.drop i) ds M := by
    intro n
    induction n with
    | zero =>
      intro i e hi ds M h
      have : i = xs.length := by omega
      subst this
      rw [List.drop_length]
      exact ⟨hok _ _ _ h, fin ds M h⟩
    | succ n ih =>
      intro i e hi ds M h
      have hlt : i < xs.length := by omega
      rw [List.drop_eq_getElem_cons hlt]
      exact ⟨hok _ _ _ h, step i _ _ (List.getElem?_eq_getElem hlt) (fun ds M h => ih (i + 1) (by omega) (by omega) ds M h) ds M h⟩
  intro ds M h
  have := key xs.length 0 (by simp) (Nat.zero_le _) ds M h
  rwa [List.drop_zero] at this
theorem forW_rng (I : Nat → DSt → Mm → Prop) {lo : Int} {n : Nat}
    (step : ∀ (i : Nat) (N : DSt → Mm → Prop), i < n → (∀ ds M, I (i + 1) ds M → N ds M) → ∀ ds M, I i ds M → g (.int (lo + (i : Int))) ds M fun ds' M' => tb { D with nx := N, ct := N, bk := D.nx } ds' M')
    (fin : ∀ ds M, I n ds M → D.nx ds M) : ∀ ds M, I 0 ds M → forW (fun _ => True) g tb D (rangeD lo n) ds M := by
  have hl : (rangeD lo n).length = n := by simp [rangeD]
  refine forW_go I (rangeD lo n) (fun _ _ _ _ => trivial) (fun i x N e hN ds M h => ?_) (fun ds M h => fin ds M (by rw [hl] at h; exact h))
  obtain ⟨h1, rfl⟩ := rangeD_get e
  exact step i N h1 hN ds M h
theorem whileN_go (I : Nat → DSt → Mm → Prop)
    (base : ∀ (N : DSt → Mm → Prop) ds M, I 0 ds M → c ds M fun b M1 => if b = true then tb { D with nx := N, ct := N, bk := D.nx } ds M1 else D.nx ds M1)
    (step : ∀ (m : Nat) (N : DSt → Mm → Prop), (∀ ds M, I m ds M → N ds M) → ∀ ds M, I (m + 1) ds M → c ds M fun b M1 => if b = true then tb { D with nx := N, ct := N, bk := D.nx } ds M1 else D.nx ds M1) :
    ∀ (m : Nat) ds M, I m ds M → dWhile c tb D ds M := by
  have key : ∀ (m : Nat) ds M, I m ds M → whileN c tb D (m + 1) ds M := by
    intro m
    induction m with
    | zero => exact fun ds M h => base _ ds M h
    | succ m ih => exact fun ds M h => step m _ ih ds M h
  exact fun m ds M h => ⟨m + 1, key m ds M h⟩
end
section
variable {ok : Mm → Prop} {g : TDG} {tt : TDT} {te : TDE} {ds0 : DSt} {Q : List D → Mm → Prop}
theorem lcW_go (I : Nat → List D → Mm → Prop) (xs : List D) (hok : ∀ i acc M, I i acc M → ok M)
    (step : ∀ (i : Nat) (x : D) (N : List D → Mm → Prop), xs[i]? = some x → (∀ acc M, I (i + 1) acc M → N acc M) → ∀ acc M, I i acc M →
      g x ds0 M fun ds' M2 => tt ds' M2 fun b M3 => if b = true then te ds' M3 fun d M4 => acc.length < sizeLine ∧ N (acc ++ [d]) M4 else N acc M3)
    (fin : ∀ acc M, I xs.length acc M → Q acc M) : ∀ M, I 0 [] M → lcW ok g tt te ds0 Q xs [] M := by
  have key : ∀ (n i : Nat), xs.length - i = n → i ≤ xs.length → ∀ acc M, I i acc M → lcW ok g tt te ds0 Q (xs.drop i) acc M := by
    intro n
    induction n with
    | zero =>
      intro i e hi acc M h
      have : i = xs.length := by omega
      subst this
      rw [List.drop_length]
      exact ⟨hok _ _ _ h, fin acc M h⟩
    | succ n ih =>
      intro i e hi acc M h
      have hlt : i < xs.length := by omega
      rw [List.drop_eq_getElem_cons hlt]
      exact ⟨hok _ _ _ h, step i _ _ (List.getElem?_eq_getElem hlt) (fun acc M h => ih (i + 1) (by omega) (by omega) acc M h) acc M h⟩
  intro M h
  have := key xs.length 0 (by simp) (Nat.zero_le _) [] M h
  rwa [List.drop_zero] at this
end
theorem log2_lt {n k : Nat} (hk : 0 < k) (h : n < 2 ^ k) : n.log2 < k := by
  by_cases h0 : n = 0
  · subst h0; simpa using hk
  · exact (Nat.log2_lt h0).mpr h
theorem cmul_ok {i j : Int} (hi : i.natAbs < 2 ^ 200) (hj : j.natAbs < 2 ^ 200) : CMulW i j := by
  have h1 := log2_lt (by decide) hi
  have h2 := log2_lt (by decide) hj
  show _ + _ < 1000000
  omega
theorem nabs_mul {i j : Int} {a b : Nat} (hi : i.natAbs < 2 ^ a) (hj : j.natAbs < 2 ^ b) : (i * j).natAbs < 2 ^ (a + b) := by
  rw [Int.natAbs_mul, Nat.pow_add]
  exact Nat.mul_lt_mul'' hi hj
theorem nabs_up {i : Int} {a b : Nat} (h : i.natAbs < 2 ^ a) (e : a ≤ b) : i.natAbs < 2 ^ b := Nat.lt_of_lt_of_le h (Nat.pow_le_pow_right (by decide) e)
theorem cdiv_ok {i j : Int} (h0 : 0 < j) (h : j < 2 ^ 63) : CDivW i j := by
  refine ⟨h0, ?_⟩
  have := log2_lt (n := j.natAbs) (k := 63) (by decide) (by omega)
  omega
section
variable {i j : Int} {M : Mm} {Q : DQ} {x y : Str} {xs ys : List D} {a b : Bool}
theorem addR_ii : addR (.int i) (.int j) M Q = Q (.int (i + j)) M := (rfl)
theorem addR_ib : addR (.int i) (.bl b) M Q = Q (.int (i + b2i b)) M := (rfl)
theorem addR_ss : addR (.str x) (.str y) M Q = (x.length + y.length ≤ sizeLine ∧ Q (.str (x ++ y)) M) := (rfl)
theorem addR_tt : addR (.tup xs) (.tup ys) M Q = (xs.length + ys.length ≤ sizeLine ∧ Q (.tup (xs ++ ys)) M) := (rfl)
theorem subR_ii : subR (.int i) (.int j) M Q = Q (.int (i - j)) M := (rfl)
theorem mulR_ii : mulR (.int i) (.int j) M Q = (CMulW i j ∧ Q (.int (i * j)) M) := (rfl)
theorem modR_ii : modR (.int i) (.int j) M Q = (0 < j ∧ Q (.int (i % j)) M) := (rfl)
theorem fdivR_ii : fdivR (.int i) (.int j) M Q = (CDivW i j ∧ Q (.int (i / j)) M) := (rfl)
theorem powR_ii : powR (.int i) (.int j) M Q = (CPow i j ∧ Q (.int (i ^ j.toNat)) M) := (rfl)
theorem ltR_ii : ltR (.int i) (.int j) M Q = Q (.bl (decide (i < j))) M := (rfl)
theorem leR_ii : leR (.int i) (.int j) M Q = Q (.bl (decide (i ≤ j))) M := (rfl)
theorem gtR_ii : gtR (.int i) (.int j) M Q = Q (.bl (decide (j < i))) M := (rfl)
theorem geR_ii : geR (.int i) (.int j) M Q = Q (.bl (decide (j ≤ i))) M := (rfl)
theorem keyD_s : keyD (.str x) = some (.inr x) := rfl
theorem keyD_i : keyD (.int i) = some (.inl i) := rfl
theorem eqM_ii : eqM M (.int i) (.int j) = (i == j) := (rfl)
theorem eqM_ss : eqM M (.str x) (.str y) = (x == y) := (rfl)
theorem eqM_bb : eqM M (.bl a) (.bl b) = (a == b) := (rfl)
theorem eqM_tt : eqM M (.tup xs) (.tup ys) = eqvDs xs ys := (rfl)
theorem okD_i : okD M (.int i) = True := by simp [okD, resD, pureD, depD]
theorem okD_s : okD M (.str x) = True := by simp [okD, resD, pureD, depD]
theorem okD_b : okD M (.bl a) = True := by simp [okD, resD, pureD, depD]
theorem okD_n : okD M .non = True := by simp [okD, resD, pureD, depD]
theorem okD_t : okD M (.tup xs) = (pureDs xs = true ∧ depDs xs ≤ 99) := by
  simp only [okD, resD, pureD, depD, eq_iff_iff]
  constructor <;> (intro h; refine ⟨h.1, ?_⟩; omega)
theorem okD_L : okD M (.lst xs) = (pureDs xs = true ∧ depDs xs ≤ 99) := by
  simp only [okD, resD, pureD, depD, eq_iff_iff]
  constructor <;> (intro h; refine ⟨h.1, ?_⟩; omega)
theorem okD_l {a : Addr} (e : lstOf M a = some xs) : okD M (.ref a) = (pureDs xs = true ∧ depDs xs ≤ 99) := by
  simp only [okD, resD, e, pureD, depD, eq_iff_iff]
  constructor <;> (intro h; refine ⟨h.1, ?_⟩; omega)
theorem eqM_lL {a : Addr} (e : lstOf M a = some xs) : eqM M (.ref a) (.lst ys) = eqvDs xs ys := by
  simp only [eqM, resD, e, eqvD]
theorem eqM_LL : eqM M (.lst xs) (.lst ys) = eqvDs xs ys := (rfl)
theorem eqvDs_nil : eqvDs xs [] = xs.isEmpty := by cases xs <;> simp [eqvDs]
theorem dicOf_mup_same {a : Addr} {xs : List (Key × D)} : dicOf (mup M a (.dic xs)) a = some xs := dicOf_some mup_same
end
theorem pureDs_map {α : Type} (f : α → D) (h : ∀ a, pureD (f a) = true) : ∀ l : List α, pureDs (l.map f) = true
  | [] => rfl
  | a :: l => by rw [List.map_cons, pureDs, h a, pureDs_map f h l]; rfl
theorem depDs_map {α : Type} (f : α → D) (k : Nat) (hk : 1 ≤ k) (h : ∀ a, depD (f a) ≤ k) : ∀ l : List α, depDs (l.map f) ≤ k
  | [] => hk
  | a :: l => by
    rw [List.map_cons, depDs]
    have h1 := h a
    have h2 := depDs_map f k hk h l
    omega
theorem pureDs_int (ns : List Int) : pureDs (ns.map D.int) = true := pureDs_map _ (fun _ => rfl) ns
theorem depDs_int (ns : List Int) : depDs (ns.map D.int) ≤ 1 := depDs_map _ 1 (Nat.le_refl _) (fun _ => by simp [depD]) ns
section
variable {c : Addr} {S : DeckS} {v : Int}
theorem deck_at : valD (deckD c S) (.inr "at") = some (.int S.at_) := rfl
theorem deck_sum : valD (deckD c S) (.inr "sum") = some (.int S.sum) := rfl
theorem deck_cells : valD (deckD c S) (.inr "cells") = some (.ref c) := rfl
theorem deck_len : (deckD c S).length = 3 := rfl
theorem deck_put : putD (deckD c S) (.inr "at") (.int v) = deckD c { S with at_ := v } := rfl
end
end DM
namespace DM
open PySem L2
open PyProof.Rows (b2i)
def Ext (d c : Addr) (M M' : Mm) : Prop := ∀ a o, a ≠ d → a ≠ c → M a = some o → M' a = some o
theorem Upto.ext {d c : Addr} {M M' : Mm} (h : Upto d c M M') : Ext d c M M' := fun a o h1 h2 e => by rw [h a h1 h2]; exact e
theorem Ext.refl {d c : Addr} {M : Mm} : Ext d c M M := fun _ _ _ _ h => h
theorem Ext.trans {d c : Addr} {M M1 M2 : Mm} (x : Ext d c M M1) (y : Ext d c M1 M2) : Ext d c M M2 := fun a o h1 h2 e => y a o h1 h2 (x a o h1 h2 e)
theorem Ext.new {d c p : Addr} {M M1 : Mm} {o : MO} (x : Ext d c M M1) (hp : M1 p = none) : Ext d c M (mup M1 p o) := fun a u h1 h2 e => by
  have := x a u h1 h2 e
  rw [mup_ne]
  · exact this
  · rintro rfl; rw [hp] at this; cases this
theorem Ext.put {d c p : Addr} {M M1 : Mm} {o : MO} (x : Ext d c M M1) (hp : M p = none) : Ext d c M (mup M1 p o) := fun a u h1 h2 e => by
  rw [mup_ne]
  · exact x a u h1 h2 e
  · rintro rfl; rw [hp] at e; cases e
theorem Ext.lst {d c a : Addr} {M M' : Mm} {xs : List D} (x : Ext d c M M') (h1 : a ≠ d) (h2 : a ≠ c) (e : lstOf M a = some xs) : lstOf M' a = some xs := lstOf_some (x a _ h1 h2 (of_lstOf e))
theorem Ext.dic {d c a : Addr} {M M' : Mm} {xs : List (Key × D)} (x : Ext d c M M') (h1 : a ≠ d) (h2 : a ≠ c) (e : dicOf M a = some xs) : dicOf M' a = some xs := dicOf_some (x a _ h1 h2 (of_dicOf e))
theorem Deck.nd {M : Mm} {d c p : Addr} {r : Nat} (h : Deck M d c r) (hp : M p = none) : p ≠ d := (h.new (o := .lst []) hp).2.1
theorem Deck.nc {M : Mm} {d c p : Addr} {r : Nat} (h : Deck M d c r) (hp : M p = none) : p ≠ c := (h.new (o := .lst []) hp).2.2
theorem Deck.up {M : Mm} {d c p : Addr} {r : Nat} {o : MO} (h : Deck M d c r) (hp : M p = none) : Deck (mup M p o) d c r := (h.new hp).1
theorem seq_cut {t u : TDS} {D : DEnds} {ds : DSt} {M : Mm} (J : DSt → Mm → Prop) (h1 : ∀ N : DSt → Mm → Prop, (∀ ds M, J ds M → N ds M) → t { D with nx := N } ds M) (h2 : ∀ ds M, J ds M → u D ds M) : dSeq t u D ds M := h1 (u D) h2
theorem ifs {c : Prop} [Decidable c] {a b : Prop} (h1 : c → a) (h2 : ¬c → b) : if c then a else b := by
  split
  · exact h1 (by assumption)
  · exact h2 (by assumption)
instance (i : Int) : Decidable (inLine i) := by unfold inLine; infer_instance
section
variable {M : Mm} {Q : DQ} {p : Addr} {x y : D} {b : Bool} {xs : List D} {i : Int}
theorem int1R_b : int1R [.bl b] M Q = Q (.int (if b then 1 else 0)) M := (rfl)
theorem int1R_i : int1R [.int i] M Q = Q (.int i) M := (rfl)
theorem ix_t {d : D} (h0 : 0 ≤ i) (h1 : xs[i.toNat]? = some d) (h : Q d M) : ixR (.tup xs) (.int i) M Q := by
  unfold ixR
  have e2 : atI xs i = some d := by
    have := atI_nat (j := i.toNat) h1
    rwa [show ((i.toNat : Nat) : Int) = i by omega] at this
  simp only [e2]
  exact h
theorem ix_t0 {xs : List D} : ixR (.tup (x :: xs)) (.int 0) M Q = Q x M := by
  have e : atI (x :: xs) 0 = some x := atI_nat (j := 0) rfl
  unfold ixR
  simp only [e]
theorem ix_t1 {xs : List D} : ixR (.tup (x :: y :: xs)) (.int 1) M Q = Q y M := by
  have e : atI (x :: y :: xs) 1 = some y := atI_nat (j := 1) rfl
  unfold ixR
  simp only [e]
theorem ix_t2 {xs : List D} {z : D} : ixR (.tup (x :: y :: z :: xs)) (.int 2) M Q = Q z M := by
  have e : atI (x :: y :: z :: xs) 2 = some z := atI_nat (j := 2) rfl
  unfold ixR
  simp only [e]
theorem ix_t3 {xs : List D} {z u : D} : ixR (.tup (x :: y :: z :: u :: xs)) (.int 3) M Q = Q u M := by
  have e : atI (x :: y :: z :: u :: xs) 3 = some u := atI_nat (j := 3) rfl
  unfold ixR
  simp only [e]
theorem ix_t4 {xs : List D} {z u v : D} : ixR (.tup (x :: y :: z :: u :: v :: xs)) (.int 4) M Q = Q v M := by
  have e : atI (x :: y :: z :: u :: v :: xs) 4 = some v := atI_nat (j := 4) rfl
  unfold ixR
  simp only [e]
theorem lenR_t : lenR [.tup xs] M Q = Q (.int xs.length) M := (rfl)
theorem lenR_s {z : Str} : lenR [.str z] M Q = (z.length ≤ sizeLine ∧ Q (.int z.length) M) := (rfl)
theorem len_l (e : lstOf M p = some xs) (h : Q (.int xs.length) M) : lenR [.ref p] M Q := by
  unfold lenR
  simp only [of_lstOf e]
  exact h
theorem slR_t {lo hi : Option Int} : slR (.tup xs) lo hi M Q = Q (.tup (cutL xs lo hi)) M := (rfl)
theorem slR_s {z : Str} {lo hi : Option Int} : slR (.str z) lo hi M Q = (z.length ≤ sizeLine ∧ Q (.str (cutS z lo hi)) M) := (rfl)
end
theorem cutL_from {α : Type} (xs : List α) (n : Nat) : cutL xs (some (n : Int)) none = xs.drop n := by
  unfold cutL
  rw [show HT.sIx xs.length 0 (some (n : Int)) = min n xs.length from HT.sIx_nat xs.length 0 n, HT.sIx_none]
  by_cases h : n ≤ xs.length
  · rw [Nat.min_eq_left h, List.take_of_length_le (by rw [List.length_drop]; omega)]
  · rw [Nat.min_eq_right (by omega), List.drop_length, List.take_nil, List.drop_eq_nil_of_le (by omega)]
theorem cutL_from1 {α : Type} (xs : List α) : cutL xs (some 1) none = xs.drop 1 := cutL_from xs 1
theorem cutL_from2 {α : Type} (xs : List α) : cutL xs (some 2) none = xs.drop 2 := cutL_from xs 2
theorem cutL_to {α : Type} (xs : List α) (n : Nat) : cutL xs none (some (n : Int)) = xs.take n := by
  unfold cutL
  rw [show HT.sIx xs.length xs.length (some (n : Int)) = min n xs.length from HT.sIx_nat xs.length xs.length n, HT.sIx_none]
  rw [List.drop_zero, Nat.sub_zero]
  by_cases h : n ≤ xs.length
  · rw [Nat.min_eq_left h]
  · rw [Nat.min_eq_right (by omega), List.take_length, List.take_of_length_le (by omega)]
theorem cutL_mid {α : Type} (xs : List α) (m n : Nat) : cutL xs (some (m : Int)) (some (n : Int)) = (xs.drop m).take (n - m) := by
  unfold cutL
  rw [show HT.sIx xs.length xs.length (some (n : Int)) = min n xs.length from HT.sIx_nat xs.length xs.length n, show HT.sIx xs.length 0 (some (m : Int)) = min m xs.length from HT.sIx_nat xs.length 0 m]
  rcases Nat.le_total m xs.length with h | h
  · rw [Nat.min_eq_left h]
    rcases Nat.le_total n xs.length with h2 | h2
    · rw [Nat.min_eq_left h2]
    · rw [Nat.min_eq_right h2, List.take_of_length_le (by rw [List.length_drop]; omega), List.take_of_length_le (by rw [List.length_drop]; omega)]
  · rw [Nat.min_eq_right h, List.drop_length, List.take_nil, List.drop_eq_nil_of_le h, List.take_nil]
theorem inLine_nat {n : Nat} (h : n < 2 ^ 62) : inLine (n : Int) := ⟨by omega, by omega⟩
theorem small_line {n : Nat} (h : n ≤ 1000000) : n ≤ sizeLine := by rw [sizeLine_eq]; omega
theorem small_ltline {n : Nat} (h : n ≤ 1000000) : n < sizeLine := by rw [sizeLine_eq]; omega
end DM
namespace DM
open PySem L2
open PyProof.Rows (b2i)
def repL {α : Type} (n : Nat) (xs : List α) : List α := (List.replicate n xs).flatten
theorem repL_succ {α : Type} (n : Nat) (xs : List α) : repL (n + 1) xs = xs ++ repL n xs := by simp [repL, List.replicate_succ]
theorem VRs.rep {K : PySem.W.Frag} {H : HF} {ds : List D} {vs : List V} (r : VRs K H ds vs) : ∀ n : Nat, VRs K H (repL n ds) (repL n vs)
  | 0 => .nil
  | n + 1 => by rw [repL_succ, repL_succ]; exact r.append (VRs.rep r n)
def indexQ (x y : D) (M : Mm) (Q : DQ) : Prop := match x, y with
  | .str a, .str b => (match Builtin.Str.occurrences a b 0 a.length 1 with | i :: _ => Q (.int (i : Nat)) M | [] => False)
  | _, _ => False
def dIndex (to te : TDE) : TDE := fun ds M Q => to ds M fun x M1 => (match x with | .str _ => True | _ => False) ∧ te ds M1 fun y M2 => indexQ x y M2 Q
section
variable {X : Cx} {o e : Expr} {to te : TDE} {apos cpos : Pos}
theorem je_sindex (ho : JE X o to) (ha : JE X e te) (hbase : attributeBase o "index" X.env (eval o X.env) = eval o X.env := by rfl)
    (hfew : ((backTo cpos (starEach [e] X.env)).all (fun x => !x.1) && (backToKw cpos (keywordEach [] X.env)).all (fun x => x.1.isSome)
      && decide (([e]).length + ([] : List Keyword).length + (if ([] : List Keyword).isEmpty then 0 else 1) < 30)) = true := by rfl)
    (hline : (apos.endLine == cpos.line) = true := by rfl) (hs : starEach [e] X.env = (false, eval e X.env) :: starEach [] X.env := by rfl) (hplain : (backTo cpos (starEach [] X.env)).any (·.1) = false := by rfl) :
    JE X (.Call (.Attribute o "index" apos) [e] [] cpos) (dIndex to te) := by
  obtain ⟨u, p, g⟩ := ho
  obtain ⟨u', p', g'⟩ := ha
  refine je_pe (pe_bm PySem.F.plainAttrs_str PySem.F.slot_str_index PySem.F.type_str_index mt_sindex p (pa_cons p' pa_nil hs) hbase hfew hline hs hplain) fun ds σ H M Q Q0 s m q k => ?_
  refine g ds σ H M _ _ s m q fun v H1 d M1 r1 m1 g1 q1 => ?_
  obtain ⟨hx, q1⟩ := q1
  cases d with
  | str z =>
    cases r1.str_v
    refine ⟨by first | exact .inr ⟨rfl, z, rfl⟩ | exact .inl ⟨rfl, z, rfl⟩ | exact ⟨z, rfl⟩ | rfl, ?_⟩
    refine g' ds σ H1 M1 _ _ (s.gg m g1) m1 q1 fun w H2 e M2 r2 m2 g2 q2 => ?_
    cases e with
    | str y =>
      cases r2.str_v
      unfold indexQ at q2
      simp only at q2
      split at q2
      · rename_i i r ei
        exact ⟨z, y, i, r, rfl, rfl, ei, k _ H2 _ M2 (.int _) m2 (g1.trans g2) q2⟩
      · exact q2.elim
    | _ => exact q2.elim
  | _ => exact hx.elim
end
section
variable {X : Cx} {pos : Pos}
def mergeD (kvs more : List (Key × D)) : List (Key × D) := more.foldl (fun acc kv => putD acc kv.1 kv.2) kvs
theorem FR.merge {K : PySem.W.Frag} {H : HF} : ∀ {more : List (Key × D)} {ms : List (Key × V)} {kvs : List (Key × D)} {vs : List (Key × V)}, FR K H more ms → FR K H kvs vs → FR K H (mergeD kvs more) (mergeK vs ms)
  | _, _, _, _, .nil, h => h
  | _, _, kvs, vs, .cons r q, h => by
    show FR K H (mergeD (putD kvs _ _) _) (mergeK (putK vs _ _) _)
    exact FR.merge q (h.put r)
abbrev TDD := DSt → Mm → (List (Key × D) → Mm → Prop) → Prop
structure JD (X : Cx) (e : Expr) (t : TDD) : Prop where
  go : ∃ t0, PE X e t0 ∧ ∀ (ds : DSt) (σ : L2.St) (H : HF) (M : Mm) (Q : List (Key × D) → Mm → Prop) (Q0 : VK), SR X.K H ds σ → MR X.K M H → t ds M Q →
    (∀ p H' xs vs M', H.h p = none → H'.h p = some (.dK vs) → FR X.K H' xs vs → M' p = none → ¬H'.F p → MR X.K M' H' → GG M H M' H' → Q xs M' → Q0 (.ref p) H'.h) → t0 σ H.h Q0
theorem jd_empty : JD X (.Dict [] [] pos) (fun _ M Q => Q [] M) := ⟨_, pe_dnewK, fun ds σ H M Q Q0 s m q k p hp => k p (H.up p _) [] [] M hp upd_same .nil (m.free hp) (m.freeF hp) (m.newT hp) (GG.newT hp) q⟩
def dFreshD (t : TDD) : TDE := fun ds M Q => t ds M fun xs M1 => ∀ p, M1 p = none → Q (.ref p) (mup M1 p (.dic xs))
theorem je_freshD {e : Expr} {t : TDD} (h : JD X e t) : JE X e (dFreshD t) := by
  obtain ⟨u, p, g⟩ := h
  refine je_pe p fun ds σ H M Q Q0 s m q k => ?_
  refine g ds σ H M _ _ s m q fun p H' xs vs M' hp hp' r n nf m' gg q' => ?_
  exact k _ H' _ _ (.ref p) (m'.known (w := .dic xs) ⟨vs, hp', r⟩ nf) (gg.known hp) (q' p n)
end
section
variable {M : Mm} {Q : DQ} {i j : Int} {xs ys : List D}
theorem addR_LL : addR (.lst xs) (.lst ys) M Q = (xs.length + ys.length ≤ sizeLine ∧ Q (.lst (xs ++ ys)) M) := (rfl)
theorem ix_L {d : D} (h0 : 0 ≤ i) (h1 : xs[i.toNat]? = some d) (h : Q d M) : ixR (.lst xs) (.int i) M Q := by
  have := ix_t (M := M) (Q := Q) h0 h1 h
  exact this
theorem ix_Lb {x y : D} {b : Bool} (h : Q (if b then y else x) M) : ixR (.lst [x, y]) (.int (if b then 1 else 0)) M Q := by
  cases b
  · exact ix_L (by decide) rfl h
  · exact ix_L (by decide) rfl h
theorem lenR_L : lenR [.lst xs] M Q = Q (.int xs.length) M := (rfl)
theorem slR_L {lo hi : Option Int} : slR (.lst xs) lo hi M Q = Q (.lst (cutL xs lo hi)) M := (rfl)
theorem tup1R_L : tup1R [.lst xs] M Q = Q (.tup xs) M := (rfl)
theorem tup1R_t : tup1R [.tup xs] M Q = Q (.tup xs) M := (rfl)
end
end DM
namespace DM
open PySem L2
open PyProof.Rows (b2i)
def mixD (d c : Addr) (M0 M' : Mm) : Mm := fun a => if a = d ∨ a = c then M' a else M0 a
theorem mixD_upto {d c : Addr} {M0 M' : Mm} : Upto d c M0 (mixD d c M0 M') := fun a h1 h2 => by
  unfold mixD; rw [if_neg]; rintro (h | h)
  · exact h1 h
  · exact h2 h
theorem mixD_deck {d c : Addr} {M0 M' : Mm} {r : Nat} (h : Deck M' d c r) : Deck (mixD d c M0 M') d c r := by
  obtain ⟨h1, S, h2, h3, h4⟩ := h
  exact ⟨h1, S, h2, by unfold mixD; rw [if_pos (.inl rfl)]; exact h3, by unfold mixD; rw [if_pos (.inr rfl)]; exact h4⟩
theorem mixD_sub {d c : Addr} {M0 M' : Mm} (x : Ext d c M0 M') : Sub (mixD d c M0 M') M' := fun a o e => by
  unfold mixD at e
  split at e
  · exact e
  · rename_i h
    exact x a o (fun z => h (.inl z)) (fun z => h (.inr z)) e
theorem mixD_none {d c p : Addr} {M0 M' : Mm} {r : Nat} (h : Deck M0 d c r) (n : M0 p = none) : mixD d c M0 M' p = none := by
  unfold mixD
  rw [if_neg]
  · exact n
  · rintro (e | e)
    · exact h.nd n e
    · exact h.nc n e
theorem Shr.deck {R : DQ} {x : D} {d c : Addr} {M0 M' : Mm} {r : Nat} (X : Ext d c M0 M') (D : Deck M' d c r) (h : ∀ M2, Upto d c M0 M2 → Deck M2 d c r → R x M2) : Shr R x M' :=
  .of (h _ mixD_upto (mixD_deck D)) (mixD_sub X)
theorem Shr.deckL {R : DQ} {p d c : Addr} {M0 M' : Mm} {r r0 : Nat} {xs : List D} (D0 : Deck M0 d c r0) (n : M0 p = none) (e : lstOf M' p = some xs) (X : Ext d c M0 M') (D : Deck M' d c r)
    (h : ∀ M2, Upto d c M0 M2 → Deck M2 d c r → R (.lst xs) M2) : Shr R (.ref p) M' :=
  .frz e (mixD_sub X) (mixD_none D0 n) (h _ mixD_upto (mixD_deck D))
theorem Shr.lst {R : DQ} {p : Addr} {M0 M' : Mm} {xs : List D} (n : M0 p = none) (e : lstOf M' p = some xs) (X : Sub M0 M') (h : R (.lst xs) M0) : Shr R (.ref p) M' := .frz e X n h
theorem Upto.none {d c p : Addr} {M M' : Mm} {r : Nat} (h : Upto d c M M') (D : Deck M d c r) : M' p = none → p ≠ d → p ≠ c → M p = none := fun e h1 h2 => by rw [← h p h1 h2]; exact e
theorem Upto.lst {d c p : Addr} {M M' : Mm} (h : Upto d c M M') (h1 : p ≠ d) (h2 : p ≠ c) : lstOf M' p = lstOf M p := by unfold lstOf; rw [h p h1 h2]
theorem Upto.fresh {d c p : Addr} {M M' : Mm} {r : Nat} (h : Upto d c M M') (D : Deck M' d c r) (n : M' p = Option.none) : M p = Option.none := by rw [← h p (D.nd n) (D.nc n)]; exact n
theorem Ext.fresh {d c p : Addr} {M M' : Mm} {r : Nat} (h : Ext d c M M') (D : Deck M' d c r) (n : M' p = Option.none) : M p = Option.none := by
  cases e : M p with
  | none => rfl
  | some o => rw [h p o (D.nd n) (D.nc n) e] at n; cases n
end DM
namespace DM
open PySem L2
open PyProof.Rows (b2i)
abbrev cps (z : Str) : List Nat := z.cps.toList
theorem cps_len (z : Str) : z.length = (cps z).length := by simp [Str.length]
theorem cps_append (x y : Str) : cps (x ++ y) = cps x ++ cps y := by
  show ((x.cps ++ y.cps).toList) = _
  simp
theorem cps_inj {x y : Str} (h : cps x = cps y) : x = y := by
  cases x; cases y
  simp only [cps] at h
  congr 1
  exact Array.toList_inj.mp h
theorem cps_cut (z : Str) (lo hi : Option Int) : cps (cutS z lo hi) = cutL (cps z) lo hi := by
  unfold cutS cutL
  simp [cps, Str.length]
theorem cps_one (c : Nat) : cps (⟨#[c]⟩ : Str) = [c] := rfl
theorem cps_join0 : ∀ ys : List Str, cps (Txt.join (⟨#[]⟩ : Str) ys) = (ys.map cps).flatten := by
  intro ys
  rw [TL.join_eq]
  induction ys with
  | nil => rfl
  | cons x r ih =>
    cases r with
    | nil => simp [Str.join]
    | cons y r =>
      show cps (x ++ ⟨#[]⟩ ++ Str.join ⟨#[]⟩ (y :: r)) = _
      rw [cps_append, cps_append, ih]
      simp [cps]
section
variable {M : Mm} {Q : DQ} {i : Int} {z : Str}
theorem ix_s {c : Nat} (h0 : 0 ≤ i) (h1 : (cps z)[i.toNat]? = some c) (hz : z.length ≤ sizeLine) (h : Q (.str ⟨#[c]⟩) M) : ixR (.str z) (.int i) M Q := by
  unfold ixR
  have e2 : L2.atI z.cps.toList i = some c := by
    have := atI_nat (j := i.toNat) h1
    rwa [show ((i.toNat : Nat) : Int) = i by omega] at this
  simp only [e2]
  exact ⟨hz, h⟩
end
theorem all_map {α : Type} (f : α → D) (P : α → Prop) : ∀ {ys : List D}, (∀ y ∈ ys, ∃ a, P a ∧ y = f a) → ∃ as : List α, ys = as.map f ∧ (∀ a ∈ as, P a) ∧ as.length = ys.length
  | [], _ => ⟨[], rfl, by simp, rfl⟩
  | y :: ys, h => by
    obtain ⟨a, ha, rfl⟩ := h y List.mem_cons_self
    obtain ⟨as, rfl, h2, h3⟩ := all_map f P (ys := ys) fun z hz => h z (List.mem_cons_of_mem _ hz)
    exact ⟨a :: as, rfl, fun b hb => by
      rcases List.mem_cons.mp hb with rfl | hb
      · exact ha
      · exact h2 b hb, by simp⟩
section
variable {ok : Mm → Prop} {g : TDG} {tt : TDT} {te : TDE} {ds0 : DSt} {Q : List D → Mm → Prop}
theorem lcW_deck {d c : Addr} {r : Nat} (b : Nat) (P : D → Prop) {xs : List D} {M : Mm} (hz : xs.length ≤ sizeLine) (D0 : Deck M d c (r + b * xs.length)) (hok : ∀ M', Upto d c M M' → ok M')
    (step : ∀ x ∈ xs, ∀ (r' : Nat) (M1 : Mm) (N : D → Mm → Prop) (F : Mm → Prop), Deck M1 d c (r' + b) → Upto d c M M1 → (∀ y M2, P y → Deck M2 d c r' → Upto d c M M2 → N y M2) →
      g x ds0 M1 fun ds' M2 => tt ds' M2 fun k M3 => if k = true then te ds' M3 N else F M3)
    (fin : ∀ ys M', ys.length = xs.length → (∀ y ∈ ys, P y) → Deck M' d c r → Upto d c M M' → Q ys M') : lcW ok g tt te ds0 Q xs [] M := by
  refine lcW_go (fun i acc M' => acc.length = i ∧ i ≤ xs.length ∧ (∀ y ∈ acc, P y) ∧ Deck M' d c (r + b * (xs.length - i)) ∧ Upto d c M M') xs (fun i acc M' h => hok _ h.2.2.2.2) (fun i x N e hN acc M' hI => ?_) (fun acc M' hI => ?_) M ⟨rfl, Nat.zero_le _, by simp, by simpa using D0, Upto.refl⟩
  · obtain ⟨h1, h2, h3, h4, h5⟩ := hI
    have hlt : i < xs.length := (List.getElem?_eq_some_iff.mp e).1
    have hm : x ∈ xs := List.mem_of_getElem? e
    have D1 : Deck M' d c (r + b * (xs.length - (i + 1)) + b) := h4.mono (by rw [show xs.length - i = (xs.length - (i + 1)) + 1 by omega, Nat.mul_add, Nat.mul_one]; omega)
    exact step x hm _ M' (fun y M2 => acc.length < sizeLine ∧ N (acc ++ [y]) M2) _ D1 h5 fun y M2 py D2 u2 => ⟨by omega, hN _ _ ⟨by simp [h1], hlt, fun z hz => by
      rcases List.mem_append.mp hz with hz | hz
      · exact h3 z hz
      · rw [List.mem_singleton.mp hz]; exact py, D2, u2⟩⟩
  · obtain ⟨h1, h2, h3, h4, h5⟩ := hI
    exact fin acc M' h1 h3 (by simpa using h4) h5
end
end DM
namespace DM
open PySem L2
open PyProof.Rows (b2i)
section
variable {M : Mm} {Q : DQ}
theorem joinQ_map {α : Type} (f : α → Str) {a : Str} {l : List α} (h1 : ((l.map f).map (·.length)).sum + (l.map f).length * a.length ≤ 16777216) (h : Q (.str (Txt.join a (l.map f))) M) : joinQ a (l.map fun x => .str (f x)) M Q := by
  unfold joinQ
  rw [strsOf_map]
  exact ⟨h1, h⟩
theorem append_go {p : Addr} {xs : List D} {d : D} (e : lstOf M p = some xs) (hz : xs.length < sizeLine) (h : Q .non (mup M p (.lst (xs ++ [d])))) : appendR (.ref p) [d] M Q := by
  unfold appendR
  simp only [e]
  exact ⟨hz, h⟩
theorem popAt_go {p : Addr} {xs : List D} {d : D} {i : Int} (e : lstOf M p = some xs) (h0 : 0 ≤ i) (h1 : i < 2 ^ 62) (e2 : xs[i.toNat]? = some d) (h : Q d (mup M p (.lst (xs.eraseIdx i.toNat)))) : popAtR (.ref p) [.int i] M Q := by
  unfold popAtR
  simp only [e, e2]
  exact ⟨⟨h0, h1⟩, h⟩
theorem pop_go {p : Addr} {xs : List D} {d : D} (e : lstOf M p = some (xs ++ [d])) (h : Q d (mup M p (.lst xs))) : popR (.ref p) [] M Q := by
  unfold popR
  simp only [e]
  rw [show (xs ++ [d])[(xs ++ [d]).length - 1]? = some d by simp]
  simpa using h
theorem ne_nil_l {p : Addr} {xs : List D} (e : lstOf M p = some xs) (h1 : pureDs xs = true) (h2 : depDs xs ≤ 99) (h : Q (.bl (!xs.isEmpty)) M) : neR (.ref p) (.lst []) M Q := by
  unfold neR
  rw [okD_l e, eqM_lL e, eqvDs_nil]
  exact ⟨⟨⟨h1, h2⟩, by simp [okD, resD, pureD, pureDs, depD, depDs]⟩, h⟩
end
section
variable {M : Mm} {Q : DQ} {i j : Int} {x y : Str} {a b : Bool} {xs ys : List D}
theorem eqR_ii : eqR (.int i) (.int j) M Q = Q (.bl (i == j)) M := by simp only [eqR, okD_i, eqM_ii, and_true, true_and]
theorem eqR_ss : eqR (.str x) (.str y) M Q = Q (.bl (x == y)) M := by simp only [eqR, okD_s, eqM_ss, and_true, true_and]
theorem eqR_bb : eqR (.bl a) (.bl b) M Q = Q (.bl (a == b)) M := by simp only [eqR, okD_b, eqM_bb, and_true, true_and]
theorem eqR_tt : eqR (.tup xs) (.tup ys) M Q = (((pureDs xs = true ∧ depDs xs ≤ 99) ∧ pureDs ys = true ∧ depDs ys ≤ 99) ∧ Q (.bl (eqvDs xs ys)) M) := by simp only [eqR, okD_t, eqM_tt]
theorem eqR_LL : eqR (.lst xs) (.lst ys) M Q = (((pureDs xs = true ∧ depDs xs ≤ 99) ∧ pureDs ys = true ∧ depDs ys ≤ 99) ∧ Q (.bl (eqvDs xs ys)) M) := by simp only [eqR, okD_L, eqM_LL]
theorem neR_ii : neR (.int i) (.int j) M Q = Q (.bl (!(i == j))) M := by simp only [neR, okD_i, eqM_ii, and_true, true_and]
theorem neR_ss : neR (.str x) (.str y) M Q = Q (.bl (!(x == y))) M := by simp only [neR, okD_s, eqM_ss, and_true, true_and]
theorem neR_bb : neR (.bl a) (.bl b) M Q = Q (.bl (!(a == b))) M := by simp only [neR, okD_b, eqM_bb, and_true, true_and]
theorem neR_tt : neR (.tup xs) (.tup ys) M Q = (((pureDs xs = true ∧ depDs xs ≤ 99) ∧ pureDs ys = true ∧ depDs ys ≤ 99) ∧ Q (.bl (!eqvDs xs ys)) M) := by simp only [neR, okD_t, eqM_tt]
theorem neR_LL : neR (.lst xs) (.lst ys) M Q = (((pureDs xs = true ∧ depDs xs ≤ 99) ∧ pureDs ys = true ∧ depDs ys ≤ 99) ∧ Q (.bl (!eqvDs xs ys)) M) := by simp only [neR, okD_L, eqM_LL]
end
theorem ifs2 {c e : Prop} [Decidable c] [Decidable e] {a b : Prop} (h1 : c → e → a) (h2 : ¬(c ∧ e) → b) : if c then (if e then a else b) else b := by
  split
  · split
    · exact h1 (by assumption) (by assumption)
    · rename_i h; exact h2 fun z => h z.2
  · rename_i h; exact h2 fun z => h z.1
theorem cut_nat {z : Str} (i : Nat) : cps (cutS z none (some (0 + (i : Int) + 1))) = (cps z).take (i + 1) := by
  rw [cps_cut, show (0 + (i : Int) + 1) = ((i + 1 : Nat) : Int) by omega, cutL_to]
theorem pureDs_str (ns : List Str) : pureDs (ns.map D.str) = true := pureDs_map _ (fun _ => rfl) ns
theorem depDs_str (ns : List Str) : depDs (ns.map D.str) ≤ 1 := depDs_map _ 1 (Nat.le_refl _) (fun _ => by simp [depD]) ns
theorem Ext.mup {d c p : Addr} {M M1 : Mm} {o : MO} (x : Ext d c M M1) (n : M p = none) : Ext d c M (mup M1 p o) := x.put n
theorem lstOf_keep {M : Mm} {p q : Addr} {o : MO} {xs : List D} (h : p ≠ q) (e : lstOf M p = some xs) : lstOf (mup M q o) p = some xs := by rw [lstOf_mup_ne h]; exact e
theorem Deck.keep {M : Mm} {d c p : Addr} {r : Nat} {o : MO} (h : Deck M d c r) (h1 : p ≠ d) (h2 : p ≠ c) : Deck (DM.mup M p o) d c r := h.put h1 h2
end DM
namespace DM
open PySem L2
open PyProof.Rows (b2i)
mutual
theorem eqvD_refl : ∀ d : D, pureD d = true → eqvD d d = true
  | .non, _ => by simp [eqvD]
  | .bl _, _ => by simp [eqvD]
  | .int _, _ => by simp [eqvD]
  | .str _, _ => by simp [eqvD]
  | .tup xs, h => by simp only [eqvD]; exact eqvDs_refl xs (by simpa [pureD] using h)
  | .lst xs, h => by simp only [eqvD]; exact eqvDs_refl xs (by simpa [pureD] using h)
  | .ref _, h => by simp [pureD] at h
  | .ty _, h => by simp [pureD] at h
  | .dic _, h => by simp [pureD] at h
theorem eqvDs_refl : ∀ ds : List D, pureDs ds = true → eqvDs ds ds = true
  | [], _ => by simp [eqvDs]
  | d :: ds, h => by
    have h1 := Bool.and_eq_true_iff.mp (show (pureD d && pureDs ds) = true by simpa [pureDs] using h)
    simp only [eqvDs, Bool.and_eq_true]
    exact ⟨eqvD_refl d h1.1, eqvDs_refl ds h1.2⟩
end
mutual
def noBl : D → Bool
  | .bl _ => false
  | .tup xs => noBls xs
  | .lst xs => noBls xs
  | .ref _ => false
  | .ty _ => false
  | .dic _ => false
  | .dit _ => false
  | .non => true
  | .int _ => true
  | .str _ => true
def noBls : List D → Bool
  | [] => true
  | x :: xs => noBl x && noBls xs
end
mutual
theorem eqvD_eq : ∀ d e : D, noBl d = true → noBl e = true → eqvD d e = true → d = e
  | .non, e, _, _, h => by cases e <;> simp [eqvD] at h ⊢
  | .int _, e, _, he, h => by cases e <;> simp_all [eqvD, noBl]
  | .str _, e, _, _, h => by cases e <;> simp_all [eqvD]
  | .bl _, _, h, _, _ => by simp [noBl] at h
  | .ref _, _, h, _, _ => by simp [noBl] at h
  | .ty _, _, h, _, _ => by simp [noBl] at h
  | .dic _, _, h, _, _ => by simp [noBl] at h
  | .tup xs, e, hd, he, h => by
    cases e with
    | tup ys =>
      simp only [eqvD] at h
      rw [eqvDs_eq xs ys (by simpa [noBl] using hd) (by simpa [noBl] using he) h]
    | _ => simp [eqvD] at h
  | .lst xs, e, hd, he, h => by
    cases e with
    | lst ys =>
      simp only [eqvD] at h
      rw [eqvDs_eq xs ys (by simpa [noBl] using hd) (by simpa [noBl] using he) h]
    | _ => simp [eqvD] at h
theorem eqvDs_eq : ∀ ds es : List D, noBls ds = true → noBls es = true → eqvDs ds es = true → ds = es
  | [], es, _, _, h => by cases es with
    | nil => rfl
    | cons _ _ => simp [eqvDs] at h
  | d :: ds, es, hd, he, h => by
    cases es with
    | nil => simp [eqvDs] at h
    | cons e es =>
      have h1 := Bool.and_eq_true_iff.mp (show (noBl d && noBls ds) = true by simpa [noBls] using hd)
      have h2 := Bool.and_eq_true_iff.mp (show (noBl e && noBls es) = true by simpa [noBls] using he)
      have h3 := Bool.and_eq_true_iff.mp (show (eqvD d e && eqvDs ds es) = true by simpa [eqvDs] using h)
      rw [eqvD_eq d e h1.1 h2.1 h3.1, eqvDs_eq ds es h1.2 h2.2 h3.2]
end
mutual
theorem pure_noBl : ∀ d : D, noBl d = true → pureD d = true
  | .non, _ => rfl
  | .int _, _ => rfl
  | .str _, _ => rfl
  | .bl _, h => by simp [noBl] at h
  | .ref _, h => by simp [noBl] at h
  | .ty _, h => by simp [noBl] at h
  | .dic _, h => by simp [noBl] at h
  | .dit _, h => by simp [noBl] at h
  | .tup xs, h => by simp only [pureD]; exact pure_noBls xs (by simpa [noBl] using h)
  | .lst xs, h => by simp only [pureD]; exact pure_noBls xs (by simpa [noBl] using h)
theorem pure_noBls : ∀ ds : List D, noBls ds = true → pureDs ds = true
  | [], _ => rfl
  | d :: ds, h => by
    have h1 := Bool.and_eq_true_iff.mp (show (noBl d && noBls ds) = true by simpa [noBls] using h)
    simp only [pureDs, Bool.and_eq_true]
    exact ⟨pure_noBl d h1.1, pure_noBls ds h1.2⟩
end
noncomputable instance : DecidableEq D := fun a b => Classical.propDecidable _
theorem eqvDs_dec {d e : List D} (h : noBls d = true) (h' : noBls e = true) : eqvDs d e = true ↔ d = e := ⟨eqvDs_eq d e h h', fun q => by rw [q]; exact eqvDs_refl _ (pure_noBls _ h')⟩
theorem noBls_map {α : Type} (f : α → D) (h : ∀ a, noBl (f a) = true) : ∀ l : List α, noBls (l.map f) = true
  | [] => rfl
  | a :: l => by rw [List.map_cons, noBls, h a, noBls_map f h l]; rfl
theorem noBls_str (ns : List Str) : noBls (ns.map D.str) = true := noBls_map _ (fun _ => rfl) ns
theorem map_str_inj : ∀ {a b : List Str}, a.map D.str = b.map D.str → a = b
  | [], [], _ => rfl
  | [], _ :: _, h => by simp at h
  | _ :: _, [], h => by simp at h
  | x :: a, y :: b, h => by
    simp only [List.map_cons, List.cons.injEq, D.str.injEq] at h
    rw [h.1, map_str_inj h.2]
theorem eqvDs_strs {a b : List Str} : eqvDs (a.map D.str) (b.map D.str) = decide (a = b) := by
  rw [Bool.eq_iff_iff, eqvDs_dec (noBls_str _) (noBls_str _), decide_eq_true_eq]
  exact ⟨map_str_inj, fun q => by rw [q]⟩
theorem Shr.up {R : DQ} {x : D} {d c : Addr} {M0 M' : Mm} {r : Nat} (X : Upto d c M0 M') (D : Deck M' d c r) (h : ∀ M2, Upto d c M0 M2 → Deck M2 d c r → R x M2) : Shr R x M' := Shr.all (h M' X D)
section
variable {ok : Mm → Prop} {g : TDG} {tt : TDT} {te : TDE} {ds0 : DSt} {Q : List D → Mm → Prop}
theorem lcW_fun {α : Type} (e : α → D) (f : α → D) {l : List α} {M : Mm} (hz : l.length ≤ sizeLine) (hok : ok M)
    (h : ∀ x ∈ l, ∀ (N : DQ) (F : Mm → Prop), N (f x) M → g (e x) ds0 M fun ds' M2 => tt ds' M2 fun b M3 => if b = true then te ds' M3 N else F M3)
    (fin : Q (l.map f) M) : lcW ok g tt te ds0 Q (l.map e) [] M := by
  refine lcW_go (fun i acc M' => M' = M ∧ acc = (l.take i).map f ∧ i ≤ l.length) (l.map e) (fun i acc M' h => by rw [h.1]; exact hok) (fun i x N ex hN acc M' hI => ?_) (fun acc M' hI => ?_) M ⟨rfl, by simp, Nat.zero_le _⟩
  · obtain ⟨rfl, rfl, hi⟩ := hI
    rw [List.getElem?_map] at ex
    obtain ⟨y, hy, rfl⟩ := Option.map_eq_some_iff.mp ex
    have hlt := (List.getElem?_eq_some_iff.mp hy).1
    refine h y (List.mem_of_getElem? hy) (fun d M4 => ((l.take i).map f).length < sizeLine ∧ N ((l.take i).map f ++ [d]) M4) _ ⟨?_, hN _ _ ⟨rfl, ?_, hlt⟩⟩
    · simp only [List.length_map, List.length_take]; omega
    · rw [List.take_add_one, hy]; simp
  · obtain ⟨rfl, rfl, _⟩ := hI
    rw [List.length_map, List.take_length]
    exact fin
theorem lcW_filter {α : Type} (e : α → D) (p : α → Bool) (f : α → D) {l : List α} {M : Mm} (hz : l.length ≤ sizeLine) (hok : ok M)
    (h : ∀ x ∈ l, ∀ (N : DQ) (F : Mm → Prop), (p x = true → N (f x) M) → (p x = false → F M) → g (e x) ds0 M fun ds' M2 => tt ds' M2 fun b M3 => if b = true then te ds' M3 N else F M3)
    (fin : Q ((l.filter p).map f) M) : lcW ok g tt te ds0 Q (l.map e) [] M := by
  refine lcW_go (fun i acc M' => M' = M ∧ acc = ((l.take i).filter p).map f ∧ i ≤ l.length) (l.map e) (fun i acc M' h => by rw [h.1]; exact hok) (fun i x N ex hN acc M' hI => ?_) (fun acc M' hI => ?_) M ⟨rfl, by simp, Nat.zero_le _⟩
  · obtain ⟨rfl, rfl, hi⟩ := hI
    rw [List.getElem?_map] at ex
    obtain ⟨y, hy, rfl⟩ := Option.map_eq_some_iff.mp ex
    have hlt := (List.getElem?_eq_some_iff.mp hy).1
    have hle : ((l.take i).filter p).length ≤ i := Nat.le_trans (List.length_filter_le _ _) (by simp; omega)
    refine h y (List.mem_of_getElem? hy) (fun d M4 => (((l.take i).filter p).map f).length < sizeLine ∧ N (((l.take i).filter p).map f ++ [d]) M4) _ (fun hp => ⟨?_, hN _ _ ⟨rfl, ?_, hlt⟩⟩) fun hp => hN _ _ ⟨rfl, ?_, hlt⟩
    · simp only [List.length_map]; omega
    · rw [List.take_add_one, hy]; simp [List.filter_cons, hp]
    · rw [List.take_add_one, hy]; simp [List.filter_cons, hp]
  · obtain ⟨rfl, rfl, _⟩ := hI
    rw [List.length_map, List.take_length]
    exact fin
end
section
variable {M : Mm} {Q : DQ} {i : Int} {x : Str} {a b : Bool} {xs : List D} {p : Addr} {kvs : List (Key × D)}
theorem isi_t_bool : isiR [.tup xs, .ty "bool"] M Q = Q (.bl false) M := by
  show (isiOk "tuple" "bool" = true ∧ Q (.bl (isiB "tuple" "bool")) M) = _
  rw [show isiOk "tuple" "bool" = true by decide, show isiB "tuple" "bool" = false by decide]; simp
theorem isi_t_int : isiR [.tup xs, .ty "int"] M Q = Q (.bl false) M := by
  show (isiOk "tuple" "int" = true ∧ Q (.bl (isiB "tuple" "int")) M) = _
  rw [show isiOk "tuple" "int" = true by decide, show isiB "tuple" "int" = false by decide]; simp
theorem isi_t_str : isiR [.tup xs, .ty "str"] M Q = Q (.bl false) M := by
  show (isiOk "tuple" "str" = true ∧ Q (.bl (isiB "tuple" "str")) M) = _
  rw [show isiOk "tuple" "str" = true by decide, show isiB "tuple" "str" = false by decide]; simp
theorem isi_t_tuple : isiR [.tup xs, .ty "tuple"] M Q = Q (.bl true) M := by
  show (isiOk "tuple" "tuple" = true ∧ Q (.bl (isiB "tuple" "tuple")) M) = _
  rw [show isiOk "tuple" "tuple" = true by decide, show isiB "tuple" "tuple" = true by decide]; simp
theorem isi_t_list : isiR [.tup xs, .ty "list"] M Q = Q (.bl false) M := by
  show (isiOk "tuple" "list" = true ∧ Q (.bl (isiB "tuple" "list")) M) = _
  rw [show isiOk "tuple" "list" = true by decide, show isiB "tuple" "list" = false by decide]; simp
theorem isi_t_dict : isiR [.tup xs, .ty "dict"] M Q = Q (.bl false) M := by
  show (isiOk "tuple" "dict" = true ∧ Q (.bl (isiB "tuple" "dict")) M) = _
  rw [show isiOk "tuple" "dict" = true by decide, show isiB "tuple" "dict" = false by decide]; simp
theorem isi_s_bool : isiR [.str x, .ty "bool"] M Q = Q (.bl false) M := by
  show (isiOk "str" "bool" = true ∧ Q (.bl (isiB "str" "bool")) M) = _
  rw [show isiOk "str" "bool" = true by decide, show isiB "str" "bool" = false by decide]; simp
theorem isi_s_int : isiR [.str x, .ty "int"] M Q = Q (.bl false) M := by
  show (isiOk "str" "int" = true ∧ Q (.bl (isiB "str" "int")) M) = _
  rw [show isiOk "str" "int" = true by decide, show isiB "str" "int" = false by decide]; simp
theorem isi_s_str : isiR [.str x, .ty "str"] M Q = Q (.bl true) M := by
  show (isiOk "str" "str" = true ∧ Q (.bl (isiB "str" "str")) M) = _
  rw [show isiOk "str" "str" = true by decide, show isiB "str" "str" = true by decide]; simp
theorem isi_s_tuple : isiR [.str x, .ty "tuple"] M Q = Q (.bl false) M := by
  show (isiOk "str" "tuple" = true ∧ Q (.bl (isiB "str" "tuple")) M) = _
  rw [show isiOk "str" "tuple" = true by decide, show isiB "str" "tuple" = false by decide]; simp
theorem isi_s_list : isiR [.str x, .ty "list"] M Q = Q (.bl false) M := by
  show (isiOk "str" "list" = true ∧ Q (.bl (isiB "str" "list")) M) = _
  rw [show isiOk "str" "list" = true by decide, show isiB "str" "list" = false by decide]; simp
theorem isi_s_dict : isiR [.str x, .ty "dict"] M Q = Q (.bl false) M := by
  show (isiOk "str" "dict" = true ∧ Q (.bl (isiB "str" "dict")) M) = _
  rw [show isiOk "str" "dict" = true by decide, show isiB "str" "dict" = false by decide]; simp
theorem isi_i_bool : isiR [.int i, .ty "bool"] M Q = Q (.bl false) M := by
  show (isiOk "int" "bool" = true ∧ Q (.bl (isiB "int" "bool")) M) = _
  rw [show isiOk "int" "bool" = true by decide, show isiB "int" "bool" = false by decide]; simp
theorem isi_i_int : isiR [.int i, .ty "int"] M Q = Q (.bl true) M := by
  show (isiOk "int" "int" = true ∧ Q (.bl (isiB "int" "int")) M) = _
  rw [show isiOk "int" "int" = true by decide, show isiB "int" "int" = true by decide]; simp
theorem isi_i_str : isiR [.int i, .ty "str"] M Q = Q (.bl false) M := by
  show (isiOk "int" "str" = true ∧ Q (.bl (isiB "int" "str")) M) = _
  rw [show isiOk "int" "str" = true by decide, show isiB "int" "str" = false by decide]; simp
theorem isi_i_tuple : isiR [.int i, .ty "tuple"] M Q = Q (.bl false) M := by
  show (isiOk "int" "tuple" = true ∧ Q (.bl (isiB "int" "tuple")) M) = _
  rw [show isiOk "int" "tuple" = true by decide, show isiB "int" "tuple" = false by decide]; simp
theorem isi_i_list : isiR [.int i, .ty "list"] M Q = Q (.bl false) M := by
  show (isiOk "int" "list" = true ∧ Q (.bl (isiB "int" "list")) M) = _
  rw [show isiOk "int" "list" = true by decide, show isiB "int" "list" = false by decide]; simp
theorem isi_i_dict : isiR [.int i, .ty "dict"] M Q = Q (.bl false) M := by
  show (isiOk "int" "dict" = true ∧ Q (.bl (isiB "int" "dict")) M) = _
  rw [show isiOk "int" "dict" = true by decide, show isiB "int" "dict" = false by decide]; simp
theorem isi_b_bool : isiR [.bl a, .ty "bool"] M Q = Q (.bl true) M := by
  show (isiOk "bool" "bool" = true ∧ Q (.bl (isiB "bool" "bool")) M) = _
  rw [show isiOk "bool" "bool" = true by decide, show isiB "bool" "bool" = true by decide]; simp
theorem isi_b_int : isiR [.bl a, .ty "int"] M Q = Q (.bl true) M := by
  show (isiOk "bool" "int" = true ∧ Q (.bl (isiB "bool" "int")) M) = _
  rw [show isiOk "bool" "int" = true by decide, show isiB "bool" "int" = true by decide]; simp
theorem isi_b_str : isiR [.bl a, .ty "str"] M Q = Q (.bl false) M := by
  show (isiOk "bool" "str" = true ∧ Q (.bl (isiB "bool" "str")) M) = _
  rw [show isiOk "bool" "str" = true by decide, show isiB "bool" "str" = false by decide]; simp
theorem isi_b_tuple : isiR [.bl a, .ty "tuple"] M Q = Q (.bl false) M := by
  show (isiOk "bool" "tuple" = true ∧ Q (.bl (isiB "bool" "tuple")) M) = _
  rw [show isiOk "bool" "tuple" = true by decide, show isiB "bool" "tuple" = false by decide]; simp
theorem isi_b_list : isiR [.bl a, .ty "list"] M Q = Q (.bl false) M := by
  show (isiOk "bool" "list" = true ∧ Q (.bl (isiB "bool" "list")) M) = _
  rw [show isiOk "bool" "list" = true by decide, show isiB "bool" "list" = false by decide]; simp
theorem isi_b_dict : isiR [.bl a, .ty "dict"] M Q = Q (.bl false) M := by
  show (isiOk "bool" "dict" = true ∧ Q (.bl (isiB "bool" "dict")) M) = _
  rw [show isiOk "bool" "dict" = true by decide, show isiB "bool" "dict" = false by decide]; simp
theorem isi_n_bool : isiR [.non, .ty "bool"] M Q = Q (.bl false) M := by
  show (isiOk "NoneType" "bool" = true ∧ Q (.bl (isiB "NoneType" "bool")) M) = _
  rw [show isiOk "NoneType" "bool" = true by decide, show isiB "NoneType" "bool" = false by decide]; simp
theorem isi_n_int : isiR [.non, .ty "int"] M Q = Q (.bl false) M := by
  show (isiOk "NoneType" "int" = true ∧ Q (.bl (isiB "NoneType" "int")) M) = _
  rw [show isiOk "NoneType" "int" = true by decide, show isiB "NoneType" "int" = false by decide]; simp
theorem isi_n_str : isiR [.non, .ty "str"] M Q = Q (.bl false) M := by
  show (isiOk "NoneType" "str" = true ∧ Q (.bl (isiB "NoneType" "str")) M) = _
  rw [show isiOk "NoneType" "str" = true by decide, show isiB "NoneType" "str" = false by decide]; simp
theorem isi_n_tuple : isiR [.non, .ty "tuple"] M Q = Q (.bl false) M := by
  show (isiOk "NoneType" "tuple" = true ∧ Q (.bl (isiB "NoneType" "tuple")) M) = _
  rw [show isiOk "NoneType" "tuple" = true by decide, show isiB "NoneType" "tuple" = false by decide]; simp
theorem isi_n_list : isiR [.non, .ty "list"] M Q = Q (.bl false) M := by
  show (isiOk "NoneType" "list" = true ∧ Q (.bl (isiB "NoneType" "list")) M) = _
  rw [show isiOk "NoneType" "list" = true by decide, show isiB "NoneType" "list" = false by decide]; simp
theorem isi_n_dict : isiR [.non, .ty "dict"] M Q = Q (.bl false) M := by
  show (isiOk "NoneType" "dict" = true ∧ Q (.bl (isiB "NoneType" "dict")) M) = _
  rw [show isiOk "NoneType" "dict" = true by decide, show isiB "NoneType" "dict" = false by decide]; simp
theorem isi_L_bool : isiR [.lst xs, .ty "bool"] M Q = Q (.bl false) M := by
  show (isiOk "list" "bool" = true ∧ Q (.bl (isiB "list" "bool")) M) = _
  rw [show isiOk "list" "bool" = true by decide, show isiB "list" "bool" = false by decide]; simp
theorem isi_L_int : isiR [.lst xs, .ty "int"] M Q = Q (.bl false) M := by
  show (isiOk "list" "int" = true ∧ Q (.bl (isiB "list" "int")) M) = _
  rw [show isiOk "list" "int" = true by decide, show isiB "list" "int" = false by decide]; simp
theorem isi_L_str : isiR [.lst xs, .ty "str"] M Q = Q (.bl false) M := by
  show (isiOk "list" "str" = true ∧ Q (.bl (isiB "list" "str")) M) = _
  rw [show isiOk "list" "str" = true by decide, show isiB "list" "str" = false by decide]; simp
theorem isi_L_tuple : isiR [.lst xs, .ty "tuple"] M Q = Q (.bl false) M := by
  show (isiOk "list" "tuple" = true ∧ Q (.bl (isiB "list" "tuple")) M) = _
  rw [show isiOk "list" "tuple" = true by decide, show isiB "list" "tuple" = false by decide]; simp
theorem isi_L_list : isiR [.lst xs, .ty "list"] M Q = Q (.bl true) M := by
  show (isiOk "list" "list" = true ∧ Q (.bl (isiB "list" "list")) M) = _
  rw [show isiOk "list" "list" = true by decide, show isiB "list" "list" = true by decide]; simp
theorem isi_L_dict : isiR [.lst xs, .ty "dict"] M Q = Q (.bl false) M := by
  show (isiOk "list" "dict" = true ∧ Q (.bl (isiB "list" "dict")) M) = _
  rw [show isiOk "list" "dict" = true by decide, show isiB "list" "dict" = false by decide]; simp
theorem isi_d_bool : isiR [.dic kvs, .ty "bool"] M Q = Q (.bl false) M := by
  show (isiOk "dict" "bool" = true ∧ Q (.bl (isiB "dict" "bool")) M) = _
  rw [show isiOk "dict" "bool" = true by decide, show isiB "dict" "bool" = false by decide]; simp
theorem isi_d_int : isiR [.dic kvs, .ty "int"] M Q = Q (.bl false) M := by
  show (isiOk "dict" "int" = true ∧ Q (.bl (isiB "dict" "int")) M) = _
  rw [show isiOk "dict" "int" = true by decide, show isiB "dict" "int" = false by decide]; simp
theorem isi_d_str : isiR [.dic kvs, .ty "str"] M Q = Q (.bl false) M := by
  show (isiOk "dict" "str" = true ∧ Q (.bl (isiB "dict" "str")) M) = _
  rw [show isiOk "dict" "str" = true by decide, show isiB "dict" "str" = false by decide]; simp
theorem isi_d_tuple : isiR [.dic kvs, .ty "tuple"] M Q = Q (.bl false) M := by
  show (isiOk "dict" "tuple" = true ∧ Q (.bl (isiB "dict" "tuple")) M) = _
  rw [show isiOk "dict" "tuple" = true by decide, show isiB "dict" "tuple" = false by decide]; simp
theorem isi_d_list : isiR [.dic kvs, .ty "list"] M Q = Q (.bl false) M := by
  show (isiOk "dict" "list" = true ∧ Q (.bl (isiB "dict" "list")) M) = _
  rw [show isiOk "dict" "list" = true by decide, show isiB "dict" "list" = false by decide]; simp
theorem isi_d_dict : isiR [.dic kvs, .ty "dict"] M Q = Q (.bl true) M := by
  show (isiOk "dict" "dict" = true ∧ Q (.bl (isiB "dict" "dict")) M) = _
  rw [show isiOk "dict" "dict" = true by decide, show isiB "dict" "dict" = true by decide]; simp
end
theorem natlit_eq {n : Nat} : ((no_index (OfNat.ofNat n) : Nat) : Int) = OfNat.ofNat n := rfl
theorem small_line2 {n : Nat} (h : n ≤ 16000000) : n ≤ sizeLine := by rw [sizeLine_eq]; omega
end DM
namespace DM
open PySem L2
open PyProof.Rows (b2i)
def lets : List Nat := (List.range 26).map (97 + ·)
def sgns : List Nat := lets ++ (List.range 10).map (48 + ·)
theorem cps_lets : cps ("abcdefghijklmnopqrstuvwxyz" : Str) = lets := by decide +kernel
theorem cps_sgns : cps (("abcdefghijklmnopqrstuvwxyz" : Str) ++ ("0123456789" : Str)) = sgns := by decide +kernel
def NameL (l : List Nat) : Prop := (∃ c r, l = c :: r ∧ c ∈ lets) ∧ (∀ c ∈ l, c ∈ sgns) ∧ l.length ≤ 8
def NameS (z : Str) : Prop := NameL (cps z)
theorem lets_sgns {c : Nat} (h : c ∈ lets) : c ∈ sgns := List.mem_append_left _ h
theorem occ_lets : ∀ j : Fin 26, Builtin.Str.occurrences ("abcdefghijklmnopqrstuvwxyz" : Str) ⟨#[lets[j.1]!]⟩ 0 26 1 = [j.1] := by decide +kernel
theorem occ_sgns : ∀ j : Fin 36, Builtin.Str.occurrences (("abcdefghijklmnopqrstuvwxyz" : Str) ++ ("0123456789" : Str)) ⟨#[sgns[j.1]!]⟩ 0 36 1 = [j.1] := by decide +kernel
theorem lets_len : lets.length = 26 := by decide
theorem sgns_len : sgns.length = 36 := by decide
theorem lets_get {j : Nat} (h : j < 26) : ∃ c, lets[j]? = some c ∧ c ∈ lets := ⟨lets[j]'(by rw [lets_len]; exact h), List.getElem?_eq_getElem _, List.getElem_mem _⟩
theorem sgns_get {j : Nat} (h : j < 36) : ∃ c, sgns[j]? = some c ∧ c ∈ sgns := ⟨sgns[j]'(by rw [sgns_len]; exact h), List.getElem?_eq_getElem _, List.getElem_mem _⟩
theorem idx_lets {c : Nat} (h : c ∈ lets) : ∃ j, j < 26 ∧ lets[j]? = some c ∧ Builtin.Str.occurrences ("abcdefghijklmnopqrstuvwxyz" : Str) ⟨#[c]⟩ 0 26 1 = [j] := by
  obtain ⟨j, hj, rfl⟩ := List.getElem_of_mem h
  rw [lets_len] at hj
  have := occ_lets ⟨j, hj⟩
  rw [show lets[j]! = lets[j] from getElem!_pos lets j (by rw [lets_len]; exact hj)] at this
  exact ⟨j, hj, List.getElem?_eq_getElem _, this⟩
theorem idx_sgns {c : Nat} (h : c ∈ sgns) : ∃ j, j < 36 ∧ sgns[j]? = some c ∧ Builtin.Str.occurrences (("abcdefghijklmnopqrstuvwxyz" : Str) ++ ("0123456789" : Str)) ⟨#[c]⟩ 0 36 1 = [j] := by
  obtain ⟨j, hj, rfl⟩ := List.getElem_of_mem h
  rw [sgns_len] at hj
  have := occ_sgns ⟨j, hj⟩
  rw [show sgns[j]! = sgns[j] from getElem!_pos sgns j (by rw [sgns_len]; exact hj)] at this
  exact ⟨j, hj, List.getElem?_eq_getElem _, this⟩
theorem join_signs {cs : List Nat} : cps (Txt.join ("" : Str) (cs.map fun c => (⟨#[c]⟩ : Str))) = cs := by
  rw [show ("" : Str) = (⟨#[]⟩ : Str) from rfl, cps_join0, List.map_map]
  induction cs with
  | nil => rfl
  | cons c r ih => rw [List.map_cons, List.flatten_cons, ih]; rfl
theorem sum_ones (cs : List Nat) : ((cs.map fun c => (⟨#[c]⟩ : Str)).map (·.length)).sum = cs.length := by
  induction cs with
  | nil => rfl
  | cons c r ih => rw [List.map_cons, List.map_cons, List.sum_cons, ih]; show 1 + r.length = _; simp; omega
theorem len_le {z : Str} {l : List Nat} (e : cps z = l) (h : l.length ≤ 1000) : z.length ≤ sizeLine := by
  rw [cps_len, e]
  exact small_line (by omega)
theorem eraseIdx_map {α β : Type} (f : α → β) : ∀ (l : List α) (i : Nat), (l.map f).eraseIdx i = (l.eraseIdx i).map f
  | [], _ => rfl
  | _ :: _, 0 => rfl
  | _ :: l, i + 1 => by simp [eraseIdx_map f l i]
theorem name_take {c : Nat} {r : List Nat} (hc : c ∈ lets) (hr : ∀ x ∈ r, x ∈ sgns) (hl : r.length ≤ 7) (k : Nat) : NameL ((c :: r).take (k + 1)) := by
  refine ⟨⟨c, r.take k, by simp, hc⟩, fun x hx => ?_, ?_⟩
  · have := List.mem_of_mem_take hx
    rcases List.mem_cons.mp this with rfl | h
    · exact lets_sgns hc
    · exact hr x h
  · simp only [List.length_take, List.length_cons]; omega
structure Rl where
  p : Str
  m : Str
  o : Str
  w : List Str
def ruleD (r : Rl) : D := .tup [.str r.p, .str r.m, .str r.o, .tup (r.w.map D.str)]
def progD (rs : List Rl) : D := .tup (rs.map ruleD)
theorem noBl_rule (x : Rl) : noBl (ruleD x) = true := by simp [ruleD, noBl, noBls, noBls_str]
theorem noBls_rules (rs : List Rl) : noBls (rs.map ruleD) = true := noBls_map _ noBl_rule rs
abbrev St2 := Str × List Str
def stepF (r : Rl) (s : St2) : Option St2 := if s.1 = r.p ∧ s.2.take 1 = [r.m] then some (r.o, r.w ++ s.2.drop 1) else none
end DM
namespace DMX
open PySem PySem.Spec
open AutoSeq1 (wpAny_loadPart')
theorem meets_enumT (l : Addr) (items : Array Value) (n : Nat) (dct : Option Addr) (sl : Array (Option Value)) :
    Meets (Builtin.«enumerate.__new__» ⟨[.type "enumerate", .ref l], []⟩) (fun _ R s => s.heap.get? l = some { cls := .type "tuple", dict := dct, data := .seq items n, slots := sl } ∧
      R (.ok (.ret (.ref (s.heap.push { cls := .type "tuple_iterator", data := .fields #[.ref l, .int 0 0] }).objs.size)))
        { s with heap := (s.heap.push { cls := .type "tuple_iterator", data := .fields #[.ref l, .int 0 0] }).push { cls := .type "enumerate", data := .fields #[.none, .bool false, .ref s.heap.objs.size, rawInt 0, .none, .none] } }) :=
  .of_wp fun prog w A R s h => by
    obtain ⟨hp, g, d, tk, os⟩ := s; obtain ⟨hl, h⟩ := h
    have hsub := sub_enumerate
    have hL : Heap.IsTuple (Shared.heap ⟨hp, g, d, tk, os⟩) l items := ⟨_, hl, rfl, n, rfl⟩
    wp_walk using wpAny_loadPart' hl
    refine wpAny_stack_any fun st => wpAny_pure ?_
    split
    · rename_i c _ _ _ _ _
      cases (c == Value.type "enumerate")
      · wp_walk using wpAny_loadPart' hl, wpAny_pyIter_tuple hL
        exact ⟨_, rfl, h⟩
      · wp_walk using wpAny_loadPart' hl, wpAny_pyIter_tuple hL
        exact ⟨_, rfl, h⟩
    · wp_walk using wpAny_loadPart' hl, wpAny_pyIter_tuple hL
      exact ⟨_, rfl, h⟩
section
variable {prog : Program} {w : World} {A : Around} {E : Value → Shared → Prop} {s : Shared}
theorem call_enumT {l : Addr} {items : Array Value} {Q : Value → Shared → Prop} (hL : s.heap.IsTuple l items)
    (h : ∀ h', IsEnum h' (s.heap.objs.size + 1) s.heap.objs.size 0 .none → h'.IsTupleIter s.heap.objs.size l 0 → h'.objs.size = s.heap.objs.size + 2 →
      (∀ b o, s.heap.get? b = some o → h'.get? b = some o) → Q (.ref (s.heap.objs.size + 1)) { s with heap := h' }) :
    wpAny (model prog w) A (call (.type "enumerate") [.ref l]) Q E s := by
  obtain ⟨⟨c, dct, dt, sl⟩, hl, hc, n, hd⟩ := hL
  replace hc : c = .type "tuple" := hc
  replace hd : dt = .seq items n := hd
  subst hc hd
  refine callType_new F.called_enumerate (by decide) (F.typeCall_enumerate_1 _) (F.newCall_enumerate_1 _) (fun obj => F.args_object_init_2 obj _) F.entry_enumerate_new
    (meets_enumT l items n dct sl) ⟨hl, ?_⟩
  have hz : (s.heap.push { cls := .type "tuple_iterator", data := .fields #[.ref l, .int 0 0] }).objs.size = s.heap.objs.size + 1 := Heap.size_push ..
  show _ ∧ _
  rw [hz]
  have he : IsEnum ((s.heap.push { cls := .type "tuple_iterator", data := .fields #[.ref l, .int 0 0] }).push
      { cls := .type "enumerate", data := .fields #[.none, .bool false, .ref s.heap.objs.size, rawInt 0, .none, .none] }) (s.heap.objs.size + 1) s.heap.objs.size 0 .none := by
    have := Heap.get?_push_size (s.heap.push { cls := .type "tuple_iterator", data := .fields #[.ref l, .int 0 0] })
      (o := { cls := .type "enumerate", data := .fields #[.none, .bool false, .ref s.heap.objs.size, rawInt 0, .none, .none] }) rfl
    rw [hz] at this; exact this
  refine ⟨⟨_, he, rfl⟩, h _ he ⟨_, Heap.get?_push_of_some _ (Heap.get?_push_size _ rfl), rfl, rfl⟩ (by rw [Heap.size_push, hz]) fun b o x => Heap.get?_push_of_some _ (Heap.get?_push_of_some _ x)⟩
end
end DMX
namespace L2
open PySem PySem.Spec PyProof.Rows
def IteT (K : PySem.W.Frag) (a : Addr) : It :=
  ⟨fun i H => ∃ (xs : List V) (x : V), SqT K H a xs ∧ xs[i]? = some x, fun i H v H' => ∃ T x, v = .ref T ∧ H T = none ∧ H' = upd H T (.tup [.int (i : Nat), x]) ∧ ∀ xs, SqT K H a xs → xs[i]? = some x, fun i H => ∃ xs : List V, SqT K H a xs ∧ xs.length = i⟩
theorem turn_enumT {P : Program} {w : World} {K : PySem.W.Frag} {elts : List Expr} {kk : Nat} {tpos : Pos} (a e it : Addr) (hai : a ≠ it) (hae : e ≠ a) :
    Turn P w K (.Tuple elts kk tpos) (IteT K a) [e, it] e (fun i h => (∃ old, IsEnum h e it ((i : Nat) : Int) old) ∧ h.IsTupleIter it a i ∧ e ≠ it) where
  mem := by simp
  obj := fun i h st b hb => by
    obtain ⟨⟨old, he⟩, ⟨o, ho, hc, hd⟩, _⟩ := st
    have e' : b = e ∨ b = it := by simpa using hb
    rcases e' with z | z
    · rw [z]; exact ⟨_, he, fun v q => nomatch q⟩
    · rw [z]; exact ⟨o, ho, fun v q => by rw [hd] at q; cases q⟩
  keep := fun i h h' st k => let ⟨⟨old, he⟩, hi, hne⟩ := st; ⟨⟨old, k e (by simp) _ he⟩, hi.at fun o q => k it (by simp) o q, hne⟩
  item := by
    intro X hP hw hK hc i pins s σ H E I hf st hg
    subst hP hw hK
    obtain ⟨⟨old, he⟩, hit, hne⟩ := st
    obtain ⟨xs, x, hq, hx⟩ := hg
    obtain ⟨its, rv, p, hz⟩ := I.tuple hq
    obtain ⟨u, hu, ru⟩ := rv.get hx
    have hel : e < s.heap.objs.size := Heap.lt_size he
    have hil : it < s.heap.objs.size := by obtain ⟨_, q, _⟩ := hit; exact Heap.lt_size q
    have Dr := Draws.tuple (prog := X.prog) (w := X.w) (A := X.A.in1) (I.ok.hd hc) it a hai its.toArray
    have hlt : i < its.toArray.size := by
      have := (List.getElem?_eq_some_iff.mp hu).1
      simpa using this
    refine wpAny_pyNext_enum_itemC Dr he ⟨hit, p⟩ hlt hne (by simp [hne, hae]) fun x' h' tk hP ho hit' hT hsz hk => ?_
    have ex : x' = u := by
      have e1 : its.toArray[i]? = some u := by simpa using hu
      exact Option.some.inj (hP.symm.trans e1)
    subst ex
    refine ⟨_, rfl, wpAny_letOwnedTupleGo_enum (s := { s with heap := h', toks := tk + 1 }) ho fun h'' he' sb => ?_⟩
    have hT2 : h''.get? s.heap.objs.size = some { cls := .type "tuple", data := .seq #[.int i tk, x'] } := (sb.2 _ (Nat.ne_of_gt hel)).trans hT
    have new : ObjOk X.prog X.w (upd H s.heap.objs.size (.tup [.int (i : Nat), x])) h'' s.heap.objs.size (.tup [.int (i : Nat), x]) :=
      ⟨by show 2 ≤ sizeLine; decide, [.int i tk, x'], .cons ⟨_, rfl⟩ (.cons ru .nil), ⟨_, hT2, rfl, _, rfl⟩⟩
    have I1 : Inv X pins σ (upd H s.heap.objs.size (.tup [.int (i : Nat), x])) { s with heap := h'', toks := tk + 1 } :=
      I.turnedNew (ch := [e, it]) (fun b ob hb q => (sb.2 b (fun z => hb (by simp [z]))).trans (hk b ob (fun z => hb (by simp [z])) (fun z => hb (by simp [z])) q)) hf (Nat.le_refl _) new
    refine ⟨.ref s.heap.objs.size, _, I1, rfl, ⟨_, x, rfl, I.hok.fresh (Nat.le_refl _), rfl, fun ys hy => by rw [I.tuple_inj hy hq]; exact hx⟩, ⟨⟨x', ?_⟩, hit'.1.at fun o q => (sb.2 it (Ne.symm hne)).trans q, hne⟩, fun b hb => ?_⟩
    · have e1 : ((i + 1 : Nat) : Int) = (i : Int) + 1 := by omega
      rw [e1]; exact he'
    · have hb' : b < s.heap.objs.size := by
        have e' : b = e ∨ b = it := by simpa using hb
        rcases e' with z | z
        · rw [z]; exact hel
        · rw [z]; exact hil
      rw [upd_ne (Nat.ne_of_lt hb')]
      exact (hf b hb).1
  done := by
    intro X hP hw hK hc i pins s σ H E I hf st hg
    subst hP hw hK
    obtain ⟨⟨old, he⟩, hit, hne⟩ := st
    obtain ⟨xs, hq, hx⟩ := hg
    obtain ⟨its, rv, p, hz⟩ := I.tuple hq
    obtain ⟨f0, f1, f2, f3, f4, f5⟩ := hf it (by simp)
    have hl := rv.length
    have Dr := Draws.tuple (prog := X.prog) (w := X.w) (A := X.A.in1) (I.ok.hd hc) it a hai its.toArray
    have hsz : its.toArray.size = i := by simp; omega
    exact wpAny_pyNext_enum_endD Dr he (by rw [hsz]; exact ⟨hit, p⟩) fun h' eb => ⟨rfl, I.turned (t' := s.toks) (fun b o hb q => eb b o hb q) f0 f1 f3 f4 f5⟩
  self := fun A i s Q E st h => let ⟨⟨_, he⟩, _⟩ := st; wpAny_pyIter_enum he h
def iEnumA (K : PySem.W.Frag) (ta : TA) : TI := fun σ H R => ta σ H fun vs H1 => ∃ a, vs = [.ref a] ∧ ((∃ xs, SqL K H1 a xs ∧ R (Ite K a) H1) ∨ ∃ xs, SqT K H1 a xs ∧ R (IteT K a) H1)
theorem pi_enumA {X : Cx} {e : Expr} {ta : TA} {p pos tpos : Pos} {elts : List Expr} {kk : Nat} (hg : Gl X "enumerate") (hm : X.mg "enumerate" = none) (ha : PA X [e] ta) (hs : starEach [e] X.env = [(false, eval e X.env)] := by rfl) :
    PI X (.Tuple elts kk tpos) (.Call (.Name "enumerate" p) [e] [] pos) (iEnumA X.K ta) := by
  refine ⟨fun pins s σ H R I h => ?_⟩
  refine Call_ (ld_blt I hg hm boot_enumerate (PyProof.Rows.callWith_type1 (thn (ha.run pos pins s σ H _ I h) fun us s1 ⟨vs, H1, I1, r1, q1⟩ => ?_) hs rfl))
  obtain ⟨a, ex, q1⟩ := q1
  subst ex
  cases r1 with
  | cons r rr =>
    cases rr
    cases r
    have fr : ∀ b ∈ [s1.heap.objs.size + 1, s1.heap.objs.size], s1.heap.objs.size ≤ b := fun b hb => by
      have e' : b = s1.heap.objs.size + 1 ∨ b = s1.heap.objs.size := by simpa using hb
      rcases e' with z | z
      · rw [z]; exact Nat.le_add_right _ _
      · rw [z]; exact Nat.le_refl _
    rcases q1 with ⟨xs, hq, q⟩ | ⟨xs, hq, q⟩
    · obtain ⟨its, rv, p', hz⟩ := I1.list hq
      refine call_enumerate_list p'.isList fun h' he hit hsz hk => wpAny_pyIter_enum he ?_
      have I2 : Inv X pins σ H1 { s1 with heap := h' } := I1.kept (t' := s1.toks) hk
      exact ⟨s1.heap.objs.size + 1, [s1.heap.objs.size + 1, s1.heap.objs.size], _, _, H1, rfl, I2, turn_enum a (s1.heap.objs.size + 1) s1.heap.objs.size, ⟨⟨.none, he⟩, hit, Nat.succ_ne_self _⟩, fun b hb => I1.fpOk (fr b hb) (I1.hok.fresh (fr b hb)), q⟩
    · obtain ⟨its, rv, p', hz⟩ := I1.tuple hq
      obtain ⟨oo, hoo, _⟩ := id p'
      have hlt : a < s1.heap.objs.size := Heap.lt_size hoo
      refine DMX.call_enumT p' fun h' he hit hsz hk => wpAny_pyIter_enum he ?_
      have I2 : Inv X pins σ H1 { s1 with heap := h' } := I1.kept (t' := s1.toks) hk
      exact ⟨s1.heap.objs.size + 1, [s1.heap.objs.size + 1, s1.heap.objs.size], _, _, H1, rfl, I2, turn_enumT a (s1.heap.objs.size + 1) s1.heap.objs.size (Nat.ne_of_lt hlt) (Nat.ne_of_gt (Nat.lt_succ_of_lt hlt)), ⟨⟨.none, he⟩, hit, Nat.succ_ne_self _⟩, fun b hb => I1.fpOk (fr b hb) (I1.hok.fresh (fr b hb)), q⟩
end L2
namespace DM
open PySem L2
open PyProof.Rows (b2i)
def enumD : Nat → List D → List D
  | _, [] => []
  | n, x :: xs => .tup [.int (n : Nat), x] :: enumD (n + 1) xs
theorem enumD_len : ∀ (n : Nat) (xs : List D), (enumD n xs).length = xs.length
  | _, [] => rfl
  | n, x :: xs => by simp [enumD, enumD_len (n + 1) xs]
theorem enumD_get : ∀ {n : Nat} {xs : List D} {i : Nat} {d : D}, (enumD n xs)[i]? = some d → ∃ x, xs[i]? = some x ∧ d = .tup [.int ((n + i : Nat) : Int), x]
  | n, [], i, d, h => by simp [enumD] at h
  | n, x :: xs, 0, d, h => by
    simp only [enumD, List.getElem?_cons_zero, Option.some.injEq] at h
    exact ⟨x, rfl, by rw [← h]; simp⟩
  | n, x :: xs, i + 1, d, h => by
    simp only [enumD, List.getElem?_cons_succ] at h
    obtain ⟨y, h1, h2⟩ := enumD_get h
    exact ⟨y, by simpa using h1, by rw [h2, show n + 1 + i = n + (i + 1) by omega]⟩
section
variable {K : PySem.W.Frag} {M M1 : Mm} {H H1 : HF}
theorem it_enumT {a : Addr} {xs : List D} {vs : List V} (sa : SqT K H.h a vs) (ra : VRs K H xs vs) (m0 : MR K M H) : ItOk K (IteT K a) ⟨enumD 0 xs, fun _ => True⟩ M H where
  go := fun i d M2 H2 g m _ e => by
    obtain ⟨x, h1, rfl⟩ := enumD_get e
    obtain ⟨v, e1, _⟩ := ra.get h1
    exact ⟨vs, v, (g.tx m0).tu _ _ sa, e1⟩
  yld := fun i d M2 H2 x H3 g m _ e y => by
    obtain ⟨x', h1, rfl⟩ := enumD_get e
    obtain ⟨v, e1, r1⟩ := ra.get h1
    obtain ⟨T, p, rfl, hT, rfl, hx⟩ := y
    have f1 := hx vs ((g.tx m0).tu _ _ sa)
    rw [e1] at f1
    cases f1
    refine ⟨H2.up _ _, rfl, VR.tupF rfl upd_same (.cons ?_ (.cons (VR.mono (TX.new m hT) _ _ (VR.mono (g.tx m0) _ _ r1)) .nil)), m.newT hT, GG.newT hT⟩
    rw [Nat.zero_add]
    exact .int _
  stop := fun M2 H2 g m _ => ⟨vs, (g.tx m0).tu _ _ sa, by rw [enumD_len]; exact ra.length.symm⟩
theorem it_enumL {a : Addr} {xs : List D} {x : D} (r1 : VR K H x (.ref a)) (m0 : MR K M H) : ItOk K (Ite K a) ⟨enumD 0 xs, fun M' => rdL M' x = some xs⟩ M H where
  go := fun i d M2 H2 g m ok e => by
    obtain ⟨x, h1, rfl⟩ := enumD_get e
    obtain ⟨a', vs, ea, q1, s1⟩ := rdL_v m (VR.mono (g.tx m0) _ _ r1) ok
    cases ea
    obtain ⟨v, e1, _⟩ := s1.get h1
    exact ⟨vs, v, SqL.of q1, e1⟩
  yld := fun i d M2 H2 x H3 g m ok e y => by
    obtain ⟨x', h1, rfl⟩ := enumD_get e
    obtain ⟨a', vs, ea, q1, s1⟩ := rdL_v m (VR.mono (g.tx m0) _ _ r1) ok
    cases ea
    obtain ⟨v, e1, s1⟩ := s1.get h1
    obtain ⟨T, p, rfl, hT, rfl, hx⟩ := y
    have f1 := hx vs (SqL.of q1)
    rw [e1] at f1
    cases f1
    refine ⟨H2.up _ _, rfl, VR.tupF rfl upd_same (.cons ?_ (.cons (VR.mono (TX.new m hT) _ _ s1) .nil)), m.newT hT, GG.newT hT⟩
    rw [Nat.zero_add]
    exact .int _
  stop := fun M2 H2 g m ok => by
    obtain ⟨a', vs, ea, q1, s1⟩ := rdL_v m (VR.mono (g.tx m0) _ _ r1) ok
    cases ea
    exact ⟨vs, SqL.of q1, by rw [enumD_len, s1.length]; exact Nat.le_refl _⟩
end
def enumQ (x : D) (M2 : Mm) (Q : DIt → Mm → Prop) : Prop := match rdL M2 x with | some xs => Q ⟨enumD 0 xs, fun M' => rdL M' x = some xs⟩ M2 | _ => False
def diEnum (ta : TDE) : TDI := fun ds M Q => ta ds M fun x M1 => match x with
  | .tup xs => Q ⟨enumD 0 xs, fun _ => True⟩ M1
  | x => enumQ x M1 Q
theorem ji_enum {X : Cx} {e : Expr} {te : TDE} {p pos tpos : Pos} {elts : List Expr} {kk : Nat} (hm : X.mg "enumerate" = none) (h : JE X e te) (hg : Gl X "enumerate" := by rfl)
    (hs : starEach [e] X.env = [(false, eval e X.env)] := by rfl) (hs' : starEach (e :: []) X.env = (false, eval e X.env) :: starEach [] X.env := by rfl) :
    JI X (.Tuple elts kk tpos) (.Call (.Name "enumerate" p) [e] [] pos) (diEnum te) := by
  obtain ⟨u, q, g⟩ := h
  refine ⟨_, pi_enumA hg hm (pa_cons q pa_nil hs') hs, fun ds σ H M Q R0 s m q k => ?_⟩
  refine g ds σ H M _ _ s m q fun v H1 d M1 r1 m1 g1 q1 => ?_
  split at q1
  · obtain ⟨a, vs, rfl, sa, ra⟩ := r1.tup_v
    exact ⟨a, rfl, .inr ⟨vs, sa, k _ H1 _ M1 (it_enumT sa ra m1) m1 g1 q1⟩⟩
  · unfold enumQ at q1
    split at q1
    · rename_i xs e1
      obtain ⟨a, vs, rfl, h1, _⟩ := rdL_v m1 r1 e1
      exact ⟨_, rfl, .inl ⟨vs, SqL.of h1, k _ H1 _ M1 (it_enumL r1 m1) m1 g1 q1⟩⟩
    · exact q1.elim
end DM
namespace DM
open PySem L2
open PyProof.Rows (b2i)
def dPar2 (i j : Nat) (t : TDA) : TDS := fun D ds M => t ds M fun xs M1 => match xs with | [u, v] => D.nx ((ds.set i (some u)).set j (some v)) M1 | _ => False
end DM
namespace DM
open PySem L2
open PyProof.Rows (b2i)
def LinkX (K : PySem.W.Frag) (W : WX) (M0 : Mm) (H0 : HF) (xc : DX) : Prop := ∀ C od σ ds fs H M, XF H0 od → GG M0 H0 M H → SR K H ds σ → XR K M H od fs → MR K M H → xc C fs ds M → W (.ref C) od σ H.h
abbrev TDEX := DX → DSt → Mm → DQ → Prop
abbrev TDAX := DX → DSt → Mm → (List D → Mm → Prop) → Prop
section
variable {X : Cx} {W : WX} {e o : Expr} {es : List Expr} {te : TDE} {tx : TDEX} {ta : TDAX} {tt : TDA} {pos : Pos}
variable {st : Stmt}
def dDropX (t : TDEX) : TDS := fun D ds M => t D.xc ds M fun _ M1 => D.nx ds M1
def dAsgX (t : TDEX) (g : TDG) : TDS := fun D ds M => t D.xc ds M fun x M1 => g x ds M1 D.nx
theorem Link.x {K : PySem.W.Frag} {M0 : Mm} {H0 : HF} {D0 : Ends} {D1 : DEnds} (l : Link K W M0 H0 D0 D1) : LinkX K W M0 H0 D1.xc := l.xc
end
end DM
namespace DM
open PySem L2
open PyProof.Rows (b2i)
section
variable {X : Cx} {a C : Addr} {oe : Obj} {d : Option Addr} {pn : List (Addr × Obj)} {e : Expr} {es : List Expr} {te : TDE} {ta : TDA} {pos p : Pos}
theorem FR.lookup {K : PySem.W.Frag} {H : HF} {f : Str} : ∀ {fs : List (Str × D)} {us : List (Str × V)} {v : D}, FR K H fs us → fs.lookup f = some v → ∃ u, us.lookup f = some u ∧ VR K H v u
  | _, _, _, .nil, h => by cases h
  | (g, x) :: fs, (_, y) :: us, v, .cons r1 r2, h => by
    simp only [List.lookup_cons] at h ⊢
    split at h
    · rename_i e
      cases h
      exact ⟨y, by simp_all, r1⟩
    · rename_i e
      obtain ⟨u, h1, h2⟩ := FR.lookup r2 h
      exact ⟨u, by simp_all, h2⟩
end
end DM
namespace DM
open PySem L2
theorem cutL_map {α β : Type} (f : α → β) (xs : List α) (lo hi : Option Int) : cutL (xs.map f) lo hi = (cutL xs lo hi).map f := by
  unfold cutL
  rw [List.length_map, List.map_take, List.map_drop]
theorem cutL_mem {α : Type} {xs : List α} {lo hi : Option Int} {x : α} (h : x ∈ cutL xs lo hi) : x ∈ xs := by
  unfold cutL at h
  exact List.mem_of_mem_drop (List.mem_of_mem_take h)
end DM
namespace DM
open PySem L2
open PyProof.Rows (b2i)
structure Bx (d c : Addr) (r : Nat) (M0 : Mm) (L : List (Addr × MO)) (M : Mm) : Prop where
  dk : Deck M d c r
  ex : Ext d c M0 M
  lo : ∀ q ∈ L, M q.1 = some q.2 ∧ M0 q.1 = none ∧ q.1 ≠ d ∧ q.1 ≠ c
  nd : (L.map (·.1)).Nodup
section
variable {d c p q : Addr} {r r' n : Nat} {M0 M M' : Mm} {L : List (Addr × MO)} {o o' : MO} {xs ys : List D}
theorem Bx.start (D : Deck M d c r) : Bx d c r M [] M := ⟨D, Ext.refl, by simp, by simp⟩
theorem Bx.mono (b : Bx d c r M0 L M) (e : r' ≤ r) : Bx d c r' M0 L M := ⟨b.dk.mono e, b.ex, b.lo, b.nd⟩
theorem Bx.new (b : Bx d c r M0 L M) (h : M p = none) : Bx d c r M0 ((p, o) :: L) (mup M p o) := by
  have hpd := b.dk.nd h
  have hpc := b.dk.nc h
  refine ⟨b.dk.up h, b.ex.new h, fun q hq => ?_, ?_⟩
  · rcases List.mem_cons.mp hq with rfl | hq
    · exact ⟨mup_same, b.ex.fresh b.dk h, hpd, hpc⟩
    · obtain ⟨h1, h2, h3, h4⟩ := b.lo q hq
      refine ⟨?_, h2, h3, h4⟩
      rw [mup_ne]
      · exact h1
      · intro e; rw [e, h] at h1; cases h1
  · rw [List.map_cons, List.nodup_cons]
    refine ⟨fun hm => ?_, b.nd⟩
    obtain ⟨q, hq, e⟩ := List.mem_map.mp hm
    have := (b.lo q hq).1
    rw [e] at this
    simp only at this
    rw [h] at this
    cases this
theorem Bx.fresh (b : Bx d c r M0 L M) (h : M p = none) : M0 p = none := b.ex.fresh b.dk h
theorem Bx.put1 (b : Bx d c r M0 ((p, o) :: L) M) : Bx d c r M0 ((p, o') :: L) (mup M p o') := by
  obtain ⟨h1, h2, h3, h4⟩ := b.lo (p, o) (by simp)
  simp only at h1 h2 h3 h4
  have nd := b.nd
  rw [List.map_cons, List.nodup_cons] at nd
  refine ⟨b.dk.keep h3 h4, b.ex.put h2, fun q hq => ?_, b.nd⟩
  rcases List.mem_cons.mp hq with rfl | hq
  · exact ⟨mup_same, h2, h3, h4⟩
  · obtain ⟨g1, g2, g3, g4⟩ := b.lo q (List.mem_cons_of_mem _ hq)
    refine ⟨?_, g2, g3, g4⟩
    rw [mup_ne]
    · exact g1
    · intro e; exact nd.1 (e ▸ List.mem_map.mpr ⟨q, hq, rfl⟩)
theorem Bx.put2 {y : Addr × MO} (b : Bx d c r M0 (y :: (p, o) :: L) M) : Bx d c r M0 (y :: (p, o') :: L) (mup M p o') := by
  obtain ⟨h1, h2, h3, h4⟩ := b.lo (p, o) (by simp)
  simp only at h1 h2 h3 h4
  have nd := b.nd
  simp only [List.map_cons, List.nodup_cons, List.mem_cons, not_or] at nd
  refine ⟨b.dk.keep h3 h4, b.ex.put h2, fun q hq => ?_, b.nd⟩
  rcases List.mem_cons.mp hq with rfl | hq
  · obtain ⟨g1, g2, g3, g4⟩ := b.lo q (by simp)
    exact ⟨by rw [mup_ne nd.1.1]; exact g1, g2, g3, g4⟩
  · rcases List.mem_cons.mp hq with rfl | hq
    · exact ⟨mup_same, h2, h3, h4⟩
    · obtain ⟨g1, g2, g3, g4⟩ := b.lo q (by simp [hq])
      refine ⟨?_, g2, g3, g4⟩
      rw [mup_ne]
      · exact g1
      · intro e; exact nd.2.1 (e ▸ List.mem_map.mpr ⟨q, hq, rfl⟩)
theorem Bx.at1 (b : Bx d c r M0 ((p, o) :: L) M) : M p = some o := (b.lo (p, o) (by simp)).1
theorem Bx.at2 {y : Addr × MO} (b : Bx d c r M0 (y :: (p, o) :: L) M) : M p = some o := (b.lo (p, o) (by simp)).1
theorem Bx.lst1 (b : Bx d c r M0 ((p, .lst xs) :: L) M) : lstOf M p = some xs := lstOf_some b.at1
theorem Bx.dic1 {kvs : List (Key × D)} (b : Bx d c r M0 ((p, .dic kvs) :: L) M) : dicOf M p = some kvs := dicOf_some b.at1
theorem Bx.dic2 {y : Addr × MO} {kvs : List (Key × D)} (b : Bx d c r M0 (y :: (p, .dic kvs) :: L) M) : dicOf M p = some kvs := dicOf_some b.at2
theorem Bx.call (b : Bx d c r M0 L M) (D : Deck M' d c r') (U : Upto d c M M') : Bx d c r' M0 L M' :=
  ⟨D, b.ex.trans U.ext, fun q hq => by
    obtain ⟨h1, h2, h3, h4⟩ := b.lo q hq
    exact ⟨by rw [U q.1 h3 h4]; exact h1, h2, h3, h4⟩, b.nd⟩
theorem Bx.fin {R : DQ} {x : D} (b : Bx d c r M0 L M) (h : ∀ M2, Deck M2 d c r → Upto d c M0 M2 → R x M2) : Shr R x M := Shr.deck b.ex b.dk fun M2 U D => h M2 D U
def Draws (d : Addr) (cost : Nat) (P : D → Prop) (M : Mm) (R : DQ) : Prop := ∃ c r, Deck M d c (r + cost) ∧ ∀ x M', P x → Deck M' d c r → Upto d c M M' → R x M'
theorem Bx.draws {cost : Nat} {P : D → Prop} {R : DQ} (b : Bx d c n M0 L M) (h : cost ≤ n) (k : ∀ x M', P x → Bx d c (n - cost) M0 L M' → R x M') : Draws d cost P M R :=
  ⟨c, n - cost, b.dk.mono (by omega), fun x M' hx D U => k x M' hx (b.call D U)⟩
end
def puts : DSt → List Nat → List (Option D) → DSt
  | ds, i :: is, v :: vs => puts (ds.set i v) is vs
  | ds, [], _ => ds
  | ds, _ :: _, [] => ds
theorem puts_self : ∀ (is : List Nat) (ds : DSt), puts ds is (is.map (dget ds)) = ds
  | [], ds => rfl
  | i :: is, ds => by
    rw [List.map_cons, puts]
    have e : ds.set i (dget ds i) = ds := by
      apply List.ext_getElem?
      intro j
      by_cases h : i = j
      · subst h
        by_cases hl : i < ds.length
        · rw [List.getElem?_set_self hl, dget, List.getElem?_eq_getElem hl]; rfl
        · rw [List.getElem?_eq_none (by rw [List.length_set]; omega), List.getElem?_eq_none (by omega)]
      · rw [List.getElem?_set_ne h]
    rw [e]
    exact puts_self is ds
section
variable {ok : Mm → Prop} {g : TDG} {tb : TDS} {D : DEnds}
theorem forS (idx : List Nat) (I : Nat → List (Option DM.D) → Mm → Prop) {xs : List DM.D} {ds : DSt} {M : Mm} (hok : ∀ i vs M, I i vs M → ok M)
    (step : ∀ i x (N : DSt → Mm → Prop), xs[i]? = some x → (∀ vs ds' M, ds' = puts ds idx vs → I (i + 1) vs M → N ds' M) → ∀ vs M, I i vs M → g x (puts ds idx vs) M fun ds' M' => tb { D with nx := N, ct := N, bk := D.nx } ds' M')
    (fin : ∀ vs M, I xs.length vs M → D.nx (puts ds idx vs) M) (h0 : I 0 (idx.map (dget ds)) M) : forW ok g tb D xs ds M :=
  forW_go (fun i ds' M => ∃ vs, ds' = puts ds idx vs ∧ I i vs M) xs (fun i ds M ⟨vs, _, h⟩ => hok i vs M h)
    (fun i x N e hN ds' M ⟨vs, e', h⟩ => e' ▸ step i x N e (fun vs ds' M e h => hN ds' M ⟨vs, e, h⟩) vs M h) (fun ds' M ⟨vs, e, h⟩ => e ▸ fin vs M h) ds M ⟨_, (puts_self idx ds).symm, h0⟩
theorem forR (idx : List Nat) (I : Nat → List (Option DM.D) → Mm → Prop) {lo : Int} {n : Nat} {ds : DSt} {M : Mm} (hok : ∀ i vs M, I i vs M → ok M)
    (step : ∀ i (N : DSt → Mm → Prop), i < n → (∀ vs ds' M, ds' = puts ds idx vs → I (i + 1) vs M → N ds' M) → ∀ vs M, I i vs M → g (.int (lo + (i : Int))) (puts ds idx vs) M fun ds' M' => tb { D with nx := N, ct := N, bk := D.nx } ds' M')
    (fin : ∀ vs M, I n vs M → D.nx (puts ds idx vs) M) (h0 : I 0 (idx.map (dget ds)) M) : forW ok g tb D (rangeD lo n) ds M :=
  forS idx I hok (fun i x N e hN vs M h => by
    obtain ⟨h1, rfl⟩ := rangeD_get e
    exact step i N h1 hN vs M h) (fun vs M h => by rw [show (rangeD lo n).length = n by simp [rangeD]] at h; exact fin vs M h) h0
end
theorem seqS {t u : TDS} {D : DEnds} {ds : DSt} {M : Mm} (idx : List Nat) (J : List (Option DM.D) → Mm → Prop) (h1 : ∀ N : DSt → Mm → Prop, (∀ vs ds' M, ds' = puts ds idx vs → J vs M → N ds' M) → t { D with nx := N } ds M)
    (h2 : ∀ vs M, J vs M → u D (puts ds idx vs) M) : dSeq t u D ds M :=
  seq_cut (fun ds' M => ∃ vs, ds' = puts ds idx vs ∧ J vs M) (fun N hN => h1 N fun vs ds' M e h => hN ds' M ⟨vs, e, h⟩) fun ds' M ⟨vs, e, h⟩ => e ▸ h2 vs M h
section
variable {M : Mm} {Q : DQ} {p : Addr} {xs ys : List D} {d : D}
theorem appendR_same : appendR (.ref p) [d] (mup M p (.lst xs)) Q = (xs.length < sizeLine ∧ Q .non (mup M p (.lst (xs ++ [d])))) := by
  unfold appendR
  simp only [lstOf_mup_same, mup_mup]
theorem lenR_same : lenR [.ref p] (mup M p (.lst xs)) Q = Q (.int xs.length) (mup M p (.lst xs)) := by
  unfold lenR
  simp only [mup_same]
theorem tup1R_same : tup1R [.ref p] (mup M p (.lst xs)) Q = Q (.tup xs) (mup M p (.lst xs)) := by
  unfold tup1R
  simp only [rdS_ref, lstOf_mup_same]
end
end DM
namespace DM
open PySem L2
open PyProof.Rows (b2i)
theorem sz0 : (0 ≤ sizeLine) = True := by simp
theorem sz1 : (1 ≤ sizeLine) = True := eq_true (small_line (by decide))
theorem sz2 : (2 ≤ sizeLine) = True := eq_true (small_line (by decide))
theorem sz3 : (3 ≤ sizeLine) = True := eq_true (small_line (by decide))
theorem sz4 : (4 ≤ sizeLine) = True := eq_true (small_line (by decide))
theorem sz5 : (5 ≤ sizeLine) = True := eq_true (small_line (by decide))
theorem sz6 : (6 ≤ sizeLine) = True := eq_true (small_line (by decide))
theorem sz7 : (7 ≤ sizeLine) = True := eq_true (small_line (by decide))
theorem sz8 : (8 ≤ sizeLine) = True := eq_true (small_line (by decide))
theorem sz9 : (9 ≤ sizeLine) = True := eq_true (small_line (by decide))
theorem sz10 : (10 ≤ sizeLine) = True := eq_true (small_line (by decide))
section
variable {M : Mm} {Q : DQ} {x y z u v : D} {xs ys : List D} {p : Addr} {n : Nat} {s : Str} {i : Int} {b : Bool}
theorem ix_L0 : ixR (.lst (x :: xs)) (.int 0) M Q = Q x M := by
  have e : atI (x :: xs) 0 = some x := atI_nat (j := 0) rfl
  unfold ixR
  simp only [e]
theorem ix_L1 : ixR (.lst (x :: y :: xs)) (.int 1) M Q = Q y M := by
  have e : atI (x :: y :: xs) 1 = some y := atI_nat (j := 1) rfl
  unfold ixR
  simp only [e]
theorem ix_L2 : ixR (.lst (x :: y :: z :: xs)) (.int 2) M Q = Q z M := by
  have e : atI (x :: y :: z :: xs) 2 = some z := atI_nat (j := 2) rfl
  unfold ixR
  simp only [e]
theorem ix_Lbs : ixR (.lst [x, y]) (.int (if b = true then 1 else 0)) M Q = Q (if b = true then y else x) M := by
  cases b
  · exact ix_L0
  · exact ix_L1
theorem dep_nil : (depDs [] ≤ n + 1) = True := eq_true (by simp [depDs])
theorem dep_cons : (depDs (x :: xs) ≤ n) = (depD x ≤ n ∧ depDs xs ≤ n) := by
  show (max (depD x) (depDs xs) ≤ n) = _
  exact propext Nat.max_le
theorem dep_tup : (depD (.tup xs) ≤ n + 1) = (depDs xs ≤ n) := by
  simp only [depD]
  exact propext ⟨fun h => by omega, fun h => by omega⟩
theorem dep_lst : (depD (.lst xs) ≤ n + 1) = (depDs xs ≤ n) := by
  simp only [depD]
  exact propext ⟨fun h => by omega, fun h => by omega⟩
theorem dep_str : (depD (.str s) ≤ n + 1) = True := eq_true (by simp [depD])
theorem dep_int : (depD (.int i) ≤ n + 1) = True := eq_true (by simp [depD])
theorem dep_bl : (depD (.bl b) ≤ n + 1) = True := eq_true (by simp [depD])
theorem dep_non : (depD .non ≤ n + 1) = True := eq_true (by simp [depD])
theorem dep_strs {l : List Str} : (depDs (l.map D.str) ≤ n + 1) = True := eq_true (Nat.le_trans (depDs_str l) (by omega))
theorem dep_ints {l : List Int} : (depDs (l.map D.int) ≤ n + 1) = True := eq_true (Nat.le_trans (depDs_int l) (by omega))
theorem dep_app : (depDs (xs ++ ys) ≤ n + 1) = (depDs xs ≤ n + 1 ∧ depDs ys ≤ n + 1) := by
  induction xs with
  | nil => simp [dep_nil]
  | cons a l ih => rw [List.cons_append, dep_cons, ih, dep_cons]; simp [and_assoc]
theorem dep_rules {rs : List Rl} : (depDs (rs.map ruleD) ≤ n + 3) = True := eq_true (Nat.le_trans (depDs_map ruleD 3 (by decide) (fun r => by have := depDs_str r.w; simp only [ruleD, depD, depDs]; omega) rs) (by omega))
theorem dep_prog {rs : List Rl} : (depD (progD rs) ≤ n + 4) = True := by unfold progD; rw [dep_tup]; exact dep_rules
theorem pu_nil : pureDs [] = true := rfl
theorem pu_cons : pureDs (x :: xs) = (pureD x && pureDs xs) := rfl
theorem pu_tup : pureD (.tup xs) = pureDs xs := by simp [pureD]
theorem pu_lst : pureD (.lst xs) = pureDs xs := by simp [pureD]
theorem pu_str : pureD (.str s) = true := rfl
theorem pu_int : pureD (.int i) = true := rfl
theorem pu_bl : pureD (.bl b) = true := rfl
theorem pu_non : pureD .non = true := rfl
theorem pu_app : pureDs (xs ++ ys) = (pureDs xs && pureDs ys) := by
  induction xs with
  | nil => rfl
  | cons a l ih => rw [List.cons_append, pu_cons, ih, pu_cons, Bool.and_assoc]
theorem pu_rule {r : Rl} : pureD (ruleD r) = true := pure_noBl _ (noBl_rule r)
theorem pu_rules {rs : List Rl} : pureDs (rs.map ruleD) = true := pure_noBls _ (noBls_rules rs)
theorem pu_prog {rs : List Rl} : pureD (progD rs) = true := by unfold progD; rw [pu_tup]; exact pu_rules
theorem eqv_self (h : pureDs xs = true) : eqvDs xs xs = true := eqvDs_refl _ h
end
theorem cutL_to1 {α : Type} (xs : List α) : cutL xs none (some 1) = xs.take 1 := cutL_to xs 1
theorem cutL_to2 {α : Type} (xs : List α) : cutL xs none (some 2) = xs.take 2 := cutL_to xs 2
theorem cutL_to3 {α : Type} (xs : List α) : cutL xs none (some 3) = xs.take 3 := cutL_to xs 3
theorem cutL_to15 {α : Type} (xs : List α) : cutL xs none (some 15) = xs.take 15 := cutL_to xs 15
section
variable {M : Mm} {Q : DQ} {xs : List D} {i : Int}
theorem ix_allL (P : D → Prop) (h0 : 0 ≤ i) (h1 : i < xs.length) (hP : ∀ y ∈ xs, P y) (h : ∀ y, P y → Q y M) : ixR (.lst xs) (.int i) M Q := by
  obtain ⟨y, hy, my⟩ : ∃ y, xs[i.toNat]? = some y ∧ y ∈ xs := ⟨_, List.getElem?_eq_getElem (by omega), List.getElem_mem _⟩
  exact ix_L h0 hy (h y (hP y my))
theorem cutL_toN {α : Type} {xs : List α} {n : Nat} : cutL xs none (some (n : Int)) = xs.take n := cutL_to xs n
theorem cutL_toS {α : Type} {xs : List α} {n : Nat} : cutL xs none (some ((n : Int) + 1)) = xs.take (n + 1) := cutL_to xs (n + 1)
theorem cutL_fromN {α : Type} {xs : List α} {n : Nat} : cutL xs (some (n : Int)) none = xs.drop n := cutL_from xs n
theorem cutL_fromS {α : Type} {xs : List α} {n : Nat} : cutL xs (some ((n : Int) + 1)) none = xs.drop (n + 1) := cutL_from xs (n + 1)
end
section
variable {d c p : Addr} {r n r0 : Nat} {M0 M : Mm} {L : List (Addr × MO)} {P : D → Prop} {R : DQ} {x : D} {xs : List D}
theorem Bx.done (b : Bx d c n M0 L M) (k : ∀ x M', P x → Deck M' d c r → Upto d c M0 M' → R x M') (hx : P x) (hn : r ≤ n) : Shr R x M := b.fin fun M2 D U => k x M2 hx (D.mono hn) U
end
theorem neR_prog0 {rs : List Rl} {M : Mm} {Q : DQ} : neR (progD rs) (.tup []) M Q = Q (.bl (!rs.isEmpty)) M := by
  unfold progD
  simp only [neR_tt, pu_rules, dep_rules, pu_nil, dep_nil, true_and, and_true, eqvDs_nil]
  cases rs <;> rfl
theorem eqR_prog0 {rs : List Rl} {M : Mm} {Q : DQ} : eqR (progD rs) (.tup []) M Q = Q (.bl rs.isEmpty) M := by
  unfold progD
  simp only [eqR_tt, pu_rules, dep_rules, pu_nil, dep_nil, true_and, and_true, eqvDs_nil]
  cases rs <;> rfl
theorem lenR_prog {rs : List Rl} {M : Mm} {Q : DQ} : lenR [progD rs] M Q = Q (.int rs.length) M := by
  unfold progD
  rw [lenR_t, List.length_map]
theorem cmul_sm {i j : Int} (h0 : -1000000000000 ≤ i) (h1 : i ≤ 1000000000000) (h2 : -1000000000000 ≤ j) (h3 : j ≤ 1000000000000) : CMulW i j :=
  cmul_ok (Nat.lt_of_le_of_lt (show i.natAbs ≤ 1000000000000 by omega) (by decide)) (Nat.lt_of_le_of_lt (show j.natAbs ≤ 1000000000000 by omega) (by decide))
theorem rep1 {α : Type} (n : Nat) (x : α) : repL n [x] = List.replicate n x := by simp [repL]
end DM
namespace DM
open PySem L2
open PyProof.Rows (b2i)
section
variable {c : TDT} {tb : TDS} {D : DEnds} {ds : DSt} {M : Mm}
theorem whileS (idx : List Nat) (I : Nat → List (Option DM.D) → Mm → Prop) (m : Nat)
    (step : ∀ (m : Nat) (N : DSt → Mm → Prop), (∀ m' vs ds' M, m' < m → ds' = puts ds idx vs → I m' vs M → N ds' M) → ∀ vs M, I m vs M →
      c (puts ds idx vs) M fun b M1 => if b = true then tb { D with nx := N, ct := N, bk := D.nx } (puts ds idx vs) M1 else D.nx (puts ds idx vs) M1)
    (h0 : I m (idx.map (dget ds)) M) : dWhile c tb D ds M := by
  refine whileN_go (fun m ds' M => ∃ m' ≤ m, ∃ vs, ds' = puts ds idx vs ∧ I m' vs M) (fun N ds' M ⟨m', h1, vs, e, h⟩ => ?_) (fun m N hN ds' M ⟨m', h1, vs, e, h⟩ => ?_) m ds M ⟨m, Nat.le_refl _, _, (puts_self idx ds).symm, h0⟩
  · subst e
    exact step m' N (fun m'' vs ds' M h2 => absurd h2 (by omega)) vs M h
  · subst e
    exact step m' N (fun m'' vs ds' M h2 e h => hN ds' M ⟨m'', by omega, vs, e, h⟩) vs M h
end
theorem map_toNat_inj : ∀ {a b : List Char}, a.map Char.toNat = b.map Char.toNat → a = b
  | [], [], _ => rfl
  | [], _ :: _, h => by simp at h
  | _ :: _, [], h => by simp at h
  | x :: a, y :: b, h => by
    simp only [List.map_cons, List.cons.injEq] at h
    rw [map_toNat_inj h.2, show x = y from Char.ext (UInt32.toNat_inj.mp h.1)]
theorem ofString_inj {a b : String} : (Str.ofString a = Str.ofString b) = (a = b) := by
  refine propext ⟨fun h => ?_, fun h => by rw [h]⟩
  rw [Str.ofString_eq_toList, Str.ofString_eq_toList] at h
  have h2 : a.toList.map Char.toNat = b.toList.map Char.toNat := by
    have := congrArg (fun z : Str => z.cps.toList) h
    simpa using this
  exact String.toList_inj.mp (map_toNat_inj h2)
theorem ofString_beq {a b : String} : (Str.ofString a == Str.ofString b) = (a == b) := by
  rw [Bool.eq_iff_iff, beq_iff_eq, beq_iff_eq, ofString_inj]
theorem small_lt2 {n : Nat} (h : n < 16000000) : n < sizeLine := by rw [sizeLine_eq]; omega
end DM
namespace DMX
open PySem PySem.Spec PySem.AutoSeq1
theorem meets_extendT (l : Addr) (items : Array Value) (n : Nat) (b : Addr) (items2 : Array Value) (n2 : Nat) (dct : Option Addr) (sl : Array (Option Value)) (hs0 : ¬(!items.isEmpty && Builtin.List.listTooLong (items.size + items2.size)) = true) (hs1 : items.size ≤ sizeLine) (hs2 : items.size + items2.size ≤ sizeLine + 1) :
    Meets (Builtin.«list.extend» ⟨[.ref l, .ref b], []⟩) (fun _ R s => s.heap.get? l = some { cls := .type "list", dict := none, data := .seq items n, slots := #[] } ∧ s.heap.get? b = some { cls := .type "tuple", dict := dct, data := .seq items2 n2, slots := sl } ∧ R (.ok (.ret Value.none)) { s with heap := s.heap.update l (Obj.mapSeq fun x => x ++ items2), toks := s.toks }) :=
  .of_wp fun prog w A R s h => by
    obtain ⟨hp, g, d, tk, os⟩ := s; obtain ⟨hl, hb, h⟩ := h; have f1 := idx_int; have f2 := sub_tuple_tuple; have f3 := sub_list_list; have f4 := sub_tuple_list; have f5 := sub_list_tuple;
    have hz' : (items ++ items2).size ≤ sizeLine + 1 := by rw [Array.size_append]; exact hs2
    wp_walk using (wpAny_updateSeq hl rfl (hz := hs1) (_hz' := hz')), wpAny_loadPart' hl, wpAny_loadPart' hb; exact ⟨_, rfl, h⟩
end DMX
namespace L2
open PySem PySem.Spec PyProof.Rows
def rExtendT (K : PySem.W.Frag) : V → List V → Hp → VK → Prop := fun x vs H Q => ∃ l b xs zs, x = .ref l ∧ vs = [.ref b] ∧ H l = some (.lst xs) ∧ SqT K H b zs ∧ xs.length + zs.length ≤ sizeLine ∧ Q .non (upd H l (.lst (xs ++ zs)))
theorem mt_extendT {X : Cx} : MtM X "list.extend" (rExtendT X.K) := by
  intro pins s σ H x vs v us Q I rx rv h
  obtain ⟨l, b, xs, zs, rfl, rfl, hH, hB, hz, q⟩ := h
  cases rx
  obtain ⟨u, rfl, ru⟩ := rv.one
  cases ru
  obtain ⟨z, its, n, r, hl, e⟩ := I.lstM hH
  obtain ⟨its2, r2, ⟨⟨c, dct, dt, sl⟩, e2, hc, n2, hd⟩, z2⟩ := I.tuple hB
  replace hc : c = .type "tuple" := hc
  replace hd : dt = .seq its2.toArray n2 := hd
  subst hc hd
  have hl2 := r2.length
  have hsz : its.toArray.size + its2.toArray.size ≤ sizeLine := by rw [List.size_toArray, List.size_toArray]; omega
  have hlong : ¬ (!its.toArray.isEmpty && Builtin.List.listTooLong (its.toArray.size + its2.toArray.size)) = true := by
    rw [notLongL hsz, Bool.and_false]
    exact Bool.false_ne_true
  refine call_meets F.slot_list_extend ⟨_, e, rfl⟩ F.entry_list_extend (F.args_list_extend_2 _ _)
    (DMX.meets_extendT l its.toArray n b its2.toArray n2 dct sl hlong (by rw [List.size_toArray]; omega) (by omega)) ⟨e, e2, ?_⟩
  refine ⟨.non, _, I.lset (its' := its ++ its2) hH e (by simp) (r.append r2) ?_, rfl, q⟩
  rw [List.length_append]
  omega
end L2
namespace DM
open PySem L2
open PyProof.Rows (b2i)
def extendA : DRM := fun x xs M Q => match x, xs with
  | .ref a, [y] => (match lstOf M a, rdS M y with | some ys, some zs => ys.length + zs.length ≤ sizeLine ∧ Q .non (mup M a (.lst (ys ++ zs))) | _, _ => False)
  | _, _ => False
def rExtA (K : PySem.W.Frag) : V → List V → Hp → VK → Prop := fun x vs H Q => rExtend x vs H Q ∨ rExtendT K x vs H Q
theorem mt_extA {X : Cx} : MtM X "list.extend" (rExtA X.K) := fun pins s σ H x vs v us Q I rx rv h => by
  rcases h with h | h
  · exact mt_extend pins s σ H x vs v us Q I rx rv h
  · exact mt_extendT pins s σ H x vs v us Q I rx rv h
theorem lift_extA {K : PySem.W.Frag} : LiftM K (rExtA K) extendA := by
  intro x vs dx ds H M Q Q0 rx rs m h k
  unfold extendA at h
  split at h
  · rename_i a y
    cases rx.ref_v
    obtain ⟨v, rfl, r1⟩ := rs.one
    split at h
    · rename_i ys zs e e2
      obtain ⟨hz, h⟩ := h
      obtain ⟨us, h1, r2⟩ := m.ob a _ (of_lstOf e)
      obtain ⟨b, ws, rfl, r3, hh⟩ := rdS_v m r1 e2
      have t := TX.put (u := .lst (us ++ ws)) m (of_lstOf e)
      have fin := k _ (H.up a (.lst (us ++ ws))) _ _ .non (m.put (w := .lst (ys ++ zs)) (of_lstOf e) ⟨_, upd_same, VRs.append (VRs.mono t _ _ r2) (VRs.mono t _ _ r3)⟩) (GG.put (of_lstOf e)) h
      rcases hh with ⟨_, h2⟩ | h2
      · exact .inr ⟨a, b, us, ws, rfl, rfl, h1, h2, by rw [← r2.length, ← r3.length]; exact hz, fin⟩
      · exact .inl ⟨a, b, us, ws, rfl, rfl, h1, h2, by rw [← r2.length, ← r3.length]; exact hz, fin⟩
    · exact h.elim
  · exact h.elim
section
variable {X : Cx} {o e : Expr} {to te : TDE} {apos cpos : Pos}
theorem je_extendA (ho : JE X o to) (ha : JE X e te) (hbase : attributeBase o "extend" X.env (eval o X.env) = eval o X.env := by rfl)
    (hfew : ((backTo cpos (starEach [e] X.env)).all (fun x => !x.1) && (backToKw cpos (keywordEach [] X.env)).all (fun x => x.1.isSome)
      && decide (([e]).length + ([] : List Keyword).length + (if ([] : List Keyword).isEmpty then 0 else 1) < 30)) = true := by rfl)
    (hline : (apos.endLine == cpos.line) = true := by rfl) (hs : starEach [e] X.env = (false, eval e X.env) :: starEach [] X.env := by rfl) (hplain : (backTo cpos (starEach [] X.env)).any (·.1) = false := by rfl) :
    JE X (.Call (.Attribute o "extend" apos) [e] [] cpos) (dBM extendA to (dCons te dNil)) := je_bm PySem.F.slot_list_extend PySem.F.type_list_extend mt_extA lift_extA ho (ja_cons ha ja_nil hs) hbase hfew hline hs hplain
end
section
variable {M : Mm} {Q : DQ} {p q : Addr} {xs ys : List D} {d : D} {o : MO}
theorem extA_t : extendA (.ref p) [.tup ys] (mup M p (.lst xs)) Q = (xs.length + ys.length ≤ sizeLine ∧ Q .non (mup M p (.lst (xs ++ ys)))) := by
  unfold extendA
  simp only [lstOf_mup_same, rdS_tup, mup_mup]
theorem extA_L : extendA (.ref p) [.lst ys] (mup M p (.lst xs)) Q = (xs.length + ys.length ≤ sizeLine ∧ Q .non (mup M p (.lst (xs ++ ys)))) := by
  unfold extendA
  simp only [lstOf_mup_same, rdS_lst, mup_mup]
theorem isSome_same : (lstOf (mup M p (.lst xs)) p).isSome = true := by rw [lstOf_mup_same]; rfl
end
end DM
namespace DM
open PySem L2
open PyProof.Rows (b2i)
structure Px (M0 : Mm) (L : List (Addr × MO)) (M : Mm) : Prop where
  ex : Sub M0 M
  lo : ∀ q ∈ L, M q.1 = some q.2 ∧ M0 q.1 = none
  nd : (L.map (·.1)).Nodup
section
variable {p q : Addr} {M0 M M' : Mm} {L : List (Addr × MO)} {o o' : MO} {xs ys : List D}
theorem Px.start : Px M [] M := ⟨Sub.refl, by simp, by simp⟩
theorem Px.fresh (b : Px M0 L M) (h : M p = none) : M0 p = none := b.ex.none h
theorem Px.new (b : Px M0 L M) (h : M p = none) : Px M0 ((p, o) :: L) (mup M p o) := by
  refine ⟨sub_new b.ex (b.fresh h), fun q hq => ?_, ?_⟩
  · rcases List.mem_cons.mp hq with rfl | hq
    · exact ⟨mup_same, b.fresh h⟩
    · obtain ⟨h1, h2⟩ := b.lo q hq
      refine ⟨?_, h2⟩
      rw [mup_ne]
      · exact h1
      · intro e; rw [e, h] at h1; cases h1
  · rw [List.map_cons, List.nodup_cons]
    refine ⟨fun hm => ?_, b.nd⟩
    obtain ⟨q, hq, e⟩ := List.mem_map.mp hm
    have := (b.lo q hq).1
    rw [e] at this
    simp only at this
    rw [h] at this
    cases this
theorem Px.swap {x y : Addr × MO} (b : Px M0 (x :: y :: L) M) : Px M0 (y :: x :: L) M := by
  refine ⟨b.ex, fun q hq => b.lo q ?_, ?_⟩
  · simp only [List.mem_cons] at hq ⊢
    rcases hq with h | h | h
    · exact .inr (.inl h)
    · exact .inl h
    · exact .inr (.inr h)
  · have := b.nd
    simp only [List.map_cons, List.nodup_cons, List.mem_cons, not_or] at this ⊢
    exact ⟨⟨fun e => this.1.1 e.symm, this.2.1⟩, this.1.2, this.2.2⟩
theorem Px.put1 (b : Px M0 ((p, o) :: L) M) : Px M0 ((p, o') :: L) (mup M p o') := by
  obtain ⟨h1, h2⟩ := b.lo (p, o) (by simp)
  simp only at h1 h2
  have nd := b.nd
  rw [List.map_cons, List.nodup_cons] at nd
  refine ⟨sub_new b.ex h2, fun q hq => ?_, b.nd⟩
  rcases List.mem_cons.mp hq with rfl | hq
  · exact ⟨mup_same, h2⟩
  · obtain ⟨g1, g2⟩ := b.lo q (List.mem_cons_of_mem _ hq)
    refine ⟨?_, g2⟩
    rw [mup_ne]
    · exact g1
    · intro e; exact nd.1 (e ▸ List.mem_map.mpr ⟨q, hq, rfl⟩)
theorem Px.put2 {y : Addr × MO} (b : Px M0 (y :: (p, o) :: L) M) : Px M0 (y :: (p, o') :: L) (mup M p o') := b.swap.put1.swap
theorem Px.at1 (b : Px M0 ((p, o) :: L) M) : M p = some o := (b.lo (p, o) (by simp)).1
theorem Px.at2 {y : Addr × MO} (b : Px M0 (y :: (p, o) :: L) M) : M p = some o := (b.lo (p, o) (by simp)).1
theorem Px.lst1 (b : Px M0 ((p, .lst xs) :: L) M) : lstOf M p = some xs := lstOf_some b.at1
theorem Px.dic1 {kvs : List (Key × D)} (b : Px M0 ((p, .dic kvs) :: L) M) : dicOf M p = some kvs := dicOf_some b.at1
theorem Px.dic2 {y : Addr × MO} {kvs : List (Key × D)} (b : Px M0 (y :: (p, .dic kvs) :: L) M) : dicOf M p = some kvs := dicOf_some b.at2
theorem Px.fin {R : DQ} {x : D} (b : Px M0 L M) (h : R x M0) : Shr R x M := Shr.of h b.ex
theorem Bx.swap {d c : Addr} {r : Nat} {x y : Addr × MO} (b : Bx d c r M0 (x :: y :: L) M) : Bx d c r M0 (y :: x :: L) M := by
  refine ⟨b.dk, b.ex, fun q hq => b.lo q ?_, ?_⟩
  · simp only [List.mem_cons] at hq ⊢
    rcases hq with h | h | h
    · exact .inr (.inl h)
    · exact .inl h
    · exact .inr (.inr h)
  · have := b.nd
    simp only [List.map_cons, List.nodup_cons, List.mem_cons, not_or] at this ⊢
    exact ⟨⟨fun e => this.1.1 e.symm, this.2.1⟩, this.1.2, this.2.2⟩
end
end DM
namespace DM
open PySem L2
open PyProof.Rows (b2i)
theorem dSeq_e {t u : TDS} {D : DEnds} {ds : DSt} {M : Mm} : dSeq t u D ds M = (t { D with nx := u D } ds M) := (rfl)
theorem dNext_e  {D : DEnds} {ds : DSt} {M : Mm} : dNext  D ds M = (D.nx ds M) := (rfl)
theorem dDrop_e {te : TDE} {D : DEnds} {ds : DSt} {M : Mm} : dDrop te D ds M = (te ds M fun _ M1 => D.nx ds M1) := (rfl)
theorem dRet_e {te : TDE} {D : DEnds} {ds : DSt} {M : Mm} : dRet te D ds M = (te ds M D.rt) := (rfl)
theorem dIfS_e {c : TDT} {t u : TDS} {D : DEnds} {ds : DSt} {M : Mm} : dIfS c t u D ds M = (c ds M fun b M1 => if b = true then t D ds M1 else u D ds M1) := (rfl)
theorem dAsg_e {te : TDE} {g : TDG} {D : DEnds} {ds : DSt} {M : Mm} : dAsg te g D ds M = (te ds M fun x M1 => g x ds M1 D.nx) := (rfl)
theorem dOp_e {r : DR2} {ta tb : TDE} {ds : DSt} {M : Mm} {Q : DQ} : dOp r ta tb ds M Q = (ta ds M fun x M1 => tb ds M1 fun y M2 => r x y M2 Q) := (rfl)
theorem dC_e {d : D} {_ds0 : DSt} {M : Mm} {Q : DQ} : dC d _ds0 M Q = (Q d M) := (rfl)
theorem dTest_e {t : TDE} {ds : DSt} {M : Mm} {Q : Bool → Mm → Prop} : dTest t ds M Q = (t ds M fun x M1 => isB x fun b => Q b M1) := (rfl)
theorem dNil_e  {_ds0 : DSt} {M : Mm} {Q : List DM.D → Mm → Prop} : dNil  _ds0 M Q = (Q [] M) := (rfl)
theorem dCons_e {ta : TDE} {tr : TDA} {ds : DSt} {M : Mm} {Q : List DM.D → Mm → Prop} : dCons ta tr ds M Q = (ta ds M fun x M1 => tr ds M1 fun xs M2 => Q (x :: xs) M2) := (rfl)
theorem dgName_e {i : Nat} {d : DM.D} {ds : DSt} {M : Mm} {Q : DSt → Mm → Prop} : dgName i d ds M Q = (Q (ds.set i (some d)) M) := (rfl)
theorem dTup_e {t : TDA} {ds : DSt} {M : Mm} {Q : DQ} : dTup t ds M Q = (t ds M fun xs M1 => xs.length ≤ sizeLine ∧ Q (.tup xs) M1) := (rfl)
theorem dCB_e {r : DRC} {t : TDA} {ds : DSt} {M : Mm} {Q : DQ} : dCB r t ds M Q = (t ds M fun xs M1 => r xs M1 Q) := (rfl)
theorem dFresh_e {t : TDL} {ds : DSt} {M : Mm} {Q : DQ} : dFresh t ds M Q = (t ds M fun xs M1 => ∀ p, M1 p = none → Q (.ref p) (mup M1 p (.lst xs))) := (rfl)
theorem dFrz_e {t : TDL} {ds : DSt} {M : Mm} {Q : DQ} : dFrz t ds M Q = (t ds M fun xs M1 => Q (.lst xs) M1) := (rfl)
theorem dFreshD_e {t : TDD} {ds : DSt} {M : Mm} {Q : DQ} : dFreshD t ds M Q = (t ds M fun xs M1 => ∀ p, M1 p = none → Q (.ref p) (mup M1 p (.dic xs))) := (rfl)
theorem dDisp_e {t : TDA} {ds : DSt} {M : Mm} {Q : List DM.D → Mm → Prop} : dDisp t ds M Q = (t ds M fun xs M1 => xs.length ≤ sizeLine ∧ Q xs M1) := (rfl)
theorem dBM_e {r : DRM} {to : TDE} {t : TDA} {ds : DSt} {M : Mm} {Q : DQ} : dBM r to t ds M Q = (to ds M fun x M1 => isLst x M1 ∧ t ds M1 fun xs M2 => r x xs M2 Q) := (rfl)
theorem dBM0_e {r : DRM} {to : TDE} {ds : DSt} {M : Mm} {Q : DQ} : dBM0 r to ds M Q = (to ds M fun x M1 => isLst x M1 ∧ r x [] M1 Q) := (rfl)
theorem dAndV_e {ta tb : TDE} {ds : DSt} {M : Mm} {Q : DQ} : dAndV ta tb ds M Q = (ta ds M fun x M1 => isB x fun c => if c = true then tb ds M1 Q else Q (.bl false) M1) := (rfl)
theorem dOrV_e {ta tb : TDE} {ds : DSt} {M : Mm} {Q : DQ} : dOrV ta tb ds M Q = (ta ds M fun x M1 => isB x fun c => if c = true then Q (.bl true) M1 else tb ds M1 Q) := (rfl)
theorem dNotV_e {ta : TDE} {ds : DSt} {M : Mm} {Q : DQ} : dNotV ta ds M Q = (ta ds M fun x M1 => isB x fun c => Q (.bl (!c)) M1) := (rfl)
theorem dAnd_e {t u : TDT} {ds : DSt} {M : Mm} {Q : Bool → Mm → Prop} : dAnd t u ds M Q = (t ds M fun c M1 => if c = true then u ds M1 Q else Q false M1) := (rfl)
theorem dOr_e {t u : TDT} {ds : DSt} {M : Mm} {Q : Bool → Mm → Prop} : dOr t u ds M Q = (t ds M fun c M1 => if c = true then Q true M1 else u ds M1 Q) := (rfl)
theorem dNot_e {t : TDT} {ds : DSt} {M : Mm} {Q : Bool → Mm → Prop} : dNot t ds M Q = (t ds M fun c M1 => Q (!c) M1) := (rfl)
theorem dCall_e {sp : DSp} {t : TDA} {ds : DSt} {M : Mm} {Q : DQ} : dCall sp t ds M Q = (t ds M fun xs M1 => sp xs M1 Q) := (rfl)
theorem dFor_e {ti : TDI} {g : TDG} {tb : TDS} {D : DEnds} {ds : DSt} {M : Mm} : dFor ti g tb D ds M = (ti ds M fun it M1 => forW it.ok g tb D it.xs ds M1) := (rfl)
theorem dSl_e {te : TDE} {tl th : TDO} {ds : DSt} {M : Mm} {Q : DQ} : dSl te tl th ds M Q = (te ds M fun x M1 => tl ds M1 fun l M2 => th ds M2 fun u M3 => slR x l u M3 Q) := (rfl)
theorem dPart_e {t : TDE} {ds : DSt} {M : Mm} {Q : Option Int → Mm → Prop} : dPart t ds M Q = (t ds M fun x M1 => isI x fun i => Q (some i) M1) := (rfl)
theorem dNoPart_e  {_ds0 : DSt} {M : Mm} {Q : Option Int → Mm → Prop} : dNoPart  _ds0 M Q = (Q none M) := (rfl)
theorem diRng1_e {te : TDE} {ds : DSt} {M : Mm} {Q : DIt → Mm → Prop} : diRng1 te ds M Q = (te ds M fun x M1 => isI x fun j => inLine j ∧ Q ⟨rangeD 0 j.toNat, fun _ => True⟩ M1) := (rfl)
theorem dDropX_e {t : TDEX} {D : DEnds} {ds : DSt} {M : Mm} : dDropX t D ds M = (t D.xc ds M fun _ M1 => D.nx ds M1) := (rfl)
theorem dAsgX_e {t : TDEX} {g : TDG} {D : DEnds} {ds : DSt} {M : Mm} : dAsgX t g D ds M = (t D.xc ds M fun x M1 => g x ds M1 D.nx) := (rfl)
theorem dLc_e {ti : TDI} {g : TDG} {tt : TDT} {te : TDE} {vs : List Nat} {ds : DSt} {M : Mm} {Q : List DM.D → Mm → Prop} : dLc ti g tt te vs ds M Q = (ti ds M fun it M1 => lcW it.ok g tt te (wipeD ds vs) Q it.xs [] M1) := (rfl)
theorem dYes_e  {_ds0 : DSt} {M : Mm} {Q : Bool → Mm → Prop} : dYes  _ds0 M Q = (Q true M) := (rfl)
section
variable {ds : DSt} {M : Mm} {Q : DQ} {b : Bool} {i : Int} {QB : Bool → Prop} {QI : Int → Prop} {xs ys : List D} {d : D} {a : Addr} {z : Str} {n : Nat}
def varI (o : Option D) (M : Mm) (Q : DQ) : Prop := match o with | some d => Q d M | none => False
theorem varI_s : varI (some d) M Q = Q d M := (rfl)
theorem dVar_e {i : Nat} : dVar i ds M Q = varI (dget ds i) M Q := (rfl)
theorem isB_b : isB (.bl b) QB = QB b := (rfl)
theorem isI_i : isI (.int i) QI = QI i := (rfl)
theorem isLst_r : isLst (.ref a) M = ((lstOf M a).isSome = true) := (rfl)
theorem dgTup_t {t : TDGs} {Q : DSt → Mm → Prop} : dgTup n t (.tup xs) ds M Q = (xs.length = n ∧ t xs ds M Q) := (rfl)
theorem dgTup_l {t : TDGs} {Q : DSt → Mm → Prop} : dgTup n t (.lst xs) ds M Q = (xs.length = n ∧ t xs ds M Q) := (rfl)
theorem dgCons_e {t : TDG} {u : TDGs} {Q : DSt → Mm → Prop} : dgCons t u (d :: xs) ds M Q = t d ds M fun ds' M' => u xs ds' M' Q := (rfl)
theorem dgNil_e {Q : DSt → Mm → Prop} : dgNil [] ds M Q = Q ds M := (rfl)
def anyI (x : D) (M1 : Mm) (Q : DIt → Mm → Prop) : Prop := match x with
  | .tup xs => Q ⟨xs, fun _ => True⟩ M1
  | .str z => Q ⟨signs z, fun _ => True⟩ M1
  | .ref a => (match lstOf M1 a with | some xs => Q ⟨xs, fun M' => lstOf M' a = some xs⟩ M1 | none => False)
  | .lst xs => Q ⟨xs, fun _ => True⟩ M1
  | _ => False
def anyR (a : Addr) (o : Option (List D)) (M1 : Mm) (Q : DIt → Mm → Prop) : Prop := match o with | some xs => Q ⟨xs, fun M' => lstOf M' a = some xs⟩ M1 | none => False
theorem anyI_t {Q : DIt → Mm → Prop} : anyI (.tup xs) M Q = Q ⟨xs, fun _ => True⟩ M := (rfl)
theorem anyI_s {Q : DIt → Mm → Prop} : anyI (.str z) M Q = Q ⟨signs z, fun _ => True⟩ M := (rfl)
theorem anyI_L {Q : DIt → Mm → Prop} : anyI (.lst xs) M Q = Q ⟨xs, fun _ => True⟩ M := (rfl)
theorem anyI_r {Q : DIt → Mm → Prop} : anyI (.ref a) M Q = anyR a (lstOf M a) M Q := (rfl)
theorem anyR_s {Q : DIt → Mm → Prop} : anyR a (some xs) M Q = Q ⟨xs, fun M' => lstOf M' a = some xs⟩ M := (rfl)
theorem diAny_e {te : TDE} {Q : DIt → Mm → Prop} : diAny te ds M Q = te ds M fun x M1 => anyI x M1 Q := (rfl)
def someI {α : Type} (o : Option α) (Q : α → Prop) : Prop := match o with | some x => Q x | none => False
theorem someI_s {α : Type} {x : α} {Q : α → Prop} : someI (some x) Q = Q x := (rfl)
def listI (xs : List D) (M1 : Mm) (Q : List D → Mm → Prop) : Prop := match xs with
  | [x] => (match rdS M1 x with | some ys => Q ys M1 | none => False)
  | _ => False
theorem listI_1 {Q : List D → Mm → Prop} : listI [d] M Q = someI (rdS M d) fun ys => Q ys M := by
  unfold listI someI
  simp only
  cases rdS M d <;> rfl
theorem dListOf_e {t : TDA} {Q : List D → Mm → Prop} : dListOf t ds M Q = t ds M fun xs M1 => listI xs M1 Q := (rfl)
def joinI (x : D) (ds : DSt) (te : TDE) (M1 : Mm) (Q : DQ) : Prop := match x with
  | .str a => te ds M1 fun y M2 => (match rdL M2 y with | some xs => joinQ a xs M2 Q | none => False)
  | _ => False
theorem joinI_s {te : TDE} : joinI (.str z) ds te M Q = te ds M fun y M2 => someI (rdL M2 y) fun xs => joinQ z xs M2 Q := by
  show te ds M _ = _
  congr 1
  funext y M2
  unfold someI
  cases rdL M2 y <;> rfl
theorem dJoin_e {to te : TDE} : dJoin to te ds M Q = to ds M fun x M1 => joinI x ds te M1 Q := (rfl)
def isStr (x : D) : Prop := match x with | .str _ => True | _ => False
theorem isStr_s : isStr (.str z) = True := (rfl)
theorem dIndex_e {to te : TDE} : dIndex to te ds M Q = to ds M fun x M1 => isStr x ∧ te ds M1 fun y M2 => indexQ x y M2 Q := (rfl)
def par2I (i j : Nat) (xs : List D) (ds : DSt) (M1 : Mm) (N : DSt → Mm → Prop) : Prop := match xs with | [u, v] => N ((ds.set i (some u)).set j (some v)) M1 | _ => False
theorem par2I_2 {i j : Nat} {u v : D} {N : DSt → Mm → Prop} : par2I i j [u, v] ds M N = N ((ds.set i (some u)).set j (some v)) M := (rfl)
theorem dPar2_e {i j : Nat} {t : TDA} {D : DEnds} : dPar2 i j t D ds M = t ds M fun xs M1 => par2I i j xs ds M1 D.nx := (rfl)
def enumI (x : D) (M1 : Mm) (Q : DIt → Mm → Prop) : Prop := match x with
  | .tup xs => Q ⟨enumD 0 xs, fun _ => True⟩ M1
  | x => enumQ x M1 Q
theorem enumI_t {Q : DIt → Mm → Prop} : enumI (.tup xs) M Q = Q ⟨enumD 0 xs, fun _ => True⟩ M := (rfl)
theorem enumI_L {Q : DIt → Mm → Prop} : enumI (.lst xs) M Q = Q ⟨enumD 0 xs, fun M' => rdL M' (.lst xs) = some xs⟩ M := (rfl)
theorem diEnum_e {ta : TDE} {Q : DIt → Mm → Prop} : diEnum ta ds M Q = ta ds M fun x M1 => enumI x M1 Q := (rfl)
def dputI (x y v : D) (ds : DSt) (M3 : Mm) (N : DSt → Mm → Prop) : Prop := match x, keyD y with
  | .ref a, some k => (match dicOf M3 a with | some kvs => kvs.length < sizeLine ∧ N ds (mup M3 a (.dic (putD kvs k v))) | none => False)
  | _, _ => False
theorem dputI_s {v : D} {N : DSt → Mm → Prop} : dputI (.ref a) (.str z) v ds M N = someI (dicOf M a) fun kvs => kvs.length < sizeLine ∧ N ds (mup M a (.dic (putD kvs (.inr z) v))) := by
  unfold dputI someI
  simp only [keyD]
  cases dicOf M a <;> rfl
theorem dputI_i {v : D} {N : DSt → Mm → Prop} : dputI (.ref a) (.int i) v ds M N = someI (dicOf M a) fun kvs => kvs.length < sizeLine ∧ N ds (mup M a (.dic (putD kvs (.inl i) v))) := by
  unfold dputI someI
  simp only [keyD]
  cases dicOf M a <;> rfl
theorem dputS_e {te to ti : TDE} {D : DEnds} : dputS te to ti D ds M = te ds M fun v M1 => to ds M1 fun x M2 => ti ds M2 fun y M3 => dputI x y v ds M3 D.nx := (rfl)
def dlputI (x y v : D) (ds : DSt) (M3 : Mm) (N : DSt → Mm → Prop) : Prop := match x, y with
  | .ref a, .int i => (match lstOf M3 a with | some xs => (match ixN xs.length i with | some j => N ds (mup M3 a (.lst (xs.set j v))) | none => False) | none => False)
  | _, _ => False
theorem dlputI_r {v : D} {N : DSt → Mm → Prop} : dlputI (.ref a) (.int i) v ds M N = someI (lstOf M a) fun xs => someI (ixN xs.length i) fun j => N ds (mup M a (.lst (xs.set j v))) := by
  unfold dlputI someI
  simp only
  cases lstOf M a with
  | none => rfl
  | some xs => simp only; cases ixN xs.length i <;> rfl
theorem dlputS_e {te to ti : TDE} {D : DEnds} : dlputS te to ti D ds M = te ds M fun v M1 => to ds M1 fun x M2 => ti ds M2 fun y M3 => dlputI x y v ds M3 D.nx := (rfl)
theorem dgetR_s {x : D} : dgetR x (.str z) M Q = someI (rdDL M x) fun kvs => someI (valD kvs (.inr z)) fun d => Q d M := by
  unfold dgetR someI
  cases rdDL M x with
  | none => rfl
  | some kvs => simp only [keyD]; cases valD kvs (.inr z) <;> rfl
theorem dgetR_i {x : D} : dgetR x (.int i) M Q = someI (rdDL M x) fun kvs => someI (valD kvs (.inl i)) fun d => Q d M := by
  unfold dgetR someI
  cases rdDL M x with
  | none => rfl
  | some kvs => simp only [keyD]; cases valD kvs (.inl i) <;> rfl
end
end DM
namespace DM
open PySem L2
open PyProof.Rows (b2i)
def KEq (N s : DSt → Mm → Prop) : Prop := ∀ ds M, s ds M → N ds M
theorem kgo {N s : DSt → Mm → Prop} {ds : DSt} {M : Mm} (h : KEq N s) (g : s ds M) : N ds M := h ds M g
section
variable {D : DEnds} {ds : DSt} {M : Mm} {s : TDS}
theorem sa {t : TDS} (h : ∀ Nx, KEq Nx (s D) → t { D with nx := Nx } ds M) : dSeq t s D ds M := h _ fun _ _ h => h
theorem sa_asg {te : TDE} {g : TDG} (h : ∀ Nx, KEq Nx (s D) → dAsg te g { D with nx := Nx } ds M) : dSeq (dAsg te g) s D ds M := h _ fun _ _ h => h
theorem sa_drop {te : TDE} (h : ∀ Nx, KEq Nx (s D) → dDrop te { D with nx := Nx } ds M) : dSeq (dDrop te) s D ds M := h _ fun _ _ h => h
theorem sa_for {ti : TDI} {g : TDG} {tb : TDS} (h : ∀ Nx, KEq Nx (s D) → dFor ti g tb { D with nx := Nx } ds M) : dSeq (dFor ti g tb) s D ds M := h _ fun _ _ h => h
theorem sa_while {c : TDT} {tb : TDS} (h : ∀ Nx, KEq Nx (s D) → dWhile c tb { D with nx := Nx } ds M) : dSeq (dWhile c tb) s D ds M := h _ fun _ _ h => h
theorem sa_dput {a b c : TDE} (h : ∀ Nx, KEq Nx (s D) → dputS a b c { D with nx := Nx } ds M) : dSeq (dputS a b c) s D ds M := h _ fun _ _ h => h
theorem sa_lput {a b c : TDE} (h : ∀ Nx, KEq Nx (s D) → dlputS a b c { D with nx := Nx } ds M) : dSeq (dlputS a b c) s D ds M := h _ fun _ _ h => h
theorem sa_par2 {i j : Nat} {t : TDA} (h : ∀ Nx, KEq Nx (s D) → dPar2 i j t { D with nx := Nx } ds M) : dSeq (dPar2 i j t) s D ds M := h _ fun _ _ h => h
theorem sa_asgX {te : TDEX} {g : TDG} (h : ∀ Nx, KEq Nx (s D) → dAsgX te g { D with nx := Nx } ds M) : dSeq (dAsgX te g) s D ds M := h _ fun _ _ h => h
theorem sa_dropX {te : TDEX} (h : ∀ Nx, KEq Nx (s D) → dDropX te { D with nx := Nx } ds M) : dSeq (dDropX te) s D ds M := h _ fun _ _ h => h
end
end DM
namespace DM
open PySem L2
open PyProof.Rows (b2i)
theorem dChain_e {r r' : DR2} {ta tb tc : TDE} {ds : DSt} {M : Mm} {Q : DQ} : dChain r r' ta tb tc ds M Q = ta ds M fun x M1 => tb ds M1 fun y M2 => r x y M2 fun z M3 => isB z fun k => if k = true then tc ds M3 fun w M4 => r' y w M4 Q else Q (.bl false) M3 := (rfl)
end DM
namespace DM
open PySem L2
open PyProof.Rows (b2i)
def KnD : D → Prop
  | .ref _ => False
  | .ty _ => False
  | .dit _ => False
  | _ => True
section
variable {M : Mm} {Q : DQ} {j : Int} {a : Bool}
theorem eqR_bi : eqR (.bl a) (.int j) M Q = Q (.bl ((if a then 1 else 0) == j)) M := by
  unfold eqR
  rw [okD_b, okD_i]
  simp only [true_and, and_true]
  rfl
end
theorem cutL_mid2 {α : Type} {xs : List α} {n : Nat} : cutL xs (some (n : Int)) (some ((n : Int) + 2)) = (xs.drop n).take 2 := by
  have := cutL_mid xs n (n + 2)
  rw [show n + 2 - n = 2 by omega] at this
  exact this
theorem cutL_from2S {α : Type} {xs : List α} {n : Nat} : cutL xs (some ((n : Int) + 2)) none = xs.drop (n + 2) := cutL_from xs (n + 2)
end DM
namespace DM
open PySem L2
open PyProof.Rows (b2i)
mutual
def toPy : D → PyData
  | .bl b => .bool b
  | .int i => .int i
  | .str x => .str x
  | .tup xs => .tuple (toPys xs)
  | .lst xs => .list (toPys xs)
  | .non => .none
  | .ref _ => .none
  | .ty _ => .none
  | .dic _ => .none
  | .dit _ => .none
def toPys : List D → List PyData
  | [] => []
  | x :: xs => toPy x :: toPys xs
end
mutual
theorem depth_py : ∀ d : D, (toPy d).depth ≤ depD d
  | .tup xs => by
    have := depths_py xs
    simp only [toPy, PyData.depth, depD]; omega
  | .lst xs => by
    have := depths_py xs
    simp only [toPy, PyData.depth, depD]; omega
  | .bl _ => by simp [toPy, PyData.depth]
  | .int _ => by simp [toPy, PyData.depth]
  | .str _ => by simp [toPy, PyData.depth]
  | .non => by simp [toPy, PyData.depth]
  | .ref _ => by simp [toPy, PyData.depth]
  | .ty _ => by simp [toPy, PyData.depth]
  | .dic _ => by simp [toPy, PyData.depth]
  | .dit _ => by simp [toPy, PyData.depth]
theorem depths_py : ∀ ds : List D, PyData.depthAll (toPys ds) ≤ depDs ds
  | [] => by simp [toPys, PyData.depthAll]
  | x :: xs => by
    have h1 := depth_py x
    have h2 := depths_py xs
    simp only [toPys, PyData.depthAll, depDs]; omega
end
section
variable {X : Cx} {pins : List (Addr × Obj)} {σ : L2.St} {H : HF} {s : Shared}
mutual
theorem reads_D (I : Inv X pins σ H.h s) : ∀ (d : D) (v : V) (u : Value), VR X.K H d v → RelV v u → pureD d = true → ∃ as, Reads s.heap u (toPy d) as
  | .non, _, _, r, ru, _ => by cases r; cases ru; exact ⟨_, .none⟩
  | .bl b, _, _, r, ru, _ => by cases r; cases ru; exact ⟨_, .bool b⟩
  | .int i, _, _, r, ru, _ => by cases r; obtain ⟨t, rfl⟩ := ru; exact ⟨_, .int i t⟩
  | .str x, _, _, r, ru, _ => by cases r; obtain ⟨t, rfl⟩ := ru; exact ⟨_, .str x t⟩
  | .tup xs, _, _, r, ru, p => by
    obtain ⟨a, vs, rfl, h, q⟩ := r.tup_v
    cases ru
    obtain ⟨its, rv, o, h1, h2, n, h3⟩ := tup_at I h
    obtain ⟨as, hr⟩ := readss_D I xs vs its q rv (by simpa [pureD] using p)
    exact ⟨as, .tuple h1 h2 h3 (by simpa using hr)⟩
  | .lst xs, _, _, r, ru, p => by
    obtain ⟨a, vs, rfl, h, _, q⟩ := r.lst_v
    cases ru
    obtain ⟨z, its, n, rv, hl, e⟩ := I.lstM h
    obtain ⟨as, hr⟩ := readss_D I xs vs its q rv (by simpa [pureD] using p)
    exact ⟨_, .list e rfl rfl (by simpa using hr)⟩
  | .ref _, _, _, _, _, p => by simp [pureD] at p
  | .ty _, _, _, _, _, p => by simp [pureD] at p
  | .dic _, _, _, _, _, p => by simp [pureD] at p
  | .dit _, _, _, _, _, p => by simp [pureD] at p
theorem readss_D (I : Inv X pins σ H.h s) : ∀ (ds : List D) (vs : List V) (us : List Value), VRs X.K H ds vs → Vals vs us → pureDs ds = true → ∃ as, ReadsAll s.heap us (toPys ds) as
  | [], _, _, r, ru, _ => by cases r; cases ru; exact ⟨_, .nil⟩
  | d :: ds, _, _, r, ru, p => by
    cases r with
    | cons r1 r2 =>
      cases ru with
      | cons u1 u2 =>
        have p' := Bool.and_eq_true_iff.mp (show (pureD d && pureDs ds) = true by simpa [pureDs] using p)
        obtain ⟨as, h1⟩ := reads_D I d _ _ r1 u1 p'.1
        obtain ⟨bs, h2⟩ := readss_D I ds _ _ r2 u2 p'.2
        exact ⟨_, .cons h1 h2⟩
end
end
section
variable {prog : Program} {w : World} {A : Around} {E : Value → Shared → Prop} {s : Shared} {β : Type} {vs : List Value} {bs : List β} {enc : β → PyData} {R : Value → β → Prop}
open PySem PySem.Calls PyProof.Rows PySem.W in
theorem collect_tup {l : Addr} {vs : List Value} {Q : List Value → Shared → Prop} (hl : s.heap.IsTuple l vs.toArray)
    (h : Q vs { s with heap := (s.heap.push (seqObj "list" #[] 0)).update s.heap.objs.size (Obj.mapSeq (· ++ vs.toArray)) }) (hsz : vs.length ≤ sizeLine) :
    wpAny (model prog w) A (collect (.ref l)) Q E s := by
  obtain ⟨o, ho, hc, n, hd⟩ := id hl
  unfold collect
  refine wpAny_bind (wpAny_runValue (codeAny_builtin entry_proto_collect' ?_))
  show wpAny _ _ (do again (.builtin "list.__iadd__" ⟨[← newList [], .ref l], []⟩)) _ _ s
  refine wpAny_bind (wpAny_newList (wpAny_pure ⟨Code.quiet_builtin _ (by decide +kernel), codeAny_builtin entry_list_iadd' ?_⟩))
  show wpAny _ _ (Builtin.List.listExtendWith (.ref s.heap.objs.size) (.ref l) (.ref s.heap.objs.size)) _ _ { s with heap := s.heap.push (seqObj "list" #[] 0) }
  unfold Builtin.List.listExtendWith
  have ho' : (s.heap.push (seqObj "list" #[] 0)).get? l = some o := Heap.get?_push_of_some _ ho
  refine wpAny_bind (wpAny_typeOf (T := "tuple") ⟨o, ho', hc⟩ ?_)
  have ht : (Value.type "tuple" == Value.type "tuple") = true := by rfl
  rw [if_pos (by rw [ht]; simp)]
  refine wpAny_bind (listItems_at ho' hd ?_)
  refine wpAny_bind (listItems_at (xs := #[]) (n := 0) (Heap.get?_push_size _ rfl) rfl ?_)
  rw [if_neg (by simp)]
  refine wpAny_bind (listUpdate_at (xs := #[]) (n := 0) (Heap.get?_push_size _ rfl) rfl ?_ (Nat.zero_le _) (by show (#[] ++ vs.toArray).size ≤ sizeLine + 1; simp only [Array.size_append, List.size_toArray, List.length_nil]; omega))
  refine wpAny_pure ?_
  show wpAny (model prog w) A (do
      let o ← load s.heap.objs.size
      match o.data with
      | .seq xs _ => pure xs.toList
      | _ => unsupported "internal:collect") Q E { s with heap := (s.heap.push (seqObj "list" #[] 0)).update s.heap.objs.size (Obj.mapSeq (· ++ vs.toArray)) }
  refine wpAny_bind (wpAny_load (get?_update_seq (Heap.get?_push_size _ rfl) _) ?_)
  show wpAny _ _ (pure ((#[] : Array Value) ++ vs.toArray).toList) Q E _
  rw [show ((#[] : Array Value) ++ vs.toArray).toList = vs by simp]
  exact wpAny_pure h
open PySem PySem.Calls PyProof.Rows PySem.W in
theorem sorted_tup_data {l : Addr} {Q : Value → Shared → Prop} (hl : s.heap.IsTuple l vs.toArray) (e : EachIs R vs bs) (er : EachIs (fun v b => ∃ as, Reads s.heap v (enc b) as) vs bs) (hal : AllAlike (bs.map enc)) (hk : Sortable (bs.map enc)) (hL : bs.length ≤ sizeLine)
    (hu : ∀ b, b ∈ bs → A.units + 2 + (enc b).depth < cLine) (h : ∀ out, out.length = bs.length → EachIs R out (bs.mergeSort (dataLe false enc)) → Q (.ref (s.heap.objs.size + 1)) { s with heap := sortedAll s.heap vs (List.toArray out) }) :
    wpAny (model prog w) A (call (.builtin "sorted") [.ref l]) Q E s := by
  have er' : EachIs (fun v b => ∃ as, Reads (sortingHeap (copyHeap s.heap vs) (s.heap.objs.size + 1) vs) v (enc b) as) vs bs := er.mono fun _ _ ⟨as, r⟩ => ⟨as, PyProof.Rows.Reads.keeps (fun _ _ => sorting_copy_old) r⟩
  have hL' : vs.length ≤ sizeLine := by rw [e.length]; exact hL
  have S := SortsAt.data (prog := prog) (w := w) (A := A.in1.in1) (s := { s with heap := sortingHeap (copyHeap s.heap vs) (s.heap.objs.size + 1) vs }) (each_map (R := fun v d => ∃ as, Reads (sortingHeap (copyHeap s.heap vs) (s.heap.objs.size + 1) vs) v d as) enc er') hal hk (bound_map hu)
  refine call_function_entry kind_sorted plain_sorted entry_sorted (args_sorted1 _) ?_
  unfold Builtin.«sorted»
  refine wpAny_bind (m := checkCount "sorted" 1 1 _) (wpAny_pure ?_)
  refine wpAny_bind (collect_tup hl ?_ hL')
  refine wpAny_bind (wpAny_newList ?_ hL')
  have hsz : ((s.heap.push (seqObj "list" #[] 0)).update s.heap.objs.size (Obj.mapSeq (· ++ vs.toArray))).objs.size = s.heap.objs.size + 1 := by
    rw [Heap.size_update, size_push']
  show wpAny _ _ _ _ _ { s with heap := copyHeap s.heap vs }
  rw [hsz]
  refine wpAny_bind (wpAny_holding (wpAny_call_entry slot_list_sort ⟨_, copyHeap_at s.heap vs, rfl⟩ entry_list_sort ?body (args_list_sort _)))
  case body =>
    show wpAny (model prog w) A.in1.in1 (Builtin.«list.sort» ⟨[.ref (s.heap.objs.size + 1)], []⟩) _ _ _
    refine list_sort_vals (s := { s with heap := copyHeap s.heap vs }) (copyHeap_at s.heap vs) S hL' ⟨_, rfl, wpAny_pure ⟨_, rfl, ?_⟩⟩
    exact h _ (by rw [sortVals_length false rfl]; exact e.length) (sortVals_data false e er' hal)
end
def leD : D → D → Bool := PySem.W.dataLe false toPy
def sortD (xs : List D) : List D := xs.mergeSort leD
def SortOk (xs : List D) : Prop := pureDs xs = true ∧ depDs xs ≤ 100 ∧ PySem.W.AllAlike (xs.map toPy) ∧ PySem.W.Sortable (xs.map toPy)
def rSortD (K : PySem.W.Frag) : List V → Hp → VK → Prop := fun vs H0 Q0 => ∃ (H : HF) (a : Addr) (us : List V) (xs : List D), H0 = H.h ∧ vs = [.ref a] ∧ (SqL K H.h a us ∨ (SqT K H.h a us ∧ xs.length ≤ sizeLine)) ∧ VRs K H xs us ∧ SortOk xs ∧
  ∀ (ys : List V) (p : Addr), H.h p = none → VRs K H (sortD xs) ys → Q0 (.ref p) (upd H.h p (.lst ys))
section
variable {X : Cx} {pins : List (Addr × Obj)} {σ : L2.St} {H : HF} {s : Shared}
def StF (K : PySem.W.Frag) (H : HF) (u : Value) (d : D) : Prop := ∃ v : V, RelV v u ∧ VR K H d v
theorem each_of {K : PySem.W.Frag} : ∀ {ds : List D} {vs : List V} {us : List Value}, VRs K H ds vs → Vals vs us → PySem.W.EachIs (StF K H) us ds
  | _, _, _, .nil, .nil => .nil
  | _, _, _, .cons r1 r2, .cons u1 u2 => .cons ⟨_, u1, r1⟩ (each_of r2 u2)
theorem each_out {K : PySem.W.Frag} : ∀ {ds : List D} {us : List Value}, PySem.W.EachIs (StF K H) us ds → ∃ vs : List V, VRs K H ds vs ∧ Vals vs us
  | _, _, .nil => ⟨[], .nil, .nil⟩
  | _, _, .cons ⟨v, h1, h2⟩ t => by
    obtain ⟨vs, h3, h4⟩ := each_out t
    exact ⟨v :: vs, .cons h2 h3, .cons h1 h4⟩
theorem each_reads (I : Inv X pins σ H.h s) : ∀ {ds : List D} {vs : List V} {us : List Value}, VRs X.K H ds vs → Vals vs us → pureDs ds = true → PySem.W.EachIs (fun v b => ∃ as, Reads s.heap v (toPy b) as) us ds
  | _, _, _, .nil, .nil, _ => .nil
  | _, _, _, .cons r1 r2, .cons u1 u2, p => by
    have p' := Bool.and_eq_true_iff.mp (show (pureD _ && pureDs _) = true by simpa [pureDs] using p)
    exact .cons (reads_D I _ _ _ r1 u1 p'.1) (each_reads I r2 u2 p'.2)
theorem call_sortD (hu : X.A.units + 150 < cLine) : CallR X (.builtin "sorted") (rSortD X.K) := by
  intro pins s σ H0 vs us Q I r h
  obtain ⟨H, a, ws, xs, rfl, rfl, hs, rx, ⟨hp, hd, hal, hso⟩, q⟩ := h
  rw [Vals.ref1 r]
  have dep : ∀ b ∈ xs, X.A.units + 2 + (toPy b).depth < cLine := fun b hb => by
    have h1 := depth_py b
    obtain ⟨j, hj, rfl⟩ := List.getElem_of_mem hb
    have h2 := depDs_get (List.getElem?_eq_getElem hj)
    omega
  rcases hs with hs | ⟨hs, hlx⟩
  · obtain ⟨its, rv, hl, hz⟩ := I.list hs
    have hlx : xs.length ≤ sizeLine := by rw [rx.length]; exact hz
    refine PySem.W.sorted_data (enc := toPy) hl.isList (each_of rx rv) (each_reads I rx rv hp) hal hso hlx dep fun out ho eo => ?_
    obtain ⟨ys, ry, vy⟩ := each_out eo
    obtain ⟨ep, he'⟩ := PyProof.Rows.sortedAll_at s.heap its out.toArray
    have hlen : ys.length ≤ sizeLine := by rw [vy.length, ho]; exact hlx
    have hfree := I.hok.fresh (Nat.le_succ s.heap.objs.size)
    exact ⟨.ref _, upd H.h (s.heap.objs.size + 1) (.lst ys), I.laid (t' := s.toks) (fun _ _ => PyProof.Rows.sortedAll_old) (Nat.le_succ _) ⟨hlen, out, ep, vy, he'⟩, rfl, q ys _ hfree ry⟩
  · obtain ⟨its, rv, hl⟩ := tup_at I hs
    refine sorted_tup_data (enc := toPy) hl (each_of rx rv) (each_reads I rx rv hp) hal hso hlx dep fun out ho eo => ?_
    obtain ⟨ys, ry, vy⟩ := each_out eo
    obtain ⟨ep, he'⟩ := PyProof.Rows.sortedAll_at s.heap its out.toArray
    have hlen : ys.length ≤ sizeLine := by rw [vy.length, ho]; exact hlx
    have hfree := I.hok.fresh (Nat.le_succ s.heap.objs.size)
    exact ⟨.ref _, upd H.h (s.heap.objs.size + 1) (.lst ys), I.laid (t' := s.toks) (fun _ _ => PyProof.Rows.sortedAll_old) (Nat.le_succ _) ⟨hlen, out, ep, vy, he'⟩, rfl, q ys _ hfree ry⟩
end
def dSorted (t : TDA) : TDL := fun ds M Q => t ds M fun xs M1 => match xs with
  | [x] => (match x with | .tup ys => (SortOk ys ∧ ys.length ≤ sizeLine) ∧ Q (sortD ys) M1 | x => (match rdL M1 x with | some ys => SortOk ys ∧ Q (sortD ys) M1 | none => False))
  | _ => False
section
variable {X : Cx} {e : Expr} {es : List Expr} {t : TDA} {p pos : Pos} {k : Nat}
theorem jl_sorted (hr : Room k X.A) (hm : X.mg "sorted" = none) (ha : JA X (e :: es) t) (hg : Gl X "sorted" := by rfl) (he : starEach (e :: es) X.env = (false, eval e X.env) :: starEach es X.env := by rfl) (hpl : (backTo pos (starEach es X.env)).any (·.1) = false := by rfl) :
    JL X (.Call (.Name "sorted" p) (e :: es) [] pos) (dSorted t) := by
  obtain ⟨u, q, g⟩ := ha
  refine ⟨_, pe_callB (call_sortD (hu150 hr)) hg hm PyProof.Rows.boot_sorted q (by decide) (by decide) he hpl, fun ds σ H M Q Q0 s m q k => ?_⟩
  refine g ds σ H M _ _ s m q fun vs H1 es M1 r1 m1 g1 q1 => ?_
  split at q1
  · split at q1
    · rename_i ys
      obtain ⟨v, rfl, r5⟩ := r1.one
      obtain ⟨a, us, rfl, h1, ra⟩ := r5.tup_v
      refine ⟨H1, a, us, ys, rfl, rfl, .inr ⟨h1, q1.1.2⟩, ra, q1.1.1, fun zs l hl rz => ?_⟩
      exact k l (H1.up l _) _ zs M1 (g1.free hl) upd_same (VRs.mono (TX.new m1 hl) _ _ rz) (m1.free hl) (m1.freeF hl) (m1.newT hl) (g1.trans (GG.newT hl)) q1.2
    · split at q1
      · rename_i ys e
        obtain ⟨v, rfl, r5⟩ := r1.one
        obtain ⟨a, us, rfl, h1, ra⟩ := rdL_v m1 r5 e
        refine ⟨H1, a, us, ys, rfl, rfl, .inl (SqL.of h1), ra, q1.1, fun zs l hl rz => ?_⟩
        exact k l (H1.up l _) _ zs M1 (g1.free hl) upd_same (VRs.mono (TX.new m1 hl) _ _ rz) (m1.free hl) (m1.freeF hl) (m1.newT hl) (g1.trans (GG.newT hl)) q1.2
      · exact q1.elim
  · exact q1.elim
end
section
variable {ds : DSt} {M : Mm} {xs : List D} {a : Addr}
def sortedI (xs : List D) (M1 : Mm) (Q : List D → Mm → Prop) : Prop := match xs with
  | [x] => (match x with | .tup ys => (SortOk ys ∧ ys.length ≤ sizeLine) ∧ Q (sortD ys) M1 | x => (match rdL M1 x with | some ys => SortOk ys ∧ Q (sortD ys) M1 | none => False))
  | _ => False
theorem dSorted_e {t : TDA} {Q : List D → Mm → Prop} : dSorted t ds M Q = t ds M fun xs M1 => sortedI xs M1 Q := (rfl)
theorem sortedI_L {Q : List D → Mm → Prop} : sortedI [.lst xs] M Q = (SortOk xs ∧ Q (sortD xs) M) := (rfl)
theorem sortedI_t {Q : List D → Mm → Prop} : sortedI [.tup xs] M Q = ((SortOk xs ∧ xs.length ≤ sizeLine) ∧ Q (sortD xs) M) := (rfl)
theorem sortedI_r {Q : List D → Mm → Prop} : sortedI [.ref a] M Q = someI (lstOf M a) fun ys => SortOk ys ∧ Q (sortD ys) M := by
  unfold sortedI someI
  simp only [rdL_ref]
  cases lstOf M a <;> rfl
end
theorem sortD_map {α : Type} (f : α → D) (l : List α) : sortD (l.map f) = (l.mergeSort fun a b => leD (f a) (f b)).map f := by
  unfold sortD
  exact (List.map_mergeSort (f := f) (fun _ _ _ _ => rfl)).symm
end DM
namespace DM
open PySem L2
open PyProof.Rows (b2i)
abbrev Ed := Str × Str × Str
def edD (e : Ed) : D := .tup [.str e.1, .str e.2.1, .str e.2.2]
theorem eqv_ed {e f : Ed} : eqvD (edD e) (edD f) = decide (e = f) := by
  obtain ⟨a, b, c⟩ := e
  obtain ⟨a', b', c'⟩ := f
  have h := eqvDs_strs (a := [a, b, c]) (b := [a', b', c'])
  simp only [List.map_cons, List.map_nil] at h
  simp only [edD, eqvD, h]
  simp
theorem pu_eds : ∀ {T : List Ed}, pureDs (T.map edD) = true
  | [] => rfl
  | e :: T => by
    have := pu_eds (T := T)
    simp [pureDs, pureD, edD, this]
theorem dep_eds : ∀ {T : List Ed}, depDs (T.map edD) ≤ 2
  | [] => by simp [depDs]
  | e :: T => by
    have := dep_eds (T := T)
    simp [depDs, depD, edD, this]
theorem filter_notp {α : Type} {p : α → Bool} {xs : List α} : (xs.filter fun x => !p x).isEmpty = xs.all p := by
  induction xs with
  | nil => rfl
  | cons x xs ih =>
    rw [List.filter_cons, List.all_cons]
    cases h : p x <;> simp [ih]
end DM
namespace DM
open PySem L2
open PyProof.Rows (b2i)
section
variable {M M0 M' : Mm} {Q : DQ} {a d c : Addr} {i : Int} {r r0 : Nat} {L : List (Addr × MO)}
theorem ix_L3 {x0 x1 x2 x3 : D} {xs : List D} : ixR (.lst (x0 :: x1 :: x2 :: x3 :: xs)) (.int 3) M Q = Q x3 M := by
  have e : atI (x0 :: x1 :: x2 :: x3 :: xs) 3 = some x3 := atI_nat (j := 3) rfl
  unfold ixR
  simp only [e]
theorem ix_L4 {x0 x1 x2 x3 x4 : D} {xs : List D} : ixR (.lst (x0 :: x1 :: x2 :: x3 :: x4 :: xs)) (.int 4) M Q = Q x4 M := by
  have e : atI (x0 :: x1 :: x2 :: x3 :: x4 :: xs) 4 = some x4 := atI_nat (j := 4) rfl
  unfold ixR
  simp only [e]
theorem ix_L5 {x0 x1 x2 x3 x4 x5 : D} {xs : List D} : ixR (.lst (x0 :: x1 :: x2 :: x3 :: x4 :: x5 :: xs)) (.int 5) M Q = Q x5 M := by
  have e : atI (x0 :: x1 :: x2 :: x3 :: x4 :: x5 :: xs) 5 = some x5 := atI_nat (j := 5) rfl
  unfold ixR
  simp only [e]
theorem ix_t5 {x0 x1 x2 x3 x4 x5 : D} {xs : List D} : ixR (.tup (x0 :: x1 :: x2 :: x3 :: x4 :: x5 :: xs)) (.int 5) M Q = Q x5 M := by
  have e : atI (x0 :: x1 :: x2 :: x3 :: x4 :: x5 :: xs) 5 = some x5 := atI_nat (j := 5) rfl
  unfold ixR
  simp only [e]
theorem ix_L6 {x0 x1 x2 x3 x4 x5 x6 : D} {xs : List D} : ixR (.lst (x0 :: x1 :: x2 :: x3 :: x4 :: x5 :: x6 :: xs)) (.int 6) M Q = Q x6 M := by
  have e : atI (x0 :: x1 :: x2 :: x3 :: x4 :: x5 :: x6 :: xs) 6 = some x6 := atI_nat (j := 6) rfl
  unfold ixR
  simp only [e]
theorem ix_t6 {x0 x1 x2 x3 x4 x5 x6 : D} {xs : List D} : ixR (.tup (x0 :: x1 :: x2 :: x3 :: x4 :: x5 :: x6 :: xs)) (.int 6) M Q = Q x6 M := by
  have e : atI (x0 :: x1 :: x2 :: x3 :: x4 :: x5 :: x6 :: xs) 6 = some x6 := atI_nat (j := 6) rfl
  unfold ixR
  simp only [e]
theorem ix_L7 {x0 x1 x2 x3 x4 x5 x6 x7 : D} {xs : List D} : ixR (.lst (x0 :: x1 :: x2 :: x3 :: x4 :: x5 :: x6 :: x7 :: xs)) (.int 7) M Q = Q x7 M := by
  have e : atI (x0 :: x1 :: x2 :: x3 :: x4 :: x5 :: x6 :: x7 :: xs) 7 = some x7 := atI_nat (j := 7) rfl
  unfold ixR
  simp only [e]
theorem ix_t7 {x0 x1 x2 x3 x4 x5 x6 x7 : D} {xs : List D} : ixR (.tup (x0 :: x1 :: x2 :: x3 :: x4 :: x5 :: x6 :: x7 :: xs)) (.int 7) M Q = Q x7 M := by
  have e : atI (x0 :: x1 :: x2 :: x3 :: x4 :: x5 :: x6 :: x7 :: xs) 7 = some x7 := atI_nat (j := 7) rfl
  unfold ixR
  simp only [e]
theorem ix_L8 {x0 x1 x2 x3 x4 x5 x6 x7 x8 : D} {xs : List D} : ixR (.lst (x0 :: x1 :: x2 :: x3 :: x4 :: x5 :: x6 :: x7 :: x8 :: xs)) (.int 8) M Q = Q x8 M := by
  have e : atI (x0 :: x1 :: x2 :: x3 :: x4 :: x5 :: x6 :: x7 :: x8 :: xs) 8 = some x8 := atI_nat (j := 8) rfl
  unfold ixR
  simp only [e]
theorem ix_t8 {x0 x1 x2 x3 x4 x5 x6 x7 x8 : D} {xs : List D} : ixR (.tup (x0 :: x1 :: x2 :: x3 :: x4 :: x5 :: x6 :: x7 :: x8 :: xs)) (.int 8) M Q = Q x8 M := by
  have e : atI (x0 :: x1 :: x2 :: x3 :: x4 :: x5 :: x6 :: x7 :: x8 :: xs) 8 = some x8 := atI_nat (j := 8) rfl
  unfold ixR
  simp only [e]
theorem ix_L9 {x0 x1 x2 x3 x4 x5 x6 x7 x8 x9 : D} {xs : List D} : ixR (.lst (x0 :: x1 :: x2 :: x3 :: x4 :: x5 :: x6 :: x7 :: x8 :: x9 :: xs)) (.int 9) M Q = Q x9 M := by
  have e : atI (x0 :: x1 :: x2 :: x3 :: x4 :: x5 :: x6 :: x7 :: x8 :: x9 :: xs) 9 = some x9 := atI_nat (j := 9) rfl
  unfold ixR
  simp only [e]
theorem ix_t9 {x0 x1 x2 x3 x4 x5 x6 x7 x8 x9 : D} {xs : List D} : ixR (.tup (x0 :: x1 :: x2 :: x3 :: x4 :: x5 :: x6 :: x7 :: x8 :: x9 :: xs)) (.int 9) M Q = Q x9 M := by
  have e : atI (x0 :: x1 :: x2 :: x3 :: x4 :: x5 :: x6 :: x7 :: x8 :: x9 :: xs) 9 = some x9 := atI_nat (j := 9) rfl
  unfold ixR
  simp only [e]
theorem cutL_from3 {α : Type} (xs : List α) : cutL xs (some 3) none = xs.drop 3 := cutL_from xs 3
theorem cutL_from4 {α : Type} (xs : List α) : cutL xs (some 4) none = xs.drop 4 := cutL_from xs 4
theorem cutL_from5 {α : Type} (xs : List α) : cutL xs (some 5) none = xs.drop 5 := cutL_from xs 5
theorem cutL_from6 {α : Type} (xs : List α) : cutL xs (some 6) none = xs.drop 6 := cutL_from xs 6
theorem cutL_from8 {α : Type} (xs : List α) : cutL xs (some 8) none = xs.drop 8 := cutL_from xs 8
theorem cutL_to0 {α : Type} (xs : List α) : cutL xs none (some 0) = [] := cutL_to xs 0
theorem cutL_to4 {α : Type} (xs : List α) : cutL xs none (some 4) = xs.take 4 := cutL_to xs 4
theorem cutL_to5 {α : Type} (xs : List α) : cutL xs none (some 5) = xs.take 5 := cutL_to xs 5
theorem cutL_to6 {α : Type} (xs : List α) : cutL xs none (some 6) = xs.take 6 := cutL_to xs 6
theorem cutL_to8 {α : Type} (xs : List α) : cutL xs none (some 8) = xs.take 8 := cutL_to xs 8
theorem sortOk_ed {T : List Ed} : SortOk (T.map edD) := by
  have key : ∀ x ∈ (T.map edD).map toPy, ∃ e : Ed, x = .tuple [.str e.1, .str e.2.1, .str e.2.2] := by
    intro x hx
    rw [List.map_map] at hx
    obtain ⟨e, _, rfl⟩ := List.mem_map.mp hx
    exact ⟨e, rfl⟩
  refine ⟨pu_eds, Nat.le_trans dep_eds (by decide), fun x hx y hy => ?_, .inl fun x hx => ?_⟩
  · obtain ⟨e, rfl⟩ := key x hx
    obtain ⟨f, rfl⟩ := key y hy
    rfl
  · obtain ⟨e, rfl⟩ := key x hx
    exact ⟨_, _, rfl⟩
end
end DM
namespace DM
open PySem L2
open PyProof.Rows (b2i)
structure Sm where
  p : Str
  q : Str
  r : Str
  a : Str
  b : Str
  c : Str
  prog : List Rl
  a0 : Int
  a1 : Int
  a2 : Int
  a3 : Int
  a4 : Int
  a5 : Int
  T : List Ed
instance : Inhabited Rl := ⟨⟨"", "", "", []⟩⟩
namespace Sm
def ends (S : Sm) : List Str := ["1", S.r]
def lines (S : Sm) : List D := [.tup [.tup [.str S.q, .str S.b, .str S.q], .tup [.str "rule", .int S.a1, .tup []]], .tup [.tup [.str S.q, .str S.a, .str S.r], .tup [.str "rule", .int S.a2, .tup []]],
  .tup [.tup [.str S.r, .str S.c, .str "1"], .tup [.str "told"]], .tup [.tup [.str S.p, .str S.a, .str S.r], .tup [.str "rule", .int S.a0, .tup [.int 0, .int 1]]],
  .tup [.tup [.str S.q, .str S.b, .str "1"], .tup [.str "rule", .int S.a4, .tup [.int 2]]]]
def names (S : Sm) : List D := [.str S.p, .str S.q, .str S.r, .str S.a, .str S.b, .str S.c]
def ats (S : Sm) : List D := [.int S.a0, .int S.a1, .int S.a2, .int S.a3, .int S.a4, .int S.a5]
def all (S : Sm) : D := .tup [progD S.prog, .tup [.tup (S.T.map edD), .tup [.str "1", .str S.r]], .tup S.names, .lst S.ats, .lst S.lines]
end Sm
end DM
namespace DM
open PySem L2
theorem mem_pure {xs : List D} (h : pureDs xs = true) {x : D} (hx : x ∈ xs) : pureD x = true := by
  obtain ⟨j, hj, rfl⟩ := List.getElem_of_mem hx
  exact pureDs_get h (List.getElem?_eq_getElem hj)
theorem mem_dep {n : Nat} : ∀ {xs : List D}, depDs xs ≤ n → ∀ {x : D}, x ∈ xs → depD x ≤ n
  | y :: ys, h, x, hx => by
    simp only [depDs] at h
    rcases List.mem_cons.mp hx with rfl | hx
    · omega
    · exact mem_dep (by omega) hx
theorem all_pure {xs : List D} (h : ∀ x ∈ xs, pureD x = true) : pureDs xs = true := by
  induction xs with
  | nil => rfl
  | cons x xs ih => simp only [pureDs, h x (by simp), ih fun y hy => h y (by simp [hy]), Bool.and_self]
theorem all_dep {n : Nat} {xs : List D} (hn : 1 ≤ n) (h : ∀ x ∈ xs, depD x ≤ n) : depDs xs ≤ n := by
  induction xs with
  | nil => simpa [depDs] using hn
  | cons x xs ih =>
    have h1 := h x (by simp)
    have h2 := ih fun y hy => h y (by simp [hy])
    simp only [depDs]; omega
end DM
namespace DM
open PySem L2
theorem sortOk_str {E : List Str} : SortOk (E.map .str) := by
  have key : ∀ x ∈ (E.map D.str).map toPy, ∃ e : Str, x = .str e := by
    intro x hx
    rw [List.map_map] at hx
    obtain ⟨e, _, rfl⟩ := List.mem_map.mp hx
    exact ⟨e, rfl⟩
  refine ⟨pureDs_str E, Nat.le_trans (depDs_str E) (by decide), fun x hx y hy => ?_, .inr fun x hx => ?_⟩
  · obtain ⟨e, rfl⟩ := key x hx
    obtain ⟨f, rfl⟩ := key y hy
    rfl
  · obtain ⟨e, rfl⟩ := key x hx
    exact ⟨by simp, by simp⟩
end DM
namespace DM
open PySem L2
open PyProof.Rows (b2i)
section
variable {prog : Program} {w : World} {A : Around} {E : Value → Shared → Prop} {s : Shared} {T : String} {r d : Addr} {n : Nat} {P : Nat → Value → Prop} {OK : Heap → Prop}
open PySem PySem.Calls PyProof.Rows PySem.W in
theorem collect_src {Q : List Value → Shared → Prop} (K : KdlSrc prog w T r d n P OK) (hh : A.handled = none) (hok : OK s.heap) (hn : n ≤ sizeLine)
    (hQ : ∀ h' tk (acc : Array Value), (∀ b o, s.heap.get? b = some o → h'.get? b = some o) → s.heap.objs.size ≤ h'.objs.size → ItemsOf P acc n → Q acc.toList { s with heap := h', toks := tk }) :
    wpAny (model prog w) A (collect (.ref r)) Q E s := by
  have hlt := K.there _ hok
  unfold collect
  refine wpAny_bind (wpAny_runValue (codeAny_builtin F.entry_proto_collect ?_))
  rw [Around.under_plainId F.plain_proto_collect _]
  show wpAny _ A.in1 (newList [] >>= fun l => again (.builtin "list.__iadd__" ⟨[l, .ref r], []⟩)) _ _ s
  refine wpAny_bind (wpAny_newObj_type ?_)
  refine wpAny_pure ⟨plainId_quiet F.plain_list_iadd _, codeAny_builtin F.entry_list_iadd ?_⟩
  rw [Around.under_plainId F.plain_list_iadd _]
  show wpAny _ A.in1 (Builtin.List.listExtendWith (.ref s.heap.objs.size) (.ref r) (.ref s.heap.objs.size)) _ _ _
  have hS : (s.heap.push { cls := .type "list", data := .seq ([] : List Value).toArray }).get? s.heap.objs.size = some { cls := .type "list", data := .seq ([] : List Value).toArray } := Heap.get?_push_size _ rfl
  refine kdl_extend (R := fun r s' => match r with
      | Except.ok (Flow.ret v) => wpAny (model prog w) A (match v with
        | .ref a => (do
          match (← load a).data with
          | .seq xs _ => pure xs.toList
          | _ => unsupported "internal:collect")
        | _ => unsupported "internal:collect") Q E s'
      | Except.ok _ => False
      | Except.error e => E e s') (s := { s with heap := s.heap.push { cls := .type "list", data := .seq ([] : List Value).toArray } }) K hh (K.keep _ _ hok fun b _ o e => Heap.get?_push_of_some _ e) s.heap.objs.size (Nat.ne_of_gt hlt.1) (Nat.ne_of_gt hlt.2) (.ref s.heap.objs.size) 0 hS (fun h' tk acc c' hk hS' hacc => ?_) hn
  show wpAny _ A (load s.heap.objs.size >>= _) _ _ _
  refine wpAny_bind (wpAny_load hS' ?_)
  exact wpAny_pure (hQ h' tk acc (fun b o e => hk b o (Nat.ne_of_lt (Heap.lt_size e)) (Heap.get?_push_of_some _ e)) (Nat.le_of_lt (Heap.lt_size hS')) hacc)
variable {β : Type} {vs : List Value} {bs : List β} {enc : β → PyData} {R : Value → β → Prop}
open PySem PySem.Calls PyProof.Rows PySem.W in
theorem sorted_src {l : Addr} {Q : Value → Shared → Prop} (e : EachIs R vs bs) (er : EachIs (fun v b => ∃ as, Reads s.heap v (enc b) as) vs bs) (hal : AllAlike (bs.map enc)) (hk : Sortable (bs.map enc)) (hL : bs.length ≤ sizeLine)
    (hu : ∀ b, b ∈ bs → A.units + 2 + (enc b).depth < cLine)
    (hc : ∀ (Q' : List Value → Shared → Prop) (E' : Value → Shared → Prop), (∀ h' tk, (∀ b o, s.heap.get? b = some o → h'.get? b = some o) → s.heap.objs.size ≤ h'.objs.size → Q' vs { s with heap := h', toks := tk }) → wpAny (model prog w) A.in1 (collect (.ref l)) Q' E' s)
    (h : ∀ h' tk out c a, (∀ b o, s.heap.get? b = some o → h'.get? b = some o) → s.heap.objs.size ≤ a → h'.get? a = some (seqObj "list" (List.toArray out) c) → out.length = bs.length → EachIs R out (bs.mergeSort (dataLe false enc)) → Q (.ref a) { s with heap := h', toks := tk }) :
    wpAny (model prog w) A (call (.builtin "sorted") [.ref l]) Q E s := by
  have hL' : vs.length ≤ sizeLine := by rw [e.length]; exact hL
  refine call_function_entry kind_sorted plain_sorted entry_sorted (args_sorted1 _) ?_
  unfold Builtin.«sorted»
  refine wpAny_bind (m := checkCount "sorted" 1 1 _) (wpAny_pure ?_)
  refine wpAny_bind (hc _ _ fun h1 tk k1 z1 => ?_)
  refine wpAny_bind (wpAny_newList ?_ hL')
  have ho : (h1.push (seqObj "list" vs.toArray 0)).get? h1.objs.size = some (seqObj "list" vs.toArray 0) := Heap.get?_push_size _ rfl
  have k2 : ∀ b o, s.heap.get? b = some o → (sortingHeap (h1.push (seqObj "list" vs.toArray 0)) h1.objs.size vs).get? b = some o := fun b o q =>
    sortingHeap_old (Nat.ne_of_lt (Nat.lt_of_lt_of_le (Heap.lt_size q) z1)) (Heap.get?_push_of_some _ (k1 b o q))
  have er' : EachIs (fun v b => ∃ as, Reads (sortingHeap (h1.push (seqObj "list" vs.toArray 0)) h1.objs.size vs) v (enc b) as) vs bs := er.mono fun _ _ ⟨as, r⟩ => ⟨as, PyProof.Rows.Reads.keeps k2 r⟩
  have S := SortsAt.data (prog := prog) (w := w) (A := A.in1.in1) (s := { s with heap := sortingHeap (h1.push (seqObj "list" vs.toArray 0)) h1.objs.size vs, toks := tk }) (each_map (R := fun v d => ∃ as, Reads (sortingHeap (h1.push (seqObj "list" vs.toArray 0)) h1.objs.size vs) v d as) enc er') hal hk (bound_map hu)
  show wpAny _ _ _ _ _ { s with heap := h1.push (seqObj "list" vs.toArray 0), toks := tk }
  refine wpAny_bind (wpAny_holding (wpAny_call_entry slot_list_sort ⟨_, ho, rfl⟩ entry_list_sort ?body (args_list_sort _)))
  case body =>
    show wpAny (model prog w) A.in1.in1 (Builtin.«list.sort» ⟨[.ref h1.objs.size], []⟩) _ _ _
    refine list_sort_vals (s := { s with heap := h1.push (seqObj "list" vs.toArray 0), toks := tk }) ho S hL' ⟨_, rfl, wpAny_pure ⟨_, rfl, ?_⟩⟩
    obtain ⟨c, hc⟩ := PyProof.Rows.sortedHeap_at (vs := vs) (out := (sortVals (dataKind (sortingHeap (h1.push (seqObj "list" vs.toArray 0)) h1.objs.size vs) (bs.map enc)) false vs vs).toArray) ho
    refine h _ tk _ c h1.objs.size (fun b o q => ?_) z1 hc (by rw [sortVals_length false rfl]; exact e.length) (sortVals_data false e er' hal)
    have q1 := Heap.get?_push_of_some (seqObj "list" vs.toArray 0) (k1 b o q)
    exact (PyProof.Rows.sortedHeap_old (Nat.ne_of_lt (Nat.lt_of_lt_of_le (Heap.lt_size q) z1)) (Heap.lt_size q1)).trans q1
end
def kD : Key → D
  | .inl i => .int i
  | .inr x => .str x
def tkD (k : List Key) : D := .tup (k.map kD)
def keysD : List D → Option (List Key)
  | [] => some []
  | .int i :: xs => (keysD xs).map (.inl i :: ·)
  | .str x :: xs => (keysD xs).map (.inr x :: ·)
  | _ :: _ => none
def keyT : D → Option (List Key)
  | .tup (x :: xs) => keysD (x :: xs)
  | _ => none
theorem keysD_eq : ∀ {xs : List D} {k : List Key}, keysD xs = some k → xs = k.map kD
  | [], k, h => by cases h; rfl
  | .int i :: xs, k, h => by
    simp only [keysD] at h
    obtain ⟨k', e, rfl⟩ := Option.map_eq_some_iff.mp h
    rw [keysD_eq e]; rfl
  | .str i :: xs, k, h => by
    simp only [keysD] at h
    obtain ⟨k', e, rfl⟩ := Option.map_eq_some_iff.mp h
    rw [keysD_eq e]; rfl
  | .non :: _, _, h => by cases h
  | .bl _ :: _, _, h => by cases h
  | .tup _ :: _, _, h => by cases h
  | .lst _ :: _, _, h => by cases h
  | .ref _ :: _, _, h => by cases h
  | .ty _ :: _, _, h => by cases h
  | .dic _ :: _, _, h => by cases h
  | .dit _ :: _, _, h => by cases h
theorem keysD_map : ∀ k : List Key, keysD (k.map kD) = some k
  | [] => rfl
  | .inl i :: k => by simp only [List.map_cons, kD, keysD, keysD_map k]; rfl
  | .inr i :: k => by simp only [List.map_cons, kD, keysD, keysD_map k]; rfl
theorem keyT_ne {x : D} {k : List Key} (h : keyT x = some k) : x = tkD k ∧ k ≠ [] := by
  cases x with
  | tup xs =>
    cases xs with
    | nil => cases h
    | cons a xs =>
      have e := keysD_eq (show keysD (a :: xs) = some k from h)
      exact ⟨by rw [tkD, e], by rintro rfl; cases e⟩
  | _ => cases h
theorem keyT_eq {x : D} {k : List Key} (h : keyT x = some k) : x = tkD k := (keyT_ne h).1
theorem pq_key : ∀ {k : List Key}, k ≠ [] → pq (k.map kD) = false
  | [], h => absurd rfl h
  | .inl _ :: _, _ => rfl
  | .inr _ :: _, _ => rfl
section
variable {K : PySem.W.Frag} {H : HF}
theorem vrs_keys : ∀ {k : List Key} {vs : List V}, VRs K H (k.map kD) vs → vs = k.map kV
  | [], _, r => by cases r; rfl
  | .inl i :: k, _, r => by
    cases r with
    | cons r1 r2 => cases r1; rw [vrs_keys r2]; rfl
  | .inr i :: k, _, r => by
    cases r with
    | cons r1 r2 => cases r1; rw [vrs_keys r2]; rfl
theorem keys_vrs : ∀ (k : List Key), VRs K H (k.map kD) (k.map kV)
  | [] => .nil
  | .inl i :: k => .cons (.int i) (keys_vrs k)
  | .inr i :: k => .cons (.str i) (keys_vrs k)
theorem key_v {x : D} {v : V} {k : List Key} (r : VR K H x v) (e : keyT x = some k) : ∃ b, v = .ref b ∧ H.h b = some (.tup (k.map kV)) := by
  obtain ⟨this, ne⟩ := keyT_ne e
  subst this
  obtain ⟨b, vs, rfl, h, q⟩ := VR.tup_t r (pq_key ne)
  rw [vrs_keys q] at h
  exact ⟨b, rfl, h⟩
theorem vr_key {b : Addr} {k : List Key} (ne : k ≠ []) (h : H.h b = some (.tup (k.map kV))) : VR K H (tkD k) (.ref b) := .tupF (pq_key ne) h (keys_vrs k)
end
def ditOf (M : Mm) (a : Addr) : Option (List (List Key × D)) := match M a with | some (.dit kvs) => some kvs | _ => none
theorem of_ditOf {M : Mm} {a : Addr} {kvs : List (List Key × D)} (e : ditOf M a = some kvs) : M a = some (.dit kvs) := by
  unfold ditOf at e
  split at e
  · rename_i h; cases e; exact h
  · cases e
theorem ditOf_some {M : Mm} {a : Addr} {kvs : List (List Key × D)} (e : M a = some (.dit kvs)) : ditOf M a = some kvs := by unfold ditOf; rw [e]
def rdT (M : Mm) : D → Option (List (List Key × D))
  | .dit kvs => some kvs
  | .ref a => ditOf M a
  | _ => none
@[simp] theorem rdT_dit {M : Mm} {xs : List (List Key × D)} : rdT M (.dit xs) = some xs := rfl
@[simp] theorem rdT_ref {M : Mm} {a : Addr} : rdT M (.ref a) = ditOf M a := rfl
theorem rdT_v {K : PySem.W.Frag} {M : Mm} {H : HF} {d : D} {v : V} {xs : List (List Key × D)} (m : MR K M H) (r : VR K H d v) (e : rdT M d = some xs) : ∃ a vs, v = .ref a ∧ H.h a = some (.dT vs) ∧ FR K H xs vs ∧ NEk xs := by
  cases d with
  | dit ys =>
    cases e
    obtain ⟨a, vs, rfl, h, _, q⟩ := r.dit_v
    exact ⟨a, vs, rfl, h, q⟩
  | ref a =>
    cases r.ref_v
    obtain ⟨vs, h1, r1⟩ := m.ob a _ (of_ditOf e)
    exact ⟨a, vs, rfl, h1, r1⟩
  | _ => cases e
end DM
namespace DM
open PySem L2
open PyProof.Rows (b2i)
def valT {κ δ : Type} [DecidableEq κ] (kvs : List (κ × δ)) (k : κ) : Option δ := (kvs.find? fun kv => decide (kv.1 = k)).map (·.2)
def putT {κ δ : Type} [DecidableEq κ] (kvs : List (κ × δ)) (k : κ) (d : δ) : List (κ × δ) :=
  if (kvs.any fun kv => decide (kv.1 = k)) = true then kvs.map (fun kv => if kv.1 = k then (kv.1, d) else kv) else kvs ++ [(k, d)]
theorem NEk.put {α : Type} {kvs : List (List Key × α)} {k : List Key} {d : α} (n : NEk kvs) (h : k ≠ []) : NEk (putT kvs k d) := by
  intro kv hm
  unfold putT at hm
  split at hm
  · obtain ⟨q, hq, rfl⟩ := List.mem_map.mp hm
    split
    · rename_i e; exact n q hq
    · exact n q hq
  · rcases List.mem_append.mp hm with hm | hm
    · exact n kv hm
    · rw [List.mem_singleton.mp hm]; exact h
section
variable {K : PySem.W.Frag} {H : HF} {κ : Type} [DecidableEq κ]
theorem FR.anyt : ∀ {ds : List (κ × D)} {vs : List (κ × V)} {k : κ}, FR K H ds vs → (ds.any fun kv => decide (kv.1 = k)) = vs.any fun kv => decide (kv.1 = k)
  | _, _, _, .nil => rfl
  | (k', d') :: ds, (_, v') :: vs, k, .cons r q => by rw [List.any_cons, List.any_cons, FR.anyt q]
theorem FR.snoct {k : κ} {d : D} {v : V} (r : VR K H d v) : ∀ {ds : List (κ × D)} {vs : List (κ × V)}, FR K H ds vs → FR K H (ds ++ [(k, d)]) (vs ++ [(k, v)])
  | _, _, .nil => .cons r .nil
  | _, _, .cons q t => .cons q (FR.snoct r t)
theorem FR.replt {k : κ} {d : D} {v : V} (r : VR K H d v) : ∀ {ds : List (κ × D)} {vs : List (κ × V)}, FR K H ds vs → FR K H (ds.map fun kv => if kv.1 = k then (kv.1, d) else kv) (vs.map fun kv => if kv.1 = k then (kv.1, v) else kv)
  | _, _, .nil => .nil
  | (k', d') :: ds, (_, v') :: vs, .cons q t => by
    rw [List.map_cons, List.map_cons]
    by_cases e : k' = k
    · simp only [e, if_true]
      exact .cons r (FR.replt r t)
    · simp only [e, if_false]
      exact .cons q (FR.replt r t)
theorem FR.putt {k : κ} {d : D} {v : V} (r : VR K H d v) {ds : List (κ × D)} {vs : List (κ × V)} (h : FR K H ds vs) : FR K H (putT ds k d) (putK vs k v) := by
  unfold putT putK
  rw [h.anyt]
  split
  · exact h.replt r
  · exact h.snoct r
theorem FR.len {κ : Type} : ∀ {ds : List (κ × D)} {vs : List (κ × V)}, FR K H ds vs → ds.length = vs.length
  | _, _, .nil => rfl
  | _, _, .cons _ q => by simp [FR.len q]
end
section
variable {X : Cx} {o i e : Expr} {to ti te : TDE} {pos pos' : Pos} {k : Nat} {a b : Expr} {ta tb : TDE}
def dputTS (te to ti : TDE) : TDS := fun D ds M => te ds M fun v M1 => to ds M1 fun x M2 => ti ds M2 fun y M3 => match x, keyT y with
  | .ref a, some k => (match ditOf M3 a with | some kvs => kvs.length < sizeLine ∧ D.nx ds (mup M3 a (.dit (putT kvs k v))) | none => False)
  | _, _ => False
theorem js_dputT {W : WX} (hr : Room k X.A) (ho : JE X o to) (hi : JE X i ti) (he : JE X e te) (hs : swapsWith e (some (.Subscript o i pos')) pos.line X.env = pure false := by rfl) : JS X W (.Assign [.Subscript o i pos'] e pos) (dputTS te to ti) := by
  obtain ⟨u, p, g⟩ := ho
  obtain ⟨u', p', g'⟩ := hi
  obtain ⟨ue, pe, ge⟩ := he
  refine ⟨_, ps_dput (hu_of hr) p p' pe hs, fun M0 H0 D0 D1 l ds σ H M gg s m q => ?_⟩
  refine ge ds σ H M _ _ s m q fun v H1 d M1 r1 m1 g1 q1 => ?_
  refine g ds σ H1 M1 _ _ (s.gg m g1) m1 q1 fun w H2 d2 M2 r2 m2 g2 q2 => ?_
  refine g' ds σ H2 M2 _ _ (s.gg m (g1.trans g2)) m2 q2 fun z H3 d3 M3 r3 m3 g3 q3 => ?_
  split at q3
  · rename_i a k e1
    cases r2.ref_v
    split at q3
    · rename_i kvs e2
      obtain ⟨hz, q3⟩ := q3
      obtain ⟨vs, h1, r4, n4⟩ := m3.ob a _ (of_ditOf e2)
      obtain ⟨b, rfl, hb⟩ := key_v r3 e1
      refine ⟨a, _, rfl, DPut.t h1 hb (by rw [← r4.len]; exact hz), ?_⟩
      have t := TX.put (u := .dT (putK vs k v)) m3 (of_ditOf e2)
      have r1' : VR X.K H3 d v := VR.mono ((g2.trans g3).tx m1) _ _ r1
      have gp : GG M3 H3 (mup M3 a (.dit (putT kvs k d))) (H3.up a (.dT (putK vs k v))) := GG.put (of_ditOf e2)
      exact l.nx σ ds _ _ ((((gg.trans g1).trans g2).trans g3).trans gp) ((s.gg m ((g1.trans g2).trans g3)).gg m3 gp)
        (m3.put (w := .dit (putT kvs k d)) (of_ditOf e2) ⟨_, upd_same, (r4.mono t).putt (VR.mono t _ _ r1'), n4.put (keyT_ne e1).2⟩) q3
    · exact q3.elim
  · exact q3.elim
def dDictT : TDE := fun _ M Q => ∀ p, M p = none → Q (.ref p) (mup M p (.dit []))
theorem je_dictT : JE X (.Dict [] [] pos) dDictT := je_pe pe_dnewT fun ds σ H M Q Q0 s m q k p hp => k _ (H.up p _) _ _ (.ref p) (m.new (w := .dit []) hp ⟨[], upd_same, .nil, fun _ h => nomatch h⟩) (GG.new hp) (q p (m.free hp))
end
theorem keys_std {K : PySem.W.Frag} {H : HF} : ∀ {kvs : List (List Key × V)} {bs : List Addr}, NEk kvs → IsKeys H.h kvs bs → VRs K H (kvs.map fun kv => tkD kv.1) (bs.map V.ref)
  | _, _, _, .nil => .nil
  | _, _, n, .cons h t => .cons (vr_key (n _ List.mem_cons_self) h) (keys_std (fun kv hm => n kv (List.mem_cons_of_mem _ hm)) t)
theorem FR.nek {K : PySem.W.Frag} {H : HF} : ∀ {ds : List (List Key × D)} {vs : List (List Key × V)}, FR K H ds vs → NEk ds → NEk vs
  | _, _, .nil, _ => fun _ h => nomatch h
  | (k, d) :: _, _, .cons _ t, n => fun kv hm => by
    rcases List.mem_cons.mp hm with rfl | hm
    · exact n (k, d) List.mem_cons_self
    · exact FR.nek t (fun kv h => n kv (List.mem_cons_of_mem _ h)) kv hm
theorem FR.keysEq {K : PySem.W.Frag} {H : HF} {κ : Type} : ∀ {ds : List (κ × D)} {vs : List (κ × V)}, FR K H ds vs → ds.map (·.1) = vs.map (·.1)
  | _, _, .nil => rfl
  | _, _, .cons _ t => by simp [FR.keysEq t]
def keysTD (kvs : List (List Key × D)) : List D := kvs.map fun kv => tkD kv.1
def rSortDT (K : PySem.W.Frag) : List V → Hp → VK → Prop := fun vs H0 Q0 => ∃ (H : HF) (a : Addr) (ws : List (List Key × V)) (xs : List D), H0 = H.h ∧ vs = [.ref a] ∧ H.h a = some (.dT ws) ∧ NEk ws ∧ xs = (ws.map fun kv => tkD kv.1) ∧ SortOk xs ∧
  ∀ (ys : List V) (p : Addr), H.h p = none → VRs K H (sortD xs) ys → Q0 (.ref p) (upd H.h p (.lst ys))
section
variable {X : Cx}
theorem call_sortDT (hc : X.calm = true) (hu : X.A.units + 150 < cLine) : CallR X (.builtin "sorted") (rSortDT X.K) := by
  intro pins s σ H0 vs us Q I r h
  obtain ⟨H, a, ws, xs, rfl, rfl, hd, hne, rfl, ⟨hp, hdp, hal, hso⟩, q⟩ := h
  rw [Vals.ref1 r]
  obtain ⟨z, hs, ks, pr, o, es, ep, ho, hx, hdt, he, hn⟩ := (show ObjOk X.prog X.w H.h s.heap a (.dT ws) from I.hok a _ hd)
  have l1 : es.size = ks.length := size_of_entries he
  have l2 : ws.length = ks.length := Paired.length pr
  have hk := isKeys_of pr
  have rk : VRs X.K H (ws.map fun kv => tkD kv.1) ((ks.map fun x => x.2.1).map V.ref) := keys_std hne hk
  have rv := vals_refs (ks.map fun x => x.2.1)
  have hL : (ws.map fun kv => tkD kv.1).length ≤ sizeLine := by rw [List.length_map]; exact z
  have dep : ∀ b ∈ (ws.map fun kv => tkD kv.1), X.A.units + 2 + (toPy b).depth < cLine := fun b hb => by
    have h1 := depth_py b
    obtain ⟨j, hj, rfl⟩ := List.getElem_of_mem hb
    have h2 := depDs_get (List.getElem?_eq_getElem hj)
    omega
  refine sorted_src (enc := toPy) (each_of rk rv) (each_reads I rk rv hp) hal hso hL dep (fun Q' E' hQ' => ?_) fun h' tk out c p k1 hp1 hp2 ho' eo => ?_
  · refine collect_src (kdl_raw hs hx hdt) (I.ok.hd hc) ho (by omega) fun h' tk acc kp sz it => ?_
    have ea : acc.toList = (ks.map fun x => x.2.1).map Value.ref := by
      rw [List.map_map]
      have hl : acc.toList.length = ks.length := by rw [Array.length_toList, it.1]; exact l1
      apply List.ext_getElem?
      intro j
      rw [List.getElem?_map]
      cases hj : acc.toList[j]? with
      | none =>
        have h1 := List.getElem?_eq_none_iff.mp hj
        rw [List.getElem?_eq_none (by omega)]
        all_goals rfl
      | some v =>
        obtain ⟨en, hen, hv⟩ := it.2 j v (by rw [← Array.getElem?_toList]; exact hj)
        have qe := entry_at he j
        rw [hen] at qe
        cases hb : ks[j]? with
        | none =>
          rw [hb] at qe
          exact nomatch (show some en = none from qe)
        | some b =>
          rw [hb] at qe
          have e2 : en = entryOfKey (tupleKind (mixKind X.prog X.w)) b := Option.some.inj qe
          rw [hv, e2]
          all_goals rfl
    rw [ea]
    exact hQ' h' tk kp sz
  · obtain ⟨ys, ry, vy⟩ := each_out eo
    have hlen : ys.length ≤ sizeLine := by rw [vy.length, ho']; exact hL
    have hfree := I.hok.fresh hp1
    refine ⟨.ref _, upd H.h p (.lst ys), I.laid (t' := tk) k1 hp1 ⟨hlen, out, c, vy, hp2⟩, rfl, q ys _ hfree ry⟩
end
def dSortedT (t : TDA) : TDL := fun ds M Q => t ds M fun xs M1 => match xs with
  | [x] => (match rdT M1 x with | some kvs => SortOk (keysTD kvs) ∧ Q (sortD (keysTD kvs)) M1 | none => False)
  | _ => False
section
variable {X : Cx} {e : Expr} {es : List Expr} {t : TDA} {p pos : Pos} {k : Nat}
theorem jl_sortedT (hc : X.calm = true) (hr : Room k X.A) (hm : X.mg "sorted" = none) (ha : JA X (e :: es) t) (hg : Gl X "sorted" := by rfl) (he : starEach (e :: es) X.env = (false, eval e X.env) :: starEach es X.env := by rfl) (hpl : (backTo pos (starEach es X.env)).any (·.1) = false := by rfl) :
    JL X (.Call (.Name "sorted" p) (e :: es) [] pos) (dSortedT t) := by
  obtain ⟨u, q, g⟩ := ha
  refine ⟨_, pe_callB (call_sortDT hc (hu150 hr)) hg hm PyProof.Rows.boot_sorted q (by decide) (by decide) he hpl, fun ds σ H M Q Q0 s m q k => ?_⟩
  refine g ds σ H M _ _ s m q fun vs H1 es M1 r1 m1 g1 q1 => ?_
  split at q1
  · split at q1
    · rename_i kvs e
      obtain ⟨v, rfl, r5⟩ := r1.one
      obtain ⟨a, us, rfl, h1, ra, na⟩ := rdT_v m1 r5 e
      have ek : keysTD kvs = us.map fun kv => tkD kv.1 := by
        have := ra.keysEq
        unfold keysTD
        rw [show (kvs.map fun kv => tkD kv.1) = (kvs.map (·.1)).map tkD by rw [List.map_map]; rfl, this, List.map_map]; rfl
      refine ⟨H1, a, us, keysTD kvs, rfl, rfl, h1, ra.nek na, ek, q1.1, fun zs l hl rz => ?_⟩
      exact k l (H1.up l _) _ zs M1 (g1.free hl) upd_same (VRs.mono (TX.new m1 hl) _ _ rz) (m1.free hl) (m1.freeF hl) (m1.newT hl) (g1.trans (GG.newT hl)) q1.2
    · exact q1.elim
  · exact q1.elim
end
section
variable {ds : DSt} {M : Mm} {xs : List D} {a : Addr} {kvs : List (List Key × D)} {k : List Key} {Q : DQ}
def sortedTI (xs : List D) (M1 : Mm) (Q : List D → Mm → Prop) : Prop := match xs with
  | [x] => (match rdT M1 x with | some kvs => SortOk (keysTD kvs) ∧ Q (sortD (keysTD kvs)) M1 | none => False)
  | _ => False
theorem dSortedT_e {t : TDA} {Q : List D → Mm → Prop} : dSortedT t ds M Q = t ds M fun xs M1 => sortedTI xs M1 Q := (rfl)
theorem dDictT_e : dDictT ds M Q = ∀ p, M p = none → Q (.ref p) (mup M p (.dit [])) := (rfl)
def dputTI (x y v : D) (M3 : Mm) (nx : Mm → Prop) : Prop := match x, keyT y with
  | .ref a, some k => (match ditOf M3 a with | some kvs => kvs.length < sizeLine ∧ nx (mup M3 a (.dit (putT kvs k v))) | none => False)
  | _, _ => False
theorem dputTS_e {te to ti : TDE} {D : DEnds} : dputTS te to ti D ds M = te ds M fun v M1 => to ds M1 fun x M2 => ti ds M2 fun y M3 => dputTI x y v M3 fun M4 => D.nx ds M4 := (rfl)
theorem keyT_2s {x y : Str} : keyT (.tup [.str x, .str y]) = some [.inr x, .inr y] := (rfl)
theorem keyT_3s {x y z : Str} : keyT (.tup [.str x, .str y, .str z]) = some [.inr x, .inr y, .inr z] := (rfl)
theorem dputTI_2s {x y : Str} {v : D} {nx : Mm → Prop} : dputTI (.ref a) (.tup [.str x, .str y]) v M nx = someI (ditOf M a) fun kvs => kvs.length < sizeLine ∧ nx (mup M a (.dit (putT kvs [.inr x, .inr y] v))) := by
  unfold dputTI someI
  simp only [keyT_2s]
  cases ditOf M a <;> rfl
theorem dputTI_3s {x y z : Str} {v : D} {nx : Mm → Prop} : dputTI (.ref a) (.tup [.str x, .str y, .str z]) v M nx = someI (ditOf M a) fun kvs => kvs.length < sizeLine ∧ nx (mup M a (.dit (putT kvs [.inr x, .inr y, .inr z] v))) := by
  unfold dputTI someI
  simp only [keyT_3s]
  cases ditOf M a <;> rfl
theorem sortedTI_r {Q : List D → Mm → Prop} : sortedTI [.ref a] M Q = someI (ditOf M a) fun kvs => SortOk (keysTD kvs) ∧ Q (sortD (keysTD kvs)) M := by
  unfold sortedTI someI
  simp only [rdT_ref]
  cases ditOf M a <;> rfl
end
end DM
namespace DM
open PySem L2
open PyProof.Rows (b2i)
section
variable {ok : Mm → Prop} {g : TDG} {tt : TDT} {te : TDE} {ds0 : DSt} {Q : List D → Mm → Prop} {d c p : Addr} {r r' n : Nat} {M0 M M' : Mm} {L : List (Addr × MO)} {o o' : MO}
theorem str1R_i {i : Int} {Q : DQ} : str1R [.int i] M Q = (i.natAbs.log2 < 1920 ∧ Q (.str (toString i)) M) := (rfl)
theorem sa_dputT {a b c : TDE} {s : TDS} {D : DEnds} {ds : DSt} (h : ∀ Nx, KEq Nx (s D) → dputTS a b c { D with nx := Nx } ds M) : dSeq (dputTS a b c) s D ds M := h _ fun _ _ h => h
theorem lcW_B (k : Nat) (P : D → Prop) {xs : List D} (hz : xs.length ≤ sizeLine) (b : Bx d c n M0 L M) (hb : k * xs.length ≤ n) (hok : ∀ n' M', Bx d c n' M0 L M' → ok M')
    (step : ∀ x ∈ xs, ∀ (n' : Nat) (M1 : Mm) (N : D → Mm → Prop) (F : Mm → Prop), Bx d c (n' + k) M0 L M1 → (∀ y M2, P y → Bx d c n' M0 L M2 → N y M2) → (∀ M2, Bx d c n' M0 L M2 → F M2) →
      g x ds0 M1 fun ds' M2 => tt ds' M2 fun k M3 => if k = true then te ds' M3 N else F M3)
    (fin : ∀ ys M', ys.length ≤ xs.length → (∀ y ∈ ys, P y) → Bx d c (n - k * xs.length) M0 L M' → Q ys M') : lcW ok g tt te ds0 Q xs [] M := by
  refine lcW_go (fun i acc M' => acc.length ≤ i ∧ i ≤ xs.length ∧ (∀ y ∈ acc, P y) ∧ Bx d c (n - k * xs.length + k * (xs.length - i)) M0 L M') xs (fun i acc M' h => hok _ _ h.2.2.2) (fun i x N e hN acc M' hI => ?_) (fun acc M' hI => ?_) M ⟨Nat.zero_le _, Nat.zero_le _, by simp, b.mono (by simp; omega)⟩
  · obtain ⟨h1, h2, h3, h4⟩ := hI
    have hlt : i < xs.length := (List.getElem?_eq_some_iff.mp e).1
    have hm : x ∈ xs := List.mem_of_getElem? e
    have b1 : Bx d c (n - k * xs.length + k * (xs.length - (i + 1)) + k) M0 L M' := h4.mono (by rw [show xs.length - i = (xs.length - (i + 1)) + 1 by omega, Nat.mul_add, Nat.mul_one]; omega)
    refine step x hm _ M' (fun y M2 => acc.length < sizeLine ∧ N (acc ++ [y]) M2) _ b1 (fun y M2 py b2 => ⟨by omega, hN _ _ ⟨by simp; omega, hlt, fun z hz => ?_, b2⟩⟩) fun M2 b2 => hN _ _ ⟨by omega, hlt, h3, b2⟩
    rcases List.mem_append.mp hz with hz | hz
    · exact h3 z hz
    · rw [List.mem_singleton.mp hz]; exact py
  · obtain ⟨h1, h2, h3, h4⟩ := hI
    exact fin acc M' h1 h3 (h4.mono (by simp))
theorem Bx.dit1 {kvs : List (List Key × D)} (b : Bx d c r M0 ((p, .dit kvs) :: L) M) : ditOf M p = some kvs := ditOf_some b.at1
theorem Bx.dit2 {y : Addr × MO} {kvs : List (List Key × D)} (b : Bx d c r M0 (y :: (p, .dit kvs) :: L) M) : ditOf M p = some kvs := ditOf_some b.at2
end
def edK (e : Ed) : List Key := [.inr e.1, .inr e.2.1, .inr e.2.2]
theorem edK_inj {e f : Ed} (h : edK e = edK f) : e = f := by
  obtain ⟨a, b, c⟩ := e
  obtain ⟨a', b', c'⟩ := f
  simp only [edK, List.cons.injEq, Sum.inr.injEq, and_true] at h
  obtain ⟨rfl, rfl, rfl⟩ := h
  rfl
def esD (es : List Ed) : List (List Key × D) := es.map fun e => (edK e, .bl true)
def insE (es : List Ed) (e : Ed) : List Ed := if e ∈ es then es else es ++ [e]
theorem insE_mem {es : List Ed} {e f : Ed} : f ∈ insE es e ↔ f ∈ es ∨ f = e := by
  unfold insE
  split
  · exact ⟨.inl, fun h => h.elim id fun h => h ▸ by assumption⟩
  · simp
theorem insE_nodup {es : List Ed} {e : Ed} (h : es.Nodup) : (insE es e).Nodup := by
  unfold insE
  split
  · exact h
  · rw [List.nodup_append]
    refine ⟨h, by simp, fun a ha b hb => ?_⟩
    rw [List.mem_singleton.mp hb]
    rintro rfl
    contradiction
theorem insE_len {es : List Ed} {e : Ed} : (insE es e).length ≤ es.length + 1 := by unfold insE; split <;> simp
theorem esD_any {es : List Ed} {e : Ed} : ((esD es).any fun kv => decide (kv.1 = edK e)) = decide (e ∈ es) := by
  unfold esD
  rw [List.any_map, Bool.eq_iff_iff, List.any_eq_true, decide_eq_true_eq]
  exact ⟨fun ⟨f, hf, h⟩ => edK_inj (of_decide_eq_true h) ▸ hf, fun h => ⟨e, h, decide_eq_true rfl⟩⟩
theorem put_es {es : List Ed} {e : Ed} : putT (esD es) (edK e) (.bl true) = esD (insE es e) := by
  unfold putT
  rw [esD_any]
  unfold insE
  by_cases h : e ∈ es
  · rw [if_pos (decide_eq_true h), if_pos h]
    unfold esD
    rw [List.map_map]
    apply List.map_congr_left
    intro f hf
    simp only [Function.comp]
    split <;> rfl
  · rw [if_neg (by simpa using h), if_neg h]
    simp [esD]
theorem keys_es {es : List Ed} : keysTD (esD es) = es.map edD := by
  unfold keysTD esD
  rw [List.map_map]; rfl
theorem esD_len {es : List Ed} : (esD es).length = es.length := by simp [esD]
end DM
namespace DM
open PySem L2
open PyProof.Rows (b2i)
def sortE (l : List Ed) : List Ed := l.mergeSort fun a b => leD (edD a) (edD b)
def sortS (l : List Str) : List Str := l.mergeSort fun a b => leD (.str a) (.str b)
theorem sortD_eds (l : List Ed) : sortD (l.map edD) = (sortE l).map edD := sortD_map edD l
theorem sortD_strs (l : List Str) : sortD (l.map D.str) = (sortS l).map D.str := sortD_map D.str l
theorem sortE_perm (l : List Ed) : (sortE l).Perm l := List.mergeSort_perm _ _
theorem sortS_perm (l : List Str) : (sortS l).Perm l := List.mergeSort_perm _ _
theorem sortE_len (l : List Ed) : (sortE l).length = l.length := (sortE_perm l).length_eq
theorem sortS_len (l : List Str) : (sortS l).length = l.length := (sortS_perm l).length_eq
theorem sortE_mem {l : List Ed} {e : Ed} : e ∈ sortE l ↔ e ∈ l := (sortE_perm l).mem_iff
theorem sortS_mem {l : List Str} {e : Str} : e ∈ sortS l ↔ e ∈ l := (sortS_perm l).mem_iff
def tgtD (T : List Ed) (E : List Str) : D := .tup [.tup (T.map edD), .tup (E.map .str)]
theorem sIx_m1 (n d : Nat) : HT.sIx n d (some (-1)) = n - 1 := by
  show (if ((-1 : Int) < 0) then ((-1 : Int) + (n : Int)).toNat else min (-1 : Int).toNat n) = n - 1
  rw [if_pos (by omega)]; omega
theorem sIx_no (n d : Nat) : HT.sIx n d none = d := rfl
theorem cutL_toM1 {α : Type} (xs : List α) : cutL xs none (some (-1)) = xs.dropLast := by
  unfold cutL
  rw [sIx_m1, sIx_no, List.dropLast_eq_take, List.drop_zero, Nat.sub_zero]
theorem cutL_fromM1 {α : Type} (xs : List α) : cutL xs (some (-1)) none = xs.drop (xs.length - 1) := by
  unfold cutL
  rw [sIx_m1, sIx_no]
  exact List.take_of_length_le (by rw [List.length_drop]; omega)
end DM
namespace DM
open PySem L2
open PyProof.Rows (b2i)
section
variable {M : Mm} {a : Addr}
theorem enumI_r {Q : DIt → Mm → Prop} : enumI (.ref a) M Q = someI (lstOf M a) fun xs => Q ⟨enumD 0 xs, fun M' => rdL M' (.ref a) = some xs⟩ M := by
  unfold enumI enumQ someI
  simp only [rdL_ref]
  cases lstOf M a <;> rfl
end
instance : Inhabited D := ⟨.non⟩
end DM
namespace DM
open PySem PySem.Spec PyProof.Rows L2
section
variable {P : Program} {w : World} {A : Around} {E : Value → Shared → Prop} {s : Shared}
def AddsTo (P : Program) (w : World) (u : Nat) (S : Addr) (n : Nat) (items : Array Value) (J : Nat → Heap → Prop) (h0 : Heap) : Prop :=
  ∀ (B : Around) (i : Nat) (v : Value) (t : Shared) (Q : Bool → Shared → Prop) (F : Value → Shared → Prop), B.units ≤ u → i < n → items[i]? = some v → J i t.heap → (∀ b o, h0.get? b = some o → t.heap.get? b = some o) →
    (∀ (b : Bool) (h' : Heap) (tk : Nat), Heap.SameBut S t.heap h' → t.toks ≤ tk → J (i + 1) h' → Q b { t with heap := h', toks := tk }) → wpAny (model P w) B (setAdd S v) Q F t
theorem set_loop {I : Addr} {fp wr : List Addr} {G : Array GenState → Array GenState → Prop} {n : Nat} {items : Array Value} {St : Nat → Shared → Prop} {R : Result → Shared → Prop} {J : Nat → Heap → Prop} {h0 : Heap} {S : Addr} {u : Nat} (hu : A.in1.units ≤ u)
    (W : WalksS P w A.in1 I fp wr G n (fun i v => items[i]? = some v) St) (nf : S ∉ fp) (new : ∀ b ∈ S :: wr, h0.get? b = none)
    (keep : ∀ (i : Nat) (h h' : Heap), J i h → (∀ o, h.get? S = some o → h'.get? S = some o) → (∀ b o, h0.get? b = some o → h'.get? b = some o) → J i h') (add : AddsTo P w u S n items J h0) :
    ∀ (k i : Nat) (t : Shared), n - i = k → i ≤ n → St i t → J i t.heap → (∀ b o, h0.get? b = some o → t.heap.get? b = some o) →
      (∀ t', Moved (S :: wr) G t t' → J n t'.heap → (∀ b o, h0.get? b = some o → t'.heap.get? b = some o) → R (.ok (.ret .none)) t') → codeAny (model P w) A (.builtin "set.update.loop" ⟨[.ref S, .ref I], []⟩) R t := by
  have sw : S ∉ wr := fun hm => nf (W.sub _ hm)
  have old : ∀ {t t' : Shared}, Moved wr G t t' → (∀ b o, h0.get? b = some o → t.heap.get? b = some o) → ∀ b o, h0.get? b = some o → t'.heap.get? b = some o := fun mv ok b o e =>
    mv.heap b o (fun hb => by have := new b (List.mem_cons_of_mem _ hb); rw [this] at e; cases e) (ok b o e)
  intro k
  induction k with
  | zero =>
    intro i t e1 e2 st j ok fin
    obtain rfl : i = n := by omega
    refine codeAny_builtin F.entry_set_update_loop ?_
    rw [Around.under_plainId F.plain_set_update_loop _]
    show wpAny _ A.in1 (pyNext (.ref I) >>= _) _ _ t
    refine wpAny_bind (W.done t _ _ st fun t' mv => ?_)
    show wpAny _ A.in1 (ret Value.none) _ _ t'
    exact wpAny_pure (fin t' (mv.mono fun b hb => List.mem_cons_of_mem _ hb) (keep _ _ _ j (fun o e => mv.heap S o sw e) (old mv ok)) (old mv ok))
  | succ k ih =>
    intro i t e1 e2 st j ok fin
    have lt : i < n := by omega
    refine codeAny_builtin F.entry_set_update_loop ?_
    rw [Around.under_plainId F.plain_set_update_loop _]
    show wpAny _ A.in1 (pyNext (.ref I) >>= _) _ _ t
    refine wpAny_bind (W.item i t _ _ lt st fun v t' hv st' mv => ?_)
    have j' := keep _ _ _ j (fun o e => mv.heap S o sw e) (old mv ok)
    show wpAny _ A.in1 (holding [v] (setAdd S v) >>= _) _ _ t'
    refine wpAny_bind (wpAny_holding (add A.in1 i v t' _ _ hu lt hv j' (old mv ok) fun b h' tk sb ht j2 => ?_))
    have ok2 : ∀ b o, h0.get? b = some o → h'.get? b = some o := fun b o e =>
      (sb.2 b (fun z => by have := new b (by simp [z]); rw [this] at e; cases e)).trans (old mv ok b o e)
    refine wpAny_pure ⟨plainId_quiet F.plain_set_update_loop _, ih (i + 1) _ (by omega) lt (W.frame _ t' _ _ st' ht fun b hb o e => ?_) j2 ok2 fun t'' mv2 j3 ok3 => ?_⟩
    · exact (sb.2 b (fun z => nf (z ▸ hb))).trans e
    · refine fin t'' (Moved.trans W.gtrans ((mv.mono fun b hb => List.mem_cons_of_mem _ hb).then_heap ht fun b o hb e => ?_) mv2) j3 ok3
      exact (sb.2 b (fun z => hb (by rw [z]; exact List.mem_cons_self))).trans e
def set0 (w : World) : Obj := { cls := .type "set", dict := none, data := .set #[] 0 (.fresh 0 0 (!w.params.followText "set-order")) }
set_option maxHeartbeats 4000000 in
theorem set_of_list {l : Addr} {items : Array Value} {J : Nat → Heap → Prop} {Q : Value → Shared → Prop} (hh : A.handled = none) (hl : s.heap.IsList l items)
    (keep : ∀ (i : Nat) (h h' : Heap), J i h → (∀ o, h.get? s.heap.objs.size = some o → h'.get? s.heap.objs.size = some o) → (∀ b o, s.heap.get? b = some o → h'.get? b = some o) → J i h')
    (j0 : ∀ h, h.get? s.heap.objs.size = some (set0 w) → J 0 h) (add : AddsTo P w (A.units + 3) s.heap.objs.size items.size items J s.heap)
    (fin : ∀ (h' : Heap) (tk : Nat), J items.size h' → (∀ b o, s.heap.get? b = some o → h'.get? b = some o) → Q (.ref s.heap.objs.size) { s with heap := h', toks := tk }) :
    wpAny (model P w) A (call (.type "set") [.ref l]) Q E s := by
  obtain ⟨c, tl, hmro⟩ := F.called_set.mro
  have q1 := F.called_set.made
  have q2 := F.called_set.sub
  refine wpAny_call (codeAny_of_tree ?_)
  show wpAny _ _ (callAny (.type "set") _) _ _ _
  refine wpAny_pure ⟨Code.quiet_builtin _ (by decide +kernel), codeAny_builtin F.entry_type_call ?_⟩
  rw [Around.under_plain (weight_type_call_type "set" [.ref l] []) rfl]
  have q3 := F.called_set.notType
  have q4 := F.called_set.canCreate
  have q5 := F.typeCall_set_1 (.ref l)
  repeat (any_goals (first | assumption | wp_step))
  refine codeAny_mono (code_set_led1 (.ref l) (E := E) (Q₁ := fun z t => z = .ref s.heap.objs.size ∧ t = { s with heap := s.heap.push (set0 w) }) ⟨rfl, rfl⟩) fun r t hr => ?_
  rcases r with e | fl
  · exact hr
  cases fl with
  | ret z =>
    obtain ⟨rfl, rfl⟩ := hr
    have at1 : (s.heap.push (set0 w)).get? s.heap.objs.size = some (set0 w) := Heap.get?_push_size _ rfl
    have ty1 : Shared.TypeIs { s with heap := s.heap.push (set0 w) } (.ref s.heap.objs.size) "set" := ⟨_, at1, rfl⟩
    have q6 := F.called_set.init.lookup
    have q7 := F.called_set.init.bind (.ref s.heap.objs.size)
    repeat (any_goals (first | assumption | wp_step))
    refine codeAny_mono (codeAny_call_builtin (R := wants (fun r t => r = .none ∧ ∃ h' tk, t = { s with heap := h', toks := tk } ∧ J items.size h' ∧ ∀ b o, s.heap.get? b = some o → h'.get? b = some o) E) F.called_set.init.plain F.entry_set_init (check_set_init_1 ty1 ?_)) fun r t hr => ?_
    · obtain ⟨ol, al, cl, nl, dl⟩ := hl
      obtain ⟨_, od, _, os⟩ := ol
      simp only at cl dl
      subst cl dl
      have al' : (s.heap.push (set0 w)).get? l = some { cls := .type "list", dict := od, data := .seq items nl, slots := os } := Heap.get?_push_of_some _ al
      have q8 := F.sub_list_set
      have q9 := F.sub_list_frozenset
      have q10 : (Value.type "list" == Value.type "dict") = false := by decide
      have il : (s.heap.push (set0 w)).IsList l items := ⟨_, al', rfl, nl, rfl⟩
      have ls : l < s.heap.objs.size := Heap.lt_size al
      unfold Builtin.«set.__init__» noKeywords Builtin.Frozenset.updateFrom
      generalize hPI : pyIter = PI
      wp_walk
      subst hPI
      refine wpAny_pyIter_list il ?_
      refine wpAny_bind (wpAny_runValue ?_)
      have sz : (s.heap.push (set0 w)).objs.size = s.heap.objs.size + 1 := Heap.size_push ..
      have none_of : ∀ b, s.heap.objs.size ≤ b → s.heap.get? b = none := fun b hb => by
        cases q : s.heap.get? b with
        | none => rfl
        | some o => exact absurd (Nat.lt_of_lt_of_le (Heap.lt_size q) hb) (Nat.lt_irrefl _)
      refine set_loop (h0 := s.heap) (J := J) (Nat.le_refl _) ((Walks.list (by simp [hh]) _ l (by rw [sz]; exact Nat.ne_of_lt (Nat.lt_succ_of_lt ls)) items).toS)
        (by rw [sz]; simp only [List.mem_cons, List.not_mem_nil, or_false, not_or]; exact ⟨Nat.ne_of_lt (Nat.lt_succ_self _), Nat.ne_of_gt ls⟩)
        (fun b hb => none_of b (by rw [sz] at hb; rcases List.mem_cons.mp hb with z | z; exact Nat.le_of_eq z.symm; rw [List.mem_singleton.mp z]; exact Nat.le_succ _)) keep add (items.size - 0) 0 _ rfl (Nat.zero_le _)
        ⟨⟨_, Heap.get?_push_size _ rfl, rfl, rfl⟩, il.push _⟩ (j0 _ (Heap.get?_push_of_some _ at1)) (fun b o e => Heap.get?_push_of_some _ (Heap.get?_push_of_some _ e)) fun t' mv j ok => ?_
      obtain ⟨h', g2, d', tk', os'⟩ := t'
      obtain rfl : g2 = s.gens := mv.gens
      obtain rfl : d' = s.drawn := mv.drawn
      obtain rfl : os' = s.os := mv.os
      show wpAny _ _ _ _ _ _
      refine wpAny_pure ?_
      show wpAny _ _ (ret Value.none) _ _ _
      exact wpAny_pure ⟨rfl, h', tk', rfl, j, ok⟩
    · rcases r with e | fl2
      · exact hr
      cases fl2 with
      | ret r =>
        obtain ⟨rfl, h', tk, rfl, j, ok⟩ := hr
        repeat (any_goals (first | assumption | wp_step))
        exact fin _ _ j ok
      | _ => exact hr.elim
  | _ => exact hr.elim
set_option maxHeartbeats 4000000 in
theorem set_of_tup {l : Addr} {items : Array Value} {J : Nat → Heap → Prop} {Q : Value → Shared → Prop} (hh : A.handled = none) (hl : s.heap.IsTuple l items)
    (keep : ∀ (i : Nat) (h h' : Heap), J i h → (∀ o, h.get? s.heap.objs.size = some o → h'.get? s.heap.objs.size = some o) → (∀ b o, s.heap.get? b = some o → h'.get? b = some o) → J i h')
    (j0 : ∀ h, h.get? s.heap.objs.size = some (set0 w) → J 0 h) (add : AddsTo P w (A.units + 3) s.heap.objs.size items.size items J s.heap)
    (fin : ∀ (h' : Heap) (tk : Nat), J items.size h' → (∀ b o, s.heap.get? b = some o → h'.get? b = some o) → Q (.ref s.heap.objs.size) { s with heap := h', toks := tk }) :
    wpAny (model P w) A (call (.type "set") [.ref l]) Q E s := by
  obtain ⟨c, tl, hmro⟩ := F.called_set.mro
  have q1 := F.called_set.made
  have q2 := F.called_set.sub
  refine wpAny_call (codeAny_of_tree ?_)
  show wpAny _ _ (callAny (.type "set") _) _ _ _
  refine wpAny_pure ⟨Code.quiet_builtin _ (by decide +kernel), codeAny_builtin F.entry_type_call ?_⟩
  rw [Around.under_plain (weight_type_call_type "set" [.ref l] []) rfl]
  have q3 := F.called_set.notType
  have q4 := F.called_set.canCreate
  have q5 := F.typeCall_set_1 (.ref l)
  repeat (any_goals (first | assumption | wp_step))
  refine codeAny_mono (code_set_led1 (.ref l) (E := E) (Q₁ := fun z t => z = .ref s.heap.objs.size ∧ t = { s with heap := s.heap.push (set0 w) }) ⟨rfl, rfl⟩) fun r t hr => ?_
  rcases r with e | fl
  · exact hr
  cases fl with
  | ret z =>
    obtain ⟨rfl, rfl⟩ := hr
    have at1 : (s.heap.push (set0 w)).get? s.heap.objs.size = some (set0 w) := Heap.get?_push_size _ rfl
    have ty1 : Shared.TypeIs { s with heap := s.heap.push (set0 w) } (.ref s.heap.objs.size) "set" := ⟨_, at1, rfl⟩
    have q6 := F.called_set.init.lookup
    have q7 := F.called_set.init.bind (.ref s.heap.objs.size)
    repeat (any_goals (first | assumption | wp_step))
    refine codeAny_mono (codeAny_call_builtin (R := wants (fun r t => r = .none ∧ ∃ h' tk, t = { s with heap := h', toks := tk } ∧ J items.size h' ∧ ∀ b o, s.heap.get? b = some o → h'.get? b = some o) E) F.called_set.init.plain F.entry_set_init (check_set_init_1 ty1 ?_)) fun r t hr => ?_
    · obtain ⟨ol, al, cl, nl, dl⟩ := hl
      obtain ⟨_, od, _, os⟩ := ol
      simp only at cl dl
      subst cl dl
      have al' : (s.heap.push (set0 w)).get? l = some { cls := .type "tuple", dict := od, data := .seq items nl, slots := os } := Heap.get?_push_of_some _ al
      have q8 := F.sub_tuple_set
      have q9 := F.sub_tuple_frozenset
      have q10 : (Value.type "tuple" == Value.type "dict") = false := by decide
      have il : (s.heap.push (set0 w)).IsTuple l items := ⟨_, al', rfl, nl, rfl⟩
      have ls : l < s.heap.objs.size := Heap.lt_size al
      unfold Builtin.«set.__init__» noKeywords Builtin.Frozenset.updateFrom
      generalize hPI : pyIter = PI
      wp_walk
      subst hPI
      refine wpAny_pyIter_tuple il ?_
      refine wpAny_bind (wpAny_runValue ?_)
      have sz : (s.heap.push (set0 w)).objs.size = s.heap.objs.size + 1 := Heap.size_push ..
      have none_of : ∀ b, s.heap.objs.size ≤ b → s.heap.get? b = none := fun b hb => by
        cases q : s.heap.get? b with
        | none => rfl
        | some o => exact absurd (Nat.lt_of_lt_of_le (Heap.lt_size q) hb) (Nat.lt_irrefl _)
      refine set_loop (h0 := s.heap) (J := J) (Nat.le_refl _) ((Walks.tuple (by simp [hh]) _ l (by rw [sz]; exact Nat.ne_of_lt (Nat.lt_succ_of_lt ls)) items).toS)
        (by rw [sz]; simp only [List.mem_cons, List.not_mem_nil, or_false, not_or]; exact ⟨Nat.ne_of_lt (Nat.lt_succ_self _), Nat.ne_of_gt ls⟩)
        (fun b hb => none_of b (by rw [sz] at hb; rcases List.mem_cons.mp hb with z | z; exact Nat.le_of_eq z.symm; rw [List.mem_singleton.mp z]; exact Nat.le_succ _)) keep add (items.size - 0) 0 _ rfl (Nat.zero_le _)
        ⟨⟨_, Heap.get?_push_size _ rfl, rfl, rfl⟩, il.push _⟩ (j0 _ (Heap.get?_push_of_some _ at1)) (fun b o e => Heap.get?_push_of_some _ (Heap.get?_push_of_some _ e)) fun t' mv j ok => ?_
      obtain ⟨h', g2, d', tk', os'⟩ := t'
      obtain rfl : g2 = s.gens := mv.gens
      obtain rfl : d' = s.drawn := mv.drawn
      obtain rfl : os' = s.os := mv.os
      show wpAny _ _ _ _ _ _
      refine wpAny_pure ?_
      show wpAny _ _ (ret Value.none) _ _ _
      exact wpAny_pure ⟨rfl, h', tk', rfl, j, ok⟩
    · rcases r with e | fl2
      · exact hr
      cases fl2 with
      | ret r =>
        obtain ⟨rfl, h', tk, rfl, j, ok⟩ := hr
        repeat (any_goals (first | assumption | wp_step))
        exact fin _ _ j ok
      | _ => exact hr.elim
  | _ => exact hr.elim
end
end DM
namespace DM
open PySem PySem.Spec PyProof.Rows L2
def keyM : Value → Key
  | .int k _ => .inl k
  | .str x _ => .inr x
  | _ => .inl 0
theorem keyM_is {k : Key} {v : Value} (h : keyIs k v = true) : keyM v = k := by
  rcases keyIs_shape h with ⟨i, t, rfl, rfl⟩ | ⟨x, t, rfl, rfl⟩ <;> rfl
theorem scan_is {k : Key} {v : Value} (h : keyIs k v = true) : v.scannable = true := by
  rcases keyIs_shape h with ⟨i, t, rfl, rfl⟩ | ⟨x, t, rfl, rfl⟩ <;> rfl
def OkM (w : World) (e : Int × Value) : Prop := keyIs (keyM e.2) e.2 = true ∧ e.1 = keyH w (keyM e.2)
def km (e : Int × Value) : Key := keyM e.2
structure SetIn (w : World) (ks : List Key) (o : Obj) (es : Array (Int × Value)) (ep : Nat) (t : SetTable) : Prop where
  ex : o.ExactSet
  dt : o.data = .set es ep t
  ok : ∀ e ∈ es.toList, OkM w e
  pm : (es.toList.map km).Perm ks
  nd : ks.Nodup
  sz : es.size < scanBound
  ft : t.fits es.size = true
  rs : Ris t.place.toList
  ld : w.params.followText "set-order" = true ∨ t.led = true
def SetM (w : World) (h : Heap) (a : Addr) (ks : List Key) : Prop := ∃ o es ep t, h.get? a = some o ∧ SetIn w ks o es ep t
section
variable {P : Program} {w : World} {A : Around} {E : Value → Shared → Prop} {s : Shared} {a : Addr} {ks : List Key}
theorem okM_elems {l : List (Int × Value)} (g : ∀ e ∈ l, OkM w e) : ElemsOf (mixKind P w) l := fun e he => ⟨⟨km e, (g e he).1, (g e he).2⟩, scan_is (g e he).1⟩
theorem okM_iff {e : Int × Value} (g : OkM w e) (k : Key) : (mixKind P w).is k e.2 = true ↔ km e = k := ⟨fun h => keyM_is h, fun h => h ▸ g.1⟩
theorem SetM.keep {h h' : Heap} (R : SetM w h a ks) (e : ∀ o, h.get? a = some o → h'.get? a = some o) : SetM w h' a ks := let ⟨o, es, ep, t, ho, r⟩ := R; ⟨o, es, ep, t, e o ho, r⟩
theorem SetIn.len {o : Obj} {es : Array (Int × Value)} {ep : Nat} {t : SetTable} (R : SetIn w ks o es ep t) : es.size = ks.length := by
  rw [← R.pm.length_eq, List.length_map, Array.length_toList]
theorem setM_tail {g : Bool → Sem Unit} (hg : ∀ (b : Bool) (s₁ : Shared) (Q' : Unit → Shared → Prop), Q' () s₁ → wpAny (model P w) A (g b) Q' E s₁)
    {o : Obj} {es : Array (Int × Value)} {ep : Nat} {t : SetTable} (ho : s.heap.get? a = some o) (hd : o.data = .set es ep t) {es1 : Array (Int × Value)} {t2 : SetTable} (R1 : ∀ o', o'.ExactSet → ∀ ep', o'.data = .set es1 ep' t2 → SetIn w ks o' es1 ep' t2) (hx : o.ExactSet)
    {wd : Bool} {R : Option Bool → Shared → Prop} (fin : ∀ h', Heap.SameBut a s.heap h' → SetM w h' a ks → R (some true) { s with heap := h' }) :
    wpAny (model P w) A (do
        storeSet a es1 t2
        if (!wd && t2.tooFull) = true then do
            g (relayAll t2 es1 (SetTable.grown es1.size)).2.2
            storeSet a (relayAll t2 es1 (SetTable.grown es1.size)).1 (relayAll t2 es1 (SetTable.grown es1.size)).2.1
            pure (some true)
          else pure (some true)) R E s := by
  have o1 := store_at (es' := es1) (t' := t2) ho hd
  have n1 : ({ o with data := .set es1 (ep + 1) t2 } : Obj).ExactSet := hx
  have r1 := R1 _ n1 (ep + 1) rfl
  have b1 : es1.size ≤ sizeLine := fits_of_scanBound r1.sz
  refine wpAny_bind (wpAny_storeSet_of ho hd ?_ b1)
  have c1 := Heap.SameBut.update s.heap a (Obj.putSet es1 t2)
  split
  · have pm := relayAll_perm t2 es1 (SetTable.grown es1.size)
    have ft := relayAll_fits t2 es1 (SetTable.grown es1.size)
    have rs := relayAll_ris t2 es1 (SetTable.grown es1.size)
    have ld := relayAll_led t2 es1 (SetTable.grown es1.size)
    revert pm ft rs ld
    generalize relayAll t2 es1 (SetTable.grown es1.size) = Z
    obtain ⟨es2, t3, gv⟩ := Z
    intro pm ft rs ld
    have z2 : es2.size = es1.size := by rw [← Array.length_toList, pm.length_eq, Array.length_toList]
    refine wpAny_bind (hg _ _ _ (wpAny_bind (wpAny_storeSet_of o1 rfl ?_ (by rw [z2]; exact b1))))
    have o2 := store_at (es' := es2) (t' := t3) o1 rfl
    refine wpAny_pure (fin _ (c1.trans (Heap.SameBut.update _ a _)) ⟨_, es2, ep + 1 + 1, t3, o2, ?_⟩)
    exact { ex := n1, dt := rfl, ok := fun e he => r1.ok e (pm.mem_iff.mp he), pm := (pm.map km).trans r1.pm, nd := r1.nd, sz := by rw [z2]; exact r1.sz, ft := ft, rs := rs, ld := r1.ld.imp id fun z => ld.trans z }
  · exact wpAny_pure (fin _ c1 ⟨_, es1, _, t2, o1, r1⟩)
open Classical in
noncomputable def addK (ks : List Key) (k : Key) : List Key := if k ∈ ks then ks else k :: ks
theorem addK_mem {ks : List Key} {k j : Key} : j ∈ addK ks k ↔ j = k ∨ j ∈ ks := by
  unfold addK
  split
  · exact ⟨.inr, fun h => h.elim (fun h => h ▸ by assumption) id⟩
  · simp
theorem addK_len {ks : List Key} {k : Key} : (addK ks k).length ≤ ks.length + 1 := by unfold addK; split <;> simp
theorem setM_add {k : Key} {x : Value} {Q : Bool → Shared → Prop} (hk : keyIs k x = true) (R : SetM w s.heap a ks) (room : ks.length + 1 < scanBound)
    (fin : ∀ b h', Heap.SameBut a s.heap h' → SetM w h' a (addK ks k) → Q b { s with heap := h' }) : wpAny (model P w) A (setAddHashed a x ((mixKind P w).hash k)) Q E s := by
  obtain ⟨o, es, ep, t, ho, r⟩ := R
  have hsc := scan_is hk
  have hel : ElemsOf (mixKind P w) es.toList := okM_elems r.ok
  unfold setAddHashed setAddHashedIn
  refine wpAny_holding (wpAny_bind (wpAny_setState_of ho r.dt r.ft ?_))
  dsimp only
  rw [byScan_of hsc r.sz hel]
  simp only [↓reduceIte]
  unfold setAddByScan
  refine wpAny_bind (wpAny_bind (wpAny_rule (wpAny_bind (wpAny_setScan_of hk ho r.dt r.ft hel ?_))))
  cases hf : List.findIdx? (fun e => (mixKind P w).is k e.2) es.toList with
  | some j =>
    obtain ⟨hj, pj, _⟩ := List.findIdx?_eq_some_iff_getElem.mp hf
    have hm : k ∈ ks := r.pm.mem_iff.mp (List.mem_map.mpr ⟨es.toList[j], List.getElem_mem hj, (okM_iff (P := P) (r.ok _ (List.getElem_mem hj)) k).mp pj⟩)
    dsimp only
    refine wpAny_pure (wpAny_pure (fin _ s.heap (Heap.SameBut.refl a s.heap) ⟨o, es, ep, t, ho, ?_⟩))
    rw [addK, if_pos hm]
    exact r
  | none =>
    have hm : k ∉ ks := fun hm => by
      obtain ⟨e, he, q⟩ := List.mem_map.mp (r.pm.mem_iff.mpr hm)
      have c := List.findIdx?_eq_none_iff.mp hf e he
      rw [(okM_iff (P := P) (r.ok e he) k).mpr q] at c
      cases c
    have pm := layNew_perm t es ((mixKind P w).hash k) x
    have ft := layNew_fits t es ((mixKind P w).hash k) x
    have rs := layNew_ris t es ((mixKind P w).hash k) x r.rs
    have ld := layNew_led t es ((mixKind P w).hash k) x
    dsimp only
    revert pm ft rs ld
    generalize layNew t es ((mixKind P w).hash k) x = Z
    obtain ⟨es1, t1, wd, gv⟩ := Z
    intro pm ft rs ld
    rw [Array.toList_push] at pm
    have pc : es1.toList.Perm (((mixKind P w).hash k, x) :: es.toList) := pm.trans (List.perm_append_singleton _ _)
    have hlen : es1.size = ks.length + 1 := by rw [← Array.length_toList, pc.length_eq, List.length_cons, Array.length_toList, r.len]
    have okx : OkM w ((mixKind P w).hash k, x) := ⟨by rw [keyM_is hk]; exact hk, by show (mixKind P w).hash k = keyH w (keyM x); rw [keyM_is hk]; rfl⟩
    have mk : ∀ (t2 : SetTable), t2.fits es1.size = true → Ris t2.place.toList → (w.params.followText "set-order" = true ∨ t2.led = true) → ∀ o' : Obj, o'.ExactSet → ∀ ep', o'.data = .set es1 ep' t2 → SetIn w (addK ks k) o' es1 ep' t2 := fun t2 f2 r2 l2 o' x' ep' d' => by
      rw [addK, if_neg hm]
      exact { ex := x', dt := d', ok := fun e he => (List.mem_cons.mp (pc.mem_iff.mp he)).elim (fun z => z ▸ okx) (r.ok e), pm := (pc.map km).trans (by rw [List.map_cons, show km ((mixKind P w).hash k, x) = k from keyM_is hk]; exact r.pm.cons k), nd := List.nodup_cons.mpr ⟨hm, r.nd⟩, sz := by rw [hlen]; exact room, ft := f2, rs := r2, ld := l2 }
    have l1 : w.params.followText "set-order" = true ∨ t1.led = true := r.ld.imp id fun z => ld.trans z
    have gw : ∀ (b : Bool) {s₁ : Shared} {Q' : Unit → Shared → Prop}, Q' () s₁ → wpAny (model P w) A (match b with | true => rule "set.scan.the-table-gave-way" | false => pure ()) Q' E s₁ := fun b s₁ Q' q => by
      cases b
      · exact wpAny_pure q
      · exact wpAny_rule q
    dsimp only at ft rs ⊢
    refine wpAny_bind (gw _ ?_)
    split
    · refine wpAny_bind ?_
      rw [hashByValue_scannable 8 hsc]
      refine wpAny_pure ?_
      refine setM_tail (ks := addK ks k) ?_ ho r.dt ?_ r.ex fun h' sb r' => ?_
      · intro b s₁ Q' q
        cases b
        · exact wpAny_pure q
        · exact wpAny_rule q
      · split
        · exact mk _ (SetTable.fits_plain_off ft) rs l1
        · exact mk _ ft rs l1
      · exact wpAny_pure (fin _ h' sb r')
    · refine wpAny_bind (wpAny_pure ?_)
      simp only [↓reduceIte]
      refine setM_tail (ks := addK ks k) ?_ ho r.dt (mk _ ft rs l1) r.ex fun h' sb r' => ?_
      · intro b s₁ Q' q
        cases b
        · exact wpAny_pure q
        · exact wpAny_rule q
      · exact wpAny_pure (fin _ h' sb r')
theorem setM_put {k : Key} {x : Value} {Q : Bool → Shared → Prop} (hk : keyIs k x = true) (R : SetM w s.heap a ks) (room : ks.length + 1 < scanBound)
    (fin : ∀ b h' tk, Heap.SameBut a s.heap h' → s.toks ≤ tk → SetM w h' a (addK ks k) → Q b { s with heap := h', toks := tk }) : wpAny (model P w) A (setAdd a x) Q E s := by
  unfold setAdd
  refine wpAny_holding (wpAny_bind ((mixKind P w).pyHash hk ?_))
  exact setM_add hk (s := { s with toks := s.toks + 1 }) R room fun b h' sb r => fin b h' _ sb (Nat.le_succ _) r
theorem set0_in {ob : Obj} (e : ob = set0 w) : SetIn w [] ob #[] 0 (.fresh 0 0 (!w.params.followText "set-order")) := by
  subst e
  refine { ex := ⟨rfl, rfl, rfl⟩, dt := rfl, ok := fun e he => by simp at he, pm := .nil, nd := List.nodup_nil, sz := by decide, ft := by rfl, rs := List.Pairwise.nil, ld := ?_ }
  show _ ∨ (!w.params.followText "set-order") = true
  cases w.params.followText "set-order"
  · exact .inr rfl
  · exact .inl rfl
theorem nodup_le {α : Type} [DecidableEq α] : ∀ {l m : List α}, l.Nodup → (∀ x ∈ l, x ∈ m) → l.length ≤ m.length
  | [], _, _, _ => Nat.zero_le _
  | x :: l, m, h, hs => by
    obtain ⟨h1, h2⟩ := List.nodup_cons.mp h
    have hx := hs x List.mem_cons_self
    have := nodup_le (l := l) (m := m.erase x) h2 fun y hy => (List.mem_erase_of_ne fun e => h1 (by rw [← e]; exact hy)).mpr (hs y (List.mem_cons_of_mem _ hy))
    rw [List.length_erase_of_mem hx] at this
    have := List.length_pos_of_mem hx
    rw [List.length_cons]; omega
def setJ (w : World) (S : Addr) (keys : List Key) (i : Nat) (h : Heap) : Prop := ∃ ks, SetM w h S ks ∧ (∀ k, k ∈ ks ↔ k ∈ keys.take i) ∧ ks.length ≤ i
theorem setJ_adds {S : Addr} {items : Array Value} {keys : List Key} (hs : items.size = keys.length) (hk : ∀ (i : Nat) (v : Value) (k : Key), items[i]? = some v → keys[i]? = some k → keyIs k v = true) (hb : ∀ l : List Key, l.Nodup → (∀ k ∈ l, k ∈ keys) → l.length + 1 < scanBound) {u : Nat} : AddsTo P w u S items.size items (setJ w S keys) s.heap := by
  intro B i v t Q F _ lt hv ⟨ks, R, m, l⟩ _ fin
  obtain ⟨k, e⟩ : ∃ k, keys[i]? = some k := ⟨_, List.getElem?_eq_getElem (by omega)⟩
  have room : ks.length + 1 < scanBound := hb ks (let ⟨_, _, _, _, _, r⟩ := R; r.nd) fun k hk => List.mem_of_mem_take ((m k).mp hk)
  refine setM_put (hk i v k hv e) R room fun b h' tk sb ht r => fin b h' tk sb ht ⟨_, r, fun j => ?_, by have := addK_len (ks := ks) (k := k); omega⟩
  rw [addK_mem, m, List.take_add_one, e]
  simp only [Option.toList_some, List.mem_append, List.mem_singleton]
  exact Or.comm
theorem setJ_keep {S : Addr} {keys : List Key} {h0 : Heap} (i : Nat) (h h' : Heap) (j : setJ w S keys i h) (e : ∀ o, h.get? S = some o → h'.get? S = some o) (_ : ∀ b o, h0.get? b = some o → h'.get? b = some o) : setJ w S keys i h' :=
  let ⟨ks, R, m⟩ := j
  ⟨ks, R.keep e, m⟩
end
def setO (w : World) (a : Addr) (ks : List Key) : HO := .ext fun h => SetM w h a ks
theorem setO_ok {P : Program} {w : World} {H : Hp} {h : Heap} {a : Addr} {ks : List Key} (R : SetM w h a ks) : ObjOk P w H h a (setO w a ks) := by
  have ⟨o, _, _, _, ho, _⟩ := R
  exact ⟨R, ⟨o, ho⟩, fun h1 h2 p k => SetM.keep p k⟩
def rSetM (K : PySem.W.Frag) (w : World) : List V → Hp → VK → Prop := fun xs H Q => ∃ (l : Addr) (keys : List Key), xs = [V.ref l] ∧ (SqL K H l (keys.map kV) ∨ SqT K H l (keys.map kV)) ∧ (∀ l : List Key, l.Nodup → (∀ k ∈ l, k ∈ keys) → l.length + 1 < scanBound) ∧
  ∀ p ks, ks.Nodup → (∀ k, k ∈ ks ↔ k ∈ keys) → H p = none → Q (.ref p) (upd H p (setO w p ks))
theorem keys_rel {keys : List Key} {its : List Value} (r : Vals (keys.map kV) its) {i : Nat} {v : Value} {k : Key} (h1 : its[i]? = some v) (h2 : keys[i]? = some k) : keyIs k v = true := by
  obtain ⟨u, h3, h4⟩ := r.get (i := i) (x := kV k) (by rw [List.getElem?_map, h2]; rfl)
  rw [h1] at h3
  cases h3
  cases k with
  | inl i => obtain ⟨t, rfl⟩ := h4; exact keyIs_int i t
  | inr x => obtain ⟨t, rfl⟩ := h4; exact keyIs_str x t
theorem call_setM {X : Cx} (hc : X.calm = true) : CallR X (.type "set") (rSetM X.K X.w) := by
  intro pins s σ H xs us Q I r h
  obtain ⟨l, keys, rfl, hs, hb, q⟩ := h
  rw [Vals.ref1 r]
  have fin : ∀ (its : List Value), Vals (keys.map kV) its → ∀ (h' : Heap) (tk : Nat), setJ X.w s.heap.objs.size keys its.toArray.size h' → (∀ b o, s.heap.get? b = some o → h'.get? b = some o) → ∃ v H', Inv X pins σ H' { s with heap := h', toks := tk } ∧ RelV v (.ref s.heap.objs.size) ∧ Q v H' := by
    intro its rv h' tk ⟨ks, R, m, _⟩ keep
    have hl : its.toArray.size = keys.length := by rw [List.size_toArray, ← rv.length, List.length_map]
    have nd : ks.Nodup := let ⟨_, _, _, _, _, r⟩ := R; r.nd
    exact ⟨.ref s.heap.objs.size, upd H s.heap.objs.size (setO X.w s.heap.objs.size ks), I.laid (t' := tk) keep (Nat.le_refl _) (setO_ok R), rfl, q _ ks nd (fun k => by rw [m, hl, List.take_length]) (I.hok.fresh (Nat.le_refl _))⟩
  rcases hs with hs | hs
  · obtain ⟨its, rv, hl, hz⟩ := I.list hs
    have hlen : its.toArray.size = keys.length := by rw [List.size_toArray, ← rv.length, List.length_map]
    refine set_of_list (I.ok.hd hc) hl.isList (J := setJ X.w s.heap.objs.size keys) setJ_keep (fun h e => ⟨[], ⟨_, _, _, _, e, set0_in rfl⟩, by simp, by simp⟩) (setJ_adds hlen (fun i v k h1 h2 => keys_rel rv (by simpa using h1) h2) hb) fun h' tk j keep => fin its rv h' tk j keep
  · obtain ⟨its, rv, hl⟩ := tup_at (H := ⟨H, fun _ => False⟩) I hs
    have hlen : its.toArray.size = keys.length := by rw [List.size_toArray, ← rv.length, List.length_map]
    refine set_of_tup (I.ok.hd hc) hl (J := setJ X.w s.heap.objs.size keys) setJ_keep (fun h e => ⟨[], ⟨_, _, _, _, e, set0_in rfl⟩, by simp, by simp⟩) (setJ_adds hlen (fun i v k h1 h2 => keys_rel rv (by simpa using h1) h2) hb) fun h' tk j keep => fin its rv h' tk j keep
end DM
namespace DM
open PySem PySem.Spec PyProof.Rows L2
section
variable {prog : Program} {w : World} {A : Around} {E : Value → Shared → Prop} {s : Shared} {R : Value → D → Prop}
open PySem PySem.Calls PyProof.Rows PySem.W in
theorem sorted_some {l : Addr} {n : Nat} {B : List Value → List D → Shared → Prop} {Q : Value → Shared → Prop} (hL : n ≤ sizeLine)
    (hB : ∀ vs bs t, B vs bs t → bs.length = n ∧ EachIs R vs bs ∧ EachIs (fun v b => ∃ as, Reads t.heap v (toPy b) as) vs bs ∧ AllAlike (bs.map toPy) ∧ Sortable (bs.map toPy) ∧ (∀ b, b ∈ bs → A.units + 2 + (toPy b).depth < cLine) ∧ (∀ b o, s.heap.get? b = some o → t.heap.get? b = some o) ∧ s.heap.objs.size ≤ t.heap.objs.size ∧ t.gens = s.gens ∧ t.os = s.os)
    (hc : ∀ (Q' : List Value → Shared → Prop) (E' : Value → Shared → Prop), (∀ vs bs t, B vs bs t → Q' vs t) → wpAny (model prog w) A.in1 (collect (.ref l)) Q' E' s)
    (fin : ∀ vs bs t, B vs bs t → ∀ h' out c a, (∀ b o, s.heap.get? b = some o → h'.get? b = some o) → s.heap.objs.size ≤ a → h'.get? a = some (seqObj "list" (List.toArray out) c) → out.length = n → EachIs R out (sortD bs) → Q (.ref a) { t with heap := h' }) :
    wpAny (model prog w) A (call (.builtin "sorted") [.ref l]) Q E s := by
  refine call_function_entry kind_sorted plain_sorted entry_sorted (args_sorted1 _) ?_
  unfold Builtin.«sorted»
  refine wpAny_bind (m := checkCount "sorted" 1 1 _) (wpAny_pure (wpAny_bind (hc _ _ fun vs bs t hb => ?_)))
  obtain ⟨hn, e, er, hal, hk, hu, k1, z1, _, _⟩ := hB vs bs t hb
  have hv : vs.length = n := by rw [e.length, hn]
  refine wpAny_bind (wpAny_newList ?_ (by rw [hv]; exact hL))
  have ho : (t.heap.push (seqObj "list" vs.toArray 0)).get? t.heap.objs.size = some (seqObj "list" vs.toArray 0) := Heap.get?_push_size _ rfl
  have k2 : ∀ b o, t.heap.get? b = some o → (sortingHeap (t.heap.push (seqObj "list" vs.toArray 0)) t.heap.objs.size vs).get? b = some o := fun b o q => sortingHeap_old (Nat.ne_of_lt (Heap.lt_size q)) (Heap.get?_push_of_some _ q)
  have er2 : EachIs (fun v b => ∃ as, Reads (sortingHeap (t.heap.push (seqObj "list" vs.toArray 0)) t.heap.objs.size vs) v (toPy b) as) vs bs := er.mono fun _ _ ⟨as, r⟩ => ⟨as, PyProof.Rows.Reads.keeps k2 r⟩
  have S := SortsAt.data (prog := prog) (w := w) (A := A.in1.in1) (s := { t with heap := sortingHeap (t.heap.push (seqObj "list" vs.toArray 0)) t.heap.objs.size vs }) (each_map (R := fun v d => ∃ as, Reads (sortingHeap (t.heap.push (seqObj "list" vs.toArray 0)) t.heap.objs.size vs) v d as) toPy er2) hal hk (bound_map hu)
  show wpAny _ _ _ _ _ { t with heap := t.heap.push (seqObj "list" vs.toArray 0) }
  refine wpAny_bind (wpAny_holding (wpAny_call_entry slot_list_sort ⟨_, ho, rfl⟩ entry_list_sort ?body (args_list_sort _)))
  case body =>
    show wpAny (model prog w) A.in1.in1 (Builtin.«list.sort» ⟨[.ref t.heap.objs.size], []⟩) _ _ _
    refine list_sort_vals (s := { t with heap := t.heap.push (seqObj "list" vs.toArray 0) }) ho S (by rw [hv]; exact hL) ⟨_, rfl, wpAny_pure ⟨_, rfl, ?_⟩⟩
    obtain ⟨c, hc⟩ := PyProof.Rows.sortedHeap_at (vs := vs) (out := (sortVals (dataKind (sortingHeap (t.heap.push (seqObj "list" vs.toArray 0)) t.heap.objs.size vs) (bs.map toPy)) false vs vs).toArray) ho
    refine fin vs bs t hb _ _ c t.heap.objs.size (fun b o q => ?_) z1 hc (by rw [sortVals_length false rfl]; exact hv) (sortVals_data false e er2 hal)
    have q1 := Heap.get?_push_of_some (seqObj "list" vs.toArray 0) (k1 b o q)
    exact (PyProof.Rows.sortedHeap_old (Nat.ne_of_lt (Nat.lt_of_lt_of_le (Heap.lt_size q) z1)) (Heap.lt_size q1)).trans q1
end
theorem SortOk.perm {xs ys : List D} (h : SortOk xs) (p : ys.Perm xs) : SortOk ys := by
  obtain ⟨h1, h2, h3, h4⟩ := h
  have m : ∀ x ∈ ys.map toPy, x ∈ xs.map toPy := fun x hx => (p.map toPy).mem_iff.mp hx
  refine ⟨all_pure fun x hx => mem_pure h1 (p.mem_iff.mp hx), all_dep (by decide) fun x hx => mem_dep h2 (p.mem_iff.mp hx), fun x hx y hy => h3 x (m x hx) y (m y hy), ?_⟩
  rcases h4 with h4 | h4
  · exact .inl fun x hx => h4 x (m x hx)
  · exact .inr fun x hx => h4 x (m x hx)
def rSortM (w : World) : List V → Hp → VK → Prop := fun vs H Q => ∃ (a : Addr) (ks : List Key), vs = [V.ref a] ∧ H a = some (setO w a ks) ∧ SortOk (ks.map kD) ∧
  ∀ (out ys : List Key) (p : Addr), out.Perm ks → ys.map kD = sortD (out.map kD) → H p = none → Q (.ref p) (upd H p (.lst (ys.map kV)))
theorem each_keys {h : Heap} : ∀ {vs : List Value} {ks : List Key}, vs.map keyM = ks → (∀ v ∈ vs, keyIs (keyM v) v = true) → PySem.W.EachIs (fun v d => ∃ k, d = kD k ∧ keyIs k v = true) vs (ks.map kD) ∧ PySem.W.EachIs (fun v b => ∃ as, Reads h v (toPy b) as) vs (ks.map kD)
  | [], _, rfl, _ => ⟨.nil, .nil⟩
  | v :: vs, _, rfl, hv => by
    obtain ⟨h1, h2⟩ := each_keys (h := h) (vs := vs) rfl fun u hu => hv u (List.mem_cons_of_mem _ hu)
    have h3 := hv v List.mem_cons_self
    refine ⟨.cons ⟨_, rfl, h3⟩ h1, .cons ?_ h2⟩
    rcases keyIs_shape h3 with ⟨i, t, e1, e2⟩ | ⟨x, t, e1, e2⟩
    · rw [e1, e2]; exact ⟨_, .int i t⟩
    · rw [e1, e2]; exact ⟨_, .str x t⟩
theorem each_keys_out : ∀ {vs : List Value} {ds : List D}, PySem.W.EachIs (fun v d => ∃ k, d = kD k ∧ keyIs k v = true) vs ds → ∃ ks : List Key, ds = ks.map kD ∧ Vals (ks.map kV) vs
  | _, _, .nil => ⟨[], rfl, .nil⟩
  | v :: _, _, .cons ⟨k, e, h⟩ t => by
    obtain ⟨ks, e2, r⟩ := each_keys_out t
    refine ⟨k :: ks, by rw [e, e2]; rfl, .cons ?_ r⟩
    rcases keyIs_shape h with ⟨i, t, rfl, rfl⟩ | ⟨x, t, rfl, rfl⟩
    · exact ⟨t, rfl⟩
    · exact ⟨t, rfl⟩
theorem call_sortM {X : Cx} (hc : X.calm = true) (hu : X.A.units + 150 < cLine) : CallR X (.builtin "sorted") (rSortM X.w) := by
  intro pins s σ H vs us Q I r h
  obtain ⟨a, ks, rfl, ha, ⟨hp, hdp, hal, hso⟩, q⟩ := h
  rw [Vals.ref1 r]
  obtain ⟨o, es, ep, t, ho, R⟩ := (show SetM X.w s.heap a ks from (I.hok a _ ha).1)
  have hL : ks.length ≤ sizeLine := by rw [← R.len]; exact fits_of_scanBound R.sz
  have perm_all : ∀ out : List Key, out.Perm ks → SortOk (out.map kD) := fun out pm => SortOk.perm ⟨hp, hdp, hal, hso⟩ (pm.map kD)
  refine sorted_some (R := fun v d => ∃ k, d = kD k ∧ keyIs k v = true) (n := ks.length) (B := fun vs bs t => ∃ out : List Key, bs = out.map kD ∧ out.Perm ks ∧ vs.map keyM = out ∧ (∀ v ∈ vs, keyIs (keyM v) v = true) ∧ (∀ b o, s.heap.get? b = some o → t.heap.get? b = some o) ∧ s.heap.objs.size ≤ t.heap.objs.size ∧ t.gens = s.gens ∧ t.os = s.os) hL (fun vs bs t hb => ?_) (fun Q' E' hQ' => ?_) fun vs bs t hb h' out c p keep hp hg hl eo => ?_
  · obtain ⟨out, rfl, pm, e, hv, k1, z1, g1, o1⟩ := hb
    obtain ⟨h1, h2⟩ := each_keys (h := t.heap) e hv
    obtain ⟨_, sd, sa, ss⟩ := perm_all out pm
    refine ⟨by rw [List.length_map, pm.length_eq], h1, h2, sa, ss, fun b hb => ?_, k1, z1, g1, o1⟩
    have h1 := depth_py b
    obtain ⟨j, hj, rfl⟩ := List.getElem_of_mem hb
    have h2 := depDs_get (List.getElem?_eq_getElem hj)
    omega
  · refine collect_set (I.ok.hd hc) ⟨o, ho, R.ex.1, R.dt⟩ R.ft R.sz R.rs R.ld fun s' out k1 z1 g1 o1 pm => hQ' out _ s' ⟨_, rfl, (pm.map keyM).trans (by rw [List.map_map]; exact R.pm), rfl, fun v hv => ?_, k1, z1, g1, o1⟩
    obtain ⟨e, he, rfl⟩ := List.mem_map.mp (pm.mem_iff.mp hv)
    exact (R.ok e he).1
  · obtain ⟨out0, rfl, pm, _, _, k1, z1, g1, o1⟩ := hb
    obtain ⟨ys, e, rv⟩ := each_keys_out eo
    have hlen : (ys.map kV).length ≤ sizeLine := by rw [rv.length, hl]; exact hL
    have hn : H p = none := I.hok.fresh hp
    have J : Inv X pins σ (upd H p (.lst (ys.map kV))) { s with heap := h', gens := t.gens, drawn := t.drawn, toks := t.toks } :=
      I.call (ch := []) (Un.laid keep hp hn) (I.hok.laid keep hp ⟨hlen, out, c, rv, hg⟩) (by rw [g1]; exact I.bare) (fun _ z => nomatch z)
    have et : ({ t with heap := h' } : Shared) = { s with heap := h', gens := t.gens, drawn := t.drawn, toks := t.toks } := by
      cases t
      cases s
      cases o1
      rfl
    rw [et]
    exact ⟨.ref p, _, J, rfl, q out0 ys p pm e.symm hn⟩
end DM
namespace DM
open PySem L2
open PyProof.Rows (b2i)
def sortSetQ (x : D) (M : Mm) (Q : List D → Mm → Prop) : Prop := match rdS M x with
  | some xs => (match keysD xs with | some keys => ((∀ l : List Key, l.Nodup → (∀ k ∈ l, k ∈ keys) → l.length + 1 < 4096) ∧ SortOk xs) ∧ ∀ ks : List Key, ks.Nodup → (∀ k, k ∈ ks ↔ k ∈ keys) → Q (sortD (ks.map kD)) M | none => False)
  | none => False
def dSortSet (te : TDE) : TDL := fun ds M Q => te ds M fun x M1 => sortSetQ x M1 Q
theorem kd_mem {ks keys : List Key} (h : ∀ k, k ∈ ks ↔ k ∈ keys) (so : SortOk (keys.map kD)) : SortOk (ks.map kD) := by
  obtain ⟨h1, h2, h3, h4⟩ := so
  have m : ∀ x ∈ ks.map kD, x ∈ keys.map kD := fun x hx => by
    obtain ⟨k, hk, rfl⟩ := List.mem_map.mp hx
    exact List.mem_map.mpr ⟨k, (h k).mp hk, rfl⟩
  have m2 : ∀ x ∈ (ks.map kD).map toPy, x ∈ (keys.map kD).map toPy := fun x hx => by
    obtain ⟨k, hk, rfl⟩ := List.mem_map.mp hx
    exact List.mem_map.mpr ⟨k, m k hk, rfl⟩
  refine ⟨all_pure fun x hx => mem_pure h1 (m x hx), all_dep (by decide) fun x hx => mem_dep h2 (m x hx), fun x hx y hy => h3 x (m2 x hx) y (m2 y hy), ?_⟩
  rcases h4 with h4 | h4
  · exact .inl fun x hx => h4 x (m2 x hx)
  · exact .inr fun x hx => h4 x (m2 x hx)
section
variable {X : Cx} {e : Expr} {te : TDE} {p p2 pos pos2 : Pos} {k : Nat}
theorem jl_sortSet (hc : X.calm = true) (hr : Room k X.A) (hm : X.mg "sorted" = none) (hm2 : X.mg "set" = none) (ha : JE X e te) (hg : Gl X "sorted" := by rfl) (hg2 : Gl X "set" := by rfl)
    (n1 : starEach [.Call (.Name "set" p2) [e] [] pos2] X.env = (false, eval (.Call (.Name "set" p2) [e] [] pos2) X.env) :: starEach [] X.env := by rfl) (n2 : starEach [e] X.env = (false, eval e X.env) :: starEach [] X.env := by rfl)
    (n3 : (backTo pos (starEach [] X.env)).any (·.1) = false := by rfl) (n4 : (backTo pos2 (starEach [] X.env)).any (·.1) = false := by rfl) :
    JL X (.Call (.Name "sorted" p) [.Call (.Name "set" p2) [e] [] pos2] [] pos) (dSortSet te) := by
  obtain ⟨u, q, g⟩ := ha
  refine ⟨_, pe_callB (call_sortM hc (hu150 hr)) hg hm PyProof.Rows.boot_sorted (pa_cons (pe_callTy (call_setM hc) hg2 hm2 PyProof.Rows.boot_set (pa_cons q pa_nil n2) (by decide) (by decide) n2 n4) pa_nil n1) (by decide) (by decide) n1 n3, fun ds σ H M Q Q0 s m q k => ?_⟩
  refine g ds σ H M _ _ s m q fun v H1 d M1 r1 m1 g1 q1 => ?_
  unfold sortSetQ at q1
  split at q1
  · rename_i xs e1
    split at q1
    · rename_i keys e2
      obtain ⟨⟨hl, so⟩, q1⟩ := q1
      have ex := keysD_eq e2
      subst ex
      obtain ⟨a, ws, rfl, ra, h1⟩ := rdS_v m1 r1 e1
      have ew := vrs_keys ra
      subst ew
      refine ⟨a, keys, rfl, h1.symm.imp (fun h => SqL.of h) (fun h => h.2), hl, fun o ks nd hk ho => ?_⟩
      refine ⟨o, ks, rfl, upd_same, kd_mem hk so, fun out ys l pm ey hl2 => ?_⟩
      have m2 : MR X.K M1 (H1.up o (setO X.w o ks)) := m1.newT ho
      have g2 : GG M1 H1 M1 (H1.up o (setO X.w o ks)) := GG.newT ho
      have ry : VRs X.K (H1.up o (setO X.w o ks)) (sortD (out.map kD)) (ys.map kV) := by rw [← ey]; exact keys_vrs ys
      exact k l ((H1.up o (setO X.w o ks)).up l _) (sortD (out.map kD)) (ys.map kV) M1 ((g1.trans g2).free hl2) upd_same (VRs.mono (TX.new m2 hl2) _ _ ry) (m2.free hl2) (m2.freeF hl2) (m2.newT hl2) ((g1.trans g2).trans (GG.newT hl2)) (q1 out (pm.nodup_iff.mpr nd) fun j => (pm.mem_iff).trans (hk j))
    · exact q1.elim
  · exact q1.elim
end
end DM
namespace DM
open PySem L2
open PyProof.Rows (b2i)
def insOf (M : Mm) (a : Addr) : Option (Addr × List (Str × D)) := match M a with | some (.ins C fs) => some (C, fs) | _ => none
def putFD (f : Str) (d : D) : List (Str × D) → List (Str × D)
  | [] => [(f, d)]
  | (g, x) :: r => if g = f then (g, d) :: r else (g, x) :: putFD f d r
section
variable {K : PySem.W.Frag} {H : HF}
theorem FR.look : ∀ {ds : List (Str × D)} {vs : List (Str × V)} {f : Str} {d : D}, FR K H ds vs → ds.lookup f = some d → ∃ v, vs.lookup f = some v ∧ VR K H d v
  | _, _, _, _, .nil, h => by simp at h
  | (g, d') :: ds, (_, v') :: vs, f, d, .cons r q, h => by
    rw [List.lookup_cons] at h ⊢
    cases e : (f == g) with
    | true => rw [e] at h; cases h; exact ⟨_, rfl, r⟩
    | false => rw [e] at h; exact FR.look q h
end
def fputQ (C : Addr) (f : Str) (x y : D) (M : Mm) (N : Mm → Prop) : Prop := match x with
  | .ref a => (match insOf M a with | some (C', fs) => (C' = C ∧ fs.length < 1000) ∧ N (mup M a (.ins C (putFD f y fs))) | none => False)
  | _ => False
def dFput (C : Addr) (f : Str) (te to : TDE) : TDS := fun D ds M => te ds M fun y M1 => to ds M1 fun x M2 => fputQ C f x y M2 fun M3 => D.nx ds M3
def faddQ1 (C : Addr) (f : Str) (x : D) (M : Mm) (N : Addr → Int → Prop) : Prop := match x with
  | .ref a => (match insOf M a with | some (C', fs) => C' = C ∧ (match fs.lookup f with | some (.int i) => N a i | _ => False) | none => False)
  | _ => False
def dFadd (C : Addr) (f : Str) (to te : TDE) : TDS := fun D ds M => to ds M fun x M1 => faddQ1 C f x M1 fun a i => te ds M1 fun y M2 => match y with
  | .int j => fputQ C f (.ref a) (.int (i + j)) M2 fun M3 => D.nx ds M3
  | _ => False
end DM
namespace DM
open PySem L2
open PyProof.Rows (b2i)
def leS (a b : Str) : Bool := decide (a.cps.toList ≤ b.cps.toList)
theorem leD_str (a b : Str) : leD (.str a) (.str b) = leS a b := congrFun (congrFun (PySem.W.dataLe_str (fun x : Str => x)) a) b
theorem leS_trans {a b c : Str} (h : leS a b = true) (h' : leS b c = true) : leS a c = true := decide_eq_true (List.le_trans (of_decide_eq_true h) (of_decide_eq_true h'))
theorem leS_total (a b : Str) : (leS a b || leS b a) = true := by
  rcases List.le_total a.cps.toList b.cps.toList with h | h
  · simp [leS, h]
  · simp [leS, h]
theorem leS_anti {a b : Str} (h : leS a b = true) (h' : leS b a = true) : a = b := cps_inj (List.le_antisymm (of_decide_eq_true h) (of_decide_eq_true h'))
def RisS (l : List Str) : Prop := l.Pairwise fun a b => leS a b = true ∧ a ≠ b
theorem ris_eq : ∀ {xs ys : List Str}, RisS xs → RisS ys → (∀ z, z ∈ xs ↔ z ∈ ys) → xs = ys
  | [], [], _, _, _ => rfl
  | [], y :: ys, _, _, h => absurd ((h y).mpr List.mem_cons_self) List.not_mem_nil
  | x :: xs, [], _, _, h => absurd ((h x).mp List.mem_cons_self) List.not_mem_nil
  | x :: xs, y :: ys, hx, hy, h => by
    obtain ⟨hx1, hx2⟩ := List.pairwise_cons.mp hx
    obtain ⟨hy1, hy2⟩ := List.pairwise_cons.mp hy
    have e : x = y := by
      rcases List.mem_cons.mp ((h x).mp List.mem_cons_self) with e | hm
      · exact e
      · rcases List.mem_cons.mp ((h y).mpr List.mem_cons_self) with e | hm2
        · exact e.symm
        · exact leS_anti (hx1 y hm2).1 (hy1 x hm).1
    subst e
    have : xs = ys := ris_eq hx2 hy2 fun z => ⟨fun hz => by
      rcases List.mem_cons.mp ((h z).mp (List.mem_cons_of_mem _ hz)) with rfl | hm
      · exact absurd rfl (hx1 z hz).2
      · exact hm, fun hz => by
      rcases List.mem_cons.mp ((h z).mpr (List.mem_cons_of_mem _ hz)) with rfl | hm
      · exact absurd rfl (hy1 z hz).2
      · exact hm⟩
    rw [this]
theorem sortS_ris {l : List Str} (h : l.Nodup) : RisS (sortS l) := by
  have h1 : (sortS l).Pairwise fun a b => leD (.str a) (.str b) = true := List.pairwise_mergeSort (fun a b c h h' => by rw [leD_str] at *; exact leS_trans h h') (fun a b => by rw [leD_str, leD_str]; exact leS_total a b) l
  have h2 : (sortS l).Nodup := (sortS_perm l).nodup_iff.mpr h
  exact (h1.and h2).imp fun ⟨a, b⟩ => ⟨by rw [← leD_str]; exact a, b⟩
theorem sortS_ext {l l' : List Str} (h : l.Nodup) (h' : l'.Nodup) (e : ∀ z, z ∈ l ↔ z ∈ l') : sortS l = sortS l' := ris_eq (sortS_ris h) (sortS_ris h') fun z => by rw [sortS_mem, sortS_mem, e]
def oneEach (l : List Str) : List Str := l.foldl (fun acc x => if x ∈ acc then acc else acc ++ [x]) []
theorem oneEach_go : ∀ (l acc : List Str), acc.Nodup → ((l.foldl (fun acc x => if x ∈ acc then acc else acc ++ [x]) acc).Nodup ∧ ∀ z, z ∈ l.foldl (fun acc x => if x ∈ acc then acc else acc ++ [x]) acc ↔ z ∈ acc ∨ z ∈ l)
  | [], acc, h => ⟨h, by simp⟩
  | x :: l, acc, h => by
    rw [List.foldl_cons]
    by_cases hx : x ∈ acc
    · rw [if_pos hx]
      obtain ⟨h1, h2⟩ := oneEach_go l acc h
      exact ⟨h1, fun z => by rw [h2]; simp only [List.mem_cons]; exact ⟨fun h => h.elim .inl (fun h => .inr (.inr h)), fun h => h.elim .inl fun h => h.elim (fun e => .inl (e ▸ hx)) .inr⟩⟩
    · rw [if_neg hx]
      obtain ⟨h1, h2⟩ := oneEach_go l (acc ++ [x]) (by rw [List.nodup_append]; exact ⟨h, by simp, fun a ha b hb => by rw [List.mem_singleton.mp hb]; rintro rfl; exact hx ha⟩)
      exact ⟨h1, fun z => by rw [h2]; simp [or_assoc]⟩
theorem oneEach_nodup (l : List Str) : (oneEach l).Nodup := (oneEach_go l [] (by simp)).1
theorem oneEach_mem {l : List Str} {z : Str} : z ∈ oneEach l ↔ z ∈ l := by rw [oneEach, (oneEach_go l [] (by simp)).2]; simp
def rise (l : List Str) : List Str := sortS (oneEach l)
theorem rise_ris (l : List Str) : RisS (rise l) := sortS_ris (oneEach_nodup l)
theorem rise_mem {l : List Str} {z : Str} : z ∈ rise l ↔ z ∈ l := by rw [rise, sortS_mem, oneEach_mem]
theorem rise_len (l : List Str) : (rise l).length ≤ l.length := by
  rw [rise, sortS_len]
  have key : ∀ (l acc : List Str), (l.foldl (fun acc x => if x ∈ acc then acc else acc ++ [x]) acc).length ≤ acc.length + l.length := by
    intro l
    induction l with
    | nil => intro acc; simp
    | cons x l ih =>
      intro acc
      rw [List.foldl_cons, List.length_cons]
      have h1 := ih (if x ∈ acc then acc else acc ++ [x])
      have h2 : (if x ∈ acc then acc else acc ++ [x]).length ≤ acc.length + 1 := by split <;> simp
      omega
  have := key l []
  rw [List.length_nil, Nat.zero_add] at this
  exact this
section
variable {ds : DSt} {M : Mm} {a : Addr}
theorem dSortSet_e {te : TDE} {Q : List D → Mm → Prop} : dSortSet te ds M Q = te ds M fun x M1 => sortSetQ x M1 Q := (rfl)
theorem keysD_strs (l : List Str) : keysD (l.map D.str) = some (l.map Sum.inr) := by
  have := keysD_map (l.map Sum.inr)
  rwa [List.map_map] at this
theorem sortSet_W {x : D} {l W : List Str} {Q : List D → Mm → Prop} (e : rdS M x = some (l.map D.str)) (hW : ∀ z ∈ l, z ∈ W) (hl : W.length ≤ 4000) (h : Q ((rise l).map D.str) M) : sortSetQ x M Q := by
  unfold sortSetQ
  simp only [e, keysD_strs]
  refine ⟨⟨fun ks nd hs => ?_, sortOk_str⟩, fun ks nd hk => ?_⟩
  · have := nodup_le (m := W.map Sum.inr) nd fun k hk => by
      obtain ⟨z, hz, rfl⟩ := List.mem_map.mp (hs k hk)
      exact List.mem_map.mpr ⟨z, hW z hz, rfl⟩
    rw [List.length_map] at this
    omega
  obtain ⟨l', rfl⟩ : ∃ l' : List Str, ks = l'.map Sum.inr := by
    have : ∀ k ∈ ks, ∃ s : Str, Sum.inr s = k := fun k hk' => by
      obtain ⟨s, _, e⟩ := List.mem_map.mp ((hk k).mp hk')
      exact ⟨s, e⟩
    clear nd hk
    induction ks with
    | nil => exact ⟨[], rfl⟩
    | cons k ks ih =>
      obtain ⟨s, rfl⟩ := this k List.mem_cons_self
      obtain ⟨l', rfl⟩ := ih fun k hk => this k (List.mem_cons_of_mem _ hk)
      exact ⟨s :: l', rfl⟩
  have nd' : l'.Nodup := List.Pairwise.of_map (S := (· ≠ ·)) Sum.inr (fun a b h e => h (e ▸ rfl)) nd
  have hm : ∀ z, z ∈ l' ↔ z ∈ l := fun z => by
    have := hk (Sum.inr z)
    simpa using this
  rw [show (l'.map Sum.inr).map kD = l'.map D.str by rw [List.map_map]; rfl, sortD_strs, sortS_ext nd' (oneEach_nodup l) (fun z => by rw [hm, oneEach_mem])]
  exact h
theorem sortSet_go {x : D} {l : List Str} {Q : List D → Mm → Prop} (e : rdS M x = some (l.map D.str)) (hl : l.length ≤ 4000) (h : Q ((rise l).map D.str) M) : sortSetQ x M Q := sortSet_W e (fun _ h => h) hl h
theorem sortSet_L {l : List Str} {Q : List D → Mm → Prop} (hl : l.length ≤ 4000) (h : Q ((rise l).map D.str) M) : sortSetQ (.lst (l.map D.str)) M Q := sortSet_go rfl hl h
end
end DM
namespace DM
open PySem L2
open PyProof.Rows (b2i)
section
variable {ds : DSt} {M : Mm} {a C : Addr} {Q : DQ} {x y z v d : D} {f m : Str} {fs : List (Str × D)} {sp : DSp} {te to tf : TDE} {t : TDA} {D0 : DEnds} {kvs : List (Key × D)} {s : TDS} {xs : List D}
theorem dFput_e : dFput C f te to D0 ds M = te ds M fun y M1 => to ds M1 fun x M2 => fputQ C f x y M2 fun M3 => D0.nx ds M3 := (rfl)
def dFadd2 (C : Addr) (f : Str) (a : Addr) (i : Int) (y : D) (ds : DSt) (M2 : Mm) (N : DSt → Mm → Prop) : Prop := match y with
  | .int j => fputQ C f (.ref a) (.int (i + j)) M2 fun M3 => N ds M3
  | _ => False
theorem dFadd_e : dFadd C f to te D0 ds M = to ds M fun x M1 => faddQ1 C f x M1 fun a i => te ds M1 fun y M2 => dFadd2 C f a i y ds M2 D0.nx := (rfl)
theorem dFadd2_i {a : Addr} {i j : Int} {N : DSt → Mm → Prop} : dFadd2 C f a i (.int j) ds M N = fputQ C f (.ref a) (.int (i + j)) M fun M3 => N ds M3 := (rfl)
theorem sa_fput {a b : TDE} (h : ∀ Nx, KEq Nx (s D0) → dFput C f a b { D0 with nx := Nx } ds M) : dSeq (dFput C f a b) s D0 ds M := h _ fun _ _ h => h
theorem sa_fadd {a b : TDE} (h : ∀ Nx, KEq Nx (s D0) → dFadd C f a b { D0 with nx := Nx } ds M) : dSeq (dFadd C f a b) s D0 ds M := h _ fun _ _ h => h
end
end DM
namespace DM
open PySem L2
open PyProof.Rows (b2i)
theorem valT_put {κ δ : Type} [DecidableEq κ] (k : κ) (d : δ) : ∀ (kvs : List (κ × δ)) (j : κ), valT (putT kvs k d) j = if j = k then some d else valT kvs j := by
  have rep : ∀ (kvs : List (κ × δ)) (j : κ), valT (kvs.map fun kv => if kv.1 = k then (kv.1, d) else kv) j = if j = k then (if (kvs.any fun kv => decide (kv.1 = k)) = true then some d else none) else valT kvs j := by
    intro kvs
    induction kvs with
    | nil => intro j; by_cases e : j = k <;> simp [valT, e]
    | cons p kvs ih =>
      intro j
      have ih := ih j
      unfold valT at *
      rw [List.map_cons, List.find?_cons, List.any_cons]
      by_cases h : p.1 = k
      · rw [if_pos h]
        by_cases e : j = k
        · subst e; simp [h]
        · have : ¬ p.1 = j := fun h' => e (h'.symm.trans h)
          simp only [this, decide_false]
          rw [ih, if_neg e, if_neg e, List.find?_cons]
          simp only [this, decide_false]
      · rw [if_neg h]
        by_cases e : p.1 = j
        · have : ¬ j = k := fun h' => h (e.trans h')
          simp [e, this]
        · simp only [e, decide_false]
          rw [ih, List.find?_cons]
          simp only [e, decide_false, h, Bool.false_or]
  intro kvs j
  unfold putT
  by_cases h : (kvs.any fun kv => decide (kv.1 = k)) = true
  · rw [if_pos h, rep, if_pos h]
  · rw [if_neg h]
    unfold valT
    rw [List.find?_append]
    by_cases e : j = k
    · subst e
      have : kvs.find? (fun kv => decide (kv.1 = j)) = none := by
        rw [List.find?_eq_none]
        intro x hx hd
        exact h (List.any_eq_true.mpr ⟨x, hx, hd⟩)
      simp [this]
    · have : ¬ k = j := fun h' => e h'.symm
      rw [if_neg e, List.find?_cons]
      simp [this]
theorem valD_put (k : Key) (d : D) (kvs : List (Key × D)) (j : Key) : valD (putD kvs k d) j = if j = k then some d else valD kvs j := valT_put k d kvs j
theorem putD_len (k : Key) (d : D) (kvs : List (Key × D)) : (putD kvs k d).length ≤ kvs.length + 1 := by
  unfold putD; split <;> simp
end DM
namespace DM
open PySem PySem.Spec PyProof.Rows L2
def rSortDK : List V → Hp → VK → Prop := fun vs H Q => ∃ (a : Addr) (kvs : List (Key × V)), vs = [V.ref a] ∧ H a = some (.dK kvs) ∧ SortOk (kvs.map fun kv => kD kv.1) ∧
  ∀ (ys : List Key) (p : Addr), ys.map kD = sortD (kvs.map fun kv => kD kv.1) → H p = none → Q (.ref p) (upd H p (.lst (ys.map kV)))
theorem call_sortDK {X : Cx} (hc : X.calm = true) (hu : X.A.units + 150 < cLine) : CallR X (.builtin "sorted") rSortDK := by
  intro pins s σ H vs us Q I r h
  obtain ⟨a, kvs, rfl, ha, so, q⟩ := h
  rw [Vals.ref1 r]
  obtain ⟨z, lo, ws, rk, hd⟩ := (show ObjOk X.prog X.w H s.heap a (.dK kvs) from I.hok a _ ha)
  obtain ⟨ep, hat⟩ := hd.dictAt
  have hl : kvs.length = ws.length := Paired.length rk
  obtain ⟨hp, hdp, hal, hso⟩ := so
  have ek : (kvs.map fun kv => kD kv.1) = (kvs.map (·.1)).map kD := by rw [List.map_map]; rfl
  refine sorted_some (R := fun v d => ∃ k, d = kD k ∧ keyIs k v = true) (n := kvs.length) (B := fun vs bs t => bs = (kvs.map (·.1)).map kD ∧ vs.map keyM = kvs.map (·.1) ∧ (∀ v ∈ vs, keyIs (keyM v) v = true) ∧ (∀ b o, s.heap.get? b = some o → t.heap.get? b = some o) ∧ s.heap.objs.size ≤ t.heap.objs.size ∧ t.gens = s.gens ∧ t.os = s.os) z (fun vs bs t hb => ?_) (fun Q' E' hQ' => ?_) fun vs bs t hb h' out c p keep hp hg hl eo => ?_
  · obtain ⟨rfl, e, hv, k1, z1, g1, o1⟩ := hb
    obtain ⟨h1, h2⟩ := each_keys (h := t.heap) e hv
    refine ⟨by simp, h1, h2, by rw [← ek]; exact hal, by rw [← ek]; exact hso, fun b hb => ?_, k1, z1, g1, o1⟩
    rw [← ek] at hb
    have h1 := depth_py b
    obtain ⟨j, hj, rfl⟩ := List.getElem_of_mem hb
    have h2 := depDs_get (List.getElem?_eq_getElem hj)
    omega
  · refine collect_src (PySem.W.kdl_dict (knd := mixKind X.prog X.w) (kvs := ws) (ep := ep) lo) (I.ok.hd hc) hat (by rw [← hl]; exact z) fun h' tk acc kp sz it => ?_
    have hal : acc.toList.length = kvs.length := by rw [Array.length_toList, it.1, hl]
    have pt : ∀ (j : Nat) (v : Value) (k : Key), acc.toList[j]? = some v → (kvs.map (·.1))[j]? = some k → keyIs k v = true := fun j v k h1 h2 => by
      obtain ⟨k', y, e1, e2⟩ := it.2 j v (by rw [← Array.getElem?_toList]; exact h1)
      rw [KV.keys rk, List.getElem?_map, e1] at h2
      cases h2
      exact e2
    have em : acc.toList.map keyM = kvs.map (·.1) := by
      apply List.ext_getElem?
      intro j
      rw [List.getElem?_map]
      cases h1 : acc.toList[j]? with
      | none =>
        have := List.getElem?_eq_none_iff.mp h1
        rw [List.getElem?_eq_none (by rw [List.length_map]; omega)]; rfl
      | some v =>
        have hj := (List.getElem?_eq_some_iff.mp h1).1
        obtain ⟨k, h2⟩ : ∃ k, (kvs.map (·.1))[j]? = some k := ⟨_, List.getElem?_eq_getElem (by rw [List.length_map]; omega)⟩
        rw [h2, Option.map_some, keyM_is (pt j v k h1 h2)]
    refine hQ' acc.toList _ _ ⟨rfl, em, fun v hv => ?_, kp, sz, rfl, rfl⟩
    obtain ⟨j, hj, rfl⟩ := List.getElem_of_mem hv
    obtain ⟨k, h2⟩ : ∃ k, (kvs.map (·.1))[j]? = some k := ⟨_, List.getElem?_eq_getElem (by rw [List.length_map]; omega)⟩
    have := pt j _ k (List.getElem?_eq_getElem hj) h2
    rw [keyM_is this]; exact this
  · obtain ⟨rfl, _, _, k1, z1, g1, o1⟩ := hb
    obtain ⟨ys, e, rv⟩ := each_keys_out eo
    have hlen : (ys.map kV).length ≤ sizeLine := by rw [rv.length, hl]; exact z
    have hn : H p = none := I.hok.fresh hp
    have J : Inv X pins σ (upd H p (.lst (ys.map kV))) { s with heap := h', gens := t.gens, drawn := t.drawn, toks := t.toks } :=
      I.call (ch := []) (Un.laid keep hp hn) (I.hok.laid keep hp ⟨hlen, out, c, rv, hg⟩) (by rw [g1]; exact I.bare) (fun _ z => nomatch z)
    have et : ({ t with heap := h' } : Shared) = { s with heap := h', gens := t.gens, drawn := t.drawn, toks := t.toks } := by
      cases t
      cases s
      cases o1
      rfl
    rw [et]
    exact ⟨.ref p, _, J, rfl, q ys p (by rw [ek]; exact e.symm) hn⟩
def keysKD (kvs : List (Key × D)) : List D := kvs.map fun kv => kD kv.1
def dSortedK (te : TDE) : TDL := fun ds M Q => te ds M fun x M1 => match rdD M1 x with | some kvs => SortOk (keysKD kvs) ∧ Q (sortD (keysKD kvs)) M1 | none => False
def sortedKI (x : D) (M1 : Mm) (Q : List D → Mm → Prop) : Prop := match rdD M1 x with | some kvs => SortOk (keysKD kvs) ∧ Q (sortD (keysKD kvs)) M1 | none => False
section
variable {X : Cx} {e : Expr} {te : TDE} {p pos : Pos} {k : Nat}
theorem jl_sortedK (hc : X.calm = true) (hr : Room k X.A) (hm : X.mg "sorted" = none) (ha : JE X e te) (hg : Gl X "sorted" := by rfl) (n2 : starEach [e] X.env = (false, eval e X.env) :: starEach [] X.env := by rfl) (n3 : (backTo pos (starEach [] X.env)).any (·.1) = false := by rfl) :
    JL X (.Call (.Name "sorted" p) [e] [] pos) (dSortedK te) := by
  obtain ⟨u, q, g⟩ := ha
  refine ⟨_, pe_callB (call_sortDK hc (hu150 hr)) hg hm PyProof.Rows.boot_sorted (pa_cons q pa_nil n2) (by decide) (by decide) n2 n3, fun ds σ H M Q Q0 s m q k => ?_⟩
  refine g ds σ H M _ _ s m q fun v H1 d M1 r1 m1 g1 q1 => ?_
  split at q1
  · rename_i kvs e1
    obtain ⟨so, q1⟩ := q1
    obtain ⟨a, ws, rfl, h1, ra⟩ := rdD_v m1 r1 e1
    have ek : (ws.map fun kv => kD kv.1) = keysKD kvs := by
      have := ra.keysEq
      unfold keysKD
      rw [show (kvs.map fun kv => kD kv.1) = (kvs.map (·.1)).map kD by rw [List.map_map]; rfl, this, List.map_map]; rfl
    refine ⟨a, ws, rfl, h1, by rw [ek]; exact so, fun ys l ey hl => ?_⟩
    have ry : VRs X.K H1 (sortD (keysKD kvs)) (ys.map kV) := by rw [← ek, ← ey]; exact keys_vrs ys
    exact k l (H1.up l _) (sortD (keysKD kvs)) (ys.map kV) M1 (g1.free hl) upd_same (VRs.mono (TX.new m1 hl) _ _ ry) (m1.free hl) (m1.freeF hl) (m1.newT hl) (g1.trans (GG.newT hl)) q1
  · exact q1.elim
end
section
variable {ds : DSt} {M : Mm} {a : Addr}
theorem dSortedK_e {te : TDE} {Q : List D → Mm → Prop} : dSortedK te ds M Q = te ds M fun x M1 => sortedKI x M1 Q := (rfl)
theorem sortedK_g {Q : List D → Mm → Prop} {kvs : List (Key × D)} (h : dicOf M a = some kvs) (so : SortOk (keysKD kvs)) (k : Q (sortD (keysKD kvs)) M) : sortedKI (.ref a) M Q := by
  unfold sortedKI
  simp only [rdD_ref, h]
  exact ⟨so, k⟩
end
def txD (F : List Str) : List (Key × D) := F.map fun s => (.inr s, .bl true)
def insS (F : List Str) (s : Str) : List Str := if s ∈ F then F else F ++ [s]
theorem insS_mem {F : List Str} {s z : Str} : z ∈ insS F s ↔ z ∈ F ∨ z = s := by
  unfold insS
  split
  · exact ⟨.inl, fun h => h.elim id fun h => h ▸ by assumption⟩
  · simp
theorem insS_nodup {F : List Str} {s : Str} (h : F.Nodup) : (insS F s).Nodup := by
  unfold insS
  split
  · exact h
  · rw [List.nodup_append]
    refine ⟨h, by simp, fun a ha b hb => ?_⟩
    rw [List.mem_singleton.mp hb]
    rintro rfl
    contradiction
theorem insS_len {F : List Str} {s : Str} : (insS F s).length ≤ F.length + 1 := by unfold insS; split <;> simp
theorem txD_any {F : List Str} {s : Str} : ((txD F).any fun kv => decide (kv.1 = Sum.inr s)) = decide (s ∈ F) := by
  unfold txD
  rw [List.any_map, Bool.eq_iff_iff, List.any_eq_true, decide_eq_true_eq]
  exact ⟨fun ⟨f, hf, h⟩ => Sum.inr.inj (of_decide_eq_true h) ▸ hf, fun h => ⟨s, h, decide_eq_true rfl⟩⟩
theorem put_tx {F : List Str} {s : Str} : putD (txD F) (.inr s) (.bl true) = txD (insS F s) := by
  unfold putD
  rw [txD_any]
  unfold insS
  by_cases h : s ∈ F
  · rw [if_pos (decide_eq_true h), if_pos h]
    unfold txD
    rw [List.map_map]
    apply List.map_congr_left
    intro f hf
    simp only [Function.comp]
    split <;> rfl
  · rw [if_neg (by simpa using h), if_neg h]
    simp [txD]
theorem keys_tx {F : List Str} : keysKD (txD F) = F.map D.str := by
  unfold keysKD txD
  rw [List.map_map]; rfl
theorem txD_len {F : List Str} : (txD F).length = F.length := by simp [txD]
end DM
namespace DM
open PySem L2
open PyProof.Rows (b2i)
theorem sub_len {α : Type} [DecidableEq α] : ∀ {l m : List α}, l.Nodup → (∀ x ∈ l, x ∈ m) → l.length ≤ m.length
  | [], _, _, _ => Nat.zero_le _
  | x :: l, m, h, hs => by
    obtain ⟨h1, h2⟩ := List.nodup_cons.mp h
    have hx := hs x List.mem_cons_self
    have := sub_len (l := l) (m := m.erase x) h2 fun y hy => (List.mem_erase_of_ne (by rintro rfl; exact h1 hy)).mpr (hs y (List.mem_cons_of_mem _ hy))
    rw [List.length_erase_of_mem hx] at this
    have hm := List.length_pos_of_mem hx
    rw [List.length_cons]; omega
end DM
namespace DM
open PySem L2
open PyProof.Rows (b2i)
section
variable {M M' : Mm} {a : Addr} {x y d : D} {xs ys zs : List D} {Q : DQ} {s : Str} {kvs : List (Key × D)}
theorem ext_go (e : lstOf M a = some ys) (e2 : rdS M y = some zs) (hl : ys.length + zs.length ≤ sizeLine) (h : Q .non (mup M a (.lst (ys ++ zs)))) : extendA (.ref a) [y] M Q := by
  unfold extendA
  simp only [e, e2]
  exact ⟨hl, h⟩
theorem lst_dic_no (h : dicOf M a = some kvs) : lstOf M a = none := by
  unfold lstOf
  rw [of_dicOf h]
theorem notin_dic (h : dicOf M a = some kvs) (k : Q (.bl (!(valD kvs (.inr s)).isSome)) M) : notInR (.str s) (.ref a) M Q := by
  show (match rdS M (.ref a) with | some ys => memC ys (.str s) ∧ Q (.bl (true != inAny ys (.str s))) M | none => inDQ true (.str s) (.ref a) M Q)
  rw [show rdS M (.ref a) = none from lst_dic_no h]
  unfold inDQ
  simp only [rdDL_ref, h, orT_some, keyD, Bool.true_bne]
  exact k
end
theorem inAny_str {l : List Str} {x : Str} : inAny (l.map D.str) (.str x) = decide (x ∈ l) := by
  unfold inAny
  induction l with
  | nil => rfl
  | cons a l ih =>
    rw [List.map_cons, List.any_cons, ih]
    simp only [eqvD]
    rw [Bool.eq_iff_iff]
    simp only [Bool.or_eq_true, decide_eq_true_eq, beq_iff_eq, List.mem_cons]
    exact ⟨fun h => h.elim (fun h => .inl (by first | exact h | exact h.symm)) .inr, fun h => h.elim (fun h => .inl (by first | exact h | exact h.symm)) .inr⟩
theorem memC_str {l : List Str} {x : Str} : memC (l.map D.str) (.str x) := ⟨rfl, pureDs_str l, Nat.le_trans (depDs_str l) (by decide)⟩
theorem inR_strS {l : List Str} {x : Str} {y : D} {M : Mm} {Q : DQ} (e : rdS M y = some (l.map .str)) (h : Q (.bl (decide (x ∈ l))) M) : inR (.str x) y M Q := by
  have key : memC (l.map D.str) (.str x) ∧ Q (.bl (false != inAny (l.map D.str) (.str x))) M := ⟨memC_str, by rw [inAny_str, Bool.false_bne]; exact h⟩
  cases y with
  | ref a =>
    show (match rdS M (.ref a) with | some ys => memC ys (.str x) ∧ Q (.bl (false != inAny ys (.str x))) M | none => inDQ false (.str x) (.ref a) M Q)
    rw [e]; exact key
  | tup xs => cases e; exact key
  | lst xs => cases e; exact key
  | _ => cases e
end DM
namespace DM
open PySem L2
open PyProof.Rows (b2i)
def dgS (k : Nat) : Str := ((toString (k : Int) : String) : Str)
end DM
namespace DM
open PySem L2
open PyProof.Rows (b2i)
def PT (H : Hp) (qs : List (List Key × Addr × V)) (xs : List (List Key × Addr × Value)) : Prop := Paired (fun (p : List Key × Addr × V) (q : List Key × Addr × Value) => p.1 = q.1 ∧ p.2.1 = q.2.1 ∧ H p.2.1 = some (.tup (p.1.map kV)) ∧ RelV p.2.2 q.2.2) qs xs
theorem PT.keys {H : Hp} {qs : List (List Key × Addr × V)} {xs : List (List Key × Addr × Value)} (r : PT H qs xs) : ∀ x ∈ xs, H x.2.1 = some (.tup (x.1.map kV)) := by
  unfold PT at r
  induction r with
  | nil => intro x hx; cases hx
  | cons h t ih =>
    intro x hx
    rcases List.mem_cons.mp hx with rfl | hx
    · rw [← h.1, ← h.2.1]; exact h.2.2.1
    · exact ih x hx
def mergeTD (kvs more : List (List Key × D)) : List (List Key × D) := more.foldl (fun acc q => putT acc q.1 q.2) kvs
theorem NEk.merge : ∀ {more acc : List (List Key × D)}, NEk acc → NEk more → NEk (mergeTD acc more)
  | [], _, h, _ => h
  | q :: qs, acc, h, n => NEk.merge (more := qs) (acc := putT acc q.1 q.2) (h.put (n q List.mem_cons_self)) fun kv hm => n kv (List.mem_cons_of_mem _ hm)
end DM
namespace DM
open PySem L2
open PyProof.Rows (b2i)
def leE (e f : Ed) : Bool := if e.1 = f.1 then (if e.2.1 = f.2.1 then leS e.2.2 f.2.2 else leS e.2.1 f.2.1) else leS e.1 f.1
open PySem.Calls PyProof.Rows PySem.W in
theorem leD_ed (e f : Ed) : leD (edD e) (edD f) = leE e f := by
  obtain ⟨a, b, c⟩ := e
  obtain ⟨a', b', c'⟩ := f
  show (!PySem.W.dataLt (.tuple [.str a', .str b', .str c']) (.tuple [.str a, .str b, .str c])) = _
  have e0 : lexLt itemOrd (keyToksAll []) (keyToksAll []) = false := lex_irrefl _
  rw [PySem.W.dataLt_tuple, PySem.W.dataLt_cons (by simp [PySem.W.alike]), PySem.W.dataLt_cons (by simp [PySem.W.alike]), PySem.W.dataLt_cons (by simp [PySem.W.alike]), e0]
  simp only [PySem.W.dataLt_str, PyData.eqv, beq_iff_eq]
  unfold leE leS
  by_cases h1 : a' = a
  · subst h1
    by_cases h2 : b' = b
    · subst h2
      by_cases h3 : c' = c
      · subst h3; simp
      · simp only [if_true, if_neg h3, PySem.W.not_lt_str]
    · simp only [if_true, if_neg h2, if_neg (Ne.symm h2), PySem.W.not_lt_str]
  · simp only [if_neg h1, if_neg (Ne.symm h1), PySem.W.not_lt_str]
theorem leE_anti {e f : Ed} (h : leE e f = true) (h' : leE f e = true) : e = f := by
  obtain ⟨a, b, c⟩ := e
  obtain ⟨a', b', c'⟩ := f
  unfold leE at *
  simp only at *
  by_cases h1 : a = a'
  · subst h1
    by_cases h2 : b = b'
    · subst h2
      simp only [if_true] at *
      rw [leS_anti h h']
    · simp only [if_true, if_neg h2, if_neg (Ne.symm h2)] at *
      exact absurd (leS_anti h h') h2
  · simp only [if_neg h1, if_neg (Ne.symm h1)] at *
    exact absurd (leS_anti h h') h1
theorem leE_total (e f : Ed) : (leE e f || leE f e) = true := by
  obtain ⟨a, b, c⟩ := e
  obtain ⟨a', b', c'⟩ := f
  unfold leE
  simp only
  by_cases h1 : a = a'
  · subst h1
    by_cases h2 : b = b'
    · subst h2
      simp only [if_true]; exact leS_total _ _
    · simp only [if_true, if_neg h2, if_neg (Ne.symm h2)]; exact leS_total _ _
  · simp only [if_neg h1, if_neg (Ne.symm h1)]; exact leS_total _ _
theorem leE_trans {e f g : Ed} (h : leE e f = true) (h' : leE f g = true) : leE e g = true := by
  obtain ⟨a, b, c⟩ := e
  obtain ⟨a', b', c'⟩ := f
  obtain ⟨a'', b'', c''⟩ := g
  unfold leE at *
  simp only at *
  by_cases h1 : a = a'
  · subst h1
    by_cases h3 : a = a''
    · subst h3
      simp only [if_true] at *
      by_cases h2 : b = b'
      · subst h2
        by_cases h4 : b = b''
        · subst h4
          simp only [if_true] at *
          exact leS_trans h h'
        · simp only [if_true, if_neg h4] at *; exact h'
      · by_cases h4 : b' = b''
        · subst h4
          simp only [if_neg h2] at *; exact h
        · simp only [if_neg h2, if_neg h4] at *
          have : b ≠ b'' := by rintro rfl; exact h2 (leS_anti h h')
          rw [if_neg this]; exact leS_trans h h'
    · simp only [if_true, if_neg h3] at *; exact h'
  · by_cases h3 : a' = a''
    · subst h3
      simp only [if_neg h1] at *; exact h
    · simp only [if_neg h1, if_neg h3] at *
      have : a ≠ a'' := by rintro rfl; exact h1 (leS_anti h h')
      rw [if_neg this]; exact leS_trans h h'
theorem sortE_ext {l l' : List Ed} (h : l.Nodup) (h' : l'.Nodup) (e : ∀ z, z ∈ l ↔ z ∈ l') : sortE l = sortE l' := by
  have srt : ∀ l : List Ed, (sortE l).Pairwise fun a b => leE a b = true := fun l => by
    have := List.pairwise_mergeSort (le := fun a b : Ed => leD (edD a) (edD b)) (fun a b c h h' => by rw [leD_ed] at *; exact leE_trans h h') (fun a b => by rw [leD_ed, leD_ed]; exact leE_total a b) l
    exact this.imp fun h => by rwa [leD_ed] at h
  refine List.Perm.eq_of_pairwise (le := fun a b => leE a b = true) (fun a b _ _ h h' => leE_anti h h') (srt l) (srt l') ?_
  exact (sortE_perm l).trans (((List.perm_ext_iff_of_nodup h h').mpr e).trans (sortE_perm l').symm)
end DM
namespace DM
open PySem L2
open PyProof.Rows (b2i)
theorem pureDs_all : ∀ {xs : List D}, (∀ x ∈ xs, pureD x = true) → pureDs xs = true
  | [], _ => rfl
  | x :: xs, h => by rw [pureDs, h x (by simp), pureDs_all fun y hy => h y (by simp [hy])]; rfl
theorem depDs_all {k : Nat} (hk : 1 ≤ k) : ∀ {xs : List D}, (∀ x ∈ xs, depD x ≤ k) → depDs xs ≤ k
  | [], _ => by rw [depDs]; exact hk
  | x :: xs, h => by
    have h1 := h x (by simp)
    have h2 := depDs_all hk (xs := xs) fun y hy => h y (by simp [hy])
    rw [depDs]; omega
def sgn0 (z : Str) : Str := ⟨#[(cps z).headD 0]⟩
def figB (z : Str) : Bool := !(decide (z = ("" : Str))) && ((cps z).all (fun c => inStr ⟨#[c]⟩ ("0123456789" : Str)) && (decide (z = ("0" : Str)) || !decide (sgn0 z = ("0" : Str))))
def WordS (z : Str) : Prop := z.length ≤ 8 ∧ (∀ c ∈ cps z, c < 16 ^ 8) ∧ cps z ≠ [] ∧ (NameS z ∨ figB z = true)
theorem sgns_small : ∀ c ∈ sgns, c < 16 ^ 8 := by decide
theorem NameS.word {z : Str} (h : NameS z) : WordS z := ⟨by rw [cps_len]; exact h.2.2, fun c hc => sgns_small c (h.2.1 c hc), by obtain ⟨⟨c, r, e, _⟩, _⟩ := h; rw [e]; simp, .inl h⟩
theorem NameS.ne {z : Str} (h : NameS z) : z ≠ ("" : Str) := by
  rintro rfl
  obtain ⟨⟨c, r, e, _⟩, _⟩ := h
  cases e
end DM
namespace DM
open PySem L2
open PyProof.Rows (b2i)
theorem Px.perm {M0 M : Mm} {L L' : List (Addr × MO)} (b : Px M0 L M) (h : L.Perm L') : Px M0 L' M := ⟨b.ex, fun q hq => b.lo q (h.mem_iff.mpr hq), (h.map _).nodup_iff.mp b.nd⟩
theorem Px.dit1 {M0 M : Mm} {p : Addr} {L : List (Addr × MO)} {kvs : List (List Key × D)} (b : Px M0 ((p, .dit kvs) :: L) M) : ditOf M p = some kvs := ditOf_some b.at1
theorem Px.dit2 {M0 M : Mm} {p : Addr} {L : List (Addr × MO)} {y : Addr × MO} {kvs : List (List Key × D)} (b : Px M0 (y :: (p, .dit kvs) :: L) M) : ditOf M p = some kvs := ditOf_some b.at2
end DM
namespace DM
open PySem L2
open PyProof.Rows (b2i)
theorem lets_idx {j c : Nat} (hj : j < 26) (h : lets[j]? = some c) : lets.idxOf c = j := by
  have : ∀ k : Fin 26, lets.idxOf (lets[k.1]!) = k.1 := by decide +kernel
  have h2 := this ⟨j, hj⟩
  rw [show lets[j]! = c by rw [List.getElem!_eq_getElem?_getD, h]; rfl] at h2
  exact h2
theorem sgns_idx {j c : Nat} (hj : j < 36) (h : sgns[j]? = some c) : sgns.idxOf c = j := by
  have : ∀ k : Fin 36, sgns.idxOf (sgns[k.1]!) = k.1 := by decide +kernel
  have h2 := this ⟨j, hj⟩
  rw [show sgns[j]! = c by rw [List.getElem!_eq_getElem?_getD, h]; rfl] at h2
  exact h2
theorem index_letsI {M : Mm} {Q : DQ} {c : Nat} (h : c ∈ lets) (k : lets.idxOf c < 26 → Q (.int (lets.idxOf c : Nat)) M) : indexQ (.str ("abcdefghijklmnopqrstuvwxyz" : Str)) (.str ⟨#[c]⟩) M Q := by
  obtain ⟨j, hj, hc, e⟩ := idx_lets h
  have : lets.idxOf c = j := lets_idx hj hc
  unfold indexQ
  simp only
  rw [show ("abcdefghijklmnopqrstuvwxyz" : Str).length = 26 by decide +kernel, e, ← this]
  exact k (by omega)
theorem index_sgnsI {M : Mm} {Q : DQ} {c : Nat} (h : c ∈ sgns) (k : sgns.idxOf c < 36 → Q (.int (sgns.idxOf c : Nat)) M) : indexQ (.str (("abcdefghijklmnopqrstuvwxyz" : Str) ++ ("0123456789" : Str))) (.str ⟨#[c]⟩) M Q := by
  obtain ⟨j, hj, hc, e⟩ := idx_sgns h
  have : sgns.idxOf c = j := sgns_idx hj hc
  unfold indexQ
  simp only
  rw [show (("abcdefghijklmnopqrstuvwxyz" : Str) ++ ("0123456789" : Str)).length = 36 by decide +kernel, e, ← this]
  exact k (by omega)
theorem nodup_left {α : Type} {G : α → Nat} {l : List α} (h : ∀ a z, l[a]? = some z → G z = a) : l.Nodup := by
  refine List.pairwise_iff_getElem.mpr fun i j hi hj hij e => ?_
  have h2 := h j _ (List.getElem?_eq_getElem hj)
  have h3 := h i _ (List.getElem?_eq_getElem hi)
  rw [e] at h3
  omega
theorem takeNth_perm {α : Type} : ∀ {l : List α} {i : Nat} {z : α} (h : l[i]? = some z), (z :: l.eraseIdx i).Perm l
  | a :: l, 0, z, h => by
    have : a = z := by simpa using h
    rw [this]; exact List.Perm.refl _
  | a :: l, i + 1, z, h => by
    have ih := takeNth_perm (l := l) (i := i) (z := z) (by simpa using h)
    rw [List.eraseIdx_cons_succ]
    exact (List.Perm.swap _ _ _).trans (ih.cons a)
def nameG (way2 : Bool) (sp : Nat) (wd : List Nat) (z : Str) : Nat :=
  if way2 = true then (cps z).length - 1 else if sp = 0 then (lets.idxOf ((cps z).getD 0 0) + 26 - lets.idxOf (wd.getD 0 0)) % 26 else (sgns.idxOf ((cps z).getD sp 0) + 36 - sgns.idxOf (wd.getD sp 0)) % 36
theorem nameG_way {sp : Nat} {wd : List Nat} {z : Str} {i : Nat} (h : cps z = wd.take (i + 1)) (hl : i < wd.length) : nameG true sp wd z = i := by
  unfold nameG
  rw [if_pos rfl, h, List.length_take]; omega
theorem nameG_let {wd : List Nat} {z : Str} {i e : Nat} {r : List Nat} (h : cps z = e :: r) (hi : i < 26) (hw : lets.idxOf (wd.getD 0 0) < 26) (he : lets[(lets.idxOf (wd.getD 0 0) + i) % 26]? = some e) : nameG false 0 wd z = i := by
  unfold nameG
  rw [if_neg (by decide), if_pos rfl, h]
  have := lets_idx (Nat.mod_lt _ (by decide)) he
  rw [show (e :: r).getD 0 0 = e from rfl, this]
  omega
theorem nameG_sgn {wd : List Nat} {z : Str} {i e sp : Nat} {r : List Nat} (h : cps z = wd.take sp ++ [e] ++ r) (hs : 0 < sp) (hsl : sp ≤ wd.length) (hi : i < 36) (hw : sgns.idxOf (wd.getD sp 0) < 36) (he : sgns[(sgns.idxOf (wd.getD sp 0) + i) % 36]? = some e) : nameG false sp wd z = i := by
  unfold nameG
  rw [if_neg (by decide), if_neg (by omega), h]
  have := sgns_idx (Nat.mod_lt _ (by decide)) he
  have e1 : (wd.take sp ++ [e] ++ r).getD sp 0 = e := by
    have hlen : (wd.take sp).length = sp := by rw [List.length_take]; omega
    rw [List.append_assoc, List.getD_eq_getElem?_getD, List.getElem?_append_right (by omega), hlen]
    simp
  rw [e1, this]
  omega
end DM
namespace DM
open PySem L2
open PyProof.Rows (b2i)
structure Upd (M : Mm) (old : List Addr) (M' : Mm) (X : List (Addr × MO)) : Prop where
  fr : ∀ x o, M x = some o → x ∉ old → M' x = some o
  at_ : ∀ q ∈ X, M' q.1 = some q.2 ∧ (q.1 ∈ old ∨ M q.1 = none)
  nd : (X.map (·.1)).Nodup
theorem Upd.sub {M M' M2 : Mm} {old : List Addr} {X : List (Addr × MO)} (h : Upd M old M' X) (e : Sub M' M2) : Upd M old M2 X := ⟨fun x o h1 h2 => e x o (h.fr x o h1 h2), fun q hq => ⟨e _ _ (h.at_ q hq).1, (h.at_ q hq).2⟩, h.nd⟩
theorem Upd.trans {M M' M2 : Mm} {old : List Addr} {X Y : List (Addr × MO)} (h : Upd M old M' X) (k : Upd M' old M2 Y) (hy : ∀ q ∈ Y, q.1 ∈ old) : Upd M old M2 Y :=
  ⟨fun x o h1 h2 => k.fr x o (h.fr x o h1 h2) h2, fun q hq => ⟨(k.at_ q hq).1, .inl (hy q hq)⟩, k.nd⟩
theorem Bx.upd {d c : Addr} {r : Nat} {M0 M M' : Mm} {X Y L : List (Addr × MO)} (b : Bx d c r M0 (X ++ L) M) (h : Upd M (X.map (·.1)) M' Y) : Bx d c r M0 (Y ++ L) M' := by
  have hX : ∀ x ∈ X.map (·.1), M0 x = none ∧ x ≠ d ∧ x ≠ c := fun x hx => by
    obtain ⟨q, hq, rfl⟩ := List.mem_map.mp hx
    exact (b.lo q (List.mem_append_left _ hq)).2
  have hnd := b.nd
  rw [List.map_append, List.nodup_append] at hnd
  obtain ⟨hn1, hn2, hn3⟩ := hnd
  have hnone : ∀ x, M x = none → M0 x = none ∧ x ≠ d ∧ x ≠ c := fun x hx => ⟨b.fresh hx, b.dk.nd hx, b.dk.nc hx⟩
  have hY : ∀ q ∈ Y, M0 q.1 = none ∧ q.1 ≠ d ∧ q.1 ≠ c := fun q hq => ((h.at_ q hq).2).elim (hX _) (hnone _)
  refine ⟨?_, ?_, ?_, ?_⟩
  · obtain ⟨hdc, Sd, ok, h1, h2⟩ := b.dk
    exact ⟨hdc, Sd, ok, h.fr _ _ h1 fun hm => (hX _ hm).2.1 rfl, h.fr _ _ h2 fun hm => (hX _ hm).2.2 rfl⟩
  · intro x o h1 h2 e
    exact h.fr x o (b.ex x o h1 h2 e) fun hm => by rw [(hX x hm).1] at e; cases e
  · intro q hq
    rcases List.mem_append.mp hq with hq | hq
    · exact ⟨(h.at_ q hq).1, hY q hq⟩
    · have := b.lo q (List.mem_append_right _ hq)
      exact ⟨h.fr _ _ this.1 fun hm => hn3 _ hm _ (List.mem_map.mpr ⟨q, hq, rfl⟩) rfl, this.2⟩
  · rw [List.map_append, List.nodup_append]
    refine ⟨h.nd, hn2, fun x hx y hy e => ?_⟩
    obtain ⟨q, hq, rfl⟩ := List.mem_map.mp hx
    obtain ⟨q2, hq2, rfl⟩ := List.mem_map.mp hy
    rcases (h.at_ q hq).2 with hm | hm
    · exact hn3 _ hm _ (List.mem_map.mpr ⟨q2, hq2, rfl⟩) e
    · have := (b.lo q2 (List.mem_append_right _ hq2)).1
      rw [← e, hm] at this
      cases this
theorem Bx.comm {d c : Addr} {r : Nat} {M0 M : Mm} {X L : List (Addr × MO)} (b : Bx d c r M0 (X ++ L) M) : Bx d c r M0 (L ++ X) M := by
  refine ⟨b.dk, b.ex, fun q hq => b.lo q (List.mem_append.mpr (List.mem_append.mp hq).symm), ?_⟩
  have := b.nd
  exact ((List.perm_append_comm (l₁ := X) (l₂ := L)).map _).nodup_iff.mp this
end DM
namespace DM
open PySem L2
open PyProof.Rows (b2i)
theorem Bx.perm {d c : Addr} {r : Nat} {M0 M : Mm} {L L' : List (Addr × MO)} (b : Bx d c r M0 L M) (h : L.Perm L') : Bx d c r M0 L' M := ⟨b.dk, b.ex, fun q hq => b.lo q (h.mem_iff.mpr hq), (h.map _).nodup_iff.mp b.nd⟩
end DM
namespace DM
open PySem PySem.Spec L2
open PyProof.Rows (b2i)
inductive Lk : MO → MO → Prop
  | k (ob : Obj) (us : List (Key × V)) (kvs : List (Key × D)) : Lk (.dic kvs) (.lkK ob us kvs)
  | t (ob : Obj) (us : List (List Key × V)) (kvs : List (List Key × D)) : Lk (.dit kvs) (.lkT ob us kvs)
def isDc : MO → Prop
  | .dic _ => True
  | .dit _ => True
  | _ => False
abbrev lkEnds (a : Addr) (o l : MO) (D : DEnds) : DEnds := ⟨fun ds M => M a = some l ∧ D.nx ds (mup M a o), fun v M => M a = some l ∧ D.rt v (mup M a o), fun _ _ _ _ => False, fun ds M => M a = some l ∧ D.bk ds (mup M a o), fun ds M => M a = some l ∧ D.ct ds (mup M a o)⟩
def dLkS (t : TDS) : TDS := fun D ds M => t D ds M ∨ ∃ a o, M a = some o ∧ isDc o ∧ ∀ l, Lk o l → t (lkEnds a o l D) ds (mup M a l)
theorem FR.getD {K : PySem.W.Frag} {H : HF} {κ : Type} : ∀ {ds : List (κ × D)} {vs : List (κ × V)} {i : Nat} {k : κ} {d : D}, FR K H ds vs → ds[i]? = some (k, d) → ∃ v, vs[i]? = some (k, v) ∧ VR K H d v
  | _, _, _, _, _, .nil, h => by simp at h
  | _, _, 0, _, _, .cons r _, h => by simp at h; obtain ⟨rfl, rfl⟩ := h; exact ⟨_, rfl, r⟩
  | _, _, i + 1, k, d, .cons _ t, h => by
    obtain ⟨v, h1, h2⟩ := FR.getD (i := i) (k := k) (d := d) t (by simpa using h)
    exact ⟨v, by simpa using h1, h2⟩
section
variable {ds : DSt} {M : Mm} {te : TDE} {a : Addr} {Q : DIt → Mm → Prop}
theorem lkEnds_e {o l : MO} {D : DEnds} : lkEnds a o l D = ⟨fun ds M => M a = some l ∧ D.nx ds (mup M a o), fun v M => M a = some l ∧ D.rt v (mup M a o), fun _ _ _ _ => False, fun ds M => M a = some l ∧ D.bk ds (mup M a o), fun ds M => M a = some l ∧ D.ct ds (mup M a o)⟩ := (rfl)
theorem sa_lk {t s : TDS} {D0 : DEnds} (h : ∀ Nx, KEq Nx (s D0) → dLkS t { D0 with nx := Nx } ds M) : dSeq (dLkS t) s D0 ds M := h _ fun _ _ h => h
end
end DM
namespace DM
open PySem L2
open PyProof.Rows (b2i)
theorem fig_dig {k c : Nat} (h : c ∈ cps (Str.ofString (toString (k : Int)))) : 48 ≤ c ∧ c ≤ 57 := by
  have e : (toString (k : Int)) = Nat.repr k := rfl
  rw [e] at h
  unfold cps at h
  rw [Str.ofString_eq_toList] at h
  simp only [List.toList_toArray, List.mem_map] at h
  obtain ⟨ch, h1, rfl⟩ := h
  have h2 : ch ∈ Nat.toDigits 10 k := by simpa [Nat.repr] using h1
  have h3 := Nat.isDigit_of_mem_toDigits (by decide) (by decide) h2
  unfold Char.isDigit at h3
  simp at h3
  exact ⟨h3.1, h3.2⟩
theorem name_fig {z : Str} {k : Nat} (h : NameS z) : z ≠ Str.ofString (toString (k : Int)) := by
  rintro rfl
  obtain ⟨⟨c, r, h1, h2⟩, _⟩ := h
  have h3 := fig_dig (k := k) (c := c) (by rw [h1]; simp)
  simp only [lets, List.mem_map, List.mem_range] at h2
  omega
end DM
namespace DM
open PySem PySem.Spec PyProof.Rows L2
def keysTs : List D → Option (List (List Key))
  | [] => some []
  | d :: ds => match keyT d, keysTs ds with
    | some k, some ks => some (k :: ks)
    | _, _ => none
theorem keysTs_ne : ∀ {xs : List D} {ks : List (List Key)}, keysTs xs = some ks → ∀ k ∈ ks, k ≠ []
  | [], _, e => by cases e; exact fun _ h => nomatch h
  | d :: ds, ks, e => by
    unfold keysTs at e
    split at e
    · rename_i k ks' e1 e2
      cases e
      intro k' hm
      rcases List.mem_cons.mp hm with rfl | hm
      · exact (keyT_ne e1).2
      · exact keysTs_ne e2 k' hm
    · cases e
end DM
namespace DM
open PySem L2
open PyProof.Rows (b2i)
def stsOf (E : List Ed) (F : List Str) (z : Str) : Prop := (∃ e ∈ E, z = e.1 ∨ z = e.2.2) ∨ z ∈ F
theorem nodup_map {α β : Type} {f : α → β} (hf : ∀ a b, f a = f b → a = b) : ∀ {l : List α}, l.Nodup → (l.map f).Nodup
  | [], _ => by simp
  | a :: l, h => by
    have h' := List.nodup_cons.mp h
    rw [List.map_cons, List.nodup_cons]
    refine ⟨fun hm => ?_, nodup_map hf h'.2⟩
    obtain ⟨b, hb, e⟩ := List.mem_map.mp hm
    rw [← hf _ _ e] at h'
    exact h'.1 hb
end DM
namespace DM
open PySem L2
open PyProof.Rows (b2i)
theorem dgS_inj {a b : Nat} (h : dgS a = dgS b) : a = b := by
  have h1 : (toString (a : Int)) = toString (b : Int) := (iff_of_eq ofString_inj).mp h
  exact Nat.repr_inj.mp (show Nat.repr a = Nat.repr b from h1)
theorem Px.sub {M0 M M' : Mm} {L : List (Addr × MO)} (b : Px M0 L M) (s : Sub M M') : Px M0 L M' := ⟨fun a o h => s a o (b.ex a o h), fun q hq => ⟨s _ _ (b.lo q hq).1, (b.lo q hq).2⟩, b.nd⟩
end DM
namespace DM
open PySem L2
open PyProof.Rows (b2i)
def StS (s : Str) : Prop := s ≠ ("" : Str) ∧ s.length ≤ 8
theorem NameS.st {z : Str} (h : NameS z) : StS z := ⟨h.ne, h.word.1⟩
end DM
namespace DM
open PySem L2
open PyProof.Rows (b2i)
def insAll (E X : List Ed) : List Ed := X.foldl insE E
theorem insAll_nodup : ∀ {X E : List Ed}, E.Nodup → (insAll E X).Nodup
  | [], E, h => h
  | e :: X, E, h => insAll_nodup (X := X) (insE_nodup h)
theorem insAll_mem : ∀ {X E : List Ed} {x : Ed}, x ∈ insAll E X ↔ x ∈ E ∨ x ∈ X
  | [], E, x => by simp [insAll]
  | e :: X, E, x => by
    show x ∈ insAll (insE E e) X ↔ _
    rw [insAll_mem, insE_mem, List.mem_cons]
    exact or_assoc
end DM
namespace DM
open PySem L2
open PyProof.Rows (b2i)
theorem stepF_some {r : Rl} {w : List Str} : DM.stepF r (r.p, r.m :: w) = some (r.o, r.w ++ w) := by
  unfold DM.stepF
  rw [if_pos ⟨rfl, rfl⟩]
  rfl
end DM
namespace DM
open PySem L2
open PyProof.Rows (b2i)
theorem getD_at {α : Type} {l : List α} {d : α} {i : Nat} (h : i < l.length) : l.getD i d = l[i] := by
  rw [List.getD_eq_getElem?_getD, List.getElem?_eq_getElem h]; rfl
theorem nod_at {α : Type} {l : List α} {d : α} (h : l.Nodup) {i j : Nat} (hi : i < l.length) (hj : j < l.length) (e : l.getD i d = l.getD j d) : i = j := by
  rw [getD_at hi, getD_at hj] at e
  rw [List.Nodup, List.pairwise_iff_getElem] at h
  rcases Nat.lt_trichotomy i j with c | c | c
  · exact absurd e (h i j hi hj c)
  · exact c
  · exact absurd e.symm (h j i hj hi c)
end DM
namespace DM
open PySem L2
open PyProof.Rows (b2i)
theorem idxOfS_get {i : Str} : ∀ {ns : List Str}, i ∈ ns → ns[ns.idxOf i]? = some i
  | [], h => by cases h
  | n :: ns, h => by
    rw [List.idxOf_cons]
    by_cases e : n = i
    · subst e; rw [beq_self_eq_true]; rfl
    · have : i ∈ ns := (List.mem_cons.mp h).resolve_left (fun z => e z.symm)
      rw [show (n == i) = false by simpa using e]; exact idxOfS_get this
end DM
namespace DM
open PySem PySem.Spec PyProof.Rows L2
def q5 : Nat → Nat
  | 0 => 0
  | n + 1 => q5 n * 5 + 1
theorem q5_lcg (m : Nat) : ∀ n, lcgN m n = q5 n % (m + 1)
  | 0 => (Nat.zero_mod _).symm
  | n + 1 => by
    show (lcgN m n * 5 + 1) % (m + 1) = _
    rw [q5_lcg m n, q5]
    simp [Nat.add_mod, Nat.mul_mod]
theorem q5_add (a : Nat) : ∀ d, q5 (d + a) = 5 ^ a * q5 d + q5 a := by
  induction a with
  | zero => intro d; simp [q5]
  | succ a ih =>
    intro d
    rw [← Nat.add_assoc, q5, ih, q5, Nat.pow_succ, Nat.add_mul, Nat.mul_assoc, Nat.mul_comm (q5 d) 5, ← Nat.mul_assoc, Nat.add_assoc]
theorem p5_mod (e : Nat) : 5 ^ e % 4 = 1 := by
  induction e with
  | zero => rfl
  | succ e ih => rw [Nat.pow_succ, Nat.mul_mod, ih]
theorem q5_par (n : Nat) : q5 n % 2 = n % 2 := by
  induction n with
  | zero => rfl
  | succ n ih => rw [q5]; omega
theorem q5_dbl (e : Nat) : q5 (e + e) = q5 e * (5 ^ e + 1) := by
  rw [q5_add, Nat.mul_add, Nat.mul_one, Nat.mul_comm]
theorem cop_odd {k n : Nat} (h : n % 2 = 1) : Nat.Coprime (2 ^ k) n := by
  refine Nat.Coprime.pow_left k ?_
  unfold Nat.Coprime
  rw [Nat.gcd_rec, h]; rfl
theorem q5_div : ∀ k d, 2 ^ k ∣ q5 d → 2 ^ k ∣ d
  | 0, d, _ => ⟨d, by simp⟩
  | k + 1, d, h => by
    have h2 : q5 d % 2 = 0 := by
      obtain ⟨c, hc⟩ := h
      rw [hc, Nat.pow_succ, Nat.mul_assoc, Nat.mul_left_comm]
      exact Nat.mul_mod_right _ _
    have hd : d % 2 = 0 := by rw [← q5_par]; exact h2
    obtain ⟨e, rfl⟩ : ∃ e, d = e + e := ⟨d / 2, by omega⟩
    obtain ⟨u, hu⟩ : ∃ u, 5 ^ e + 1 = 2 * u ∧ u % 2 = 1 := ⟨(5 ^ e + 1) / 2, by have := p5_mod e; omega⟩
    rw [q5_dbl, hu.1, Nat.mul_left_comm, Nat.pow_succ, Nat.mul_comm (2 ^ k) 2] at h
    have h3 : 2 ^ k ∣ q5 e * u := Nat.dvd_of_mul_dvd_mul_left (by decide) h
    obtain ⟨c, hc⟩ := q5_div k e ((cop_odd hu.2).dvd_of_dvd_mul_right h3)
    exact ⟨c, by rw [Nat.pow_succ, hc, Nat.mul_right_comm, Nat.mul_two]⟩
theorem q5_full : ∀ k, 2 ^ k ∣ q5 (2 ^ k)
  | 0 => ⟨1, rfl⟩
  | k + 1 => by
    obtain ⟨c, hc⟩ := q5_full k
    obtain ⟨u, hu⟩ : ∃ u, 5 ^ 2 ^ k + 1 = 2 * u := ⟨(5 ^ 2 ^ k + 1) / 2, by have := p5_mod (2 ^ k); omega⟩
    rw [Nat.pow_succ, show 2 ^ k * 2 = 2 ^ k + 2 ^ k by omega, q5_dbl, hc, hu]
    exact ⟨c * u, by rw [← Nat.two_mul, Nat.mul_comm 2 (2 ^ k)]; simp [Nat.mul_assoc, Nat.mul_left_comm]⟩
structure MaskG (m : Nat) : Prop where
  pw : ∃ k, m + 1 = 2 ^ k
  od : m % 2 = 1
  le : m ≤ 8191
section
variable {m : Nat}
theorem MaskG.round (hm : MaskG m) (n : Nat) : lcgN m (n + (m + 1)) = lcgN m n := by
  obtain ⟨k, hk⟩ := hm.pw
  rw [q5_lcg, q5_lcg, Nat.add_comm n, q5_add, hk]
  obtain ⟨c, hc⟩ := q5_full k
  rw [hc, ← Nat.mul_assoc, Nat.mul_comm (5 ^ n), Nat.mul_assoc, Nat.mul_add_mod]
theorem MaskG.inj (hm : MaskG m) {a b : Nat} (h : a < b) (hb : b ≤ m) : lcgN m a ≠ lcgN m b := by
  intro e
  obtain ⟨k, hk⟩ := hm.pw
  obtain ⟨d, rfl⟩ : ∃ d, b = d + a := ⟨b - a, by omega⟩
  rw [q5_lcg, q5_lcg, q5_add, hk] at e
  have h1 : 2 ^ k ∣ 5 ^ a * q5 d := by
    have h3 := Nat.sub_mod_eq_zero_of_mod_eq e.symm
    rw [Nat.add_sub_cancel] at h3
    exact Nat.dvd_of_mod_eq_zero h3
  have h5 : 5 ^ a % 2 = 1 := by have := p5_mod a; omega
  have h6 := Nat.le_of_dvd (by omega) (q5_div k d ((cop_odd h5).dvd_of_dvd_mul_left h1))
  omega
theorem MaskG.all (hm : MaskG m) {j : Nat} (hj : j ≤ m) : ∃ b, b ≤ m ∧ lcgN m b = j := by
  have hlt : ∀ b, lcgN m b ≤ m := fun b => by rw [q5_lcg]; exact Nat.le_of_lt_succ (Nat.mod_lt _ (by omega))
  have nd : ((List.range (m + 1)).map (lcgN m)).Nodup := by
    refine List.pairwise_iff_getElem.mpr fun a b ha hb h => ?_
    simp only [List.length_map, List.length_range] at ha hb
    rw [List.getElem_map, List.getElem_map, List.getElem_range, List.getElem_range]
    exact hm.inj h (by omega)
  rcases Classical.em (j ∈ (List.range (m + 1)).map (lcgN m)) with c | c
  · obtain ⟨b, hb, e⟩ := List.mem_map.mp c
    exact ⟨b, Nat.le_of_lt_succ (List.mem_range.mp hb), e⟩
  · have := nat_nodup_len _ ((List.range (m + 1)).erase j) nd fun x hx => by
      obtain ⟨b, hb, rfl⟩ := List.mem_map.mp hx
      exact (List.mem_erase_of_ne (fun e => c (by rw [← e]; exact hx))).mpr (List.mem_range.mpr (Nat.lt_succ_of_le (hlt b)))
    rw [List.length_map, List.length_range, List.length_erase_of_mem (List.mem_range.mpr (by omega)), List.length_range] at this
    omega
theorem MaskG.from (hm : MaskG m) {i j : Nat} (hi : i ≤ m) (hj : j ≤ m) : ∃ k, k ≤ m ∧ lcgI m i k = j := by
  obtain ⟨a, ha, rfl⟩ := hm.all hi
  obtain ⟨b, hb, rfl⟩ := hm.all hj
  by_cases h : a ≤ b
  · exact ⟨b - a, by omega, by rw [lcgN_add, Nat.add_sub_cancel' h]⟩
  · exact ⟨b + (m + 1) - a, by omega, by rw [lcgN_add, ← hm.round b]; congr 1; omega⟩
theorem MaskG.run (hm : MaskG m) (h : Int) {j : Nat} (hj : j ≤ m) : ∃ n, n < SetTable.turns m ∧ runI m (SetTable.bits h) n = j := by
  obtain ⟨k, hk, e⟩ := hm.from (runI_le m (SetTable.bits h) 12) hj
  refine ⟨12 + k, by unfold SetTable.turns; omega, (runI_tail (bits_lt h) k).trans e⟩
abbrev pr (m : Nat) (h : Int) (c : Nat) : SetTable.Probe := nth m (runAt m (SetTable.bits h % (m + 1)) (SetTable.bits h)) c
theorem pr_le (h : Int) (c : Nat) : (pr m h c).j ≤ m := by
  have h1 : SetTable.bits h % (m + 1) ≤ m := Nat.le_of_lt_succ (Nat.mod_lt _ (by omega))
  have h2 := runEnd_bd h1
  exact Nat.le_trans (Nat.le_add_right _ _) (nth_in c (runAt m (SetTable.bits h % (m + 1)) (SetTable.bits h)) (by simp only [runAt]; omega))
theorem MaskG.meets (hm : MaskG m) (h : Int) {j : Nat} (hj : j ≤ m) : ∃ c, c < 10 * SetTable.turns m ∧ (pr m h c).j = j := by
  obtain ⟨n, hn, rfl⟩ := hm.run h hj
  obtain ⟨c, hc, e⟩ := run_nth m (SetTable.bits h) n
  exact ⟨c, by omega, congrArg SetTable.Probe.j e⟩
end
def Come (t : SetTable) (h : Int) (j : Nat) : Prop := ∃ c, (pr t.mask h c).j = j ∧ ∀ i, i < c → (pr t.mask h i).j ∈ t.place.toList
structure TabG (t : SetTable) (hs : List Int) : Prop where
  up : Ris t.place.toList
  no : t.dummies = #[]
  ln : t.place.toList.length = hs.length
  mg : MaskG t.mask
  le : ∀ x ∈ t.place.toList, x ≤ t.mask
  go : ∀ (i : Nat) (h : Int) (j : Nat), hs[i]? = some h → t.place.toList[i]? = some j → Come t h j
section
variable {t : SetTable} {hs : List Int} {h : Int} {K : Nat}
theorem TabG.free (T : TabG t hs) (hl : hs.length ≤ t.mask) (h : Int) : ∃ K, K < 10 * SetTable.turns t.mask ∧ (pr t.mask h K).j ∉ t.place.toList ∧ ∀ c, c < K → (pr t.mask h c).j ∈ t.place.toList := by
  obtain ⟨j, hj, hn⟩ := st_missing t.place.toList (t.mask + 1) (by have := T.ln; omega)
  obtain ⟨c, hc, rfl⟩ := T.mg.meets h (Nat.le_of_lt_succ hj)
  obtain ⟨K, h1, h2, h3⟩ := st_least (p := fun c => (pr t.mask h c).j ∉ t.place.toList) c hn
  exact ⟨K, by omega, h2, fun c' hc' => Classical.not_not.mp (h3 c' hc')⟩
theorem Come.ahead {j : Nat} (C : Come t h j) (hj : j ∈ t.place.toList) (hK : (pr t.mask h K).j ∉ t.place.toList) : ∃ c, c < K ∧ (pr t.mask h c).j = j := by
  obtain ⟨c, e, hb⟩ := C
  refine ⟨c, Nat.lt_of_not_le fun hle => ?_, e⟩
  rcases Nat.lt_or_eq_of_le hle with z | z
  · exact hK (hb K z)
  · rw [z, e] at hK
    exact hK hj
theorem TabG.put (T : TabG t hs) (hK : (pr t.mask h K).j ∉ t.place.toList) (hb : ∀ c, c < K → (pr t.mask h c).j ∈ t.place.toList) :
    SetTable.below t.place (pr t.mask h K).j ≤ hs.length ∧ TabG (t.put (pr t.mask h K).j).1 (hs.take (SetTable.below t.place (pr t.mask h K).j) ++ h :: hs.drop (SetTable.below t.place (pr t.mask h K).j)) ∧ (t.put (pr t.mask h K).j).1.fill = hs.length + 1 := by
  have hle := pr_le (m := t.mask) h K
  generalize hj : (pr t.mask h K).j = j at *
  have hp : SetTable.below t.place j ≤ t.place.toList.length := (below_cut T.up j).1
  have hp2 := hp
  rw [T.ln] at hp2
  have e := put_place t j
  have e2 := put_dm T.no j
  have hl : (t.put j).1.place.toList.length = hs.length + 1 := by rw [e, len_ins _ hp, T.ln]
  have sub : ∀ x ∈ t.place.toList, x ∈ (t.put j).1.place.toList := fun x hx => by rw [e]; exact mem_ins.mpr (.inr hx)
  refine ⟨hp2, ⟨ris_insert T.up fun z => hK (List.mem_of_getElem? (by rwa [Array.getElem?_toList])), e2, by rw [hl, len_ins _ hp2], T.mg, fun x hx => ?_, fun i h' j' g1 g2 => ?_⟩, ?_⟩
  · rw [e] at hx
    rcases mem_ins.mp hx with rfl | hx
    · exact hle
    · exact T.le x hx
  · rw [tins_get _ hp2] at g1
    rw [e, tins_get _ hp] at g2
    have old : ∀ i, hs[i]? = some h' → t.place.toList[i]? = some j' → Come (t.put j).1 h' j' := fun i a b => by
      obtain ⟨c, h1, h2⟩ := T.go i h' j' a b
      exact ⟨c, h1, fun i hi => sub _ (h2 i hi)⟩
    split at g1
    · rename_i hi
      rw [if_pos hi] at g2
      exact old i g1 g2
    · rename_i hi
      rw [if_neg hi] at g2
      split at g1
      · rename_i hi2
        rw [if_pos hi2] at g2
        cases g1
        cases g2
        exact ⟨K, hj, fun c hc => sub _ (hb c hc)⟩
      · rename_i hi2
        rw [if_neg hi2] at g2
        exact old _ g1 g2
  · unfold SetTable.fill
    rw [← Array.length_toList, hl, e2]; rfl
end
end DM
namespace DM
open PySem PySem.Spec PyProof.Rows L2
section
variable {m : Nat} {owner : Array (Option Nat)} {done : List Int}
abbrev frees (m : Nat) (owner : Array (Option Nat)) (h : Int) : Option Nat := SetTable.layClean.free m owner (SetTable.turns m) (SetTable.bits h % (m + 1)) (SetTable.bits h)
theorem MaskG.finds (hm : MaskG m) (owner : Array (Option Nat)) (h : Int) {j : Nat} (hj : j ≤ m) (hf : oAt owner j = none) :
    ∃ K, frees m owner h = some (pr m h K).j ∧ oAt owner (pr m h K).j = none ∧ ∀ c, c < K → oAt owner (pr m h c).j ≠ none := by
  obtain ⟨n, hn, rfl⟩ := hm.run h hj
  have e : (pr m h (off m (SetTable.bits h % (m + 1)) (SetTable.bits h) n)).j = runI m (SetTable.bits h) n := by
    unfold pr
    rw [nth_off, itL_run]; rfl
  obtain ⟨K, h1, h2, h3⟩ := st_least (p := fun c => oAt owner (pr m h c).j = none) _ (by rw [e]; exact hf)
  refine ⟨K, free_spec m owner _ n _ _ K hn h1 (fun c hc => ?_) (by rw [h2]; rfl), h2, h3⟩
  have := h3 c hc
  cases z : oAt owner (pr m h c).j with
  | none => exact absurd z this
  | some k => rfl
theorem Own.more (hm : MaskG m) (W : Own m done owner) (hl : done.length ≤ m) (h : Int) : ∃ j, frees m owner h = some j ∧ Own m (done ++ [h]) (owner.setIfInBounds j (some done.length)) := by
  obtain ⟨ps, hps, hin⟩ := W.ps
  obtain ⟨j0, hlt, hnot⟩ := st_missing ps (m + 1) (by omega)
  have hfree : oAt owner j0 = none := Classical.byContradiction fun z => hnot (hin j0 (by omega) z)
  obtain ⟨K, e1, e2, e3⟩ := hm.finds owner h (Nat.le_of_lt_succ hlt) hfree
  have hle := pr_le (m := m) h K
  generalize hj : (pr m h K).j = j at *
  have self := oAt_set_self (owner := owner) (j := j) (some done.length) (by rw [W.sz]; omega)
  have stay : ∀ i, oAt owner i ≠ none → oAt (owner.setIfInBounds j (some done.length)) i ≠ none := fun i hi => by
    rcases Nat.decEq i j with c | c
    · rwa [oAt_set_ne _ c]
    · rw [c, self]; simp
  refine ⟨j, e1, ⟨by rw [Array.size_setIfInBounds, W.sz], fun i k hi e => ?_, fun k hk => ?_, j :: ps, by simp [hps], fun i hi e => ?_⟩⟩
  · rcases Nat.decEq i j with c | c
    · rw [oAt_set_ne _ c] at e
      obtain ⟨h', K', g1, g2, g3⟩ := W.at_ i k hi e
      exact ⟨h', K', by rw [List.getElem?_append_left (List.getElem?_eq_some_iff.mp g1).1]; exact g1, g2, fun c hc => stay _ (g3 c hc)⟩
    · rw [c, self] at e
      cases e
      exact ⟨h, K, by simp, by rw [c]; exact hj, fun c hc => stay _ (e3 c hc)⟩
  · rcases Nat.lt_or_ge k done.length with c | c
    · obtain ⟨i, hi, e⟩ := W.all k c
      exact ⟨i, hi, by rwa [oAt_set_ne _ fun z => by rw [z, e2] at e; cases e]⟩
    · simp only [List.length_append, List.length_cons, List.length_nil] at hk
      obtain rfl : k = done.length := by omega
      exact ⟨j, hle, self⟩
  · rcases Nat.decEq i j with c | c
    · rw [oAt_set_ne _ c] at e
      exact List.mem_cons_of_mem _ (hin i hi e)
    · rw [c]; exact List.mem_cons_self
theorem Own.rest (hm : MaskG m) (left : List Int) : ∀ (done : List Int) (owner : Array (Option Nat)), Own m done owner → done.length + left.length ≤ m → ∃ o', left.foldl (L2.stepF m) (some (owner, done.length)) = some (o', (done ++ left).length) ∧ Own m (done ++ left) o' := by
  induction left with
  | nil => exact fun done owner W _ => ⟨owner, by simp, by simpa using W⟩
  | cons h left ih =>
    intro done owner W hl
    simp only [List.length_cons] at hl
    obtain ⟨j, e, W1⟩ := Own.more hm W (by omega) h
    obtain ⟨o', e2, W2⟩ := ih _ _ W1 (by simp; omega)
    refine ⟨o', ?_, by simpa using W2⟩
    rw [List.foldl_cons, L2.stepF_some e]
    simpa using e2
theorem lay_own (hm : MaskG m) {hs : Array Int} (hn : hs.size ≤ m) : ∃ o', SetTable.layClean m hs = some o' ∧ Own m hs.toList o' := by
  obtain ⟨o', e, W⟩ := Own.rest hm hs.toList [] _ (Own.init m) (by simpa using hn)
  refine ⟨o', ?_, W⟩
  have e' : hs.toList.foldl (L2.stepF m) (some (Array.replicate (m + 1) none, 0)) = some (o', ([] ++ hs.toList).length) := e
  rw [layClean_eq, e']; rfl
end
theorem lay_anew (t : SetTable) {hs : Array Int} {wanted M : Nat} (hw : SetTable.sizeAbove wanted - 1 = M) (hM : MaskG M) (hn : hs.size ≤ M) :
    ∃ t' order, t.relaid hs wanted = some (t', order) ∧ order.toList.Perm (List.range hs.size) ∧ TabG t' (order.toList.map fun i => hs.getD i 0) ∧ t'.mask = M ∧ t'.led = t.led ∧ t'.plain = t.plain := by
  obtain ⟨owner, e, W⟩ := lay_own hM hn
  obtain ⟨r1, r2⟩ := ris_live (fun j => owner.getD j none) (List.range (M + 1)) List.pairwise_lt_range
  have hmem : ∀ {j k}, (j, k) ∈ liveOf M owner ↔ j ≤ M ∧ oAt owner j = some k := mem_live W.sz
  have fst_le : ∀ x ∈ (liveOf M owner).map (·.1), x ≤ M := fun x hx => Nat.le_of_lt_succ (List.mem_range.mp (r2 x hx))
  have hall : ∀ k, k < hs.size → k ∈ (liveOf M owner).map (·.2) := fun k hk => by
    obtain ⟨j, h1, h2⟩ := W.all k (by simpa using hk)
    exact List.mem_map.mpr ⟨(j, k), hmem.mpr ⟨h1, h2⟩, rfl⟩
  have hlen : (liveOf M owner).length = hs.size := by
    obtain ⟨ps, p1, p2⟩ := W.ps
    have up := nat_nodup_len ((liveOf M owner).map (·.1)) ps (by refine List.Pairwise.imp ?_ (show List.Pairwise (· < ·) ((liveOf M owner).map (·.1)) from r1); exact fun h => Nat.ne_of_lt h) fun x hx => by
      obtain ⟨⟨y, k⟩, hq, rfl⟩ := List.mem_map.mp hx
      obtain ⟨g1, g2⟩ := hmem.mp hq
      exact p2 y g1 (by rw [g2]; simp)
    have lo := nat_nodup_len (List.range hs.size) _ List.nodup_range fun k hk => hall k (List.mem_range.mp hk)
    simp only [List.length_map, List.length_range, Array.length_toList] at up lo p1
    omega
  refine ⟨tabOf t M owner, ((liveOf M owner).map (·.2)).toArray, by rw [relaid_eq, hw, e]; rfl, perm_range _ _ (by simp [hlen]) fun k hk => by simpa using hall k hk, ⟨r1, rfl, by simp [tabOf], hM, fst_le, fun i h j g1 g2 => ?_⟩, rfl, rfl, rfl⟩
  have g1 : (((liveOf M owner).map (·.2)).map fun i => hs.getD i 0)[i]? = some h := g1
  have g2 : ((liveOf M owner).map (·.1))[i]? = some j := g2
  simp only [List.getElem?_map] at g1 g2
  obtain ⟨⟨y, k⟩, hq, rfl⟩ := Option.map_eq_some_iff.mp g2
  rw [hq] at g1
  obtain ⟨b1, b2⟩ := hmem.mp (List.mem_of_getElem? hq)
  obtain ⟨h0, K, a1, a2, a3⟩ := W.at_ y k b1 b2
  have e0 : hs.getD k 0 = h0 := by rw [Array.getD_eq_getD_getElem?, ← Array.getElem?_toList, a1]; rfl
  have e1 : hs.getD k 0 = h := by simpa using g1
  rw [e1] at e0
  subst e0
  refine ⟨K, a2, fun c hc => ?_⟩
  show (pr M h c).j ∈ (liveOf M owner).map (·.1)
  obtain ⟨k2, z⟩ := Option.ne_none_iff_exists'.mp (a3 c hc)
  exact List.mem_map.mpr ⟨((pr M h c).j, k2), hmem.mpr ⟨pr_le h c, z⟩, rfl⟩
theorem maskG_of {k : Nat} (h3 : 3 ≤ k) (h13 : k ≤ 13) : MaskG (2 ^ k - 1) := by
  have h1 : 2 ^ 3 ≤ 2 ^ k := Nat.pow_le_pow_right (by decide) h3
  have h2 : 2 ^ k ≤ 2 ^ 13 := Nat.pow_le_pow_right (by decide) h13
  refine ⟨⟨k, by omega⟩, ?_, by omega⟩
  obtain ⟨j, rfl⟩ : ∃ j, k = j + 1 := ⟨k - 1, by omega⟩
  rw [Nat.pow_succ] at *
  omega
def Mk6 (m : Nat) : Prop := m = 7 ∨ m = 31 ∨ m = 127 ∨ m = 511 ∨ m = 2047 ∨ m = 8191
theorem Mk6.g {m : Nat} (h : Mk6 m) : MaskG m := by
  rcases h with rfl | rfl | rfl | rfl | rfl | rfl
  · exact maskG_of (k := 3) (by decide) (by decide)
  · exact maskG_of (k := 5) (by decide) (by decide)
  · exact maskG_of (k := 7) (by decide) (by decide)
  · exact maskG_of (k := 9) (by decide) (by decide)
  · exact maskG_of (k := 11) (by decide) (by decide)
  · exact maskG_of (k := 13) (by decide) (by decide)
theorem grow_5 : SetTable.sizeAbove (SetTable.grown 5) - 1 = 31 := by decide +kernel
theorem grow_19 : SetTable.sizeAbove (SetTable.grown 19) - 1 = 127 := by decide +kernel
theorem grow_77 : SetTable.sizeAbove (SetTable.grown 77) - 1 = 511 := by decide +kernel
theorem grow_307 : SetTable.sizeAbove (SetTable.grown 307) - 1 = 2047 := by decide +kernel
theorem grow_1229 : SetTable.sizeAbove (SetTable.grown 1229) - 1 = 8191 := by decide +kernel
theorem Mk6.next {m n : Nat} (h : Mk6 m) (h1 : n * 5 < m * 3) (h2 : m * 3 ≤ (n + 1) * 5) (h3 : n + 1 < 4900) : ∃ M, SetTable.sizeAbove (SetTable.grown (n + 1)) - 1 = M ∧ Mk6 M ∧ (n + 1) * 5 < M * 3 := by
  rcases h with rfl | rfl | rfl | rfl | rfl | rfl
  · obtain rfl : n = 4 := by omega
    exact ⟨_, grow_5, .inr (.inl rfl), by omega⟩
  · obtain rfl : n = 18 := by omega
    exact ⟨_, grow_19, .inr (.inr (.inl rfl)), by omega⟩
  · obtain rfl : n = 76 := by omega
    exact ⟨_, grow_77, .inr (.inr (.inr (.inl rfl))), by omega⟩
  · obtain rfl : n = 306 := by omega
    exact ⟨_, grow_307, .inr (.inr (.inr (.inr (.inl rfl)))), by omega⟩
  · obtain rfl : n = 1228 := by omega
    exact ⟨_, grow_1229, .inr (.inr (.inr (.inr (.inr rfl)))), by omega⟩
  · omega
end DM
namespace DM
open PySem PySem.Spec PyProof.Rows L2
abbrev IsM (P : Program) (w : World) (h : Heap) (k : List Key) (a : Addr) : Prop := IsTupleKey (mixKind P w) h k a
abbrev hsh (P : Program) (w : World) (k : List Key) : Int := tupleKeyHash (mixKind P w) k
section
variable {P : Program} {w : World} {A : Around} {E : Value → Shared → Prop} {s : Shared}
theorem parts_by {k : List Key} {vs : List Value} (h : ItemsAre (mixKind P w) k vs) : ∀ v ∈ vs, ∃ x, keyIs x v = true := by
  induction h with
  | nil => intro v hv; simp at hv
  | cons h1 _ ih => exact fun v hv => (List.mem_cons.mp hv).elim (fun e => ⟨_, e ▸ h1⟩) (ih v)
theorem part_class (n : Nat) {x : Key} {v : Value} (h : keyIs x v = true) : ofAClassStatement n v = pure false := by
  rcases keyIs_shape h with ⟨i, t, _, rfl⟩ | ⟨z, t, _, rfl⟩ <;> cases n <;> rfl
theorem part_hash (n : Nat) {x : Key} {v : Value} (h : keyIs x v = true) : hashByValue n v = pure (plainKind v) := hashByValue_scannable n (scan_is h)
theorem tup_class {k : List Key} {b : Addr} {Q : Bool → Shared → Prop} (hk : IsM P w s.heap k b) (h : Q false s) : wpAny (model P w) A (ofAClassStatement 8 (.ref b)) Q E s := by
  have ty := hk.typeIs
  obtain ⟨o, items, n, at_, _, dt, its⟩ := hk
  unfold ofAClassStatement
  refine wpAny_bind (wpAny_typeOf ty ?_)
  simp only [beq_self_eq_true, if_true, Bool.not_true, Bool.false_eq_true, if_false]
  refine wpAny_bind (wpAny_pure ?_)
  simp only [Bool.not_true, Bool.false_eq_true, if_false]
  refine wpAny_bind (wpAny_seqItems at_ dt (wpAny_bind ?_))
  rw [← Array.forIn_toList]
  refine wpAny_forIn_list _ (fun left r t => (r.1 = none ∧ t = s) ∧ ∀ v ∈ left, ∃ x, keyIs x v = true) _ (fun v left r t hr => ?_) (fun r t hr => ?_) _ _ ⟨⟨rfl, rfl⟩, parts_by its⟩
  · obtain ⟨⟨_, rfl⟩, hl⟩ := hr
    obtain ⟨x, hx⟩ := hl v List.mem_cons_self
    rw [part_class _ hx]
    refine wpAny_bind (wpAny_pure ?_)
    simp only [Bool.false_eq_true, if_false]
    exact wpAny_pure ⟨⟨rfl, rfl⟩, fun u hu => hl u (List.mem_cons_of_mem _ hu)⟩
  · obtain ⟨r1, r2⟩ := r
    obtain ⟨⟨e, rfl⟩, _⟩ := hr
    cases e
    exact wpAny_pure h
theorem tup_hash {k : List Key} {b : Addr} {Q : Bool → Shared → Prop} (hk : IsM P w s.heap k b) (h : ∀ r, Q r s) : wpAny (model P w) A (hashByValue 8 (.ref b)) Q E s := by
  have ty := hk.typeIs
  obtain ⟨o, items, n, at_, _, dt, its⟩ := hk
  unfold hashByValue
  refine wpAny_bind (wpAny_specialOf ty F.slot_tuple_hash.lookup (wpAny_bind (wpAny_seqItems at_ dt (wpAny_bind ?_))))
  simp only [Option.getD_some]
  rw [← Array.forIn_toList]
  refine wpAny_forIn_list _ (fun left r t => (r.1 = none ∧ t = s) ∧ ∀ v ∈ left, ∃ x, keyIs x v = true) _ (fun v left r t hr => ?_) (fun r t hr => ?_) _ _ ⟨⟨rfl, rfl⟩, parts_by its⟩
  · obtain ⟨⟨_, rfl⟩, hl⟩ := hr
    obtain ⟨x, hx⟩ := hl v List.mem_cons_self
    rw [part_hash _ hx]
    refine wpAny_bind (wpAny_pure ?_)
    cases plainKind v with
    | true => exact wpAny_pure ⟨⟨rfl, rfl⟩, fun u hu => hl u (List.mem_cons_of_mem _ hu)⟩
    | false => exact wpAny_pure (wpAny_pure (h _))
  · obtain ⟨r1, r2⟩ := r
    obtain ⟨⟨e, rfl⟩, _⟩ := hr
    cases e
    exact wpAny_pure (h _)
theorem tups_seen {k : List Key} {b : Addr} {Q : Bool → Shared → Prop} (hk : IsM P w s.heap k b) {ys : List Value} (hy : ∀ y ∈ ys, ∃ k' c, y = .ref c ∧ IsM P w s.heap k' c) (h : Q false s) : wpAny (model P w) A (searchCouldBeSeen (.ref b) ys) Q E s := by
  unfold searchCouldBeSeen
  refine wpAny_bind (wpAny_forIn_list _ (fun left r t => (r.1 = none ∧ t = s) ∧ ∀ y ∈ left, ∃ k' c, y = .ref c ∧ IsM P w s.heap k' c) _ (fun v left r t hr => ?_) (fun r t hr => ?_) _ _ ⟨⟨rfl, rfl⟩, hy⟩)
  · obtain ⟨⟨_, rfl⟩, hl⟩ := hr
    obtain ⟨k', c, rfl, hc⟩ := hl v List.mem_cons_self
    have on : ∀ y ∈ left, ∃ k' c, y = .ref c ∧ IsM P w t.heap k' c := fun u hu => hl u (List.mem_cons_of_mem _ hu)
    dsimp only
    by_cases q : (b == c || (carriedByValue (.ref b) && carriedByValue (.ref c))) = true
    · exact wp_if_pos q (wpAny_pure ⟨⟨rfl, rfl⟩, on⟩)
    · refine wp_if_neg q (wpAny_bind (wpAny_eqIsQuiet_tuple hk ?_))
      simp only [Bool.not_true, Bool.false_eq_true, if_false]
      refine wpAny_bind (wpAny_eqIsQuiet_tuple hc ?_)
      simp only [Bool.not_true, Bool.false_eq_true, if_false]
      refine wpAny_bind (tup_class hk ?_)
      simp only [Bool.false_eq_true, if_false]
      refine wpAny_bind (tup_class hc ?_)
      simp only [Bool.false_eq_true, if_false]
      exact wpAny_pure ⟨⟨rfl, rfl⟩, on⟩
  · obtain ⟨r1, r2⟩ := r
    obtain ⟨⟨e, rfl⟩, _⟩ := hr
    cases e
    exact wpAny_pure h
abbrev Mem := Addr × List Key
def ent (P : Program) (w : World) (p : Mem) : Int × Value := (hsh P w p.2, .ref p.1)
structure SetG (P : Program) (w : World) (h : Heap) (a : Addr) (L : List Mem) (o : Obj) (es : Array (Int × Value)) (ep : Nat) (t : SetTable) : Prop where
  at_ : h.get? a = some o
  ex : o.ExactSet
  dt : o.data = .set es ep t
  ls : es.toList = L.map (ent P w)
  tb : TabG t (L.map fun p => hsh P w p.2)
  nd : (L.map (·.2)).Nodup
  tp : ∀ p ∈ L, IsM P w h p.2 p.1
  ld : w.params.followText "set-order" = true ∨ t.led = true
  rm : L.length * 5 < t.mask * 3
  m6 : Mk6 t.mask
variable {a x : Addr} {k : List Key} {L : List Mem} {o : Obj} {es : Array (Int × Value)} {ep : Nat} {t : SetTable}
theorem SetG.len (R : SetG P w s.heap a L o es ep t) : es.size = L.length := by
  rw [← Array.length_toList, R.ls, List.length_map]
theorem SetG.pln (R : SetG P w s.heap a L o es ep t) : t.place.size = L.length := by
  have := R.tb.ln
  rwa [List.length_map, Array.length_toList] at this
theorem SetG.fit (R : SetG P w s.heap a L o es ep t) : t.fits es.size = true := by
  have h1 := R.len
  have h2 := R.pln
  have h3 := R.rm
  have h4 : t.dummies.size = 0 := by rw [R.tb.no]; rfl
  simp only [SetTable.fits, SetTable.fill, Bool.and_eq_true, beq_iff_eq]
  exact ⟨by omega, decide_eq_true (by omega)⟩
theorem SetG.get (R : SetG P w s.heap a L o es ep t) {i : Nat} {p : Mem} (h : L[i]? = some p) : es[i]? = some (ent P w p) := by
  rw [← Array.getElem?_toList, R.ls, List.getElem?_map, h]; rfl
theorem SetG.whole (R : SetG P w s.heap a L o es ep t) : ¬ t.gaveWay = true := by
  simp only [SetTable.gaveWay, R.tb.mg.od]
  decide
def ha (es : Array (Int × Value)) (i : Nat) : Int := (es[i]?.map (·.1)).getD 0
theorem SetG.ha (R : SetG P w s.heap a L o es ep t) {i : Nat} {p : Mem} (h : L[i]? = some p) : DM.ha es i = hsh P w p.2 := by
  unfold DM.ha
  rw [R.get h]; rfl
theorem pr_add {m : Nat} {h : Int} (c d : Nat) : nth m (pr m h c) d = pr m h (c + d) := (nth_add m c _ d).symm
theorem pr_dummy {m : Nat} {h : Int} : ∀ c, (pr m h c).dummy = none := by
  have on : ∀ (c : Nat) (p : SetTable.Probe), p.dummy = none → (nth m p c).dummy = none := by
    intro c
    induction c with
    | zero => exact fun p e => e
    | succ c ih => exact fun p e => ih _ (by unfold adv; split <;> exact e)
  exact fun c => on c _ rfl
end
end DM
namespace DM
open PySem PySem.Spec PyProof.Rows L2
section
variable {P : Program} {w : World} {A : Around} {E : Value → Shared → Prop} {s : Shared}
variable {a x : Addr} {k : List Key} {L : List Mem} {o : Obj} {es : Array (Int × Value)} {ep : Nat} {t : SetTable}
theorem look_from (R : SetG P w s.heap a L o es ep t) (hx : IsM P w s.heap k x) (hu : A.units < cLine) {K : Nat} (hf : K < 10 * SetTable.turns t.mask)
    (hK : (pr t.mask (hsh P w k) K).j ∉ t.place.toList) (hb : ∀ c, c < K → (pr t.mask (hsh P w k) c).j ∈ t.place.toList) {Q : SetFound → Shared → Prop}
    (yes : k ∈ L.map (·.2) → Q (.there none) s) (no : k ∉ L.map (·.2) → Q (.free (pr t.mask (hsh P w k) K).j false) s) :
    ∀ (f c : Nat) (st : Option SetTable.Probe), st.getD (t.probeStart (hsh P w k)) = pr t.mask (hsh P w k) c → c ≤ K → K < f + c →
      (∀ (i : Nat) (p : Mem), L[i]? = some p → p.2 = k → ∃ c', c ≤ c' ∧ c' < K ∧ t.place.toList[i]? = some (pr t.mask (hsh P w k) c').j) →
      wpAny (model P w) A (setSearchFrom a (.ref x) (hsh P w k) true f st) Q E s := by
  intro f
  induction f with
  | zero => intro c st _ h1 h2; omega
  | succ f ih =>
    intro c st e hc hlt left
    rw [setSearchFrom_succ]
    refine wpAny_bind (wpAny_setState_of R.at_ R.dt R.fit ?_)
    dsimp only
    refine wp_if_neg R.whole ?_
    try refine wpAny_bind (wpAny_pure ?_)
    have sp := go_spec t R.tb.up R.tb.no (DM.ha es) (hsh P w k) (10 * SetTable.turns t.mask) (K - c) (pr t.mask (hsh P w k) c) (pr_dummy c) (by omega) (fun q hq => by rw [pr_add]; exact hb _ (by omega)) (by rw [pr_add, show c + (K - c) = K by omega]; exact hK)
    simp only [pr_add] at sp
    rw [e]
    rcases sp with ⟨q, i, hq, hi, _, before, ep'⟩ | ⟨before, ep'⟩
    · rw [show t.probe (fun i => (es[i]?.map (·.1)).getD 0) (hsh P w k) (pr t.mask (hsh P w k) c) = _ from ep']
      dsimp only
      have hil : i < L.length := by
        have h1 := (List.getElem?_eq_some_iff.mp hi).1
        rw [Array.length_toList, R.pln] at h1
        exact h1
      obtain ⟨p, hp⟩ : ∃ p, L[i]? = some p := ⟨_, List.getElem?_eq_getElem hil⟩
      have mp := List.mem_of_getElem? hp
      have sl : t.slot (pr t.mask (hsh P w k) (c + q)).j = .live i := slot_live R.tb.up hi
      have go : wpAny (model P w) A (searchRest a (.ref x) (hsh P w k) true f es t (pr t.mask (hsh P w k) (c + q)).j i (pr t.mask (hsh P w k) (c + (q + 1)))) Q E s := by
        unfold searchRest
        rw [R.get hp]
        simp only [ent]
        refine wpAny_bind (wpAny_holding (wpAny_eqBool_tuple hu (R.tp p mp) hx (wpAny_bind (wpAny_setState_of R.at_ R.dt R.fit ?_))))
        by_cases hk : p.2 = k
        · exact wp_if_pos (by simp [hk]) (wpAny_pure (yes (List.mem_map.mpr ⟨p, mp, hk⟩)))
        · refine wp_if_neg (by simp [hk]) ?_
          try refine wpAny_bind (wpAny_pure ?_)
          rw [sameMem]
          simp only [if_true, sl, R.get hp, ent]
          refine wpAny_bind (wpAny_isSame_ref_self (wpAny_bind (wpAny_pure ?_)))
          simp only [if_true]
          refine wp_if_neg (by simp [hk]) (ih (c + (q + 1)) _ rfl (by omega) (by omega) fun i0 p0 h0 hk0 => ?_)
          obtain ⟨c', g1, g2, g3⟩ := left i0 p0 h0 hk0
          refine ⟨c', Nat.lt_of_not_le fun hle => ?_, g2, g3⟩
          have hle : c' ≤ c + q := hle
          have hh : DM.ha es i0 = hsh P w k := by rw [R.ha h0, hk0]
          rcases Nat.lt_or_eq_of_le hle with z | z
          · refine before (c' - c) i0 (by omega) ?_ hh
            rw [show c + (c' - c) = c' by omega]; exact g3
          · rw [z] at g3
            have s2 := slot_live R.tb.up g3
            rw [sl] at s2
            cases s2
            rw [hp] at h0
            cases h0
            exact hk hk0
      by_cases hl : t.led = true
      · refine wp_if_neg (by simp [hl]) ?_
        try refine wpAny_bind (wpAny_pure ?_)
        exact go
      · refine wp_if_pos (by simp [hl]) (wpAny_bind (tups_seen hx (fun y hy => ?_) (wp_if_neg (by decide) ?_)))
        · obtain ⟨u, hu1, rfl⟩ := List.mem_map.mp hy
          have hu2 : u ∈ es.toList := by
            simp only [Array.toList_filter, List.mem_filter] at hu1
            exact hu1.1
          rw [R.ls] at hu2
          obtain ⟨p2, hp2, rfl⟩ := List.mem_map.mp hu2
          exact ⟨p2.2, p2.1, rfl, R.tp p2 hp2⟩
        · try refine wpAny_bind (wpAny_pure ?_)
          exact go
    · rw [show c + (K - c) = K by omega] at ep'
      rw [show t.probe (fun i => (es[i]?.map (·.1)).getD 0) (hsh P w k) (pr t.mask (hsh P w k) c) = _ from ep']
      dsimp only
      refine wpAny_pure (no fun hm => ?_)
      obtain ⟨p0, m0, hk0⟩ := List.mem_map.mp hm
      obtain ⟨i0, hi0, e0⟩ := List.getElem_of_mem m0
      have h0 : L[i0]? = some p0 := by rw [List.getElem?_eq_getElem hi0, e0]
      obtain ⟨c', g1, g2, g3⟩ := left i0 p0 h0 hk0
      refine before (c' - c) i0 (by omega) ?_ (by rw [R.ha h0, hk0])
      rw [show c + (c' - c) = c' by omega]; exact g3
theorem look_for (R : SetG P w s.heap a L o es ep t) (hx : IsM P w s.heap k x) (hu : A.units < cLine) {Q : SetFound → Shared → Prop} (yes : k ∈ L.map (·.2) → Q (.there none) s)
    (no : ∀ K, k ∉ L.map (·.2) → (pr t.mask (hsh P w k) K).j ∉ t.place.toList → (∀ c, c < K → (pr t.mask (hsh P w k) c).j ∈ t.place.toList) → Q (.free (pr t.mask (hsh P w k) K).j false) s) :
    wpAny (model P w) A (setSearch a (.ref x) (hsh P w k) true) Q E s := by
  have rm := R.rm
  obtain ⟨K, hf, hK, hb⟩ := R.tb.free (by rw [List.length_map]; omega) (hsh P w k)
  have big : K < 100000 := by
    have := R.tb.mg.le
    unfold SetTable.turns at hf
    omega
  unfold setSearch
  refine look_from R hx hu hf hK hb yes (fun h => no K h hK hb) 100000 0 none rfl (Nat.zero_le _) (by omega) fun i p hp hk => ?_
  have hlt : i < t.place.toList.length := by rw [Array.length_toList, R.pln]; exact (List.getElem?_eq_some_iff.mp hp).1
  have hg := List.getElem?_eq_getElem hlt
  have cm := R.tb.go i (hsh P w k) _ (by rw [List.getElem?_map, hp, ← hk]; rfl) hg
  obtain ⟨c, hc, e⟩ := cm.ahead (List.mem_of_getElem? hg) hK
  exact ⟨c, Nat.zero_le _, hc, by rw [hg, e]⟩
end
end DM
namespace DM
open PySem PySem.Spec PyProof.Rows L2
section
variable {P : Program} {w : World} {A : Around} {E : Value → Shared → Prop} {s : Shared}
variable {a x : Addr} {k : List Key} {L : List Mem} {o : Obj} {es : Array (Int × Value)} {ep : Nat} {t : SetTable}
theorem IsM.off {h h' : Heap} {b : Addr} (hb : IsM P w h k b) (ho : h.get? a = some o) (hd : o.data = .set es ep t) (hs : Heap.SameBut a h h') : IsM P w h' k b := by
  obtain ⟨o', items, n, e, c, d, i⟩ := hb
  refine ⟨o', items, n, ?_, c, d, i⟩
  rw [hs.2 b fun z => by subst z; rw [ho] at e; cases e; rw [hd] at d; cases d]
  exact e
theorem IsM.on {h h' : Heap} {b : Addr} (hb : IsM P w h k b) (hs : ∀ c o, h.get? c = some o → h'.get? c = some o) : IsM P w h' k b :=
  let ⟨o', items, n, e, r⟩ := hb
  ⟨o', items, n, hs _ _ e, r⟩
theorem ents_order {es : Array (Int × Value)} (hr : es.toList = L.map (ent P w)) : ∀ {ns : List Nat}, (∀ i ∈ ns, i < L.length) → ∃ L', L' = ns.filterMap (fun i => L[i]?) ∧ ns.filterMap (fun i => es[i]?) = L'.map (ent P w) ∧ (L'.map fun p => hsh P w p.2) = ns.map fun i => (es.map (·.1)).getD i 0 := by
  intro ns
  induction ns with
  | nil => exact fun _ => ⟨[], rfl, rfl, rfl⟩
  | cons i ns ih =>
    intro h
    obtain ⟨L', e1, e2, e3⟩ := ih fun j hj => h j (List.mem_cons_of_mem _ hj)
    obtain ⟨p, hp⟩ : ∃ p, L[i]? = some p := ⟨_, List.getElem?_eq_getElem (h i List.mem_cons_self)⟩
    have he : es[i]? = some (ent P w p) := by rw [← Array.getElem?_toList, hr, List.getElem?_map, hp]; rfl
    refine ⟨p :: L', by rw [List.filterMap_cons_some hp, e1], by rw [List.filterMap_cons_some he, e2]; rfl, ?_⟩
    rw [List.map_cons, List.map_cons, e3]
    congr 1
    rw [Array.getD_eq_getD_getElem?, Array.getElem?_map, he]; rfl
theorem range_get {α : Type} (l : List α) : (List.range l.length).filterMap (fun i => l[i]?) = l := by
  have : ∀ n, n ≤ l.length → (List.range n).filterMap (fun i => l[i]?) = l.take n := by
    intro n
    induction n with
    | zero => intro _; rfl
    | succ n ih =>
      intro hn
      rw [List.range_succ, List.filterMap_append, ih (by omega), List.take_add_one, List.getElem?_eq_getElem (show n < l.length by omega), List.filterMap_cons_some (List.getElem?_eq_getElem (show n < l.length by omega))]
      rfl
  rw [this _ (Nat.le_refl _), List.take_length]
theorem anew (ho : s.heap.get? a = some o) (ex : o.ExactSet) (hd : o.data = .set es ep t) (ls : es.toList = L.map (ent P w)) (hz : t.place.size = es.size) (no : t.dummies = #[]) (fl : es.size ≤ t.mask) (nd : (L.map (·.2)).Nodup) (tp : ∀ p ∈ L, IsM P w s.heap p.2 p.1)
    (ld : w.params.followText "set-order" = true ∨ t.led = true) {wanted M : Nat} (hw : SetTable.sizeAbove wanted - 1 = M) (hM : Mk6 M) (rm : L.length * 5 < M * 3) {Q : Unit → Shared → Prop}
    (fin : ∀ h' L' o' es' ep' t', Heap.SameBut a s.heap h' → SetG P w h' a L' o' es' ep' t' → L'.Perm L → Q () { s with heap := h' }) : wpAny (model P w) A (setRelay a wanted) Q E s := by
  have hl : es.size = L.length := by rw [← Array.length_toList, ls, List.length_map]
  have hM2 := hM.g.le
  have fit : t.fits es.size = true := by
    simp only [SetTable.fits, SetTable.fill, Bool.and_eq_true, beq_iff_eq, no]
    exact ⟨hz, decide_eq_true (by simp; omega)⟩
  obtain ⟨t', order, e, hp, T, em, el, _⟩ := lay_anew t (hs := es.map (·.1)) (wanted := wanted) hw hM.g (by rw [Array.size_map]; omega)
  rw [Array.size_map, hl] at hp
  obtain ⟨L', r1, r2, r3⟩ := ents_order (P := P) (w := w) ls (ns := order.toList) fun i hi => List.mem_range.mp (hp.mem_iff.mp hi)
  have pm : L'.Perm L := by
    have := hp.filterMap fun i => L[i]?
    rwa [range_get, ← r1] at this
  rw [← r3] at T
  have r2 : (order.filterMap (es[·]?)).toList = L'.map (ent P w) := by rw [Array.toList_filterMap]; exact r2
  have hs2 : (order.filterMap (es[·]?)).size = es.size := by rw [← Array.length_toList, r2, List.length_map, pm.length_eq, hl]
  rw [setRelay_eq]
  refine wpAny_bind (wpAny_setState_of ho hd fit ?_)
  dsimp only
  refine wp_if_neg (by rw [sizeLine_eq]; omega) ?_
  try refine wpAny_bind (wpAny_pure ?_)
  rw [e]
  refine wpAny_bind (wp_if_neg (by simp [hs2]) ?_)
  try refine wpAny_bind (wpAny_pure ?_)
  refine wpAny_pure ?_
  dsimp only
  have sb : Heap.SameBut a s.heap (s.heap.update a (Obj.putSet (order.filterMap (es[·]?)) t')) := .update ..
  have R' : SetG P w _ a L' _ _ _ t' := { at_ := store_at ho hd, ex := ⟨ex.1, ex.2.1, ex.2.2⟩, dt := rfl, ls := r2, tb := T, nd := (pm.map (·.2)).nodup_iff.mpr nd, tp := fun p h => (tp p (pm.mem_iff.mp h)).off ho hd sb, ld := by rw [el]; exact ld, rm := by rw [em, pm.length_eq]; exact rm, m6 := by rw [em]; exact hM }
  exact wpAny_storeSet_of ho hd (fin _ _ _ _ _ _ sb R' pm) (by rw [hs2, sizeLine_eq]; omega)
theorem put_in (R : SetG P w s.heap a L o es ep t) (hx : IsM P w s.heap k x) (hu : A.units < cLine) (few : L.length + 1 < 4900) {Q : Bool → Shared → Prop}
    (fin : ∀ b h' L' o' es' ep' t', Heap.SameBut a s.heap h' → SetG P w h' a L' o' es' ep' t' → (k ∈ L.map (·.2) → L' = L) → (k ∉ L.map (·.2) → L'.Perm ((x, k) :: L)) → Q b { s with heap := h' }) :
    wpAny (model P w) A (setAddHashed a (.ref x) (hsh P w k)) Q E s := by
  have rm := R.rm
  have hl := R.len
  have no := R.tb.no
  unfold setAddHashed
  refine wpAny_holding ?_
  rw [show (100000 : Nat) = 99999 + 1 from rfl, setAddHashedIn_succ]
  refine wpAny_bind (wpAny_setState_of R.at_ R.dt R.fit ?_)
  dsimp only
  refine wp_if_neg (by simp [byScan, Value.scannable]) ?_
  try refine wpAny_bind (wpAny_pure ?_)
  refine wpAny_bind (look_for R hx hu (fun hm => ?_) fun K hm hK hb => ?_)
  · exact wpAny_pure (fin false s.heap L o es ep t (.refl a s.heap) R (fun _ => rfl) fun z => absurd hm z)
  dsimp only
  refine wpAny_bind (wpAny_setState_of R.at_ R.dt R.fit ?_)
  dsimp only
  obtain ⟨hp, T, fill⟩ := R.tb.put hK hb
  generalize (pr t.mask (hsh P w k) K).j = j at *
  have e2 : (t.put j).2 = SetTable.below t.place j := rfl
  have e3 : (t.put j).1.mask = t.mask := rfl
  have e4 : (t.put j).1.led = t.led := rfl
  rw [List.length_map] at hp fill
  have pm : (L.take (SetTable.below t.place j) ++ (x, k) :: L.drop (SetTable.below t.place j)).Perm ((x, k) :: L) := put_perm L _ _
  have ls : (SetTable.insertAt es (SetTable.below t.place j) (hsh P w k, Value.ref x)).toList = (L.take (SetTable.below t.place j) ++ (x, k) :: L.drop (SetTable.below t.place j)).map (ent P w) := by
    rw [SetTable.toList_insertAt, R.ls]
    simp [ent, List.map_take, List.map_drop]
  have T2 : TabG (t.put j).1 ((L.take (SetTable.below t.place j) ++ (x, k) :: L.drop (SetTable.below t.place j)).map fun p => hsh P w p.2) := by
    simpa [List.map_take, List.map_drop] using T
  clear T
  simp only [e2]
  generalize SetTable.insertAt es (SetTable.below t.place j) (hsh P w k, Value.ref x) = es1 at *
  generalize L.take (SetTable.below t.place j) ++ (x, k) :: L.drop (SetTable.below t.place j) = L1 at *
  generalize (t.put j).1 = t1 at *
  have len1 : L1.length = L.length + 1 := by rw [pm.length_eq]; rfl
  have esz : es1.size = L.length + 1 := by rw [← Array.length_toList, ls, List.length_map, len1]
  have nd1 : (L1.map (·.2)).Nodup := (pm.map (·.2)).nodup_iff.mpr (List.nodup_cons.mpr ⟨hm, R.nd⟩)
  have main : ∀ t2 : SetTable, t2.place = t1.place → t2.dummies = t1.dummies → t2.mask = t1.mask → t2.led = t1.led → wpAny (model P w) A (do
      storeSet a es1 t2
      if (!false && t2.tooFull) = true then do
        setRelay a (SetTable.grown (es.size + 1))
        pure true
      else pure true) Q E s := by
    intro t2 g1 g2 g3 g4
    have T3 : TabG t2 (L1.map fun p => hsh P w p.2) := by
      obtain ⟨a1, a2, a3, a4, a5, a6⟩ := T2
      refine ⟨by rw [g1]; exact a1, by rw [g2]; exact a2, by rw [g1]; exact a3, by rw [g3]; exact a4, by rw [g1, g3]; exact a5, fun i h j h1 h2 => ?_⟩
      rw [g1] at h2
      have := a6 i h j h1 h2
      unfold Come at this ⊢
      rw [g1, g3]; exact this
    have sb : Heap.SameBut a s.heap (s.heap.update a (Obj.putSet es1 t2)) := .update ..
    have ho1 := store_at (es' := es1) (t' := t2) R.at_ R.dt
    refine wpAny_bind (wpAny_storeSet_of R.at_ R.dt ?_ (by rw [esz, sizeLine_eq]; omega))
    have tp1 : ∀ p ∈ L1, IsM P w (s.heap.update a (Obj.putSet es1 t2)) p.2 p.1 := fun p h => by
      rcases List.mem_cons.mp (pm.mem_iff.mp h) with rfl | h
      · exact IsM.off hx R.at_ R.dt sb
      · exact IsM.off (R.tp p h) R.at_ R.dt sb
    have fill2 : t2.fill = L.length + 1 := by rw [← fill]; unfold SetTable.fill; rw [g1, g2]
    have hpl : t2.place.size = L.length + 1 := by have := T3.ln; rw [List.length_map, len1, Array.length_toList] at this; exact this
    have ld1 : w.params.followText "set-order" = true ∨ t2.led = true := by rw [g4, e4]; exact R.ld
    by_cases hf : t2.tooFull = true
    · have full : t.mask * 3 ≤ (L.length + 1) * 5 := by
        have := hf
        unfold SetTable.tooFull at this
        rw [decide_eq_true_eq, fill2, g3, e3] at this
        exact this
      obtain ⟨M, h1, h2, h3⟩ := R.m6.next rm full few
      refine wp_if_pos (by simp [hf]) (wpAny_bind ?_)
      rw [hl]
      refine anew (s := { s with heap := s.heap.update a (Obj.putSet es1 t2) }) ho1 ⟨R.ex.1, R.ex.2.1, R.ex.2.2⟩ rfl ls (by rw [hpl, esz]) T3.no (by rw [esz, g3, e3]; omega) nd1 tp1 ld1 h1 h2 (by rw [len1]; exact h3) fun h' L' o' es' ep' t' sb2 R2 pm2 => ?_
      exact wpAny_pure (fin true h' L' o' es' ep' t' (sb.trans sb2) R2 (fun z => absurd z hm) fun _ => pm2.trans pm)
    · have rm1 : L1.length * 5 < t2.mask * 3 := by
        have := hf
        unfold SetTable.tooFull at this
        rw [decide_eq_true_eq, fill2] at this
        rw [len1]
        omega
      have R1 : SetG P w _ a L1 _ es1 (ep + 1) t2 := { at_ := ho1, ex := ⟨R.ex.1, R.ex.2.1, R.ex.2.2⟩, dt := rfl, ls := ls, tb := T3, nd := nd1, tp := tp1, ld := ld1, rm := rm1, m6 := by rw [g3, e3]; exact R.m6 }
      exact wp_if_neg (by simp [hf]) (wpAny_pure (fin true _ _ _ _ _ _ sb R1 (fun z => absurd z hm) fun _ => pm))
  have both : ∀ r : Bool, wpAny (model P w) A (do
      storeSet a es1 (if r = true then t1 else { t1 with plain := false })
      if (!false && (if r = true then t1 else { t1 with plain := false }).tooFull) = true then do
        setRelay a (SetTable.grown (es.size + 1))
        pure true
      else pure true) Q E s := fun r => by
    cases r with
    | true => exact main t1 rfl rfl rfl rfl
    | false => exact main { t1 with plain := false } rfl rfl rfl rfl
  by_cases hpl : t1.plain = true
  · exact wp_if_pos hpl (wpAny_bind (tup_hash hx both))
  · exact wp_if_neg hpl (wpAny_bind (wpAny_pure (both true)))
end
end DM
namespace DM
open PySem PySem.Spec PyProof.Rows L2
section
variable {P : Program} {w : World} {A : Around} {E : Value → Shared → Prop} {s : Shared} {a : Addr}
def SetO (P : Program) (w : World) (h : Heap) (a : Addr) (L : List Mem) : Prop := ∃ o es ep t, h.get? a = some o ∧ ∀ h2 : Heap, h2.get? a = some o → (∀ p ∈ L, IsM P w h2 p.2 p.1) → SetG P w h2 a L o es ep t
theorem SetG.o {L : List Mem} {o : Obj} {es : Array (Int × Value)} {ep : Nat} {t : SetTable} {h : Heap} (R : SetG P w h a L o es ep t) : SetO P w h a L := ⟨o, es, ep, t, R.at_, fun h2 e tp => { R with at_ := e, tp := tp }⟩
theorem SetO.keep {L : List Mem} {h h' : Heap} (R : SetO P w h a L) (e : ∀ o, h.get? a = some o → h'.get? a = some o) : SetO P w h' a L := let ⟨o, es, ep, t, ho, r⟩ := R; ⟨o, es, ep, t, e o ho, r⟩
def setGO (P : Program) (w : World) (a : Addr) (L : List Mem) : HO := .ext fun h => SetO P w h a L
theorem setGO_ok {H : Hp} {h : Heap} {L : List Mem} (R : SetO P w h a L) : ObjOk P w H h a (setGO P w a L) := by
  have ⟨o, _, _, _, ho, _⟩ := R
  exact ⟨R, ⟨o, ho⟩, fun h1 h2 p k => SetO.keep p k⟩
theorem setG_nil {h : Heap} (e : h.get? a = some (set0 w)) : SetG P w h a [] (set0 w) #[] 0 (.fresh 0 0 (!w.params.followText "set-order")) where
  at_ := e
  ex := ⟨rfl, rfl, rfl⟩
  dt := rfl
  ls := rfl
  tb := ⟨List.Pairwise.nil, rfl, rfl, Mk6.g (.inl rfl), fun x hx => by simp [SetTable.fresh] at hx, fun i h j e => by simp at e⟩
  nd := List.nodup_nil
  tp := fun p h => by simp at h
  ld := by
    show _ ∨ (!w.params.followText "set-order") = true
    cases w.params.followText "set-order"
    · exact .inr rfl
    · exact .inl rfl
  rm := show 0 * 5 < 7 * 3 by decide
  m6 := .inl rfl
def setGJ (P : Program) (w : World) (ms : List Mem) (S : Addr) (i : Nat) (h : Heap) : Prop := ∃ L o es ep t, SetG P w h S L o es ep t ∧ (∀ k, k ∈ L.map (·.2) ↔ k ∈ (ms.take i).map (·.2)) ∧ (∀ p ∈ L, p ∈ ms) ∧ L.length ≤ i
theorem setGJ_keep {ms : List Mem} {S : Addr} {h0 : Heap} (hm : ∀ p ∈ ms, IsM P w h0 p.2 p.1) (i : Nat) (h h' : Heap) (j : setGJ P w ms S i h) (e : ∀ o, h.get? S = some o → h'.get? S = some o) (k : ∀ b o, h0.get? b = some o → h'.get? b = some o) : setGJ P w ms S i h' := by
  obtain ⟨L, o, es, ep, t, R, h1, h2, h3⟩ := j
  exact ⟨L, o, es, ep, t, { R with at_ := e o R.at_, tp := fun p hp => (hm p (h2 p hp)).on k }, h1, h2, h3⟩
theorem setGJ_adds {S : Addr} {items : Array Value} {ms : List Mem} {u : Nat} (hi : items.toList = ms.map fun p => Value.ref p.1) (hm : ∀ p ∈ ms, IsM P w s.heap p.2 p.1) (few : ms.length + 1 < 4900) (hu : u < cLine) : AddsTo P w u S items.size items (setGJ P w ms S) s.heap := by
  intro B i v t Q F hB lt hv ⟨L, o, es, ep, tb, R, h1, h2, h3⟩ ok fin
  have hsz : items.size = ms.length := by rw [← Array.length_toList, hi, List.length_map]
  obtain ⟨p, hp⟩ : ∃ p, ms[i]? = some p := ⟨_, List.getElem?_eq_getElem (by omega)⟩
  have hv2 : v = .ref p.1 := by
    rw [← Array.getElem?_toList, hi, List.getElem?_map, hp] at hv
    exact (Option.some.inj hv).symm
  subst hv2
  have mp := List.mem_of_getElem? hp
  have hx : IsM P w t.heap p.2 p.1 := (hm p mp).on ok
  have hub : B.units < cLine := by omega
  have tk : ms.take (i + 1) = ms.take i ++ [p] := by rw [List.take_add_one, hp]; rfl
  unfold setAdd
  refine wpAny_holding (wpAny_bind (wpAny_pyHash_tuple hub hx ?_))
  refine put_in (s := { t with toks := t.toks + (p.2.length + 1) }) R hx hub (by omega) fun b h' L' o' es' ep' t' sb R' c1 c2 => ?_
  refine fin b h' _ sb (Nat.le_add_right _ _) ⟨L', o', es', ep', t', R', fun k => ?_, fun q hq => ?_, ?_⟩
  · rw [tk, List.map_append, List.mem_append, ← h1]
    rcases Classical.em (p.2 ∈ L.map (·.2)) with z | z
    · rw [c1 z]
      exact ⟨.inl, fun h => h.elim id fun e => by rw [List.mem_singleton.mp e]; exact z⟩
    · rw [((c2 z).map (·.2)).mem_iff, List.map_cons, List.mem_cons]
      simp [or_comm]
  · rcases Classical.em (p.2 ∈ L.map (·.2)) with z | z
    · rw [c1 z] at hq; exact h2 q hq
    · rcases List.mem_cons.mp ((c2 z).mem_iff.mp hq) with rfl | hq
      · exact mp
      · exact h2 q hq
  · rcases Classical.em (p.2 ∈ L.map (·.2)) with z | z
    · rw [c1 z]; omega
    · rw [(c2 z).length_eq, List.length_cons]; omega
end
theorem ItemsAre.of {P : Program} {w : World} : ∀ {k : List Key} {us : List Value}, Vals (k.map kV) us → ItemsAre (mixKind P w) k us
  | [], _, .nil => .nil
  | .inl i :: k, _, .cons r q => by obtain ⟨t, rfl⟩ := r; exact .cons (keyIs_int i t) (ItemsAre.of q)
  | .inr x :: k, _, .cons r q => by obtain ⟨t, rfl⟩ := r; exact .cons (keyIs_str x t) (ItemsAre.of q)
theorem refs_at : ∀ {ms : List Mem} {us : List Value}, Vals (ms.map fun p => V.ref p.1) us → us = ms.map fun p => Value.ref p.1
  | [], _, .nil => rfl
  | p :: ms, _, .cons r q => by rw [show _ = Value.ref p.1 from r, refs_at q]; rfl
section
variable {X : Cx} {pins : List (Addr × Obj)} {σ : L2.St} {H : Hp} {s : Shared}
theorem isM_at (I : Inv X pins σ H s) {b : Addr} {k : List Key} (h : H b = some (.tup (k.map kV))) : IsM X.prog X.w s.heap k b := by
  obtain ⟨its, rv, o, h1, h2, n, h3⟩ := tup_at (H := ⟨H, fun _ => False⟩) I (show SqT X.K H b (k.map kV) from by first | exact .of h | exact .inl h | exact Or.inl h)
  exact ⟨o, its.toArray, n, h1, h2, h3, by simpa using ItemsAre.of rv⟩
end
def rSetG (K : PySem.W.Frag) (P : Program) (w : World) : List V → Hp → VK → Prop := fun xs H Q => ∃ (l : Addr) (ms : List Mem), xs = [V.ref l] ∧ (SqL K H l (ms.map fun p => V.ref p.1) ∨ SqT K H l (ms.map fun p => V.ref p.1)) ∧ (∀ p ∈ ms, H p.1 = some (.tup (p.2.map kV))) ∧ ms.length + 1 < 4900 ∧
  ∀ p (L : List Mem), (L.map (·.2)).Nodup → (∀ k, k ∈ L.map (·.2) ↔ k ∈ ms.map (·.2)) → (∀ q ∈ L, q ∈ ms) → H p = none → Q (.ref p) (upd H p (setGO P w p L))
theorem call_setG {X : Cx} (hc : X.calm = true) (hu : X.A.units + 150 < cLine) : CallR X (.type "set") (rSetG X.K X.prog X.w) := by
  intro pins s σ H xs us Q I r h
  obtain ⟨l, ms, rfl, hs, ht, few, q⟩ := h
  rw [Vals.ref1 r]
  have hm : ∀ p ∈ ms, IsM X.prog X.w s.heap p.2 p.1 := fun p hp => isM_at I (ht p hp)
  have fin : ∀ (its : List Value), its = ms.map (fun p => Value.ref p.1) → ∀ (h' : Heap) (tk : Nat), setGJ X.prog X.w ms s.heap.objs.size its.toArray.size h' → (∀ b o, s.heap.get? b = some o → h'.get? b = some o) → ∃ v H', Inv X pins σ H' { s with heap := h', toks := tk } ∧ RelV v (.ref s.heap.objs.size) ∧ Q v H' := by
    intro its ei h' tk ⟨L, o, es, ep, t, R, h1, h2, _⟩ keep
    have hl : its.toArray.size = ms.length := by rw [List.size_toArray, ei, List.length_map]
    rw [hl, List.take_length] at h1
    exact ⟨.ref s.heap.objs.size, upd H s.heap.objs.size (setGO X.prog X.w s.heap.objs.size L), I.laid (t' := tk) keep (Nat.le_refl _) (setGO_ok R.o), rfl, q _ L R.nd h1 h2 (I.hok.fresh (Nat.le_refl _))⟩
  rcases hs with hs | hs
  · obtain ⟨its, rv, hl, hz⟩ := I.list hs
    have ei := refs_at rv
    exact set_of_list (I.ok.hd hc) hl.isList (J := setGJ X.prog X.w ms s.heap.objs.size) (setGJ_keep hm) (fun h e => ⟨[], _, _, _, _, setG_nil e, by simp, by simp, by simp⟩) (setGJ_adds (by simpa using ei) hm few (by omega)) fun h' tk j keep => fin its ei h' tk j keep
  · obtain ⟨its, rv, hl⟩ := tup_at (H := ⟨H, fun _ => False⟩) I hs
    have ei := refs_at rv
    exact set_of_tup (I.ok.hd hc) hl (J := setGJ X.prog X.w ms s.heap.objs.size) (setGJ_keep hm) (fun h e => ⟨[], _, _, _, _, setG_nil e, by simp, by simp, by simp⟩) (setGJ_adds (by simpa using ei) hm few (by omega)) fun h' tk j keep => fin its ei h' tk j keep
end DM
namespace DM
open PySem PySem.Spec PyProof.Rows L2
def rSortG (P : Program) (w : World) : List V → Hp → VK → Prop := fun vs H Q => ∃ (a : Addr) (L : List Mem), vs = [V.ref a] ∧ H a = some (setGO P w a L) ∧ (∀ p ∈ L, H p.1 = some (.tup (p.2.map kV))) ∧ (∀ p ∈ L, p.2 ≠ []) ∧ L.length < 4000 ∧ SortOk (L.map fun p => tkD p.2) ∧
  ∀ (out ys : List Mem) (p : Addr), out.Perm L → (∀ y ∈ ys, y ∈ L) → (ys.map fun p => tkD p.2) = sortD (out.map fun p => tkD p.2) → H p = none → Q (.ref p) (upd H p (.lst (ys.map fun p => V.ref p.1)))
theorem mems_each {h : Heap} {R : Value → D → Prop} {T : Value → D → Prop} : ∀ {ms : List Mem}, (∀ p ∈ ms, R (.ref p.1) (tkD p.2)) → PySem.W.EachIs R (ms.map fun p => Value.ref p.1) (ms.map fun p => tkD p.2)
  | [], _ => .nil
  | p :: ms, hh => .cons (hh p List.mem_cons_self) (mems_each (h := h) (T := T) fun q hq => hh q (List.mem_cons_of_mem _ hq))
theorem mems_out {L : List Mem} : ∀ {vs : List Value} {ds : List D}, PySem.W.EachIs (fun v d => ∃ p ∈ L, d = tkD p.2 ∧ v = .ref p.1) vs ds → ∃ ys : List Mem, ds = ys.map (fun p => tkD p.2) ∧ (∀ y ∈ ys, y ∈ L) ∧ Vals (ys.map fun p => V.ref p.1) vs
  | _, _, .nil => ⟨[], rfl, by simp, .nil⟩
  | _, _, .cons ⟨p, hp, e1, e2⟩ t => by
    obtain ⟨ys, e3, hy, r⟩ := mems_out t
    refine ⟨p :: ys, by rw [e1, e3]; rfl, fun y h => (List.mem_cons.mp h).elim (fun e => e ▸ hp) (hy y), ?_⟩
    subst e2
    exact .cons rfl r
theorem call_sortG {X : Cx} (hc : X.calm = true) (hu : X.A.units + 150 < cLine) : CallR X (.builtin "sorted") (rSortG X.prog X.w) := by
  intro pins s σ H vs us Q I r h
  obtain ⟨a, L, rfl, ha, ht, hne, few, so, q⟩ := h
  rw [Vals.ref1 r]
  have hm : ∀ p ∈ L, IsM X.prog X.w s.heap p.2 p.1 := fun p hp => isM_at I (ht p hp)
  obtain ⟨o, es, ep, t, ho, mk⟩ := (show SetO X.prog X.w s.heap a L from (I.hok a _ ha).1)
  have R := mk s.heap ho hm
  have hlen := R.len
  have hL : L.length ≤ sizeLine := small_line2 (by omega)
  have reads : ∀ p ∈ L, ∃ as, Reads s.heap (.ref p.1) (toPy (tkD p.2)) as := fun p hp => by
    have := so.1
    exact reads_D (H := ⟨H, fun _ => False⟩) I (tkD p.2) (.ref p.1) (.ref p.1) (vr_key (hne p hp) (ht p hp)) rfl (mem_pure so.1 (List.mem_map.mpr ⟨p, hp, rfl⟩))
  refine sorted_some (R := fun v d => ∃ p ∈ L, d = tkD p.2 ∧ v = .ref p.1) (n := L.length) (B := fun vs bs t => ∃ out : List Mem, bs = out.map (fun p => tkD p.2) ∧ out.Perm L ∧ vs = out.map (fun p => Value.ref p.1) ∧ (∀ b o, s.heap.get? b = some o → t.heap.get? b = some o) ∧ s.heap.objs.size ≤ t.heap.objs.size ∧ t.gens = s.gens ∧ t.os = s.os) hL (fun vs bs t hb => ?_) (fun Q' E' hQ' => ?_) fun vs bs t hb h' out c p keep hp hg hl eo => ?_
  · obtain ⟨out, rfl, pm, rfl, k1, z1, g1, o1⟩ := hb
    obtain ⟨_, sd, sa, ss⟩ := so.perm (pm.map fun p => tkD p.2)
    refine ⟨by rw [List.length_map, pm.length_eq], mems_each (h := t.heap) (T := fun _ _ => True) fun p hp => ⟨p, pm.mem_iff.mp hp, rfl, rfl⟩, mems_each (h := t.heap) (T := fun _ _ => True) fun p hp => ?_, sa, ss, fun b hb => ?_, k1, z1, g1, o1⟩
    · obtain ⟨as, hr⟩ := reads p (pm.mem_iff.mp hp)
      exact ⟨as, PyProof.Rows.Reads.keeps k1 hr⟩
    · have h1 := depth_py b
      obtain ⟨j, hj, rfl⟩ := List.getElem_of_mem hb
      have h2 := depDs_get (List.getElem?_eq_getElem hj)
      omega
  · refine collect_set (I.ok.hd hc) ⟨o, ho, R.ex.1, R.dt⟩ R.fit (by unfold scanBound; omega) R.tb.up R.ld fun s' out k1 z1 g1 o1 pm => ?_
    have e : es.toList.map (·.2) = L.map fun p => Value.ref p.1 := by rw [R.ls, List.map_map]; rfl
    rw [e] at pm
    obtain ⟨out', e2, pm2⟩ : ∃ out' : List Mem, out = out'.map (fun p => Value.ref p.1) ∧ out'.Perm L := by
      have : ∀ {xs : List Value} {l : List Mem}, xs.Perm (l.map fun p => Value.ref p.1) → ∃ out' : List Mem, xs = out'.map (fun p => Value.ref p.1) ∧ out'.Perm l := by
        intro xs l h
        generalize hy : l.map (fun p => Value.ref p.1) = ys at h
        induction h generalizing l with
        | nil => exact ⟨[], rfl, by rw [List.map_eq_nil_iff.mp hy]⟩
        | cons x _ ih =>
          obtain ⟨p, l2, rfl, rfl, h3⟩ := List.map_eq_cons_iff.mp hy
          obtain ⟨out', e1, e2⟩ := ih h3
          exact ⟨p :: out', by rw [e1]; rfl, e2.cons p⟩
        | swap x y m =>
          obtain ⟨p, l2, rfl, rfl, h3⟩ := List.map_eq_cons_iff.mp hy
          obtain ⟨p2, l3, rfl, rfl, h4⟩ := List.map_eq_cons_iff.mp h3
          exact ⟨p2 :: p :: l3, by rw [← h4]; rfl, .swap _ _ _⟩
        | trans _ _ ih1 ih2 =>
          obtain ⟨o1, rfl, p1⟩ := ih2 hy
          obtain ⟨o2, rfl, p2⟩ := ih1 rfl
          exact ⟨o2, rfl, p2.trans p1⟩
      exact this pm
    exact hQ' _ _ s' ⟨out', rfl, pm2, e2, k1, z1, g1, o1⟩
  · obtain ⟨out0, rfl, pm, _, k1, z1, g1, o1⟩ := hb
    obtain ⟨ys, e, hy, rv⟩ := mems_out eo
    have hlen : (ys.map fun p => V.ref p.1).length ≤ sizeLine := by rw [rv.length, hl]; exact hL
    have hn : H p = none := I.hok.fresh hp
    have J : Inv X pins σ (upd H p (.lst (ys.map fun p => V.ref p.1))) { s with heap := h', gens := t.gens, drawn := t.drawn, toks := t.toks } :=
      I.call (ch := []) (Un.laid keep hp hn) (I.hok.laid keep hp ⟨hlen, out, c, rv, hg⟩) (by rw [g1]; exact I.bare) (fun _ z => nomatch z)
    have et : ({ t with heap := h' } : Shared) = { s with heap := h', gens := t.gens, drawn := t.drawn, toks := t.toks } := by
      cases t
      cases s
      cases o1
      rfl
    rw [et]
    exact ⟨.ref p, _, J, rfl, q out0 ys p pm hy e.symm hn⟩
def sortSetTQ (x : D) (M : Mm) (Q : List D → Mm → Prop) : Prop := match rdS M x with
  | some xs => (match keysTs xs with | some ks => (ks.length + 1 < 4000 ∧ SortOk xs) ∧ ∀ out : List (List Key), out.Nodup → (∀ k, k ∈ out ↔ k ∈ ks) → Q (sortD (out.map tkD)) M | none => False)
  | none => False
def dSortSetT (te : TDE) : TDL := fun ds M Q => te ds M fun x M1 => sortSetTQ x M1 Q
theorem keysTs_mem {K : PySem.W.Frag} {H : HF} : ∀ {xs : List D} {vs : List V} {ks : List (List Key)}, VRs K H xs vs → keysTs xs = some ks → ∃ ms : List Mem, vs = ms.map (fun p => V.ref p.1) ∧ ks = ms.map (·.2) ∧ xs = ms.map (fun p => tkD p.2) ∧ ∀ p ∈ ms, H.h p.1 = some (.tup (p.2.map kV))
  | [], _, ks, r, e => by cases r; cases e; exact ⟨[], rfl, rfl, rfl, by simp⟩
  | d :: ds, _, ks, r, e => by
    cases r with
    | cons r1 r2 =>
      unfold keysTs at e
      split at e
      · rename_i k ks' e1 e2
        cases e
        obtain ⟨ms, rfl, rfl, rfl, hp⟩ := keysTs_mem r2 e2
        obtain ⟨b, rfl, hb⟩ := key_v r1 e1
        refine ⟨(b, k) :: ms, rfl, rfl, ?_, fun p h => ?_⟩
        · rw [keyT_eq e1]; rfl
        · rcases List.mem_cons.mp h with rfl | h
          · exact hb
          · exact hp p h
      · cases e
theorem sort_sub {xs ys : List D} (h : SortOk xs) (hs : ∀ y ∈ ys, y ∈ xs) : SortOk ys := by
  obtain ⟨h1, h2, h3, h4⟩ := h
  have m2 : ∀ x ∈ ys.map toPy, x ∈ xs.map toPy := fun x hx => by
    obtain ⟨d, hd, rfl⟩ := List.mem_map.mp hx
    exact List.mem_map.mpr ⟨d, hs d hd, rfl⟩
  refine ⟨all_pure fun x hx => mem_pure h1 (hs x hx), all_dep (by decide) fun x hx => mem_dep h2 (hs x hx), fun x hx y hy => h3 x (m2 x hx) y (m2 y hy), ?_⟩
  rcases h4 with h4 | h4
  · exact .inl fun x hx => h4 x (m2 x hx)
  · exact .inr fun x hx => h4 x (m2 x hx)
theorem mems_len {L ms : List Mem} (h : ∀ q ∈ L, q ∈ ms) (nd : (L.map (·.2)).Nodup) (h2 : ∀ k, k ∈ L.map (·.2) ↔ k ∈ ms.map (·.2)) : L.length ≤ ms.length := by
  have := sub_len (m := ms.map (·.2)) nd fun k hk => (h2 k).mp hk
  simpa using this
section
variable {X : Cx} {e : Expr} {te : TDE} {p p2 pos pos2 : Pos} {k : Nat}
theorem jl_sortSetT (hc : X.calm = true) (hr : Room k X.A) (hm : X.mg "sorted" = none) (hm2 : X.mg "set" = none) (ha : JE X e te) (hg : Gl X "sorted" := by rfl) (hg2 : Gl X "set" := by rfl)
    (n1 : starEach [.Call (.Name "set" p2) [e] [] pos2] X.env = (false, eval (.Call (.Name "set" p2) [e] [] pos2) X.env) :: starEach [] X.env := by rfl) (n2 : starEach [e] X.env = (false, eval e X.env) :: starEach [] X.env := by rfl)
    (n3 : (backTo pos (starEach [] X.env)).any (·.1) = false := by rfl) (n4 : (backTo pos2 (starEach [] X.env)).any (·.1) = false := by rfl) :
    JL X (.Call (.Name "sorted" p) [.Call (.Name "set" p2) [e] [] pos2] [] pos) (dSortSetT te) := by
  obtain ⟨u, q, g⟩ := ha
  refine ⟨_, pe_callB (call_sortG hc (hu150 hr)) hg hm PyProof.Rows.boot_sorted (pa_cons (pe_callTy (call_setG hc (hu150 hr)) hg2 hm2 PyProof.Rows.boot_set (pa_cons q pa_nil n2) (by decide) (by decide) n2 n4) pa_nil n1) (by decide) (by decide) n1 n3, fun ds σ H M Q Q0 s m q k => ?_⟩
  refine g ds σ H M _ _ s m q fun v H1 d M1 r1 m1 g1 q1 => ?_
  unfold sortSetTQ at q1
  split at q1
  · rename_i xs e1
    split at q1
    · rename_i ks e2
      obtain ⟨⟨hl, so⟩, q1⟩ := q1
      obtain ⟨a, ws, rfl, ra, h1⟩ := rdS_v m1 r1 e1
      have e3 := e2
      obtain ⟨ms, rfl, rfl, rfl, ht⟩ := keysTs_mem ra e2
      have hmn : ∀ p ∈ ms, p.2 ≠ [] := fun p hp => keysTs_ne e3 _ (List.mem_map.mpr ⟨p, hp, rfl⟩)
      rw [List.length_map] at hl
      refine ⟨a, ms, rfl, h1.symm.imp (fun h => SqL.of h) (fun h => h.2), ht, by omega, fun o L nd hk hs ho => ?_⟩
      have hmo : ∀ p ∈ ms, p.1 ≠ o := fun p hp e => by have := ht p hp; rw [e, ho] at this; cases this
      have hll := mems_len hs nd hk
      refine ⟨o, L, rfl, upd_same, fun p hp => by rw [upd_ne (hmo p (hs p hp))]; exact ht p (hs p hp), fun p hp => hmn p (hs p hp), by omega, sort_sub so fun y hy => ?_, fun out ys l pm hy ey hl2 => ?_⟩
      · obtain ⟨p, hp, rfl⟩ := List.mem_map.mp hy
        exact List.mem_map.mpr ⟨p, hs p hp, rfl⟩
      have m2 : MR X.K M1 (H1.up o (setGO X.prog X.w o L)) := m1.newT ho
      have g2 : GG M1 H1 M1 (H1.up o (setGO X.prog X.w o L)) := GG.newT ho
      have ry : VRs X.K (H1.up o (setGO X.prog X.w o L)) (sortD (out.map fun p => tkD p.2)) (ys.map fun p => V.ref p.1) := by
        rw [← ey]
        have : ∀ {zs : List Mem}, (∀ z ∈ zs, z ∈ L) → VRs X.K (H1.up o (setGO X.prog X.w o L)) (zs.map fun p => tkD p.2) (zs.map fun p => V.ref p.1) := by
          intro zs
          induction zs with
          | nil => exact fun _ => .nil
          | cons z zs ih =>
            intro hz
            have h3 := hs z (hz z List.mem_cons_self)
            exact .cons (vr_key (hmn z h3) (by show upd H1.h o _ z.1 = _; rw [upd_ne (hmo z h3)]; exact ht z h3)) (ih fun y hy => hz y (List.mem_cons_of_mem _ hy))
        exact this hy
      have q2 := q1 (out.map (·.2)) ((pm.map (·.2)).nodup_iff.mpr nd) fun j => ((pm.map (·.2)).mem_iff).trans (hk j)
      rw [List.map_map, show (tkD ∘ fun x => x.2 : Mem → D) = fun p => tkD p.2 from rfl] at q2
      exact k l ((H1.up o (setGO X.prog X.w o L)).up l _) (sortD (out.map fun (p : Mem) => tkD p.2)) (ys.map fun (p : Mem) => V.ref p.1) M1 ((g1.trans g2).free hl2) upd_same (VRs.mono (TX.new m2 hl2) _ _ ry) (m2.free hl2) (m2.freeF hl2) (m2.newT hl2) ((g1.trans g2).trans (GG.newT hl2)) q2
    · exact q1.elim
  · exact q1.elim
end
end DM
namespace DM
open PySem L2
open PyProof.Rows (b2i)
theorem dSortSetT_e {te : TDE} {ds : DSt} {M : Mm} {Q : List D → Mm → Prop} : dSortSetT te ds M Q = (te ds M fun x M1 => sortSetTQ x M1 Q) := (rfl)
theorem keysTs_ed : ∀ {T : List Ed}, keysTs (T.map edD) = some (T.map edK)
  | [] => rfl
  | e :: T => by
    have h : keyT (edD e) = some (edK e) := rfl
    simp only [List.map_cons, keysTs, h, keysTs_ed (T := T)]
theorem of_edK {T : List Ed} {out : List (List Key)} (h : ∀ k, k ∈ out ↔ k ∈ T.map edK) (nd : out.Nodup) : ∃ T' : List Ed, out = T'.map edK ∧ T'.Nodup ∧ ∀ e, e ∈ T' ↔ e ∈ T := by
  have key : ∀ {out : List (List Key)}, (∀ k ∈ out, ∃ e, k = edK e) → ∃ T' : List Ed, out = T'.map edK := by
    intro out
    induction out with
    | nil => exact fun _ => ⟨[], rfl⟩
    | cons k out ih =>
      intro hk
      obtain ⟨e, rfl⟩ := hk k List.mem_cons_self
      obtain ⟨T', rfl⟩ := ih fun j hj => hk j (List.mem_cons_of_mem _ hj)
      exact ⟨e :: T', rfl⟩
  obtain ⟨T', rfl⟩ := key fun k hk => by
    obtain ⟨e, _, rfl⟩ := List.mem_map.mp ((h k).mp hk)
    exact ⟨e, rfl⟩
  refine ⟨T', rfl, List.Pairwise.of_map edK (fun _ _ hne e => hne (congrArg edK e)) nd, fun e => ?_⟩
  have inj : ∀ {l : List Ed}, edK e ∈ l.map edK ↔ e ∈ l := fun {l} => ⟨fun hm => by
    obtain ⟨f, hf, e2⟩ := List.mem_map.mp hm
    rw [← edK_inj e2]; exact hf, fun hm => List.mem_map.mpr ⟨e, hm, rfl⟩⟩
  rw [← inj (l := T'), h, inj]
def riseE (T : List Ed) : List Ed := sortE (insAll [] T)
theorem onceE_nodup (T : List Ed) : (insAll [] T).Nodup := insAll_nodup List.nodup_nil
theorem onceE_mem {T : List Ed} {e : Ed} : e ∈ insAll [] T ↔ e ∈ T := by rw [insAll_mem]; simp
theorem riseE_nodup (T : List Ed) : (riseE T).Nodup := (sortE_perm _).nodup_iff.mpr (onceE_nodup T)
theorem riseE_eq {T T' : List Ed} (nd : T'.Nodup) (h : ∀ e, e ∈ T' ↔ e ∈ T) : sortE T' = riseE T := sortE_ext nd (onceE_nodup T) fun e => by rw [h, onceE_mem]
theorem sortSetT_go {x : D} {M : Mm} {Q : List D → Mm → Prop} {T : List Ed} (e : rdS M x = some (T.map edD)) (hl : T.length < 3999) (k : Q ((riseE T).map edD) M) : sortSetTQ x M Q := by
  unfold sortSetTQ
  simp only [e, keysTs_ed]
  refine ⟨⟨by rw [List.length_map]; omega, sortOk_ed⟩, fun out nd h => ?_⟩
  obtain ⟨T', rfl, nd', h'⟩ := of_edK h nd
  rw [← riseE_eq nd' h', ← sortD_eds] at k
  rw [List.map_map]
  exact k
end DM
namespace DM
open PySem L2
open PyProof.Rows (b2i)
theorem inR_tt {c z : Str} {M : Mm} {Q : DQ} : inR (.str c) (.str z) M Q = Q (.bl (inStr c z)) M := by
  show Q (.bl (false != inStr c z)) M = _
  simp
theorem notInR_tt {c z : Str} {M : Mm} {Q : DQ} : notInR (.str c) (.str z) M Q = Q (.bl (!inStr c z)) M := by
  show Q (.bl (true != inStr c z)) M = _
  simp
def digB (z : Str) : Bool := inStr (sgn0 z) ("0123456789" : Str)
end DM
namespace DM
open PySem PySem.Spec PyProof.Rows L2
def risB {α : Type} (le : α → α → Bool) (l : List α) : Bool := (l.zip l.tail).all fun p => !le p.2 p.1
theorem risB_of {α : Type} {le : α → α → Bool} : ∀ {l : List α}, l.Pairwise (fun a b => le b a = false) → risB le l = true
  | [], _ => rfl
  | [a], _ => rfl
  | a :: b :: l, h => by
    have h1 := (List.pairwise_cons.mp h).1 b List.mem_cons_self
    have h2 := risB_of (List.pairwise_cons.mp h).2
    simp only [risB, List.tail_cons, List.zip_cons_cons, List.all_cons, h1, Bool.not_false, Bool.true_and] at h2 ⊢
    exact h2
theorem risE_of {l : List Ed} (h : l.Nodup) (hs : ∃ l0, l = sortE l0) : risB leE l = true := by
  obtain ⟨l0, rfl⟩ := hs
  refine risB_of ?_
  have h1 : (sortE l0).Pairwise fun a b => leE a b = true := by
    have := List.pairwise_mergeSort (le := fun a b : Ed => leD (edD a) (edD b)) (fun a b c h h' => by rw [leD_ed] at *; exact leE_trans h h') (fun a b => by rw [leD_ed, leD_ed]; exact leE_total a b) l0
    exact this.imp fun h => by rwa [leD_ed] at h
  exact (h1.and h).imp fun ⟨g1, g2⟩ => Bool.eq_false_iff.mpr fun g => g2 (leE_anti g1 g)
theorem risS_of {l : List Str} (h : RisS l) : risB leS l = true := risB_of (h.imp fun ⟨g1, g2⟩ => Bool.eq_false_iff.mpr fun g => g2 (leS_anti g1 g))
abbrev letS : Str := "abcdefghijklmnopqrstuvwxyz"
abbrev sgnS : Str := "abcdefghijklmnopqrstuvwxyz0123456789"
def nameB (z : Str) : Bool := decide (1 ≤ z.length) && (decide (z.length ≤ 8) && (inStr (sgn0 z) letS && (cps z).all fun c => inStr ⟨#[c]⟩ sgnS))
theorem in_let (c : Nat) : inStr ⟨#[c]⟩ letS = decide (c ∈ lets) := by
  rw [inStr_sign]
  have : letS.cps.toList = lets := cps_lets
  rw [this]
theorem in_sgn (c : Nat) : inStr ⟨#[c]⟩ sgnS = decide (c ∈ sgns) := by
  rw [inStr_sign]
  have : sgnS.cps.toList = sgns := by decide +kernel
  rw [this]
theorem nameB_iff {z : Str} : nameB z = true ↔ NameS z := by
  unfold nameB NameS NameL
  rw [cps_len]
  simp only [Bool.and_eq_true, decide_eq_true_eq, sgn0, in_let, in_sgn, List.all_eq_true]
  constructor
  · rintro ⟨h1, h2, h3, h4⟩
    refine ⟨?_, h4, h2⟩
    cases e : cps z with
    | nil => rw [e] at h1; simp at h1
    | cons c r => rw [e] at h3; exact ⟨c, r, rfl, h3⟩
  · rintro ⟨⟨c, r, e, h3⟩, h4, h2⟩
    refine ⟨by rw [e]; simp, h2, by rw [e]; exact h3, h4⟩
def nameD : D → Bool
  | .str z => nameB z
  | _ => false
def figD : D → Bool
  | .str z => figB z
  | _ => false
def stateD (x : D) : Bool := figD x || nameD x
def StateS (z : Str) : Prop := z.length ≤ 1000 ∧ cps z ≠ [] ∧ (NameS z ∨ figB z = true)
theorem WordS.st {z : Str} (h : WordS z) : StateS z := ⟨Nat.le_trans h.1 (by decide), h.2.2.1, h.2.2.2⟩
theorem StateS.d {z : Str} (h : StateS z) : stateD (.str z) = true := by
  unfold stateD
  rcases h.2.2 with g | g
  · rw [show nameD (.str z) = nameB z from rfl, nameB_iff.mpr g, Bool.or_true]
  · rw [show figD (.str z) = figB z from rfl, g]; rfl
def SmT (x : D) : Prop := ∀ z, x = .str z → z.length ≤ 1000000
def SmE (x : D) : Prop := ∀ a b c, x = .tup [a, b, c] → SmT a ∧ SmT b ∧ SmT c
structure MachK (E : List Ed) (F : List Str) : Prop where
  el : E.length ≤ 100000
  fl : F.length ≤ 100000
  es : ∀ e ∈ E, e.1.length ≤ 1000000 ∧ e.2.1.length ≤ 1000000 ∧ e.2.2.length ≤ 1000000
  fs : ∀ s ∈ F, s.length ≤ 1000000
theorem smT_s {z : Str} (h : z.length ≤ 1000000) : SmT (.str z) := fun y e => by cases e; exact h
theorem smE_ed {e : Ed} (h : e.1.length ≤ 1000000 ∧ e.2.1.length ≤ 1000000 ∧ e.2.2.length ≤ 1000000) : SmE (edD e) := fun a b c e' => by
  simp only [edD, D.tup.injEq, List.cons.injEq, and_true] at e'
  obtain ⟨rfl, rfl, rfl⟩ := e'
  exact ⟨smT_s h.1, smT_s h.2.1, smT_s h.2.2⟩
theorem strs_okF {l : List Str} : pureDs (l.map D.str) = true ∧ depDs (l.map D.str) ≤ 99 := ⟨pureDs_str _, Nat.le_trans (depDs_str _) (by decide)⟩
section
variable {ok : Mm → Prop} {g : TDG} {tt : TDT} {te : TDE} {ds0 : DSt} {Q : List D → Mm → Prop} {d c : Addr} {n : Nat} {M M0 : Mm} {L : List (Addr × MO)}
theorem lcW_BS {α : Type} (f : α → D) (k : Nat) {l : List α} (hz : l.length ≤ sizeLine) (b : Bx d c n M0 L M) (hb : k * l.length ≤ n) (hok : ∀ n' M', Bx d c n' M0 L M' → ok M')
    (step : ∀ x ∈ l, ∀ (n' : Nat) (M1 : Mm) (N : D → Mm → Prop) (F : Mm → Prop), Bx d c (n' + k) M0 L M1 → (∀ M2, Bx d c n' M0 L M2 → N (f x) M2) → (∀ M2, Bx d c n' M0 L M2 → F M2) →
      g (f x) ds0 M1 fun ds' M2 => tt ds' M2 fun k M3 => if k = true then te ds' M3 N else F M3)
    (fin : ∀ (l' : List α) M', l'.Sublist l → Bx d c (n - k * l.length) M0 L M' → Q (l'.map f) M') : lcW ok g tt te ds0 Q (l.map f) [] M := by
  refine lcW_go (fun i acc M' => (∃ l', acc = l'.map f ∧ l'.Sublist (l.take i)) ∧ i ≤ l.length ∧ Bx d c (n - k * l.length + k * (l.length - i)) M0 L M') (l.map f) (fun i acc M' h => hok _ _ h.2.2) (fun i x N e hN acc M' hI => ?_) (fun acc M' hI => ?_) M ⟨⟨[], rfl, by simp⟩, Nat.zero_le _, b.mono (by simp; omega)⟩
  · obtain ⟨⟨l', rfl, h1⟩, h2, h3⟩ := hI
    rw [List.getElem?_map] at e
    obtain ⟨y, hy, rfl⟩ := Option.map_eq_some_iff.mp e
    have hlt : i < l.length := (List.getElem?_eq_some_iff.mp hy).1
    have tk : l.take (i + 1) = l.take i ++ [y] := by rw [List.take_add_one, hy]; rfl
    have hll : l'.length ≤ i := by have := h1.length_le; rw [List.length_take] at this; omega
    have b1 : Bx d c (n - k * l.length + k * (l.length - (i + 1)) + k) M0 L M' := h3.mono (by rw [show l.length - i = (l.length - (i + 1)) + 1 by omega, Nat.mul_add, Nat.mul_one]; omega)
    refine step y (List.mem_of_getElem? hy) _ M' (fun z M2 => (l'.map f).length < sizeLine ∧ N (l'.map f ++ [z]) M2) _ b1 (fun M2 b2 => ⟨by rw [List.length_map]; omega, hN _ _ ⟨⟨l' ++ [y], by simp, ?_⟩, hlt, b2⟩⟩) fun M2 b2 => hN _ _ ⟨⟨l', rfl, ?_⟩, hlt, b2⟩
    · rw [tk]; exact h1.append (List.Sublist.refl _)
    · rw [tk]; exact h1.trans (List.sublist_append_left _ _)
  · obtain ⟨⟨l', rfl, h1⟩, h2, h3⟩ := hI
    rw [List.length_map] at h1 h3
    rw [List.take_length] at h1
    exact fin l' M' h1 (h3.mono (by simp))
end
end DM
namespace DM
open PySem L2
theorem name_dig {z : Str} (h : NameS z) : digB z = false := by
  obtain ⟨⟨c, r, e, hc⟩, _⟩ := h
  unfold digB sgn0
  rw [e, List.headD_cons]
  exact (by decide +kernel : ∀ c ∈ lets, inStr ⟨#[c]⟩ ("0123456789" : Str) = false) c hc
end DM
namespace DM
open PySem L2
open PyProof.Rows (b2i)
def keyP : Key → PyData
  | .inl i => .int i
  | .inr x => .str x
mutual
def toPx : D → PyData
  | .bl b => .bool b
  | .int i => .int i
  | .str x => .str x
  | .tup xs => .tuple (toPxs xs)
  | .lst xs => .list (toPxs xs)
  | .dic kvs => .dict (toPxk kvs)
  | .non => .none
  | .ref _ => .none
  | .ty _ => .none
  | .dit _ => .none
def toPxs : List D → List PyData
  | [] => []
  | x :: xs => toPx x :: toPxs xs
def toPxk : List (Key × D) → List (PyData × PyData)
  | [] => []
  | kv :: r => toPxp kv :: toPxk r
def toPxp : Key × D → PyData × PyData
  | (k, d) => (keyP k, toPx d)
end
mutual
def pureX : D → Bool
  | .ref _ => false
  | .ty _ => false
  | .dit _ => false
  | .dic kvs => pureXk kvs
  | .tup xs => pureXs xs
  | .lst xs => pureXs xs
  | .non => true
  | .bl _ => true
  | .int _ => true
  | .str _ => true
def pureXs : List D → Bool
  | [] => true
  | x :: xs => pureX x && pureXs xs
def pureXk : List (Key × D) → Bool
  | [] => true
  | kv :: r => pureXp kv && pureXk r
def pureXp : Key × D → Bool
  | (_, d) => pureX d
end
def shx (d : D) : Str := (toPx d).shown
structure ShowX (d : D) : Prop where
  p : pureX d = true
  q : (toPx d).depth ≤ 100
  s : (toPx d).showable = true
  l : (shx d).length ≤ sizeLine
end DM
namespace DM
open PySem L2
open PyProof.Rows (b2i)
open PySem.SeqAt (EqAt RcAt RcNeAt)
mutual
theorem pureX_of : ∀ d : D, pureD d = true → pureX d = true
  | .non, _ => rfl
  | .bl _, _ => rfl
  | .int _, _ => rfl
  | .str _, _ => rfl
  | .tup xs, h => by simp only [pureX]; exact pureXs_of xs (by simpa [pureD] using h)
  | .lst xs, h => by simp only [pureX]; exact pureXs_of xs (by simpa [pureD] using h)
  | .ref _, h => by simp [pureD] at h
  | .ty _, h => by simp [pureD] at h
  | .dic _, h => by simp [pureD] at h
  | .dit _, h => by simp [pureD] at h
theorem pureXs_of : ∀ ds : List D, pureDs ds = true → pureXs ds = true
  | [], _ => rfl
  | d :: ds, h => by
    have h' := Bool.and_eq_true_iff.mp (show (pureD d && pureDs ds) = true by simpa [pureDs] using h)
    simp only [pureXs, pureX_of d h'.1, pureXs_of ds h'.2, Bool.and_self]
end
end DM
namespace DM
open PySem L2
def okK : Key → Bool
  | .inl i => decide (i.natAbs < 10 ^ 45)
  | .inr x => (cps x).all (· < 128)
def bkK : Key → Nat
  | .inl _ => 0
  | .inr x => x.length / 4
mutual
def okX : D → Bool
  | .str z => (cps z).all (· < 128)
  | .int i => decide (i.natAbs < 10 ^ 45)
  | .tup xs => okXs xs
  | .lst xs => okXs xs
  | .dic kvs => okXk kvs
  | .non => true
  | .bl _ => true
  | .ref _ => false
  | .ty _ => false
  | .dit _ => false
def okXs : List D → Bool
  | [] => true
  | x :: xs => okX x && okXs xs
def okXk : List (Key × D) → Bool
  | [] => true
  | kv :: r => okXp kv && okXk r
def okXp : Key × D → Bool
  | (k, d) => okK k && okX d
end
mutual
def bkX : D → Nat
  | .str z => z.length / 4
  | .tup xs => bkXs xs
  | .lst xs => bkXs xs
  | .dic kvs => bkXk kvs
  | .int _ => 0
  | .non => 0
  | .bl _ => 0
  | .ref _ => 0
  | .ty _ => 0
  | .dit _ => 0
def bkXs : List D → Nat
  | [] => 0
  | x :: xs => bkX x + 1 + bkXs xs
def bkXk : List (Key × D) → Nat
  | [] => 0
  | kv :: r => bkXp kv + bkXk r
def bkXp : Key × D → Nat
  | (k, d) => bkK k + bkX d + 2
end
mutual
def wdX : D → Nat
  | .tup xs => max xs.length (wdXs xs)
  | .lst xs => max xs.length (wdXs xs)
  | .str _ => 0
  | .dic _ => 0
  | .int _ => 0
  | .non => 0
  | .bl _ => 0
  | .ref _ => 0
  | .ty _ => 0
  | .dit _ => 0
def wdXs : List D → Nat
  | [] => 0
  | x :: xs => max (wdX x) (wdXs xs)
end
mutual
theorem okX_pure : ∀ d : D, okX d = true → pureX d = true
  | .str _, _ => by simp only [pureX]
  | .int _, _ => by simp only [pureX]
  | .non, _ => by simp only [pureX]
  | .bl _, _ => by simp only [pureX]
  | .tup xs, h => by simp only [pureX]; exact okXs_pure xs (by simpa [okX] using h)
  | .lst xs, h => by simp only [pureX]; exact okXs_pure xs (by simpa [okX] using h)
  | .dic kvs, h => by simp only [pureX]; exact okXk_pure kvs (by simpa [okX] using h)
  | .ref _, h => by simp [okX] at h
  | .ty _, h => by simp [okX] at h
  | .dit _, h => by simp [okX] at h
theorem okXs_pure : ∀ ds : List D, okXs ds = true → pureXs ds = true
  | [], _ => by simp only [pureXs]
  | d :: ds, h => by
    have h' : okX d = true ∧ okXs ds = true := by simpa [okXs] using h
    simp only [pureXs, okX_pure d h'.1, okXs_pure ds h'.2, Bool.and_self]
theorem okXk_pure : ∀ ds : List (Key × D), okXk ds = true → pureXk ds = true
  | [], _ => by simp only [pureXk]
  | (k, d) :: ds, h => by
    have h' : (okK k = true ∧ okX d = true) ∧ okXk ds = true := by simpa [okXk, okXp] using h
    simp only [pureXk, pureXp, okX_pure d h'.1.2, okXk_pure ds h'.2, Bool.and_self]
end
theorem ofString_app (a b : String) : Str.ofString (a ++ b) = Str.ofString a ++ Str.ofString b := by
  rw [Str.ofString_eq_toList, Str.ofString_eq_toList, Str.ofString_eq_toList, String.toList_append, List.map_append]
  show (⟨_⟩ : Str) = ⟨_⟩
  rw [List.append_toArray]
theorem int_len {i : Int} (h : i.natAbs < 10 ^ 45) : (Str.ofString (toString i)).length ≤ 46 := by
  by_cases h0 : 0 ≤ i
  · exact Nat.le_trans (PyProof.Rows.toString_length_le h0 (k := 45) (by decide) (by omega)) (by decide)
  · have h1 := PyProof.Rows.toString_length_le (v := 0 - i) (by omega) (k := 45) (by decide) (by omega)
    have e : Str.ofString (toString i) = ("-" : Str) ++ Str.ofString (toString (0 - i)) := by
      rw [PyProof.Rows.toString_neg (by omega)]
      exact ofString_app _ _
    rw [e, strLen_append]
    have : (("-" : String) : Str).length = 1 := rfl
    omega
theorem int_log {i : Int} (h : i.natAbs < 10 ^ 45) : i.natAbs.log2 < 1920 := log2_lt (by decide) (Nat.lt_of_lt_of_le h (by decide +kernel))
theorem key_showable {k : Key} (h : okK k = true) : (keyP k).showable = true := by
  cases k with
  | inl i => simp only [keyP, PyData.showable, decide_eq_true_eq]; exact int_log (of_decide_eq_true h)
  | inr x => simp only [keyP, PyData.showable]
mutual
theorem okX_showable : ∀ d : D, okX d = true → (toPx d).showable = true
  | .str z, h => by simp only [toPx, PyData.showable]
  | .int i, h => by simp only [toPx, PyData.showable, decide_eq_true_eq]; exact int_log (by simpa [okX] using h)
  | .non, _ => by simp only [toPx, PyData.showable]
  | .bl _, _ => by simp only [toPx, PyData.showable]
  | .tup xs, h => by simp only [toPx, PyData.showable]; exact okXs_showable xs (by simpa [okX] using h)
  | .lst xs, h => by simp only [toPx, PyData.showable]; exact okXs_showable xs (by simpa [okX] using h)
  | .dic kvs, h => by simp only [toPx, PyData.showable]; exact okXk_showable kvs (by simpa [okX] using h)
  | .ref _, h => by simp [okX] at h
  | .ty _, h => by simp [okX] at h
  | .dit _, h => by simp [okX] at h
theorem okXs_showable : ∀ ds : List D, okXs ds = true → PyData.showableAll (toPxs ds) = true
  | [], _ => by simp only [toPxs, PyData.showableAll]
  | d :: ds, h => by
    have h' : okX d = true ∧ okXs ds = true := by simpa [okXs] using h
    simp only [toPxs, PyData.showableAll, okX_showable d h'.1, okXs_showable ds h'.2, Bool.and_self]
theorem okXk_showable : ∀ ds : List (Key × D), okXk ds = true → PyData.showableKv (toPxk ds) = true
  | [], _ => by simp only [toPxk, PyData.showableKv]
  | (k, d) :: ds, h => by
    have h' : (okK k = true ∧ okX d = true) ∧ okXk ds = true := by simpa [okXk, okXp] using h
    simp only [toPxk, toPxp, PyData.showableKv, key_showable h'.1.1, okX_showable d h'.1.2, okXk_showable ds h'.2, Bool.and_self]
end
theorem asc_lt2 {z : Str} (h : ((cps z).all (· < 128)) = true) : ∀ c ∈ cps z, c < 16 ^ 8 := fun c hc => Nat.lt_of_lt_of_le (of_decide_eq_true (List.all_eq_true.mp h c hc)) (by decide)
theorem str_shown {z : Str} (h : ((cps z).all (· < 128)) = true) : (reprText z).length ≤ 49 * (z.length / 4) + 47 := by
  have := PySem.StrLaws.reprText_len z (asc_lt2 h)
  omega
theorem key_shown {k : Key} (h : okK k = true) : (keyP k).shown.length ≤ 49 * bkK k + 47 := by
  cases k with
  | inl i =>
    have := int_len (i := i) (of_decide_eq_true h)
    simp only [keyP, PyData.shown, bkK]
    exact Nat.le_trans this (by decide)
  | inr x => simp only [keyP, PyData.shown, bkK]; exact str_shown h
mutual
theorem okX_shown : ∀ d : D, okX d = true → (toPx d).shown.length ≤ 49 * bkX d + 47
  | .str z, h => by simp only [toPx, PyData.shown, bkX]; exact str_shown (by simpa [okX] using h)
  | .int i, h => by
    have := int_len (i := i) (by simpa [okX] using h)
    simp only [toPx, PyData.shown, bkX]
    exact Nat.le_trans this (by decide)
  | .non, _ => by
    have e : (PyData.shown .none).length = 4 := rfl
    simp only [toPx, e]; omega
  | .bl b, _ => by
    have e : (PyData.shown (.bool b)).length ≤ 5 := by cases b <;> decide
    simp only [toPx]; omega
  | .tup xs, h => by
    have z := okXs_shown xs (by simpa [okX] using h)
    have z2 := tupleText_len_le (PyData.shownAll (toPxs xs))
    simp only [toPx, PyData.shown, bkX]; omega
  | .lst xs, h => by
    have z := okXs_shown xs (by simpa [okX] using h)
    have z2 := listText_len_le (PyData.shownAll (toPxs xs))
    simp only [toPx, PyData.shown, bkX]; omega
  | .dic kvs, h => by
    have z := okXk_shown kvs (by simpa [okX] using h)
    have z2 := dictText_len_le (PyData.shownKv (toPxk kvs))
    simp only [toPx, PyData.shown, bkX]; omega
  | .ref _, h => by simp [okX] at h
  | .ty _, h => by simp [okX] at h
  | .dit _, h => by simp [okX] at h
theorem okXs_shown : ∀ ds : List D, okXs ds = true → ((PyData.shownAll (toPxs ds)).map (·.length)).sum + 2 * (PyData.shownAll (toPxs ds)).length ≤ 49 * bkXs ds
  | [], _ => by simp only [toPxs, PyData.shownAll, List.map_nil, List.sum_nil, List.length_nil, bkXs]; omega
  | d :: ds, h => by
    have h' : okX d = true ∧ okXs ds = true := by simpa [okXs] using h
    have z1 := okX_shown d h'.1
    have z2 := okXs_shown ds h'.2
    simp only [toPxs, PyData.shownAll, List.map_cons, List.sum_cons, List.length_cons, bkXs]; omega
theorem okXk_shown : ∀ ds : List (Key × D), okXk ds = true → ((PyData.shownKv (toPxk ds)).map (·.length)).sum + 2 * (PyData.shownKv (toPxk ds)).length ≤ 49 * bkXk ds
  | [], _ => by simp only [toPxk, PyData.shownKv, List.map_nil, List.sum_nil, List.length_nil, bkXk]; omega
  | (k, d) :: ds, h => by
    have h' : (okK k = true ∧ okX d = true) ∧ okXk ds = true := by simpa [okXk, okXp] using h
    have z0 := key_shown h'.1.1
    have z1 := okX_shown d h'.1.2
    have z2 := okXk_shown ds h'.2
    have e : ((keyP k).shown ++ ": " ++ (toPx d).shown).length = (keyP k).shown.length + 2 + (toPx d).shown.length := by
      rw [strLen_append, strLen_append]; rfl
    simp only [toPxk, toPxp, PyData.shownKv, List.map_cons, List.sum_cons, List.length_cons, bkXk, bkXp]; omega
end
def dpX (d : D) : Nat := (toPx d).depth
def dpXs (ds : List D) : Nat := PyData.depthAll (toPxs ds)
theorem dpX_tup (xs : List D) : dpX (.tup xs) = dpXs xs + 1 := by simp only [dpX, toPx, PyData.depth, dpXs]
theorem dpX_lst (xs : List D) : dpX (.lst xs) = dpXs xs + 1 := by simp only [dpX, toPx, PyData.depth, dpXs]
theorem dpX_str (z : Str) : dpX (.str z) = 0 := by simp only [dpX, toPx, PyData.depth]
theorem dpX_int (z : Int) : dpX (.int z) = 0 := by simp only [dpX, toPx, PyData.depth]
theorem dpX_bl (z : Bool) : dpX (.bl z) = 0 := by simp only [dpX, toPx, PyData.depth]
theorem dpX_non : dpX .non = 0 := by simp only [dpX, toPx, PyData.depth]
theorem dpXs_nil : dpXs [] = 0 := by simp only [dpXs, toPxs, PyData.depthAll]
theorem dpXs_cons (x : D) (xs : List D) : dpXs (x :: xs) = max (dpX x) (dpXs xs) := by simp only [dpXs, toPxs, PyData.depthAll, dpX]
theorem dpXs_le {k : Nat} : ∀ {xs : List D}, dpXs xs ≤ k ↔ ∀ x ∈ xs, dpX x ≤ k
  | [] => by simp [dpXs_nil]
  | x :: xs => by
    have ih := dpXs_le (k := k) (xs := xs)
    rw [dpXs_cons, List.forall_mem_cons, ← ih]
    omega
theorem wdXs_le {k : Nat} : ∀ {xs : List D}, wdXs xs ≤ k ↔ ∀ x ∈ xs, wdX x ≤ k
  | [] => by simp [wdXs]
  | x :: xs => by
    have ih := wdXs_le (k := k) (xs := xs)
    rw [wdXs, List.forall_mem_cons, ← ih]
    omega
theorem okXs_iff : ∀ {xs : List D}, okXs xs = true ↔ ∀ x ∈ xs, okX x = true
  | [] => by simp [okXs]
  | x :: xs => by
    have ih := okXs_iff (xs := xs)
    rw [okXs, List.forall_mem_cons, ← ih, Bool.and_eq_true]
theorem bkXs_app : ∀ {xs ys : List D}, bkXs (xs ++ ys) = bkXs xs + bkXs ys
  | [], _ => by simp [bkXs]
  | x :: xs, ys => by rw [List.cons_append, bkXs, bkXs, bkXs_app]; omega
theorem bkXs_td {xs : List D} (n : Nat) : bkXs (xs.take n) + bkXs (xs.drop n) = bkXs xs := by rw [← bkXs_app, List.take_append_drop]
theorem bkXs_get {xs : List D} {i : Nat} {x : D} (h : xs[i]? = some x) : bkXs (xs.take i) + (bkX x + 1) + bkXs (xs.drop (i + 1)) = bkXs xs := by
  have e : xs.drop i = x :: xs.drop (i + 1) := by
    obtain ⟨hl, rfl⟩ := List.getElem?_eq_some_iff.mp h
    exact List.drop_eq_getElem_cons hl
  have := bkXs_td (xs := xs) i
  rw [e, bkXs] at this
  omega
theorem bkXs_mem {xs : List D} {x : D} (h : x ∈ xs) : bkX x + 1 ≤ bkXs xs := by
  obtain ⟨i, hi⟩ := List.mem_iff_getElem?.mp h
  have := bkXs_get hi
  omega
structure Tg (n w k : Nat) (d : D) : Prop where
  ok : okX d = true
  bk : bkX d ≤ n
  wd : wdX d ≤ w
  dp : dpX d ≤ k
theorem Tg.mono {n n' w w' k k' : Nat} {d : D} (h : Tg n w k d) (hn : n ≤ n') (hw : w ≤ w') (hk : k ≤ k') : Tg n' w' k' d := ⟨h.ok, Nat.le_trans h.bk hn, Nat.le_trans h.wd hw, Nat.le_trans h.dp hk⟩
structure Tgs (n w k : Nat) (ds : List D) : Prop where
  ok : ∀ x ∈ ds, okX x = true
  bk : bkXs ds ≤ n
  wd : ∀ x ∈ ds, wdX x ≤ w
  dp : ∀ x ∈ ds, dpX x ≤ k
theorem Tg.tup {n w k : Nat} {xs : List D} (h : Tgs n w k xs) (hl : xs.length ≤ w) : Tg n w (k + 1) (.tup xs) :=
  ⟨by rw [okX]; exact okXs_iff.mpr h.ok, by rw [bkX]; exact h.bk, by rw [wdX]; have := wdXs_le.mpr h.wd; omega, by rw [dpX_tup]; have := dpXs_le.mpr h.dp; omega⟩
theorem Tg.lst {n w k : Nat} {xs : List D} (h : Tgs n w k xs) (hl : xs.length ≤ w) : Tg n w (k + 1) (.lst xs) :=
  ⟨by rw [okX]; exact okXs_iff.mpr h.ok, by rw [bkX]; exact h.bk, by rw [wdX]; have := wdXs_le.mpr h.wd; omega, by rw [dpX_lst]; have := dpXs_le.mpr h.dp; omega⟩
theorem Tg.ins {n w k : Nat} {xs : List D} (h : Tg n w k (.tup xs)) : Tgs n w (k - 1) xs ∧ xs.length ≤ w ∧ 1 ≤ k := by
  have h1 := h.ok
  have h2 := h.bk
  have h3 := h.wd
  have h4 := h.dp
  rw [okX, okXs_iff] at h1
  rw [bkX] at h2
  rw [wdX] at h3
  rw [dpX_tup] at h4
  exact ⟨⟨h1, h2, wdXs_le.mp (by omega), dpXs_le.mp (by omega)⟩, by omega, by omega⟩
theorem Tgs.mem {n w k : Nat} {xs : List D} (h : Tgs n w k xs) {x : D} (hx : x ∈ xs) : Tg n w k x := ⟨h.ok x hx, by have := bkXs_mem hx; have := h.bk; omega, h.wd x hx, h.dp x hx⟩
theorem Tgs.of {n w k : Nat} {xs ys : List D} (h : Tgs n w k xs) (hs : ∀ y ∈ ys, y ∈ xs) {m : Nat} (hb : bkXs ys ≤ m) : Tgs m w k ys := ⟨fun y hy => h.ok y (hs y hy), hb, fun y hy => h.wd y (hs y hy), fun y hy => h.dp y (hs y hy)⟩
theorem Tgs.one {n w k : Nat} {x : D} (h : Tg n w k x) : Tgs (n + 1) w k [x] := ⟨fun y hy => by rw [List.mem_singleton.mp hy]; exact h.ok, by simp only [bkXs]; have := h.bk; omega, fun y hy => by rw [List.mem_singleton.mp hy]; exact h.wd, fun y hy => by rw [List.mem_singleton.mp hy]; exact h.dp⟩
theorem Tgs.nil {n w k : Nat} : Tgs n w k [] := ⟨fun _ h => (by cases h), by simp [bkXs], fun _ h => (by cases h), fun _ h => (by cases h)⟩
theorem Tg.str {z : Str} {n w k : Nat} (h : ∀ c ∈ cps z, c < 128) (hl : z.length / 4 ≤ n) : Tg n w k (.str z) := ⟨by rw [okX, List.all_eq_true]; exact fun c hc => decide_eq_true (h c hc), by rw [bkX]; omega, by rw [wdX]; exact Nat.zero_le _, by rw [dpX_str]; exact Nat.zero_le _⟩
theorem Tg.int {i : Int} {n w k : Nat} (h : i.natAbs < 10 ^ 45) : Tg n w k (.int i) := ⟨by rw [okX]; exact decide_eq_true h, by rw [bkX]; exact Nat.zero_le _, by rw [wdX]; exact Nat.zero_le _, by rw [dpX_int]; exact Nat.zero_le _⟩
theorem Tg.bl {b : Bool} {n w k : Nat} : Tg n w k (.bl b) := ⟨by rw [okX], by rw [bkX]; exact Nat.zero_le _, by rw [wdX]; exact Nat.zero_le _, by rw [dpX_bl]; exact Nat.zero_le _⟩
theorem Tg.non {n w k : Nat} : Tg n w k .non := ⟨by rw [okX], by rw [bkX]; exact Nat.zero_le _, by rw [wdX]; exact Nat.zero_le _, by rw [dpX_non]; exact Nat.zero_le _⟩
theorem Tg.strs {z : Str} {n w k : Nat} (h : Tg n w k (.str z)) : (∀ c ∈ cps z, c < 128) ∧ z.length ≤ 4 * n + 3 := ⟨fun c hc => of_decide_eq_true (List.all_eq_true.mp (by have := h.ok; rwa [okX] at this) c hc), by have := h.bk; rw [bkX] at this; omega⟩
theorem Tg.show {n w k : Nat} {d : D} (h : Tg n w k d) (hn : n ≤ 326000) (hk : k ≤ 100) : ShowX d := by
  have h2 := okX_showable d h.ok
  have hb := okX_shown d h.ok
  have := h.bk
  have h3 := Nat.mul_le_mul (Nat.le_refl 49) (show bkX d ≤ 326000 by omega)
  exact ⟨okX_pure d h.ok, Nat.le_trans h.dp hk, h2, small_line2 (by unfold shx; omega)⟩
mutual
theorem depD_dp : ∀ d : D, depD d ≤ dpX d + 1
  | .tup xs => by rw [dpX_tup, depD]; have := depDs_dp xs; omega
  | .lst xs => by rw [dpX_lst, depD]; have := depDs_dp xs; omega
  | .str _ => by rw [depD]; omega
  | .int _ => by rw [depD]; omega
  | .bl _ => by rw [depD]; omega
  | .non => by rw [depD]; omega
  | .ref _ => by rw [depD]; omega
  | .ty _ => by rw [depD]; omega
  | .dic _ => by rw [depD]; omega
  | .dit _ => by rw [depD]; omega
theorem depDs_dp : ∀ ds : List D, depDs ds ≤ dpXs ds + 1
  | [] => by rw [depDs]; omega
  | d :: ds => by rw [depDs, dpXs_cons]; have := depD_dp d; have := depDs_dp ds; omega
end
theorem cps_upper {z : Str} (h : ∀ c ∈ cps z, c < 128) : (∀ c ∈ cps (Txt.upper z), c < 128) ∧ (Txt.upper z).length = z.length := by
  rw [PyProof.Rows.upper_ascii (x := z) h]
  refine ⟨fun c hc => ?_, by simp [Str.length]⟩
  obtain ⟨c0, h0, rfl⟩ : ∃ c0 ∈ cps z, PyProof.Rows.up1 c0 = c := by
    have : c ∈ (z.cps.map PyProof.Rows.up1).toList := hc
    rw [Array.toList_map, List.mem_map] at this
    exact this
  have := h c0 h0
  unfold PyProof.Rows.up1
  split <;> omega
end DM
namespace DM
open PySem PySem.Spec PyProof.Rows L2
theorem knx {x : D} (h : pureX x = true) : KnD x := by cases x <;> first | trivial | (simp [pureX] at h)
def XeP : D → Prop
  | .tup xs => pureXs xs = true ∧ depDs xs ≤ 97
  | x => KnD x
theorem XeP.of {x : D} (h : pureX x = true) (d : depD x ≤ 98) : XeP x := by
  cases x with
  | tup xs => exact ⟨by simpa [pureX] using h, by simp only [depD] at d; omega⟩
  | _ => exact knx h
abbrev mD (E : List Ed) (F : List Str) : D := .tup [.tup (E.map edD), .tup (F.map .str)]
structure SzM (x : D) : Prop where
  p : pureX x = true
  d : depD x ≤ 98
  s : ∀ es fs, x = .tup [.tup es, .tup fs] → es.length ≤ 100000 ∧ fs.length ≤ 100000 ∧ (∀ e ∈ es, SmE e) ∧ ∀ f ∈ fs, SmT f
theorem SzM.k {E : List Ed} {F : List Str} (h : SzM (mD E F)) : MachK E F := by
  obtain ⟨h1, h2, h3, h4⟩ := h.s _ _ rfl
  rw [List.length_map] at h1 h2
  refine ⟨h1, h2, fun e he => ?_, fun s hs => h4 _ (List.mem_map.mpr ⟨s, hs, rfl⟩) s rfl⟩
  obtain ⟨a, b, c⟩ := h3 _ (List.mem_map.mpr ⟨e, he, rfl⟩) _ _ _ rfl
  exact ⟨a _ rfl, b _ rfl, c _ rfl⟩
theorem MachK.sz {E : List Ed} {F : List Str} (h : MachK E F) : SzM (mD E F) := by
  have e1 : pureDs (E.map edD) = true := pureDs_all fun x hx => by obtain ⟨e, _, rfl⟩ := List.mem_map.mp hx; simp [edD, pureD, pureDs]
  have e2 : pureDs (F.map D.str) = true := pureDs_all fun x hx => by obtain ⟨e, _, rfl⟩ := List.mem_map.mp hx; simp [pureD]
  have d1 : depDs (E.map edD) ≤ 2 := depDs_all (by decide) fun x hx => by obtain ⟨e, _, rfl⟩ := List.mem_map.mp hx; simp [edD, depD, depDs]
  have d2 : depDs (F.map D.str) ≤ 1 := depDs_all (by decide) fun x hx => by obtain ⟨e, _, rfl⟩ := List.mem_map.mp hx; simp [depD]
  refine ⟨pureX_of _ (by simp only [pureD, pureDs, e1, e2, Bool.and_self]), by simp only [depD, depDs]; omega, fun es fs e => ?_⟩
  simp only [D.tup.injEq, List.cons.injEq, and_true] at e
  obtain ⟨rfl, rfl⟩ := e
  rw [List.length_map, List.length_map]
  exact ⟨h.el, h.fl, fun e he => by obtain ⟨f, hf, rfl⟩ := List.mem_map.mp he; exact smE_ed (h.es f hf), fun s hs => by obtain ⟨f, hf, rfl⟩ := List.mem_map.mp hs; exact smT_s (h.fs f hf)⟩
theorem Tg.kn {n w k : Nat} {x : D} (h : Tg n w k x) : KnD x := knx (okX_pure x h.ok)
theorem Tg.smT {n w k : Nat} {x : D} (h : Tg n w k x) (hn : n ≤ 240000) : SmT x := fun z e => by subst e; exact Nat.le_trans h.strs.2 (by omega)
theorem Tg.smE {n w k : Nat} {x : D} (h : Tg n w k x) (hn : n ≤ 240000) : SmE x := fun a b c e => by
  subst e
  obtain ⟨h1, _, _⟩ := h.ins
  exact ⟨(h1.mem (x := a) (by simp)).smT hn, (h1.mem (x := b) (by simp)).smT hn, (h1.mem (x := c) (by simp)).smT hn⟩
theorem Tg.dep {n w k : Nat} {x : D} (h : Tg n w k x) : depD x ≤ k + 1 := by have := depD_dp x; have := h.dp; omega
theorem Tg.xe {n w k : Nat} {x : D} (h : Tg n w k x) (hk : k ≤ 97) : XeP x := .of (okX_pure x h.ok) (by have := h.dep; omega)
theorem Tg.sz {n w k : Nat} {x : D} (h : Tg n w k x) (hn : n ≤ 240000) (hw : w ≤ 100000) (hk : k ≤ 97) : SzM x := by
  refine ⟨okX_pure x h.ok, by have := h.dep; omega, fun es fs e => ?_⟩
  subst e
  obtain ⟨h1, _, _⟩ := h.ins
  obtain ⟨g1, l1, _⟩ := (h1.mem (x := .tup es) (by simp)).ins
  obtain ⟨g2, l2, _⟩ := (h1.mem (x := .tup fs) (by simp)).ins
  exact ⟨by omega, by omega, fun e he => (g1.mem he).smE hn, fun f hf => (g2.mem hf).smT hn⟩
theorem risB_pair {α : Type} {le : α → α → Bool} (tr : ∀ a b c, le a b = true → le b c = true → le a c = true) (to : ∀ a b, (le a b || le b a) = true) : ∀ {l : List α}, risB le l = true → l.Pairwise fun a b => le b a = false
  | [], _ => .nil
  | [a], _ => by simp
  | a :: b :: l, h => by
    have h' : (!le b a && risB le (b :: l)) = true := by simpa only [risB, List.tail_cons, List.zip_cons_cons, List.all_cons] using h
    obtain ⟨h1, h2⟩ := Bool.and_eq_true_iff.mp h'
    have h1 : le b a = false := by simpa using h1
    have p := risB_pair tr to h2
    refine List.pairwise_cons.mpr ⟨fun c hc => ?_, p⟩
    rcases List.mem_cons.mp hc with rfl | hc
    · exact h1
    · have h3 := (List.pairwise_cons.mp p).1 c hc
      refine Bool.eq_false_iff.mpr fun q => ?_
      have h4 : le b c = true := by have := to b c; rw [h3, Bool.or_false] at this; exact this
      exact absurd (tr _ _ _ h4 q) (by rw [h1]; simp)
theorem risE_nodup {E : List Ed} (h : risB leE E = true) : E.Nodup :=
  (risB_pair (le := leE) (fun _ _ _ h h' => leE_trans h h') leE_total h).imp fun {a b} (g : leE b a = false) (e : a = b) => by
    subst e
    have := leE_total a a
    rw [g] at this; cases this
end DM
namespace DM
open PySem L2
theorem cutL_len {α : Type} {xs : List α} {lo hi : Option Int} : (cutL xs lo hi).length ≤ xs.length := by
  unfold cutL
  simp only [List.length_take, List.length_drop]
  omega
theorem Tg.cutS {n w k : Nat} {z : Str} (h : Tg n w k (.str z)) (lo hi : Option Int) : Tg n w k (.str (cutS z lo hi)) := by
  refine .str (fun c hc => h.strs.1 c ?_) ?_
  · rw [cps_cut] at hc
    exact cutL_mem hc
  · rw [cps_len, cps_cut]
    have := cutL_len (xs := cps z) (lo := lo) (hi := hi)
    have := h.bk
    rw [bkX, cps_len] at this
    omega
theorem Tg.upper {n w k : Nat} {z : Str} (h : Tg n w k (.str z)) : Tg n w k (.str (Txt.upper z)) := by
  obtain ⟨h1, h2⟩ := cps_upper h.strs.1
  exact .str h1 (by rw [h2]; have := h.bk; rwa [bkX] at this)
theorem Tg.edit1 {n w k m v K nz wz kz : Nat} {xs ys : List D} {z : D} (h : Tg n w k (.tup xs)) (hz : Tg nz wz kz z) (hs : ∀ y ∈ ys, y ∈ xs ∨ y = z) (hb : bkXs ys ≤ m) (hl : ys.length ≤ v) (hw : w ≤ v) (hwz : wz ≤ v) (hk : k ≤ K) (hkz : kz + 1 ≤ K) : Tg m v K (.tup ys) := by
  obtain ⟨h1, h2, h3⟩ := h.ins
  have := Tg.tup (w := v) (n := m) (k := K - 1) (xs := ys) ⟨fun y hy => (hs y hy).elim (h1.ok y) fun e => e ▸ hz.ok, hb, fun y hy => (hs y hy).elim (fun q => Nat.le_trans (h1.wd y q) hw) fun e => e ▸ Nat.le_trans hz.wd hwz, fun y hy => (hs y hy).elim (fun q => Nat.le_trans (h1.dp y q) (by omega)) fun e => e ▸ Nat.le_trans hz.dp (by omega)⟩ hl
  rwa [show K - 1 + 1 = K by omega] at this
theorem Tg.bks {n w k : Nat} {xs : List D} (h : Tg n w k (.tup xs)) : bkXs xs ≤ n ∧ xs.length ≤ w := ⟨h.ins.1.bk, h.ins.2.1⟩
theorem Tg.one {n w k : Nat} {x : D} (h : Tg n w k x) (hw : 1 ≤ w) : Tg (n + 1) w (k + 1) (.tup [x]) := .tup (.one h) hw
theorem Tg.at {n w k N W K m V L : Nat} {xs : List D} {i : Nat} {x y : D} (h : Tg n w k (.tup xs)) (hx : xs[i]? = some x) (hy : Tg N W K y) (hN : n + N ≤ m + bkX x) (hw : w ≤ V) (hW : W ≤ V) (hk : k ≤ L) (hK : K + 1 ≤ L) : Tg m V L (.tup (xs.take i ++ [y] ++ xs.drop (i + 1))) := by
  have e := bkXs_get hx
  obtain ⟨b1, b2⟩ := h.bks
  have hi := (List.getElem?_eq_some_iff.mp hx).1
  refine h.edit1 hy (fun z hz => ?_) ?_ ?_ hw hW hk hK
  · rcases List.mem_append.mp hz with hz | hz
    · rcases List.mem_append.mp hz with hz | hz
      · exact .inl (List.mem_of_mem_take hz)
      · exact .inr (List.mem_singleton.mp hz)
    · exact .inl (List.mem_of_mem_drop hz)
  · rw [bkXs_app, bkXs_app]
    have := hy.bk
    simp only [bkXs]
    omega
  · simp only [List.length_append, List.length_take, List.length_drop, List.length_cons, List.length_nil]
    omega
def AscS (m : Nat) (z : Str) : Prop := (∀ c ∈ cps z, c < 128) ∧ z.length ≤ m
theorem AscS.mono {m m' : Nat} {z : Str} (h : AscS m z) (e : m ≤ m') : AscS m' z := ⟨h.1, Nat.le_trans h.2 e⟩
theorem AscS.tg {m w k : Nat} {z : Str} (h : AscS m z) : Tg (m / 4) w k (.str z) := .str h.1 (Nat.div_le_div_right h.2)
end DM
namespace DM
open PySem PySem.Spec PyProof.Rows L2
def pairK (d : D) : Option (Key × D) := match d with
  | .tup [k, v] => (keyD k).map fun kk => (kk, v)
  | _ => none
def pairsK : List D → Option (List (Key × D))
  | [] => some []
  | d :: ds => match pairK d, pairsK ds with
    | some q, some qs => some (q :: qs)
    | _, _ => none
def dictKQ (o : Option (List D)) (M : Mm) (Q : DQ) : Prop := match o with
  | some ys => (match pairsK ys with | some kvs => ∀ p, M p = none → Q (.ref p) (mup M p (.dic (mergeD [] kvs))) | none => False)
  | none => False
def dictKR : DRC := fun xs M Q => match xs with
  | [x] => dictKQ (rdL M x) M Q
  | _ => False
def rDictPK (K : PySem.W.Frag) : List V → Hp → VK → Prop := fun xs H Q => ∃ (a : Addr) (ps : List Addr) (kvs : List (Key × V)), xs = [.ref a] ∧ SqL K H a (ps.map V.ref) ∧ Paired (fun p kv => SqT K H p [kV kv.1, kv.2]) ps kvs ∧
    ∀ p, H p = none → Q (.ref p) (upd H p (.dK (mergeK [] kvs)))
theorem pairsK_v {K : PySem.W.Frag} {H : HF} : ∀ {ys : List D} {vs : List V} {kvs : List (Key × D)}, VRs K H ys vs → pairsK ys = some kvs →
    ∃ (ps : List Addr) (qs : List (Key × V)), vs = ps.map V.ref ∧ Paired (fun p kv => SqT K H.h p [kV kv.1, kv.2]) ps qs ∧ FR K H kvs qs
  | [], _, kvs, r, e => by
    cases r
    cases e
    exact ⟨[], [], rfl, .nil, .nil⟩
  | d :: ds, _, kvs, r, e => by
    cases r with
    | cons r1 r2 =>
      unfold pairsK at e
      split at e
      · rename_i q qs0 e1 e2
        cases e
        obtain ⟨ps, qs, rfl, hp, hf⟩ := pairsK_v r2 e2
        unfold pairK at e1
        split at e1
        · rename_i k v
          obtain ⟨kk, hk, e1⟩ := Option.map_eq_some_iff.mp e1
          cases e1
          obtain ⟨b, ws, rfl, hb, rw⟩ := VR.tup_v r1
          cases rw with
          | cons rk rw =>
            cases rw with
            | cons rv rw =>
              cases rw
              have hkv := keyD_v rk hk
              subst hkv
              exact ⟨b :: ps, (kk, _) :: qs, rfl, .cons hb hp, .cons rv hf⟩
        · cases e1
      · cases e
theorem lift_dictPK {K : PySem.W.Frag} : LiftC K (rDictPK K) dictKR := by
  intro vs ds H M Q Q0 r m h k
  unfold dictKR at h
  split at h
  · rename_i x
    obtain ⟨v, rfl, r1⟩ := r.one
    unfold dictKQ at h
    split at h
    · rename_i ys e
      obtain ⟨a, ws, rfl, h1, r2⟩ := rdL_v m r1 e
      split at h
      · rename_i kvs e2
        obtain ⟨ps, qs, rfl, hp, hf⟩ := pairsK_v r2 e2
        refine ⟨a, ps, qs, rfl, SqL.of h1, hp, fun p hpn => ?_⟩
        have hm := FR.merge (kvs := []) (vs := []) hf .nil
        exact k (.ref p) (H.up p _) (.ref p) _ (.ref p) (m.new (w := .dic _) hpn ⟨_, upd_same, hm.mono (TX.new m hpn)⟩) (GG.new hpn) (h p (m.free hpn))
      · exact h.elim
    · exact h.elim
  · exact h.elim
section
variable {X : Cx} {e : Expr} {es : List Expr} {t : TDA} {p pos : Pos} {k : Nat}
theorem je_dictPK (hc : X.calm = true) (hr : Room k X.A) (hm : X.mg "dict" = none) (ha : JA X (e :: es) t) (hg : Gl X "dict" := by rfl) (he : starEach (e :: es) X.env = (false, eval e X.env) :: starEach es X.env := by rfl) (hpl : (backTo pos (starEach es X.env)).any (·.1) = false := by rfl) :
    JE X (.Call (.Name "dict" p) (e :: es) [] pos) (dCB dictKR t) := je_callTy (call_dictP hc) lift_dictPK hg hm PyProof.Rows.boot_dict ha (by decide) (by decide) he hpl
end
theorem dictK_go {l : List (Key × D)} {ys : List D} {x : D} {M : Mm} {Q : DQ} (e : rdL M x = some ys) (e2 : pairsK ys = some l) (k : ∀ p, M p = none → Q (.ref p) (mup M p (.dic (mergeD [] l)))) : dictKR [x] M Q := by
  show dictKQ (rdL M x) M Q
  rw [e]
  unfold dictKQ
  simp only [e2]
  exact k
theorem pairsK_strs {S : List Str} {f : Str → D} : pairsK (S.map fun s => .tup [.str s, f s]) = some (S.map fun s => (.inr s, f s)) := by
  induction S with
  | nil => rfl
  | cons e E ih =>
    rw [List.map_cons]
    unfold pairsK
    rw [ih]
    rfl
theorem dpX_dic1 {k : Key} {x : D} : dpX (.dic [(k, x)]) ≤ dpX x + 1 := by
  cases k <;> simp [dpX, toPx, toPxk, toPxp, keyP, PyData.depth, PyData.depthKv]
theorem Tg.dic1 {n w k : Nat} {x : D} {z : Str} (h : Tg n w k x) (hz : ((cps z).all (· < 128)) = true) (hl : z.length ≤ 3) : Tg (n + 2) w (k + 1) (.dic [(.inr z, x)]) := by
  refine ⟨?_, ?_, by simp [wdX], Nat.le_trans dpX_dic1 (Nat.succ_le_succ h.dp)⟩
  · simp only [okX, okXk, okXp, okK, h.ok, hz, Bool.and_self]
  · simp only [bkX, bkXk, bkXp, bkK]
    have := h.bk
    have : z.length / 4 = 0 := by omega
    omega
end DM
namespace DM
open PySem PySem.Spec PyProof.Rows L2
def dOrL (t1 t2 : TDL) : TDL := fun ds M Q => t1 ds M Q ∨ t2 ds M Q
theorem jl_or {X : Cx} {e : Expr} {t1 t2 : TDL} (h1 : JL X e t1) (h2 : JL X e t2) : JL X e (dOrL t1 t2) := by
  obtain ⟨u1, p1, g1⟩ := h1
  obtain ⟨u2, p2, g2⟩ := h2
  refine ⟨fun σ H Q => u1 σ H Q ∨ u2 σ H Q, ⟨fun pins s σ H Q I h => h.elim (p1.run pins s σ H Q I) (p2.run pins s σ H Q I)⟩, fun ds σ H M Q Q0 s m q k => ?_⟩
  exact q.elim (fun q => .inl (g1 ds σ H M Q Q0 s m q k)) fun q => .inr (g2 ds σ H M Q Q0 s m q k)
theorem dOrL_l {t1 t2 : TDL} {ds : DSt} {M : Mm} {Q : List D → Mm → Prop} (h : t1 ds M Q) : dOrL t1 t2 ds M Q := .inl h
theorem dOrL_r {t1 t2 : TDL} {ds : DSt} {M : Mm} {Q : List D → Mm → Prop} (h : t2 ds M Q) : dOrL t1 t2 ds M Q := .inr h
theorem eqvDs_eds : ∀ {a b : List Ed}, eqvDs (a.map edD) (b.map edD) = decide (a = b)
  | [], [] => by simp [eqvDs]
  | [], y :: ys => by simp [eqvDs]
  | x :: xs, [] => by simp [eqvDs]
  | x :: xs, y :: ys => by
    have ih := eqvDs_eds (a := xs) (b := ys)
    simp only [List.map_cons, eqvDs, ih, eqv_ed]
    rw [Bool.eq_iff_iff]
    simp
theorem riseE_fix {E : List Ed} : E = riseE E ↔ risB leE E = true := by
  constructor
  · intro h
    have := risE_of (riseE_nodup E) ⟨_, rfl⟩
    rwa [← h] at this
  · intro h
    have hn := risE_nodup h
    have hp : E.Pairwise fun a b => leE a b = true := (risB_pair (le := leE) (fun _ _ _ h h' => leE_trans h h') leE_total h).imp fun {a b} (g : leE b a = false) => by
      have := leE_total a b
      rw [g, Bool.or_false] at this
      exact this
    have hs : sortE E = E := by
      unfold sortE
      refine List.mergeSort_of_pairwise ?_
      exact hp.imp fun h => by rw [leD_ed]; exact h
    calc E = sortE E := hs.symm
      _ = sortE (insAll [] E) := sortE_ext hn (onceE_nodup E) fun z => onceE_mem.symm
      _ = riseE E := rfl
theorem rise_fix {F : List Str} : F = rise F ↔ risB leS F = true := by
  constructor
  · intro h
    have := risS_of (rise_ris F)
    rwa [← h] at this
  · intro h
    have hp : RisS F := (risB_pair (le := leS) (fun _ _ _ h h' => leS_trans h h') leS_total h).imp fun {a b} (g : leS b a = false) => by
      have h1 := leS_total a b
      rw [g, Bool.or_false] at h1
      refine ⟨h1, ?_⟩
      rintro rfl
      rw [g] at h1; cases h1
    exact (ris_eq (rise_ris F) hp fun z => rise_mem).symm
end DM
namespace DM
open PySem L2
inductive Rw where
  | set (f : Nat) | back | ask (f n : Nat) | any (ns : List Nat) | call (z : Str)
  deriving DecidableEq
abbrev Cd := List (Str × List Rw)
abbrev Frm := Str × Nat
section
variable {c : Cd} {z : Str} {rows : List Rw} {f : Frm}
theorem merge_nd : ∀ (l acc : List (Key × D)), (acc.map (·.1) ++ l.map (·.1)).Nodup → mergeD acc l = acc ++ l
  | [], acc, _ => by simp [mergeD]
  | q :: l, acc, h => by
    have hq : (acc.any fun kv => decide (kv.1 = q.1)) = false := by
      rw [List.any_eq_false]
      intro kv hk e
      have e : kv.1 = q.1 := by simpa using e
      rw [List.map_cons] at h
      have h2 := List.nodup_append.mp h
      exact h2.2.2 _ (List.mem_map.mpr ⟨kv, hk, e⟩) _ (List.mem_cons_self) rfl
    have e1 : mergeD acc (q :: l) = mergeD (acc ++ [q]) l := by
      show mergeD (putD acc q.1 q.2) l = _
      unfold putD
      rw [hq, if_neg (by decide)]
    rw [e1, merge_nd l (acc ++ [q]) (by simpa using h)]
    simp
end
end DM
namespace DM
open PySem L2
open PyProof.Rows (b2i)
def KnX : D → Prop
  | .tup xs => ∀ y ∈ xs, KnD y ∧ SmT y
  | x => KnD x
theorem Tg.knx {n w k : Nat} {d : D} (h : Tg n w k d) (hn : n ≤ 240000) : KnX d := by
  cases d with
  | tup xs => exact fun y hy => ⟨(h.ins.1.mem hy).kn, (h.ins.1.mem hy).smT (by omega)⟩
  | ref _ => exact h.kn.elim
  | ty _ => exact h.kn.elim
  | dit _ => exact h.kn.elim
  | _ => trivial
end DM
namespace DM
open PySem L2
theorem Tg.mem {n w k : Nat} {xs : List D} (h : Tg n w k (.tup xs)) {x : D} (hx : x ∈ xs) : Tg n w k x := (h.ins.1.mem hx).mono (Nat.le_refl _) (Nat.le_refl _) (by omega)
end DM
namespace DM
open PySem L2
theorem cps_sp : cps (" " : Str) = [32] := by decide
theorem cps_joinS (y : Str) : ∀ {ws : List Str} {x : Str}, cps (Txt.join y (x :: ws)) = cps x ++ ws.flatMap fun w => cps y ++ cps w
  | [], x => by rw [TL.join_eq]; simp [Str.join]
  | w :: ws, x => by
    have := cps_joinS y (ws := ws) (x := w)
    rw [TL.join_eq] at this ⊢
    show cps (x ++ y ++ Str.join y (w :: ws)) = _
    rw [cps_append, cps_append, this]
    simp
theorem NameS.len8 {z : Str} (h : NameS z) : z.length ≤ 8 := by rw [cps_len]; exact h.2.2
theorem sumS_le {k : Nat} : ∀ {ws : List Str}, (∀ z ∈ ws, z.length ≤ k) → (ws.map (·.length)).sum ≤ k * ws.length
  | [], _ => by simp
  | w :: ws, h => by
    rw [List.map_cons, List.sum_cons, List.length_cons, Nat.mul_add]
    have h1 := h w (by simp)
    have h2 := sumS_le (k := k) (ws := ws) fun z hz => h z (by simp [hz])
    omega
theorem join_go {M : Mm} {Q : DQ} {a : Str} {xs : List D} {ws : List Str} {k : Nat} (e : xs = ws.map .str) (hz : ∀ z ∈ ws, z.length ≤ k) (h1 : k * ws.length + ws.length * a.length ≤ 16777216) (h : Q (.str (Txt.join a ws)) M) : joinQ a xs M Q := by
  subst e
  have := sumS_le hz
  have e : ws.map (fun x => x) = ws := by simp
  exact joinQ_map (fun x => x) (by rw [e]; omega) (by rw [e]; exact h)
end DM
namespace DM
open PySem L2
theorem spl_mem {S : List Nat} : ∀ (l : List Nat) (n : Nat) (acc : List Nat), ∀ p ∈ TL.spl S n acc l, ∀ c ∈ p, c ∈ acc ∨ c ∈ l
  | [], n, acc, p, hp, c, hc => by
    rw [TL.spl_nil, List.mem_singleton] at hp
    subst hp
    exact .inl hc
  | x :: l, 0, acc, p, hp, c, hc => by
    cases h : TL.pre S (x :: l) with
    | true =>
      rw [TL.spl_hit h] at hp
      rcases List.mem_cons.mp hp with rfl | hp
      · exact .inl hc
      · rcases spl_mem l _ _ p hp c hc with h | h
        · cases h
        · exact .inr (List.mem_cons_of_mem _ h)
    | false =>
      rw [TL.spl_miss h] at hp
      rcases spl_mem l _ _ p hp c hc with h | h
      · rcases List.mem_append.mp h with h | h
        · exact .inl h
        · rw [List.mem_singleton.mp h]; exact .inr (by simp)
      · exact .inr (List.mem_cons_of_mem _ h)
  | x :: l, n + 1, acc, p, hp, c, hc => by
    have hp : p ∈ TL.spl S n acc l := hp
    rcases spl_mem l n acc p hp c hc with h | h
    · exact .inl h
    · exact .inr (List.mem_cons_of_mem _ h)
section
variable {x y : Str} (hy : cps y ≠ []) (hk : y.cps.all (· < 256) = true)
include hy hk
theorem split_maps : (Txt.split x y).map cps = TL.spl (cps y) 0 [] (cps x) := TL.split_spl x y hy (TL.kind_ok hk)
theorem split_mem {w : Str} (h : w ∈ Txt.split x y) : ∀ c ∈ cps w, c ∈ cps x := fun c hc => by
  have := spl_mem (S := cps y) (cps x) 0 [] (cps w) (by rw [← split_maps hy hk]; exact List.mem_map.mpr ⟨w, h, rfl⟩) c hc
  exact this.resolve_left (by simp)
end
end DM
namespace DM
open PySem L2
def AsW (ws : List Str) : Prop := ∀ w ∈ ws, ∀ c ∈ cps w, c < 128
theorem AsW.take {a : List Str} (h : AsW a) (k : Nat) : AsW (a.take k) := fun w hw => h w (List.mem_of_mem_take hw)
theorem AsW.drop {a : List Str} (h : AsW a) (k : Nat) : AsW (a.drop k) := fun w hw => h w (List.mem_of_mem_drop hw)
theorem AscS.split {m : Nat} {x y : Str} (h : AscS m x) (hy : cps y ≠ []) (hk : y.cps.all (· < 256) = true) : AsW (Txt.split x y) := fun w hw c hc => h.1 c (split_mem hy hk hw c hc)
theorem fm_sum {y : Str} : ∀ {ws : List Str}, (ws.flatMap fun w => cps y ++ cps w).length = (ws.map (·.length)).sum + ws.length * (cps y).length
  | [] => by simp
  | w :: ws => by
    have := fm_sum (y := y) (ws := ws)
    rw [List.flatMap_cons, List.length_append, this, List.length_append, List.map_cons, List.sum_cons, List.length_cons, Nat.succ_mul, cps_len w]
    omega
theorem AscS.cut {m : Nat} {z : Str} (h : AscS m z) (lo hi : Option Int) : AscS m (cutS z lo hi) := by
  refine ⟨fun c hc => h.1 c ?_, ?_⟩
  · rw [cps_cut] at hc
    exact cutL_mem hc
  · rw [cps_len, cps_cut]
    have := cutL_len (xs := cps z) (lo := lo) (hi := hi)
    have := h.2
    rw [cps_len] at this
    omega
theorem AscS.add {m n : Nat} {a b : Str} (h : AscS m a) (h' : AscS n b) : AscS (m + n) (a ++ b) := ⟨fun c hc => by
  rw [cps_append] at hc
  exact (List.mem_append.mp hc).elim (h.1 c) (h'.1 c), by
  rw [strLen_append]
  have := h.2
  have := h'.2
  omega⟩
theorem AscS.up {m : Nat} {z : Str} (h : AscS m z) : AscS m (Txt.upper z) := by
  obtain ⟨h1, h2⟩ := cps_upper h.1
  exact ⟨h1, by rw [h2]; exact h.2⟩
end DM
namespace DM
open PySem L2
structure MchK (S ms : List Str) (E : List Ed) (F : List Str) : Prop where
  el : E.length ≤ 200
  fl : F.length ≤ 100
  fn : F.Nodup
  ed : ∀ e ∈ E, e.1 ∈ S ∧ e.2.1 ∈ ms ∧ e.2.2 ∈ S
  fs : ∀ s ∈ F, s ∈ S
  sl : S.length ≤ 19
  sw : ∀ s ∈ S, s.length ≤ 8
  mn : ∀ m ∈ ms, NameS m
def nK (zs : List Str) (s : Str) : Str := dgS (zs.idxOf s)
structure Beg (E : List Ed) (F zs : List Str) (state place : Str) (E2 : List Ed) (F2 : List Str) : Prop where
  e : ∀ e, e ∈ E2 ↔ (∃ f ∈ E, e = (nK zs f.1, f.2.1, nK zs f.2.2)) ∨ ∃ f ∈ E, f.1 = state ∧ e = (place, f.2.1, nK zs f.2.2)
  f : ∀ z, z ∈ F2 ↔ (∃ s ∈ F, z = nK zs s) ∨ (z = place ∧ state ∈ F)
  re : risB leE E2 = true
  rf : risB leS F2 = true
  el : E2.length ≤ 2 * E.length
  fl : F2.length ≤ F.length + 1
structure Zs (E : List Ed) (F zs : List Str) : Prop where
  r : RisS zs
  m : ∀ z, z ∈ zs ↔ stsOf E F z
  l : zs.length ≤ 19
  w : ∀ z ∈ zs, z.length ≤ 8
theorem ris_nd {l : List Str} (h : RisS l) : l.Nodup := h.imp fun h => h.2
theorem MchK.zs {S ms : List Str} {E : List Ed} {F zs : List Str} (g : MchK S ms E F) (h1 : RisS zs) (h2 : ∀ z, z ∈ zs ↔ stsOf E F z) : Zs E F zs := by
  have key : ∀ z ∈ zs, z ∈ S := fun z hz => by
    rcases (h2 z).mp hz with ⟨e, he, rfl | rfl⟩ | h
    · exact (g.ed e he).1
    · exact (g.ed e he).2.2
    · exact g.fs z h
  exact ⟨h1, h2, Nat.le_trans (sub_len (ris_nd h1) key) g.sl, fun z hz => g.sw z (key z hz)⟩
theorem nK_inj {zs : List Str} {s t : Str} (hs : s ∈ zs) (ht : t ∈ zs) (e : nK zs s = nK zs t) : s = t := by
  have h := idxOfS_get hs
  rw [dgS_inj e, idxOfS_get ht] at h
  exact (Option.some.inj h).symm
theorem dgS_len : ∀ k : Fin 20, (dgS k.1).length ≤ 2 := by decide +kernel
def onF (E : List Ed) (h : List Str) (m : Str) : List Str := rise ((E.filter fun e => decide (e.1 ∈ h) && decide (e.2.1 = m)).map (·.2.2))
theorem onF_mem {E : List Ed} {h : List Str} {m z : Str} : z ∈ onF E h m ↔ ∃ e ∈ E, e.1 ∈ h ∧ e.2.1 = m ∧ z = e.2.2 := by
  unfold onF
  rw [rise_mem, List.mem_map]
  simp only [List.mem_filter, Bool.and_eq_true, decide_eq_true_eq]
  exact ⟨fun ⟨e, ⟨h1, h2, h3⟩, h4⟩ => ⟨e, h1, h2, h3, h4.symm⟩, fun ⟨e, h1, h2, h3, h4⟩ => ⟨e, ⟨h1, h2, h3⟩, h4.symm⟩⟩
def SbS (zs : List Str) (state place : Str) (h t : List Str) : Prop := (h = [state] ∧ t = [place]) ∨ (RisS h ∧ (∀ s ∈ h, s ∈ zs) ∧ t = rise (h.map (nK zs)))
section
variable {E E2 : List Ed} {F F2 zs : List Str} {state place : Str} (B : Beg E F zs state place E2 F2) (hz : Zs E F zs) (hp : NameS place)
include B hz hp
theorem SbS.on {h t : List Str} (g : SbS zs state place h t) (m : Str) : SbS zs state place (onF E h m) (onF E2 t m) := by
  have hf1 : ∀ f ∈ E, f.1 ∈ zs ∧ f.2.2 ∈ zs := fun f hf => ⟨(hz.m _).mpr (.inl ⟨f, hf, .inl rfl⟩), (hz.m _).mpr (.inl ⟨f, hf, .inr rfl⟩)⟩
  refine .inr ⟨rise_ris _, fun s hs => ?_, ris_eq (rise_ris _) (rise_ris _) fun z => ?_⟩
  · obtain ⟨e, he, _, _, rfl⟩ := onF_mem.mp hs
    exact (hf1 e he).2
  · rw [rise_mem, List.mem_map]
    show z ∈ onF E2 t m ↔ _
    rw [onF_mem]
    constructor
    · rintro ⟨e, he, h1, h2, rfl⟩
      rcases (B.e e).mp he with ⟨f, hf, rfl⟩ | ⟨f, hf, hs, rfl⟩
      · rcases g with ⟨rfl, rfl⟩ | ⟨_, g2, rfl⟩
        · exact absurd (List.mem_singleton.mp h1).symm (name_fig hp)
        · obtain ⟨s, hs, e⟩ := List.mem_map.mp (rise_mem.mp h1)
          have := nK_inj (g2 s hs) (hf1 f hf).1 e
          subst this
          exact ⟨_, onF_mem.mpr ⟨f, hf, hs, h2, rfl⟩, rfl⟩
      · rcases g with ⟨rfl, rfl⟩ | ⟨_, g2, rfl⟩
        · exact ⟨_, onF_mem.mpr ⟨f, hf, by rw [hs]; simp, h2, rfl⟩, rfl⟩
        · obtain ⟨s, _, e⟩ := List.mem_map.mp (rise_mem.mp h1)
          exact absurd e.symm (name_fig hp)
    · rintro ⟨s, hs, rfl⟩
      obtain ⟨f, hf, h1, h2, rfl⟩ := onF_mem.mp hs
      rcases g with ⟨rfl, rfl⟩ | ⟨_, g2, rfl⟩
      · exact ⟨(place, f.2.1, nK zs f.2.2), (B.e _).mpr (.inr ⟨f, hf, List.mem_singleton.mp h1, rfl⟩), by simp, h2, rfl⟩
      · exact ⟨(nK zs f.1, f.2.1, nK zs f.2.2), (B.e _).mpr (.inl ⟨f, hf, rfl⟩), rise_mem.mpr (List.mem_map.mpr ⟨f.1, h1, rfl⟩), h2, rfl⟩
theorem SbS.ends {h t : List Str} (g : SbS zs state place h t) : (h.any fun s => decide (s ∈ F)) = (t.any fun s => decide (s ∈ F2)) := by
  have hF : ∀ s ∈ F, s ∈ zs := fun s hs => (hz.m s).mpr (.inr hs)
  rw [Bool.eq_iff_iff, List.any_eq_true, List.any_eq_true]
  simp only [decide_eq_true_eq]
  rcases g with ⟨rfl, rfl⟩ | ⟨_, g2, rfl⟩
  · constructor
    · rintro ⟨s, hs, h⟩
      obtain rfl := List.mem_singleton.mp hs
      exact ⟨place, by simp, (B.f _).mpr (.inr ⟨rfl, h⟩)⟩
    · rintro ⟨s, hs, h⟩
      obtain rfl := List.mem_singleton.mp hs
      rcases (B.f _).mp h with ⟨s, _, e⟩ | ⟨_, h⟩
      · exact absurd e (name_fig hp)
      · exact ⟨state, by simp, h⟩
  · constructor
    · rintro ⟨s, hs, h⟩
      exact ⟨nK zs s, rise_mem.mpr (List.mem_map.mpr ⟨s, hs, rfl⟩), (B.f _).mpr (.inl ⟨s, h, rfl⟩)⟩
    · rintro ⟨z, h1, h2⟩
      obtain ⟨s, hs, rfl⟩ := List.mem_map.mp (rise_mem.mp h1)
      rcases (B.f _).mp h2 with ⟨s2, h, e⟩ | ⟨e, _⟩
      · have := nK_inj (g2 s hs) (hF s2 h) e
        subst this
        exact ⟨s, hs, h⟩
      · exact absurd e.symm (name_fig hp)
end
def nmT (h t : List Str) : Str := Txt.join (" " : Str) h ++ ("|" : Str) ++ Txt.join (" " : Str) t
def subsL : List Str → List (List Str)
  | [] => [[]]
  | x :: xs => subsL xs ++ (subsL xs).map (x :: ·)
theorem subsL_len : ∀ {l : List Str}, (subsL l).length = 2 ^ l.length
  | [] => rfl
  | x :: xs => by
    rw [subsL, List.length_append, List.length_map, subsL_len, List.length_cons, Nat.pow_succ]
    omega
theorem subsL_filter (p : Str → Bool) : ∀ {l : List Str}, l.filter p ∈ subsL l
  | [] => by simp [subsL]
  | x :: xs => by
    have ih := subsL_filter p (l := xs)
    rw [subsL, List.mem_append, List.mem_map]
    by_cases h : p x = true
    · rw [List.filter_cons_of_pos h]
      exact .inr ⟨_, ih, rfl⟩
    · rw [List.filter_cons_of_neg h]
      exact .inl ih
def allN (zs : List Str) (state place : Str) : List Str := nmT [state] [place] :: (subsL zs).map fun h => nmT h (rise (h.map (nK zs)))
theorem allN_len {zs : List Str} {state place : Str} (h : zs.length ≤ 19) : (allN zs state place).length ≤ 524289 := by
  unfold allN
  rw [List.length_cons, List.length_map, subsL_len]
  have := Nat.pow_le_pow_right (show 0 < 2 by decide) h
  have e : 2 ^ 19 = 524288 := by decide
  omega
theorem SbS.name {zs h t : List Str} {state place : Str} (g : SbS zs state place h t) (hz : RisS zs) : nmT h t ∈ allN zs state place := by
  unfold allN
  rcases g with ⟨rfl, rfl⟩ | ⟨g1, g2, rfl⟩
  · exact List.mem_cons_self
  · refine List.mem_cons_of_mem _ (List.mem_map.mpr ⟨h, ?_, rfl⟩)
    have e : h = zs.filter fun s => decide (s ∈ h) := ris_eq g1 (hz.filter _) fun z => by
      rw [List.mem_filter, decide_eq_true_eq]
      exact ⟨fun hh => ⟨g2 z hh, hh⟩, fun hh => hh.2⟩
    rw [e]
    exact subsL_filter _
theorem SbS.sz {E : List Ed} {F zs h t : List Str} {state place : Str} (g : SbS zs state place h t) (hz : Zs E F zs) (hs : state.length ≤ 8) (hp : NameS place) : h.length ≤ 19 ∧ t.length ≤ 19 ∧ (∀ z ∈ h, z.length ≤ 8) ∧ ∀ z ∈ t, z.length ≤ 8 := by
  rcases g with ⟨rfl, rfl⟩ | ⟨g1, g2, rfl⟩
  · refine ⟨by simp, by simp, fun z h => ?_, fun z h => ?_⟩
    · rw [List.mem_singleton.mp h]; exact hs
    · rw [List.mem_singleton.mp h]; exact hp.len8
  · have hl : h.length ≤ 19 := Nat.le_trans (sub_len (ris_nd g1) g2) hz.l
    refine ⟨hl, Nat.le_trans (rise_len _) (by rw [List.length_map]; exact hl), fun z h => hz.w z (g2 z h), fun z h => ?_⟩
    obtain ⟨s, hs, rfl⟩ := List.mem_map.mp (rise_mem.mp h)
    have := (List.getElem?_eq_some_iff.mp (idxOfS_get (g2 s hs))).1
    have hl2 := hz.l
    exact Nat.le_trans (dgS_len ⟨zs.idxOf s, by omega⟩) (by decide)
theorem filter_lt {α : Type} {p q : α → Bool} {z : α} (hpq : ∀ y, q y = true → p y = true) (hp : p z = true) (hq : q z = false) : ∀ {l : List α}, z ∈ l → (l.filter q).length < (l.filter p).length
  | x :: l, h => by
    have hle : ∀ l : List α, (l.filter q).length ≤ (l.filter p).length := fun l => by
      induction l with
      | nil => simp
      | cons a l ih =>
        cases hqa : q a with
        | true => rw [List.filter_cons_of_pos hqa, List.filter_cons_of_pos (hpq a hqa)]; simp; exact ih
        | false =>
          rw [List.filter_cons_of_neg (by rw [hqa]; decide)]
          cases hpa : p a with
          | true => rw [List.filter_cons_of_pos hpa, List.length_cons]; omega
          | false => rw [List.filter_cons_of_neg (by rw [hpa]; decide)]; exact ih
    rcases List.mem_cons.mp h with rfl | h
    · rw [List.filter_cons_of_neg (by rw [hq]; decide), List.filter_cons_of_pos hp, List.length_cons]
      have := hle l
      omega
    · have ih := filter_lt hpq hp hq h
      cases hqa : q x with
      | true => rw [List.filter_cons_of_pos hqa, List.filter_cons_of_pos (hpq x hqa)]; simp; exact ih
      | false =>
        rw [List.filter_cons_of_neg (by rw [hqa]; decide)]
        cases hpa : p x with
        | true => rw [List.filter_cons_of_pos hpa, List.length_cons]; omega
        | false => rw [List.filter_cons_of_neg (by rw [hpa]; decide)]; exact ih
def unv (N : List Str) (kvs : List (Key × D)) : Nat := (N.filter fun z => (valD kvs (.inr z)).isNone).length
theorem unv_put {N : List Str} {kvs : List (Key × D)} {z : Str} {v : D} (hz : z ∈ N) (h : valD kvs (.inr z) = none) : unv N (putD kvs (.inr z) v) < unv N kvs := by
  refine filter_lt (z := z) (fun y hy => ?_) (by rw [h]; rfl) (by rw [valD_put, if_pos rfl]; rfl) hz
  rw [valD_put] at hy
  split at hy
  · cases hy
  · exact hy
theorem unv_le {N : List Str} {kvs : List (Key × D)} : unv N kvs ≤ N.length := List.length_filter_le _ _
end DM
namespace DM
open PySem L2
theorem valD_map {f : Str → D} {z : Str} : ∀ {S : List Str}, z ∈ S → valD (S.map fun s => ((.inr s : Key), f s)) (.inr z) = some (f z)
  | [], h => by cases h
  | s :: S, h => by
    unfold valD
    rw [List.map_cons, List.find?_cons]
    by_cases he : s = z
    · rw [decide_eq_true (by rw [he]), he]; rfl
    · rw [decide_eq_false (fun e => he (Sum.inr.inj e))]
      exact valD_map (f := f) ((List.mem_cons.mp h).resolve_left fun e => he e.symm)
theorem idxOf_nd {zs : List Str} (h : zs.Nodup) {i : Nat} {z : Str} (e : zs[i]? = some z) : zs.idxOf z = i := by
  have hz := List.mem_of_getElem? e
  have h2 := idxOfS_get hz
  have h3 := (List.getElem?_eq_some_iff.mp e).1
  have h4 := (List.getElem?_eq_some_iff.mp h2).1
  refine nod_at (d := ("" : Str)) h h4 h3 ?_
  rw [List.getD_eq_getElem?_getD, List.getD_eq_getElem?_getD, e, h2]
end DM
namespace DM
open PySem PySem.Spec PyProof.Rows L2
def joinTI (x y : D) (M : Mm) (Q : DQ) : Prop := match x, y with
  | .str a, .tup xs => joinQ a xs M Q
  | _, _ => False
def dJoinT (to te : TDE) : TDE := fun ds M Q => to ds M fun x M1 => (∃ a, x = .str a) ∧ te ds M1 fun y M2 => joinTI x y M2 Q
theorem joinTI_s {z : Str} {xs : List D} {M : Mm} {Q : DQ} : joinTI (.str z) (.tup xs) M Q = joinQ z xs M Q := (rfl)
theorem dJoinT_e {to te : TDE} {ds : DSt} {M : Mm} {Q : DQ} : dJoinT to te ds M Q = to ds M fun x M1 => (∃ a, x = .str a) ∧ te ds M1 fun y M2 => joinTI x y M2 Q := (rfl)
theorem exStr {z : Str} : (∃ a, D.str z = .str a) = True := eq_true ⟨z, rfl⟩
section
variable {X : Cx} {o e : Expr} {to te : TDE} {apos cpos : Pos}
theorem je_joinT (ho : JE X o to) (he : JE X e te) (hs : starEach [e] X.env = [(false, eval e X.env)] := by rfl) (hbase : attributeBase o "join" X.env (eval o X.env) = eval o X.env := by rfl) (hline : (apos.endLine == cpos.line) = true := by rfl) :
    JE X (.Call (.Attribute o "join" apos) [e] [] cpos) (dJoinT to te) := by
  obtain ⟨u, p, g⟩ := ho
  obtain ⟨u', p', g'⟩ := he
  refine je_pe (pe_join p p' hs hbase hline) fun ds σ H M Q Q0 s m q k => ?_
  refine g ds σ H M _ _ s m q fun v H1 d M1 r1 m1 g1 q1 => ?_
  obtain ⟨⟨a, rfl⟩, q1⟩ := q1
  cases r1.str_v
  refine ⟨⟨a, rfl⟩, ?_⟩
  refine g' ds σ H1 M1 _ _ (s.gg m g1) m1 q1 fun w H2 d2 M2 r2 m2 g2 q2 => ?_
  unfold joinTI at q2
  split at q2
  · rename_i a' xs e1
    cases e1
    unfold joinQ at q2
    split at q2
    · rename_i ys e2
      obtain ⟨t, us, rfl, st, rt⟩ := r2.tup_v
      exact ⟨a, t, ys, rfl, rfl, .inr (by rw [← strsOf_v rt e2]; exact st), q2.1, k _ H2 _ M2 (.str _) m2 (g1.trans g2) q2.2⟩
    · exact q2.elim
  · exact q2.elim
end
end DM
namespace pileruns_k16_begun_machines
open PySem PySem.Spec PyProof.Rows L2 DM
open PyProof.Rows (b2i)

local macro_rules | `(tactic| simp_all only [$xs,*]) => `(tactic| try simp only [dNext_e, dDrop_e, dRet_e, dIfS_e, dAsg_e, dputS_e, dlputS_e, dOp_e, dVar_e, dC_e, dget_zero, dget_succ, dTest_e, dNil_e, dCons_e, dgName_e, dTup_e, dCB_e, dFresh_e, dFrz_e, dFreshD_e, dDisp_e, dBM_e, dBM0_e, dAndV_e, dOrV_e, dNotV_e, dAnd_e, dOr_e, dNot_e, dCall_e, dFor_e, dSl_e, dPart_e, dNoPart_e, diRng1_e, diAny_e, dstart, List.set_cons_zero, List.set_cons_succ, List.map_cons, List.map_nil, List.length_cons, List.length_nil, List.cons_append, List.nil_append, Nat.reduceAdd, Nat.reduceSub, Int.reduceAdd, Int.reduceSub, List.replicate, dListOf_e, dJoin_e, dIndex_e, dPar2_e, diEnum_e, dDropX_e, dAsgX_e, dLc_e, wipeD, ite_true, ite_false, if_true, if_false, reduceIte, Bool.false_eq_true, Bool.true_eq_false, and_true, true_and, rdL_lst, rdL_ref, rdS_lst, rdS_ref, rdS_tup, rdD_dic, rdD_ref, rdDL_dic, rdDL_ref, addR_ii, addR_ib, addR_ss, addR_tt, addR_LL, subR_ii, mulR_ii, modR_ii, fdivR_ii, powR_ii, ltR_ii, leR_ii, gtR_ii, geR_ii, keyD_s, keyD_i, eqR_ii, eqR_ss, eqR_bb, eqR_tt, eqR_LL, neR_ii, neR_ss, neR_bb, neR_tt, neR_LL, eqM_ii, eqM_ss, eqM_bb, eqM_tt, eqM_LL, okD_i, okD_s, okD_b, okD_n, okD_t, okD_L, deck_at, deck_sum, deck_cells, deck_len, deck_put, dicOf_mup_same, lstOf_mup_same, int1R_b, int1R_i, ix_t0, ix_t1, ix_t2, ix_t3, ix_t4, lenR_t, lenR_s, lenR_L, slR_t, slR_s, slR_L, cutL_from1, cutL_from2, tup1R_L, tup1R_t, beq_self_eq_true, Bool.not_true, Bool.not_false, Option.isSome_some, List.isEmpty_nil, List.isEmpty_cons, isi_t_bool, isi_t_int, isi_t_str, isi_t_tuple, isi_t_list, isi_t_dict, isi_s_bool, isi_s_int, isi_s_str, isi_s_tuple, isi_s_list, isi_s_dict, isi_i_bool, isi_i_int, isi_i_str, isi_i_tuple, isi_i_list, isi_i_dict, isi_b_bool, isi_b_int, isi_b_str, isi_b_tuple, isi_b_list, isi_b_dict, isi_n_bool, isi_n_int, isi_n_str, isi_n_tuple, isi_n_list, isi_n_dict, isi_L_bool, isi_L_int, isi_L_str, isi_L_tuple, isi_L_list, isi_L_dict, isi_d_bool, isi_d_int, isi_d_str, isi_d_tuple, isi_d_list, isi_d_dict, natlit_eq, Int.reduceNeg, puts, appendR_same, lenR_same, tup1R_same, sz0, sz1, sz2, sz3, sz4, sz5, sz6, sz7, sz8, sz9, sz10, ix_L0, ix_L1, ix_L2, ix_Lbs, dep_nil, dep_cons, dep_tup, dep_lst, dep_str, dep_int, dep_bl, dep_non, dep_strs, dep_ints, dep_app, dep_rules, dep_prog, pu_nil, pu_cons, pu_tup, pu_lst, pu_str, pu_int, pu_bl, pu_non, pu_app, pureDs_str, pureDs_int, pu_rule, pu_rules, pu_prog, eqv_self, eqvDs_nil, Bool.and_self, Bool.and_true, Bool.true_and, List.length_map, List.length_append, Int.zero_add, Nat.zero_add, cutL_to1, cutL_to2, cutL_to3, cutL_to15, List.take_succ_cons, List.take_zero, List.take_nil, List.drop_succ_cons, List.drop_zero, List.drop_nil, cutL_toN, cutL_toS, cutL_fromN, cutL_fromS, List.length_take, List.length_drop, ← List.map_take, ← List.map_drop, ← List.map_append, neR_prog0, eqR_prog0, lenR_prog, rep1, List.length_replicate, Int.toNat_natCast, ofString_beq, ofString_inj, String.reduceBEq, String.reduceEq, decide_true, decide_false, extA_t, extA_L, isSome_same, List.length_reverse, ← List.map_reverse, dYes_e, varI_s, isB_b, isI_i, isLst_r, dgTup_t, dgTup_l, dgCons_e, dgNil_e, anyI_t, anyI_s, anyI_L, anyI_r, anyR_s, someI_s, listI_1, joinI_s, isStr_s, par2I_2, enumI_t, enumI_L, dputI_s, dputI_i, dlputI_r, dgetR_s, dgetR_i, dChain_e, eqR_bi, cutL_mid2, cutL_from2S, dSorted_e, sortedI_L, sortedI_r, ix_L3, ix_L4, ix_L5, ix_L6, ix_L7, ix_L8, ix_L9, ix_t5, ix_t6, ix_t7, ix_t8, ix_t9, cutL_from3, cutL_from4, cutL_from5, cutL_from6, cutL_from8, cutL_to4, cutL_to5, cutL_to6, cutL_to8, cutL_to0, sortedI_t, dputTS_e, dDictT_e, dSortedT_e, sortedTI_r, dputTI_2s, dputTI_3s, str1R_i, cutL_toM1, cutL_fromM1, List.length_dropLast, enumI_r, ← List.map_dropLast, dFput_e, dFadd_e, dFadd2_i, dSortSet_e, dSortedK_e, orT_some, lkEnds_e, dSortSetT_e, joinTI_s, dJoinT_e, exStr, $xs,*])
local macro_rules | `(tactic| simp_all? only [$xs,*]) => `(tactic| try simp only [dSeq_e, dNext_e, dDrop_e, dRet_e, dIfS_e, dAsg_e, dputS_e, dlputS_e, dOp_e, dVar_e, dC_e, dget_zero, dget_succ, dTest_e, dNil_e, dCons_e, dgName_e, dTup_e, dCB_e, dFresh_e, dFrz_e, dFreshD_e, dDisp_e, dBM_e, dBM0_e, dAndV_e, dOrV_e, dNotV_e, dAnd_e, dOr_e, dNot_e, dCall_e, dFor_e, dSl_e, dPart_e, dNoPart_e, diRng1_e, diAny_e, dstart, List.set_cons_zero, List.set_cons_succ, List.map_cons, List.map_nil, List.length_cons, List.length_nil, List.cons_append, List.nil_append, Nat.reduceAdd, Nat.reduceSub, Int.reduceAdd, Int.reduceSub, List.replicate, dListOf_e, dJoin_e, dIndex_e, dPar2_e, diEnum_e, dDropX_e, dAsgX_e, dLc_e, wipeD, ite_true, ite_false, if_true, if_false, reduceIte, Bool.false_eq_true, Bool.true_eq_false, and_true, true_and, rdL_lst, rdL_ref, rdS_lst, rdS_ref, rdS_tup, rdD_dic, rdD_ref, rdDL_dic, rdDL_ref, addR_ii, addR_ib, addR_ss, addR_tt, addR_LL, subR_ii, mulR_ii, modR_ii, fdivR_ii, powR_ii, ltR_ii, leR_ii, gtR_ii, geR_ii, keyD_s, keyD_i, eqR_ii, eqR_ss, eqR_bb, eqR_tt, eqR_LL, neR_ii, neR_ss, neR_bb, neR_tt, neR_LL, eqM_ii, eqM_ss, eqM_bb, eqM_tt, eqM_LL, okD_i, okD_s, okD_b, okD_n, okD_t, okD_L, deck_at, deck_sum, deck_cells, deck_len, deck_put, dicOf_mup_same, lstOf_mup_same, int1R_b, int1R_i, ix_t0, ix_t1, ix_t2, ix_t3, ix_t4, lenR_t, lenR_s, lenR_L, slR_t, slR_s, slR_L, cutL_from1, cutL_from2, tup1R_L, tup1R_t, beq_self_eq_true, Bool.not_true, Bool.not_false, Option.isSome_some, List.isEmpty_nil, List.isEmpty_cons, isi_t_bool, isi_t_int, isi_t_str, isi_t_tuple, isi_t_list, isi_t_dict, isi_s_bool, isi_s_int, isi_s_str, isi_s_tuple, isi_s_list, isi_s_dict, isi_i_bool, isi_i_int, isi_i_str, isi_i_tuple, isi_i_list, isi_i_dict, isi_b_bool, isi_b_int, isi_b_str, isi_b_tuple, isi_b_list, isi_b_dict, isi_n_bool, isi_n_int, isi_n_str, isi_n_tuple, isi_n_list, isi_n_dict, isi_L_bool, isi_L_int, isi_L_str, isi_L_tuple, isi_L_list, isi_L_dict, isi_d_bool, isi_d_int, isi_d_str, isi_d_tuple, isi_d_list, isi_d_dict, natlit_eq, Int.reduceNeg, puts, appendR_same, lenR_same, tup1R_same, sz0, sz1, sz2, sz3, sz4, sz5, sz6, sz7, sz8, sz9, sz10, ix_L0, ix_L1, ix_L2, ix_Lbs, dep_nil, dep_cons, dep_tup, dep_lst, dep_str, dep_int, dep_bl, dep_non, dep_strs, dep_ints, dep_app, dep_rules, dep_prog, pu_nil, pu_cons, pu_tup, pu_lst, pu_str, pu_int, pu_bl, pu_non, pu_app, pureDs_str, pureDs_int, pu_rule, pu_rules, pu_prog, eqv_self, eqvDs_nil, Bool.and_self, Bool.and_true, Bool.true_and, List.length_map, List.length_append, Int.zero_add, Nat.zero_add, cutL_to1, cutL_to2, cutL_to3, cutL_to15, List.take_succ_cons, List.take_zero, List.take_nil, List.drop_succ_cons, List.drop_zero, List.drop_nil, cutL_toN, cutL_toS, cutL_fromN, cutL_fromS, List.length_take, List.length_drop, ← List.map_take, ← List.map_drop, ← List.map_append, neR_prog0, eqR_prog0, lenR_prog, rep1, List.length_replicate, Int.toNat_natCast, ofString_beq, ofString_inj, String.reduceBEq, String.reduceEq, decide_true, decide_false, extA_t, extA_L, isSome_same, List.length_reverse, ← List.map_reverse, dYes_e, varI_s, isB_b, isI_i, isLst_r, dgTup_t, dgTup_l, dgCons_e, dgNil_e, anyI_t, anyI_s, anyI_L, anyI_r, anyR_s, someI_s, listI_1, joinI_s, isStr_s, par2I_2, enumI_t, enumI_L, dputI_s, dputI_i, dlputI_r, dgetR_s, dgetR_i, dChain_e, eqR_bi, cutL_mid2, cutL_from2S, dSorted_e, sortedI_L, sortedI_r, ix_L3, ix_L4, ix_L5, ix_L6, ix_L7, ix_L8, ix_L9, ix_t5, ix_t6, ix_t7, ix_t8, ix_t9, cutL_from3, cutL_from4, cutL_from5, cutL_from6, cutL_from8, cutL_to4, cutL_to5, cutL_to6, cutL_to8, cutL_to0, sortedI_t, dputTS_e, dDictT_e, dSortedT_e, sortedTI_r, dputTI_2s, dputTI_3s, str1R_i, cutL_toM1, cutL_fromM1, List.length_dropLast, enumI_r, ← List.map_dropLast, dFput_e, dFadd_e, dFadd2_i, dSortSet_e, dSortedK_e, orT_some, lkEnds_e, dSortSetT_e, joinTI_s, dJoinT_e, exStr, $xs,*])
local macro_rules | `(tactic| simp? only [$xs,*]) => `(tactic| try simp only [dNext, dDrop, dRet, dIfS, dAsg, dputS, dlputS, dOp, dVar, dC, dget_zero, dget_succ, dTest, isB, dNil, dCons, dgName, dTup, dCB, dFresh, dFrz, dFreshD, dDisp, dBM, dBM0, dAndV, dOrV, dNotV, dAnd, dOr, dNot, dCall, dFor, dSl, dPart, dNoPart, diRng1, diAny, isI, dstart, List.set_cons_zero, List.set_cons_succ, List.map_cons, List.map_nil, List.length_cons, List.length_nil, List.cons_append, List.nil_append, Nat.reduceAdd, Nat.reduceSub, Int.reduceAdd, Int.reduceSub, List.replicate, isLst, dgTup, dgCons, dgNil, dListOf, dJoin, dIndex, dPar2, diEnum, dDropX, dAsgX, dLc, wipeD, ite_true, ite_false, if_true, if_false, reduceIte, Bool.false_eq_true, Bool.true_eq_false, and_true, true_and, rdL_lst, rdL_ref, rdS_lst, rdS_ref, rdS_tup, rdD_dic, rdD_ref, rdDL_dic, rdDL_ref, addR_ii, addR_ib, addR_ss, addR_tt, addR_LL, subR_ii, mulR_ii, modR_ii, fdivR_ii, powR_ii, ltR_ii, leR_ii, gtR_ii, geR_ii, keyD_s, keyD_i, dgetR, eqR_ii, eqR_ss, eqR_bb, eqR_tt, eqR_LL, neR_ii, neR_ss, neR_bb, neR_tt, neR_LL, eqM_ii, eqM_ss, eqM_bb, eqM_tt, eqM_LL, okD_i, okD_s, okD_b, okD_n, okD_t, okD_L, deck_at, deck_sum, deck_cells, deck_len, deck_put, dicOf_mup_same, lstOf_mup_same, int1R_b, int1R_i, ix_t0, ix_t1, ix_t2, ix_t3, ix_t4, lenR_t, lenR_s, lenR_L, slR_t, slR_s, slR_L, cutL_from1, cutL_from2, tup1R_L, tup1R_t, beq_self_eq_true, Bool.not_true, Bool.not_false, Option.isSome_some, List.isEmpty_nil, List.isEmpty_cons, isi_t_bool, isi_t_int, isi_t_str, isi_t_tuple, isi_t_list, isi_t_dict, isi_s_bool, isi_s_int, isi_s_str, isi_s_tuple, isi_s_list, isi_s_dict, isi_i_bool, isi_i_int, isi_i_str, isi_i_tuple, isi_i_list, isi_i_dict, isi_b_bool, isi_b_int, isi_b_str, isi_b_tuple, isi_b_list, isi_b_dict, isi_n_bool, isi_n_int, isi_n_str, isi_n_tuple, isi_n_list, isi_n_dict, isi_L_bool, isi_L_int, isi_L_str, isi_L_tuple, isi_L_list, isi_L_dict, isi_d_bool, isi_d_int, isi_d_str, isi_d_tuple, isi_d_list, isi_d_dict, natlit_eq, Int.reduceNeg, orT_some, $xs,*])
local macro_rules | `(tactic| dsimp? only [$xs,*]) => `(tactic| try simp only [dSeq, dNext, dDrop, dRet, dIfS, dAsg, dputS, dlputS, dOp, dVar, dC, dget_zero, dget_succ, dTest, isB, dNil, dCons, dgName, dTup, dCB, dFresh, dFrz, dFreshD, dDisp, dBM, dBM0, dAndV, dOrV, dNotV, dAnd, dOr, dNot, dCall, dFor, dSl, dPart, dNoPart, diRng1, diAny, isI, dstart, List.set_cons_zero, List.set_cons_succ, List.map_cons, List.map_nil, List.length_cons, List.length_nil, List.cons_append, List.nil_append, Nat.reduceAdd, Nat.reduceSub, Int.reduceAdd, Int.reduceSub, List.replicate, isLst, dgTup, dgCons, dgNil, dListOf, dJoin, dIndex, dPar2, diEnum, dDropX, dAsgX, dLc, wipeD, ite_true, ite_false, if_true, if_false, reduceIte, Bool.false_eq_true, Bool.true_eq_false, and_true, true_and, rdL_lst, rdL_ref, rdS_lst, rdS_ref, rdS_tup, rdD_dic, rdD_ref, rdDL_dic, rdDL_ref, addR_ii, addR_ib, addR_ss, addR_tt, addR_LL, subR_ii, mulR_ii, modR_ii, fdivR_ii, powR_ii, ltR_ii, leR_ii, gtR_ii, geR_ii, keyD_s, keyD_i, dgetR, eqR_ii, eqR_ss, eqR_bb, eqR_tt, eqR_LL, neR_ii, neR_ss, neR_bb, neR_tt, neR_LL, eqM_ii, eqM_ss, eqM_bb, eqM_tt, eqM_LL, okD_i, okD_s, okD_b, okD_n, okD_t, okD_L, deck_at, deck_sum, deck_cells, deck_len, deck_put, dicOf_mup_same, lstOf_mup_same, int1R_b, int1R_i, ix_t0, ix_t1, ix_t2, ix_t3, ix_t4, lenR_t, lenR_s, lenR_L, slR_t, slR_s, slR_L, cutL_from1, cutL_from2, tup1R_L, tup1R_t, beq_self_eq_true, Bool.not_true, Bool.not_false, Option.isSome_some, List.isEmpty_nil, List.isEmpty_cons, isi_t_bool, isi_t_int, isi_t_str, isi_t_tuple, isi_t_list, isi_t_dict, isi_s_bool, isi_s_int, isi_s_str, isi_s_tuple, isi_s_list, isi_s_dict, isi_i_bool, isi_i_int, isi_i_str, isi_i_tuple, isi_i_list, isi_i_dict, isi_b_bool, isi_b_int, isi_b_str, isi_b_tuple, isi_b_list, isi_b_dict, isi_n_bool, isi_n_int, isi_n_str, isi_n_tuple, isi_n_list, isi_n_dict, isi_L_bool, isi_L_int, isi_L_str, isi_L_tuple, isi_L_list, isi_L_dict, isi_d_bool, isi_d_int, isi_d_str, isi_d_tuple, isi_d_list, isi_d_dict, natlit_eq, Int.reduceNeg, orT_some, $xs,*])
local macro_rules | `(tactic| infer_instance) => `(tactic| repeat (first | (with_reducible refine sa_lk fun Nx hNx => ?_) | (with_reducible refine sa_asg fun Nx hNx => ?_) | (with_reducible refine sa_drop fun Nx hNx => ?_) | (with_reducible refine sa_for fun Nx hNx => ?_) | (with_reducible refine sa_while fun Nx hNx => ?_) | (with_reducible refine sa_dput fun Nx hNx => ?_) | (with_reducible refine sa_dputT fun Nx hNx => ?_) | (with_reducible refine sa_lput fun Nx hNx => ?_) | (with_reducible refine sa_fput fun Nx hNx => ?_) | (with_reducible refine sa_fadd fun Nx hNx => ?_) | (with_reducible refine sa_par2 fun Nx hNx => ?_) | (with_reducible refine sa_asgX fun Nx hNx => ?_) | (with_reducible refine sa_dropX fun Nx hNx => ?_) | (simp only [dNext_e, dDrop_e, dRet_e, dIfS_e, dAsg_e, dputS_e, dlputS_e, dOp_e, dVar_e, dC_e, dget_zero, dget_succ, dTest_e, dNil_e, dCons_e, dgName_e, dTup_e, dCB_e, dFresh_e, dFrz_e, dFreshD_e, dDisp_e, dBM_e, dBM0_e, dAndV_e, dOrV_e, dNotV_e, dAnd_e, dOr_e, dNot_e, dCall_e, dFor_e, dSl_e, dPart_e, dNoPart_e, diRng1_e, diAny_e, dstart, List.set_cons_zero, List.set_cons_succ, List.map_cons, List.map_nil, List.length_cons, List.length_nil, List.cons_append, List.nil_append, Nat.reduceAdd, Nat.reduceSub, Int.reduceAdd, Int.reduceSub, List.replicate, dListOf_e, dJoin_e, dIndex_e, dPar2_e, diEnum_e, dDropX_e, dAsgX_e, dLc_e, wipeD, ite_true, ite_false, if_true, if_false, reduceIte, Bool.false_eq_true, Bool.true_eq_false, and_true, true_and, rdL_lst, rdL_ref, rdS_lst, rdS_ref, rdS_tup, rdD_dic, rdD_ref, rdDL_dic, rdDL_ref, addR_ii, addR_ib, addR_ss, addR_tt, addR_LL, subR_ii, mulR_ii, modR_ii, fdivR_ii, powR_ii, ltR_ii, leR_ii, gtR_ii, geR_ii, keyD_s, keyD_i, eqR_ii, eqR_ss, eqR_bb, eqR_tt, eqR_LL, neR_ii, neR_ss, neR_bb, neR_tt, neR_LL, eqM_ii, eqM_ss, eqM_bb, eqM_tt, eqM_LL, okD_i, okD_s, okD_b, okD_n, okD_t, okD_L, deck_at, deck_sum, deck_cells, deck_len, deck_put, dicOf_mup_same, lstOf_mup_same, int1R_b, int1R_i, ix_t0, ix_t1, ix_t2, ix_t3, ix_t4, lenR_t, lenR_s, lenR_L, slR_t, slR_s, slR_L, cutL_from1, cutL_from2, tup1R_L, tup1R_t, beq_self_eq_true, Bool.not_true, Bool.not_false, Option.isSome_some, List.isEmpty_nil, List.isEmpty_cons, isi_t_bool, isi_t_int, isi_t_str, isi_t_tuple, isi_t_list, isi_t_dict, isi_s_bool, isi_s_int, isi_s_str, isi_s_tuple, isi_s_list, isi_s_dict, isi_i_bool, isi_i_int, isi_i_str, isi_i_tuple, isi_i_list, isi_i_dict, isi_b_bool, isi_b_int, isi_b_str, isi_b_tuple, isi_b_list, isi_b_dict, isi_n_bool, isi_n_int, isi_n_str, isi_n_tuple, isi_n_list, isi_n_dict, isi_L_bool, isi_L_int, isi_L_str, isi_L_tuple, isi_L_list, isi_L_dict, isi_d_bool, isi_d_int, isi_d_str, isi_d_tuple, isi_d_list, isi_d_dict, natlit_eq, Int.reduceNeg, puts, appendR_same, lenR_same, tup1R_same, sz0, sz1, sz2, sz3, sz4, sz5, sz6, sz7, sz8, sz9, sz10, ix_L0, ix_L1, ix_L2, ix_Lbs, dep_nil, dep_cons, dep_tup, dep_lst, dep_str, dep_int, dep_bl, dep_non, dep_strs, dep_ints, dep_app, dep_rules, dep_prog, pu_nil, pu_cons, pu_tup, pu_lst, pu_str, pu_int, pu_bl, pu_non, pu_app, pureDs_str, pureDs_int, pu_rule, pu_rules, pu_prog, eqv_self, eqvDs_nil, Bool.and_self, Bool.and_true, Bool.true_and, List.length_map, List.length_append, Int.zero_add, Nat.zero_add, cutL_to1, cutL_to2, cutL_to3, cutL_to15, List.take_succ_cons, List.take_zero, List.take_nil, List.drop_succ_cons, List.drop_zero, List.drop_nil, cutL_toN, cutL_toS, cutL_fromN, cutL_fromS, List.length_take, List.length_drop, ← List.map_take, ← List.map_drop, ← List.map_append, neR_prog0, eqR_prog0, lenR_prog, rep1, List.length_replicate, Int.toNat_natCast, ofString_beq, ofString_inj, String.reduceBEq, String.reduceEq, decide_true, decide_false, extA_t, extA_L, isSome_same, List.length_reverse, ← List.map_reverse, dYes_e, varI_s, isB_b, isI_i, isLst_r, dgTup_t, dgTup_l, dgCons_e, dgNil_e, anyI_t, anyI_s, anyI_L, anyI_r, anyR_s, someI_s, listI_1, joinI_s, isStr_s, par2I_2, enumI_t, enumI_L, dputI_s, dputI_i, dlputI_r, dgetR_s, dgetR_i, dChain_e, eqR_bi, cutL_mid2, cutL_from2S, dSorted_e, sortedI_L, sortedI_r, ix_L3, ix_L4, ix_L5, ix_L6, ix_L7, ix_L8, ix_L9, ix_t5, ix_t6, ix_t7, ix_t8, ix_t9, cutL_from3, cutL_from4, cutL_from5, cutL_from6, cutL_from8, cutL_to4, cutL_to5, cutL_to6, cutL_to8, cutL_to0, sortedI_t, dputTS_e, dDictT_e, dSortedT_e, sortedTI_r, dputTI_2s, dputTI_3s, str1R_i, cutL_toM1, cutL_fromM1, List.length_dropLast, enumI_r, ← List.map_dropLast, dFput_e, dFadd_e, dFadd2_i, dSortSet_e, dSortedK_e, orT_some, lkEnds_e, dSortSetT_e, joinTI_s, dJoinT_e, exStr]) | (with_reducible refine kgo (by assumption) ?_) | ((with_reducible refine And.intro ?_ ?_); focus (first | with_reducible exact small_line2 (by omega) | with_reducible exact small_lt2 (by omega) | with_reducible exact cmul_sm (by omega) (by omega) (by omega) (by omega) | with_reducible exact cdiv_ok (by decide) (by decide) | with_reducible exact inLine_nat (by omega) | exact ⟨by omega, by omega⟩ | exact ⟨by omega, by omega, by first | omega | exact small_line2 (by decide)⟩ | omega | decide))))
local macro_rules | `(tactic| and_intros) => `(tactic| repeat (first | (with_reducible refine sa fun Nx hNx => ?_) | (simp only [dNext_e, dDrop_e, dRet_e, dIfS_e, dAsg_e, dputS_e, dlputS_e, dOp_e, dVar_e, dC_e, dget_zero, dget_succ, dTest_e, dNil_e, dCons_e, dgName_e, dTup_e, dCB_e, dFresh_e, dFrz_e, dFreshD_e, dDisp_e, dBM_e, dBM0_e, dAndV_e, dOrV_e, dNotV_e, dAnd_e, dOr_e, dNot_e, dCall_e, dFor_e, dSl_e, dPart_e, dNoPart_e, diRng1_e, diAny_e, dstart, List.set_cons_zero, List.set_cons_succ, List.map_cons, List.map_nil, List.length_cons, List.length_nil, List.cons_append, List.nil_append, Nat.reduceAdd, Nat.reduceSub, Int.reduceAdd, Int.reduceSub, List.replicate, dListOf_e, dJoin_e, dIndex_e, dPar2_e, diEnum_e, dDropX_e, dAsgX_e, dLc_e, wipeD, ite_true, ite_false, if_true, if_false, reduceIte, Bool.false_eq_true, Bool.true_eq_false, and_true, true_and, rdL_lst, rdL_ref, rdS_lst, rdS_ref, rdS_tup, rdD_dic, rdD_ref, rdDL_dic, rdDL_ref, addR_ii, addR_ib, addR_ss, addR_tt, addR_LL, subR_ii, mulR_ii, modR_ii, fdivR_ii, powR_ii, ltR_ii, leR_ii, gtR_ii, geR_ii, keyD_s, keyD_i, eqR_ii, eqR_ss, eqR_bb, eqR_tt, eqR_LL, neR_ii, neR_ss, neR_bb, neR_tt, neR_LL, eqM_ii, eqM_ss, eqM_bb, eqM_tt, eqM_LL, okD_i, okD_s, okD_b, okD_n, okD_t, okD_L, deck_at, deck_sum, deck_cells, deck_len, deck_put, dicOf_mup_same, lstOf_mup_same, int1R_b, int1R_i, ix_t0, ix_t1, ix_t2, ix_t3, ix_t4, lenR_t, lenR_s, lenR_L, slR_t, slR_s, slR_L, cutL_from1, cutL_from2, tup1R_L, tup1R_t, beq_self_eq_true, Bool.not_true, Bool.not_false, Option.isSome_some, List.isEmpty_nil, List.isEmpty_cons, isi_t_bool, isi_t_int, isi_t_str, isi_t_tuple, isi_t_list, isi_t_dict, isi_s_bool, isi_s_int, isi_s_str, isi_s_tuple, isi_s_list, isi_s_dict, isi_i_bool, isi_i_int, isi_i_str, isi_i_tuple, isi_i_list, isi_i_dict, isi_b_bool, isi_b_int, isi_b_str, isi_b_tuple, isi_b_list, isi_b_dict, isi_n_bool, isi_n_int, isi_n_str, isi_n_tuple, isi_n_list, isi_n_dict, isi_L_bool, isi_L_int, isi_L_str, isi_L_tuple, isi_L_list, isi_L_dict, isi_d_bool, isi_d_int, isi_d_str, isi_d_tuple, isi_d_list, isi_d_dict, natlit_eq, Int.reduceNeg, puts, appendR_same, lenR_same, tup1R_same, sz0, sz1, sz2, sz3, sz4, sz5, sz6, sz7, sz8, sz9, sz10, ix_L0, ix_L1, ix_L2, ix_Lbs, dep_nil, dep_cons, dep_tup, dep_lst, dep_str, dep_int, dep_bl, dep_non, dep_strs, dep_ints, dep_app, dep_rules, dep_prog, pu_nil, pu_cons, pu_tup, pu_lst, pu_str, pu_int, pu_bl, pu_non, pu_app, pureDs_str, pureDs_int, pu_rule, pu_rules, pu_prog, eqv_self, eqvDs_nil, Bool.and_self, Bool.and_true, Bool.true_and, List.length_map, List.length_append, Int.zero_add, Nat.zero_add, cutL_to1, cutL_to2, cutL_to3, cutL_to15, List.take_succ_cons, List.take_zero, List.take_nil, List.drop_succ_cons, List.drop_zero, List.drop_nil, cutL_toN, cutL_toS, cutL_fromN, cutL_fromS, List.length_take, List.length_drop, ← List.map_take, ← List.map_drop, ← List.map_append, neR_prog0, eqR_prog0, lenR_prog, rep1, List.length_replicate, Int.toNat_natCast, ofString_beq, ofString_inj, String.reduceBEq, String.reduceEq, decide_true, decide_false, extA_t, extA_L, isSome_same, List.length_reverse, ← List.map_reverse, dYes_e, varI_s, isB_b, isI_i, isLst_r, dgTup_t, dgTup_l, dgCons_e, dgNil_e, anyI_t, anyI_s, anyI_L, anyI_r, anyR_s, someI_s, listI_1, joinI_s, isStr_s, par2I_2, enumI_t, enumI_L, dputI_s, dputI_i, dlputI_r, dgetR_s, dgetR_i, dChain_e, eqR_bi, cutL_mid2, cutL_from2S, dSorted_e, sortedI_L, sortedI_r, ix_L3, ix_L4, ix_L5, ix_L6, ix_L7, ix_L8, ix_L9, ix_t5, ix_t6, ix_t7, ix_t8, ix_t9, cutL_from3, cutL_from4, cutL_from5, cutL_from6, cutL_from8, cutL_to4, cutL_to5, cutL_to6, cutL_to8, cutL_to0, sortedI_t, dputTS_e, dDictT_e, dSortedT_e, sortedTI_r, dputTI_2s, dputTI_3s, str1R_i, cutL_toM1, cutL_fromM1, List.length_dropLast, enumI_r, ← List.map_dropLast, dFput_e, dFadd_e, dFadd2_i, dSortSet_e, dSortedK_e, orT_some, lkEnds_e, dSortSetT_e, joinTI_s, dJoinT_e, exStr]) | (with_reducible refine kgo (by assumption) ?_) | ((with_reducible refine And.intro ?_ ?_); focus (first | with_reducible exact small_line2 (by omega) | with_reducible exact small_lt2 (by omega) | with_reducible exact cmul_sm (by omega) (by omega) (by omega) (by omega) | with_reducible exact cdiv_ok (by decide) (by decide) | with_reducible exact inLine_nat (by omega) | exact ⟨by omega, by omega⟩ | exact ⟨by omega, by omega, by first | omega | exact small_line2 (by decide)⟩ | omega | decide))))
local macro_rules | `(tactic| symm_saturate) => `(tactic| repeat ((with_reducible refine And.intro ?_ ?_); focus (first | with_reducible exact small_line2 (by omega) | with_reducible exact small_lt2 (by omega) | with_reducible exact cmul_sm (by omega) (by omega) (by omega) (by omega) | with_reducible exact cdiv_ok (by decide) (by decide) | with_reducible exact inLine_nat (by omega) | exact ⟨by omega, by omega⟩ | exact ⟨by omega, by omega, by first | omega | exact small_line2 (by decide)⟩ | omega | decide)))
def topS (i : Nat) : Stmt := PySem.Challenge.pw_pileruns_k16_begun_machines.main.body.getD i (.Pass ⟨0, 0, 0, 0⟩)
abbrev st__law_deck : Stmt := topS 5
abbrev N__law_deck : List Str := ["_law_script", "_law_cells"]
theorem sc__law_deck : FnScope N__law_deck ["_law_script"] (defScope st__law_deck) := ⟨rfl, rfl, rfl, by decide +kernel, rfl, by decide +kernel, by decide +kernel⟩
abbrev st__law_draw : Stmt := topS 6
abbrev N__law_draw : List Str := ["_law_deck_here", "_law_most", "_law_at", "_law_cells", "_law_seed", "_law_number"]
theorem sc__law_draw : FnScope N__law_draw ["_law_deck_here", "_law_most"] (defScope st__law_draw) := ⟨rfl, rfl, rfl, by decide +kernel, rfl, by decide +kernel, by decide +kernel⟩
abbrev st__law_names : Stmt := topS 8
abbrev N__law_names : List Str := ["_law_deck_here", "_law_many", "_law_letters", "_law_signs", "_law_way", "_law_word", "_law_at", "_law_long", "_law_found", "_law_k", "_law_some", "_law_spot", "_law_sign", "_law_left", "_law_turned"]
theorem sc__law_names : FnScope N__law_names ["_law_deck_here", "_law_many"] (defScope st__law_names) := ⟨rfl, rfl, rfl, by decide +kernel, rfl, by decide +kernel, by decide +kernel⟩
abbrev st__law_numbers : Stmt := topS 9
abbrev N__law_numbers : List Str := ["_law_deck_here", "_law_most", "_law_some", "_law_turn"]
theorem sc__law_numbers : FnScope N__law_numbers ["_law_deck_here", "_law_most"] (defScope st__law_numbers) := ⟨rfl, rfl, rfl, by decide +kernel, rfl, by decide +kernel, by decide +kernel⟩
abbrev st__law_pick : Stmt := topS 7
abbrev N__law_pick : List Str := ["_law_deck_here", "_law_some"]
theorem sc__law_pick : FnScope N__law_pick ["_law_deck_here", "_law_some"] (defScope st__law_pick) := ⟨rfl, rfl, rfl, by decide +kernel, rfl, by decide +kernel, by decide +kernel⟩
abbrev st__law_machine : Stmt := topS 10
abbrev N__law_machine : List Str := ["_law_deck_here", "_law_places", "_law_marks", "_law_sort", "_law_most", "_law_great", "_law_numbers_here", "_law_states", "_law_goals", "_law_some", "_law_k", "_law_slip", "_law_mark", "_law_ends_here", "_law_state"]
theorem sc__law_machine : FnScope N__law_machine ["_law_deck_here", "_law_places", "_law_marks", "_law_sort", "_law_most"] (defScope st__law_machine) := ⟨rfl, rfl, rfl, by decide +kernel, rfl, by decide +kernel, by decide +kernel⟩
abbrev st_states_of : Stmt := topS 1
abbrev N_states_of : List Str := ["machine", "found", "one", "mark", "other", "state"]
theorem sc_states_of : FnScope N_states_of ["machine"] (defScope st_states_of) := ⟨rfl, rfl, rfl, by decide +kernel, rfl, by decide +kernel, by decide +kernel⟩
abbrev st_begun : Stmt := topS 3
abbrev N_begun : List Str := ["machine", "state", "place", "numbers", "edges", "one", "mark", "other", "ends", "k"]
theorem sc_begun : FnScope N_begun ["machine", "state", "place"] (defScope st_begun) := ⟨rfl, rfl, rfl, by decide +kernel, rfl, by decide +kernel, by decide +kernel⟩
abbrev st__law_wide : Stmt := topS 20
abbrev N__law_wide : List Str := ["_law_deck_here", "_law_places", "_law_marks", "_law_states", "_law_edges", "_law_state", "_law_ends_here", "_law_k", "_law_mark"]
theorem sc__law_wide : FnScope N__law_wide ["_law_deck_here", "_law_places", "_law_marks"] (defScope st__law_wide) := ⟨rfl, rfl, rfl, by decide +kernel, rfl, by decide +kernel, by decide +kernel⟩
abbrev st__law_ends : Stmt := topS 17
abbrev N__law_ends : List Str := ["_law_machine_here", "_law_states", "_law_one"]
theorem sc__law_ends : FnScope N__law_ends ["_law_machine_here", "_law_states"] (defScope st__law_ends) := ⟨rfl, rfl, rfl, by decide +kernel, rfl, by decide +kernel, by decide +kernel⟩
abbrev st__law_on : Stmt := topS 16
abbrev N__law_on : List Str := ["_law_machine_here", "_law_states", "_law_mark", "_law_s", "_law_a", "_law_t"]
theorem sc__law_on : FnScope N__law_on ["_law_machine_here", "_law_states", "_law_mark"] (defScope st__law_on) := ⟨rfl, rfl, rfl, by decide +kernel, rfl, by decide +kernel, by decide +kernel⟩
abbrev st__law_alike : Stmt := topS 18
abbrev N__law_alike : List Str := ["_law_machine_here", "_law_state", "_law_told", "_law_place", "_law_marks", "_law_met", "_law_waiting", "_law_here", "_law_there", "_law_name", "_law_mark"]
theorem sc__law_alike : FnScope N__law_alike ["_law_machine_here", "_law_state", "_law_told", "_law_place", "_law_marks"] (defScope st__law_alike) := ⟨rfl, rfl, rfl, by decide +kernel, rfl, by decide +kernel, by decide +kernel⟩
abbrev st__law_rises : Stmt := topS 14
abbrev N__law_rises : List Str := ["_law_some"]
theorem sc__law_rises : FnScope N__law_rises ["_law_some"] (defScope st__law_rises) := ⟨rfl, rfl, rfl, by decide +kernel, rfl, by decide +kernel, by decide +kernel⟩
abbrev st__law_is_name : Stmt := topS 11
abbrev N__law_is_name : List Str := ["_law_thing", "_law_sign"]
theorem sc__law_is_name : FnScope N__law_is_name ["_law_thing"] (defScope st__law_is_name) := ⟨rfl, rfl, rfl, by decide +kernel, rfl, by decide +kernel, by decide +kernel⟩
abbrev st__law_is_figures : Stmt := topS 12
abbrev N__law_is_figures : List Str := ["_law_thing", "_law_sign"]
theorem sc__law_is_figures : FnScope N__law_is_figures ["_law_thing"] (defScope st__law_is_figures) := ⟨rfl, rfl, rfl, by decide +kernel, rfl, by decide +kernel, by decide +kernel⟩
abbrev st__law_is_state : Stmt := topS 13
abbrev N__law_is_state : List Str := ["_law_thing"]
theorem sc__law_is_state : FnScope N__law_is_state ["_law_thing"] (defScope st__law_is_state) := ⟨rfl, rfl, rfl, by decide +kernel, rfl, by decide +kernel, by decide +kernel⟩
abbrev st__law_is_target : Stmt := topS 15
abbrev N__law_is_target : List Str := ["_law_thing", "_law_edge", "_law_state"]
theorem sc__law_is_target : FnScope N__law_is_target ["_law_thing"] (defScope st__law_is_target) := ⟨rfl, rfl, rfl, by decide +kernel, rfl, by decide +kernel, by decide +kernel⟩
abbrev st__law_lead_nowhere : Stmt := topS 19
abbrev N__law_lead_nowhere : List Str := ["_law_told", "_law_place", "_law_states", "_law_found", "_law_at", "_law_s", "_law_a", "_law_t", "_law_one", "_law_edge"]
theorem sc__law_lead_nowhere : FnScope N__law_lead_nowhere ["_law_told", "_law_place"] (defScope st__law_lead_nowhere) := ⟨rfl, rfl, rfl, by decide +kernel, rfl, by decide +kernel, by decide +kernel⟩
abbrev st_law : Stmt := topS 21
abbrev N_law : List Str := ["_law_script", "_law_deck_here", "_law_turn", "_law_wide_here", "_law_sort", "_law_names_here", "_law_places", "_law_marks", "_law_machine_here", "_law_state", "_law_place", "_law_told", "_law_some", "_law_edge"]
theorem sc_law : FnScope N_law ["_law_script"] (defScope st_law) := ⟨rfl, rfl, rfl, by decide +kernel, rfl, by decide +kernel, by decide +kernel⟩
section
variable {P : Program} {w : World} {K : PySem.W.Frag} {mg : Str → Option Value} {base : Heap}
theorem draw_small {a : Int} (h0 : 0 ≤ a) (h1 : a ≤ 2 ^ 61) : a.natAbs < 2 ^ 62 := by omega
theorem draw_mod (a : Int) {m : Int} (h0 : 0 < m) (h1 : m ≤ 2 ^ 62) : (a % m).natAbs < 2 ^ 62 := by
  have := Int.emod_nonneg a (by omega : m ≠ 0)
  have := Int.emod_lt_of_pos a h0
  omega
theorem draw_tail {t most : Int} (t0 : 0 ≤ t) (t1 : t ≤ 2 ^ 61) (m0 : 0 < most) (m1 : most ≤ 2 ^ 62) (seed : Int) {Q : Int → Prop} (h : ∀ n, 0 ≤ n → n < most → Q n) :
    (0 : Int) < 2147483647 ∧ CMulW (seed % 2147483647) 48271 ∧ CMulW 69621 t ∧ CMulW (69621 * t) t ∧ (0 : Int) < 2147483629 ∧
      CMulW ((seed % 2147483647 * 48271 + 69621 * t * t + 7919) % 2147483629) ((seed % 2147483647 * 48271 + 69621 * t * t + 7919) % 2147483629) ∧ (0 : Int) < 2147483587 ∧
      CMulW ((seed % 2147483647 * 48271 + 69621 * t * t + 7919) % 2147483629 * ((seed % 2147483647 * 48271 + 69621 * t * t + 7919) % 2147483629) % 2147483587)
        ((seed % 2147483647 * 48271 + 69621 * t * t + 7919) % 2147483629 * ((seed % 2147483647 * 48271 + 69621 * t * t + 7919) % 2147483629) % 2147483587 + 39373) ∧ (0 : Int) < 2147483563 ∧
      CDivW ((seed % 2147483647 * 48271 + 69621 * t * t + 7919) % 2147483629 * ((seed % 2147483647 * 48271 + 69621 * t * t + 7919) % 2147483629) % 2147483587 *
        ((seed % 2147483647 * 48271 + 69621 * t * t + 7919) % 2147483629 * ((seed % 2147483647 * 48271 + 69621 * t * t + 7919) % 2147483629) % 2147483587 + 39373) % 2147483563) 64 ∧ 0 < most ∧
      Q ((seed % 2147483647 * 48271 + 69621 * t * t + 7919) % 2147483629 * ((seed % 2147483647 * 48271 + 69621 * t * t + 7919) % 2147483629) % 2147483587 *
        ((seed % 2147483647 * 48271 + 69621 * t * t + 7919) % 2147483629 * ((seed % 2147483647 * 48271 + 69621 * t * t + 7919) % 2147483629) % 2147483587 + 39373) % 2147483563 / 64 % most) := by
  have b1 := draw_mod seed (m := 2147483647) (by decide) (by decide)
  have bt : t.natAbs < 2 ^ 62 := draw_small t0 t1
  have b2 : (69621 * t).natAbs < 2 ^ (62 + 62) := nabs_mul (by decide) bt
  generalize seed % 2147483647 * 48271 + 69621 * t * t + 7919 = u
  have b3 := draw_mod u (m := 2147483629) (by decide) (by decide)
  generalize u % 2147483629 = v at *
  have b4 := draw_mod (v * v) (m := 2147483587) (by decide) (by decide)
  have b5 : (v * v % 2147483587 + 39373).natAbs < 2 ^ 63 := by
    have := Int.emod_nonneg (v * v) (by decide : (2147483587 : Int) ≠ 0)
    have := Int.emod_lt_of_pos (v * v) (by decide : (0 : Int) < 2147483587)
    omega
  refine ⟨by decide, cmul_ok (nabs_up b1 (by decide)) (by decide), cmul_ok (by decide) (nabs_up bt (by decide)), cmul_ok (nabs_up b2 (by decide)) (nabs_up bt (by decide)), by decide, cmul_ok (nabs_up b3 (by decide)) (nabs_up b3 (by decide)), by decide,
    cmul_ok (nabs_up b4 (by decide)) (nabs_up b5 (by decide)), by decide, cdiv_ok (by decide) (by decide), m0, h _ (Int.emod_nonneg _ (by omega)) (Int.emod_lt_of_pos _ m0)⟩
/-- a draw: some number below most; one draw less is left -/
def sp__law_draw : DSp := fun ds M R => ∃ (d : Addr) (most : Int), ds = [.ref d, .int most] ∧ ∃ c r, Deck M d c (r + 1) ∧ (0 < most ∧ most ≤ 2 ^ 62) ∧ ∀ n M', 0 ≤ n → n < most → Deck M' d c r → Upto d c M M' → R (.int n) M'
theorem draw_go {M : Mm} {d c : Addr} {r : Nat} {most : Int} {R : DQ} (D0 : Deck M d c (r + 1)) (h0 : 0 < most) (h1 : most ≤ 2 ^ 62) (k : ∀ n M', 0 ≤ n → n < most → Deck M' d c r → Upto d c M M' → R (.int n) M') : sp__law_draw [.ref d, .int most] M R := ⟨d, most, rfl, c, r, D0, ⟨h0, h1⟩, k⟩
theorem draw_B {M M0 : Mm} {d c : Addr} {n : Nat} {L : List (Addr × MO)} {most : Int} {R : DQ} (b : Bx d c n M0 L M) (hn : 1 ≤ n) (h0 : 0 < most) (h1 : most ≤ 2 ^ 62) (k : ∀ i M', 0 ≤ i → i < most → Bx d c (n - 1) M0 L M' → R (.int i) M') : sp__law_draw [.ref d, .int most] M R :=
  draw_go (r := n - 1) (b.dk.mono (by omega)) h0 h1 fun i M' h0 h1 D U => k i M' h0 h1 (b.call D U)
theorem ok__law_draw {f__law_draw : Addr} {fd__law_draw : FuncData} (F__law_draw : Fun K "_law_draw" "_law_draw" st__law_draw f__law_draw fd__law_draw) : FnOk P w K mg base CX0 1 f__law_draw fd__law_draw ["_law_deck_here", "_law_most"] (toSp K sp__law_draw) := by
  refine fn_ok (k := 0) F__law_draw sc__law_draw (fun ds M R h => ?_) (fun cdv A outer s H E hr => ⟨_, (jb_cons (js_dput hr (jv 0) je_str (je_add (je_dget hr (jv 0) je_str) je_int))
      (jb_cons (js_set (i := 2) sc__law_draw.nd (je_dget hr (jv 0) je_str))
      (jb_cons (js_set (i := 3) sc__law_draw.nd (je_dget hr (jv 0) je_str))
      (jb_cons (js_set (i := 4) sc__law_draw.nd (je_add (je_dget hr (jv 0) je_str) (jv 2)))
      (jb_cons (js_if (jt_ne hr (jv 3) (je_frz (jl_disp ja_nil))) (jb_cons (js_set (i := 4) sc__law_draw.nd (je_popAt (jv 3) je_int)) (jb_one (js_if (jt_ge (jv 4) (je_pow je_int je_int)) (jb_cons (js_expr (je_insert (jv 3) je_int (je_fdiv (jv 4) (jv 1)))) (jb_one (js_ret (je_mod (jv 4) (jv 1))))) jb_nil))) jb_nil)
      (jb_cons (js_set (i := 5) sc__law_draw.nd (je_mod (je_add (je_add (je_mul (je_mod (jv 4) je_int) je_int) (je_mul (je_mul je_int (jv 2)) (jv 2))) je_int) je_int))
      (jb_cons (js_set (i := 5) sc__law_draw.nd (je_mod (je_mul (jv 5) (jv 5)) je_int))
      (jb_one (js_ret (je_mod (je_fdiv (je_mod (je_mul (jv 5) (je_add (jv 5) je_int)) je_int) je_int) (jv 1))))))))))), fun ds M R h => ?_⟩)
  · unfold sp__law_draw at h
    first | (obtain ⟨rfl, _⟩ := h; rfl) | (obtain ⟨_, rfl, _⟩ := h; rfl) | (obtain ⟨_, _, rfl, _⟩ := h; rfl) | (obtain ⟨_, _, _, rfl, _⟩ := h; rfl) | (obtain ⟨_, _, _, _, rfl, _⟩ := h; rfl) | (obtain ⟨_, _, _, _, _, rfl, _⟩ := h; rfl) | (obtain ⟨_, _, _, _, _, _, rfl, _⟩ := h; rfl) | (obtain ⟨_, _, _, _, _, _, _, rfl, _⟩ := h; rfl) | (obtain ⟨_, _, _, _, _, _, _, _, rfl, _⟩ := h; rfl) | (obtain ⟨_, _, _, _, _, _, _, _, _, rfl, _⟩ := h; rfl) | (obtain ⟨_, _, _, _, _, _, _, _, _, _, rfl, _⟩ := h; rfl) | (split at h <;> first | rfl | exact h.elim)
  · unfold sp__law_draw at h
    obtain ⟨d, most, rfl, c, r, ⟨hdc, ⟨cs, at_, sm⟩, ⟨o1, o2, o3⟩, e1, e2⟩, ⟨hm0, hm1⟩, k⟩ := h
    simp only at o1 o2 o3 e1 e2
    have hcd := hdc.symm
    have f1 := dicOf_some e1
    dsimp? only [N__law_draw, f1]
    refine ⟨by decide, by decide, ?_⟩
    have g1 : lstOf (mup M d (.dic (deckD c ⟨cs, at_ + 1, sm⟩))) c = some (cs.map D.int) := by
      rw [lstOf_mup_ne hcd]
      exact lstOf_some e2
    refine ne_nil_l g1 (pureDs_int _) (Nat.le_trans (depDs_int _) (by decide)) ?_
    dsimp? only [g1]
    have t0 : 0 ≤ at_ + 1 := by omega
    have t1 : at_ + 1 ≤ 2 ^ 61 := by omega
    have t2 : at_ + 1 + (r : Int) ≤ 2 ^ 60 := by omega
    -- the answer, the deck's cells being cs'
    have fin : ∀ (cs' : List Int) (M1 : Mm), cs'.length ≤ 63 → (∀ a, a ≠ d → a ≠ c → M1 a = M a) → M1 d = some (.dic (deckD c ⟨cs, at_ + 1, sm⟩)) → M1 c = some (.lst (cs'.map D.int)) → ∀ n, 0 ≤ n → n < most → Shr R (.int n) M1 := by
      intro cs' M1 hl hM h1 h2 n n0 n1
      exact Shr.all (k n _ n0 n1 ⟨hdc, ⟨cs', at_ + 1, sm⟩, ⟨hl, t0, t2⟩, h1, h2⟩ hM)
    cases cs with
    | nil =>
      dsimp? only [List.map_nil, List.isEmpty_nil, Bool.not_true]
      refine draw_tail t0 t1 hm0 hm1 _ fun n n0 n1 => fin [] _ (by decide) (fun a h1 h2 => ?_) ?_ ?_ n n0 n1
      · rw [mup_ne h1]
      · rw [mup_same]
      · rw [mup_ne hcd]; exact e2
    | cons z zs =>
      rw [List.map_cons] at g1
      dsimp? only [List.map_cons, List.isEmpty_cons, Bool.not_false, popAtR, g1]
      refine ⟨⟨by decide, by decide⟩, ?_⟩
      dsimp? only [Int.toNat_zero, List.getElem?_cons_zero, List.eraseIdx_cons_zero, insertR]
      refine ⟨⟨by decide, by decide, by decide⟩, ?_⟩
      have o1' : zs.length ≤ 62 := by simpa using o1
      split
      · refine ⟨cdiv_ok hm0 (by omega), ⟨?_, by decide, by decide⟩, hm0, ?_⟩
        · rw [List.length_map]
          exact Nat.lt_of_le_of_lt o1' (by decide)
        · refine fin (z / most :: zs) _ (by simpa using o1') (fun a h1 h2 => ?_) ?_ ?_ _ (Int.emod_nonneg _ (by omega)) (Int.emod_lt_of_pos _ hm0)
          · rw [mup_ne h2, mup_ne h2, mup_ne h1]
          · rw [mup_ne hdc, mup_ne hdc, mup_same]
          · rw [mup_same]
            rfl
      · refine draw_tail t0 t1 hm0 hm1 _ fun n n0 n1 => fin zs _ (by omega) (fun a h1 h2 => ?_) ?_ ?_ n n0 n1
        · rw [mup_ne h2, mup_ne h1]
        · rw [mup_ne hdc, mup_same]
        · rw [mup_same]
/-- names: so many -/
def sp__law_names : DSp := fun ds M R => ∃ (d : Addr) (many : Nat), ds = [.ref d, .int many] ∧ many ≤ 26 ∧ ∃ c r, Deck M d c (r + 100) ∧
  ∀ (ns : List Str) M', ns.length = many → (∀ n ∈ ns, NameS n) → ns.Nodup → Deck M' d c r → Upto d c M M' → R (.lst (ns.map D.str)) M'
theorem names_goN {M : Mm} {d c : Addr} {r many : Nat} {R : DQ} (D0 : Deck M d c (r + 100)) (hm : many ≤ 26) (k : ∀ (ns : List Str) M', ns.length = many → (∀ n ∈ ns, NameS n) → ns.Nodup → Deck M' d c r → Upto d c M M' → R (.lst (ns.map D.str)) M') : sp__law_names [.ref d, .int many] M R := ⟨d, many, rfl, hm, c, r, D0, k⟩
theorem names_go {M : Mm} {d c : Addr} {r many : Nat} {R : DQ} (D0 : Deck M d c (r + 100)) (hm : many ≤ 26) (k : ∀ (ns : List Str) M', ns.length = many → (∀ n ∈ ns, NameS n) → Deck M' d c r → Upto d c M M' → R (.lst (ns.map D.str)) M') : sp__law_names [.ref d, .int many] M R := names_goN D0 hm fun ns M' h1 h2 _ D U => k ns M' h1 h2 D U
theorem ok__law_names {f__law_names f__law_draw : Addr} {fd__law_names fd__law_draw : FuncData} (F__law_names : Fun K "_law_names" "_law_names" st__law_names f__law_names fd__law_names) (G__law_draw : FnOk P w K mg base CX0 1 f__law_draw fd__law_draw ["_law_deck_here", "_law_most"] (toSp K sp__law_draw)) (g__law_draw : mg "_law_draw" = some (.ref f__law_draw)) (k__law_draw : PySem.W.keepIn K (.ref f__law_draw) = true) (b__law_draw : Binds K fd__law_draw ["_law_deck_here", "_law_most"] []) (z_range : mg "range" = none) (z_int : mg "int" = none) (z_len : mg "len" = none) (z_list : mg "list" = none) : FnOk P w K mg base CX0 2 f__law_names fd__law_names ["_law_deck_here", "_law_many"] (toSp K sp__law_names) := by
  refine fn_ok (k := 1) F__law_names sc__law_names (fun ds M R h => ?_) (fun cdv A outer s H E hr => ⟨_, (jb_cons (js_set (i := 2) sc__law_names.nd je_str)
      (jb_cons (js_set (i := 3) sc__law_names.nd (je_add (jv 2) je_str))
      (jb_cons (js_set (i := 4) sc__law_names.nd (je_call G__law_draw (hr.mono (by decide)) (by rfl) g__law_draw k__law_draw b__law_draw (ja_cons (jv 0) (ja_cons je_int ja_nil))))
      (jb_cons (js_set (i := 5) sc__law_names.nd (je_add (je_ix (jv 2) (je_call G__law_draw (hr.mono (by decide)) (by rfl) g__law_draw k__law_draw b__law_draw (ja_cons (jv 0) (ja_cons je_int ja_nil)))) (je_join je_str (je_frz (jl_lc rfl sc__law_names.nd (jlc (ji_rng1 (by rfl) z_range je_int) (blkOk_by (own := [("_law_k", 9)]) (N := N__law_names) (sc := defScope st__law_names) (by decide +kernel)) (fun _ _ _ _ _ => (jgv_name (i := 9) sc__law_names.nd (by decide))) (fun _ _ _ _ _ => jts_nil) (fun _ _ _ _ _ => (je_ix (jv 3) (je_call G__law_draw (hr.mono (by decide)) (by rfl) g__law_draw k__law_draw b__law_draw (ja_cons (jv 0) (ja_cons je_int ja_nil)))))))))))
      (jb_cons (js_set (i := 6) sc__law_names.nd (je_call G__law_draw (hr.mono (by decide)) (by rfl) g__law_draw k__law_draw b__law_draw (ja_cons (jv 0) (ja_cons je_int ja_nil))))
      (jb_cons (js_set (i := 7) sc__law_names.nd (je_ix (je_frz (jl_disp (ja_cons (je_add je_int (je_call G__law_draw (hr.mono (by decide)) (by rfl) g__law_draw k__law_draw b__law_draw (ja_cons (jv 0) (ja_cons je_int ja_nil)))) (ja_cons (je_add (je_add (jv 6) je_int) (je_call G__law_draw (hr.mono (by decide)) (by rfl) g__law_draw k__law_draw b__law_draw (ja_cons (jv 0) (ja_cons (je_sub je_int (jv 6)) ja_nil)))) ja_nil)))) (je_int1 z_int (ja_cons (je_eq hr (jv 4) je_int) ja_nil))))
      (jb_cons (js_set (i := 8) sc__law_names.nd (je_fresh (jl_disp ja_nil)))
      (jb_cons (js_for PassesOwn.never rfl (ji_rng1 (by rfl) z_range (jv 1)) (jg_name (i := 9) sc__law_names.nd) (jb_one (js_if (JW.jt (jw_and (jt_eq hr (jv 4) je_int) (jw_and1 (jt_lt (jv 1) je_int)))) (jb_one (js_expr (je_append (jv 8) (je_slice (jv 5) jo_none (jo_some (je_add (jv 9) je_int)))))) (jb_cons (js_set (i := 10) sc__law_names.nd (je_ix (je_frz (jl_disp (ja_cons (jv 2) (ja_cons (jv 3) ja_nil)))) (je_int1 z_int (ja_cons (je_gt (jv 6) je_int) ja_nil)))) (jb_cons (js_set (i := 11) sc__law_names.nd (je_ix (je_frz (jl_disp (ja_cons je_int (ja_cons (jv 6) ja_nil)))) (je_int1 z_int (ja_cons (je_eq hr (jv 4) je_int) ja_nil)))) (jb_cons (js_set (i := 12) sc__law_names.nd (je_ix (jv 2) (je_mod (je_add (je_sindex (jv 2) (je_ix (jv 5) je_int)) (jv 9)) je_int))) (jb_cons (js_if (jt_gt (jv 11) je_int) (jb_one (js_set (i := 12) sc__law_names.nd (je_ix (jv 10) (je_mod (je_add (je_sindex (jv 10) (je_ix (jv 5) (jv 11))) (jv 9)) (je_len z_len (ja_cons (jv 10) ja_nil)))))) jb_nil) (jb_one (js_expr (je_append (jv 8) (je_add (je_add (je_slice (jv 5) jo_none (jo_some (jv 11))) (jv 12)) (je_slice (jv 5) (jo_some (je_add (jv 11) je_int)) (jo_some (jv 7))))))))))))))
      (jb_cons (js_set (i := 13) sc__law_names.nd (je_fresh (jl_list z_list (ja_cons (jv 8) ja_nil))))
      (jb_cons (js_set (i := 14) sc__law_names.nd (je_fresh (jl_disp ja_nil)))
      (jb_cons (js_while PassesOwn.never (jt_ne hr (jv 13) (je_frz (jl_disp ja_nil))) (jb_one (js_expr (je_append (jv 14) (je_popAt (jv 13) (je_call G__law_draw (hr.mono (by decide)) (by rfl) g__law_draw k__law_draw b__law_draw (ja_cons (jv 0) (ja_cons (je_len z_len (ja_cons (jv 13) ja_nil)) ja_nil))))))))
      (jb_one (js_ret (jv 14)))))))))))))), fun ds M R h => ?_⟩)
  · unfold sp__law_names at h
    first | (obtain ⟨rfl, _⟩ := h; rfl) | (obtain ⟨_, rfl, _⟩ := h; rfl) | (obtain ⟨_, _, rfl, _⟩ := h; rfl) | (obtain ⟨_, _, _, rfl, _⟩ := h; rfl) | (obtain ⟨_, _, _, _, rfl, _⟩ := h; rfl) | (obtain ⟨_, _, _, _, _, rfl, _⟩ := h; rfl) | (obtain ⟨_, _, _, _, _, _, rfl, _⟩ := h; rfl) | (obtain ⟨_, _, _, _, _, _, _, rfl, _⟩ := h; rfl) | (obtain ⟨_, _, _, _, _, _, _, _, rfl, _⟩ := h; rfl) | (obtain ⟨_, _, _, _, _, _, _, _, _, rfl, _⟩ := h; rfl) | (obtain ⟨_, _, _, _, _, _, _, _, _, _, rfl, _⟩ := h; rfl) | (split at h <;> first | rfl | exact h.elim)
  · unfold sp__law_names at h
    obtain ⟨d, many, rfl, hm, c, r, D0, k⟩ := h
    dsimp? only [N__law_names]
    refine ⟨by decide +kernel, ?_⟩
    refine draw_go (r := r + 99) (D0.mono (by omega)) (by decide) (by decide) fun way M1 w0 w1 D1 U1 => ?_
    refine draw_go (r := r + 98) D1 (by decide) (by decide) fun i0 M2 a2 b2 D2 U2 => ?_
    obtain ⟨c0, hc0, mc0⟩ := lets_get (j := i0.toNat) (by omega)
    refine ix_s a2 (by rw [cps_lets]; exact hc0) (by decide +kernel) ⟨by decide, ?_⟩
    refine lcW_deck (d := d) (c := c) (r := r + 91) 1 (fun y => ∃ c, c ∈ sgns ∧ y = .str ⟨#[c]⟩) (by decide) (D2.mono (by simp [rangeD])) (fun _ _ => trivial) (fun x hx r' M3 N F D3 U3 hN => ?_) (fun ys M3 hl hP D3 U3 => ?_)
    · simp? only [dYes]
      refine draw_go D3 (by decide) (by decide) fun n M4 a4 b4 D4 U4 => ?_
      obtain ⟨e, he, me⟩ := sgns_get (j := n.toNat) (by omega)
      exact ix_s a4 (by rw [cps_sgns]; exact he) (by decide +kernel) (hN _ _ ⟨e, me, rfl⟩ D4 (U3.trans U4))
    · obtain ⟨cs, rfl, hcs, hlen⟩ := all_map (fun c => D.str ⟨#[c]⟩) (· ∈ sgns) hP
      have hcl : cs.length = 7 := by rw [hlen, hl]; simp [rangeD]
      refine joinQ_map (fun c => (⟨#[c]⟩ : Str)) (by rw [sum_ones]; simp [hcl]; decide +kernel) ?_
      obtain ⟨w, hw, ew⟩ : ∃ w : Str, cps w = c0 :: cs ∧ w = (⟨#[c0]⟩ : Str) ++ Txt.join ("" : Str) (cs.map fun c => (⟨#[c]⟩ : Str)) := ⟨_, by rw [cps_append, cps_one, join_signs]; rfl, rfl⟩
      dsimp? only []
      rw [← ew]
      refine ⟨?_, ?_⟩
      · rw [cps_len, cps_len, join_signs, hcl]; show 1 + 7 ≤ sizeLine; decide +kernel
      refine draw_go (r := r + 90) D3 (by decide) (by decide) fun at_ M4 at0 at1 D4 U4 => ?_
      refine draw_go (r := r + 89) D4 (by decide) (by decide) fun l1 M5 a5 b5 D5 U5 => ?_
      try dsimp? only []
      refine draw_go (r := r + 88) (most := 8 - at_) D5 (by omega) (by omega) fun l2 M6 a6 b6 D6 U6 => ?_
      try dsimp? only []
      refine ⟨by decide, ?_⟩
      refine ix_Lb ⟨by decide, fun p hp => ⟨inLine_nat (by omega), ?_⟩⟩
      have U06 : Upto d c M M6 := U1.trans <| U2.trans <| U3.trans (U4.trans (U5.trans U6))
      have hpd := D6.nd hp
      have hpc := D6.nc hp
      have hp0 : M p = none := U06.fresh D6 hp
      have hwl : w.length ≤ sizeLine := len_le hw (by simp [hcl])
      obtain ⟨long, hlong, hl1, hl8⟩ : ∃ long : Nat, (if (way == 1) = true then D.int (at_ + 1 + l2) else D.int (1 + l1)) = .int (long : Int) ∧ 1 ≤ long ∧ long ≤ 8 ∧ (way = 1 → at_ < long) := by
        split
        · exact ⟨(at_ + 1 + l2).toNat, by congr 1; omega, by omega, by omega, fun _ => by omega⟩
        · rename_i hw
          exact ⟨(1 + l1).toNat, by congr 1; omega, by omega, by omega, fun e => by simp [e] at hw⟩
      rw [hlong, Int.toNat_natCast]
      refine forW_rng (fun i ds M' => ∃ (ns : List Str) (x9 x10 x11 x12 : Option D), ds = [some (D.ref d), some (D.int many), some (D.str (Str.ofString "abcdefghijklmnopqrstuvwxyz")), some (D.str (Str.ofString "abcdefghijklmnopqrstuvwxyz" ++ Str.ofString "0123456789")),
          some (D.int way), some (D.str w), some (D.int at_), some (.int (long : Int)), some (D.ref p), x9, x10, x11, x12, none, none] ∧ ns.length = i ∧ i ≤ many ∧ (∀ n ∈ ns, NameS n) ∧ (∀ a z, ns[a]? = some z → nameG (way == 2 && decide (many < 9)) (if way = 1 then at_.toNat else 0) (c0 :: cs) z = a) ∧ lstOf M' p = some (ns.map D.str) ∧ Ext d c M M' ∧ Deck M' d c (r + 88))
        (fun i N hi hN ds M' hI => ?_) (fun ds M' hI => ?_) _ _ ⟨[], none, none, none, none, rfl, rfl, Nat.zero_le _, by simp, by simp, lstOf_mup_same, (U06.ext).new hp, D6.up hp⟩
      · obtain ⟨ns, x9, x10, x11, x12, rfl, hnl, hi2, hns, hG, hL, hX, hD⟩ := hI
        have fin : ∀ (z : Str) (y9 y10 y11 y12 : Option D), NameS z → nameG (way == 2 && decide (many < 9)) (if way = 1 then at_.toNat else 0) (c0 :: cs) z = i → isLst (.ref p) M' ∧ appendR (.ref p) [.str z] M' fun _ M1 => N [some (D.ref d), some (D.int many), some (D.str (Str.ofString "abcdefghijklmnopqrstuvwxyz")), some (D.str (Str.ofString "abcdefghijklmnopqrstuvwxyz" ++ Str.ofString "0123456789")),
            some (D.int way), some (D.str w), some (D.int at_), some (.int (long : Int)), some (D.ref p), y9, y10, y11, y12, none, none] M1 := by
          intro z y9 y10 y11 y12 hz hzG
          refine ⟨by simp [isLst, hL], append_go hL (by rw [List.length_map]; exact small_ltline (by omega)) (hN _ _ ⟨ns ++ [z], y9, y10, y11, y12, rfl, by simp [hnl], by omega, fun n hn => ?_, fun a y hy => ?_, by rw [lstOf_mup_same]; simp, hX.put hp0, hD.keep hpd hpc⟩)⟩
          rotate_left
          · rw [List.getElem?_append] at hy
            split at hy
            · exact hG a y hy
            · rename_i hge
              have ha : a = i := by
                have := (List.getElem?_eq_some_iff.mp hy).1
                simp at this; omega
              subst ha
              have : z = y := by rw [hnl, Nat.sub_self] at hy; simpa using hy
              rw [← this]; exact hzG
          rcases List.mem_append.mp hn with hn | hn
          · exact hns n hn
          · rw [List.mem_singleton.mp hn]; exact hz
        have hmem : ∀ x ∈ c0 :: cs, x ∈ sgns := fun x hx => by
          rcases List.mem_cons.mp hx with rfl | hx
          · exact lets_sgns mc0
          · exact hcs x hx
        try simp? only []
        refine ifs2 (fun hwy hm9 => ?_) (fun hnw => ?_)
        · obtain ⟨f1, f2⟩ := fin (cutS w none (some (0 + (i : Int) + 1))) _ _ _ _ (by show NameL _; rw [cut_nat, hw]; exact name_take mc0 hcs (by omega) i) (by
            have hm9' : many < 9 := by have := of_decide_eq_true hm9; omega
            rw [hwy, show decide (many < 9) = true by simpa using hm9', show (true && true) = true from rfl]
            exact nameG_way (by rw [cut_nat, hw]) (by rw [List.length_cons, hcl]; omega))
          exact ⟨by simp [hL], hwl, f2⟩
        · try dsimp? only []
          refine ⟨by decide, ix_Lb ?_⟩
          obtain ⟨some_, hsome⟩ : ∃ z : D, z = (if decide (0 < at_) = true then D.str (Str.ofString "abcdefghijklmnopqrstuvwxyz" ++ Str.ofString "0123456789") else D.str (Str.ofString "abcdefghijklmnopqrstuvwxyz")) := ⟨_, rfl⟩
          rw [← hsome]
          refine ⟨by decide, ix_Lb ?_⟩
          obtain ⟨spot, hspot, hs7, hs8⟩ : ∃ spot : Nat, (if (way == 1) = true then D.int at_ else D.int 0) = .int (spot : Int) ∧ spot ≤ 7 ∧ (0 < spot → way = 1 ∧ at_ = spot) := by
            split
            · rename_i hw
              exact ⟨at_.toNat, by congr 1; omega, by omega, fun _ => ⟨by simpa using hw, by omega⟩⟩
            · exact ⟨0, rfl, by omega, by omega⟩
          have hsp : (if way = 1 then at_.toNat else 0) = spot := by
            by_cases h1 : way = 1
            · rw [if_pos h1]; rw [if_pos (by simp [h1])] at hspot; injection hspot with hspot; omega
            · rw [if_neg h1]; rw [if_neg (by simp [h1])] at hspot; injection hspot with hspot; omega
          have hway0 : (way == 2 && decide (many < 9)) = false := by
            cases hb : (way == 2 && decide (many < 9)) with
            | false => rfl
            | true =>
              rw [Bool.and_eq_true] at hb
              exact absurd ⟨hb.1, by have := of_decide_eq_true hb.2; simpa using (by omega : ((many : Int) < 9))⟩ hnw
          rw [hspot]
          refine ix_s (c := c0) (by decide) (by rw [hw]; rfl) hwl ?_
          refine index_letsI mc0 fun hj => ?_
          obtain ⟨j, hjd⟩ : ∃ j, j = lets.idxOf c0 := ⟨_, rfl⟩
          rw [← hjd] at hj ⊢
          try dsimp? only []
          refine ⟨by decide, ?_⟩
          obtain ⟨c1, hc1, mc1⟩ := lets_get (j := (((j : Int) + (0 + (i : Int))) % 26).toNat) (by omega)
          refine ix_s (by omega) (by rw [cps_lets]; exact hc1) (by decide +kernel) ?_
          try dsimp? only []
          -- what is put
          have fin2 : ∀ (e : Nat) (y9 y10 y11 y12 : Option D), e ∈ sgns → (spot = 0 → e ∈ lets) → (∀ z : Str, cps z = (c0 :: cs).take spot ++ [e] ++ ((c0 :: cs).drop (spot + 1)).take (long - (spot + 1)) → nameG (way == 2 && decide (many < 9)) (if way = 1 then at_.toNat else 0) (c0 :: cs) z = i) → (lstOf M' p).isSome = true ∧ w.length ≤ sizeLine ∧ (cutS w none (some (spot : Int))).length + (⟨#[e]⟩ : Str).length ≤ sizeLine ∧ w.length ≤ sizeLine ∧
              (cutS w none (some (spot : Int)) ++ (⟨#[e]⟩ : Str)).length + (cutS w (some ((spot : Int) + 1)) (some (long : Int))).length ≤ sizeLine ∧
              appendR (.ref p) [.str (cutS w none (some (spot : Int)) ++ (⟨#[e]⟩ : Str) ++ cutS w (some ((spot : Int) + 1)) (some (long : Int)))] M' fun _ M1 => N [some (D.ref d), some (D.int many), some (D.str (Str.ofString "abcdefghijklmnopqrstuvwxyz")), some (D.str (Str.ofString "abcdefghijklmnopqrstuvwxyz" ++ Str.ofString "0123456789")),
            some (D.int way), some (D.str w), some (D.int at_), some (.int (long : Int)), some (D.ref p), y9, y10, y11, y12, none, none] M1 := by
            intro e y9 y10 y11 y12 me ml mG
            have e1 : cps (cutS w none (some (spot : Int))) = (c0 :: cs).take spot := by rw [cps_cut, hw, cutL_to]
            have e2 : cps (cutS w (some ((spot : Int) + 1)) (some (long : Int))) = ((c0 :: cs).drop (spot + 1)).take (long - (spot + 1)) := by rw [cps_cut, hw, show (spot : Int) + 1 = ((spot + 1 : Nat) : Int) by omega, cutL_mid]
            have e3 : cps (cutS w none (some (spot : Int)) ++ (⟨#[e]⟩ : Str)) = (c0 :: cs).take spot ++ [e] := by rw [cps_append, e1, cps_one]
            refine ⟨by simp [hL], hwl, ?_, hwl, ?_, ?_⟩
            · rw [cps_len, cps_len, e1, cps_one]; exact small_line (by simp only [List.length_take, List.length_cons, List.length_nil]; omega)
            · rw [cps_len, cps_len, e3, e2]; exact small_line (by simp only [List.length_append, List.length_take, List.length_drop, List.length_cons, List.length_nil]; omega)
            · refine (fin _ _ _ _ _ ?_ (mG _ (by rw [cps_append, e3, e2]))).2
              show NameL _
              rw [cps_append, e3, e2]
              have hlen : ((c0 :: cs).take spot ++ [e] ++ ((c0 :: cs).drop (spot + 1)).take (long - (spot + 1))).length ≤ 8 := by
                simp only [List.length_append, List.length_take, List.length_drop, List.length_cons, List.length_nil]; omega
              refine ⟨?_, fun x hx => ?_, hlen⟩
              · cases spot with
                | zero => exact ⟨e, _, rfl, ml rfl⟩
                | succ s => exact ⟨c0, _, rfl, mc0⟩
              · rcases List.mem_append.mp hx with hx | hx
                · rcases List.mem_append.mp hx with hx | hx
                  · exact hmem x (List.mem_of_mem_take hx)
                  · rw [List.mem_singleton.mp hx]; exact me
                · exact hmem x (List.mem_of_mem_drop (List.mem_of_mem_take hx))
          refine ifs (fun h0 => ?_) (fun h0 => ?_)
          · have h0 : 0 < spot := by simpa using h0
            obtain ⟨hw1, hat⟩ := hs8 h0
            have hsg : some_ = D.str (Str.ofString "abcdefghijklmnopqrstuvwxyz" ++ Str.ofString "0123456789") := by rw [hsome, if_pos (by simp; omega)]
            clear hsome
            subst hsg
            obtain ⟨e, he, me⟩ : ∃ e, (c0 :: cs)[spot]? = some e ∧ e ∈ sgns := by
              have : spot < (c0 :: cs).length := by simp [hcl]; omega
              exact ⟨_, List.getElem?_eq_getElem this, hmem _ (List.getElem_mem _)⟩
            refine ⟨trivial, ix_s (c := e) (by omega) (by rw [hw]; simpa using he) hwl ?_⟩
            refine index_sgnsI me fun hj2 => ?_
            obtain ⟨j2, hjd2⟩ : ∃ j, j = sgns.idxOf e := ⟨_, rfl⟩
            rw [← hjd2] at hj2 ⊢
            try dsimp? only []
            refine ⟨by decide +kernel, ?_⟩
            rw [show ((Str.ofString "abcdefghijklmnopqrstuvwxyz" ++ Str.ofString "0123456789").length : Int) = 36 by decide +kernel]
            obtain ⟨c2, hc2, mc2⟩ := sgns_get (j := (((j2 : Int) + (0 + (i : Int))) % 36).toNat) (by omega)
            refine ⟨by decide, ix_s (by omega) (by rw [cps_sgns]; exact hc2) (by decide +kernel) ?_⟩
            exact fin2 c2 _ _ _ _ mc2 (by omega) (fun z hz => by
              rw [hway0, hsp]
              have hgd : (c0 :: cs).getD spot 0 = e := by rw [List.getD_eq_getElem?_getD, he]; rfl
              refine nameG_sgn hz h0 (by rw [List.length_cons, hcl]; omega) (by omega) (by rw [hgd, ← hjd2]; exact hj2) ?_
              rw [hgd, ← hjd2, ← hc2]
              congr 1
              omega)
          · exact fin2 c1 _ _ _ _ (lets_sgns mc1) (fun _ => mc1) (fun z hz => by
              rw [hway0, hsp]
              have hs0 : spot = 0 := by simpa using h0
              subst hs0
              refine nameG_let (e := c1) (r := ((c0 :: cs).drop (0 + 1)).take (long - (0 + 1))) (by rw [hz]; simp) (by omega) (by rw [show (c0 :: cs).getD 0 0 = c0 from rfl, ← hjd]; exact hj) ?_
              rw [show (c0 :: cs).getD 0 0 = c0 from rfl, ← hjd, ← hc1]
              congr 1
              omega)
      · obtain ⟨ns, x9, x10, x11, x12, rfl, hnl, hi2, hns, hG, hL, hX, hD⟩ := hI
        have hnd : ns.Nodup := nodup_left hG
        dsimp? only [hL]
        refine fun q hq => ⟨by decide, fun t ht => ?_⟩
        have hqd := hD.nd hq
        have hqc := hD.nc hq
        have hq0 : M q = none := hX.fresh hD hq
        have hD2 : Deck (mup M' q (.lst (ns.map D.str))) d c (r + 88) := hD.up hq
        have htd := hD2.nd ht
        have htc := hD2.nc ht
        have ht0 : M t = none := (hX.new hq).fresh hD2 ht
        have htq : t ≠ q := by rintro rfl; rw [mup_same] at ht; cases ht
        refine whileN_go (fun m ds M2 => ∃ (ls ts : List Str) , ds = [some (D.ref d), some (D.int many), some (D.str (Str.ofString "abcdefghijklmnopqrstuvwxyz")), some (D.str (Str.ofString "abcdefghijklmnopqrstuvwxyz" ++ Str.ofString "0123456789")),
          some (D.int way), some (D.str w), some (D.int at_), some (.int (long : Int)), some (D.ref p), x9, x10, x11, x12, some (D.ref q), some (D.ref t)] ∧ ls.length = m ∧ ls.length + ts.length = many ∧ (∀ n ∈ ls, NameS n) ∧ (∀ n ∈ ts, NameS n) ∧ (ls ++ ts).Nodup ∧
          lstOf M2 q = some (ls.map D.str) ∧ lstOf M2 t = some (ts.map D.str) ∧ Ext d c M M2 ∧ Deck M2 d c (r + m)) (fun N ds M2 hI => ?_) (fun m N hN ds M2 hI => ?_) many _ _
          ⟨ns, [], rfl, by omega, by simp; omega, hns, by simp, by simpa using hnd, lstOf_keep htq.symm lstOf_mup_same, lstOf_mup_same, (hX.new hq).new ht, (hD2.up ht).mono (by omega)⟩
        · obtain ⟨ls, ts, rfl, hl0, hlt, h1, h2, hn2, e1, e2, hX2, hD3⟩ := hI
          have : ls = [] := List.eq_nil_of_length_eq_zero hl0
          subst this
          try simp? only []
          refine ⟨by decide, ne_nil_l e1 (pureDs_str _) (Nat.le_trans (depDs_str _) (by decide)) ?_⟩
          exact Shr.deckL D0 ht0 e2 hX2 hD3 fun M3 U D3 => k ts M3 (by simpa using hlt) h2 (by simpa using hn2) D3 U
        · obtain ⟨ls, ts, rfl, hl0, hlt, h1, h2, hn2, e1, e2, hX2, hD3⟩ := hI
          try simp? only []
          refine ⟨by decide, ne_nil_l e1 (pureDs_str _) (Nat.le_trans (depDs_str _) (by decide)) ?_⟩
          obtain ⟨l0, lr, rfl⟩ : ∃ l0 lr, ls = l0 :: lr := by
            cases ls with
            | nil => simp at hl0
            | cons a b => exact ⟨a, b, rfl⟩
          dsimp? only [List.isEmpty_cons, e2]
          refine ⟨by simp [e1], len_l e1 ?_⟩
          refine draw_go (r := r + m) (hD3.mono (by omega)) (by simp at hlt ⊢; try omega) (by simp at hlt ⊢; omega) fun j M3 j0 j1 D3 U3 => ?_
          have e1' : lstOf M3 q = some ((l0 :: lr).map D.str) := by rw [U3.lst hqd hqc]; exact e1
          have e2' : lstOf M3 t = some (ts.map D.str) := by rw [U3.lst htd htc]; exact e2
          obtain ⟨z, hz, mz⟩ : ∃ z, (l0 :: lr)[j.toNat]? = some z ∧ z ∈ (l0 :: lr) := by
            have : j.toNat < (l0 :: lr).length := by simp at j1 ⊢; omega
            exact ⟨_, List.getElem?_eq_getElem this, List.getElem_mem _⟩
          refine popAt_go (d := .str z) e1' j0 (by simp at j1 hlt; omega) (by rw [List.getElem?_map, hz]; rfl) ?_
          refine append_go (xs := ts.map D.str) (lstOf_keep htq e2') (by rw [List.length_map]; exact small_ltline (by omega)) ?_
          try dsimp? only []
          have hlen : ((l0 :: lr).eraseIdx j.toNat).length = m := by
            rw [List.length_eraseIdx_of_lt (by simp at j1 ⊢; omega)]; omega
          refine hN _ _ ⟨(l0 :: lr).eraseIdx j.toNat, ts ++ [z], rfl, hlen, by rw [hlen]; simp at hlt hl0 ⊢; omega, fun n hn => h1 n (List.mem_of_mem_eraseIdx hn), fun n hn => ?_, ?_, ?_, ?_, ((hX2.trans U3.ext).put hq0).put ht0, (D3.keep hqd hqc).keep htd htc⟩
          · rcases List.mem_append.mp hn with hn | hn
            · exact h2 n hn
            · rw [List.mem_singleton.mp hn]; exact h1 z mz
          · refine List.Perm.nodup (l := (l0 :: lr) ++ ts) ?_ hn2
            have hpp := takeNth_perm hz
            rw [← List.append_assoc]
            refine ((List.perm_append_comm.trans ?_) : (List.Perm _ _)).symm
            exact (hpp.append_right ts)
          · rw [lstOf_mup_ne htq.symm, lstOf_mup_same]; exact congrArg some (eraseIdx_map D.str (l0 :: lr) _)
          · rw [lstOf_mup_same]; simp
def num8 : List Str := [("0" : Str), ("1" : Str), ("10" : Str), ("11" : Str), ("2" : Str), ("205" : Str), ("3" : Str), ("7" : Str)]
theorem num8_f : ∀ s ∈ num8, figB s = true ∧ AscS 8 s := by
  have key : (num8.all fun s => figB s && ((cps s).all (· < 128) && decide (s.length ≤ 8))) = true := by decide +kernel
  intro s hs
  have := List.all_eq_true.mp key s hs
  simp only [Bool.and_eq_true, decide_eq_true_eq] at this
  exact ⟨this.1, fun c hc => by simpa using List.all_eq_true.mp this.2.1 c hc, this.2.2⟩
theorem num8_nodup : num8.Nodup := by decide +kernel
/-- some numbers, as texts -/
def sp__law_numbers : DSp := fun ds M R => ∃ (d : Addr) (n : Nat), ds = [.ref d, .int n] ∧ 1 ≤ n ∧ n ≤ 8 ∧ Draws d 2 (fun x => ∃ ns : List Str, x = .lst (ns.map D.str) ∧ ns ≠ [] ∧ ns.length ≤ 8 ∧ ns.Nodup ∧ ∀ s ∈ ns, s ∈ num8) M R
theorem numbers_B {M M0 : Mm} {d c : Addr} {r : Nat} {L : List (Addr × MO)} {n : Nat} {R : DQ} (b : Bx d c r M0 L M) (h5 : 1 ≤ n) (h6 : n ≤ 8) (hr : 2 ≤ r)
    (k : ∀ (ns : List Str) M', ns ≠ [] → ns.length ≤ 8 → ns.Nodup → (∀ s ∈ ns, s ∈ num8) → Bx d c (r - 2) M0 L M' → R (.lst (ns.map D.str)) M') : sp__law_numbers [.ref d, .int n] M R :=
  ⟨d, n, rfl, h5, h6, b.draws hr fun x M' ⟨ns, e, h1, h2, h3, h4⟩ b' => e ▸ k ns M' h1 h2 h3 h4 b'⟩
theorem ok__law_numbers {f__law_numbers f__law_draw : Addr} {fd__law_numbers fd__law_draw : FuncData} (F__law_numbers : Fun K "_law_numbers" "_law_numbers" st__law_numbers f__law_numbers fd__law_numbers) (G__law_draw : FnOk P w K mg base CX0 1 f__law_draw fd__law_draw ["_law_deck_here", "_law_most"] (toSp K sp__law_draw)) (g__law_draw : mg "_law_draw" = some (.ref f__law_draw)) (k__law_draw : PySem.W.keepIn K (.ref f__law_draw) = true) (b__law_draw : Binds K fd__law_draw ["_law_deck_here", "_law_most"] []) (z_sorted : mg "sorted" = none) : FnOk P w K mg base CX0 2 f__law_numbers fd__law_numbers ["_law_deck_here", "_law_most"] (toSp K sp__law_numbers) := by
  refine fn_ok (k := 1) F__law_numbers sc__law_numbers (fun ds M R h => ?_) (fun cdv A outer s H E hr => ⟨_, (jb_cons (js_set (i := 2) sc__law_numbers.nd (je_frz (jl_disp (ja_cons je_str (ja_cons je_str (ja_cons je_str (ja_cons je_str (ja_cons je_str (ja_cons je_str (ja_cons je_str (ja_cons je_str ja_nil)))))))))))
      (jb_cons (js_set (i := 3) sc__law_numbers.nd (je_call G__law_draw (hr.mono (by decide)) (by rfl) g__law_draw k__law_draw b__law_draw (ja_cons (jv 0) (ja_cons je_int ja_nil))))
      (jb_one (js_ret (je_frz (jl_sorted hr z_sorted (ja_cons (je_slice (je_add (je_slice (jv 2) (jo_some (jv 3)) jo_none) (je_slice (jv 2) jo_none (jo_some (jv 3)))) jo_none (jo_some (je_add je_int (je_call G__law_draw (hr.mono (by decide)) (by rfl) g__law_draw k__law_draw b__law_draw (ja_cons (jv 0) (ja_cons (jv 1) ja_nil)))))) ja_nil))))))), fun ds M R h => ?_⟩)
  · unfold sp__law_numbers at h
    first | (obtain ⟨rfl, _⟩ := h; rfl) | (obtain ⟨_, rfl, _⟩ := h; rfl) | (obtain ⟨_, _, rfl, _⟩ := h; rfl) | (obtain ⟨_, _, _, rfl, _⟩ := h; rfl) | (obtain ⟨_, _, _, _, rfl, _⟩ := h; rfl) | (obtain ⟨_, _, _, _, _, rfl, _⟩ := h; rfl) | (obtain ⟨_, _, _, _, _, _, rfl, _⟩ := h; rfl) | (obtain ⟨_, _, _, _, _, _, _, rfl, _⟩ := h; rfl) | (obtain ⟨_, _, _, _, _, _, _, _, rfl, _⟩ := h; rfl) | (obtain ⟨_, _, _, _, _, _, _, _, _, rfl, _⟩ := h; rfl) | (obtain ⟨_, _, _, _, _, _, _, _, _, _, rfl, _⟩ := h; rfl) | (split at h <;> first | rfl | exact h.elim)
  · unfold sp__law_numbers at h
    obtain ⟨d, n, rfl, hn1, hn, c, r, D0, k⟩ := h
    have b0 := Bx.start D0
    simp_all only [N__law_numbers]
    infer_instance
    refine draw_B b0 (by omega) (by omega) (by omega) fun t M1 t0 t1 b1 => ?_
    infer_instance
    obtain ⟨K, hK, hKl, hK8⟩ : ∃ K : List Str, K.map D.str = [D.str (Str.ofString "0"), D.str (Str.ofString "1"), D.str (Str.ofString "10"), D.str (Str.ofString "11"), D.str (Str.ofString "2"), D.str (Str.ofString "205"), D.str (Str.ofString "3"), D.str (Str.ofString "7")] ∧ K.length = 8 ∧ K = num8 := ⟨num8, rfl, rfl, rfl⟩
    rw [← hK]
    obtain ⟨u, rfl⟩ : ∃ u : Nat, t = u := ⟨t.toNat, by omega⟩
    rw [cutL_fromN, cutL_toN, ← List.map_drop, ← List.map_take, ← List.map_append]
    have hl : (K.drop u ++ K.take u).length = 8 := by simp; omega
    refine ⟨?_, ?_⟩
    · have := hl; simp at this ⊢; exact small_line2 (by omega)
    refine draw_B b1 (by omega) (by omega) (by omega) fun q M2 q0 q1 b2 => ?_
    infer_instance
    obtain ⟨j, hj⟩ : ∃ j : Nat, (1 : Int) + q = j := ⟨(1 + q).toNat, by omega⟩
    rw [hj, cutL_toN, ← List.map_take]
    refine ⟨sortOk_str, ?_⟩
    rw [sortD_strs]
    have hp : (K.drop u ++ K.take u).Perm K := List.perm_append_comm.trans (by rw [List.take_append_drop])
    refine b2.done k ⟨_, rfl, ?_, ?_, ?_, ?_⟩ (by omega)
    · intro h
      have := congrArg List.length h
      rw [sortS_len] at this
      simp at this hl
      omega
    · rw [sortS_len]; simp at hl ⊢; omega
    · refine (sortS_perm _).nodup_iff.mpr (List.Nodup.sublist (List.take_sublist _ _) (hp.nodup_iff.mpr ?_))
      rw [hK8]; exact num8_nodup
    · intro s hs
      rw [← hK8]
      exact hp.mem_iff.mp (List.mem_of_mem_take (sortS_mem.mp hs))
/-- one of some -/
def sp__law_pick : DSp := fun ds M R => ∃ (d : Addr) (x : D) (xs : List D), ds = [.ref d, x] ∧ (x = .lst xs ∨ x = .tup xs) ∧ xs ≠ [] ∧ xs.length ≤ 2 ^ 60 ∧ ∃ c r, Deck M d c (r + 1) ∧ ∀ y ∈ xs, ∀ M', Deck M' d c r → Upto d c M M' → R y M'
theorem pick_L {M : Mm} {d c : Addr} {r : Nat} {xs : List D} {R : DQ} (D0 : Deck M d c (r + 1)) (h0 : xs ≠ []) (h1 : xs.length ≤ 2 ^ 60) (k : ∀ y ∈ xs, ∀ M', Deck M' d c r → Upto d c M M' → R y M') : sp__law_pick [.ref d, .lst xs] M R := ⟨d, _, xs, rfl, .inl rfl, h0, h1, c, r, D0, k⟩
theorem pick_t {M : Mm} {d c : Addr} {r : Nat} {xs : List D} {R : DQ} (D0 : Deck M d c (r + 1)) (h0 : xs ≠ []) (h1 : xs.length ≤ 2 ^ 60) (k : ∀ y ∈ xs, ∀ M', Deck M' d c r → Upto d c M M' → R y M') : sp__law_pick [.ref d, .tup xs] M R := ⟨d, _, xs, rfl, .inr rfl, h0, h1, c, r, D0, k⟩
/-- of a list of things -/
theorem pick_Lm {α : Type} {f : α → D} {M : Mm} {d c : Addr} {r : Nat} {xs : List α} {R : DQ} (D0 : Deck M d c (r + 1)) (h0 : xs ≠ []) (h1 : xs.length ≤ 2 ^ 60) (k : ∀ y ∈ xs, ∀ M', Deck M' d c r → Upto d c M M' → R (f y) M') : sp__law_pick [.ref d, .lst (xs.map f)] M R :=
  pick_L D0 (by simpa using h0) (by simpa using h1) fun y hy M' D U => by
    obtain ⟨z, hz, rfl⟩ := List.mem_map.mp hy
    exact k z hz M' D U
theorem pick_tm {α : Type} {f : α → D} {M : Mm} {d c : Addr} {r : Nat} {xs : List α} {R : DQ} (D0 : Deck M d c (r + 1)) (h0 : xs ≠ []) (h1 : xs.length ≤ 2 ^ 60) (k : ∀ y ∈ xs, ∀ M', Deck M' d c r → Upto d c M M' → R (f y) M') : sp__law_pick [.ref d, .tup (xs.map f)] M R :=
  pick_t D0 (by simpa using h0) (by simpa using h1) fun y hy M' D U => by
    obtain ⟨z, hz, rfl⟩ := List.mem_map.mp hy
    exact k z hz M' D U
theorem pick_BL {α : Type} {f : α → D} {M M0 : Mm} {d c : Addr} {n : Nat} {L : List (Addr × MO)} {xs : List α} {R : DQ} (b : Bx d c n M0 L M) (hn : 1 ≤ n) (h0 : xs ≠ []) (h1 : xs.length ≤ 2 ^ 60) (k : ∀ y ∈ xs, ∀ M', Bx d c (n - 1) M0 L M' → R (f y) M') : sp__law_pick [.ref d, .lst (xs.map f)] M R :=
  pick_Lm (r := n - 1) (b.dk.mono (by omega)) h0 h1 fun y hy M' D U => k y hy M' (b.call D U)
theorem pick_Bt {α : Type} {f : α → D} {M M0 : Mm} {d c : Addr} {n : Nat} {L : List (Addr × MO)} {xs : List α} {R : DQ} (b : Bx d c n M0 L M) (hn : 1 ≤ n) (h0 : xs ≠ []) (h1 : xs.length ≤ 2 ^ 60) (k : ∀ y ∈ xs, ∀ M', Bx d c (n - 1) M0 L M' → R (f y) M') : sp__law_pick [.ref d, .tup (xs.map f)] M R :=
  pick_tm (r := n - 1) (b.dk.mono (by omega)) h0 h1 fun y hy M' D U => k y hy M' (b.call D U)
theorem ok__law_pick {f__law_pick f__law_draw : Addr} {fd__law_pick fd__law_draw : FuncData} (F__law_pick : Fun K "_law_pick" "_law_pick" st__law_pick f__law_pick fd__law_pick) (G__law_draw : FnOk P w K mg base CX0 1 f__law_draw fd__law_draw ["_law_deck_here", "_law_most"] (toSp K sp__law_draw)) (g__law_draw : mg "_law_draw" = some (.ref f__law_draw)) (k__law_draw : PySem.W.keepIn K (.ref f__law_draw) = true) (b__law_draw : Binds K fd__law_draw ["_law_deck_here", "_law_most"] []) (z_len : mg "len" = none) : FnOk P w K mg base CX0 2 f__law_pick fd__law_pick ["_law_deck_here", "_law_some"] (toSp K sp__law_pick) := by
  refine fn_ok (k := 1) F__law_pick sc__law_pick (fun ds M R h => ?_) (fun cdv A outer s H E hr => ⟨_, (jb_one (js_ret (je_ix (jv 1) (je_call G__law_draw (hr.mono (by decide)) (by rfl) g__law_draw k__law_draw b__law_draw (ja_cons (jv 0) (ja_cons (je_len z_len (ja_cons (jv 1) ja_nil)) ja_nil)))))), fun ds M R h => ?_⟩)
  · unfold sp__law_pick at h
    first | (obtain ⟨rfl, _⟩ := h; rfl) | (obtain ⟨_, rfl, _⟩ := h; rfl) | (obtain ⟨_, _, rfl, _⟩ := h; rfl) | (obtain ⟨_, _, _, rfl, _⟩ := h; rfl) | (obtain ⟨_, _, _, _, rfl, _⟩ := h; rfl) | (obtain ⟨_, _, _, _, _, rfl, _⟩ := h; rfl) | (obtain ⟨_, _, _, _, _, _, rfl, _⟩ := h; rfl) | (obtain ⟨_, _, _, _, _, _, _, rfl, _⟩ := h; rfl) | (obtain ⟨_, _, _, _, _, _, _, _, rfl, _⟩ := h; rfl) | (obtain ⟨_, _, _, _, _, _, _, _, _, rfl, _⟩ := h; rfl) | (obtain ⟨_, _, _, _, _, _, _, _, _, _, rfl, _⟩ := h; rfl) | (split at h <;> first | rfl | exact h.elim)
  · unfold sp__law_pick at h
    obtain ⟨d, x, xs, rfl, hx, h0, h1, c, r, D0, k⟩ := h
    have hpos : 0 < xs.length := List.length_pos_iff.mpr h0
    dsimp? only [N__law_pick]
    have hlen : ∀ {Q : DQ}, Q (.int xs.length) M → lenR [x] M Q := by
      rcases hx with rfl | rfl <;> exact fun h => h
    refine hlen ?_
    refine draw_go D0 (by omega) (by omega) fun n M1 n0 n1 D1 U1 => ?_
    obtain ⟨y, hy, my⟩ : ∃ y, xs[n.toNat]? = some y ∧ y ∈ xs := ⟨_, List.getElem?_eq_getElem (by omega), List.getElem_mem _⟩
    rcases hx with rfl | rfl
    · exact ix_L n0 hy (Shr.all (k y my M1 D1 U1))
    · exact ix_t n0 hy (Shr.all (k y my M1 D1 U1))
--TD _law_some
/-- a machine drawn -/
def sp__law_machine : DSp := fun ds M R => ∃ (d : Addr) (ps ms : List Str) (s n : Nat), ds = [.ref d, .lst (ps.map D.str), .lst (ms.map D.str), .int s, .int n] ∧ ps ≠ [] ∧ ms ≠ [] ∧ ps.length ≤ 100 ∧ ms.length ≤ 100 ∧ s ≤ 1 ∧ 1 ≤ n ∧ n ≤ 8 ∧ ps.Nodup ∧ ps.length ≤ 3 ∧ (∀ s ∈ ps, NameS s) ∧ (∀ s ∈ ms, NameS s) ∧ Draws d 400 (fun x => ∃ (S : List Str) (E : List Ed) (F : List Str), x = tgtD E F ∧ MchK S ms E F) M R
theorem machine_B {M M0 : Mm} {d c : Addr} {r : Nat} {L : List (Addr × MO)} {ps ms : List Str} {s n : Nat} {R : DQ} (b : Bx d c r M0 L M) (h1 : ps ≠ []) (h2 : ms ≠ []) (h3 : ps.length ≤ 100) (h4 : ms.length ≤ 100) (hs : s ≤ 1) (h5 : 1 ≤ n) (h6 : n ≤ 8) (h7 : ps.Nodup) (h10 : ps.length ≤ 3) (h8 : ∀ s ∈ ps, NameS s) (h9 : ∀ s ∈ ms, NameS s) (hr : 400 ≤ r)
    (k : ∀ (S : List Str) (E : List Ed) (F : List Str) M', MchK S ms E F → Bx d c (r - 400) M0 L M' → R (tgtD E F) M') : sp__law_machine [.ref d, .lst (ps.map D.str), .lst (ms.map D.str), .int s, .int n] M R :=
  ⟨d, ps, ms, s, n, rfl, h1, h2, h3, h4, hs, h5, h6, h7, h10, h8, h9, b.draws hr fun x M' ⟨S, E, F, e, g⟩ b' => e ▸ k S E F M' g b'⟩
theorem ok__law_machine {f__law_machine f__law_draw f__law_numbers f__law_pick : Addr} {fd__law_machine fd__law_draw fd__law_numbers fd__law_pick : FuncData} (F__law_machine : Fun K "_law_machine" "_law_machine" st__law_machine f__law_machine fd__law_machine) (G__law_draw : FnOk P w K mg base CX0 1 f__law_draw fd__law_draw ["_law_deck_here", "_law_most"] (toSp K sp__law_draw)) (g__law_draw : mg "_law_draw" = some (.ref f__law_draw)) (k__law_draw : PySem.W.keepIn K (.ref f__law_draw) = true) (b__law_draw : Binds K fd__law_draw ["_law_deck_here", "_law_most"] []) (G__law_numbers : FnOk P w K mg base CX0 2 f__law_numbers fd__law_numbers ["_law_deck_here", "_law_most"] (toSp K sp__law_numbers)) (g__law_numbers : mg "_law_numbers" = some (.ref f__law_numbers)) (k__law_numbers : PySem.W.keepIn K (.ref f__law_numbers) = true) (b__law_numbers : Binds K fd__law_numbers ["_law_deck_here", "_law_most"] []) (G__law_pick : FnOk P w K mg base CX0 2 f__law_pick fd__law_pick ["_law_deck_here", "_law_some"] (toSp K sp__law_pick)) (g__law_pick : mg "_law_pick" = some (.ref f__law_pick)) (k__law_pick : PySem.W.keepIn K (.ref f__law_pick) = true) (b__law_pick : Binds K fd__law_pick ["_law_deck_here", "_law_some"] []) (z_list : mg "list" = none) (z_range : mg "range" = none) (z_int : mg "int" = none) (z_tuple : mg "tuple" = none) (z_sorted : mg "sorted" = none) : FnOk P w K mg base CX0 3 f__law_machine fd__law_machine ["_law_deck_here", "_law_places", "_law_marks", "_law_sort", "_law_most"] (toSp K sp__law_machine) := by
  refine fn_ok (k := 2) F__law_machine sc__law_machine (fun ds M R h => ?_) (fun cdv A outer s H E hr => ⟨_, (jb_cons (js_set (i := 5) sc__law_machine.nd (je_eq hr (je_call G__law_draw (hr.mono (by decide)) (by rfl) g__law_draw k__law_draw b__law_draw (ja_cons (jv 0) (ja_cons je_int ja_nil))) je_int))
      (jb_cons (js_set (i := 6) sc__law_machine.nd (je_call G__law_numbers (hr.mono (by decide)) (by rfl) g__law_numbers k__law_numbers b__law_numbers (ja_cons (jv 0) (ja_cons (jv 4) ja_nil))))
      (jb_cons (js_set (i := 7) sc__law_machine.nd (je_add (je_frz (jl_list z_list (ja_cons (jv 1) ja_nil))) (jv 6)))
      (jb_cons (js_set (i := 8) sc__law_machine.nd (je_ix (je_frz (jl_disp (ja_cons (jv 6) (ja_cons (jv 7) (ja_cons (jv 7) (ja_cons (jv 7) ja_nil)))))) (jv 3)))
      (jb_cons (js_set (i := 9) sc__law_machine.nd je_dictT)
      (jb_cons (js_for PassesOwn.never rfl (ji_rng1 (by rfl) z_range (je_ix (je_frz (jl_disp (ja_cons (je_add je_int (je_call G__law_draw (hr.mono (by decide)) (by rfl) g__law_draw k__law_draw b__law_draw (ja_cons (jv 0) (ja_cons je_int ja_nil)))) (ja_cons je_int ja_nil)))) (je_int1 z_int (ja_cons (jv 5) ja_nil)))) (jg_name (i := 10) sc__law_machine.nd) (jb_cons (js_set (i := 11) sc__law_machine.nd (je_and (je_gt (jv 3) je_int) (je_one (je_eq hr (je_call G__law_draw (hr.mono (by decide)) (by rfl) g__law_draw k__law_draw b__law_draw (ja_cons (jv 0) (ja_cons (je_ix (je_frz (jl_disp (ja_cons je_int (ja_cons je_int ja_nil)))) (je_mod (jv 3) je_int)) ja_nil))) je_int)))) (jb_cons (js_set (i := 12) sc__law_machine.nd (je_ix (je_frz (jl_disp (ja_cons (je_call G__law_pick (hr.mono (by decide)) (by rfl) g__law_pick k__law_pick b__law_pick (ja_cons (jv 0) (ja_cons (jv 2) ja_nil))) (ja_cons je_str ja_nil)))) (je_int1 z_int (ja_cons (jv 11) ja_nil)))) (jb_one (js_dputT hr (jv 9) (je_tup (ja_cons (je_call G__law_pick (hr.mono (by decide)) (by rfl) g__law_pick k__law_pick b__law_pick (ja_cons (jv 0) (ja_cons (jv 7) ja_nil))) (ja_cons (jv 12) (ja_cons (je_call G__law_pick (hr.mono (by decide)) (by rfl) g__law_pick k__law_pick b__law_pick (ja_cons (jv 0) (ja_cons (jv 8) ja_nil))) ja_nil)))) je_bl)))))
      (jb_cons (js_setLcF (i := 13) rfl sc__law_machine.nd (jlc (ji_any (jv 7)) (blkOk_by (own := [("_law_state", 14)]) (N := N__law_machine) (sc := defScope st__law_machine) (by decide +kernel)) (fun _ _ _ _ _ => (jgv_name (i := 14) sc__law_machine.nd (by decide))) (fun _ _ _ _ _ => (jts_one (jt_eq hr (je_call G__law_draw (hr.mono (by decide)) (by rfl) g__law_draw k__law_draw b__law_draw (ja_cons (jv 0) (ja_cons je_int ja_nil))) je_int))) (fun _ _ _ _ _ => (jv 14))) (sw_true rfl rfl rfl (by decide +kernel)))
      (jb_one (js_ret (je_tup (ja_cons (je_tuple z_tuple (ja_cons (je_frz (jl_sortedT rfl hr z_sorted (ja_cons (jv 9) ja_nil))) ja_nil)) (ja_cons (je_tuple z_tuple (ja_cons (je_frz (jl_sorted hr z_sorted (ja_cons (jv 13) ja_nil))) ja_nil)) ja_nil)))))))))))), fun ds M R h => ?_⟩)
  · unfold sp__law_machine at h
    first | (obtain ⟨rfl, _⟩ := h; rfl) | (obtain ⟨_, rfl, _⟩ := h; rfl) | (obtain ⟨_, _, rfl, _⟩ := h; rfl) | (obtain ⟨_, _, _, rfl, _⟩ := h; rfl) | (obtain ⟨_, _, _, _, rfl, _⟩ := h; rfl) | (obtain ⟨_, _, _, _, _, rfl, _⟩ := h; rfl) | (obtain ⟨_, _, _, _, _, _, rfl, _⟩ := h; rfl) | (obtain ⟨_, _, _, _, _, _, _, rfl, _⟩ := h; rfl) | (obtain ⟨_, _, _, _, _, _, _, _, rfl, _⟩ := h; rfl) | (obtain ⟨_, _, _, _, _, _, _, _, _, rfl, _⟩ := h; rfl) | (obtain ⟨_, _, _, _, _, _, _, _, _, _, rfl, _⟩ := h; rfl) | (split at h <;> first | rfl | exact h.elim)
  · unfold sp__law_machine at h
    obtain ⟨d, ps, ms, s, n, rfl, hp, hm, hpl, hml, hs, hn1, hn, hpnd, hp3, hpn2, hmn2, c, r, D0, k⟩ := h
    have b0 := Bx.start D0
    simp_all only [N__law_machine]
    infer_instance
    refine draw_B b0 (by omega) (by omega) (by omega) fun g M1 g0 g1 b1 => ?_
    infer_instance
    refine numbers_B b1 hn1 hn (by omega) fun ns M2 hn0 hnl hnd hnm b2 => ?_
    infer_instance
    refine ix_allL (fun y => ∃ gs : List Str, y = .lst (gs.map D.str) ∧ gs ≠ [] ∧ gs.length ≤ 108 ∧ ∀ s ∈ gs, s ∈ ps ++ ns) (by omega) (by simp; omega) (fun y hy => ?_) fun y hy => ?_
    · simp only [List.mem_cons, List.not_mem_nil, or_false] at hy
      rcases hy with rfl | rfl | rfl | rfl
      · exact ⟨ns, rfl, hn0, by omega, fun s hs => List.mem_append_right _ hs⟩
      all_goals exact ⟨ps ++ ns, rfl, by simp [hp], by simp; omega, fun s hs => hs⟩
    obtain ⟨gs, rfl, hg0, hgl, hgm⟩ := hy
    have hst : ∀ s ∈ ps ++ ns, s.length ≤ 8 := fun s hs => (List.mem_append.mp hs).elim (fun h => (hpn2 s h).len8) fun h => (num8_f s (hnm s h)).2.2
    have hall : (ps ++ ns).Nodup := by
      rw [List.nodup_append]
      refine ⟨hpnd, hnd, fun a ha b hb e => ?_⟩
      subst e
      have h1 : digB a = true := (by decide +kernel : ∀ s ∈ num8, digB s = true) a (hnm a hb)
      rw [name_dig (hpn2 a ha)] at h1
      cases h1
    infer_instance
    intro p hpn
    have b3 := b2.new (p := p) (o := .dit (esD [])) hpn
    infer_instance
    refine draw_B b3 (by omega) (by omega) (by omega) fun q M3 q0 q1 b4 => ?_
    infer_instance
    obtain ⟨j, hj, j0, j1⟩ : ∃ j : Int, (if (g == 5) = true then D.int 40 else D.int (2 + q)) = .int j ∧ 2 ≤ j ∧ j ≤ 40 := by
      by_cases e : (g == 5) = true
      · rw [if_pos e]; exact ⟨40, rfl, by omega, by omega⟩
      · rw [if_neg e]; exact ⟨2 + q, rfl, by omega, by omega⟩
    rw [hj]
    infer_instance
    refine forR [10, 11, 12] (fun i vs M' => ∃ x10 x11 x12 es, vs = [x10, x11, x12] ∧ Bx d c (r + 150 + 5 * (j.toNat - i)) M [(p, .dit (esD es))] M' ∧ es.length ≤ i ∧ es.Nodup ∧ ∀ e ∈ es, e.1 ∈ ps ++ ns ∧ e.2.1 ∈ ms ∧ e.2.2 ∈ ps ++ ns) (fun _ _ _ _ => trivial) (fun i N hi hN vs M' hI => ?_) (fun vs M' hI => ?_) ⟨_, _, _, [], rfl, b4.mono (by omega), by simp, by simp, by simp⟩
    · obtain ⟨x10, x11, x12, es, rfl, b5, h1, h2, h3⟩ := hI
      refine seqS [11] (fun vs M' => ∃ b : Bool, b = false ∧ vs = [some (.bl b)] ∧ Bx d c (r + 150 + 5 * (j.toNat - (i + 1)) + 4) M [(p, .dit (esD es))] M') (fun N hN => ?_) fun vs M4 hJ => ?_
      · try simp_all only []
        refine ifs (fun hs1 => ?_) (fun _ => ?_)
        · have := of_decide_eq_true hs1
          omega
        · exact hN _ _ _ (by rw [Int.zero_add]; rfl) ⟨_, rfl, rfl, b5.mono (by omega)⟩
      · obtain ⟨b, rfl, rfl, b6⟩ := hJ
        infer_instance
        refine pick_BL b6 (by omega) hm (by omega) fun mk hmk M5 b7 => ?_
        infer_instance
        refine pick_BL b7 (by omega) (by simp [hp]) (by simp; omega) fun a ha M6 b8 => ?_
        infer_instance
        refine pick_BL b8 (by omega) hg0 (by omega) fun t ht M7 b9 => ?_
        infer_instance
        rw [b9.dit1]
        infer_instance
        refine ⟨small_lt2 (by rw [esD_len]; omega), ?_⟩
        rw [show ([.inr a, .inr mk, .inr t] : List Key) = edK (a, mk, t) from rfl, put_es]
        refine hN _ _ _ rfl ⟨_, _, _, insE es (a, mk, t), rfl, b9.put1.mono (by omega), by have := insE_len (es := es) (e := (a, mk, t)); omega, insE_nodup h2, fun f hf => (insE_mem.mp hf).elim (h3 f) fun e => by subst e; exact ⟨by simpa using ha, hmk, hgm t ht⟩⟩
    · obtain ⟨x10, x11, x12, es, rfl, b5, h1, h2, h3⟩ := hI
      infer_instance
      refine lcW_BS D.str 1 (l := ps ++ ns) (small_line2 (by simp; omega)) b5 (by simp; omega) (fun _ _ _ => trivial) (fun s hs n' M4 N F b6 hN hF => ?_) fun Ee M4 hsub b6 => ?_
      · infer_instance
        refine draw_B b6 (by omega) (by omega) (by omega) fun u M5 u0 u1 b7 => ?_
        infer_instance
        refine ifs (fun _ => ?_) (fun _ => ?_)
        · exact hN _ (b7.mono (by omega))
        · exact hF _ (b7.mono (by omega))
      · have hel := hsub.length_le
        rw [List.length_append] at hel
        infer_instance
        have b6 : Bx d c r M [(p, .dit (esD es))] M4 := b6.mono (by simp; omega)
        rw [b6.dit1]
        infer_instance
        rw [keys_es, sortD_eds]
        refine ⟨sortOk_ed, ?_⟩
        infer_instance
        refine ⟨sortOk_str, ?_⟩
        rw [sortD_strs]
        refine b6.done k ⟨ps ++ ns, sortE es, sortS Ee, rfl, ⟨by rw [sortE_len]; omega, by rw [sortS_len]; omega, ris_nd (sortS_ris (hsub.nodup hall)), fun e he => h3 e (sortE_mem.mp he), fun s hs => hsub.subset (sortS_mem.mp hs), by rw [List.length_append]; omega, hst, hmn2⟩⟩ (Nat.le_refl _)
--KD found
/-- the states of a machine, rising -/
def sp_states_of : DSp := fun ds M R => ∃ (E : List Ed) (F : List Str), ds = [.tup [.tup (E.map edD), .tup (F.map .str)]] ∧ E.length ≤ 100000 ∧ F.length ≤ 100000 ∧ ∀ zs : List Str, RisS zs → (∀ z, z ∈ zs ↔ stsOf E F z) → zs.length ≤ 2 * E.length + F.length → R (.tup (zs.map .str)) M
theorem states_go {M : Mm} {Q : DQ} {E : List Ed} {F : List Str} (h1 : E.length ≤ 100000) (h2 : F.length ≤ 100000) (k : ∀ zs : List Str, RisS zs → (∀ z, z ∈ zs ↔ stsOf E F z) → zs.length ≤ 2 * E.length + F.length → Q (.tup (zs.map .str)) M) : sp_states_of [.tup [.tup (E.map edD), .tup (F.map .str)]] M Q := ⟨E, F, rfl, h1, h2, k⟩
theorem ok_states_of {f_states_of : Addr} {fd_states_of : FuncData} (F_states_of : Fun K "states_of" "states_of" st_states_of f_states_of fd_states_of) (z_tuple : mg "tuple" = none) (z_sorted : mg "sorted" = none) : FnOk P w K mg base CX0 1 f_states_of fd_states_of ["machine"] (toSp K sp_states_of) := by
  refine fn_ok (k := 0) F_states_of sc_states_of (fun ds M R h => ?_) (fun cdv A outer s H E hr => ⟨_, (jb_cons (js_set (i := 1) sc_states_of.nd (je_freshD jd_empty))
      (jb_cons (js_for PassesOwn.never rfl (ji_any (je_ix (jv 0) je_int)) (jg_tup (n := 3) rfl (jgs_cons (jg_name (i := 2) sc_states_of.nd) (jgs_cons (jg_name (i := 3) sc_states_of.nd) (jgs_cons (jg_name (i := 4) sc_states_of.nd) jgs_nil)))) (jb_cons (js_dput hr (jv 1) (jv 2) je_bl) (jb_one (js_dput hr (jv 1) (jv 4) je_bl))))
      (jb_cons (js_for PassesOwn.never rfl (ji_any (je_ix (jv 0) je_int)) (jg_name (i := 5) sc_states_of.nd) (jb_one (js_dput hr (jv 1) (jv 5) je_bl)))
      (jb_one (js_ret (je_tuple z_tuple (ja_cons (je_frz (jl_sortedK rfl hr z_sorted (jv 1))) ja_nil))))))), fun ds M R h => ?_⟩)
  · unfold sp_states_of at h
    first | (obtain ⟨rfl, _⟩ := h; rfl) | (obtain ⟨_, rfl, _⟩ := h; rfl) | (obtain ⟨_, _, rfl, _⟩ := h; rfl) | (obtain ⟨_, _, _, rfl, _⟩ := h; rfl) | (obtain ⟨_, _, _, _, rfl, _⟩ := h; rfl) | (obtain ⟨_, _, _, _, _, rfl, _⟩ := h; rfl) | (obtain ⟨_, _, _, _, _, _, rfl, _⟩ := h; rfl) | (obtain ⟨_, _, _, _, _, _, _, rfl, _⟩ := h; rfl) | (obtain ⟨_, _, _, _, _, _, _, _, rfl, _⟩ := h; rfl) | (obtain ⟨_, _, _, _, _, _, _, _, _, rfl, _⟩ := h; rfl) | (obtain ⟨_, _, _, _, _, _, _, _, _, _, rfl, _⟩ := h; rfl) | (split at h <;> first | rfl | exact h.elim)
  · unfold sp_states_of at h
    obtain ⟨E, F, rfl, hE, hF, k⟩ := h
    simp_all only [N_states_of]
    infer_instance
    intro p hp
    have b0 := (Px.start (M := M)).new (o := .dic (txD [])) hp
    infer_instance
    refine forS [2, 3, 4] (fun i vs M' => ∃ (x2 x3 x4 : Option DM.D) (G : List Str), vs = [x2, x3, x4] ∧ Px M [(p, .dic (txD G))] M' ∧ G.Nodup ∧ G.length ≤ 2 * i ∧ ∀ z, z ∈ G ↔ ∃ e ∈ E.take i, z = e.1 ∨ z = e.2.2) (fun _ _ _ _ => trivial) (fun i x N e hN vs M1 hI => ?_) (fun vs M1 hI => ?_) ⟨_, _, _, [], rfl, b0, by simp, by simp, by simp⟩
    · obtain ⟨x2, x3, x4, G, rfl, b, hn, hl, hm⟩ := hI
      rw [List.getElem?_map] at e
      obtain ⟨⟨a, m, c⟩, he, rfl⟩ := Option.map_eq_some_iff.mp e
      have hi := (List.getElem?_eq_some_iff.mp he).1
      have hl2 := insS_len (F := G) (s := a)
      have hl3 := insS_len (F := insS G a) (s := c)
      simp only [edD]
      infer_instance
      rw [b.dic1]
      infer_instance
      refine ⟨by rw [txD_len]; exact small_lt2 (by omega), ?_⟩
      rw [put_tx]
      have b2 := b.put1 (o' := .dic (txD (insS G a)))
      infer_instance
      refine ⟨by rw [txD_len]; exact small_lt2 (by omega), ?_⟩
      rw [put_tx]
      refine hN _ _ _ rfl ⟨_, _, _, insS (insS G a) c, rfl, b2.put1, insS_nodup (insS_nodup hn), by omega, fun z => ?_⟩
      rw [insS_mem, insS_mem, hm, List.take_add_one, he]
      constructor
      · rintro ((⟨e, h1, h2⟩ | rfl) | rfl)
        · exact ⟨e, List.mem_append_left _ h1, h2⟩
        · exact ⟨(z, m, c), by simp, .inl rfl⟩
        · exact ⟨(a, m, z), by simp, .inr rfl⟩
      · rintro ⟨e, h1, h2⟩
        rcases List.mem_append.mp h1 with h1 | h1
        · exact .inl (.inl ⟨e, h1, h2⟩)
        · obtain rfl : e = (a, m, c) := by simpa using h1
          rcases h2 with rfl | rfl
          · exact .inl (.inr rfl)
          · exact .inr rfl
    · obtain ⟨x2, x3, x4, G, rfl, b, hn, hl, hm⟩ := hI
      rw [List.length_map] at hl
      rw [List.length_map, List.take_length] at hm
      infer_instance
      refine forS [5] (fun i vs M' => ∃ (x5 : Option DM.D) (G2 : List Str), vs = [x5] ∧ Px M [(p, .dic (txD G2))] M' ∧ G2.Nodup ∧ G2.length ≤ 2 * E.length + i ∧ ∀ z, z ∈ G2 ↔ z ∈ G ∨ z ∈ F.take i) (fun _ _ _ _ => trivial) (fun i x N e hN vs M1 hI => ?_) (fun vs M1 hI => ?_) ⟨_, G, rfl, b, hn, by omega, by simp⟩
      · obtain ⟨x5, G2, rfl, b2, hn2, hl2, hm2⟩ := hI
        rw [List.getElem?_map] at e
        obtain ⟨s, he, rfl⟩ := Option.map_eq_some_iff.mp e
        have hi := (List.getElem?_eq_some_iff.mp he).1
        have hl3 := insS_len (F := G2) (s := s)
        infer_instance
        rw [b2.dic1]
        infer_instance
        refine ⟨by rw [txD_len]; exact small_lt2 (by omega), ?_⟩
        rw [put_tx]
        refine hN _ _ _ rfl ⟨_, insS G2 s, rfl, b2.put1, insS_nodup hn2, by omega, fun z => ?_⟩
        rw [insS_mem, hm2, List.take_add_one, he]
        simp [or_assoc]
      · obtain ⟨x5, G2, rfl, b2, hn2, hl2, hm2⟩ := hI
        rw [List.length_map] at hl2
        rw [List.length_map, List.take_length] at hm2
        infer_instance
        refine sortedK_g b2.dic1 (by rw [keys_tx]; exact sortOk_str) ?_
        rw [keys_tx, sortD_strs]
        infer_instance
        refine b2.fin (k (sortS G2) (sortS_ris hn2) (fun z => ?_) (by rw [sortS_len]; exact hl2))
        rw [sortS_mem, hm2, hm]
        rfl
--DPK
--DICT numbers[one]
--DICT numbers[other]
--TD edges
/-- a machine begun at a state -/
def sp_begun : DSp := fun ds M R => ∃ (S ms : List Str) (E : List Ed) (F : List Str) (state place : Str), ds = [tgtD E F, .str state, .str place] ∧ MchK S ms E F ∧ NameS place ∧ state.length ≤ 8 ∧ ∀ zs E2 F2, Zs E F zs → Beg E F zs state place E2 F2 → R (tgtD E2 F2) M
theorem begun_go {M : Mm} {R : DQ} {S ms : List Str} {E : List Ed} {F : List Str} {state place : Str} (h1 : MchK S ms E F) (h2 : NameS place) (h3 : state.length ≤ 8) (k : ∀ zs E2 F2, Zs E F zs → Beg E F zs state place E2 F2 → R (tgtD E2 F2) M) : sp_begun [tgtD E F, .str state, .str place] M R := ⟨S, ms, E, F, state, place, rfl, h1, h2, h3, k⟩
theorem ok_begun {f_begun f_states_of : Addr} {fd_begun fd_states_of : FuncData} (F_begun : Fun K "begun" "begun" st_begun f_begun fd_begun) (G_states_of : FnOk P w K mg base CX0 1 f_states_of fd_states_of ["machine"] (toSp K sp_states_of)) (g_states_of : mg "states_of" = some (.ref f_states_of)) (k_states_of : PySem.W.keepIn K (.ref f_states_of) = true) (b_states_of : Binds K fd_states_of ["machine"] []) (z_dict : mg "dict" = none) (z_enumerate : mg "enumerate" = none) (z_str : mg "str" = none) (z_tuple : mg "tuple" = none) (z_sorted : mg "sorted" = none) : FnOk P w K mg base CX0 2 f_begun fd_begun ["machine", "state", "place"] (toSp K sp_begun) := by
  refine fn_ok (k := 1) F_begun sc_begun (fun ds M R h => ?_) (fun cdv A outer s H E hr => ⟨_, (jb_cons (js_set (i := 3) sc_begun.nd (je_dictPK rfl hr z_dict (ja_cons (je_frz (jl_lc rfl sc_begun.nd (jlc (ji_enum z_enumerate (je_call G_states_of (hr.mono (by decide)) (by rfl) g_states_of k_states_of b_states_of (ja_cons (jv 0) ja_nil))) (blkOk_by (own := [("k", 9), ("one", 5)]) (N := N_begun) (sc := defScope st_begun) (by decide +kernel)) (fun _ _ _ _ _ => (jgv_tup (n := 2) rfl (jgvs_cons (jgv_name (i := 9) sc_begun.nd (by decide)) (jgvs_cons (jgv_name (i := 5) sc_begun.nd (by decide)) jgvs_nil)))) (fun _ _ _ _ _ => jts_nil) (fun _ _ _ _ _ => (je_tup (ja_cons (jv 5) (ja_cons (je_str1 z_str (ja_cons (jv 9) ja_nil)) ja_nil))))))) ja_nil)))
      (jb_cons (js_set (i := 4) sc_begun.nd je_dictT)
      (jb_cons (js_for PassesOwn.never rfl (ji_any (je_ix (jv 0) je_int)) (jg_tup (n := 3) rfl (jgs_cons (jg_name (i := 5) sc_begun.nd) (jgs_cons (jg_name (i := 6) sc_begun.nd) (jgs_cons (jg_name (i := 7) sc_begun.nd) jgs_nil)))) (jb_cons (js_dputT hr (jv 4) (je_tup (ja_cons (je_ixA hr (jv 3) (jv 5)) (ja_cons (jv 6) (ja_cons (je_ixA hr (jv 3) (jv 7)) ja_nil)))) je_bl) (jb_one (js_if (jt_eq hr (jv 5) (jv 1)) (jb_one (js_dputT hr (jv 4) (je_tup (ja_cons (jv 2) (ja_cons (jv 6) (ja_cons (je_ixA hr (jv 3) (jv 7)) ja_nil)))) je_bl)) jb_nil))))
      (jb_cons (js_setLc (i := 8) rfl sc_begun.nd (jlc (ji_any (je_ix (jv 0) je_int)) (blkOk_by (own := [("one", 5)]) (N := N_begun) (sc := defScope st_begun) (by decide +kernel)) (fun _ _ _ _ _ => (jgv_name (i := 5) sc_begun.nd (by decide))) (fun _ _ _ _ _ => jts_nil) (fun _ _ _ _ _ => (je_ixA hr (jv 3) (jv 5)))) (sw_true rfl rfl rfl (by decide +kernel)))
      (jb_cons (js_if (jt_in hr (jv 1) (je_ix (jv 0) je_int)) (jb_one (js_expr (je_append (jv 8) (jv 2)))) jb_nil)
      (jb_one (js_ret (je_tup (ja_cons (je_tuple z_tuple (ja_cons (je_frz (jl_sortedT rfl hr z_sorted (ja_cons (jv 4) ja_nil))) ja_nil)) (ja_cons (je_tuple z_tuple (ja_cons (je_frz (jl_sorted hr z_sorted (ja_cons (jv 8) ja_nil))) ja_nil)) ja_nil)))))))))), fun ds M R h => ?_⟩)
  · unfold sp_begun at h
    first | (obtain ⟨rfl, _⟩ := h; rfl) | (obtain ⟨_, rfl, _⟩ := h; rfl) | (obtain ⟨_, _, rfl, _⟩ := h; rfl) | (obtain ⟨_, _, _, rfl, _⟩ := h; rfl) | (obtain ⟨_, _, _, _, rfl, _⟩ := h; rfl) | (obtain ⟨_, _, _, _, _, rfl, _⟩ := h; rfl) | (obtain ⟨_, _, _, _, _, _, rfl, _⟩ := h; rfl) | (obtain ⟨_, _, _, _, _, _, _, rfl, _⟩ := h; rfl) | (obtain ⟨_, _, _, _, _, _, _, _, rfl, _⟩ := h; rfl) | (obtain ⟨_, _, _, _, _, _, _, _, _, rfl, _⟩ := h; rfl) | (obtain ⟨_, _, _, _, _, _, _, _, _, _, rfl, _⟩ := h; rfl) | (split at h <;> first | rfl | exact h.elim)
  · unfold sp_begun at h
    obtain ⟨S, ms, E, F, state, place, rfl, g, hp2, hsl, k⟩ := h
    have hE := g.el
    have hF := g.fl
    simp_all only [N_begun, tgtD]
    infer_instance
    refine states_go (by omega) (by omega) fun zs hz1 hz2 hz3 => ?_
    have Z := g.zs hz1 hz2
    infer_instance
    have hzl := Z.l
    refine lcW_go (fun i acc M' => acc = (zs.take i).map (fun s => D.tup [.str s, .str (nK zs s)]) ∧ M' = M) (enumD 0 (zs.map D.str)) (fun _ _ _ _ => trivial) (fun i x N e hN acc M' hI => ?_) (fun acc M' hI => ?_) _ ⟨rfl, rfl⟩
    · obtain ⟨rfl, rfl⟩ := hI
      obtain ⟨y, hy, rfl⟩ := enumD_get e
      rw [List.getElem?_map] at hy
      obtain ⟨z, hz, rfl⟩ := Option.map_eq_some_iff.mp hy
      have hi := (List.getElem?_eq_some_iff.mp hz).1
      infer_instance
      refine ⟨log2_lt (by decide) (Nat.lt_of_le_of_lt (show (i : Int).natAbs ≤ 19 by omega) (by decide)), ?_⟩
      infer_instance
      have e2 : nK zs z = Str.ofString (toString (i : Int)) := by unfold nK; rw [idxOf_nd (ris_nd Z.r) hz]; rfl
      exact hN _ _ ⟨by rw [List.take_add_one, hz, List.map_append]; simp [e2], rfl⟩
    obtain ⟨rfl, rfl⟩ := hI
    rw [enumD_len, List.length_map, List.take_length]
    refine dictK_go rfl (pairsK_strs (f := fun s => .str (nK zs s))) fun p hp => ?_
    rw [merge_nd _ [] (by
      rw [List.map_nil, List.nil_append, List.map_map]
      exact (ris_nd Z.r).map _ fun a b h e => h (Sum.inr.inj e)), List.nil_append]
    have b0 := (Px.start (M := M')).new (p := p) (o := .dic (zs.map fun s => ((.inr s : Key), D.str (nK zs s)))) hp
    infer_instance
    intro q hq
    have b1 := b0.new (p := q) (o := .dit (esD [])) hq
    have look : ∀ {M3 : Mm} {z : Str} {Q : DQ}, dicOf M3 p = some (zs.map fun s => ((.inr s : Key), D.str (nK zs s))) → z ∈ zs → Q (.str (nK zs z)) M3 → ixA (.ref p) (.str z) M3 Q := fun {M3 z Q} h1 h2 k => by
      unfold ixA
      rw [rdDL_of h1]
      simp only [keyD, valD_map h2]
      exact k
    have hf1 : ∀ f ∈ E, f.1 ∈ zs ∧ f.2.2 ∈ zs := fun f hf => ⟨(Z.m _).mpr (.inl ⟨f, hf, .inl rfl⟩), (Z.m _).mpr (.inl ⟨f, hf, .inr rfl⟩)⟩
    infer_instance
    refine forS [5, 6, 7] (fun i vs M2 => ∃ x5 x6 x7, ∃ es : List Ed, vs = [x5, x6, x7] ∧ Px M' [(q, .dit (esD es)), (p, .dic (zs.map fun s => ((.inr s : Key), D.str (nK zs s))))] M2 ∧ es.Nodup ∧ es.length ≤ 2 * i ∧
      ∀ e, e ∈ es ↔ (∃ f ∈ E.take i, e = (nK zs f.1, f.2.1, nK zs f.2.2)) ∨ ∃ f ∈ E.take i, f.1 = state ∧ e = (place, f.2.1, nK zs f.2.2)) (fun _ _ _ _ => trivial) (fun i x N e hN vs M2 hI => ?_) (fun vs M2 hI => ?_) ⟨_, _, _, [], rfl, b1, by simp, by simp, by simp⟩
    · obtain ⟨x5, x6, x7, es, rfl, b, hnd, hle, hes⟩ := hI
      rw [List.getElem?_map] at e
      obtain ⟨f, hf, rfl⟩ := Option.map_eq_some_iff.mp e
      have hi := (List.getElem?_eq_some_iff.mp hf).1
      obtain ⟨hf2, hf3⟩ := hf1 f (List.mem_of_getElem? hf)
      simp only [edD]
      infer_instance
      refine look b.dic2 hf2 (look b.dic2 hf3 ?_)
      infer_instance
      rw [b.dit1]
      infer_instance
      refine ⟨small_lt2 (by rw [esD_len]; omega), ?_⟩
      rw [show ([.inr (nK zs f.1), .inr f.2.1, .inr (nK zs f.2.2)] : List Key) = edK (nK zs f.1, f.2.1, nK zs f.2.2) from rfl, put_es]
      have b2 := b.put1 (o' := .dit (esD (insE es (nK zs f.1, f.2.1, nK zs f.2.2))))
      have l2 := insE_len (es := es) (e := (nK zs f.1, f.2.1, nK zs f.2.2))
      have n2 := insE_nodup (e := (nK zs f.1, f.2.1, nK zs f.2.2)) hnd
      have htk : ∀ g, g ∈ E.take (i + 1) ↔ g ∈ E.take i ∨ g = f := fun g => by rw [List.take_add_one, hf]; simp
      infer_instance
      by_cases hst : f.1 = state
      · rw [if_pos (by simpa using hst)]
        and_intros
        refine look b2.dic2 hf3 ?_
        and_intros
        rw [b2.dit1]
        and_intros
        refine ⟨small_lt2 (by rw [esD_len]; omega), ?_⟩
        rw [show ([.inr place, .inr f.2.1, .inr (nK zs f.2.2)] : List Key) = edK (place, f.2.1, nK zs f.2.2) from rfl, put_es]
        have l3 := insE_len (es := insE es (nK zs f.1, f.2.1, nK zs f.2.2)) (e := (place, f.2.1, nK zs f.2.2))
        refine hN _ _ _ rfl ⟨_, _, _, _, rfl, b2.put1, insE_nodup n2, by omega, fun e => ?_⟩
        rw [insE_mem, insE_mem, hes e]
        constructor
        · rintro ((h | h) | h)
          · rcases h with ⟨g, hg, e1⟩ | ⟨g, hg, e1⟩
            · exact .inl ⟨g, (htk g).mpr (.inl hg), e1⟩
            · exact .inr ⟨g, (htk g).mpr (.inl hg), e1⟩
          · exact .inl ⟨f, (htk f).mpr (.inr rfl), h⟩
          · exact .inr ⟨f, (htk f).mpr (.inr rfl), hst, h⟩
        · rintro (⟨g, hg, e1⟩ | ⟨g, hg, e1⟩)
          · rcases (htk g).mp hg with hg | rfl
            · exact .inl (.inl (.inl ⟨g, hg, e1⟩))
            · exact .inl (.inr e1)
          · rcases (htk g).mp hg with hg | rfl
            · exact .inl (.inl (.inr ⟨g, hg, e1⟩))
            · exact .inr e1.2
      · rw [if_neg (by simpa using hst)]
        and_intros
        refine hN _ _ _ rfl ⟨_, _, _, _, rfl, b2, n2, by omega, fun e => ?_⟩
        rw [insE_mem, hes e]
        constructor
        · rintro (h | h)
          · rcases h with ⟨g, hg, e1⟩ | ⟨g, hg, e1⟩
            · exact .inl ⟨g, (htk g).mpr (.inl hg), e1⟩
            · exact .inr ⟨g, (htk g).mpr (.inl hg), e1⟩
          · exact .inl ⟨f, (htk f).mpr (.inr rfl), h⟩
        · rintro (⟨g, hg, e1⟩ | ⟨g, hg, e1⟩)
          · rcases (htk g).mp hg with hg | rfl
            · exact .inl (.inl ⟨g, hg, e1⟩)
            · exact .inr e1
          · rcases (htk g).mp hg with hg | rfl
            · exact .inl (.inr ⟨g, hg, e1⟩)
            · exact absurd e1.1 hst
    obtain ⟨x5, x6, x7, es, rfl, b, hnd, hle, hes⟩ := hI
    rw [List.length_map] at hle hes
    rw [List.take_length] at hes
    have hfz : ∀ s ∈ F, s ∈ zs := fun s hs => (Z.m s).mpr (.inr hs)
    infer_instance
    refine lcW_fun (l := F) D.str (fun s => D.str (nK zs s)) (small_line2 (by omega)) trivial (fun s hs N F' h' => ?_) ?_
    · infer_instance
      refine look b.dic2 (hfz s hs) ?_
      exact h'
    intro w hw
    rw [show (F.map fun s => D.str (nK zs s)) = (F.map (nK zs)).map D.str by rw [List.map_map]; rfl]
    have b3 := b.new (p := w) (o := .lst ((F.map (nK zs)).map D.str)) hw
    have hn0 : (F.map (nK zs)).Nodup := List.pairwise_map.mpr (g.fn.imp_of_mem fun ha hb hne e => hne (nK_inj (hfz _ ha) (hfz _ hb) e))
    infer_instance
    refine seqS [] (fun vs M3 => ∃ F2 : List Str, vs = [] ∧ Px M' [(w, .lst (F2.map D.str)), (q, .dit (esD es)), (p, .dic (zs.map fun s => ((.inr s : Key), D.str (nK zs s))))] M3 ∧ F2.Nodup ∧ F2.length ≤ F.length + 1 ∧ ∀ z, z ∈ F2 ↔ (∃ s ∈ F, z = nK zs s) ∨ (z = place ∧ state ∈ F)) (fun N1 hN1 => ?_) fun vs M4 hJ => ?_
    · and_intros
      refine inR_strS (l := F) rfl ?_
      and_intros
      have hmF : ∀ z, z ∈ F.map (nK zs) ↔ ∃ s ∈ F, z = nK zs s := fun z => by
        rw [List.mem_map]
        exact ⟨fun ⟨s, h, e⟩ => ⟨s, h, e.symm⟩, fun ⟨s, h, e⟩ => ⟨s, h, e.symm⟩⟩
      by_cases hst : state ∈ F
      · rw [if_pos (by simpa using hst)]
        refine ⟨small_lt2 (by omega), ?_⟩
        have b4 := b.new (p := w) (o := .lst ((F.map (nK zs) ++ [place]).map D.str)) hw
        rw [show (F.map (nK zs)).map D.str ++ [D.str place] = (F.map (nK zs) ++ [place]).map D.str by rw [List.map_append]; rfl]
        refine hN1 _ _ _ rfl ⟨F.map (nK zs) ++ [place], rfl, b4, ?_, by simp, fun z => ?_⟩
        · rw [List.nodup_append]
          refine ⟨hn0, by simp, fun a ha c hc e => ?_⟩
          obtain ⟨s, _, rfl⟩ := List.mem_map.mp ha
          rw [List.mem_singleton.mp hc] at e
          exact absurd e.symm (name_fig hp2)
        · rw [List.mem_append, hmF, List.mem_singleton]
          exact ⟨fun h => h.imp id fun e => ⟨e, hst⟩, fun h => h.imp id fun e => e.1⟩
      · rw [if_neg (by simpa using hst)]
        refine hN1 _ _ _ rfl ⟨F.map (nK zs), rfl, b3, hn0, by simp, fun z => ?_⟩
        rw [hmF]
        exact ⟨fun h => .inl h, fun h => h.resolve_right fun e => hst e.2⟩
    obtain ⟨F2, rfl, b4, hn2, hl2, hF2⟩ := hJ
    infer_instance
    rw [b4.dit2, b4.lst1]
    infer_instance
    rw [keys_es, sortD_eds]
    refine ⟨sortOk_ed, sortOk_str, ?_⟩
    rw [sortD_strs]
    refine Shr.of (k zs (sortE es) (sortS F2) Z ⟨fun e => sortE_mem.trans (hes e), fun z => sortS_mem.trans (hF2 z), risE_of ((sortE_perm _).nodup_iff.mpr hnd) ⟨es, rfl⟩, risS_of (sortS_ris hn2), by rw [sortE_len]; exact hle, by rw [sortS_len]; exact hl2⟩) b4.ex
/-- a machine of sixteen numbers, at most one edge from each state by each mark -/
def sp__law_wide : DSp := fun ds M R => ∃ (d : Addr) (ps ms : List Str), ds = [.ref d, .lst (ps.map D.str), .lst (ms.map D.str)] ∧ ps.length ≤ 3 ∧ ms.length ≤ 3 ∧ ps.Nodup ∧ (∀ s ∈ ps, NameS s) ∧ (∀ s ∈ ms, NameS s) ∧ Draws d 200 (fun x => ∃ (S : List Str) (E : List Ed) (F : List Str), x = tgtD E F ∧ MchK S ms E F) M R
theorem wide_B {M M0 : Mm} {d c : Addr} {r : Nat} {L : List (Addr × MO)} {ps ms : List Str} {R : DQ} (b : Bx d c r M0 L M) (h1 : ps.length ≤ 3) (h2 : ms.length ≤ 3) (h3 : ps.Nodup) (h4 : ∀ s ∈ ps, NameS s) (h5 : ∀ s ∈ ms, NameS s) (hr : 200 ≤ r)
    (k : ∀ (S : List Str) (E : List Ed) (F : List Str) M', MchK S ms E F → Bx d c (r - 200) M0 L M' → R (tgtD E F) M') : sp__law_wide [.ref d, .lst (ps.map D.str), .lst (ms.map D.str)] M R :=
  ⟨d, ps, ms, rfl, h1, h2, h3, h4, h5, b.draws hr fun x M' ⟨S, E, F, e, g⟩ b' => e ▸ k S E F M' g b'⟩
theorem ok__law_wide {f__law_wide f__law_draw f__law_pick : Addr} {fd__law_wide fd__law_draw fd__law_pick : FuncData} (F__law_wide : Fun K "_law_wide" "_law_wide" st__law_wide f__law_wide fd__law_wide) (G__law_draw : FnOk P w K mg base CX0 1 f__law_draw fd__law_draw ["_law_deck_here", "_law_most"] (toSp K sp__law_draw)) (g__law_draw : mg "_law_draw" = some (.ref f__law_draw)) (k__law_draw : PySem.W.keepIn K (.ref f__law_draw) = true) (b__law_draw : Binds K fd__law_draw ["_law_deck_here", "_law_most"] []) (G__law_pick : FnOk P w K mg base CX0 2 f__law_pick fd__law_pick ["_law_deck_here", "_law_some"] (toSp K sp__law_pick)) (g__law_pick : mg "_law_pick" = some (.ref f__law_pick)) (k__law_pick : PySem.W.keepIn K (.ref f__law_pick) = true) (b__law_pick : Binds K fd__law_pick ["_law_deck_here", "_law_some"] []) (z_list : mg "list" = none) (z_range : mg "range" = none) (z_str : mg "str" = none) (z_tuple : mg "tuple" = none) (z_sorted : mg "sorted" = none) : FnOk P w K mg base CX0 3 f__law_wide fd__law_wide ["_law_deck_here", "_law_places", "_law_marks"] (toSp K sp__law_wide) := by
  refine fn_ok (k := 2) F__law_wide sc__law_wide (fun ds M R h => ?_) (fun cdv A outer s H E hr => ⟨_, (jb_cons (js_set (i := 3) sc__law_wide.nd (je_add (je_frz (jl_list z_list (ja_cons (jv 1) ja_nil))) (je_frz (jl_lc rfl sc__law_wide.nd (jlc (ji_rng1 (by rfl) z_range je_int) (blkOk_by (own := [("_law_k", 7)]) (N := N__law_wide) (sc := defScope st__law_wide) (by decide +kernel)) (fun _ _ _ _ _ => (jgv_name (i := 7) sc__law_wide.nd (by decide))) (fun _ _ _ _ _ => jts_nil) (fun _ _ _ _ _ => (je_str1 z_str (ja_cons (jv 7) ja_nil))))))))
      (jb_cons (js_set (i := 4) sc__law_wide.nd (je_fresh (jl_disp ja_nil)))
      (jb_cons (js_for PassesOwn.never rfl (ji_any (jv 3)) (jg_name (i := 5) sc__law_wide.nd) (jb_one (js_expr (je_extendA (jv 4) (je_frz (jl_lc rfl sc__law_wide.nd (jlc (ji_any (jv 2)) (blkOk_by (own := [("_law_mark", 8)]) (N := N__law_wide) (sc := defScope st__law_wide) (by decide +kernel)) (fun _ _ _ _ _ => (jgv_name (i := 8) sc__law_wide.nd (by decide))) (fun _ _ _ _ _ => (jts_one (jt_gt (je_call G__law_draw (hr.mono (by decide)) (by rfl) g__law_draw k__law_draw b__law_draw (ja_cons (jv 0) (ja_cons je_int ja_nil))) je_int))) (fun _ _ _ _ _ => (je_tup (ja_cons (jv 5) (ja_cons (jv 8) (ja_cons (je_call G__law_pick (hr.mono (by decide)) (by rfl) g__law_pick k__law_pick b__law_pick (ja_cons (jv 0) (ja_cons (jv 3) ja_nil))) ja_nil))))))))))))
      (jb_cons (js_setLcF (i := 6) rfl sc__law_wide.nd (jlc (ji_any (jv 3)) (blkOk_by (own := [("_law_state", 5)]) (N := N__law_wide) (sc := defScope st__law_wide) (by decide +kernel)) (fun _ _ _ _ _ => (jgv_name (i := 5) sc__law_wide.nd (by decide))) (fun _ _ _ _ _ => (jts_one (jt_eq hr (je_call G__law_draw (hr.mono (by decide)) (by rfl) g__law_draw k__law_draw b__law_draw (ja_cons (jv 0) (ja_cons je_int ja_nil))) je_int))) (fun _ _ _ _ _ => (jv 5))) (sw_true rfl rfl rfl (by decide +kernel)))
      (jb_one (js_ret (je_tup (ja_cons (je_tuple z_tuple (ja_cons (je_frz (jl_sorted hr z_sorted (ja_cons (jv 4) ja_nil))) ja_nil)) (ja_cons (je_tuple z_tuple (ja_cons (je_frz (jl_sorted hr z_sorted (ja_cons (jv 6) ja_nil))) ja_nil)) ja_nil))))))))), fun ds M R h => ?_⟩)
  · unfold sp__law_wide at h
    first | (obtain ⟨rfl, _⟩ := h; rfl) | (obtain ⟨_, rfl, _⟩ := h; rfl) | (obtain ⟨_, _, rfl, _⟩ := h; rfl) | (obtain ⟨_, _, _, rfl, _⟩ := h; rfl) | (obtain ⟨_, _, _, _, rfl, _⟩ := h; rfl) | (obtain ⟨_, _, _, _, _, rfl, _⟩ := h; rfl) | (obtain ⟨_, _, _, _, _, _, rfl, _⟩ := h; rfl) | (obtain ⟨_, _, _, _, _, _, _, rfl, _⟩ := h; rfl) | (obtain ⟨_, _, _, _, _, _, _, _, rfl, _⟩ := h; rfl) | (obtain ⟨_, _, _, _, _, _, _, _, _, rfl, _⟩ := h; rfl) | (obtain ⟨_, _, _, _, _, _, _, _, _, _, rfl, _⟩ := h; rfl) | (split at h <;> first | rfl | exact h.elim)
  · unfold sp__law_wide at h
    obtain ⟨d, ps, ms, rfl, hpl, hml, hpd, hpn, hmn, c, r, D0, k⟩ := h
    have b0 := Bx.start D0
    simp_all only [N__law_wide]
    infer_instance
    refine lcW_fun (l := List.range 16) (fun (i : Nat) => D.int (0 + (i : Int))) (fun k => D.str (dgS k)) (by decide) trivial (fun i hi N F h' => ?_) ?_
    · have hi2 := List.mem_range.mp hi
      infer_instance
      refine ⟨log2_lt (by decide) (Nat.lt_of_le_of_lt (show (i : Int).natAbs ≤ 16 by omega) (by decide)), ?_⟩
      exact h'
    refine ⟨small_line2 (by rw [List.length_map, List.length_range]; omega), ?_⟩
    rw [show (List.range 16).map (fun k => D.str (dgS k)) = ((List.range 16).map dgS).map D.str by rw [List.map_map]; rfl, ← List.map_append]
    have hS : (ps ++ (List.range 16).map dgS).Nodup := by
      rw [List.nodup_append]
      refine ⟨hpd, nodup_map (fun a b e => dgS_inj e) List.nodup_range, fun a ha b hb e => ?_⟩
      obtain ⟨k, _, rfl⟩ := List.mem_map.mp hb
      exact name_fig (hpn a ha) e
    have hSl : (ps ++ (List.range 16).map dgS).length ≤ 19 := by rw [List.length_append, List.length_map, List.length_range]; omega
    have hS0 : ps ++ (List.range 16).map dgS ≠ [] := by simp
    have hSw : ∀ s ∈ ps ++ (List.range 16).map dgS, s.length ≤ 8 := fun s hs => by
      rcases List.mem_append.mp hs with h | h
      · exact (hpn s h).len8
      · obtain ⟨k, hk, rfl⟩ := List.mem_map.mp h
        exact Nat.le_trans (dgS_len ⟨k, by have := List.mem_range.mp hk; omega⟩) (by decide)
    generalize ps ++ (List.range 16).map dgS = S at hS hSl hS0 hSw ⊢
    infer_instance
    intro p hp
    have b1 := b0.new (p := p) (o := .lst []) hp
    infer_instance
    refine forS [5] (fun i vs M' => ∃ x5, ∃ es : List Ed, vs = [x5] ∧ Bx d c (r + 200 - 7 * i) M [(p, .lst (es.map edD))] M' ∧ es.length ≤ 3 * i ∧ ∀ e ∈ es, e.1 ∈ S ∧ e.2.1 ∈ ms ∧ e.2.2 ∈ S) (fun _ _ _ _ => trivial) (fun i x N e hN vs M' hI => ?_) (fun vs M' hI => ?_) ⟨_, [], rfl, b1.mono (by omega), by simp, by simp⟩
    · obtain ⟨x5, es, rfl, b2, hel, hes⟩ := hI
      rw [List.getElem?_map] at e
      obtain ⟨s, hs, rfl⟩ := Option.map_eq_some_iff.mp e
      have hi := (List.getElem?_eq_some_iff.mp hs).1
      have hsm := List.mem_of_getElem? hs
      infer_instance
      refine ⟨by rw [b2.lst1]; rfl, ?_⟩
      refine lcW_B 2 (fun y => ∃ f : Ed, (f.1 ∈ S ∧ f.2.1 ∈ ms ∧ f.2.2 ∈ S) ∧ y = edD f) (small_line2 (by rw [List.length_map]; omega)) b2 (by rw [List.length_map]; omega) (fun _ _ _ => trivial) (fun x hx n' M5 N' F b5 hN' hF => ?_) fun ys M5 hyl hys b6 => ?_
      · obtain ⟨m, hm, rfl⟩ := List.mem_map.mp hx
        infer_instance
        refine draw_B b5 (by omega) (by omega) (by omega) fun u M6 u0 u1 b7 => ?_
        infer_instance
        refine ifs (fun _ => ?_) (fun _ => hF _ (b7.mono (by omega)))
        infer_instance
        refine pick_BL b7 (by omega) hS0 (by omega) fun t ht M7 b8 => ?_
        infer_instance
        exact hN' _ _ ⟨(s, m, t), ⟨hsm, hm, ht⟩, rfl⟩ (b8.mono (by omega))
      obtain ⟨fs, rfl, hfs, hfl⟩ := all_map edD _ hys
      rw [List.length_map] at hyl b6
      rw [List.length_map] at hfl
      refine ext_go b6.lst1 rfl (small_line2 (by simp only [List.length_map] at *; omega)) ?_
      refine hN _ _ _ rfl ⟨_, es ++ fs, rfl, ?_, by rw [List.length_append]; simp only [List.length_map] at *; omega, fun f hf => ?_⟩
      · have := b6.put1 (o' := .lst (es.map edD ++ fs.map edD))
        rw [List.map_append]
        exact this.mono (by omega)
      · rcases List.mem_append.mp hf with h | h
        · exact hes f h
        · exact hfs f h
    obtain ⟨x5, es, rfl, b2, hel, hes⟩ := hI
    rw [List.length_map] at b2 hel
    infer_instance
    refine lcW_BS D.str 1 (l := S) (small_line2 (by omega)) b2 (by omega) (fun _ _ _ => trivial) (fun s hs n' M4 N F b6 hN hF => ?_) fun Ee M4 hsub b6 => ?_
    · infer_instance
      refine draw_B b6 (by omega) (by omega) (by omega) fun u M5 u0 u1 b7 => ?_
      infer_instance
      refine ifs (fun _ => ?_) (fun _ => ?_)
      · exact hN _ (b7.mono (by omega))
      · exact hF _ (b7.mono (by omega))
    have hl := hsub.length_le
    infer_instance
    rw [b6.lst1]
    infer_instance
    refine ⟨sortOk_ed, sortOk_str, ?_⟩
    rw [sortD_eds, sortD_strs]
    refine b6.done k ⟨S, sortE es, sortS Ee, rfl, ⟨by rw [sortE_len]; omega, by rw [sortS_len]; omega, ris_nd (sortS_ris (hsub.nodup hS)), fun e he => hes e (sortE_mem.mp he), fun s hs => hsub.subset (sortS_mem.mp hs), hSl, hSw, hmn⟩⟩ (by omega)
/-- whether one of some states is an end -/
def sp__law_ends : DSp := fun ds M R => ∃ (E : D) (F h : List Str) (x : D), ds = [.tup [E, .tup (F.map .str)], x] ∧ (x = .tup (h.map .str) ∨ x = .lst (h.map .str) ∨ ∃ p, x = .ref p ∧ lstOf M p = some (h.map .str)) ∧ h.length ≤ 1000 ∧ R (.bl (h.any fun s => decide (s ∈ F))) M
theorem lends_go {M : Mm} {R : DQ} {E : D} {F h : List Str} (h1 : h.length ≤ 1000) (k : R (.bl (h.any fun s => decide (s ∈ F))) M) : sp__law_ends [.tup [E, .tup (F.map .str)], .tup (h.map .str)] M R := ⟨E, F, h, _, rfl, .inl rfl, h1, k⟩
theorem lends_goL {M : Mm} {R : DQ} {E : D} {F h : List Str} {p : Addr} (e : lstOf M p = some (h.map .str)) (h1 : h.length ≤ 1000) (k : R (.bl (h.any fun s => decide (s ∈ F))) M) : sp__law_ends [.tup [E, .tup (F.map .str)], .ref p] M R := ⟨E, F, h, _, rfl, .inr (.inr ⟨p, rfl, e⟩), h1, k⟩
theorem ok__law_ends {f__law_ends : Addr} {fd__law_ends : FuncData} (F__law_ends : Fun K "_law_ends" "_law_ends" st__law_ends f__law_ends fd__law_ends) : FnOk P w K mg base CX0 1 f__law_ends fd__law_ends ["_law_machine_here", "_law_states"] (toSp K sp__law_ends) := by
  refine fn_ok (k := 0) F__law_ends sc__law_ends (fun ds M R h => ?_) (fun cdv A outer s H E hr => ⟨_, (jb_one (js_ret (je_ne hr (je_frz (jl_lc rfl sc__law_ends.nd (jlc (ji_any (jv 1)) (blkOk_by (own := [("_law_one", 2)]) (N := N__law_ends) (sc := defScope st__law_ends) (by decide +kernel)) (fun _ _ _ _ _ => (jgv_name (i := 2) sc__law_ends.nd (by decide))) (fun _ _ _ _ _ => (jts_one (jt_in hr (jv 2) (je_ix (jv 0) je_int)))) (fun _ _ _ _ _ => (jv 2))))) (je_frz (jl_disp ja_nil))))), fun ds M R h => ?_⟩)
  · unfold sp__law_ends at h
    first | (obtain ⟨rfl, _⟩ := h; rfl) | (obtain ⟨_, rfl, _⟩ := h; rfl) | (obtain ⟨_, _, rfl, _⟩ := h; rfl) | (obtain ⟨_, _, _, rfl, _⟩ := h; rfl) | (obtain ⟨_, _, _, _, rfl, _⟩ := h; rfl) | (obtain ⟨_, _, _, _, _, rfl, _⟩ := h; rfl) | (obtain ⟨_, _, _, _, _, _, rfl, _⟩ := h; rfl) | (obtain ⟨_, _, _, _, _, _, _, rfl, _⟩ := h; rfl) | (obtain ⟨_, _, _, _, _, _, _, _, rfl, _⟩ := h; rfl) | (obtain ⟨_, _, _, _, _, _, _, _, _, rfl, _⟩ := h; rfl) | (obtain ⟨_, _, _, _, _, _, _, _, _, _, rfl, _⟩ := h; rfl) | (split at h <;> first | rfl | exact h.elim)
  · unfold sp__law_ends at h
    obtain ⟨E, F, hs, x, rfl, hx, hl, k⟩ := h
    have hk := Shr.all k
    simp_all only [N__law_ends]
    rcases hx with rfl | rfl | ⟨p, rfl, hp⟩
    · and_intros
      refine lcW_filter (l := hs) D.str (fun s => decide (s ∈ F)) D.str (small_line2 (by omega)) trivial (fun s hs' N FF g1 g2 => ?_) ?_
      · and_intros
        refine inR_strS (l := F) rfl ?_
        and_intros
        refine ifs (fun h => g1 h) (fun h => g2 (by simpa using h))
      refine ⟨⟨pureDs_str _, Nat.le_trans (depDs_str _) (by decide)⟩, ?_⟩
      have e : (!((hs.filter fun s => decide (s ∈ F)).map D.str).isEmpty) = hs.any fun s => decide (s ∈ F) := by
        rw [List.isEmpty_map, Bool.eq_iff_iff, List.any_eq_true]
        simp only [Bool.not_eq_true', List.isEmpty_eq_false_iff_exists_mem, List.mem_filter]
      rw [e]
      exact hk
    · and_intros
      refine lcW_filter (l := hs) D.str (fun s => decide (s ∈ F)) D.str (small_line2 (by omega)) trivial (fun s hs' N FF g1 g2 => ?_) ?_
      · and_intros
        refine inR_strS (l := F) rfl ?_
        and_intros
        refine ifs (fun h => g1 h) (fun h => g2 (by simpa using h))
      refine ⟨⟨pureDs_str _, Nat.le_trans (depDs_str _) (by decide)⟩, ?_⟩
      have e : (!((hs.filter fun s => decide (s ∈ F)).map D.str).isEmpty) = hs.any fun s => decide (s ∈ F) := by
        rw [List.isEmpty_map, Bool.eq_iff_iff, List.any_eq_true]
        simp only [Bool.not_eq_true', List.isEmpty_eq_false_iff_exists_mem, List.mem_filter]
      rw [e]
      exact hk
    · and_intros
      rw [hp]
      and_intros
      refine lcW_filter (l := hs) D.str (fun s => decide (s ∈ F)) D.str (small_line2 (by omega)) hp (fun s hs' N FF g1 g2 => ?_) ?_
      · and_intros
        refine inR_strS (l := F) rfl ?_
        and_intros
        refine ifs (fun h => g1 h) (fun h => g2 (by simpa using h))
      refine ⟨⟨pureDs_str _, Nat.le_trans (depDs_str _) (by decide)⟩, ?_⟩
      have e : (!((hs.filter fun s => decide (s ∈ F)).map D.str).isEmpty) = hs.any fun s => decide (s ∈ F) := by
        rw [List.isEmpty_map, Bool.eq_iff_iff, List.any_eq_true]
        simp only [Bool.not_eq_true', List.isEmpty_eq_false_iff_exists_mem, List.mem_filter]
      rw [e]
      exact hk
/-- where edges of a mark lead from some states -/
def sp__law_on : DSp := fun ds M R => ∃ (E : List Ed) (F : D) (h : List Str) (m : Str), ds = [.tup [.tup (E.map edD), F], .tup (h.map .str), .str m] ∧ E.length ≤ 1000 ∧ h.length ≤ 1000 ∧ R (.tup ((onF E h m).map .str)) M
theorem lon_go {M : Mm} {R : DQ} {E : List Ed} {F : D} {h : List Str} {m : Str} (h1 : E.length ≤ 1000) (h2 : h.length ≤ 1000) (k : R (.tup ((onF E h m).map .str)) M) : sp__law_on [.tup [.tup (E.map edD), F], .tup (h.map .str), .str m] M R := ⟨E, F, h, m, rfl, h1, h2, k⟩
theorem ok__law_on {f__law_on : Addr} {fd__law_on : FuncData} (F__law_on : Fun K "_law_on" "_law_on" st__law_on f__law_on fd__law_on) (z_tuple : mg "tuple" = none) (z_sorted : mg "sorted" = none) (z_set : mg "set" = none) : FnOk P w K mg base CX0 1 f__law_on fd__law_on ["_law_machine_here", "_law_states", "_law_mark"] (toSp K sp__law_on) := by
  refine fn_ok (k := 0) F__law_on sc__law_on (fun ds M R h => ?_) (fun cdv A outer s H E hr => ⟨_, (jb_one (js_ret (je_tuple z_tuple (ja_cons (je_frz (jl_sortSet rfl hr z_sorted z_set (je_frz (jl_lc rfl sc__law_on.nd (jlc (ji_any (je_ix (jv 0) je_int)) (blkOk_by (own := [("_law_s", 3), ("_law_a", 4), ("_law_t", 5)]) (N := N__law_on) (sc := defScope st__law_on) (by decide +kernel)) (fun _ _ _ _ _ => (jgv_tup (n := 3) rfl (jgvs_cons (jgv_name (i := 3) sc__law_on.nd (by decide)) (jgvs_cons (jgv_name (i := 4) sc__law_on.nd (by decide)) (jgvs_cons (jgv_name (i := 5) sc__law_on.nd (by decide)) jgvs_nil))))) (fun _ _ _ _ _ => (jts_one (JW.jt (jw_and (jt_in hr (jv 3) (jv 1)) (jw_and1 (jt_eq hr (jv 4) (jv 2))))))) (fun _ _ _ _ _ => (jv 5))))))) ja_nil)))), fun ds M R h => ?_⟩)
  · unfold sp__law_on at h
    first | (obtain ⟨rfl, _⟩ := h; rfl) | (obtain ⟨_, rfl, _⟩ := h; rfl) | (obtain ⟨_, _, rfl, _⟩ := h; rfl) | (obtain ⟨_, _, _, rfl, _⟩ := h; rfl) | (obtain ⟨_, _, _, _, rfl, _⟩ := h; rfl) | (obtain ⟨_, _, _, _, _, rfl, _⟩ := h; rfl) | (obtain ⟨_, _, _, _, _, _, rfl, _⟩ := h; rfl) | (obtain ⟨_, _, _, _, _, _, _, rfl, _⟩ := h; rfl) | (obtain ⟨_, _, _, _, _, _, _, _, rfl, _⟩ := h; rfl) | (obtain ⟨_, _, _, _, _, _, _, _, _, rfl, _⟩ := h; rfl) | (obtain ⟨_, _, _, _, _, _, _, _, _, _, rfl, _⟩ := h; rfl) | (split at h <;> first | rfl | exact h.elim)
  · unfold sp__law_on at h
    obtain ⟨E, F, hs, m, rfl, hE, hl, k⟩ := h
    simp_all only [N__law_on]
    and_intros
    refine lcW_filter (l := E) edD (fun e => decide (e.1 ∈ hs) && decide (e.2.1 = m)) (fun e => D.str e.2.2) (small_line2 (by omega)) trivial (fun e he N FF g1 g2 => ?_) ?_
    · simp only [edD]
      and_intros
      refine inR_strS (l := hs) rfl ?_
      and_intros
      by_cases h1 : e.1 ∈ hs
      · rw [if_pos (by simpa using h1)]
        and_intros
        by_cases h2 : e.2.1 = m
        · rw [if_pos (by simpa using h2)]
          exact g1 (by simp [h1, h2])
        · rw [if_neg (by simpa using h2)]
          exact g2 (by simp [h1, h2])
      · rw [if_neg (by simpa using h1)]
        exact g2 (by simp [h1])
    rw [show (E.filter fun e => decide (e.1 ∈ hs) && decide (e.2.1 = m)).map (fun e => D.str e.2.2) = ((E.filter fun e => decide (e.1 ∈ hs) && decide (e.2.1 = m)).map (·.2.2)).map D.str by rw [List.map_map]; rfl]
    refine sortSet_L (by
      rw [List.length_map]
      exact Nat.le_trans (List.length_filter_le _ _) (by omega)) ?_
    exact Shr.all k
theorem join_len {ws : List Str} (h1 : ws.length ≤ 19) (h2 : ∀ z ∈ ws, z.length ≤ 8) : (Txt.join (" " : Str) ws).length ≤ 1000 := by
  cases ws with
  | nil => rw [cps_len, show cps (Txt.join (" " : Str) []) = [] by rw [TL.join_eq]; rfl]; exact Nat.zero_le _
  | cons w ws =>
    have h3 := sumS_le (k := 8) (ws := ws) fun z hz => h2 z (by simp [hz])
    have h4 := h2 w (by simp)
    rw [cps_len, cps_joinS, List.length_append, fm_sum, cps_sp, List.length_singleton, Nat.mul_one, ← cps_len]
    rw [List.length_cons] at h1
    omega
def prD (w : List Str × List Str) : DM.D := .tup [.tup (w.1.map .str), .tup (w.2.map .str)]
--JNT _law_here
--JNT _law_there
/-- side by side, as far as any pile goes -/
def sp__law_alike : DSp := fun ds M R => ∃ (S ms0 : List Str) (E E2 : List Ed) (F F2 zs ms : List Str) (state place : Str), ds = [tgtD E F, .str state, tgtD E2 F2, .str place, .lst (ms.map .str)] ∧ MchK S ms0 E F ∧ Zs E F zs ∧ Beg E F zs state place E2 F2 ∧ NameS place ∧ state.length ≤ 8 ∧ ms.length ≤ 8 ∧ R (.bl true) M
theorem lalike_go {M : Mm} {R : DQ} {S ms0 : List Str} {E E2 : List Ed} {F F2 zs ms : List Str} {state place : Str} (h1 : MchK S ms0 E F) (h2 : Zs E F zs) (h3 : Beg E F zs state place E2 F2) (h4 : NameS place) (h5 : state.length ≤ 8) (h6 : ms.length ≤ 8) (k : R (.bl true) M) : sp__law_alike [tgtD E F, .str state, tgtD E2 F2, .str place, .lst (ms.map .str)] M R := ⟨S, ms0, E, E2, F, F2, zs, ms, state, place, rfl, h1, h2, h3, h4, h5, h6, k⟩
theorem ok__law_alike {f__law_alike f__law_ends f__law_on : Addr} {fd__law_alike fd__law_ends fd__law_on : FuncData} (F__law_alike : Fun K "_law_alike" "_law_alike" st__law_alike f__law_alike fd__law_alike) (G__law_ends : FnOk P w K mg base CX0 1 f__law_ends fd__law_ends ["_law_machine_here", "_law_states"] (toSp K sp__law_ends)) (g__law_ends : mg "_law_ends" = some (.ref f__law_ends)) (k__law_ends : PySem.W.keepIn K (.ref f__law_ends) = true) (b__law_ends : Binds K fd__law_ends ["_law_machine_here", "_law_states"] []) (G__law_on : FnOk P w K mg base CX0 1 f__law_on fd__law_on ["_law_machine_here", "_law_states", "_law_mark"] (toSp K sp__law_on)) (g__law_on : mg "_law_on" = some (.ref f__law_on)) (k__law_on : PySem.W.keepIn K (.ref f__law_on) = true) (b__law_on : Binds K fd__law_on ["_law_machine_here", "_law_states", "_law_mark"] []) : FnOk P w K mg base CX0 2 f__law_alike fd__law_alike ["_law_machine_here", "_law_state", "_law_told", "_law_place", "_law_marks"] (toSp K sp__law_alike) := by
  refine fn_ok (k := 1) F__law_alike sc__law_alike (fun ds M R h => ?_) (fun cdv A outer s H E hr => ⟨_, (jb_cons (js_set (i := 5) sc__law_alike.nd (je_freshD jd_empty))
      (jb_cons (js_set (i := 6) sc__law_alike.nd (je_fresh (jl_disp (ja_cons (je_tup (ja_cons (je_tup (ja_cons (jv 1) ja_nil)) (ja_cons (je_tup (ja_cons (jv 3) ja_nil)) ja_nil))) ja_nil))))
      (jb_cons (js_while PassesOwn.never (jt_ne hr (jv 6) (je_frz (jl_disp ja_nil))) (jb_cons (js_asg (je_pop0 (jv 6)) (jg_tup (n := 2) rfl (jgs_cons (jg_name (i := 7) sc__law_alike.nd) (jgs_cons (jg_name (i := 8) sc__law_alike.nd) jgs_nil)))) (jb_cons (js_set (i := 9) sc__law_alike.nd (je_add (je_add (je_joinT je_str (jv 7)) je_str) (je_joinT je_str (jv 8)))) (jb_one (js_if (jt_notin hr (jv 9) (jv 5)) (jb_cons (js_dput hr (jv 5) (jv 9) je_bl) (jb_cons (js_if (jt_ne hr (je_call G__law_ends (hr.mono (by decide)) (by rfl) g__law_ends k__law_ends b__law_ends (ja_cons (jv 0) (ja_cons (jv 7) ja_nil))) (je_call G__law_ends (hr.mono (by decide)) (by rfl) g__law_ends k__law_ends b__law_ends (ja_cons (jv 2) (ja_cons (jv 8) ja_nil)))) (jb_one (js_ret je_bl)) jb_nil) (jb_one (js_for PassesOwn.never rfl (ji_any (jv 4)) (jg_name (i := 10) sc__law_alike.nd) (jb_one (js_expr (je_append (jv 6) (je_tup (ja_cons (je_call G__law_on (hr.mono (by decide)) (by rfl) g__law_on k__law_on b__law_on (ja_cons (jv 0) (ja_cons (jv 7) (ja_cons (jv 10) ja_nil)))) (ja_cons (je_call G__law_on (hr.mono (by decide)) (by rfl) g__law_on k__law_on b__law_on (ja_cons (jv 2) (ja_cons (jv 8) (ja_cons (jv 10) ja_nil)))) ja_nil)))))))))) jb_nil)))))
      (jb_one (js_ret je_bl))))), fun ds M R h => ?_⟩)
  · unfold sp__law_alike at h
    first | (obtain ⟨rfl, _⟩ := h; rfl) | (obtain ⟨_, rfl, _⟩ := h; rfl) | (obtain ⟨_, _, rfl, _⟩ := h; rfl) | (obtain ⟨_, _, _, rfl, _⟩ := h; rfl) | (obtain ⟨_, _, _, _, rfl, _⟩ := h; rfl) | (obtain ⟨_, _, _, _, _, rfl, _⟩ := h; rfl) | (obtain ⟨_, _, _, _, _, _, rfl, _⟩ := h; rfl) | (obtain ⟨_, _, _, _, _, _, _, rfl, _⟩ := h; rfl) | (obtain ⟨_, _, _, _, _, _, _, _, rfl, _⟩ := h; rfl) | (obtain ⟨_, _, _, _, _, _, _, _, _, rfl, _⟩ := h; rfl) | (obtain ⟨_, _, _, _, _, _, _, _, _, _, rfl, _⟩ := h; rfl) | (split at h <;> first | rfl | exact h.elim)
  · unfold sp__law_alike at h
    obtain ⟨S, ms0, E, E2, F, F2, zs, ms, state, place, rfl, g, Z, B, hp, hsl, hml, k⟩ := h
    have hE := g.el
    have hF := g.fl
    have hE2 := B.el
    have hF2 := B.fl
    simp_all only [N__law_alike, tgtD]
    infer_instance
    intro p hpn
    have b0 := (Px.start (M := M)).new (p := p) (o := .dic []) hpn
    infer_instance
    intro q hqn
    have b1 := b0.new (p := q) (o := .lst [D.tup [.tup [.str state], .tup [.str place]]]) hqn
    infer_instance
    have hNl : (allN zs state place).length ≤ 524289 := allN_len Z.l
    generalize hNN : allN zs state place = NN at hNl
    have h0 : SbS zs state place [state] [place] := .inl ⟨rfl, rfl⟩
    have hu0 : unv NN [] ≤ NN.length := unv_le
    have hprod : NN.length * ms.length ≤ 524289 * 8 := Nat.mul_le_mul hNl hml
    have hprod0 : unv NN [] * ms.length ≤ NN.length * ms.length := Nat.mul_le_mul_right _ hu0
    refine whileS [7, 8, 9, 10] (fun m vs M' => ∃ x7 x8 x9 x10, ∃ (kvs : List (Key × D)) (W : List (List Str × List Str)), vs = [x7, x8, x9, x10] ∧ Px M [(q, .lst (W.map prD)), (p, .dic kvs)] M' ∧ (∀ w ∈ W, SbS zs state place w.1 w.2) ∧ unv NN kvs * (ms.length + 1) + W.length ≤ m ∧ kvs.length + unv NN kvs ≤ NN.length ∧ W.length + unv NN kvs * ms.length ≤ 1 + NN.length * ms.length)
      (unv NN [] * (ms.length + 1) + 1) (fun m N hN vs M' hI => ?_) ⟨_, _, _, _, [], [([state], [place])], rfl, b1, fun w hw => by rw [List.mem_singleton.mp hw]; exact h0, Nat.le_refl _, by simpa using hu0, by simp only [List.length_singleton]; omega⟩
    obtain ⟨x7, x8, x9, x10, kvs, W, rfl, b, hW, hm, hk1, hk2⟩ := hI
    simp_all only []
    have hpu : pureDs (W.map prD) = true := pureDs_map prD (fun w => by simp [prD, pureD, pureDs, pureDs_str]) W
    have hde : depDs (W.map prD) ≤ 99 := Nat.le_trans (depDs_map prD 9 (by decide) (fun w => by
      have h1 := depDs_str w.1
      have h2 := depDs_str w.2
      simp only [prD, depD, depDs]
      omega) W) (by decide)
    refine ne_nil_l b.lst1 hpu hde ?_
    rcases List.eq_nil_or_concat W with rfl | ⟨W0, w, rfl⟩
    · infer_instance
      exact b.fin k
    · rw [List.concat_eq_append] at *
      have hw : SbS zs state place w.1 w.2 := hW w (by simp)
      obtain ⟨z1, z2, z3, z4⟩ := hw.sz Z hsl hp
      rw [List.length_append, List.length_singleton] at hm hk2
      infer_instance
      rw [if_pos (by simp)]
      infer_instance
      refine ⟨by rw [b.lst1]; rfl, ?_⟩
      refine pop_go (xs := W0.map prD) (d := prD w) (by rw [b.lst1, List.map_append]; rfl) ?_
      have b2 := b.put1 (o' := .lst (W0.map prD))
      simp only [prD]
      infer_instance
      have e1 : (" " : Str).length = 1 := by decide
      refine join_go (ws := w.1) (k := 8) rfl z3 (by rw [e1]; omega) ?_
      infer_instance
      have j1 := join_len z1 z3
      have j2 := join_len z2 z4
      have e2 : ("|" : Str).length = 1 := by decide
      refine ⟨small_line2 (by omega), join_go (ws := w.2) (k := 8) rfl z4 (by rw [e1]; omega) ?_⟩
      infer_instance
      refine ⟨small_line2 (by rw [strLen_append]; omega), ?_⟩
      have hnm : nmT w.1 w.2 ∈ NN := by rw [← hNN]; exact hw.name Z.r
      rw [show Txt.join (" " : Str) w.1 ++ ("|" : Str) ++ Txt.join (" " : Str) w.2 = nmT w.1 w.2 from rfl]
      infer_instance
      refine notin_dic b2.dic2 ?_
      cases hv : valD kvs (.inr (nmT w.1 w.2)) with
      | some v =>
        and_intros
        exact hN (unv NN kvs * (ms.length + 1) + W0.length) _ _ _ (by omega) rfl ⟨_, _, _, _, kvs, W0, rfl, b2, fun y hy => hW y (by simp [hy]), Nat.le_refl _, hk1, by omega⟩
      | none =>
        have hu := unv_put (v := .bl true) hnm hv
        have hkl := putD_len (.inr (nmT w.1 w.2)) (.bl true) kvs
        have hm2 : (unv NN (putD kvs (.inr (nmT w.1 w.2)) (.bl true)) + 1) * (ms.length + 1) ≤ unv NN kvs * (ms.length + 1) := Nat.mul_le_mul_right _ hu
        have hm3 : (unv NN (putD kvs (.inr (nmT w.1 w.2)) (.bl true)) + 1) * ms.length ≤ unv NN kvs * ms.length := Nat.mul_le_mul_right _ hu
        rw [Nat.succ_mul] at hm2 hm3
        try simp_all only []
        rw [if_pos (show (!(none : Option D).isSome) = true from rfl)]
        infer_instance
        rw [b2.dic2]
        infer_instance
        have b3 := b2.put2 (o' := .dic (putD kvs (.inr (nmT w.1 w.2)) (.bl true)))
        generalize putD kvs (.inr (nmT w.1 w.2)) (.bl true) = kv2 at hu hkl hm2 hm3 b3 ⊢
        and_intros
        refine lends_go (F := F) (h := w.1) (by omega) ?_
        refine lends_go (F := F2) (h := w.2) (by omega) ?_
        rw [hw.ends B Z hp]
        and_intros
        refine forS [10] (fun i vs M2 => ∃ x10, ∃ W2 : List (List Str × List Str), vs = [x10] ∧ Px M [(q, .lst ((W0 ++ W2).map prD)), (p, .dic kv2)] M2 ∧ (∀ y ∈ W2, SbS zs state place y.1 y.2) ∧ W2.length = i) (fun _ _ _ _ => trivial) (fun i x N2 e hN2 vs M2 hI => ?_) (fun vs M2 hI => ?_) ⟨_, [], rfl, by rw [List.append_nil]; exact b3, by simp, rfl⟩
        · obtain ⟨x10', W2, rfl, b4, hW2, hWl⟩ := hI
          rw [List.getElem?_map] at e
          obtain ⟨a, ha, rfl⟩ := Option.map_eq_some_iff.mp e
          have hi := (List.getElem?_eq_some_iff.mp ha).1
          and_intros
          refine ⟨by rw [b4.lst1]; rfl, ?_⟩
          refine lon_go (E := E) (h := w.1) (by omega) (by omega) ?_
          refine lon_go (E := E2) (h := w.2) (by omega) (by omega) ?_
          refine append_go b4.lst1 (by rw [List.length_map, List.length_append]; exact small_lt2 (by omega)) ?_
          refine hN2 _ _ _ rfl ⟨_, W2 ++ [(onF E w.1 a, onF E2 w.2 a)], rfl, ?_, fun y hy => ?_, by simp [hWl]⟩
          · have := b4.put1 (o' := .lst ((W0 ++ W2).map prD ++ [prD (onF E w.1 a, onF E2 w.2 a)]))
            rw [← List.append_assoc, List.map_append]
            exact this
          · rcases List.mem_append.mp hy with hy | hy
            · exact hW2 y hy
            · rw [List.mem_singleton.mp hy]; exact hw.on B Z hp a
        · obtain ⟨x10', W2, rfl, b4, hW2, hWl⟩ := hI
          rw [List.length_map] at hWl
          refine hN (unv NN kv2 * (ms.length + 1) + (W0 ++ W2).length) _ _ _ (by rw [List.length_append]; omega) rfl ⟨_, _, _, _, kv2, W0 ++ W2, rfl, b4, fun y hy => ?_, Nat.le_refl _, by omega, by rw [List.length_append]; omega⟩
          rcases List.mem_append.mp hy with hy | hy
          · exact hW y (by simp [hy])
          · exact hW2 y hy
--TSO _law_some
/-- whether edges, or texts, rise -/
def sp__law_rises : DSp := fun ds M R => ∃ x, ds = [x] ∧ ((∃ E : List Ed, x = .tup (E.map edD) ∧ E.length ≤ 3000 ∧ R (.bl (risB leE E)) M) ∨ ∃ F : List Str, x = .tup (F.map .str) ∧ F.length ≤ 3000 ∧ R (.bl (risB leS F)) M)
theorem lrisesE_go {M : Mm} {R : DQ} {E : List Ed} (h : E.length ≤ 3000) (k : R (.bl (risB leE E)) M) : sp__law_rises [.tup (E.map edD)] M R := ⟨_, rfl, .inl ⟨E, rfl, h, k⟩⟩
theorem lrisesS_go {M : Mm} {R : DQ} {F : List Str} (h : F.length ≤ 3000) (k : R (.bl (risB leS F)) M) : sp__law_rises [.tup (F.map .str)] M R := ⟨_, rfl, .inr ⟨F, rfl, h, k⟩⟩
theorem ok__law_rises {f__law_rises : Addr} {fd__law_rises : FuncData} (F__law_rises : Fun K "_law_rises" "_law_rises" st__law_rises f__law_rises fd__law_rises) (z_list : mg "list" = none) (z_sorted : mg "sorted" = none) (z_set : mg "set" = none) : FnOk P w K mg base CX0 1 f__law_rises fd__law_rises ["_law_some"] (toSp K sp__law_rises) := by
  refine fn_ok (k := 0) F__law_rises sc__law_rises (fun ds M R h => ?_) (fun cdv A outer s H E hr => ⟨_, (jb_one (js_ret (je_eq hr (je_frz (jl_list z_list (ja_cons (jv 0) ja_nil))) (je_frz (jl_or (jl_sortSetT rfl hr z_sorted z_set (jv 0)) (jl_sortSet rfl hr z_sorted z_set (jv 0))))))), fun ds M R h => ?_⟩)
  · unfold sp__law_rises at h
    first | (obtain ⟨rfl, _⟩ := h; rfl) | (obtain ⟨_, rfl, _⟩ := h; rfl) | (obtain ⟨_, _, rfl, _⟩ := h; rfl) | (obtain ⟨_, _, _, rfl, _⟩ := h; rfl) | (obtain ⟨_, _, _, _, rfl, _⟩ := h; rfl) | (obtain ⟨_, _, _, _, _, rfl, _⟩ := h; rfl) | (obtain ⟨_, _, _, _, _, _, rfl, _⟩ := h; rfl) | (obtain ⟨_, _, _, _, _, _, _, rfl, _⟩ := h; rfl) | (obtain ⟨_, _, _, _, _, _, _, _, rfl, _⟩ := h; rfl) | (obtain ⟨_, _, _, _, _, _, _, _, _, rfl, _⟩ := h; rfl) | (obtain ⟨_, _, _, _, _, _, _, _, _, _, rfl, _⟩ := h; rfl) | (split at h <;> first | rfl | exact h.elim)
  · unfold sp__law_rises at h
    obtain ⟨x, rfl, h⟩ := h
    simp_all only [N__law_rises]
    rcases h with ⟨E, rfl, hl, k⟩ | ⟨F, rfl, hl, k⟩
    · and_intros
      refine dOrL_l ?_
      and_intros
      refine sortSetT_go (T := E) rfl (by omega) ?_
      refine ⟨⟨⟨pu_eds, Nat.le_trans dep_eds (by decide)⟩, pu_eds, Nat.le_trans dep_eds (by decide)⟩, ?_⟩
      rw [eqvDs_eds, show decide (E = riseE E) = risB leE E by rw [Bool.eq_iff_iff, decide_eq_true_eq, riseE_fix]]
      exact Shr.all k
    · and_intros
      refine dOrL_r ?_
      and_intros
      refine sortSet_go (l := F) rfl (by omega) ?_
      refine ⟨⟨pureDs_str _, Nat.le_trans (depDs_str _) (by decide)⟩, ?_⟩
      rw [eqvDs_strs, show decide (F = rise F) = risB leS F by rw [Bool.eq_iff_iff, decide_eq_true_eq, rise_fix]]
      exact Shr.all k
theorem first_dig {z : Str} (h : cps z ≠ []) (ha : ((cps z).all fun c => inStr ⟨#[c]⟩ sgnS) = true) : inStr (sgn0 z) letS = !inStr (sgn0 z) ("0123456789" : Str) := by
  obtain ⟨c, r, e⟩ := List.exists_cons_of_ne_nil h
  have hc : inStr ⟨#[c]⟩ sgnS = true := List.all_eq_true.mp ha c (by rw [e]; simp)
  rw [in_sgn, decide_eq_true_eq] at hc
  have key : ∀ c ∈ sgns, inStr ⟨#[c]⟩ letS = !inStr ⟨#[c]⟩ ("0123456789" : Str) := by decide +kernel
  have := key c hc
  unfold sgn0
  rw [e]
  exact this
/-- whether anything is a name -/
def sp__law_is_name : DSp := fun ds M R => ∃ x, ds = [x] ∧ KnD x ∧ SmT x ∧ R (.bl (nameD x)) M
theorem lname_go {M : Mm} {R : DQ} {x : D} (h : KnD x) (h2 : SmT x) (k : R (.bl (nameD x)) M) : sp__law_is_name [x] M R := ⟨x, rfl, h, h2, k⟩
theorem ok__law_is_name {f__law_is_name : Addr} {fd__law_is_name : FuncData} (F__law_is_name : Fun K "_law_is_name" "_law_is_name" st__law_is_name f__law_is_name fd__law_is_name) (z_len : mg "len" = none) (z_isinstance : mg "isinstance" = none) (z_str : mg "str" = none) : FnOk P w K mg base CX0 1 f__law_is_name fd__law_is_name ["_law_thing"] (toSp K sp__law_is_name) := by
  refine fn_ok (k := 0) F__law_is_name sc__law_is_name (fun ds M R h => ?_) (fun cdv A outer s H E hr => ⟨_, (jb_cons (js_if (JW.jt (jw_or (jt_not (jt_val (je_isi z_isinstance (ja_cons (jv 0) (ja_cons (je_ty (by rfl) z_str PyProof.Rows.boot_str) ja_nil))))) (jw_or (jt_not (jt_chain op_le op_le l_le l_le je_int (je_len z_len (ja_cons (jv 0) ja_nil)) je_int)) (jw_or1 (jt_in hr (je_ix (jv 0) je_int) je_str))))) (jb_one (js_ret je_bl)) jb_nil)
      (jb_one (js_ret (je_eq hr (je_frz (jl_lc rfl sc__law_is_name.nd (jlc (ji_any (jv 0)) (blkOk_by (own := [("_law_sign", 1)]) (N := N__law_is_name) (sc := defScope st__law_is_name) (by decide +kernel)) (fun _ _ _ _ _ => (jgv_name (i := 1) sc__law_is_name.nd (by decide))) (fun _ _ _ _ _ => (jts_one (jt_notin hr (jv 1) je_str))) (fun _ _ _ _ _ => (jv 1))))) (je_frz (jl_disp ja_nil)))))), fun ds M R h => ?_⟩)
  · unfold sp__law_is_name at h
    first | (obtain ⟨rfl, _⟩ := h; rfl) | (obtain ⟨_, rfl, _⟩ := h; rfl) | (obtain ⟨_, _, rfl, _⟩ := h; rfl) | (obtain ⟨_, _, _, rfl, _⟩ := h; rfl) | (obtain ⟨_, _, _, _, rfl, _⟩ := h; rfl) | (obtain ⟨_, _, _, _, _, rfl, _⟩ := h; rfl) | (obtain ⟨_, _, _, _, _, _, rfl, _⟩ := h; rfl) | (obtain ⟨_, _, _, _, _, _, _, rfl, _⟩ := h; rfl) | (obtain ⟨_, _, _, _, _, _, _, _, rfl, _⟩ := h; rfl) | (obtain ⟨_, _, _, _, _, _, _, _, _, rfl, _⟩ := h; rfl) | (obtain ⟨_, _, _, _, _, _, _, _, _, _, rfl, _⟩ := h; rfl) | (split at h <;> first | rfl | exact h.elim)
  · unfold sp__law_is_name at h
    obtain ⟨x, rfl, hk, hs, k⟩ := h
    simp_all only [N__law_is_name]
    cases x with
    | str z =>
      have hz := hs z rfl
      simp only [nameD, nameB] at k
      and_intros
      by_cases h1 : 1 ≤ z.length
      · rw [if_pos (by simp; omega)]
        by_cases h8 : z.length ≤ 8
        · rw [if_neg (by simp; omega)]
          have h0 : cps z ≠ [] := fun e => by rw [cps_len, e] at h1; simp at h1
          refine ix_s (c := (cps z).headD 0) (by omega) (by cases e : cps z with | nil => exact absurd e h0 | cons c r => rfl) (small_line2 (by omega)) ?_
          and_intros
          rw [inR_tt]
          simp only [h1, h8, decide_true, Bool.true_and] at k
          have k : R (.bl (inStr (sgn0 z) letS && (cps z).all fun c => inStr ⟨#[c]⟩ sgnS)) M := k
          and_intros
          have go : ∀ {b : Bool}, ((cps z).all fun c => inStr ⟨#[c]⟩ sgnS) = b → R (.bl (inStr (sgn0 z) letS && b)) M := fun h => h ▸ k
          cases hl : inStr (sgn0 z) ("0123456789" : Str) with
          | true =>
            rw [if_pos (show inStr ⟨#[(cps z).headD 0]⟩ (Str.ofString "0123456789") = true from hl)]
            cases ha : ((cps z).all fun c => inStr ⟨#[c]⟩ sgnS) with
            | false => have := go ha; rw [Bool.and_false] at this; exact Shr.all this
            | true => have := go ha; rw [first_dig h0 ha, hl] at this; exact Shr.all this
          | false =>
            rw [if_neg (by rw [show inStr ⟨#[(cps z).headD 0]⟩ (Str.ofString "0123456789") = false from hl]; simp)]
            and_intros
            unfold DM.signs
            refine lcW_filter (l := z.cps.toList) (fun c => D.str ⟨#[c]⟩) (fun c => !inStr ⟨#[c]⟩ sgnS) (fun c => D.str ⟨#[c]⟩) (small_line2 (by rw [cps_len] at hz; exact Nat.le_trans hz (by decide))) trivial (fun c hc N F g1 g2 => ?_) ?_
            · and_intros
              rw [notInR_tt]
              and_intros
              refine ifs (fun h => g1 h) (fun h => g2 (by simpa using h))
            rw [show ((z.cps.toList.filter fun c => !inStr ⟨#[c]⟩ sgnS).map fun c => D.str ⟨#[c]⟩) = ((z.cps.toList.filter fun c => !inStr ⟨#[c]⟩ sgnS).map fun c => (⟨#[c]⟩ : Str)).map D.str by rw [List.map_map]; rfl]
            refine ⟨strs_okF, ?_⟩
            rw [List.isEmpty_map, List.isEmpty_map, filter_notp]
            cases ha : ((cps z).all fun c => inStr ⟨#[c]⟩ sgnS) with
            | false =>
              have := go ha
              rw [Bool.and_false] at this
              exact Shr.all this
            | true =>
              have := go ha
              rw [first_dig h0 ha, hl] at this
              exact Shr.all this
        · rw [if_pos (by simp; omega)]
          simp only [h8, decide_false, Bool.false_and, Bool.and_false] at k
          exact Shr.all k
      · rw [if_neg (by simp; omega)]
        simp only [h1, decide_false, Bool.false_and] at k
        exact Shr.all k
    | ref _ => exact hk.elim
    | ty _ => exact hk.elim
    | dit _ => exact hk.elim
    | _ => and_intros; exact Shr.all k
/-- whether anything is a number in figures -/
def sp__law_is_figures : DSp := fun ds M R => ∃ x, ds = [x] ∧ KnD x ∧ SmT x ∧ R (.bl (figD x)) M
theorem lfig_go {M : Mm} {R : DQ} {x : D} (h : KnD x) (h2 : SmT x) (k : R (.bl (figD x)) M) : sp__law_is_figures [x] M R := ⟨x, rfl, h, h2, k⟩
theorem ok__law_is_figures {f__law_is_figures : Addr} {fd__law_is_figures : FuncData} (F__law_is_figures : Fun K "_law_is_figures" "_law_is_figures" st__law_is_figures f__law_is_figures fd__law_is_figures) (z_isinstance : mg "isinstance" = none) (z_str : mg "str" = none) : FnOk P w K mg base CX0 1 f__law_is_figures fd__law_is_figures ["_law_thing"] (toSp K sp__law_is_figures) := by
  refine fn_ok (k := 0) F__law_is_figures sc__law_is_figures (fun ds M R h => ?_) (fun cdv A outer s H E hr => ⟨_, (jb_cons (js_if (JW.jt (jw_or (jt_not (jt_val (je_isi z_isinstance (ja_cons (jv 0) (ja_cons (je_ty (by rfl) z_str PyProof.Rows.boot_str) ja_nil))))) (jw_or (jt_eq hr (jv 0) je_str) (jw_or1 (jt_ne hr (je_frz (jl_lc rfl sc__law_is_figures.nd (jlc (ji_any (jv 0)) (blkOk_by (own := [("_law_sign", 1)]) (N := N__law_is_figures) (sc := defScope st__law_is_figures) (by decide +kernel)) (fun _ _ _ _ _ => (jgv_name (i := 1) sc__law_is_figures.nd (by decide))) (fun _ _ _ _ _ => (jts_one (jt_notin hr (jv 1) je_str))) (fun _ _ _ _ _ => (jv 1))))) (je_frz (jl_disp ja_nil))))))) (jb_one (js_ret je_bl)) jb_nil)
      (jb_one (js_ret (je_or (je_eq hr (jv 0) je_str) (je_one (je_ne hr (je_ix (jv 0) je_int) je_str)))))), fun ds M R h => ?_⟩)
  · unfold sp__law_is_figures at h
    first | (obtain ⟨rfl, _⟩ := h; rfl) | (obtain ⟨_, rfl, _⟩ := h; rfl) | (obtain ⟨_, _, rfl, _⟩ := h; rfl) | (obtain ⟨_, _, _, rfl, _⟩ := h; rfl) | (obtain ⟨_, _, _, _, rfl, _⟩ := h; rfl) | (obtain ⟨_, _, _, _, _, rfl, _⟩ := h; rfl) | (obtain ⟨_, _, _, _, _, _, rfl, _⟩ := h; rfl) | (obtain ⟨_, _, _, _, _, _, _, rfl, _⟩ := h; rfl) | (obtain ⟨_, _, _, _, _, _, _, _, rfl, _⟩ := h; rfl) | (obtain ⟨_, _, _, _, _, _, _, _, _, rfl, _⟩ := h; rfl) | (obtain ⟨_, _, _, _, _, _, _, _, _, _, rfl, _⟩ := h; rfl) | (split at h <;> first | rfl | exact h.elim)
  · unfold sp__law_is_figures at h
    obtain ⟨x, rfl, hk, hs, k⟩ := h
    simp_all only [N__law_is_figures]
    cases x with
    | str z =>
      have hz := hs z rfl
      simp only [figD, figB] at k
      and_intros
      by_cases h0 : z = ("" : Str)
      · subst h0
        rw [if_pos (by rfl)]
        exact Shr.all k
      · rw [if_neg (by simpa using h0)]
        simp only [h0, decide_false, Bool.not_false, Bool.true_and] at k
        have hc0 : cps z ≠ [] := fun e => h0 (by
          have h1 : z.cps = #[] := by have := congrArg List.toArray e; simpa [cps] using this
          cases z; simp only at h1; rw [h1]; rfl)
        unfold DM.signs
        refine lcW_filter (l := z.cps.toList) (fun c => D.str ⟨#[c]⟩) (fun c => !inStr ⟨#[c]⟩ ("0123456789" : Str)) (fun c => D.str ⟨#[c]⟩) (small_line2 (by rw [cps_len] at hz; exact Nat.le_trans hz (by decide))) trivial (fun c hc N F g1 g2 => ?_) ?_
        · and_intros
          rw [notInR_tt]
          and_intros
          refine ifs (fun h => g1 h) (fun h => g2 (by simpa using h))
        rw [show ((z.cps.toList.filter fun c => !inStr ⟨#[c]⟩ ("0123456789" : Str)).map fun c => D.str ⟨#[c]⟩) = ((z.cps.toList.filter fun c => !inStr ⟨#[c]⟩ ("0123456789" : Str)).map fun c => (⟨#[c]⟩ : Str)).map D.str by rw [List.map_map]; rfl]
        refine ⟨strs_okF, ?_⟩
        rw [List.isEmpty_map, List.isEmpty_map, filter_notp]
        have k : R (.bl ((z.cps.toList.all fun c => inStr ⟨#[c]⟩ ("0123456789" : Str)) && (decide (z = ("0" : Str)) || !decide (sgn0 z = ("0" : Str))))) M := k
        cases ha : (z.cps.toList.all fun c => inStr ⟨#[c]⟩ ("0123456789" : Str)) with
        | false =>
          rw [ha] at k
          rw [if_pos (by simp)]
          exact Shr.all k
        | true =>
          rw [ha] at k
          rw [if_neg (by simp)]
          and_intros
          by_cases hz0 : z = ("0" : Str)
          · rw [if_pos (by rw [hz0]; rfl)]
            rw [hz0] at k
            exact Shr.all k
          · rw [if_neg (by simpa using hz0)]
            refine ix_s (c := (cps z).headD 0) (by omega) (by cases e : cps z with | nil => exact absurd e hc0 | cons c r => rfl) (small_line2 (by omega)) ?_
            and_intros
            simp only [hz0, decide_false, Bool.false_or, Bool.true_and] at k
            rw [show (⟨#[(cps z).headD 0]⟩ : Str) = sgn0 z from rfl]
            have e0 : (sgn0 z == Str.ofString "0") = decide (sgn0 z = ("0" : Str)) := by rw [Bool.eq_iff_iff]; simp
            rw [e0]
            exact Shr.all k
    | ref _ => exact hk.elim
    | ty _ => exact hk.elim
    | dit _ => exact hk.elim
    | _ => and_intros; exact Shr.all k
/-- whether anything is a state -/
def sp__law_is_state : DSp := fun ds M R => ∃ x, ds = [x] ∧ KnD x ∧ SmT x ∧ R (.bl (stateD x)) M
theorem lstate_go {M : Mm} {R : DQ} {x : D} (h : KnD x) (h2 : SmT x) (k : R (.bl (stateD x)) M) : sp__law_is_state [x] M R := ⟨x, rfl, h, h2, k⟩
theorem ok__law_is_state {f__law_is_state f__law_is_figures f__law_is_name : Addr} {fd__law_is_state fd__law_is_figures fd__law_is_name : FuncData} (F__law_is_state : Fun K "_law_is_state" "_law_is_state" st__law_is_state f__law_is_state fd__law_is_state) (G__law_is_figures : FnOk P w K mg base CX0 1 f__law_is_figures fd__law_is_figures ["_law_thing"] (toSp K sp__law_is_figures)) (g__law_is_figures : mg "_law_is_figures" = some (.ref f__law_is_figures)) (k__law_is_figures : PySem.W.keepIn K (.ref f__law_is_figures) = true) (b__law_is_figures : Binds K fd__law_is_figures ["_law_thing"] []) (G__law_is_name : FnOk P w K mg base CX0 1 f__law_is_name fd__law_is_name ["_law_thing"] (toSp K sp__law_is_name)) (g__law_is_name : mg "_law_is_name" = some (.ref f__law_is_name)) (k__law_is_name : PySem.W.keepIn K (.ref f__law_is_name) = true) (b__law_is_name : Binds K fd__law_is_name ["_law_thing"] []) : FnOk P w K mg base CX0 2 f__law_is_state fd__law_is_state ["_law_thing"] (toSp K sp__law_is_state) := by
  refine fn_ok (k := 1) F__law_is_state sc__law_is_state (fun ds M R h => ?_) (fun cdv A outer s H E hr => ⟨_, (jb_one (js_ret (je_or (je_call G__law_is_name (hr.mono (by decide)) (by rfl) g__law_is_name k__law_is_name b__law_is_name (ja_cons (jv 0) ja_nil)) (je_one (je_call G__law_is_figures (hr.mono (by decide)) (by rfl) g__law_is_figures k__law_is_figures b__law_is_figures (ja_cons (jv 0) ja_nil)))))), fun ds M R h => ?_⟩)
  · unfold sp__law_is_state at h
    first | (obtain ⟨rfl, _⟩ := h; rfl) | (obtain ⟨_, rfl, _⟩ := h; rfl) | (obtain ⟨_, _, rfl, _⟩ := h; rfl) | (obtain ⟨_, _, _, rfl, _⟩ := h; rfl) | (obtain ⟨_, _, _, _, rfl, _⟩ := h; rfl) | (obtain ⟨_, _, _, _, _, rfl, _⟩ := h; rfl) | (obtain ⟨_, _, _, _, _, _, rfl, _⟩ := h; rfl) | (obtain ⟨_, _, _, _, _, _, _, rfl, _⟩ := h; rfl) | (obtain ⟨_, _, _, _, _, _, _, _, rfl, _⟩ := h; rfl) | (obtain ⟨_, _, _, _, _, _, _, _, _, rfl, _⟩ := h; rfl) | (obtain ⟨_, _, _, _, _, _, _, _, _, _, rfl, _⟩ := h; rfl) | (split at h <;> first | rfl | exact h.elim)
  · unfold sp__law_is_state at h
    obtain ⟨x, rfl, hk, hs, k⟩ := h
    simp_all only [N__law_is_state]
    and_intros
    refine lname_go hk hs ?_
    unfold stateD at k
    cases hn : nameD x with
    | true => rw [hn, Bool.or_true] at k; and_intros; exact Shr.all k
    | false =>
      rw [hn, Bool.or_false] at k
      and_intros
      refine lfig_go hk hs ?_
      and_intros
      exact Shr.all k
/-- a target of states and names -/
structure TgK (E : List Ed) (F : List Str) : Prop where
  el : E.length ≤ 2000
  fl : F.length ≤ 2000
  e1 : ∀ e ∈ E, stateD (.str e.1) = true ∧ nameB e.2.1 = true ∧ figB e.2.2 = true
  e2 : ∀ e ∈ E, e.1.length ≤ 100 ∧ e.2.1.length ≤ 100 ∧ e.2.2.length ≤ 100
  f1 : ∀ s ∈ F, stateD (.str s) = true ∧ s.length ≤ 100
  re : risB leE E = true
  rf : risB leS F = true
/-- a target is judged to be one -/
def sp__law_is_target : DSp := fun ds M R => ∃ (E : List Ed) (F : List Str), ds = [tgtD E F] ∧ TgK E F ∧ R (.bl true) M
theorem ltgt_go {M : Mm} {R : DQ} {E : List Ed} {F : List Str} (h : TgK E F) (k : R (.bl true) M) : sp__law_is_target [tgtD E F] M R := ⟨E, F, rfl, h, k⟩
theorem ok__law_is_target {f__law_is_target f__law_is_state f__law_is_figures f__law_is_name f__law_rises : Addr} {fd__law_is_target fd__law_is_state fd__law_is_figures fd__law_is_name fd__law_rises : FuncData} (F__law_is_target : Fun K "_law_is_target" "_law_is_target" st__law_is_target f__law_is_target fd__law_is_target) (G__law_is_state : FnOk P w K mg base CX0 2 f__law_is_state fd__law_is_state ["_law_thing"] (toSp K sp__law_is_state)) (g__law_is_state : mg "_law_is_state" = some (.ref f__law_is_state)) (k__law_is_state : PySem.W.keepIn K (.ref f__law_is_state) = true) (b__law_is_state : Binds K fd__law_is_state ["_law_thing"] []) (G__law_is_figures : FnOk P w K mg base CX0 1 f__law_is_figures fd__law_is_figures ["_law_thing"] (toSp K sp__law_is_figures)) (g__law_is_figures : mg "_law_is_figures" = some (.ref f__law_is_figures)) (k__law_is_figures : PySem.W.keepIn K (.ref f__law_is_figures) = true) (b__law_is_figures : Binds K fd__law_is_figures ["_law_thing"] []) (G__law_is_name : FnOk P w K mg base CX0 1 f__law_is_name fd__law_is_name ["_law_thing"] (toSp K sp__law_is_name)) (g__law_is_name : mg "_law_is_name" = some (.ref f__law_is_name)) (k__law_is_name : PySem.W.keepIn K (.ref f__law_is_name) = true) (b__law_is_name : Binds K fd__law_is_name ["_law_thing"] []) (G__law_rises : FnOk P w K mg base CX0 1 f__law_rises fd__law_rises ["_law_some"] (toSp K sp__law_rises)) (g__law_rises : mg "_law_rises" = some (.ref f__law_rises)) (k__law_rises : PySem.W.keepIn K (.ref f__law_rises) = true) (b__law_rises : Binds K fd__law_rises ["_law_some"] []) (z_len : mg "len" = none) (z_isinstance : mg "isinstance" = none) (z_tuple : mg "tuple" = none) : FnOk P w K mg base CX0 3 f__law_is_target fd__law_is_target ["_law_thing"] (toSp K sp__law_is_target) := by
  refine fn_ok (k := 2) F__law_is_target sc__law_is_target (fun ds M R h => ?_) (fun cdv A outer s H E hr => ⟨_, (jb_cons (js_if (JW.jt (jw_or (jt_not (jt_val (je_isi z_isinstance (ja_cons (jv 0) (ja_cons (je_ty (by rfl) z_tuple PyProof.Rows.boot_tuple) ja_nil))))) (jw_or1 (jt_ne hr (je_len z_len (ja_cons (jv 0) ja_nil)) je_int)))) (jb_one (js_ret je_bl)) jb_nil)
      (jb_cons (js_if (JW.jt (jw_or (jt_not (jt_val (je_isi z_isinstance (ja_cons (je_ix (jv 0) je_int) (ja_cons (je_ty (by rfl) z_tuple PyProof.Rows.boot_tuple) ja_nil))))) (jw_or1 (jt_not (jt_val (je_isi z_isinstance (ja_cons (je_ix (jv 0) je_int) (ja_cons (je_ty (by rfl) z_tuple PyProof.Rows.boot_tuple) ja_nil)))))))) (jb_one (js_ret je_bl)) jb_nil)
      (jb_cons (js_for PassesOwn.never rfl (ji_any (je_ix (jv 0) je_int)) (jg_name (i := 1) sc__law_is_target.nd) (jb_cons (js_if (JW.jt (jw_or (jt_not (jt_val (je_isi z_isinstance (ja_cons (jv 1) (ja_cons (je_ty (by rfl) z_tuple PyProof.Rows.boot_tuple) ja_nil))))) (jw_or (jt_ne hr (je_len z_len (ja_cons (jv 1) ja_nil)) je_int) (jw_or1 (jt_not (jt_val (je_call G__law_is_state (hr.mono (by decide)) (by rfl) g__law_is_state k__law_is_state b__law_is_state (ja_cons (je_ix (jv 1) je_int) ja_nil)))))))) (jb_one (js_ret je_bl)) jb_nil) (jb_one (js_if (JW.jt (jw_or (jt_not (jt_val (je_call G__law_is_name (hr.mono (by decide)) (by rfl) g__law_is_name k__law_is_name b__law_is_name (ja_cons (je_ix (jv 1) je_int) ja_nil)))) (jw_or1 (jt_not (jt_val (je_call G__law_is_figures (hr.mono (by decide)) (by rfl) g__law_is_figures k__law_is_figures b__law_is_figures (ja_cons (je_ix (jv 1) je_int) ja_nil))))))) (jb_one (js_ret je_bl)) jb_nil))))
      (jb_cons (js_if (jt_ne hr (je_frz (jl_lc rfl sc__law_is_target.nd (jlc (ji_any (je_ix (jv 0) je_int)) (blkOk_by (own := [("_law_state", 2)]) (N := N__law_is_target) (sc := defScope st__law_is_target) (by decide +kernel)) (fun _ _ _ _ _ => (jgv_name (i := 2) sc__law_is_target.nd (by decide))) (fun _ _ _ _ _ => (jts_one (jt_not (jt_val (je_call G__law_is_state (hr.mono (by decide)) (by rfl) g__law_is_state k__law_is_state b__law_is_state (ja_cons (jv 2) ja_nil)))))) (fun _ _ _ _ _ => (jv 2))))) (je_frz (jl_disp ja_nil))) (jb_one (js_ret je_bl)) jb_nil)
      (jb_one (js_ret (je_and (je_call G__law_rises (hr.mono (by decide)) (by rfl) g__law_rises k__law_rises b__law_rises (ja_cons (je_ix (jv 0) je_int) ja_nil)) (je_one (je_call G__law_rises (hr.mono (by decide)) (by rfl) g__law_rises k__law_rises b__law_rises (ja_cons (je_ix (jv 0) je_int) ja_nil)))))))))), fun ds M R h => ?_⟩)
  · unfold sp__law_is_target at h
    first | (obtain ⟨rfl, _⟩ := h; rfl) | (obtain ⟨_, rfl, _⟩ := h; rfl) | (obtain ⟨_, _, rfl, _⟩ := h; rfl) | (obtain ⟨_, _, _, rfl, _⟩ := h; rfl) | (obtain ⟨_, _, _, _, rfl, _⟩ := h; rfl) | (obtain ⟨_, _, _, _, _, rfl, _⟩ := h; rfl) | (obtain ⟨_, _, _, _, _, _, rfl, _⟩ := h; rfl) | (obtain ⟨_, _, _, _, _, _, _, rfl, _⟩ := h; rfl) | (obtain ⟨_, _, _, _, _, _, _, _, rfl, _⟩ := h; rfl) | (obtain ⟨_, _, _, _, _, _, _, _, _, rfl, _⟩ := h; rfl) | (obtain ⟨_, _, _, _, _, _, _, _, _, _, rfl, _⟩ := h; rfl) | (split at h <;> first | rfl | exact h.elim)
  · unfold sp__law_is_target at h
    obtain ⟨E, F, rfl, g, k⟩ := h
    have hk := Shr.all k
    have hE := g.el
    have hF := g.fl
    simp_all only [N__law_is_target, tgtD]
    and_intros
    refine forS [1] (fun i vs M' => ∃ x1, vs = [x1] ∧ M' = M) (fun _ _ _ _ => trivial) (fun i x N e hN vs M' hI => ?_) (fun vs M' hI => ?_) ⟨_, rfl, rfl⟩
    · obtain ⟨x1, rfl, rfl⟩ := hI
      rw [List.getElem?_map] at e
      obtain ⟨f, hf, rfl⟩ := Option.map_eq_some_iff.mp e
      have hm := List.mem_of_getElem? hf
      obtain ⟨a1, a2, a3⟩ := g.e1 f hm
      obtain ⟨l1, l2, l3⟩ := g.e2 f hm
      simp only [edD]
      and_intros
      refine lstate_go trivial (fun z e => by cases e; omega) ?_
      rw [a1]
      and_intros
      refine lname_go trivial (fun z e => by cases e; omega) ?_
      rw [show nameD (.str f.2.1) = true from a2]
      and_intros
      refine lfig_go trivial (fun z e => by cases e; omega) ?_
      rw [show figD (.str f.2.2) = true from a3]
      and_intros
      exact hN _ _ _ rfl ⟨_, rfl, rfl⟩
    · obtain ⟨x1, rfl, rfl⟩ := hI
      and_intros
      refine lcW_filter (l := F) D.str (fun _ => false) D.str (small_line2 (by omega)) trivial (fun s hs N FF g1 g2 => ?_) ?_
      · obtain ⟨q1, q2⟩ := g.f1 s hs
        infer_instance
        refine lstate_go trivial (fun z e => by cases e; omega) ?_
        rw [q1]
        and_intros
        exact g2 rfl
      rw [show F.filter (fun _ => false) = [] by simp]
      refine ⟨⟨rfl, by decide⟩, ?_⟩
      and_intros
      refine lrisesE_go (by omega) ?_
      rw [g.re]
      and_intros
      refine lrisesS_go (by omega) ?_
      rw [g.rf]
      exact hk
/-- no place but one leads to an end -/
def sp__law_lead_nowhere : DSp := fun ds M R => ∃ (E : List Ed) (F : List Str) (p : Str), ds = [tgtD E F, .str p] ∧ E.length ≤ 1000 ∧ F.length ≤ 1000 ∧ (∀ e ∈ E, e.1 = p ∨ nameB e.1 = false) ∧ (∀ s ∈ F, s = p ∨ nameB s = false) ∧ (∀ e ∈ E, e.1.length ≤ 100) ∧ (∀ s ∈ F, s.length ≤ 100) ∧ R (.bl true) M
theorem nowhere_go {M : Mm} {R : DQ} {E : List Ed} {F : List Str} {p : Str} (h1 : E.length ≤ 1000) (h2 : F.length ≤ 1000) (h3 : ∀ e ∈ E, e.1 = p ∨ nameB e.1 = false) (h4 : ∀ s ∈ F, s = p ∨ nameB s = false) (h5 : ∀ e ∈ E, e.1.length ≤ 100) (h6 : ∀ s ∈ F, s.length ≤ 100) (k : R (.bl true) M) : sp__law_lead_nowhere [tgtD E F, .str p] M R := ⟨E, F, p, rfl, h1, h2, h3, h4, h5, h6, k⟩
theorem ok__law_lead_nowhere {f__law_lead_nowhere f__law_is_name f__law_ends : Addr} {fd__law_lead_nowhere fd__law_is_name fd__law_ends : FuncData} (F__law_lead_nowhere : Fun K "_law_lead_nowhere" "_law_lead_nowhere" st__law_lead_nowhere f__law_lead_nowhere fd__law_lead_nowhere) (G__law_is_name : FnOk P w K mg base CX0 1 f__law_is_name fd__law_is_name ["_law_thing"] (toSp K sp__law_is_name)) (g__law_is_name : mg "_law_is_name" = some (.ref f__law_is_name)) (k__law_is_name : PySem.W.keepIn K (.ref f__law_is_name) = true) (b__law_is_name : Binds K fd__law_is_name ["_law_thing"] []) (G__law_ends : FnOk P w K mg base CX0 1 f__law_ends fd__law_ends ["_law_machine_here", "_law_states"] (toSp K sp__law_ends)) (g__law_ends : mg "_law_ends" = some (.ref f__law_ends)) (k__law_ends : PySem.W.keepIn K (.ref f__law_ends) = true) (b__law_ends : Binds K fd__law_ends ["_law_machine_here", "_law_states"] []) (z_sorted : mg "sorted" = none) (z_set : mg "set" = none) (z_list : mg "list" = none) (z_len : mg "len" = none) : FnOk P w K mg base CX0 2 f__law_lead_nowhere fd__law_lead_nowhere ["_law_told", "_law_place"] (toSp K sp__law_lead_nowhere) := by
  refine fn_ok (k := 1) F__law_lead_nowhere sc__law_lead_nowhere (fun ds M R h => ?_) (fun cdv A outer s H E hr => ⟨_, (jb_cons (js_setLcF (i := 2) rfl sc__law_lead_nowhere.nd (jlc (ji_any (je_frz (jl_sortSet rfl hr z_sorted z_set (je_add (je_frz (jl_lc rfl sc__law_lead_nowhere.nd (jlc (ji_any (je_ix (jv 0) je_int)) (blkOk_by (own := [("_law_edge", 9)]) (N := N__law_lead_nowhere) (sc := defScope st__law_lead_nowhere) (by decide +kernel)) (fun _ _ _ _ _ => (jgv_name (i := 9) sc__law_lead_nowhere.nd (by decide))) (fun _ _ _ _ _ => jts_nil) (fun _ _ _ _ _ => (je_ix (jv 9) je_int))))) (je_frz (jl_list z_list (ja_cons (je_ix (jv 0) je_int) ja_nil))))))) (blkOk_by (own := [("_law_one", 8)]) (N := N__law_lead_nowhere) (sc := defScope st__law_lead_nowhere) (by decide +kernel)) (fun _ _ _ _ _ => (jgv_name (i := 8) sc__law_lead_nowhere.nd (by decide))) (fun _ _ _ _ _ => (jts_one (jt_val (je_call G__law_is_name (hr.mono (by decide)) (by rfl) g__law_is_name k__law_is_name b__law_is_name (ja_cons (jv 8) ja_nil))))) (fun _ _ _ _ _ => (jv 8))) (sw_true rfl rfl rfl (by decide +kernel)))
      (jb_cons (js_setLc (i := 3) rfl sc__law_lead_nowhere.nd (jlc (ji_any (jv 2)) (blkOk_by (own := [("_law_one", 8)]) (N := N__law_lead_nowhere) (sc := defScope st__law_lead_nowhere) (by decide +kernel)) (fun _ _ _ _ _ => (jgv_name (i := 8) sc__law_lead_nowhere.nd (by decide))) (fun _ _ _ _ _ => (jts_one (jt_ne hr (jv 8) (jv 1)))) (fun _ _ _ _ _ => (jv 8))) (sw_true rfl rfl rfl (by decide +kernel)))
      (jb_cons (js_set (i := 4) sc__law_lead_nowhere.nd je_int)
      (jb_cons (js_while PassesOwn.never (jt_lt (jv 4) (je_len z_len (ja_cons (jv 3) ja_nil))) (jb_cons (js_for PassesOwn.never rfl (ji_any (je_ix (jv 0) je_int)) (jg_tup (n := 3) rfl (jgs_cons (jg_name (i := 5) sc__law_lead_nowhere.nd) (jgs_cons (jg_name (i := 6) sc__law_lead_nowhere.nd) (jgs_cons (jg_name (i := 7) sc__law_lead_nowhere.nd) jgs_nil)))) (jb_one (js_if (JW.jt (jw_and (jt_eq hr (jv 5) (je_ix (jv 3) (jv 4))) (jw_and1 (jt_notin hr (jv 7) (jv 3))))) (jb_one (js_expr (je_append (jv 3) (jv 7)))) jb_nil))) (jb_one (js_set (i := 4) sc__law_lead_nowhere.nd (je_add (jv 4) je_int)))))
      (jb_one (js_ret (je_not (je_call G__law_ends (hr.mono (by decide)) (by rfl) g__law_ends k__law_ends b__law_ends (ja_cons (jv 0) (ja_cons (jv 3) ja_nil)))))))))), fun ds M R h => ?_⟩)
  · unfold sp__law_lead_nowhere at h
    first | (obtain ⟨rfl, _⟩ := h; rfl) | (obtain ⟨_, rfl, _⟩ := h; rfl) | (obtain ⟨_, _, rfl, _⟩ := h; rfl) | (obtain ⟨_, _, _, rfl, _⟩ := h; rfl) | (obtain ⟨_, _, _, _, rfl, _⟩ := h; rfl) | (obtain ⟨_, _, _, _, _, rfl, _⟩ := h; rfl) | (obtain ⟨_, _, _, _, _, _, rfl, _⟩ := h; rfl) | (obtain ⟨_, _, _, _, _, _, _, rfl, _⟩ := h; rfl) | (obtain ⟨_, _, _, _, _, _, _, _, rfl, _⟩ := h; rfl) | (obtain ⟨_, _, _, _, _, _, _, _, _, rfl, _⟩ := h; rfl) | (obtain ⟨_, _, _, _, _, _, _, _, _, _, rfl, _⟩ := h; rfl) | (split at h <;> first | rfl | exact h.elim)
  · unfold sp__law_lead_nowhere at h
    obtain ⟨E, F, p, rfl, h1, h2, h3, h4, h5, h6, k⟩ := h
    have hk := Shr.all k
    simp_all only [N__law_lead_nowhere, tgtD]
    infer_instance
    refine lcW_fun (l := E) edD (fun e => D.str e.1) (small_line2 (by omega)) trivial (fun e he N F' h' => ?_) ?_
    · simp only [edD]
      infer_instance
      exact h'
    refine ⟨small_line2 (by rw [List.length_map]; omega), ?_⟩
    rw [show E.map (fun e => D.str e.1) = (E.map (·.1)).map D.str by rw [List.map_map]; rfl, ← List.map_append]
    refine sortSet_L (by rw [List.length_append, List.length_map]; omega) ?_
    have hst : ∀ s ∈ rise (E.map (·.1) ++ F), (s = p ∨ nameB s = false) ∧ s.length ≤ 100 := fun s hs => by
      rcases List.mem_append.mp (rise_mem.mp hs) with h | h
      · obtain ⟨e, he, rfl⟩ := List.mem_map.mp h
        exact ⟨h3 e he, h5 e he⟩
      · exact ⟨h4 s h, h6 s h⟩
    have hl : (rise (E.map (·.1) ++ F)).length ≤ 2000 := Nat.le_trans (rise_len _) (by rw [List.length_append, List.length_map]; omega)
    generalize rise (E.map (·.1) ++ F) = X at hst hl
    refine lcW_filter (l := X) D.str nameB D.str (small_line2 (by omega)) trivial (fun s hs N FF g1 g2 => ?_) ?_
    · infer_instance
      refine lname_go trivial (fun z e => by cases e; have := (hst s hs).2; omega) ?_
      infer_instance
      show (if nameB s = true then _ else _)
      exact ifs (fun h => g1 h) (fun h => g2 (by simpa using h))
    have hX : ∀ s ∈ X.filter nameB, s = p := fun s hs => by
      obtain ⟨a, b⟩ := List.mem_filter.mp hs
      rcases (hst s a).1 with h | h
      · exact h
      · rw [h] at b; cases b
    have hXl : (X.filter nameB).length ≤ 2000 := Nat.le_trans (List.length_filter_le _ _) hl
    generalize X.filter nameB = Y at hX hXl
    infer_instance
    refine lcW_filter (l := Y) D.str (fun _ => false) D.str (small_line2 (by omega)) trivial (fun s hs N FF g1 g2 => ?_) ?_
    · have := hX s hs
      subst this
      and_intros
      exact g2 (by first | rfl | simp)
    rw [show Y.filter (fun _ => false) = [] by simp]
    intro w hw
    have b0 := (Px.start (M := M)).new (p := w) (o := .lst []) hw
    infer_instance
    refine whileS [4] (fun m vs M' => vs = [some (.int 0)] ∧ Px M [(w, .lst [])] M') 0 (fun m N hN vs M' hI => ?_) ⟨rfl, b0⟩
    obtain ⟨rfl, b1⟩ := hI
    simp_all only []
    refine len_l b1.lst1 ?_
    and_intros
    rw [if_neg (by decide)]
    and_intros
    refine lends_goL (h := []) b1.lst1 (by decide) ?_
    and_intros
    exact b1.fin k
theorem dg_fig : ∀ k : Fin 20, figB (dgS k.1) = true := by decide +kernel
theorem dg_noname {k : Nat} : nameB (dgS k) = false := by
  cases h : nameB (dgS k) with
  | false => rfl
  | true => exact absurd rfl (name_fig (k := k) (nameB_iff.mp h))
theorem nK_lt {E : List Ed} {F zs : List Str} (Z : Zs E F zs) {s : Str} (h : s ∈ zs) : ∃ k : Fin 20, nK zs s = dgS k.1 := by
  have := (List.getElem?_eq_some_iff.mp (idxOfS_get h)).1
  have := Z.l
  exact ⟨⟨zs.idxOf s, by omega⟩, rfl⟩
theorem Beg_e1 {E E2 : List Ed} {F F2 zs : List Str} {state place : Str} (Z : Zs E F zs) (B : Beg E F zs state place E2 F2) {e : Ed} (he : e ∈ E2) : (e.1 = place ∨ ∃ k : Fin 20, e.1 = dgS k.1) ∧ (∃ f ∈ E, e.2.1 = f.2.1) ∧ ∃ k : Fin 20, e.2.2 = dgS k.1 := by
  have h1 : ∀ f ∈ E, f.1 ∈ zs ∧ f.2.2 ∈ zs := fun f hf => ⟨(Z.m _).mpr (.inl ⟨f, hf, .inl rfl⟩), (Z.m _).mpr (.inl ⟨f, hf, .inr rfl⟩)⟩
  rcases (B.e e).mp he with ⟨f, hf, rfl⟩ | ⟨f, hf, _, rfl⟩
  · exact ⟨.inr (nK_lt Z (h1 f hf).1), ⟨f, hf, rfl⟩, nK_lt Z (h1 f hf).2⟩
  · exact ⟨.inl rfl, ⟨f, hf, rfl⟩, nK_lt Z (h1 f hf).2⟩
theorem Beg_f1 {E E2 : List Ed} {F F2 zs : List Str} {state place : Str} (Z : Zs E F zs) (B : Beg E F zs state place E2 F2) {s : Str} (hs : s ∈ F2) : s = place ∨ ∃ k : Fin 20, s = dgS k.1 := by
  rcases (B.f s).mp hs with ⟨f, hf, rfl⟩ | ⟨h, _⟩
  · exact .inr (nK_lt Z ((Z.m _).mpr (.inr hf)))
  · exact .inl h
theorem st_ok {place s : Str} (hp : NameS place) (h : s = place ∨ ∃ k : Fin 20, s = dgS k.1) : stateD (.str s) = true ∧ s.length ≤ 8 ∧ (s = place ∨ nameB s = false) := by
  rcases h with rfl | ⟨k, rfl⟩
  · exact ⟨by unfold stateD; rw [show nameD (.str s) = nameB s from rfl, nameB_iff.mpr hp, Bool.or_true], hp.len8, .inl rfl⟩
  · exact ⟨by unfold stateD; rw [show figD (.str (dgS k.1)) = figB (dgS k.1) from rfl, dg_fig k]; rfl, Nat.le_trans (dgS_len k) (by decide), .inr dg_noname⟩
theorem Beg_tgk {S ms : List Str} {E E2 : List Ed} {F F2 zs : List Str} {state place : Str} (g : MchK S ms E F) (Z : Zs E F zs) (B : Beg E F zs state place E2 F2) (hp : NameS place) : TgK E2 F2 := by
  have := g.el
  have := g.fl
  have := B.el
  have := B.fl
  refine ⟨by omega, by omega, fun e he => ?_, fun e he => ?_, fun s hs => ?_, B.re, B.rf⟩
  · obtain ⟨h1, ⟨f, hf, h2⟩, k, h3⟩ := Beg_e1 Z B he
    exact ⟨(st_ok hp h1).1, by rw [h2]; exact nameB_iff.mpr (g.mn _ (g.ed f hf).2.1), by rw [h3]; exact dg_fig k⟩
  · obtain ⟨h1, ⟨f, hf, h2⟩, k, h3⟩ := Beg_e1 Z B he
    have a := (st_ok hp h1).2.1
    have b := (g.mn _ (g.ed f hf).2.1).len8
    have c := dgS_len k
    rw [h2, h3]
    exact ⟨by omega, by omega, by omega⟩
  · have h := st_ok hp (Beg_f1 Z B hs)
    exact ⟨h.1, by omega⟩
theorem ok_law {f_law f__law_draw f__law_names f__law_machine f__law_wide f__law_pick f_begun f__law_lead_nowhere f__law_is_target f__law_alike f__law_deck : Addr} {fd_law fd__law_draw fd__law_names fd__law_machine fd__law_wide fd__law_pick fd_begun fd__law_lead_nowhere fd__law_is_target fd__law_alike fd__law_deck : FuncData} (F_law : Fun K "law" "law" st_law f_law fd_law) (G__law_draw : FnOk P w K mg base CX0 1 f__law_draw fd__law_draw ["_law_deck_here", "_law_most"] (toSp K sp__law_draw)) (g__law_draw : mg "_law_draw" = some (.ref f__law_draw)) (k__law_draw : PySem.W.keepIn K (.ref f__law_draw) = true) (b__law_draw : Binds K fd__law_draw ["_law_deck_here", "_law_most"] []) (G__law_names : FnOk P w K mg base CX0 2 f__law_names fd__law_names ["_law_deck_here", "_law_many"] (toSp K sp__law_names)) (g__law_names : mg "_law_names" = some (.ref f__law_names)) (k__law_names : PySem.W.keepIn K (.ref f__law_names) = true) (b__law_names : Binds K fd__law_names ["_law_deck_here", "_law_many"] []) (G__law_machine : FnOk P w K mg base CX0 3 f__law_machine fd__law_machine ["_law_deck_here", "_law_places", "_law_marks", "_law_sort", "_law_most"] (toSp K sp__law_machine)) (g__law_machine : mg "_law_machine" = some (.ref f__law_machine)) (k__law_machine : PySem.W.keepIn K (.ref f__law_machine) = true) (b__law_machine : Binds K fd__law_machine ["_law_deck_here", "_law_places", "_law_marks", "_law_sort", "_law_most"] []) (G__law_wide : FnOk P w K mg base CX0 3 f__law_wide fd__law_wide ["_law_deck_here", "_law_places", "_law_marks"] (toSp K sp__law_wide)) (g__law_wide : mg "_law_wide" = some (.ref f__law_wide)) (k__law_wide : PySem.W.keepIn K (.ref f__law_wide) = true) (b__law_wide : Binds K fd__law_wide ["_law_deck_here", "_law_places", "_law_marks"] []) (G__law_pick : FnOk P w K mg base CX0 2 f__law_pick fd__law_pick ["_law_deck_here", "_law_some"] (toSp K sp__law_pick)) (g__law_pick : mg "_law_pick" = some (.ref f__law_pick)) (k__law_pick : PySem.W.keepIn K (.ref f__law_pick) = true) (b__law_pick : Binds K fd__law_pick ["_law_deck_here", "_law_some"] []) (G_begun : FnOk P w K mg base CX0 2 f_begun fd_begun ["machine", "state", "place"] (toSp K sp_begun)) (g_begun : mg "begun" = some (.ref f_begun)) (k_begun : PySem.W.keepIn K (.ref f_begun) = true) (b_begun : Binds K fd_begun ["machine", "state", "place"] []) (G__law_lead_nowhere : FnOk P w K mg base CX0 2 f__law_lead_nowhere fd__law_lead_nowhere ["_law_told", "_law_place"] (toSp K sp__law_lead_nowhere)) (g__law_lead_nowhere : mg "_law_lead_nowhere" = some (.ref f__law_lead_nowhere)) (k__law_lead_nowhere : PySem.W.keepIn K (.ref f__law_lead_nowhere) = true) (b__law_lead_nowhere : Binds K fd__law_lead_nowhere ["_law_told", "_law_place"] []) (G__law_is_target : FnOk P w K mg base CX0 3 f__law_is_target fd__law_is_target ["_law_thing"] (toSp K sp__law_is_target)) (g__law_is_target : mg "_law_is_target" = some (.ref f__law_is_target)) (k__law_is_target : PySem.W.keepIn K (.ref f__law_is_target) = true) (b__law_is_target : Binds K fd__law_is_target ["_law_thing"] []) (G__law_alike : FnOk P w K mg base CX0 2 f__law_alike fd__law_alike ["_law_machine_here", "_law_state", "_law_told", "_law_place", "_law_marks"] (toSp K sp__law_alike)) (g__law_alike : mg "_law_alike" = some (.ref f__law_alike)) (k__law_alike : PySem.W.keepIn K (.ref f__law_alike) = true) (b__law_alike : Binds K fd__law_alike ["_law_machine_here", "_law_state", "_law_told", "_law_place", "_law_marks"] []) (G__law_deck : FnOk P w K mg base CX0 1 f__law_deck fd__law_deck ["_law_script"] (spDeckH K)) (g__law_deck : mg "_law_deck" = some (.ref f__law_deck)) (k__law_deck : PySem.W.keepIn K (.ref f__law_deck) = true) (b__law_deck : Binds K fd__law_deck ["_law_script"] []) (z_range : mg "range" = none) (z_sorted : mg "sorted" = none) (z_set : mg "set" = none) : FnOk P w K mg base CX0 4 f_law fd_law ["_law_script"] (spLawH K) := by
  refine law_ok (k := 3) F_law sc_law (by decide) (by rfl) fun cdv A outer s H E hr => ⟨_, (ps_set (i := 1) sc_law.nd rfl (by first | exact Or.inl rfl | exact Or.inr rfl) (pe_call G__law_deck (hr.mono (by decide)) (by rfl) g__law_deck k__law_deck b__law_deck .nil pass0 (pa_cons (pv 0) pa_nil))),
    (jb_cons (js_for PassesOwn.never rfl (ji_rng1 (by rfl) z_range je_int) (jg_name (i := 2) sc_law.nd) (jb_cons (js_set (i := 3) sc_law.nd (je_and (je_eq hr (jv 2) je_int) (je_one (je_eq hr (je_call G__law_draw (hr.mono (by decide)) (by rfl) g__law_draw k__law_draw b__law_draw (ja_cons (jv 1) (ja_cons je_int ja_nil))) je_int)))) (jb_cons (js_set (i := 4) sc_law.nd (je_call G__law_draw (hr.mono (by decide)) (by rfl) g__law_draw k__law_draw b__law_draw (ja_cons (jv 1) (ja_cons je_int ja_nil)))) (jb_cons (js_set (i := 5) sc_law.nd (je_call G__law_names (hr.mono (by decide)) (by rfl) g__law_names k__law_names b__law_names (ja_cons (jv 1) (ja_cons je_int ja_nil)))) (jb_cons (js_set (i := 6) sc_law.nd (je_slice (jv 5) jo_none (jo_some (je_add je_int (je_call G__law_draw (hr.mono (by decide)) (by rfl) g__law_draw k__law_draw b__law_draw (ja_cons (jv 1) (ja_cons je_int ja_nil))))))) (jb_cons (js_set (i := 7) sc_law.nd (je_slice (jv 5) (jo_some je_int) (jo_some (je_add je_int (je_call G__law_draw (hr.mono (by decide)) (by rfl) g__law_draw k__law_draw b__law_draw (ja_cons (jv 1) (ja_cons je_int ja_nil))))))) (jb_cons (js_set (i := 8) sc_law.nd (je_call G__law_machine (hr.mono (by decide)) (by rfl) g__law_machine k__law_machine b__law_machine (ja_cons (jv 1) (ja_cons (jv 6) (ja_cons (jv 7) (ja_cons (jv 4) (ja_cons je_int ja_nil))))))) (jb_cons (js_if (jt_val (jv 3)) (jb_one (js_set (i := 8) sc_law.nd (je_call G__law_wide (hr.mono (by decide)) (by rfl) g__law_wide k__law_wide b__law_wide (ja_cons (jv 1) (ja_cons (jv 6) (ja_cons (jv 7) ja_nil)))))) jb_nil) (jb_cons (js_set (i := 9) sc_law.nd (je_call G__law_pick (hr.mono (by decide)) (by rfl) g__law_pick k__law_pick b__law_pick (ja_cons (jv 1) (ja_cons (je_add (jv 6) (je_frz (jl_disp (ja_cons je_str (ja_cons je_str (ja_cons je_str (ja_cons je_str (ja_cons je_str ja_nil)))))))) ja_nil)))) (jb_cons (js_set (i := 10) sc_law.nd (je_call G__law_pick (hr.mono (by decide)) (by rfl) g__law_pick k__law_pick b__law_pick (ja_cons (jv 1) (ja_cons (je_add (jv 6) (je_frz (jl_disp (ja_cons (je_ix (jv 5) je_int) ja_nil)))) ja_nil)))) (jb_cons (js_set (i := 11) sc_law.nd (je_call G_begun (hr.mono (by decide)) (by rfl) g_begun k_begun b_begun (ja_cons (jv 8) (ja_cons (jv 9) (ja_cons (jv 10) ja_nil))))) (jb_cons (js_if (JW.jt (jw_or (jt_not (jt_val (je_call G__law_is_target (hr.mono (by decide)) (by rfl) g__law_is_target k__law_is_target b__law_is_target (ja_cons (jv 11) ja_nil)))) (jw_or1 (jt_not (jt_val (je_call G__law_lead_nowhere (hr.mono (by decide)) (by rfl) g__law_lead_nowhere k__law_lead_nowhere b__law_lead_nowhere (ja_cons (jv 11) (ja_cons (jv 10) ja_nil)))))))) (jb_one (js_ret je_bl)) jb_nil) (jb_cons (js_set (i := 12) sc_law.nd (je_frz (jl_sortSet rfl hr z_sorted z_set (je_add (jv 7) (je_frz (jl_lc rfl sc_law.nd (jlc (ji_any (je_ix (jv 11) je_int)) (blkOk_by (own := [("_law_edge", 13)]) (N := N_law) (sc := defScope st_law) (by decide +kernel)) (fun _ _ _ _ _ => (jgv_name (i := 13) sc_law.nd (by decide))) (fun _ _ _ _ _ => jts_nil) (fun _ _ _ _ _ => (je_ix (jv 13) je_int))))))))) (jb_one (js_if (jt_not (jt_val (je_call G__law_alike (hr.mono (by decide)) (by rfl) g__law_alike k__law_alike b__law_alike (ja_cons (jv 8) (ja_cons (jv 9) (ja_cons (jv 11) (ja_cons (jv 10) (ja_cons (jv 12) ja_nil)))))))) (jb_one (js_ret je_bl)) jb_nil)))))))))))))))
      (jb_one (js_ret je_bl))), fun M d c hD => ?_⟩
  have b0 := Bx.start (hD.mono (r' := 1000000) (by decide))
  simp_all only [N_law]
  infer_instance
  refine forR [2, 3, 4, 5, 6, 7, 8, 9, 10, 11, 12] (fun i vs M' => ∃ x2 x3 x4 x5 x6 x7 x8 x9 x10 x11 x12, vs = [x2, x3, x4, x5, x6, x7, x8, x9, x10, x11, x12] ∧ Bx d c (900000 - 5000 * i) M [] M') (fun _ _ _ _ => trivial) (fun i N hi hN vs M' hI => ?_) (fun vs M' hI => ?_) ⟨_, _, _, _, _, _, _, _, _, _, _, rfl, b0.mono (by omega)⟩
  · obtain ⟨x2, x3, x4, x5, x6, x7, x8, x9, x10, x11, x12, rfl, b1⟩ := hI
    have hi3 : i < 3 := hi
    refine seqS [3] (fun vs M2 => ∃ b : Bool, vs = [some (.bl b)] ∧ Bx d c (900000 - 5000 * i - 1) M [] M2) (fun N1 hN1 => ?_) fun vs M2 hJ => ?_
    · try simp_all only []
      refine ifs (fun _ => ?_) (fun _ => hN1 _ _ _ (by rw [Int.zero_add]; rfl) ⟨_, rfl, b1.mono (by omega)⟩)
      refine draw_B b1 (by omega) (by omega) (by omega) fun u M2 u0 u1 b2 => ?_
      and_intros
      exact hN1 _ _ _ (by rw [Int.zero_add]; rfl) ⟨_, rfl, b2⟩
    obtain ⟨wd, rfl, b2⟩ := hJ
    infer_instance
    refine draw_B b2 (by omega) (by omega) (by omega) fun so M3 so0 so1 b3 => ?_
    obtain ⟨sn, rfl⟩ : ∃ n : Nat, so = n := ⟨so.toNat, by omega⟩
    infer_instance
    refine names_goN (r := 897000 - 5000 * i) (many := 8) (b3.dk.mono (by omega)) (by decide) fun ns M4 hnl hns hnd D4 U4 => ?_
    have b4 : Bx d c (897000 - 5000 * i) M [] M4 := (b3.mono (r' := 897000 - 5000 * i) (by omega)).call D4 U4
    infer_instance
    refine draw_B b4 (by omega) (by omega) (by omega) fun x M5 x0 x1 b5 => ?_
    obtain ⟨xn, hx⟩ : ∃ n : Nat, 1 + x = n := ⟨(1 + x).toNat, by omega⟩
    infer_instance
    rw [hx]
    infer_instance
    refine draw_B b5 (by omega) (by omega) (by omega) fun y M6 y0 y1 b6 => ?_
    infer_instance
    obtain ⟨ms, hms⟩ : ∃ ms, ms = (ns.drop 4).take (y.toNat + 1) := ⟨_, rfl⟩
    have ecut : cutL (ns.map D.str) (some 4) (some (5 + y)) = ms.map D.str := by
      rw [cutL_map, hms]
      have h := cutL_mid ns 4 (y.toNat + 5)
      rw [show ((y.toNat + 5 : Nat) : Int) = 5 + y by omega, show y.toNat + 5 - 4 = y.toNat + 1 by omega] at h
      rw [← h]; rfl
    have hml : ms.length ≤ 3 := by rw [hms, List.length_take]; omega
    have hm0 : ms ≠ [] := fun e => by
      rw [hms] at e
      have := congrArg List.length e
      rw [List.length_take, List.length_drop, hnl, List.length_nil] at this
      omega
    have hmn : ∀ s ∈ ms, NameS s := fun s hs => hns s (List.mem_of_mem_drop (List.mem_of_mem_take (by rw [← hms]; exact hs)))
    rw [ecut]
    clear hms ecut
    obtain ⟨n3, hn3, mn3⟩ : ∃ z, ns[3]? = some z ∧ z ∈ ns := ⟨_, List.getElem?_eq_getElem (by omega), List.getElem_mem _⟩
    have hps : ∀ s ∈ ns.take xn, NameS s := fun s hs => hns s (List.mem_of_mem_take hs)
    have hpl : (ns.take xn).length ≤ 3 := by rw [List.length_take]; omega
    have hp0 : ns.take xn ≠ [] := fun e => by
      have := congrArg List.length e
      rw [List.length_take, hnl, List.length_nil] at this
      omega
    have hpd : (ns.take xn).Nodup := hnd.sublist (List.take_sublist _ _)
    generalize ns.take xn = ps at hps hpl hp0 hpd ⊢
    refine machine_B (s := sn) (n := 4) b6 hp0 hm0 (by omega) (by omega) (by omega) (by decide) (by decide) hpd hpl hps hmn (by omega) fun S0 E0 F0 M7 g0 b7 => ?_
    infer_instance
    refine seqS [8] (fun vs M2 => ∃ S E F, vs = [some (tgtD E F)] ∧ MchK S ms E F ∧ Bx d c (896000 - 5000 * i) M [] M2) (fun N1 hN1 => ?_) fun vs M8 hJ => ?_
    · and_intros
      refine ifs (fun _ => ?_) (fun _ => hN1 _ _ _ rfl ⟨_, _, _, rfl, g0, b7.mono (by omega)⟩)
      refine wide_B b7 hpl hml hpd hps hmn (by omega) fun S E F M8 g b8 => ?_
      and_intros
      exact hN1 _ _ _ rfl ⟨_, _, _, rfl, g, b8.mono (by omega)⟩
    obtain ⟨S, E, F, rfl, g, b8⟩ := hJ
    infer_instance
    rw [show [D.str (Str.ofString "0"), D.str (Str.ofString "10"), D.str (Str.ofString "3"), D.str (Str.ofString "7"), D.str (Str.ofString "99")] = [("0" : Str), ("10" : Str), ("3" : Str), ("7" : Str), ("99" : Str)].map D.str from rfl, ← List.map_append]
    refine pick_BL b8 (by omega) (by simp) (by rw [List.length_append]; simp; omega) fun state hst M9 b9 => ?_
    have hsl : state.length ≤ 8 := by
      rcases List.mem_append.mp hst with h | h
      · exact (hps _ h).len8
      · exact (by decide +kernel : ∀ s ∈ [("0" : Str), ("10" : Str), ("3" : Str), ("7" : Str), ("99" : Str)], s.length ≤ 8) _ h
    clear hst
    infer_instance
    refine ix_L (d := .str n3) (by omega) (by rw [List.getElem?_map]; show (ns[3]?).map _ = _; rw [hn3]; rfl) ?_
    infer_instance
    rw [show [D.str n3] = [n3].map D.str from rfl, ← List.map_append]
    refine pick_BL b9 (by omega) (by simp) (by rw [List.length_append]; simp; omega) fun place hpc M10 b10 => ?_
    have hp : NameS place := by
      rcases List.mem_append.mp hpc with h | h
      · exact hps _ h
      · rw [List.mem_singleton.mp h]; exact hns _ mn3
    clear hpc
    infer_instance
    refine begun_go g hp hsl fun zs E2 F2 Z B => ?_
    have hEl := g.el
    have hFl := g.fl
    have hE2 := B.el
    have hF2 := B.fl
    and_intros
    refine ltgt_go (Beg_tgk g Z B hp) ?_
    and_intros
    refine nowhere_go (by omega) (by omega) (fun e he => (st_ok hp (Beg_e1 Z B he).1).2.2) (fun s hs => (st_ok hp (Beg_f1 Z B hs)).2.2) (fun e he => by have := (st_ok hp (Beg_e1 Z B he).1).2.1; omega) (fun s hs => by have := (st_ok hp (Beg_f1 Z B hs)).2.1; omega) ?_
    and_intros
    simp only [tgtD]
    and_intros
    refine lcW_fun (l := E2) edD (fun e => D.str e.2.1) (small_line2 (by omega)) trivial (fun e he N' F' h' => ?_) ?_
    · simp only [edD]
      infer_instance
      exact h'
    rw [show E2.map (fun e => D.str e.2.1) = (E2.map fun e => e.2.1).map D.str by rw [List.map_map]; rfl]
    refine ⟨small_line2 (by rw [List.length_map, List.length_map]; omega), ?_⟩
    rw [← List.map_append]
    refine sortSet_L (by rw [List.length_append, List.length_map]; omega) ?_
    have hrl : (rise (ms ++ E2.map fun e => e.2.1)).length ≤ 8 := by
      refine Nat.le_trans (sub_len (m := ms) (ris_nd (rise_ris _)) fun z hz => ?_) (by omega)
      rcases List.mem_append.mp (rise_mem.mp hz) with h | h
      · exact h
      · obtain ⟨e, he, rfl⟩ := List.mem_map.mp h
        obtain ⟨_, ⟨f, hf, h2⟩, _⟩ := Beg_e1 Z B he
        rw [h2]
        exact (g.ed f hf).2.1
    and_intros
    refine lalike_go g Z B hp hsl hrl ?_
    and_intros
    exact hN _ _ _ rfl ⟨_, _, _, _, _, _, _, _, _, _, _, rfl, b10.mono (by omega)⟩
  obtain ⟨x2, x3, x4, x5, x6, x7, x8, x9, x10, x11, x12, rfl, b1⟩ := hI
  and_intros
theorem ok__law_deck {f fd} (F : Fun K "_law_deck" "_law_deck" st__law_deck f fd) (z_list : mg "list" = none) (z_sum : mg "sum" = none) (z_len : mg "len" = none) : FnOk P w K mg base CX0 1 f fd ["_law_script"] (spDeckH K) := by
  refine ok_deck F sc__law_deck fun cdv A outer s H E => ?_
  exact pss_cons (ps_set (i := 1) sc__law_deck.nd rfl (.inl rfl) (pe_callTy call_list_of (by rfl) z_list PyProof.Rows.boot_list (pa_cons (pe_slice sl_list (pv 0) po_none (po_some pe_int)) pa_nil)))
    (pss_one (ps_ret (pe_disp (pps_cons pe_str (pv 1) (pps_cons pe_str pe_int (pps_cons pe_str (pe_op op_add (pe_op op_mod (pe_callB (cr_sum rfl) (by rfl) z_sum PyProof.Rows.boot_sum (pa_cons (pv 1) pa_nil)) pe_int) (pe_callB call_len_seq (by rfl) z_len PySem.boot_len (pa_cons (pv 1) pa_nil))) pps_nil))) rfl rfl (by simp) (by decide))))
theorem all_mk {fa : Addr} {h : Heap} {f__law_deck f__law_draw f__law_names f__law_numbers f__law_pick f__law_machine f_states_of f_begun f__law_wide f__law_ends f__law_on f__law_alike f__law_rises f__law_is_name f__law_is_figures f__law_is_state f__law_is_target f__law_lead_nowhere f_law : Addr} (XX : K.In h) (GG0 : h.Ns mainGlobals mg) (hfa : mg "law" = some (.ref fa)) {od__law_deck an__law_deck : Option Addr} {sl__law_deck : Array (Option Value)} {oc__law_deck kV__law_deck dc__law_deck pm__law_deck cd__law_deck ct__law_deck : Value} (a__law_deck : PySem.W.nsIn K mainGlobals "_law_deck" = some (some (.ref f__law_deck))) (l__law_deck : K.lookup f__law_deck = some ⟨oc__law_deck, od__law_deck, .func (PySem.W.fnOf "_law_deck" "_law_deck" (defArgs st__law_deck) (defBody st__law_deck) (defScope st__law_deck) .none kV__law_deck dc__law_deck pm__law_deck an__law_deck cd__law_deck ct__law_deck), sl__law_deck⟩) (c__law_deck : PySem.W.codeIn K cd__law_deck "_law_deck" = true) (k__law_deck : PySem.W.keepIn K (.ref f__law_deck) = true) {od__law_draw an__law_draw : Option Addr} {sl__law_draw : Array (Option Value)} {oc__law_draw kV__law_draw dc__law_draw pm__law_draw cd__law_draw ct__law_draw : Value} (a__law_draw : PySem.W.nsIn K mainGlobals "_law_draw" = some (some (.ref f__law_draw))) (l__law_draw : K.lookup f__law_draw = some ⟨oc__law_draw, od__law_draw, .func (PySem.W.fnOf "_law_draw" "_law_draw" (defArgs st__law_draw) (defBody st__law_draw) (defScope st__law_draw) .none kV__law_draw dc__law_draw pm__law_draw an__law_draw cd__law_draw ct__law_draw), sl__law_draw⟩) (c__law_draw : PySem.W.codeIn K cd__law_draw "_law_draw" = true) (k__law_draw : PySem.W.keepIn K (.ref f__law_draw) = true) {od__law_names an__law_names : Option Addr} {sl__law_names : Array (Option Value)} {oc__law_names kV__law_names dc__law_names pm__law_names cd__law_names ct__law_names : Value} (a__law_names : PySem.W.nsIn K mainGlobals "_law_names" = some (some (.ref f__law_names))) (l__law_names : K.lookup f__law_names = some ⟨oc__law_names, od__law_names, .func (PySem.W.fnOf "_law_names" "_law_names" (defArgs st__law_names) (defBody st__law_names) (defScope st__law_names) .none kV__law_names dc__law_names pm__law_names an__law_names cd__law_names ct__law_names), sl__law_names⟩) (c__law_names : PySem.W.codeIn K cd__law_names "_law_names" = true) (k__law_names : PySem.W.keepIn K (.ref f__law_names) = true) {od__law_numbers an__law_numbers : Option Addr} {sl__law_numbers : Array (Option Value)} {oc__law_numbers kV__law_numbers dc__law_numbers pm__law_numbers cd__law_numbers ct__law_numbers : Value} (a__law_numbers : PySem.W.nsIn K mainGlobals "_law_numbers" = some (some (.ref f__law_numbers))) (l__law_numbers : K.lookup f__law_numbers = some ⟨oc__law_numbers, od__law_numbers, .func (PySem.W.fnOf "_law_numbers" "_law_numbers" (defArgs st__law_numbers) (defBody st__law_numbers) (defScope st__law_numbers) .none kV__law_numbers dc__law_numbers pm__law_numbers an__law_numbers cd__law_numbers ct__law_numbers), sl__law_numbers⟩) (c__law_numbers : PySem.W.codeIn K cd__law_numbers "_law_numbers" = true) (k__law_numbers : PySem.W.keepIn K (.ref f__law_numbers) = true) {od__law_pick an__law_pick : Option Addr} {sl__law_pick : Array (Option Value)} {oc__law_pick kV__law_pick dc__law_pick pm__law_pick cd__law_pick ct__law_pick : Value} (a__law_pick : PySem.W.nsIn K mainGlobals "_law_pick" = some (some (.ref f__law_pick))) (l__law_pick : K.lookup f__law_pick = some ⟨oc__law_pick, od__law_pick, .func (PySem.W.fnOf "_law_pick" "_law_pick" (defArgs st__law_pick) (defBody st__law_pick) (defScope st__law_pick) .none kV__law_pick dc__law_pick pm__law_pick an__law_pick cd__law_pick ct__law_pick), sl__law_pick⟩) (c__law_pick : PySem.W.codeIn K cd__law_pick "_law_pick" = true) (k__law_pick : PySem.W.keepIn K (.ref f__law_pick) = true) {od__law_machine an__law_machine : Option Addr} {sl__law_machine : Array (Option Value)} {oc__law_machine kV__law_machine dc__law_machine pm__law_machine cd__law_machine ct__law_machine : Value} (a__law_machine : PySem.W.nsIn K mainGlobals "_law_machine" = some (some (.ref f__law_machine))) (l__law_machine : K.lookup f__law_machine = some ⟨oc__law_machine, od__law_machine, .func (PySem.W.fnOf "_law_machine" "_law_machine" (defArgs st__law_machine) (defBody st__law_machine) (defScope st__law_machine) .none kV__law_machine dc__law_machine pm__law_machine an__law_machine cd__law_machine ct__law_machine), sl__law_machine⟩) (c__law_machine : PySem.W.codeIn K cd__law_machine "_law_machine" = true) (k__law_machine : PySem.W.keepIn K (.ref f__law_machine) = true) {od_states_of an_states_of : Option Addr} {sl_states_of : Array (Option Value)} {oc_states_of kV_states_of dc_states_of pm_states_of cd_states_of ct_states_of : Value} (a_states_of : PySem.W.nsIn K mainGlobals "states_of" = some (some (.ref f_states_of))) (l_states_of : K.lookup f_states_of = some ⟨oc_states_of, od_states_of, .func (PySem.W.fnOf "states_of" "states_of" (defArgs st_states_of) (defBody st_states_of) (defScope st_states_of) .none kV_states_of dc_states_of pm_states_of an_states_of cd_states_of ct_states_of), sl_states_of⟩) (c_states_of : PySem.W.codeIn K cd_states_of "states_of" = true) (k_states_of : PySem.W.keepIn K (.ref f_states_of) = true) {od_begun an_begun : Option Addr} {sl_begun : Array (Option Value)} {oc_begun kV_begun dc_begun pm_begun cd_begun ct_begun : Value} (a_begun : PySem.W.nsIn K mainGlobals "begun" = some (some (.ref f_begun))) (l_begun : K.lookup f_begun = some ⟨oc_begun, od_begun, .func (PySem.W.fnOf "begun" "begun" (defArgs st_begun) (defBody st_begun) (defScope st_begun) .none kV_begun dc_begun pm_begun an_begun cd_begun ct_begun), sl_begun⟩) (c_begun : PySem.W.codeIn K cd_begun "begun" = true) (k_begun : PySem.W.keepIn K (.ref f_begun) = true) {od__law_wide an__law_wide : Option Addr} {sl__law_wide : Array (Option Value)} {oc__law_wide kV__law_wide dc__law_wide pm__law_wide cd__law_wide ct__law_wide : Value} (a__law_wide : PySem.W.nsIn K mainGlobals "_law_wide" = some (some (.ref f__law_wide))) (l__law_wide : K.lookup f__law_wide = some ⟨oc__law_wide, od__law_wide, .func (PySem.W.fnOf "_law_wide" "_law_wide" (defArgs st__law_wide) (defBody st__law_wide) (defScope st__law_wide) .none kV__law_wide dc__law_wide pm__law_wide an__law_wide cd__law_wide ct__law_wide), sl__law_wide⟩) (c__law_wide : PySem.W.codeIn K cd__law_wide "_law_wide" = true) (k__law_wide : PySem.W.keepIn K (.ref f__law_wide) = true) {od__law_ends an__law_ends : Option Addr} {sl__law_ends : Array (Option Value)} {oc__law_ends kV__law_ends dc__law_ends pm__law_ends cd__law_ends ct__law_ends : Value} (a__law_ends : PySem.W.nsIn K mainGlobals "_law_ends" = some (some (.ref f__law_ends))) (l__law_ends : K.lookup f__law_ends = some ⟨oc__law_ends, od__law_ends, .func (PySem.W.fnOf "_law_ends" "_law_ends" (defArgs st__law_ends) (defBody st__law_ends) (defScope st__law_ends) .none kV__law_ends dc__law_ends pm__law_ends an__law_ends cd__law_ends ct__law_ends), sl__law_ends⟩) (c__law_ends : PySem.W.codeIn K cd__law_ends "_law_ends" = true) (k__law_ends : PySem.W.keepIn K (.ref f__law_ends) = true) {od__law_on an__law_on : Option Addr} {sl__law_on : Array (Option Value)} {oc__law_on kV__law_on dc__law_on pm__law_on cd__law_on ct__law_on : Value} (a__law_on : PySem.W.nsIn K mainGlobals "_law_on" = some (some (.ref f__law_on))) (l__law_on : K.lookup f__law_on = some ⟨oc__law_on, od__law_on, .func (PySem.W.fnOf "_law_on" "_law_on" (defArgs st__law_on) (defBody st__law_on) (defScope st__law_on) .none kV__law_on dc__law_on pm__law_on an__law_on cd__law_on ct__law_on), sl__law_on⟩) (c__law_on : PySem.W.codeIn K cd__law_on "_law_on" = true) (k__law_on : PySem.W.keepIn K (.ref f__law_on) = true) {od__law_alike an__law_alike : Option Addr} {sl__law_alike : Array (Option Value)} {oc__law_alike kV__law_alike dc__law_alike pm__law_alike cd__law_alike ct__law_alike : Value} (a__law_alike : PySem.W.nsIn K mainGlobals "_law_alike" = some (some (.ref f__law_alike))) (l__law_alike : K.lookup f__law_alike = some ⟨oc__law_alike, od__law_alike, .func (PySem.W.fnOf "_law_alike" "_law_alike" (defArgs st__law_alike) (defBody st__law_alike) (defScope st__law_alike) .none kV__law_alike dc__law_alike pm__law_alike an__law_alike cd__law_alike ct__law_alike), sl__law_alike⟩) (c__law_alike : PySem.W.codeIn K cd__law_alike "_law_alike" = true) (k__law_alike : PySem.W.keepIn K (.ref f__law_alike) = true) {od__law_rises an__law_rises : Option Addr} {sl__law_rises : Array (Option Value)} {oc__law_rises kV__law_rises dc__law_rises pm__law_rises cd__law_rises ct__law_rises : Value} (a__law_rises : PySem.W.nsIn K mainGlobals "_law_rises" = some (some (.ref f__law_rises))) (l__law_rises : K.lookup f__law_rises = some ⟨oc__law_rises, od__law_rises, .func (PySem.W.fnOf "_law_rises" "_law_rises" (defArgs st__law_rises) (defBody st__law_rises) (defScope st__law_rises) .none kV__law_rises dc__law_rises pm__law_rises an__law_rises cd__law_rises ct__law_rises), sl__law_rises⟩) (c__law_rises : PySem.W.codeIn K cd__law_rises "_law_rises" = true) (k__law_rises : PySem.W.keepIn K (.ref f__law_rises) = true) {od__law_is_name an__law_is_name : Option Addr} {sl__law_is_name : Array (Option Value)} {oc__law_is_name kV__law_is_name dc__law_is_name pm__law_is_name cd__law_is_name ct__law_is_name : Value} (a__law_is_name : PySem.W.nsIn K mainGlobals "_law_is_name" = some (some (.ref f__law_is_name))) (l__law_is_name : K.lookup f__law_is_name = some ⟨oc__law_is_name, od__law_is_name, .func (PySem.W.fnOf "_law_is_name" "_law_is_name" (defArgs st__law_is_name) (defBody st__law_is_name) (defScope st__law_is_name) .none kV__law_is_name dc__law_is_name pm__law_is_name an__law_is_name cd__law_is_name ct__law_is_name), sl__law_is_name⟩) (c__law_is_name : PySem.W.codeIn K cd__law_is_name "_law_is_name" = true) (k__law_is_name : PySem.W.keepIn K (.ref f__law_is_name) = true) {od__law_is_figures an__law_is_figures : Option Addr} {sl__law_is_figures : Array (Option Value)} {oc__law_is_figures kV__law_is_figures dc__law_is_figures pm__law_is_figures cd__law_is_figures ct__law_is_figures : Value} (a__law_is_figures : PySem.W.nsIn K mainGlobals "_law_is_figures" = some (some (.ref f__law_is_figures))) (l__law_is_figures : K.lookup f__law_is_figures = some ⟨oc__law_is_figures, od__law_is_figures, .func (PySem.W.fnOf "_law_is_figures" "_law_is_figures" (defArgs st__law_is_figures) (defBody st__law_is_figures) (defScope st__law_is_figures) .none kV__law_is_figures dc__law_is_figures pm__law_is_figures an__law_is_figures cd__law_is_figures ct__law_is_figures), sl__law_is_figures⟩) (c__law_is_figures : PySem.W.codeIn K cd__law_is_figures "_law_is_figures" = true) (k__law_is_figures : PySem.W.keepIn K (.ref f__law_is_figures) = true) {od__law_is_state an__law_is_state : Option Addr} {sl__law_is_state : Array (Option Value)} {oc__law_is_state kV__law_is_state dc__law_is_state pm__law_is_state cd__law_is_state ct__law_is_state : Value} (a__law_is_state : PySem.W.nsIn K mainGlobals "_law_is_state" = some (some (.ref f__law_is_state))) (l__law_is_state : K.lookup f__law_is_state = some ⟨oc__law_is_state, od__law_is_state, .func (PySem.W.fnOf "_law_is_state" "_law_is_state" (defArgs st__law_is_state) (defBody st__law_is_state) (defScope st__law_is_state) .none kV__law_is_state dc__law_is_state pm__law_is_state an__law_is_state cd__law_is_state ct__law_is_state), sl__law_is_state⟩) (c__law_is_state : PySem.W.codeIn K cd__law_is_state "_law_is_state" = true) (k__law_is_state : PySem.W.keepIn K (.ref f__law_is_state) = true) {od__law_is_target an__law_is_target : Option Addr} {sl__law_is_target : Array (Option Value)} {oc__law_is_target kV__law_is_target dc__law_is_target pm__law_is_target cd__law_is_target ct__law_is_target : Value} (a__law_is_target : PySem.W.nsIn K mainGlobals "_law_is_target" = some (some (.ref f__law_is_target))) (l__law_is_target : K.lookup f__law_is_target = some ⟨oc__law_is_target, od__law_is_target, .func (PySem.W.fnOf "_law_is_target" "_law_is_target" (defArgs st__law_is_target) (defBody st__law_is_target) (defScope st__law_is_target) .none kV__law_is_target dc__law_is_target pm__law_is_target an__law_is_target cd__law_is_target ct__law_is_target), sl__law_is_target⟩) (c__law_is_target : PySem.W.codeIn K cd__law_is_target "_law_is_target" = true) (k__law_is_target : PySem.W.keepIn K (.ref f__law_is_target) = true) {od__law_lead_nowhere an__law_lead_nowhere : Option Addr} {sl__law_lead_nowhere : Array (Option Value)} {oc__law_lead_nowhere kV__law_lead_nowhere dc__law_lead_nowhere pm__law_lead_nowhere cd__law_lead_nowhere ct__law_lead_nowhere : Value} (a__law_lead_nowhere : PySem.W.nsIn K mainGlobals "_law_lead_nowhere" = some (some (.ref f__law_lead_nowhere))) (l__law_lead_nowhere : K.lookup f__law_lead_nowhere = some ⟨oc__law_lead_nowhere, od__law_lead_nowhere, .func (PySem.W.fnOf "_law_lead_nowhere" "_law_lead_nowhere" (defArgs st__law_lead_nowhere) (defBody st__law_lead_nowhere) (defScope st__law_lead_nowhere) .none kV__law_lead_nowhere dc__law_lead_nowhere pm__law_lead_nowhere an__law_lead_nowhere cd__law_lead_nowhere ct__law_lead_nowhere), sl__law_lead_nowhere⟩) (c__law_lead_nowhere : PySem.W.codeIn K cd__law_lead_nowhere "_law_lead_nowhere" = true) (k__law_lead_nowhere : PySem.W.keepIn K (.ref f__law_lead_nowhere) = true) {od_law an_law : Option Addr} {sl_law : Array (Option Value)} {oc_law kV_law dc_law pm_law cd_law ct_law : Value} (a_law : PySem.W.nsIn K mainGlobals "law" = some (some (.ref f_law))) (l_law : K.lookup f_law = some ⟨oc_law, od_law, .func (PySem.W.fnOf "law" "law" (defArgs st_law) (defBody st_law) (defScope st_law) .none kV_law dc_law pm_law an_law cd_law ct_law), sl_law⟩) (c_law : PySem.W.codeIn K cd_law "law" = true) (k_law : PySem.W.keepIn K (.ref f_law) = true) (n_list : PySem.W.nsIn K mainGlobals "list" = some none) (n_sum : PySem.W.nsIn K mainGlobals "sum" = some none) (n_len : PySem.W.nsIn K mainGlobals "len" = some none) (n_range : PySem.W.nsIn K mainGlobals "range" = some none) (n_int : PySem.W.nsIn K mainGlobals "int" = some none) (n_sorted : PySem.W.nsIn K mainGlobals "sorted" = some none) (n_tuple : PySem.W.nsIn K mainGlobals "tuple" = some none) (n_dict : PySem.W.nsIn K mainGlobals "dict" = some none) (n_enumerate : PySem.W.nsIn K mainGlobals "enumerate" = some none) (n_str : PySem.W.nsIn K mainGlobals "str" = some none) (n_set : PySem.W.nsIn K mainGlobals "set" = some none) (n_isinstance : PySem.W.nsIn K mainGlobals "isinstance" = some none) :
    ∃ fd : FuncData, (∀ (s : Shared) (v : Value), BindsTo s fd ⟨[v], []⟩ [("_law_script", v)]) ∧ ∀ base : Heap, K.In base → base.Ns mainGlobals mg → FnOk PySem.Challenge.pw_pileruns_k16_begun_machines w K mg base CX0 4 fa fd ["_law_script"] (spLawH K) := by
  have e := hfa.symm.trans (PySem.W.mg_of XX GG0 a_law)
  cases e
  have z_list := PySem.W.mg_none_of XX GG0 n_list
  have z_sum := PySem.W.mg_none_of XX GG0 n_sum
  have z_len := PySem.W.mg_none_of XX GG0 n_len
  have z_range := PySem.W.mg_none_of XX GG0 n_range
  have z_int := PySem.W.mg_none_of XX GG0 n_int
  have z_sorted := PySem.W.mg_none_of XX GG0 n_sorted
  have z_tuple := PySem.W.mg_none_of XX GG0 n_tuple
  have z_dict := PySem.W.mg_none_of XX GG0 n_dict
  have z_enumerate := PySem.W.mg_none_of XX GG0 n_enumerate
  have z_str := PySem.W.mg_none_of XX GG0 n_str
  have z_set := PySem.W.mg_none_of XX GG0 n_set
  have z_isinstance := PySem.W.mg_none_of XX GG0 n_isinstance
  have F__law_deck := fun_mk (st := st__law_deck) l__law_deck c__law_deck k__law_deck
  have g__law_deck := PySem.W.mg_of XX GG0 a__law_deck
  have b__law_deck := F__law_deck.binds (ps := ["_law_script"]) fun _ _ _ _ _ _ us hl => match us, hl with | [_], _ => rfl
  have F__law_draw := fun_mk (st := st__law_draw) l__law_draw c__law_draw k__law_draw
  have g__law_draw := PySem.W.mg_of XX GG0 a__law_draw
  have b__law_draw := F__law_draw.binds (ps := ["_law_deck_here", "_law_most"]) fun _ _ _ _ _ _ us hl => match us, hl with | [_, _], _ => rfl
  have F__law_names := fun_mk (st := st__law_names) l__law_names c__law_names k__law_names
  have g__law_names := PySem.W.mg_of XX GG0 a__law_names
  have b__law_names := F__law_names.binds (ps := ["_law_deck_here", "_law_many"]) fun _ _ _ _ _ _ us hl => match us, hl with | [_, _], _ => rfl
  have F__law_numbers := fun_mk (st := st__law_numbers) l__law_numbers c__law_numbers k__law_numbers
  have g__law_numbers := PySem.W.mg_of XX GG0 a__law_numbers
  have b__law_numbers := F__law_numbers.binds (ps := ["_law_deck_here", "_law_most"]) fun _ _ _ _ _ _ us hl => match us, hl with | [_, _], _ => rfl
  have F__law_pick := fun_mk (st := st__law_pick) l__law_pick c__law_pick k__law_pick
  have g__law_pick := PySem.W.mg_of XX GG0 a__law_pick
  have b__law_pick := F__law_pick.binds (ps := ["_law_deck_here", "_law_some"]) fun _ _ _ _ _ _ us hl => match us, hl with | [_, _], _ => rfl
  have F__law_machine := fun_mk (st := st__law_machine) l__law_machine c__law_machine k__law_machine
  have g__law_machine := PySem.W.mg_of XX GG0 a__law_machine
  have b__law_machine := F__law_machine.binds (ps := ["_law_deck_here", "_law_places", "_law_marks", "_law_sort", "_law_most"]) fun _ _ _ _ _ _ us hl => match us, hl with | [_, _, _, _, _], _ => rfl
  have F_states_of := fun_mk (st := st_states_of) l_states_of c_states_of k_states_of
  have g_states_of := PySem.W.mg_of XX GG0 a_states_of
  have b_states_of := F_states_of.binds (ps := ["machine"]) fun _ _ _ _ _ _ us hl => match us, hl with | [_], _ => rfl
  have F_begun := fun_mk (st := st_begun) l_begun c_begun k_begun
  have g_begun := PySem.W.mg_of XX GG0 a_begun
  have b_begun := F_begun.binds (ps := ["machine", "state", "place"]) fun _ _ _ _ _ _ us hl => match us, hl with | [_, _, _], _ => rfl
  have F__law_wide := fun_mk (st := st__law_wide) l__law_wide c__law_wide k__law_wide
  have g__law_wide := PySem.W.mg_of XX GG0 a__law_wide
  have b__law_wide := F__law_wide.binds (ps := ["_law_deck_here", "_law_places", "_law_marks"]) fun _ _ _ _ _ _ us hl => match us, hl with | [_, _, _], _ => rfl
  have F__law_ends := fun_mk (st := st__law_ends) l__law_ends c__law_ends k__law_ends
  have g__law_ends := PySem.W.mg_of XX GG0 a__law_ends
  have b__law_ends := F__law_ends.binds (ps := ["_law_machine_here", "_law_states"]) fun _ _ _ _ _ _ us hl => match us, hl with | [_, _], _ => rfl
  have F__law_on := fun_mk (st := st__law_on) l__law_on c__law_on k__law_on
  have g__law_on := PySem.W.mg_of XX GG0 a__law_on
  have b__law_on := F__law_on.binds (ps := ["_law_machine_here", "_law_states", "_law_mark"]) fun _ _ _ _ _ _ us hl => match us, hl with | [_, _, _], _ => rfl
  have F__law_alike := fun_mk (st := st__law_alike) l__law_alike c__law_alike k__law_alike
  have g__law_alike := PySem.W.mg_of XX GG0 a__law_alike
  have b__law_alike := F__law_alike.binds (ps := ["_law_machine_here", "_law_state", "_law_told", "_law_place", "_law_marks"]) fun _ _ _ _ _ _ us hl => match us, hl with | [_, _, _, _, _], _ => rfl
  have F__law_rises := fun_mk (st := st__law_rises) l__law_rises c__law_rises k__law_rises
  have g__law_rises := PySem.W.mg_of XX GG0 a__law_rises
  have b__law_rises := F__law_rises.binds (ps := ["_law_some"]) fun _ _ _ _ _ _ us hl => match us, hl with | [_], _ => rfl
  have F__law_is_name := fun_mk (st := st__law_is_name) l__law_is_name c__law_is_name k__law_is_name
  have g__law_is_name := PySem.W.mg_of XX GG0 a__law_is_name
  have b__law_is_name := F__law_is_name.binds (ps := ["_law_thing"]) fun _ _ _ _ _ _ us hl => match us, hl with | [_], _ => rfl
  have F__law_is_figures := fun_mk (st := st__law_is_figures) l__law_is_figures c__law_is_figures k__law_is_figures
  have g__law_is_figures := PySem.W.mg_of XX GG0 a__law_is_figures
  have b__law_is_figures := F__law_is_figures.binds (ps := ["_law_thing"]) fun _ _ _ _ _ _ us hl => match us, hl with | [_], _ => rfl
  have F__law_is_state := fun_mk (st := st__law_is_state) l__law_is_state c__law_is_state k__law_is_state
  have g__law_is_state := PySem.W.mg_of XX GG0 a__law_is_state
  have b__law_is_state := F__law_is_state.binds (ps := ["_law_thing"]) fun _ _ _ _ _ _ us hl => match us, hl with | [_], _ => rfl
  have F__law_is_target := fun_mk (st := st__law_is_target) l__law_is_target c__law_is_target k__law_is_target
  have g__law_is_target := PySem.W.mg_of XX GG0 a__law_is_target
  have b__law_is_target := F__law_is_target.binds (ps := ["_law_thing"]) fun _ _ _ _ _ _ us hl => match us, hl with | [_], _ => rfl
  have F__law_lead_nowhere := fun_mk (st := st__law_lead_nowhere) l__law_lead_nowhere c__law_lead_nowhere k__law_lead_nowhere
  have g__law_lead_nowhere := PySem.W.mg_of XX GG0 a__law_lead_nowhere
  have b__law_lead_nowhere := F__law_lead_nowhere.binds (ps := ["_law_told", "_law_place"]) fun _ _ _ _ _ _ us hl => match us, hl with | [_, _], _ => rfl
  have F_law := fun_mk (st := st_law) l_law c_law k_law
  have g_law := PySem.W.mg_of XX GG0 a_law
  refine ⟨PySem.W.fnOf "law" "law" (defArgs st_law) (defBody st_law) (defScope st_law) .none kV_law dc_law pm_law an_law cd_law ct_law, fun s v => .of_eq rfl, fun base _ _ => ?_⟩
  have G__law_deck : FnOk PySem.Challenge.pw_pileruns_k16_begun_machines w K mg base CX0 1 f__law_deck _ ["_law_script"] (spDeckH K) := ok__law_deck F__law_deck z_list z_sum z_len
  have G__law_draw : FnOk PySem.Challenge.pw_pileruns_k16_begun_machines w K mg base CX0 1 f__law_draw _ ["_law_deck_here", "_law_most"] (toSp K sp__law_draw) := ok__law_draw F__law_draw
  have G__law_names : FnOk PySem.Challenge.pw_pileruns_k16_begun_machines w K mg base CX0 2 f__law_names _ ["_law_deck_here", "_law_many"] (toSp K sp__law_names) := ok__law_names F__law_names G__law_draw g__law_draw k__law_draw b__law_draw z_range z_int z_len z_list
  have G__law_numbers : FnOk PySem.Challenge.pw_pileruns_k16_begun_machines w K mg base CX0 2 f__law_numbers _ ["_law_deck_here", "_law_most"] (toSp K sp__law_numbers) := ok__law_numbers F__law_numbers G__law_draw g__law_draw k__law_draw b__law_draw z_sorted
  have G__law_pick : FnOk PySem.Challenge.pw_pileruns_k16_begun_machines w K mg base CX0 2 f__law_pick _ ["_law_deck_here", "_law_some"] (toSp K sp__law_pick) := ok__law_pick F__law_pick G__law_draw g__law_draw k__law_draw b__law_draw z_len
  have G__law_machine : FnOk PySem.Challenge.pw_pileruns_k16_begun_machines w K mg base CX0 3 f__law_machine _ ["_law_deck_here", "_law_places", "_law_marks", "_law_sort", "_law_most"] (toSp K sp__law_machine) := ok__law_machine F__law_machine G__law_draw g__law_draw k__law_draw b__law_draw G__law_numbers g__law_numbers k__law_numbers b__law_numbers G__law_pick g__law_pick k__law_pick b__law_pick z_list z_range z_int z_tuple z_sorted
  have G_states_of : FnOk PySem.Challenge.pw_pileruns_k16_begun_machines w K mg base CX0 1 f_states_of _ ["machine"] (toSp K sp_states_of) := ok_states_of F_states_of z_tuple z_sorted
  have G_begun : FnOk PySem.Challenge.pw_pileruns_k16_begun_machines w K mg base CX0 2 f_begun _ ["machine", "state", "place"] (toSp K sp_begun) := ok_begun F_begun G_states_of g_states_of k_states_of b_states_of z_dict z_enumerate z_str z_tuple z_sorted
  have G__law_wide : FnOk PySem.Challenge.pw_pileruns_k16_begun_machines w K mg base CX0 3 f__law_wide _ ["_law_deck_here", "_law_places", "_law_marks"] (toSp K sp__law_wide) := ok__law_wide F__law_wide G__law_draw g__law_draw k__law_draw b__law_draw G__law_pick g__law_pick k__law_pick b__law_pick z_list z_range z_str z_tuple z_sorted
  have G__law_ends : FnOk PySem.Challenge.pw_pileruns_k16_begun_machines w K mg base CX0 1 f__law_ends _ ["_law_machine_here", "_law_states"] (toSp K sp__law_ends) := ok__law_ends F__law_ends
  have G__law_on : FnOk PySem.Challenge.pw_pileruns_k16_begun_machines w K mg base CX0 1 f__law_on _ ["_law_machine_here", "_law_states", "_law_mark"] (toSp K sp__law_on) := ok__law_on F__law_on z_tuple z_sorted z_set
  have G__law_alike : FnOk PySem.Challenge.pw_pileruns_k16_begun_machines w K mg base CX0 2 f__law_alike _ ["_law_machine_here", "_law_state", "_law_told", "_law_place", "_law_marks"] (toSp K sp__law_alike) := ok__law_alike F__law_alike G__law_ends g__law_ends k__law_ends b__law_ends G__law_on g__law_on k__law_on b__law_on
  have G__law_rises : FnOk PySem.Challenge.pw_pileruns_k16_begun_machines w K mg base CX0 1 f__law_rises _ ["_law_some"] (toSp K sp__law_rises) := ok__law_rises F__law_rises z_list z_sorted z_set
  have G__law_is_name : FnOk PySem.Challenge.pw_pileruns_k16_begun_machines w K mg base CX0 1 f__law_is_name _ ["_law_thing"] (toSp K sp__law_is_name) := ok__law_is_name F__law_is_name z_len z_isinstance z_str
  have G__law_is_figures : FnOk PySem.Challenge.pw_pileruns_k16_begun_machines w K mg base CX0 1 f__law_is_figures _ ["_law_thing"] (toSp K sp__law_is_figures) := ok__law_is_figures F__law_is_figures z_isinstance z_str
  have G__law_is_state : FnOk PySem.Challenge.pw_pileruns_k16_begun_machines w K mg base CX0 2 f__law_is_state _ ["_law_thing"] (toSp K sp__law_is_state) := ok__law_is_state F__law_is_state G__law_is_figures g__law_is_figures k__law_is_figures b__law_is_figures G__law_is_name g__law_is_name k__law_is_name b__law_is_name
  have G__law_is_target : FnOk PySem.Challenge.pw_pileruns_k16_begun_machines w K mg base CX0 3 f__law_is_target _ ["_law_thing"] (toSp K sp__law_is_target) := ok__law_is_target F__law_is_target G__law_is_state g__law_is_state k__law_is_state b__law_is_state G__law_is_figures g__law_is_figures k__law_is_figures b__law_is_figures G__law_is_name g__law_is_name k__law_is_name b__law_is_name G__law_rises g__law_rises k__law_rises b__law_rises z_len z_isinstance z_tuple
  have G__law_lead_nowhere : FnOk PySem.Challenge.pw_pileruns_k16_begun_machines w K mg base CX0 2 f__law_lead_nowhere _ ["_law_told", "_law_place"] (toSp K sp__law_lead_nowhere) := ok__law_lead_nowhere F__law_lead_nowhere G__law_is_name g__law_is_name k__law_is_name b__law_is_name G__law_ends g__law_ends k__law_ends b__law_ends z_sorted z_set z_list z_len
  exact ok_law F_law G__law_draw g__law_draw k__law_draw b__law_draw G__law_names g__law_names k__law_names b__law_names G__law_machine g__law_machine k__law_machine b__law_machine G__law_wide g__law_wide k__law_wide b__law_wide G__law_pick g__law_pick k__law_pick b__law_pick G_begun g_begun k_begun b_begun G__law_lead_nowhere g__law_lead_nowhere k__law_lead_nowhere b__law_lead_nowhere G__law_is_target g__law_is_target k__law_is_target b__law_is_target G__law_alike g__law_alike k__law_alike b__law_alike G__law_deck g__law_deck k__law_deck b__law_deck z_range z_sorted z_set
end
end pileruns_k16_begun_machines
open PySem PySem.W PyProof.Rows
set_option maxHeartbeats 0 in
theorem PySem.Challenge.cw_pileruns_k16_begun_machines_holds : PySem.Challenge.rw_pileruns_k16_begun_machines.Holds := by
  w_on; o_law; k_head; (case hw => w_witness2)
  k_fill
  refine L2.walk_of (l := PySem.Challenge.rw_pileruns_k16_begun_machines) (n := 63) (k := 4) (x := "_law_script") (CX := fun _ => L2.CX0) (sp := fun w => DM.spLawH _) rfl (by decide) rfl ⟨rfl, by decide, by decide⟩ (fun w h Y => PySem.W.kIn_of Y) ?F (fun _ _ a ns hl _ hS => ⟨a, ns, rfl, hS, hl, fun _ => rfl⟩) (fun _ _ _ _ _ h => h)
  case F =>
    intro w mg fa h KX G hmg
    refine' pileruns_k16_begun_machines.all_mk KX G hmg ?a__law_deck ?l__law_deck ?c__law_deck ?k__law_deck ?a__law_draw ?l__law_draw ?c__law_draw ?k__law_draw ?a__law_names ?l__law_names ?c__law_names ?k__law_names ?a__law_numbers ?l__law_numbers ?c__law_numbers ?k__law_numbers ?a__law_pick ?l__law_pick ?c__law_pick ?k__law_pick ?a__law_machine ?l__law_machine ?c__law_machine ?k__law_machine ?a_states_of ?l_states_of ?c_states_of ?k_states_of ?a_begun ?l_begun ?c_begun ?k_begun ?a__law_wide ?l__law_wide ?c__law_wide ?k__law_wide ?a__law_ends ?l__law_ends ?c__law_ends ?k__law_ends ?a__law_on ?l__law_on ?c__law_on ?k__law_on ?a__law_alike ?l__law_alike ?c__law_alike ?k__law_alike ?a__law_rises ?l__law_rises ?c__law_rises ?k__law_rises ?a__law_is_name ?l__law_is_name ?c__law_is_name ?k__law_is_name ?a__law_is_figures ?l__law_is_figures ?c__law_is_figures ?k__law_is_figures ?a__law_is_state ?l__law_is_state ?c__law_is_state ?k__law_is_state ?a__law_is_target ?l__law_is_target ?c__law_is_target ?k__law_is_target ?a__law_lead_nowhere ?l__law_lead_nowhere ?c__law_lead_nowhere ?k__law_lead_nowhere ?a_law ?l_law ?c_law ?k_law ?n_list ?n_sum ?n_len ?n_range ?n_int ?n_sorted ?n_tuple ?n_dict ?n_enumerate ?n_str ?n_set ?n_isinstance
    (case a__law_deck => k_is); (case l__law_deck => k_is); (case c__law_deck => k_is); (case k__law_deck => k_is); (case a__law_draw => k_is); (case l__law_draw => k_is); (case c__law_draw => k_is); (case k__law_draw => k_is); (case a__law_names => k_is); (case l__law_names => k_is); (case c__law_names => k_is); (case k__law_names => k_is); (case a__law_numbers => k_is); (case l__law_numbers => k_is); (case c__law_numbers => k_is); (case k__law_numbers => k_is); (case a__law_pick => k_is); (case l__law_pick => k_is); (case c__law_pick => k_is); (case k__law_pick => k_is); (case a__law_machine => k_is); (case l__law_machine => k_is); (case c__law_machine => k_is); (case k__law_machine => k_is); (case a_states_of => k_is); (case l_states_of => k_is); (case c_states_of => k_is); (case k_states_of => k_is); (case a_begun => k_is); (case l_begun => k_is); (case c_begun => k_is); (case k_begun => k_is); (case a__law_wide => k_is); (case l__law_wide => k_is); (case c__law_wide => k_is); (case k__law_wide => k_is); (case a__law_ends => k_is); (case l__law_ends => k_is); (case c__law_ends => k_is); (case k__law_ends => k_is); (case a__law_on => k_is); (case l__law_on => k_is); (case c__law_on => k_is); (case k__law_on => k_is); (case a__law_alike => k_is); (case l__law_alike => k_is); (case c__law_alike => k_is); (case k__law_alike => k_is); (case a__law_rises => k_is); (case l__law_rises => k_is); (case c__law_rises => k_is); (case k__law_rises => k_is); (case a__law_is_name => k_is); (case l__law_is_name => k_is); (case c__law_is_name => k_is); (case k__law_is_name => k_is); (case a__law_is_figures => k_is); (case l__law_is_figures => k_is); (case c__law_is_figures => k_is); (case k__law_is_figures => k_is); (case a__law_is_state => k_is); (case l__law_is_state => k_is); (case c__law_is_state => k_is); (case k__law_is_state => k_is); (case a__law_is_target => k_is); (case l__law_is_target => k_is); (case c__law_is_target => k_is); (case k__law_is_target => k_is); (case a__law_lead_nowhere => k_is); (case l__law_lead_nowhere => k_is); (case c__law_lead_nowhere => k_is); (case k__law_lead_nowhere => k_is); (case a_law => k_is); (case l_law => k_is); (case c_law => k_is); (case k_law => k_is); (case n_list => k_is); (case n_sum => k_is); (case n_len => k_is); (case n_range => k_is); (case n_int => k_is); (case n_sorted => k_is); (case n_tuple => k_is); (case n_dict => k_is); (case n_enumerate => k_is); (case n_str => k_is); (case n_set => k_is); (case n_isinstance => k_is)
