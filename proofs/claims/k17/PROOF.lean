import PyProof.Rows.All
import Wide.All
import OpenK.AllK
import Wide.FinOn
import HandS.ForMost
import HandS.TupAny
import HandS.TupMul
import HandS.Zip
import HandS.Conv
import PyProof.ListMulRoad
import PyProof.FactsAll.tuple_2
import HandS.IsInst
import HandS.Style
import HandS.Deep
import HandS.Flow
import HandS.Wide
import HandS.Exc
import HandS.ExcOwn
import HandS.WordsExc
import HandS.TryOnly
import KE.KRevSl
import HandS.WordsDict
import HandS.More
import HandS.Replace
import KE.GoesEnum
import HandS.ExcInit
import HandS.ExcIs
import HandS.ExcField
import HandS.RaiseMore
import KE.SortData
import PyProof.ReprRoads
import PyProof.StrLawsRepr
import HandS.TupLen
import HandS.SetFor
import HandS.Strs
import HandS.TupSets
import HandS.SetKeys
import PyProof.DictMoreH
import KE.KDictPairs
import PyProof.Rows.StrJoinMade
import HandS.Iter
import KE.KDictWalk
import KE.KDictZip
import KE.DataCmp
import PyProof.TupleOfStr
import KE.DataEq
import PyProof.ReprBulk
import PyProof.Rows.StrDigitsNeg
import PyProof.Rows.StrFit
import PyProof.Rows.StrCase
import PyProof.CallStr
import PyProof.Rows.RegIntBool
import HandS.Sort
import PySem.Challenge.RW_pileruns_k17_first_missing
set_option Elab.async false
set_option linter.all false
set_option maxRecDepth 100000
set_option maxHeartbeats 6000000
namespace DM
open PySem L2
def tupH (c : Bool) (ob : Obj) (vs : List V) : HO := match c with
  | true => .frz ob (.tup vs)
  | false => .tup vs
def NewT (H : Hp) (vs : List V) (Q : VK) : Prop := ∃ c : Bool, ∀ (p : Addr) (ob : Obj), ob.dict = none → H p = none → Q (.ref p) (upd H p (tupH c ob vs))
section
variable {P : Program} {w : World} {H : Hp} {h : Heap} {a : Addr}
theorem ok_tupH {c : Bool} {ob : Obj} {vs : List V} {its : List Value} {n : Nat} (z : vs.length ≤ sizeLine) (r : Vals vs its) (e : h.get? a = some ob) (hc : ob.cls = .type "tuple") (hd : ob.data = .seq its.toArray n) : ObjOk P w H h a (tupH c ob vs) := by
  cases c
  · exact ⟨z, its, r, ob, e, hc, n, hd⟩
  · exact ⟨e, z, its, r, ob, e, hc, n, hd⟩
end
section
variable {X : Cx} {pins : List (Addr × Obj)} {σ : L2.St} {H : Hp} {s : Shared}
theorem inv_newT {vs : List V} {its : List Value} {Q : VK} {tk : Nat} (I : Inv X pins σ H s) (r : Vals vs its) (z : vs.length ≤ sizeLine) (q : NewT H vs Q) :
    EP X pins σ Q (.ref s.heap.objs.size) { s with heap := s.heap.push { cls := .type "tuple", data := .seq its.toArray }, toks := tk } := by
  obtain ⟨c, q⟩ := q
  have old := I.hok.fresh (Nat.le_refl s.heap.objs.size)
  have new : ObjOk X.prog X.w (upd H s.heap.objs.size (tupH c { cls := .type "tuple", data := .seq its.toArray } vs)) (s.heap.push { cls := .type "tuple", data := .seq its.toArray }) s.heap.objs.size (tupH c { cls := .type "tuple", data := .seq its.toArray } vs) :=
    ok_tupH z r (Heap.get?_push_size _ rfl) rfl rfl
  exact ⟨.ref s.heap.objs.size, _, I.laid (t' := tk) (fun _ _ g => Heap.get?_push_of_some _ g) (Nat.le_refl _) new, rfl, q _ _ rfl old⟩
end
section
variable {X : Cx} {es : List Expr} {t : TA} {pos : Pos}
def tTupC (t : TA) : TE := fun σ H Q => t σ H fun xs H1 => xs.length ≤ sizeLine ∧ NewT H1 xs Q
theorem pe_tupC {x1} (h : PA X es t) : PE X (.Tuple es x1 pos) (tTupC t) := by
  constructor
  intro pins s σ H Q I hq
  refine wpAny_Tuple_spliced (thn (h.run pos pins s σ H _ I hq) ?_)
  rintro us s1 ⟨xs, H1, I1, r, z, q⟩
  exact ⟨by rw [← r.length]; exact z, inv_newT (tk := s1.toks) I1 r z q⟩
def rCatC (K : PySem.W.Frag) : R2 := fun x y H Q => ∃ a b xs ys, x = .ref a ∧ y = .ref b ∧ SqT K H a xs ∧ SqT K H b ys ∧ xs.length + ys.length ≤ sizeLine ∧
  (xs = [] → Q (.ref b) H) ∧ (xs ≠ [] → ys = [] → Q (.ref a) H) ∧ (xs ≠ [] → ys ≠ [] → NewT H (xs ++ ys) Q)
theorem op_catC : OpR X (binaryOp .Add) (rCatC X.K) := by
  intro pins s σ H x y v u Q I rx ry h
  obtain ⟨a, b, xs, ys, rfl, rfl, sa, sb, hz, q0, q1, q2⟩ := h
  by_cases hx : xs = []
  · subst hx
    cases rx
    cases ry
    obtain ⟨us, r1, p1, _⟩ := I.tuple sa
    obtain ⟨ws, r2, p2, _⟩ := I.tuple sb
    cases r1
    exact cat_tup0 p1 p2 ⟨.ref b, H, I, rfl, q0 rfl⟩
  · cases rx
    cases ry
    obtain ⟨us, r1, p1, _⟩ := I.tuple sa
    obtain ⟨ws, r2, p2, _⟩ := I.tuple sb
    have l1 := r1.length
    have l2 := r2.length
    refine HT.cat_tup p1 p2 (fun n => hx (List.eq_nil_of_length_eq_zero (by rw [l1, n]; rfl))) (fun n => ⟨.ref a, H, I, rfl, q1 hx (List.eq_nil_of_length_eq_zero (by rw [l2, n]; rfl))⟩) (fun n => ?_) (by omega)
    exact inv_newT (tk := s.toks) I (r1.append r2) (by rw [List.length_append]; exact hz) (q2 hx fun e => n (List.eq_nil_of_length_eq_zero (by rw [← l2, e]; rfl)))
def rSlC (K : PySem.W.Frag) : V → Option Int → Option Int → Hp → VK → Prop := fun x lo hi H Q => ∃ a xs, x = .ref a ∧ SqT K H a xs ∧
  (HT.sIx xs.length 0 lo = 0 ∧ HT.sIx xs.length xs.length hi = xs.length → Q (.ref a) H) ∧ (¬ (HT.sIx xs.length 0 lo = 0 ∧ HT.sIx xs.length xs.length hi = xs.length) → NewT H (cutV xs lo hi) Q)
theorem sl_tupC : SlR X (rSlC X.K) := by
  intro pins s σ H x v vl vu lo hi sl Q I rx hs pl pu h
  obtain ⟨a, xs, rfl, sa, q1, q2⟩ := h
  cases rx
  obtain ⟨us, r, pt, z⟩ := I.tuple sa
  have el : us.toArray.size = xs.length := by simp [r.length]
  refine ⟨"tuple", _, PyProof.Rows.slot_tuple_getitem.lookup, pt.typeIs, ?_⟩
  by_cases hw : HT.sIx xs.length 0 lo = 0 ∧ HT.sIx xs.length xs.length hi = xs.length
  · exact getItem_tuple_whole pt hs pl pu (by rw [el]; exact hw) ⟨.ref a, H, I, rfl, q1 hw⟩
  · refine HT.getItem_tuple_cut pt hs pl pu (by rw [el]; exact hw) ?_ (by rw [el]; exact z)
    rw [el]
    exact inv_newT (tk := s.toks) I ((r.drop (HT.sIx xs.length 0 lo)).take (HT.sIx xs.length xs.length hi - HT.sIx xs.length 0 lo)) (Nat.le_trans (cutV_length xs lo hi) z) (q2 hw)
def rTupC (K : PySem.W.Frag) : List V → Hp → VK → Prop := fun xs H Q => ∃ p ys, xs = [.ref p] ∧ ((SqL K H p ys ∧ NewT H ys Q) ∨ (SqT K H p ys ∧ Q (.ref p) H))
theorem call_tupC : CallR X (.type "tuple") (rTupC X.K) := by
  intro pins s σ H xs us Q I r h
  obtain ⟨p, ys, rfl, h⟩ := h
  obtain ⟨u, rfl, rx⟩ := vals1 r
  cases rx
  rcases h with ⟨hq, q⟩ | ⟨hq, q⟩
  · obtain ⟨vs, rv, pl, hz⟩ := I.list hq
    have hl := rv.length
    refine call_tuple_list pl.isList (fun g kp => ?_) (by rw [List.size_toArray]; omega)
    exact inv_newT (s := { s with heap := g }) (tk := s.toks) (I.kept (t' := s.toks) kp) rv hz q
  · obtain ⟨vs, rv, pl, hz⟩ := I.tuple hq
    exact call_tuple_same pl ⟨.ref p, H, I, rfl, q⟩
end
end DM
namespace DM
open PySem L2
inductive D where
  | non | bl (b : Bool) | int (i : Int) | str (x : Str) | tup (xs : List D) | ref (a : Addr) | ty (n : String) | lst (xs : List D) | dic (kvs : List (Key × D)) | dit (kvs : List (List Key × D))
def isPair : D → Bool
  | .tup [.str _, .tup _] => true
  | .tup [.tup _, .int _] => true
  | .tup [.tup _, .str _] => true
  | _ => false
def pq (ds : List D) : Bool := ds.all isPair
def TupAt (h : Hp) (a : Addr) (c : Bool) (vs : List V) : Prop := ∃ ob : Obj, ob.dict = none ∧ h a = some (tupH c ob vs)
def NEk {α : Type} (kvs : List (List Key × α)) : Prop := ∀ kv ∈ kvs, kv.1 ≠ []
structure HF where
  h : Hp
  F : Addr → Prop
abbrev HF.up (H : HF) (p : Addr) (u : HO) : HF := ⟨upd H.h p u, H.F⟩
abbrev HF.fz (H : HF) (p : Addr) : HF := ⟨H.h, fun a => H.F a ∨ a = p⟩
mutual
inductive VR (K : PySem.W.Frag) (H : HF) : D → V → Prop
  | non : VR K H .non .non
  | bl (b : Bool) : VR K H (.bl b) (.bl b)
  | int (i : Int) : VR K H (.int i) (.int i)
  | str (x : Str) : VR K H (.str x) (.str x)
  | ref (a : Addr) : VR K H (.ref a) (.ref a)
  | ty (n : String) : VR K H (.ty n) (.ty n)
  | tup {ds : List D} {a : Addr} {vs : List V} : TupAt H.h a (pq ds) vs → VRs K H ds vs → VR K H (.tup ds) (.ref a)
  | lst {ds : List D} {a : Addr} {vs : List V} : H.h a = some (.lst vs) → H.F a → VRs K H ds vs → VR K H (.lst ds) (.ref a)
  | dic {kvs : List (Key × D)} {a : Addr} {vs : List (Key × V)} : H.h a = some (.dK vs) → H.F a → KRs K H kvs vs → VR K H (.dic kvs) (.ref a)
  | dit {kvs : List (List Key × D)} {a : Addr} {vs : List (List Key × V)} : H.h a = some (.dT vs) → H.F a → TRs K H kvs vs → NEk kvs → VR K H (.dit kvs) (.ref a)
inductive VRs (K : PySem.W.Frag) (H : HF) : List D → List V → Prop
  | nil : VRs K H [] []
  | cons {d : D} {ds : List D} {v : V} {vs : List V} : VR K H d v → VRs K H ds vs → VRs K H (d :: ds) (v :: vs)
inductive KRs (K : PySem.W.Frag) (H : HF) : List (Key × D) → List (Key × V) → Prop
  | nil : KRs K H [] []
  | cons {k : Key} {d : D} {ds : List (Key × D)} {v : V} {vs : List (Key × V)} : VR K H d v → KRs K H ds vs → KRs K H ((k, d) :: ds) ((k, v) :: vs)
inductive TRs (K : PySem.W.Frag) (H : HF) : List (List Key × D) → List (List Key × V) → Prop
  | nil : TRs K H [] []
  | cons {k : List Key} {d : D} {ds : List (List Key × D)} {v : V} {vs : List (List Key × V)} : VR K H d v → TRs K H ds vs → TRs K H ((k, d) :: ds) ((k, v) :: vs)
end
structure TX (K : PySem.W.Frag) (H H' : HF) : Prop where
  tu : ∀ a xs, SqT K H.h a xs → SqT K H'.h a xs
  tp : ∀ a xs, H.h a = some (.tup xs) → H'.h a = some (.tup xs)
  tz : ∀ a ob xs, H.h a = some (.frz ob (.tup xs)) → H'.h a = some (.frz ob (.tup xs))
  fz : ∀ a o, H.F a → H.h a = some o → H'.F a ∧ H'.h a = some o
section
variable {K : PySem.W.Frag} {H H' H2 : HF}
theorem TX.refl : TX K H H := ⟨fun _ _ h => h, fun _ _ h => h, fun _ _ _ h => h, fun _ _ f h => ⟨f, h⟩⟩
theorem TupAt.mono {a : Addr} {c : Bool} {vs : List V} (t : TX K H H') (h : TupAt H.h a c vs) : TupAt H'.h a c vs := by
  obtain ⟨ob, hd, e⟩ := h
  cases c
  · exact ⟨ob, hd, t.tp _ _ e⟩
  · exact ⟨ob, hd, t.tz _ _ _ e⟩
theorem TX.trans (a : TX K H H') (b : TX K H' H2) : TX K H H2 := ⟨fun x y h => b.tu x y (a.tu x y h), fun x y h => b.tp x y (a.tp x y h), fun x o y h => b.tz x o y (a.tz x o y h), fun x o f h => by
  obtain ⟨f1, h1⟩ := a.fz x o f h
  exact b.fz x o f1 h1⟩
mutual
theorem VR.mono (t : TX K H H') : ∀ (d : D) (v : V), VR K H d v → VR K H' d v
  | _, _, .non => .non
  | _, _, .bl b => .bl b
  | _, _, .int b => .int b
  | _, _, .str b => .str b
  | _, _, .ref b => .ref b
  | _, _, .ty b => .ty b
  | _, _, .tup h q => .tup (h.mono t) (VRs.mono t _ _ q)
  | _, _, .lst h f q => .lst (t.fz _ _ f h).2 (t.fz _ _ f h).1 (VRs.mono t _ _ q)
  | _, _, .dic h f q => .dic (t.fz _ _ f h).2 (t.fz _ _ f h).1 (KRs.mono t _ _ q)
  | _, _, .dit h f q n => .dit (t.fz _ _ f h).2 (t.fz _ _ f h).1 (TRs.mono t _ _ q) n
theorem VRs.mono (t : TX K H H') : ∀ (ds : List D) (vs : List V), VRs K H ds vs → VRs K H' ds vs
  | _, _, .nil => .nil
  | _, _, .cons h q => .cons (VR.mono t _ _ h) (VRs.mono t _ _ q)
theorem KRs.mono (t : TX K H H') : ∀ (ds : List (Key × D)) (vs : List (Key × V)), KRs K H ds vs → KRs K H' ds vs
  | _, _, .nil => .nil
  | _, _, .cons h q => .cons (VR.mono t _ _ h) (KRs.mono t _ _ q)
theorem TRs.mono (t : TX K H H') : ∀ (ds : List (List Key × D)) (vs : List (List Key × V)), TRs K H ds vs → TRs K H' ds vs
  | _, _, .nil => .nil
  | _, _, .cons h q => .cons (VR.mono t _ _ h) (TRs.mono t _ _ q)
end
theorem VRs.length : ∀ {ds : List D} {vs : List V}, VRs K H ds vs → ds.length = vs.length
  | _, _, .nil => rfl
  | _, _, .cons _ q => by simp [VRs.length q]
theorem VRs.get : ∀ {ds : List D} {vs : List V} {i : Nat} {d : D}, VRs K H ds vs → ds[i]? = some d → ∃ v, vs[i]? = some v ∧ VR K H d v
  | _, _, _, _, .nil, e => by simp at e
  | _, _, 0, _, .cons r _, e => by simp at e; subst e; exact ⟨_, rfl, r⟩
  | _, _, i + 1, x, .cons _ t, e => by
    obtain ⟨u, h1, h2⟩ := VRs.get (i := i) (d := x) t (by simpa using e)
    exact ⟨u, by simpa using h1, h2⟩
theorem VRs.getV : ∀ {ds : List D} {vs : List V} {i : Nat} {v : V}, VRs K H ds vs → vs[i]? = some v → ∃ d, ds[i]? = some d ∧ VR K H d v
  | _, _, _, _, .nil, e => by simp at e
  | _, _, 0, _, .cons r _, e => by simp at e; subst e; exact ⟨_, rfl, r⟩
  | _, _, i + 1, x, .cons _ t, e => by
    obtain ⟨u, h1, h2⟩ := VRs.getV (i := i) (v := x) t (by simpa using e)
    exact ⟨u, by simpa using h1, h2⟩
theorem VRs.append : ∀ {ds es : List D} {vs ws : List V}, VRs K H ds vs → VRs K H es ws → VRs K H (ds ++ es) (vs ++ ws)
  | _, _, _, _, .nil, s => s
  | _, _, _, _, .cons r t, s => .cons r (VRs.append t s)
theorem VRs.take : ∀ {ds : List D} {vs : List V} (n : Nat), VRs K H ds vs → VRs K H (ds.take n) (vs.take n)
  | _, _, 0, _ => .nil
  | _, _, _ + 1, .nil => .nil
  | _, _, n + 1, .cons r t => .cons r (VRs.take n t)
theorem VRs.drop : ∀ {ds : List D} {vs : List V} (n : Nat), VRs K H ds vs → VRs K H (ds.drop n) (vs.drop n)
  | _, _, 0, r => r
  | _, _, _ + 1, .nil => .nil
  | _, _, n + 1, .cons _ t => VRs.drop n t
theorem VRs.set {d : D} {v : V} (r : VR K H d v) : ∀ {ds : List D} {vs : List V} (i : Nat), VRs K H ds vs → VRs K H (ds.set i d) (vs.set i v)
  | _, _, _, .nil => .nil
  | _, _, 0, .cons _ t => .cons r t
  | _, _, i + 1, .cons q t => .cons q (VRs.set r i t)
theorem VRs.eraseIdx : ∀ {ds : List D} {vs : List V} (i : Nat), VRs K H ds vs → VRs K H (ds.eraseIdx i) (vs.eraseIdx i)
  | _, _, _, .nil => .nil
  | _, _, 0, .cons _ t => t
  | _, _, i + 1, .cons q t => .cons q (VRs.eraseIdx i t)
theorem VRs.dropLast {ds : List D} {vs : List V} (h : VRs K H ds vs) : VRs K H ds.dropLast vs.dropLast := by
  rw [List.dropLast_eq_take, List.dropLast_eq_take, h.length]
  exact h.take _
end
inductive MO where
  | lst (xs : List D)
  | dic (kvs : List (Key × D))
  | dit (kvs : List (List Key × D))
  | ins (C : Addr) (fs : List (Str × D))
  | xd (fs : List (Str × D))
  | lkK (ob : Obj) (us : List (Key × V)) (kvs : List (Key × D))
  | lkT (ob : Obj) (us : List (List Key × V)) (kvs : List (List Key × D))
abbrev Mm := Addr → Option MO
def mup (M : Mm) (a : Addr) (o : MO) : Mm := fun b => if b = a then some o else M b
theorem mup_same {M : Mm} {a : Addr} {o : MO} : mup M a o a = some o := by unfold mup; rw [if_pos rfl]
theorem mup_ne {M : Mm} {a b : Addr} {o : MO} (h : b ≠ a) : mup M a o b = M b := by unfold mup; rw [if_neg h]
theorem mup_mup {M : Mm} {a : Addr} {o u : MO} : mup (mup M a o) a u = mup M a u := by
  funext b; unfold mup; split <;> rfl
inductive FR (K : PySem.W.Frag) (H : HF) {κ : Type} : List (κ × D) → List (κ × V) → Prop
  | nil : FR K H [] []
  | cons {k : κ} {d : D} {ds : List (κ × D)} {v : V} {vs : List (κ × V)} : VR K H d v → FR K H ds vs → FR K H ((k, d) :: ds) ((k, v) :: vs)
def OR (K : PySem.W.Frag) (H : HF) (a : Addr) : MO → Prop
  | .lst ds => ∃ vs, H.h a = some (.lst vs) ∧ VRs K H ds vs
  | .dic kvs => ∃ vs, H.h a = some (.dK vs) ∧ FR K H kvs vs
  | .dit kvs => ∃ vs, H.h a = some (.dT vs) ∧ FR K H kvs vs ∧ NEk kvs
  | .ins C fs => ∃ dx vs, H.h a = some (.ins C dx vs) ∧ FR K H fs vs
  | .xd fs => ∃ vs, H.h a = some (.xd vs) ∧ FR K H fs vs
  | .lkK ob us kvs => H.h a = some (.frz ob (.dK us)) ∧ FR K H kvs us
  | .lkT ob us kvs => H.h a = some (.frz ob (.dT us)) ∧ FR K H kvs us ∧ NEk kvs
structure MR (K : PySem.W.Frag) (M : Mm) (H : HF) : Prop where
  ob : ∀ a o, M a = some o → OR K H a o
  nf : ∀ a, H.F a → M a = none
  sm : ∀ a, H.F a → ∃ o, H.h a = some o
structure GG (M : Mm) (H : HF) (M' : Mm) (H' : HF) : Prop where
  fr : ∀ a o, H.h a = some o → M a = none → H'.h a = some o ∧ M' a = none ∧ (H'.F a ↔ H.F a)
  al : ∀ a o, H.h a = some o → ∃ u, H'.h a = some u
def Sub (M M' : Mm) : Prop := ∀ a o, M a = some o → M' a = some o
section
variable {K : PySem.W.Frag} {H H' H2 : HF} {M M' M2 : Mm} {a : Addr} {o : MO}
theorem FR.mono {κ : Type} (t : TX K H H') : ∀ {ds : List (κ × D)} {vs : List (κ × V)}, FR K H ds vs → FR K H' ds vs
  | _, _, .nil => .nil
  | _, _, .cons h q => .cons (VR.mono t _ _ h) (FR.mono t q)
theorem TRs.fr : ∀ {ds : List (List Key × D)} {vs : List (List Key × V)}, TRs K H ds vs → FR K H ds vs
  | _, _, .nil => .nil
  | _, _, .cons h q => .cons h (TRs.fr q)
theorem FR.tr : ∀ {ds : List (List Key × D)} {vs : List (List Key × V)}, FR K H ds vs → TRs K H ds vs
  | _, _, .nil => .nil
  | _, _, .cons h q => .cons h (FR.tr q)
theorem KRs.fr : ∀ {ds : List (Key × D)} {vs : List (Key × V)}, KRs K H ds vs → FR K H ds vs
  | _, _, .nil => .nil
  | _, _, .cons h q => .cons h (KRs.fr q)
theorem FR.kr : ∀ {ds : List (Key × D)} {vs : List (Key × V)}, FR K H ds vs → KRs K H ds vs
  | _, _, .nil => .nil
  | _, _, .cons h q => .cons h (FR.kr q)
theorem Sub.refl : Sub M M := fun _ _ h => h
theorem Sub.trans (x : Sub M M') (y : Sub M' M2) : Sub M M2 := fun a o h => y a o (x a o h)
theorem Sub.mup (h : M a = none) : Sub M (mup M a o) := fun b u e => by
  rw [mup_ne]
  · exact e
  · rintro rfl; rw [h] at e; cases e
theorem Sub.none (s : Sub M M') (h : M' a = none) : M a = none := by
  cases e : M a with
  | none => rfl
  | some u => rw [s a u e] at h; cases h
theorem MR.sub (m : MR K M' H) (s : Sub M M') : MR K M H := ⟨fun a o e => m.ob a o (s a o e), fun a f => s.none (m.nf a f), m.sm⟩
theorem GG.refl : GG M H M H := ⟨fun _ _ h n => ⟨h, n, Iff.rfl⟩, fun _ o h => ⟨o, h⟩⟩
theorem GG.trans (x : GG M H M' H') (y : GG M' H' M2 H2) : GG M H M2 H2 := ⟨fun a o h n => by
  obtain ⟨h1, n1, f1⟩ := x.fr a o h n
  obtain ⟨h2, n2, f2⟩ := y.fr a o h1 n1
  exact ⟨h2, n2, f2.trans f1⟩, fun a o h => by
  obtain ⟨u, h1⟩ := x.al a o h
  exact y.al a u h1⟩
theorem GG.sub (g : GG M H M' H') (s : Sub M2 M') : GG M H M2 H' := by
  refine ⟨fun a o h n => ?_, g.al⟩
  obtain ⟨h1, n1, f1⟩ := g.fr a o h n
  exact ⟨h1, s.none n1, f1⟩
theorem GG.free (g : GG M H M' H') {p : Addr} (h : H'.h p = none) : H.h p = none := by
  cases e : H.h p with
  | none => rfl
  | some o =>
    obtain ⟨u, h1⟩ := g.al p o e
    rw [h] at h1
    cases h1
theorem GG.nfr (g : GG M H M' H') {p : Addr} {o : HO} (h : H.h p = some o) (n : M p = none) (f : ¬H.F p) : H'.h p = some o ∧ M' p = none ∧ ¬H'.F p := by
  obtain ⟨h1, n1, f1⟩ := g.fr p o h n
  exact ⟨h1, n1, fun x => f (f1.mp x)⟩
theorem MR.ofree (m : MR K M H) (hx : ∀ u, ¬OR K H a u) : M a = none := by
  cases e : M a with
  | none => rfl
  | some u => exact absurd (m.ob a u e) (hx u)
theorem MR.no_tup (m : MR K M H) {xs : List V} (h : H.h a = some (.tup xs)) : M a = none := m.ofree fun u q => by
  cases u with
  | lst _ => obtain ⟨_, q, _⟩ := q; rw [h] at q; cases q
  | dic _ => obtain ⟨_, q, _⟩ := q; rw [h] at q; cases q
  | dit _ => obtain ⟨_, q, _⟩ := q; rw [h] at q; cases q
  | ins _ _ => obtain ⟨_, _, q, _⟩ := q; rw [h] at q; cases q
  | xd _ => obtain ⟨_, q, _⟩ := q; rw [h] at q; cases q
  | lkK _ _ _ => obtain ⟨q, _⟩ := q; rw [h] at q; cases q
  | lkT _ _ _ => obtain ⟨q, _⟩ := q; rw [h] at q; cases q
theorem MR.no_frz (m : MR K M H) {ob : Obj} {u : List V} (h : H.h a = some (.frz ob (.tup u))) : M a = none := m.ofree fun u q => by
  cases u with
  | lst _ => obtain ⟨_, q, _⟩ := q; rw [h] at q; cases q
  | dic _ => obtain ⟨_, q, _⟩ := q; rw [h] at q; cases q
  | dit _ => obtain ⟨_, q, _⟩ := q; rw [h] at q; cases q
  | ins _ _ => obtain ⟨_, _, q, _⟩ := q; rw [h] at q; cases q
  | xd _ => obtain ⟨_, q, _⟩ := q; rw [h] at q; cases q
  | lkK _ _ _ => obtain ⟨q, _⟩ := q; rw [h] at q; cases q
  | lkT _ _ _ => obtain ⟨q, _⟩ := q; rw [h] at q; cases q
theorem MR.free (m : MR K M H) (h : H.h a = none) : M a = none := m.ofree fun u q => by
  cases u with
  | lst _ => obtain ⟨_, q, _⟩ := q; rw [h] at q; cases q
  | dic _ => obtain ⟨_, q, _⟩ := q; rw [h] at q; cases q
  | dit _ => obtain ⟨_, q, _⟩ := q; rw [h] at q; cases q
  | ins _ _ => obtain ⟨_, _, q, _⟩ := q; rw [h] at q; cases q
  | xd _ => obtain ⟨_, q, _⟩ := q; rw [h] at q; cases q
  | lkK _ _ _ => obtain ⟨q, _⟩ := q; rw [h] at q; cases q
  | lkT _ _ _ => obtain ⟨q, _⟩ := q; rw [h] at q; cases q
theorem MR.freeF (m : MR K M H) (h : H.h a = none) : ¬H.F a := fun f => by
  obtain ⟨o, e⟩ := m.sm a f
  rw [h] at e
  cases e
theorem MR.knownF (m : MR K M H) (h : M a = some o) : ¬H.F a := fun f => by
  rw [m.nf a f] at h
  cases h
theorem GG.tx (g : GG M H M' H') (m : MR K M H) : TX K H H' := ⟨fun b xs h => by
  rcases h with (h | ⟨ob, h⟩) | h
  · exact .inl (.inl (g.fr b _ h (m.no_tup h)).1)
  · exact .inl (.inr ⟨ob, (g.fr b _ h (m.no_frz h)).1⟩)
  · exact .inr h, fun b xs h => (g.fr b _ h (m.no_tup h)).1, fun b ob xs h => (g.fr b _ h (m.no_frz h)).1, fun b o f h => by
  obtain ⟨h1, _, f1⟩ := g.fr b o h (m.nf b f)
  exact ⟨f1.mpr f, h1⟩⟩
theorem OR.mono (t : TX K H H') (e : H'.h a = H.h a) : ∀ {o : MO}, OR K H a o → OR K H' a o
  | .lst _, ⟨vs, h, r⟩ => ⟨vs, e.trans h, VRs.mono t _ _ r⟩
  | .dic _, ⟨vs, h, r⟩ => ⟨vs, e.trans h, r.mono t⟩
  | .dit _, ⟨vs, h, r, n⟩ => ⟨vs, e.trans h, r.mono t, n⟩
  | .ins _ _, ⟨dx, vs, h, r⟩ => ⟨dx, vs, e.trans h, r.mono t⟩
  | .xd _, ⟨vs, h, r⟩ => ⟨vs, e.trans h, r.mono t⟩
  | .lkK _ _ _, ⟨h, r⟩ => ⟨e.trans h, r.mono t⟩
  | .lkT _ _ _, ⟨h, r, n⟩ => ⟨e.trans h, r.mono t, n⟩
theorem TX.upne {p : Addr} {u : HO} (ht : ∀ xs, H.h p ≠ some (.tup xs)) (hz : ∀ ob xs, H.h p ≠ some (.frz ob (.tup xs))) (hf : ¬H.F p) : TX K H (H.up p u) := ⟨fun b xs q => by
  rcases q with (q | ⟨ob, q⟩) | q
  · exact .inl (.inl (by show upd H.h p u b = _; rw [upd_ne]; exact q; rintro rfl; exact ht _ q))
  · exact .inl (.inr ⟨ob, by show upd H.h p u b = _; rw [upd_ne]; exact q; rintro rfl; exact hz _ _ q⟩)
  · exact .inr q, fun b xs q => by show upd H.h p u b = _; rw [upd_ne]; exact q; rintro rfl; exact ht _ q, fun b ob xs q => by show upd H.h p u b = _; rw [upd_ne]; exact q; rintro rfl; exact hz _ _ q, fun b o f h => ⟨f, by show upd H.h p u b = _; rw [upd_ne]; exact h; rintro rfl; exact hf f⟩⟩
theorem TX.fzz {p : Addr} : TX K H (H.fz p) := ⟨fun _ _ h => h, fun _ _ h => h, fun _ _ _ h => h, fun _ _ f h => ⟨.inl f, h⟩⟩
theorem TX.new (m : MR K M H) {p : Addr} {u : HO} (h : H.h p = none) : TX K H (H.up p u) := TX.upne (fun _ e => by rw [h] at e; cases e) (fun _ _ e => by rw [h] at e; cases e) (m.freeF h)
theorem TX.put (m : MR K M H) {u : HO} (h : M a = some o) : TX K H (H.up a u) := TX.upne (fun _ e => by rw [m.no_tup e] at h; cases h) (fun _ _ e => by rw [m.no_frz e] at h; cases h) (m.knownF h)
theorem upd_al {H : Hp} {p : Addr} {u : HO} (a : Addr) (o : HO) (h : H a = some o) : ∃ w, upd H p u a = some w := by
  by_cases e : a = p
  · subst e; exact ⟨u, upd_same⟩
  · exact ⟨o, by rw [upd_ne e]; exact h⟩
theorem MR.newT (m : MR K M H) {p : Addr} {u : HO} (h : H.h p = none) : MR K M (H.up p u) := ⟨fun b w e => by
  have : b ≠ p := by rintro rfl; rw [m.free h] at e; cases e
  exact (m.ob b w e).mono (TX.new m h) (upd_ne this), m.nf, fun b f => by
  obtain ⟨o, e⟩ := m.sm b f
  exact upd_al b o e⟩
theorem GG.newT {p : Addr} {u : HO} (h : H.h p = none) : GG M H M (H.up p u) := ⟨fun b w e n => by
  have : b ≠ p := by rintro rfl; rw [h] at e; cases e
  exact ⟨by show upd H.h p u b = _; rw [upd_ne this]; exact e, n, Iff.rfl⟩, upd_al⟩
theorem MR.new (m : MR K M H) {p : Addr} {u : HO} {w : MO} (h : H.h p = none) (r : OR K (H.up p u) p w) : MR K (mup M p w) (H.up p u) := ⟨fun b z e => by
  by_cases hb : b = p
  · subst hb; rw [mup_same] at e; cases e; exact r
  · rw [mup_ne hb] at e
    exact (m.ob b z e).mono (TX.new m h) (upd_ne hb), fun b f => by
  have : b ≠ p := by rintro rfl; exact m.freeF h f
  rw [mup_ne this]
  exact m.nf b f, (m.newT h).sm⟩
theorem GG.new {p : Addr} {u : HO} {w : MO} (h : H.h p = none) : GG M H (mup M p w) (H.up p u) := ⟨fun b z e n => by
  have : b ≠ p := by rintro rfl; rw [h] at e; cases e
  exact ⟨by show upd H.h p u b = _; rw [upd_ne this]; exact e, by rw [mup_ne this]; exact n, Iff.rfl⟩, upd_al⟩
theorem MR.put (m : MR K M H) {u : HO} {w : MO} (h : M a = some o) (r : OR K (H.up a u) a w) : MR K (mup M a w) (H.up a u) := ⟨fun b z e => by
  by_cases hb : b = a
  · subst hb; rw [mup_same] at e; cases e; exact r
  · rw [mup_ne hb] at e
    exact (m.ob b z e).mono (TX.put m h) (upd_ne hb), fun b f => by
  have : b ≠ a := by rintro rfl; exact m.knownF h f
  rw [mup_ne this]
  exact m.nf b f, fun b f => by
  obtain ⟨o, e⟩ := m.sm b f
  exact upd_al b o e⟩
theorem GG.put {u : HO} {w : MO} (h : M a = some o) : GG M H (mup M a w) (H.up a u) := ⟨fun b z e n => by
  have : b ≠ a := by rintro rfl; rw [h] at n; cases n
  exact ⟨by show upd H.h a u b = _; rw [upd_ne this]; exact e, by rw [mup_ne this]; exact n, Iff.rfl⟩, upd_al⟩
theorem MR.fzz (m : MR K M H) {p : Addr} {u : HO} (h : H.h p = some u) (n : M p = none) : MR K M (H.fz p) := ⟨fun b w e => (m.ob b w e).mono TX.fzz rfl, fun b f => by
  rcases f with f | rfl
  · exact m.nf b f
  · exact n, fun b f => by
  rcases f with f | rfl
  · exact m.sm b f
  · exact ⟨u, h⟩⟩
theorem GG.fzz (g : GG M H M' H') {p : Addr} (h : H.h p = none) : GG M H M' (H'.fz p) := ⟨fun a o e n => by
  obtain ⟨h1, n1, f1⟩ := g.fr a o e n
  have : a ≠ p := by rintro rfl; rw [h] at e; cases e
  exact ⟨h1, n1, ⟨fun x => x.elim f1.mp (fun y => absurd y this), fun x => .inl (f1.mpr x)⟩⟩, g.al⟩
theorem MR.known (m : MR K M H) {p : Addr} {w : MO} (r : OR K H p w) (f : ¬H.F p) : MR K (mup M p w) H := ⟨fun b o e => by
  by_cases hb : b = p
  · subst hb; rw [mup_same] at e; cases e; exact r
  · rw [mup_ne hb] at e
    exact m.ob b o e, fun b g => by
  have : b ≠ p := by rintro rfl; exact f g
  rw [mup_ne this]
  exact m.nf b g, m.sm⟩
theorem GG.known {p : Addr} {w : MO} (g : GG M H M' H') (h : H.h p = none) : GG M H (mup M' p w) H' := ⟨fun a o e n => by
  obtain ⟨h1, n1, f1⟩ := g.fr a o e n
  have : a ≠ p := by rintro rfl; rw [h] at e; cases e
  exact ⟨h1, by rw [mup_ne this]; exact n1, f1⟩, g.al⟩
theorem TX.hidden {p : Addr} {u : HO} {vs : List V} (h : H.h p = some (.lst vs)) (f : ¬H.F p) : TX K H (H.up p u) := TX.upne (fun _ e => by rw [h] at e; cases e) (fun _ _ e => by rw [h] at e; cases e) f
theorem MR.hidden (m : MR K M H) {p : Addr} {u : HO} {vs : List V} (h : H.h p = some (.lst vs)) (n : M p = none) (f : ¬H.F p) : MR K M (H.up p u) := ⟨fun b w e => by
  have : b ≠ p := by rintro rfl; rw [n] at e; cases e
  exact (m.ob b w e).mono (TX.hidden h f) (upd_ne this), m.nf, fun b f => by
  obtain ⟨o, e⟩ := m.sm b f
  exact upd_al b o e⟩
theorem GG.hidden {p : Addr} {u : HO} (g : GG M H M' H') (h : H.h p = none) : GG M H M' (H'.up p u) := ⟨fun a o e n => by
  obtain ⟨h1, n1, f1⟩ := g.fr a o e n
  have : a ≠ p := by rintro rfl; rw [h] at e; cases e
  exact ⟨by show upd H'.h p u a = _; rw [upd_ne this]; exact h1, n1, f1⟩, fun a o e => by
  obtain ⟨u, e1⟩ := g.al a o e
  exact upd_al a u e1⟩
end
section
variable {K : PySem.W.Frag} {H : HF} {M : Mm} {a p : Addr} {ds : List D} {vs : List V}
theorem TupAt.sq {h : Hp} {c : Bool} (t : TupAt h a c vs) : SqT K h a vs := by
  obtain ⟨ob, _, e⟩ := t
  cases c
  · exact .inl (.inl e)
  · exact .inl (.inr ⟨ob, e⟩)
theorem VR.tupF (hf : pq ds = false) (h : H.h a = some (.tup vs)) (r : VRs K H ds vs) : VR K H (.tup ds) (.ref a) := .tup ⟨{ cls := .none, data := .fields #[] }, rfl, by rw [hf]; exact h⟩ r
theorem VR.tupN (m : MR K M H) {ob : Obj} (hd : ob.dict = none) (hp : H.h p = none) (r : VRs K H ds vs) : VR K (H.up p (tupH (pq ds) ob vs)) (.tup ds) (.ref p) :=
  .tup ⟨ob, hd, upd_same⟩ (VRs.mono (TX.new m hp) _ _ r)
theorem new_tup {Q : D → Mm → Prop} {Q0 : VK} (m : MR K M H) (r : VRs K H ds vs) (q : Q (.tup ds) M) (k : ∀ v H' d M', VR K H' d v → MR K M' H' → GG M H M' H' → Q d M' → Q0 v H'.h) : NewT H.h vs Q0 :=
  ⟨pq ds, fun p ob hd hp => k _ (H.up p _) _ M (VR.tupN m hd hp r) (m.newT hp) (GG.newT hp) q⟩
theorem new_tupG {Q : D → Mm → Prop} {Q0 : VK} {M0 : Mm} {H0 : HF} (m : MR K M H) (g : GG M0 H0 M H) (r : VRs K H ds vs) (q : Q (.tup ds) M) (k : ∀ v H' d M', VR K H' d v → MR K M' H' → GG M0 H0 M' H' → Q d M' → Q0 v H'.h) : NewT H.h vs Q0 :=
  new_tup m r q fun v H' d M' r' m' g' q' => k v H' d M' r' m' (g.trans g') q'
end
end DM
namespace DM
open PySem L2
abbrev DSt := List (Option D)
abbrev DQ := D → Mm → Prop
abbrev TDE := DSt → Mm → DQ → Prop
abbrev TDT := DSt → Mm → (Bool → Mm → Prop) → Prop
abbrev TDA := DSt → Mm → (List D → Mm → Prop) → Prop
abbrev DX := Addr → List (Str × D) → DSt → Mm → Prop
structure DEnds where
  nx : DSt → Mm → Prop
  rt : DQ
  xc : DX := fun _ _ _ _ => False
  bk : DSt → Mm → Prop := fun _ _ => False
  ct : DSt → Mm → Prop := fun _ _ => False
abbrev TDS := DEnds → DSt → Mm → Prop
def SR (K : PySem.W.Frag) (H : HF) (ds : DSt) (σ : St) : Prop := ds.length = σ.length ∧ ∀ (i : Nat) (d : D), ds[i]? = some (some d) → ∃ v, σ[i]? = some (some v) ∧ VR K H d v
section
variable {K : PySem.W.Frag} {H H' : HF} {M M' : Mm} {ds : DSt} {σ : St}
theorem SR.mono (s : SR K H ds σ) (t : TX K H H') : SR K H' ds σ := ⟨s.1, fun i d e => by
  obtain ⟨v, h1, h2⟩ := s.2 i d e
  exact ⟨v, h1, VR.mono t _ _ h2⟩⟩
theorem SR.gg (s : SR K H ds σ) (m : MR K M H) (g : GG M H M' H') : SR K H' ds σ := s.mono (g.tx m)
theorem SR.set (s : SR K H ds σ) {d : D} {v : V} (r : VR K H d v) (i : Nat) : SR K H (ds.set i (some d)) (σ.set i (some v)) := by
  refine ⟨by rw [List.length_set, List.length_set]; exact s.1, fun j e h => ?_⟩
  by_cases hij : i = j
  · subst hij
    by_cases hl : i < ds.length
    · rw [List.getElem?_set_self hl] at h
      cases h
      exact ⟨v, by rw [List.getElem?_set_self (by rw [← s.1]; exact hl)], r⟩
    · rw [List.getElem?_eq_none (by rw [List.length_set]; omega)] at h
      cases h
  · rw [List.getElem?_set_ne hij] at h ⊢
    exact s.2 j e h
theorem SR.forget (s : SR K H ds σ) (i : Nat) : SR K H (ds.set i none) (σ.set i none) := by
  refine ⟨by rw [List.length_set, List.length_set]; exact s.1, fun j e h => ?_⟩
  by_cases hij : i = j
  · subst hij
    by_cases hl : i < ds.length
    · rw [List.getElem?_set_self hl] at h
      cases h
    · rw [List.getElem?_eq_none (by rw [List.length_set]; omega)] at h
      cases h
  · rw [List.getElem?_set_ne hij] at h ⊢
    exact s.2 j e h
end
structure JE (X : Cx) (e : Expr) (t : TDE) : Prop where
  go : ∃ t0, PE X e t0 ∧ ∀ (ds : DSt) (σ : St) (H : HF) (M : Mm) (Q : DQ) (Q0 : VK), SR X.K H ds σ → MR X.K M H → t ds M Q →
    (∀ v H' d M', VR X.K H' d v → MR X.K M' H' → GG M H M' H' → Q d M' → Q0 v H'.h) → t0 σ H.h Q0
structure JT (X : Cx) (e : Expr) (t : TDT) : Prop where
  go : ∃ t0, PT X e t0 ∧ ∀ (ds : DSt) (σ : St) (H : HF) (M : Mm) (Q : Bool → Mm → Prop) (Q0 : Bool → Hp → Prop), SR X.K H ds σ → MR X.K M H → t ds M Q →
    (∀ b H' M', MR X.K M' H' → GG M H M' H' → Q b M' → Q0 b H'.h) → t0 σ H.h Q0
structure JW (X : Cx) (e : Expr) (t : TDT) : Prop where
  go : ∃ t0, PW X e t0 ∧ ∀ (ds : DSt) (σ : St) (H : HF) (M : Mm) (Q : Bool → Mm → Prop) (Q0 : Bool → Hp → Prop), SR X.K H ds σ → MR X.K M H → t ds M Q →
    (∀ b H' M', MR X.K M' H' → GG M H M' H' → Q b M' → Q0 b H'.h) → t0 σ H.h Q0
structure JA (X : Cx) (es : List Expr) (t : TDA) : Prop where
  go : ∃ t0, PA X es t0 ∧ ∀ (ds : DSt) (σ : St) (H : HF) (M : Mm) (Q : List D → Mm → Prop) (Q0 : List V → Hp → Prop), SR X.K H ds σ → MR X.K M H → t ds M Q →
    (∀ vs H' es M', VRs X.K H' es vs → MR X.K M' H' → GG M H M' H' → Q es M' → Q0 vs H'.h) → t0 σ H.h Q0
def XR (K : PySem.W.Frag) (M : Mm) (H : HF) (od : Option Addr) (fs : List (Str × D)) : Prop := match od with
  | none => fs = []
  | some a => M a = none ∧ ¬H.F a ∧ ∃ vs, H.h a = some (.xd vs) ∧ FR K H fs vs
def XF (H0 : HF) (od : Option Addr) : Prop := ∀ dd, od = some dd → H0.h dd = none
structure Link (K : PySem.W.Frag) (W : WX) (M0 : Mm) (H0 : HF) (D0 : Ends) (D1 : DEnds) : Prop where
  nx : ∀ σ ds H M, GG M0 H0 M H → SR K H ds σ → MR K M H → D1.nx ds M → D0.nx σ H.h
  rt : ∀ v d H M, GG M0 H0 M H → VR K H d v → MR K M H → D1.rt d M → D0.rt v H.h
  bk : ∀ σ ds H M, GG M0 H0 M H → SR K H ds σ → MR K M H → D1.bk ds M → D0.bk σ H.h
  ct : ∀ σ ds H M, GG M0 H0 M H → SR K H ds σ → MR K M H → D1.ct ds M → D0.ct σ H.h
  xc : ∀ C od σ ds fs H M, XF H0 od → GG M0 H0 M H → SR K H ds σ → XR K M H od fs → MR K M H → D1.xc C fs ds M → W (.ref C) od σ H.h
structure JS (X : Cx) (W : WX) (st : Stmt) (t : TDS) : Prop where
  go : ∃ t0, PS X st t0 ∧ ∀ (M0 : Mm) (H0 : HF) (D0 : Ends) (D1 : DEnds), Link X.K W M0 H0 D0 D1 → ∀ (ds : DSt) (σ : St) (H : HF) (M : Mm), GG M0 H0 M H → SR X.K H ds σ → MR X.K M H → t D1 ds M → t0 D0 σ H.h
structure JB (X : Cx) (W : WX) (st : List Stmt) (t : TDS) : Prop where
  go : ∃ t0, PSs X st t0 ∧ ∀ (M0 : Mm) (H0 : HF) (D0 : Ends) (D1 : DEnds), Link X.K W M0 H0 D0 D1 → ∀ (ds : DSt) (σ : St) (H : HF) (M : Mm), GG M0 H0 M H → SR X.K H ds σ → MR X.K M H → t D1 ds M → t0 D0 σ H.h
def dget (ds : DSt) (i : Nat) : Option D := (ds[i]?).getD none
@[simp] theorem dget_zero (x : Option D) (r : DSt) : dget (x :: r) 0 = x := rfl
@[simp] theorem dget_succ (x : Option D) (r : DSt) (i : Nat) : dget (x :: r) (i + 1) = dget r i := rfl
def dVar (i : Nat) : TDE := fun ds M Q => match dget ds i with | some d => Q d M | none => False
def dC (d : D) : TDE := fun _ M Q => Q d M
section
variable {X : Cx}
theorem je_pe {e : Expr} {t0 : TE} {t : TDE} (h : PE X e t0) (g : ∀ (ds : DSt) (σ : St) (H : HF) (M : Mm) (Q : DQ) (Q0 : VK), SR X.K H ds σ → MR X.K M H → t ds M Q →
    (∀ v H' d M', VR X.K H' d v → MR X.K M' H' → GG M H M' H' → Q d M' → Q0 v H'.h) → t0 σ H.h Q0) : JE X e t := ⟨t0, h, g⟩
theorem je_var {e : Expr} {i : Nat} (h : PE X e (tVar i)) : JE X e (dVar i) := je_pe h fun ds σ H M Q Q0 s m q k => by
  unfold dVar dget at q
  cases e : ds[i]? with
  | none => rw [e] at q; exact q.elim
  | some o =>
    cases o with
    | none => rw [e] at q; exact q.elim
    | some d =>
      rw [e] at q
      obtain ⟨v, h1, h2⟩ := s.2 i d e
      exact ⟨v, h1, k v H d M h2 m GG.refl q⟩
theorem jv (i : Nat) {x : Str} {pos : Pos} (hN : X.N[i]? = some x := by rfl) (hv : Vis X.env.scope x := by first | exact Or.inl rfl | exact Or.inr (Or.inl rfl) | exact Or.inr (Or.inr rfl)) (hd : (x == ("__debug__" : Str)) = false := by decide)
    (hcd : (x == ("__classdict__" : Str)) = false := by decide) : JE X (.Name x pos) (dVar i) := je_var (pe_var hN hv hd hcd)
theorem je_c {e : Expr} {d : D} {v : V} (h : PE X e (tC v)) (r : ∀ H, VR X.K H d v) : JE X e (dC d) := je_pe h fun _ _ H M _ _ _ m q k => k v H d M (r H) m GG.refl q
theorem je_int {i j pos} : JE X (.Constant (.int i) j pos) (dC (.int i)) := je_c pe_int fun _ => .int i
theorem je_bl {b j pos} : JE X (.Constant (.bool b) j pos) (dC (.bl b)) := je_c pe_bl fun _ => .bl b
theorem je_non {j pos} : JE X (.Constant .none j pos) (dC .non) := je_c pe_non fun _ => .non
theorem je_str {x j pos} : JE X (.Constant (.str x) j pos) (dC (.str x)) := je_c pe_str fun _ => .str x
theorem je_ty {x : Str} {n : String} {pos : Pos} (hg : Gl X x) (hm : X.mg x = none) (hv : bootBuiltins x = some (.type n)) (hn : x ≠ "__name__" := by decide) (hd : (x == ("__debug__" : Str)) = false := by decide) : JE X (.Name x pos) (dC (.ty n)) :=
  je_c (pe_bltn (v := .ty n) hg hm hv rfl hn hd) fun _ => .ty n
def dNil : TDA := fun _ M Q => Q [] M
def dCons (ta : TDE) (tr : TDA) : TDA := fun ds M Q => ta ds M fun x M1 => tr ds M1 fun xs M2 => Q (x :: xs) M2
theorem ja_nil : JA X [] dNil := ⟨_, pa_nil, fun _ _ H M _ _ _ m q k => k [] H [] M .nil m GG.refl q⟩
theorem ja_cons {e : Expr} {es : List Expr} {te : TDE} {t : TDA} (ha : JE X e te) (hr : JA X es t) (hs : starEach (e :: es) X.env = (false, eval e X.env) :: starEach es X.env := by rfl) : JA X (e :: es) (dCons te t) := by
  obtain ⟨t0, p, g⟩ := ha
  obtain ⟨u0, p', g'⟩ := hr
  refine ⟨_, pa_cons p p' hs, fun ds σ H M Q Q0 s m q k => ?_⟩
  refine g ds σ H M _ _ s m q fun v H1 d M1 r1 m1 g1 q1 => ?_
  refine g' ds σ H1 M1 _ _ (s.gg m g1) m1 q1 fun vs H2 es M2 r2 m2 g2 q2 => ?_
  exact k _ H2 _ M2 (.cons (VR.mono (g2.tx m1) _ _ r1) r2) m2 (g1.trans g2) q2
def dTup (t : TDA) : TDE := fun ds M Q => t ds M fun xs M1 => xs.length ≤ sizeLine ∧ Q (.tup xs) M1
theorem je_tup {es : List Expr} {x1} {pos : Pos} {t : TDA} (h : JA X es t) : JE X (.Tuple es x1 pos) (dTup t) := by
  obtain ⟨t0, p, g⟩ := h
  refine je_pe (pe_tupC p) fun ds σ H M Q Q0 s m q k => ?_
  refine g ds σ H M _ _ s m q fun vs H1 es M1 r1 m1 g1 q1 => ⟨by rw [← r1.length]; exact q1.1, ?_⟩
  exact new_tupG m1 g1 r1 q1.2 k
end
abbrev DR2 := D → D → Mm → DQ → Prop
def Lift2 (K : PySem.W.Frag) (r : R2) (dr : DR2) : Prop := ∀ (x y : V) (dx dy : D) (H : HF) (M : Mm) (Q : DQ) (Q0 : VK), VR K H dx x → VR K H dy y → MR K M H → dr dx dy M Q →
  (∀ v H' d M', VR K H' d v → MR K M' H' → GG M H M' H' → Q d M' → Q0 v H'.h) → r x y H.h Q0
def dOp (r : DR2) (ta tb : TDE) : TDE := fun ds M Q => ta ds M fun x M1 => tb ds M1 fun y M2 => r x y M2 Q
section
variable {X : Cx} {a b : Expr} {ta tb : TDE} {pos : Pos}
theorem op2 {ua ub : TE} {r : R2} {dr : DR2} (hl : Lift2 X.K r dr) (ga : ∀ (ds : DSt) (σ : St) (H : HF) (M : Mm) (Q : DQ) (Q0 : VK), SR X.K H ds σ → MR X.K M H → ta ds M Q →
    (∀ v H' d M', VR X.K H' d v → MR X.K M' H' → GG M H M' H' → Q d M' → Q0 v H'.h) → ua σ H.h Q0) (gb : ∀ (ds : DSt) (σ : St) (H : HF) (M : Mm) (Q : DQ) (Q0 : VK), SR X.K H ds σ → MR X.K M H → tb ds M Q →
    (∀ v H' d M', VR X.K H' d v → MR X.K M' H' → GG M H M' H' → Q d M' → Q0 v H'.h) → ub σ H.h Q0) (ds : DSt) (σ : St) (H : HF) (M : Mm) (Q : DQ) (Q0 : VK) (s : SR X.K H ds σ) (m : MR X.K M H) (q : dOp dr ta tb ds M Q)
    (k : ∀ v H' d M', VR X.K H' d v → MR X.K M' H' → GG M H M' H' → Q d M' → Q0 v H'.h) : tOp r ua ub σ H.h Q0 := by
  refine ga ds σ H M _ _ s m q fun v H1 d M1 r1 m1 g1 q1 => ?_
  refine gb ds σ H1 M1 _ _ (s.gg m g1) m1 q1 fun u H2 e M2 r2 m2 g2 q2 => ?_
  exact hl v u d e H2 M2 Q Q0 (VR.mono (g2.tx m1) _ _ r1) r2 m2 q2 fun w H3 f M3 r3 m3 g3 q3 => k w H3 f M3 r3 m3 ((g1.trans g2).trans g3) q3
theorem je_op {op : Operator} {r : R2} {dr : DR2} (ho : OpR X (binaryOp op) r) (hl : Lift2 X.K r dr) (ha : JE X a ta) (hb : JE X b tb) : JE X (.BinOp a op b pos) (dOp dr ta tb) := by
  obtain ⟨u, p, g⟩ := ha
  obtain ⟨u', p', g'⟩ := hb
  exact je_pe (pe_op ho p p') (op2 hl g g')
theorem je_cmpR {op : CmpOp} {r : R2} {dr : DR2} (ho : OpR X (compareOp op) r) (hl : Lift2 X.K r dr) (ha : JE X a ta) (hb : JE X b tb) (hm : behindInMarks op b = false) : JE X (.Compare a [op] [b] pos) (dOp dr ta tb) := by
  obtain ⟨u, p, g⟩ := ha
  obtain ⟨u', p', g'⟩ := hb
  exact je_pe (pe_cmpR ho p p' hm) (op2 hl g g')
def isB (d : D) (Q : Bool → Prop) : Prop := match d with | .bl b => Q b | _ => False
def dTest (t : TDE) : TDT := fun ds M Q => t ds M fun x M1 => isB x fun b => Q b M1
theorem isB_out {K : PySem.W.Frag} {H : HF} {d : D} {v : V} {Q : Bool → Prop} (r : VR K H d v) (q : isB d Q) : ∃ k, v = .bl k ∧ Q k := by
  cases r with
  | bl b => exact ⟨b, rfl, q⟩
  | _ => exact q.elim
theorem jt_cmpR {op : CmpOp} {r : R2} {dr : DR2} (ho : OpR X (compareOp op) r) (hl : Lift2 X.K r dr) (ha : JE X a ta) (hb : JE X b tb) (hm : behindInMarks op b = false) : JT X (.Compare a [op] [b] pos) (dTest (dOp dr ta tb)) := by
  obtain ⟨u, p, g⟩ := ha
  obtain ⟨u', p', g'⟩ := hb
  refine ⟨_, pt_cmpR ho p p' hm, fun ds σ H M Q Q0 s m q k => ?_⟩
  refine op2 hl g g' ds σ H M _ _ s m q fun v H' d M' r m' gg q' => ?_
  obtain ⟨b, e, q⟩ := isB_out r q'
  exact ⟨b, e, k b H' M' m' gg q⟩
theorem jt_val {e : Expr} {t : TDE} (h : JE X e t) (he : ∀ whole, isTrue e X.env whole = (do let v ← whole; standAt e.pos; holding [v] (truthy v)) := by intro _; rfl) : JT X e (dTest t) := by
  obtain ⟨u, p, g⟩ := h
  refine ⟨_, pt_val p he, fun ds σ H M Q Q0 s m q k => ?_⟩
  refine g ds σ H M _ _ s m q fun v H' d M' r m' gg q' => ?_
  obtain ⟨b, e, q⟩ := isB_out r q'
  exact ⟨b, e, k b H' M' m' gg q⟩
def dAnd (t u : TDT) : TDT := fun ds M Q => t ds M fun c M1 => if c = true then u ds M1 Q else Q false M1
def dOr (t u : TDT) : TDT := fun ds M Q => t ds M fun c M1 => if c = true then Q true M1 else u ds M1 Q
def dNot (t : TDT) : TDT := fun ds M Q => t ds M fun c M1 => Q (!c) M1
variable {t t' : TDT} {rest : List Expr}
theorem jw_and1 (ha : JT X a t) : JW X (.BoolOp .And [a] pos) t := by
  obtain ⟨u, p, g⟩ := ha
  exact ⟨_, pw_and1 p, g⟩
theorem jw_or1 (ha : JT X a t) : JW X (.BoolOp .Or [a] pos) t := by
  obtain ⟨u, p, g⟩ := ha
  exact ⟨_, pw_or1 p, g⟩
theorem jw_and (ha : JT X a t) (hb : JW X (.BoolOp .And (b :: rest) pos) t') : JW X (.BoolOp .And (a :: b :: rest) pos) (dAnd t t') := by
  obtain ⟨u, p, g⟩ := ha
  obtain ⟨u', p', g'⟩ := hb
  refine ⟨_, pw_and p p', fun ds σ H M Q Q0 s m q k => ?_⟩
  refine g ds σ H M _ _ s m q fun c H1 M1 m1 g1 q1 => ?_
  cases c with
  | true => exact g' ds σ H1 M1 _ _ (s.gg m g1) m1 q1 fun b H2 M2 m2 g2 q2 => k b H2 M2 m2 (g1.trans g2) q2
  | false => exact k false H1 M1 m1 g1 q1
theorem jw_or (ha : JT X a t) (hb : JW X (.BoolOp .Or (b :: rest) pos) t') : JW X (.BoolOp .Or (a :: b :: rest) pos) (dOr t t') := by
  obtain ⟨u, p, g⟩ := ha
  obtain ⟨u', p', g'⟩ := hb
  refine ⟨_, pw_or p p', fun ds σ H M Q Q0 s m q k => ?_⟩
  refine g ds σ H M _ _ s m q fun c H1 M1 m1 g1 q1 => ?_
  cases c with
  | false => exact g' ds σ H1 M1 _ _ (s.gg m g1) m1 q1 fun b H2 M2 m2 g2 q2 => k b H2 M2 m2 (g1.trans g2) q2
  | true => exact k true H1 M1 m1 g1 q1
theorem JW.jt {e : Expr} (h : JW X e t) : JT X e t := by
  obtain ⟨u, p, g⟩ := h
  exact ⟨u, p.pt, g⟩
theorem jt_not (ha : JT X a t) : JT X (.UnaryOp .Not a pos) (dNot t) := by
  obtain ⟨u, p, g⟩ := ha
  exact ⟨_, pt_not p, fun ds σ H M Q Q0 s m q k => g ds σ H M _ _ s m q fun c H1 M1 m1 g1 q1 => k _ H1 M1 m1 g1 q1⟩
def dAndV (ta tb : TDE) : TDE := fun ds M Q => ta ds M fun x M1 => isB x fun c => if c = true then tb ds M1 Q else Q (.bl false) M1
def dOrV (ta tb : TDE) : TDE := fun ds M Q => ta ds M fun x M1 => isB x fun c => if c = true then Q (.bl true) M1 else tb ds M1 Q
def dNotV (ta : TDE) : TDE := fun ds M Q => ta ds M fun x M1 => isB x fun c => Q (.bl (!c)) M1
theorem je_one {op} (h : JE X a ta) : JE X (.BoolOp op [a] pos) ta := by
  obtain ⟨u, p, g⟩ := h
  exact ⟨u, pe_one p, g⟩
theorem je_and (ha : JE X a ta) (hb : JE X (.BoolOp .And (b :: rest) pos) tb) : JE X (.BoolOp .And (a :: b :: rest) pos) (dAndV ta tb) := by
  obtain ⟨u, p, g⟩ := ha
  obtain ⟨u', p', g'⟩ := hb
  refine je_pe (pe_and p p') fun ds σ H M Q Q0 s m q k => ?_
  refine g ds σ H M _ _ s m q fun v H1 d M1 r1 m1 g1 q1 => ?_
  obtain ⟨c, e, q1⟩ := isB_out r1 q1
  refine ⟨c, e, ?_⟩
  cases c with
  | true => exact g' ds σ H1 M1 _ _ (s.gg m g1) m1 q1 fun v H2 d M2 r2 m2 g2 q2 => k v H2 d M2 r2 m2 (g1.trans g2) q2
  | false => exact k _ H1 _ M1 (.bl false) m1 g1 q1
theorem je_or (ha : JE X a ta) (hb : JE X (.BoolOp .Or (b :: rest) pos) tb) : JE X (.BoolOp .Or (a :: b :: rest) pos) (dOrV ta tb) := by
  obtain ⟨u, p, g⟩ := ha
  obtain ⟨u', p', g'⟩ := hb
  refine je_pe (pe_or p p') fun ds σ H M Q Q0 s m q k => ?_
  refine g ds σ H M _ _ s m q fun v H1 d M1 r1 m1 g1 q1 => ?_
  obtain ⟨c, e, q1⟩ := isB_out r1 q1
  refine ⟨c, e, ?_⟩
  cases c with
  | false => exact g' ds σ H1 M1 _ _ (s.gg m g1) m1 q1 fun v H2 d M2 r2 m2 g2 q2 => k v H2 d M2 r2 m2 (g1.trans g2) q2
  | true => exact k _ H1 _ M1 (.bl true) m1 g1 q1
theorem je_not (ha : JE X a ta) : JE X (.UnaryOp .Not a pos) (dNotV ta) := by
  obtain ⟨u, p, g⟩ := ha
  refine je_pe (pe_not p) fun ds σ H M Q Q0 s m q k => ?_
  refine g ds σ H M _ _ s m q fun v H1 d M1 r1 m1 g1 q1 => ?_
  obtain ⟨c, e, q1⟩ := isB_out r1 q1
  exact ⟨c, e, k _ H1 _ M1 (.bl _) m1 g1 q1⟩
end
end DM
namespace DM
open PySem L2
open PyProof.Rows (b2i)
section
variable {K : PySem.W.Frag} {H : HF} {M : Mm}
theorem VR.int_v {i : Int} {v : V} (r : VR K H (.int i) v) : v = .int i := by cases r; rfl
theorem VR.bl_v {i : Bool} {v : V} (r : VR K H (.bl i) v) : v = .bl i := by cases r; rfl
theorem VR.str_v {i : Str} {v : V} (r : VR K H (.str i) v) : v = .str i := by cases r; rfl
theorem VR.ref_v {i : Addr} {v : V} (r : VR K H (.ref i) v) : v = .ref i := by cases r; rfl
theorem VR.non_v {v : V} (r : VR K H .non v) : v = .non := by cases r; rfl
theorem VR.ty_v {n : String} {v : V} (r : VR K H (.ty n) v) : v = .ty n := by cases r; rfl
theorem VR.tup_v {ds : List D} {v : V} (r : VR K H (.tup ds) v) : ∃ a vs, v = .ref a ∧ SqT K H.h a vs ∧ VRs K H ds vs := by
  cases r with
  | tup h q => exact ⟨_, _, rfl, h.sq, q⟩
theorem VR.tup_t {ds : List D} {v : V} (r : VR K H (.tup ds) v) (hf : pq ds = false) : ∃ a vs, v = .ref a ∧ H.h a = some (.tup vs) ∧ VRs K H ds vs := by
  cases r with
  | tup h q =>
    rw [hf] at h
    obtain ⟨ob, _, e⟩ := h
    exact ⟨_, _, rfl, e, q⟩
theorem VR.lst_v {ds : List D} {v : V} (r : VR K H (.lst ds) v) : ∃ a vs, v = .ref a ∧ H.h a = some (.lst vs) ∧ H.F a ∧ VRs K H ds vs := by
  cases r with
  | lst h f q => exact ⟨_, _, rfl, h, f, q⟩
theorem VR.dic_v {ds : List (Key × D)} {v : V} (r : VR K H (.dic ds) v) : ∃ a vs, v = .ref a ∧ H.h a = some (.dK vs) ∧ H.F a ∧ FR K H ds vs := by
  cases r with
  | dic h f q => exact ⟨_, _, rfl, h, f, q.fr⟩
theorem VR.dit_v {ds : List (List Key × D)} {v : V} (r : VR K H (.dit ds) v) : ∃ a vs, v = .ref a ∧ H.h a = some (.dT vs) ∧ H.F a ∧ FR K H ds vs ∧ NEk ds := by
  cases r with
  | dit h f q n => exact ⟨_, _, rfl, h, f, q.fr, n⟩
end
def lstOf (M : Mm) (a : Addr) : Option (List D) := match M a with | some (.lst xs) => some xs | _ => none
theorem lstOf_some {M : Mm} {a : Addr} {xs : List D} (h : M a = some (.lst xs)) : lstOf M a = some xs := by unfold lstOf; rw [h]
theorem of_lstOf {M : Mm} {a : Addr} {xs : List D} (h : lstOf M a = some xs) : M a = some (.lst xs) := by
  unfold lstOf at h
  split at h
  · cases h; assumption
  · cases h
theorem lstOf_mup_same {M : Mm} {a : Addr} {xs : List D} : lstOf (mup M a (.lst xs)) a = some xs := lstOf_some mup_same
theorem lstOf_mup_ne {M : Mm} {a b : Addr} {o : MO} (h : b ≠ a) : lstOf (mup M a o) b = lstOf M b := by unfold lstOf; rw [mup_ne h]
def rdL (M : Mm) : D → Option (List D)
  | .lst xs => some xs
  | .ref a => lstOf M a
  | _ => none
@[simp] theorem rdL_lst {M : Mm} {xs : List D} : rdL M (.lst xs) = some xs := rfl
@[simp] theorem rdL_ref {M : Mm} {a : Addr} : rdL M (.ref a) = lstOf M a := rfl
theorem rdL_v {K : PySem.W.Frag} {M : Mm} {H : HF} {d : D} {v : V} {xs : List D} (m : MR K M H) (r : VR K H d v) (e : rdL M d = some xs) : ∃ a vs, v = .ref a ∧ H.h a = some (.lst vs) ∧ VRs K H xs vs := by
  cases d with
  | lst ys =>
    cases e
    obtain ⟨a, vs, rfl, h, _, q⟩ := r.lst_v
    exact ⟨a, vs, rfl, h, q⟩
  | ref a =>
    cases r.ref_v
    obtain ⟨vs, h1, r1⟩ := m.ob a _ (of_lstOf e)
    exact ⟨a, vs, rfl, h1, r1⟩
  | _ => cases e
def catR : DR2 := fun x y M Q => match rdL M x, rdL M y with
    | some i, some j => i.length + j.length ≤ sizeLine ∧ Q (.lst (i ++ j)) M
    | _, _ => False
theorem catR_out {x y : D} {M : Mm} {Q : DQ} (h : catR x y M Q) : ∃ i j, rdL M x = some i ∧ rdL M y = some j ∧ i.length + j.length ≤ sizeLine ∧ Q (.lst (i ++ j)) M := by
  unfold catR at h
  split at h
  · rename_i i j e1 e2
    exact ⟨i, j, e1, e2, h⟩
  · exact h.elim
def addR : DR2 := fun x y M Q => match x, y with
  | .int i, .int j => Q (.int (i + j)) M
  | .str i, .str j => i.length + j.length ≤ sizeLine ∧ Q (.str (i ++ j)) M
  | .tup i, .tup j => i.length + j.length ≤ sizeLine ∧ Q (.tup (i ++ j)) M
  | .int i, .bl k => Q (.int (i + b2i k)) M
  | x, y => catR x y M Q
def addT (K : PySem.W.Frag) : R2 := fun x y H Q => (∃ i j, x = .int i ∧ y = .int j ∧ Q (.int (i + j)) H) ∨ (∃ i j, x = .str i ∧ y = .str j ∧ i.length + j.length ≤ sizeLine ∧ Q (.str (i ++ j)) H) ∨
  rCatC K x y H Q ∨ rCat x y H Q ∨ ∃ i k, x = .int i ∧ y = .bl k ∧ Q (.int (i + b2i k)) H
theorem op_addT {X : Cx} : OpR X (binaryOp .Add) (addT X.K) := op_add.or (op_add_str.or (op_catC.or (op_cat.or op_add_ib)))
theorem catR_no1 {x y : D} {M : Mm} {Q : DQ} (e : rdL M x = none) : ¬catR x y M Q := fun h => by
  obtain ⟨i, _, e1, _⟩ := catR_out h
  rw [e] at e1
  cases e1
theorem lift_cat {K : PySem.W.Frag} {x y : V} {dx dy : D} {H : HF} {M : Mm} {Q : DQ} {Q0 : VK} (rx : VR K H dx x) (ry : VR K H dy y) (m : MR K M H) (h : catR dx dy M Q)
    (k : ∀ v H' d M', VR K H' d v → MR K M' H' → GG M H M' H' → Q d M' → Q0 v H'.h) : rCat x y H.h Q0 := by
  obtain ⟨i, j, e1, e2, hz, q⟩ := catR_out h
  obtain ⟨a, vs, rfl, h1, r1⟩ := rdL_v m rx e1
  obtain ⟨b, ws, rfl, h2, r2⟩ := rdL_v m ry e2
  refine ⟨a, b, vs, ws, rfl, rfl, h1, h2, by rw [← r1.length, ← r2.length]; exact hz, fun p hp => ?_⟩
  have t : TX K H ((H.up p (.lst (vs ++ ws))).fz p) := (TX.new m hp).trans TX.fzz
  exact k (.ref p) ((H.up p (.lst (vs ++ ws))).fz p) (.lst (i ++ j)) M (.lst upd_same (.inr rfl) (VRs.append (VRs.mono t _ _ r1) (VRs.mono t _ _ r2)))
    ((m.newT hp).fzz upd_same (m.free hp)) ((GG.newT hp).fzz hp) q
theorem lift_add {K : PySem.W.Frag} : Lift2 K (addT K) addR := by
  intro x y dx dy H M Q Q0 rx ry m h k
  cases dx with
  | int i =>
    cases dy with
    | int j =>
      cases rx.int_v
      cases ry.int_v
      exact .inl ⟨i, j, rfl, rfl, k _ H _ M (.int _) m GG.refl h⟩
    | bl j =>
      cases rx.int_v
      cases ry.bl_v
      exact .inr (.inr (.inr (.inr ⟨i, j, rfl, rfl, k _ H _ M (.int _) m GG.refl h⟩)))
    | _ => simp [addR, catR, rdL] at h
  | str i =>
    cases dy with
    | str j =>
      cases rx.str_v
      cases ry.str_v
      exact .inr (.inl ⟨i, j, rfl, rfl, h.1, k _ H _ M (.str _) m GG.refl h.2⟩)
    | _ => simp [addR, catR, rdL] at h
  | tup i =>
    cases dy with
    | tup j =>
      obtain ⟨a, vs, rfl, sa, ra⟩ := rx.tup_v
      obtain ⟨b, ws, rfl, sb, rb⟩ := ry.tup_v
      obtain ⟨hz, q⟩ := h
      refine .inr (.inr (.inl ⟨a, b, vs, ws, rfl, rfl, sa, sb, by rw [← ra.length, ← rb.length]; exact hz, fun e => ?_, fun _ e => ?_, fun _ _ => ?_⟩))
      · subst e
        cases ra
        exact k _ H _ M ry m GG.refl q
      · subst e
        cases rb
        rw [List.append_nil] at q
        exact k _ H _ M rx m GG.refl q
      · exact new_tup m (VRs.append ra rb) q k
    | _ => simp [addR, catR, rdL] at h
  | non => exact (catR_no1 (x := .non) (y := dy) (M := M) (Q := Q) rfl (by cases dy <;> exact h)).elim
  | bl z => exact (catR_no1 (x := .bl z) (y := dy) (M := M) (Q := Q) rfl (by cases dy <;> exact h)).elim
  | ty z => exact (catR_no1 (x := .ty z) (y := dy) (M := M) (Q := Q) rfl (by cases dy <;> exact h)).elim
  | dic z => exact (catR_no1 (x := .dic z) (y := dy) (M := M) (Q := Q) rfl (by cases dy <;> exact h)).elim
  | dit z => exact (catR_no1 (x := .dit z) (y := dy) (M := M) (Q := Q) rfl (by cases dy <;> exact h)).elim
  | lst z =>
    have h : catR (.lst z) dy M Q := by cases dy <;> exact h
    exact .inr (.inr (.inr (.inl (lift_cat rx ry m h k))))
  | ref z =>
    have h : catR (.ref z) dy M Q := by cases dy <;> exact h
    exact .inr (.inr (.inr (.inl (lift_cat rx ry m h k))))
def intR (C : Int → Int → Prop) (g : Int → Int → D) : DR2 := fun x y M Q => match x, y with
  | .int i, .int j => C i j ∧ Q (g i j) M
  | _, _ => False
theorem lift_int {K : PySem.W.Frag} {C : Int → Int → Prop} {g : Int → Int → V} {g' : Int → Int → D} (hg : ∀ i j H, VR K H (g' i j) (g i j)) : Lift2 K (rI C g) (intR C g') := by
  intro x y dx dy H M Q Q0 rx ry m h k
  cases dx with
  | int i =>
    cases dy with
    | int j =>
      cases rx.int_v
      cases ry.int_v
      exact ⟨i, j, rfl, rfl, h.1, k _ H _ M (hg i j H) m GG.refl h.2⟩
    | _ => exact h.elim
  | _ => cases dy <;> exact h.elim
def int0R (g : Int → Int → D) : DR2 := fun x y M Q => match x, y with
  | .int i, .int j => Q (g i j) M
  | _, _ => False
theorem lift_int0 {K : PySem.W.Frag} {g : Int → Int → V} {g' : Int → Int → D} (hg : ∀ i j H, VR K H (g' i j) (g i j)) : Lift2 K (rI0 g) (int0R g') := by
  intro x y dx dy H M Q Q0 rx ry m h k
  cases dx with
  | int i =>
    cases dy with
    | int j =>
      cases rx.int_v
      cases ry.int_v
      exact ⟨i, j, rfl, rfl, k _ H _ M (hg i j H) m GG.refl h⟩
    | _ => exact h.elim
  | _ => cases dy <;> exact h.elim
abbrev subR : DR2 := int0R fun i j => .int (i - j)
abbrev mulR : DR2 := intR CMulW fun i j => .int (i * j)
abbrev modR : DR2 := intR (fun _ j => 0 < j) fun i j => .int (i % j)
abbrev fdivR : DR2 := intR CDivW fun i j => .int (i / j)
abbrev powR : DR2 := intR CPow fun i j => .int (i ^ j.toNat)
section
variable {X : Cx} {a b : Expr} {ta tb : TDE} {pos : Pos}
theorem je_add (ha : JE X a ta) (hb : JE X b tb) : JE X (.BinOp a .Add b pos) (dOp addR ta tb) := je_op op_addT lift_add ha hb
theorem je_sub (ha : JE X a ta) (hb : JE X b tb) : JE X (.BinOp a .Sub b pos) (dOp subR ta tb) := je_op op_sub (lift_int0 fun _ _ _ => .int _) ha hb
theorem je_mul (ha : JE X a ta) (hb : JE X b tb) : JE X (.BinOp a .Mult b pos) (dOp mulR ta tb) := je_op op_mulW (lift_int fun _ _ _ => .int _) ha hb
theorem je_mod (ha : JE X a ta) (hb : JE X b tb) : JE X (.BinOp a .Mod b pos) (dOp modR ta tb) := je_op op_mod (lift_int fun _ _ _ => .int _) ha hb
theorem je_fdiv (ha : JE X a ta) (hb : JE X b tb) : JE X (.BinOp a .FloorDiv b pos) (dOp fdivR ta tb) := je_op op_fdivW (lift_int fun _ _ _ => .int _) ha hb
theorem je_pow (ha : JE X a ta) (hb : JE X b tb) : JE X (.BinOp a .Pow b pos) (dOp powR ta tb) := je_op op_pow (lift_int fun _ _ _ => .int _) ha hb
end
mutual
def pureD : D → Bool
  | .ref _ => false
  | .ty _ => false
  | .dic _ => false
  | .dit _ => false
  | .tup xs => pureDs xs
  | .lst xs => pureDs xs
  | .non => true
  | .bl _ => true
  | .int _ => true
  | .str _ => true
def pureDs : List D → Bool
  | [] => true
  | x :: xs => pureD x && pureDs xs
end
mutual
def depD : D → Nat
  | .tup xs => 1 + depDs xs
  | .lst xs => 1 + depDs xs
  | .non => 1
  | .bl _ => 1
  | .int _ => 1
  | .str _ => 1
  | .ref _ => 1
  | .ty _ => 1
  | .dic _ => 1
  | .dit _ => 1
def depDs : List D → Nat
  | [] => 1
  | x :: xs => max (depD x) (depDs xs)
end
mutual
def eqvD : D → D → Bool
  | .non, .non => true
  | .bl a, .bl b => a == b
  | .bl a, .int b => (if a then 1 else 0) == b
  | .int a, .bl b => a == (if b then 1 else 0)
  | .int a, .int b => a == b
  | .str a, .str b => a == b
  | .tup xs, .tup ys => eqvDs xs ys
  | .lst xs, .lst ys => eqvDs xs ys
  | _, _ => false
def eqvDs : List D → List D → Bool
  | [], [] => true
  | x :: xs, y :: ys => eqvD x y && eqvDs xs ys
  | _, _ => false
end
theorem eqvDs_len : ∀ {xs ys : List D}, eqvDs xs ys = true → xs.length = ys.length
  | [], [], _ => rfl
  | x :: xs, y :: ys, h => by
    have h' : (eqvD x y && eqvDs xs ys) = true := by simpa [eqvDs] using h
    rw [Bool.and_eq_true] at h'
    simp [eqvDs_len h'.2]
  | [], _ :: _, h => by simp [eqvDs] at h
  | _ :: _, [], h => by simp [eqvDs] at h
def eqAtN (xs ys : List D) (j : Nat) : Bool := match xs[j]?, ys[j]? with | some x, some y => eqvD x y | _, _ => false
theorem eqvDs_range : ∀ (xs ys : List D), ((List.range (min xs.length ys.length)).all (eqAtN xs ys) && xs.length == ys.length) = eqvDs xs ys
  | [], [] => by simp [eqvDs]
  | [], _ :: _ => by simp [eqvDs]
  | _ :: _, [] => by simp [eqvDs]
  | x :: xs, y :: ys => by
    have ih := eqvDs_range xs ys
    have hm : min (x :: xs).length (y :: ys).length = min xs.length ys.length + 1 := by simp only [List.length_cons]; omega
    rw [hm, List.range_succ_eq_map, List.all_cons, List.all_map]
    have e0 : eqAtN (x :: xs) (y :: ys) 0 = eqvD x y := rfl
    have e1 : (eqAtN (x :: xs) (y :: ys) ∘ Nat.succ) = eqAtN xs ys := rfl
    have e2 : ((x :: xs).length == (y :: ys).length) = (xs.length == ys.length) := by simp
    rw [e0, e1, e2, eqvDs, ← ih, Bool.and_assoc]
theorem eqvDs_rangeL {xs ys : List D} (h : xs.length = ys.length) : (List.range xs.length).all (eqAtN xs ys) = eqvDs xs ys := by
  have := eqvDs_range xs ys
  rw [← h, Nat.min_self, show (xs.length == xs.length) = true by simp, Bool.and_true] at this
  exact this
theorem pureDs_get : ∀ {xs : List D} {j : Nat} {x : D}, pureDs xs = true → xs[j]? = some x → pureD x = true
  | [], _, _, _, e => by simp at e
  | y :: ys, 0, x, h, e => by
    simp at e; subst e
    have : (pureD y && pureDs ys) = true := by simpa [pureDs] using h
    exact (Bool.and_eq_true_iff.mp this).1
  | y :: ys, j + 1, x, h, e => by
    have : (pureD y && pureDs ys) = true := by simpa [pureDs] using h
    exact pureDs_get (j := j) (Bool.and_eq_true_iff.mp this).2 (by simpa using e)
theorem depDs_get : ∀ {xs : List D} {j : Nat} {x : D}, xs[j]? = some x → depD x ≤ depDs xs
  | [], _, _, e => by simp at e
  | y :: ys, 0, x, e => by
    simp at e; subst e
    show depD y ≤ max (depD y) (depDs ys)
    omega
  | y :: ys, j + 1, x, e => by
    have := depDs_get (xs := ys) (j := j) (x := x) (by simpa using e)
    show depD x ≤ max (depD y) (depDs ys)
    omega
section
variable {X : Cx} {pins : List (Addr × Obj)} {σ : St} {H : HF} {s : Shared}
open PySem.SeqAt in
theorem tup_at (I : Inv X pins σ H.h s) {a : Addr} {vs : List V} (h : SqT X.K H.h a vs) : ∃ its : List Value, Vals vs its ∧ s.heap.IsTuple a its.toArray := by
  obtain ⟨its, r, ⟨o, h1, h2, n, h3⟩, _⟩ := I.tuple h
  exact ⟨its, r, o, h1, h2, n, h3⟩
open PySem.SeqAt in
theorem lst_at (I : Inv X pins σ H.h s) {a : Addr} {vs : List V} (h : SqL X.K H.h a vs) : ∃ its : List Value, Vals vs its ∧ s.heap.IsList a its.toArray := by
  obtain ⟨its, r, p, _⟩ := I.list h
  exact ⟨its, r, p.isList⟩
inductive Cls (X : Cx) (H : HF) (s : Shared) : D → V → Value → Prop
  | fl {d : D} {v : V} {u : Value} : VR X.K H d v → flatV v = true → RelV v u → Cls X H s d v u
  | tu {xs : List D} {a : Addr} {vs : List V} {its : List Value} : SqT X.K H.h a vs → s.heap.IsTuple a its.toArray → VRs X.K H xs vs → Vals vs its → Cls X H s (.tup xs) (.ref a) (.ref a)
  | li {xs : List D} {a : Addr} {vs : List V} {its : List Value} : H.h a = some (.lst vs) → s.heap.IsList a its.toArray → VRs X.K H xs vs → Vals vs its → Cls X H s (.lst xs) (.ref a) (.ref a)
theorem Cls.of (I : Inv X pins σ H.h s) {d : D} {v : V} {u : Value} (r : VR X.K H d v) (ru : RelV v u) (p : pureD d = true) : Cls X H s d v u := by
  cases r with
  | ref _ => simp [pureD] at p
  | ty _ => simp [pureD] at p
  | dic _ _ _ => simp [pureD] at p
  | dit _ _ _ => simp [pureD] at p
  | tup sa ra =>
    cases ru
    have sa : SqT X.K H.h _ _ := sa.sq
    obtain ⟨its, rv, ht⟩ := tup_at I sa
    exact .tu sa ht ra rv
  | lst sa f ra =>
    cases ru
    obtain ⟨its, rv, ht⟩ := lst_at I (SqL.of sa)
    exact .li sa ht ra rv
  | non => exact .fl .non rfl ru
  | bl b => exact .fl (.bl b) rfl ru
  | int b => exact .fl (.int b) rfl ru
  | str b => exact .fl (.str b) rfl ru
theorem lst_inj (I : Inv X pins σ H.h s) {a : Addr} {vs ws : List V} (h : H.h a = some (.lst vs)) (h' : H.h a = some (.lst ws)) : vs = ws := by
  rw [h] at h'
  cases h'
  rfl
theorem tup_no_lst (I : Inv X pins σ H.h s) {a : Addr} {vs ws : List V} (h : SqT X.K H.h a vs) (h' : H.h a = some (.lst ws)) : False := by
  obtain ⟨its, rv, ht⟩ := tup_at I h
  obtain ⟨its2, rv2, ht2⟩ := lst_at I (SqL.of h')
  exact PySem.SeqAt.ne_of_list_tuple ht2 ht rfl
mutual
theorem eqv_same (I : Inv X pins σ H.h s) : ∀ (d e : D) (v : V), VR X.K H d v → VR X.K H e v → pureD d = true → pureD e = true → eqvD d e = true
  | .non, e, _, r, q, _, _ => by cases r; cases q; simp [eqvD]
  | .bl _, e, _, r, q, _, _ => by cases r; cases q; simp [eqvD]
  | .int _, e, _, r, q, _, _ => by cases r; cases q; simp [eqvD]
  | .str _, e, _, r, q, _, _ => by cases r; cases q; simp [eqvD]
  | .ref _, _, _, _, _, h, _ => by simp [pureD] at h
  | .ty _, _, _, _, _, h, _ => by simp [pureD] at h
  | .dic _, _, _, _, _, h, _ => by simp [pureD] at h
  | .dit _, _, _, _, _, h, _ => by simp [pureD] at h
  | .tup xs, e, _, r, q, h, h' => by
    obtain ⟨a, vs, rfl, sa, ra⟩ := r.tup_v
    cases q with
    | ref _ => simp [pureD] at h'
    | dic _ _ _ => simp [pureD] at h'
    | dit _ _ _ => simp [pureD] at h'
    | @tup ys _ ws sb rb =>
      have := I.tuple_inj sa (sb.sq)
      subst this
      simp only [eqvD]
      exact eqvs_same I xs ys vs ra rb (by simpa [pureD] using h) (by simpa [pureD] using h')
    | lst sb _ _ => exact (tup_no_lst I sa sb).elim
  | .lst xs, e, _, r, q, h, h' => by
    obtain ⟨a, vs, rfl, sa, _, ra⟩ := r.lst_v
    cases q with
    | ref _ => simp [pureD] at h'
    | dic _ _ _ => simp [pureD] at h'
    | dit _ _ _ => simp [pureD] at h'
    | tup sb _ => exact (tup_no_lst I (sb.sq) sa).elim
    | @lst ys _ ws sb _ rb =>
      have := lst_inj I sa sb
      subst this
      simp only [eqvD]
      exact eqvs_same I xs ys vs ra rb (by simpa [pureD] using h) (by simpa [pureD] using h')
theorem eqvs_same (I : Inv X pins σ H.h s) : ∀ (ds es : List D) (vs : List V), VRs X.K H ds vs → VRs X.K H es vs → pureDs ds = true → pureDs es = true → eqvDs ds es = true
  | [], es, _, r, q, _, _ => by cases r; cases q; simp [eqvDs]
  | d :: ds, es, _, r, q, h, h' => by
    cases r with
    | cons r1 r2 =>
      cases q with
      | cons q1 q2 =>
        have h1 := Bool.and_eq_true_iff.mp (show (pureD d && pureDs ds) = true by simpa [pureDs] using h)
        have h2 := Bool.and_eq_true_iff.mp (show (pureD _ && pureDs _) = true by simpa [pureDs] using h')
        simp only [eqvDs, Bool.and_eq_true]
        exact ⟨eqv_same I d _ _ r1 q1 h1.1 h2.1, eqvs_same I ds _ _ r2 q2 h1.2 h2.2⟩
end
open PySem.SeqAt in
theorem flat_cont {A : Around} {v : V} {u : Value} (r : RelV v u) (f : flatV v = true) {l : Addr} {its : Array Value} (h : s.heap.IsTuple l its ∨ s.heap.IsList l its) (hu : A.units < cLine) :
    EqAt A s u (.ref l) false ∧ RcAt A s u (.ref l) false ∧ RcNeAt A s u (.ref l) true ∧ EqAt A s (.ref l) u false ∧ RcAt A s (.ref l) u false ∧ RcNeAt A s (.ref l) u true := by
  cases v with
  | non => cases r; rcases h with h | h <;> exact ⟨by first | exact EqAt.none_tuple h hu | exact EqAt.none_list h hu, by first | exact RcAt.none_tuple h hu | exact RcAt.none_list h hu, by first | exact RcNeAt.none_tuple h hu | exact RcNeAt.none_list h hu, by first | exact EqAt.tuple_none h hu | exact EqAt.list_none h hu, by first | exact RcAt.tuple_none h hu | exact RcAt.list_none h hu, by first | exact RcNeAt.tuple_none h hu | exact RcNeAt.list_none h hu⟩
  | bl b => cases r; rcases h with h | h <;> exact ⟨by first | exact EqAt.bool_tuple b h hu | exact EqAt.bool_list b h hu, by first | exact RcAt.bool_tuple b h hu | exact RcAt.bool_list b h hu, by first | exact RcNeAt.bool_tuple b h hu | exact RcNeAt.bool_list b h hu, by first | exact EqAt.tuple_bool b h hu | exact EqAt.list_bool b h hu, by first | exact RcAt.tuple_bool b h hu | exact RcAt.list_bool b h hu, by first | exact RcNeAt.tuple_bool b h hu | exact RcNeAt.list_bool b h hu⟩
  | int b => obtain ⟨k, rfl⟩ := r; rcases h with h | h <;> exact ⟨by first | exact EqAt.int_tuple b k h hu | exact EqAt.int_list b k h hu, by first | exact RcAt.int_tuple b k h hu | exact RcAt.int_list b k h hu, by first | exact RcNeAt.int_tuple b k h hu | exact RcNeAt.int_list b k h hu, by first | exact EqAt.tuple_int b k h hu | exact EqAt.list_int b k h hu, by first | exact RcAt.tuple_int b k h hu | exact RcAt.list_int b k h hu, by first | exact RcNeAt.tuple_int b k h hu | exact RcNeAt.list_int b k h hu⟩
  | str b => obtain ⟨k, rfl⟩ := r; rcases h with h | h <;> exact ⟨by first | exact EqAt.str_tuple b k h hu | exact EqAt.str_list b k h hu, by first | exact RcAt.str_tuple b k h hu | exact RcAt.str_list b k h hu, by first | exact RcNeAt.str_tuple b k h hu | exact RcNeAt.str_list b k h hu, by first | exact EqAt.tuple_str b k h hu | exact EqAt.list_str b k h hu, by first | exact RcAt.tuple_str b k h hu | exact RcAt.list_str b k h hu, by first | exact RcNeAt.tuple_str b k h hu | exact RcNeAt.list_str b k h hu⟩
  | _ => simp [flatV] at f
theorem flat_eqv {K : PySem.W.Frag} {d e : D} {v w : V} (r : VR K H d v) (r' : VR K H e w) (f : flatV v = true) (f' : flatV w = true) : eqvD d e = eqV v w := by
  cases r <;> cases r' <;> first | rfl | (simp [flatV] at f; done) | (simp [flatV] at f'; done) | (simp [eqvD, eqV]; done)
theorem flat_tup {K : PySem.W.Frag} {d : D} {v : V} {xs : List D} (r : VR K H d v) (f : flatV v = true) : eqvD d (.tup xs) = false ∧ eqvD d (.lst xs) = false ∧ eqvD (.tup xs) d = false ∧ eqvD (.lst xs) d = false := by
  cases r <;> first | (simp [flatV] at f; done) | (simp [eqvD]; done)
end
end DM
namespace DM
open PySem L2
open PyProof.Rows (b2i)
section
variable {X : Cx} {pins : List (Addr × Obj)} {σ : St} {H : HF} {s : Shared}
mutual
theorem eqAt_D (I : Inv X pins σ H.h s) : ∀ (d e : D) (v w : V) (u t : Value) (A : Around), VR X.K H d v → VR X.K H e w → RelV v u → RelV w t → pureD d = true → pureD e = true → A.units + depD d < cLine → SeqAt.EqAt A s u t (eqvD d e)
  | d, e, v, w, u, t, A, rd, re, ru, rt, h, h', hu => by
    have hu0 : A.units < cLine := by omega
    cases Cls.of I rd ru h with
    | fl r1 f1 ru1 =>
      cases Cls.of I re rt h' with
      | fl r2 f2 rt2 => rw [flat_eqv r1 r2 f1 f2]; exact eqAt_V ru1 rt2 f1 f2
      | tu sb hb rb rv2 => rw [(flat_tup r1 f1).1]; exact (flat_cont ru1 f1 (.inl hb) hu0).1
      | li sb hb rb rv2 => rw [(flat_tup r1 f1).2.1]; exact (flat_cont ru1 f1 (.inr hb) hu0).1
    | @tu xs a vs its sa ha ra rv =>
      cases Cls.of I re rt h' with
      | fl r2 f2 rt2 => rw [(flat_tup r2 f2).2.2.1]; exact (flat_cont rt2 f2 (.inl ha) hu0).2.2.2.1
      | @tu ys b ws its2 sb hb rb rv2 =>
        by_cases hab : a = b
        · subst hab
          have e1 : eqvD (.tup xs) (.tup ys) = true := eqv_same I _ _ (.ref a) rd re h h'
          rw [e1]
          exact SeqAt.EqAt.same _
        · refine SeqAt.EqAt.of_refs hab ?_
          have key := SeqAt.RcAt.tuples (e := eqAtN xs ys) ha hb hu0 fun j h1 h2 => eqAts_D I xs ys vs ws its its2 A.in1 j ra rb rv rv2 (by simpa [pureD] using h) (by simpa [pureD] using h') (by show A.units + 1 + depDs xs < cLine; simp only [depD] at hu; omega) h1 h2
          rw [List.size_toArray, List.size_toArray, ← rv.length, ← rv2.length, ← ra.length, ← rb.length, eqvDs_range] at key
          simp only [eqvD]
          exact key
      | li sb hb rb rv2 => simp only [eqvD]; exact SeqAt.EqAt.tuple_list ha hb hu0
    | @li xs a vs its sa ha ra rv =>
      cases Cls.of I re rt h' with
      | fl r2 f2 rt2 => rw [(flat_tup r2 f2).2.2.2]; exact (flat_cont rt2 f2 (.inr ha) hu0).2.2.2.1
      | tu sb hb rb rv2 => simp only [eqvD]; exact SeqAt.EqAt.list_tuple ha hb hu0
      | @li ys b ws its2 sb hb rb rv2 =>
        by_cases hab : a = b
        · subst hab
          have e1 : eqvD (.lst xs) (.lst ys) = true := eqv_same I _ _ (.ref a) rd re h h'
          rw [e1]
          exact SeqAt.EqAt.same _
        · refine SeqAt.EqAt.of_refs hab ?_
          simp only [eqvD]
          by_cases hsz : xs.length = ys.length
          · have hs : its.toArray.size = its2.toArray.size := by rw [List.size_toArray, List.size_toArray, ← rv.length, ← rv2.length, ← ra.length, ← rb.length]; exact hsz
            have key := SeqAt.RcAt.lists (e := eqAtN xs ys) ha hb hs hu0 fun j h1 h2 => eqAts_D I xs ys vs ws its its2 A.in1 j ra rb rv rv2 (by simpa [pureD] using h) (by simpa [pureD] using h') (by show A.units + 1 + depDs xs < cLine; simp only [depD] at hu; omega) h1 h2
            rw [List.size_toArray, ← rv.length, ← ra.length, eqvDs_rangeL hsz] at key
            exact key
          · have hs : (its.toArray.size != its2.toArray.size) = true := by
              rw [List.size_toArray, List.size_toArray, ← rv.length, ← rv2.length, ← ra.length, ← rb.length]
              simpa using hsz
            have e3 : eqvDs xs ys = false := by
              cases q : eqvDs xs ys with
              | false => rfl
              | true => exact absurd (eqvDs_len q) hsz
            rw [e3]
            exact SeqAt.RcAt.lists_lengths ha hb hs hu0
  termination_by d => (sizeOf d, 0)
theorem eqAts_D (I : Inv X pins σ H.h s) : ∀ (xs ys : List D) (vs ws : List V) (us ts : List Value) (A : Around) (j : Nat), VRs X.K H xs vs → VRs X.K H ys ws → Vals vs us → Vals ws ts → pureDs xs = true → pureDs ys = true → A.units + depDs xs < cLine →
    ∀ (h1 : j < us.toArray.size) (h2 : j < ts.toArray.size), SeqAt.EqAt A s us.toArray[j] ts.toArray[j] (eqAtN xs ys j)
  | [], _, _, _, _, _, _, _, rx, _, ru, _, _, _, _, h1, _ => by
    cases rx; cases ru; simp at h1
  | x :: xs, ys, _, _, _, _, A, j, rx, ry, ru, rt, px, py, hu, h1, h2 => by
    have hx : A.units + depD x < cLine := by
      have : depD x ≤ depDs (x :: xs) := by show depD x ≤ max (depD x) (depDs xs); omega
      omega
    have hxs : A.units + depDs xs < cLine := by
      have : depDs xs ≤ depDs (x :: xs) := by show depDs xs ≤ max (depD x) (depDs xs); omega
      omega
    have pp := Bool.and_eq_true_iff.mp (show (pureD x && pureDs xs) = true by simpa [pureDs] using px)
    cases rx with
    | cons rx1 rx2 =>
      cases ru with
      | cons ru1 ru2 =>
        cases ry with
        | nil => cases rt; simp at h2
        | @cons y ys w ws ry1 ry2 =>
          cases rt with
          | cons rt1 rt2 =>
            have pq := Bool.and_eq_true_iff.mp (show (pureD y && pureDs ys) = true by simpa [pureDs] using py)
            cases j with
            | zero => exact eqAt_D I x y _ _ _ _ A rx1 ry1 ru1 rt1 pp.1 pq.1 hx
            | succ j =>
              have key := eqAts_D I xs ys _ _ _ _ A j rx2 ry2 ru2 rt2 pp.2 pq.2 hxs (by simpa using h1) (by simpa using h2)
              simpa [eqAtN] using key
  termination_by xs => (sizeOf xs, 1)
end
end
end DM
namespace DM
open PySem L2
open PyProof.Rows (b2i)
open PySem.SeqAt (EqAt RcAt RcNeAt)
section
variable {X : Cx} {pins : List (Addr × Obj)} {σ : L2.St} {H : HF} {s : Shared} {M : Mm}
theorem rcAt_V {A : Around} {y x : V} {u v : Value} (ry : RelV y u) (rx : RelV x v) (fy : flatV y = true) (fx : flatV x = true) : RcAt A s u v (eqV y x) ∧ RcNeAt A s u v (!eqV y x) := by
  cases y with
  | non =>
    cases ry
    cases x with
    | non => cases rx; exact ⟨RcAt.none_none, RcNeAt.none_none⟩
    | bl b => cases rx; exact ⟨RcAt.none_bool b, RcNeAt.none_bool b⟩
    | int b => obtain ⟨t, rfl⟩ := rx; exact ⟨RcAt.none_int b t, RcNeAt.none_int b t⟩
    | str b => obtain ⟨t, rfl⟩ := rx; exact ⟨RcAt.none_str b t, RcNeAt.none_str b t⟩
    | _ => exact absurd (show false = true from fx) Bool.false_ne_true
  | bl a =>
    cases ry
    cases x with
    | non => cases rx; exact ⟨RcAt.bool_none a, RcNeAt.bool_none a⟩
    | bl b => cases rx; exact ⟨RcAt.bool_bool a b, RcNeAt.bool_bool a b⟩
    | int b => obtain ⟨t, rfl⟩ := rx; exact ⟨RcAt.bool_int a b t, RcNeAt.bool_int a b t⟩
    | str b => obtain ⟨t, rfl⟩ := rx; exact ⟨RcAt.bool_str a b t, RcNeAt.bool_str a b t⟩
    | _ => exact absurd (show false = true from fx) Bool.false_ne_true
  | int a =>
    obtain ⟨t', rfl⟩ := ry
    cases x with
    | non => cases rx; exact ⟨RcAt.int_none a t', RcNeAt.int_none a t'⟩
    | bl b => cases rx; exact ⟨RcAt.int_bool a t' b, RcNeAt.int_bool a t' b⟩
    | int b => obtain ⟨t, rfl⟩ := rx; exact ⟨RcAt.int_int a t' b t, RcNeAt.int_int a t' b t⟩
    | str b => obtain ⟨t, rfl⟩ := rx; exact ⟨RcAt.int_str a t' b t, RcNeAt.int_str a t' b t⟩
    | _ => exact absurd (show false = true from fx) Bool.false_ne_true
  | str a =>
    obtain ⟨t', rfl⟩ := ry
    cases x with
    | non => cases rx; exact ⟨RcAt.str_none a t', RcNeAt.str_none a t'⟩
    | bl b => cases rx; exact ⟨RcAt.str_bool a t' b, RcNeAt.str_bool a t' b⟩
    | int b => obtain ⟨t, rfl⟩ := rx; exact ⟨RcAt.str_int a t' b t, RcNeAt.str_int a t' b t⟩
    | str b => obtain ⟨t, rfl⟩ := rx; exact ⟨RcAt.str_str a t' b t, RcNeAt.str_str a t' b t⟩
    | _ => exact absurd (show false = true from fx) Bool.false_ne_true
  | _ => exact absurd (show false = true from fy) Bool.false_ne_true
def resD (M : Mm) : D → D
  | .ref a => (match lstOf M a with | some xs => .lst xs | none => .ref a)
  | d => d
def eqM (M : Mm) (d e : D) : Bool := eqvD (resD M d) (resD M e)
def okD (M : Mm) (d : D) : Prop := pureD (resD M d) = true ∧ depD (resD M d) ≤ 100
theorem Cls.res {M : Mm} (I : Inv X pins σ H.h s) (m : MR X.K M H) {d : D} {v : V} {u : Value} (r : VR X.K H d v) (ru : RelV v u) (p : pureD (resD M d) = true) : Cls X H s (resD M d) v u := by
  cases d with
  | ref a =>
    cases r.ref_v
    cases ru
    cases e : lstOf M a with
    | none => simp [resD, e, pureD] at p
    | some xs =>
      obtain ⟨vs, h1, r1⟩ := m.ob a _ (of_lstOf e)
      obtain ⟨its, rv, ht⟩ := lst_at I (SqL.of h1)
      rw [show resD M (.ref a) = .lst xs by simp [resD, e]]
      exact .li h1 ht r1 rv
  | _ => exact Cls.of I r ru p
open PySem.SeqAt in
theorem rc_D {M : Mm} (I : Inv X pins σ H.h s) (m : MR X.K M H) {d e : D} {v w : V} {u t : Value} (rd : VR X.K H d v) (re : VR X.K H e w) (ru : RelV v u) (rt : RelV w t) (h : okD M d) (h' : okD M e) (hu : X.A.units + 150 < cLine) :
    RcAt X.A s u t (eqM M d e) ∧ RcNeAt X.A s u t (!eqM M d e) := by
  have hu0 : X.A.units < cLine := by omega
  obtain ⟨p1, p2⟩ := h
  obtain ⟨q1, q2⟩ := h'
  have c1 := Cls.res I m rd ru p1
  have c2 := Cls.res I m re rt q1
  unfold eqM
  generalize resD M d = d' at *
  generalize resD M e = e' at *
  cases c1 with
  | fl r1 f1 ru1 =>
    cases c2 with
    | fl r2 f2 rt2 => rw [flat_eqv r1 r2 f1 f2]; exact rcAt_V ru1 rt2 f1 f2
    | tu sb hb rb rv2 => rw [(flat_tup r1 f1).1]; have z := flat_cont ru1 f1 (.inl hb) hu0; exact ⟨z.2.1, z.2.2.1⟩
    | li sb hb rb rv2 => rw [(flat_tup r1 f1).2.1]; have z := flat_cont ru1 f1 (.inr hb) hu0; exact ⟨z.2.1, z.2.2.1⟩
  | @tu xs a vs its sa ha ra rv =>
    cases c2 with
    | fl r2 f2 rt2 => rw [(flat_tup r2 f2).2.2.1]; have z := flat_cont rt2 f2 (.inl ha) hu0; exact ⟨z.2.2.2.2.1, z.2.2.2.2.2⟩
    | @tu ys b ws its2 sb hb rb rv2 =>
      have hx : X.A.in1.units + depDs xs < cLine := by show X.A.units + 1 + depDs xs < cLine; simp only [depD] at p2; omega
      have k1 := RcAt.tuples (e := eqAtN xs ys) ha hb hu0 fun j h1 h2 => eqAts_D I xs ys vs ws its its2 X.A.in1 j ra rb rv rv2 (by simpa [pureD] using p1) (by simpa [pureD] using q1) hx h1 h2
      have k2 := RcNeAt.tuples (e := eqAtN xs ys) ha hb hu0 fun j h1 h2 => eqAts_D I xs ys vs ws its its2 X.A.in1 j ra rb rv rv2 (by simpa [pureD] using p1) (by simpa [pureD] using q1) hx h1 h2
      rw [List.size_toArray, List.size_toArray, ← rv.length, ← rv2.length, ← ra.length, ← rb.length, eqvDs_range] at k1 k2
      simp only [eqvD]
      exact ⟨k1, k2⟩
    | li sb hb rb rv2 => simp only [eqvD]; exact ⟨RcAt.tuple_list ha hb hu0, RcNeAt.tuple_list ha hb hu0⟩
  | @li xs a vs its sa ha ra rv =>
    cases c2 with
    | fl r2 f2 rt2 => rw [(flat_tup r2 f2).2.2.2]; have z := flat_cont rt2 f2 (.inr ha) hu0; exact ⟨z.2.2.2.2.1, z.2.2.2.2.2⟩
    | tu sb hb rb rv2 => simp only [eqvD]; exact ⟨RcAt.list_tuple ha hb hu0, RcNeAt.list_tuple ha hb hu0⟩
    | @li ys b ws its2 sb hb rb rv2 =>
      simp only [eqvD]
      have hx : X.A.in1.units + depDs xs < cLine := by show X.A.units + 1 + depDs xs < cLine; simp only [depD] at p2; omega
      by_cases hsz : xs.length = ys.length
      · have hs : its.toArray.size = its2.toArray.size := by rw [List.size_toArray, List.size_toArray, ← rv.length, ← rv2.length, ← ra.length, ← rb.length]; exact hsz
        have k1 := RcAt.lists (e := eqAtN xs ys) ha hb hs hu0 fun j h1 h2 => eqAts_D I xs ys vs ws its its2 X.A.in1 j ra rb rv rv2 (by simpa [pureD] using p1) (by simpa [pureD] using q1) hx h1 h2
        have k2 := RcNeAt.lists (e := eqAtN xs ys) ha hb hs hu0 fun j h1 h2 => eqAts_D I xs ys vs ws its its2 X.A.in1 j ra rb rv rv2 (by simpa [pureD] using p1) (by simpa [pureD] using q1) hx h1 h2
        rw [List.size_toArray, ← rv.length, ← ra.length, eqvDs_rangeL hsz] at k1 k2
        exact ⟨k1, k2⟩
      · have hs : (its.toArray.size != its2.toArray.size) = true := by
          rw [List.size_toArray, List.size_toArray, ← rv.length, ← rv2.length, ← ra.length, ← rb.length]
          simpa using hsz
        have e3 : eqvDs xs ys = false := by
          cases q : eqvDs xs ys with
          | false => rfl
          | true => exact absurd (eqvDs_len q) hsz
        rw [e3]
        exact ⟨RcAt.lists_lengths ha hb hs hu0, RcNeAt.lists_lengths ha hb hs hu0⟩
end
def OpD (X : Cx) (f : Value → Value → Sem Value) (dr : DR2) : Prop :=
  ∀ (pins : List (Addr × Obj)) (s : Shared) (σ : L2.St) (H : HF) (M : Mm) (d e : D) (x y : V) (v u : Value) (Q : DQ) (Q0 : VK), Inv X pins σ H.h s → MR X.K M H → VR X.K H d x → VR X.K H e y → RelV x v → RelV y u → dr d e M Q →
    (∀ v H' d M', VR X.K H' d v → MR X.K M' H' → GG M H M' H' → Q d M' → Q0 v H'.h) → wpAny (model X.prog X.w) X.A (f v u) (EP X pins σ Q0) X.xe s
def rOf (K : PySem.W.Frag) (dr : DR2) : R2 := fun x y H0 Q0 => ∃ (H : HF) (d e : D) (M : Mm) (Q : DQ), H0 = H.h ∧ MR K M H ∧ VR K H d x ∧ VR K H e y ∧ dr d e M Q ∧ ∀ v H' d M', VR K H' d v → MR K M' H' → GG M H M' H' → Q d M' → Q0 v H'.h
theorem OpD.opR {X : Cx} {f : Value → Value → Sem Value} {dr : DR2} (h : OpD X f dr) : OpR X f (rOf X.K dr) := by
  intro pins s σ H x y v u Q0 I rx ry q
  obtain ⟨H, d, e, M, Q, rfl, m, rd, re, hq, k⟩ := q
  exact h pins s σ H M d e x y v u Q Q0 I m rd re rx ry hq k
theorem lift_of {K : PySem.W.Frag} {dr : DR2} : Lift2 K (rOf K dr) dr := by
  intro x y dx dy H M Q Q0 rx ry m h k
  exact ⟨H, dx, dy, M, Q, rfl, m, rx, ry, h, k⟩
def eqR : DR2 := fun d e M Q => (okD M d ∧ okD M e) ∧ Q (.bl (eqM M d e)) M
def neR : DR2 := fun d e M Q => (okD M d ∧ okD M e) ∧ Q (.bl (!eqM M d e)) M
theorem op_eqT {X : Cx} (hu : X.A.units + 150 < cLine) : OpD X (compareOp .Eq) eqR := by
  intro pins s σ H M d e x y v u Q Q0 I m rd re rx ry hq k
  exact (rc_D I m rd re rx ry hq.1.1 hq.1.2 hu).1 X.prog X.w _ _ ⟨.bl _, H.h, I, rfl, k _ H _ M (.bl _) m GG.refl hq.2⟩
theorem op_neT {X : Cx} (hu : X.A.units + 150 < cLine) : OpD X (compareOp .NotEq) neR := by
  intro pins s σ H M d e x y v u Q Q0 I m rd re rx ry hq k
  exact (rc_D I m rd re rx ry hq.1.1 hq.1.2 hu).2 X.prog X.w _ _ ⟨.bl _, H.h, I, rfl, k _ H _ M (.bl _) m GG.refl hq.2⟩
theorem hu150 {A : Around} {k : Nat} (hr : Room k A) : A.units + 150 < cLine := by have := hr.un; omega
section
variable {X : Cx} {a b : Expr} {ta tb : TDE} {pos : Pos} {k : Nat}
theorem je_eq (hr : Room k X.A) (ha : JE X a ta) (hb : JE X b tb) : JE X (.Compare a [.Eq] [b] pos) (dOp eqR ta tb) := je_cmpR (op_eqT (hu150 hr)).opR lift_of ha hb (nomark _)
theorem je_ne (hr : Room k X.A) (ha : JE X a ta) (hb : JE X b tb) : JE X (.Compare a [.NotEq] [b] pos) (dOp neR ta tb) := je_cmpR (op_neT (hu150 hr)).opR lift_of ha hb (nomark _)
theorem jt_eq (hr : Room k X.A) (ha : JE X a ta) (hb : JE X b tb) : JT X (.Compare a [.Eq] [b] pos) (dTest (dOp eqR ta tb)) := jt_cmpR (op_eqT (hu150 hr)).opR lift_of ha hb (nomark _)
theorem jt_ne (hr : Room k X.A) (ha : JE X a ta) (hb : JE X b tb) : JT X (.Compare a [.NotEq] [b] pos) (dTest (dOp neR ta tb)) := jt_cmpR (op_neT (hu150 hr)).opR lift_of ha hb (nomark _)
abbrev ltR : DR2 := int0R fun i j => .bl (decide (i < j))
abbrev gtR : DR2 := int0R fun i j => .bl (decide (j < i))
abbrev geR : DR2 := int0R fun i j => .bl (decide (j ≤ i))
theorem je_gt (ha : JE X a ta) (hb : JE X b tb) : JE X (.Compare a [.Gt] [b] pos) (dOp gtR ta tb) := je_cmpR op_gt (lift_int0 fun _ _ _ => .bl _) ha hb (nomark _)
theorem jt_lt (ha : JE X a ta) (hb : JE X b tb) : JT X (.Compare a [.Lt] [b] pos) (dTest (dOp ltR ta tb)) := jt_cmpR op_lt (lift_int0 fun _ _ _ => .bl _) ha hb (nomark _)
theorem jt_gt (ha : JE X a ta) (hb : JE X b tb) : JT X (.Compare a [.Gt] [b] pos) (dTest (dOp gtR ta tb)) := jt_cmpR op_gt (lift_int0 fun _ _ _ => .bl _) ha hb (nomark _)
theorem jt_ge (ha : JE X a ta) (hb : JE X b tb) : JT X (.Compare a [.GtE] [b] pos) (dTest (dOp geR ta tb)) := jt_cmpR op_ge (lift_int0 fun _ _ _ => .bl _) ha hb (nomark _)
end
end DM
namespace DM
open PySem L2
open PyProof.Rows (b2i)
def ixR : DR2 := fun x y M Q => match x, y with
  | .tup xs, .int i => (match atI xs i with | some d => Q d M | none => False)
  | .str z, .int i => z.length ≤ sizeLine ∧ (match atI z.cps.toList i with | some c => Q (.str ⟨#[c]⟩) M | none => False)
  | .ref a, .int i => (match lstOf M a with | some xs => (match atI xs i with | some d => Q d M | none => False) | none => False)
  | .lst xs, .int i => (match atI xs i with | some d => Q d M | none => False)
  | _, _ => False
theorem frz_new {K : PySem.W.Frag} {H : HF} {M : Mm} {p : Addr} {xs : List D} {vs : List V} (m : MR K M H) (hp : H.h p = none) (r : VRs K H xs vs) :
    VR K ((H.up p (.lst vs)).fz p) (.lst xs) (.ref p) ∧ MR K M ((H.up p (.lst vs)).fz p) ∧ GG M H M ((H.up p (.lst vs)).fz p) :=
  ⟨.lst upd_same (.inr rfl) (VRs.mono ((TX.new m hp).trans TX.fzz) _ _ r), (m.newT hp).fzz upd_same (m.free hp), (GG.newT hp).fzz hp⟩
theorem VRs.atI {K : PySem.W.Frag} {H : HF} {ds : List D} {vs : List V} (r : VRs K H ds vs) {i : Int} {d : D} (h : L2.atI ds i = some d) : ∃ v, L2.atI vs i = some v ∧ VR K H d v := by
  unfold L2.atI at h ⊢
  rw [r.length] at h
  cases e : ixN vs.length i with
  | none => rw [e] at h; cases h
  | some j =>
    rw [e] at h
    exact r.get h
theorem lift_ix {K : PySem.W.Frag} : Lift2 K (rIx K) ixR := by
  intro x y dx dy H M Q Q0 rx ry m h k
  cases dy with
  | int i =>
    cases ry.int_v
    cases dx with
    | tup xs =>
      obtain ⟨a, vs, rfl, sa, ra⟩ := rx.tup_v
      unfold ixR at h
      simp only at h
      split at h
      · rename_i d e
        obtain ⟨v, e', r'⟩ := ra.atI e
        exact .inr (.inl ⟨a, vs, i, v, rfl, rfl, sa, e', k v H d M r' m GG.refl h⟩)
      · exact h.elim
    | str z =>
      cases rx.str_v
      unfold ixR at h
      simp only at h
      obtain ⟨hz, h⟩ := h
      split at h
      · rename_i c e
        exact .inr (.inr ⟨z, i, c, rfl, rfl, hz, e, k _ H _ M (.str _) m GG.refl h⟩)
      · exact h.elim
    | ref a =>
      cases rx.ref_v
      unfold ixR at h
      simp only at h
      split at h
      · rename_i xs e
        split at h
        · rename_i d e'
          obtain ⟨vs, h1, r1⟩ := m.ob a _ (of_lstOf e)
          obtain ⟨v, e2, r2⟩ := r1.atI e'
          exact .inl ⟨a, vs, i, v, rfl, rfl, SqL.of h1, e2, k v H d M r2 m GG.refl h⟩
        · exact h.elim
      · exact h.elim
    | lst xs =>
      obtain ⟨a, vs, rfl, sa, _, ra⟩ := rx.lst_v
      unfold ixR at h
      simp only at h
      split at h
      · rename_i d e
        obtain ⟨v, e', r'⟩ := ra.atI e
        exact .inl ⟨a, vs, i, v, rfl, rfl, SqL.of sa, e', k v H d M r' m GG.refl h⟩
      · exact h.elim
    | _ => exact h.elim
  | _ => cases dx <;> exact h.elim
section
variable {X : Cx} {a b : Expr} {ta tb : TDE} {pos : Pos}
theorem je_ix (ha : JE X a ta) (hb : JE X b tb) (hs : PlainIx b := by exact fun _ _ => rfl) : JE X (.Subscript a b pos) (dOp ixR ta tb) := by
  obtain ⟨u, p, g⟩ := ha
  obtain ⟨u', p', g'⟩ := hb
  exact je_pe (pe_ix ix_seq p p' hs) (op2 lift_ix g g')
end
abbrev TDO := DSt → Mm → (Option Int → Mm → Prop) → Prop
structure JO (X : Cx) (e : Option Expr) (t : TDO) : Prop where
  go : ∃ t0, PO X e t0 ∧ ∀ (ds : DSt) (σ : L2.St) (H : HF) (M : Mm) (Q : Option Int → Mm → Prop) (Q0 : Option Int → Hp → Prop), SR X.K H ds σ → MR X.K M H → t ds M Q →
    (∀ o H' M', MR X.K M' H' → GG M H M' H' → Q o M' → Q0 o H'.h) → t0 σ H.h Q0
def dNoPart : TDO := fun _ M Q => Q none M
def isI (d : D) (Q : Int → Prop) : Prop := match d with | .int i => Q i | _ => False
theorem isI_out {K : PySem.W.Frag} {H : HF} {d : D} {v : V} {Q : Int → Prop} (r : VR K H d v) (q : isI d Q) : ∃ k, v = .int k ∧ Q k := by
  cases r with
  | int b => exact ⟨b, rfl, q⟩
  | _ => exact q.elim
def dPart (t : TDE) : TDO := fun ds M Q => t ds M fun x M1 => isI x fun i => Q (some i) M1
section
variable {X : Cx} {e : Expr} {te : TDE}
theorem jo_none : JO X none dNoPart := ⟨_, po_none, fun _ _ H M _ _ _ m q k => k none H M m GG.refl q⟩
theorem jo_some (h : JE X e te) : JO X (some e) (dPart te) := by
  obtain ⟨u, p, g⟩ := h
  refine ⟨_, po_some p, fun ds σ H M Q Q0 s m q k => ?_⟩
  refine g ds σ H M _ _ s m q fun v H' d M' r m' gg q' => ?_
  obtain ⟨b, e, q⟩ := isI_out r q'
  exact ⟨b, e, k _ H' M' m' gg q⟩
end
def cutL {α : Type} (xs : List α) (lo hi : Option Int) : List α := (xs.drop (HT.sIx xs.length 0 lo)).take (HT.sIx xs.length xs.length hi - HT.sIx xs.length 0 lo)
theorem VRs.cut {K : PySem.W.Frag} {H : HF} {ds : List D} {vs : List V} (r : VRs K H ds vs) (lo hi : Option Int) : VRs K H (cutL ds lo hi) (cutV vs lo hi) := by
  unfold cutL cutV
  rw [r.length]
  exact (r.drop _).take _
theorem cutL_whole {α : Type} {xs : List α} {lo hi : Option Int} (h : HT.sIx xs.length 0 lo = 0 ∧ HT.sIx xs.length xs.length hi = xs.length) : cutL xs lo hi = xs := by
  unfold cutL
  rw [h.1, h.2]
  simp
def slR (x : D) (lo hi : Option Int) (M : Mm) (Q : DQ) : Prop := match x with
  | .tup xs => Q (.tup (cutL xs lo hi)) M
  | .str z => z.length ≤ sizeLine ∧ Q (.str (cutS z lo hi)) M
  | x => (match rdL M x with | some xs => Q (.lst (cutL xs lo hi)) M | none => False)
def dSl (te : TDE) (tl th : TDO) : TDE := fun ds M Q => te ds M fun x M1 => tl ds M1 fun l M2 => th ds M2 fun u M3 => slR x l u M3 Q
section
variable {X : Cx} {e : Expr} {te : TDE} {tl th : TDO} {lo hi : Option Expr} {pos p2 : Pos}
def slT (K : PySem.W.Frag) : V → Option Int → Option Int → Hp → VK → Prop := fun x lo hi H Q => rSlC K x lo hi H Q ∨ rSlS x lo hi H Q ∨ rSlL K x lo hi H Q
theorem sl_all : SlR X (slT X.K) := sl_tupC.or (sl_str.or sl_list)
theorem lift_sl {K : PySem.W.Frag} (x : V) (dx : D) (lo hi : Option Int) (H : HF) (M : Mm) (Q : DQ) (Q0 : VK) (rx : VR K H dx x) (m : MR K M H) (h : slR dx lo hi M Q)
    (k : ∀ v H' d M', VR K H' d v → MR K M' H' → GG M H M' H' → Q d M' → Q0 v H'.h) : slT K x lo hi H.h Q0 := by
  cases dx with
  | tup xs =>
    obtain ⟨a, vs, rfl, sa, ra⟩ := rx.tup_v
    have q : Q (.tup (cutL xs lo hi)) M := h
    refine .inl ⟨a, vs, rfl, sa, fun hw => ?_, fun hw => ?_⟩
    · rw [← ra.length] at hw
      rw [cutL_whole hw] at q
      exact k _ H _ M rx m GG.refl q
    · exact new_tup m (ra.cut lo hi) q k
  | str z =>
    cases rx.str_v
    exact .inr (.inl ⟨z, rfl, h.1, k _ H _ M (.str _) m GG.refl h.2⟩)
  | ref a =>
    cases e : lstOf M a with
    | none => simp [slR, e] at h
    | some xs =>
      have q : Q (.lst (cutL xs lo hi)) M := by simpa [slR, e] using h
      obtain ⟨a, vs, rfl, h1, r1⟩ := rdL_v m rx (show rdL M (.ref a) = some xs from e)
      refine .inr (.inr ⟨a, vs, rfl, SqL.of h1, fun p hp => ?_⟩)
      obtain ⟨z1, z2, z3⟩ := frz_new m hp (r1.cut lo hi)
      exact k _ _ _ _ z1 z2 z3 q
  | lst xs =>
    have q : Q (.lst (cutL xs lo hi)) M := h
    obtain ⟨a, vs, rfl, h1, r1⟩ := rdL_v m rx (show rdL M (.lst xs) = some xs from rfl)
    refine .inr (.inr ⟨a, vs, rfl, SqL.of h1, fun p hp => ?_⟩)
    obtain ⟨z1, z2, z3⟩ := frz_new m hp (r1.cut lo hi)
    exact k _ _ _ _ z1 z2 z3 q
  | _ => exact h.elim
theorem je_slice (he : JE X e te) (hl : JO X lo tl) (hu : JO X hi th) : JE X (.Subscript e (.Slice lo hi none p2) pos) (dSl te tl th) := by
  obtain ⟨u, p, g⟩ := he
  obtain ⟨u1, p1, g1⟩ := hl
  obtain ⟨u2, p2, g2⟩ := hu
  refine je_pe (pe_slice sl_all p p1 p2) fun ds σ H M Q Q0 s m q k => ?_
  refine g ds σ H M _ _ s m q fun v H1 d M1 r1 m1 gg1 q1 => ?_
  refine g1 ds σ H1 M1 _ _ (s.gg m gg1) m1 q1 fun l H2 M2 m2 gg2 q2 => ?_
  refine g2 ds σ H2 M2 _ _ (s.gg m (gg1.trans gg2)) m2 q2 fun u H3 M3 m3 gg3 q3 => ?_
  exact lift_sl v d l u H3 M3 Q Q0 (VR.mono ((gg2.trans gg3).tx m1) _ _ r1) m3 q3 fun w H4 f M4 r4 m4 gg4 q4 => k w H4 f M4 r4 m4 (((gg1.trans gg2).trans gg3).trans gg4) q4
end
end DM
namespace DM
open PySem L2
open PyProof.Rows (b2i)
abbrev TDG := D → DSt → Mm → (DSt → Mm → Prop) → Prop
abbrev TDGs := List D → DSt → Mm → (DSt → Mm → Prop) → Prop
structure JG (X : Cx) (target : Expr) (t : TDG) : Prop where
  go : ∃ t0, PG X target t0 ∧ ∀ (d : D) (v : V) (ds : DSt) (σ : L2.St) (H : HF) (M : Mm) (Q : DSt → Mm → Prop) (Q0 : L2.St → Hp → Prop), VR X.K H d v → SR X.K H ds σ → MR X.K M H → t d ds M Q →
    (∀ ds' σ' H' M', SR X.K H' ds' σ' → MR X.K M' H' → GG M H M' H' → Q ds' M' → Q0 σ' H'.h) → t0 v σ H.h Q0
structure JGs (X : Cx) (ts : List Expr) (t : TDGs) : Prop where
  go : ∃ t0, PGs X ts t0 ∧ ∀ (es : List D) (vs : List V) (ds : DSt) (σ : L2.St) (H : HF) (M : Mm) (Q : DSt → Mm → Prop) (Q0 : L2.St → Hp → Prop), VRs X.K H es vs → SR X.K H ds σ → MR X.K M H → t es ds M Q →
    (∀ ds' σ' H' M', SR X.K H' ds' σ' → MR X.K M' H' → GG M H M' H' → Q ds' M' → Q0 σ' H'.h) → t0 vs σ H.h Q0
def dgName (i : Nat) : TDG := fun d ds M Q => Q (ds.set i (some d)) M
def dgNil : TDGs := fun es ds M Q => match es with | [] => Q ds M | _ => False
def dgCons (t : TDG) (u : TDGs) : TDGs := fun es ds M Q => match es with | d :: r => t d ds M fun ds' M' => u r ds' M' Q | [] => False
def dgTup (n : Nat) (t : TDGs) : TDG := fun d ds M Q => match d with | .tup xs => xs.length = n ∧ t xs ds M Q | .lst xs => xs.length = n ∧ t xs ds M Q | _ => False
section
variable {X : Cx} {pos : Pos}
theorem jg_name {i : Nat} {x : Str} (hN : X.N.Nodup) (hi : X.N[i]? = some x := by rfl) (hx : Loc X.env.scope x := by first | exact Or.inl rfl | exact Or.inr rfl) (hf : X.fn x = true ∨ X.env.scope.names.lookup x = some .local := by first | exact .inl rfl | exact .inr rfl | assumption) : JG X (.Name x pos) (dgName i) :=
  ⟨_, pg_name hN hi hx hf, fun d v ds σ H M Q Q0 r s m q k => k _ _ H M (s.set r i) m GG.refl q⟩
theorem jgs_nil : JGs X [] dgNil := ⟨_, pgs_nil, fun es vs ds σ H M Q Q0 r s m q k => by
  cases r with
  | nil => exact ⟨rfl, k ds σ H M s m GG.refl q⟩
  | cons _ _ => exact q.elim⟩
theorem jgs_cons {e : Expr} {es : List Expr} {t : TDG} {u : TDGs} (h1 : JG X e t) (h2 : JGs X es u)
    (hs : (assignEach (e :: es) X.env).map (·.2) = assign e X.env :: (assignEach es X.env).map (·.2) := by rfl) : JGs X (e :: es) (dgCons t u) := by
  obtain ⟨t0, p, g⟩ := h1
  obtain ⟨u0, p', g'⟩ := h2
  refine ⟨_, pgs_cons p p' hs, fun es vs ds σ H M Q Q0 r s m q k => ?_⟩
  cases r with
  | nil => exact q.elim
  | cons r1 r2 =>
    refine ⟨_, _, rfl, ?_⟩
    refine g _ _ ds σ H M _ _ r1 s m q fun ds' σ' H' M' s' m' gg q' => ?_
    exact g' _ _ ds' σ' H' M' _ _ (VRs.mono (gg.tx m) _ _ r2) s' m' q' fun ds2 σ2 H2 M2 s2 m2 gg2 q2 => k ds2 σ2 H2 M2 s2 m2 (gg.trans gg2) q2
theorem pg_any {es : List Expr} {k : Nat} {t : TGs} {n : Nat} (hc : X.calm = true) (h : PGs X es t)
    (hn : (assignEach es X.env).length = n := by rfl) (hst : (assignEach es X.env).findIdx? (·.1) = none := by rfl) : PG X (.Tuple es k pos) (fun v σ H Q => gTup X.K n t v σ H Q ∨ gLst X.K n t v σ H Q) :=
  ⟨fun pins s σ H v u Q I r hw => hw.elim ((pg_tup hc h hn hst).run pins s σ H v u Q I r) ((pg_lst hc h hn hst).run pins s σ H v u Q I r)⟩
theorem jg_tup {es : List Expr} {k : Nat} {t : TDGs} {n : Nat} (hc : X.calm = true) (h : JGs X es t)
    (hn : (assignEach es X.env).length = n := by rfl) (hst : (assignEach es X.env).findIdx? (·.1) = none := by rfl) : JG X (.Tuple es k pos) (dgTup n t) := by
  obtain ⟨t0, p, g⟩ := h
  refine ⟨_, pg_any hc p hn hst, fun d v ds σ H M Q Q0 r s m q k => ?_⟩
  cases d with
  | tup xs =>
    obtain ⟨a, vs, rfl, sa, ra⟩ := r.tup_v
    obtain ⟨hl, q⟩ := q
    exact .inl ⟨a, vs, rfl, sa, by rw [← ra.length]; exact hl, g xs vs ds σ H M Q Q0 ra s m q k⟩
  | lst xs =>
    obtain ⟨a, vs, rfl, sa, _, ra⟩ := r.lst_v
    obtain ⟨hl, q⟩ := q
    exact .inr ⟨a, vs, rfl, SqL.of sa, by rw [← ra.length]; exact hl, g xs vs ds σ H M Q Q0 ra s m q k⟩
  | _ => exact q.elim
end
abbrev TDL := DSt → Mm → (List D → Mm → Prop) → Prop
structure JL (X : Cx) (e : Expr) (t : TDL) : Prop where
  go : ∃ t0, PE X e t0 ∧ ∀ (ds : DSt) (σ : L2.St) (H : HF) (M : Mm) (Q : List D → Mm → Prop) (Q0 : VK), SR X.K H ds σ → MR X.K M H → t ds M Q →
    (∀ p H' xs vs M', H.h p = none → H'.h p = some (.lst vs) → VRs X.K H' xs vs → M' p = none → ¬H'.F p → MR X.K M' H' → GG M H M' H' → Q xs M' → Q0 (.ref p) H'.h) → t0 σ H.h Q0
def dFresh (t : TDL) : TDE := fun ds M Q => t ds M fun xs M1 => ∀ p, M1 p = none → Q (.ref p) (mup M1 p (.lst xs))
def dFrz (t : TDL) : TDE := fun ds M Q => t ds M fun xs M1 => Q (.lst xs) M1
section
variable {X : Cx} {e : Expr} {t : TDL}
theorem je_fresh (h : JL X e t) : JE X e (dFresh t) := by
  obtain ⟨u, p, g⟩ := h
  refine je_pe p fun ds σ H M Q Q0 s m q k => ?_
  refine g ds σ H M _ _ s m q fun p H' xs vs M' hp hp' r n nf m' gg q' => ?_
  exact k _ H' _ _ (.ref p) (m'.known (w := .lst xs) ⟨vs, hp', r⟩ nf) (gg.known hp) (q' p n)
theorem je_frz (h : JL X e t) : JE X e (dFrz t) := by
  obtain ⟨u, p, g⟩ := h
  refine je_pe p fun ds σ H M Q Q0 s m q k => ?_
  refine g ds σ H M _ _ s m q fun p H' xs vs M' hp hp' r n nf m' gg q' => ?_
  exact k _ (H'.fz p) _ _ (.lst hp' (.inr rfl) (VRs.mono TX.fzz _ _ r)) (m'.fzz hp' n) (gg.fzz hp) q'
def dDisp (t : TDA) : TDL := fun ds M Q => t ds M fun xs M1 => xs.length ≤ sizeLine ∧ Q xs M1
theorem jl_disp {es : List Expr} {pos : Pos} {t : TDA} (h : JA X es t) : JL X (.List es pos) (dDisp t) := by
  obtain ⟨t0, p, g⟩ := h
  refine ⟨_, pe_lst p, fun ds σ H M Q Q0 s m q k => ?_⟩
  refine g ds σ H M _ _ s m q fun vs H1 es M1 r1 m1 g1 q1 => ⟨by rw [← r1.length]; exact q1.1, fun a ha => ?_⟩
  have hH : H.h a = none := g1.free ha
  exact k a (H1.up a _) _ vs M1 hH upd_same (VRs.mono (TX.new m1 ha) _ _ r1) (m1.free ha) (m1.freeF ha) (m1.newT ha) (g1.trans (GG.newT ha)) q1.2
end
structure DIt where
  xs : List D
  ok : Mm → Prop := fun _ => True
structure ItOk (K : PySem.W.Frag) (J : It) (it : DIt) (M1 : Mm) (H1 : HF) : Prop where
  go : ∀ (i : Nat) (d : D) (M : Mm) (H : HF), GG M1 H1 M H → MR K M H → it.ok M → it.xs[i]? = some d → J.go i H.h
  yld : ∀ (i : Nat) (d : D) (M : Mm) (H : HF) (x : V) (h' : Hp), GG M1 H1 M H → MR K M H → it.ok M → it.xs[i]? = some d → J.yld i H.h x h' → ∃ H' : HF, H'.h = h' ∧ VR K H' d x ∧ MR K M H' ∧ GG M H M H'
  stop : ∀ (M : Mm) (H : HF), GG M1 H1 M H → MR K M H → it.ok M → J.stop it.xs.length H.h
abbrev TDI := DSt → Mm → (DIt → Mm → Prop) → Prop
structure JI (X : Cx) (tg iter : Expr) (t : TDI) : Prop where
  go : ∃ wi, PI X tg iter wi ∧ ∀ (ds : DSt) (σ : L2.St) (H : HF) (M : Mm) (Q : DIt → Mm → Prop) (R0 : It → Hp → Prop), SR X.K H ds σ → MR X.K M H → t ds M Q →
    (∀ J H' it M', ItOk X.K J it M' H' → MR X.K M' H' → GG M H M' H' → Q it M' → R0 J H'.h) → wi σ H.h R0
section
variable {K : PySem.W.Frag} {M M' : Mm} {H H' : HF}
theorem it_lst {a : Addr} {xs : List D} : ItOk K (Itl K a) ⟨xs, fun M => lstOf M a = some xs⟩ M H where
  go := fun i d M2 H2 g m ok e => by
    obtain ⟨vs, h1, r1⟩ := m.ob a _ (of_lstOf ok)
    obtain ⟨v, e1, _⟩ := r1.get e
    exact ⟨vs, v, SqL.of h1, e1⟩
  yld := fun i d M2 H2 x H3 g m ok e y => by
    obtain ⟨vs, h1, r1⟩ := m.ob a _ (of_lstOf ok)
    obtain ⟨v, e1, r⟩ := r1.get e
    obtain ⟨eH, y⟩ := y
    subst eH
    have := y vs (SqL.of h1)
    rw [e1] at this
    cases this
    exact ⟨H2, rfl, r, m, GG.refl⟩
  stop := fun M2 H2 g m ok => by
    obtain ⟨vs, h1, r1⟩ := m.ob a _ (of_lstOf ok)
    exact ⟨vs, SqL.of h1, by rw [← r1.length]; exact Nat.le_refl _⟩
theorem it_own {a : Addr} {xs : List D} {vs : List V} (h1 : H.h a = some (.lst vs)) (r1 : VRs K H xs vs) (n : M a = none) (m0 : MR K M H) : ItOk K (Itl K a) ⟨xs, fun _ => True⟩ M H where
  go := fun i d M2 H2 g m _ e => by
    obtain ⟨v, e1, _⟩ := r1.get e
    exact ⟨vs, v, SqL.of (g.fr a _ h1 n).1, e1⟩
  yld := fun i d M2 H2 x H3 g m _ e y => by
    obtain ⟨v, e1, r⟩ := r1.get e
    obtain ⟨eH, y⟩ := y
    subst eH
    have := y vs (SqL.of (g.fr a _ h1 n).1)
    rw [e1] at this
    cases this
    exact ⟨H2, rfl, VR.mono (g.tx m0) _ _ r, m, GG.refl⟩
  stop := fun M2 H2 g m _ => ⟨vs, SqL.of (g.fr a _ h1 n).1, by rw [← r1.length]; exact Nat.le_refl _⟩
theorem it_tup {a : Addr} {xs : List D} {vs : List V} (h1 : SqT K H.h a vs) (r1 : VRs K H xs vs) (m0 : MR K M H) : ItOk K (Itt K a) ⟨xs, fun _ => True⟩ M H where
  go := fun i d M2 H2 g m _ e => by
    obtain ⟨v, e1, _⟩ := r1.get e
    exact ⟨vs, v, (g.tx m0).tu _ _ h1, e1⟩
  yld := fun i d M2 H2 x H3 g m _ e y => by
    obtain ⟨v, e1, r⟩ := r1.get e
    obtain ⟨eH, y⟩ := y
    subst eH
    have := y vs ((g.tx m0).tu _ _ h1)
    rw [e1] at this
    cases this
    exact ⟨H2, rfl, VR.mono (g.tx m0) _ _ r, m, GG.refl⟩
  stop := fun M2 H2 g m _ => ⟨vs, (g.tx m0).tu _ _ h1, by rw [← r1.length]; exact Nat.le_refl _⟩
def rangeD (lo : Int) (n : Nat) : List D := (List.range n).map fun (i : Nat) => D.int (lo + (i : Int))
theorem rangeD_get {lo : Int} {n i : Nat} {d : D} (h : (rangeD lo n)[i]? = some d) : i < n ∧ d = .int (lo + (i : Int)) := by
  unfold rangeD at h
  rw [List.getElem?_map] at h
  obtain ⟨j, h1, h2⟩ := Option.map_eq_some_iff.mp h
  rw [List.getElem?_range (by
    rcases Nat.lt_or_ge i n with q | q
    · exact q
    · rw [List.getElem?_eq_none (by simpa using q)] at h1; cases h1)] at h1
  cases h1
  refine ⟨?_, h2.symm⟩
  rcases Nat.lt_or_ge i n with q | q
  · exact q
  · rw [List.getElem?_eq_none (by simpa using q)] at h
    cases h
theorem it_rng {lo : Int} {n : Nat} : ItOk K (Itr lo n) ⟨rangeD lo n, fun _ => True⟩ M H where
  go := fun i d M2 H2 g m _ e => (rangeD_get e).1
  yld := fun i d M2 H2 x H3 g m _ e y => by
    obtain ⟨eH, y⟩ := y
    subst eH
    subst y
    rw [(rangeD_get e).2]
    exact ⟨H2, rfl, .int _, m, GG.refl⟩
  stop := fun M2 H2 g m _ => by
    show n ≤ (rangeD lo n).length
    simp [rangeD]
def signs (z : Str) : List D := z.cps.toList.map fun c => .str ⟨#[c]⟩
theorem it_str {z : Str} : ItOk K (Its z) ⟨signs z, fun _ => True⟩ M H where
  go := fun i d M2 H2 g m _ e => by
    unfold signs at e
    rw [List.getElem?_map] at e
    obtain ⟨c, h1, _⟩ := Option.map_eq_some_iff.mp e
    have := (List.getElem?_eq_some_iff.mp h1).1
    show i < z.cps.size
    simpa using this
  yld := fun i d M2 H2 x H3 g m _ e y => by
    obtain ⟨eH, c, y1, y2⟩ := y
    subst eH
    subst y2
    unfold signs at e
    rw [List.getElem?_map] at e
    obtain ⟨c', h1, h2⟩ := Option.map_eq_some_iff.mp e
    rw [Array.getElem?_toList, y1] at h1
    cases h1
    subst h2
    exact ⟨H2, rfl, .str _, m, GG.refl⟩
  stop := fun M2 H2 g m _ => by
    show z.cps.size ≤ (signs z).length
    simp [signs]
end
def inLine (i : Int) : Prop := -(2 ^ 62) ≤ i ∧ i < 2 ^ 62
def diRng1 (te : TDE) : TDI := fun ds M Q => te ds M fun x M1 => isI x fun j => inLine j ∧ Q ⟨rangeD 0 j.toNat, fun _ => True⟩ M1
section
variable {X : Cx} {tg e : Expr} {te : TDE}
theorem ji_rng1 {p pos : Pos} (hg : Gl X "range") (hm : X.mg "range" = none) (h : JE X e te) (hs : starEach [e] X.env = [(false, eval e X.env)] := by rfl) (hs' : starEach (e :: []) X.env = (false, eval e X.env) :: starEach [] X.env := by rfl) :
    JI X tg (.Call (.Name "range" p) [e] [] pos) (diRng1 te) := by
  obtain ⟨u, q, g⟩ := h
  refine ⟨_, pi_range1 hg hm (pa_cons q pa_nil hs') hs, fun ds σ H M Q R0 s m q k => ?_⟩
  refine g ds σ H M _ _ s m q fun v H1 d M1 r1 m1 g1 q1 => ?_
  obtain ⟨j, rfl, ⟨l1, l2⟩, q1⟩ := isI_out r1 q1
  exact ⟨j, rfl, l1, l2, k _ H1 _ M1 it_rng m1 g1 q1⟩
end
def dNext : TDS := fun D ds M => D.nx ds M
def dSeq (t u : TDS) : TDS := fun D ds M => t { D with nx := u D } ds M
def dDrop (te : TDE) : TDS := fun D ds M => te ds M fun _ M1 => D.nx ds M1
def dRet (te : TDE) : TDS := fun D ds M => te ds M D.rt
def dIfS (c : TDT) (t u : TDS) : TDS := fun D ds M => c ds M fun b M1 => if b = true then t D ds M1 else u D ds M1
def dAsg (te : TDE) (g : TDG) : TDS := fun D ds M => te ds M fun x M1 => g x ds M1 D.nx
def forW (ok : Mm → Prop) (g : TDG) (tb : TDS) (D : DEnds) : List DM.D → DSt → Mm → Prop
  | [], ds, M => ok M ∧ D.nx ds M
  | x :: r, ds, M => ok M ∧ g x ds M fun ds' M' => tb { D with nx := forW ok g tb D r, ct := forW ok g tb D r, bk := D.nx } ds' M'
def dFor (ti : TDI) (g : TDG) (tb : TDS) : TDS := fun D ds M => ti ds M fun it M1 => forW it.ok g tb D it.xs ds M1
def whileN (c : TDT) (tb : TDS) (D : DEnds) : Nat → DSt → Mm → Prop
  | 0, _, _ => False
  | n + 1, ds, M => c ds M fun b M1 => if b = true then tb { D with nx := whileN c tb D n, ct := whileN c tb D n, bk := D.nx } ds M1 else D.nx ds M1
def dWhile (c : TDT) (tb : TDS) : TDS := fun D ds M => ∃ n, whileN c tb D n ds M
section
variable {X : Cx} {W : WX} {st : Stmt} {rest : List Stmt} {t u : TDS} {e : Expr} {te : TDE} {pos : Pos}
theorem Link.with_nx {K : PySem.W.Frag} {W : WX} {M0 : Mm} {H0 : HF} {D0 : Ends} {D1 : DEnds} (l : Link K W M0 H0 D0 D1) {n0 : L2.St → Hp → Prop} {n1 : DSt → Mm → Prop}
    (h : ∀ σ ds H M, GG M0 H0 M H → SR K H ds σ → MR K M H → n1 ds M → n0 σ H.h) : Link K W M0 H0 { D0 with nx := n0 } { D1 with nx := n1 } := ⟨h, l.rt, l.bk, l.ct, l.xc⟩
theorem jb_nil : JB X W [] dNext := ⟨_, pss_nil, fun M0 H0 D0 D1 l ds σ H M g s m q => l.nx σ ds H M g s m q⟩
theorem jb_cons (h1 : JS X W st t) (h2 : JB X W rest u) : JB X W (st :: rest) (dSeq t u) := by
  obtain ⟨t0, p, g⟩ := h1
  obtain ⟨u0, p', g'⟩ := h2
  refine ⟨_, pss_cons p p', fun M0 H0 D0 D1 l ds σ H M gg s m q => ?_⟩
  exact g M0 H0 _ _ (l.with_nx fun σ' ds' H' M' g1 s1 m1 q1 => g' M0 H0 D0 D1 l ds' σ' H' M' g1 s1 m1 q1) ds σ H M gg s m q
theorem jb_one (h1 : JS X W st t) : JB X W [st] t := by
  obtain ⟨t0, p, g⟩ := h1
  exact ⟨_, pss_one p, g⟩
theorem js_expr (he : JE X e te) (hs : swapsWith e none pos.line X.env = pure false := by rfl) : JS X W (.Expr e pos) (dDrop te) := by
  obtain ⟨t0, p, g⟩ := he
  refine ⟨_, ps_expr p hs, fun M0 H0 D0 D1 l ds σ H M gg s m q => ?_⟩
  exact g ds σ H M _ _ s m q fun v H1 d M1 r1 m1 g1 q1 => l.nx σ ds H1 M1 (gg.trans g1) (s.gg m g1) m1 q1
theorem js_ret (he : JE X e te) : JS X W (.Return (some e) pos) (dRet te) := by
  obtain ⟨t0, p, g⟩ := he
  refine ⟨_, ps_ret p, fun M0 H0 D0 D1 l ds σ H M gg s m q => ?_⟩
  exact g ds σ H M _ _ s m q fun v H1 d M1 r1 m1 g1 q1 => l.rt v d H1 M1 (gg.trans g1) r1 m1 q1
theorem js_if {c : Expr} {a b : List Stmt} {tc : TDT} (hc : JT X c tc) (ha : JB X W a t) (hb : JB X W b u) : JS X W (.If c a b pos) (dIfS tc t u) := by
  obtain ⟨t0, p, g⟩ := hc
  obtain ⟨t1, p1, g1⟩ := ha
  obtain ⟨t2, p2, g2⟩ := hb
  refine ⟨_, ps_if p p1 p2, fun M0 H0 D0 D1 l ds σ H M gg s m q => ?_⟩
  refine g ds σ H M _ _ s m q fun b H1 M1 m1 gg1 q1 => ?_
  cases b with
  | true => exact g1 M0 H0 D0 D1 l ds σ H1 M1 (gg.trans gg1) (s.gg m gg1) m1 q1
  | false => exact g2 M0 H0 D0 D1 l ds σ H1 M1 (gg.trans gg1) (s.gg m gg1) m1 q1
theorem js_set {i : Nat} {x : Str} {pos' : Pos} (hN : X.N.Nodup) (he : JE X e te) (hi : X.N[i]? = some x := by rfl) (hx : Loc X.env.scope x := by first | exact Or.inl rfl | exact Or.inr rfl) (hs : swapsWith e (some (.Name x pos')) pos.line X.env = pure false := by rfl) (hf : X.fn x = true ∨ X.env.scope.names.lookup x = some .local := by first | exact .inl rfl | exact .inr rfl | assumption) :
    JS X W (.Assign [.Name x pos'] e pos) (dAsg te (dgName i)) := by
  obtain ⟨t0, p, ge⟩ := he
  refine ⟨_, ps_set hN hi hx p hs hf, fun M0 H0 D0 D1 l ds σ H M gg s m q => ?_⟩
  refine ge ds σ H M _ _ s m q fun v H1 d M1 r1 m1 g1 q1 => ?_
  exact l.nx _ _ H1 M1 (gg.trans g1) ((s.gg m g1).set r1 i) m1 q1
theorem js_for {tg iter : Expr} {body : List Stmt} {ti : TDI} {g : TDG} {tb : TDS} (hp : PassesOwn (model X.prog X.w) X.A X.env X.xe) (hc : X.calm = true) (hi : JI X tg iter ti) (hg : JG X tg g) (hb : JB X W body tb)
    (hs : ∀ x, foldedSetIterable iter X.env x = pure x := by intro _; rfl) : JS X W (.For tg iter body [] pos) (dFor ti g tb) := by
  obtain ⟨wi, p, gi⟩ := hi
  obtain ⟨g0, pg, gg⟩ := hg
  obtain ⟨b0, pb, gb⟩ := hb
  refine ⟨_, ps_for hp hc p pg pb hs, fun M0 H0 D0 D1 l ds σ H M gg0 s m q => ?_⟩
  refine gi ds σ H M _ _ s m q fun J H1 it M1 io m1 g1 q1 => ?_
  refine ⟨fun i n σ2 h2 => n = it.xs.length - i ∧ i ≤ it.xs.length ∧ ∃ ds2 M2 H2, h2 = H2.h ∧ GG M1 H1 M2 H2 ∧ GG M0 H0 M2 H2 ∧ SR X.K H2 ds2 σ2 ∧ MR X.K M2 H2 ∧ forW it.ok g tb D1 (it.xs.drop i) ds2 M2,
    ⟨_, rfl, Nat.zero_le _, ds, M1, H1, rfl, GG.refl, gg0.trans g1, s.gg m g1, m1, by simpa using q1⟩, ?_⟩
  rintro i n σ2 h2 ⟨rfl, hi, ds2, M2, H2, rfl, ga, gb2, s2, m2, q2⟩
  by_cases hlt : i < it.xs.length
  · have e : it.xs.drop i = it.xs[i] :: it.xs.drop (i + 1) := List.drop_eq_getElem_cons hlt
    rw [e] at q2
    obtain ⟨ok, q2⟩ := q2
    have ei : it.xs[i]? = some it.xs[i] := List.getElem?_eq_getElem hlt
    refine .inr ⟨io.go i _ M2 H2 ga m2 ok ei, fun σ' h' => i + 1 ≤ it.xs.length ∧ ∃ ds' M' H', h' = H'.h ∧ GG M1 H1 M' H' ∧ GG M0 H0 M' H' ∧ SR X.K H' ds' σ' ∧ MR X.K M' H' ∧ forW it.ok g tb D1 (it.xs.drop (i + 1)) ds' M',
      fun σ' H' h => ⟨it.xs.length - (i + 1), by omega, rfl, h.1, h.2⟩, fun x h' y => ?_⟩
    obtain ⟨H', rfl, r', m', g'⟩ := io.yld i _ M2 H2 x h' ga m2 ok ei y
    refine gg _ x ds2 σ2 H' M2 _ _ r' (s2.gg m2 g') m' q2 fun ds3 σ3 H3 M3 s3 m3 g3 q3 => ?_
    -- the body, seen from the loop's start
    have G1 : GG M1 H1 M3 H3 := (ga.trans g').trans g3
    have G0 : GG M0 H0 M3 H3 := (gb2.trans g').trans g3
    refine gb M3 H3 _ _ ⟨?_, ?_, ?_, ?_, ?_⟩ ds3 σ3 H3 M3 GG.refl s3 m3 q3
    · exact fun σ4 ds4 H4 M4 g4 s4 m4 q4 => ⟨hlt, ds4, M4, H4, rfl, G1.trans g4, G0.trans g4, s4, m4, q4⟩
    · exact fun v d H4 M4 g4 r4 m4 q4 => l.rt v d H4 M4 (G0.trans g4) r4 m4 q4
    · exact fun σ4 ds4 H4 M4 g4 s4 m4 q4 => l.nx σ4 ds4 H4 M4 (G0.trans g4) s4 m4 q4
    · exact fun σ4 ds4 H4 M4 g4 s4 m4 q4 => ⟨hlt, ds4, M4, H4, rfl, G1.trans g4, G0.trans g4, s4, m4, q4⟩
    · exact fun C od σ4 ds4 fs H4 M4 f4 g4 s4 x4 m4 q4 => l.xc C od σ4 ds4 fs H4 M4 (fun dd e => G0.free (f4 dd e)) (G0.trans g4) s4 x4 m4 q4
  · have e : i = it.xs.length := by omega
    subst e
    rw [List.drop_length] at q2
    exact .inl ⟨io.stop M2 H2 ga m2 q2.1, l.nx σ2 ds2 H2 M2 gb2 s2 m2 q2.2⟩
theorem js_while {c : Expr} {body : List Stmt} {tc : TDT} {tb : TDS} (hp : PassesOwn (model X.prog X.w) X.A X.env X.xe) (hc : JT X c tc) (hb : JB X W body tb) : JS X W (.While c body [] pos) (dWhile tc tb) := by
  obtain ⟨c0, pc, gc⟩ := hc
  obtain ⟨b0, pb, gb⟩ := hb
  refine ⟨_, ps_while hp pc pb, fun M0 H0 D0 D1 l ds σ H M gg0 s m q => ?_⟩
  obtain ⟨n0, q⟩ := q
  refine ⟨fun n σ2 h2 => ∃ ds2 M2 H2, h2 = H2.h ∧ GG M0 H0 M2 H2 ∧ SR X.K H2 ds2 σ2 ∧ MR X.K M2 H2 ∧ whileN tc tb D1 n ds2 M2, ⟨n0, ds, M, H, rfl, gg0, s, m, q⟩, ?_⟩
  rintro n σ2 h2 ⟨ds2, M2, H2, rfl, g2, s2, m2, q2⟩
  cases n with
  | zero => exact q2.elim
  | succ n =>
    refine gc ds2 σ2 H2 M2 _ _ s2 m2 q2 fun b H3 M3 m3 g3 q3 => ?_
    cases b with
    | false => exact l.nx σ2 ds2 H3 M3 (g2.trans g3) (s2.gg m2 g3) m3 q3
    | true =>
      refine ⟨fun σ' h' => ∃ ds' M' H', h' = H'.h ∧ GG M0 H0 M' H' ∧ SR X.K H' ds' σ' ∧ MR X.K M' H' ∧ whileN tc tb D1 n ds' M', fun σ' H' h => ⟨n, Nat.lt_succ_self _, h⟩, ?_⟩
      refine gb M0 H0 _ _ ⟨?_, ?_, ?_, ?_, ?_⟩ ds2 σ2 H3 M3 (g2.trans g3) (s2.gg m2 g3) m3 q3
      · exact fun σ4 ds4 H4 M4 g4 s4 m4 q4 => ⟨ds4, M4, H4, rfl, g4, s4, m4, q4⟩
      · exact fun v d H4 M4 g4 r4 m4 q4 => l.rt v d H4 M4 g4 r4 m4 q4
      · exact fun σ4 ds4 H4 M4 g4 s4 m4 q4 => l.nx σ4 ds4 H4 M4 g4 s4 m4 q4
      · exact fun σ4 ds4 H4 M4 g4 s4 m4 q4 => ⟨ds4, M4, H4, rfl, g4, s4, m4, q4⟩
      · exact fun C od σ4 ds4 fs H4 M4 f4 g4 s4 x4 m4 q4 => l.xc C od σ4 ds4 fs H4 M4 f4 g4 s4 x4 m4 q4
end
end DM
namespace DM
open PySem L2
open PyProof.Rows (b2i)
def wipeD (ds : DSt) : List Nat → DSt
  | [] => ds
  | v :: vs => (wipeD ds vs).set v none
theorem SR.wipe {K : PySem.W.Frag} {H : HF} {ds : DSt} {σ : L2.St} (s : SR K H ds σ) : ∀ vs : List Nat, SR K H (wipeD ds vs) (L2.wipe σ vs)
  | [] => s
  | v :: vs => (SR.wipe s vs).forget v
structure JGv (X : Cx) (target : Expr) (vs : List Nat) (t : TDG) : Prop where
  go : ∃ t0, PG X target t0 ∧ ∀ (d : D) (v : V) (ds : DSt) (σ : L2.St) (H : HF) (M : Mm) (Q : DSt → Mm → Prop) (Q0 : L2.St → Hp → Prop), VR X.K H d v → SR X.K H ds σ → MR X.K M H → t d ds M Q →
    (∀ ds' σ' H' M', L2.wipe σ' vs = L2.wipe σ vs → SR X.K H' ds' σ' → MR X.K M' H' → GG M H M' H' → Q ds' M' → Q0 σ' H'.h) → t0 v σ H.h Q0
structure JGvs (X : Cx) (ts : List Expr) (vs : List Nat) (t : TDGs) : Prop where
  go : ∃ t0, PGs X ts t0 ∧ ∀ (es : List D) (us : List V) (ds : DSt) (σ : L2.St) (H : HF) (M : Mm) (Q : DSt → Mm → Prop) (Q0 : L2.St → Hp → Prop), VRs X.K H es us → SR X.K H ds σ → MR X.K M H → t es ds M Q →
    (∀ ds' σ' H' M', L2.wipe σ' vs = L2.wipe σ vs → SR X.K H' ds' σ' → MR X.K M' H' → GG M H M' H' → Q ds' M' → Q0 σ' H'.h) → t0 us σ H.h Q0
theorem wipe_set {i : Nat} {x : Option V} : ∀ {vs : List Nat} {σ : L2.St}, i ∈ vs → L2.wipe (σ.set i x) vs = L2.wipe σ vs
  | [], _, h => by cases h
  | v :: vs, σ, h => by
    show (L2.wipe (σ.set i x) vs).set v none = (L2.wipe σ vs).set v none
    by_cases hv : i ∈ vs
    · rw [wipe_set hv]
    · have e : i = v := by
        rcases List.mem_cons.mp h with e | e
        · exact e
        · exact absurd e hv
      subst e
      have comm : ∀ (ws : List Nat), i ∉ ws → L2.wipe (σ.set i x) ws = (L2.wipe σ ws).set i x := by
        intro ws
        induction ws with
        | nil => intro _; rfl
        | cons w ws ih =>
          intro hw
          show (L2.wipe (σ.set i x) ws).set w none = ((L2.wipe σ ws).set w none).set i x
          rw [ih fun z => hw (List.mem_cons_of_mem _ z), List.set_comm]
          intro z
          exact hw (by rw [z]; exact List.mem_cons_self)
      rw [comm vs hv, List.set_set]
section
variable {X : Cx} {pos : Pos}
theorem jgv_name {i : Nat} {x : Str} {vs : List Nat} (hN : X.N.Nodup) (hv : i ∈ vs) (hi : X.N[i]? = some x := by rfl) (hx : Loc X.env.scope x := by first | exact Or.inl rfl | exact Or.inr rfl) (hf : X.fn x = true ∨ X.env.scope.names.lookup x = some .local := by first | exact .inl rfl | exact .inr rfl | assumption) : JGv X (.Name x pos) vs (dgName i) :=
  ⟨_, pg_name hN hi hx hf, fun d v ds σ H M Q Q0 r s m q k => k _ _ H M (wipe_set hv) (s.set r i) m GG.refl q⟩
theorem jgvs_nil {vs : List Nat} : JGvs X [] vs dgNil := ⟨_, pgs_nil, fun es us ds σ H M Q Q0 r s m q k => by
  cases r with
  | nil => exact ⟨rfl, k ds σ H M rfl s m GG.refl q⟩
  | cons _ _ => exact q.elim⟩
theorem jgvs_cons {e : Expr} {es : List Expr} {vs : List Nat} {t : TDG} {u : TDGs} (h1 : JGv X e vs t) (h2 : JGvs X es vs u)
    (hs : (assignEach (e :: es) X.env).map (·.2) = assign e X.env :: (assignEach es X.env).map (·.2) := by rfl) : JGvs X (e :: es) vs (dgCons t u) := by
  obtain ⟨t0, p, g⟩ := h1
  obtain ⟨u0, p', g'⟩ := h2
  refine ⟨_, pgs_cons p p' hs, fun es us ds σ H M Q Q0 r s m q k => ?_⟩
  cases r with
  | nil => exact q.elim
  | cons r1 r2 =>
    refine ⟨_, _, rfl, ?_⟩
    refine g _ _ ds σ H M _ _ r1 s m q fun ds' σ' H' M' hw s' m' gg q' => ?_
    exact g' _ _ ds' σ' H' M' _ _ (VRs.mono (gg.tx m) _ _ r2) s' m' q' fun ds2 σ2 H2 M2 hw2 s2 m2 gg2 q2 => k ds2 σ2 H2 M2 (hw2.trans hw) s2 m2 (gg.trans gg2) q2
theorem jgv_tup {es : List Expr} {k : Nat} {t : TDGs} {n : Nat} {vs : List Nat} (hc : X.calm = true) (h : JGvs X es vs t)
    (hn : (assignEach es X.env).length = n := by rfl) (hst : (assignEach es X.env).findIdx? (·.1) = none := by rfl) : JGv X (.Tuple es k pos) vs (dgTup n t) := by
  obtain ⟨t0, p, g⟩ := h
  refine ⟨_, pg_any hc p hn hst, fun d v ds σ H M Q Q0 r s m q k => ?_⟩
  cases d with
  | tup xs =>
    obtain ⟨a, us, rfl, sa, ra⟩ := r.tup_v
    obtain ⟨hl, q⟩ := q
    exact .inl ⟨a, us, rfl, sa, by rw [← ra.length]; exact hl, g xs us ds σ H M Q Q0 ra s m q k⟩
  | lst xs =>
    obtain ⟨a, us, rfl, sa, _, ra⟩ := r.lst_v
    obtain ⟨hl, q⟩ := q
    exact .inr ⟨a, us, rfl, SqL.of sa, by rw [← ra.length]; exact hl, g xs us ds σ H M Q Q0 ra s m q k⟩
  | _ => exact q.elim
structure JTs (X : Cx) (ifs : List Expr) (t : TDT) : Prop where
  go : ∃ t0, PTs X ifs t0 ∧ ∀ (ds : DSt) (σ : L2.St) (H : HF) (M : Mm) (Q : Bool → Mm → Prop) (Q0 : Bool → Hp → Prop), SR X.K H ds σ → MR X.K M H → t ds M Q →
    (∀ b H' M', MR X.K M' H' → GG M H M' H' → Q b M' → Q0 b H'.h) → t0 σ H.h Q0
def dYes : TDT := fun _ M Q => Q true M
theorem jts_nil : JTs X [] dYes := ⟨_, pts_nil, fun ds σ H M Q Q0 s m q k => k true H M m GG.refl q⟩
theorem jts_one {c : Expr} {t : TDT} (h : JT X c t) : JTs X [c] t := by
  obtain ⟨u, p, g⟩ := h
  exact ⟨_, pts_one p, g⟩
end
def lcW (ok : Mm → Prop) (g : TDG) (tt : TDT) (te : TDE) (ds0 : DSt) (Q : List D → Mm → Prop) : List D → List D → Mm → Prop
  | [], acc, M => ok M ∧ Q acc M
  | x :: r, acc, M => ok M ∧ g x ds0 M fun ds' M2 => tt ds' M2 fun b M3 => if b = true then te ds' M3 fun d M4 => acc.length < sizeLine ∧ lcW ok g tt te ds0 Q r (acc ++ [d]) M4 else lcW ok g tt te ds0 Q r acc M3
def dLc (ti : TDI) (g : TDG) (tt : TDT) (te : TDE) (vs : List Nat) : TDL := fun ds M Q => ti ds M fun it M1 => lcW it.ok g tt te (wipeD ds vs) Q it.xs [] M1
abbrev Blk (X : Cx) (scope : Scope) (s : Shared) (H : Hp) (C : Addr) (cl : List (Str × Addr)) (fp : List Addr) : Cx := X.blk s H scope (compEnvC scope cl C X.env) fp
structure JLC (X : Cx) (elt tg iter : Expr) (ifs : List Expr) (scope : Scope) (own : List (Str × Nat)) (t : TDL) : Prop where
  go : ∃ (wi : TI) (g : TG) (tt : TT) (te : TE), PI X tg iter wi ∧ BlkOk X.N X.env.scope scope own ∧ (∀ s H C cl fp, PG (Blk X scope s H C cl fp) tg g) ∧ (∀ s H C cl fp, PTs (Blk X scope s H C cl fp) ifs tt) ∧ (∀ s H C cl fp, PE (Blk X scope s H C cl fp) elt te) ∧
    ∀ (ds : DSt) (σ : L2.St) (H : HF) (M : Mm) (Q : List D → Mm → Prop) (Q0 : VK), SR X.K H ds σ → MR X.K M H → t ds M Q →
    (∀ p H' xs vs M', H.h p = none → H'.h p = some (.lst vs) → VRs X.K H' xs vs → M' p = none → ¬H'.F p → MR X.K M' H' → GG M H M' H' → Q xs M' → Q0 (.ref p) H'.h) → tLc wi g tt te (own.map (·.2)) σ H.h Q0
theorem jlc {X : Cx} {elt tg iter : Expr} {ifs : List Expr} {scope : Scope} {own : List (Str × Nat)} {ti : TDI} {g : TDG} {tt : TDT} {te : TDE} (hi : JI X tg iter ti) (ok : BlkOk X.N X.env.scope scope own)
    (hg : ∀ s H C cl fp, JGv (Blk X scope s H C cl fp) tg (own.map (·.2)) g) (ht : ∀ s H C cl fp, JTs (Blk X scope s H C cl fp) ifs tt) (he : ∀ s H C cl fp, JE (Blk X scope s H C cl fp) elt te) :
    JLC X elt tg iter ifs scope own (dLc ti g tt te (own.map (·.2))) := by
  obtain ⟨wi, pi, gi⟩ := hi
  refine ⟨wi, fun v σ H Q => ∀ s H' C cl fp, (hg s H' C cl fp).go.choose v σ H Q, fun σ H Q => ∀ s H' C cl fp, (ht s H' C cl fp).go.choose σ H Q, fun σ H Q => ∀ s H' C cl fp, (he s H' C cl fp).go.choose σ H Q, pi, ok, ?_, ?_, ?_, ?_⟩
  · exact fun s H C cl fp => ⟨fun pins s' σ H' v u Q I r h => (hg s H C cl fp).go.choose_spec.1.run pins s' σ H' v u Q I r (h s H C cl fp)⟩
  · exact fun s H C cl fp => ⟨fun pins s' σ H' Q I h => (ht s H C cl fp).go.choose_spec.1.run pins s' σ H' Q I (h s H C cl fp)⟩
  · exact fun s H C cl fp => ⟨fun pins s' σ H' Q I h => (he s H C cl fp).go.choose_spec.1.run pins s' σ H' Q I (h s H C cl fp)⟩
  · intro ds σ H M Q Q0 s m q k
    refine gi ds σ H M _ _ s m q fun J H1 it M1 io m1 g1 q1 => ?_
    intro p hp
    refine ⟨fun i n h2 => n = it.xs.length - i ∧ i ≤ it.xs.length ∧ ∃ M2 acc va H2, h2 = H2.h ∧ GG M1 H1 M2 H2 ∧ MR X.K M2 H2 ∧ H2.h p = some (.lst va) ∧ (M2 p = none ∧ ¬H2.F p) ∧ VRs X.K H2 acc va ∧ lcW it.ok g tt te (wipeD ds (own.map (·.2))) Q (it.xs.drop i) acc M2,
      ⟨_, rfl, Nat.zero_le _, M1, [], [], H1.up p _, rfl, GG.newT hp, m1.newT hp, upd_same, ⟨m1.free hp, m1.freeF hp⟩, .nil, by simpa using q1⟩, ?_⟩
    rintro i n h2 ⟨rfl, hi, M2, acc, va, H2, rfl, g2, m2, hD, nD, ra, q2⟩
    have s2 : SR X.K H2 (wipeD ds (own.map (·.2))) (L2.wipe σ (own.map (·.2))) := ((s.gg m (g1.trans g2))).wipe _
    by_cases hlt : i < it.xs.length
    · have e : it.xs.drop i = it.xs[i] :: it.xs.drop (i + 1) := List.drop_eq_getElem_cons hlt
      rw [e] at q2
      obtain ⟨okM, q2⟩ := q2
      have ei : it.xs[i]? = some it.xs[i] := List.getElem?_eq_getElem hlt
      refine .inr ⟨io.go i _ M2 H2 g2 m2 okM ei, fun h' => i + 1 ≤ it.xs.length ∧ ∃ M2 acc va H', h' = H'.h ∧ GG M1 H1 M2 H' ∧ MR X.K M2 H' ∧ H'.h p = some (.lst va) ∧ (M2 p = none ∧ ¬H'.F p) ∧ VRs X.K H' acc va ∧ lcW it.ok g tt te (wipeD ds (own.map (·.2))) Q (it.xs.drop (i + 1)) acc M2,
        fun H' h => ⟨it.xs.length - (i + 1), by omega, rfl, h.1, h.2⟩, fun x h' y => ?_⟩
      obtain ⟨H', rfl, r', m', g'⟩ := io.yld i _ M2 H2 x h' g2 m2 okM ei y
      intro s' H'' C cl fp
      refine (hg s' H'' C cl fp).go.choose_spec.2 _ x _ _ H' M2 _ _ r' (s2.gg m2 g') m' q2 fun ds3 σ3 H3 M3 hw s3 m3 g3 q3 => ⟨?_, ?_⟩
      · rw [hw]
        have idem : ∀ (vs ws : List Nat), (∀ v ∈ ws, v ∈ vs) → L2.wipe (L2.wipe σ vs) ws = L2.wipe σ vs := by
          intro vs ws
          induction ws with
          | nil => intro _; rfl
          | cons w ws ih =>
            intro hs
            show (L2.wipe (L2.wipe σ vs) ws).set w none = L2.wipe σ vs
            rw [ih fun v hv => hs v (List.mem_cons_of_mem _ hv)]
            have hw := hs w List.mem_cons_self
            -- the slot is forgotten already
            have gone : ∀ (us : List Nat), w ∈ us → (L2.wipe σ us).set w none = L2.wipe σ us := by
              intro us
              induction us with
              | nil => intro z; cases z
              | cons u us ih2 =>
                intro z
                show ((L2.wipe σ us).set u none).set w none = (L2.wipe σ us).set u none
                by_cases hwu : w = u
                · subst hwu; rw [List.set_set]
                · have hz : w ∈ us := by
                    rcases List.mem_cons.mp z with z | z
                    · exact absurd z hwu
                    · exact z
                  rw [List.set_comm _ _ (Ne.symm hwu), ih2 hz]
            exact gone vs hw
        exact idem _ _ fun v hv => hv
      · intro s' H'' C cl fp
        refine (ht s' H'' C cl fp).go.choose_spec.2 ds3 σ3 H3 M3 _ _ s3 m3 q3 fun b H4 M4 m4 g4 q4 => ?_
        have g24 : GG M2 H2 M4 H4 := (g'.trans g3).trans g4
        cases b with
        | false =>
          rw [if_neg Bool.false_ne_true] at q4 ⊢
          obtain ⟨hD4, nD4⟩ := g24.nfr hD nD.1 nD.2
          exact ⟨hlt, M4, acc, va, H4, rfl, g2.trans g24, m4, hD4, nD4, VRs.mono (g24.tx m2) _ _ ra, q4⟩
        | true =>
          rw [if_pos rfl] at q4 ⊢
          intro s' H'' C cl fp
          refine (he s' H'' C cl fp).go.choose_spec.2 ds3 σ3 H4 M4 _ _ (s3.gg m3 g4) m4 q4 fun y H5 d M5 r5 m5 g5 q5 => ?_
          have g25 : GG M2 H2 M5 H5 := g24.trans g5
          obtain ⟨hD5, nD5⟩ := g25.nfr hD nD.1 nD.2
          have ra5 := VRs.mono (g25.tx m2) _ _ ra
          refine ⟨va, hD5, by rw [← ra5.length]; exact q5.1, hlt, M5, acc ++ [d], va ++ [y], H5.up p _, rfl, (g2.trans g25).hidden hp, m5.hidden hD5 nD5.1 nD5.2, upd_same, nD5, ?_, q5.2⟩
          exact VRs.append (VRs.mono (TX.hidden hD5 nD5.2) _ _ ra5) (.cons (VR.mono (TX.hidden hD5 nD5.2) _ _ r5) .nil)
    · have e : i = it.xs.length := by omega
      subst e
      rw [List.drop_length] at q2
      exact .inl ⟨io.stop M2 H2 g2 m2 q2.1, k p H2 acc va M2 (g1.free hp) hD ra nD.1 nD.2 m2 (g1.trans g2) q2.2⟩
section
variable {X : Cx} {elt tg iter : Expr} {ifs : List Expr} {scope : Scope} {own : List (Str × Nat)} {t : TDL} {pos spos : Pos}
theorem jl_lc (hc : X.calm = true) (hN : X.N.Nodup) (h : JLC X elt tg iter ifs scope own t) (hs : ∀ x, foldedSetIterable iter X.env x = pure x := by intro _; rfl) : JL X (.ListComp elt [⟨tg, iter, ifs, 0⟩] scope pos) t := by
  obtain ⟨wi, g, tt, te, h1, h2, h3, h4, h5, h6⟩ := h
  exact ⟨_, pe_lc hc hN h1 h2 h3 h4 h5 hs, h6⟩
theorem js_setLcF {W : WX} {i : Nat} {y : Str} {py : Pos} (hc : X.calm = true) (hN : X.N.Nodup) (h : JLC X elt tg iter ifs scope own t) (hsw : swapsWith (.ListComp elt [⟨tg, iter, ifs, 0⟩] scope pos) (some (.Name y py)) spos.line X.env = pure true)
    (hy : X.N[i]? = some y := by rfl) (hyl : X.env.scope.names.lookup y = some .local := by rfl) (hs : ∀ x, foldedSetIterable iter X.env x = pure x := by intro _; rfl) :
    JS X W (.Assign [.Name y py] (.ListComp elt [⟨tg, iter, ifs, 0⟩] scope pos) spos) (dAsg (dFrz t) (dgName i)) := by
  obtain ⟨wi, g, tt, te, h1, h2, h3, h4, h5, h6⟩ := h
  refine ⟨_, ps_setLc hc hN hy hyl hsw h1 h2 h3 h4 h5 hs, fun M0 H0 D0 D1 l ds σ H M gg s m q => ?_⟩
  refine h6 ds σ H M _ _ s m q fun p H' xs vs M' hp hp' r n nf m' g' q' => ?_
  exact l.nx _ _ (H'.fz p) _ (gg.trans (g'.fzz hp)) (((s.gg m g').mono TX.fzz).set (.lst hp' (.inr rfl) (VRs.mono TX.fzz _ _ r)) i) (m'.fzz hp' n) q'
end
abbrev DSp := List D → Mm → DQ → Prop
def toSp (K : PySem.W.Frag) (sp : DSp) : Sp := fun vs h Q _ => ∃ ds M R H, h = H.h ∧ VRs K H ds vs ∧ MR K M H ∧ sp ds M R ∧ ∀ v H' d M', VR K H' d v → MR K M' H' → GG M H M' H' → R d M' → Q v H'.h
def dCall (sp : DSp) (t : TDA) : TDE := fun ds M Q => t ds M fun xs M1 => sp xs M1 Q
section
variable {X : Cx} {k : Nat} {f : Addr} {fd : FuncData} {ps : List Str} {sp : DSp} {x : Str} {p pos : Pos} {e : Expr} {es : List Expr} {t : TDA}
theorem je_call (F : FnOk X.prog X.w X.K X.mg X.base CX0 k f fd ps (toSp X.K sp)) (hr : Room k X.A) (hg : Gl X x) (hm : X.mg x = some (.ref f)) (hk : PySem.W.keepIn X.K (.ref f) = true) (hb : Binds X.K fd ps [])
    (ha : JA X (e :: es) t) (hdb : (x == ("__debug__" : Str)) = false := by decide) (he : starEach (e :: es) X.env = (false, eval e X.env) :: starEach es X.env := by rfl) (hpl : (backTo pos (starEach es X.env)).any (·.1) = false := by rfl) :
    JE X (.Call (.Name x p) (e :: es) [] pos) (dCall sp t) := by
  obtain ⟨u, q, g⟩ := ha
  refine je_pe (pe_call F hr hg hm hk hb .nil pass0 q hdb he hpl) fun ds σ H M Q Q0 s m q k => ?_
  refine g ds σ H M _ _ s m q fun vs H1 es M1 r1 m1 g1 q1 => ?_
  rw [List.append_nil]
  exact ⟨es, M1, Q, H1, rfl, r1, m1, q1, fun v H' d M' r' m' g' q' => k v H' d M' r' m' (g1.trans g') q'⟩
end
def frzF (M' M2 : Mm) (H : HF) : HF := ⟨H.h, fun a => H.F a ∨ ((∃ o, M' a = some o) ∧ M2 a = none)⟩
mutual
inductive FzD (M' M2 : Mm) : D → D → Prop
  | refl (d : D) : FzD M' M2 d d
  | lst {a : Addr} {xs ys : List D} : M' a = some (.lst xs) → M2 a = none → FzDs M' M2 xs ys → FzD M' M2 (.ref a) (.lst ys)
  | dic {a : Addr} {xs ys : List (Key × D)} : M' a = some (.dic xs) → M2 a = none → FzKs M' M2 xs ys → FzD M' M2 (.ref a) (.dic ys)
  | tup {xs ys : List D} : FzDs M' M2 xs ys → FzD M' M2 (.tup xs) (.tup ys)
  | dit {a : Addr} {xs ys : List (List Key × D)} : M' a = some (.dit xs) → M2 a = none → FzTs M' M2 xs ys → FzD M' M2 (.ref a) (.dit ys)
inductive FzDs (M' M2 : Mm) : List D → List D → Prop
  | refl (d : List D) : FzDs M' M2 d d
  | cons {x y : D} {xs ys : List D} : FzD M' M2 x y → FzDs M' M2 xs ys → FzDs M' M2 (x :: xs) (y :: ys)
inductive FzKs (M' M2 : Mm) : List (Key × D) → List (Key × D) → Prop
  | refl (d : List (Key × D)) : FzKs M' M2 d d
  | cons {k : Key} {x y : D} {xs ys : List (Key × D)} : FzD M' M2 x y → FzKs M' M2 xs ys → FzKs M' M2 ((k, x) :: xs) ((k, y) :: ys)
inductive FzTs (M' M2 : Mm) : List (List Key × D) → List (List Key × D) → Prop
  | refl (d : List (List Key × D)) : FzTs M' M2 d d
  | cons {k : List Key} {x y : D} {xs ys : List (List Key × D)} : FzD M' M2 x y → FzTs M' M2 xs ys → FzTs M' M2 ((k, x) :: xs) ((k, y) :: ys)
end
def kin : D → Nat
  | .str _ => 1
  | .tup _ => 2
  | .int _ => 3
  | _ => 0
theorem isPair_kin (xs : List D) : isPair (.tup xs) = match xs with | [a, b] => (kin a == 1 && kin b == 2) || (kin a == 2 && (kin b == 3 || kin b == 1)) | _ => false := by
  match xs with
  | [] => rfl
  | [a] => cases a <;> rfl
  | [a, b] => cases a <;> cases b <;> rfl
  | a :: b :: c :: r => cases a <;> cases b <;> rfl
theorem FzD.kin {M' M2 : Mm} {d e : D} (h : FzD M' M2 d e) : kin d = kin e := by cases h <;> rfl
theorem FzDs.two {M' M2 : Mm} : ∀ {a b : D} {ys : List D}, FzDs M' M2 [a, b] ys → ∃ c d, ys = [c, d] ∧ DM.kin a = DM.kin c ∧ DM.kin b = DM.kin d
  | a, b, _, .refl _ => ⟨a, b, rfl, rfl, rfl⟩
  | _, _, _, .cons x (.cons y (.refl _)) => ⟨_, _, rfl, x.kin, y.kin⟩
  | _, _, _, .cons x (.refl _) => ⟨_, _, rfl, x.kin, rfl⟩
theorem FzDs.len {M' M2 : Mm} : ∀ {xs ys : List D}, FzDs M' M2 xs ys → xs.length = ys.length
  | _, _, .refl _ => rfl
  | _, _, .cons _ t => by simp [FzDs.len t]
theorem FzD.pair {M' M2 : Mm} {d e : D} (h : FzD M' M2 d e) : isPair d = isPair e := by
  cases h with
  | refl => rfl
  | lst _ _ _ => rfl
  | dic _ _ _ => rfl
  | dit _ _ _ => rfl
  | tup q =>
    rename_i xs ys
    rw [isPair_kin, isPair_kin]
    have l := q.len
    match xs, ys, l, q with
    | [], [], _, _ => rfl
    | [_], [_], _, _ => rfl
    | [a, b], _, _, q => obtain ⟨c, d, rfl, e1, e2⟩ := q.two; simp only [e1, e2]
    | _ :: _ :: _ :: _, _ :: _ :: _ :: _, _, _ => rfl
theorem FzDs.pq {M' M2 : Mm} : ∀ {xs ys : List D}, FzDs M' M2 xs ys → pq xs = pq ys
  | _, _, .refl _ => rfl
  | _, _, .cons x t => by
    have := FzDs.pq t
    unfold DM.pq at *
    rw [List.all_cons, List.all_cons, x.pair, this]
theorem FzTs.ne {M' M2 : Mm} : ∀ {xs ys : List (List Key × D)}, FzTs M' M2 xs ys → NEk xs → NEk ys
  | _, _, .refl _, n => n
  | (_, x0) :: _, _, .cons x t, n => fun kv hm => by
    rcases List.mem_cons.mp hm with rfl | hm
    · exact n (_, x0) List.mem_cons_self
    · exact FzTs.ne t (fun kv h => n kv (List.mem_cons_of_mem _ h)) kv hm
section
variable {K : PySem.W.Frag} {M' M2 M : Mm} {H H0 : HF}
theorem TX.frz : TX K H (frzF M' M2 H) := ⟨fun _ _ h => h, fun _ _ h => h, fun _ _ _ h => h, fun _ _ f h => ⟨.inl f, h⟩⟩
mutual
theorem FzD.vr (m : MR K M' H) : ∀ {d d2 : D} {v : V}, FzD M' M2 d d2 → VR K H d v → VR K (frzF M' M2 H) d2 v
  | _, _, _, .refl _, r => VR.mono TX.frz _ _ r
  | _, _, _, .lst h n q, r => by
    cases r
    obtain ⟨vs, h1, r1⟩ := m.ob _ _ h
    exact .lst h1 (.inr ⟨⟨_, h⟩, n⟩) (FzDs.vr m q r1)
  | _, _, _, .dic h n q, r => by
    cases r
    obtain ⟨vs, h1, r1⟩ := m.ob _ _ h
    exact .dic h1 (.inr ⟨⟨_, h⟩, n⟩) (FzKs.vr m q r1.kr)
  | _, _, _, .tup q, r => by
    cases r with
    | tup h r1 => exact .tup (by rw [← q.pq]; exact h) (FzDs.vr m q r1)
  | _, _, _, .dit h n q, r => by
    cases r
    obtain ⟨vs, h1, r1, ne⟩ := m.ob _ _ h
    exact .dit h1 (.inr ⟨⟨_, h⟩, n⟩) (FzTs.vr m q r1.tr) (q.ne ne)
theorem FzDs.vr (m : MR K M' H) : ∀ {d d2 : List D} {v : List V}, FzDs M' M2 d d2 → VRs K H d v → VRs K (frzF M' M2 H) d2 v
  | _, _, _, .refl _, r => VRs.mono TX.frz _ _ r
  | _, _, _, .cons a b, .cons r1 r2 => .cons (FzD.vr m a r1) (FzDs.vr m b r2)
theorem FzKs.vr (m : MR K M' H) : ∀ {d d2 : List (Key × D)} {v : List (Key × V)}, FzKs M' M2 d d2 → KRs K H d v → KRs K (frzF M' M2 H) d2 v
  | _, _, _, .refl _, r => KRs.mono TX.frz _ _ r
  | _, _, _, .cons a b, .cons r1 r2 => .cons (FzD.vr m a r1) (FzKs.vr m b r2)
theorem FzTs.vr (m : MR K M' H) : ∀ {d d2 : List (List Key × D)} {v : List (List Key × V)}, FzTs M' M2 d d2 → TRs K H d v → TRs K (frzF M' M2 H) d2 v
  | _, _, _, .refl _, r => TRs.mono TX.frz _ _ r
  | _, _, _, .cons a b, .cons r1 r2 => .cons (FzD.vr m a r1) (FzTs.vr m b r2)
end
theorem MR.frz (m : MR K M' H) (s : Sub M2 M') : MR K M2 (frzF M' M2 H) := ⟨fun a o e => (m.ob a o (s a o e)).mono TX.frz rfl, fun a f => by
  rcases f with f | f
  · exact s.none (m.nf a f)
  · exact f.2, fun a f => by
  rcases f with f | ⟨⟨o, e⟩, _⟩
  · exact m.sm a f
  · have q := m.ob a o e
    cases o with
    | lst _ => obtain ⟨vs, q, _⟩ := q; exact ⟨_, q⟩
    | dic _ => obtain ⟨vs, q, _⟩ := q; exact ⟨_, q⟩
    | dit _ => obtain ⟨vs, q, _⟩ := q; exact ⟨_, q⟩
    | ins _ _ => obtain ⟨_, vs, q, _⟩ := q; exact ⟨_, q⟩
    | xd _ => obtain ⟨vs, q, _⟩ := q; exact ⟨_, q⟩
    | lkK _ _ _ => exact ⟨_, q.1⟩
    | lkT _ _ _ => exact ⟨_, q.1⟩⟩
theorem GG.frz (g : GG M H0 M' H) (s : Sub M2 M') : GG M H0 M2 (frzF M' M2 H) := by
  refine ⟨fun a o e n => ?_, g.al⟩
  obtain ⟨h1, n1, f1⟩ := g.fr a o e n
  refine ⟨h1, s.none n1, ⟨fun x => ?_, fun x => .inl (f1.mpr x)⟩⟩
  rcases x with x | ⟨⟨o, e⟩, _⟩
  · exact f1.mp x
  · rw [n1] at e
    cases e
end
def Shr (R : DQ) : DQ := fun d M' => ∃ M2 d2, Sub M2 M' ∧ FzD M' M2 d d2 ∧ R d2 M2
theorem Shr.of {R : DQ} {d : D} {M' M2 : Mm} (h : R d M2) (s : Sub M2 M') : Shr R d M' := ⟨M2, d, s, .refl d, h⟩
theorem Shr.all {R : DQ} {d : D} {M : Mm} (h : R d M) : Shr R d M := ⟨M, d, Sub.refl, .refl d, h⟩
theorem Shr.frz {R : DQ} {p : Addr} {M' M2 : Mm} {xs : List D} (e : lstOf M' p = some xs) (s : Sub M2 M') (n : M2 p = none) (h : R (.lst xs) M2) : Shr R (.ref p) M' := ⟨M2, .lst xs, s, .lst (of_lstOf e) n (.refl _), h⟩
theorem sub_new {M M' : Mm} {p : Addr} {o : MO} (s : Sub M M') (n : M p = none) : Sub M (mup M' p o) := fun a u e => by
  rw [mup_ne]
  · exact s a u e
  · rintro rfl; rw [n] at e; cases e
def dstart (N : List Str) (ds : List D) : DSt := ds.map some ++ List.replicate (N.length - ds.length) none
theorem SR.start {K : PySem.W.Frag} {H : HF} {N : List Str} {ds : List D} {vs : List V} (r : VRs K H ds vs) : SR K H (dstart N ds) (L2.start N vs) := by
  unfold dstart L2.start
  rw [r.length]
  refine ⟨by simp [r.length], fun i d h => ?_⟩
  by_cases hi : i < vs.length
  · rw [List.getElem?_append_left (by rw [List.length_map, r.length]; exact hi), List.getElem?_map] at h
    obtain ⟨d', h1, h2⟩ := Option.map_eq_some_iff.mp h
    cases h2
    obtain ⟨v, h3, h4⟩ := r.get h1
    exact ⟨v, by rw [List.getElem?_append_left (by rw [List.length_map]; exact hi), List.getElem?_map, h3] <;> rfl, h4⟩
  · rw [List.getElem?_append_right (by rw [List.length_map, r.length]; omega)] at h
    rw [List.getElem?_replicate] at h
    split at h
    · cases h
    · cases h
section
variable {P : Program} {w : World} {K : PySem.W.Frag} {mg : Str → Option Value} {base : Heap}
theorem fn_ok {x qual : Str} {st : Stmt} {f : Addr} {fd : FuncData} {N ps : List Str} {k : Nat} {sp : DSp} (F : Fun K x qual st f fd) (S : FnScope N ps (defScope st)) (len : ∀ ds M R, sp ds M R → ds.length = ps.length)
    (body : ∀ (cdv : Value) (A : Around) (outer : List Env) (s : Shared) (H : Hp) (E : XK), Room k (A.deeper (PyProof.Rows.envOfC qual (defScope st) s.heap.objs.size f cdv)) →
      ∃ t, JB (cxOf CX0 P w K mg base N qual (defScope st) f cdv A outer s H E).nox (fun _ _ _ _ => False) (defBody st) t ∧ ∀ (ds : List D) (M : Mm) (R : DQ), sp ds M R → t { nx := fun _ M' => Shr R .non M', rt := Shr R } (dstart N ds) M) : FnOk P w K mg base CX0 (k + 1) f fd ps (toSp K sp) := by
  refine F.ok S (fun vs H Q E h => ?_) fun cdv A outer s H vs Q E hr h => ?_
  · obtain ⟨ds, M, R, H, _, r, _, h, _⟩ := h
    rw [← r.length]
    exact len ds M R h
  · obtain ⟨ds, M, R, H, rfl, r, m, h, k⟩ := h
    obtain ⟨t, ⟨t0, p, g⟩, hb⟩ := body cdv A outer s H.h E hr
    refine ⟨t0, p, ?_⟩
    refine g M H _ _ ⟨?_, ?_, ?_, ?_, ?_⟩ (dstart N ds) (L2.start N vs) H M GG.refl (SR.start r) m (hb ds M R h)
    · rintro σ ds' H' M' gg s' m' ⟨M2, d2, sb, fz, q⟩
      exact k _ (frzF M' M2 H') d2 M2 (fz.vr m' .non) (m'.frz sb) (gg.frz sb) q
    · rintro v d H' M' gg r' m' ⟨M2, d2, sb, fz, q⟩
      exact k v (frzF M' M2 H') d2 M2 (fz.vr m' r') (m'.frz sb) (gg.frz sb) q
    · intro _ _ _ _ _ _ _ q
      exact q.elim
    · intro _ _ _ _ _ _ _ q
      exact q.elim
    · intro _ _ _ _ _ _ _ _ _ _ _ _ q
      exact q.elim
end
end DM
namespace DM
open PySem L2
open PyProof.Rows (b2i)
abbrev DRC := List D → Mm → DQ → Prop
def LiftC (K : PySem.W.Frag) (r : List V → Hp → VK → Prop) (dr : DRC) : Prop := ∀ (vs : List V) (ds : List D) (H : HF) (M : Mm) (Q : DQ) (Q0 : VK), VRs K H ds vs → MR K M H → dr ds M Q →
  (∀ v H' d M', VR K H' d v → MR K M' H' → GG M H M' H' → Q d M' → Q0 v H'.h) → r vs H.h Q0
def dCB (r : DRC) (t : TDA) : TDE := fun ds M Q => t ds M fun xs M1 => r xs M1 Q
def LiftL (K : PySem.W.Frag) (r : List V → Hp → VK → Prop) (lr : DRC) : Prop := ∀ (p : Addr) (vs : List V) (xs : List D) (H : HF) (M : Mm) (Q : DQ) (Q0 : VK), H.h p = some (.lst vs) → VRs K H xs vs → MR K M H → lr xs M Q →
  (∀ v H' d M', VR K H' d v → MR K M' H' → GG M H M' H' → Q d M' → Q0 v H'.h) → r [.ref p] H.h Q0
def ofLst (r : DRC) : DRC := fun xs M Q => match xs with
  | [x] => (match rdL M x with | some ys => r ys M Q | none => False)
  | _ => False
section
variable {X : Cx} {id T : String} {x : Str} {r : List V → Hp → VK → Prop} {dr : DRC} {p pos : Pos} {e : Expr} {es : List Expr} {t : TDA}
theorem je_callB (hc : CallR X (.builtin id) r) (hl : LiftC X.K r dr) (hg : Gl X x) (hm : X.mg x = none) (hv : bootBuiltins x = some (.builtin id)) (ha : JA X (e :: es) t) (hn : x ≠ "__name__" := by decide) (hdb : (x == ("__debug__" : Str)) = false := by decide)
    (he : starEach (e :: es) X.env = (false, eval e X.env) :: starEach es X.env := by rfl) (hpl : (backTo pos (starEach es X.env)).any (·.1) = false := by rfl) : JE X (.Call (.Name x p) (e :: es) [] pos) (dCB dr t) := by
  obtain ⟨u, q, g⟩ := ha
  refine je_pe (pe_callB hc hg hm hv q hn hdb he hpl) fun ds σ H M Q Q0 s m q k => ?_
  refine g ds σ H M _ _ s m q fun vs H1 es M1 r1 m1 g1 q1 => ?_
  exact hl vs es H1 M1 Q Q0 r1 m1 q1 fun v H' d M' r' m' g' q' => k v H' d M' r' m' (g1.trans g') q'
theorem je_callTy (hc : CallR X (.type T) r) (hl : LiftC X.K r dr) (hg : Gl X x) (hm : X.mg x = none) (hv : bootBuiltins x = some (.type T)) (ha : JA X (e :: es) t) (hn : x ≠ "__name__" := by decide) (hdb : (x == ("__debug__" : Str)) = false := by decide)
    (he : starEach (e :: es) X.env = (false, eval e X.env) :: starEach es X.env := by rfl) (hpl : (backTo pos (starEach es X.env)).any (·.1) = false := by rfl) : JE X (.Call (.Name x p) (e :: es) [] pos) (dCB dr t) := by
  obtain ⟨u, q, g⟩ := ha
  refine je_pe (pe_callTy hc hg hm hv q hn hdb he hpl) fun ds σ H M Q Q0 s m q k => ?_
  refine g ds σ H M _ _ s m q fun vs H1 es M1 r1 m1 g1 q1 => ?_
  exact hl vs es H1 M1 Q Q0 r1 m1 q1 fun v H' d M' r' m' g' q' => k v H' d M' r' m' (g1.trans g') q'
end
def lenR : DRC := fun xs M Q => match xs with
  | [.tup ys] => Q (.int ys.length) M
  | [.str z] => z.length ≤ sizeLine ∧ Q (.int z.length) M
  | [.ref a] => (match M a with | some (.lst ys) => Q (.int ys.length) M | some (.dic kvs) => Q (.int kvs.length) M | _ => False)
  | [.lst ys] => Q (.int ys.length) M
  | [.dic ys] => Q (.int ys.length) M
  | _ => False
def lenT (K : PySem.W.Frag) : List V → Hp → VK → Prop := fun xs H Q => (∃ x n, xs = [x] ∧ LenV K x H n ∧ Q (.int n) H) ∨ ∃ a kvs, xs = [V.ref a] ∧ H a = some (.dK kvs) ∧ Q (.int kvs.length) H
theorem call_lenT {X : Cx} : CallR X (.builtin "len") (lenT X.K) := call_len.or call_lenD
theorem VRs.one {K : PySem.W.Frag} {H : HF} {d : D} {vs : List V} (r : VRs K H [d] vs) : ∃ v, vs = [v] ∧ VR K H d v := by
  cases r with
  | cons r1 r2 => cases r2; exact ⟨_, rfl, r1⟩
theorem VRs.two {K : PySem.W.Frag} {H : HF} {d e : D} {vs : List V} (r : VRs K H [d, e] vs) : ∃ v w, vs = [v, w] ∧ VR K H d v ∧ VR K H e w := by
  cases r with
  | cons r1 r2 =>
    obtain ⟨w, rfl, r4⟩ := r2.one
    exact ⟨_, _, rfl, r1, r4⟩
theorem FR.length {K : PySem.W.Frag} {H : HF} {κ : Type} : ∀ {ds : List (κ × D)} {vs : List (κ × V)}, FR K H ds vs → ds.length = vs.length
  | _, _, .nil => rfl
  | _, _, .cons _ q => by simp [FR.length q]
theorem lift_len {K : PySem.W.Frag} : LiftC K (lenT K) lenR := by
  intro vs ds H M Q Q0 r m h k
  cases r with
  | nil => exact h.elim
  | cons r1 r2 =>
    rename_i d v _ _
    cases r2 with
    | cons _ _ => cases d <;> exact h.elim
    | nil =>
      cases d with
      | tup ys =>
        obtain ⟨a, us, rfl, sa, ra⟩ := r1.tup_v
        exact .inl ⟨_, _, rfl, .inr ⟨us, sa, rfl⟩, by rw [← ra.length]; exact k _ H _ M (.int _) m GG.refl h⟩
      | str z =>
        cases r1.str_v
        exact .inl ⟨_, _, rfl, ⟨h.1, rfl⟩, k _ H _ M (.int _) m GG.refl h.2⟩
      | ref a =>
        cases r1.ref_v
        unfold lenR at h
        simp only at h
        split at h
        · rename_i ys e
          obtain ⟨us, h1, r3⟩ := m.ob a _ e
          exact .inl ⟨_, _, rfl, .inl ⟨us, SqL.of h1, rfl⟩, by rw [← r3.length]; exact k _ H _ M (.int _) m GG.refl h⟩
        · rename_i kvs e
          obtain ⟨us, h1, r3⟩ := m.ob a _ e
          exact .inr ⟨a, us, rfl, h1, by rw [← r3.length]; exact k _ H _ M (.int _) m GG.refl h⟩
        · exact h.elim
      | lst ys =>
        obtain ⟨a, us, rfl, h1, _, r3⟩ := r1.lst_v
        exact .inl ⟨_, _, rfl, .inl ⟨us, SqL.of h1, rfl⟩, by rw [← r3.length]; exact k _ H _ M (.int _) m GG.refl h⟩
      | dic ys =>
        obtain ⟨a, us, rfl, h1, _, r3⟩ := r1.dic_v
        exact .inr ⟨a, us, rfl, h1, by rw [← r3.length]; exact k _ H _ M (.int _) m GG.refl h⟩
      | _ => exact h.elim
def int1R : DRC := fun xs M Q => match xs with
  | [.int i] => Q (.int i) M
  | [.bl b] => Q (.int (if b then 1 else 0)) M
  | _ => False
theorem lift_int1 {K : PySem.W.Frag} : LiftC K (fun xs H Q => (∃ i, xs = [.int i] ∧ Q (.int i) H) ∨ ∃ k, xs = [.bl k] ∧ Q (.int (if k then 1 else 0)) H) int1R := by
  intro vs ds H M Q Q0 r m h k
  cases r with
  | nil => exact h.elim
  | cons r1 r2 =>
    rename_i d v _ _
    cases r2 with
    | cons _ _ => cases d <;> exact h.elim
    | nil =>
      cases d with
      | int i => cases r1.int_v; exact .inl ⟨i, rfl, k _ H _ M (.int _) m GG.refl h⟩
      | bl i => cases r1.bl_v; exact .inr ⟨i, rfl, k _ H _ M (.int _) m GG.refl h⟩
      | _ => exact h.elim
def tyName (M : Mm) : D → String
  | .non => "NoneType"
  | .bl _ => "bool"
  | .int _ => "int"
  | .str _ => "str"
  | .tup _ => "tuple"
  | .ref a => (match M a with | some (.lst _) => "list" | some (.dic _) => "dict" | _ => "?")
  | .ty _ => "?"
  | .lst _ => "list"
  | .dic _ => "dict"
  | .dit _ => "?"
def isiB (a n : String) : Bool := a == n || (a == "bool" && n == "int")
def isiOk (a n : String) : Bool := ["NoneType", "bool", "int", "str", "tuple", "list", "dict"].contains a && ["bool", "int", "str", "tuple", "list", "dict"].contains n
theorem isi_tab : ∀ a ∈ ["NoneType", "bool", "int", "str", "tuple", "list", "dict"], ∀ n ∈ ["bool", "int", "str", "tuple", "list", "dict"], kitB a n = some (isiB a n) := by decide +kernel
theorem kitB_of {a n : String} (h : isiOk a n = true) : kitB a n = some (isiB a n) := by
  unfold isiOk at h
  rw [Bool.and_eq_true] at h
  exact isi_tab a (by simpa using h.1) n (by simpa using h.2)
def isiR : DRC := fun xs M Q => match xs with
  | [x, .ty n] => isiOk (tyName M x) n = true ∧ Q (.bl (isiB (tyName M x) n)) M
  | _ => False
theorem tyX_of {K : PySem.W.Frag} {H : HF} {M : Mm} {d : D} {v : V} (r : VR K H d v) (m : MR K M H) (h : tyName M d ≠ "?") : TyX K H.h v (.type (tyName M d)) := by
  cases r with
  | non => exact .base .non
  | bl b => exact .base (.bl b)
  | int b => exact .base (.int b)
  | str b => exact .base (.str b)
  | ty n => exact absurd rfl h
  | dit _ _ _ _ => exact absurd rfl h
  | lst h1 f1 ra => exact .base (.lst h1)
  | dic h1 f1 ra => exact .base (.dK h1)
  | tup sa ra =>
    show TyX K H.h _ (.type "tuple")
    rename_i xs _ _
    obtain ⟨ob, _, e⟩ := sa
    cases hq : pq xs with
    | false => rw [hq] at e; exact .base (.tup e)
    | true => rw [hq] at e; exact .fTuple e
  | ref a =>
    have e0 : tyName M (.ref a) = (match M a with | some (.lst _) => "list" | some (.dic _) => "dict" | _ => "?") := by unfold tyName; rfl
    rw [e0] at h ⊢
    cases e : M a with
    | none => rw [e] at h; exact absurd rfl h
    | some o =>
      cases o with
      | lst ys =>
        obtain ⟨us, h1, r3⟩ := m.ob a _ e
        exact .base (.lst h1)
      | dic kvs =>
        obtain ⟨us, h1, r3⟩ := m.ob a _ e
        exact .base (.dK h1)
      | dit _ => rw [e] at h; exact absurd rfl h
      | ins _ _ => rw [e] at h; exact absurd rfl h
      | xd _ => rw [e] at h; exact absurd rfl h
      | lkK _ _ _ => rw [e] at h; exact absurd rfl h
      | lkT _ _ _ => rw [e] at h; exact absurd rfl h
theorem lift_isi {K : PySem.W.Frag} : LiftC K (rIsi K) isiR := by
  intro vs ds H M Q Q0 r m h k
  cases r with
  | nil => exact h.elim
  | cons r1 r2 =>
    cases r2 with
    | nil => exact h.elim
    | cons r2 r3 =>
      rename_i d v e w _ _
      cases r3 with
      | cons _ _ => cases e <;> exact h.elim
      | nil =>
        cases e with
        | ty n =>
          cases r2.ty_v
          obtain ⟨ok, h⟩ := h
          have hne : tyName M d ≠ "?" := by
            intro z
            rw [z] at ok
            unfold isiOk at ok
            rw [Bool.and_eq_true] at ok
            exact absurd ok.1 (by decide)
          exact ⟨v, .ty n, _, _, _, rfl, .ty n, tyX_of r1 m hne, kit_ty (kitB_of ok), k _ H _ M (.bl _) m GG.refl h⟩
        | _ => exact h.elim
def rdS (M : Mm) : D → Option (List D)
  | .tup xs => some xs
  | .lst xs => some xs
  | .ref a => lstOf M a
  | _ => none
@[simp] theorem rdS_tup {M : Mm} {xs : List D} : rdS M (.tup xs) = some xs := rfl
@[simp] theorem rdS_lst {M : Mm} {xs : List D} : rdS M (.lst xs) = some xs := rfl
@[simp] theorem rdS_ref {M : Mm} {a : Addr} : rdS M (.ref a) = lstOf M a := rfl
theorem rdS_v {K : PySem.W.Frag} {M : Mm} {H : HF} {d : D} {v : V} {xs : List D} (m : MR K M H) (r : VR K H d v) (e : rdS M d = some xs) : ∃ a vs, v = .ref a ∧ VRs K H xs vs ∧ ((d = .tup xs ∧ SqT K H.h a vs) ∨ H.h a = some (.lst vs)) := by
  cases d with
  | tup ys =>
    cases e
    obtain ⟨a, vs, rfl, h, q⟩ := r.tup_v
    exact ⟨a, vs, rfl, q, .inl ⟨rfl, h⟩⟩
  | lst ys =>
    cases e
    obtain ⟨a, vs, rfl, h, _, q⟩ := r.lst_v
    exact ⟨a, vs, rfl, q, .inr h⟩
  | ref a =>
    cases r.ref_v
    obtain ⟨vs, h1, r1⟩ := m.ob a _ (of_lstOf e)
    exact ⟨a, vs, rfl, r1, .inr h1⟩
  | _ => cases e
def tup1R : DRC := fun xs M Q => match xs with
  | [x] => (match rdS M x with | some ys => Q (.tup ys) M | none => False)
  | _ => False
def tup1T (K : PySem.W.Frag) : List V → Hp → VK → Prop := fun xs H Q => ∃ p ys, xs = [.ref p] ∧ ((SqL K H p ys ∧ NewT H ys Q) ∨ (SqT K H p ys ∧ Q (.ref p) H))
theorem lift_tup1 {K : PySem.W.Frag} : LiftC K (tup1T K) tup1R := by
  intro vs ds H M Q Q0 r m h k
  unfold tup1R at h
  split at h
  · split at h
    · rename_i x ys e
      obtain ⟨v, rfl, r1⟩ := r.one
      obtain ⟨a, us, rfl, ra, h1 | h1⟩ := rdS_v m r1 e
      · rw [h1.1] at r1
        exact ⟨a, us, rfl, .inr ⟨h1.2, k _ H _ M r1 m GG.refl h⟩⟩
      · exact ⟨a, us, rfl, .inl ⟨SqL.of h1, new_tup m ra h k⟩⟩
    · exact h.elim
  · exact h.elim
def blsOf : List D → Option (List Bool)
  | [] => some []
  | .bl i :: r => (blsOf r).map (i :: ·)
  | _ => none
def strsOf : List D → Option (List Str)
  | [] => some []
  | .str i :: r => (strsOf r).map (i :: ·)
  | _ => none
theorem blsOf_v {K : PySem.W.Frag} {H : HF} : ∀ {ds : List D} {vs : List V} {ns : List Bool}, VRs K H ds vs → blsOf ds = some ns → vs = ns.map V.bl
  | [], _, _, r, h => by cases r; simp [blsOf] at h; subst h; rfl
  | d :: ds, _, ns, r, h => by
    cases r with
    | cons r1 r2 =>
      cases d with
      | bl i =>
        simp only [blsOf, Option.map_eq_some_iff] at h
        obtain ⟨ms, h1, rfl⟩ := h
        rw [r1.bl_v, blsOf_v r2 h1]
        rfl
      | _ => simp [blsOf] at h
theorem strsOf_v {K : PySem.W.Frag} {H : HF} : ∀ {ds : List D} {vs : List V} {ns : List Str}, VRs K H ds vs → strsOf ds = some ns → vs = ns.map V.str
  | [], _, _, r, h => by cases r; simp [strsOf] at h; subst h; rfl
  | d :: ds, _, ns, r, h => by
    cases r with
    | cons r1 r2 =>
      cases d with
      | str i =>
        simp only [strsOf, Option.map_eq_some_iff] at h
        obtain ⟨ms, h1, rfl⟩ := h
        rw [r1.str_v, strsOf_v r2 h1]
        rfl
      | _ => simp [strsOf] at h
theorem blsOf_map {α : Type} (f : α → Bool) : ∀ l : List α, blsOf (l.map fun x => D.bl (f x)) = some (l.map f)
  | [] => rfl
  | a :: l => by rw [List.map_cons, blsOf, blsOf_map f l]; rfl
theorem strsOf_map {α : Type} (f : α → Str) : ∀ l : List α, strsOf (l.map fun x => D.str (f x)) = some (l.map f)
  | [] => rfl
  | a :: l => by rw [List.map_cons, strsOf, strsOf_map f l]; rfl
def allLR : DRC := fun xs M Q => match blsOf xs with | some bs => Q (.bl (bs.all id)) M | none => False
def anyLR : DRC := fun xs M Q => match blsOf xs with | some bs => Q (.bl (bs.any id)) M | none => False
theorem lift_allL {K : PySem.W.Frag} : LiftL K (rAll K) allLR := by
  intro p vs xs H M Q Q0 hp r m h k
  unfold allLR at h
  split at h
  · rename_i ns e
    exact ⟨p, ns, rfl, by rw [← blsOf_v r e]; exact SqL.of hp, k _ H _ M (.bl _) m GG.refl h⟩
  · exact h.elim
theorem lift_anyL {K : PySem.W.Frag} : LiftL K (rAny K) anyLR := by
  intro p vs xs H M Q Q0 hp r m h k
  unfold anyLR at h
  split at h
  · rename_i ns e
    exact ⟨p, ns, rfl, by rw [← blsOf_v r e]; exact SqL.of hp, k _ H _ M (.bl _) m GG.refl h⟩
  · exact h.elim
theorem lift_ofL {K : PySem.W.Frag} {r : List V → Hp → VK → Prop} {lr : DRC} (h : LiftL K r lr) : LiftC K r (ofLst lr) := by
  intro vs ds H M Q Q0 rr m q k
  unfold ofLst at q
  split at q
  · split at q
    · rename_i x ys e
      obtain ⟨v, rfl, r1⟩ := rr.one
      obtain ⟨a, us, rfl, h1, r3⟩ := rdL_v m r1 e
      exact h a us ys H M Q Q0 h1 r3 m q k
    · exact q.elim
  · exact q.elim
section
variable {X : Cx} {p pos : Pos} {e f : Expr} {es : List Expr} {t : TDA} {tl : TDL}
theorem je_len (hm : X.mg "len" = none) (ha : JA X (e :: es) t) (hg : Gl X "len" := by rfl) (he : starEach (e :: es) X.env = (false, eval e X.env) :: starEach es X.env := by rfl) (hpl : (backTo pos (starEach es X.env)).any (·.1) = false := by rfl) :
    JE X (.Call (.Name "len" p) (e :: es) [] pos) (dCB lenR t) := je_callB call_lenT lift_len hg hm PySem.boot_len ha (by decide) (by decide) he hpl
theorem je_int1 (hm : X.mg "int" = none) (ha : JA X (e :: es) t) (hg : Gl X "int" := by rfl) (he : starEach (e :: es) X.env = (false, eval e X.env) :: starEach es X.env := by rfl) (hpl : (backTo pos (starEach es X.env)).any (·.1) = false := by rfl) :
    JE X (.Call (.Name "int" p) (e :: es) [] pos) (dCB int1R t) := je_callTy call_int1 lift_int1 hg hm PyProof.Rows.boot_int ha (by decide) (by decide) he hpl
theorem je_isi (hm : X.mg "isinstance" = none) (ha : JA X (e :: es) t) (hg : Gl X "isinstance" := by rfl) (he : starEach (e :: es) X.env = (false, eval e X.env) :: starEach es X.env := by rfl) (hpl : (backTo pos (starEach es X.env)).any (·.1) = false := by rfl) :
    JE X (.Call (.Name "isinstance" p) (e :: es) [] pos) (dCB isiR t) := je_callB call_isi lift_isi hg hm PyProof.Rows.boot_isinstance ha (by decide) (by decide) he hpl
theorem je_tuple (hm : X.mg "tuple" = none) (ha : JA X (e :: es) t) (hg : Gl X "tuple" := by rfl) (he : starEach (e :: es) X.env = (false, eval e X.env) :: starEach es X.env := by rfl) (hpl : (backTo pos (starEach es X.env)).any (·.1) = false := by rfl) :
    JE X (.Call (.Name "tuple" p) (e :: es) [] pos) (dCB tup1R t) := je_callTy call_tupC lift_tup1 hg hm PyProof.Rows.boot_tuple ha (by decide) (by decide) he hpl
theorem je_all (hc : X.calm = true) (hm : X.mg "all" = none) (ha : JA X (e :: es) t) (hg : Gl X "all" := by rfl) (he : starEach (e :: es) X.env = (false, eval e X.env) :: starEach es X.env := by rfl) (hpl : (backTo pos (starEach es X.env)).any (·.1) = false := by rfl) :
    JE X (.Call (.Name "all" p) (e :: es) [] pos) (dCB (ofLst allLR) t) := je_callB (cr_all hc) (lift_ofL lift_allL) hg hm PyProof.Rows.boot_all ha (by decide) (by decide) he hpl
theorem je_any (hc : X.calm = true) (hm : X.mg "any" = none) (ha : JA X (e :: es) t) (hg : Gl X "any" := by rfl) (he : starEach (e :: es) X.env = (false, eval e X.env) :: starEach es X.env := by rfl) (hpl : (backTo pos (starEach es X.env)).any (·.1) = false := by rfl) :
    JE X (.Call (.Name "any" p) (e :: es) [] pos) (dCB (ofLst anyLR) t) := je_callB (cr_any hc) (lift_ofL lift_anyL) hg hm PyProof.Rows.boot_any ha (by decide) (by decide) he hpl
def dListOf (t : TDA) : TDL := fun ds M Q => t ds M fun xs M1 => match xs with
  | [x] => (match rdS M1 x with | some ys => Q ys M1 | none => False)
  | _ => False
theorem jl_list (hm : X.mg "list" = none) (ha : JA X (e :: es) t) (hg : Gl X "list" := by rfl) (he : starEach (e :: es) X.env = (false, eval e X.env) :: starEach es X.env := by rfl) (hpl : (backTo pos (starEach es X.env)).any (·.1) = false := by rfl) :
    JL X (.Call (.Name "list" p) (e :: es) [] pos) (dListOf t) := by
  obtain ⟨u, q, g⟩ := ha
  refine ⟨_, pe_callTy call_list_of hg hm PyProof.Rows.boot_list q (by decide) (by decide) he hpl, fun ds σ H M Q Q0 s m q k => ?_⟩
  refine g ds σ H M _ _ s m q fun vs H1 es M1 r1 m1 g1 q1 => ?_
  split at q1
  · split at q1
    · rename_i x ys e
      obtain ⟨v, rfl, r5⟩ := r1.one
      obtain ⟨a, us, rfl, ra, h1⟩ := rdS_v m1 r5 e
      have fin : ∀ l, H1.h l = none → Q0 (.ref l) (upd H1.h l (.lst us)) := fun l hl => k l (H1.up l _) _ us M1 (g1.free hl) upd_same (VRs.mono (TX.new m1 hl) _ _ ra) (m1.free hl) (m1.freeF hl) (m1.newT hl) (g1.trans (GG.newT hl)) q1
      rcases h1 with h1 | h1
      · exact ⟨a, us, rfl, .inr h1.2, fin⟩
      · exact ⟨a, us, rfl, .inl (SqL.of h1), fin⟩
    · exact q1.elim
  · exact q1.elim
def dCat (ta tb : TDE) : TDL := fun ds M Q => ta ds M fun x M1 => tb ds M1 fun y M2 => match rdL M2 x, rdL M2 y with
  | some i, some j => i.length + j.length ≤ sizeLine ∧ Q (i ++ j) M2
  | _, _ => False
theorem jl_cat {a b : Expr} {ta tb : TDE} (ha : JE X a ta) (hb : JE X b tb) : JL X (.BinOp a .Add b pos) (dCat ta tb) := by
  obtain ⟨u, p, g⟩ := ha
  obtain ⟨u', p', g'⟩ := hb
  refine ⟨_, pe_op op_cat p p', fun ds σ H M Q Q0 s m q k => ?_⟩
  refine g ds σ H M _ _ s m q fun v H1 d M1 r1 m1 g1 q1 => ?_
  refine g' ds σ H1 M1 _ _ (s.gg m g1) m1 q1 fun w H2 e M2 r2 m2 g2 q2 => ?_
  split at q2
  · rename_i i j e1 e2
    obtain ⟨hz, q2⟩ := q2
    obtain ⟨a, vs, rfl, h1, ra⟩ := rdL_v m2 (VR.mono (g2.tx m1) _ _ r1) e1
    obtain ⟨b, ws, rfl, h2, rb⟩ := rdL_v m2 r2 e2
    refine ⟨a, b, vs, ws, rfl, rfl, h1, h2, by rw [← ra.length, ← rb.length]; exact hz, fun l hl => ?_⟩
    exact k l (H2.up l _) _ _ M2 ((g1.trans g2).free hl) upd_same (VRs.append (VRs.mono (TX.new m2 hl) _ _ ra) (VRs.mono (TX.new m2 hl) _ _ rb)) (m2.free hl) (m2.freeF hl) (m2.newT hl) ((g1.trans g2).trans (GG.newT hl)) q2
  · exact q2.elim
end
end DM
namespace DM
open PySem L2
open PyProof.Rows (b2i)
abbrev DRM := D → List D → Mm → DQ → Prop
def LiftM (K : PySem.W.Frag) (r : V → List V → Hp → VK → Prop) (dr : DRM) : Prop := ∀ (x : V) (vs : List V) (dx : D) (ds : List D) (H : HF) (M : Mm) (Q : DQ) (Q0 : VK), VR K H dx x → VRs K H ds vs → MR K M H → dr dx ds M Q →
  (∀ v H' d M', VR K H' d v → MR K M' H' → GG M H M' H' → Q d M' → Q0 v H'.h) → r x vs H.h Q0
def isLst (x : D) (M : Mm) : Prop := match x with | .ref a => (lstOf M a).isSome = true | _ => False
theorem isLst_ty {K : PySem.W.Frag} {M : Mm} {H : HF} {x : D} {v : V} (r : VR K H x v) (m : MR K M H) (h : isLst x M) : tyV K "list" v H.h := by
  cases r with
  | ref a =>
    have h' : (lstOf M a).isSome = true := h
    obtain ⟨xs, e⟩ := Option.isSome_iff_exists.mp h'
    obtain ⟨vs, h1, _⟩ := m.ob a _ (of_lstOf e)
    exact .inl ⟨rfl, vs, SqL.of h1⟩
  | _ => exact h.elim
def dBM (r : DRM) (to : TDE) (t : TDA) : TDE := fun ds M Q => to ds M fun x M1 => isLst x M1 ∧ t ds M1 fun xs M2 => r x xs M2 Q
def dBM0 (r : DRM) (to : TDE) : TDE := fun ds M Q => to ds M fun x M1 => isLst x M1 ∧ r x [] M1 Q
section
variable {X : Cx} {o e : Expr} {es : List Expr} {to : TDE} {t : TDA} {name : Str} {apos cpos : Pos} {id : String} {r : V → List V → Hp → VK → Prop} {dr : DRM}
theorem je_bm0 (slot : Slot "list" name id) (hty : typeOf (.builtin id) = pure (.type "method_descriptor")) (hm : MtR X id r) (hl : LiftM X.K r dr) (ho : JE X o to)
    (hbase : attributeBase o name X.env (eval o X.env) = eval o X.env := by rfl) (hline : (apos.endLine == cpos.line) = true := by rfl) : JE X (.Call (.Attribute o name apos) [] [] cpos) (dBM0 dr to) := by
  obtain ⟨u, p, g⟩ := ho
  refine je_pe (pe_bm0 PySem.F.plainAttrs_list slot hty hm p hbase hline) fun ds σ H M Q Q0 s m q k => ?_
  refine g ds σ H M _ _ s m q fun v H1 d M1 r1 m1 g1 q1 => ⟨isLst_ty r1 m1 q1.1, ?_⟩
  exact hl v [] d [] H1 M1 Q Q0 r1 .nil m1 q1.2 fun w H2 d2 M2 r2 m2 g2 q2 => k w H2 d2 M2 r2 m2 (g1.trans g2) q2
theorem je_bm (slot : Slot "list" name id) (hty : typeOf (.builtin id) = pure (.type "method_descriptor")) (hm : MtR X id r) (hl : LiftM X.K r dr) (ho : JE X o to) (ha : JA X (e :: es) t)
    (hbase : attributeBase o name X.env (eval o X.env) = eval o X.env := by rfl)
    (hfew : ((backTo cpos (starEach (e :: es) X.env)).all (fun x => !x.1) && (backToKw cpos (keywordEach [] X.env)).all (fun x => x.1.isSome)
      && decide ((e :: es).length + ([] : List Keyword).length + (if ([] : List Keyword).isEmpty then 0 else 1) < 30)) = true := by rfl)
    (hline : (apos.endLine == cpos.line) = true := by rfl) (hs : starEach (e :: es) X.env = (false, eval e X.env) :: starEach es X.env := by rfl) (hplain : (backTo cpos (starEach es X.env)).any (·.1) = false := by rfl) :
    JE X (.Call (.Attribute o name apos) (e :: es) [] cpos) (dBM dr to t) := by
  obtain ⟨u, p, g⟩ := ho
  obtain ⟨u', p', g'⟩ := ha
  refine je_pe (pe_bm PySem.F.plainAttrs_list slot hty hm p p' hbase hfew hline hs hplain) fun ds σ H M Q Q0 s m q k => ?_
  refine g ds σ H M _ _ s m q fun v H1 d M1 r1 m1 g1 q1 => ⟨isLst_ty r1 m1 q1.1, ?_⟩
  refine g' ds σ H1 M1 _ _ (s.gg m g1) m1 q1.2 fun vs H2 xs M2 r2 m2 g2 q2 => ?_
  exact hl v vs d xs H2 M2 Q Q0 (VR.mono (g2.tx m1) _ _ r1) r2 m2 q2 fun w H3 d3 M3 r3 m3 g3 q3 => k w H3 d3 M3 r3 m3 ((g1.trans g2).trans g3) q3
end
def appendR : DRM := fun x xs M Q => match x, xs with
  | .ref a, [d] => (match lstOf M a with | some ys => ys.length < sizeLine ∧ Q .non (mup M a (.lst (ys ++ [d]))) | none => False)
  | _, _ => False
theorem lift_append {K : PySem.W.Frag} : LiftM K rAppend appendR := by
  intro x vs dx ds H M Q Q0 rx rs m h k
  unfold appendR at h
  split at h
  · rename_i a d
    cases rx.ref_v
    obtain ⟨v, rfl, r1⟩ := rs.one
    split at h
    · rename_i ys e
      obtain ⟨hz, h⟩ := h
      obtain ⟨us, h1, r2⟩ := m.ob a _ (of_lstOf e)
      have t := TX.put (u := .lst (us ++ [v])) m (of_lstOf e)
      refine ⟨a, us, v, rfl, rfl, h1, by rw [← r2.length]; exact hz, ?_⟩
      exact k _ (H.up a _) _ _ .non (m.put (w := .lst (ys ++ [d])) (of_lstOf e) ⟨_, upd_same, VRs.append (VRs.mono t _ _ r2) (.cons (VR.mono t _ _ r1) .nil)⟩) (GG.put (of_lstOf e)) h
    · exact h.elim
  · exact h.elim
def popR : DRM := fun x xs M Q => match x, xs with
  | .ref a, [] => (match lstOf M a with | some ys => (match ys[ys.length - 1]? with | some d => Q d (mup M a (.lst ys.dropLast)) | none => False) | none => False)
  | _, _ => False
theorem lift_pop {K : PySem.W.Frag} : LiftM K rPop popR := by
  intro x vs dx ds H M Q Q0 rx rs m h k
  unfold popR at h
  split at h
  · rename_i a
    cases rx.ref_v
    cases rs
    split at h
    · rename_i ys e
      split at h
      · rename_i d e2
        obtain ⟨us, h1, r2⟩ := m.ob a _ (of_lstOf e)
        rw [r2.length] at e2
        obtain ⟨v, e3, r3⟩ := r2.get e2
        have t := TX.put (u := .lst us.dropLast) m (of_lstOf e)
        exact ⟨a, us, v, rfl, rfl, h1, e3, k _ (H.up a _) _ _ (VR.mono t _ _ r3) (m.put (w := .lst ys.dropLast) (of_lstOf e) ⟨_, upd_same, (VRs.mono t _ _ r2).dropLast⟩) (GG.put (of_lstOf e)) h⟩
      · exact h.elim
    · exact h.elim
  · exact h.elim
def popAtR : DRM := fun x xs M Q => match x, xs with
  | .ref a, [.int i] => (match lstOf M a with | some ys => (0 ≤ i ∧ i < 2 ^ 62) ∧ (match ys[i.toNat]? with | some d => Q d (mup M a (.lst (ys.eraseIdx i.toNat))) | none => False) | none => False)
  | _, _ => False
theorem lift_popAt {K : PySem.W.Frag} : LiftM K rPopAt popAtR := by
  intro x vs dx ds H M Q Q0 rx rs m h k
  unfold popAtR at h
  split at h
  · rename_i a i
    cases rx.ref_v
    obtain ⟨v, rfl, r1⟩ := rs.one
    cases r1.int_v
    split at h
    · rename_i ys e
      obtain ⟨⟨h0, hi⟩, h⟩ := h
      split at h
      · rename_i d e2
        obtain ⟨us, h1, r2⟩ := m.ob a _ (of_lstOf e)
        obtain ⟨v, e3, r3⟩ := r2.get e2
        have t := TX.put (u := .lst (us.eraseIdx i.toNat)) m (of_lstOf e)
        have hlt := (List.getElem?_eq_some_iff.mp e3).1
        refine ⟨a, us, i, i.toNat, v, rfl, rfl, h1, by omega, by omega, ?_, e3, ?_⟩
        · exact seqIndex_of h0 (by omega)
        · exact k _ (H.up a _) _ _ (VR.mono t _ _ r3) (m.put (w := .lst (ys.eraseIdx i.toNat)) (of_lstOf e) ⟨_, upd_same, (VRs.mono t _ _ r2).eraseIdx _⟩) (GG.put (of_lstOf e)) h
      · exact h.elim
    · exact h.elim
  · exact h.elim
def insertR : DRM := fun x xs M Q => match x, xs with
  | .ref a, [.int i, d] => (match lstOf M a with | some ys => (ys.length < sizeLine ∧ 0 ≤ i ∧ i < 2 ^ 62) ∧ Q .non (mup M a (.lst (ys.take i.toNat ++ [d] ++ ys.drop i.toNat))) | none => False)
  | _, _ => False
def insertT : V → List V → Hp → VK → Prop := fun x vs H Q => ∃ (l : Addr) (xs : List V) (i : Int) (y : V), x = .ref l ∧ vs = [.int i, y] ∧ H l = some (.lst xs) ∧ xs.length < sizeLine ∧ 0 ≤ i ∧ i < 2 ^ 63 ∧
    Q .non (upd H l (.lst (xs.take i.toNat ++ [y] ++ xs.drop i.toNat)))
theorem lift_insert {K : PySem.W.Frag} : LiftM K insertT insertR := by
  intro x vs dx ds H M Q Q0 rx rs m h k
  unfold insertR at h
  split at h
  · rename_i a i d
    cases rx.ref_v
    obtain ⟨v, w, rfl, r1, r4⟩ := rs.two
    cases r1.int_v
    split at h
    · rename_i ys e
      obtain ⟨⟨hz, h0, hi⟩, h⟩ := h
      obtain ⟨us, h1, r2⟩ := m.ob a _ (of_lstOf e)
      have t := TX.put (u := .lst (us.take i.toNat ++ [w] ++ us.drop i.toNat)) m (of_lstOf e)
      have r2' := VRs.mono t _ _ r2
      refine ⟨a, us, i, w, rfl, rfl, h1, by rw [← r2.length]; exact hz, h0, by omega, ?_⟩
      exact k _ (H.up a _) _ _ .non (m.put (w := .lst (ys.take i.toNat ++ [d] ++ ys.drop i.toNat)) (of_lstOf e) ⟨_, upd_same, VRs.append (VRs.append (r2'.take _) (.cons (VR.mono t _ _ r4) .nil)) (r2'.drop _)⟩) (GG.put (of_lstOf e)) h
    · exact h.elim
  · exact h.elim
section
variable {X : Cx} {o e f : Expr} {to te tf : TDE} {apos cpos : Pos}
theorem je_append (ho : JE X o to) (ha : JE X e te) (hbase : attributeBase o "append" X.env (eval o X.env) = eval o X.env := by rfl)
    (hfew : ((backTo cpos (starEach [e] X.env)).all (fun x => !x.1) && (backToKw cpos (keywordEach [] X.env)).all (fun x => x.1.isSome)
      && decide (([e]).length + ([] : List Keyword).length + (if ([] : List Keyword).isEmpty then 0 else 1) < 30)) = true := by rfl)
    (hline : (apos.endLine == cpos.line) = true := by rfl) (hs : starEach [e] X.env = (false, eval e X.env) :: starEach [] X.env := by rfl) (hplain : (backTo cpos (starEach [] X.env)).any (·.1) = false := by rfl) :
    JE X (.Call (.Attribute o "append" apos) [e] [] cpos) (dBM appendR to (dCons te dNil)) := je_bm PySem.F.slot_list_append PySem.F.type_list_append mt_append lift_append ho (ja_cons ha ja_nil hs) hbase hfew hline hs hplain
theorem je_pop0 (ho : JE X o to) (hbase : attributeBase o "pop" X.env (eval o X.env) = eval o X.env := by rfl) (hline : (apos.endLine == cpos.line) = true := by rfl) :
    JE X (.Call (.Attribute o "pop" apos) [] [] cpos) (dBM0 popR to) := je_bm0 PySem.F.slot_list_pop PySem.F.type_list_pop mt_pop lift_pop ho hbase hline
theorem je_popAt (ho : JE X o to) (ha : JE X e te) (hbase : attributeBase o "pop" X.env (eval o X.env) = eval o X.env := by rfl)
    (hfew : ((backTo cpos (starEach [e] X.env)).all (fun x => !x.1) && (backToKw cpos (keywordEach [] X.env)).all (fun x => x.1.isSome)
      && decide (([e]).length + ([] : List Keyword).length + (if ([] : List Keyword).isEmpty then 0 else 1) < 30)) = true := by rfl)
    (hline : (apos.endLine == cpos.line) = true := by rfl) (hs : starEach [e] X.env = (false, eval e X.env) :: starEach [] X.env := by rfl) (hplain : (backTo cpos (starEach [] X.env)).any (·.1) = false := by rfl) :
    JE X (.Call (.Attribute o "pop" apos) [e] [] cpos) (dBM popAtR to (dCons te dNil)) := je_bm PySem.F.slot_list_pop PySem.F.type_list_pop mt_popAt lift_popAt ho (ja_cons ha ja_nil hs) hbase hfew hline hs hplain
theorem je_insert (ho : JE X o to) (ha : JE X e te) (hb : JE X f tf) (hbase : attributeBase o "insert" X.env (eval o X.env) = eval o X.env := by rfl)
    (hfew : ((backTo cpos (starEach [e, f] X.env)).all (fun x => !x.1) && (backToKw cpos (keywordEach [] X.env)).all (fun x => x.1.isSome)
      && decide (([e, f]).length + ([] : List Keyword).length + (if ([] : List Keyword).isEmpty then 0 else 1) < 30)) = true := by rfl)
    (hline : (apos.endLine == cpos.line) = true := by rfl) (hs : starEach [e, f] X.env = (false, eval e X.env) :: starEach [f] X.env := by rfl) (hs2 : starEach [f] X.env = (false, eval f X.env) :: starEach [] X.env := by rfl) (hplain : (backTo cpos (starEach [f] X.env)).any (·.1) = false := by rfl) :
    JE X (.Call (.Attribute o "insert" apos) [e, f] [] cpos) (dBM insertR to (dCons te (dCons tf dNil))) := je_bm PySem.F.slot_list_insert PySem.F.type_list_insert mt_insert lift_insert ho (ja_cons ha (ja_cons hb ja_nil hs2) hs) hbase hfew hline hs hplain
def joinQ (a : Str) (xs : List D) (M : Mm) (Q : DQ) : Prop := match strsOf xs with | some ys => (ys.map (·.length)).sum + ys.length * a.length ≤ 16777216 ∧ Q (.str (Txt.join a ys)) M | none => False
def dJoin (to te : TDE) : TDE := fun ds M Q => to ds M fun x M1 => match x with
  | .str a => te ds M1 fun y M2 => (match rdL M2 y with | some xs => joinQ a xs M2 Q | none => False)
  | _ => False
theorem je_join (ho : JE X o to) (he : JE X e te) (hs : starEach [e] X.env = [(false, eval e X.env)] := by rfl) (hbase : attributeBase o "join" X.env (eval o X.env) = eval o X.env := by rfl) (hline : (apos.endLine == cpos.line) = true := by rfl) :
    JE X (.Call (.Attribute o "join" apos) [e] [] cpos) (dJoin to te) := by
  obtain ⟨u, p, g⟩ := ho
  obtain ⟨u', p', g'⟩ := he
  refine je_pe (pe_join p p' hs hbase hline) fun ds σ H M Q Q0 s m q k => ?_
  refine g ds σ H M _ _ s m q fun v H1 d M1 r1 m1 g1 q1 => ?_
  cases d with
  | str a =>
    cases r1.str_v
    refine ⟨⟨a, rfl⟩, ?_⟩
    refine g' ds σ H1 M1 _ _ (s.gg m g1) m1 q1 fun w H2 d2 M2 r2 m2 g2 q2 => ?_
    split at q2
    · rename_i xs e
      unfold joinQ at q2
      split at q2
      · rename_i ys e2
        obtain ⟨b, vs, rfl, h1, r3⟩ := rdL_v m2 r2 e
        exact ⟨a, b, ys, rfl, rfl, .inl (by rw [← strsOf_v r3 e2]; exact SqL.of h1), q2.1, k _ H2 _ M2 (.str _) m2 (g1.trans g2) q2.2⟩
      · exact q2.elim
    · exact q2.elim
  | _ => exact q1.elim
end
def keyD : D → Option Key
  | .int i => some (.inl i)
  | .str x => some (.inr x)
  | _ => none
theorem keyD_v {K : PySem.W.Frag} {H : HF} {d : D} {v : V} {k : Key} (r : VR K H d v) (h : keyD d = some k) : v = kV k := by
  cases r with
  | int i => cases h; rfl
  | str i => cases h; rfl
  | _ => cases h
def valD (kvs : List (Key × D)) (k : Key) : Option D := (kvs.find? fun kv => decide (kv.1 = k)).map (·.2)
def putD (kvs : List (Key × D)) (k : Key) (d : D) : List (Key × D) :=
  if (kvs.any fun kv => decide (kv.1 = k)) = true then kvs.map (fun kv => if kv.1 = k then (kv.1, d) else kv) else kvs ++ [(k, d)]
section
variable {K : PySem.W.Frag} {H : HF}
theorem FR.val : ∀ {ds : List (Key × D)} {vs : List (Key × V)} {k : Key} {d : D}, FR K H ds vs → valD ds k = some d → ∃ v, valV vs k = some v ∧ VR K H d v
  | _, _, _, _, .nil, h => by simp [valD] at h
  | (k', d') :: ds, (_, v') :: vs, k, d, .cons r q, h => by
    unfold valD valV at *
    by_cases e : k' = k
    · simp [List.find?_cons, e] at h ⊢
      subst h
      exact r
    · simp only [List.find?_cons, e, decide_false] at h ⊢
      exact FR.val (k := k) (d := d) q h
theorem FR.valN : ∀ {ds : List (Key × D)} {vs : List (Key × V)} {k : Key}, FR K H ds vs → valD ds k = none → valV vs k = none
  | _, _, _, .nil, h => by simp [valV]
  | (k', d') :: ds, (_, v') :: vs, k, .cons r q, h => by
    unfold valD valV at *
    by_cases e : k' = k
    · simp [List.find?_cons, e] at h
    · simp only [List.find?_cons, e, decide_false] at h ⊢
      exact FR.valN (k := k) q h
theorem FR.any : ∀ {ds : List (Key × D)} {vs : List (Key × V)} {k : Key}, FR K H ds vs → (ds.any fun kv => decide (kv.1 = k)) = vs.any fun kv => decide (kv.1 = k)
  | _, _, _, .nil => rfl
  | (k', d') :: ds, (_, v') :: vs, k, .cons r q => by rw [List.any_cons, List.any_cons, FR.any q]
theorem FR.snoc {k : Key} {d : D} {v : V} (r : VR K H d v) : ∀ {ds : List (Key × D)} {vs : List (Key × V)}, FR K H ds vs → FR K H (ds ++ [(k, d)]) (vs ++ [(k, v)])
  | _, _, .nil => .cons r .nil
  | _, _, .cons q t => .cons q (FR.snoc r t)
theorem FR.repl {k : Key} {d : D} {v : V} (r : VR K H d v) : ∀ {ds : List (Key × D)} {vs : List (Key × V)}, FR K H ds vs → FR K H (ds.map fun kv => if kv.1 = k then (kv.1, d) else kv) (vs.map fun kv => if kv.1 = k then (kv.1, v) else kv)
  | _, _, .nil => .nil
  | (k', d') :: ds, (_, v') :: vs, .cons q t => by
    rw [List.map_cons, List.map_cons]
    by_cases e : k' = k
    · simp only [e, if_true]
      exact .cons r (FR.repl r t)
    · simp only [e, if_false]
      exact .cons q (FR.repl r t)
theorem FR.put {k : Key} {d : D} {v : V} (r : VR K H d v) {ds : List (Key × D)} {vs : List (Key × V)} (h : FR K H ds vs) : FR K H (putD ds k d) (putK vs k v) := by
  unfold putD putK
  rw [h.any]
  split
  · exact h.repl r
  · exact h.snoc r
end
def dicOf (M : Mm) (a : Addr) : Option (List (Key × D)) := match M a with | some (.dic kvs) => some kvs | _ => none
theorem dicOf_some {M : Mm} {a : Addr} {xs : List (Key × D)} (h : M a = some (.dic xs)) : dicOf M a = some xs := by unfold dicOf; rw [h]
theorem of_dicOf {M : Mm} {a : Addr} {xs : List (Key × D)} (h : dicOf M a = some xs) : M a = some (.dic xs) := by
  unfold dicOf at h
  split at h
  · cases h; assumption
  · cases h
def dicL (M : Mm) (a : Addr) : Option (List (Key × D)) := match M a with | some (.lkK _ _ kvs) => some kvs | _ => none
theorem of_dicL {M : Mm} {a : Addr} {xs : List (Key × D)} (h : dicL M a = some xs) : ∃ ob us, M a = some (.lkK ob us xs) := by
  unfold dicL at h
  split at h
  · cases h; exact ⟨_, _, by assumption⟩
  · cases h
def orT {α : Type} (x y : Option α) : Option α := match x with | some v => some v | none => y
@[simp] theorem orT_some {α : Type} {v : α} {y : Option α} : orT (some v) y = some v := (rfl)
@[simp] theorem orT_none {α : Type} {y : Option α} : orT none y = y := (rfl)
theorem orT_eq {α : Type} {x y : Option α} {v : α} (h : orT x y = some v) : x = some v ∨ y = some v := by
  cases x with
  | none => exact .inr h
  | some z => exact .inl h
def rdDL (M : Mm) : D → Option (List (Key × D))
  | .dic kvs => some kvs
  | .ref a => orT (dicOf M a) (dicL M a)
  | _ => none
@[simp] theorem rdDL_dic {M : Mm} {kvs : List (Key × D)} : rdDL M (.dic kvs) = some kvs := rfl
@[simp] theorem rdDL_ref {M : Mm} {a : Addr} : rdDL M (.ref a) = orT (dicOf M a) (dicL M a) := rfl
theorem rdDL_v {K : PySem.W.Frag} {M : Mm} {H : HF} {d : D} {v : V} {xs : List (Key × D)} (m : MR K M H) (r : VR K H d v) (e : rdDL M d = some xs) : ∃ a vs, v = .ref a ∧ Rd H.h a (.dK vs) ∧ FR K H xs vs := by
  cases d with
  | dic ys =>
    cases e
    obtain ⟨a, vs, rfl, h, _, q⟩ := r.dic_v
    exact ⟨a, vs, rfl, .inl h, q⟩
  | ref a =>
    cases r.ref_v
    rcases orT_eq e with e | e
    · obtain ⟨vs, h1, r1⟩ := m.ob a _ (of_dicOf e)
      exact ⟨a, vs, rfl, .inl h1, r1⟩
    · obtain ⟨ob, us, e⟩ := of_dicL e
      obtain ⟨h1, r1⟩ := m.ob a _ e
      exact ⟨a, us, rfl, .inr ⟨ob, h1⟩, r1⟩
  | _ => cases e
theorem DGet.kr {H : Hp} {a : Addr} {kvs : List (Key × V)} {k : Key} (e : Rd H a (.dK kvs)) : DGet H a (kV k) (valV kvs k) := .inl ⟨kvs, k, e, rfl, rfl⟩
theorem DGet.tr {H : Hp} {a b : Addr} {kvs : List (List Key × V)} {k : List Key} (e : Rd H a (.dT kvs)) (eb : H b = some (.tup (k.map kV))) : DGet H a (.ref b) (valV kvs k) := .inr ⟨kvs, k, b, e, rfl, eb, rfl⟩
def rdD (M : Mm) : D → Option (List (Key × D))
  | .dic kvs => some kvs
  | .ref a => dicOf M a
  | _ => none
@[simp] theorem rdD_dic {M : Mm} {kvs : List (Key × D)} : rdD M (.dic kvs) = some kvs := rfl
@[simp] theorem rdD_ref {M : Mm} {a : Addr} : rdD M (.ref a) = dicOf M a := rfl
theorem rdD_v {K : PySem.W.Frag} {M : Mm} {H : HF} {d : D} {v : V} {xs : List (Key × D)} (m : MR K M H) (r : VR K H d v) (e : rdD M d = some xs) : ∃ a vs, v = .ref a ∧ H.h a = some (.dK vs) ∧ FR K H xs vs := by
  cases d with
  | dic ys =>
    cases e
    obtain ⟨a, vs, rfl, h, _, q⟩ := r.dic_v
    exact ⟨a, vs, rfl, h, q⟩
  | ref a =>
    cases r.ref_v
    obtain ⟨vs, h1, r1⟩ := m.ob a _ (of_dicOf e)
    exact ⟨a, vs, rfl, h1, r1⟩
  | _ => cases e
def dgetR : DR2 := fun x y M Q => match rdDL M x, keyD y with
  | some kvs, some k => (match valD kvs k with | some d => Q d M | none => False)
  | _, _ => False
section
variable {X : Cx} {o i e : Expr} {to ti te : TDE} {pos pos' : Pos} {k : Nat}
theorem je_dget (hr : Room k X.A) (ho : JE X o to) (hi : JE X i ti) (hs : NoSl i := by exact fun _ _ => rfl) : JE X (.Subscript o i pos) (dOp dgetR to ti) := by
  obtain ⟨u, p, g⟩ := ho
  obtain ⟨u', p', g'⟩ := hi
  refine je_pe (pe_dget (hu_of hr) p p' hs) fun ds σ H M Q Q0 s m q kk => ?_
  refine g ds σ H M _ _ s m q fun v H1 d M1 r1 m1 g1 q1 => ?_
  refine g' ds σ H1 M1 _ _ (s.gg m g1) m1 q1 fun w H2 d2 M2 r2 m2 g2 q2 => ?_
  unfold dgetR at q2
  split at q2
  · rename_i kvs k e1 e2
    split at q2
    · rename_i d3 e3
      obtain ⟨a, vs, rfl, h1, r3⟩ := rdDL_v m2 (VR.mono (g2.tx m1) _ _ r1) e1
      obtain ⟨z, e4, r4⟩ := r3.val e3
      rw [keyD_v r2 e2]
      exact ⟨a, z, rfl, by rw [← e4]; exact DGet.kr h1, kk _ H2 _ M2 r4 m2 (g1.trans g2) q2⟩
    · exact q2.elim
  · exact q2.elim
def dputS (te to ti : TDE) : TDS := fun D ds M => te ds M fun v M1 => to ds M1 fun x M2 => ti ds M2 fun y M3 => match x, keyD y with
  | .ref a, some k => (match dicOf M3 a with | some kvs => kvs.length < sizeLine ∧ D.nx ds (mup M3 a (.dic (putD kvs k v))) | none => False)
  | _, _ => False
theorem js_dput {W : WX} (hr : Room k X.A) (ho : JE X o to) (hi : JE X i ti) (he : JE X e te) (hs : swapsWith e (some (.Subscript o i pos')) pos.line X.env = pure false := by rfl) : JS X W (.Assign [.Subscript o i pos'] e pos) (dputS te to ti) := by
  obtain ⟨u, p, g⟩ := ho
  obtain ⟨u', p', g'⟩ := hi
  obtain ⟨ue, pe, ge⟩ := he
  refine ⟨_, ps_dput (hu_of hr) p p' pe hs, fun M0 H0 D0 D1 l ds σ H M gg s m q => ?_⟩
  refine ge ds σ H M _ _ s m q fun v H1 d M1 r1 m1 g1 q1 => ?_
  refine g ds σ H1 M1 _ _ (s.gg m g1) m1 q1 fun w H2 d2 M2 r2 m2 g2 q2 => ?_
  refine g' ds σ H2 M2 _ _ (s.gg m (g1.trans g2)) m2 q2 fun z H3 d3 M3 r3 m3 g3 q3 => ?_
  split at q3
  · rename_i a k e1
    cases r2.ref_v
    split at q3
    · rename_i kvs e2
      obtain ⟨hz, q3⟩ := q3
      obtain ⟨vs, h1, r4⟩ := m3.ob a _ (of_dicOf e2)
      rw [keyD_v r3 e1]
      refine ⟨a, _, rfl, DPut.k h1 (by rw [← r4.length]; exact hz), ?_⟩
      have t := TX.put (u := .dK (putK vs k v)) m3 (of_dicOf e2)
      have r1' : VR X.K H3 d v := VR.mono ((g2.trans g3).tx m1) _ _ r1
      have gp : GG M3 H3 (mup M3 a (.dic (putD kvs k d))) (H3.up a (.dK (putK vs k v))) := GG.put (of_dicOf e2)
      exact l.nx σ ds _ _ ((((gg.trans g1).trans g2).trans g3).trans gp) ((s.gg m ((g1.trans g2).trans g3)).gg m3 gp)
        (m3.put (w := .dic (putD kvs k d)) (of_dicOf e2) ⟨_, upd_same, (r4.mono t).put (VR.mono t _ _ r1')⟩) q3
    · exact q3.elim
  · exact q3.elim
def dlputS (te to ti : TDE) : TDS := fun D ds M => te ds M fun v M1 => to ds M1 fun x M2 => ti ds M2 fun y M3 => match x, y with
  | .ref a, .int i => (match lstOf M3 a with | some xs => (match ixN xs.length i with | some j => D.nx ds (mup M3 a (.lst (xs.set j v))) | none => False) | none => False)
  | _, _ => False
end
end DM
namespace DM
open PySem L2
open PyProof.Rows (b2i)
theorem pi_any {X : Cx} {tg l : Expr} {tl : TE} (hl : PE X l tl) : PI X tg l (fun σ H R => tl σ H fun x H1 => (∃ a, x = .ref a ∧ (∃ xs, SqL X.K H1 a xs) ∧ R (Itl X.K a) H1) ∨ (∃ a, x = .ref a ∧ (∃ xs, SqT X.K H1 a xs) ∧ R (Itt X.K a) H1) ∨ ∃ z, x = .str z ∧ R (Its z) H1) := by
  refine ⟨fun pins s σ H R I h => ?_⟩
  refine thn (hl.run pins s σ H _ I h) fun v s1 ⟨x, H1, I1, r1, q1⟩ => ?_
  rcases q1 with ⟨a, e, ⟨xs, hq⟩, q⟩ | ⟨a, e, ⟨xs, hq⟩, q⟩ | ⟨z, e, q⟩
  · subst e
    cases r1
    obtain ⟨its, rv, p, hz⟩ := I1.list hq
    refine wpAny_pyIter_list p.isList ?_
    refine ⟨s1.heap.objs.size, [s1.heap.objs.size], _, _, H1, rfl, I1.kept (t' := s1.toks) fun b o e => Heap.get?_push_of_some _ e, turn_list a _, ⟨_, Heap.get?_push_size _ rfl, rfl, rfl⟩, fun b hb => ?_, q⟩
    have e : b = s1.heap.objs.size := by simpa using hb
    subst e
    exact I1.fpOk (Nat.le_refl _) (I1.hok.fresh (Nat.le_refl _))
  · subst e
    cases r1
    obtain ⟨its, rv, p, hz⟩ := I1.tuple hq
    refine wpAny_pyIter_tuple (show s1.heap.IsTuple a its.toArray from p) ?_
    refine ⟨s1.heap.objs.size, [s1.heap.objs.size], _, _, H1, rfl, I1.kept (t' := s1.toks) fun b o e => Heap.get?_push_of_some _ e, turn_tuple a _, ⟨_, Heap.get?_push_size _ rfl, rfl, rfl⟩, fun b hb => ?_, q⟩
    have e : b = s1.heap.objs.size := by simpa using hb
    subst e
    exact I1.fpOk (Nat.le_refl _) (I1.hok.fresh (Nat.le_refl _))
  · subst e
    obtain ⟨t, rfl⟩ := r1
    cases ha : z.cps.all (· < 128)
    · exact wpAny_pyIter_wide ha (pi_one (tk := s1.toks) I1 _ (turn_str _ z t "str_iterator" (.inr rfl)) ⟨_, Heap.get?_push_size _ rfl, rfl, rfl⟩ q)
    · exact wpAny_pyIter_ascii ha (pi_one (tk := s1.toks) I1 _ (turn_str _ z t "str_ascii_iterator" (.inl rfl)) ⟨_, Heap.get?_push_size _ rfl, rfl, rfl⟩ q)
def diAny (te : TDE) : TDI := fun ds M Q => te ds M fun x M1 => match x with
  | .tup xs => Q ⟨xs, fun _ => True⟩ M1
  | .str z => Q ⟨signs z, fun _ => True⟩ M1
  | .ref a => (match lstOf M1 a with | some xs => Q ⟨xs, fun M' => lstOf M' a = some xs⟩ M1 | none => False)
  | .lst xs => Q ⟨xs, fun _ => True⟩ M1
  | _ => False
theorem ji_any {X : Cx} {tg e : Expr} {te : TDE} (h : JE X e te) : JI X tg e (diAny te) := by
  obtain ⟨u, p, g⟩ := h
  refine ⟨_, pi_any p, fun ds σ H M Q R0 s m q k => ?_⟩
  refine g ds σ H M _ _ s m q fun v H1 d M1 r1 m1 g1 q1 => ?_
  cases d with
  | tup xs =>
    obtain ⟨a, vs, rfl, sa, ra⟩ := r1.tup_v
    exact .inr (.inl ⟨a, rfl, ⟨vs, sa⟩, k _ H1 _ M1 (it_tup sa ra m1) m1 g1 q1⟩)
  | str z =>
    cases r1.str_v
    exact .inr (.inr ⟨z, rfl, k _ H1 _ M1 it_str m1 g1 q1⟩)
  | ref a =>
    cases r1.ref_v
    simp only at q1
    split at q1
    · rename_i xs e
      obtain ⟨vs, h1, r2⟩ := m1.ob a _ (of_lstOf e)
      exact .inl ⟨a, rfl, ⟨vs, SqL.of h1⟩, k _ H1 _ M1 it_lst m1 g1 q1⟩
    · exact q1.elim
  | lst xs =>
    obtain ⟨a, vs, rfl, h1, f1, ra⟩ := r1.lst_v
    exact .inl ⟨a, rfl, ⟨vs, SqL.of h1⟩, k _ H1 _ M1 (it_own h1 ra (m1.nf a f1) m1) m1 g1 q1⟩
  | _ => exact q1.elim
section
variable {X : Cx} {pins : List (Addr × Obj)} {σ : L2.St} {H : HF} {s : Shared}
mutual
theorem VR_inj (I : Inv X pins σ H.h s) : ∀ (d e : D) (v : V), VR X.K H d v → VR X.K H e v → pureD d = true → pureD e = true → d = e
  | .non, e, _, r, q, _, _ => by cases r; cases q; rfl
  | .bl _, e, _, r, q, _, _ => by cases r; cases q; rfl
  | .int _, e, _, r, q, _, _ => by cases r; cases q; rfl
  | .str _, e, _, r, q, _, _ => by cases r; cases q; rfl
  | .ref _, _, _, _, _, h, _ => by simp [pureD] at h
  | .ty _, _, _, _, _, h, _ => by simp [pureD] at h
  | .dic _, _, _, _, _, h, _ => by simp [pureD] at h
  | .dit _, _, _, _, _, h, _ => by simp [pureD] at h
  | .tup xs, e, _, r, q, h, h' => by
    obtain ⟨a, vs, rfl, sa, ra⟩ := r.tup_v
    cases q with
    | ref _ => simp [pureD] at h'
    | dic _ _ _ => simp [pureD] at h'
    | dit _ _ _ => simp [pureD] at h'
    | @tup ys _ ws sb rb =>
      have := I.tuple_inj sa (sb.sq)
      subst this
      rw [VRs_inj I xs ys vs ra rb (by simpa [pureD] using h) (by simpa [pureD] using h')]
    | lst sb _ _ => exact (tup_no_lst I sa sb).elim
  | .lst xs, e, _, r, q, h, h' => by
    obtain ⟨a, vs, rfl, sa, _, ra⟩ := r.lst_v
    cases q with
    | ref _ => simp [pureD] at h'
    | dic _ _ _ => simp [pureD] at h'
    | dit _ _ _ => simp [pureD] at h'
    | tup sb _ => exact (tup_no_lst I (sb.sq) sa).elim
    | @lst ys _ ws sb _ rb =>
      have := lst_inj I sa sb
      subst this
      rw [VRs_inj I xs ys vs ra rb (by simpa [pureD] using h) (by simpa [pureD] using h')]
theorem VRs_inj (I : Inv X pins σ H.h s) : ∀ (ds es : List D) (vs : List V), VRs X.K H ds vs → VRs X.K H es vs → pureDs ds = true → pureDs es = true → ds = es
  | [], es, _, r, q, _, _ => by cases r; cases q; rfl
  | d :: ds, es, _, r, q, h, h' => by
    cases r with
    | cons r1 r2 =>
      cases q with
      | cons q1 q2 =>
        have h1 := Bool.and_eq_true_iff.mp (show (pureD d && pureDs ds) = true by simpa [pureDs] using h)
        have h2 := Bool.and_eq_true_iff.mp (show (pureD _ && pureDs _) = true by simpa [pureDs] using h')
        rw [VR_inj I d _ _ r1 q1 h1.1 h2.1, VRs_inj I ds _ _ r2 q2 h1.2 h2.2]
end
noncomputable def eqBy (ys : List D) (us : List Value) (d : D) (u : Value) : Bool := by
  classical
  exact if h : ∃ j : Nat, us[j]? = some u ∧ j < ys.length then (match ys[h.choose]? with | some y => eqvD y d | none => false) else false
theorem eqBy_of (I : Inv X pins σ H.h s) {ys : List D} {vs : List V} {us : List Value} {d : D} (r : VRs X.K H ys vs) (rv : Vals vs us) (hp : pureDs ys = true) {j : Nat} {y : D} {u : Value} (hy : ys[j]? = some y) (hu : us[j]? = some u) : eqBy ys us d u = eqvD y d := by
  have hj : j < ys.length := (List.getElem?_eq_some_iff.mp hy).1
  have h : ∃ j : Nat, us[j]? = some u ∧ j < ys.length := ⟨j, hu, hj⟩
  unfold eqBy
  rw [dif_pos h]
  obtain ⟨h1, h2⟩ := h.choose_spec
  obtain ⟨y', hy'⟩ : ∃ y', ys[h.choose]? = some y' := ⟨_, List.getElem?_eq_getElem h2⟩
  rw [hy']
  obtain ⟨v, hv, q⟩ := r.get hy
  obtain ⟨v', hv', q'⟩ := r.get hy'
  obtain ⟨w, hw, rw1⟩ := rv.get hv
  obtain ⟨w', hw', rw2⟩ := rv.get hv'
  rw [hu] at hw
  rw [h1] at hw'
  cases hw
  cases hw'
  have e := rw1.inj rw2
  subst e
  show eqvD y' d = eqvD y d
  rw [VR_inj I y y' v q q' (pureDs_get hp hy) (pureDs_get hp hy')]
theorem any_eqBy (I : Inv X pins σ H.h s) {ys : List D} {vs : List V} {us : List Value} {d : D} (r : VRs X.K H ys vs) (rv : Vals vs us) (hp : pureDs ys = true) : us.toArray.any (eqBy ys us d) = ys.any fun y => eqvD y d := by
  have hl : us.length = ys.length := by rw [← rv.length, ← r.length]
  have e : us.toArray.any (eqBy ys us d) = us.any (eqBy ys us d) := by simp
  rw [e, Bool.eq_iff_iff, List.any_eq_true, List.any_eq_true]
  constructor
  · rintro ⟨u, hu, h⟩
    obtain ⟨j, hj, hj2⟩ := List.getElem_of_mem hu
    have h1 : us[j]? = some u := by rw [List.getElem?_eq_getElem hj, hj2]
    have h2 : ys[j]? = some ys[j] := List.getElem?_eq_getElem (by omega)
    rw [eqBy_of I r rv hp h2 h1] at h
    exact ⟨_, List.getElem_mem _, h⟩
  · rintro ⟨y, hy, h⟩
    obtain ⟨j, hj, hj2⟩ := List.getElem_of_mem hy
    have h1 : us[j]? = some us[j] := List.getElem?_eq_getElem (by omega)
    have h2 : ys[j]? = some y := by rw [List.getElem?_eq_getElem hj, hj2]
    exact ⟨_, List.getElem_mem _, by rw [eqBy_of I r rv hp h2 h1]; exact h⟩
theorem mem_eqBy (I : Inv X pins σ H.h s) {ys : List D} {vs : List V} {us : List Value} {d : D} {v : V} {t : Value} {A : Around} (r : VRs X.K H ys vs) (rv : Vals vs us) (hp : pureDs ys = true) (rd : VR X.K H d v) (rt : RelV v t) (hd : pureD d = true)
    (hu : A.units + 100 < cLine) (hb : depDs ys ≤ 100) : ∀ u, u ∈ us.toArray → SeqAt.EqAt A s u t (eqBy ys us d u) := by
  intro u hm
  have hl : us.length = ys.length := by rw [← rv.length, ← r.length]
  have hm' : u ∈ us := by simpa using hm
  obtain ⟨j, hj, hj2⟩ := List.getElem_of_mem hm'
  have h1 : us[j]? = some u := by rw [List.getElem?_eq_getElem hj, hj2]
  have h2 : ys[j]? = some ys[j] := List.getElem?_eq_getElem (by omega)
  rw [eqBy_of I r rv hp h2 h1]
  obtain ⟨z, hz, q⟩ := r.get h2
  obtain ⟨u', hu', q2⟩ := rv.get hz
  rw [h1] at hu'
  cases hu'
  have := depDs_get h2
  exact eqAt_D I _ d z v u t A q rd q2 rt (pureDs_get hp h2) hd (by omega)
end
def inStr (c z : Str) : Bool := !(Builtin.Str.occurrences z c 0 z.length 1).isEmpty
theorem inStr_sign (c : Nat) (z : Str) : inStr ⟨#[c]⟩ z = decide (c ∈ z.cps.toList) := PySem.StrLaws.found_one z c
def memC (ys : List D) (d : D) : Prop := pureD d = true ∧ pureDs ys = true ∧ depDs ys ≤ 100
def inAny (ys : List D) (d : D) : Bool := ys.any fun y => eqvD y d
def inDQ (neg : Bool) : DR2 := fun x y M Q => match rdDL M y, keyD x with
  | some kvs, some k => Q (.bl (neg != (valD kvs k).isSome)) M
  | _, _ => False
def inQ (neg : Bool) : DR2 := fun x y M Q => match y with
  | .str z => (match x with | .str c => Q (.bl (neg != inStr c z)) M | _ => False)
  | y => (match rdS M y with | some ys => memC ys x ∧ Q (.bl (neg != inAny ys x)) M | none => inDQ neg x y M Q)
theorem inQ_out {neg : Bool} {x y : D} {M : Mm} {Q : DQ} (h : inQ neg x y M Q) : (∃ z c, y = .str z ∧ x = .str c ∧ Q (.bl (neg != inStr c z)) M) ∨ (∃ ys, rdS M y = some ys ∧ memC ys x ∧ Q (.bl (neg != inAny ys x)) M) ∨
    ∃ kvs k, rdDL M y = some kvs ∧ keyD x = some k ∧ Q (.bl (neg != (valD kvs k).isSome)) M := by
  have two : (match rdS M y with | some ys => memC ys x ∧ Q (.bl (neg != inAny ys x)) M | none => inDQ neg x y M Q) → (∃ ys, rdS M y = some ys ∧ memC ys x ∧ Q (.bl (neg != inAny ys x)) M) ∨
      ∃ kvs k, rdDL M y = some kvs ∧ keyD x = some k ∧ Q (.bl (neg != (valD kvs k).isSome)) M := by
    intro h
    split at h
    · rename_i ys e
      exact .inl ⟨ys, e, h⟩
    · unfold inDQ at h
      split at h
      · rename_i kvs k e1 e2
        exact .inr ⟨kvs, k, e1, e2, h⟩
      · exact h.elim
  cases y with
  | str z =>
    cases x with
    | str c => exact .inl ⟨z, c, rfl, rfl, h⟩
    | _ => exact h.elim
  | _ => exact .inr (two h)
abbrev inR : DR2 := inQ false
abbrev notInR : DR2 := inQ true
theorem op_inT {X : Cx} (hu : X.A.units + 150 < cLine) : OpD X (compareOp .In) inR := by
  intro pins s σ H M d e x y v u Q Q0 I m rd re rx ry hq k
  have hu1 : X.A.in1.units + 100 < cLine := by show X.A.units + 1 + 100 < cLine; omega
  rcases inQ_out hq with ⟨z, c, rfl, rfl, hq'⟩ | ⟨ys, e1, ⟨p1, p2, p3⟩, hq'⟩ | ⟨kvs, kk, e1, ek, hq'⟩
  · cases re.str_v
    obtain ⟨t, rfl⟩ := ry
    cases rd.str_v
    obtain ⟨t', rfl⟩ := rx
    simp only [Bool.false_bne, Bool.true_bne] at hq'
    exact PyProof.Rows.in_str ⟨.bl _, H.h, I, rfl, k _ H _ M (.bl _) m GG.refl hq'⟩
  · simp only [Bool.false_bne, Bool.true_bne] at hq'
    obtain ⟨a, ws, rfl, ra, h1 | h1⟩ := rdS_v m re e1
    · obtain ⟨its, rv, ht⟩ := tup_at I h1.2
      cases ry
      refine SeqAt.in_tupleAt (eqBy ys its d) ht (mem_eqBy I ra rv p2 rd rx p1 hu1 p3) ?_
      rw [any_eqBy I ra rv p2]
      exact ⟨.bl _, H.h, I, rfl, k _ H _ M (.bl _) m GG.refl hq'⟩
    · obtain ⟨its, rv, ht⟩ := lst_at I (SqL.of h1)
      cases ry
      refine SeqAt.in_listAt (eqBy ys its d) ht (mem_eqBy I ra rv p2 rd rx p1 hu1 p3) ?_
      rw [any_eqBy I ra rv p2]
      exact ⟨.bl _, H.h, I, rfl, k _ H _ M (.bl _) m GG.refl hq'⟩
  · simp only [Bool.false_bne, Bool.true_bne] at hq'
    obtain ⟨a, ws, rfl, h1, ra⟩ := rdDL_v m re e1
    cases ry
    have hv := keyD_v rd ek
    subst hv
    refine d_in (by omega) I (DGet.kr h1) rx fun s' I' => ⟨.bl _, H.h, I', rfl, ?_⟩
    have : (valV ws kk).isSome = (valD kvs kk).isSome := by
      cases e3 : valD kvs kk with
      | none => rw [ra.valN e3]; rfl
      | some d3 => obtain ⟨z, e4, _⟩ := ra.val e3; rw [e4]; rfl
    rw [this]
    exact k _ H _ M (.bl _) m GG.refl hq'
theorem op_notInT {X : Cx} (hu : X.A.units + 150 < cLine) : OpD X (compareOp .NotIn) notInR := by
  intro pins s σ H M d e x y v u Q Q0 I m rd re rx ry hq k
  have hu1 : X.A.in1.units + 100 < cLine := by show X.A.units + 1 + 100 < cLine; omega
  rcases inQ_out hq with ⟨z, c, rfl, rfl, hq'⟩ | ⟨ys, e1, ⟨p1, p2, p3⟩, hq'⟩ | ⟨kvs, kk, e1, ek, hq'⟩
  · cases re.str_v
    obtain ⟨t, rfl⟩ := ry
    cases rd.str_v
    obtain ⟨t', rfl⟩ := rx
    simp only [Bool.false_bne, Bool.true_bne] at hq'
    exact PyProof.Rows.notIn_str ⟨.bl _, H.h, I, rfl, k _ H _ M (.bl _) m GG.refl hq'⟩
  · simp only [Bool.false_bne, Bool.true_bne] at hq'
    obtain ⟨a, ws, rfl, ra, h1 | h1⟩ := rdS_v m re e1
    · obtain ⟨its, rv, ht⟩ := tup_at I h1.2
      cases ry
      refine SeqAt.notIn_tupleAt (eqBy ys its d) ht (mem_eqBy I ra rv p2 rd rx p1 hu1 p3) ?_
      rw [any_eqBy I ra rv p2]
      exact ⟨.bl _, H.h, I, rfl, k _ H _ M (.bl _) m GG.refl hq'⟩
    · obtain ⟨its, rv, ht⟩ := lst_at I (SqL.of h1)
      cases ry
      refine SeqAt.notIn_listAt (eqBy ys its d) ht (mem_eqBy I ra rv p2 rd rx p1 hu1 p3) ?_
      rw [any_eqBy I ra rv p2]
      exact ⟨.bl _, H.h, I, rfl, k _ H _ M (.bl _) m GG.refl hq'⟩
  · simp only [Bool.false_bne, Bool.true_bne] at hq'
    obtain ⟨a, ws, rfl, h1, ra⟩ := rdDL_v m re e1
    cases ry
    have hv := keyD_v rd ek
    subst hv
    refine d_notIn (by omega) I (DGet.kr h1) rx fun s' I' => ⟨.bl _, H.h, I', rfl, ?_⟩
    have : (valV ws kk).isSome = (valD kvs kk).isSome := by
      cases e3 : valD kvs kk with
      | none => rw [ra.valN e3]; rfl
      | some d3 => obtain ⟨z, e4, _⟩ := ra.val e3; rw [e4]; rfl
    rw [this]
    exact k _ H _ M (.bl _) m GG.refl hq'
def isNonD : D → Bool | .non => true | _ => false
def isQ (neg : Bool) : DR2 := fun x y M Q => match y with
  | .non => Q (.bl (neg != isNonD x)) M
  | .bl b => (match x with | .bl a => Q (.bl (neg != decide (a = b))) M | _ => False)
  | _ => False
abbrev isNotR : DR2 := isQ true
theorem dec_non {K : PySem.W.Frag} {H : HF} {x : D} {v : V} (r : VR K H x v) : decide (v = .non) = isNonD x := by
  cases r <;> rfl
theorem lift_isNot {K : PySem.W.Frag} : Lift2 K (fun x y H Q => (y = .non ∧ Q (.bl (!decide (x = .non))) H) ∨ rNotB x y H Q) isNotR := by
  intro x y dx dy H M Q Q0 rx ry m h k
  cases dy with
  | non =>
    cases ry.non_v
    refine .inl ⟨rfl, ?_⟩
    rw [dec_non rx]
    exact k _ H _ M (.bl _) m GG.refl (by simpa [isQ] using h)
  | bl b =>
    cases ry.bl_v
    cases dx with
    | bl a =>
      cases rx.bl_v
      exact .inr ⟨a, b, rfl, rfl, k _ H _ M (.bl _) m GG.refl (by simpa [isQ] using h)⟩
    | _ => exact h.elim
  | _ => exact h.elim
section
variable {X : Cx} {a b : Expr} {ta tb : TDE} {pos : Pos} {k : Nat}
theorem je_in (hr : Room k X.A) (ha : JE X a ta) (hb : JE X b tb) (hm : behindInMarks .In b = false := by rfl) : JE X (.Compare a [.In] [b] pos) (dOp inR ta tb) := je_cmpR (op_inT (hu150 hr)).opR lift_of ha hb hm
theorem jt_in (hr : Room k X.A) (ha : JE X a ta) (hb : JE X b tb) (hm : behindInMarks .In b = false := by rfl) : JT X (.Compare a [.In] [b] pos) (dTest (dOp inR ta tb)) := jt_cmpR (op_inT (hu150 hr)).opR lift_of ha hb hm
theorem jt_notin (hr : Room k X.A) (ha : JE X a ta) (hb : JE X b tb) (hm : behindInMarks .NotIn b = false := by rfl) : JT X (.Compare a [.NotIn] [b] pos) (dTest (dOp notInR ta tb)) := jt_cmpR (op_notInT (hu150 hr)).opR lift_of ha hb hm
theorem jt_isnot (ha : JE X a ta) (hb : JE X b tb) : JT X (.Compare a [.IsNot] [b] pos) (dTest (dOp isNotR ta tb)) := jt_cmpR (op_notN.or op_notBl) lift_isNot ha hb (nomark _)
end
end DM
namespace DM
open PySem L2
open PyProof.Rows (b2i)
structure DeckS where
  cs : List Int
  at_ : Int
  sum : Int
def DeckS.ok (S : DeckS) (r : Nat) : Prop := S.cs.length ≤ 63 ∧ 0 ≤ S.at_ ∧ S.at_ + (r : Int) ≤ 2 ^ 60
def deckD (c : Addr) (S : DeckS) : List (Key × D) := [(.inr "cells", .ref c), (.inr "at", .int S.at_), (.inr "sum", .int S.sum)]
def Deck (M : Mm) (d c : Addr) (r : Nat) : Prop := d ≠ c ∧ ∃ S : DeckS, S.ok r ∧ M d = some (.dic (deckD c S)) ∧ M c = some (.lst (S.cs.map D.int))
def Upto (d c : Addr) (M M' : Mm) : Prop := ∀ a, a ≠ d → a ≠ c → M' a = M a
theorem Upto.refl {d c : Addr} {M : Mm} : Upto d c M M := fun _ _ _ => rfl
theorem Upto.trans {d c : Addr} {M M1 M2 : Mm} (a : Upto d c M M1) (b : Upto d c M1 M2) : Upto d c M M2 := fun x h1 h2 => (b x h1 h2).trans (a x h1 h2)
theorem Deck.mono {M : Mm} {d c : Addr} {r r' : Nat} (h : Deck M d c r) (e : r' ≤ r) : Deck M d c r' := by
  obtain ⟨n, S, ⟨o1, o2, o3⟩, h1, h2⟩ := h
  exact ⟨n, S, ⟨o1, o2, by omega⟩, h1, h2⟩
theorem Deck.new {M : Mm} {d c p : Addr} {r : Nat} {o : MO} (h : Deck M d c r) (hp : M p = none) : Deck (mup M p o) d c r ∧ p ≠ d ∧ p ≠ c := by
  obtain ⟨n, S, ok, h1, h2⟩ := h
  have hd : p ≠ d := by rintro rfl; rw [hp] at h1; cases h1
  have hc : p ≠ c := by rintro rfl; rw [hp] at h2; cases h2
  exact ⟨⟨n, S, ok, by rw [mup_ne hd.symm]; exact h1, by rw [mup_ne hc.symm]; exact h2⟩, hd, hc⟩
theorem Deck.put {M : Mm} {d c p : Addr} {r : Nat} {o : MO} (h : Deck M d c r) (hd : p ≠ d) (hc : p ≠ c) : Deck (mup M p o) d c r := by
  obtain ⟨n, S, ok, h1, h2⟩ := h
  exact ⟨n, S, ok, by rw [mup_ne hd.symm]; exact h1, by rw [mup_ne hc.symm]; exact h2⟩
def spDeckH (K : PySem.W.Frag) : Sp := fun vs H Q _ => ∃ (a : Addr) (ns : List Int), vs = [.ref a] ∧ SqL K H a (ns.map V.int) ∧ ns.length ≤ 63 ∧
  ∀ (d c : Addr) (H' : Hp) (S : DeckS), H c = none → H d = none → d ≠ c → S.ok (2 ^ 59) → H' c = some (.lst (S.cs.map V.int)) → H' d = some (.dK [(.inr "cells", .ref c), (.inr "at", .int S.at_), (.inr "sum", .int S.sum)]) → (∀ b o, H b = some o → H' b = some o) → Q (.ref d) H'
def spLawH (K : PySem.W.Frag) : Sp := fun vs H Q _ => ∃ (a : Addr) (ns : List Int), vs = [.ref a] ∧ SqL K H a (ns.map V.int) ∧ ns.length ≤ 63 ∧ ∀ H', Q (.bl true) H'
section
variable {P : Program} {w : World} {K : PySem.W.Frag} {mg : Str → Option Value} {base : Heap}
theorem vrs_ints {H : HF} : ∀ ns : List Int, VRs K H (ns.map D.int) (ns.map V.int)
  | [] => .nil
  | n :: ns => .cons (.int n) (vrs_ints ns)
theorem cut63 {ns : List Int} (h : ns.length ≤ 63) : cutV (ns.map V.int) none (some 63) = ns.map V.int := by
  unfold cutV
  rw [HT.sIx_none, show HT.sIx (ns.map V.int).length (ns.map V.int).length (some 63) = min 63 (ns.map V.int).length from HT.sIx_nat _ _ 63]
  rw [List.length_map]
  rw [List.drop_zero, Nat.sub_zero, List.take_of_length_le (by rw [List.length_map]; omega)]
theorem ok_deck {st : Stmt} {f : Addr} {fd : FuncData} (F : Fun K "_law_deck" "_law_deck" st f fd) (S : FnScope ["_law_script", "_law_cells"] ["_law_script"] (defScope st))
    (body : ∀ (cdv : Value) (A : Around) (outer : List Env) (s : Shared) (H : Hp) (E : XK),
      PSs (cxOf CX0 P w K mg base ["_law_script", "_law_cells"] "_law_deck" (defScope st) f cdv A outer s H E).nox (defBody st)
        (tSeq (tAsg (tCB (fun xs H Q => ∃ p ys, xs = [.ref p] ∧ (SqL K H p ys ∨ SqT K H p ys) ∧ ∀ l, H l = none → Q (.ref l) (upd H l (.lst ys))) (tCons (tSl (rSlL K) (tVar 0) tNoPart (tPart (tC (.int 63)))) tNil)) (gName 1))
        (tRet (tDisp [(tC (.str "cells"), tVar 1), (tC (.str "at"), tC (.int 0)), (tC (.str "sum"), tOp (rI0 fun i j => .int (i + j)) (tOp (rI (fun _ j => 0 < j) fun i j => .int (i % j)) (tCB (rSum K) (tCons (tVar 1) tNil)) (tC (.int 2147483629)))
          (tCB (fun xs H Q => ∃ p ys, xs = [.ref p] ∧ (SqL K H p ys ∨ SqT K H p ys) ∧ Q (.int ys.length) H) (tCons (tVar 1) tNil)))])))) :
    FnOk P w K mg base CX0 1 f fd ["_law_script"] (spDeckH K) := by
  refine F.ok S (fun vs H Q E h => ?_) fun cdv A outer s H vs Q E hr h => ?_
  · obtain ⟨a, ns, rfl, _⟩ := h
    rfl
  · obtain ⟨a, ns, rfl, hS, hlen, k⟩ := h
    have hb := body cdv A outer s H E
    refine ⟨_, hb, ?_⟩
    refine ⟨_, rfl, 63, rfl, a, ns.map V.int, rfl, hS, fun p hp => ?_⟩
    rw [cut63 hlen]
    have hS1 : SqL K (upd H p (.lst (ns.map V.int))) p (ns.map V.int) := SqL.of upd_same
    refine ⟨p, ns.map V.int, rfl, .inl hS1, fun c hc => ?_⟩
    have hpc : p ≠ c := by rintro rfl; rw [upd_same] at hc; cases hc
    have hHc : H c = none := by rw [upd_ne hpc.symm] at hc; exact hc
    intro d hd
    have hdc : d ≠ c := by rintro rfl; rw [upd_same] at hd; cases hd
    have hdp : d ≠ p := by rintro rfl; rw [upd_ne hpc, upd_same] at hd; cases hd
    have hHd : H d = none := by rw [upd_ne hdc, upd_ne hdp] at hd; exact hd
    have hC : SqL K (upd (upd (upd H p (.lst (ns.map V.int))) c (.lst (ns.map V.int))) d (.dK [])) c (ns.map V.int) := SqL.of (by rw [upd_ne hdc.symm, upd_same])
    refine ⟨.ref c, rfl, .ref c, rfl, c, ns, rfl, hC, _, _, rfl, rfl, (by show (0:Int) < 2147483629; decide), .ref c, rfl, c, _, rfl, .inl hC, _, _, rfl, rfl, upd_same, ?_⟩
    refine ⟨[(.inr "cells", .ref c), (.inr "at", .int 0), (.inr "sum", .int (ns.sum % 2147483629 + ((ns.map V.int).length : Nat)))], rfl, (by show 3 ≤ 15; decide), ?_⟩
    refine k d c _ ⟨ns, 0, ns.sum % 2147483629 + ((ns.map V.int).length : Nat)⟩ hHc hHd hdc ⟨hlen, by simp, by simp⟩ ?_ ?_ fun b o e => ?_
    · rw [upd_ne hdc.symm, upd_ne hdc.symm, upd_same]
    · rw [upd_same]
      rfl
    · have b1 : b ≠ d := by rintro rfl; rw [hHd] at e; cases e
      have b2 : b ≠ c := by rintro rfl; rw [hHc] at e; cases e
      have b3 : b ≠ p := by rintro rfl; rw [hp] at e; cases e
      rw [upd_ne b1, upd_ne b1, upd_ne b2, upd_ne b3]
      exact e
end
end DM
namespace DM
open PySem L2
open PyProof.Rows (b2i)
section
variable {ok : Mm → Prop} {g : TDG} {tb : TDS} {D : DEnds} {c : TDT}
theorem forW_go (I : Nat → DSt → Mm → Prop) (xs : List DM.D) (hok : ∀ i ds M, I i ds M → ok M)
    (step : ∀ (i : Nat) (x : DM.D) (N : DSt → Mm → Prop), xs[i]? = some x → (∀ ds M, I (i + 1) ds M → N ds M) → ∀ ds M, I i ds M → g x ds M fun ds' M' => tb { D with nx := N, ct := N, bk := D.nx } ds' M')
    (fin : ∀ ds M, I xs.length ds M → D.nx ds M) : ∀ ds M, I 0 ds M → forW ok g tb D xs ds M := by
  have key : ∀ (n i : Nat), xs.length - i = n → i ≤ xs.length → ∀ ds M, I i ds M → forW ok g tb D (xs.drop i) ds M := by
    intro n
    induction n with
    | zero =>
      intro i e hi ds M h
      have : i = xs.length := by omega
      subst this
      rw [List.drop_length]
      exact ⟨hok _ _ _ h, fin ds M h⟩
    | succ n ih =>
      intro i e hi ds M h
      have hlt : i < xs.length := by omega
      rw [List.drop_eq_getElem_cons hlt]
      exact ⟨hok _ _ _ h, step i _ _ (List.getElem?_eq_getElem hlt) (fun ds M h => ih (i + 1) (by omega) (by omega) ds M h) ds M h⟩
  intro ds M h
  have := key xs.length 0 (by simp) (Nat.zero_le _) ds M h
  rwa [List.drop_zero] at this
theorem forW_rng (I : Nat → DSt → Mm → Prop) {lo : Int} {n : Nat}
    (step : ∀ (i : Nat) (N : DSt → Mm → Prop), i < n → (∀ ds M, I (i + 1) ds M → N ds M) → ∀ ds M, I i ds M → g (.int (lo + (i : Int))) ds M fun ds' M' => tb { D with nx := N, ct := N, bk := D.nx } ds' M')
    (fin : ∀ ds M, I n ds M → D.nx ds M) : ∀ ds M, I 0 ds M → forW (fun _ => True) g tb D (rangeD lo n) ds M := by
  have hl : (rangeD lo n).length = n := by simp [rangeD]
  refine forW_go I (rangeD lo n) (fun _ _ _ _ => trivial) (fun i x N e hN ds M h => ?_) (fun ds M h => fin ds M (by rw [hl] at h; exact h))
  obtain ⟨h1, rfl⟩ := rangeD_get e
  exact step i N h1 hN ds M h
theorem whileN_go (I : Nat → DSt → Mm → Prop)
    (base : ∀ (N : DSt → Mm → Prop) ds M, I 0 ds M → c ds M fun b M1 => if b = true then tb { D with nx := N, ct := N, bk := D.nx } ds M1 else D.nx ds M1)
    (step : ∀ (m : Nat) (N : DSt → Mm → Prop), (∀ ds M, I m ds M → N ds M) → ∀ ds M, I (m + 1) ds M → c ds M fun b M1 => if b = true then tb { D with nx := N, ct := N, bk := D.nx } ds M1 else D.nx ds M1) :
    ∀ (m : Nat) ds M, I m ds M → dWhile c tb D ds M := by
  have key : ∀ (m : Nat) ds M, I m ds M → whileN c tb D (m + 1) ds M := by
    intro m
    induction m with
    | zero => exact fun ds M h => base _ ds M h
    | succ m ih => exact fun ds M h => step m _ ih ds M h
  exact fun m ds M h => ⟨m + 1, key m ds M h⟩
end
section
variable {ok : Mm → Prop} {g : TDG} {tt : TDT} {te : TDE} {ds0 : DSt} {Q : List D → Mm → Prop}
theorem lcW_go (I : Nat → List D → Mm → Prop) (xs : List D) (hok : ∀ i acc M, I i acc M → ok M)
    (step : ∀ (i : Nat) (x : D) (N : List D → Mm → Prop), xs[i]? = some x → (∀ acc M, I (i + 1) acc M → N acc M) → ∀ acc M, I i acc M →
      g x ds0 M fun ds' M2 => tt ds' M2 fun b M3 => if b = true then te ds' M3 fun d M4 => acc.length < sizeLine ∧ N (acc ++ [d]) M4 else N acc M3)
    (fin : ∀ acc M, I xs.length acc M → Q acc M) : ∀ M, I 0 [] M → lcW ok g tt te ds0 Q xs [] M := by
  have key : ∀ (n i : Nat), xs.length - i = n → i ≤ xs.length → ∀ acc M, I i acc M → lcW ok g tt te ds0 Q (xs.drop i) acc M := by
    intro n
    induction n with
    | zero =>
      intro i e hi acc M h
      have : i = xs.length := by omega
      subst this
      rw [List.drop_length]
      exact ⟨hok _ _ _ h, fin acc M h⟩
    | succ n ih =>
      intro i e hi acc M h
      have hlt : i < xs.length := by omega
      rw [List.drop_eq_getElem_cons hlt]
      exact ⟨hok _ _ _ h, step i _ _ (List.getElem?_eq_getElem hlt) (fun acc M h => ih (i + 1) (by omega) (by omega) acc M h) acc M h⟩
  intro M h
  have := key xs.length 0 (by simp) (Nat.zero_le _) [] M h
  rwa [List.drop_zero] at this
end
theorem log2_lt {n k : Nat} (hk : 0 < k) (h : n < 2 ^ k) : n.log2 < k := by
  by_cases h0 : n = 0
  · subst h0; simpa using hk
  · exact (Nat.log2_lt h0).mpr h
theorem cmul_ok {i j : Int} (hi : i.natAbs < 2 ^ 200) (hj : j.natAbs < 2 ^ 200) : CMulW i j := by
  have h1 := log2_lt (by decide) hi
  have h2 := log2_lt (by decide) hj
  show _ + _ < 1000000
  omega
theorem nabs_mul {i j : Int} {a b : Nat} (hi : i.natAbs < 2 ^ a) (hj : j.natAbs < 2 ^ b) : (i * j).natAbs < 2 ^ (a + b) := by
  rw [Int.natAbs_mul, Nat.pow_add]
  exact Nat.mul_lt_mul'' hi hj
theorem nabs_up {i : Int} {a b : Nat} (h : i.natAbs < 2 ^ a) (e : a ≤ b) : i.natAbs < 2 ^ b := Nat.lt_of_lt_of_le h (Nat.pow_le_pow_right (by decide) e)
theorem cdiv_ok {i j : Int} (h0 : 0 < j) (h : j < 2 ^ 63) : CDivW i j := by
  refine ⟨h0, ?_⟩
  have := log2_lt (n := j.natAbs) (k := 63) (by decide) (by omega)
  omega
section
variable {i j : Int} {M : Mm} {Q : DQ} {x y : Str} {xs ys : List D} {a b : Bool}
theorem addR_ii : addR (.int i) (.int j) M Q = Q (.int (i + j)) M := (rfl)
theorem addR_ib : addR (.int i) (.bl b) M Q = Q (.int (i + b2i b)) M := (rfl)
theorem addR_ss : addR (.str x) (.str y) M Q = (x.length + y.length ≤ sizeLine ∧ Q (.str (x ++ y)) M) := (rfl)
theorem addR_tt : addR (.tup xs) (.tup ys) M Q = (xs.length + ys.length ≤ sizeLine ∧ Q (.tup (xs ++ ys)) M) := (rfl)
theorem subR_ii : subR (.int i) (.int j) M Q = Q (.int (i - j)) M := (rfl)
theorem mulR_ii : mulR (.int i) (.int j) M Q = (CMulW i j ∧ Q (.int (i * j)) M) := (rfl)
theorem modR_ii : modR (.int i) (.int j) M Q = (0 < j ∧ Q (.int (i % j)) M) := (rfl)
theorem fdivR_ii : fdivR (.int i) (.int j) M Q = (CDivW i j ∧ Q (.int (i / j)) M) := (rfl)
theorem powR_ii : powR (.int i) (.int j) M Q = (CPow i j ∧ Q (.int (i ^ j.toNat)) M) := (rfl)
theorem ltR_ii : ltR (.int i) (.int j) M Q = Q (.bl (decide (i < j))) M := (rfl)
theorem gtR_ii : gtR (.int i) (.int j) M Q = Q (.bl (decide (j < i))) M := (rfl)
theorem geR_ii : geR (.int i) (.int j) M Q = Q (.bl (decide (j ≤ i))) M := (rfl)
theorem keyD_s : keyD (.str x) = some (.inr x) := rfl
theorem keyD_i : keyD (.int i) = some (.inl i) := rfl
theorem eqM_ii : eqM M (.int i) (.int j) = (i == j) := (rfl)
theorem eqM_ss : eqM M (.str x) (.str y) = (x == y) := (rfl)
theorem eqM_bb : eqM M (.bl a) (.bl b) = (a == b) := (rfl)
theorem eqM_tt : eqM M (.tup xs) (.tup ys) = eqvDs xs ys := (rfl)
theorem okD_i : okD M (.int i) = True := by simp [okD, resD, pureD, depD]
theorem okD_s : okD M (.str x) = True := by simp [okD, resD, pureD, depD]
theorem okD_b : okD M (.bl a) = True := by simp [okD, resD, pureD, depD]
theorem okD_n : okD M .non = True := by simp [okD, resD, pureD, depD]
theorem okD_t : okD M (.tup xs) = (pureDs xs = true ∧ depDs xs ≤ 99) := by
  simp only [okD, resD, pureD, depD, eq_iff_iff]
  constructor <;> (intro h; refine ⟨h.1, ?_⟩; omega)
theorem okD_L : okD M (.lst xs) = (pureDs xs = true ∧ depDs xs ≤ 99) := by
  simp only [okD, resD, pureD, depD, eq_iff_iff]
  constructor <;> (intro h; refine ⟨h.1, ?_⟩; omega)
theorem okD_l {a : Addr} (e : lstOf M a = some xs) : okD M (.ref a) = (pureDs xs = true ∧ depDs xs ≤ 99) := by
  simp only [okD, resD, e, pureD, depD, eq_iff_iff]
  constructor <;> (intro h; refine ⟨h.1, ?_⟩; omega)
theorem eqM_lL {a : Addr} (e : lstOf M a = some xs) : eqM M (.ref a) (.lst ys) = eqvDs xs ys := by
  simp only [eqM, resD, e, eqvD]
theorem eqM_LL : eqM M (.lst xs) (.lst ys) = eqvDs xs ys := (rfl)
theorem eqvDs_nil : eqvDs xs [] = xs.isEmpty := by cases xs <;> simp [eqvDs]
theorem dicOf_mup_same {a : Addr} {xs : List (Key × D)} : dicOf (mup M a (.dic xs)) a = some xs := dicOf_some mup_same
theorem dicOf_mup_ne {a b : Addr} {o : MO} (h : b ≠ a) : dicOf (mup M a o) b = dicOf M b := by unfold dicOf; rw [mup_ne h]
end
theorem pureDs_map {α : Type} (f : α → D) (h : ∀ a, pureD (f a) = true) : ∀ l : List α, pureDs (l.map f) = true
  | [] => rfl
  | a :: l => by rw [List.map_cons, pureDs, h a, pureDs_map f h l]; rfl
theorem depDs_map {α : Type} (f : α → D) (k : Nat) (hk : 1 ≤ k) (h : ∀ a, depD (f a) ≤ k) : ∀ l : List α, depDs (l.map f) ≤ k
  | [] => hk
  | a :: l => by
    rw [List.map_cons, depDs]
    have h1 := h a
    have h2 := depDs_map f k hk h l
    omega
theorem pureDs_int (ns : List Int) : pureDs (ns.map D.int) = true := pureDs_map _ (fun _ => rfl) ns
theorem depDs_int (ns : List Int) : depDs (ns.map D.int) ≤ 1 := depDs_map _ 1 (Nat.le_refl _) (fun _ => by simp [depD]) ns
section
variable {c : Addr} {S : DeckS} {v : Int}
theorem deck_at : valD (deckD c S) (.inr "at") = some (.int S.at_) := rfl
theorem deck_sum : valD (deckD c S) (.inr "sum") = some (.int S.sum) := rfl
theorem deck_cells : valD (deckD c S) (.inr "cells") = some (.ref c) := rfl
theorem deck_len : (deckD c S).length = 3 := rfl
theorem deck_put : putD (deckD c S) (.inr "at") (.int v) = deckD c { S with at_ := v } := rfl
end
end DM
namespace DM
open PySem L2
open PyProof.Rows (b2i)
def Ext (d c : Addr) (M M' : Mm) : Prop := ∀ a o, a ≠ d → a ≠ c → M a = some o → M' a = some o
theorem Upto.ext {d c : Addr} {M M' : Mm} (h : Upto d c M M') : Ext d c M M' := fun a o h1 h2 e => by rw [h a h1 h2]; exact e
theorem Ext.refl {d c : Addr} {M : Mm} : Ext d c M M := fun _ _ _ _ h => h
theorem Ext.trans {d c : Addr} {M M1 M2 : Mm} (x : Ext d c M M1) (y : Ext d c M1 M2) : Ext d c M M2 := fun a o h1 h2 e => y a o h1 h2 (x a o h1 h2 e)
theorem Ext.new {d c p : Addr} {M M1 : Mm} {o : MO} (x : Ext d c M M1) (hp : M1 p = none) : Ext d c M (mup M1 p o) := fun a u h1 h2 e => by
  have := x a u h1 h2 e
  rw [mup_ne]
  · exact this
  · rintro rfl; rw [hp] at this; cases this
theorem Ext.put {d c p : Addr} {M M1 : Mm} {o : MO} (x : Ext d c M M1) (hp : M p = none) : Ext d c M (mup M1 p o) := fun a u h1 h2 e => by
  rw [mup_ne]
  · exact x a u h1 h2 e
  · rintro rfl; rw [hp] at e; cases e
theorem Ext.lst {d c a : Addr} {M M' : Mm} {xs : List D} (x : Ext d c M M') (h1 : a ≠ d) (h2 : a ≠ c) (e : lstOf M a = some xs) : lstOf M' a = some xs := lstOf_some (x a _ h1 h2 (of_lstOf e))
theorem Ext.dic {d c a : Addr} {M M' : Mm} {xs : List (Key × D)} (x : Ext d c M M') (h1 : a ≠ d) (h2 : a ≠ c) (e : dicOf M a = some xs) : dicOf M' a = some xs := dicOf_some (x a _ h1 h2 (of_dicOf e))
theorem Deck.nd {M : Mm} {d c p : Addr} {r : Nat} (h : Deck M d c r) (hp : M p = none) : p ≠ d := (h.new (o := .lst []) hp).2.1
theorem Deck.nc {M : Mm} {d c p : Addr} {r : Nat} (h : Deck M d c r) (hp : M p = none) : p ≠ c := (h.new (o := .lst []) hp).2.2
theorem Deck.up {M : Mm} {d c p : Addr} {r : Nat} {o : MO} (h : Deck M d c r) (hp : M p = none) : Deck (mup M p o) d c r := (h.new hp).1
theorem seq_cut {t u : TDS} {D : DEnds} {ds : DSt} {M : Mm} (J : DSt → Mm → Prop) (h1 : ∀ N : DSt → Mm → Prop, (∀ ds M, J ds M → N ds M) → t { D with nx := N } ds M) (h2 : ∀ ds M, J ds M → u D ds M) : dSeq t u D ds M := h1 (u D) h2
theorem ifs {c : Prop} [Decidable c] {a b : Prop} (h1 : c → a) (h2 : ¬c → b) : if c then a else b := by
  split
  · exact h1 (by assumption)
  · exact h2 (by assumption)
instance (i : Int) : Decidable (inLine i) := by unfold inLine; infer_instance
section
variable {M : Mm} {Q : DQ} {p : Addr} {x y : D} {b : Bool} {xs : List D} {i : Int}
theorem int1R_b : int1R [.bl b] M Q = Q (.int (if b then 1 else 0)) M := (rfl)
theorem int1R_i : int1R [.int i] M Q = Q (.int i) M := (rfl)
theorem ix_l {d : D} (e : lstOf M p = some xs) (h0 : 0 ≤ i) (h1 : xs[i.toNat]? = some d) (h : Q d M) : ixR (.ref p) (.int i) M Q := by
  unfold ixR
  have e2 : atI xs i = some d := by
    have := atI_nat (j := i.toNat) h1
    rwa [show ((i.toNat : Nat) : Int) = i by omega] at this
  simp only [e, e2]
  exact h
theorem ix_t {d : D} (h0 : 0 ≤ i) (h1 : xs[i.toNat]? = some d) (h : Q d M) : ixR (.tup xs) (.int i) M Q := by
  unfold ixR
  have e2 : atI xs i = some d := by
    have := atI_nat (j := i.toNat) h1
    rwa [show ((i.toNat : Nat) : Int) = i by omega] at this
  simp only [e2]
  exact h
theorem ix_t0 {xs : List D} : ixR (.tup (x :: xs)) (.int 0) M Q = Q x M := by
  have e : atI (x :: xs) 0 = some x := atI_nat (j := 0) rfl
  unfold ixR
  simp only [e]
theorem ix_t1 {xs : List D} : ixR (.tup (x :: y :: xs)) (.int 1) M Q = Q y M := by
  have e : atI (x :: y :: xs) 1 = some y := atI_nat (j := 1) rfl
  unfold ixR
  simp only [e]
theorem ix_t2 {xs : List D} {z : D} : ixR (.tup (x :: y :: z :: xs)) (.int 2) M Q = Q z M := by
  have e : atI (x :: y :: z :: xs) 2 = some z := atI_nat (j := 2) rfl
  unfold ixR
  simp only [e]
theorem ix_t3 {xs : List D} {z u : D} : ixR (.tup (x :: y :: z :: u :: xs)) (.int 3) M Q = Q u M := by
  have e : atI (x :: y :: z :: u :: xs) 3 = some u := atI_nat (j := 3) rfl
  unfold ixR
  simp only [e]
theorem ix_t4 {xs : List D} {z u v : D} : ixR (.tup (x :: y :: z :: u :: v :: xs)) (.int 4) M Q = Q v M := by
  have e : atI (x :: y :: z :: u :: v :: xs) 4 = some v := atI_nat (j := 4) rfl
  unfold ixR
  simp only [e]
theorem lenR_t : lenR [.tup xs] M Q = Q (.int xs.length) M := (rfl)
theorem lenR_s {z : Str} : lenR [.str z] M Q = (z.length ≤ sizeLine ∧ Q (.int z.length) M) := (rfl)
theorem len_l (e : lstOf M p = some xs) (h : Q (.int xs.length) M) : lenR [.ref p] M Q := by
  unfold lenR
  simp only [of_lstOf e]
  exact h
theorem slR_t {lo hi : Option Int} : slR (.tup xs) lo hi M Q = Q (.tup (cutL xs lo hi)) M := (rfl)
theorem slR_s {z : Str} {lo hi : Option Int} : slR (.str z) lo hi M Q = (z.length ≤ sizeLine ∧ Q (.str (cutS z lo hi)) M) := (rfl)
end
theorem cutL_from {α : Type} (xs : List α) (n : Nat) : cutL xs (some (n : Int)) none = xs.drop n := by
  unfold cutL
  rw [show HT.sIx xs.length 0 (some (n : Int)) = min n xs.length from HT.sIx_nat xs.length 0 n, HT.sIx_none]
  by_cases h : n ≤ xs.length
  · rw [Nat.min_eq_left h, List.take_of_length_le (by rw [List.length_drop]; omega)]
  · rw [Nat.min_eq_right (by omega), List.drop_length, List.take_nil, List.drop_eq_nil_of_le (by omega)]
theorem cutL_from1 {α : Type} (xs : List α) : cutL xs (some 1) none = xs.drop 1 := cutL_from xs 1
theorem cutL_from2 {α : Type} (xs : List α) : cutL xs (some 2) none = xs.drop 2 := cutL_from xs 2
theorem cutL_to {α : Type} (xs : List α) (n : Nat) : cutL xs none (some (n : Int)) = xs.take n := by
  unfold cutL
  rw [show HT.sIx xs.length xs.length (some (n : Int)) = min n xs.length from HT.sIx_nat xs.length xs.length n, HT.sIx_none]
  rw [List.drop_zero, Nat.sub_zero]
  by_cases h : n ≤ xs.length
  · rw [Nat.min_eq_left h]
  · rw [Nat.min_eq_right (by omega), List.take_length, List.take_of_length_le (by omega)]
theorem cutL_mid {α : Type} (xs : List α) (m n : Nat) : cutL xs (some (m : Int)) (some (n : Int)) = (xs.drop m).take (n - m) := by
  unfold cutL
  rw [show HT.sIx xs.length xs.length (some (n : Int)) = min n xs.length from HT.sIx_nat xs.length xs.length n, show HT.sIx xs.length 0 (some (m : Int)) = min m xs.length from HT.sIx_nat xs.length 0 m]
  rcases Nat.le_total m xs.length with h | h
  · rw [Nat.min_eq_left h]
    rcases Nat.le_total n xs.length with h2 | h2
    · rw [Nat.min_eq_left h2]
    · rw [Nat.min_eq_right h2, List.take_of_length_le (by rw [List.length_drop]; omega), List.take_of_length_le (by rw [List.length_drop]; omega)]
  · rw [Nat.min_eq_right h, List.drop_length, List.take_nil, List.drop_eq_nil_of_le h, List.take_nil]
theorem inLine_nat {n : Nat} (h : n < 2 ^ 62) : inLine (n : Int) := ⟨by omega, by omega⟩
theorem small_line {n : Nat} (h : n ≤ 1000000) : n ≤ sizeLine := by rw [sizeLine_eq]; omega
theorem small_ltline {n : Nat} (h : n ≤ 1000000) : n < sizeLine := by rw [sizeLine_eq]; omega
end DM
namespace DM
open PySem L2
open PyProof.Rows (b2i)
def repL {α : Type} (n : Nat) (xs : List α) : List α := (List.replicate n xs).flatten
theorem repL_succ {α : Type} (n : Nat) (xs : List α) : repL (n + 1) xs = xs ++ repL n xs := by simp [repL, List.replicate_succ]
theorem VRs.rep {K : PySem.W.Frag} {H : HF} {ds : List D} {vs : List V} (r : VRs K H ds vs) : ∀ n : Nat, VRs K H (repL n ds) (repL n vs)
  | 0 => .nil
  | n + 1 => by rw [repL_succ, repL_succ]; exact r.append (VRs.rep r n)
def indexQ (x y : D) (M : Mm) (Q : DQ) : Prop := match x, y with
  | .str a, .str b => (match Builtin.Str.occurrences a b 0 a.length 1 with | i :: _ => Q (.int (i : Nat)) M | [] => False)
  | _, _ => False
def dIndex (to te : TDE) : TDE := fun ds M Q => to ds M fun x M1 => (match x with | .str _ => True | _ => False) ∧ te ds M1 fun y M2 => indexQ x y M2 Q
section
variable {X : Cx} {o e : Expr} {to te : TDE} {apos cpos : Pos}
theorem je_sindex (ho : JE X o to) (ha : JE X e te) (hbase : attributeBase o "index" X.env (eval o X.env) = eval o X.env := by rfl)
    (hfew : ((backTo cpos (starEach [e] X.env)).all (fun x => !x.1) && (backToKw cpos (keywordEach [] X.env)).all (fun x => x.1.isSome)
      && decide (([e]).length + ([] : List Keyword).length + (if ([] : List Keyword).isEmpty then 0 else 1) < 30)) = true := by rfl)
    (hline : (apos.endLine == cpos.line) = true := by rfl) (hs : starEach [e] X.env = (false, eval e X.env) :: starEach [] X.env := by rfl) (hplain : (backTo cpos (starEach [] X.env)).any (·.1) = false := by rfl) :
    JE X (.Call (.Attribute o "index" apos) [e] [] cpos) (dIndex to te) := by
  obtain ⟨u, p, g⟩ := ho
  obtain ⟨u', p', g'⟩ := ha
  refine je_pe (pe_bm PySem.F.plainAttrs_str PySem.F.slot_str_index PySem.F.type_str_index mt_sindex p (pa_cons p' pa_nil hs) hbase hfew hline hs hplain) fun ds σ H M Q Q0 s m q k => ?_
  refine g ds σ H M _ _ s m q fun v H1 d M1 r1 m1 g1 q1 => ?_
  obtain ⟨hx, q1⟩ := q1
  cases d with
  | str z =>
    cases r1.str_v
    refine ⟨by first | exact .inr ⟨rfl, z, rfl⟩ | exact .inl ⟨rfl, z, rfl⟩ | exact ⟨z, rfl⟩ | rfl, ?_⟩
    refine g' ds σ H1 M1 _ _ (s.gg m g1) m1 q1 fun w H2 e M2 r2 m2 g2 q2 => ?_
    cases e with
    | str y =>
      cases r2.str_v
      unfold indexQ at q2
      simp only at q2
      split at q2
      · rename_i i r ei
        exact ⟨z, y, i, r, rfl, rfl, ei, k _ H2 _ M2 (.int _) m2 (g1.trans g2) q2⟩
      · exact q2.elim
    | _ => exact q2.elim
  | _ => exact hx.elim
end
section
variable {X : Cx} {pos : Pos}
def mergeD (kvs more : List (Key × D)) : List (Key × D) := more.foldl (fun acc kv => putD acc kv.1 kv.2) kvs
theorem FR.merge {K : PySem.W.Frag} {H : HF} : ∀ {more : List (Key × D)} {ms : List (Key × V)} {kvs : List (Key × D)} {vs : List (Key × V)}, FR K H more ms → FR K H kvs vs → FR K H (mergeD kvs more) (mergeK vs ms)
  | _, _, _, _, .nil, h => h
  | _, _, kvs, vs, .cons r q, h => by
    show FR K H (mergeD (putD kvs _ _) _) (mergeK (putK vs _ _) _)
    exact FR.merge q (h.put r)
abbrev TDD := DSt → Mm → (List (Key × D) → Mm → Prop) → Prop
structure JD (X : Cx) (e : Expr) (t : TDD) : Prop where
  go : ∃ t0, PE X e t0 ∧ ∀ (ds : DSt) (σ : L2.St) (H : HF) (M : Mm) (Q : List (Key × D) → Mm → Prop) (Q0 : VK), SR X.K H ds σ → MR X.K M H → t ds M Q →
    (∀ p H' xs vs M', H.h p = none → H'.h p = some (.dK vs) → FR X.K H' xs vs → M' p = none → ¬H'.F p → MR X.K M' H' → GG M H M' H' → Q xs M' → Q0 (.ref p) H'.h) → t0 σ H.h Q0
theorem jd_empty : JD X (.Dict [] [] pos) (fun _ M Q => Q [] M) := ⟨_, pe_dnewK, fun ds σ H M Q Q0 s m q k p hp => k p (H.up p _) [] [] M hp upd_same .nil (m.free hp) (m.freeF hp) (m.newT hp) (GG.newT hp) q⟩
def dFreshD (t : TDD) : TDE := fun ds M Q => t ds M fun xs M1 => ∀ p, M1 p = none → Q (.ref p) (mup M1 p (.dic xs))
def dFrzD (t : TDD) : TDE := fun ds M Q => t ds M fun xs M1 => Q (.dic xs) M1
theorem je_freshD {e : Expr} {t : TDD} (h : JD X e t) : JE X e (dFreshD t) := by
  obtain ⟨u, p, g⟩ := h
  refine je_pe p fun ds σ H M Q Q0 s m q k => ?_
  refine g ds σ H M _ _ s m q fun p H' xs vs M' hp hp' r n nf m' gg q' => ?_
  exact k _ H' _ _ (.ref p) (m'.known (w := .dic xs) ⟨vs, hp', r⟩ nf) (gg.known hp) (q' p n)
theorem je_frzD {e : Expr} {t : TDD} (h : JD X e t) : JE X e (dFrzD t) := by
  obtain ⟨u, p, g⟩ := h
  refine je_pe p fun ds σ H M Q Q0 s m q k => ?_
  refine g ds σ H M _ _ s m q fun p H' xs vs M' hp hp' r n nf m' gg q' => ?_
  exact k _ (H'.fz p) _ _ (.dic hp' (.inr rfl) (r.mono TX.fzz).kr) (m'.fzz hp' n) (gg.fzz hp) q'
end
def getQ (x y z : D) (M : Mm) (Q : DQ) : Prop := match rdDL M x, keyD y with
  | some kvs, some k => Q ((valD kvs k).getD z) M
  | _, _ => False
def isDic (x : D) (M : Mm) : Prop := (rdDL M x).isSome = true
def dGet2 (to te tf : TDE) : TDE := fun ds M Q => to ds M fun x M1 => isDic x M1 ∧ te ds M1 fun y M2 => tf ds M2 fun z M3 => getQ x y z M3 Q
section
variable {X : Cx} {o e f : Expr} {to te tf : TDE} {apos cpos : Pos} {k : Nat}
theorem isDic_of {K : PySem.W.Frag} {H : HF} {M : Mm} {x : D} {v : V} (r : VR K H x v) (m : MR K M H) (h : isDic x M) : ∃ a, v = .ref a ∧ IsD H.h a := by
  obtain ⟨kvs, e⟩ := Option.isSome_iff_exists.mp h
  obtain ⟨a, vs, rfl, h1, _⟩ := rdDL_v m r e
  exact ⟨a, rfl, by first | exact .inl ⟨vs, .inl h1⟩ | exact .inl ⟨vs, h1⟩⟩
theorem je_get2 (hr : Room k X.A) (ho : JE X o to) (he : JE X e te) (hf : JE X f tf) (m : M2 X o "get" apos e f cpos := by exact ⟨rfl, rfl, rfl, rfl⟩) : JE X (.Call (.Attribute o "get" apos) [e, f] [] cpos) (dGet2 to te tf) := by
  obtain ⟨u, p, g⟩ := ho
  obtain ⟨u1, p1, g1⟩ := he
  obtain ⟨u2, p2, g2⟩ := hf
  refine je_pe (pe_dget2 (hu_of hr) p p1 p2 m) fun ds σ H M Q Q0 s mm q kk => ?_
  refine g ds σ H M _ _ s mm q fun v H1 d M1 r1 m1 gg1 q1 => ?_
  obtain ⟨hd, q1⟩ := q1
  obtain ⟨a, rfl, hd⟩ := isDic_of r1 m1 hd
  refine ⟨a, rfl, hd, ?_⟩
  refine g1 ds σ H1 M1 _ _ (s.gg mm gg1) m1 q1 fun w H2 d2 M2 r2 m2 gg2 q2 => ?_
  refine g2 ds σ H2 M2 _ _ (s.gg mm (gg1.trans gg2)) m2 q2 fun z H3 d3 M3 r3 m3 gg3 q3 => ?_
  unfold getQ at q3
  split at q3
  · rename_i kvs key e1 e2
    obtain ⟨b, vs, ea, h1, rf⟩ := rdDL_v m3 (VR.mono ((gg2.trans gg3).tx m1) _ _ r1) e1
    cases ea
    rw [keyD_v r2 e2]
    refine ⟨valV vs key, DGet.kr h1, ?_⟩
    cases e3 : valD kvs key with
    | none => rw [e3] at q3; rw [rf.valN e3]; exact kk _ H3 _ M3 r3 m3 ((gg1.trans gg2).trans gg3) q3
    | some d4 =>
      rw [e3] at q3
      obtain ⟨z4, e4, r4⟩ := rf.val e3
      rw [e4]
      exact kk _ H3 _ M3 r4 m3 ((gg1.trans gg2).trans gg3) q3
  · exact q3.elim
end
section
variable {M : Mm} {Q : DQ} {i j : Int} {xs ys : List D}
theorem addR_LL : addR (.lst xs) (.lst ys) M Q = (xs.length + ys.length ≤ sizeLine ∧ Q (.lst (xs ++ ys)) M) := (rfl)
theorem ix_L {d : D} (h0 : 0 ≤ i) (h1 : xs[i.toNat]? = some d) (h : Q d M) : ixR (.lst xs) (.int i) M Q := by
  have := ix_t (M := M) (Q := Q) h0 h1 h
  exact this
theorem ix_Lb {x y : D} {b : Bool} (h : Q (if b then y else x) M) : ixR (.lst [x, y]) (.int (if b then 1 else 0)) M Q := by
  cases b
  · exact ix_L (by decide) rfl h
  · exact ix_L (by decide) rfl h
theorem lenR_L : lenR [.lst xs] M Q = Q (.int xs.length) M := (rfl)
theorem slR_L {lo hi : Option Int} : slR (.lst xs) lo hi M Q = Q (.lst (cutL xs lo hi)) M := (rfl)
theorem tup1R_L : tup1R [.lst xs] M Q = Q (.tup xs) M := (rfl)
theorem tup1R_t : tup1R [.tup xs] M Q = Q (.tup xs) M := (rfl)
end
end DM
namespace DM
open PySem L2
open PyProof.Rows (b2i)
def mixD (d c : Addr) (M0 M' : Mm) : Mm := fun a => if a = d ∨ a = c then M' a else M0 a
theorem mixD_upto {d c : Addr} {M0 M' : Mm} : Upto d c M0 (mixD d c M0 M') := fun a h1 h2 => by
  unfold mixD; rw [if_neg]; rintro (h | h)
  · exact h1 h
  · exact h2 h
theorem mixD_deck {d c : Addr} {M0 M' : Mm} {r : Nat} (h : Deck M' d c r) : Deck (mixD d c M0 M') d c r := by
  obtain ⟨h1, S, h2, h3, h4⟩ := h
  exact ⟨h1, S, h2, by unfold mixD; rw [if_pos (.inl rfl)]; exact h3, by unfold mixD; rw [if_pos (.inr rfl)]; exact h4⟩
theorem mixD_sub {d c : Addr} {M0 M' : Mm} (x : Ext d c M0 M') : Sub (mixD d c M0 M') M' := fun a o e => by
  unfold mixD at e
  split at e
  · exact e
  · rename_i h
    exact x a o (fun z => h (.inl z)) (fun z => h (.inr z)) e
theorem mixD_none {d c p : Addr} {M0 M' : Mm} {r : Nat} (h : Deck M0 d c r) (n : M0 p = none) : mixD d c M0 M' p = none := by
  unfold mixD
  rw [if_neg]
  · exact n
  · rintro (e | e)
    · exact h.nd n e
    · exact h.nc n e
theorem Shr.deck {R : DQ} {x : D} {d c : Addr} {M0 M' : Mm} {r : Nat} (X : Ext d c M0 M') (D : Deck M' d c r) (h : ∀ M2, Upto d c M0 M2 → Deck M2 d c r → R x M2) : Shr R x M' :=
  .of (h _ mixD_upto (mixD_deck D)) (mixD_sub X)
theorem Shr.deckL {R : DQ} {p d c : Addr} {M0 M' : Mm} {r r0 : Nat} {xs : List D} (D0 : Deck M0 d c r0) (n : M0 p = none) (e : lstOf M' p = some xs) (X : Ext d c M0 M') (D : Deck M' d c r)
    (h : ∀ M2, Upto d c M0 M2 → Deck M2 d c r → R (.lst xs) M2) : Shr R (.ref p) M' :=
  .frz e (mixD_sub X) (mixD_none D0 n) (h _ mixD_upto (mixD_deck D))
theorem Shr.lst {R : DQ} {p : Addr} {M0 M' : Mm} {xs : List D} (n : M0 p = none) (e : lstOf M' p = some xs) (X : Sub M0 M') (h : R (.lst xs) M0) : Shr R (.ref p) M' := .frz e X n h
theorem Upto.none {d c p : Addr} {M M' : Mm} {r : Nat} (h : Upto d c M M') (D : Deck M d c r) : M' p = none → p ≠ d → p ≠ c → M p = none := fun e h1 h2 => by rw [← h p h1 h2]; exact e
theorem Upto.lst {d c p : Addr} {M M' : Mm} (h : Upto d c M M') (h1 : p ≠ d) (h2 : p ≠ c) : lstOf M' p = lstOf M p := by unfold lstOf; rw [h p h1 h2]
theorem Upto.fresh {d c p : Addr} {M M' : Mm} {r : Nat} (h : Upto d c M M') (D : Deck M' d c r) (n : M' p = Option.none) : M p = Option.none := by rw [← h p (D.nd n) (D.nc n)]; exact n
theorem Ext.fresh {d c p : Addr} {M M' : Mm} {r : Nat} (h : Ext d c M M') (D : Deck M' d c r) (n : M' p = Option.none) : M p = Option.none := by
  cases e : M p with
  | none => rfl
  | some o => rw [h p o (D.nd n) (D.nc n) e] at n; cases n
end DM
namespace DM
open PySem L2
open PyProof.Rows (b2i)
abbrev cps (z : Str) : List Nat := z.cps.toList
theorem cps_len (z : Str) : z.length = (cps z).length := by simp [Str.length]
theorem cps_append (x y : Str) : cps (x ++ y) = cps x ++ cps y := by
  show ((x.cps ++ y.cps).toList) = _
  simp
theorem cps_inj {x y : Str} (h : cps x = cps y) : x = y := by
  cases x; cases y
  simp only [cps] at h
  congr 1
  exact Array.toList_inj.mp h
theorem cps_cut (z : Str) (lo hi : Option Int) : cps (cutS z lo hi) = cutL (cps z) lo hi := by
  unfold cutS cutL
  simp [cps, Str.length]
theorem cps_one (c : Nat) : cps (⟨#[c]⟩ : Str) = [c] := rfl
theorem cps_join0 : ∀ ys : List Str, cps (Txt.join (⟨#[]⟩ : Str) ys) = (ys.map cps).flatten := by
  intro ys
  rw [TL.join_eq]
  induction ys with
  | nil => rfl
  | cons x r ih =>
    cases r with
    | nil => simp [Str.join]
    | cons y r =>
      show cps (x ++ ⟨#[]⟩ ++ Str.join ⟨#[]⟩ (y :: r)) = _
      rw [cps_append, cps_append, ih]
      simp [cps]
section
variable {M : Mm} {Q : DQ} {i : Int} {z : Str}
theorem ix_s {c : Nat} (h0 : 0 ≤ i) (h1 : (cps z)[i.toNat]? = some c) (hz : z.length ≤ sizeLine) (h : Q (.str ⟨#[c]⟩) M) : ixR (.str z) (.int i) M Q := by
  unfold ixR
  have e2 : L2.atI z.cps.toList i = some c := by
    have := atI_nat (j := i.toNat) h1
    rwa [show ((i.toNat : Nat) : Int) = i by omega] at this
  simp only [e2]
  exact ⟨hz, h⟩
end
theorem all_map {α : Type} (f : α → D) (P : α → Prop) : ∀ {ys : List D}, (∀ y ∈ ys, ∃ a, P a ∧ y = f a) → ∃ as : List α, ys = as.map f ∧ (∀ a ∈ as, P a) ∧ as.length = ys.length
  | [], _ => ⟨[], rfl, by simp, rfl⟩
  | y :: ys, h => by
    obtain ⟨a, ha, rfl⟩ := h y List.mem_cons_self
    obtain ⟨as, rfl, h2, h3⟩ := all_map f P (ys := ys) fun z hz => h z (List.mem_cons_of_mem _ hz)
    exact ⟨a :: as, rfl, fun b hb => by
      rcases List.mem_cons.mp hb with rfl | hb
      · exact ha
      · exact h2 b hb, by simp⟩
section
variable {ok : Mm → Prop} {g : TDG} {tt : TDT} {te : TDE} {ds0 : DSt} {Q : List D → Mm → Prop}
theorem lcW_deck {d c : Addr} {r : Nat} (b : Nat) (P : D → Prop) {xs : List D} {M : Mm} (hz : xs.length ≤ sizeLine) (D0 : Deck M d c (r + b * xs.length)) (hok : ∀ M', Upto d c M M' → ok M')
    (step : ∀ x ∈ xs, ∀ (r' : Nat) (M1 : Mm) (N : D → Mm → Prop) (F : Mm → Prop), Deck M1 d c (r' + b) → Upto d c M M1 → (∀ y M2, P y → Deck M2 d c r' → Upto d c M M2 → N y M2) →
      g x ds0 M1 fun ds' M2 => tt ds' M2 fun k M3 => if k = true then te ds' M3 N else F M3)
    (fin : ∀ ys M', ys.length = xs.length → (∀ y ∈ ys, P y) → Deck M' d c r → Upto d c M M' → Q ys M') : lcW ok g tt te ds0 Q xs [] M := by
  refine lcW_go (fun i acc M' => acc.length = i ∧ i ≤ xs.length ∧ (∀ y ∈ acc, P y) ∧ Deck M' d c (r + b * (xs.length - i)) ∧ Upto d c M M') xs (fun i acc M' h => hok _ h.2.2.2.2) (fun i x N e hN acc M' hI => ?_) (fun acc M' hI => ?_) M ⟨rfl, Nat.zero_le _, by simp, by simpa using D0, Upto.refl⟩
  · obtain ⟨h1, h2, h3, h4, h5⟩ := hI
    have hlt : i < xs.length := (List.getElem?_eq_some_iff.mp e).1
    have hm : x ∈ xs := List.mem_of_getElem? e
    have D1 : Deck M' d c (r + b * (xs.length - (i + 1)) + b) := h4.mono (by rw [show xs.length - i = (xs.length - (i + 1)) + 1 by omega, Nat.mul_add, Nat.mul_one]; omega)
    exact step x hm _ M' (fun y M2 => acc.length < sizeLine ∧ N (acc ++ [y]) M2) _ D1 h5 fun y M2 py D2 u2 => ⟨by omega, hN _ _ ⟨by simp [h1], hlt, fun z hz => by
      rcases List.mem_append.mp hz with hz | hz
      · exact h3 z hz
      · rw [List.mem_singleton.mp hz]; exact py, D2, u2⟩⟩
  · obtain ⟨h1, h2, h3, h4, h5⟩ := hI
    exact fin acc M' h1 h3 (by simpa using h4) h5
end
end DM
namespace DM
open PySem L2
open PyProof.Rows (b2i)
section
variable {M : Mm} {Q : DQ}
theorem joinQ_map {α : Type} (f : α → Str) {a : Str} {l : List α} (h1 : ((l.map f).map (·.length)).sum + (l.map f).length * a.length ≤ 16777216) (h : Q (.str (Txt.join a (l.map f))) M) : joinQ a (l.map fun x => .str (f x)) M Q := by
  unfold joinQ
  rw [strsOf_map]
  exact ⟨h1, h⟩
theorem append_go {p : Addr} {xs : List D} {d : D} (e : lstOf M p = some xs) (hz : xs.length < sizeLine) (h : Q .non (mup M p (.lst (xs ++ [d])))) : appendR (.ref p) [d] M Q := by
  unfold appendR
  simp only [e]
  exact ⟨hz, h⟩
theorem popAt_go {p : Addr} {xs : List D} {d : D} {i : Int} (e : lstOf M p = some xs) (h0 : 0 ≤ i) (h1 : i < 2 ^ 62) (e2 : xs[i.toNat]? = some d) (h : Q d (mup M p (.lst (xs.eraseIdx i.toNat)))) : popAtR (.ref p) [.int i] M Q := by
  unfold popAtR
  simp only [e, e2]
  exact ⟨⟨h0, h1⟩, h⟩
theorem pop_go {p : Addr} {xs : List D} {d : D} (e : lstOf M p = some (xs ++ [d])) (h : Q d (mup M p (.lst xs))) : popR (.ref p) [] M Q := by
  unfold popR
  simp only [e]
  rw [show (xs ++ [d])[(xs ++ [d]).length - 1]? = some d by simp]
  simpa using h
theorem ne_nil_l {p : Addr} {xs : List D} (e : lstOf M p = some xs) (h1 : pureDs xs = true) (h2 : depDs xs ≤ 99) (h : Q (.bl (!xs.isEmpty)) M) : neR (.ref p) (.lst []) M Q := by
  unfold neR
  rw [okD_l e, eqM_lL e, eqvDs_nil]
  exact ⟨⟨⟨h1, h2⟩, by simp [okD, resD, pureD, pureDs, depD, depDs]⟩, h⟩
end
section
variable {M : Mm} {Q : DQ} {i j : Int} {x y : Str} {a b : Bool} {xs ys : List D}
theorem eqR_ii : eqR (.int i) (.int j) M Q = Q (.bl (i == j)) M := by simp only [eqR, okD_i, eqM_ii, and_true, true_and]
theorem eqR_ss : eqR (.str x) (.str y) M Q = Q (.bl (x == y)) M := by simp only [eqR, okD_s, eqM_ss, and_true, true_and]
theorem eqR_bb : eqR (.bl a) (.bl b) M Q = Q (.bl (a == b)) M := by simp only [eqR, okD_b, eqM_bb, and_true, true_and]
theorem eqR_tt : eqR (.tup xs) (.tup ys) M Q = (((pureDs xs = true ∧ depDs xs ≤ 99) ∧ pureDs ys = true ∧ depDs ys ≤ 99) ∧ Q (.bl (eqvDs xs ys)) M) := by simp only [eqR, okD_t, eqM_tt]
theorem eqR_LL : eqR (.lst xs) (.lst ys) M Q = (((pureDs xs = true ∧ depDs xs ≤ 99) ∧ pureDs ys = true ∧ depDs ys ≤ 99) ∧ Q (.bl (eqvDs xs ys)) M) := by simp only [eqR, okD_L, eqM_LL]
theorem neR_ii : neR (.int i) (.int j) M Q = Q (.bl (!(i == j))) M := by simp only [neR, okD_i, eqM_ii, and_true, true_and]
theorem neR_ss : neR (.str x) (.str y) M Q = Q (.bl (!(x == y))) M := by simp only [neR, okD_s, eqM_ss, and_true, true_and]
theorem neR_bb : neR (.bl a) (.bl b) M Q = Q (.bl (!(a == b))) M := by simp only [neR, okD_b, eqM_bb, and_true, true_and]
theorem neR_tt : neR (.tup xs) (.tup ys) M Q = (((pureDs xs = true ∧ depDs xs ≤ 99) ∧ pureDs ys = true ∧ depDs ys ≤ 99) ∧ Q (.bl (!eqvDs xs ys)) M) := by simp only [neR, okD_t, eqM_tt]
theorem neR_LL : neR (.lst xs) (.lst ys) M Q = (((pureDs xs = true ∧ depDs xs ≤ 99) ∧ pureDs ys = true ∧ depDs ys ≤ 99) ∧ Q (.bl (!eqvDs xs ys)) M) := by simp only [neR, okD_L, eqM_LL]
end
theorem ifs2 {c e : Prop} [Decidable c] [Decidable e] {a b : Prop} (h1 : c → e → a) (h2 : ¬(c ∧ e) → b) : if c then (if e then a else b) else b := by
  split
  · split
    · exact h1 (by assumption) (by assumption)
    · rename_i h; exact h2 fun z => h z.2
  · rename_i h; exact h2 fun z => h z.1
theorem cut_nat {z : Str} (i : Nat) : cps (cutS z none (some (0 + (i : Int) + 1))) = (cps z).take (i + 1) := by
  rw [cps_cut, show (0 + (i : Int) + 1) = ((i + 1 : Nat) : Int) by omega, cutL_to]
theorem pureDs_str (ns : List Str) : pureDs (ns.map D.str) = true := pureDs_map _ (fun _ => rfl) ns
theorem depDs_str (ns : List Str) : depDs (ns.map D.str) ≤ 1 := depDs_map _ 1 (Nat.le_refl _) (fun _ => by simp [depD]) ns
theorem Ext.mup {d c p : Addr} {M M1 : Mm} {o : MO} (x : Ext d c M M1) (n : M p = none) : Ext d c M (mup M1 p o) := x.put n
theorem lstOf_keep {M : Mm} {p q : Addr} {o : MO} {xs : List D} (h : p ≠ q) (e : lstOf M p = some xs) : lstOf (mup M q o) p = some xs := by rw [lstOf_mup_ne h]; exact e
theorem Deck.keep {M : Mm} {d c p : Addr} {r : Nat} {o : MO} (h : Deck M d c r) (h1 : p ≠ d) (h2 : p ≠ c) : Deck (DM.mup M p o) d c r := h.put h1 h2
end DM
namespace DM
open PySem L2
open PyProof.Rows (b2i)
mutual
theorem eqvD_refl : ∀ d : D, pureD d = true → eqvD d d = true
  | .non, _ => by simp [eqvD]
  | .bl _, _ => by simp [eqvD]
  | .int _, _ => by simp [eqvD]
  | .str _, _ => by simp [eqvD]
  | .tup xs, h => by simp only [eqvD]; exact eqvDs_refl xs (by simpa [pureD] using h)
  | .lst xs, h => by simp only [eqvD]; exact eqvDs_refl xs (by simpa [pureD] using h)
  | .ref _, h => by simp [pureD] at h
  | .ty _, h => by simp [pureD] at h
  | .dic _, h => by simp [pureD] at h
theorem eqvDs_refl : ∀ ds : List D, pureDs ds = true → eqvDs ds ds = true
  | [], _ => by simp [eqvDs]
  | d :: ds, h => by
    have h1 := Bool.and_eq_true_iff.mp (show (pureD d && pureDs ds) = true by simpa [pureDs] using h)
    simp only [eqvDs, Bool.and_eq_true]
    exact ⟨eqvD_refl d h1.1, eqvDs_refl ds h1.2⟩
end
mutual
def noBl : D → Bool
  | .bl _ => false
  | .tup xs => noBls xs
  | .lst xs => noBls xs
  | .ref _ => false
  | .ty _ => false
  | .dic _ => false
  | .dit _ => false
  | .non => true
  | .int _ => true
  | .str _ => true
def noBls : List D → Bool
  | [] => true
  | x :: xs => noBl x && noBls xs
end
mutual
theorem pure_noBl : ∀ d : D, noBl d = true → pureD d = true
  | .non, _ => rfl
  | .int _, _ => rfl
  | .str _, _ => rfl
  | .bl _, h => by simp [noBl] at h
  | .ref _, h => by simp [noBl] at h
  | .ty _, h => by simp [noBl] at h
  | .dic _, h => by simp [noBl] at h
  | .dit _, h => by simp [noBl] at h
  | .tup xs, h => by simp only [pureD]; exact pure_noBls xs (by simpa [noBl] using h)
  | .lst xs, h => by simp only [pureD]; exact pure_noBls xs (by simpa [noBl] using h)
theorem pure_noBls : ∀ ds : List D, noBls ds = true → pureDs ds = true
  | [], _ => rfl
  | d :: ds, h => by
    have h1 := Bool.and_eq_true_iff.mp (show (noBl d && noBls ds) = true by simpa [noBls] using h)
    simp only [pureDs, Bool.and_eq_true]
    exact ⟨pure_noBl d h1.1, pure_noBls ds h1.2⟩
end
noncomputable instance : DecidableEq D := fun a b => Classical.propDecidable _
theorem noBls_map {α : Type} (f : α → D) (h : ∀ a, noBl (f a) = true) : ∀ l : List α, noBls (l.map f) = true
  | [] => rfl
  | a :: l => by rw [List.map_cons, noBls, h a, noBls_map f h l]; rfl
theorem noBls_str (ns : List Str) : noBls (ns.map D.str) = true := noBls_map _ (fun _ => rfl) ns
theorem Shr.up {R : DQ} {x : D} {d c : Addr} {M0 M' : Mm} {r : Nat} (X : Upto d c M0 M') (D : Deck M' d c r) (h : ∀ M2, Upto d c M0 M2 → Deck M2 d c r → R x M2) : Shr R x M' := Shr.all (h M' X D)
section
variable {ok : Mm → Prop} {g : TDG} {tt : TDT} {te : TDE} {ds0 : DSt} {Q : List D → Mm → Prop}
theorem lcW_fun {α : Type} (e : α → D) (f : α → D) {l : List α} {M : Mm} (hz : l.length ≤ sizeLine) (hok : ok M)
    (h : ∀ x ∈ l, ∀ (N : DQ) (F : Mm → Prop), N (f x) M → g (e x) ds0 M fun ds' M2 => tt ds' M2 fun b M3 => if b = true then te ds' M3 N else F M3)
    (fin : Q (l.map f) M) : lcW ok g tt te ds0 Q (l.map e) [] M := by
  refine lcW_go (fun i acc M' => M' = M ∧ acc = (l.take i).map f ∧ i ≤ l.length) (l.map e) (fun i acc M' h => by rw [h.1]; exact hok) (fun i x N ex hN acc M' hI => ?_) (fun acc M' hI => ?_) M ⟨rfl, by simp, Nat.zero_le _⟩
  · obtain ⟨rfl, rfl, hi⟩ := hI
    rw [List.getElem?_map] at ex
    obtain ⟨y, hy, rfl⟩ := Option.map_eq_some_iff.mp ex
    have hlt := (List.getElem?_eq_some_iff.mp hy).1
    refine h y (List.mem_of_getElem? hy) (fun d M4 => ((l.take i).map f).length < sizeLine ∧ N ((l.take i).map f ++ [d]) M4) _ ⟨?_, hN _ _ ⟨rfl, ?_, hlt⟩⟩
    · simp only [List.length_map, List.length_take]; omega
    · rw [List.take_add_one, hy]; simp
  · obtain ⟨rfl, rfl, _⟩ := hI
    rw [List.length_map, List.take_length]
    exact fin
theorem lcW_filter {α : Type} (e : α → D) (p : α → Bool) (f : α → D) {l : List α} {M : Mm} (hz : l.length ≤ sizeLine) (hok : ok M)
    (h : ∀ x ∈ l, ∀ (N : DQ) (F : Mm → Prop), (p x = true → N (f x) M) → (p x = false → F M) → g (e x) ds0 M fun ds' M2 => tt ds' M2 fun b M3 => if b = true then te ds' M3 N else F M3)
    (fin : Q ((l.filter p).map f) M) : lcW ok g tt te ds0 Q (l.map e) [] M := by
  refine lcW_go (fun i acc M' => M' = M ∧ acc = ((l.take i).filter p).map f ∧ i ≤ l.length) (l.map e) (fun i acc M' h => by rw [h.1]; exact hok) (fun i x N ex hN acc M' hI => ?_) (fun acc M' hI => ?_) M ⟨rfl, by simp, Nat.zero_le _⟩
  · obtain ⟨rfl, rfl, hi⟩ := hI
    rw [List.getElem?_map] at ex
    obtain ⟨y, hy, rfl⟩ := Option.map_eq_some_iff.mp ex
    have hlt := (List.getElem?_eq_some_iff.mp hy).1
    have hle : ((l.take i).filter p).length ≤ i := Nat.le_trans (List.length_filter_le _ _) (by simp; omega)
    refine h y (List.mem_of_getElem? hy) (fun d M4 => (((l.take i).filter p).map f).length < sizeLine ∧ N (((l.take i).filter p).map f ++ [d]) M4) _ (fun hp => ⟨?_, hN _ _ ⟨rfl, ?_, hlt⟩⟩) fun hp => hN _ _ ⟨rfl, ?_, hlt⟩
    · simp only [List.length_map]; omega
    · rw [List.take_add_one, hy]; simp [List.filter_cons, hp]
    · rw [List.take_add_one, hy]; simp [List.filter_cons, hp]
  · obtain ⟨rfl, rfl, _⟩ := hI
    rw [List.length_map, List.take_length]
    exact fin
end
section
variable {M : Mm} {Q : DQ} {i : Int} {x : Str} {a b : Bool} {xs : List D} {p : Addr} {kvs : List (Key × D)}
theorem isNotR_nn : isNotR .non .non M Q = Q (.bl false) M := by simp [isNotR, DM.isQ, isNonD]
theorem isNotR_tn : isNotR (.tup xs) .non M Q = Q (.bl true) M := by simp [isNotR, DM.isQ, isNonD]
theorem isNotR_Ln : isNotR (.lst xs) .non M Q = Q (.bl true) M := by simp [isNotR, DM.isQ, isNonD]
theorem isNotR_sn : isNotR (.str x) .non M Q = Q (.bl true) M := by simp [isNotR, DM.isQ, isNonD]
theorem isNotR_in : isNotR (.int i) .non M Q = Q (.bl true) M := by simp [isNotR, DM.isQ, isNonD]
theorem isNotR_bn : isNotR (.bl a) .non M Q = Q (.bl true) M := by simp [isNotR, DM.isQ, isNonD]
theorem isNotR_bb : isNotR (.bl a) (.bl b) M Q = Q (.bl (!decide (a = b))) M := by simp [isNotR, DM.isQ]
theorem isi_t_bool : isiR [.tup xs, .ty "bool"] M Q = Q (.bl false) M := by
  show (isiOk "tuple" "bool" = true ∧ Q (.bl (isiB "tuple" "bool")) M) = _
  rw [show isiOk "tuple" "bool" = true by decide, show isiB "tuple" "bool" = false by decide]; simp
theorem isi_t_int : isiR [.tup xs, .ty "int"] M Q = Q (.bl false) M := by
  show (isiOk "tuple" "int" = true ∧ Q (.bl (isiB "tuple" "int")) M) = _
  rw [show isiOk "tuple" "int" = true by decide, show isiB "tuple" "int" = false by decide]; simp
theorem isi_t_str : isiR [.tup xs, .ty "str"] M Q = Q (.bl false) M := by
  show (isiOk "tuple" "str" = true ∧ Q (.bl (isiB "tuple" "str")) M) = _
  rw [show isiOk "tuple" "str" = true by decide, show isiB "tuple" "str" = false by decide]; simp
theorem isi_t_tuple : isiR [.tup xs, .ty "tuple"] M Q = Q (.bl true) M := by
  show (isiOk "tuple" "tuple" = true ∧ Q (.bl (isiB "tuple" "tuple")) M) = _
  rw [show isiOk "tuple" "tuple" = true by decide, show isiB "tuple" "tuple" = true by decide]; simp
theorem isi_t_list : isiR [.tup xs, .ty "list"] M Q = Q (.bl false) M := by
  show (isiOk "tuple" "list" = true ∧ Q (.bl (isiB "tuple" "list")) M) = _
  rw [show isiOk "tuple" "list" = true by decide, show isiB "tuple" "list" = false by decide]; simp
theorem isi_t_dict : isiR [.tup xs, .ty "dict"] M Q = Q (.bl false) M := by
  show (isiOk "tuple" "dict" = true ∧ Q (.bl (isiB "tuple" "dict")) M) = _
  rw [show isiOk "tuple" "dict" = true by decide, show isiB "tuple" "dict" = false by decide]; simp
theorem isi_s_bool : isiR [.str x, .ty "bool"] M Q = Q (.bl false) M := by
  show (isiOk "str" "bool" = true ∧ Q (.bl (isiB "str" "bool")) M) = _
  rw [show isiOk "str" "bool" = true by decide, show isiB "str" "bool" = false by decide]; simp
theorem isi_s_int : isiR [.str x, .ty "int"] M Q = Q (.bl false) M := by
  show (isiOk "str" "int" = true ∧ Q (.bl (isiB "str" "int")) M) = _
  rw [show isiOk "str" "int" = true by decide, show isiB "str" "int" = false by decide]; simp
theorem isi_s_str : isiR [.str x, .ty "str"] M Q = Q (.bl true) M := by
  show (isiOk "str" "str" = true ∧ Q (.bl (isiB "str" "str")) M) = _
  rw [show isiOk "str" "str" = true by decide, show isiB "str" "str" = true by decide]; simp
theorem isi_s_tuple : isiR [.str x, .ty "tuple"] M Q = Q (.bl false) M := by
  show (isiOk "str" "tuple" = true ∧ Q (.bl (isiB "str" "tuple")) M) = _
  rw [show isiOk "str" "tuple" = true by decide, show isiB "str" "tuple" = false by decide]; simp
theorem isi_s_list : isiR [.str x, .ty "list"] M Q = Q (.bl false) M := by
  show (isiOk "str" "list" = true ∧ Q (.bl (isiB "str" "list")) M) = _
  rw [show isiOk "str" "list" = true by decide, show isiB "str" "list" = false by decide]; simp
theorem isi_s_dict : isiR [.str x, .ty "dict"] M Q = Q (.bl false) M := by
  show (isiOk "str" "dict" = true ∧ Q (.bl (isiB "str" "dict")) M) = _
  rw [show isiOk "str" "dict" = true by decide, show isiB "str" "dict" = false by decide]; simp
theorem isi_i_bool : isiR [.int i, .ty "bool"] M Q = Q (.bl false) M := by
  show (isiOk "int" "bool" = true ∧ Q (.bl (isiB "int" "bool")) M) = _
  rw [show isiOk "int" "bool" = true by decide, show isiB "int" "bool" = false by decide]; simp
theorem isi_i_int : isiR [.int i, .ty "int"] M Q = Q (.bl true) M := by
  show (isiOk "int" "int" = true ∧ Q (.bl (isiB "int" "int")) M) = _
  rw [show isiOk "int" "int" = true by decide, show isiB "int" "int" = true by decide]; simp
theorem isi_i_str : isiR [.int i, .ty "str"] M Q = Q (.bl false) M := by
  show (isiOk "int" "str" = true ∧ Q (.bl (isiB "int" "str")) M) = _
  rw [show isiOk "int" "str" = true by decide, show isiB "int" "str" = false by decide]; simp
theorem isi_i_tuple : isiR [.int i, .ty "tuple"] M Q = Q (.bl false) M := by
  show (isiOk "int" "tuple" = true ∧ Q (.bl (isiB "int" "tuple")) M) = _
  rw [show isiOk "int" "tuple" = true by decide, show isiB "int" "tuple" = false by decide]; simp
theorem isi_i_list : isiR [.int i, .ty "list"] M Q = Q (.bl false) M := by
  show (isiOk "int" "list" = true ∧ Q (.bl (isiB "int" "list")) M) = _
  rw [show isiOk "int" "list" = true by decide, show isiB "int" "list" = false by decide]; simp
theorem isi_i_dict : isiR [.int i, .ty "dict"] M Q = Q (.bl false) M := by
  show (isiOk "int" "dict" = true ∧ Q (.bl (isiB "int" "dict")) M) = _
  rw [show isiOk "int" "dict" = true by decide, show isiB "int" "dict" = false by decide]; simp
theorem isi_b_bool : isiR [.bl a, .ty "bool"] M Q = Q (.bl true) M := by
  show (isiOk "bool" "bool" = true ∧ Q (.bl (isiB "bool" "bool")) M) = _
  rw [show isiOk "bool" "bool" = true by decide, show isiB "bool" "bool" = true by decide]; simp
theorem isi_b_int : isiR [.bl a, .ty "int"] M Q = Q (.bl true) M := by
  show (isiOk "bool" "int" = true ∧ Q (.bl (isiB "bool" "int")) M) = _
  rw [show isiOk "bool" "int" = true by decide, show isiB "bool" "int" = true by decide]; simp
theorem isi_b_str : isiR [.bl a, .ty "str"] M Q = Q (.bl false) M := by
  show (isiOk "bool" "str" = true ∧ Q (.bl (isiB "bool" "str")) M) = _
  rw [show isiOk "bool" "str" = true by decide, show isiB "bool" "str" = false by decide]; simp
theorem isi_b_tuple : isiR [.bl a, .ty "tuple"] M Q = Q (.bl false) M := by
  show (isiOk "bool" "tuple" = true ∧ Q (.bl (isiB "bool" "tuple")) M) = _
  rw [show isiOk "bool" "tuple" = true by decide, show isiB "bool" "tuple" = false by decide]; simp
theorem isi_b_list : isiR [.bl a, .ty "list"] M Q = Q (.bl false) M := by
  show (isiOk "bool" "list" = true ∧ Q (.bl (isiB "bool" "list")) M) = _
  rw [show isiOk "bool" "list" = true by decide, show isiB "bool" "list" = false by decide]; simp
theorem isi_b_dict : isiR [.bl a, .ty "dict"] M Q = Q (.bl false) M := by
  show (isiOk "bool" "dict" = true ∧ Q (.bl (isiB "bool" "dict")) M) = _
  rw [show isiOk "bool" "dict" = true by decide, show isiB "bool" "dict" = false by decide]; simp
theorem isi_n_bool : isiR [.non, .ty "bool"] M Q = Q (.bl false) M := by
  show (isiOk "NoneType" "bool" = true ∧ Q (.bl (isiB "NoneType" "bool")) M) = _
  rw [show isiOk "NoneType" "bool" = true by decide, show isiB "NoneType" "bool" = false by decide]; simp
theorem isi_n_int : isiR [.non, .ty "int"] M Q = Q (.bl false) M := by
  show (isiOk "NoneType" "int" = true ∧ Q (.bl (isiB "NoneType" "int")) M) = _
  rw [show isiOk "NoneType" "int" = true by decide, show isiB "NoneType" "int" = false by decide]; simp
theorem isi_n_str : isiR [.non, .ty "str"] M Q = Q (.bl false) M := by
  show (isiOk "NoneType" "str" = true ∧ Q (.bl (isiB "NoneType" "str")) M) = _
  rw [show isiOk "NoneType" "str" = true by decide, show isiB "NoneType" "str" = false by decide]; simp
theorem isi_n_tuple : isiR [.non, .ty "tuple"] M Q = Q (.bl false) M := by
  show (isiOk "NoneType" "tuple" = true ∧ Q (.bl (isiB "NoneType" "tuple")) M) = _
  rw [show isiOk "NoneType" "tuple" = true by decide, show isiB "NoneType" "tuple" = false by decide]; simp
theorem isi_n_list : isiR [.non, .ty "list"] M Q = Q (.bl false) M := by
  show (isiOk "NoneType" "list" = true ∧ Q (.bl (isiB "NoneType" "list")) M) = _
  rw [show isiOk "NoneType" "list" = true by decide, show isiB "NoneType" "list" = false by decide]; simp
theorem isi_n_dict : isiR [.non, .ty "dict"] M Q = Q (.bl false) M := by
  show (isiOk "NoneType" "dict" = true ∧ Q (.bl (isiB "NoneType" "dict")) M) = _
  rw [show isiOk "NoneType" "dict" = true by decide, show isiB "NoneType" "dict" = false by decide]; simp
theorem isi_L_bool : isiR [.lst xs, .ty "bool"] M Q = Q (.bl false) M := by
  show (isiOk "list" "bool" = true ∧ Q (.bl (isiB "list" "bool")) M) = _
  rw [show isiOk "list" "bool" = true by decide, show isiB "list" "bool" = false by decide]; simp
theorem isi_L_int : isiR [.lst xs, .ty "int"] M Q = Q (.bl false) M := by
  show (isiOk "list" "int" = true ∧ Q (.bl (isiB "list" "int")) M) = _
  rw [show isiOk "list" "int" = true by decide, show isiB "list" "int" = false by decide]; simp
theorem isi_L_str : isiR [.lst xs, .ty "str"] M Q = Q (.bl false) M := by
  show (isiOk "list" "str" = true ∧ Q (.bl (isiB "list" "str")) M) = _
  rw [show isiOk "list" "str" = true by decide, show isiB "list" "str" = false by decide]; simp
theorem isi_L_tuple : isiR [.lst xs, .ty "tuple"] M Q = Q (.bl false) M := by
  show (isiOk "list" "tuple" = true ∧ Q (.bl (isiB "list" "tuple")) M) = _
  rw [show isiOk "list" "tuple" = true by decide, show isiB "list" "tuple" = false by decide]; simp
theorem isi_L_list : isiR [.lst xs, .ty "list"] M Q = Q (.bl true) M := by
  show (isiOk "list" "list" = true ∧ Q (.bl (isiB "list" "list")) M) = _
  rw [show isiOk "list" "list" = true by decide, show isiB "list" "list" = true by decide]; simp
theorem isi_L_dict : isiR [.lst xs, .ty "dict"] M Q = Q (.bl false) M := by
  show (isiOk "list" "dict" = true ∧ Q (.bl (isiB "list" "dict")) M) = _
  rw [show isiOk "list" "dict" = true by decide, show isiB "list" "dict" = false by decide]; simp
theorem isi_d_bool : isiR [.dic kvs, .ty "bool"] M Q = Q (.bl false) M := by
  show (isiOk "dict" "bool" = true ∧ Q (.bl (isiB "dict" "bool")) M) = _
  rw [show isiOk "dict" "bool" = true by decide, show isiB "dict" "bool" = false by decide]; simp
theorem isi_d_int : isiR [.dic kvs, .ty "int"] M Q = Q (.bl false) M := by
  show (isiOk "dict" "int" = true ∧ Q (.bl (isiB "dict" "int")) M) = _
  rw [show isiOk "dict" "int" = true by decide, show isiB "dict" "int" = false by decide]; simp
theorem isi_d_str : isiR [.dic kvs, .ty "str"] M Q = Q (.bl false) M := by
  show (isiOk "dict" "str" = true ∧ Q (.bl (isiB "dict" "str")) M) = _
  rw [show isiOk "dict" "str" = true by decide, show isiB "dict" "str" = false by decide]; simp
theorem isi_d_tuple : isiR [.dic kvs, .ty "tuple"] M Q = Q (.bl false) M := by
  show (isiOk "dict" "tuple" = true ∧ Q (.bl (isiB "dict" "tuple")) M) = _
  rw [show isiOk "dict" "tuple" = true by decide, show isiB "dict" "tuple" = false by decide]; simp
theorem isi_d_list : isiR [.dic kvs, .ty "list"] M Q = Q (.bl false) M := by
  show (isiOk "dict" "list" = true ∧ Q (.bl (isiB "dict" "list")) M) = _
  rw [show isiOk "dict" "list" = true by decide, show isiB "dict" "list" = false by decide]; simp
theorem isi_d_dict : isiR [.dic kvs, .ty "dict"] M Q = Q (.bl true) M := by
  show (isiOk "dict" "dict" = true ∧ Q (.bl (isiB "dict" "dict")) M) = _
  rw [show isiOk "dict" "dict" = true by decide, show isiB "dict" "dict" = true by decide]; simp
end
theorem natlit_eq {n : Nat} : ((no_index (OfNat.ofNat n) : Nat) : Int) = OfNat.ofNat n := rfl
theorem small_line2 {n : Nat} (h : n ≤ 16000000) : n ≤ sizeLine := by rw [sizeLine_eq]; omega
end DM
namespace DM
open PySem L2
open PyProof.Rows (b2i)
def lets : List Nat := (List.range 26).map (97 + ·)
def sgns : List Nat := lets ++ (List.range 10).map (48 + ·)
theorem cps_lets : cps ("abcdefghijklmnopqrstuvwxyz" : Str) = lets := by decide +kernel
theorem cps_sgns : cps (("abcdefghijklmnopqrstuvwxyz" : Str) ++ ("0123456789" : Str)) = sgns := by decide +kernel
def NameL (l : List Nat) : Prop := (∃ c r, l = c :: r ∧ c ∈ lets) ∧ (∀ c ∈ l, c ∈ sgns) ∧ l.length ≤ 8
def NameS (z : Str) : Prop := NameL (cps z)
theorem lets_sgns {c : Nat} (h : c ∈ lets) : c ∈ sgns := List.mem_append_left _ h
theorem occ_lets : ∀ j : Fin 26, Builtin.Str.occurrences ("abcdefghijklmnopqrstuvwxyz" : Str) ⟨#[lets[j.1]!]⟩ 0 26 1 = [j.1] := by decide +kernel
theorem occ_sgns : ∀ j : Fin 36, Builtin.Str.occurrences (("abcdefghijklmnopqrstuvwxyz" : Str) ++ ("0123456789" : Str)) ⟨#[sgns[j.1]!]⟩ 0 36 1 = [j.1] := by decide +kernel
theorem lets_len : lets.length = 26 := by decide
theorem sgns_len : sgns.length = 36 := by decide
theorem lets_get {j : Nat} (h : j < 26) : ∃ c, lets[j]? = some c ∧ c ∈ lets := ⟨lets[j]'(by rw [lets_len]; exact h), List.getElem?_eq_getElem _, List.getElem_mem _⟩
theorem sgns_get {j : Nat} (h : j < 36) : ∃ c, sgns[j]? = some c ∧ c ∈ sgns := ⟨sgns[j]'(by rw [sgns_len]; exact h), List.getElem?_eq_getElem _, List.getElem_mem _⟩
theorem idx_lets {c : Nat} (h : c ∈ lets) : ∃ j, j < 26 ∧ lets[j]? = some c ∧ Builtin.Str.occurrences ("abcdefghijklmnopqrstuvwxyz" : Str) ⟨#[c]⟩ 0 26 1 = [j] := by
  obtain ⟨j, hj, rfl⟩ := List.getElem_of_mem h
  rw [lets_len] at hj
  have := occ_lets ⟨j, hj⟩
  rw [show lets[j]! = lets[j] from getElem!_pos lets j (by rw [lets_len]; exact hj)] at this
  exact ⟨j, hj, List.getElem?_eq_getElem _, this⟩
theorem idx_sgns {c : Nat} (h : c ∈ sgns) : ∃ j, j < 36 ∧ sgns[j]? = some c ∧ Builtin.Str.occurrences (("abcdefghijklmnopqrstuvwxyz" : Str) ++ ("0123456789" : Str)) ⟨#[c]⟩ 0 36 1 = [j] := by
  obtain ⟨j, hj, rfl⟩ := List.getElem_of_mem h
  rw [sgns_len] at hj
  have := occ_sgns ⟨j, hj⟩
  rw [show sgns[j]! = sgns[j] from getElem!_pos sgns j (by rw [sgns_len]; exact hj)] at this
  exact ⟨j, hj, List.getElem?_eq_getElem _, this⟩
theorem join_signs {cs : List Nat} : cps (Txt.join ("" : Str) (cs.map fun c => (⟨#[c]⟩ : Str))) = cs := by
  rw [show ("" : Str) = (⟨#[]⟩ : Str) from rfl, cps_join0, List.map_map]
  induction cs with
  | nil => rfl
  | cons c r ih => rw [List.map_cons, List.flatten_cons, ih]; rfl
theorem sum_ones (cs : List Nat) : ((cs.map fun c => (⟨#[c]⟩ : Str)).map (·.length)).sum = cs.length := by
  induction cs with
  | nil => rfl
  | cons c r ih => rw [List.map_cons, List.map_cons, List.sum_cons, ih]; show 1 + r.length = _; simp; omega
theorem len_le {z : Str} {l : List Nat} (e : cps z = l) (h : l.length ≤ 1000) : z.length ≤ sizeLine := by
  rw [cps_len, e]
  exact small_line (by omega)
theorem eraseIdx_map {α β : Type} (f : α → β) : ∀ (l : List α) (i : Nat), (l.map f).eraseIdx i = (l.eraseIdx i).map f
  | [], _ => rfl
  | _ :: _, 0 => rfl
  | _ :: l, i + 1 => by simp [eraseIdx_map f l i]
theorem name_take {c : Nat} {r : List Nat} (hc : c ∈ lets) (hr : ∀ x ∈ r, x ∈ sgns) (hl : r.length ≤ 7) (k : Nat) : NameL ((c :: r).take (k + 1)) := by
  refine ⟨⟨c, r.take k, by simp, hc⟩, fun x hx => ?_, ?_⟩
  · have := List.mem_of_mem_take hx
    rcases List.mem_cons.mp this with rfl | h
    · exact lets_sgns hc
    · exact hr x h
  · simp only [List.length_take, List.length_cons]; omega
structure Rl where
  p : Str
  m : Str
  o : Str
  w : List Str
def ruleD (r : Rl) : D := .tup [.str r.p, .str r.m, .str r.o, .tup (r.w.map D.str)]
def progD (rs : List Rl) : D := .tup (rs.map ruleD)
theorem noBl_rule (x : Rl) : noBl (ruleD x) = true := by simp [ruleD, noBl, noBls, noBls_str]
theorem noBls_rules (rs : List Rl) : noBls (rs.map ruleD) = true := noBls_map _ noBl_rule rs
abbrev St2 := Str × List Str
def stD (s : St2) : D := .tup [.str s.1, .tup (s.2.map D.str)]
def optD : Option St2 → D
  | none => .non
  | some s => stD s
def stepF (r : Rl) (s : St2) : Option St2 := if s.1 = r.p ∧ s.2.take 1 = [r.m] then some (r.o, r.w ++ s.2.drop 1) else none
theorem noBl_st (s : St2) : noBl (stD s) = true := by simp [stD, noBl, noBls, noBls_str]
end DM
namespace DM
open PySem L2
open PyProof.Rows (b2i)
def dPar2 (i j : Nat) (t : TDA) : TDS := fun D ds M => t ds M fun xs M1 => match xs with | [u, v] => D.nx ((ds.set i (some u)).set j (some v)) M1 | _ => False
end DM
namespace DM
open PySem L2
open PyProof.Rows (b2i)
def LinkX (K : PySem.W.Frag) (W : WX) (M0 : Mm) (H0 : HF) (xc : DX) : Prop := ∀ C od σ ds fs H M, XF H0 od → GG M0 H0 M H → SR K H ds σ → XR K M H od fs → MR K M H → xc C fs ds M → W (.ref C) od σ H.h
abbrev TDEX := DX → DSt → Mm → DQ → Prop
abbrev TDAX := DX → DSt → Mm → (List D → Mm → Prop) → Prop
section
variable {X : Cx} {W : WX} {e o : Expr} {es : List Expr} {te : TDE} {tx : TDEX} {ta : TDAX} {tt : TDA} {pos : Pos}
variable {st : Stmt}
def dDropX (t : TDEX) : TDS := fun D ds M => t D.xc ds M fun _ M1 => D.nx ds M1
def dAsgX (t : TDEX) (g : TDG) : TDS := fun D ds M => t D.xc ds M fun x M1 => g x ds M1 D.nx
theorem Link.x {K : PySem.W.Frag} {M0 : Mm} {H0 : HF} {D0 : Ends} {D1 : DEnds} (l : Link K W M0 H0 D0 D1) : LinkX K W M0 H0 D1.xc := l.xc
end
end DM
namespace DM
open PySem L2
open PyProof.Rows (b2i)
section
variable {X : Cx} {a C : Addr} {oe : Obj} {d : Option Addr} {pn : List (Addr × Obj)} {e : Expr} {es : List Expr} {te : TDE} {ta : TDA} {pos p : Pos}
theorem FR.lookup {K : PySem.W.Frag} {H : HF} {f : Str} : ∀ {fs : List (Str × D)} {us : List (Str × V)} {v : D}, FR K H fs us → fs.lookup f = some v → ∃ u, us.lookup f = some u ∧ VR K H v u
  | _, _, _, .nil, h => by cases h
  | (g, x) :: fs, (_, y) :: us, v, .cons r1 r2, h => by
    simp only [List.lookup_cons] at h ⊢
    split at h
    · rename_i e
      cases h
      exact ⟨y, by simp_all, r1⟩
    · rename_i e
      obtain ⟨u, h1, h2⟩ := FR.lookup r2 h
      exact ⟨u, by simp_all, h2⟩
end
end DM
namespace DM
open PySem
def memS (s : Stmt) (j : Nat) : Stmt := match s with
  | .ClassDef _ _ _ b _ _ _ _ _ _ _ => b.getD j (.Pass ⟨0, 0, 0, 0⟩)
  | _ => .Pass ⟨0, 0, 0, 0⟩
end DM
namespace DM
open PySem L2
theorem cutL_mem {α : Type} {xs : List α} {lo hi : Option Int} {x : α} (h : x ∈ cutL xs lo hi) : x ∈ xs := by
  unfold cutL at h
  exact List.mem_of_mem_drop (List.mem_of_mem_take h)
end DM
namespace DM
open PySem L2
open PyProof.Rows (b2i)
structure Bx (d c : Addr) (r : Nat) (M0 : Mm) (L : List (Addr × MO)) (M : Mm) : Prop where
  dk : Deck M d c r
  ex : Ext d c M0 M
  lo : ∀ q ∈ L, M q.1 = some q.2 ∧ M0 q.1 = none ∧ q.1 ≠ d ∧ q.1 ≠ c
  nd : (L.map (·.1)).Nodup
section
variable {d c p q : Addr} {r r' n : Nat} {M0 M M' : Mm} {L : List (Addr × MO)} {o o' : MO} {xs ys : List D}
theorem Bx.start (D : Deck M d c r) : Bx d c r M [] M := ⟨D, Ext.refl, by simp, by simp⟩
theorem Bx.mono (b : Bx d c r M0 L M) (e : r' ≤ r) : Bx d c r' M0 L M := ⟨b.dk.mono e, b.ex, b.lo, b.nd⟩
theorem Bx.new (b : Bx d c r M0 L M) (h : M p = none) : Bx d c r M0 ((p, o) :: L) (mup M p o) := by
  have hpd := b.dk.nd h
  have hpc := b.dk.nc h
  refine ⟨b.dk.up h, b.ex.new h, fun q hq => ?_, ?_⟩
  · rcases List.mem_cons.mp hq with rfl | hq
    · exact ⟨mup_same, b.ex.fresh b.dk h, hpd, hpc⟩
    · obtain ⟨h1, h2, h3, h4⟩ := b.lo q hq
      refine ⟨?_, h2, h3, h4⟩
      rw [mup_ne]
      · exact h1
      · intro e; rw [e, h] at h1; cases h1
  · rw [List.map_cons, List.nodup_cons]
    refine ⟨fun hm => ?_, b.nd⟩
    obtain ⟨q, hq, e⟩ := List.mem_map.mp hm
    have := (b.lo q hq).1
    rw [e] at this
    simp only at this
    rw [h] at this
    cases this
theorem Bx.fresh (b : Bx d c r M0 L M) (h : M p = none) : M0 p = none := b.ex.fresh b.dk h
theorem Bx.put1 (b : Bx d c r M0 ((p, o) :: L) M) : Bx d c r M0 ((p, o') :: L) (mup M p o') := by
  obtain ⟨h1, h2, h3, h4⟩ := b.lo (p, o) (by simp)
  simp only at h1 h2 h3 h4
  have nd := b.nd
  rw [List.map_cons, List.nodup_cons] at nd
  refine ⟨b.dk.keep h3 h4, b.ex.put h2, fun q hq => ?_, b.nd⟩
  rcases List.mem_cons.mp hq with rfl | hq
  · exact ⟨mup_same, h2, h3, h4⟩
  · obtain ⟨g1, g2, g3, g4⟩ := b.lo q (List.mem_cons_of_mem _ hq)
    refine ⟨?_, g2, g3, g4⟩
    rw [mup_ne]
    · exact g1
    · intro e; exact nd.1 (e ▸ List.mem_map.mpr ⟨q, hq, rfl⟩)
theorem Bx.put2 {y : Addr × MO} (b : Bx d c r M0 (y :: (p, o) :: L) M) : Bx d c r M0 (y :: (p, o') :: L) (mup M p o') := by
  obtain ⟨h1, h2, h3, h4⟩ := b.lo (p, o) (by simp)
  simp only at h1 h2 h3 h4
  have nd := b.nd
  simp only [List.map_cons, List.nodup_cons, List.mem_cons, not_or] at nd
  refine ⟨b.dk.keep h3 h4, b.ex.put h2, fun q hq => ?_, b.nd⟩
  rcases List.mem_cons.mp hq with rfl | hq
  · obtain ⟨g1, g2, g3, g4⟩ := b.lo q (by simp)
    exact ⟨by rw [mup_ne nd.1.1]; exact g1, g2, g3, g4⟩
  · rcases List.mem_cons.mp hq with rfl | hq
    · exact ⟨mup_same, h2, h3, h4⟩
    · obtain ⟨g1, g2, g3, g4⟩ := b.lo q (by simp [hq])
      refine ⟨?_, g2, g3, g4⟩
      rw [mup_ne]
      · exact g1
      · intro e; exact nd.2.1 (e ▸ List.mem_map.mpr ⟨q, hq, rfl⟩)
theorem Bx.at1 (b : Bx d c r M0 ((p, o) :: L) M) : M p = some o := (b.lo (p, o) (by simp)).1
theorem Bx.at2 {y : Addr × MO} (b : Bx d c r M0 (y :: (p, o) :: L) M) : M p = some o := (b.lo (p, o) (by simp)).1
theorem Bx.lst1 (b : Bx d c r M0 ((p, .lst xs) :: L) M) : lstOf M p = some xs := lstOf_some b.at1
theorem Bx.lst2 {y : Addr × MO} (b : Bx d c r M0 (y :: (p, .lst xs) :: L) M) : lstOf M p = some xs := lstOf_some b.at2
theorem Bx.dic1 {kvs : List (Key × D)} (b : Bx d c r M0 ((p, .dic kvs) :: L) M) : dicOf M p = some kvs := dicOf_some b.at1
theorem Bx.dic2 {y : Addr × MO} {kvs : List (Key × D)} (b : Bx d c r M0 (y :: (p, .dic kvs) :: L) M) : dicOf M p = some kvs := dicOf_some b.at2
theorem Bx.call (b : Bx d c r M0 L M) (D : Deck M' d c r') (U : Upto d c M M') : Bx d c r' M0 L M' :=
  ⟨D, b.ex.trans U.ext, fun q hq => by
    obtain ⟨h1, h2, h3, h4⟩ := b.lo q hq
    exact ⟨by rw [U q.1 h3 h4]; exact h1, h2, h3, h4⟩, b.nd⟩
theorem Bx.drop1 {y : Addr × MO} (b : Bx d c r M0 (y :: L) M) : Bx d c r M0 L M := ⟨b.dk, b.ex, fun q hq => b.lo q (List.mem_cons_of_mem _ hq), (List.nodup_cons.mp b.nd).2⟩
theorem Bx.fin {R : DQ} {x : D} (b : Bx d c r M0 L M) (h : ∀ M2, Deck M2 d c r → Upto d c M0 M2 → R x M2) : Shr R x M := Shr.deck b.ex b.dk fun M2 U D => h M2 D U
theorem Bx.finL {R : DQ} {r0 : Nat} (b : Bx d c r M0 ((p, .lst xs) :: L) M) (D0 : Deck M0 d c r0) (h : ∀ M2, Deck M2 d c r → Upto d c M0 M2 → R (.lst xs) M2) : Shr R (.ref p) M :=
  Shr.deckL D0 (b.lo (p, .lst xs) (by simp)).2.1 b.lst1 b.ex b.dk fun M2 U D => h M2 D U
def Draws (d : Addr) (cost : Nat) (P : D → Prop) (M : Mm) (R : DQ) : Prop := ∃ c r, Deck M d c (r + cost) ∧ ∀ x M', P x → Deck M' d c r → Upto d c M M' → R x M'
theorem Bx.draws {cost : Nat} {P : D → Prop} {R : DQ} (b : Bx d c n M0 L M) (h : cost ≤ n) (k : ∀ x M', P x → Bx d c (n - cost) M0 L M' → R x M') : Draws d cost P M R :=
  ⟨c, n - cost, b.dk.mono (by omega), fun x M' hx D U => k x M' hx (b.call D U)⟩
end
def puts : DSt → List Nat → List (Option D) → DSt
  | ds, i :: is, v :: vs => puts (ds.set i v) is vs
  | ds, [], _ => ds
  | ds, _ :: _, [] => ds
theorem puts_self : ∀ (is : List Nat) (ds : DSt), puts ds is (is.map (dget ds)) = ds
  | [], ds => rfl
  | i :: is, ds => by
    rw [List.map_cons, puts]
    have e : ds.set i (dget ds i) = ds := by
      apply List.ext_getElem?
      intro j
      by_cases h : i = j
      · subst h
        by_cases hl : i < ds.length
        · rw [List.getElem?_set_self hl, dget, List.getElem?_eq_getElem hl]; rfl
        · rw [List.getElem?_eq_none (by rw [List.length_set]; omega), List.getElem?_eq_none (by omega)]
      · rw [List.getElem?_set_ne h]
    rw [e]
    exact puts_self is ds
section
variable {ok : Mm → Prop} {g : TDG} {tb : TDS} {D : DEnds}
theorem forS (idx : List Nat) (I : Nat → List (Option DM.D) → Mm → Prop) {xs : List DM.D} {ds : DSt} {M : Mm} (hok : ∀ i vs M, I i vs M → ok M)
    (step : ∀ i x (N : DSt → Mm → Prop), xs[i]? = some x → (∀ vs ds' M, ds' = puts ds idx vs → I (i + 1) vs M → N ds' M) → ∀ vs M, I i vs M → g x (puts ds idx vs) M fun ds' M' => tb { D with nx := N, ct := N, bk := D.nx } ds' M')
    (fin : ∀ vs M, I xs.length vs M → D.nx (puts ds idx vs) M) (h0 : I 0 (idx.map (dget ds)) M) : forW ok g tb D xs ds M :=
  forW_go (fun i ds' M => ∃ vs, ds' = puts ds idx vs ∧ I i vs M) xs (fun i ds M ⟨vs, _, h⟩ => hok i vs M h)
    (fun i x N e hN ds' M ⟨vs, e', h⟩ => e' ▸ step i x N e (fun vs ds' M e h => hN ds' M ⟨vs, e, h⟩) vs M h) (fun ds' M ⟨vs, e, h⟩ => e ▸ fin vs M h) ds M ⟨_, (puts_self idx ds).symm, h0⟩
theorem forR (idx : List Nat) (I : Nat → List (Option DM.D) → Mm → Prop) {lo : Int} {n : Nat} {ds : DSt} {M : Mm} (hok : ∀ i vs M, I i vs M → ok M)
    (step : ∀ i (N : DSt → Mm → Prop), i < n → (∀ vs ds' M, ds' = puts ds idx vs → I (i + 1) vs M → N ds' M) → ∀ vs M, I i vs M → g (.int (lo + (i : Int))) (puts ds idx vs) M fun ds' M' => tb { D with nx := N, ct := N, bk := D.nx } ds' M')
    (fin : ∀ vs M, I n vs M → D.nx (puts ds idx vs) M) (h0 : I 0 (idx.map (dget ds)) M) : forW ok g tb D (rangeD lo n) ds M :=
  forS idx I hok (fun i x N e hN vs M h => by
    obtain ⟨h1, rfl⟩ := rangeD_get e
    exact step i N h1 hN vs M h) (fun vs M h => by rw [show (rangeD lo n).length = n by simp [rangeD]] at h; exact fin vs M h) h0
end
theorem seqS {t u : TDS} {D : DEnds} {ds : DSt} {M : Mm} (idx : List Nat) (J : List (Option DM.D) → Mm → Prop) (h1 : ∀ N : DSt → Mm → Prop, (∀ vs ds' M, ds' = puts ds idx vs → J vs M → N ds' M) → t { D with nx := N } ds M)
    (h2 : ∀ vs M, J vs M → u D (puts ds idx vs) M) : dSeq t u D ds M :=
  seq_cut (fun ds' M => ∃ vs, ds' = puts ds idx vs ∧ J vs M) (fun N hN => h1 N fun vs ds' M e h => hN ds' M ⟨vs, e, h⟩) fun ds' M ⟨vs, e, h⟩ => e ▸ h2 vs M h
section
variable {M : Mm} {Q : DQ} {p : Addr} {xs ys : List D} {d : D}
theorem appendR_same : appendR (.ref p) [d] (mup M p (.lst xs)) Q = (xs.length < sizeLine ∧ Q .non (mup M p (.lst (xs ++ [d])))) := by
  unfold appendR
  simp only [lstOf_mup_same, mup_mup]
theorem lenR_same : lenR [.ref p] (mup M p (.lst xs)) Q = Q (.int xs.length) (mup M p (.lst xs)) := by
  unfold lenR
  simp only [mup_same]
theorem tup1R_same : tup1R [.ref p] (mup M p (.lst xs)) Q = Q (.tup xs) (mup M p (.lst xs)) := by
  unfold tup1R
  simp only [rdS_ref, lstOf_mup_same]
end
end DM
namespace DM
open PySem L2
open PyProof.Rows (b2i)
theorem sz0 : (0 ≤ sizeLine) = True := by simp
theorem sz1 : (1 ≤ sizeLine) = True := eq_true (small_line (by decide))
theorem sz2 : (2 ≤ sizeLine) = True := eq_true (small_line (by decide))
theorem sz3 : (3 ≤ sizeLine) = True := eq_true (small_line (by decide))
theorem sz4 : (4 ≤ sizeLine) = True := eq_true (small_line (by decide))
theorem sz5 : (5 ≤ sizeLine) = True := eq_true (small_line (by decide))
theorem sz6 : (6 ≤ sizeLine) = True := eq_true (small_line (by decide))
theorem sz7 : (7 ≤ sizeLine) = True := eq_true (small_line (by decide))
theorem sz8 : (8 ≤ sizeLine) = True := eq_true (small_line (by decide))
theorem sz9 : (9 ≤ sizeLine) = True := eq_true (small_line (by decide))
theorem sz10 : (10 ≤ sizeLine) = True := eq_true (small_line (by decide))
section
variable {M : Mm} {Q : DQ} {x y z u v : D} {xs ys : List D} {p : Addr} {n : Nat} {s : Str} {i : Int} {b : Bool}
theorem ix_L0 : ixR (.lst (x :: xs)) (.int 0) M Q = Q x M := by
  have e : atI (x :: xs) 0 = some x := atI_nat (j := 0) rfl
  unfold ixR
  simp only [e]
theorem ix_L1 : ixR (.lst (x :: y :: xs)) (.int 1) M Q = Q y M := by
  have e : atI (x :: y :: xs) 1 = some y := atI_nat (j := 1) rfl
  unfold ixR
  simp only [e]
theorem ix_L2 : ixR (.lst (x :: y :: z :: xs)) (.int 2) M Q = Q z M := by
  have e : atI (x :: y :: z :: xs) 2 = some z := atI_nat (j := 2) rfl
  unfold ixR
  simp only [e]
theorem ix_Lbs : ixR (.lst [x, y]) (.int (if b = true then 1 else 0)) M Q = Q (if b = true then y else x) M := by
  cases b
  · exact ix_L0
  · exact ix_L1
theorem dep_nil : (depDs [] ≤ n + 1) = True := eq_true (by simp [depDs])
theorem dep_cons : (depDs (x :: xs) ≤ n) = (depD x ≤ n ∧ depDs xs ≤ n) := by
  show (max (depD x) (depDs xs) ≤ n) = _
  exact propext Nat.max_le
theorem dep_tup : (depD (.tup xs) ≤ n + 1) = (depDs xs ≤ n) := by
  simp only [depD]
  exact propext ⟨fun h => by omega, fun h => by omega⟩
theorem dep_lst : (depD (.lst xs) ≤ n + 1) = (depDs xs ≤ n) := by
  simp only [depD]
  exact propext ⟨fun h => by omega, fun h => by omega⟩
theorem dep_str : (depD (.str s) ≤ n + 1) = True := eq_true (by simp [depD])
theorem dep_int : (depD (.int i) ≤ n + 1) = True := eq_true (by simp [depD])
theorem dep_bl : (depD (.bl b) ≤ n + 1) = True := eq_true (by simp [depD])
theorem dep_non : (depD .non ≤ n + 1) = True := eq_true (by simp [depD])
theorem dep_strs {l : List Str} : (depDs (l.map D.str) ≤ n + 1) = True := eq_true (Nat.le_trans (depDs_str l) (by omega))
theorem dep_ints {l : List Int} : (depDs (l.map D.int) ≤ n + 1) = True := eq_true (Nat.le_trans (depDs_int l) (by omega))
theorem dep_app : (depDs (xs ++ ys) ≤ n + 1) = (depDs xs ≤ n + 1 ∧ depDs ys ≤ n + 1) := by
  induction xs with
  | nil => simp [dep_nil]
  | cons a l ih => rw [List.cons_append, dep_cons, ih, dep_cons]; simp [and_assoc]
theorem dep_rules {rs : List Rl} : (depDs (rs.map ruleD) ≤ n + 3) = True := eq_true (Nat.le_trans (depDs_map ruleD 3 (by decide) (fun r => by have := depDs_str r.w; simp only [ruleD, depD, depDs]; omega) rs) (by omega))
theorem dep_prog {rs : List Rl} : (depD (progD rs) ≤ n + 4) = True := by unfold progD; rw [dep_tup]; exact dep_rules
theorem dep_st {t : St2} : (depD (stD t) ≤ n + 3) = True := by simp only [stD, dep_tup, dep_cons, dep_str, dep_strs, dep_nil, and_true]
theorem pu_nil : pureDs [] = true := rfl
theorem pu_cons : pureDs (x :: xs) = (pureD x && pureDs xs) := rfl
theorem pu_tup : pureD (.tup xs) = pureDs xs := by simp [pureD]
theorem pu_lst : pureD (.lst xs) = pureDs xs := by simp [pureD]
theorem pu_str : pureD (.str s) = true := rfl
theorem pu_int : pureD (.int i) = true := rfl
theorem pu_bl : pureD (.bl b) = true := rfl
theorem pu_non : pureD .non = true := rfl
theorem pu_app : pureDs (xs ++ ys) = (pureDs xs && pureDs ys) := by
  induction xs with
  | nil => rfl
  | cons a l ih => rw [List.cons_append, pu_cons, ih, pu_cons, Bool.and_assoc]
theorem pu_rule {r : Rl} : pureD (ruleD r) = true := pure_noBl _ (noBl_rule r)
theorem pu_rules {rs : List Rl} : pureDs (rs.map ruleD) = true := pure_noBls _ (noBls_rules rs)
theorem pu_prog {rs : List Rl} : pureD (progD rs) = true := by unfold progD; rw [pu_tup]; exact pu_rules
theorem pu_st {t : St2} : pureD (stD t) = true := pure_noBl _ (noBl_st t)
theorem eqv_self (h : pureDs xs = true) : eqvDs xs xs = true := eqvDs_refl _ h
end
theorem cutL_to1 {α : Type} (xs : List α) : cutL xs none (some 1) = xs.take 1 := cutL_to xs 1
theorem cutL_to2 {α : Type} (xs : List α) : cutL xs none (some 2) = xs.take 2 := cutL_to xs 2
theorem cutL_to3 {α : Type} (xs : List α) : cutL xs none (some 3) = xs.take 3 := cutL_to xs 3
theorem cutL_to15 {α : Type} (xs : List α) : cutL xs none (some 15) = xs.take 15 := cutL_to xs 15
section
variable {M : Mm} {Q : DQ} {xs : List D} {i : Int}
theorem ix_allL (P : D → Prop) (h0 : 0 ≤ i) (h1 : i < xs.length) (hP : ∀ y ∈ xs, P y) (h : ∀ y, P y → Q y M) : ixR (.lst xs) (.int i) M Q := by
  obtain ⟨y, hy, my⟩ : ∃ y, xs[i.toNat]? = some y ∧ y ∈ xs := ⟨_, List.getElem?_eq_getElem (by omega), List.getElem_mem _⟩
  exact ix_L h0 hy (h y (hP y my))
theorem cutL_toN {α : Type} {xs : List α} {n : Nat} : cutL xs none (some (n : Int)) = xs.take n := cutL_to xs n
theorem cutL_toS {α : Type} {xs : List α} {n : Nat} : cutL xs none (some ((n : Int) + 1)) = xs.take (n + 1) := cutL_to xs (n + 1)
theorem cutL_fromN {α : Type} {xs : List α} {n : Nat} : cutL xs (some (n : Int)) none = xs.drop n := cutL_from xs n
theorem cutL_fromS {α : Type} {xs : List α} {n : Nat} : cutL xs (some ((n : Int) + 1)) none = xs.drop (n + 1) := cutL_from xs (n + 1)
end
section
variable {d c p : Addr} {r n r0 : Nat} {M0 M : Mm} {L : List (Addr × MO)} {P : D → Prop} {R : DQ} {x : D} {xs : List D}
theorem Bx.done (b : Bx d c n M0 L M) (k : ∀ x M', P x → Deck M' d c r → Upto d c M0 M' → R x M') (hx : P x) (hn : r ≤ n) : Shr R x M := b.fin fun M2 D U => k x M2 hx (D.mono hn) U
end
theorem neR_prog0 {rs : List Rl} {M : Mm} {Q : DQ} : neR (progD rs) (.tup []) M Q = Q (.bl (!rs.isEmpty)) M := by
  unfold progD
  simp only [neR_tt, pu_rules, dep_rules, pu_nil, dep_nil, true_and, and_true, eqvDs_nil]
  cases rs <;> rfl
theorem eqR_prog0 {rs : List Rl} {M : Mm} {Q : DQ} : eqR (progD rs) (.tup []) M Q = Q (.bl rs.isEmpty) M := by
  unfold progD
  simp only [eqR_tt, pu_rules, dep_rules, pu_nil, dep_nil, true_and, and_true, eqvDs_nil]
  cases rs <;> rfl
theorem lenR_prog {rs : List Rl} {M : Mm} {Q : DQ} : lenR [progD rs] M Q = Q (.int rs.length) M := by
  unfold progD
  rw [lenR_t, List.length_map]
theorem cmul_sm {i j : Int} (h0 : -1000000000000 ≤ i) (h1 : i ≤ 1000000000000) (h2 : -1000000000000 ≤ j) (h3 : j ≤ 1000000000000) : CMulW i j :=
  cmul_ok (Nat.lt_of_le_of_lt (show i.natAbs ≤ 1000000000000 by omega) (by decide)) (Nat.lt_of_le_of_lt (show j.natAbs ≤ 1000000000000 by omega) (by decide))
theorem rep1 {α : Type} (n : Nat) (x : α) : repL n [x] = List.replicate n x := by simp [repL]
end DM
namespace DM
open PySem L2
open PyProof.Rows (b2i)
section
variable {c : TDT} {tb : TDS} {D : DEnds} {ds : DSt} {M : Mm}
theorem whileS (idx : List Nat) (I : Nat → List (Option DM.D) → Mm → Prop) (m : Nat)
    (step : ∀ (m : Nat) (N : DSt → Mm → Prop), (∀ m' vs ds' M, m' < m → ds' = puts ds idx vs → I m' vs M → N ds' M) → ∀ vs M, I m vs M →
      c (puts ds idx vs) M fun b M1 => if b = true then tb { D with nx := N, ct := N, bk := D.nx } (puts ds idx vs) M1 else D.nx (puts ds idx vs) M1)
    (h0 : I m (idx.map (dget ds)) M) : dWhile c tb D ds M := by
  refine whileN_go (fun m ds' M => ∃ m' ≤ m, ∃ vs, ds' = puts ds idx vs ∧ I m' vs M) (fun N ds' M ⟨m', h1, vs, e, h⟩ => ?_) (fun m N hN ds' M ⟨m', h1, vs, e, h⟩ => ?_) m ds M ⟨m, Nat.le_refl _, _, (puts_self idx ds).symm, h0⟩
  · subst e
    exact step m' N (fun m'' vs ds' M h2 => absurd h2 (by omega)) vs M h
  · subst e
    exact step m' N (fun m'' vs ds' M h2 e h => hN ds' M ⟨m'', by omega, vs, e, h⟩) vs M h
end
section
variable {M : Mm} {Q : DQ} {r : DRC} {xs : List D} {p : Addr}
theorem ofLst_L : ofLst r [.lst xs] M Q = r xs M Q := (rfl)
theorem allLR_map {α : Type} {f : α → Bool} {l : List α} : allLR (l.map fun x => D.bl (f x)) M Q = Q (.bl (l.all f)) M := by
  unfold allLR
  rw [blsOf_map]
  simp only [List.all_map, Function.comp_def, id]
theorem anyLR_map {α : Type} {f : α → Bool} {l : List α} : anyLR (l.map fun x => D.bl (f x)) M Q = Q (.bl (l.any f)) M := by
  unfold anyLR
  rw [blsOf_map]
  simp only [List.any_map, Function.comp_def, id]
end
def natD (j : Nat) : D := .int (j : Nat)
theorem map_toNat_inj : ∀ {a b : List Char}, a.map Char.toNat = b.map Char.toNat → a = b
  | [], [], _ => rfl
  | [], _ :: _, h => by simp at h
  | _ :: _, [], h => by simp at h
  | x :: a, y :: b, h => by
    simp only [List.map_cons, List.cons.injEq] at h
    rw [map_toNat_inj h.2, show x = y from Char.ext (UInt32.toNat_inj.mp h.1)]
theorem ofString_inj {a b : String} : (Str.ofString a = Str.ofString b) = (a = b) := by
  refine propext ⟨fun h => ?_, fun h => by rw [h]⟩
  rw [Str.ofString_eq_toList, Str.ofString_eq_toList] at h
  have h2 : a.toList.map Char.toNat = b.toList.map Char.toNat := by
    have := congrArg (fun z : Str => z.cps.toList) h
    simpa using this
  exact String.toList_inj.mp (map_toNat_inj h2)
theorem ofString_beq {a b : String} : (Str.ofString a == Str.ofString b) = (a == b) := by
  rw [Bool.eq_iff_iff, beq_iff_eq, beq_iff_eq, ofString_inj]
theorem small_lt2 {n : Nat} (h : n < 16000000) : n < sizeLine := by rw [sizeLine_eq]; omega
end DM
namespace DMX
open PySem PySem.Spec PySem.AutoSeq1
theorem meets_extendT (l : Addr) (items : Array Value) (n : Nat) (b : Addr) (items2 : Array Value) (n2 : Nat) (dct : Option Addr) (sl : Array (Option Value)) (hs0 : ¬(!items.isEmpty && Builtin.List.listTooLong (items.size + items2.size)) = true) (hs1 : items.size ≤ sizeLine) (hs2 : items.size + items2.size ≤ sizeLine + 1) :
    Meets (Builtin.«list.extend» ⟨[.ref l, .ref b], []⟩) (fun _ R s => s.heap.get? l = some { cls := .type "list", dict := none, data := .seq items n, slots := #[] } ∧ s.heap.get? b = some { cls := .type "tuple", dict := dct, data := .seq items2 n2, slots := sl } ∧ R (.ok (.ret Value.none)) { s with heap := s.heap.update l (Obj.mapSeq fun x => x ++ items2), toks := s.toks }) :=
  .of_wp fun prog w A R s h => by
    obtain ⟨hp, g, d, tk, os⟩ := s; obtain ⟨hl, hb, h⟩ := h; have f1 := idx_int; have f2 := sub_tuple_tuple; have f3 := sub_list_list; have f4 := sub_tuple_list; have f5 := sub_list_tuple;
    have hz' : (items ++ items2).size ≤ sizeLine + 1 := by rw [Array.size_append]; exact hs2
    wp_walk using (wpAny_updateSeq hl rfl (hz := hs1) (_hz' := hz')), wpAny_loadPart' hl, wpAny_loadPart' hb; exact ⟨_, rfl, h⟩
end DMX
namespace L2
open PySem PySem.Spec PyProof.Rows
def rExtendT (K : PySem.W.Frag) : V → List V → Hp → VK → Prop := fun x vs H Q => ∃ l b xs zs, x = .ref l ∧ vs = [.ref b] ∧ H l = some (.lst xs) ∧ SqT K H b zs ∧ xs.length + zs.length ≤ sizeLine ∧ Q .non (upd H l (.lst (xs ++ zs)))
theorem mt_extendT {X : Cx} : MtM X "list.extend" (rExtendT X.K) := by
  intro pins s σ H x vs v us Q I rx rv h
  obtain ⟨l, b, xs, zs, rfl, rfl, hH, hB, hz, q⟩ := h
  cases rx
  obtain ⟨u, rfl, ru⟩ := rv.one
  cases ru
  obtain ⟨z, its, n, r, hl, e⟩ := I.lstM hH
  obtain ⟨its2, r2, ⟨⟨c, dct, dt, sl⟩, e2, hc, n2, hd⟩, z2⟩ := I.tuple hB
  replace hc : c = .type "tuple" := hc
  replace hd : dt = .seq its2.toArray n2 := hd
  subst hc hd
  have hl2 := r2.length
  have hsz : its.toArray.size + its2.toArray.size ≤ sizeLine := by rw [List.size_toArray, List.size_toArray]; omega
  have hlong : ¬ (!its.toArray.isEmpty && Builtin.List.listTooLong (its.toArray.size + its2.toArray.size)) = true := by
    rw [notLongL hsz, Bool.and_false]
    exact Bool.false_ne_true
  refine call_meets F.slot_list_extend ⟨_, e, rfl⟩ F.entry_list_extend (F.args_list_extend_2 _ _)
    (DMX.meets_extendT l its.toArray n b its2.toArray n2 dct sl hlong (by rw [List.size_toArray]; omega) (by omega)) ⟨e, e2, ?_⟩
  refine ⟨.non, _, I.lset (its' := its ++ its2) hH e (by simp) (r.append r2) ?_, rfl, q⟩
  rw [List.length_append]
  omega
end L2
namespace DM
open PySem L2
open PyProof.Rows (b2i)
def extendA : DRM := fun x xs M Q => match x, xs with
  | .ref a, [y] => (match lstOf M a, rdS M y with | some ys, some zs => ys.length + zs.length ≤ sizeLine ∧ Q .non (mup M a (.lst (ys ++ zs))) | _, _ => False)
  | _, _ => False
def rExtA (K : PySem.W.Frag) : V → List V → Hp → VK → Prop := fun x vs H Q => rExtend x vs H Q ∨ rExtendT K x vs H Q
theorem mt_extA {X : Cx} : MtM X "list.extend" (rExtA X.K) := fun pins s σ H x vs v us Q I rx rv h => by
  rcases h with h | h
  · exact mt_extend pins s σ H x vs v us Q I rx rv h
  · exact mt_extendT pins s σ H x vs v us Q I rx rv h
theorem lift_extA {K : PySem.W.Frag} : LiftM K (rExtA K) extendA := by
  intro x vs dx ds H M Q Q0 rx rs m h k
  unfold extendA at h
  split at h
  · rename_i a y
    cases rx.ref_v
    obtain ⟨v, rfl, r1⟩ := rs.one
    split at h
    · rename_i ys zs e e2
      obtain ⟨hz, h⟩ := h
      obtain ⟨us, h1, r2⟩ := m.ob a _ (of_lstOf e)
      obtain ⟨b, ws, rfl, r3, hh⟩ := rdS_v m r1 e2
      have t := TX.put (u := .lst (us ++ ws)) m (of_lstOf e)
      have fin := k _ (H.up a (.lst (us ++ ws))) _ _ .non (m.put (w := .lst (ys ++ zs)) (of_lstOf e) ⟨_, upd_same, VRs.append (VRs.mono t _ _ r2) (VRs.mono t _ _ r3)⟩) (GG.put (of_lstOf e)) h
      rcases hh with ⟨_, h2⟩ | h2
      · exact .inr ⟨a, b, us, ws, rfl, rfl, h1, h2, by rw [← r2.length, ← r3.length]; exact hz, fin⟩
      · exact .inl ⟨a, b, us, ws, rfl, rfl, h1, h2, by rw [← r2.length, ← r3.length]; exact hz, fin⟩
    · exact h.elim
  · exact h.elim
section
variable {X : Cx} {o e : Expr} {to te : TDE} {apos cpos : Pos}
theorem je_extendA (ho : JE X o to) (ha : JE X e te) (hbase : attributeBase o "extend" X.env (eval o X.env) = eval o X.env := by rfl)
    (hfew : ((backTo cpos (starEach [e] X.env)).all (fun x => !x.1) && (backToKw cpos (keywordEach [] X.env)).all (fun x => x.1.isSome)
      && decide (([e]).length + ([] : List Keyword).length + (if ([] : List Keyword).isEmpty then 0 else 1) < 30)) = true := by rfl)
    (hline : (apos.endLine == cpos.line) = true := by rfl) (hs : starEach [e] X.env = (false, eval e X.env) :: starEach [] X.env := by rfl) (hplain : (backTo cpos (starEach [] X.env)).any (·.1) = false := by rfl) :
    JE X (.Call (.Attribute o "extend" apos) [e] [] cpos) (dBM extendA to (dCons te dNil)) := je_bm PySem.F.slot_list_extend PySem.F.type_list_extend mt_extA lift_extA ho (ja_cons ha ja_nil hs) hbase hfew hline hs hplain
end
section
variable {M : Mm} {Q : DQ} {p q : Addr} {xs ys : List D} {d : D} {o : MO}
theorem extA_t : extendA (.ref p) [.tup ys] (mup M p (.lst xs)) Q = (xs.length + ys.length ≤ sizeLine ∧ Q .non (mup M p (.lst (xs ++ ys)))) := by
  unfold extendA
  simp only [lstOf_mup_same, rdS_tup, mup_mup]
theorem extA_L : extendA (.ref p) [.lst ys] (mup M p (.lst xs)) Q = (xs.length + ys.length ≤ sizeLine ∧ Q .non (mup M p (.lst (xs ++ ys)))) := by
  unfold extendA
  simp only [lstOf_mup_same, rdS_lst, mup_mup]
theorem isSome_same : (lstOf (mup M p (.lst xs)) p).isSome = true := by rw [lstOf_mup_same]; rfl
end
theorem pu_nats {l : List Nat} : pureDs (l.map natD) = true := pureDs_map _ (fun _ => rfl) l
theorem dep_nats {l : List Nat} {n : Nat} : (depDs (l.map natD) ≤ n + 1) = True := eq_true (Nat.le_trans (depDs_map natD 1 (by decide) (fun _ => by simp [natD, depD]) l) (by omega))
end DM
namespace DM
open PySem L2
open PyProof.Rows (b2i)
structure Px (M0 : Mm) (L : List (Addr × MO)) (M : Mm) : Prop where
  ex : Sub M0 M
  lo : ∀ q ∈ L, M q.1 = some q.2 ∧ M0 q.1 = none
  nd : (L.map (·.1)).Nodup
section
variable {p q : Addr} {M0 M M' : Mm} {L : List (Addr × MO)} {o o' : MO} {xs ys : List D}
theorem Px.start : Px M [] M := ⟨Sub.refl, by simp, by simp⟩
theorem Px.fresh (b : Px M0 L M) (h : M p = none) : M0 p = none := b.ex.none h
theorem Px.new (b : Px M0 L M) (h : M p = none) : Px M0 ((p, o) :: L) (mup M p o) := by
  refine ⟨sub_new b.ex (b.fresh h), fun q hq => ?_, ?_⟩
  · rcases List.mem_cons.mp hq with rfl | hq
    · exact ⟨mup_same, b.fresh h⟩
    · obtain ⟨h1, h2⟩ := b.lo q hq
      refine ⟨?_, h2⟩
      rw [mup_ne]
      · exact h1
      · intro e; rw [e, h] at h1; cases h1
  · rw [List.map_cons, List.nodup_cons]
    refine ⟨fun hm => ?_, b.nd⟩
    obtain ⟨q, hq, e⟩ := List.mem_map.mp hm
    have := (b.lo q hq).1
    rw [e] at this
    simp only at this
    rw [h] at this
    cases this
theorem Px.swap {x y : Addr × MO} (b : Px M0 (x :: y :: L) M) : Px M0 (y :: x :: L) M := by
  refine ⟨b.ex, fun q hq => b.lo q ?_, ?_⟩
  · simp only [List.mem_cons] at hq ⊢
    rcases hq with h | h | h
    · exact .inr (.inl h)
    · exact .inl h
    · exact .inr (.inr h)
  · have := b.nd
    simp only [List.map_cons, List.nodup_cons, List.mem_cons, not_or] at this ⊢
    exact ⟨⟨fun e => this.1.1 e.symm, this.2.1⟩, this.1.2, this.2.2⟩
theorem Px.put1 (b : Px M0 ((p, o) :: L) M) : Px M0 ((p, o') :: L) (mup M p o') := by
  obtain ⟨h1, h2⟩ := b.lo (p, o) (by simp)
  simp only at h1 h2
  have nd := b.nd
  rw [List.map_cons, List.nodup_cons] at nd
  refine ⟨sub_new b.ex h2, fun q hq => ?_, b.nd⟩
  rcases List.mem_cons.mp hq with rfl | hq
  · exact ⟨mup_same, h2⟩
  · obtain ⟨g1, g2⟩ := b.lo q (List.mem_cons_of_mem _ hq)
    refine ⟨?_, g2⟩
    rw [mup_ne]
    · exact g1
    · intro e; exact nd.1 (e ▸ List.mem_map.mpr ⟨q, hq, rfl⟩)
theorem Px.put2 {y : Addr × MO} (b : Px M0 (y :: (p, o) :: L) M) : Px M0 (y :: (p, o') :: L) (mup M p o') := b.swap.put1.swap
theorem Px.drop1 {y : Addr × MO} (b : Px M0 (y :: L) M) : Px M0 L M := ⟨b.ex, fun q hq => b.lo q (List.mem_cons_of_mem _ hq), (List.nodup_cons.mp b.nd).2⟩
theorem Px.at1 (b : Px M0 ((p, o) :: L) M) : M p = some o := (b.lo (p, o) (by simp)).1
theorem Px.at2 {y : Addr × MO} (b : Px M0 (y :: (p, o) :: L) M) : M p = some o := (b.lo (p, o) (by simp)).1
theorem Px.lst1 (b : Px M0 ((p, .lst xs) :: L) M) : lstOf M p = some xs := lstOf_some b.at1
theorem Px.lst2 {y : Addr × MO} (b : Px M0 (y :: (p, .lst xs) :: L) M) : lstOf M p = some xs := lstOf_some b.at2
theorem Px.dic1 {kvs : List (Key × D)} (b : Px M0 ((p, .dic kvs) :: L) M) : dicOf M p = some kvs := dicOf_some b.at1
theorem Px.dic2 {y : Addr × MO} {kvs : List (Key × D)} (b : Px M0 (y :: (p, .dic kvs) :: L) M) : dicOf M p = some kvs := dicOf_some b.at2
theorem Px.fin {R : DQ} {x : D} (b : Px M0 L M) (h : R x M0) : Shr R x M := Shr.of h b.ex
theorem Px.finL {R : DQ} (b : Px M0 ((p, .lst xs) :: L) M) (h : R (.lst xs) M0) : Shr R (.ref p) M := Shr.lst (b.lo (p, .lst xs) (by simp)).2 b.lst1 b.ex h
theorem Bx.swap {d c : Addr} {r : Nat} {x y : Addr × MO} (b : Bx d c r M0 (x :: y :: L) M) : Bx d c r M0 (y :: x :: L) M := by
  refine ⟨b.dk, b.ex, fun q hq => b.lo q ?_, ?_⟩
  · simp only [List.mem_cons] at hq ⊢
    rcases hq with h | h | h
    · exact .inr (.inl h)
    · exact .inl h
    · exact .inr (.inr h)
  · have := b.nd
    simp only [List.map_cons, List.nodup_cons, List.mem_cons, not_or] at this ⊢
    exact ⟨⟨fun e => this.1.1 e.symm, this.2.1⟩, this.1.2, this.2.2⟩
end
end DM
namespace DM
open PySem L2
open PyProof.Rows (b2i)
theorem dSeq_e {t u : TDS} {D : DEnds} {ds : DSt} {M : Mm} : dSeq t u D ds M = (t { D with nx := u D } ds M) := (rfl)
theorem dNext_e  {D : DEnds} {ds : DSt} {M : Mm} : dNext  D ds M = (D.nx ds M) := (rfl)
theorem dDrop_e {te : TDE} {D : DEnds} {ds : DSt} {M : Mm} : dDrop te D ds M = (te ds M fun _ M1 => D.nx ds M1) := (rfl)
theorem dRet_e {te : TDE} {D : DEnds} {ds : DSt} {M : Mm} : dRet te D ds M = (te ds M D.rt) := (rfl)
theorem dIfS_e {c : TDT} {t u : TDS} {D : DEnds} {ds : DSt} {M : Mm} : dIfS c t u D ds M = (c ds M fun b M1 => if b = true then t D ds M1 else u D ds M1) := (rfl)
theorem dAsg_e {te : TDE} {g : TDG} {D : DEnds} {ds : DSt} {M : Mm} : dAsg te g D ds M = (te ds M fun x M1 => g x ds M1 D.nx) := (rfl)
theorem dOp_e {r : DR2} {ta tb : TDE} {ds : DSt} {M : Mm} {Q : DQ} : dOp r ta tb ds M Q = (ta ds M fun x M1 => tb ds M1 fun y M2 => r x y M2 Q) := (rfl)
theorem dC_e {d : D} {_ds0 : DSt} {M : Mm} {Q : DQ} : dC d _ds0 M Q = (Q d M) := (rfl)
theorem dTest_e {t : TDE} {ds : DSt} {M : Mm} {Q : Bool → Mm → Prop} : dTest t ds M Q = (t ds M fun x M1 => isB x fun b => Q b M1) := (rfl)
theorem dNil_e  {_ds0 : DSt} {M : Mm} {Q : List DM.D → Mm → Prop} : dNil  _ds0 M Q = (Q [] M) := (rfl)
theorem dCons_e {ta : TDE} {tr : TDA} {ds : DSt} {M : Mm} {Q : List DM.D → Mm → Prop} : dCons ta tr ds M Q = (ta ds M fun x M1 => tr ds M1 fun xs M2 => Q (x :: xs) M2) := (rfl)
theorem dgName_e {i : Nat} {d : DM.D} {ds : DSt} {M : Mm} {Q : DSt → Mm → Prop} : dgName i d ds M Q = (Q (ds.set i (some d)) M) := (rfl)
theorem dTup_e {t : TDA} {ds : DSt} {M : Mm} {Q : DQ} : dTup t ds M Q = (t ds M fun xs M1 => xs.length ≤ sizeLine ∧ Q (.tup xs) M1) := (rfl)
theorem dCB_e {r : DRC} {t : TDA} {ds : DSt} {M : Mm} {Q : DQ} : dCB r t ds M Q = (t ds M fun xs M1 => r xs M1 Q) := (rfl)
theorem dFresh_e {t : TDL} {ds : DSt} {M : Mm} {Q : DQ} : dFresh t ds M Q = (t ds M fun xs M1 => ∀ p, M1 p = none → Q (.ref p) (mup M1 p (.lst xs))) := (rfl)
theorem dFrz_e {t : TDL} {ds : DSt} {M : Mm} {Q : DQ} : dFrz t ds M Q = (t ds M fun xs M1 => Q (.lst xs) M1) := (rfl)
theorem dFreshD_e {t : TDD} {ds : DSt} {M : Mm} {Q : DQ} : dFreshD t ds M Q = (t ds M fun xs M1 => ∀ p, M1 p = none → Q (.ref p) (mup M1 p (.dic xs))) := (rfl)
theorem dFrzD_e {t : TDD} {ds : DSt} {M : Mm} {Q : DQ} : dFrzD t ds M Q = (t ds M fun xs M1 => Q (.dic xs) M1) := (rfl)
theorem dDisp_e {t : TDA} {ds : DSt} {M : Mm} {Q : List DM.D → Mm → Prop} : dDisp t ds M Q = (t ds M fun xs M1 => xs.length ≤ sizeLine ∧ Q xs M1) := (rfl)
theorem dBM_e {r : DRM} {to : TDE} {t : TDA} {ds : DSt} {M : Mm} {Q : DQ} : dBM r to t ds M Q = (to ds M fun x M1 => isLst x M1 ∧ t ds M1 fun xs M2 => r x xs M2 Q) := (rfl)
theorem dBM0_e {r : DRM} {to : TDE} {ds : DSt} {M : Mm} {Q : DQ} : dBM0 r to ds M Q = (to ds M fun x M1 => isLst x M1 ∧ r x [] M1 Q) := (rfl)
theorem dAndV_e {ta tb : TDE} {ds : DSt} {M : Mm} {Q : DQ} : dAndV ta tb ds M Q = (ta ds M fun x M1 => isB x fun c => if c = true then tb ds M1 Q else Q (.bl false) M1) := (rfl)
theorem dOrV_e {ta tb : TDE} {ds : DSt} {M : Mm} {Q : DQ} : dOrV ta tb ds M Q = (ta ds M fun x M1 => isB x fun c => if c = true then Q (.bl true) M1 else tb ds M1 Q) := (rfl)
theorem dNotV_e {ta : TDE} {ds : DSt} {M : Mm} {Q : DQ} : dNotV ta ds M Q = (ta ds M fun x M1 => isB x fun c => Q (.bl (!c)) M1) := (rfl)
theorem dAnd_e {t u : TDT} {ds : DSt} {M : Mm} {Q : Bool → Mm → Prop} : dAnd t u ds M Q = (t ds M fun c M1 => if c = true then u ds M1 Q else Q false M1) := (rfl)
theorem dOr_e {t u : TDT} {ds : DSt} {M : Mm} {Q : Bool → Mm → Prop} : dOr t u ds M Q = (t ds M fun c M1 => if c = true then Q true M1 else u ds M1 Q) := (rfl)
theorem dNot_e {t : TDT} {ds : DSt} {M : Mm} {Q : Bool → Mm → Prop} : dNot t ds M Q = (t ds M fun c M1 => Q (!c) M1) := (rfl)
theorem dCall_e {sp : DSp} {t : TDA} {ds : DSt} {M : Mm} {Q : DQ} : dCall sp t ds M Q = (t ds M fun xs M1 => sp xs M1 Q) := (rfl)
theorem dFor_e {ti : TDI} {g : TDG} {tb : TDS} {D : DEnds} {ds : DSt} {M : Mm} : dFor ti g tb D ds M = (ti ds M fun it M1 => forW it.ok g tb D it.xs ds M1) := (rfl)
theorem dSl_e {te : TDE} {tl th : TDO} {ds : DSt} {M : Mm} {Q : DQ} : dSl te tl th ds M Q = (te ds M fun x M1 => tl ds M1 fun l M2 => th ds M2 fun u M3 => slR x l u M3 Q) := (rfl)
theorem dPart_e {t : TDE} {ds : DSt} {M : Mm} {Q : Option Int → Mm → Prop} : dPart t ds M Q = (t ds M fun x M1 => isI x fun i => Q (some i) M1) := (rfl)
theorem dNoPart_e  {_ds0 : DSt} {M : Mm} {Q : Option Int → Mm → Prop} : dNoPart  _ds0 M Q = (Q none M) := (rfl)
theorem diRng1_e {te : TDE} {ds : DSt} {M : Mm} {Q : DIt → Mm → Prop} : diRng1 te ds M Q = (te ds M fun x M1 => isI x fun j => inLine j ∧ Q ⟨rangeD 0 j.toNat, fun _ => True⟩ M1) := (rfl)
theorem dDropX_e {t : TDEX} {D : DEnds} {ds : DSt} {M : Mm} : dDropX t D ds M = (t D.xc ds M fun _ M1 => D.nx ds M1) := (rfl)
theorem dAsgX_e {t : TDEX} {g : TDG} {D : DEnds} {ds : DSt} {M : Mm} : dAsgX t g D ds M = (t D.xc ds M fun x M1 => g x ds M1 D.nx) := (rfl)
theorem dLc_e {ti : TDI} {g : TDG} {tt : TDT} {te : TDE} {vs : List Nat} {ds : DSt} {M : Mm} {Q : List DM.D → Mm → Prop} : dLc ti g tt te vs ds M Q = (ti ds M fun it M1 => lcW it.ok g tt te (wipeD ds vs) Q it.xs [] M1) := (rfl)
theorem dGet2_e {to te tf : TDE} {ds : DSt} {M : Mm} {Q : DQ} : dGet2 to te tf ds M Q = (to ds M fun x M1 => isDic x M1 ∧ te ds M1 fun y M2 => tf ds M2 fun z M3 => getQ x y z M3 Q) := (rfl)
theorem dYes_e  {_ds0 : DSt} {M : Mm} {Q : Bool → Mm → Prop} : dYes  _ds0 M Q = (Q true M) := (rfl)
section
variable {ds : DSt} {M : Mm} {Q : DQ} {b : Bool} {i : Int} {QB : Bool → Prop} {QI : Int → Prop} {xs ys : List D} {d : D} {a : Addr} {z : Str} {n : Nat}
def varI (o : Option D) (M : Mm) (Q : DQ) : Prop := match o with | some d => Q d M | none => False
theorem varI_s : varI (some d) M Q = Q d M := (rfl)
theorem dVar_e {i : Nat} : dVar i ds M Q = varI (dget ds i) M Q := (rfl)
theorem isB_b : isB (.bl b) QB = QB b := (rfl)
theorem isI_i : isI (.int i) QI = QI i := (rfl)
theorem isLst_r : isLst (.ref a) M = ((lstOf M a).isSome = true) := (rfl)
theorem dgTup_t {t : TDGs} {Q : DSt → Mm → Prop} : dgTup n t (.tup xs) ds M Q = (xs.length = n ∧ t xs ds M Q) := (rfl)
theorem dgTup_l {t : TDGs} {Q : DSt → Mm → Prop} : dgTup n t (.lst xs) ds M Q = (xs.length = n ∧ t xs ds M Q) := (rfl)
theorem dgCons_e {t : TDG} {u : TDGs} {Q : DSt → Mm → Prop} : dgCons t u (d :: xs) ds M Q = t d ds M fun ds' M' => u xs ds' M' Q := (rfl)
theorem dgNil_e {Q : DSt → Mm → Prop} : dgNil [] ds M Q = Q ds M := (rfl)
def anyI (x : D) (M1 : Mm) (Q : DIt → Mm → Prop) : Prop := match x with
  | .tup xs => Q ⟨xs, fun _ => True⟩ M1
  | .str z => Q ⟨signs z, fun _ => True⟩ M1
  | .ref a => (match lstOf M1 a with | some xs => Q ⟨xs, fun M' => lstOf M' a = some xs⟩ M1 | none => False)
  | .lst xs => Q ⟨xs, fun _ => True⟩ M1
  | _ => False
def anyR (a : Addr) (o : Option (List D)) (M1 : Mm) (Q : DIt → Mm → Prop) : Prop := match o with | some xs => Q ⟨xs, fun M' => lstOf M' a = some xs⟩ M1 | none => False
theorem anyI_t {Q : DIt → Mm → Prop} : anyI (.tup xs) M Q = Q ⟨xs, fun _ => True⟩ M := (rfl)
theorem anyI_s {Q : DIt → Mm → Prop} : anyI (.str z) M Q = Q ⟨signs z, fun _ => True⟩ M := (rfl)
theorem anyI_L {Q : DIt → Mm → Prop} : anyI (.lst xs) M Q = Q ⟨xs, fun _ => True⟩ M := (rfl)
theorem anyI_r {Q : DIt → Mm → Prop} : anyI (.ref a) M Q = anyR a (lstOf M a) M Q := (rfl)
theorem anyR_s {Q : DIt → Mm → Prop} : anyR a (some xs) M Q = Q ⟨xs, fun M' => lstOf M' a = some xs⟩ M := (rfl)
theorem diAny_e {te : TDE} {Q : DIt → Mm → Prop} : diAny te ds M Q = te ds M fun x M1 => anyI x M1 Q := (rfl)
def someI {α : Type} (o : Option α) (Q : α → Prop) : Prop := match o with | some x => Q x | none => False
theorem someI_s {α : Type} {x : α} {Q : α → Prop} : someI (some x) Q = Q x := (rfl)
def listI (xs : List D) (M1 : Mm) (Q : List D → Mm → Prop) : Prop := match xs with
  | [x] => (match rdS M1 x with | some ys => Q ys M1 | none => False)
  | _ => False
theorem listI_1 {Q : List D → Mm → Prop} : listI [d] M Q = someI (rdS M d) fun ys => Q ys M := by
  unfold listI someI
  simp only
  cases rdS M d <;> rfl
theorem dListOf_e {t : TDA} {Q : List D → Mm → Prop} : dListOf t ds M Q = t ds M fun xs M1 => listI xs M1 Q := (rfl)
def joinI (x : D) (ds : DSt) (te : TDE) (M1 : Mm) (Q : DQ) : Prop := match x with
  | .str a => te ds M1 fun y M2 => (match rdL M2 y with | some xs => joinQ a xs M2 Q | none => False)
  | _ => False
theorem joinI_s {te : TDE} : joinI (.str z) ds te M Q = te ds M fun y M2 => someI (rdL M2 y) fun xs => joinQ z xs M2 Q := by
  show te ds M _ = _
  congr 1
  funext y M2
  unfold someI
  cases rdL M2 y <;> rfl
theorem dJoin_e {to te : TDE} : dJoin to te ds M Q = to ds M fun x M1 => joinI x ds te M1 Q := (rfl)
def isStr (x : D) : Prop := match x with | .str _ => True | _ => False
theorem isStr_s : isStr (.str z) = True := (rfl)
theorem dIndex_e {to te : TDE} : dIndex to te ds M Q = to ds M fun x M1 => isStr x ∧ te ds M1 fun y M2 => indexQ x y M2 Q := (rfl)
def par2I (i j : Nat) (xs : List D) (ds : DSt) (M1 : Mm) (N : DSt → Mm → Prop) : Prop := match xs with | [u, v] => N ((ds.set i (some u)).set j (some v)) M1 | _ => False
theorem par2I_2 {i j : Nat} {u v : D} {N : DSt → Mm → Prop} : par2I i j [u, v] ds M N = N ((ds.set i (some u)).set j (some v)) M := (rfl)
theorem dPar2_e {i j : Nat} {t : TDA} {D : DEnds} : dPar2 i j t D ds M = t ds M fun xs M1 => par2I i j xs ds M1 D.nx := (rfl)
def catI (o u : Option (List D)) (Q : List D → Prop) : Prop := match o, u with
  | some i, some j => i.length + j.length ≤ sizeLine ∧ Q (i ++ j)
  | _, _ => False
theorem catI_s {Q : List D → Prop} : catI (some xs) (some ys) Q = (xs.length + ys.length ≤ sizeLine ∧ Q (xs ++ ys)) := (rfl)
theorem dCat_e {ta tb : TDE} {Q : List D → Mm → Prop} : dCat ta tb ds M Q = ta ds M fun x M1 => tb ds M1 fun y M2 => catI (rdL M2 x) (rdL M2 y) fun zs => Q zs M2 := (rfl)
def dputI (x y v : D) (ds : DSt) (M3 : Mm) (N : DSt → Mm → Prop) : Prop := match x, keyD y with
  | .ref a, some k => (match dicOf M3 a with | some kvs => kvs.length < sizeLine ∧ N ds (mup M3 a (.dic (putD kvs k v))) | none => False)
  | _, _ => False
theorem dputI_s {v : D} {N : DSt → Mm → Prop} : dputI (.ref a) (.str z) v ds M N = someI (dicOf M a) fun kvs => kvs.length < sizeLine ∧ N ds (mup M a (.dic (putD kvs (.inr z) v))) := by
  unfold dputI someI
  simp only [keyD]
  cases dicOf M a <;> rfl
theorem dputI_i {v : D} {N : DSt → Mm → Prop} : dputI (.ref a) (.int i) v ds M N = someI (dicOf M a) fun kvs => kvs.length < sizeLine ∧ N ds (mup M a (.dic (putD kvs (.inl i) v))) := by
  unfold dputI someI
  simp only [keyD]
  cases dicOf M a <;> rfl
theorem dputS_e {te to ti : TDE} {D : DEnds} : dputS te to ti D ds M = te ds M fun v M1 => to ds M1 fun x M2 => ti ds M2 fun y M3 => dputI x y v ds M3 D.nx := (rfl)
def dlputI (x y v : D) (ds : DSt) (M3 : Mm) (N : DSt → Mm → Prop) : Prop := match x, y with
  | .ref a, .int i => (match lstOf M3 a with | some xs => (match ixN xs.length i with | some j => N ds (mup M3 a (.lst (xs.set j v))) | none => False) | none => False)
  | _, _ => False
theorem dlputI_r {v : D} {N : DSt → Mm → Prop} : dlputI (.ref a) (.int i) v ds M N = someI (lstOf M a) fun xs => someI (ixN xs.length i) fun j => N ds (mup M a (.lst (xs.set j v))) := by
  unfold dlputI someI
  simp only
  cases lstOf M a with
  | none => rfl
  | some xs => simp only; cases ixN xs.length i <;> rfl
theorem dlputS_e {te to ti : TDE} {D : DEnds} : dlputS te to ti D ds M = te ds M fun v M1 => to ds M1 fun x M2 => ti ds M2 fun y M3 => dlputI x y v ds M3 D.nx := (rfl)
theorem dgetR_s {x : D} : dgetR x (.str z) M Q = someI (rdDL M x) fun kvs => someI (valD kvs (.inr z)) fun d => Q d M := by
  unfold dgetR someI
  cases rdDL M x with
  | none => rfl
  | some kvs => simp only [keyD]; cases valD kvs (.inr z) <;> rfl
theorem dgetR_i {x : D} : dgetR x (.int i) M Q = someI (rdDL M x) fun kvs => someI (valD kvs (.inl i)) fun d => Q d M := by
  unfold dgetR someI
  cases rdDL M x with
  | none => rfl
  | some kvs => simp only [keyD]; cases valD kvs (.inl i) <;> rfl
theorem getQ_s {x w : D} : getQ x (.str z) w M Q = someI (rdDL M x) fun kvs => Q ((valD kvs (.inr z)).getD w) M := by
  unfold getQ
  cases rdDL M x with
  | none => rfl
  | some kvs => rfl
theorem getQ_i {x w : D} : getQ x (.int i) w M Q = someI (rdDL M x) fun kvs => Q ((valD kvs (.inl i)).getD w) M := by
  unfold getQ
  cases rdDL M x with
  | none => rfl
  | some kvs => rfl
end
end DM
namespace DM
open PySem L2
open PyProof.Rows (b2i)
def KEq (N s : DSt → Mm → Prop) : Prop := ∀ ds M, s ds M → N ds M
theorem kgo {N s : DSt → Mm → Prop} {ds : DSt} {M : Mm} (h : KEq N s) (g : s ds M) : N ds M := h ds M g
section
variable {D : DEnds} {ds : DSt} {M : Mm} {s : TDS}
theorem sa {t : TDS} (h : ∀ Nx, KEq Nx (s D) → t { D with nx := Nx } ds M) : dSeq t s D ds M := h _ fun _ _ h => h
theorem sa_asg {te : TDE} {g : TDG} (h : ∀ Nx, KEq Nx (s D) → dAsg te g { D with nx := Nx } ds M) : dSeq (dAsg te g) s D ds M := h _ fun _ _ h => h
theorem sa_drop {te : TDE} (h : ∀ Nx, KEq Nx (s D) → dDrop te { D with nx := Nx } ds M) : dSeq (dDrop te) s D ds M := h _ fun _ _ h => h
theorem sa_for {ti : TDI} {g : TDG} {tb : TDS} (h : ∀ Nx, KEq Nx (s D) → dFor ti g tb { D with nx := Nx } ds M) : dSeq (dFor ti g tb) s D ds M := h _ fun _ _ h => h
theorem sa_while {c : TDT} {tb : TDS} (h : ∀ Nx, KEq Nx (s D) → dWhile c tb { D with nx := Nx } ds M) : dSeq (dWhile c tb) s D ds M := h _ fun _ _ h => h
theorem sa_dput {a b c : TDE} (h : ∀ Nx, KEq Nx (s D) → dputS a b c { D with nx := Nx } ds M) : dSeq (dputS a b c) s D ds M := h _ fun _ _ h => h
theorem sa_lput {a b c : TDE} (h : ∀ Nx, KEq Nx (s D) → dlputS a b c { D with nx := Nx } ds M) : dSeq (dlputS a b c) s D ds M := h _ fun _ _ h => h
theorem sa_par2 {i j : Nat} {t : TDA} (h : ∀ Nx, KEq Nx (s D) → dPar2 i j t { D with nx := Nx } ds M) : dSeq (dPar2 i j t) s D ds M := h _ fun _ _ h => h
theorem sa_asgX {te : TDEX} {g : TDG} (h : ∀ Nx, KEq Nx (s D) → dAsgX te g { D with nx := Nx } ds M) : dSeq (dAsgX te g) s D ds M := h _ fun _ _ h => h
theorem sa_dropX {te : TDEX} (h : ∀ Nx, KEq Nx (s D) → dDropX te { D with nx := Nx } ds M) : dSeq (dDropX te) s D ds M := h _ fun _ _ h => h
end
end DM
namespace DM
open PySem L2
open PyProof.Rows (b2i)
abbrev YSt := Str × List (List Str)
section
variable {M : Mm} {Q : DQ} {s : YSt} {t : St2}
theorem isNotR_st : isNotR (stD t) .non M Q = Q (.bl true) M := isNotR_tn
end
end DM
namespace DM
open PySem L2
open PyProof.Rows (b2i)
def KnD : D → Prop
  | .ref _ => False
  | .ty _ => False
  | .dit _ => False
  | _ => True
theorem inAny_nat {l : List Nat} {x : Nat} : inAny (l.map natD) (natD x) = decide (x ∈ l) := by
  unfold inAny
  induction l with
  | nil => rfl
  | cons a l ih =>
    rw [List.map_cons, List.any_cons, ih]
    simp only [natD, eqvD]
    rw [Bool.eq_iff_iff]
    simp
    constructor
    · rintro (h | h)
      · exact .inl (by omega)
      · exact .inr h
    · rintro (h | h)
      · exact .inl (by omega)
      · exact .inr h
theorem inR_natL {l : List Nat} {x : Nat} {M : Mm} {Q : DQ} : inR (natD x) (.lst (l.map natD)) M Q = Q (.bl (decide (x ∈ l))) M := by
  refine Eq.trans (b := (memC (l.map natD) (natD x) ∧ Q (.bl (false != inAny (l.map natD) (natD x))) M)) rfl ?_
  rw [inAny_nat]
  have : memC (l.map natD) (natD x) := ⟨rfl, pu_nats, by rw [dep_nats]; trivial⟩
  simp [this]
theorem inR_natT {l : List Nat} {x : Nat} {M : Mm} {Q : DQ} : inR (natD x) (.tup (l.map natD)) M Q = Q (.bl (decide (x ∈ l))) M := by
  refine Eq.trans (b := (memC (l.map natD) (natD x) ∧ Q (.bl (false != inAny (l.map natD) (natD x))) M)) rfl ?_
  rw [inAny_nat]
  have : memC (l.map natD) (natD x) := ⟨rfl, pu_nats, by rw [dep_nats]; trivial⟩
  simp [this]
section
variable {M : Mm} {Q : DQ} {j : Int} {a : Bool}
theorem eqR_bi : eqR (.bl a) (.int j) M Q = Q (.bl ((if a then 1 else 0) == j)) M := by
  unfold eqR
  rw [okD_b, okD_i]
  simp only [true_and, and_true]
  rfl
end
theorem cutL_mid2 {α : Type} {xs : List α} {n : Nat} : cutL xs (some (n : Int)) (some ((n : Int) + 2)) = (xs.drop n).take 2 := by
  have := cutL_mid xs n (n + 2)
  rw [show n + 2 - n = 2 by omega] at this
  exact this
theorem cutL_from2S {α : Type} {xs : List α} {n : Nat} : cutL xs (some ((n : Int) + 2)) none = xs.drop (n + 2) := cutL_from xs (n + 2)
end DM
namespace DM
open PySem L2
open PyProof.Rows (b2i)
mutual
def toPy : D → PyData
  | .bl b => .bool b
  | .int i => .int i
  | .str x => .str x
  | .tup xs => .tuple (toPys xs)
  | .lst xs => .list (toPys xs)
  | .non => .none
  | .ref _ => .none
  | .ty _ => .none
  | .dic _ => .none
  | .dit _ => .none
def toPys : List D → List PyData
  | [] => []
  | x :: xs => toPy x :: toPys xs
end
mutual
theorem depth_py : ∀ d : D, (toPy d).depth ≤ depD d
  | .tup xs => by
    have := depths_py xs
    simp only [toPy, PyData.depth, depD]; omega
  | .lst xs => by
    have := depths_py xs
    simp only [toPy, PyData.depth, depD]; omega
  | .bl _ => by simp [toPy, PyData.depth]
  | .int _ => by simp [toPy, PyData.depth]
  | .str _ => by simp [toPy, PyData.depth]
  | .non => by simp [toPy, PyData.depth]
  | .ref _ => by simp [toPy, PyData.depth]
  | .ty _ => by simp [toPy, PyData.depth]
  | .dic _ => by simp [toPy, PyData.depth]
  | .dit _ => by simp [toPy, PyData.depth]
theorem depths_py : ∀ ds : List D, PyData.depthAll (toPys ds) ≤ depDs ds
  | [] => by simp [toPys, PyData.depthAll]
  | x :: xs => by
    have h1 := depth_py x
    have h2 := depths_py xs
    simp only [toPys, PyData.depthAll, depDs]; omega
end
section
variable {X : Cx} {pins : List (Addr × Obj)} {σ : L2.St} {H : HF} {s : Shared}
mutual
theorem reads_D (I : Inv X pins σ H.h s) : ∀ (d : D) (v : V) (u : Value), VR X.K H d v → RelV v u → pureD d = true → ∃ as, Reads s.heap u (toPy d) as
  | .non, _, _, r, ru, _ => by cases r; cases ru; exact ⟨_, .none⟩
  | .bl b, _, _, r, ru, _ => by cases r; cases ru; exact ⟨_, .bool b⟩
  | .int i, _, _, r, ru, _ => by cases r; obtain ⟨t, rfl⟩ := ru; exact ⟨_, .int i t⟩
  | .str x, _, _, r, ru, _ => by cases r; obtain ⟨t, rfl⟩ := ru; exact ⟨_, .str x t⟩
  | .tup xs, _, _, r, ru, p => by
    obtain ⟨a, vs, rfl, h, q⟩ := r.tup_v
    cases ru
    obtain ⟨its, rv, o, h1, h2, n, h3⟩ := tup_at I h
    obtain ⟨as, hr⟩ := readss_D I xs vs its q rv (by simpa [pureD] using p)
    exact ⟨as, .tuple h1 h2 h3 (by simpa using hr)⟩
  | .lst xs, _, _, r, ru, p => by
    obtain ⟨a, vs, rfl, h, _, q⟩ := r.lst_v
    cases ru
    obtain ⟨z, its, n, rv, hl, e⟩ := I.lstM h
    obtain ⟨as, hr⟩ := readss_D I xs vs its q rv (by simpa [pureD] using p)
    exact ⟨_, .list e rfl rfl (by simpa using hr)⟩
  | .ref _, _, _, _, _, p => by simp [pureD] at p
  | .ty _, _, _, _, _, p => by simp [pureD] at p
  | .dic _, _, _, _, _, p => by simp [pureD] at p
  | .dit _, _, _, _, _, p => by simp [pureD] at p
theorem readss_D (I : Inv X pins σ H.h s) : ∀ (ds : List D) (vs : List V) (us : List Value), VRs X.K H ds vs → Vals vs us → pureDs ds = true → ∃ as, ReadsAll s.heap us (toPys ds) as
  | [], _, _, r, ru, _ => by cases r; cases ru; exact ⟨_, .nil⟩
  | d :: ds, _, _, r, ru, p => by
    cases r with
    | cons r1 r2 =>
      cases ru with
      | cons u1 u2 =>
        have p' := Bool.and_eq_true_iff.mp (show (pureD d && pureDs ds) = true by simpa [pureDs] using p)
        obtain ⟨as, h1⟩ := reads_D I d _ _ r1 u1 p'.1
        obtain ⟨bs, h2⟩ := readss_D I ds _ _ r2 u2 p'.2
        exact ⟨_, .cons h1 h2⟩
end
end
section
variable {prog : Program} {w : World} {A : Around} {E : Value → Shared → Prop} {s : Shared} {β : Type} {vs : List Value} {bs : List β} {enc : β → PyData} {R : Value → β → Prop}
open PySem PySem.Calls PyProof.Rows PySem.W in
theorem collect_tup {l : Addr} {vs : List Value} {Q : List Value → Shared → Prop} (hl : s.heap.IsTuple l vs.toArray)
    (h : Q vs { s with heap := (s.heap.push (seqObj "list" #[] 0)).update s.heap.objs.size (Obj.mapSeq (· ++ vs.toArray)) }) (hsz : vs.length ≤ sizeLine) :
    wpAny (model prog w) A (collect (.ref l)) Q E s := by
  obtain ⟨o, ho, hc, n, hd⟩ := id hl
  unfold collect
  refine wpAny_bind (wpAny_runValue (codeAny_builtin entry_proto_collect' ?_))
  show wpAny _ _ (do again (.builtin "list.__iadd__" ⟨[← newList [], .ref l], []⟩)) _ _ s
  refine wpAny_bind (wpAny_newList (wpAny_pure ⟨Code.quiet_builtin _ (by decide +kernel), codeAny_builtin entry_list_iadd' ?_⟩))
  show wpAny _ _ (Builtin.List.listExtendWith (.ref s.heap.objs.size) (.ref l) (.ref s.heap.objs.size)) _ _ { s with heap := s.heap.push (seqObj "list" #[] 0) }
  unfold Builtin.List.listExtendWith
  have ho' : (s.heap.push (seqObj "list" #[] 0)).get? l = some o := Heap.get?_push_of_some _ ho
  refine wpAny_bind (wpAny_typeOf (T := "tuple") ⟨o, ho', hc⟩ ?_)
  have ht : (Value.type "tuple" == Value.type "tuple") = true := by rfl
  rw [if_pos (by rw [ht]; simp)]
  refine wpAny_bind (listItems_at ho' hd ?_)
  refine wpAny_bind (listItems_at (xs := #[]) (n := 0) (Heap.get?_push_size _ rfl) rfl ?_)
  rw [if_neg (by simp)]
  refine wpAny_bind (listUpdate_at (xs := #[]) (n := 0) (Heap.get?_push_size _ rfl) rfl ?_ (Nat.zero_le _) (by show (#[] ++ vs.toArray).size ≤ sizeLine + 1; simp only [Array.size_append, List.size_toArray, List.length_nil]; omega))
  refine wpAny_pure ?_
  show wpAny (model prog w) A (do
      let o ← load s.heap.objs.size
      match o.data with
      | .seq xs _ => pure xs.toList
      | _ => unsupported "internal:collect") Q E { s with heap := (s.heap.push (seqObj "list" #[] 0)).update s.heap.objs.size (Obj.mapSeq (· ++ vs.toArray)) }
  refine wpAny_bind (wpAny_load (get?_update_seq (Heap.get?_push_size _ rfl) _) ?_)
  show wpAny _ _ (pure ((#[] : Array Value) ++ vs.toArray).toList) Q E _
  rw [show ((#[] : Array Value) ++ vs.toArray).toList = vs by simp]
  exact wpAny_pure h
open PySem PySem.Calls PyProof.Rows PySem.W in
theorem sorted_tup_data {l : Addr} {Q : Value → Shared → Prop} (hl : s.heap.IsTuple l vs.toArray) (e : EachIs R vs bs) (er : EachIs (fun v b => ∃ as, Reads s.heap v (enc b) as) vs bs) (hal : AllAlike (bs.map enc)) (hk : Sortable (bs.map enc)) (hL : bs.length ≤ sizeLine)
    (hu : ∀ b, b ∈ bs → A.units + 2 + (enc b).depth < cLine) (h : ∀ out, out.length = bs.length → EachIs R out (bs.mergeSort (dataLe false enc)) → Q (.ref (s.heap.objs.size + 1)) { s with heap := sortedAll s.heap vs (List.toArray out) }) :
    wpAny (model prog w) A (call (.builtin "sorted") [.ref l]) Q E s := by
  have er' : EachIs (fun v b => ∃ as, Reads (sortingHeap (copyHeap s.heap vs) (s.heap.objs.size + 1) vs) v (enc b) as) vs bs := er.mono fun _ _ ⟨as, r⟩ => ⟨as, PyProof.Rows.Reads.keeps (fun _ _ => sorting_copy_old) r⟩
  have hL' : vs.length ≤ sizeLine := by rw [e.length]; exact hL
  have S := SortsAt.data (prog := prog) (w := w) (A := A.in1.in1) (s := { s with heap := sortingHeap (copyHeap s.heap vs) (s.heap.objs.size + 1) vs }) (each_map (R := fun v d => ∃ as, Reads (sortingHeap (copyHeap s.heap vs) (s.heap.objs.size + 1) vs) v d as) enc er') hal hk (bound_map hu)
  refine call_function_entry kind_sorted plain_sorted entry_sorted (args_sorted1 _) ?_
  unfold Builtin.«sorted»
  refine wpAny_bind (m := checkCount "sorted" 1 1 _) (wpAny_pure ?_)
  refine wpAny_bind (collect_tup hl ?_ hL')
  refine wpAny_bind (wpAny_newList ?_ hL')
  have hsz : ((s.heap.push (seqObj "list" #[] 0)).update s.heap.objs.size (Obj.mapSeq (· ++ vs.toArray))).objs.size = s.heap.objs.size + 1 := by
    rw [Heap.size_update, size_push']
  show wpAny _ _ _ _ _ { s with heap := copyHeap s.heap vs }
  rw [hsz]
  refine wpAny_bind (wpAny_holding (wpAny_call_entry slot_list_sort ⟨_, copyHeap_at s.heap vs, rfl⟩ entry_list_sort ?body (args_list_sort _)))
  case body =>
    show wpAny (model prog w) A.in1.in1 (Builtin.«list.sort» ⟨[.ref (s.heap.objs.size + 1)], []⟩) _ _ _
    refine list_sort_vals (s := { s with heap := copyHeap s.heap vs }) (copyHeap_at s.heap vs) S hL' ⟨_, rfl, wpAny_pure ⟨_, rfl, ?_⟩⟩
    exact h _ (by rw [sortVals_length false rfl]; exact e.length) (sortVals_data false e er' hal)
end
def leD : D → D → Bool := PySem.W.dataLe false toPy
def sortD (xs : List D) : List D := xs.mergeSort leD
def SortOk (xs : List D) : Prop := pureDs xs = true ∧ depDs xs ≤ 100 ∧ PySem.W.AllAlike (xs.map toPy) ∧ PySem.W.Sortable (xs.map toPy)
def rSortD (K : PySem.W.Frag) : List V → Hp → VK → Prop := fun vs H0 Q0 => ∃ (H : HF) (a : Addr) (us : List V) (xs : List D), H0 = H.h ∧ vs = [.ref a] ∧ (SqL K H.h a us ∨ (SqT K H.h a us ∧ xs.length ≤ sizeLine)) ∧ VRs K H xs us ∧ SortOk xs ∧
  ∀ (ys : List V) (p : Addr), H.h p = none → VRs K H (sortD xs) ys → Q0 (.ref p) (upd H.h p (.lst ys))
section
variable {X : Cx} {pins : List (Addr × Obj)} {σ : L2.St} {H : HF} {s : Shared}
def StF (K : PySem.W.Frag) (H : HF) (u : Value) (d : D) : Prop := ∃ v : V, RelV v u ∧ VR K H d v
theorem each_of {K : PySem.W.Frag} : ∀ {ds : List D} {vs : List V} {us : List Value}, VRs K H ds vs → Vals vs us → PySem.W.EachIs (StF K H) us ds
  | _, _, _, .nil, .nil => .nil
  | _, _, _, .cons r1 r2, .cons u1 u2 => .cons ⟨_, u1, r1⟩ (each_of r2 u2)
theorem each_out {K : PySem.W.Frag} : ∀ {ds : List D} {us : List Value}, PySem.W.EachIs (StF K H) us ds → ∃ vs : List V, VRs K H ds vs ∧ Vals vs us
  | _, _, .nil => ⟨[], .nil, .nil⟩
  | _, _, .cons ⟨v, h1, h2⟩ t => by
    obtain ⟨vs, h3, h4⟩ := each_out t
    exact ⟨v :: vs, .cons h2 h3, .cons h1 h4⟩
theorem each_reads (I : Inv X pins σ H.h s) : ∀ {ds : List D} {vs : List V} {us : List Value}, VRs X.K H ds vs → Vals vs us → pureDs ds = true → PySem.W.EachIs (fun v b => ∃ as, Reads s.heap v (toPy b) as) us ds
  | _, _, _, .nil, .nil, _ => .nil
  | _, _, _, .cons r1 r2, .cons u1 u2, p => by
    have p' := Bool.and_eq_true_iff.mp (show (pureD _ && pureDs _) = true by simpa [pureDs] using p)
    exact .cons (reads_D I _ _ _ r1 u1 p'.1) (each_reads I r2 u2 p'.2)
theorem call_sortD (hu : X.A.units + 150 < cLine) : CallR X (.builtin "sorted") (rSortD X.K) := by
  intro pins s σ H0 vs us Q I r h
  obtain ⟨H, a, ws, xs, rfl, rfl, hs, rx, ⟨hp, hd, hal, hso⟩, q⟩ := h
  rw [Vals.ref1 r]
  have dep : ∀ b ∈ xs, X.A.units + 2 + (toPy b).depth < cLine := fun b hb => by
    have h1 := depth_py b
    obtain ⟨j, hj, rfl⟩ := List.getElem_of_mem hb
    have h2 := depDs_get (List.getElem?_eq_getElem hj)
    omega
  rcases hs with hs | ⟨hs, hlx⟩
  · obtain ⟨its, rv, hl, hz⟩ := I.list hs
    have hlx : xs.length ≤ sizeLine := by rw [rx.length]; exact hz
    refine PySem.W.sorted_data (enc := toPy) hl.isList (each_of rx rv) (each_reads I rx rv hp) hal hso hlx dep fun out ho eo => ?_
    obtain ⟨ys, ry, vy⟩ := each_out eo
    obtain ⟨ep, he'⟩ := PyProof.Rows.sortedAll_at s.heap its out.toArray
    have hlen : ys.length ≤ sizeLine := by rw [vy.length, ho]; exact hlx
    have hfree := I.hok.fresh (Nat.le_succ s.heap.objs.size)
    exact ⟨.ref _, upd H.h (s.heap.objs.size + 1) (.lst ys), I.laid (t' := s.toks) (fun _ _ => PyProof.Rows.sortedAll_old) (Nat.le_succ _) ⟨hlen, out, ep, vy, he'⟩, rfl, q ys _ hfree ry⟩
  · obtain ⟨its, rv, hl⟩ := tup_at I hs
    refine sorted_tup_data (enc := toPy) hl (each_of rx rv) (each_reads I rx rv hp) hal hso hlx dep fun out ho eo => ?_
    obtain ⟨ys, ry, vy⟩ := each_out eo
    obtain ⟨ep, he'⟩ := PyProof.Rows.sortedAll_at s.heap its out.toArray
    have hlen : ys.length ≤ sizeLine := by rw [vy.length, ho]; exact hlx
    have hfree := I.hok.fresh (Nat.le_succ s.heap.objs.size)
    exact ⟨.ref _, upd H.h (s.heap.objs.size + 1) (.lst ys), I.laid (t' := s.toks) (fun _ _ => PyProof.Rows.sortedAll_old) (Nat.le_succ _) ⟨hlen, out, ep, vy, he'⟩, rfl, q ys _ hfree ry⟩
end
def dSorted (t : TDA) : TDL := fun ds M Q => t ds M fun xs M1 => match xs with
  | [x] => (match x with | .tup ys => (SortOk ys ∧ ys.length ≤ sizeLine) ∧ Q (sortD ys) M1 | x => (match rdL M1 x with | some ys => SortOk ys ∧ Q (sortD ys) M1 | none => False))
  | _ => False
section
variable {X : Cx} {e : Expr} {es : List Expr} {t : TDA} {p pos : Pos} {k : Nat}
theorem jl_sorted (hr : Room k X.A) (hm : X.mg "sorted" = none) (ha : JA X (e :: es) t) (hg : Gl X "sorted" := by rfl) (he : starEach (e :: es) X.env = (false, eval e X.env) :: starEach es X.env := by rfl) (hpl : (backTo pos (starEach es X.env)).any (·.1) = false := by rfl) :
    JL X (.Call (.Name "sorted" p) (e :: es) [] pos) (dSorted t) := by
  obtain ⟨u, q, g⟩ := ha
  refine ⟨_, pe_callB (call_sortD (hu150 hr)) hg hm PyProof.Rows.boot_sorted q (by decide) (by decide) he hpl, fun ds σ H M Q Q0 s m q k => ?_⟩
  refine g ds σ H M _ _ s m q fun vs H1 es M1 r1 m1 g1 q1 => ?_
  split at q1
  · split at q1
    · rename_i ys
      obtain ⟨v, rfl, r5⟩ := r1.one
      obtain ⟨a, us, rfl, h1, ra⟩ := r5.tup_v
      refine ⟨H1, a, us, ys, rfl, rfl, .inr ⟨h1, q1.1.2⟩, ra, q1.1.1, fun zs l hl rz => ?_⟩
      exact k l (H1.up l _) _ zs M1 (g1.free hl) upd_same (VRs.mono (TX.new m1 hl) _ _ rz) (m1.free hl) (m1.freeF hl) (m1.newT hl) (g1.trans (GG.newT hl)) q1.2
    · split at q1
      · rename_i ys e
        obtain ⟨v, rfl, r5⟩ := r1.one
        obtain ⟨a, us, rfl, h1, ra⟩ := rdL_v m1 r5 e
        refine ⟨H1, a, us, ys, rfl, rfl, .inl (SqL.of h1), ra, q1.1, fun zs l hl rz => ?_⟩
        exact k l (H1.up l _) _ zs M1 (g1.free hl) upd_same (VRs.mono (TX.new m1 hl) _ _ rz) (m1.free hl) (m1.freeF hl) (m1.newT hl) (g1.trans (GG.newT hl)) q1.2
      · exact q1.elim
  · exact q1.elim
end
section
variable {ds : DSt} {M : Mm} {xs : List D} {a : Addr}
def sortedI (xs : List D) (M1 : Mm) (Q : List D → Mm → Prop) : Prop := match xs with
  | [x] => (match x with | .tup ys => (SortOk ys ∧ ys.length ≤ sizeLine) ∧ Q (sortD ys) M1 | x => (match rdL M1 x with | some ys => SortOk ys ∧ Q (sortD ys) M1 | none => False))
  | _ => False
theorem dSorted_e {t : TDA} {Q : List D → Mm → Prop} : dSorted t ds M Q = t ds M fun xs M1 => sortedI xs M1 Q := (rfl)
theorem sortedI_L {Q : List D → Mm → Prop} : sortedI [.lst xs] M Q = (SortOk xs ∧ Q (sortD xs) M) := (rfl)
theorem sortedI_t {Q : List D → Mm → Prop} : sortedI [.tup xs] M Q = ((SortOk xs ∧ xs.length ≤ sizeLine) ∧ Q (sortD xs) M) := (rfl)
theorem sortedI_r {Q : List D → Mm → Prop} : sortedI [.ref a] M Q = someI (lstOf M a) fun ys => SortOk ys ∧ Q (sortD ys) M := by
  unfold sortedI someI
  simp only [rdL_ref]
  cases lstOf M a <;> rfl
end
theorem sortD_map {α : Type} (f : α → D) (l : List α) : sortD (l.map f) = (l.mergeSort fun a b => leD (f a) (f b)).map f := by
  unfold sortD
  exact (List.map_mergeSort (f := f) (fun _ _ _ _ => rfl)).symm
end DM
namespace DM
open PySem L2
open PyProof.Rows
structure RoomG (k : Nat) (A : Around) : Prop where
  r : Room k A
  g : A.guards = some []
theorem RoomG.mono {j k : Nat} {A : Around} (h : RoomG k A) (l : j ≤ k) : RoomG j A := ⟨h.r.mono l, h.g⟩
theorem RoomG.deeper {k : Nat} {A : Around} (h : RoomG (k + 1) A) (env : Env) : RoomG k (A.deeper env) := ⟨h.r.deeper env, h.g⟩
structure FnG (P : Program) (w : World) (K : PySem.W.Frag) (mg : Str → Option Value) (base : Heap) (CX : CXT) (k : Nat) (f : Addr) (fd : FuncData) (ps : List Str) (sp : Sp) : Prop where
  len : ∀ vs H Q E, sp vs H Q E → vs.length = ps.length
  run : ∀ (A : Around) (outer : List Env) (s : Shared) (H : Hp) (args : Args) (us : List Value) (vs : List V) (Q : VK) (E : XK), RoomG k A → Env0 P w K mg base A outer s H → BindsTo s fd args (ps.zip us) → Vals vs us → sp vs H Q E →
    codeAny (model P w) A (.call (.ref f) args) (CR CX outer P w H s Q E) s
section
variable {P : Program} {w : World} {K : PySem.W.Frag} {mg : Str → Option Value} {base : Heap} {CX : CXT} {f : Addr} {fd : FuncData} {ps : List Str} {sp : Sp}
theorem FnG.of {k : Nat} (F : FnOk P w K mg base CX k f fd ps sp) : FnG P w K mg base CX k f fd ps sp := ⟨F.len, fun A outer s H args us vs Q E hr => F.run A outer s H args us vs Q E hr.r⟩
theorem FnG.mono {j k : Nat} (F : FnG P w K mg base CX j f fd ps sp) (h : j ≤ k) : FnG P w K mg base CX k f fd ps sp := ⟨F.len, fun A outer s H args us vs Q E hr => F.run A outer s H args us vs Q E (hr.mono h)⟩
theorem FnG.imp {k : Nat} {sp' : Sp} (F : FnG P w K mg base CX k f fd ps sp) (h : ∀ vs H Q E, sp' vs H Q E → sp vs H Q E) : FnG P w K mg base CX k f fd ps sp' :=
  ⟨fun vs H Q E q => F.len vs H Q E (h _ _ _ _ q), fun A outer s H args us vs Q E hr he hb hv hs => F.run A outer s H args us vs Q E hr he hb hv (h _ _ _ _ hs)⟩
theorem fun_g {x qual : Str} {st : Stmt} {N : List Str} {k : Nat} (F : Fun K x qual st f fd) (S : FnScope N ps (defScope st)) (len : ∀ vs H Q E, sp vs H Q E → vs.length = ps.length)
    (hbody : ∀ (cdv : Value) (A : Around) (outer : List Env) (s : Shared) (H : Hp) (vs : List V) (Q : VK) (E : XK), RoomG k (A.deeper (envOfC qual (defScope st) s.heap.objs.size f cdv)) → sp vs H Q E →
      ∃ t, PSs (cxOf CX P w K mg base N qual (defScope st) f cdv A outer s H E) (defBody st) t ∧ t { nx := fun _ H' => Q .non H', rt := Q } (start N vs) H) : FnG P w K mg base CX (k + 1) f fd ps sp := by
  obtain ⟨oc, od, kV, doc, pm, an, cdv, ct, osl, rfl, lk, hcd⟩ := F.ex
  refine ⟨len, fun A outer s H args us vs Q E hr e0 hb r hsp => ?_⟩
  have hl := len _ _ _ _ hsp
  have hK : K.In s.heap := e0.mod.kin.keeps fun b o e => (e0.bs b o e).1
  have hL : s.heap.NoLimit := e0.mod.nolimit.keeps fun b o e => (e0.bs b o e).1
  refine codeAny_call_function hr.r.depth (hK _ _ lk) rfl S.co S.gen rfl (PySem.W.codeRec_of hK hcd) (hb _ _ _ _ (wpAny_newFunctionEnv_cells S.kind (fun y hy => ?_) fun env he s1 x => ?_))
  · cases y with
    | mk n v =>
      cases S.par n (List.of_mem_zip hy).1 with
      | inl q => exact .inl q
      | inr q => exact .inr ⟨q, PySem.W.cellsFrom_some _ _ _ (.inl q)⟩
  · subst he
    obtain ⟨t, ht, hq⟩ := hbody cdv A outer s H vs Q E (hr.deeper _) hsp
    have I0 := inv_start (CX := CX) (P := P) (w := w) (K := K) (mg := mg) (base := base) (cd := cdv) (E := E) S hr.r.hd e0 hl r x
    refine ⟨hL.keeps x.toInCall.keep, codeAny_func (wpAny_mono (ht.run [] s1 (start N vs) H _ I0 hq) (fun fl s' z => ?_) fun _ _ z => z)⟩
    cases fl with
    | ret u => obtain ⟨v, σ', H', J, rv, q⟩ := z; exact ⟨v, H', J.os, J.bare, J.base, J.hok, rv, q⟩
    | next => obtain ⟨σ', H', J, q⟩ := z; exact ⟨V.non, H', J.os, J.bare, J.base, J.hok, rfl, q⟩
    | brk => obtain ⟨_, _, _, q⟩ := z; exact q.elim
    | cont => obtain ⟨_, _, _, q⟩ := z; exact q.elim
theorem fun_g0 {x qual : Str} {st : Stmt} {N : List Str} {k : Nat} (F : Fun K x qual st f fd) (S : FnScope N ps (defScope st)) (len : ∀ vs H Q E, sp vs H Q E → vs.length = ps.length)
    (hbody : ∀ (cdv : Value) (A : Around) (outer : List Env) (s : Shared) (H : Hp) (vs : List V) (Q : VK) (E : XK), RoomG k (A.deeper (envOfC qual (defScope st) s.heap.objs.size f cdv)) → sp vs H Q E →
      ∃ t, PSs (cxOf CX0 P w K mg base N qual (defScope st) f cdv A outer s H E).nox (defBody st) t ∧ t { nx := fun _ H' => Q .non H', rt := Q } (start N vs) H) : FnG P w K mg base CX0 (k + 1) f fd ps sp :=
  fun_g F S len fun cdv A outer s H vs Q E hr hsp => let ⟨t, h, q⟩ := hbody cdv A outer s H vs Q E hr hsp; ⟨t, h.nox, q⟩
end
end DM
namespace DM
open PySem L2
open PyProof.Rows (b2i)
section
variable {P : Program} {w : World} {K : PySem.W.Frag} {mg : Str → Option Value} {base : Heap}
theorem law_okG {st st0 : Stmt} {rest : List Stmt} {f : Addr} {fd : FuncData} {N : List Str} {k : Nat} (F : Fun K "law" "law" st f fd) (S : FnScope N ["_law_script"] (defScope st)) (hN : 2 ≤ N.length) (hbd : defBody st = st0 :: rest)
    (body : ∀ (cdv : Value) (A : Around) (outer : List Env) (s : Shared) (H : Hp) (E : XK), RoomG k (A.deeper (PyProof.Rows.envOfC "law" (defScope st) s.heap.objs.size f cdv)) →
      ∃ t, PS (cxOf CX0 P w K mg base N "law" (defScope st) f cdv A outer s H E).nox st0 (tAsg (tCall (spDeckH K) [] E0 (tCons (tVar 0) tNil)) (gName 1)) ∧
        JB (cxOf CX0 P w K mg base N "law" (defScope st) f cdv A outer s H E).nox (fun _ _ _ _ => False) rest t ∧
        ∀ (M : Mm) (d c : Addr), Deck M d c (2 ^ 59) → t { nx := fun _ _ => False, rt := fun v _ => v = .bl true } (none :: some (.ref d) :: List.replicate (N.length - 2) none) M) :
    FnG P w K mg base CX0 (k + 1) f fd ["_law_script"] (spLawH K) := by
  refine fun_g0 F S (fun vs H Q E h => ?_) fun cdv A outer s H vs Q E hr h => ?_
  · obtain ⟨a, ns, rfl, _⟩ := h
    rfl
  · obtain ⟨a, ns, rfl, hS, hlen, kk⟩ := h
    obtain ⟨t, h1, ⟨t0, p, g⟩, hb⟩ := body cdv A outer s H E hr
    rw [hbd]
    refine ⟨_, pss_cons h1 p, ?_⟩
    obtain ⟨x1, x2, N', rfl⟩ : ∃ x1 x2 N', N = x1 :: x2 :: N' := by
      match N, hN with
      | x1 :: x2 :: N', _ => exact ⟨x1, x2, N', rfl⟩
    refine ⟨.ref a, rfl, a, ns, rfl, hS, hlen, fun d c H' Sd hc hd hdc ok e1 e2 hk => ?_⟩
    let M : Mm := mup (mup (fun _ => none) d (.dic (deckD c Sd))) c (.lst (Sd.cs.map D.int))
    have hM : MR K M ⟨H', fun _ => False⟩ := by
      refine ⟨fun b o e => ?_, fun _ f => f.elim, fun _ f => f.elim⟩
      by_cases hbc : b = c
      · subst hbc
        have : o = .lst (Sd.cs.map D.int) := by
          have e' : M b = some (.lst (Sd.cs.map D.int)) := mup_same
          rw [e'] at e
          exact (Option.some.inj e).symm
        subst this
        exact ⟨_, e1, vrs_ints _⟩
      · by_cases hbd : b = d
        · subst hbd
          have : o = .dic (deckD c Sd) := by
            have e' : M b = some (.dic (deckD c Sd)) := by show mup _ c _ b = _; rw [mup_ne hbc, mup_same]
            rw [e'] at e
            exact (Option.some.inj e).symm
          subst this
          exact ⟨_, e2, .cons (.ref c) (.cons (.int _) (.cons (.int _) .nil))⟩
        · have e' : M b = none := by show mup _ c _ b = _; rw [mup_ne hbc, mup_ne hbd]
          rw [e'] at e
          cases e
    have hD : Deck M d c (2 ^ 59) := ⟨hdc, Sd, ok, by show mup _ c _ d = _; rw [mup_ne hdc, mup_same], mup_same⟩
    refine g M ⟨H', fun _ => False⟩ _ _ ⟨?_, ?_, ?_, ?_, ?_⟩ _ _ ⟨H', fun _ => False⟩ M GG.refl ?_ hM (hb M d c hD)
    · intro _ _ _ _ _ _ _ q
      exact q.elim
    · rintro v d' H2 M2 _ r2 _ rfl
      cases r2
      exact kk H2.h
    · intro _ _ _ _ _ _ _ q
      exact q.elim
    · intro _ _ _ _ _ _ _ q
      exact q.elim
    · intro _ _ _ _ _ _ _ _ _ _ _ _ q
      exact q.elim
    · refine ⟨by simp [L2.start], fun i e h => ?_⟩
      match i with
      | 0 => simp at h
      | 1 =>
        simp at h
        subst h
        exact ⟨.ref d, by simp [L2.start, List.replicate_succ], .ref d⟩
      | i + 2 =>
        simp only [List.getElem?_cons_succ] at h
        rw [List.getElem?_replicate] at h
        split at h <;> cases h
end
open PySem.Spec PyProof.Rows
theorem callerG {k : Nat} (h : Room k callerA) : RoomG k callerA := ⟨h, rfl⟩
theorem law_callG {P : Program} {w : World} {K : PySem.W.Frag} {mg mb : Str → Option Value} {k : Nat} {fa a : Addr} {fd : FuncData} {x : Str} {s₁ : Shared} {vs : List Value} {ns : List Int}
    (KX : K.In s₁.heap) (hns : s₁.heap.Ns mainGlobals mg) (hb : s₁.heap.Ns builtinsNs mb) (hbb : ∀ x : Str, x ≠ "__name__" → mb x = bootBuiltins x) (hlim : s₁.heap.NoLimit) (hg : s₁.gens = #[])
    (ha : s₁.heap.get? a = some { cls := .type "list", data := .seq vs.toArray }) (hi : IntsAre vs ns) (hl : ns.length ≤ 63) (hr : Room k callerA)
    (F : ∀ base : Heap, K.In base → base.Ns mainGlobals mg → FnG P w K mg base CX0 k fa fd [x] (spLawH K)) (hbind : ∀ (s : Shared) (u : Value), BindsTo s fd ⟨[u], []⟩ [(x, u)]) :
    codeAny (model P w) callerA (.call (.ref fa) ⟨[.ref a], []⟩) (fun r s' => r = .ok (.ret (.bool true)) ∧ OldK s₁.heap s'.heap ∧ s'.os = s₁.os ∧ AllBare s'.gens) s₁ := by
  have rv : Vals (ns.map V.int) vs := vals_ints hi
  have fit : ns.length ≤ sizeLine := Nat.le_trans hl (by decide)
  -- what is known of the heap before the call: the list, unless it is an object of the module
  obtain ⟨H, hO, hS, hok, only⟩ : ∃ H : Hp, (∀ b, H b = none ∨ H b = some (.frz { cls := .type "list", data := .seq vs.toArray } (.lst (ns.map V.int)))) ∧ SqL K H a (ns.map V.int) ∧ HOk P w H s₁.heap ∧ ∀ b, H b ≠ none → b = a ∧ K.lookup a = none := by
    cases hk : K.lookup a with
    | some o =>
      have e := KX a o hk
      rw [ha] at e
      cases e
      exact ⟨fun _ => none, fun _ => .inl rfl, .inr ⟨_, vs.toArray, _, hk, rfl, rfl, rfl, by rw [List.size_toArray, hi.length]; exact fit, by simpa using rv⟩, fun b u z => by { have z' : (none : Option HO) = some u := z; cases z' }, fun b z => absurd rfl z⟩
    | none =>
      refine ⟨upd (fun _ => none) a (.frz { cls := .type "list", data := .seq vs.toArray } (.lst (ns.map V.int))), fun b => ?_, .inl (.inr ⟨_, upd_same⟩), fun b u z => ?_, fun b z => ?_⟩
      · by_cases e : b = a
        · subst e; exact .inr upd_same
        · exact .inl (upd_ne e)
      · by_cases e : b = a
        · subst e
          rw [upd_same] at z
          cases z
          exact ⟨ha, by rw [List.length_map]; exact fit, vs, _, rv, ha⟩
        · rw [upd_ne e] at z; cases z
      · by_cases e : b = a
        · exact ⟨e, rfl⟩
        · rw [upd_ne e] at z; exact absurd rfl z
  have free : ∀ {b : Addr} {o : Obj}, s₁.heap.get? b = some o → (b = a → (∃ xs c, o.data = .seq xs c) → False) → H b = none := fun {b o} e n => by
    cases q : H b with
    | none => rfl
    | some u =>
      obtain ⟨rfl, _⟩ := only b (by rw [q]; simp)
      rw [ha] at e; cases e
      exact (n rfl ⟨_, _, rfl⟩).elim
  have hid : ∀ {d : Addr} {m : Str → Option Value}, s₁.heap.Ns d m → (hidT s₁.heap H).Ns d m := fun {d m} ⟨o, es, ep, e, dd, r⟩ =>
    ⟨o, es, ep, hidT_get e (free e fun _ ⟨xs, c, z⟩ => by rw [dd] at z; cases z), dd, r⟩
  have kin : K.In (hidT s₁.heap H) := fun b o e => hidT_get (KX b o e) (by
    cases q : H b with
    | none => rfl
    | some u =>
      obtain ⟨rfl, n⟩ := only b (by rw [q]; simp)
      rw [n] at e; cases e)
  have e0 : Env0 P w K mg (hidT s₁.heap H) callerA [] s₁ H := ⟨rfl, ⟨kin, hid hns, ⟨mb, hid hb, hbb⟩, let ⟨mc, h1, h2⟩ := hlim; ⟨mc, hid h1, h2⟩⟩, fun _ _ e => of_hidT e, Nat.le_of_eq (hidT_size _ _), trivial, fun _ z => (by cases z), hok, .of_eq hg⟩
  refine codeAny_mono ((F _ kin (hid hns)).run callerA [] s₁ H ⟨[.ref a], []⟩ [.ref a] [.ref a] (fun v _ => v = .bl true) (fun _ _ _ => False) (callerG hr) e0 (hbind s₁ (.ref a)) (.cons rfl .nil) ⟨a, ns, rfl, hS, hl, fun _ => rfl⟩) fun r s' h => ?_
  match r, h with
  | .ok (.ret u), ⟨v, H', os, bare, un, hok', r', q⟩ =>
    obtain rfl : v = .bl true := q
    obtain rfl : u = Value.bool true := r'
    refine ⟨rfl, OldK.of_keep fun b o e => ?_, os, bare⟩
    cases hO b with
    | inl z => exact un.keep b o e z (by intro z; cases z) (by simp)
    | inr z =>
      obtain ⟨e1, _⟩ := hok b _ z
      obtain ⟨e2, _⟩ := hok' b _ (un.frzs b _ _ z)
      rw [e] at e1; cases e1
      exact e2
theorem walk_ofG {l : PySem.W.OpenLaw} {k : Nat} {q : Program} {loose : List Str} {XP : (Str → Option Value) → Heap → Prop} {YP : World → Heap → Prop} {d : DefRec} {K : Params → PySem.W.Frag} {x : Str}
    (hn : l.most = some 63) (hdf : d.params.defaults = []) (hr : Room k callerA) (hY : ∀ (w : World) (h : Heap), YP w h → (K w.params).In h)
    (F : ∀ (w : World) (mg : Str → Option Value) (fa : Addr) (h : Heap), (K w.params).In h → h.Ns mainGlobals mg → mg d.name = some (.ref fa) →
      ∃ fd : FuncData, (∀ (s : Shared) (u : Value), BindsTo s fd ⟨[u], []⟩ [(x, u)]) ∧ ∀ base : Heap, (K w.params).In base → base.Ns mainGlobals mg → FnG l.prog w (K w.params) mg base CX0 k fa fd [x] (spLawH (K w.params))) :
    PySem.W.WalkO q loose XP YP l.row.toRowW d [] (fun f vs => PySem.call f vs) :=
  Att.attach_call hn hdf fun w s₀ s₁ mg mb fa o pm cd doc a vs ns G Y ho hd hcd hmg hobj hints hlen hg => by
    obtain ⟨fd, hb, hF⟩ := F w mg fa _ (hY w _ Y) G.T.g hmg
    exact law_callG (hY w _ Y) G.T.g G.T.b G.T.builtins G.T.nolimit hg hobj hints hlen hr hF hb
end DM
namespace DM
open PySem L2
open PyProof.Rows (b2i)
abbrev Ed := Str × Str × Str
def edD (e : Ed) : D := .tup [.str e.1, .str e.2.1, .str e.2.2]
theorem pu_eds : ∀ {T : List Ed}, pureDs (T.map edD) = true
  | [] => rfl
  | e :: T => by
    have := pu_eds (T := T)
    simp [pureDs, pureD, edD, this]
theorem dep_eds : ∀ {T : List Ed}, depDs (T.map edD) ≤ 2
  | [] => by simp [depDs]
  | e :: T => by
    have := dep_eds (T := T)
    simp [depDs, depD, edD, this]
end DM
namespace DM
open PySem L2
open PyProof.Rows (b2i)
section
variable {M M0 M' : Mm} {Q : DQ} {a d c : Addr} {i : Int} {r r0 : Nat} {L : List (Addr × MO)}
theorem ix_L3 {x0 x1 x2 x3 : D} {xs : List D} : ixR (.lst (x0 :: x1 :: x2 :: x3 :: xs)) (.int 3) M Q = Q x3 M := by
  have e : atI (x0 :: x1 :: x2 :: x3 :: xs) 3 = some x3 := atI_nat (j := 3) rfl
  unfold ixR
  simp only [e]
theorem ix_L4 {x0 x1 x2 x3 x4 : D} {xs : List D} : ixR (.lst (x0 :: x1 :: x2 :: x3 :: x4 :: xs)) (.int 4) M Q = Q x4 M := by
  have e : atI (x0 :: x1 :: x2 :: x3 :: x4 :: xs) 4 = some x4 := atI_nat (j := 4) rfl
  unfold ixR
  simp only [e]
theorem ix_L5 {x0 x1 x2 x3 x4 x5 : D} {xs : List D} : ixR (.lst (x0 :: x1 :: x2 :: x3 :: x4 :: x5 :: xs)) (.int 5) M Q = Q x5 M := by
  have e : atI (x0 :: x1 :: x2 :: x3 :: x4 :: x5 :: xs) 5 = some x5 := atI_nat (j := 5) rfl
  unfold ixR
  simp only [e]
theorem ix_t5 {x0 x1 x2 x3 x4 x5 : D} {xs : List D} : ixR (.tup (x0 :: x1 :: x2 :: x3 :: x4 :: x5 :: xs)) (.int 5) M Q = Q x5 M := by
  have e : atI (x0 :: x1 :: x2 :: x3 :: x4 :: x5 :: xs) 5 = some x5 := atI_nat (j := 5) rfl
  unfold ixR
  simp only [e]
theorem ix_L6 {x0 x1 x2 x3 x4 x5 x6 : D} {xs : List D} : ixR (.lst (x0 :: x1 :: x2 :: x3 :: x4 :: x5 :: x6 :: xs)) (.int 6) M Q = Q x6 M := by
  have e : atI (x0 :: x1 :: x2 :: x3 :: x4 :: x5 :: x6 :: xs) 6 = some x6 := atI_nat (j := 6) rfl
  unfold ixR
  simp only [e]
theorem ix_t6 {x0 x1 x2 x3 x4 x5 x6 : D} {xs : List D} : ixR (.tup (x0 :: x1 :: x2 :: x3 :: x4 :: x5 :: x6 :: xs)) (.int 6) M Q = Q x6 M := by
  have e : atI (x0 :: x1 :: x2 :: x3 :: x4 :: x5 :: x6 :: xs) 6 = some x6 := atI_nat (j := 6) rfl
  unfold ixR
  simp only [e]
theorem ix_L7 {x0 x1 x2 x3 x4 x5 x6 x7 : D} {xs : List D} : ixR (.lst (x0 :: x1 :: x2 :: x3 :: x4 :: x5 :: x6 :: x7 :: xs)) (.int 7) M Q = Q x7 M := by
  have e : atI (x0 :: x1 :: x2 :: x3 :: x4 :: x5 :: x6 :: x7 :: xs) 7 = some x7 := atI_nat (j := 7) rfl
  unfold ixR
  simp only [e]
theorem ix_t7 {x0 x1 x2 x3 x4 x5 x6 x7 : D} {xs : List D} : ixR (.tup (x0 :: x1 :: x2 :: x3 :: x4 :: x5 :: x6 :: x7 :: xs)) (.int 7) M Q = Q x7 M := by
  have e : atI (x0 :: x1 :: x2 :: x3 :: x4 :: x5 :: x6 :: x7 :: xs) 7 = some x7 := atI_nat (j := 7) rfl
  unfold ixR
  simp only [e]
theorem ix_L8 {x0 x1 x2 x3 x4 x5 x6 x7 x8 : D} {xs : List D} : ixR (.lst (x0 :: x1 :: x2 :: x3 :: x4 :: x5 :: x6 :: x7 :: x8 :: xs)) (.int 8) M Q = Q x8 M := by
  have e : atI (x0 :: x1 :: x2 :: x3 :: x4 :: x5 :: x6 :: x7 :: x8 :: xs) 8 = some x8 := atI_nat (j := 8) rfl
  unfold ixR
  simp only [e]
theorem ix_t8 {x0 x1 x2 x3 x4 x5 x6 x7 x8 : D} {xs : List D} : ixR (.tup (x0 :: x1 :: x2 :: x3 :: x4 :: x5 :: x6 :: x7 :: x8 :: xs)) (.int 8) M Q = Q x8 M := by
  have e : atI (x0 :: x1 :: x2 :: x3 :: x4 :: x5 :: x6 :: x7 :: x8 :: xs) 8 = some x8 := atI_nat (j := 8) rfl
  unfold ixR
  simp only [e]
theorem ix_L9 {x0 x1 x2 x3 x4 x5 x6 x7 x8 x9 : D} {xs : List D} : ixR (.lst (x0 :: x1 :: x2 :: x3 :: x4 :: x5 :: x6 :: x7 :: x8 :: x9 :: xs)) (.int 9) M Q = Q x9 M := by
  have e : atI (x0 :: x1 :: x2 :: x3 :: x4 :: x5 :: x6 :: x7 :: x8 :: x9 :: xs) 9 = some x9 := atI_nat (j := 9) rfl
  unfold ixR
  simp only [e]
theorem ix_t9 {x0 x1 x2 x3 x4 x5 x6 x7 x8 x9 : D} {xs : List D} : ixR (.tup (x0 :: x1 :: x2 :: x3 :: x4 :: x5 :: x6 :: x7 :: x8 :: x9 :: xs)) (.int 9) M Q = Q x9 M := by
  have e : atI (x0 :: x1 :: x2 :: x3 :: x4 :: x5 :: x6 :: x7 :: x8 :: x9 :: xs) 9 = some x9 := atI_nat (j := 9) rfl
  unfold ixR
  simp only [e]
theorem cutL_from3 {α : Type} (xs : List α) : cutL xs (some 3) none = xs.drop 3 := cutL_from xs 3
theorem cutL_from4 {α : Type} (xs : List α) : cutL xs (some 4) none = xs.drop 4 := cutL_from xs 4
theorem cutL_from5 {α : Type} (xs : List α) : cutL xs (some 5) none = xs.drop 5 := cutL_from xs 5
theorem cutL_from6 {α : Type} (xs : List α) : cutL xs (some 6) none = xs.drop 6 := cutL_from xs 6
theorem cutL_from8 {α : Type} (xs : List α) : cutL xs (some 8) none = xs.drop 8 := cutL_from xs 8
theorem cutL_to0 {α : Type} (xs : List α) : cutL xs none (some 0) = [] := cutL_to xs 0
theorem cutL_to4 {α : Type} (xs : List α) : cutL xs none (some 4) = xs.take 4 := cutL_to xs 4
theorem cutL_to5 {α : Type} (xs : List α) : cutL xs none (some 5) = xs.take 5 := cutL_to xs 5
theorem cutL_to6 {α : Type} (xs : List α) : cutL xs none (some 6) = xs.take 6 := cutL_to xs 6
theorem cutL_to8 {α : Type} (xs : List α) : cutL xs none (some 8) = xs.take 8 := cutL_to xs 8
theorem sortOk_ed {T : List Ed} : SortOk (T.map edD) := by
  have key : ∀ x ∈ (T.map edD).map toPy, ∃ e : Ed, x = .tuple [.str e.1, .str e.2.1, .str e.2.2] := by
    intro x hx
    rw [List.map_map] at hx
    obtain ⟨e, _, rfl⟩ := List.mem_map.mp hx
    exact ⟨e, rfl⟩
  refine ⟨pu_eds, Nat.le_trans dep_eds (by decide), fun x hx y hy => ?_, .inl fun x hx => ?_⟩
  · obtain ⟨e, rfl⟩ := key x hx
    obtain ⟨f, rfl⟩ := key y hy
    rfl
  · obtain ⟨e, rfl⟩ := key x hx
    exact ⟨_, _, rfl⟩
end
end DM
namespace DM
open PySem L2
open PyProof.Rows (b2i)
structure Sm where
  p : Str
  q : Str
  r : Str
  a : Str
  b : Str
  c : Str
  prog : List Rl
  a0 : Int
  a1 : Int
  a2 : Int
  a3 : Int
  a4 : Int
  a5 : Int
  T : List Ed
instance : Inhabited Rl := ⟨⟨"", "", "", []⟩⟩
namespace Sm
def lines (S : Sm) : List D := [.tup [.tup [.str S.q, .str S.b, .str S.q], .tup [.str "rule", .int S.a1, .tup []]], .tup [.tup [.str S.q, .str S.a, .str S.r], .tup [.str "rule", .int S.a2, .tup []]],
  .tup [.tup [.str S.r, .str S.c, .str "1"], .tup [.str "told"]], .tup [.tup [.str S.p, .str S.a, .str S.r], .tup [.str "rule", .int S.a0, .tup [.int 0, .int 1]]],
  .tup [.tup [.str S.q, .str S.b, .str "1"], .tup [.str "rule", .int S.a4, .tup [.int 2]]]]
def names (S : Sm) : List D := [.str S.p, .str S.q, .str S.r, .str S.a, .str S.b, .str S.c]
def ats (S : Sm) : List D := [.int S.a0, .int S.a1, .int S.a2, .int S.a3, .int S.a4, .int S.a5]
def all (S : Sm) : D := .tup [progD S.prog, .tup [.tup (S.T.map edD), .tup [.str "1", .str S.r]], .tup S.names, .lst S.ats, .lst S.lines]
end Sm
end DM
namespace DM
open PySem L2
theorem mem_pure {xs : List D} (h : pureDs xs = true) {x : D} (hx : x ∈ xs) : pureD x = true := by
  obtain ⟨j, hj, rfl⟩ := List.getElem_of_mem hx
  exact pureDs_get h (List.getElem?_eq_getElem hj)
theorem mem_dep {n : Nat} : ∀ {xs : List D}, depDs xs ≤ n → ∀ {x : D}, x ∈ xs → depD x ≤ n
  | y :: ys, h, x, hx => by
    simp only [depDs] at h
    rcases List.mem_cons.mp hx with rfl | hx
    · omega
    · exact mem_dep (by omega) hx
theorem all_pure {xs : List D} (h : ∀ x ∈ xs, pureD x = true) : pureDs xs = true := by
  induction xs with
  | nil => rfl
  | cons x xs ih => simp only [pureDs, h x (by simp), ih fun y hy => h y (by simp [hy]), Bool.and_self]
theorem all_dep {n : Nat} {xs : List D} (hn : 1 ≤ n) (h : ∀ x ∈ xs, depD x ≤ n) : depDs xs ≤ n := by
  induction xs with
  | nil => simpa [depDs] using hn
  | cons x xs ih =>
    have h1 := h x (by simp)
    have h2 := ih fun y hy => h y (by simp [hy])
    simp only [depDs]; omega
end DM
namespace DM
open PySem L2
theorem sortOk_str {E : List Str} : SortOk (E.map .str) := by
  have key : ∀ x ∈ (E.map D.str).map toPy, ∃ e : Str, x = .str e := by
    intro x hx
    rw [List.map_map] at hx
    obtain ⟨e, _, rfl⟩ := List.mem_map.mp hx
    exact ⟨e, rfl⟩
  refine ⟨pureDs_str E, Nat.le_trans (depDs_str E) (by decide), fun x hx y hy => ?_, .inr fun x hx => ?_⟩
  · obtain ⟨e, rfl⟩ := key x hx
    obtain ⟨f, rfl⟩ := key y hy
    rfl
  · obtain ⟨e, rfl⟩ := key x hx
    exact ⟨by simp, by simp⟩
end DM
namespace DM
open PySem L2
open PyProof.Rows (b2i)
section
variable {prog : Program} {w : World} {A : Around} {E : Value → Shared → Prop} {s : Shared} {T : String} {r d : Addr} {n : Nat} {P : Nat → Value → Prop} {OK : Heap → Prop}
open PySem PySem.Calls PyProof.Rows PySem.W in
theorem collect_src {Q : List Value → Shared → Prop} (K : KdlSrc prog w T r d n P OK) (hh : A.handled = none) (hok : OK s.heap) (hn : n ≤ sizeLine)
    (hQ : ∀ h' tk (acc : Array Value), (∀ b o, s.heap.get? b = some o → h'.get? b = some o) → s.heap.objs.size ≤ h'.objs.size → ItemsOf P acc n → Q acc.toList { s with heap := h', toks := tk }) :
    wpAny (model prog w) A (collect (.ref r)) Q E s := by
  have hlt := K.there _ hok
  unfold collect
  refine wpAny_bind (wpAny_runValue (codeAny_builtin F.entry_proto_collect ?_))
  rw [Around.under_plainId F.plain_proto_collect _]
  show wpAny _ A.in1 (newList [] >>= fun l => again (.builtin "list.__iadd__" ⟨[l, .ref r], []⟩)) _ _ s
  refine wpAny_bind (wpAny_newObj_type ?_)
  refine wpAny_pure ⟨plainId_quiet F.plain_list_iadd _, codeAny_builtin F.entry_list_iadd ?_⟩
  rw [Around.under_plainId F.plain_list_iadd _]
  show wpAny _ A.in1 (Builtin.List.listExtendWith (.ref s.heap.objs.size) (.ref r) (.ref s.heap.objs.size)) _ _ _
  have hS : (s.heap.push { cls := .type "list", data := .seq ([] : List Value).toArray }).get? s.heap.objs.size = some { cls := .type "list", data := .seq ([] : List Value).toArray } := Heap.get?_push_size _ rfl
  refine kdl_extend (R := fun r s' => match r with
      | Except.ok (Flow.ret v) => wpAny (model prog w) A (match v with
        | .ref a => (do
          match (← load a).data with
          | .seq xs _ => pure xs.toList
          | _ => unsupported "internal:collect")
        | _ => unsupported "internal:collect") Q E s'
      | Except.ok _ => False
      | Except.error e => E e s') (s := { s with heap := s.heap.push { cls := .type "list", data := .seq ([] : List Value).toArray } }) K hh (K.keep _ _ hok fun b _ o e => Heap.get?_push_of_some _ e) s.heap.objs.size (Nat.ne_of_gt hlt.1) (Nat.ne_of_gt hlt.2) (.ref s.heap.objs.size) 0 hS (fun h' tk acc c' hk hS' hacc => ?_) hn
  show wpAny _ A (load s.heap.objs.size >>= _) _ _ _
  refine wpAny_bind (wpAny_load hS' ?_)
  exact wpAny_pure (hQ h' tk acc (fun b o e => hk b o (Nat.ne_of_lt (Heap.lt_size e)) (Heap.get?_push_of_some _ e)) (Nat.le_of_lt (Heap.lt_size hS')) hacc)
variable {β : Type} {vs : List Value} {bs : List β} {enc : β → PyData} {R : Value → β → Prop}
open PySem PySem.Calls PyProof.Rows PySem.W in
theorem sorted_src {l : Addr} {Q : Value → Shared → Prop} (e : EachIs R vs bs) (er : EachIs (fun v b => ∃ as, Reads s.heap v (enc b) as) vs bs) (hal : AllAlike (bs.map enc)) (hk : Sortable (bs.map enc)) (hL : bs.length ≤ sizeLine)
    (hu : ∀ b, b ∈ bs → A.units + 2 + (enc b).depth < cLine)
    (hc : ∀ (Q' : List Value → Shared → Prop) (E' : Value → Shared → Prop), (∀ h' tk, (∀ b o, s.heap.get? b = some o → h'.get? b = some o) → s.heap.objs.size ≤ h'.objs.size → Q' vs { s with heap := h', toks := tk }) → wpAny (model prog w) A.in1 (collect (.ref l)) Q' E' s)
    (h : ∀ h' tk out c a, (∀ b o, s.heap.get? b = some o → h'.get? b = some o) → s.heap.objs.size ≤ a → h'.get? a = some (seqObj "list" (List.toArray out) c) → out.length = bs.length → EachIs R out (bs.mergeSort (dataLe false enc)) → Q (.ref a) { s with heap := h', toks := tk }) :
    wpAny (model prog w) A (call (.builtin "sorted") [.ref l]) Q E s := by
  have hL' : vs.length ≤ sizeLine := by rw [e.length]; exact hL
  refine call_function_entry kind_sorted plain_sorted entry_sorted (args_sorted1 _) ?_
  unfold Builtin.«sorted»
  refine wpAny_bind (m := checkCount "sorted" 1 1 _) (wpAny_pure ?_)
  refine wpAny_bind (hc _ _ fun h1 tk k1 z1 => ?_)
  refine wpAny_bind (wpAny_newList ?_ hL')
  have ho : (h1.push (seqObj "list" vs.toArray 0)).get? h1.objs.size = some (seqObj "list" vs.toArray 0) := Heap.get?_push_size _ rfl
  have k2 : ∀ b o, s.heap.get? b = some o → (sortingHeap (h1.push (seqObj "list" vs.toArray 0)) h1.objs.size vs).get? b = some o := fun b o q =>
    sortingHeap_old (Nat.ne_of_lt (Nat.lt_of_lt_of_le (Heap.lt_size q) z1)) (Heap.get?_push_of_some _ (k1 b o q))
  have er' : EachIs (fun v b => ∃ as, Reads (sortingHeap (h1.push (seqObj "list" vs.toArray 0)) h1.objs.size vs) v (enc b) as) vs bs := er.mono fun _ _ ⟨as, r⟩ => ⟨as, PyProof.Rows.Reads.keeps k2 r⟩
  have S := SortsAt.data (prog := prog) (w := w) (A := A.in1.in1) (s := { s with heap := sortingHeap (h1.push (seqObj "list" vs.toArray 0)) h1.objs.size vs, toks := tk }) (each_map (R := fun v d => ∃ as, Reads (sortingHeap (h1.push (seqObj "list" vs.toArray 0)) h1.objs.size vs) v d as) enc er') hal hk (bound_map hu)
  show wpAny _ _ _ _ _ { s with heap := h1.push (seqObj "list" vs.toArray 0), toks := tk }
  refine wpAny_bind (wpAny_holding (wpAny_call_entry slot_list_sort ⟨_, ho, rfl⟩ entry_list_sort ?body (args_list_sort _)))
  case body =>
    show wpAny (model prog w) A.in1.in1 (Builtin.«list.sort» ⟨[.ref h1.objs.size], []⟩) _ _ _
    refine list_sort_vals (s := { s with heap := h1.push (seqObj "list" vs.toArray 0), toks := tk }) ho S hL' ⟨_, rfl, wpAny_pure ⟨_, rfl, ?_⟩⟩
    obtain ⟨c, hc⟩ := PyProof.Rows.sortedHeap_at (vs := vs) (out := (sortVals (dataKind (sortingHeap (h1.push (seqObj "list" vs.toArray 0)) h1.objs.size vs) (bs.map enc)) false vs vs).toArray) ho
    refine h _ tk _ c h1.objs.size (fun b o q => ?_) z1 hc (by rw [sortVals_length false rfl]; exact e.length) (sortVals_data false e er' hal)
    have q1 := Heap.get?_push_of_some (seqObj "list" vs.toArray 0) (k1 b o q)
    exact (PyProof.Rows.sortedHeap_old (Nat.ne_of_lt (Nat.lt_of_lt_of_le (Heap.lt_size q) z1)) (Heap.lt_size q1)).trans q1
end
def kD : Key → D
  | .inl i => .int i
  | .inr x => .str x
def tkD (k : List Key) : D := .tup (k.map kD)
def keysD : List D → Option (List Key)
  | [] => some []
  | .int i :: xs => (keysD xs).map (.inl i :: ·)
  | .str x :: xs => (keysD xs).map (.inr x :: ·)
  | _ :: _ => none
def keyT : D → Option (List Key)
  | .tup (x :: xs) => keysD (x :: xs)
  | _ => none
theorem keysD_eq : ∀ {xs : List D} {k : List Key}, keysD xs = some k → xs = k.map kD
  | [], k, h => by cases h; rfl
  | .int i :: xs, k, h => by
    simp only [keysD] at h
    obtain ⟨k', e, rfl⟩ := Option.map_eq_some_iff.mp h
    rw [keysD_eq e]; rfl
  | .str i :: xs, k, h => by
    simp only [keysD] at h
    obtain ⟨k', e, rfl⟩ := Option.map_eq_some_iff.mp h
    rw [keysD_eq e]; rfl
  | .non :: _, _, h => by cases h
  | .bl _ :: _, _, h => by cases h
  | .tup _ :: _, _, h => by cases h
  | .lst _ :: _, _, h => by cases h
  | .ref _ :: _, _, h => by cases h
  | .ty _ :: _, _, h => by cases h
  | .dic _ :: _, _, h => by cases h
  | .dit _ :: _, _, h => by cases h
theorem keysD_map : ∀ k : List Key, keysD (k.map kD) = some k
  | [] => rfl
  | .inl i :: k => by simp only [List.map_cons, kD, keysD, keysD_map k]; rfl
  | .inr i :: k => by simp only [List.map_cons, kD, keysD, keysD_map k]; rfl
theorem keyT_ne {x : D} {k : List Key} (h : keyT x = some k) : x = tkD k ∧ k ≠ [] := by
  cases x with
  | tup xs =>
    cases xs with
    | nil => cases h
    | cons a xs =>
      have e := keysD_eq (show keysD (a :: xs) = some k from h)
      exact ⟨by rw [tkD, e], by rintro rfl; cases e⟩
  | _ => cases h
theorem keyT_eq {x : D} {k : List Key} (h : keyT x = some k) : x = tkD k := (keyT_ne h).1
theorem pq_key : ∀ {k : List Key}, k ≠ [] → pq (k.map kD) = false
  | [], h => absurd rfl h
  | .inl _ :: _, _ => rfl
  | .inr _ :: _, _ => rfl
section
variable {K : PySem.W.Frag} {H : HF}
theorem vrs_keys : ∀ {k : List Key} {vs : List V}, VRs K H (k.map kD) vs → vs = k.map kV
  | [], _, r => by cases r; rfl
  | .inl i :: k, _, r => by
    cases r with
    | cons r1 r2 => cases r1; rw [vrs_keys r2]; rfl
  | .inr i :: k, _, r => by
    cases r with
    | cons r1 r2 => cases r1; rw [vrs_keys r2]; rfl
theorem keys_vrs : ∀ (k : List Key), VRs K H (k.map kD) (k.map kV)
  | [] => .nil
  | .inl i :: k => .cons (.int i) (keys_vrs k)
  | .inr i :: k => .cons (.str i) (keys_vrs k)
theorem key_v {x : D} {v : V} {k : List Key} (r : VR K H x v) (e : keyT x = some k) : ∃ b, v = .ref b ∧ H.h b = some (.tup (k.map kV)) := by
  obtain ⟨this, ne⟩ := keyT_ne e
  subst this
  obtain ⟨b, vs, rfl, h, q⟩ := VR.tup_t r (pq_key ne)
  rw [vrs_keys q] at h
  exact ⟨b, rfl, h⟩
theorem vr_key {b : Addr} {k : List Key} (ne : k ≠ []) (h : H.h b = some (.tup (k.map kV))) : VR K H (tkD k) (.ref b) := .tupF (pq_key ne) h (keys_vrs k)
end
def ditOf (M : Mm) (a : Addr) : Option (List (List Key × D)) := match M a with | some (.dit kvs) => some kvs | _ => none
theorem of_ditOf {M : Mm} {a : Addr} {kvs : List (List Key × D)} (e : ditOf M a = some kvs) : M a = some (.dit kvs) := by
  unfold ditOf at e
  split at e
  · rename_i h; cases e; exact h
  · cases e
theorem ditOf_some {M : Mm} {a : Addr} {kvs : List (List Key × D)} (e : M a = some (.dit kvs)) : ditOf M a = some kvs := by unfold ditOf; rw [e]
def rdT (M : Mm) : D → Option (List (List Key × D))
  | .dit kvs => some kvs
  | .ref a => ditOf M a
  | _ => none
@[simp] theorem rdT_dit {M : Mm} {xs : List (List Key × D)} : rdT M (.dit xs) = some xs := rfl
@[simp] theorem rdT_ref {M : Mm} {a : Addr} : rdT M (.ref a) = ditOf M a := rfl
theorem rdT_v {K : PySem.W.Frag} {M : Mm} {H : HF} {d : D} {v : V} {xs : List (List Key × D)} (m : MR K M H) (r : VR K H d v) (e : rdT M d = some xs) : ∃ a vs, v = .ref a ∧ H.h a = some (.dT vs) ∧ FR K H xs vs ∧ NEk xs := by
  cases d with
  | dit ys =>
    cases e
    obtain ⟨a, vs, rfl, h, _, q⟩ := r.dit_v
    exact ⟨a, vs, rfl, h, q⟩
  | ref a =>
    cases r.ref_v
    obtain ⟨vs, h1, r1⟩ := m.ob a _ (of_ditOf e)
    exact ⟨a, vs, rfl, h1, r1⟩
  | _ => cases e
end DM
namespace DM
open PySem L2
open PyProof.Rows (b2i)
def valT {κ δ : Type} [DecidableEq κ] (kvs : List (κ × δ)) (k : κ) : Option δ := (kvs.find? fun kv => decide (kv.1 = k)).map (·.2)
def putT {κ δ : Type} [DecidableEq κ] (kvs : List (κ × δ)) (k : κ) (d : δ) : List (κ × δ) :=
  if (kvs.any fun kv => decide (kv.1 = k)) = true then kvs.map (fun kv => if kv.1 = k then (kv.1, d) else kv) else kvs ++ [(k, d)]
theorem NEk.put {α : Type} {kvs : List (List Key × α)} {k : List Key} {d : α} (n : NEk kvs) (h : k ≠ []) : NEk (putT kvs k d) := by
  intro kv hm
  unfold putT at hm
  split at hm
  · obtain ⟨q, hq, rfl⟩ := List.mem_map.mp hm
    split
    · rename_i e; exact n q hq
    · exact n q hq
  · rcases List.mem_append.mp hm with hm | hm
    · exact n kv hm
    · rw [List.mem_singleton.mp hm]; exact h
section
variable {K : PySem.W.Frag} {H : HF} {κ : Type} [DecidableEq κ]
theorem FR.anyt : ∀ {ds : List (κ × D)} {vs : List (κ × V)} {k : κ}, FR K H ds vs → (ds.any fun kv => decide (kv.1 = k)) = vs.any fun kv => decide (kv.1 = k)
  | _, _, _, .nil => rfl
  | (k', d') :: ds, (_, v') :: vs, k, .cons r q => by rw [List.any_cons, List.any_cons, FR.anyt q]
theorem FR.snoct {k : κ} {d : D} {v : V} (r : VR K H d v) : ∀ {ds : List (κ × D)} {vs : List (κ × V)}, FR K H ds vs → FR K H (ds ++ [(k, d)]) (vs ++ [(k, v)])
  | _, _, .nil => .cons r .nil
  | _, _, .cons q t => .cons q (FR.snoct r t)
theorem FR.replt {k : κ} {d : D} {v : V} (r : VR K H d v) : ∀ {ds : List (κ × D)} {vs : List (κ × V)}, FR K H ds vs → FR K H (ds.map fun kv => if kv.1 = k then (kv.1, d) else kv) (vs.map fun kv => if kv.1 = k then (kv.1, v) else kv)
  | _, _, .nil => .nil
  | (k', d') :: ds, (_, v') :: vs, .cons q t => by
    rw [List.map_cons, List.map_cons]
    by_cases e : k' = k
    · simp only [e, if_true]
      exact .cons r (FR.replt r t)
    · simp only [e, if_false]
      exact .cons q (FR.replt r t)
theorem FR.putt {k : κ} {d : D} {v : V} (r : VR K H d v) {ds : List (κ × D)} {vs : List (κ × V)} (h : FR K H ds vs) : FR K H (putT ds k d) (putK vs k v) := by
  unfold putT putK
  rw [h.anyt]
  split
  · exact h.replt r
  · exact h.snoct r
theorem FR.len {κ : Type} : ∀ {ds : List (κ × D)} {vs : List (κ × V)}, FR K H ds vs → ds.length = vs.length
  | _, _, .nil => rfl
  | _, _, .cons _ q => by simp [FR.len q]
theorem FR.getV {κ : Type} : ∀ {ds : List (κ × D)} {vs : List (κ × V)} {i : Nat} {k : κ} {v : V}, FR K H ds vs → vs[i]? = some (k, v) → ∃ d, ds[i]? = some (k, d) ∧ VR K H d v
  | _, _, _, _, _, .nil, h => by simp at h
  | _, _, 0, _, _, .cons r _, h => by simp at h; obtain ⟨rfl, rfl⟩ := h; exact ⟨_, rfl, r⟩
  | _, _, i + 1, k, v, .cons _ t, h => by
    obtain ⟨d, h1, h2⟩ := FR.getV (i := i) (k := k) (v := v) t (by simpa using h)
    exact ⟨d, by simpa using h1, h2⟩
end
section
variable {X : Cx} {o i e : Expr} {to ti te : TDE} {pos pos' : Pos} {k : Nat} {a b : Expr} {ta tb : TDE}
def dputTS (te to ti : TDE) : TDS := fun D ds M => te ds M fun v M1 => to ds M1 fun x M2 => ti ds M2 fun y M3 => match x, keyT y with
  | .ref a, some k => (match ditOf M3 a with | some kvs => kvs.length < sizeLine ∧ D.nx ds (mup M3 a (.dit (putT kvs k v))) | none => False)
  | _, _ => False
theorem js_dputT {W : WX} (hr : Room k X.A) (ho : JE X o to) (hi : JE X i ti) (he : JE X e te) (hs : swapsWith e (some (.Subscript o i pos')) pos.line X.env = pure false := by rfl) : JS X W (.Assign [.Subscript o i pos'] e pos) (dputTS te to ti) := by
  obtain ⟨u, p, g⟩ := ho
  obtain ⟨u', p', g'⟩ := hi
  obtain ⟨ue, pe, ge⟩ := he
  refine ⟨_, ps_dput (hu_of hr) p p' pe hs, fun M0 H0 D0 D1 l ds σ H M gg s m q => ?_⟩
  refine ge ds σ H M _ _ s m q fun v H1 d M1 r1 m1 g1 q1 => ?_
  refine g ds σ H1 M1 _ _ (s.gg m g1) m1 q1 fun w H2 d2 M2 r2 m2 g2 q2 => ?_
  refine g' ds σ H2 M2 _ _ (s.gg m (g1.trans g2)) m2 q2 fun z H3 d3 M3 r3 m3 g3 q3 => ?_
  split at q3
  · rename_i a k e1
    cases r2.ref_v
    split at q3
    · rename_i kvs e2
      obtain ⟨hz, q3⟩ := q3
      obtain ⟨vs, h1, r4, n4⟩ := m3.ob a _ (of_ditOf e2)
      obtain ⟨b, rfl, hb⟩ := key_v r3 e1
      refine ⟨a, _, rfl, DPut.t h1 hb (by rw [← r4.len]; exact hz), ?_⟩
      have t := TX.put (u := .dT (putK vs k v)) m3 (of_ditOf e2)
      have r1' : VR X.K H3 d v := VR.mono ((g2.trans g3).tx m1) _ _ r1
      have gp : GG M3 H3 (mup M3 a (.dit (putT kvs k d))) (H3.up a (.dT (putK vs k v))) := GG.put (of_ditOf e2)
      exact l.nx σ ds _ _ ((((gg.trans g1).trans g2).trans g3).trans gp) ((s.gg m ((g1.trans g2).trans g3)).gg m3 gp)
        (m3.put (w := .dit (putT kvs k d)) (of_ditOf e2) ⟨_, upd_same, (r4.mono t).putt (VR.mono t _ _ r1'), n4.put (keyT_ne e1).2⟩) q3
    · exact q3.elim
  · exact q3.elim
def dDictT : TDE := fun _ M Q => ∀ p, M p = none → Q (.ref p) (mup M p (.dit []))
theorem je_dictT : JE X (.Dict [] [] pos) dDictT := je_pe pe_dnewT fun ds σ H M Q Q0 s m q k p hp => k _ (H.up p _) _ _ (.ref p) (m.new (w := .dit []) hp ⟨[], upd_same, .nil, fun _ h => nomatch h⟩) (GG.new hp) (q p (m.free hp))
end
theorem keys_std {K : PySem.W.Frag} {H : HF} : ∀ {kvs : List (List Key × V)} {bs : List Addr}, NEk kvs → IsKeys H.h kvs bs → VRs K H (kvs.map fun kv => tkD kv.1) (bs.map V.ref)
  | _, _, _, .nil => .nil
  | _, _, n, .cons h t => .cons (vr_key (n _ List.mem_cons_self) h) (keys_std (fun kv hm => n kv (List.mem_cons_of_mem _ hm)) t)
theorem FR.nek {K : PySem.W.Frag} {H : HF} : ∀ {ds : List (List Key × D)} {vs : List (List Key × V)}, FR K H ds vs → NEk ds → NEk vs
  | _, _, .nil, _ => fun _ h => nomatch h
  | (k, d) :: _, _, .cons _ t, n => fun kv hm => by
    rcases List.mem_cons.mp hm with rfl | hm
    · exact n (k, d) List.mem_cons_self
    · exact FR.nek t (fun kv h => n kv (List.mem_cons_of_mem _ h)) kv hm
theorem FR.keysEq {K : PySem.W.Frag} {H : HF} {κ : Type} : ∀ {ds : List (κ × D)} {vs : List (κ × V)}, FR K H ds vs → ds.map (·.1) = vs.map (·.1)
  | _, _, .nil => rfl
  | _, _, .cons _ t => by simp [FR.keysEq t]
def keysTD (kvs : List (List Key × D)) : List D := kvs.map fun kv => tkD kv.1
def rSortDT (K : PySem.W.Frag) : List V → Hp → VK → Prop := fun vs H0 Q0 => ∃ (H : HF) (a : Addr) (ws : List (List Key × V)) (xs : List D), H0 = H.h ∧ vs = [.ref a] ∧ H.h a = some (.dT ws) ∧ NEk ws ∧ xs = (ws.map fun kv => tkD kv.1) ∧ SortOk xs ∧
  ∀ (ys : List V) (p : Addr), H.h p = none → VRs K H (sortD xs) ys → Q0 (.ref p) (upd H.h p (.lst ys))
section
variable {X : Cx}
theorem call_sortDT (hc : X.calm = true) (hu : X.A.units + 150 < cLine) : CallR X (.builtin "sorted") (rSortDT X.K) := by
  intro pins s σ H0 vs us Q I r h
  obtain ⟨H, a, ws, xs, rfl, rfl, hd, hne, rfl, ⟨hp, hdp, hal, hso⟩, q⟩ := h
  rw [Vals.ref1 r]
  obtain ⟨z, hs, ks, pr, o, es, ep, ho, hx, hdt, he, hn⟩ := (show ObjOk X.prog X.w H.h s.heap a (.dT ws) from I.hok a _ hd)
  have l1 : es.size = ks.length := size_of_entries he
  have l2 : ws.length = ks.length := Paired.length pr
  have hk := isKeys_of pr
  have rk : VRs X.K H (ws.map fun kv => tkD kv.1) ((ks.map fun x => x.2.1).map V.ref) := keys_std hne hk
  have rv := vals_refs (ks.map fun x => x.2.1)
  have hL : (ws.map fun kv => tkD kv.1).length ≤ sizeLine := by rw [List.length_map]; exact z
  have dep : ∀ b ∈ (ws.map fun kv => tkD kv.1), X.A.units + 2 + (toPy b).depth < cLine := fun b hb => by
    have h1 := depth_py b
    obtain ⟨j, hj, rfl⟩ := List.getElem_of_mem hb
    have h2 := depDs_get (List.getElem?_eq_getElem hj)
    omega
  refine sorted_src (enc := toPy) (each_of rk rv) (each_reads I rk rv hp) hal hso hL dep (fun Q' E' hQ' => ?_) fun h' tk out c p k1 hp1 hp2 ho' eo => ?_
  · refine collect_src (kdl_raw hs hx hdt) (I.ok.hd hc) ho (by omega) fun h' tk acc kp sz it => ?_
    have ea : acc.toList = (ks.map fun x => x.2.1).map Value.ref := by
      rw [List.map_map]
      have hl : acc.toList.length = ks.length := by rw [Array.length_toList, it.1]; exact l1
      apply List.ext_getElem?
      intro j
      rw [List.getElem?_map]
      cases hj : acc.toList[j]? with
      | none =>
        have h1 := List.getElem?_eq_none_iff.mp hj
        rw [List.getElem?_eq_none (by omega)]
        all_goals rfl
      | some v =>
        obtain ⟨en, hen, hv⟩ := it.2 j v (by rw [← Array.getElem?_toList]; exact hj)
        have qe := entry_at he j
        rw [hen] at qe
        cases hb : ks[j]? with
        | none =>
          rw [hb] at qe
          exact nomatch (show some en = none from qe)
        | some b =>
          rw [hb] at qe
          have e2 : en = entryOfKey (tupleKind (mixKind X.prog X.w)) b := Option.some.inj qe
          rw [hv, e2]
          all_goals rfl
    rw [ea]
    exact hQ' h' tk kp sz
  · obtain ⟨ys, ry, vy⟩ := each_out eo
    have hlen : ys.length ≤ sizeLine := by rw [vy.length, ho']; exact hL
    have hfree := I.hok.fresh hp1
    refine ⟨.ref _, upd H.h p (.lst ys), I.laid (t' := tk) k1 hp1 ⟨hlen, out, c, vy, hp2⟩, rfl, q ys _ hfree ry⟩
end
def dSortedT (t : TDA) : TDL := fun ds M Q => t ds M fun xs M1 => match xs with
  | [x] => (match rdT M1 x with | some kvs => SortOk (keysTD kvs) ∧ Q (sortD (keysTD kvs)) M1 | none => False)
  | _ => False
section
variable {X : Cx} {e : Expr} {es : List Expr} {t : TDA} {p pos : Pos} {k : Nat}
theorem jl_sortedT (hc : X.calm = true) (hr : Room k X.A) (hm : X.mg "sorted" = none) (ha : JA X (e :: es) t) (hg : Gl X "sorted" := by rfl) (he : starEach (e :: es) X.env = (false, eval e X.env) :: starEach es X.env := by rfl) (hpl : (backTo pos (starEach es X.env)).any (·.1) = false := by rfl) :
    JL X (.Call (.Name "sorted" p) (e :: es) [] pos) (dSortedT t) := by
  obtain ⟨u, q, g⟩ := ha
  refine ⟨_, pe_callB (call_sortDT hc (hu150 hr)) hg hm PyProof.Rows.boot_sorted q (by decide) (by decide) he hpl, fun ds σ H M Q Q0 s m q k => ?_⟩
  refine g ds σ H M _ _ s m q fun vs H1 es M1 r1 m1 g1 q1 => ?_
  split at q1
  · split at q1
    · rename_i kvs e
      obtain ⟨v, rfl, r5⟩ := r1.one
      obtain ⟨a, us, rfl, h1, ra, na⟩ := rdT_v m1 r5 e
      have ek : keysTD kvs = us.map fun kv => tkD kv.1 := by
        have := ra.keysEq
        unfold keysTD
        rw [show (kvs.map fun kv => tkD kv.1) = (kvs.map (·.1)).map tkD by rw [List.map_map]; rfl, this, List.map_map]; rfl
      refine ⟨H1, a, us, keysTD kvs, rfl, rfl, h1, ra.nek na, ek, q1.1, fun zs l hl rz => ?_⟩
      exact k l (H1.up l _) _ zs M1 (g1.free hl) upd_same (VRs.mono (TX.new m1 hl) _ _ rz) (m1.free hl) (m1.freeF hl) (m1.newT hl) (g1.trans (GG.newT hl)) q1.2
    · exact q1.elim
  · exact q1.elim
end
section
variable {ds : DSt} {M : Mm} {xs : List D} {a : Addr} {kvs : List (List Key × D)} {k : List Key} {Q : DQ}
def sortedTI (xs : List D) (M1 : Mm) (Q : List D → Mm → Prop) : Prop := match xs with
  | [x] => (match rdT M1 x with | some kvs => SortOk (keysTD kvs) ∧ Q (sortD (keysTD kvs)) M1 | none => False)
  | _ => False
theorem dSortedT_e {t : TDA} {Q : List D → Mm → Prop} : dSortedT t ds M Q = t ds M fun xs M1 => sortedTI xs M1 Q := (rfl)
theorem dDictT_e : dDictT ds M Q = ∀ p, M p = none → Q (.ref p) (mup M p (.dit [])) := (rfl)
def dputTI (x y v : D) (M3 : Mm) (nx : Mm → Prop) : Prop := match x, keyT y with
  | .ref a, some k => (match ditOf M3 a with | some kvs => kvs.length < sizeLine ∧ nx (mup M3 a (.dit (putT kvs k v))) | none => False)
  | _, _ => False
theorem dputTS_e {te to ti : TDE} {D : DEnds} : dputTS te to ti D ds M = te ds M fun v M1 => to ds M1 fun x M2 => ti ds M2 fun y M3 => dputTI x y v M3 fun M4 => D.nx ds M4 := (rfl)
theorem keyT_2s {x y : Str} : keyT (.tup [.str x, .str y]) = some [.inr x, .inr y] := (rfl)
theorem keyT_3s {x y z : Str} : keyT (.tup [.str x, .str y, .str z]) = some [.inr x, .inr y, .inr z] := (rfl)
theorem dputTI_2s {x y : Str} {v : D} {nx : Mm → Prop} : dputTI (.ref a) (.tup [.str x, .str y]) v M nx = someI (ditOf M a) fun kvs => kvs.length < sizeLine ∧ nx (mup M a (.dit (putT kvs [.inr x, .inr y] v))) := by
  unfold dputTI someI
  simp only [keyT_2s]
  cases ditOf M a <;> rfl
theorem dputTI_3s {x y z : Str} {v : D} {nx : Mm → Prop} : dputTI (.ref a) (.tup [.str x, .str y, .str z]) v M nx = someI (ditOf M a) fun kvs => kvs.length < sizeLine ∧ nx (mup M a (.dit (putT kvs [.inr x, .inr y, .inr z] v))) := by
  unfold dputTI someI
  simp only [keyT_3s]
  cases ditOf M a <;> rfl
theorem sortedTI_r {Q : List D → Mm → Prop} : sortedTI [.ref a] M Q = someI (ditOf M a) fun kvs => SortOk (keysTD kvs) ∧ Q (sortD (keysTD kvs)) M := by
  unfold sortedTI someI
  simp only [rdT_ref]
  cases ditOf M a <;> rfl
end
end DM
namespace DM
open PySem L2
open PyProof.Rows (b2i)
section
variable {ok : Mm → Prop} {g : TDG} {tt : TDT} {te : TDE} {ds0 : DSt} {Q : List D → Mm → Prop} {d c p : Addr} {r r' n : Nat} {M0 M M' : Mm} {L : List (Addr × MO)} {o o' : MO}
theorem sa_dputT {a b c : TDE} {s : TDS} {D : DEnds} {ds : DSt} (h : ∀ Nx, KEq Nx (s D) → dputTS a b c { D with nx := Nx } ds M) : dSeq (dputTS a b c) s D ds M := h _ fun _ _ h => h
theorem Bx.dit1 {kvs : List (List Key × D)} (b : Bx d c r M0 ((p, .dit kvs) :: L) M) : ditOf M p = some kvs := ditOf_some b.at1
end
def edK (e : Ed) : List Key := [.inr e.1, .inr e.2.1, .inr e.2.2]
theorem edK_inj {e f : Ed} (h : edK e = edK f) : e = f := by
  obtain ⟨a, b, c⟩ := e
  obtain ⟨a', b', c'⟩ := f
  simp only [edK, List.cons.injEq, Sum.inr.injEq, and_true] at h
  obtain ⟨rfl, rfl, rfl⟩ := h
  rfl
def esD (es : List Ed) : List (List Key × D) := es.map fun e => (edK e, .bl true)
def insE (es : List Ed) (e : Ed) : List Ed := if e ∈ es then es else es ++ [e]
theorem insE_mem {es : List Ed} {e f : Ed} : f ∈ insE es e ↔ f ∈ es ∨ f = e := by
  unfold insE
  split
  · exact ⟨.inl, fun h => h.elim id fun h => h ▸ by assumption⟩
  · simp
theorem insE_nodup {es : List Ed} {e : Ed} (h : es.Nodup) : (insE es e).Nodup := by
  unfold insE
  split
  · exact h
  · rw [List.nodup_append]
    refine ⟨h, by simp, fun a ha b hb => ?_⟩
    rw [List.mem_singleton.mp hb]
    rintro rfl
    contradiction
theorem insE_len {es : List Ed} {e : Ed} : (insE es e).length ≤ es.length + 1 := by unfold insE; split <;> simp
theorem esD_any {es : List Ed} {e : Ed} : ((esD es).any fun kv => decide (kv.1 = edK e)) = decide (e ∈ es) := by
  unfold esD
  rw [List.any_map, Bool.eq_iff_iff, List.any_eq_true, decide_eq_true_eq]
  exact ⟨fun ⟨f, hf, h⟩ => edK_inj (of_decide_eq_true h) ▸ hf, fun h => ⟨e, h, decide_eq_true rfl⟩⟩
theorem put_es {es : List Ed} {e : Ed} : putT (esD es) (edK e) (.bl true) = esD (insE es e) := by
  unfold putT
  rw [esD_any]
  unfold insE
  by_cases h : e ∈ es
  · rw [if_pos (decide_eq_true h), if_pos h]
    unfold esD
    rw [List.map_map]
    apply List.map_congr_left
    intro f hf
    simp only [Function.comp]
    split <;> rfl
  · rw [if_neg (by simpa using h), if_neg h]
    simp [esD]
theorem keys_es {es : List Ed} : keysTD (esD es) = es.map edD := by
  unfold keysTD esD
  rw [List.map_map]; rfl
theorem esD_len {es : List Ed} : (esD es).length = es.length := by simp [esD]
end DM
namespace DM
open PySem L2
open PyProof.Rows (b2i)
def sortE (l : List Ed) : List Ed := l.mergeSort fun a b => leD (edD a) (edD b)
def sortS (l : List Str) : List Str := l.mergeSort fun a b => leD (.str a) (.str b)
theorem sortD_eds (l : List Ed) : sortD (l.map edD) = (sortE l).map edD := sortD_map edD l
theorem sortD_strs (l : List Str) : sortD (l.map D.str) = (sortS l).map D.str := sortD_map D.str l
theorem sortE_perm (l : List Ed) : (sortE l).Perm l := List.mergeSort_perm _ _
theorem sortS_perm (l : List Str) : (sortS l).Perm l := List.mergeSort_perm _ _
theorem sortE_len (l : List Ed) : (sortE l).length = l.length := (sortE_perm l).length_eq
theorem sortS_len (l : List Str) : (sortS l).length = l.length := (sortS_perm l).length_eq
theorem sortE_mem {l : List Ed} {e : Ed} : e ∈ sortE l ↔ e ∈ l := (sortE_perm l).mem_iff
theorem sortS_mem {l : List Str} {e : Str} : e ∈ sortS l ↔ e ∈ l := (sortS_perm l).mem_iff
theorem sIx_m1 (n d : Nat) : HT.sIx n d (some (-1)) = n - 1 := by
  show (if ((-1 : Int) < 0) then ((-1 : Int) + (n : Int)).toNat else min (-1 : Int).toNat n) = n - 1
  rw [if_pos (by omega)]; omega
theorem sIx_no (n d : Nat) : HT.sIx n d none = d := rfl
theorem cutL_toM1 {α : Type} (xs : List α) : cutL xs none (some (-1)) = xs.dropLast := by
  unfold cutL
  rw [sIx_m1, sIx_no, List.dropLast_eq_take, List.drop_zero, Nat.sub_zero]
theorem cutL_fromM1 {α : Type} (xs : List α) : cutL xs (some (-1)) none = xs.drop (xs.length - 1) := by
  unfold cutL
  rw [sIx_m1, sIx_no]
  exact List.take_of_length_le (by rw [List.length_drop]; omega)
theorem cutL_midN {α : Type} (xs : List α) (m n : Nat) : cutL xs (some (m : Int)) (some (n : Int)) = (xs.drop m).take (n - m) := cutL_mid xs m n
end DM
namespace DM
open PySem L2
open PyProof.Rows (b2i)
instance : Inhabited D := ⟨.non⟩
end DM
namespace DM
open PySem PySem.Spec PyProof.Rows L2
section
variable {P : Program} {w : World} {A : Around} {E : Value → Shared → Prop} {s : Shared}
def AddsTo (P : Program) (w : World) (u : Nat) (S : Addr) (n : Nat) (items : Array Value) (J : Nat → Heap → Prop) (h0 : Heap) : Prop :=
  ∀ (B : Around) (i : Nat) (v : Value) (t : Shared) (Q : Bool → Shared → Prop) (F : Value → Shared → Prop), B.units ≤ u → i < n → items[i]? = some v → J i t.heap → (∀ b o, h0.get? b = some o → t.heap.get? b = some o) →
    (∀ (b : Bool) (h' : Heap) (tk : Nat), Heap.SameBut S t.heap h' → t.toks ≤ tk → J (i + 1) h' → Q b { t with heap := h', toks := tk }) → wpAny (model P w) B (setAdd S v) Q F t
theorem set_loop {I : Addr} {fp wr : List Addr} {G : Array GenState → Array GenState → Prop} {n : Nat} {items : Array Value} {St : Nat → Shared → Prop} {R : Result → Shared → Prop} {J : Nat → Heap → Prop} {h0 : Heap} {S : Addr} {u : Nat} (hu : A.in1.units ≤ u)
    (W : WalksS P w A.in1 I fp wr G n (fun i v => items[i]? = some v) St) (nf : S ∉ fp) (new : ∀ b ∈ S :: wr, h0.get? b = none)
    (keep : ∀ (i : Nat) (h h' : Heap), J i h → (∀ o, h.get? S = some o → h'.get? S = some o) → (∀ b o, h0.get? b = some o → h'.get? b = some o) → J i h') (add : AddsTo P w u S n items J h0) :
    ∀ (k i : Nat) (t : Shared), n - i = k → i ≤ n → St i t → J i t.heap → (∀ b o, h0.get? b = some o → t.heap.get? b = some o) →
      (∀ t', Moved (S :: wr) G t t' → J n t'.heap → (∀ b o, h0.get? b = some o → t'.heap.get? b = some o) → R (.ok (.ret .none)) t') → codeAny (model P w) A (.builtin "set.update.loop" ⟨[.ref S, .ref I], []⟩) R t := by
  have sw : S ∉ wr := fun hm => nf (W.sub _ hm)
  have old : ∀ {t t' : Shared}, Moved wr G t t' → (∀ b o, h0.get? b = some o → t.heap.get? b = some o) → ∀ b o, h0.get? b = some o → t'.heap.get? b = some o := fun mv ok b o e =>
    mv.heap b o (fun hb => by have := new b (List.mem_cons_of_mem _ hb); rw [this] at e; cases e) (ok b o e)
  intro k
  induction k with
  | zero =>
    intro i t e1 e2 st j ok fin
    obtain rfl : i = n := by omega
    refine codeAny_builtin F.entry_set_update_loop ?_
    rw [Around.under_plainId F.plain_set_update_loop _]
    show wpAny _ A.in1 (pyNext (.ref I) >>= _) _ _ t
    refine wpAny_bind (W.done t _ _ st fun t' mv => ?_)
    show wpAny _ A.in1 (ret Value.none) _ _ t'
    exact wpAny_pure (fin t' (mv.mono fun b hb => List.mem_cons_of_mem _ hb) (keep _ _ _ j (fun o e => mv.heap S o sw e) (old mv ok)) (old mv ok))
  | succ k ih =>
    intro i t e1 e2 st j ok fin
    have lt : i < n := by omega
    refine codeAny_builtin F.entry_set_update_loop ?_
    rw [Around.under_plainId F.plain_set_update_loop _]
    show wpAny _ A.in1 (pyNext (.ref I) >>= _) _ _ t
    refine wpAny_bind (W.item i t _ _ lt st fun v t' hv st' mv => ?_)
    have j' := keep _ _ _ j (fun o e => mv.heap S o sw e) (old mv ok)
    show wpAny _ A.in1 (holding [v] (setAdd S v) >>= _) _ _ t'
    refine wpAny_bind (wpAny_holding (add A.in1 i v t' _ _ hu lt hv j' (old mv ok) fun b h' tk sb ht j2 => ?_))
    have ok2 : ∀ b o, h0.get? b = some o → h'.get? b = some o := fun b o e =>
      (sb.2 b (fun z => by have := new b (by simp [z]); rw [this] at e; cases e)).trans (old mv ok b o e)
    refine wpAny_pure ⟨plainId_quiet F.plain_set_update_loop _, ih (i + 1) _ (by omega) lt (W.frame _ t' _ _ st' ht fun b hb o e => ?_) j2 ok2 fun t'' mv2 j3 ok3 => ?_⟩
    · exact (sb.2 b (fun z => nf (z ▸ hb))).trans e
    · refine fin t'' (Moved.trans W.gtrans ((mv.mono fun b hb => List.mem_cons_of_mem _ hb).then_heap ht fun b o hb e => ?_) mv2) j3 ok3
      exact (sb.2 b (fun z => hb (by rw [z]; exact List.mem_cons_self))).trans e
def set0 (w : World) : Obj := { cls := .type "set", dict := none, data := .set #[] 0 (.fresh 0 0 (!w.params.followText "set-order")) }
set_option maxHeartbeats 4000000 in
theorem set_of_list {l : Addr} {items : Array Value} {J : Nat → Heap → Prop} {Q : Value → Shared → Prop} (hh : A.handled = none) (hl : s.heap.IsList l items)
    (keep : ∀ (i : Nat) (h h' : Heap), J i h → (∀ o, h.get? s.heap.objs.size = some o → h'.get? s.heap.objs.size = some o) → (∀ b o, s.heap.get? b = some o → h'.get? b = some o) → J i h')
    (j0 : ∀ h, h.get? s.heap.objs.size = some (set0 w) → J 0 h) (add : AddsTo P w (A.units + 3) s.heap.objs.size items.size items J s.heap)
    (fin : ∀ (h' : Heap) (tk : Nat), J items.size h' → (∀ b o, s.heap.get? b = some o → h'.get? b = some o) → Q (.ref s.heap.objs.size) { s with heap := h', toks := tk }) :
    wpAny (model P w) A (call (.type "set") [.ref l]) Q E s := by
  obtain ⟨c, tl, hmro⟩ := F.called_set.mro
  have q1 := F.called_set.made
  have q2 := F.called_set.sub
  refine wpAny_call (codeAny_of_tree ?_)
  show wpAny _ _ (callAny (.type "set") _) _ _ _
  refine wpAny_pure ⟨Code.quiet_builtin _ (by decide +kernel), codeAny_builtin F.entry_type_call ?_⟩
  rw [Around.under_plain (weight_type_call_type "set" [.ref l] []) rfl]
  have q3 := F.called_set.notType
  have q4 := F.called_set.canCreate
  have q5 := F.typeCall_set_1 (.ref l)
  repeat (any_goals (first | assumption | wp_step))
  refine codeAny_mono (code_set_led1 (.ref l) (E := E) (Q₁ := fun z t => z = .ref s.heap.objs.size ∧ t = { s with heap := s.heap.push (set0 w) }) ⟨rfl, rfl⟩) fun r t hr => ?_
  rcases r with e | fl
  · exact hr
  cases fl with
  | ret z =>
    obtain ⟨rfl, rfl⟩ := hr
    have at1 : (s.heap.push (set0 w)).get? s.heap.objs.size = some (set0 w) := Heap.get?_push_size _ rfl
    have ty1 : Shared.TypeIs { s with heap := s.heap.push (set0 w) } (.ref s.heap.objs.size) "set" := ⟨_, at1, rfl⟩
    have q6 := F.called_set.init.lookup
    have q7 := F.called_set.init.bind (.ref s.heap.objs.size)
    repeat (any_goals (first | assumption | wp_step))
    refine codeAny_mono (codeAny_call_builtin (R := wants (fun r t => r = .none ∧ ∃ h' tk, t = { s with heap := h', toks := tk } ∧ J items.size h' ∧ ∀ b o, s.heap.get? b = some o → h'.get? b = some o) E) F.called_set.init.plain F.entry_set_init (check_set_init_1 ty1 ?_)) fun r t hr => ?_
    · obtain ⟨ol, al, cl, nl, dl⟩ := hl
      obtain ⟨_, od, _, os⟩ := ol
      simp only at cl dl
      subst cl dl
      have al' : (s.heap.push (set0 w)).get? l = some { cls := .type "list", dict := od, data := .seq items nl, slots := os } := Heap.get?_push_of_some _ al
      have q8 := F.sub_list_set
      have q9 := F.sub_list_frozenset
      have q10 : (Value.type "list" == Value.type "dict") = false := by decide
      have il : (s.heap.push (set0 w)).IsList l items := ⟨_, al', rfl, nl, rfl⟩
      have ls : l < s.heap.objs.size := Heap.lt_size al
      unfold Builtin.«set.__init__» noKeywords Builtin.Frozenset.updateFrom
      generalize hPI : pyIter = PI
      wp_walk
      subst hPI
      refine wpAny_pyIter_list il ?_
      refine wpAny_bind (wpAny_runValue ?_)
      have sz : (s.heap.push (set0 w)).objs.size = s.heap.objs.size + 1 := Heap.size_push ..
      have none_of : ∀ b, s.heap.objs.size ≤ b → s.heap.get? b = none := fun b hb => by
        cases q : s.heap.get? b with
        | none => rfl
        | some o => exact absurd (Nat.lt_of_lt_of_le (Heap.lt_size q) hb) (Nat.lt_irrefl _)
      refine set_loop (h0 := s.heap) (J := J) (Nat.le_refl _) ((Walks.list (by simp [hh]) _ l (by rw [sz]; exact Nat.ne_of_lt (Nat.lt_succ_of_lt ls)) items).toS)
        (by rw [sz]; simp only [List.mem_cons, List.not_mem_nil, or_false, not_or]; exact ⟨Nat.ne_of_lt (Nat.lt_succ_self _), Nat.ne_of_gt ls⟩)
        (fun b hb => none_of b (by rw [sz] at hb; rcases List.mem_cons.mp hb with z | z; exact Nat.le_of_eq z.symm; rw [List.mem_singleton.mp z]; exact Nat.le_succ _)) keep add (items.size - 0) 0 _ rfl (Nat.zero_le _)
        ⟨⟨_, Heap.get?_push_size _ rfl, rfl, rfl⟩, il.push _⟩ (j0 _ (Heap.get?_push_of_some _ at1)) (fun b o e => Heap.get?_push_of_some _ (Heap.get?_push_of_some _ e)) fun t' mv j ok => ?_
      obtain ⟨h', g2, d', tk', os'⟩ := t'
      obtain rfl : g2 = s.gens := mv.gens
      obtain rfl : d' = s.drawn := mv.drawn
      obtain rfl : os' = s.os := mv.os
      show wpAny _ _ _ _ _ _
      refine wpAny_pure ?_
      show wpAny _ _ (ret Value.none) _ _ _
      exact wpAny_pure ⟨rfl, h', tk', rfl, j, ok⟩
    · rcases r with e | fl2
      · exact hr
      cases fl2 with
      | ret r =>
        obtain ⟨rfl, h', tk, rfl, j, ok⟩ := hr
        repeat (any_goals (first | assumption | wp_step))
        exact fin _ _ j ok
      | _ => exact hr.elim
  | _ => exact hr.elim
set_option maxHeartbeats 4000000 in
theorem set_of_tup {l : Addr} {items : Array Value} {J : Nat → Heap → Prop} {Q : Value → Shared → Prop} (hh : A.handled = none) (hl : s.heap.IsTuple l items)
    (keep : ∀ (i : Nat) (h h' : Heap), J i h → (∀ o, h.get? s.heap.objs.size = some o → h'.get? s.heap.objs.size = some o) → (∀ b o, s.heap.get? b = some o → h'.get? b = some o) → J i h')
    (j0 : ∀ h, h.get? s.heap.objs.size = some (set0 w) → J 0 h) (add : AddsTo P w (A.units + 3) s.heap.objs.size items.size items J s.heap)
    (fin : ∀ (h' : Heap) (tk : Nat), J items.size h' → (∀ b o, s.heap.get? b = some o → h'.get? b = some o) → Q (.ref s.heap.objs.size) { s with heap := h', toks := tk }) :
    wpAny (model P w) A (call (.type "set") [.ref l]) Q E s := by
  obtain ⟨c, tl, hmro⟩ := F.called_set.mro
  have q1 := F.called_set.made
  have q2 := F.called_set.sub
  refine wpAny_call (codeAny_of_tree ?_)
  show wpAny _ _ (callAny (.type "set") _) _ _ _
  refine wpAny_pure ⟨Code.quiet_builtin _ (by decide +kernel), codeAny_builtin F.entry_type_call ?_⟩
  rw [Around.under_plain (weight_type_call_type "set" [.ref l] []) rfl]
  have q3 := F.called_set.notType
  have q4 := F.called_set.canCreate
  have q5 := F.typeCall_set_1 (.ref l)
  repeat (any_goals (first | assumption | wp_step))
  refine codeAny_mono (code_set_led1 (.ref l) (E := E) (Q₁ := fun z t => z = .ref s.heap.objs.size ∧ t = { s with heap := s.heap.push (set0 w) }) ⟨rfl, rfl⟩) fun r t hr => ?_
  rcases r with e | fl
  · exact hr
  cases fl with
  | ret z =>
    obtain ⟨rfl, rfl⟩ := hr
    have at1 : (s.heap.push (set0 w)).get? s.heap.objs.size = some (set0 w) := Heap.get?_push_size _ rfl
    have ty1 : Shared.TypeIs { s with heap := s.heap.push (set0 w) } (.ref s.heap.objs.size) "set" := ⟨_, at1, rfl⟩
    have q6 := F.called_set.init.lookup
    have q7 := F.called_set.init.bind (.ref s.heap.objs.size)
    repeat (any_goals (first | assumption | wp_step))
    refine codeAny_mono (codeAny_call_builtin (R := wants (fun r t => r = .none ∧ ∃ h' tk, t = { s with heap := h', toks := tk } ∧ J items.size h' ∧ ∀ b o, s.heap.get? b = some o → h'.get? b = some o) E) F.called_set.init.plain F.entry_set_init (check_set_init_1 ty1 ?_)) fun r t hr => ?_
    · obtain ⟨ol, al, cl, nl, dl⟩ := hl
      obtain ⟨_, od, _, os⟩ := ol
      simp only at cl dl
      subst cl dl
      have al' : (s.heap.push (set0 w)).get? l = some { cls := .type "tuple", dict := od, data := .seq items nl, slots := os } := Heap.get?_push_of_some _ al
      have q8 := F.sub_tuple_set
      have q9 := F.sub_tuple_frozenset
      have q10 : (Value.type "tuple" == Value.type "dict") = false := by decide
      have il : (s.heap.push (set0 w)).IsTuple l items := ⟨_, al', rfl, nl, rfl⟩
      have ls : l < s.heap.objs.size := Heap.lt_size al
      unfold Builtin.«set.__init__» noKeywords Builtin.Frozenset.updateFrom
      generalize hPI : pyIter = PI
      wp_walk
      subst hPI
      refine wpAny_pyIter_tuple il ?_
      refine wpAny_bind (wpAny_runValue ?_)
      have sz : (s.heap.push (set0 w)).objs.size = s.heap.objs.size + 1 := Heap.size_push ..
      have none_of : ∀ b, s.heap.objs.size ≤ b → s.heap.get? b = none := fun b hb => by
        cases q : s.heap.get? b with
        | none => rfl
        | some o => exact absurd (Nat.lt_of_lt_of_le (Heap.lt_size q) hb) (Nat.lt_irrefl _)
      refine set_loop (h0 := s.heap) (J := J) (Nat.le_refl _) ((Walks.tuple (by simp [hh]) _ l (by rw [sz]; exact Nat.ne_of_lt (Nat.lt_succ_of_lt ls)) items).toS)
        (by rw [sz]; simp only [List.mem_cons, List.not_mem_nil, or_false, not_or]; exact ⟨Nat.ne_of_lt (Nat.lt_succ_self _), Nat.ne_of_gt ls⟩)
        (fun b hb => none_of b (by rw [sz] at hb; rcases List.mem_cons.mp hb with z | z; exact Nat.le_of_eq z.symm; rw [List.mem_singleton.mp z]; exact Nat.le_succ _)) keep add (items.size - 0) 0 _ rfl (Nat.zero_le _)
        ⟨⟨_, Heap.get?_push_size _ rfl, rfl, rfl⟩, il.push _⟩ (j0 _ (Heap.get?_push_of_some _ at1)) (fun b o e => Heap.get?_push_of_some _ (Heap.get?_push_of_some _ e)) fun t' mv j ok => ?_
      obtain ⟨h', g2, d', tk', os'⟩ := t'
      obtain rfl : g2 = s.gens := mv.gens
      obtain rfl : d' = s.drawn := mv.drawn
      obtain rfl : os' = s.os := mv.os
      show wpAny _ _ _ _ _ _
      refine wpAny_pure ?_
      show wpAny _ _ (ret Value.none) _ _ _
      exact wpAny_pure ⟨rfl, h', tk', rfl, j, ok⟩
    · rcases r with e | fl2
      · exact hr
      cases fl2 with
      | ret r =>
        obtain ⟨rfl, h', tk, rfl, j, ok⟩ := hr
        repeat (any_goals (first | assumption | wp_step))
        exact fin _ _ j ok
      | _ => exact hr.elim
  | _ => exact hr.elim
end
end DM
namespace DM
open PySem PySem.Spec PyProof.Rows L2
def keyM : Value → Key
  | .int k _ => .inl k
  | .str x _ => .inr x
  | _ => .inl 0
theorem keyM_is {k : Key} {v : Value} (h : keyIs k v = true) : keyM v = k := by
  rcases keyIs_shape h with ⟨i, t, rfl, rfl⟩ | ⟨x, t, rfl, rfl⟩ <;> rfl
theorem scan_is {k : Key} {v : Value} (h : keyIs k v = true) : v.scannable = true := by
  rcases keyIs_shape h with ⟨i, t, rfl, rfl⟩ | ⟨x, t, rfl, rfl⟩ <;> rfl
def OkM (w : World) (e : Int × Value) : Prop := keyIs (keyM e.2) e.2 = true ∧ e.1 = keyH w (keyM e.2)
def km (e : Int × Value) : Key := keyM e.2
structure SetIn (w : World) (ks : List Key) (o : Obj) (es : Array (Int × Value)) (ep : Nat) (t : SetTable) : Prop where
  ex : o.ExactSet
  dt : o.data = .set es ep t
  ok : ∀ e ∈ es.toList, OkM w e
  pm : (es.toList.map km).Perm ks
  nd : ks.Nodup
  sz : es.size < scanBound
  ft : t.fits es.size = true
  rs : Ris t.place.toList
  ld : w.params.followText "set-order" = true ∨ t.led = true
def SetM (w : World) (h : Heap) (a : Addr) (ks : List Key) : Prop := ∃ o es ep t, h.get? a = some o ∧ SetIn w ks o es ep t
section
variable {P : Program} {w : World} {A : Around} {E : Value → Shared → Prop} {s : Shared} {a : Addr} {ks : List Key}
theorem okM_elems {l : List (Int × Value)} (g : ∀ e ∈ l, OkM w e) : ElemsOf (mixKind P w) l := fun e he => ⟨⟨km e, (g e he).1, (g e he).2⟩, scan_is (g e he).1⟩
theorem okM_iff {e : Int × Value} (g : OkM w e) (k : Key) : (mixKind P w).is k e.2 = true ↔ km e = k := ⟨fun h => keyM_is h, fun h => h ▸ g.1⟩
theorem SetM.keep {h h' : Heap} (R : SetM w h a ks) (e : ∀ o, h.get? a = some o → h'.get? a = some o) : SetM w h' a ks := let ⟨o, es, ep, t, ho, r⟩ := R; ⟨o, es, ep, t, e o ho, r⟩
theorem SetIn.len {o : Obj} {es : Array (Int × Value)} {ep : Nat} {t : SetTable} (R : SetIn w ks o es ep t) : es.size = ks.length := by
  rw [← R.pm.length_eq, List.length_map, Array.length_toList]
theorem setM_tail {g : Bool → Sem Unit} (hg : ∀ (b : Bool) (s₁ : Shared) (Q' : Unit → Shared → Prop), Q' () s₁ → wpAny (model P w) A (g b) Q' E s₁)
    {o : Obj} {es : Array (Int × Value)} {ep : Nat} {t : SetTable} (ho : s.heap.get? a = some o) (hd : o.data = .set es ep t) {es1 : Array (Int × Value)} {t2 : SetTable} (R1 : ∀ o', o'.ExactSet → ∀ ep', o'.data = .set es1 ep' t2 → SetIn w ks o' es1 ep' t2) (hx : o.ExactSet)
    {wd : Bool} {R : Option Bool → Shared → Prop} (fin : ∀ h', Heap.SameBut a s.heap h' → SetM w h' a ks → R (some true) { s with heap := h' }) :
    wpAny (model P w) A (do
        storeSet a es1 t2
        if (!wd && t2.tooFull) = true then do
            g (relayAll t2 es1 (SetTable.grown es1.size)).2.2
            storeSet a (relayAll t2 es1 (SetTable.grown es1.size)).1 (relayAll t2 es1 (SetTable.grown es1.size)).2.1
            pure (some true)
          else pure (some true)) R E s := by
  have o1 := store_at (es' := es1) (t' := t2) ho hd
  have n1 : ({ o with data := .set es1 (ep + 1) t2 } : Obj).ExactSet := hx
  have r1 := R1 _ n1 (ep + 1) rfl
  have b1 : es1.size ≤ sizeLine := fits_of_scanBound r1.sz
  refine wpAny_bind (wpAny_storeSet_of ho hd ?_ b1)
  have c1 := Heap.SameBut.update s.heap a (Obj.putSet es1 t2)
  split
  · have pm := relayAll_perm t2 es1 (SetTable.grown es1.size)
    have ft := relayAll_fits t2 es1 (SetTable.grown es1.size)
    have rs := relayAll_ris t2 es1 (SetTable.grown es1.size)
    have ld := relayAll_led t2 es1 (SetTable.grown es1.size)
    revert pm ft rs ld
    generalize relayAll t2 es1 (SetTable.grown es1.size) = Z
    obtain ⟨es2, t3, gv⟩ := Z
    intro pm ft rs ld
    have z2 : es2.size = es1.size := by rw [← Array.length_toList, pm.length_eq, Array.length_toList]
    refine wpAny_bind (hg _ _ _ (wpAny_bind (wpAny_storeSet_of o1 rfl ?_ (by rw [z2]; exact b1))))
    have o2 := store_at (es' := es2) (t' := t3) o1 rfl
    refine wpAny_pure (fin _ (c1.trans (Heap.SameBut.update _ a _)) ⟨_, es2, ep + 1 + 1, t3, o2, ?_⟩)
    exact { ex := n1, dt := rfl, ok := fun e he => r1.ok e (pm.mem_iff.mp he), pm := (pm.map km).trans r1.pm, nd := r1.nd, sz := by rw [z2]; exact r1.sz, ft := ft, rs := rs, ld := r1.ld.imp id fun z => ld.trans z }
  · exact wpAny_pure (fin _ c1 ⟨_, es1, _, t2, o1, r1⟩)
open Classical in
noncomputable def addK (ks : List Key) (k : Key) : List Key := if k ∈ ks then ks else k :: ks
theorem addK_mem {ks : List Key} {k j : Key} : j ∈ addK ks k ↔ j = k ∨ j ∈ ks := by
  unfold addK
  split
  · exact ⟨.inr, fun h => h.elim (fun h => h ▸ by assumption) id⟩
  · simp
theorem addK_len {ks : List Key} {k : Key} : (addK ks k).length ≤ ks.length + 1 := by unfold addK; split <;> simp
theorem setM_add {k : Key} {x : Value} {Q : Bool → Shared → Prop} (hk : keyIs k x = true) (R : SetM w s.heap a ks) (room : ks.length + 1 < scanBound)
    (fin : ∀ b h', Heap.SameBut a s.heap h' → SetM w h' a (addK ks k) → Q b { s with heap := h' }) : wpAny (model P w) A (setAddHashed a x ((mixKind P w).hash k)) Q E s := by
  obtain ⟨o, es, ep, t, ho, r⟩ := R
  have hsc := scan_is hk
  have hel : ElemsOf (mixKind P w) es.toList := okM_elems r.ok
  unfold setAddHashed setAddHashedIn
  refine wpAny_holding (wpAny_bind (wpAny_setState_of ho r.dt r.ft ?_))
  dsimp only
  rw [byScan_of hsc r.sz hel]
  simp only [↓reduceIte]
  unfold setAddByScan
  refine wpAny_bind (wpAny_bind (wpAny_rule (wpAny_bind (wpAny_setScan_of hk ho r.dt r.ft hel ?_))))
  cases hf : List.findIdx? (fun e => (mixKind P w).is k e.2) es.toList with
  | some j =>
    obtain ⟨hj, pj, _⟩ := List.findIdx?_eq_some_iff_getElem.mp hf
    have hm : k ∈ ks := r.pm.mem_iff.mp (List.mem_map.mpr ⟨es.toList[j], List.getElem_mem hj, (okM_iff (P := P) (r.ok _ (List.getElem_mem hj)) k).mp pj⟩)
    dsimp only
    refine wpAny_pure (wpAny_pure (fin _ s.heap (Heap.SameBut.refl a s.heap) ⟨o, es, ep, t, ho, ?_⟩))
    rw [addK, if_pos hm]
    exact r
  | none =>
    have hm : k ∉ ks := fun hm => by
      obtain ⟨e, he, q⟩ := List.mem_map.mp (r.pm.mem_iff.mpr hm)
      have c := List.findIdx?_eq_none_iff.mp hf e he
      rw [(okM_iff (P := P) (r.ok e he) k).mpr q] at c
      cases c
    have pm := layNew_perm t es ((mixKind P w).hash k) x
    have ft := layNew_fits t es ((mixKind P w).hash k) x
    have rs := layNew_ris t es ((mixKind P w).hash k) x r.rs
    have ld := layNew_led t es ((mixKind P w).hash k) x
    dsimp only
    revert pm ft rs ld
    generalize layNew t es ((mixKind P w).hash k) x = Z
    obtain ⟨es1, t1, wd, gv⟩ := Z
    intro pm ft rs ld
    rw [Array.toList_push] at pm
    have pc : es1.toList.Perm (((mixKind P w).hash k, x) :: es.toList) := pm.trans (List.perm_append_singleton _ _)
    have hlen : es1.size = ks.length + 1 := by rw [← Array.length_toList, pc.length_eq, List.length_cons, Array.length_toList, r.len]
    have okx : OkM w ((mixKind P w).hash k, x) := ⟨by rw [keyM_is hk]; exact hk, by show (mixKind P w).hash k = keyH w (keyM x); rw [keyM_is hk]; rfl⟩
    have mk : ∀ (t2 : SetTable), t2.fits es1.size = true → Ris t2.place.toList → (w.params.followText "set-order" = true ∨ t2.led = true) → ∀ o' : Obj, o'.ExactSet → ∀ ep', o'.data = .set es1 ep' t2 → SetIn w (addK ks k) o' es1 ep' t2 := fun t2 f2 r2 l2 o' x' ep' d' => by
      rw [addK, if_neg hm]
      exact { ex := x', dt := d', ok := fun e he => (List.mem_cons.mp (pc.mem_iff.mp he)).elim (fun z => z ▸ okx) (r.ok e), pm := (pc.map km).trans (by rw [List.map_cons, show km ((mixKind P w).hash k, x) = k from keyM_is hk]; exact r.pm.cons k), nd := List.nodup_cons.mpr ⟨hm, r.nd⟩, sz := by rw [hlen]; exact room, ft := f2, rs := r2, ld := l2 }
    have l1 : w.params.followText "set-order" = true ∨ t1.led = true := r.ld.imp id fun z => ld.trans z
    have gw : ∀ (b : Bool) {s₁ : Shared} {Q' : Unit → Shared → Prop}, Q' () s₁ → wpAny (model P w) A (match b with | true => rule "set.scan.the-table-gave-way" | false => pure ()) Q' E s₁ := fun b s₁ Q' q => by
      cases b
      · exact wpAny_pure q
      · exact wpAny_rule q
    dsimp only at ft rs ⊢
    refine wpAny_bind (gw _ ?_)
    split
    · refine wpAny_bind ?_
      rw [hashByValue_scannable 8 hsc]
      refine wpAny_pure ?_
      refine setM_tail (ks := addK ks k) ?_ ho r.dt ?_ r.ex fun h' sb r' => ?_
      · intro b s₁ Q' q
        cases b
        · exact wpAny_pure q
        · exact wpAny_rule q
      · split
        · exact mk _ (SetTable.fits_plain_off ft) rs l1
        · exact mk _ ft rs l1
      · exact wpAny_pure (fin _ h' sb r')
    · refine wpAny_bind (wpAny_pure ?_)
      simp only [↓reduceIte]
      refine setM_tail (ks := addK ks k) ?_ ho r.dt (mk _ ft rs l1) r.ex fun h' sb r' => ?_
      · intro b s₁ Q' q
        cases b
        · exact wpAny_pure q
        · exact wpAny_rule q
      · exact wpAny_pure (fin _ h' sb r')
theorem setM_put {k : Key} {x : Value} {Q : Bool → Shared → Prop} (hk : keyIs k x = true) (R : SetM w s.heap a ks) (room : ks.length + 1 < scanBound)
    (fin : ∀ b h' tk, Heap.SameBut a s.heap h' → s.toks ≤ tk → SetM w h' a (addK ks k) → Q b { s with heap := h', toks := tk }) : wpAny (model P w) A (setAdd a x) Q E s := by
  unfold setAdd
  refine wpAny_holding (wpAny_bind ((mixKind P w).pyHash hk ?_))
  exact setM_add hk (s := { s with toks := s.toks + 1 }) R room fun b h' sb r => fin b h' _ sb (Nat.le_succ _) r
theorem set0_in {ob : Obj} (e : ob = set0 w) : SetIn w [] ob #[] 0 (.fresh 0 0 (!w.params.followText "set-order")) := by
  subst e
  refine { ex := ⟨rfl, rfl, rfl⟩, dt := rfl, ok := fun e he => by simp at he, pm := .nil, nd := List.nodup_nil, sz := by decide, ft := by rfl, rs := List.Pairwise.nil, ld := ?_ }
  show _ ∨ (!w.params.followText "set-order") = true
  cases w.params.followText "set-order"
  · exact .inr rfl
  · exact .inl rfl
theorem nodup_le {α : Type} [DecidableEq α] : ∀ {l m : List α}, l.Nodup → (∀ x ∈ l, x ∈ m) → l.length ≤ m.length
  | [], _, _, _ => Nat.zero_le _
  | x :: l, m, h, hs => by
    obtain ⟨h1, h2⟩ := List.nodup_cons.mp h
    have hx := hs x List.mem_cons_self
    have := nodup_le (l := l) (m := m.erase x) h2 fun y hy => (List.mem_erase_of_ne fun e => h1 (by rw [← e]; exact hy)).mpr (hs y (List.mem_cons_of_mem _ hy))
    rw [List.length_erase_of_mem hx] at this
    have := List.length_pos_of_mem hx
    rw [List.length_cons]; omega
def setJ (w : World) (S : Addr) (keys : List Key) (i : Nat) (h : Heap) : Prop := ∃ ks, SetM w h S ks ∧ (∀ k, k ∈ ks ↔ k ∈ keys.take i) ∧ ks.length ≤ i
theorem setJ_adds {S : Addr} {items : Array Value} {keys : List Key} (hs : items.size = keys.length) (hk : ∀ (i : Nat) (v : Value) (k : Key), items[i]? = some v → keys[i]? = some k → keyIs k v = true) (hb : ∀ l : List Key, l.Nodup → (∀ k ∈ l, k ∈ keys) → l.length + 1 < scanBound) {u : Nat} : AddsTo P w u S items.size items (setJ w S keys) s.heap := by
  intro B i v t Q F _ lt hv ⟨ks, R, m, l⟩ _ fin
  obtain ⟨k, e⟩ : ∃ k, keys[i]? = some k := ⟨_, List.getElem?_eq_getElem (by omega)⟩
  have room : ks.length + 1 < scanBound := hb ks (let ⟨_, _, _, _, _, r⟩ := R; r.nd) fun k hk => List.mem_of_mem_take ((m k).mp hk)
  refine setM_put (hk i v k hv e) R room fun b h' tk sb ht r => fin b h' tk sb ht ⟨_, r, fun j => ?_, by have := addK_len (ks := ks) (k := k); omega⟩
  rw [addK_mem, m, List.take_add_one, e]
  simp only [Option.toList_some, List.mem_append, List.mem_singleton]
  exact Or.comm
theorem setJ_keep {S : Addr} {keys : List Key} {h0 : Heap} (i : Nat) (h h' : Heap) (j : setJ w S keys i h) (e : ∀ o, h.get? S = some o → h'.get? S = some o) (_ : ∀ b o, h0.get? b = some o → h'.get? b = some o) : setJ w S keys i h' :=
  let ⟨ks, R, m⟩ := j
  ⟨ks, R.keep e, m⟩
end
def setO (w : World) (a : Addr) (ks : List Key) : HO := .ext fun h => SetM w h a ks
theorem setO_ok {P : Program} {w : World} {H : Hp} {h : Heap} {a : Addr} {ks : List Key} (R : SetM w h a ks) : ObjOk P w H h a (setO w a ks) := by
  have ⟨o, _, _, _, ho, _⟩ := R
  exact ⟨R, ⟨o, ho⟩, fun h1 h2 p k => SetM.keep p k⟩
def rSetM (K : PySem.W.Frag) (w : World) : List V → Hp → VK → Prop := fun xs H Q => ∃ (l : Addr) (keys : List Key), xs = [V.ref l] ∧ (SqL K H l (keys.map kV) ∨ SqT K H l (keys.map kV)) ∧ (∀ l : List Key, l.Nodup → (∀ k ∈ l, k ∈ keys) → l.length + 1 < scanBound) ∧
  ∀ p ks, ks.Nodup → (∀ k, k ∈ ks ↔ k ∈ keys) → H p = none → Q (.ref p) (upd H p (setO w p ks))
theorem keys_rel {keys : List Key} {its : List Value} (r : Vals (keys.map kV) its) {i : Nat} {v : Value} {k : Key} (h1 : its[i]? = some v) (h2 : keys[i]? = some k) : keyIs k v = true := by
  obtain ⟨u, h3, h4⟩ := r.get (i := i) (x := kV k) (by rw [List.getElem?_map, h2]; rfl)
  rw [h1] at h3
  cases h3
  cases k with
  | inl i => obtain ⟨t, rfl⟩ := h4; exact keyIs_int i t
  | inr x => obtain ⟨t, rfl⟩ := h4; exact keyIs_str x t
theorem call_setM {X : Cx} (hc : X.calm = true) : CallR X (.type "set") (rSetM X.K X.w) := by
  intro pins s σ H xs us Q I r h
  obtain ⟨l, keys, rfl, hs, hb, q⟩ := h
  rw [Vals.ref1 r]
  have fin : ∀ (its : List Value), Vals (keys.map kV) its → ∀ (h' : Heap) (tk : Nat), setJ X.w s.heap.objs.size keys its.toArray.size h' → (∀ b o, s.heap.get? b = some o → h'.get? b = some o) → ∃ v H', Inv X pins σ H' { s with heap := h', toks := tk } ∧ RelV v (.ref s.heap.objs.size) ∧ Q v H' := by
    intro its rv h' tk ⟨ks, R, m, _⟩ keep
    have hl : its.toArray.size = keys.length := by rw [List.size_toArray, ← rv.length, List.length_map]
    have nd : ks.Nodup := let ⟨_, _, _, _, _, r⟩ := R; r.nd
    exact ⟨.ref s.heap.objs.size, upd H s.heap.objs.size (setO X.w s.heap.objs.size ks), I.laid (t' := tk) keep (Nat.le_refl _) (setO_ok R), rfl, q _ ks nd (fun k => by rw [m, hl, List.take_length]) (I.hok.fresh (Nat.le_refl _))⟩
  rcases hs with hs | hs
  · obtain ⟨its, rv, hl, hz⟩ := I.list hs
    have hlen : its.toArray.size = keys.length := by rw [List.size_toArray, ← rv.length, List.length_map]
    refine set_of_list (I.ok.hd hc) hl.isList (J := setJ X.w s.heap.objs.size keys) setJ_keep (fun h e => ⟨[], ⟨_, _, _, _, e, set0_in rfl⟩, by simp, by simp⟩) (setJ_adds hlen (fun i v k h1 h2 => keys_rel rv (by simpa using h1) h2) hb) fun h' tk j keep => fin its rv h' tk j keep
  · obtain ⟨its, rv, hl⟩ := tup_at (H := ⟨H, fun _ => False⟩) I hs
    have hlen : its.toArray.size = keys.length := by rw [List.size_toArray, ← rv.length, List.length_map]
    refine set_of_tup (I.ok.hd hc) hl (J := setJ X.w s.heap.objs.size keys) setJ_keep (fun h e => ⟨[], ⟨_, _, _, _, e, set0_in rfl⟩, by simp, by simp⟩) (setJ_adds hlen (fun i v k h1 h2 => keys_rel rv (by simpa using h1) h2) hb) fun h' tk j keep => fin its rv h' tk j keep
end DM
namespace DM
open PySem PySem.Spec PyProof.Rows L2
section
variable {prog : Program} {w : World} {A : Around} {E : Value → Shared → Prop} {s : Shared} {R : Value → D → Prop}
open PySem PySem.Calls PyProof.Rows PySem.W in
theorem sorted_some {l : Addr} {n : Nat} {B : List Value → List D → Shared → Prop} {Q : Value → Shared → Prop} (hL : n ≤ sizeLine)
    (hB : ∀ vs bs t, B vs bs t → bs.length = n ∧ EachIs R vs bs ∧ EachIs (fun v b => ∃ as, Reads t.heap v (toPy b) as) vs bs ∧ AllAlike (bs.map toPy) ∧ Sortable (bs.map toPy) ∧ (∀ b, b ∈ bs → A.units + 2 + (toPy b).depth < cLine) ∧ (∀ b o, s.heap.get? b = some o → t.heap.get? b = some o) ∧ s.heap.objs.size ≤ t.heap.objs.size ∧ t.gens = s.gens ∧ t.os = s.os)
    (hc : ∀ (Q' : List Value → Shared → Prop) (E' : Value → Shared → Prop), (∀ vs bs t, B vs bs t → Q' vs t) → wpAny (model prog w) A.in1 (collect (.ref l)) Q' E' s)
    (fin : ∀ vs bs t, B vs bs t → ∀ h' out c a, (∀ b o, s.heap.get? b = some o → h'.get? b = some o) → s.heap.objs.size ≤ a → h'.get? a = some (seqObj "list" (List.toArray out) c) → out.length = n → EachIs R out (sortD bs) → Q (.ref a) { t with heap := h' }) :
    wpAny (model prog w) A (call (.builtin "sorted") [.ref l]) Q E s := by
  refine call_function_entry kind_sorted plain_sorted entry_sorted (args_sorted1 _) ?_
  unfold Builtin.«sorted»
  refine wpAny_bind (m := checkCount "sorted" 1 1 _) (wpAny_pure (wpAny_bind (hc _ _ fun vs bs t hb => ?_)))
  obtain ⟨hn, e, er, hal, hk, hu, k1, z1, _, _⟩ := hB vs bs t hb
  have hv : vs.length = n := by rw [e.length, hn]
  refine wpAny_bind (wpAny_newList ?_ (by rw [hv]; exact hL))
  have ho : (t.heap.push (seqObj "list" vs.toArray 0)).get? t.heap.objs.size = some (seqObj "list" vs.toArray 0) := Heap.get?_push_size _ rfl
  have k2 : ∀ b o, t.heap.get? b = some o → (sortingHeap (t.heap.push (seqObj "list" vs.toArray 0)) t.heap.objs.size vs).get? b = some o := fun b o q => sortingHeap_old (Nat.ne_of_lt (Heap.lt_size q)) (Heap.get?_push_of_some _ q)
  have er2 : EachIs (fun v b => ∃ as, Reads (sortingHeap (t.heap.push (seqObj "list" vs.toArray 0)) t.heap.objs.size vs) v (toPy b) as) vs bs := er.mono fun _ _ ⟨as, r⟩ => ⟨as, PyProof.Rows.Reads.keeps k2 r⟩
  have S := SortsAt.data (prog := prog) (w := w) (A := A.in1.in1) (s := { t with heap := sortingHeap (t.heap.push (seqObj "list" vs.toArray 0)) t.heap.objs.size vs }) (each_map (R := fun v d => ∃ as, Reads (sortingHeap (t.heap.push (seqObj "list" vs.toArray 0)) t.heap.objs.size vs) v d as) toPy er2) hal hk (bound_map hu)
  show wpAny _ _ _ _ _ { t with heap := t.heap.push (seqObj "list" vs.toArray 0) }
  refine wpAny_bind (wpAny_holding (wpAny_call_entry slot_list_sort ⟨_, ho, rfl⟩ entry_list_sort ?body (args_list_sort _)))
  case body =>
    show wpAny (model prog w) A.in1.in1 (Builtin.«list.sort» ⟨[.ref t.heap.objs.size], []⟩) _ _ _
    refine list_sort_vals (s := { t with heap := t.heap.push (seqObj "list" vs.toArray 0) }) ho S (by rw [hv]; exact hL) ⟨_, rfl, wpAny_pure ⟨_, rfl, ?_⟩⟩
    obtain ⟨c, hc⟩ := PyProof.Rows.sortedHeap_at (vs := vs) (out := (sortVals (dataKind (sortingHeap (t.heap.push (seqObj "list" vs.toArray 0)) t.heap.objs.size vs) (bs.map toPy)) false vs vs).toArray) ho
    refine fin vs bs t hb _ _ c t.heap.objs.size (fun b o q => ?_) z1 hc (by rw [sortVals_length false rfl]; exact hv) (sortVals_data false e er2 hal)
    have q1 := Heap.get?_push_of_some (seqObj "list" vs.toArray 0) (k1 b o q)
    exact (PyProof.Rows.sortedHeap_old (Nat.ne_of_lt (Nat.lt_of_lt_of_le (Heap.lt_size q) z1)) (Heap.lt_size q1)).trans q1
end
theorem SortOk.perm {xs ys : List D} (h : SortOk xs) (p : ys.Perm xs) : SortOk ys := by
  obtain ⟨h1, h2, h3, h4⟩ := h
  have m : ∀ x ∈ ys.map toPy, x ∈ xs.map toPy := fun x hx => (p.map toPy).mem_iff.mp hx
  refine ⟨all_pure fun x hx => mem_pure h1 (p.mem_iff.mp hx), all_dep (by decide) fun x hx => mem_dep h2 (p.mem_iff.mp hx), fun x hx y hy => h3 x (m x hx) y (m y hy), ?_⟩
  rcases h4 with h4 | h4
  · exact .inl fun x hx => h4 x (m x hx)
  · exact .inr fun x hx => h4 x (m x hx)
def rSortM (w : World) : List V → Hp → VK → Prop := fun vs H Q => ∃ (a : Addr) (ks : List Key), vs = [V.ref a] ∧ H a = some (setO w a ks) ∧ SortOk (ks.map kD) ∧
  ∀ (out ys : List Key) (p : Addr), out.Perm ks → ys.map kD = sortD (out.map kD) → H p = none → Q (.ref p) (upd H p (.lst (ys.map kV)))
theorem each_keys {h : Heap} : ∀ {vs : List Value} {ks : List Key}, vs.map keyM = ks → (∀ v ∈ vs, keyIs (keyM v) v = true) → PySem.W.EachIs (fun v d => ∃ k, d = kD k ∧ keyIs k v = true) vs (ks.map kD) ∧ PySem.W.EachIs (fun v b => ∃ as, Reads h v (toPy b) as) vs (ks.map kD)
  | [], _, rfl, _ => ⟨.nil, .nil⟩
  | v :: vs, _, rfl, hv => by
    obtain ⟨h1, h2⟩ := each_keys (h := h) (vs := vs) rfl fun u hu => hv u (List.mem_cons_of_mem _ hu)
    have h3 := hv v List.mem_cons_self
    refine ⟨.cons ⟨_, rfl, h3⟩ h1, .cons ?_ h2⟩
    rcases keyIs_shape h3 with ⟨i, t, e1, e2⟩ | ⟨x, t, e1, e2⟩
    · rw [e1, e2]; exact ⟨_, .int i t⟩
    · rw [e1, e2]; exact ⟨_, .str x t⟩
theorem each_keys_out : ∀ {vs : List Value} {ds : List D}, PySem.W.EachIs (fun v d => ∃ k, d = kD k ∧ keyIs k v = true) vs ds → ∃ ks : List Key, ds = ks.map kD ∧ Vals (ks.map kV) vs
  | _, _, .nil => ⟨[], rfl, .nil⟩
  | v :: _, _, .cons ⟨k, e, h⟩ t => by
    obtain ⟨ks, e2, r⟩ := each_keys_out t
    refine ⟨k :: ks, by rw [e, e2]; rfl, .cons ?_ r⟩
    rcases keyIs_shape h with ⟨i, t, rfl, rfl⟩ | ⟨x, t, rfl, rfl⟩
    · exact ⟨t, rfl⟩
    · exact ⟨t, rfl⟩
theorem call_sortM {X : Cx} (hc : X.calm = true) (hu : X.A.units + 150 < cLine) : CallR X (.builtin "sorted") (rSortM X.w) := by
  intro pins s σ H vs us Q I r h
  obtain ⟨a, ks, rfl, ha, ⟨hp, hdp, hal, hso⟩, q⟩ := h
  rw [Vals.ref1 r]
  obtain ⟨o, es, ep, t, ho, R⟩ := (show SetM X.w s.heap a ks from (I.hok a _ ha).1)
  have hL : ks.length ≤ sizeLine := by rw [← R.len]; exact fits_of_scanBound R.sz
  have perm_all : ∀ out : List Key, out.Perm ks → SortOk (out.map kD) := fun out pm => SortOk.perm ⟨hp, hdp, hal, hso⟩ (pm.map kD)
  refine sorted_some (R := fun v d => ∃ k, d = kD k ∧ keyIs k v = true) (n := ks.length) (B := fun vs bs t => ∃ out : List Key, bs = out.map kD ∧ out.Perm ks ∧ vs.map keyM = out ∧ (∀ v ∈ vs, keyIs (keyM v) v = true) ∧ (∀ b o, s.heap.get? b = some o → t.heap.get? b = some o) ∧ s.heap.objs.size ≤ t.heap.objs.size ∧ t.gens = s.gens ∧ t.os = s.os) hL (fun vs bs t hb => ?_) (fun Q' E' hQ' => ?_) fun vs bs t hb h' out c p keep hp hg hl eo => ?_
  · obtain ⟨out, rfl, pm, e, hv, k1, z1, g1, o1⟩ := hb
    obtain ⟨h1, h2⟩ := each_keys (h := t.heap) e hv
    obtain ⟨_, sd, sa, ss⟩ := perm_all out pm
    refine ⟨by rw [List.length_map, pm.length_eq], h1, h2, sa, ss, fun b hb => ?_, k1, z1, g1, o1⟩
    have h1 := depth_py b
    obtain ⟨j, hj, rfl⟩ := List.getElem_of_mem hb
    have h2 := depDs_get (List.getElem?_eq_getElem hj)
    omega
  · refine collect_set (I.ok.hd hc) ⟨o, ho, R.ex.1, R.dt⟩ R.ft R.sz R.rs R.ld fun s' out k1 z1 g1 o1 pm => hQ' out _ s' ⟨_, rfl, (pm.map keyM).trans (by rw [List.map_map]; exact R.pm), rfl, fun v hv => ?_, k1, z1, g1, o1⟩
    obtain ⟨e, he, rfl⟩ := List.mem_map.mp (pm.mem_iff.mp hv)
    exact (R.ok e he).1
  · obtain ⟨out0, rfl, pm, _, _, k1, z1, g1, o1⟩ := hb
    obtain ⟨ys, e, rv⟩ := each_keys_out eo
    have hlen : (ys.map kV).length ≤ sizeLine := by rw [rv.length, hl]; exact hL
    have hn : H p = none := I.hok.fresh hp
    have J : Inv X pins σ (upd H p (.lst (ys.map kV))) { s with heap := h', gens := t.gens, drawn := t.drawn, toks := t.toks } :=
      I.call (ch := []) (Un.laid keep hp hn) (I.hok.laid keep hp ⟨hlen, out, c, rv, hg⟩) (by rw [g1]; exact I.bare) (fun _ z => nomatch z)
    have et : ({ t with heap := h' } : Shared) = { s with heap := h', gens := t.gens, drawn := t.drawn, toks := t.toks } := by
      cases t
      cases s
      cases o1
      rfl
    rw [et]
    exact ⟨.ref p, _, J, rfl, q out0 ys p pm e.symm hn⟩
end DM
namespace DM
open PySem L2
open PyProof.Rows (b2i)
def sortSetQ (x : D) (M : Mm) (Q : List D → Mm → Prop) : Prop := match rdS M x with
  | some xs => (match keysD xs with | some keys => ((∀ l : List Key, l.Nodup → (∀ k ∈ l, k ∈ keys) → l.length + 1 < 4096) ∧ SortOk xs) ∧ ∀ ks : List Key, ks.Nodup → (∀ k, k ∈ ks ↔ k ∈ keys) → Q (sortD (ks.map kD)) M | none => False)
  | none => False
def dSortSet (te : TDE) : TDL := fun ds M Q => te ds M fun x M1 => sortSetQ x M1 Q
theorem kd_mem {ks keys : List Key} (h : ∀ k, k ∈ ks ↔ k ∈ keys) (so : SortOk (keys.map kD)) : SortOk (ks.map kD) := by
  obtain ⟨h1, h2, h3, h4⟩ := so
  have m : ∀ x ∈ ks.map kD, x ∈ keys.map kD := fun x hx => by
    obtain ⟨k, hk, rfl⟩ := List.mem_map.mp hx
    exact List.mem_map.mpr ⟨k, (h k).mp hk, rfl⟩
  have m2 : ∀ x ∈ (ks.map kD).map toPy, x ∈ (keys.map kD).map toPy := fun x hx => by
    obtain ⟨k, hk, rfl⟩ := List.mem_map.mp hx
    exact List.mem_map.mpr ⟨k, m k hk, rfl⟩
  refine ⟨all_pure fun x hx => mem_pure h1 (m x hx), all_dep (by decide) fun x hx => mem_dep h2 (m x hx), fun x hx y hy => h3 x (m2 x hx) y (m2 y hy), ?_⟩
  rcases h4 with h4 | h4
  · exact .inl fun x hx => h4 x (m2 x hx)
  · exact .inr fun x hx => h4 x (m2 x hx)
section
variable {X : Cx} {e : Expr} {te : TDE} {p p2 pos pos2 : Pos} {k : Nat}
theorem jl_sortSet (hc : X.calm = true) (hr : Room k X.A) (hm : X.mg "sorted" = none) (hm2 : X.mg "set" = none) (ha : JE X e te) (hg : Gl X "sorted" := by rfl) (hg2 : Gl X "set" := by rfl)
    (n1 : starEach [.Call (.Name "set" p2) [e] [] pos2] X.env = (false, eval (.Call (.Name "set" p2) [e] [] pos2) X.env) :: starEach [] X.env := by rfl) (n2 : starEach [e] X.env = (false, eval e X.env) :: starEach [] X.env := by rfl)
    (n3 : (backTo pos (starEach [] X.env)).any (·.1) = false := by rfl) (n4 : (backTo pos2 (starEach [] X.env)).any (·.1) = false := by rfl) :
    JL X (.Call (.Name "sorted" p) [.Call (.Name "set" p2) [e] [] pos2] [] pos) (dSortSet te) := by
  obtain ⟨u, q, g⟩ := ha
  refine ⟨_, pe_callB (call_sortM hc (hu150 hr)) hg hm PyProof.Rows.boot_sorted (pa_cons (pe_callTy (call_setM hc) hg2 hm2 PyProof.Rows.boot_set (pa_cons q pa_nil n2) (by decide) (by decide) n2 n4) pa_nil n1) (by decide) (by decide) n1 n3, fun ds σ H M Q Q0 s m q k => ?_⟩
  refine g ds σ H M _ _ s m q fun v H1 d M1 r1 m1 g1 q1 => ?_
  unfold sortSetQ at q1
  split at q1
  · rename_i xs e1
    split at q1
    · rename_i keys e2
      obtain ⟨⟨hl, so⟩, q1⟩ := q1
      have ex := keysD_eq e2
      subst ex
      obtain ⟨a, ws, rfl, ra, h1⟩ := rdS_v m1 r1 e1
      have ew := vrs_keys ra
      subst ew
      refine ⟨a, keys, rfl, h1.symm.imp (fun h => SqL.of h) (fun h => h.2), hl, fun o ks nd hk ho => ?_⟩
      refine ⟨o, ks, rfl, upd_same, kd_mem hk so, fun out ys l pm ey hl2 => ?_⟩
      have m2 : MR X.K M1 (H1.up o (setO X.w o ks)) := m1.newT ho
      have g2 : GG M1 H1 M1 (H1.up o (setO X.w o ks)) := GG.newT ho
      have ry : VRs X.K (H1.up o (setO X.w o ks)) (sortD (out.map kD)) (ys.map kV) := by rw [← ey]; exact keys_vrs ys
      exact k l ((H1.up o (setO X.w o ks)).up l _) (sortD (out.map kD)) (ys.map kV) M1 ((g1.trans g2).free hl2) upd_same (VRs.mono (TX.new m2 hl2) _ _ ry) (m2.free hl2) (m2.freeF hl2) (m2.newT hl2) ((g1.trans g2).trans (GG.newT hl2)) (q1 out (pm.nodup_iff.mpr nd) fun j => (pm.mem_iff).trans (hk j))
    · exact q1.elim
  · exact q1.elim
end
end DM
namespace DM
open PySem L2
open PyProof.Rows (b2i)
def insOf (M : Mm) (a : Addr) : Option (Addr × List (Str × D)) := match M a with | some (.ins C fs) => some (C, fs) | _ => none
theorem insOf_some {M : Mm} {a C : Addr} {fs : List (Str × D)} (h : M a = some (.ins C fs)) : insOf M a = some (C, fs) := by unfold insOf; rw [h]
theorem of_insOf {M : Mm} {a C : Addr} {fs : List (Str × D)} (h : insOf M a = some (C, fs)) : M a = some (.ins C fs) := by
  unfold insOf at h
  split at h
  · cases h; assumption
  · cases h
theorem insOf_mup_same {M : Mm} {a C : Addr} {fs : List (Str × D)} : insOf (mup M a (.ins C fs)) a = some (C, fs) := insOf_some mup_same
theorem insOf_mup_ne {M : Mm} {a b : Addr} {o : MO} (h : b ≠ a) : insOf (mup M a o) b = insOf M b := by unfold insOf; rw [mup_ne h]
def putFD (f : Str) (d : D) : List (Str × D) → List (Str × D)
  | [] => [(f, d)]
  | (g, x) :: r => if g = f then (g, d) :: r else (g, x) :: putFD f d r
section
variable {K : PySem.W.Frag} {H : HF}
theorem FR.look : ∀ {ds : List (Str × D)} {vs : List (Str × V)} {f : Str} {d : D}, FR K H ds vs → ds.lookup f = some d → ∃ v, vs.lookup f = some v ∧ VR K H d v
  | _, _, _, _, .nil, h => by simp at h
  | (g, d') :: ds, (_, v') :: vs, f, d, .cons r q, h => by
    rw [List.lookup_cons] at h ⊢
    cases e : (f == g) with
    | true => rw [e] at h; cases h; exact ⟨_, rfl, r⟩
    | false => rw [e] at h; exact FR.look q h
theorem FR.lookN : ∀ {ds : List (Str × D)} {vs : List (Str × V)} {f : Str}, FR K H ds vs → ds.lookup f = none → vs.lookup f = none
  | _, _, _, .nil, h => rfl
  | (g, d') :: ds, (_, v') :: vs, f, .cons r q, h => by
    rw [List.lookup_cons] at h ⊢
    cases e : (f == g) with
    | true => rw [e] at h; cases h
    | false => rw [e] at h; exact FR.lookN q h
end
theorem FR.putf {K : PySem.W.Frag} {H : HF} {f : Str} {d : D} {v : V} (r : VR K H d v) : ∀ {ds : List (Str × D)} {vs : List (Str × V)}, FR K H ds vs → FR K H (putFD f d ds) (putF f v vs)
  | _, _, .nil => .cons r .nil
  | (g, d') :: ds, (_, v') :: vs, .cons q t => by
    unfold putFD putF
    by_cases e : g = f
    · rw [if_pos e, if_pos e]; exact .cons r t
    · rw [if_neg e, if_neg e]; exact .cons q (FR.putf r t)
structure FldOk (K : PySem.W.Frag) (C : Addr) (f : Str) : Prop where
  c : L2.Cls K C
  n : NoAttr K C f
def fldQ (C : Addr) (f : Str) (x : D) (M : Mm) (Q : DQ) : Prop := match x with
  | .ref a => (match insOf M a with | some (C', fs) => C' = C ∧ (match fs.lookup f with | some d => Q d M | none => False) | none => False)
  | _ => False
def dFld (C : Addr) (f : Str) (te : TDE) : TDE := fun ds M Q => te ds M fun x M1 => fldQ C f x M1 Q
def fputQ (C : Addr) (f : Str) (x y : D) (M : Mm) (N : Mm → Prop) : Prop := match x with
  | .ref a => (match insOf M a with | some (C', fs) => (C' = C ∧ fs.length < 1000) ∧ N (mup M a (.ins C (putFD f y fs))) | none => False)
  | _ => False
def dFput (C : Addr) (f : Str) (te to : TDE) : TDS := fun D ds M => te ds M fun y M1 => to ds M1 fun x M2 => fputQ C f x y M2 fun M3 => D.nx ds M3
def faddQ1 (C : Addr) (f : Str) (x : D) (M : Mm) (N : Addr → Int → Prop) : Prop := match x with
  | .ref a => (match insOf M a with | some (C', fs) => C' = C ∧ (match fs.lookup f with | some (.int i) => N a i | _ => False) | none => False)
  | _ => False
def dFadd (C : Addr) (f : Str) (to te : TDE) : TDS := fun D ds M => to ds M fun x M1 => faddQ1 C f x M1 fun a i => te ds M1 fun y M2 => match y with
  | .int j => fputQ C f (.ref a) (.int (i + j)) M2 fun M3 => D.nx ds M3
  | _ => False
def methQ (C : Addr) (m : Str) (sp : DSp) (x : D) (ds : DSt) (t : TDA) (M : Mm) (Q : DQ) : Prop := match x with
  | .ref a => (match insOf M a with | some (C', fs) => (C' = C ∧ fs.lookup m = none) ∧ t ds M fun xs M2 => sp (.ref a :: xs) M2 Q | none => False)
  | _ => False
def dMeth (C : Addr) (m : Str) (sp : DSp) (to : TDE) (t : TDA) : TDE := fun ds M Q => to ds M fun x M1 => methQ C m sp x ds t M1 Q
def dMake (C : Addr) (sp : DSp) (t : TDA) : TDE := fun ds M Q => t ds M fun xs M1 => ∀ x, M1 x = none → sp (.ref x :: xs) (mup M1 x (.ins C [])) fun v M2 => v = .non ∧ Q (.ref x) M2
section
variable {X : Cx} {k : Nat} {f C : Addr} {fd : FuncData} {ps : List Str} {sp : DSp} {x m g : Str} {p pos apos pos' tpos : Pos} {e o : Expr} {es : List Expr} {t : TDA} {te to : TDE}
theorem je_fld (c : FldOk X.K C g) (he : JE X e te) (hb : attributeBase e g X.env (eval e X.env) = eval e X.env := by rfl) : JE X (.Attribute e g pos) (dFld C g te) := by
  obtain ⟨u, q, gg⟩ := he
  refine je_pe (pe_fld q hb) fun ds σ H M Q Q0 s m q k => ?_
  refine gg ds σ H M _ _ s m q fun v H1 d M1 r1 m1 g1 q1 => ?_
  unfold fldQ at q1
  split at q1
  · rename_i a
    split at q1
    · rename_i C' fs e1
      obtain ⟨rfl, q1⟩ := q1
      split at q1
      · rename_i d e2
        cases r1.ref_v
        obtain ⟨dx, vs, h1, r2⟩ := m1.ob a _ (of_insOf e1)
        obtain ⟨v, e3, r3⟩ := r2.look e2
        exact ⟨a, C', dx, vs, v, rfl, h1, c.c, c.n, e3, k v H1 d M1 r3 m1 g1 q1⟩
      · exact q1.elim
    · exact q1.elim
  · exact q1.elim
theorem fput_go {W : WX} {M0 M : Mm} {H0 H : HF} {D0 : Ends} {D1 : DEnds} {ds : DSt} {σ : L2.St} {y : D} {v : V} {a : Addr} {x : D} (c : FldOk X.K C g) (l : Link X.K W M0 H0 D0 D1) (gg : GG M0 H0 M H) (s : SR X.K H ds σ) (m : MR X.K M H) (rx : VR X.K H x (.ref a)) (ry : VR X.K H y v)
    (q : fputQ C g x y M fun M3 => D1.nx ds M3) : ∃ dx fs, H.h a = some (.ins C dx fs) ∧ fs.length < 1000 ∧ D0.nx σ (upd H.h a (.ins C dx (putF g v fs))) := by
  unfold fputQ at q
  split at q
  · rename_i b
    cases rx
    split at q
    · rename_i C' fs e1
      obtain ⟨⟨rfl, hl⟩, q⟩ := q
      obtain ⟨dx, vs, h1, r2⟩ := m.ob a _ (of_insOf e1)
      refine ⟨dx, vs, h1, by rw [← r2.len]; exact hl, ?_⟩
      have t := TX.put (u := .ins C' dx (putF g v vs)) m (of_insOf e1)
      have gp : GG M H (mup M a (.ins C' (putFD g y fs))) (H.up a (.ins C' dx (putF g v vs))) := GG.put (of_insOf e1)
      exact l.nx σ ds _ _ (gg.trans gp) (s.gg m gp) (m.put (w := .ins C' (putFD g y fs)) (of_insOf e1) ⟨dx, _, upd_same, (r2.mono t).putf (VR.mono t _ _ ry)⟩) q
    · exact q.elim
  · exact q.elim
theorem fput_ref {x y : D} {M : Mm} {N : Mm → Prop} (q : fputQ C g x y M N) : ∃ a, x = .ref a := by
  cases x with
  | ref a => exact ⟨a, rfl⟩
  | _ => exact q.elim
theorem js_fput {W : WX} (c : FldOk X.K C g) (ho : JE X o to) (he : JE X e te) (hs : swapsWith e (some (.Attribute o g pos')) pos.line X.env = pure false := by rfl) : JS X W (.Assign [.Attribute o g pos'] e pos) (dFput C g te to) := by
  obtain ⟨u, p, gg1⟩ := ho
  obtain ⟨ue, pe, ge⟩ := he
  refine ⟨_, ps_fld p pe hs, fun M0 H0 D0 D1 l ds σ H M gg s m q => ?_⟩
  refine ge ds σ H M _ _ s m q fun v H1 d M1 r1 m1 g1 q1 => ?_
  refine gg1 ds σ H1 M1 _ _ (s.gg m g1) m1 q1 fun w H2 d2 M2 r2 m2 g2 q2 => ?_
  obtain ⟨a, rfl⟩ := fput_ref q2
  cases r2.ref_v
  obtain ⟨dx, fs, h1, h2, h3⟩ := fput_go c l ((gg.trans g1).trans g2) (s.gg m (g1.trans g2)) m2 r2 (VR.mono (g2.tx m1) _ _ r1) q2
  exact ⟨a, C, dx, fs, rfl, h1, c.c, c.n, h2, h3⟩
theorem je_meth {pl : Sem Bool} (c : L2.Cls X.K C) (hm : Meth X.K C m f) (F : FnOk X.prog X.w X.K X.mg X.base CX0 k f fd ps (toSp X.K sp)) (hr : Room k X.A) (hb : Binds X.K fd ps []) (ho : JE X o to) (ha : JA X (e :: es) t)
    (hst : starEach (e :: es) X.env = (false, eval e X.env) :: starEach es X.env := by rfl) (hpl : (backTo pos (starEach es X.env)).any (·.1) = false := by rfl)
    (ht : eval (.Call (.Attribute o m apos) (e :: es) [] pos) X.env = (do
      let ov ← eval o X.env
      standAt apos.atName
      let (f, first) ← holding [ov] (getMethod ov m pl)
      callWith pos f first (backTo pos (starEach (e :: es) X.env)) (backToKw pos (keywordEach [] X.env))) := by rfl) :
    JE X (.Call (.Attribute o m apos) (e :: es) [] pos) (dMeth C m sp to t) := by
  obtain ⟨uo, po, go⟩ := ho
  obtain ⟨ua, pa, ga⟩ := ha
  refine je_pe (pe_meth (pl := pl) po c hm F hr hb .nil pass0 pa hst hpl ht) fun ds σ H M Q Q0 s m q k => ?_
  refine go ds σ H M _ _ s m q fun v H1 d M1 r1 m1 g1 q1 => ?_
  unfold methQ at q1
  split at q1
  · rename_i a
    split at q1
    · rename_i C' fs e1
      obtain ⟨⟨rfl, hl⟩, q1⟩ := q1
      cases r1.ref_v
      obtain ⟨dx, vs, h1, r2⟩ := m1.ob a _ (of_insOf e1)
      refine ⟨a, dx, vs, rfl, h1, r2.lookN hl, ?_⟩
      refine ga ds σ H1 M1 _ _ (s.gg m g1) m1 q1 fun ws H2 es M2 r3 m2 g2 q2 => ?_
      rw [List.append_nil]
      exact ⟨.ref a :: es, M2, Q, H2, rfl, .cons (.ref a) r3, m2, q2, fun v H' d M' r' m' g' q' => k v H' d M' r' m' ((g1.trans g2).trans g') q'⟩
    · exact q1.elim
  · exact q1.elim
theorem make_go {E0 : XK} {ds : List D} {M1 : Mm} {H1 : HF} {vs : List V} {Q : DQ} {Q0 : VK} (r : VRs X.K H1 ds vs) (m1 : MR X.K M1 H1) (q : ∀ x, M1 x = none → sp (.ref x :: ds) (mup M1 x (.ins C [])) fun v M2 => v = .non ∧ Q (.ref x) M2)
    (k : ∀ x H' M', MR X.K M' H' → GG M1 H1 M' H' → Q (.ref x) M' → Q0 (.ref x) H'.h) (x dx : Addr) (hx : H1.h x = none) (hd : H1.h dx = none) (ne : dx ≠ x) :
    toSp X.K sp (.ref x :: (vs ++ [])) (upd (upd H1.h dx (.own x)) x (.ins C dx [])) (fun v H2 => v = .non ∧ Q0 (.ref x) H2) E0 := by
  rw [List.append_nil]
  have m2 : MR X.K M1 (H1.up dx (.own x)) := m1.newT hd
  have g2 : GG M1 H1 M1 (H1.up dx (.own x)) := GG.newT hd
  have hx2 : (H1.up dx (.own x)).h x = none := by
    show upd H1.h dx (.own x) x = none
    rw [upd_ne ne.symm]; exact hx
  have t1 := g2.tx m1
  have t2 : TX X.K (H1.up dx (.own x)) ((H1.up dx (.own x)).up x (.ins C dx [])) := TX.new m2 hx2
  refine ⟨.ref x :: ds, mup M1 x (.ins C []), _, (H1.up dx (.own x)).up x (.ins C dx []), rfl, .cons (.ref x) (VRs.mono t2 _ _ (VRs.mono t1 _ _ r)), m2.new hx2 ⟨dx, [], upd_same, .nil⟩, q x (m1.free hx), fun v H' d M' r' m' g' q' => ?_⟩
  obtain ⟨rfl, q'⟩ := q'
  exact ⟨r'.non_v, k x H' M' m' ((g2.trans (GG.new hx2)).trans g') q'⟩
theorem je_make (M : Mk X.K C f) (F : FnOk X.prog X.w X.K X.mg X.base CX0 k f fd ps (toSp X.K sp)) (hr : Room (k + 1) X.A) (hg : Gl X x) (hm : X.mg x = some (.ref C)) (hb : Binds X.K fd ps []) (ha : JA X (e :: es) t)
    (hdb : (x == ("__debug__" : Str)) = false := by decide) (he : starEach (e :: es) X.env = (false, eval e X.env) :: starEach es X.env := by rfl) (hpl : (backTo pos (starEach es X.env)).any (·.1) = false := by rfl) :
    JE X (.Call (.Name x p) (e :: es) [] pos) (dMake C sp t) := by
  obtain ⟨u, q, g⟩ := ha
  refine je_pe (pe_make M F hr hg hm hb .nil pass0 q hdb he hpl) fun ds σ H M Q Q0 s m q k => ?_
  refine g ds σ H M _ _ s m q fun vs H1 es M1 r1 m1 g1 q1 => ?_
  exact fun x dx hx hd ne => make_go r1 m1 q1 (fun x H' M' m' g' q' => k (.ref x) H' _ M' (.ref x) m' (g1.trans g') q') x dx hx hd ne
end
end DM
namespace DM
open PySem L2
open PyProof.Rows (b2i)
def leS (a b : Str) : Bool := decide (a.cps.toList ≤ b.cps.toList)
theorem leD_str (a b : Str) : leD (.str a) (.str b) = leS a b := congrFun (congrFun (PySem.W.dataLe_str (fun x : Str => x)) a) b
theorem leS_trans {a b c : Str} (h : leS a b = true) (h' : leS b c = true) : leS a c = true := decide_eq_true (List.le_trans (of_decide_eq_true h) (of_decide_eq_true h'))
theorem leS_total (a b : Str) : (leS a b || leS b a) = true := by
  rcases List.le_total a.cps.toList b.cps.toList with h | h
  · simp [leS, h]
  · simp [leS, h]
theorem leS_anti {a b : Str} (h : leS a b = true) (h' : leS b a = true) : a = b := cps_inj (List.le_antisymm (of_decide_eq_true h) (of_decide_eq_true h'))
def RisS (l : List Str) : Prop := l.Pairwise fun a b => leS a b = true ∧ a ≠ b
theorem ris_eq : ∀ {xs ys : List Str}, RisS xs → RisS ys → (∀ z, z ∈ xs ↔ z ∈ ys) → xs = ys
  | [], [], _, _, _ => rfl
  | [], y :: ys, _, _, h => absurd ((h y).mpr List.mem_cons_self) List.not_mem_nil
  | x :: xs, [], _, _, h => absurd ((h x).mp List.mem_cons_self) List.not_mem_nil
  | x :: xs, y :: ys, hx, hy, h => by
    obtain ⟨hx1, hx2⟩ := List.pairwise_cons.mp hx
    obtain ⟨hy1, hy2⟩ := List.pairwise_cons.mp hy
    have e : x = y := by
      rcases List.mem_cons.mp ((h x).mp List.mem_cons_self) with e | hm
      · exact e
      · rcases List.mem_cons.mp ((h y).mpr List.mem_cons_self) with e | hm2
        · exact e.symm
        · exact leS_anti (hx1 y hm2).1 (hy1 x hm).1
    subst e
    have : xs = ys := ris_eq hx2 hy2 fun z => ⟨fun hz => by
      rcases List.mem_cons.mp ((h z).mp (List.mem_cons_of_mem _ hz)) with rfl | hm
      · exact absurd rfl (hx1 z hz).2
      · exact hm, fun hz => by
      rcases List.mem_cons.mp ((h z).mpr (List.mem_cons_of_mem _ hz)) with rfl | hm
      · exact absurd rfl (hy1 z hz).2
      · exact hm⟩
    rw [this]
theorem sortS_ris {l : List Str} (h : l.Nodup) : RisS (sortS l) := by
  have h1 : (sortS l).Pairwise fun a b => leD (.str a) (.str b) = true := List.pairwise_mergeSort (fun a b c h h' => by rw [leD_str] at *; exact leS_trans h h') (fun a b => by rw [leD_str, leD_str]; exact leS_total a b) l
  have h2 : (sortS l).Nodup := (sortS_perm l).nodup_iff.mpr h
  exact (h1.and h2).imp fun ⟨a, b⟩ => ⟨by rw [← leD_str]; exact a, b⟩
theorem ris_nodup {l : List Str} (h : RisS l) : l.Nodup := h.imp fun x => x.2
theorem sortS_ext {l l' : List Str} (h : l.Nodup) (h' : l'.Nodup) (e : ∀ z, z ∈ l ↔ z ∈ l') : sortS l = sortS l' := ris_eq (sortS_ris h) (sortS_ris h') fun z => by rw [sortS_mem, sortS_mem, e]
def oneEach (l : List Str) : List Str := l.foldl (fun acc x => if x ∈ acc then acc else acc ++ [x]) []
theorem oneEach_go : ∀ (l acc : List Str), acc.Nodup → ((l.foldl (fun acc x => if x ∈ acc then acc else acc ++ [x]) acc).Nodup ∧ ∀ z, z ∈ l.foldl (fun acc x => if x ∈ acc then acc else acc ++ [x]) acc ↔ z ∈ acc ∨ z ∈ l)
  | [], acc, h => ⟨h, by simp⟩
  | x :: l, acc, h => by
    rw [List.foldl_cons]
    by_cases hx : x ∈ acc
    · rw [if_pos hx]
      obtain ⟨h1, h2⟩ := oneEach_go l acc h
      exact ⟨h1, fun z => by rw [h2]; simp only [List.mem_cons]; exact ⟨fun h => h.elim .inl (fun h => .inr (.inr h)), fun h => h.elim .inl fun h => h.elim (fun e => .inl (e ▸ hx)) .inr⟩⟩
    · rw [if_neg hx]
      obtain ⟨h1, h2⟩ := oneEach_go l (acc ++ [x]) (by rw [List.nodup_append]; exact ⟨h, by simp, fun a ha b hb => by rw [List.mem_singleton.mp hb]; rintro rfl; exact hx ha⟩)
      exact ⟨h1, fun z => by rw [h2]; simp [or_assoc]⟩
theorem oneEach_nodup (l : List Str) : (oneEach l).Nodup := (oneEach_go l [] (by simp)).1
theorem oneEach_mem {l : List Str} {z : Str} : z ∈ oneEach l ↔ z ∈ l := by rw [oneEach, (oneEach_go l [] (by simp)).2]; simp
def rise (l : List Str) : List Str := sortS (oneEach l)
theorem rise_ris (l : List Str) : RisS (rise l) := sortS_ris (oneEach_nodup l)
theorem rise_mem {l : List Str} {z : Str} : z ∈ rise l ↔ z ∈ l := by rw [rise, sortS_mem, oneEach_mem]
theorem rise_len (l : List Str) : (rise l).length ≤ l.length := by
  rw [rise, sortS_len]
  have key : ∀ (l acc : List Str), (l.foldl (fun acc x => if x ∈ acc then acc else acc ++ [x]) acc).length ≤ acc.length + l.length := by
    intro l
    induction l with
    | nil => intro acc; simp
    | cons x l ih =>
      intro acc
      rw [List.foldl_cons, List.length_cons]
      have h1 := ih (if x ∈ acc then acc else acc ++ [x])
      have h2 : (if x ∈ acc then acc else acc ++ [x]).length ≤ acc.length + 1 := by split <;> simp
      omega
  have := key l []
  rw [List.length_nil, Nat.zero_add] at this
  exact this
section
variable {ds : DSt} {M : Mm} {a : Addr}
theorem dSortSet_e {te : TDE} {Q : List D → Mm → Prop} : dSortSet te ds M Q = te ds M fun x M1 => sortSetQ x M1 Q := (rfl)
theorem keysD_strs (l : List Str) : keysD (l.map D.str) = some (l.map Sum.inr) := by
  have := keysD_map (l.map Sum.inr)
  rwa [List.map_map] at this
theorem sortSet_W {x : D} {l W : List Str} {Q : List D → Mm → Prop} (e : rdS M x = some (l.map D.str)) (hW : ∀ z ∈ l, z ∈ W) (hl : W.length ≤ 4000) (h : Q ((rise l).map D.str) M) : sortSetQ x M Q := by
  unfold sortSetQ
  simp only [e, keysD_strs]
  refine ⟨⟨fun ks nd hs => ?_, sortOk_str⟩, fun ks nd hk => ?_⟩
  · have := nodup_le (m := W.map Sum.inr) nd fun k hk => by
      obtain ⟨z, hz, rfl⟩ := List.mem_map.mp (hs k hk)
      exact List.mem_map.mpr ⟨z, hW z hz, rfl⟩
    rw [List.length_map] at this
    omega
  obtain ⟨l', rfl⟩ : ∃ l' : List Str, ks = l'.map Sum.inr := by
    have : ∀ k ∈ ks, ∃ s : Str, Sum.inr s = k := fun k hk' => by
      obtain ⟨s, _, e⟩ := List.mem_map.mp ((hk k).mp hk')
      exact ⟨s, e⟩
    clear nd hk
    induction ks with
    | nil => exact ⟨[], rfl⟩
    | cons k ks ih =>
      obtain ⟨s, rfl⟩ := this k List.mem_cons_self
      obtain ⟨l', rfl⟩ := ih fun k hk => this k (List.mem_cons_of_mem _ hk)
      exact ⟨s :: l', rfl⟩
  have nd' : l'.Nodup := List.Pairwise.of_map (S := (· ≠ ·)) Sum.inr (fun a b h e => h (e ▸ rfl)) nd
  have hm : ∀ z, z ∈ l' ↔ z ∈ l := fun z => by
    have := hk (Sum.inr z)
    simpa using this
  rw [show (l'.map Sum.inr).map kD = l'.map D.str by rw [List.map_map]; rfl, sortD_strs, sortS_ext nd' (oneEach_nodup l) (fun z => by rw [hm, oneEach_mem])]
  exact h
theorem sortSet_go {x : D} {l : List Str} {Q : List D → Mm → Prop} (e : rdS M x = some (l.map D.str)) (hl : l.length ≤ 4000) (h : Q ((rise l).map D.str) M) : sortSetQ x M Q := sortSet_W e (fun _ h => h) hl h
end
end DM
namespace DM
open PySem L2
open PyProof.Rows (b2i)
def setdQ (x y z : D) (M : Mm) (Q : DQ) : Prop := match x, keyD y with
  | .ref a, some k => (match dicOf M a with | some kvs => kvs.length < sizeLine ∧ (match valD kvs k with | some v => Q v M | none => Q z (mup M a (.dic (putD kvs k z)))) | none => False)
  | _, _ => False
def dSetd (to te tf : TDE) : TDE := fun ds M Q => to ds M fun x M1 => isDic x M1 ∧ te ds M1 fun y M2 => tf ds M2 fun z M3 => setdQ x y z M3 Q
section
variable {X : Cx} {o e f : Expr} {to te tf : TDE} {td ty tx : TE} {apos cpos p pos : Pos} {es : List Expr} {t : TDA} {k : Nat}
theorem je_setd (ho : JE X o to) (he : JE X e te) (hf : JE X f tf) (m : M2 X o "setdefault" apos e f cpos := by exact ⟨rfl, rfl, rfl, rfl⟩) : JE X (.Call (.Attribute o "setdefault" apos) [e, f] [] cpos) (dSetd to te tf) := by
  obtain ⟨u, p, g⟩ := ho
  obtain ⟨u1, p1, g1⟩ := he
  obtain ⟨u2, p2, g2⟩ := hf
  refine je_pe (pe_dsetd p p1 p2 m) fun ds σ H M Q Q0 s mm q kk => ?_
  refine g ds σ H M _ _ s mm q fun v H1 d M1 r1 m1 gg1 q1 => ?_
  obtain ⟨hd, q1⟩ := q1
  obtain ⟨a, rfl, hd⟩ := isDic_of r1 m1 hd
  refine ⟨a, rfl, hd, ?_⟩
  refine g1 ds σ H1 M1 _ _ (s.gg mm gg1) m1 q1 fun w H2 d2 M2 r2 m2 gg2 q2 => ?_
  refine g2 ds σ H2 M2 _ _ (s.gg mm (gg1.trans gg2)) m2 q2 fun z H3 d3 M3 r3 m3 gg3 q3 => ?_
  unfold setdQ at q3
  split at q3
  · rename_i b key e1
    cases r1
    split at q3
    · rename_i kvs e2
      obtain ⟨hz, q3⟩ := q3
      obtain ⟨vs, h1, r4⟩ := m3.ob _ _ (of_dicOf e2)
      rw [keyD_v r2 e1]
      refine ⟨vs, key, h1, rfl, by rw [← r4.length]; exact hz, fun v hv => ?_, fun hn => ?_⟩
      · cases e3 : valD kvs key with
        | none => rw [r4.valN e3] at hv; cases hv
        | some d4 =>
          rw [e3] at q3
          obtain ⟨z4, e4, r5⟩ := r4.val e3
          rw [hv] at e4
          cases e4
          exact kk _ H3 _ M3 r5 m3 ((gg1.trans gg2).trans gg3) q3
      · have e3 : valD kvs key = none := by
          cases e3 : valD kvs key with
          | none => rfl
          | some d4 => obtain ⟨z4, e4, _⟩ := r4.val e3; rw [hn] at e4; cases e4
        rw [e3] at q3
        have t := TX.put (u := .dK (putK vs key z)) m3 (of_dicOf e2)
        have gp : GG M3 H3 (mup M3 a (.dic (putD kvs key d3))) (H3.up a (.dK (putK vs key z))) := GG.put (of_dicOf e2)
        exact kk z (H3.up a _) d3 _ (VR.mono t _ _ r3) (m3.put (w := .dic (putD kvs key d3)) (of_dicOf e2) ⟨_, upd_same, (r4.mono t).put (VR.mono t _ _ r3)⟩) (((gg1.trans gg2).trans gg3).trans gp) q3
    · exact q3.elim
  · exact q3.elim
end
end DM
namespace DM
open PySem L2
open PyProof.Rows (b2i)
section
variable {ds : DSt} {M : Mm} {a C : Addr} {Q : DQ} {x y z v d : D} {f m : Str} {fs : List (Str × D)} {sp : DSp} {te to tf : TDE} {t : TDA} {D0 : DEnds} {kvs : List (Key × D)} {s : TDS} {xs : List D}
theorem dFld_e : dFld C f te ds M Q = te ds M fun x M1 => fldQ C f x M1 Q := (rfl)
theorem fldQ_r : fldQ C f (.ref a) M Q = someI (insOf M a) fun p => p.1 = C ∧ someI (p.2.lookup f) fun d => Q d M := by
  unfold fldQ someI
  cases e : insOf M a with
  | none => simp only [e]
  | some p =>
    obtain ⟨C', fs⟩ := p
    simp only [e]
    cases List.lookup f fs <;> rfl
theorem fld_go (h : insOf M a = some (C, fs)) (e : fs.lookup f = some d) (k : Q d M) : fldQ C f (.ref a) M Q := by
  rw [fldQ_r, h]
  exact ⟨rfl, by simp only [e]; exact k⟩
theorem dFput_e : dFput C f te to D0 ds M = te ds M fun y M1 => to ds M1 fun x M2 => fputQ C f x y M2 fun M3 => D0.nx ds M3 := (rfl)
theorem fput_g {N : Mm → Prop} (h : insOf M a = some (C, fs)) (hl : fs.length < 1000) (k : N (mup M a (.ins C (putFD f y fs)))) : fputQ C f (.ref a) y M N := by
  unfold fputQ
  simp only [h]
  exact ⟨⟨trivial, hl⟩, k⟩
def dFadd2 (C : Addr) (f : Str) (a : Addr) (i : Int) (y : D) (ds : DSt) (M2 : Mm) (N : DSt → Mm → Prop) : Prop := match y with
  | .int j => fputQ C f (.ref a) (.int (i + j)) M2 fun M3 => N ds M3
  | _ => False
theorem dFadd_e : dFadd C f to te D0 ds M = to ds M fun x M1 => faddQ1 C f x M1 fun a i => te ds M1 fun y M2 => dFadd2 C f a i y ds M2 D0.nx := (rfl)
theorem dFadd2_i {a : Addr} {i j : Int} {N : DSt → Mm → Prop} : dFadd2 C f a i (.int j) ds M N = fputQ C f (.ref a) (.int (i + j)) M fun M3 => N ds M3 := (rfl)
theorem dMeth_e : dMeth C m sp to t ds M Q = to ds M fun x M1 => methQ C m sp x ds t M1 Q := (rfl)
theorem meth_g (h : insOf M a = some (C, fs)) (e : fs.lookup m = none) (k : t ds M fun xs M2 => sp (.ref a :: xs) M2 Q) : methQ C m sp (.ref a) ds t M Q := by
  unfold methQ
  simp only [h]
  exact ⟨⟨trivial, e⟩, k⟩
theorem dMake_e : dMake C sp t ds M Q = t ds M fun xs M1 => ∀ x, M1 x = none → sp (.ref x :: xs) (mup M1 x (.ins C [])) fun v M2 => v = .non ∧ Q (.ref x) M2 := (rfl)
theorem dSetd_e : dSetd to te tf ds M Q = to ds M fun x M1 => isDic x M1 ∧ te ds M1 fun y M2 => tf ds M2 fun z M3 => setdQ x y z M3 Q := (rfl)
theorem setd_s {w : Str} (h : dicOf M a = some kvs) (hl : kvs.length < sizeLine) (k1 : ∀ v, valD kvs (.inr w) = some v → Q v M) (k2 : valD kvs (.inr w) = none → Q z (mup M a (.dic (putD kvs (.inr w) z)))) : setdQ (.ref a) (.str w) z M Q := by
  unfold setdQ keyD
  simp only [h]
  refine ⟨hl, ?_⟩
  cases e : valD kvs (.inr w) with
  | none => exact k2 e
  | some v => exact k1 v e
theorem sa_fput {a b : TDE} (h : ∀ Nx, KEq Nx (s D0) → dFput C f a b { D0 with nx := Nx } ds M) : dSeq (dFput C f a b) s D0 ds M := h _ fun _ _ h => h
theorem sa_fadd {a b : TDE} (h : ∀ Nx, KEq Nx (s D0) → dFadd C f a b { D0 with nx := Nx } ds M) : dSeq (dFadd C f a b) s D0 ds M := h _ fun _ _ h => h
end
end DM
namespace DM
open PySem L2
open PyProof.Rows (b2i)
theorem valT_put {κ δ : Type} [DecidableEq κ] (k : κ) (d : δ) : ∀ (kvs : List (κ × δ)) (j : κ), valT (putT kvs k d) j = if j = k then some d else valT kvs j := by
  have rep : ∀ (kvs : List (κ × δ)) (j : κ), valT (kvs.map fun kv => if kv.1 = k then (kv.1, d) else kv) j = if j = k then (if (kvs.any fun kv => decide (kv.1 = k)) = true then some d else none) else valT kvs j := by
    intro kvs
    induction kvs with
    | nil => intro j; by_cases e : j = k <;> simp [valT, e]
    | cons p kvs ih =>
      intro j
      have ih := ih j
      unfold valT at *
      rw [List.map_cons, List.find?_cons, List.any_cons]
      by_cases h : p.1 = k
      · rw [if_pos h]
        by_cases e : j = k
        · subst e; simp [h]
        · have : ¬ p.1 = j := fun h' => e (h'.symm.trans h)
          simp only [this, decide_false]
          rw [ih, if_neg e, if_neg e, List.find?_cons]
          simp only [this, decide_false]
      · rw [if_neg h]
        by_cases e : p.1 = j
        · have : ¬ j = k := fun h' => h (e.trans h')
          simp [e, this]
        · simp only [e, decide_false]
          rw [ih, List.find?_cons]
          simp only [e, decide_false, h, Bool.false_or]
  intro kvs j
  unfold putT
  by_cases h : (kvs.any fun kv => decide (kv.1 = k)) = true
  · rw [if_pos h, rep, if_pos h]
  · rw [if_neg h]
    unfold valT
    rw [List.find?_append]
    by_cases e : j = k
    · subst e
      have : kvs.find? (fun kv => decide (kv.1 = j)) = none := by
        rw [List.find?_eq_none]
        intro x hx hd
        exact h (List.any_eq_true.mpr ⟨x, hx, hd⟩)
      simp [this]
    · have : ¬ k = j := fun h' => e h'.symm
      rw [if_neg e, List.find?_cons]
      simp [this]
theorem valD_put (k : Key) (d : D) (kvs : List (Key × D)) (j : Key) : valD (putD kvs k d) j = if j = k then some d else valD kvs j := valT_put k d kvs j
theorem putD_len (k : Key) (d : D) (kvs : List (Key × D)) : (putD kvs k d).length ≤ kvs.length + 1 := by
  unfold putD; split <;> simp
theorem dicOf_mup_same2 {M : Mm} {a : Addr} {kvs : List (Key × D)} : dicOf (mup M a (.dic kvs)) a = some kvs := dicOf_some mup_same
theorem dic_ne_lst {M : Mm} {a b : Addr} {kvs : List (Key × D)} {xs : List D} (h : dicOf M a = some kvs) (h' : lstOf M b = some xs) : a ≠ b := by
  rintro rfl
  have := of_lstOf h'
  rw [of_dicOf h] at this
  cases this
def TxK (ms : List (Key × D)) : Prop := (ms.map (·.1)).Nodup ∧ ∀ k ∈ ms.map (·.1), ∃ z, k = .inr z
theorem TxK.put {ms : List (Key × D)} {z : Str} {d : D} (h : TxK ms) : TxK (putD ms (.inr z) d) := by
  unfold putD
  by_cases c : (ms.any fun kv => decide (kv.1 = .inr z)) = true
  · rw [if_pos c]
    have e : (ms.map fun kv => if kv.1 = .inr z then (kv.1, d) else kv).map (·.1) = ms.map (·.1) := by
      rw [List.map_map]
      refine List.map_congr_left fun kv _ => ?_
      simp only [Function.comp]
      split <;> rfl
    unfold TxK
    rw [e]; exact h
  · rw [if_neg c]
    unfold TxK
    rw [List.map_append, List.map_cons, List.map_nil]
    have hn : (.inr z : Key) ∉ ms.map (·.1) := fun hm => c (by
      obtain ⟨kv, h1, h2⟩ := List.mem_map.mp hm
      exact List.any_eq_true.mpr ⟨kv, h1, decide_eq_true h2⟩)
    refine ⟨List.nodup_append.mpr ⟨h.1, by simp, fun a ha b hb e => ?_⟩, fun k hk => ?_⟩
    · rw [List.mem_singleton.mp hb] at e; exact hn ((show a = .inr z from e) ▸ ha)
    · rcases List.mem_append.mp hk with hk | hk
      · exact h.2 k hk
      · exact ⟨z, List.mem_singleton.mp hk⟩
structure Lds (M : Mm) (l : Addr) (pA : Str → Addr) (qA : Str → Str → Addr) (S : Str → Prop) (T : Str → Str → Prop) (L : Str → Str → List Str) (n : Nat) : Prop where
  ld : ∃ kvs, dicOf M l = some kvs ∧ kvs.length ≤ n ∧ ∀ s d, valD kvs (.inr s) = some d ↔ S s ∧ d = .ref (pA s)
  inn : ∀ s, S s → ∃ ms, dicOf M (pA s) = some ms ∧ (ms.length ≤ n ∧ TxK ms) ∧ ∀ m d, valD ms (.inr m) = some d ↔ T s m ∧ d = .ref (qA s m)
  lst : ∀ s m, T s m → lstOf M (qA s m) = some ((L s m).map .str)
  out : ∀ s m, ¬ T s m → L s m = []
  ts : ∀ s m, T s m → S s
  pl : ∀ s, S s → pA s ≠ l
  pp : ∀ s s', S s → S s' → pA s = pA s' → s = s'
  qq : ∀ s m s' m', T s m → T s' m' → qA s m = qA s' m' → s = s' ∧ m = m'
section
variable {M M' : Mm} {l p0 q0 : Addr} {pA : Str → Addr} {qA : Str → Str → Addr} {S : Str → Prop} {T : Str → Str → Prop} {L : Str → Str → List Str} {n : Nat} {s m t : Str} {kvs ms : List (Key × D)}
theorem dicOf_sub (e : Sub M M') {a : Addr} {kvs : List (Key × D)} (h : dicOf M a = some kvs) : dicOf M' a = some kvs := dicOf_some (e a _ (of_dicOf h))
theorem lstOf_sub (e : Sub M M') {a : Addr} {xs : List D} (h : lstOf M a = some xs) : lstOf M' a = some xs := lstOf_some (e a _ (of_lstOf h))
theorem insOf_sub (e : Sub M M') {a : Addr} {x : Addr × List (Str × D)} (h : insOf M a = some x) : insOf M' a = some x := insOf_some (e a _ (of_insOf h))
theorem Lds.frame (h : Lds M l pA qA S T L n) (e : Sub M M') : Lds M' l pA qA S T L n where
  ld := let ⟨kvs, h1, h2⟩ := h.ld; ⟨kvs, dicOf_sub e h1, h2⟩
  inn := fun s hs => let ⟨ms, h1, h2⟩ := h.inn s hs; ⟨ms, dicOf_sub e h1, h2⟩
  lst := fun s m ht => lstOf_sub e (h.lst s m ht)
  out := h.out
  ts := h.ts
  pl := h.pl
  pp := h.pp
  qq := h.qq
theorem Lds.mono {n' : Nat} (h : Lds M l pA qA S T L n) (e : n ≤ n') : Lds M l pA qA S T L n' where
  ld := let ⟨kvs, h1, h2, h3⟩ := h.ld; ⟨kvs, h1, Nat.le_trans h2 e, h3⟩
  inn := fun s hs => let ⟨ms, h1, h2, h3⟩ := h.inn s hs; ⟨ms, h1, ⟨Nat.le_trans h2.1 e, h2.2⟩, h3⟩
  lst := h.lst
  out := h.out
  ts := h.ts
  pl := h.pl
  pp := h.pp
  qq := h.qq
theorem Lds.none_of (h : Lds M l pA qA S T L n) (hk : dicOf M l = some kvs) (e : valD kvs (.inr s) = none) : ¬ S s := fun hs => by
  obtain ⟨k2, h1, _, h3⟩ := h.ld
  rw [hk] at h1
  cases h1
  have := (h3 s _).mpr ⟨hs, rfl⟩
  rw [e] at this
  cases this
open Classical in
theorem Lds.addS (h : Lds M l pA qA S T L n) (hk : dicOf M l = some kvs) (hs : ¬ S s) (hp : M p0 = none) :
    Lds (mup (mup M p0 (.dic [])) l (.dic (putD kvs (.inr s) (.ref p0)))) l (fun x => if x = s then p0 else pA x) qA (fun x => S x ∨ x = s) T L (n + 1) := by
  obtain ⟨k2, h1, hl, h3⟩ := h.ld
  rw [hk] at h1
  cases h1
  have npl : p0 ≠ l := by rintro rfl; rw [of_dicOf hk] at hp; cases hp
  have old : ∀ x, x ≠ l → M x ≠ none → mup (mup M p0 (.dic [])) l (.dic (putD kvs (.inr s) (.ref p0))) x = M x := fun x h1 h2 => by
    rw [mup_ne h1, mup_ne]
    rintro rfl; exact h2 hp
  refine ⟨⟨_, dicOf_mup_same2, by have := putD_len (.inr s) (.ref p0) kvs; omega, fun x d => ?_⟩, fun x hx => ?_, fun x m ht => ?_, h.out, fun x m ht => .inl (h.ts x m ht), fun x hx => ?_, fun x y hx hy e => ?_, h.qq⟩
  · rw [valD_put]
    by_cases e : x = s
    · subst e
      simp only [if_true, or_true, true_and, Option.some.injEq]
      exact eq_comm
    · rw [if_neg (fun h => e (Sum.inr.inj h)), h3, if_neg e]
      simp [e]
  · by_cases e : x = s
    · subst e
      rw [if_pos rfl]
      refine ⟨[], ?_, ⟨by simp, by simp [TxK]⟩, fun m d => ?_⟩
      · rw [dicOf_mup_ne npl]; exact dicOf_mup_same2
      · simp only [valD, List.find?_nil, Option.map_none, reduceCtorEq, false_iff]
        exact fun ⟨ht, _⟩ => hs (h.ts x m ht)
    · rw [if_neg e]
      have hx : S x := hx.resolve_right e
      obtain ⟨ms, g1, g2, g3⟩ := h.inn x hx
      refine ⟨ms, ?_, ⟨by have := g2.1; omega, g2.2⟩, g3⟩
      unfold dicOf
      rw [old _ (h.pl x hx) (by rw [of_dicOf g1]; simp)]
      exact g1
  · have g := h.lst x m ht
    unfold lstOf
    rw [old _ (dic_ne_lst hk g).symm (by rw [of_lstOf g]; simp)]
    exact g
  · by_cases e : x = s
    · subst e; rw [if_pos rfl]; exact npl
    · rw [if_neg e]; exact h.pl x (hx.resolve_right e)
  · have nw : ∀ z, S z → pA z ≠ p0 := fun z hz e => by
      obtain ⟨ms, g1, _⟩ := h.inn z hz
      rw [e] at g1
      rw [of_dicOf g1] at hp
      cases hp
    by_cases e1 : x = s
    · by_cases e2 : y = s
      · rw [e1, e2]
      · rw [if_pos e1, if_neg e2] at e
        exact absurd e.symm (nw y (hy.resolve_right e2))
    · by_cases e2 : y = s
      · rw [if_neg e1, if_pos e2] at e
        exact absurd e (nw x (hx.resolve_right e1))
      · rw [if_neg e1, if_neg e2] at e
        exact h.pp x y (hx.resolve_right e1) (hy.resolve_right e2) e
open Classical in
theorem Lds.addT (h : Lds M l pA qA S T L n) (hs : S s) (hm : dicOf M (pA s) = some ms) (ht : ¬ T s m) (hq : M q0 = none) :
    Lds (mup (mup M q0 (.lst [])) (pA s) (.dic (putD ms (.inr m) (.ref q0)))) l pA (fun x y => if x = s ∧ y = m then q0 else qA x y) S (fun x y => T x y ∨ (x = s ∧ y = m)) L (n + 1) := by
  obtain ⟨kvs, hk, hl, h3⟩ := h.ld
  obtain ⟨m2, g1, gl, g3⟩ := h.inn s hs
  rw [hm] at g1
  cases g1
  have nq : q0 ≠ pA s := by rintro rfl; rw [of_dicOf hm] at hq; cases hq
  have old : ∀ x, x ≠ pA s → M x ≠ none → mup (mup M q0 (.lst [])) (pA s) (.dic (putD ms (.inr m) (.ref q0))) x = M x := fun x h1 h2 => by
    rw [mup_ne h1, mup_ne]
    rintro rfl; exact h2 hq
  refine ⟨⟨kvs, ?_, by omega, h3⟩, fun x hx => ?_, fun x y ht' => ?_, fun x y hn => ?_, fun x y ht' => ?_, h.pl, h.pp, fun x y x' y' h1 h2 e => ?_⟩
  · unfold dicOf
    rw [old _ (h.pl s hs).symm (by rw [of_dicOf hk]; simp)]
    exact hk
  · by_cases e : x = s
    · subst e
      refine ⟨_, dicOf_mup_same2, ⟨by have := putD_len (.inr m) (.ref q0) ms; have := gl.1; omega, gl.2.put⟩, fun y d => ?_⟩
      rw [valD_put]
      by_cases e : y = m
      · subst e
        simp only [if_true, and_self, or_true, true_and, Option.some.injEq]
        exact eq_comm
      · rw [if_neg (fun h => e (Sum.inr.inj h)), g3, if_neg (fun h => e h.2)]
        simp [e]
    · obtain ⟨m3, k1, k2, k3⟩ := h.inn x hx
      refine ⟨m3, ?_, ⟨by have := k2.1; omega, k2.2⟩, fun y d => ?_⟩
      · unfold dicOf
        rw [old _ (fun h' => e (h.pp x s hx hs h')) (by rw [of_dicOf k1]; simp)]
        exact k1
      · rw [k3, if_neg (fun h => e h.1)]
        simp [e]
  · by_cases e : x = s ∧ y = m
    · rw [if_pos e, e.1, e.2, h.out s m ht, lstOf_mup_ne nq]
      exact lstOf_mup_same
    · rw [if_neg e]
      have g := h.lst x y (ht'.resolve_right e)
      unfold lstOf
      rw [old _ (dic_ne_lst hm g).symm (by rw [of_lstOf g]; simp)]
      exact g
  · exact h.out x y fun h' => hn (.inl h')
  · rcases ht' with ht' | ⟨rfl, _⟩
    · exact h.ts x y ht'
    · exact hs
  · have nw : ∀ a b, T a b → qA a b ≠ q0 := fun a b hab e => by
      have g := h.lst a b hab
      rw [e] at g
      rw [of_lstOf g] at hq
      cases hq
    by_cases e1 : x = s ∧ y = m
    · by_cases e2 : x' = s ∧ y' = m
      · exact ⟨e1.1.trans e2.1.symm, e1.2.trans e2.2.symm⟩
      · rw [if_pos e1, if_neg e2] at e
        exact absurd e.symm (nw _ _ (h2.resolve_right e2))
    · by_cases e2 : x' = s ∧ y' = m
      · rw [if_neg e1, if_pos e2] at e
        exact absurd e (nw _ _ (h1.resolve_right e1))
      · rw [if_neg e1, if_neg e2] at e
        exact h.qq _ _ _ _ (h1.resolve_right e1) (h2.resolve_right e2) e
open Classical in
theorem Lds.app (h : Lds M l pA qA S T L n) (ht : T s m) : Lds (mup M (qA s m) (.lst ((L s m ++ [t]).map .str))) l pA qA S T (fun x y => if x = s ∧ y = m then L s m ++ [t] else L x y) n := by
  obtain ⟨kvs, hk, hl, h3⟩ := h.ld
  have g := h.lst s m ht
  refine ⟨⟨kvs, by rw [dicOf_mup_ne (dic_ne_lst hk g)]; exact hk, hl, h3⟩, fun x hx => ?_, fun x y hxy => ?_, fun x y hn => ?_, h.ts, h.pl, h.pp, h.qq⟩
  · obtain ⟨ms, g1, g2⟩ := h.inn x hx
    exact ⟨ms, by rw [dicOf_mup_ne (dic_ne_lst g1 g)]; exact g1, g2⟩
  · by_cases e : x = s ∧ y = m
    · rw [if_pos e, e.1, e.2]; exact lstOf_mup_same
    · rw [if_neg e, lstOf_mup_ne (fun h' => e (h.qq _ _ _ _ hxy ht h'))]; exact h.lst x y hxy
  · rw [if_neg (by rintro ⟨rfl, rfl⟩; exact hn ht)]; exact h.out x y hn
end
def byE (E : List Ed) (s m : Str) : List Str := (E.filter fun e => decide (e.1 = s ∧ e.2.1 = m)).map (·.2.2)
theorem byE_snoc {E : List Ed} {s m t x y : Str} : byE (E ++ [(s, m, t)]) x y = if x = s ∧ y = m then byE E s m ++ [t] else byE E x y := by
  unfold byE
  rw [List.filter_append, List.map_append]
  by_cases e : x = s ∧ y = m
  · rw [if_pos e, e.1, e.2]; simp
  · rw [if_neg e, List.filter_cons]
    have : ¬ (s = x ∧ m = y) := fun h => e ⟨h.1.symm, h.2.symm⟩
    simp [this]
theorem byE_mem {E : List Ed} {s m z : Str} : z ∈ byE E s m ↔ (s, m, z) ∈ E := by
  unfold byE
  rw [List.mem_map]
  constructor
  · rintro ⟨⟨a, b, c⟩, he, rfl⟩
    obtain ⟨h1, h2⟩ := List.mem_filter.mp he
    obtain ⟨rfl, rfl⟩ : a = s ∧ b = m := by simpa using h2
    exact h1
  · intro h
    exact ⟨_, List.mem_filter.mpr ⟨h, by simp⟩, rfl⟩
theorem byE_len (E : List Ed) (s m : Str) : (byE E s m).length ≤ E.length := by
  unfold byE
  rw [List.length_map]
  exact List.length_filter_le _ _
structure LdsO (M0 M : Mm) (l : Addr) (pA : Str → Addr) (qA : Str → Str → Addr) (S : Str → Prop) (T : Str → Str → Prop) (L : Str → Str → List Str) (n : Nat) : Prop where
  to : Lds M l pA qA S T L n
  ol : M0 l = none
  op : ∀ s, S s → M0 (pA s) = none
  oq : ∀ s m, T s m → M0 (qA s m) = none
def LdsE (M0 M : Mm) (l : Addr) (E : List Ed) : Prop := ∃ pA qA S T L n, LdsO M0 M l pA qA S T L n ∧ n ≤ 2 * E.length ∧ ∀ s m, L s m = byE E s m
def RdrAt (M0 M : Mm) (Reader a : Addr) (E : List Ed) : Prop := ∃ l, insOf M a = some (Reader, [(("leads" : Str), D.ref l)]) ∧ LdsE M0 M l E
theorem LdsE.frame {M0 M M' : Mm} {l : Addr} {E : List Ed} (h : LdsE M0 M l E) (e : Sub M M') : LdsE M0 M' l E := let ⟨pA, qA, S, T, L, n, h1, h2⟩ := h; ⟨pA, qA, S, T, L, n, ⟨h1.to.frame e, h1.ol, h1.op, h1.oq⟩, h2⟩
theorem RdrAt.frame {M0 M M' : Mm} {Reader a : Addr} {E : List Ed} (h : RdrAt M0 M Reader a E) (e : Sub M M') : RdrAt M0 M' Reader a E := let ⟨l, h1, h2⟩ := h; ⟨l, insOf_sub e h1, h2.frame e⟩
theorem LdsE.nil {M0 M : Mm} {l : Addr} (h : dicOf M l = some []) (h0 : M0 l = none) : LdsE M0 M l [] :=
  ⟨fun _ => 0, fun _ _ => 0, fun _ => False, fun _ _ => False, fun _ _ => [], 0, ⟨⟨⟨[], h, by simp, fun s d => by simp [valD]⟩, fun _ h => h.elim, fun _ _ h => h.elim, fun _ _ _ => rfl, fun _ _ h => h.elim, fun _ h => h.elim, fun _ _ h => h.elim, fun _ _ _ _ h => h.elim⟩, h0, fun _ h => h.elim, fun _ _ h => h.elim⟩, by simp, fun _ _ => rfl⟩
theorem isLst_l {M : Mm} {a : Addr} {xs : List D} (h : lstOf M a = some xs) : isLst (.ref a) M := by
  rw [isLst_r, h]; rfl
open Classical in
theorem leads_go {M0 M : Mm} {l : Addr} {E : List Ed} {s m t : Str} {N : D → Mm → Prop} (h : LdsE M0 M l E) (hE : E.length ≤ 300000) (hb : ∀ p, M p = none → M0 p = none)
    (fin : ∀ M2, LdsE M0 M2 l (E ++ [(s, m, t)]) → (∀ x, M0 x ≠ none → M2 x = M x) → (∀ x, M x ≠ none → M2 x ≠ none) → N .non M2) :
    (rdDL M (.ref l)).isSome = true ∧ ∀ p, M p = none → setdQ (.ref l) (.str s) (.ref p) (mup M p (.dic [])) fun x M1 => (rdDL M1 x).isSome = true ∧ ∀ p, M1 p = none →
      setdQ x (.str m) (.ref p) (mup M1 p (.lst [])) fun x M1 => isLst x M1 ∧ appendR x [.str t] M1 N := by
  obtain ⟨pA, qA, S, T, L, n, h, hn, hL⟩ := h
  have big : ∀ k, k ≤ 1000000 → k < sizeLine := fun k hk => small_lt2 (by omega)
  obtain ⟨kvs, hk, hl, h3⟩ := h.to.ld
  refine ⟨by rw [rdDL_ref, hk]; rfl, fun p hp => ?_⟩
  have npl : l ≠ p := by rintro rfl; rw [of_dicOf hk] at hp; cases hp
  have key : ∀ M1 pA S, LdsO M0 M1 l pA qA S T L (n + 1) → S s → (∀ x, M0 x ≠ none → M1 x = M x) → (∀ x, M x ≠ none → M1 x ≠ none) → (rdDL M1 (.ref (pA s))).isSome = true ∧ ∀ p, M1 p = none →
      setdQ (.ref (pA s)) (.str m) (.ref p) (mup M1 p (.lst [])) fun x M1 => isLst x M1 ∧ appendR x [.str t] M1 N := by
    intro M1 pA S h1 hs fr al
    obtain ⟨ms, hm, ⟨hml, hmk⟩, hm3⟩ := h1.to.inn s hs
    refine ⟨by rw [rdDL_ref, hm]; rfl, fun q hq => ?_⟩
    have nq : pA s ≠ q := by rintro rfl; rw [of_dicOf hm] at hq; cases hq
    have key2 : ∀ M2 qA T, LdsO M0 M2 l pA qA S T L (n + 2) → T s m → (∀ x, M0 x ≠ none → M2 x = M x) → (∀ x, M x ≠ none → M2 x ≠ none) → isLst (.ref (qA s m)) M2 ∧ appendR (.ref (qA s m)) [.str t] M2 N := by
      intro M2 qA T h2 ht fr2 al2
      have g := h2.to.lst s m ht
      refine ⟨isLst_l g, append_go g ?_ ?_⟩
      · rw [List.length_map, hL]; exact big _ (by have := byE_len E s m; omega)
      · rw [show (L s m).map D.str ++ [D.str t] = (L s m ++ [t]).map D.str by simp]
        refine fin _ ⟨pA, qA, S, T, _, n + 2, ⟨h2.to.app ht, h2.ol, h2.op, h2.oq⟩, by simp; omega, fun x y => ?_⟩ (fun x hx => ?_) fun x hx => ?_
        · rw [byE_snoc]
          by_cases e : x = s ∧ y = m
          · rw [if_pos e, if_pos e, hL]
          · rw [if_neg e, if_neg e, hL]
        · rw [mup_ne (by rintro rfl; exact hx (h2.oq s m ht))]
          exact fr2 x hx
        · by_cases e : x = qA s m
          · rw [e, mup_same]; simp
          · rw [mup_ne e]; exact al2 x hx
    have hq0 : M0 q = none := by
      cases e : M0 q with
      | none => rfl
      | some o => rw [fr q (by rw [e]; simp)] at hq; rw [hb q hq] at e; cases e
    refine setd_s (by rw [dicOf_mup_ne nq]; exact hm) (big _ (by omega)) (fun v hv => ?_) fun hv => ?_
    · obtain ⟨ht, rfl⟩ := (hm3 m v).mp hv
      have h2 : LdsO M0 (mup M1 q (.lst [])) l pA qA S T L (n + 2) := ⟨(h1.to.frame (Sub.mup hq)).mono (by omega), h1.ol, h1.op, h1.oq⟩
      refine key2 _ _ _ h2 ht (fun x hx => ?_) fun x hx => ?_
      · rw [mup_ne (by rintro rfl; exact hx hq0)]; exact fr x hx
      · by_cases e : x = q
        · rw [e, mup_same]; simp
        · rw [mup_ne e]; exact al x hx
    · have ht : ¬ T s m := fun ht => by
        have := (hm3 m _).mpr ⟨ht, rfl⟩
        rw [hv] at this
        cases this
      have h2 := h1.to.addT hs hm ht hq
      have := key2 _ _ _ ⟨h2, h1.ol, h1.op, fun x y hxy => by
        by_cases e : x = s ∧ y = m
        · simp only [e, and_self, if_true]; exact hq0
        · simp only [e, if_false]; exact h1.oq x y (hxy.resolve_right e)⟩ (.inr ⟨rfl, rfl⟩) (fun x hx => by
        rw [mup_ne (by rintro rfl; exact hx (h1.op s hs)), mup_ne (by rintro rfl; exact hx hq0)]
        exact fr x hx) (fun x hx => by
        by_cases e : x = pA s
        · rw [e, mup_same]; simp
        · rw [mup_ne e]
          by_cases e : x = q
          · rw [e, mup_same]; simp
          · rw [mup_ne e]; exact al x hx)
      simpa using this
  have hp0 := hb p hp
  refine setd_s (by rw [dicOf_mup_ne npl]; exact hk) (big _ (by omega)) (fun v hv => ?_) fun hv => ?_
  · obtain ⟨hs, rfl⟩ := (h3 s v).mp hv
    refine key _ _ _ ⟨(h.to.frame (Sub.mup hp)).mono (by omega), h.ol, h.op, h.oq⟩ hs (fun x hx => ?_) fun x hx => ?_
    · rw [mup_ne (by rintro rfl; exact hx hp0)]
    · by_cases e : x = p
      · rw [e, mup_same]; simp
      · rw [mup_ne e]; exact hx
  · have hs : ¬ S s := h.to.none_of hk hv
    have h2 := h.to.addS hk hs hp
    have := key _ _ _ ⟨h2, h.ol, fun x hx => by
      by_cases e : x = s
      · simp only [e, if_true]; exact hp0
      · simp only [e, if_false]; exact h.op x (hx.resolve_right e), h.oq⟩ (.inr rfl) (fun x hx => by
      rw [mup_ne (by rintro rfl; exact hx h.ol), mup_ne (by rintro rfl; exact hx hp0)]) (fun x hx => by
      by_cases e : x = l
      · rw [e, mup_same]; simp
      · rw [mup_ne e]
        by_cases e : x = p
        · rw [e, mup_same]; simp
        · rw [mup_ne e]; exact hx)
    simpa using this
end DM
namespace DM
open PySem PySem.Spec PyProof.Rows L2
def rSortDK : List V → Hp → VK → Prop := fun vs H Q => ∃ (a : Addr) (kvs : List (Key × V)), vs = [V.ref a] ∧ H a = some (.dK kvs) ∧ SortOk (kvs.map fun kv => kD kv.1) ∧
  ∀ (ys : List Key) (p : Addr), ys.map kD = sortD (kvs.map fun kv => kD kv.1) → H p = none → Q (.ref p) (upd H p (.lst (ys.map kV)))
theorem call_sortDK {X : Cx} (hc : X.calm = true) (hu : X.A.units + 150 < cLine) : CallR X (.builtin "sorted") rSortDK := by
  intro pins s σ H vs us Q I r h
  obtain ⟨a, kvs, rfl, ha, so, q⟩ := h
  rw [Vals.ref1 r]
  obtain ⟨z, lo, ws, rk, hd⟩ := (show ObjOk X.prog X.w H s.heap a (.dK kvs) from I.hok a _ ha)
  obtain ⟨ep, hat⟩ := hd.dictAt
  have hl : kvs.length = ws.length := Paired.length rk
  obtain ⟨hp, hdp, hal, hso⟩ := so
  have ek : (kvs.map fun kv => kD kv.1) = (kvs.map (·.1)).map kD := by rw [List.map_map]; rfl
  refine sorted_some (R := fun v d => ∃ k, d = kD k ∧ keyIs k v = true) (n := kvs.length) (B := fun vs bs t => bs = (kvs.map (·.1)).map kD ∧ vs.map keyM = kvs.map (·.1) ∧ (∀ v ∈ vs, keyIs (keyM v) v = true) ∧ (∀ b o, s.heap.get? b = some o → t.heap.get? b = some o) ∧ s.heap.objs.size ≤ t.heap.objs.size ∧ t.gens = s.gens ∧ t.os = s.os) z (fun vs bs t hb => ?_) (fun Q' E' hQ' => ?_) fun vs bs t hb h' out c p keep hp hg hl eo => ?_
  · obtain ⟨rfl, e, hv, k1, z1, g1, o1⟩ := hb
    obtain ⟨h1, h2⟩ := each_keys (h := t.heap) e hv
    refine ⟨by simp, h1, h2, by rw [← ek]; exact hal, by rw [← ek]; exact hso, fun b hb => ?_, k1, z1, g1, o1⟩
    rw [← ek] at hb
    have h1 := depth_py b
    obtain ⟨j, hj, rfl⟩ := List.getElem_of_mem hb
    have h2 := depDs_get (List.getElem?_eq_getElem hj)
    omega
  · refine collect_src (PySem.W.kdl_dict (knd := mixKind X.prog X.w) (kvs := ws) (ep := ep) lo) (I.ok.hd hc) hat (by rw [← hl]; exact z) fun h' tk acc kp sz it => ?_
    have hal : acc.toList.length = kvs.length := by rw [Array.length_toList, it.1, hl]
    have pt : ∀ (j : Nat) (v : Value) (k : Key), acc.toList[j]? = some v → (kvs.map (·.1))[j]? = some k → keyIs k v = true := fun j v k h1 h2 => by
      obtain ⟨k', y, e1, e2⟩ := it.2 j v (by rw [← Array.getElem?_toList]; exact h1)
      rw [KV.keys rk, List.getElem?_map, e1] at h2
      cases h2
      exact e2
    have em : acc.toList.map keyM = kvs.map (·.1) := by
      apply List.ext_getElem?
      intro j
      rw [List.getElem?_map]
      cases h1 : acc.toList[j]? with
      | none =>
        have := List.getElem?_eq_none_iff.mp h1
        rw [List.getElem?_eq_none (by rw [List.length_map]; omega)]; rfl
      | some v =>
        have hj := (List.getElem?_eq_some_iff.mp h1).1
        obtain ⟨k, h2⟩ : ∃ k, (kvs.map (·.1))[j]? = some k := ⟨_, List.getElem?_eq_getElem (by rw [List.length_map]; omega)⟩
        rw [h2, Option.map_some, keyM_is (pt j v k h1 h2)]
    refine hQ' acc.toList _ _ ⟨rfl, em, fun v hv => ?_, kp, sz, rfl, rfl⟩
    obtain ⟨j, hj, rfl⟩ := List.getElem_of_mem hv
    obtain ⟨k, h2⟩ : ∃ k, (kvs.map (·.1))[j]? = some k := ⟨_, List.getElem?_eq_getElem (by rw [List.length_map]; omega)⟩
    have := pt j _ k (List.getElem?_eq_getElem hj) h2
    rw [keyM_is this]; exact this
  · obtain ⟨rfl, _, _, k1, z1, g1, o1⟩ := hb
    obtain ⟨ys, e, rv⟩ := each_keys_out eo
    have hlen : (ys.map kV).length ≤ sizeLine := by rw [rv.length, hl]; exact z
    have hn : H p = none := I.hok.fresh hp
    have J : Inv X pins σ (upd H p (.lst (ys.map kV))) { s with heap := h', gens := t.gens, drawn := t.drawn, toks := t.toks } :=
      I.call (ch := []) (Un.laid keep hp hn) (I.hok.laid keep hp ⟨hlen, out, c, rv, hg⟩) (by rw [g1]; exact I.bare) (fun _ z => nomatch z)
    have et : ({ t with heap := h' } : Shared) = { s with heap := h', gens := t.gens, drawn := t.drawn, toks := t.toks } := by
      cases t
      cases s
      cases o1
      rfl
    rw [et]
    exact ⟨.ref p, _, J, rfl, q ys p (by rw [ek]; exact e.symm) hn⟩
def keysKD (kvs : List (Key × D)) : List D := kvs.map fun kv => kD kv.1
def dSortedK (te : TDE) : TDL := fun ds M Q => te ds M fun x M1 => match rdD M1 x with | some kvs => SortOk (keysKD kvs) ∧ Q (sortD (keysKD kvs)) M1 | none => False
def sortedKI (x : D) (M1 : Mm) (Q : List D → Mm → Prop) : Prop := match rdD M1 x with | some kvs => SortOk (keysKD kvs) ∧ Q (sortD (keysKD kvs)) M1 | none => False
section
variable {X : Cx} {e : Expr} {te : TDE} {p pos : Pos} {k : Nat}
theorem jl_sortedK (hc : X.calm = true) (hr : Room k X.A) (hm : X.mg "sorted" = none) (ha : JE X e te) (hg : Gl X "sorted" := by rfl) (n2 : starEach [e] X.env = (false, eval e X.env) :: starEach [] X.env := by rfl) (n3 : (backTo pos (starEach [] X.env)).any (·.1) = false := by rfl) :
    JL X (.Call (.Name "sorted" p) [e] [] pos) (dSortedK te) := by
  obtain ⟨u, q, g⟩ := ha
  refine ⟨_, pe_callB (call_sortDK hc (hu150 hr)) hg hm PyProof.Rows.boot_sorted (pa_cons q pa_nil n2) (by decide) (by decide) n2 n3, fun ds σ H M Q Q0 s m q k => ?_⟩
  refine g ds σ H M _ _ s m q fun v H1 d M1 r1 m1 g1 q1 => ?_
  split at q1
  · rename_i kvs e1
    obtain ⟨so, q1⟩ := q1
    obtain ⟨a, ws, rfl, h1, ra⟩ := rdD_v m1 r1 e1
    have ek : (ws.map fun kv => kD kv.1) = keysKD kvs := by
      have := ra.keysEq
      unfold keysKD
      rw [show (kvs.map fun kv => kD kv.1) = (kvs.map (·.1)).map kD by rw [List.map_map]; rfl, this, List.map_map]; rfl
    refine ⟨a, ws, rfl, h1, by rw [ek]; exact so, fun ys l ey hl => ?_⟩
    have ry : VRs X.K H1 (sortD (keysKD kvs)) (ys.map kV) := by rw [← ek, ← ey]; exact keys_vrs ys
    exact k l (H1.up l _) (sortD (keysKD kvs)) (ys.map kV) M1 (g1.free hl) upd_same (VRs.mono (TX.new m1 hl) _ _ ry) (m1.free hl) (m1.freeF hl) (m1.newT hl) (g1.trans (GG.newT hl)) q1
  · exact q1.elim
end
section
variable {ds : DSt} {M : Mm} {a : Addr}
theorem dSortedK_e {te : TDE} {Q : List D → Mm → Prop} : dSortedK te ds M Q = te ds M fun x M1 => sortedKI x M1 Q := (rfl)
theorem sortedK_g {Q : List D → Mm → Prop} {kvs : List (Key × D)} (h : dicOf M a = some kvs) (so : SortOk (keysKD kvs)) (k : Q (sortD (keysKD kvs)) M) : sortedKI (.ref a) M Q := by
  unfold sortedKI
  simp only [rdD_ref, h]
  exact ⟨so, k⟩
end
def txD (F : List Str) : List (Key × D) := F.map fun s => (.inr s, .bl true)
def insS (F : List Str) (s : Str) : List Str := if s ∈ F then F else F ++ [s]
theorem insS_mem {F : List Str} {s z : Str} : z ∈ insS F s ↔ z ∈ F ∨ z = s := by
  unfold insS
  split
  · exact ⟨.inl, fun h => h.elim id fun h => h ▸ by assumption⟩
  · simp
theorem insS_nodup {F : List Str} {s : Str} (h : F.Nodup) : (insS F s).Nodup := by
  unfold insS
  split
  · exact h
  · rw [List.nodup_append]
    refine ⟨h, by simp, fun a ha b hb => ?_⟩
    rw [List.mem_singleton.mp hb]
    rintro rfl
    contradiction
theorem insS_len {F : List Str} {s : Str} : (insS F s).length ≤ F.length + 1 := by unfold insS; split <;> simp
theorem txD_any {F : List Str} {s : Str} : ((txD F).any fun kv => decide (kv.1 = Sum.inr s)) = decide (s ∈ F) := by
  unfold txD
  rw [List.any_map, Bool.eq_iff_iff, List.any_eq_true, decide_eq_true_eq]
  exact ⟨fun ⟨f, hf, h⟩ => Sum.inr.inj (of_decide_eq_true h) ▸ hf, fun h => ⟨s, h, decide_eq_true rfl⟩⟩
theorem put_tx {F : List Str} {s : Str} : putD (txD F) (.inr s) (.bl true) = txD (insS F s) := by
  unfold putD
  rw [txD_any]
  unfold insS
  by_cases h : s ∈ F
  · rw [if_pos (decide_eq_true h), if_pos h]
    unfold txD
    rw [List.map_map]
    apply List.map_congr_left
    intro f hf
    simp only [Function.comp]
    split <;> rfl
  · rw [if_neg (by simpa using h), if_neg h]
    simp [txD]
theorem val_tx {F : List Str} {s : Str} : (valD (txD F) (.inr s)).isSome = decide (s ∈ F) := by
  unfold valD
  rw [Option.isSome_map, ← txD_any]
  generalize txD F = l
  induction l with
  | nil => rfl
  | cons x l ih =>
    rw [List.find?_cons, List.any_cons]
    cases decide (x.1 = Sum.inr s) with
    | true => rfl
    | false => simpa using ih
theorem keys_tx {F : List Str} : keysKD (txD F) = F.map D.str := by
  unfold keysKD txD
  rw [List.map_map]; rfl
theorem txD_len {F : List Str} : (txD F).length = F.length := by simp [txD]
end DM
namespace DM
open PySem L2
open PyProof.Rows (b2i)
inductive Slips (E : List Ed) (S : Str → Prop) : Str → Prop
  | base {x : Str} : S x → Slips E S x
  | step {x z : Str} : Slips E S x → (x, ("" : Str), z) ∈ E → Slips E S z
def stepP (E : List Ed) (m : Str) (S : Str → Prop) (z : Str) : Prop := ∃ x, S x ∧ (x, m, z) ∈ E
def readP (E : List Ed) : (Str → Prop) → List Str → Str → Prop
  | S, [] => S
  | S, m :: ms => readP E (Slips E (stepP E m S)) ms
def ReadsTo (E : List Ed) (s : Str) (w : List Str) : Str → Prop := readP E (Slips E (· = s)) w
theorem Slips.mono {E : List Ed} {S S' : Str → Prop} (h : ∀ x, S x → S' x) {z : Str} (k : Slips E S z) : Slips E S' z := by
  induction k with
  | base hx => exact .base (h _ hx)
  | step _ he ih => exact .step ih he
theorem Slips.congr {E : List Ed} {S S' : Str → Prop} (h : ∀ x, S x ↔ S' x) (z : Str) : Slips E S z ↔ Slips E S' z := ⟨Slips.mono fun x => (h x).mp, Slips.mono fun x => (h x).mpr⟩
theorem Slips.edges {E E' : List Ed} {S : Str → Prop} (h : ∀ e, e ∈ E → e ∈ E') {z : Str} (k : Slips E S z) : Slips E' S z := by
  induction k with
  | base hx => exact .base hx
  | step _ he ih => exact .step ih (h _ he)
theorem readP_edges {E E' : List Ed} (h : ∀ e, e ∈ E → e ∈ E') : ∀ {w : List Str} {S S' : Str → Prop}, (∀ x, S x → S' x) → ∀ z, readP E S w z → readP E' S' w z
  | [], _, _, hs, z, k => hs z k
  | m :: w, _, _, hs, z, k => readP_edges h (w := w) (fun x hx => Slips.mono (fun y ⟨u, h1, h2⟩ => ⟨u, hs u h1, h _ h2⟩) (Slips.edges h hx)) z k
theorem readP_mem {E E' : List Ed} (h : ∀ e, e ∈ E ↔ e ∈ E') {w : List Str} {s z : Str} : ReadsTo E s w z ↔ ReadsTo E' s w z :=
  ⟨readP_edges (fun e => (h e).mp) (fun x hx => Slips.edges (fun e => (h e).mp) hx) z, readP_edges (fun e => (h e).mpr) (fun x hx => Slips.edges (fun e => (h e).mpr) hx) z⟩
theorem Slips.from {E : List Ed} {S : Str → Prop} {z : Str} (k : Slips E S z) : S z ∨ ∃ e ∈ E, e.2.2 = z := by
  cases k with
  | base h => exact .inl h
  | step _ he => exact .inr ⟨_, he, rfl⟩
theorem sub_len {α : Type} [DecidableEq α] : ∀ {l m : List α}, l.Nodup → (∀ x ∈ l, x ∈ m) → l.length ≤ m.length
  | [], _, _, _ => Nat.zero_le _
  | x :: l, m, h, hs => by
    obtain ⟨h1, h2⟩ := List.nodup_cons.mp h
    have hx := hs x List.mem_cons_self
    have := sub_len (l := l) (m := m.erase x) h2 fun y hy => (List.mem_erase_of_ne (by rintro rfl; exact h1 hy)).mpr (hs y (List.mem_cons_of_mem _ hy))
    rw [List.length_erase_of_mem hx] at this
    have hm := List.length_pos_of_mem hx
    rw [List.length_cons]; omega
theorem slips_len {E : List Ed} {l xs : List Str} (h : l.Nodup) (hs : ∀ z ∈ l, z ∈ xs ∨ ∃ e ∈ E, e.2.2 = z) : l.length ≤ xs.length + E.length := by
  have := sub_len (m := xs ++ E.map (·.2.2)) h fun x hx => by
    rcases hs x hx with h | ⟨e, he, rfl⟩
    · exact List.mem_append_left _ h
    · exact List.mem_append_right _ (List.mem_map.mpr ⟨e, he, rfl⟩)
  simpa using this
def slipsLeft (E : List Ed) (F : List Str) : Nat := (E.filter fun e => decide (e.2.1 = ("" : Str) ∧ e.1 ∉ F)).length
theorem slipsLeft_nil (E : List Ed) : slipsLeft E [] ≤ E.length := List.length_filter_le _ _
theorem slipsLeft_add {E : List Ed} {F : List Str} {s : Str} (h : s ∉ F) : slipsLeft E (F ++ [s]) + (byE E s ("" : Str)).length = slipsLeft E F := by
  unfold slipsLeft byE
  rw [List.length_map]
  induction E with
  | nil => rfl
  | cons e E ih =>
    simp only [List.filter_cons]
    simp at ih
    by_cases h1 : e.2.1 = ("" : Str)
    · by_cases h2 : e.1 = s
      · have : e.1 ∉ F := h2 ▸ h
        simp [h1, h2, h]
        omega
      · by_cases h3 : e.1 ∈ F
        · simp [h1, h2, h3]; omega
        · simp [h1, h2, h3]; omega
    · simp [h1]; omega
theorem slips_done {E : List Ed} {S : Str → Prop} {F : List Str} (h1 : ∀ z ∈ F, Slips E S z) (h2 : ∀ z, S z → z ∈ F) (h3 : ∀ x ∈ F, ∀ z, (x, ("" : Str), z) ∈ E → z ∈ F) (z : Str) : z ∈ F ↔ Slips E S z := by
  refine ⟨h1 z, fun h => ?_⟩
  induction h with
  | base hx => exact h2 _ hx
  | step _ he ih => exact h3 _ ih _ he
end DM
namespace DM
open PySem L2
open PyProof.Rows (b2i)
section
variable {M M' : Mm} {a : Addr} {x y d : D} {xs ys zs : List D} {Q : DQ} {s : Str} {kvs : List (Key × D)}
theorem rdS_sub (e : Sub M M') (h : rdS M x = some xs) : rdS M' x = some xs := by
  cases x with
  | ref a => exact lstOf_sub e h
  | tup _ => exact h
  | lst _ => exact h
  | _ => cases h
theorem rdS_of_L (h : rdL M x = some xs) : rdS M x = some xs := by
  cases x with
  | ref a => exact h
  | lst _ => exact h
  | _ => cases h
theorem ext_go (e : lstOf M a = some ys) (e2 : rdS M y = some zs) (hl : ys.length + zs.length ≤ sizeLine) (h : Q .non (mup M a (.lst (ys ++ zs)))) : extendA (.ref a) [y] M Q := by
  unfold extendA
  simp only [e, e2]
  exact ⟨hl, h⟩
theorem lst_dic_no (h : dicOf M a = some kvs) : lstOf M a = none := by
  unfold lstOf
  rw [of_dicOf h]
theorem notin_dic (h : dicOf M a = some kvs) (k : Q (.bl (!(valD kvs (.inr s)).isSome)) M) : notInR (.str s) (.ref a) M Q := by
  show (match rdS M (.ref a) with | some ys => memC ys (.str s) ∧ Q (.bl (true != inAny ys (.str s))) M | none => inDQ true (.str s) (.ref a) M Q)
  rw [show rdS M (.ref a) = none from lst_dic_no h]
  unfold inDQ
  simp only [rdDL_ref, h, orT_some, keyD, Bool.true_bne]
  exact k
end
theorem behind_mem {E : List Ed} {m z : Str} {ys : List Str} : z ∈ ys.flatMap (byE E · m) ↔ stepP E m (· ∈ ys) z := by
  rw [List.mem_flatMap]
  exact ⟨fun ⟨x, h1, h2⟩ => ⟨x, h1, byE_mem.mp h2⟩, fun ⟨x, h1, h2⟩ => ⟨x, h1, byE_mem.mpr h2⟩⟩
theorem behind_len {m : Str} : ∀ {E : List Ed} {ys : List Str}, ys.Nodup → (ys.flatMap (byE E · m)).length ≤ E.length
  | [], ys, _ => by
    have : ys.flatMap (byE [] · m) = [] := by simp [byE]
    rw [this]; simp
  | e :: E, ys, h => by
    have ih := behind_len (m := m) (E := E) h
    have key : ∀ {ys : List Str}, ys.Nodup → (ys.flatMap (byE (e :: E) · m)).length ≤ (ys.flatMap (byE E · m)).length + 1 ∧ (e.1 ∉ ys → (ys.flatMap (byE (e :: E) · m)).length = (ys.flatMap (byE E · m)).length) := by
      intro ys
      induction ys with
      | nil => simp
      | cons y ys ih =>
        intro h
        obtain ⟨h1, h2⟩ := List.nodup_cons.mp h
        obtain ⟨i1, i2⟩ := ih h2
        simp only [List.flatMap_cons, List.length_append]
        have hb : (byE (e :: E) y m).length ≤ (byE E y m).length + 1 ∧ (e.1 ≠ y → (byE (e :: E) y m).length = (byE E y m).length) := by
          unfold byE
          simp only [List.length_map, List.filter_cons]
          constructor
          · split <;> simp
          · intro hn; simp [hn]
        by_cases e1 : e.1 = y
        · have := i2 (by rw [e1]; exact h1)
          refine ⟨by omega, fun hn => absurd (by simp [e1]) hn⟩
        · have := hb.2 e1
          refine ⟨by omega, fun hn => ?_⟩
          rw [this, i2 (fun hm => hn (by simp [hm]))]
    have := (key h).1
    rw [List.length_cons]; omega
theorem flat_take {α β : Type} {f : α → List β} {ys : List α} {i : Nat} {y : α} (h : ys[i]? = some y) : (ys.take (i + 1)).flatMap f = (ys.take i).flatMap f ++ f y := by
  rw [List.take_add_one, h, List.flatMap_append]
  simp
theorem inAny_str {l : List Str} {x : Str} : inAny (l.map D.str) (.str x) = decide (x ∈ l) := by
  unfold inAny
  induction l with
  | nil => rfl
  | cons a l ih =>
    rw [List.map_cons, List.any_cons, ih]
    simp only [eqvD]
    rw [Bool.eq_iff_iff]
    simp only [Bool.or_eq_true, decide_eq_true_eq, beq_iff_eq, List.mem_cons]
    exact ⟨fun h => h.elim (fun h => .inl (by first | exact h | exact h.symm)) .inr, fun h => h.elim (fun h => .inl (by first | exact h | exact h.symm)) .inr⟩
theorem memC_str {l : List Str} {x : Str} : memC (l.map D.str) (.str x) := ⟨rfl, pureDs_str l, Nat.le_trans (depDs_str l) (by decide)⟩
theorem inR_strS {l : List Str} {x : Str} {y : D} {M : Mm} {Q : DQ} (e : rdS M y = some (l.map .str)) (h : Q (.bl (decide (x ∈ l))) M) : inR (.str x) y M Q := by
  have key : memC (l.map D.str) (.str x) ∧ Q (.bl (false != inAny (l.map D.str) (.str x))) M := ⟨memC_str, by rw [inAny_str, Bool.false_bne]; exact h⟩
  cases y with
  | ref a =>
    show (match rdS M (.ref a) with | some ys => memC ys (.str x) ∧ Q (.bl (false != inAny ys (.str x))) M | none => inDQ false (.str x) (.ref a) M Q)
    rw [e]; exact key
  | tup xs => cases e; exact key
  | lst xs => cases e; exact key
  | _ => cases e
theorem notInR_strS {l : List Str} {x : Str} {y : D} {M : Mm} {Q : DQ} (e : rdS M y = some (l.map .str)) (h : Q (.bl (!decide (x ∈ l))) M) : notInR (.str x) y M Q := by
  have key : memC (l.map D.str) (.str x) ∧ Q (.bl (true != inAny (l.map D.str) (.str x))) M := ⟨memC_str, by rw [inAny_str, Bool.true_bne]; exact h⟩
  cases y with
  | ref a =>
    show (match rdS M (.ref a) with | some ys => memC ys (.str x) ∧ Q (.bl (true != inAny ys (.str x))) M | none => inDQ true (.str x) (.ref a) M Q)
    rw [e]; exact key
  | tup xs => cases e; exact key
  | lst xs => cases e; exact key
  | _ => cases e
end DM
namespace DM
open PySem L2
open PyProof.Rows (b2i)
section
variable {M0 M0' M M' : Mm} {l p a r Growing Reader : Addr} {E : List Ed} {F : D} {o : MO}
theorem dicOf_mup_ne' {b : Addr} (h : b ≠ p) : dicOf (mup M p o) b = dicOf M b := by unfold dicOf; rw [mup_ne h]
theorem LdsE.rebase (h : LdsE M0 M l E) (hk : ∀ x, M0 x = none → ((dicOf M x).isSome = true ∨ (lstOf M x).isSome = true) → M0' x = none) : LdsE M0' M l E := by
  obtain ⟨pA, qA, S, T, L, n, h, hn, hL⟩ := h
  refine ⟨pA, qA, S, T, L, n, ⟨h.to, ?_, fun s hs => ?_, fun s m ht => ?_⟩, hn, hL⟩
  · obtain ⟨kvs, e, _⟩ := h.to.ld
    exact hk _ h.ol (.inl (by rw [e]; rfl))
  · obtain ⟨kvs, e, _⟩ := h.to.inn s hs
    exact hk _ (h.op s hs) (.inl (by rw [e]; rfl))
  · exact hk _ (h.oq s m ht) (.inr (by rw [h.to.lst s m ht]; rfl))
theorem LdsE.put (h : LdsE M0 M l E) (h1 : dicOf M p = none) (h2 : lstOf M p = none) : LdsE M0 (mup M p o) l E := by
  obtain ⟨pA, qA, S, T, L, n, h, hn, hL⟩ := h
  have nd : ∀ {x kvs}, dicOf M x = some kvs → x ≠ p := fun {x kvs} e => by rintro rfl; rw [h1] at e; cases e
  have nl : ∀ {x xs}, lstOf M x = some xs → x ≠ p := fun {x xs} e => by rintro rfl; rw [h2] at e; cases e
  refine ⟨pA, qA, S, T, L, n, ⟨⟨?_, fun s hs => ?_, fun s m ht => ?_, h.to.out, h.to.ts, h.to.pl, h.to.pp, h.to.qq⟩, h.ol, h.op, h.oq⟩, hn, hL⟩
  · obtain ⟨kvs, e, g⟩ := h.to.ld
    exact ⟨kvs, by rw [dicOf_mup_ne' (nd e)]; exact e, g⟩
  · obtain ⟨kvs, e, g⟩ := h.to.inn s hs
    exact ⟨kvs, by rw [dicOf_mup_ne' (nd e)]; exact e, g⟩
  · have e := h.to.lst s m ht
    rw [lstOf_mup_ne (nl e)]; exact e
theorem dit_not (h : ditOf M p = some kvs) : dicOf M p = none ∧ lstOf M p = none := by
  unfold dicOf lstOf; rw [of_ditOf h]; exact ⟨rfl, rfl⟩
theorem ins_not {x : Addr × List (Str × D)} (h : insOf M p = some x) : dicOf M p = none ∧ lstOf M p = none := by
  unfold dicOf lstOf; rw [of_insOf h]; exact ⟨rfl, rfl⟩
end
end DM
namespace DM
open PySem L2
open PyProof.Rows (b2i)
def PT (H : Hp) (qs : List (List Key × Addr × V)) (xs : List (List Key × Addr × Value)) : Prop := Paired (fun (p : List Key × Addr × V) (q : List Key × Addr × Value) => p.1 = q.1 ∧ p.2.1 = q.2.1 ∧ H p.2.1 = some (.tup (p.1.map kV)) ∧ RelV p.2.2 q.2.2) qs xs
theorem PT.keys {H : Hp} {qs : List (List Key × Addr × V)} {xs : List (List Key × Addr × Value)} (r : PT H qs xs) : ∀ x ∈ xs, H x.2.1 = some (.tup (x.1.map kV)) := by
  unfold PT at r
  induction r with
  | nil => intro x hx; cases hx
  | cons h t ih =>
    intro x hx
    rcases List.mem_cons.mp hx with rfl | hx
    · rw [← h.1, ← h.2.1]; exact h.2.2.1
    · exact ih x hx
def mergeTD (kvs more : List (List Key × D)) : List (List Key × D) := more.foldl (fun acc q => putT acc q.1 q.2) kvs
theorem NEk.merge : ∀ {more acc : List (List Key × D)}, NEk acc → NEk more → NEk (mergeTD acc more)
  | [], _, h, _ => h
  | q :: qs, acc, h, n => NEk.merge (more := qs) (acc := putT acc q.1 q.2) (h.put (n q List.mem_cons_self)) fun kv hm => n kv (List.mem_cons_of_mem _ hm)
end DM
namespace DM
open PySem L2
open PyProof.Rows (b2i)
def leE (e f : Ed) : Bool := if e.1 = f.1 then (if e.2.1 = f.2.1 then leS e.2.2 f.2.2 else leS e.2.1 f.2.1) else leS e.1 f.1
open PySem.Calls PyProof.Rows PySem.W in
theorem leD_ed (e f : Ed) : leD (edD e) (edD f) = leE e f := by
  obtain ⟨a, b, c⟩ := e
  obtain ⟨a', b', c'⟩ := f
  show (!PySem.W.dataLt (.tuple [.str a', .str b', .str c']) (.tuple [.str a, .str b, .str c])) = _
  have e0 : lexLt itemOrd (keyToksAll []) (keyToksAll []) = false := lex_irrefl _
  rw [PySem.W.dataLt_tuple, PySem.W.dataLt_cons (by simp [PySem.W.alike]), PySem.W.dataLt_cons (by simp [PySem.W.alike]), PySem.W.dataLt_cons (by simp [PySem.W.alike]), e0]
  simp only [PySem.W.dataLt_str, PyData.eqv, beq_iff_eq]
  unfold leE leS
  by_cases h1 : a' = a
  · subst h1
    by_cases h2 : b' = b
    · subst h2
      by_cases h3 : c' = c
      · subst h3; simp
      · simp only [if_true, if_neg h3, PySem.W.not_lt_str]
    · simp only [if_true, if_neg h2, if_neg (Ne.symm h2), PySem.W.not_lt_str]
  · simp only [if_neg h1, if_neg (Ne.symm h1), PySem.W.not_lt_str]
theorem leE_anti {e f : Ed} (h : leE e f = true) (h' : leE f e = true) : e = f := by
  obtain ⟨a, b, c⟩ := e
  obtain ⟨a', b', c'⟩ := f
  unfold leE at *
  simp only at *
  by_cases h1 : a = a'
  · subst h1
    by_cases h2 : b = b'
    · subst h2
      simp only [if_true] at *
      rw [leS_anti h h']
    · simp only [if_true, if_neg h2, if_neg (Ne.symm h2)] at *
      exact absurd (leS_anti h h') h2
  · simp only [if_neg h1, if_neg (Ne.symm h1)] at *
    exact absurd (leS_anti h h') h1
theorem leE_total (e f : Ed) : (leE e f || leE f e) = true := by
  obtain ⟨a, b, c⟩ := e
  obtain ⟨a', b', c'⟩ := f
  unfold leE
  simp only
  by_cases h1 : a = a'
  · subst h1
    by_cases h2 : b = b'
    · subst h2
      simp only [if_true]; exact leS_total _ _
    · simp only [if_true, if_neg h2, if_neg (Ne.symm h2)]; exact leS_total _ _
  · simp only [if_neg h1, if_neg (Ne.symm h1)]; exact leS_total _ _
theorem leE_trans {e f g : Ed} (h : leE e f = true) (h' : leE f g = true) : leE e g = true := by
  obtain ⟨a, b, c⟩ := e
  obtain ⟨a', b', c'⟩ := f
  obtain ⟨a'', b'', c''⟩ := g
  unfold leE at *
  simp only at *
  by_cases h1 : a = a'
  · subst h1
    by_cases h3 : a = a''
    · subst h3
      simp only [if_true] at *
      by_cases h2 : b = b'
      · subst h2
        by_cases h4 : b = b''
        · subst h4
          simp only [if_true] at *
          exact leS_trans h h'
        · simp only [if_true, if_neg h4] at *; exact h'
      · by_cases h4 : b' = b''
        · subst h4
          simp only [if_neg h2] at *; exact h
        · simp only [if_neg h2, if_neg h4] at *
          have : b ≠ b'' := by rintro rfl; exact h2 (leS_anti h h')
          rw [if_neg this]; exact leS_trans h h'
    · simp only [if_true, if_neg h3] at *; exact h'
  · by_cases h3 : a' = a''
    · subst h3
      simp only [if_neg h1] at *; exact h
    · simp only [if_neg h1, if_neg h3] at *
      have : a ≠ a'' := by rintro rfl; exact h1 (leS_anti h h')
      rw [if_neg this]; exact leS_trans h h'
theorem sortE_ext {l l' : List Ed} (h : l.Nodup) (h' : l'.Nodup) (e : ∀ z, z ∈ l ↔ z ∈ l') : sortE l = sortE l' := by
  have srt : ∀ l : List Ed, (sortE l).Pairwise fun a b => leE a b = true := fun l => by
    have := List.pairwise_mergeSort (le := fun a b : Ed => leD (edD a) (edD b)) (fun a b c h h' => by rw [leD_ed] at *; exact leE_trans h h') (fun a b => by rw [leD_ed, leD_ed]; exact leE_total a b) l
    exact this.imp fun h => by rwa [leD_ed] at h
  refine List.Perm.eq_of_pairwise (le := fun a b => leE a b = true) (fun a b _ _ h h' => leE_anti h h') (srt l) (srt l') ?_
  exact (sortE_perm l).trans (((List.perm_ext_iff_of_nodup h h').mpr e).trans (sortE_perm l').symm)
end DM
namespace DM
open PySem L2
open PyProof.Rows (b2i)
theorem pureDs_all : ∀ {xs : List D}, (∀ x ∈ xs, pureD x = true) → pureDs xs = true
  | [], _ => rfl
  | x :: xs, h => by rw [pureDs, h x (by simp), pureDs_all fun y hy => h y (by simp [hy])]; rfl
theorem depDs_all {k : Nat} (hk : 1 ≤ k) : ∀ {xs : List D}, (∀ x ∈ xs, depD x ≤ k) → depDs xs ≤ k
  | [], _ => by rw [depDs]; exact hk
  | x :: xs, h => by
    have h1 := h x (by simp)
    have h2 := depDs_all hk (xs := xs) fun y hy => h y (by simp [hy])
    rw [depDs]; omega
def sgn0 (z : Str) : Str := ⟨#[(cps z).headD 0]⟩
def figB (z : Str) : Bool := !(decide (z = ("" : Str))) && ((cps z).all (fun c => inStr ⟨#[c]⟩ ("0123456789" : Str)) && (decide (z = ("0" : Str)) || !decide (sgn0 z = ("0" : Str))))
def WordS (z : Str) : Prop := z.length ≤ 8 ∧ (∀ c ∈ cps z, c < 16 ^ 8) ∧ cps z ≠ [] ∧ (NameS z ∨ figB z = true)
theorem sgns_small : ∀ c ∈ sgns, c < 16 ^ 8 := by decide
theorem NameS.word {z : Str} (h : NameS z) : WordS z := ⟨by rw [cps_len]; exact h.2.2, fun c hc => sgns_small c (h.2.1 c hc), by obtain ⟨⟨c, r, e, _⟩, _⟩ := h; rw [e]; simp, .inl h⟩
theorem NameS.ne {z : Str} (h : NameS z) : z ≠ ("" : Str) := by
  rintro rfl
  obtain ⟨⟨c, r, e, _⟩, _⟩ := h
  cases e
end DM
namespace DM
open PySem L2
open PyProof.Rows (b2i)
theorem Px.perm {M0 M : Mm} {L L' : List (Addr × MO)} (b : Px M0 L M) (h : L.Perm L') : Px M0 L' M := ⟨b.ex, fun q hq => b.lo q (h.mem_iff.mpr hq), (h.map _).nodup_iff.mp b.nd⟩
theorem Px.dit1 {M0 M : Mm} {p : Addr} {L : List (Addr × MO)} {kvs : List (List Key × D)} (b : Px M0 ((p, .dit kvs) :: L) M) : ditOf M p = some kvs := ditOf_some b.at1
end DM
namespace DM
open PySem L2
open PyProof.Rows (b2i)
theorem lets_idx {j c : Nat} (hj : j < 26) (h : lets[j]? = some c) : lets.idxOf c = j := by
  have : ∀ k : Fin 26, lets.idxOf (lets[k.1]!) = k.1 := by decide +kernel
  have h2 := this ⟨j, hj⟩
  rw [show lets[j]! = c by rw [List.getElem!_eq_getElem?_getD, h]; rfl] at h2
  exact h2
theorem sgns_idx {j c : Nat} (hj : j < 36) (h : sgns[j]? = some c) : sgns.idxOf c = j := by
  have : ∀ k : Fin 36, sgns.idxOf (sgns[k.1]!) = k.1 := by decide +kernel
  have h2 := this ⟨j, hj⟩
  rw [show sgns[j]! = c by rw [List.getElem!_eq_getElem?_getD, h]; rfl] at h2
  exact h2
theorem index_letsI {M : Mm} {Q : DQ} {c : Nat} (h : c ∈ lets) (k : lets.idxOf c < 26 → Q (.int (lets.idxOf c : Nat)) M) : indexQ (.str ("abcdefghijklmnopqrstuvwxyz" : Str)) (.str ⟨#[c]⟩) M Q := by
  obtain ⟨j, hj, hc, e⟩ := idx_lets h
  have : lets.idxOf c = j := lets_idx hj hc
  unfold indexQ
  simp only
  rw [show ("abcdefghijklmnopqrstuvwxyz" : Str).length = 26 by decide +kernel, e, ← this]
  exact k (by omega)
theorem index_sgnsI {M : Mm} {Q : DQ} {c : Nat} (h : c ∈ sgns) (k : sgns.idxOf c < 36 → Q (.int (sgns.idxOf c : Nat)) M) : indexQ (.str (("abcdefghijklmnopqrstuvwxyz" : Str) ++ ("0123456789" : Str))) (.str ⟨#[c]⟩) M Q := by
  obtain ⟨j, hj, hc, e⟩ := idx_sgns h
  have : sgns.idxOf c = j := sgns_idx hj hc
  unfold indexQ
  simp only
  rw [show (("abcdefghijklmnopqrstuvwxyz" : Str) ++ ("0123456789" : Str)).length = 36 by decide +kernel, e, ← this]
  exact k (by omega)
theorem nodup_left {α : Type} {G : α → Nat} {l : List α} (h : ∀ a z, l[a]? = some z → G z = a) : l.Nodup := by
  refine List.pairwise_iff_getElem.mpr fun i j hi hj hij e => ?_
  have h2 := h j _ (List.getElem?_eq_getElem hj)
  have h3 := h i _ (List.getElem?_eq_getElem hi)
  rw [e] at h3
  omega
theorem takeNth_perm {α : Type} : ∀ {l : List α} {i : Nat} {z : α} (h : l[i]? = some z), (z :: l.eraseIdx i).Perm l
  | a :: l, 0, z, h => by
    have : a = z := by simpa using h
    rw [this]; exact List.Perm.refl _
  | a :: l, i + 1, z, h => by
    have ih := takeNth_perm (l := l) (i := i) (z := z) (by simpa using h)
    rw [List.eraseIdx_cons_succ]
    exact (List.Perm.swap _ _ _).trans (ih.cons a)
def nameG (way2 : Bool) (sp : Nat) (wd : List Nat) (z : Str) : Nat :=
  if way2 = true then (cps z).length - 1 else if sp = 0 then (lets.idxOf ((cps z).getD 0 0) + 26 - lets.idxOf (wd.getD 0 0)) % 26 else (sgns.idxOf ((cps z).getD sp 0) + 36 - sgns.idxOf (wd.getD sp 0)) % 36
theorem nameG_way {sp : Nat} {wd : List Nat} {z : Str} {i : Nat} (h : cps z = wd.take (i + 1)) (hl : i < wd.length) : nameG true sp wd z = i := by
  unfold nameG
  rw [if_pos rfl, h, List.length_take]; omega
theorem nameG_let {wd : List Nat} {z : Str} {i e : Nat} {r : List Nat} (h : cps z = e :: r) (hi : i < 26) (hw : lets.idxOf (wd.getD 0 0) < 26) (he : lets[(lets.idxOf (wd.getD 0 0) + i) % 26]? = some e) : nameG false 0 wd z = i := by
  unfold nameG
  rw [if_neg (by decide), if_pos rfl, h]
  have := lets_idx (Nat.mod_lt _ (by decide)) he
  rw [show (e :: r).getD 0 0 = e from rfl, this]
  omega
theorem nameG_sgn {wd : List Nat} {z : Str} {i e sp : Nat} {r : List Nat} (h : cps z = wd.take sp ++ [e] ++ r) (hs : 0 < sp) (hsl : sp ≤ wd.length) (hi : i < 36) (hw : sgns.idxOf (wd.getD sp 0) < 36) (he : sgns[(sgns.idxOf (wd.getD sp 0) + i) % 36]? = some e) : nameG false sp wd z = i := by
  unfold nameG
  rw [if_neg (by decide), if_neg (by omega), h]
  have := sgns_idx (Nat.mod_lt _ (by decide)) he
  have e1 : (wd.take sp ++ [e] ++ r).getD sp 0 = e := by
    have hlen : (wd.take sp).length = sp := by rw [List.length_take]; omega
    rw [List.append_assoc, List.getD_eq_getElem?_getD, List.getElem?_append_right (by omega), hlen]
    simp
  rw [e1, this]
  omega
end DM
namespace DM
open PySem L2
open PyProof.Rows (b2i)
structure Upd (M : Mm) (old : List Addr) (M' : Mm) (X : List (Addr × MO)) : Prop where
  fr : ∀ x o, M x = some o → x ∉ old → M' x = some o
  at_ : ∀ q ∈ X, M' q.1 = some q.2 ∧ (q.1 ∈ old ∨ M q.1 = none)
  nd : (X.map (·.1)).Nodup
theorem Upd.sub {M M' M2 : Mm} {old : List Addr} {X : List (Addr × MO)} (h : Upd M old M' X) (e : Sub M' M2) : Upd M old M2 X := ⟨fun x o h1 h2 => e x o (h.fr x o h1 h2), fun q hq => ⟨e _ _ (h.at_ q hq).1, (h.at_ q hq).2⟩, h.nd⟩
theorem Upd.trans {M M' M2 : Mm} {old : List Addr} {X Y : List (Addr × MO)} (h : Upd M old M' X) (k : Upd M' old M2 Y) (hy : ∀ q ∈ Y, q.1 ∈ old) : Upd M old M2 Y :=
  ⟨fun x o h1 h2 => k.fr x o (h.fr x o h1 h2) h2, fun q hq => ⟨(k.at_ q hq).1, .inl (hy q hq)⟩, k.nd⟩
theorem Bx.upd {d c : Addr} {r : Nat} {M0 M M' : Mm} {X Y L : List (Addr × MO)} (b : Bx d c r M0 (X ++ L) M) (h : Upd M (X.map (·.1)) M' Y) : Bx d c r M0 (Y ++ L) M' := by
  have hX : ∀ x ∈ X.map (·.1), M0 x = none ∧ x ≠ d ∧ x ≠ c := fun x hx => by
    obtain ⟨q, hq, rfl⟩ := List.mem_map.mp hx
    exact (b.lo q (List.mem_append_left _ hq)).2
  have hnd := b.nd
  rw [List.map_append, List.nodup_append] at hnd
  obtain ⟨hn1, hn2, hn3⟩ := hnd
  have hnone : ∀ x, M x = none → M0 x = none ∧ x ≠ d ∧ x ≠ c := fun x hx => ⟨b.fresh hx, b.dk.nd hx, b.dk.nc hx⟩
  have hY : ∀ q ∈ Y, M0 q.1 = none ∧ q.1 ≠ d ∧ q.1 ≠ c := fun q hq => ((h.at_ q hq).2).elim (hX _) (hnone _)
  refine ⟨?_, ?_, ?_, ?_⟩
  · obtain ⟨hdc, Sd, ok, h1, h2⟩ := b.dk
    exact ⟨hdc, Sd, ok, h.fr _ _ h1 fun hm => (hX _ hm).2.1 rfl, h.fr _ _ h2 fun hm => (hX _ hm).2.2 rfl⟩
  · intro x o h1 h2 e
    exact h.fr x o (b.ex x o h1 h2 e) fun hm => by rw [(hX x hm).1] at e; cases e
  · intro q hq
    rcases List.mem_append.mp hq with hq | hq
    · exact ⟨(h.at_ q hq).1, hY q hq⟩
    · have := b.lo q (List.mem_append_right _ hq)
      exact ⟨h.fr _ _ this.1 fun hm => hn3 _ hm _ (List.mem_map.mpr ⟨q, hq, rfl⟩) rfl, this.2⟩
  · rw [List.map_append, List.nodup_append]
    refine ⟨h.nd, hn2, fun x hx y hy e => ?_⟩
    obtain ⟨q, hq, rfl⟩ := List.mem_map.mp hx
    obtain ⟨q2, hq2, rfl⟩ := List.mem_map.mp hy
    rcases (h.at_ q hq).2 with hm | hm
    · exact hn3 _ hm _ (List.mem_map.mpr ⟨q2, hq2, rfl⟩) e
    · have := (b.lo q2 (List.mem_append_right _ hq2)).1
      rw [← e, hm] at this
      cases this
theorem Bx.comm {d c : Addr} {r : Nat} {M0 M : Mm} {X L : List (Addr × MO)} (b : Bx d c r M0 (X ++ L) M) : Bx d c r M0 (L ++ X) M := by
  refine ⟨b.dk, b.ex, fun q hq => b.lo q (List.mem_append.mpr (List.mem_append.mp hq).symm), ?_⟩
  have := b.nd
  exact ((List.perm_append_comm (l₁ := X) (l₂ := L)).map _).nodup_iff.mp this
end DM
namespace DM
open PySem L2
open PyProof.Rows (b2i)
theorem Bx.perm {d c : Addr} {r : Nat} {M0 M : Mm} {L L' : List (Addr × MO)} (b : Bx d c r M0 L M) (h : L.Perm L') : Bx d c r M0 L' M := ⟨b.dk, b.ex, fun q hq => b.lo q (h.mem_iff.mpr hq), (h.map _).nodup_iff.mp b.nd⟩
end DM
namespace DM
open PySem PySem.Spec L2
open PyProof.Rows (b2i)
inductive Lk : MO → MO → Prop
  | k (ob : Obj) (us : List (Key × V)) (kvs : List (Key × D)) : Lk (.dic kvs) (.lkK ob us kvs)
  | t (ob : Obj) (us : List (List Key × V)) (kvs : List (List Key × D)) : Lk (.dit kvs) (.lkT ob us kvs)
def isDc : MO → Prop
  | .dic _ => True
  | .dit _ => True
  | _ => False
abbrev lkEnds (a : Addr) (o l : MO) (D : DEnds) : DEnds := ⟨fun ds M => M a = some l ∧ D.nx ds (mup M a o), fun v M => M a = some l ∧ D.rt v (mup M a o), fun _ _ _ _ => False, fun ds M => M a = some l ∧ D.bk ds (mup M a o), fun ds M => M a = some l ∧ D.ct ds (mup M a o)⟩
def dLkS (t : TDS) : TDS := fun D ds M => t D ds M ∨ ∃ a o, M a = some o ∧ isDc o ∧ ∀ l, Lk o l → t (lkEnds a o l D) ds (mup M a l)
theorem or_lk {K : PySem.W.Frag} {M : Mm} {H : HF} {a : Addr} {o : MO} (m : MR K M H) (h : M a = some o) (hd : isDc o) : ∃ u, H.h a = some u ∧ Mut (some u) ∧ ∀ od, ∃ l, Lk o l ∧ (∀ H2 : HF, TX K H H2 → H2.h a = some (.frz od u) → OR K H2 a l) ∧ ∀ H2 : HF, OR K H2 a l → H2.h a = some (.frz od u) ∧ ∀ H3 : HF, TX K H2 H3 → H3.h a = some u → OR K H3 a o := by
  cases o with
  | dic kvs =>
    obtain ⟨vs, h1, r⟩ := m.ob a _ h
    exact ⟨_, h1, trivial, fun od => ⟨.lkK od vs kvs, .k od vs kvs, fun H2 t e => ⟨e, r.mono t⟩, fun H2 ⟨e, r2⟩ => ⟨e, fun H3 t e3 => ⟨vs, e3, r2.mono t⟩⟩⟩⟩
  | dit kvs =>
    obtain ⟨vs, h1, r, n⟩ := m.ob a _ h
    exact ⟨_, h1, trivial, fun od => ⟨.lkT od vs kvs, .t od vs kvs, fun H2 t e => ⟨e, r.mono t, n⟩, fun H2 ⟨e, r2, n2⟩ => ⟨e, fun H3 t e3 => ⟨vs, e3, r2.mono t, n2⟩⟩⟩⟩
  | _ => exact hd.elim
section
variable {X : Cx} {W : WX} {st : Stmt} {t : TDS}
theorem js_lock (h : JS X W st t) : JS X W st (dLkS t) := by
  obtain ⟨t0, p, g⟩ := h
  refine ⟨fun D σ H => t0 D σ H ∨ tLock t0 D σ H, ⟨fun pins s σ H D I hw => hw.elim (p.run pins s σ H D I) ((ps_lock p).run pins s σ H D I)⟩, fun M0 H0 D0 D1 l ds σ H M gg s m q => ?_⟩
  rcases q with q | ⟨a, o, ha, hd, q⟩
  · exact .inl (g M0 H0 D0 D1 l ds σ H M gg s m q)
  · right
    obtain ⟨u, h1, mu, hl⟩ := or_lk m ha hd
    refine ⟨a, u, h1, mu, fun od => ?_⟩
    obtain ⟨lo, lk, f1, f2⟩ := hl od
    have t1 : TX X.K H (H.up a (.frz od u)) := TX.put m ha
    have m1 : MR X.K (mup M a lo) (H.up a (.frz od u)) := m.put ha (f1 _ t1 upd_same)
    have g1 : GG M H (mup M a lo) (H.up a (.frz od u)) := GG.put ha
    have back : ∀ (M2 : Mm) (H2 : HF), GG (mup M a lo) (H.up a (.frz od u)) M2 H2 → MR X.K M2 H2 → M2 a = some lo → H2.h a = some (.frz od u) ∧ MR X.K (mup M2 a o) (H2.up a u) ∧ GG M2 H2 (mup M2 a o) (H2.up a u) ∧ GG M0 H0 (mup M2 a o) (H2.up a u) := fun M2 H2 g2 m2 e2 => by
      obtain ⟨e3, f3⟩ := f2 H2 (m2.ob a _ e2)
      exact ⟨e3, m2.put e2 (f3 _ (TX.put m2 e2) upd_same), GG.put e2, ((gg.trans g1).trans g2).trans (GG.put e2)⟩
    refine g (mup M a lo) (H.up a (.frz od u)) _ (lkEnds a o lo D1) ⟨?_, ?_, ?_, ?_, ?_⟩ ds σ (H.up a (.frz od u)) (mup M a lo) GG.refl (s.gg m g1) m1 (q lo lk)
    · rintro σ2 ds2 H2 M2 g2 s2 m2 ⟨e2, q2⟩
      obtain ⟨e3, m3, g3, g4⟩ := back M2 H2 g2 m2 e2
      exact ⟨e3, l.nx σ2 ds2 (H2.up a u) _ g4 (s2.gg m2 g3) m3 q2⟩
    · rintro v d H2 M2 g2 r2 m2 ⟨e2, q2⟩
      obtain ⟨e3, m3, g3, g4⟩ := back M2 H2 g2 m2 e2
      exact ⟨e3, l.rt v d (H2.up a u) _ g4 (VR.mono (g3.tx m2) _ _ r2) m3 q2⟩
    · rintro σ2 ds2 H2 M2 g2 s2 m2 ⟨e2, q2⟩
      obtain ⟨e3, m3, g3, g4⟩ := back M2 H2 g2 m2 e2
      exact ⟨e3, l.bk σ2 ds2 (H2.up a u) _ g4 (s2.gg m2 g3) m3 q2⟩
    · rintro σ2 ds2 H2 M2 g2 s2 m2 ⟨e2, q2⟩
      obtain ⟨e3, m3, g3, g4⟩ := back M2 H2 g2 m2 e2
      exact ⟨e3, l.ct σ2 ds2 (H2.up a u) _ g4 (s2.gg m2 g3) m3 q2⟩
    · intro C od' σ2 ds2 fs H2 M2 _ _ _ _ _ q2
      exact q2.elim
end
theorem vr_kv {K : PySem.W.Frag} {H : HF} : ∀ k : Key, VR K H (kD k) (kV k)
  | .inl i => .int i
  | .inr x => .str x
theorem FR.getD {K : PySem.W.Frag} {H : HF} {κ : Type} : ∀ {ds : List (κ × D)} {vs : List (κ × V)} {i : Nat} {k : κ} {d : D}, FR K H ds vs → ds[i]? = some (k, d) → ∃ v, vs[i]? = some (k, v) ∧ VR K H d v
  | _, _, _, _, _, .nil, h => by simp at h
  | _, _, 0, _, _, .cons r _, h => by simp at h; obtain ⟨rfl, rfl⟩ := h; exact ⟨_, rfl, r⟩
  | _, _, i + 1, k, d, .cons _ t, h => by
    obtain ⟨v, h1, h2⟩ := FR.getD (i := i) (k := k) (d := d) t (by simpa using h)
    exact ⟨v, by simpa using h1, h2⟩
section
variable {K : PySem.W.Frag} {M : Mm} {H : HF} {a : Addr} {ob : Obj}
theorem it_keysK {us : List (Key × V)} {kvs : List (Key × D)} : ItOk K (Itk a ob us) ⟨keysKD kvs, fun M' => M' a = some (.lkK ob us kvs)⟩ M H where
  go := fun i d M2 H2 g m ok e => by
    obtain ⟨h1, r⟩ := m.ob a _ ok
    have := (List.getElem?_eq_some_iff.mp e).1
    exact ⟨h1, by rw [← r.len]; simpa [keysKD] using this⟩
  yld := fun i d M2 H2 x H3 g m ok e y => by
    obtain ⟨h1, r⟩ := m.ob a _ ok
    obtain ⟨rfl, k, v, e1, rfl⟩ := y
    obtain ⟨d', e2, _⟩ := r.getV e1
    unfold keysKD at e
    simp only at e
    rw [List.getElem?_map, e2] at e
    cases e
    exact ⟨H2, rfl, vr_kv _, m, GG.refl⟩
  stop := fun M2 H2 g m ok => by
    obtain ⟨h1, r⟩ := m.ob a _ ok
    exact ⟨h1, by rw [← r.len]; simp [keysKD]⟩
theorem it_keysT {us : List (List Key × V)} {kvs : List (List Key × D)} : ItOk K (Itkt a ob us) ⟨keysTD kvs, fun M' => M' a = some (.lkT ob us kvs)⟩ M H where
  go := fun i d M2 H2 g m ok e => by
    obtain ⟨h1, r, ne⟩ := m.ob a _ ok
    have := (List.getElem?_eq_some_iff.mp e).1
    exact ⟨h1, by rw [← r.len]; simpa [keysTD] using this⟩
  yld := fun i d M2 H2 x H3 g m ok e y => by
    obtain ⟨h1, r, ne⟩ := m.ob a _ ok
    obtain ⟨rfl, k, v, q, e1, rfl, hq⟩ := y
    obtain ⟨d', e2, _⟩ := r.getV e1
    unfold keysTD at e
    simp only at e
    rw [List.getElem?_map, e2] at e
    cases e
    exact ⟨H2, rfl, vr_key (r.nek ne (k, v) (List.mem_of_getElem? e1)) hq, m, GG.refl⟩
  stop := fun M2 H2 g m ok => by
    obtain ⟨h1, r, ne⟩ := m.ob a _ ok
    exact ⟨h1, by rw [← r.len]; simp [keysTD]⟩
end
def keysI (x : D) (M : Mm) (Q : DIt → Mm → Prop) : Prop := ∃ a, x = .ref a ∧ ((∃ ob us kvs, M a = some (.lkK ob us kvs) ∧ Q ⟨keysKD kvs, fun M' => M' a = some (.lkK ob us kvs)⟩ M) ∨ ∃ ob us kvs, M a = some (.lkT ob us kvs) ∧ Q ⟨keysTD kvs, fun M' => M' a = some (.lkT ob us kvs)⟩ M)
def diKeys (te : TDE) : TDI := fun ds M Q => te ds M fun x M1 => keysI x M1 Q
section
variable {X : Cx} {tg e : Expr} {te : TDE} {apos cpos tpos : Pos} {elts : List Expr} {kk : Nat}
theorem ji_keys (h : JE X e te) : JI X tg e (diKeys te) := by
  obtain ⟨u, p, g⟩ := h
  refine ⟨_, pi_keys p, fun ds σ H M Q R0 s m q k => ?_⟩
  refine g ds σ H M _ _ s m q fun v H1 d M1 r1 m1 g1 q1 => ?_
  obtain ⟨a, rfl, q1⟩ := q1
  cases r1.ref_v
  rcases q1 with ⟨ob, us, kvs, h1, q1⟩ | ⟨ob, us, kvs, h1, q1⟩
  · exact ⟨a, ob, rfl, .inl ⟨us, (m1.ob a _ h1).1, k _ H1 _ M1 it_keysK m1 g1 q1⟩⟩
  · exact ⟨a, ob, rfl, .inr ⟨us, (m1.ob a _ h1).1, k _ H1 _ M1 it_keysT m1 g1 q1⟩⟩
end
section
variable {ds : DSt} {M : Mm} {te : TDE} {a : Addr} {Q : DIt → Mm → Prop}
theorem diKeys_e : diKeys te ds M Q = te ds M fun x M1 => keysI x M1 Q := (rfl)
theorem keysI_t {ob us kvs} (h : M a = some (.lkT ob us kvs)) (k : Q ⟨keysTD kvs, fun M' => M' a = some (.lkT ob us kvs)⟩ M) : keysI (.ref a) M Q := ⟨a, rfl, .inr ⟨ob, us, kvs, h, k⟩⟩
theorem lkEnds_e {o l : MO} {D : DEnds} : lkEnds a o l D = ⟨fun ds M => M a = some l ∧ D.nx ds (mup M a o), fun v M => M a = some l ∧ D.rt v (mup M a o), fun _ _ _ _ => False, fun ds M => M a = some l ∧ D.bk ds (mup M a o), fun ds M => M a = some l ∧ D.ct ds (mup M a o)⟩ := (rfl)
theorem sa_lk {t s : TDS} {D0 : DEnds} (h : ∀ Nx, KEq Nx (s D0) → dLkS t { D0 with nx := Nx } ds M) : dSeq (dLkS t) s D0 ds M := h _ fun _ _ h => h
theorem lk_no {t : TDS} {D0 : DEnds} (k : t D0 ds M) : dLkS t D0 ds M := .inl k
theorem lk_t {t : TDS} {D0 : DEnds} {kvs : List (List Key × D)} (a : Addr) (h : M a = some (.dit kvs)) (k : ∀ ob us, t (lkEnds a (.dit kvs) (.lkT ob us kvs) D0) ds (mup M a (.lkT ob us kvs))) : dLkS t D0 ds M := .inr ⟨a, _, h, trivial, fun l hl => by cases hl; exact k _ _⟩
end
end DM
namespace DM
open PySem L2
open PyProof.Rows (b2i)
section
variable {M0 M : Mm} {L : List (Addr × MO)} {p : Addr} {o o' : MO} {x y : D} {k : List Key} {kvs : List (List Key × D)} {Q : DQ}
theorem Px.lk (b : Px M0 L M) (h : M0 p = some o) : Px (mup M0 p o') L (mup M p o') := ⟨fun x u hx => by
  by_cases e : x = p
  · rw [e, mup_same] at hx ⊢; exact hx
  · rw [mup_ne e] at hx ⊢; exact b.ex x u hx, fun q hq => by
  obtain ⟨h1, h2⟩ := b.lo q hq
  have e : q.1 ≠ p := by rintro e; rw [e, h] at h2; cases h2
  exact ⟨by rw [mup_ne e]; exact h1, by rw [mup_ne e]; exact h2⟩, b.nd⟩
end
theorem valT_ne {κ δ : Type} [DecidableEq κ] {l : List (κ × δ)} {k k' : κ} {d : δ} (h : k' ≠ k) : valT ((k', d) :: l) k = valT l k := by
  unfold valT
  rw [List.find?_cons]
  have : decide (k' = k) = false := by simpa using h
  simp only [this]
theorem valT_eq {κ δ : Type} [DecidableEq κ] {l : List (κ × δ)} {k : κ} {d : δ} : valT ((k, d) :: l) k = some d := by
  unfold valT
  simp
end DM
namespace DM
open PySem PySem.Spec PyProof.Rows L2
def keysTs : List D → Option (List (List Key))
  | [] => some []
  | d :: ds => match keyT d, keysTs ds with
    | some k, some ks => some (k :: ks)
    | _, _ => none
theorem keysTs_ne : ∀ {xs : List D} {ks : List (List Key)}, keysTs xs = some ks → ∀ k ∈ ks, k ≠ []
  | [], _, e => by cases e; exact fun _ h => nomatch h
  | d :: ds, ks, e => by
    unfold keysTs at e
    split at e
    · rename_i k ks' e1 e2
      cases e
      intro k' hm
      rcases List.mem_cons.mp hm with rfl | hm
      · exact (keyT_ne e1).2
      · exact keysTs_ne e2 k' hm
    · cases e
end DM
namespace DM
open PySem PySem.Spec PyProof.Rows L2
def dOrI (t1 t2 : TDI) : TDI := fun ds M Q => t1 ds M Q ∨ t2 ds M Q
theorem ji_or {X : Cx} {tg iter : Expr} {t1 t2 : TDI} (h1 : JI X tg iter t1) (h2 : JI X tg iter t2) : JI X tg iter (dOrI t1 t2) := by
  obtain ⟨w1, p1, g1⟩ := h1
  obtain ⟨w2, p2, g2⟩ := h2
  refine ⟨fun σ H R => w1 σ H R ∨ w2 σ H R, ⟨fun pins s σ H R I h => h.elim (p1.run pins s σ H R I) (p2.run pins s σ H R I)⟩, fun ds σ H M Q R0 s m q k => ?_⟩
  rcases q with q | q
  · exact .inl (g1 ds σ H M Q R0 s m q k)
  · exact .inr (g2 ds σ H M Q R0 s m q k)
theorem dOrI_l {t1 t2 : TDI} {ds : DSt} {M : Mm} {Q : DIt → Mm → Prop} (h : t1 ds M Q) : dOrI t1 t2 ds M Q := .inl h
theorem dOrI_r {t1 t2 : TDI} {ds : DSt} {M : Mm} {Q : DIt → Mm → Prop} (h : t2 ds M Q) : dOrI t1 t2 ds M Q := .inr h
end DM
namespace DM
open PySem L2
open PyProof.Rows (b2i)
def stsOf (E : List Ed) (F : List Str) (z : Str) : Prop := (∃ e ∈ E, z = e.1 ∨ z = e.2.2) ∨ z ∈ F
abbrev Hd := Str × Str
def hdK (h : Hd) : List Key := [.inr h.1, .inr h.2]
theorem hdK_inj {h g : Hd} (e : hdK h = hdK g) : h = g := by
  obtain ⟨a, b⟩ := h
  obtain ⟨c, d⟩ := g
  simp only [hdK, List.cons.injEq, Sum.inr.injEq, and_true] at e
  obtain ⟨rfl, rfl⟩ := e
  rfl
theorem valT_of {κ δ : Type} [DecidableEq κ] : ∀ {l : List (κ × δ)} {k : κ} {d : δ}, (l.map (·.1)).Nodup → (k, d) ∈ l → valT l k = some d
  | [], _, _, _, h => by cases h
  | (a, b) :: l, k, d, hn, h => by
    have hn' := List.nodup_cons.mp hn
    rcases List.mem_cons.mp h with h1 | h1
    · cases h1; exact valT_eq
    · rw [valT_ne]
      · exact valT_of hn'.2 h1
      · rintro rfl
        exact hn'.1 (List.mem_map.mpr ⟨_, h1, rfl⟩)
theorem nodup_map {α β : Type} {f : α → β} (hf : ∀ a b, f a = f b → a = b) : ∀ {l : List α}, l.Nodup → (l.map f).Nodup
  | [], _ => by simp
  | a :: l, h => by
    have h' := List.nodup_cons.mp h
    rw [List.map_cons, List.nodup_cons]
    refine ⟨fun hm => ?_, nodup_map hf h'.2⟩
    obtain ⟨b, hb, e⟩ := List.mem_map.mp hm
    rw [← hf _ _ e] at h'
    exact h'.1 hb
structure Btw (rs : List Rl) (E : List Ed) (F : List Str) (B : List (Hd × Str)) : Prop where
  nd : (B.map (·.1)).Nodup
  nv : (B.map (·.2)).Nodup
  al : ∀ r ∈ rs, ∀ m n, r.w = [m, n] → ∃ z, ((r.o, m), z) ∈ B
  so : ∀ b ∈ B, ∃ r ∈ rs, ∃ m n, r.w = [m, n] ∧ b.1 = (r.o, m)
  nw : ∀ b ∈ B, ¬ stsOf E F b.2 ∧ ∃ k : Nat, k < 100000 ∧ b.2 = Str.ofString (toString (k : Int))
def btwD (B : List (Hd × Str)) : List (List Key × D) := B.map fun b => (hdK b.1, .str b.2)
theorem Btw.val {rs : List Rl} {E : List Ed} {F : List Str} {B : List (Hd × Str)} (h : Btw rs E F B) {g : Hd} {z : Str} (hz : (g, z) ∈ B) : valT (btwD B) (hdK g) = some (.str z) := by
  refine valT_of ?_ (List.mem_map.mpr ⟨_, hz, rfl⟩)
  have : (btwD B).map (·.1) = (B.map (·.1)).map hdK := by simp [btwD]
  rw [this]
  exact nodup_map (fun a b e => hdK_inj e) h.nd
def edgesF (B : List (Hd × Str)) (r : Rl) (z : Str) : List Ed := match r.w with
  | [] => [(r.o, ("" : Str), z)]
  | [m] => [(r.o, m, z)]
  | m :: n :: _ => match valT B (r.o, m) with | some y => [(r.o, m, y), (y, n, z)] | none => []
def ShutOn (rs : List Rl) (B : List (Hd × Str)) (E : List Ed) : Prop := ∀ r ∈ rs, ∀ z, ReadsTo E r.p [r.m] z → ∀ e ∈ edgesF B r z, e ∈ E
end DM
namespace DM
open PySem L2
open PyProof.Rows (b2i)
theorem Slips.idem {E : List Ed} {S : Str → Prop} {z : Str} (h : Slips E (Slips E S) z) : Slips E S z := by
  induction h with
  | base h => exact h
  | step _ he ih => exact .step ih he
theorem slips_ex {E : List Ed} {S : Str → Prop} {m y : Str} (h : Slips E (stepP E m S) y) : ∃ z, S z ∧ Slips E (stepP E m (· = z)) y := by
  induction h with
  | base h =>
    obtain ⟨x, h1, h2⟩ := h
    exact ⟨x, h1, .base ⟨x, rfl, h2⟩⟩
  | step _ he ih =>
    obtain ⟨z, h1, h2⟩ := ih
    exact ⟨z, h1, .step h2 he⟩
theorem readP_mono {E : List Ed} {w : List Str} {S S' : Str → Prop} {z : Str} (h : ∀ x, S x → S' x) (k : readP E S w z) : readP E S' w z := readP_edges (fun _ h => h) h z k
theorem readP_ex {E : List Ed} : ∀ {w : List Str} {S : Str → Prop} {t : Str}, readP E S w t → ∃ z, S z ∧ ReadsTo E z w t
  | [], S, t, h => ⟨t, h, .base rfl⟩
  | m :: w, S, t, h => by
    obtain ⟨y, h1, h2⟩ := readP_ex (w := w) h
    obtain ⟨z, h3, h4⟩ := slips_ex h1
    refine ⟨z, h3, readP_mono (w := w) (fun x hx => ?_) h2⟩
    refine Slips.idem (Slips.mono (fun v e => ?_) hx)
    subst e
    exact Slips.mono (fun u ⟨a, h5, h6⟩ => ⟨a, .base h5, h6⟩) h4
theorem reads_cut {E : List Ed} {m p t : Str} {w : List Str} (h : ReadsTo E p (m :: w) t) : ∃ z, ReadsTo E p [m] z ∧ ReadsTo E z w t := readP_ex (w := w) h
theorem reads_slip {E : List Ed} {o z t : Str} {w : List Str} (he : (o, ("" : Str), z) ∈ E) (h : ReadsTo E z w t) : ReadsTo E o w t :=
  readP_mono (fun x hx => Slips.idem (Slips.mono (fun v e => by subst e; exact .step (.base rfl) he) hx)) h
theorem reads_edge {E : List Ed} {o m z t : Str} {w : List Str} (he : (o, m, z) ∈ E) (h : ReadsTo E z w t) : ReadsTo E o (m :: w) t :=
  readP_mono (w := w) (fun x hx => Slips.mono (fun v e => by subst e; exact ⟨o, .base rfl, he⟩) hx) h
theorem ShutOn.go {rs : List Rl} {B : List (Hd × Str)} {E0 : List Ed} {F zs : List Str} {E : List Ed} (h : ShutOn rs B E) (hB : Btw rs E0 F B) {r : Rl} (hr : r ∈ rs) (hw : r.w.length ≤ 2) {w : List Str} {t : Str} (k : ReadsTo E r.p (r.m :: w) t) : ReadsTo E r.o (r.w ++ w) t := by
  obtain ⟨z, h1, h2⟩ := reads_cut k
  have h3 := h r hr z h1
  unfold edgesF at h3
  cases e : r.w with
  | nil =>
    rw [e] at h3
    exact reads_slip (h3 _ (by simp)) h2
  | cons a l =>
    cases l with
    | nil =>
      rw [e] at h3
      exact reads_edge (h3 _ (by simp)) h2
    | cons b l =>
      cases l with
      | nil =>
        obtain ⟨y, hy⟩ := hB.al r hr a b e
        rw [e] at h3
        simp only [valT_of hB.nd hy] at h3
        exact reads_edge (h3 (r.o, a, y) (by simp)) (reads_edge (h3 (y, b, z) (by simp)) h2)
      | cons c l => rw [e] at hw; simp at hw
theorem ShutOn.congr {rs : List Rl} {B : List (Hd × Str)} {E E' : List Ed} (h : ShutOn rs B E) (e : ∀ x, x ∈ E ↔ x ∈ E') : ShutOn rs B E' := fun r hr z hz x hx => (e x).mp (h r hr z ((readP_mem e).mpr hz) x hx)
theorem Px.sub {M0 M M' : Mm} {L : List (Addr × MO)} (b : Px M0 L M) (s : Sub M M') : Px M0 L M' := ⟨fun a o h => s a o (b.ex a o h), fun q hq => ⟨s _ _ (b.lo q hq).1, (b.lo q hq).2⟩, b.nd⟩
theorem RdrAt.put {M0 M : Mm} {Reader a p : Addr} {E : List Ed} {o : MO} {kvs : List (List Key × D)} (h : RdrAt M0 M Reader a E) (e : ditOf M p = some kvs) : RdrAt M0 (mup M p o) Reader a E := by
  obtain ⟨l, h1, h2⟩ := h
  have hp := of_ditOf e
  have ha : a ≠ p := by rintro rfl; rw [of_insOf h1] at hp; cases hp
  exact ⟨l, by rw [insOf_mup_ne ha]; exact h1, h2.put (dit_not e).1 (dit_not e).2⟩
end DM
namespace DM
open PySem L2
open PyProof.Rows (b2i)
def StS (s : Str) : Prop := s ≠ ("" : Str) ∧ s.length ≤ 8
theorem StS.cp {s : Str} (h : StS s) : ∃ c, (cps s)[0]? = some c := by
  cases e : cps s with
  | nil => exact absurd (cps_inj (by rw [e]; rfl)) h.1
  | cons c l => exact ⟨c, rfl⟩
theorem NameS.st {z : Str} (h : NameS z) : StS z := ⟨h.ne, h.word.1⟩
def HoldsM (E : List Ed) (F : List Str) (s : St2) : Prop := ∃ z, ReadsTo E s.1 s.2 z ∧ z ∈ F
theorem HoldsM.up {E E' : List Ed} {F : List Str} {s : St2} (h : HoldsM E F s) (u : ∀ e ∈ E, e ∈ E') : HoldsM E' F s := by
  obtain ⟨z, h1, h2⟩ := h
  exact ⟨z, readP_edges u (fun x hx => Slips.edges u hx) z h1, h2⟩
theorem HoldsM.go {rs : List Rl} {B : List (Hd × Str)} {E0 E : List Ed} {F0 F : List Str} {s s' : St2} {i : Nat} {r : Rl} (h : HoldsM E F s) (c : ShutOn rs B E) (hB : Btw rs E0 F0 B) (hr : rs[i]? = some r) (hw : r.w.length ≤ 2) (k : stepF r s = some s') : HoldsM E F s' := by
  obtain ⟨z, h1, h2⟩ := h
  unfold stepF at k
  split at k
  · next hc =>
    obtain ⟨e1, e2⟩ := hc
    cases k
    have e3 : s.2 = r.m :: s.2.drop 1 := by
      cases hs : s.2 with
      | nil => rw [hs] at e2; cases e2
      | cons a l => rw [hs] at e2; simp at e2; rw [e2]; rfl
    rw [e1, e3] at h1
    exact ⟨z, c.go (zs := []) hB (List.mem_of_getElem? hr) hw h1, h2⟩
  · cases k
end DM
namespace DM
open PySem L2
open PyProof.Rows (b2i)
def insAll (E X : List Ed) : List Ed := X.foldl insE E
theorem insAll_nodup : ∀ {X E : List Ed}, E.Nodup → (insAll E X).Nodup
  | [], E, h => h
  | e :: X, E, h => insAll_nodup (X := X) (insE_nodup h)
theorem insAll_mem : ∀ {X E : List Ed} {x : Ed}, x ∈ insAll E X ↔ x ∈ E ∨ x ∈ X
  | [], E, x => by simp [insAll]
  | e :: X, E, x => by
    show x ∈ insAll (insE E e) X ↔ _
    rw [insAll_mem, insE_mem, List.mem_cons]
    exact or_assoc
end DM
namespace DM
open PySem L2
open PyProof.Rows (b2i)
theorem stepF_some {r : Rl} {w : List Str} : DM.stepF r (r.p, r.m :: w) = some (r.o, r.w ++ w) := by
  unfold DM.stepF
  rw [if_pos ⟨rfl, rfl⟩]
  rfl
end DM
namespace DM
open PySem PySem.Spec PyProof.Rows L2
def q5 : Nat → Nat
  | 0 => 0
  | n + 1 => q5 n * 5 + 1
theorem q5_lcg (m : Nat) : ∀ n, lcgN m n = q5 n % (m + 1)
  | 0 => (Nat.zero_mod _).symm
  | n + 1 => by
    show (lcgN m n * 5 + 1) % (m + 1) = _
    rw [q5_lcg m n, q5]
    simp [Nat.add_mod, Nat.mul_mod]
theorem q5_add (a : Nat) : ∀ d, q5 (d + a) = 5 ^ a * q5 d + q5 a := by
  induction a with
  | zero => intro d; simp [q5]
  | succ a ih =>
    intro d
    rw [← Nat.add_assoc, q5, ih, q5, Nat.pow_succ, Nat.add_mul, Nat.mul_assoc, Nat.mul_comm (q5 d) 5, ← Nat.mul_assoc, Nat.add_assoc]
theorem p5_mod (e : Nat) : 5 ^ e % 4 = 1 := by
  induction e with
  | zero => rfl
  | succ e ih => rw [Nat.pow_succ, Nat.mul_mod, ih]
theorem q5_par (n : Nat) : q5 n % 2 = n % 2 := by
  induction n with
  | zero => rfl
  | succ n ih => rw [q5]; omega
theorem q5_dbl (e : Nat) : q5 (e + e) = q5 e * (5 ^ e + 1) := by
  rw [q5_add, Nat.mul_add, Nat.mul_one, Nat.mul_comm]
theorem cop_odd {k n : Nat} (h : n % 2 = 1) : Nat.Coprime (2 ^ k) n := by
  refine Nat.Coprime.pow_left k ?_
  unfold Nat.Coprime
  rw [Nat.gcd_rec, h]; rfl
theorem q5_div : ∀ k d, 2 ^ k ∣ q5 d → 2 ^ k ∣ d
  | 0, d, _ => ⟨d, by simp⟩
  | k + 1, d, h => by
    have h2 : q5 d % 2 = 0 := by
      obtain ⟨c, hc⟩ := h
      rw [hc, Nat.pow_succ, Nat.mul_assoc, Nat.mul_left_comm]
      exact Nat.mul_mod_right _ _
    have hd : d % 2 = 0 := by rw [← q5_par]; exact h2
    obtain ⟨e, rfl⟩ : ∃ e, d = e + e := ⟨d / 2, by omega⟩
    obtain ⟨u, hu⟩ : ∃ u, 5 ^ e + 1 = 2 * u ∧ u % 2 = 1 := ⟨(5 ^ e + 1) / 2, by have := p5_mod e; omega⟩
    rw [q5_dbl, hu.1, Nat.mul_left_comm, Nat.pow_succ, Nat.mul_comm (2 ^ k) 2] at h
    have h3 : 2 ^ k ∣ q5 e * u := Nat.dvd_of_mul_dvd_mul_left (by decide) h
    obtain ⟨c, hc⟩ := q5_div k e ((cop_odd hu.2).dvd_of_dvd_mul_right h3)
    exact ⟨c, by rw [Nat.pow_succ, hc, Nat.mul_right_comm, Nat.mul_two]⟩
theorem q5_full : ∀ k, 2 ^ k ∣ q5 (2 ^ k)
  | 0 => ⟨1, rfl⟩
  | k + 1 => by
    obtain ⟨c, hc⟩ := q5_full k
    obtain ⟨u, hu⟩ : ∃ u, 5 ^ 2 ^ k + 1 = 2 * u := ⟨(5 ^ 2 ^ k + 1) / 2, by have := p5_mod (2 ^ k); omega⟩
    rw [Nat.pow_succ, show 2 ^ k * 2 = 2 ^ k + 2 ^ k by omega, q5_dbl, hc, hu]
    exact ⟨c * u, by rw [← Nat.two_mul, Nat.mul_comm 2 (2 ^ k)]; simp [Nat.mul_assoc, Nat.mul_left_comm]⟩
structure MaskG (m : Nat) : Prop where
  pw : ∃ k, m + 1 = 2 ^ k
  od : m % 2 = 1
  le : m ≤ 8191
section
variable {m : Nat}
theorem MaskG.round (hm : MaskG m) (n : Nat) : lcgN m (n + (m + 1)) = lcgN m n := by
  obtain ⟨k, hk⟩ := hm.pw
  rw [q5_lcg, q5_lcg, Nat.add_comm n, q5_add, hk]
  obtain ⟨c, hc⟩ := q5_full k
  rw [hc, ← Nat.mul_assoc, Nat.mul_comm (5 ^ n), Nat.mul_assoc, Nat.mul_add_mod]
theorem MaskG.inj (hm : MaskG m) {a b : Nat} (h : a < b) (hb : b ≤ m) : lcgN m a ≠ lcgN m b := by
  intro e
  obtain ⟨k, hk⟩ := hm.pw
  obtain ⟨d, rfl⟩ : ∃ d, b = d + a := ⟨b - a, by omega⟩
  rw [q5_lcg, q5_lcg, q5_add, hk] at e
  have h1 : 2 ^ k ∣ 5 ^ a * q5 d := by
    have h3 := Nat.sub_mod_eq_zero_of_mod_eq e.symm
    rw [Nat.add_sub_cancel] at h3
    exact Nat.dvd_of_mod_eq_zero h3
  have h5 : 5 ^ a % 2 = 1 := by have := p5_mod a; omega
  have h6 := Nat.le_of_dvd (by omega) (q5_div k d ((cop_odd h5).dvd_of_dvd_mul_left h1))
  omega
theorem MaskG.all (hm : MaskG m) {j : Nat} (hj : j ≤ m) : ∃ b, b ≤ m ∧ lcgN m b = j := by
  have hlt : ∀ b, lcgN m b ≤ m := fun b => by rw [q5_lcg]; exact Nat.le_of_lt_succ (Nat.mod_lt _ (by omega))
  have nd : ((List.range (m + 1)).map (lcgN m)).Nodup := by
    refine List.pairwise_iff_getElem.mpr fun a b ha hb h => ?_
    simp only [List.length_map, List.length_range] at ha hb
    rw [List.getElem_map, List.getElem_map, List.getElem_range, List.getElem_range]
    exact hm.inj h (by omega)
  rcases Classical.em (j ∈ (List.range (m + 1)).map (lcgN m)) with c | c
  · obtain ⟨b, hb, e⟩ := List.mem_map.mp c
    exact ⟨b, Nat.le_of_lt_succ (List.mem_range.mp hb), e⟩
  · have := nat_nodup_len _ ((List.range (m + 1)).erase j) nd fun x hx => by
      obtain ⟨b, hb, rfl⟩ := List.mem_map.mp hx
      exact (List.mem_erase_of_ne (fun e => c (by rw [← e]; exact hx))).mpr (List.mem_range.mpr (Nat.lt_succ_of_le (hlt b)))
    rw [List.length_map, List.length_range, List.length_erase_of_mem (List.mem_range.mpr (by omega)), List.length_range] at this
    omega
theorem MaskG.from (hm : MaskG m) {i j : Nat} (hi : i ≤ m) (hj : j ≤ m) : ∃ k, k ≤ m ∧ lcgI m i k = j := by
  obtain ⟨a, ha, rfl⟩ := hm.all hi
  obtain ⟨b, hb, rfl⟩ := hm.all hj
  by_cases h : a ≤ b
  · exact ⟨b - a, by omega, by rw [lcgN_add, Nat.add_sub_cancel' h]⟩
  · exact ⟨b + (m + 1) - a, by omega, by rw [lcgN_add, ← hm.round b]; congr 1; omega⟩
theorem MaskG.run (hm : MaskG m) (h : Int) {j : Nat} (hj : j ≤ m) : ∃ n, n < SetTable.turns m ∧ runI m (SetTable.bits h) n = j := by
  obtain ⟨k, hk, e⟩ := hm.from (runI_le m (SetTable.bits h) 12) hj
  refine ⟨12 + k, by unfold SetTable.turns; omega, (runI_tail (bits_lt h) k).trans e⟩
abbrev pr (m : Nat) (h : Int) (c : Nat) : SetTable.Probe := nth m (runAt m (SetTable.bits h % (m + 1)) (SetTable.bits h)) c
theorem pr_le (h : Int) (c : Nat) : (pr m h c).j ≤ m := by
  have h1 : SetTable.bits h % (m + 1) ≤ m := Nat.le_of_lt_succ (Nat.mod_lt _ (by omega))
  have h2 := runEnd_bd h1
  exact Nat.le_trans (Nat.le_add_right _ _) (nth_in c (runAt m (SetTable.bits h % (m + 1)) (SetTable.bits h)) (by simp only [runAt]; omega))
theorem MaskG.meets (hm : MaskG m) (h : Int) {j : Nat} (hj : j ≤ m) : ∃ c, c < 10 * SetTable.turns m ∧ (pr m h c).j = j := by
  obtain ⟨n, hn, rfl⟩ := hm.run h hj
  obtain ⟨c, hc, e⟩ := run_nth m (SetTable.bits h) n
  exact ⟨c, by omega, congrArg SetTable.Probe.j e⟩
end
def Come (t : SetTable) (h : Int) (j : Nat) : Prop := ∃ c, (pr t.mask h c).j = j ∧ ∀ i, i < c → (pr t.mask h i).j ∈ t.place.toList
structure TabG (t : SetTable) (hs : List Int) : Prop where
  up : Ris t.place.toList
  no : t.dummies = #[]
  ln : t.place.toList.length = hs.length
  mg : MaskG t.mask
  le : ∀ x ∈ t.place.toList, x ≤ t.mask
  go : ∀ (i : Nat) (h : Int) (j : Nat), hs[i]? = some h → t.place.toList[i]? = some j → Come t h j
section
variable {t : SetTable} {hs : List Int} {h : Int} {K : Nat}
theorem TabG.free (T : TabG t hs) (hl : hs.length ≤ t.mask) (h : Int) : ∃ K, K < 10 * SetTable.turns t.mask ∧ (pr t.mask h K).j ∉ t.place.toList ∧ ∀ c, c < K → (pr t.mask h c).j ∈ t.place.toList := by
  obtain ⟨j, hj, hn⟩ := st_missing t.place.toList (t.mask + 1) (by have := T.ln; omega)
  obtain ⟨c, hc, rfl⟩ := T.mg.meets h (Nat.le_of_lt_succ hj)
  obtain ⟨K, h1, h2, h3⟩ := st_least (p := fun c => (pr t.mask h c).j ∉ t.place.toList) c hn
  exact ⟨K, by omega, h2, fun c' hc' => Classical.not_not.mp (h3 c' hc')⟩
theorem Come.ahead {j : Nat} (C : Come t h j) (hj : j ∈ t.place.toList) (hK : (pr t.mask h K).j ∉ t.place.toList) : ∃ c, c < K ∧ (pr t.mask h c).j = j := by
  obtain ⟨c, e, hb⟩ := C
  refine ⟨c, Nat.lt_of_not_le fun hle => ?_, e⟩
  rcases Nat.lt_or_eq_of_le hle with z | z
  · exact hK (hb K z)
  · rw [z, e] at hK
    exact hK hj
theorem TabG.put (T : TabG t hs) (hK : (pr t.mask h K).j ∉ t.place.toList) (hb : ∀ c, c < K → (pr t.mask h c).j ∈ t.place.toList) :
    SetTable.below t.place (pr t.mask h K).j ≤ hs.length ∧ TabG (t.put (pr t.mask h K).j).1 (hs.take (SetTable.below t.place (pr t.mask h K).j) ++ h :: hs.drop (SetTable.below t.place (pr t.mask h K).j)) ∧ (t.put (pr t.mask h K).j).1.fill = hs.length + 1 := by
  have hle := pr_le (m := t.mask) h K
  generalize hj : (pr t.mask h K).j = j at *
  have hp : SetTable.below t.place j ≤ t.place.toList.length := (below_cut T.up j).1
  have hp2 := hp
  rw [T.ln] at hp2
  have e := put_place t j
  have e2 := put_dm T.no j
  have hl : (t.put j).1.place.toList.length = hs.length + 1 := by rw [e, len_ins _ hp, T.ln]
  have sub : ∀ x ∈ t.place.toList, x ∈ (t.put j).1.place.toList := fun x hx => by rw [e]; exact mem_ins.mpr (.inr hx)
  refine ⟨hp2, ⟨ris_insert T.up fun z => hK (List.mem_of_getElem? (by rwa [Array.getElem?_toList])), e2, by rw [hl, len_ins _ hp2], T.mg, fun x hx => ?_, fun i h' j' g1 g2 => ?_⟩, ?_⟩
  · rw [e] at hx
    rcases mem_ins.mp hx with rfl | hx
    · exact hle
    · exact T.le x hx
  · rw [tins_get _ hp2] at g1
    rw [e, tins_get _ hp] at g2
    have old : ∀ i, hs[i]? = some h' → t.place.toList[i]? = some j' → Come (t.put j).1 h' j' := fun i a b => by
      obtain ⟨c, h1, h2⟩ := T.go i h' j' a b
      exact ⟨c, h1, fun i hi => sub _ (h2 i hi)⟩
    split at g1
    · rename_i hi
      rw [if_pos hi] at g2
      exact old i g1 g2
    · rename_i hi
      rw [if_neg hi] at g2
      split at g1
      · rename_i hi2
        rw [if_pos hi2] at g2
        cases g1
        cases g2
        exact ⟨K, hj, fun c hc => sub _ (hb c hc)⟩
      · rename_i hi2
        rw [if_neg hi2] at g2
        exact old _ g1 g2
  · unfold SetTable.fill
    rw [← Array.length_toList, hl, e2]; rfl
end
end DM
namespace DM
open PySem PySem.Spec PyProof.Rows L2
section
variable {m : Nat} {owner : Array (Option Nat)} {done : List Int}
abbrev frees (m : Nat) (owner : Array (Option Nat)) (h : Int) : Option Nat := SetTable.layClean.free m owner (SetTable.turns m) (SetTable.bits h % (m + 1)) (SetTable.bits h)
theorem MaskG.finds (hm : MaskG m) (owner : Array (Option Nat)) (h : Int) {j : Nat} (hj : j ≤ m) (hf : oAt owner j = none) :
    ∃ K, frees m owner h = some (pr m h K).j ∧ oAt owner (pr m h K).j = none ∧ ∀ c, c < K → oAt owner (pr m h c).j ≠ none := by
  obtain ⟨n, hn, rfl⟩ := hm.run h hj
  have e : (pr m h (off m (SetTable.bits h % (m + 1)) (SetTable.bits h) n)).j = runI m (SetTable.bits h) n := by
    unfold pr
    rw [nth_off, itL_run]; rfl
  obtain ⟨K, h1, h2, h3⟩ := st_least (p := fun c => oAt owner (pr m h c).j = none) _ (by rw [e]; exact hf)
  refine ⟨K, free_spec m owner _ n _ _ K hn h1 (fun c hc => ?_) (by rw [h2]; rfl), h2, h3⟩
  have := h3 c hc
  cases z : oAt owner (pr m h c).j with
  | none => exact absurd z this
  | some k => rfl
theorem Own.more (hm : MaskG m) (W : Own m done owner) (hl : done.length ≤ m) (h : Int) : ∃ j, frees m owner h = some j ∧ Own m (done ++ [h]) (owner.setIfInBounds j (some done.length)) := by
  obtain ⟨ps, hps, hin⟩ := W.ps
  obtain ⟨j0, hlt, hnot⟩ := st_missing ps (m + 1) (by omega)
  have hfree : oAt owner j0 = none := Classical.byContradiction fun z => hnot (hin j0 (by omega) z)
  obtain ⟨K, e1, e2, e3⟩ := hm.finds owner h (Nat.le_of_lt_succ hlt) hfree
  have hle := pr_le (m := m) h K
  generalize hj : (pr m h K).j = j at *
  have self := oAt_set_self (owner := owner) (j := j) (some done.length) (by rw [W.sz]; omega)
  have stay : ∀ i, oAt owner i ≠ none → oAt (owner.setIfInBounds j (some done.length)) i ≠ none := fun i hi => by
    rcases Nat.decEq i j with c | c
    · rwa [oAt_set_ne _ c]
    · rw [c, self]; simp
  refine ⟨j, e1, ⟨by rw [Array.size_setIfInBounds, W.sz], fun i k hi e => ?_, fun k hk => ?_, j :: ps, by simp [hps], fun i hi e => ?_⟩⟩
  · rcases Nat.decEq i j with c | c
    · rw [oAt_set_ne _ c] at e
      obtain ⟨h', K', g1, g2, g3⟩ := W.at_ i k hi e
      exact ⟨h', K', by rw [List.getElem?_append_left (List.getElem?_eq_some_iff.mp g1).1]; exact g1, g2, fun c hc => stay _ (g3 c hc)⟩
    · rw [c, self] at e
      cases e
      exact ⟨h, K, by simp, by rw [c]; exact hj, fun c hc => stay _ (e3 c hc)⟩
  · rcases Nat.lt_or_ge k done.length with c | c
    · obtain ⟨i, hi, e⟩ := W.all k c
      exact ⟨i, hi, by rwa [oAt_set_ne _ fun z => by rw [z, e2] at e; cases e]⟩
    · simp only [List.length_append, List.length_cons, List.length_nil] at hk
      obtain rfl : k = done.length := by omega
      exact ⟨j, hle, self⟩
  · rcases Nat.decEq i j with c | c
    · rw [oAt_set_ne _ c] at e
      exact List.mem_cons_of_mem _ (hin i hi e)
    · rw [c]; exact List.mem_cons_self
theorem Own.rest (hm : MaskG m) (left : List Int) : ∀ (done : List Int) (owner : Array (Option Nat)), Own m done owner → done.length + left.length ≤ m → ∃ o', left.foldl (L2.stepF m) (some (owner, done.length)) = some (o', (done ++ left).length) ∧ Own m (done ++ left) o' := by
  induction left with
  | nil => exact fun done owner W _ => ⟨owner, by simp, by simpa using W⟩
  | cons h left ih =>
    intro done owner W hl
    simp only [List.length_cons] at hl
    obtain ⟨j, e, W1⟩ := Own.more hm W (by omega) h
    obtain ⟨o', e2, W2⟩ := ih _ _ W1 (by simp; omega)
    refine ⟨o', ?_, by simpa using W2⟩
    rw [List.foldl_cons, L2.stepF_some e]
    simpa using e2
theorem lay_own (hm : MaskG m) {hs : Array Int} (hn : hs.size ≤ m) : ∃ o', SetTable.layClean m hs = some o' ∧ Own m hs.toList o' := by
  obtain ⟨o', e, W⟩ := Own.rest hm hs.toList [] _ (Own.init m) (by simpa using hn)
  refine ⟨o', ?_, W⟩
  have e' : hs.toList.foldl (L2.stepF m) (some (Array.replicate (m + 1) none, 0)) = some (o', ([] ++ hs.toList).length) := e
  rw [layClean_eq, e']; rfl
end
theorem lay_anew (t : SetTable) {hs : Array Int} {wanted M : Nat} (hw : SetTable.sizeAbove wanted - 1 = M) (hM : MaskG M) (hn : hs.size ≤ M) :
    ∃ t' order, t.relaid hs wanted = some (t', order) ∧ order.toList.Perm (List.range hs.size) ∧ TabG t' (order.toList.map fun i => hs.getD i 0) ∧ t'.mask = M ∧ t'.led = t.led ∧ t'.plain = t.plain := by
  obtain ⟨owner, e, W⟩ := lay_own hM hn
  obtain ⟨r1, r2⟩ := ris_live (fun j => owner.getD j none) (List.range (M + 1)) List.pairwise_lt_range
  have hmem : ∀ {j k}, (j, k) ∈ liveOf M owner ↔ j ≤ M ∧ oAt owner j = some k := mem_live W.sz
  have fst_le : ∀ x ∈ (liveOf M owner).map (·.1), x ≤ M := fun x hx => Nat.le_of_lt_succ (List.mem_range.mp (r2 x hx))
  have hall : ∀ k, k < hs.size → k ∈ (liveOf M owner).map (·.2) := fun k hk => by
    obtain ⟨j, h1, h2⟩ := W.all k (by simpa using hk)
    exact List.mem_map.mpr ⟨(j, k), hmem.mpr ⟨h1, h2⟩, rfl⟩
  have hlen : (liveOf M owner).length = hs.size := by
    obtain ⟨ps, p1, p2⟩ := W.ps
    have up := nat_nodup_len ((liveOf M owner).map (·.1)) ps (by refine List.Pairwise.imp ?_ (show List.Pairwise (· < ·) ((liveOf M owner).map (·.1)) from r1); exact fun h => Nat.ne_of_lt h) fun x hx => by
      obtain ⟨⟨y, k⟩, hq, rfl⟩ := List.mem_map.mp hx
      obtain ⟨g1, g2⟩ := hmem.mp hq
      exact p2 y g1 (by rw [g2]; simp)
    have lo := nat_nodup_len (List.range hs.size) _ List.nodup_range fun k hk => hall k (List.mem_range.mp hk)
    simp only [List.length_map, List.length_range, Array.length_toList] at up lo p1
    omega
  refine ⟨tabOf t M owner, ((liveOf M owner).map (·.2)).toArray, by rw [relaid_eq, hw, e]; rfl, perm_range _ _ (by simp [hlen]) fun k hk => by simpa using hall k hk, ⟨r1, rfl, by simp [tabOf], hM, fst_le, fun i h j g1 g2 => ?_⟩, rfl, rfl, rfl⟩
  have g1 : (((liveOf M owner).map (·.2)).map fun i => hs.getD i 0)[i]? = some h := g1
  have g2 : ((liveOf M owner).map (·.1))[i]? = some j := g2
  simp only [List.getElem?_map] at g1 g2
  obtain ⟨⟨y, k⟩, hq, rfl⟩ := Option.map_eq_some_iff.mp g2
  rw [hq] at g1
  obtain ⟨b1, b2⟩ := hmem.mp (List.mem_of_getElem? hq)
  obtain ⟨h0, K, a1, a2, a3⟩ := W.at_ y k b1 b2
  have e0 : hs.getD k 0 = h0 := by rw [Array.getD_eq_getD_getElem?, ← Array.getElem?_toList, a1]; rfl
  have e1 : hs.getD k 0 = h := by simpa using g1
  rw [e1] at e0
  subst e0
  refine ⟨K, a2, fun c hc => ?_⟩
  show (pr M h c).j ∈ (liveOf M owner).map (·.1)
  obtain ⟨k2, z⟩ := Option.ne_none_iff_exists'.mp (a3 c hc)
  exact List.mem_map.mpr ⟨((pr M h c).j, k2), hmem.mpr ⟨pr_le h c, z⟩, rfl⟩
theorem maskG_of {k : Nat} (h3 : 3 ≤ k) (h13 : k ≤ 13) : MaskG (2 ^ k - 1) := by
  have h1 : 2 ^ 3 ≤ 2 ^ k := Nat.pow_le_pow_right (by decide) h3
  have h2 : 2 ^ k ≤ 2 ^ 13 := Nat.pow_le_pow_right (by decide) h13
  refine ⟨⟨k, by omega⟩, ?_, by omega⟩
  obtain ⟨j, rfl⟩ : ∃ j, k = j + 1 := ⟨k - 1, by omega⟩
  rw [Nat.pow_succ] at *
  omega
def Mk6 (m : Nat) : Prop := m = 7 ∨ m = 31 ∨ m = 127 ∨ m = 511 ∨ m = 2047 ∨ m = 8191
theorem Mk6.g {m : Nat} (h : Mk6 m) : MaskG m := by
  rcases h with rfl | rfl | rfl | rfl | rfl | rfl
  · exact maskG_of (k := 3) (by decide) (by decide)
  · exact maskG_of (k := 5) (by decide) (by decide)
  · exact maskG_of (k := 7) (by decide) (by decide)
  · exact maskG_of (k := 9) (by decide) (by decide)
  · exact maskG_of (k := 11) (by decide) (by decide)
  · exact maskG_of (k := 13) (by decide) (by decide)
theorem grow_5 : SetTable.sizeAbove (SetTable.grown 5) - 1 = 31 := by decide +kernel
theorem grow_19 : SetTable.sizeAbove (SetTable.grown 19) - 1 = 127 := by decide +kernel
theorem grow_77 : SetTable.sizeAbove (SetTable.grown 77) - 1 = 511 := by decide +kernel
theorem grow_307 : SetTable.sizeAbove (SetTable.grown 307) - 1 = 2047 := by decide +kernel
theorem grow_1229 : SetTable.sizeAbove (SetTable.grown 1229) - 1 = 8191 := by decide +kernel
theorem Mk6.next {m n : Nat} (h : Mk6 m) (h1 : n * 5 < m * 3) (h2 : m * 3 ≤ (n + 1) * 5) (h3 : n + 1 < 4900) : ∃ M, SetTable.sizeAbove (SetTable.grown (n + 1)) - 1 = M ∧ Mk6 M ∧ (n + 1) * 5 < M * 3 := by
  rcases h with rfl | rfl | rfl | rfl | rfl | rfl
  · obtain rfl : n = 4 := by omega
    exact ⟨_, grow_5, .inr (.inl rfl), by omega⟩
  · obtain rfl : n = 18 := by omega
    exact ⟨_, grow_19, .inr (.inr (.inl rfl)), by omega⟩
  · obtain rfl : n = 76 := by omega
    exact ⟨_, grow_77, .inr (.inr (.inr (.inl rfl))), by omega⟩
  · obtain rfl : n = 306 := by omega
    exact ⟨_, grow_307, .inr (.inr (.inr (.inr (.inl rfl)))), by omega⟩
  · obtain rfl : n = 1228 := by omega
    exact ⟨_, grow_1229, .inr (.inr (.inr (.inr (.inr rfl)))), by omega⟩
  · omega
end DM
namespace DM
open PySem PySem.Spec PyProof.Rows L2
abbrev IsM (P : Program) (w : World) (h : Heap) (k : List Key) (a : Addr) : Prop := IsTupleKey (mixKind P w) h k a
abbrev hsh (P : Program) (w : World) (k : List Key) : Int := tupleKeyHash (mixKind P w) k
section
variable {P : Program} {w : World} {A : Around} {E : Value → Shared → Prop} {s : Shared}
theorem parts_by {k : List Key} {vs : List Value} (h : ItemsAre (mixKind P w) k vs) : ∀ v ∈ vs, ∃ x, keyIs x v = true := by
  induction h with
  | nil => intro v hv; simp at hv
  | cons h1 _ ih => exact fun v hv => (List.mem_cons.mp hv).elim (fun e => ⟨_, e ▸ h1⟩) (ih v)
theorem part_class (n : Nat) {x : Key} {v : Value} (h : keyIs x v = true) : ofAClassStatement n v = pure false := by
  rcases keyIs_shape h with ⟨i, t, _, rfl⟩ | ⟨z, t, _, rfl⟩ <;> cases n <;> rfl
theorem part_hash (n : Nat) {x : Key} {v : Value} (h : keyIs x v = true) : hashByValue n v = pure (plainKind v) := hashByValue_scannable n (scan_is h)
theorem tup_class {k : List Key} {b : Addr} {Q : Bool → Shared → Prop} (hk : IsM P w s.heap k b) (h : Q false s) : wpAny (model P w) A (ofAClassStatement 8 (.ref b)) Q E s := by
  have ty := hk.typeIs
  obtain ⟨o, items, n, at_, _, dt, its⟩ := hk
  unfold ofAClassStatement
  refine wpAny_bind (wpAny_typeOf ty ?_)
  simp only [beq_self_eq_true, if_true, Bool.not_true, Bool.false_eq_true, if_false]
  refine wpAny_bind (wpAny_pure ?_)
  simp only [Bool.not_true, Bool.false_eq_true, if_false]
  refine wpAny_bind (wpAny_seqItems at_ dt (wpAny_bind ?_))
  rw [← Array.forIn_toList]
  refine wpAny_forIn_list _ (fun left r t => (r.1 = none ∧ t = s) ∧ ∀ v ∈ left, ∃ x, keyIs x v = true) _ (fun v left r t hr => ?_) (fun r t hr => ?_) _ _ ⟨⟨rfl, rfl⟩, parts_by its⟩
  · obtain ⟨⟨_, rfl⟩, hl⟩ := hr
    obtain ⟨x, hx⟩ := hl v List.mem_cons_self
    rw [part_class _ hx]
    refine wpAny_bind (wpAny_pure ?_)
    simp only [Bool.false_eq_true, if_false]
    exact wpAny_pure ⟨⟨rfl, rfl⟩, fun u hu => hl u (List.mem_cons_of_mem _ hu)⟩
  · obtain ⟨r1, r2⟩ := r
    obtain ⟨⟨e, rfl⟩, _⟩ := hr
    cases e
    exact wpAny_pure h
theorem tup_hash {k : List Key} {b : Addr} {Q : Bool → Shared → Prop} (hk : IsM P w s.heap k b) (h : ∀ r, Q r s) : wpAny (model P w) A (hashByValue 8 (.ref b)) Q E s := by
  have ty := hk.typeIs
  obtain ⟨o, items, n, at_, _, dt, its⟩ := hk
  unfold hashByValue
  refine wpAny_bind (wpAny_specialOf ty F.slot_tuple_hash.lookup (wpAny_bind (wpAny_seqItems at_ dt (wpAny_bind ?_))))
  simp only [Option.getD_some]
  rw [← Array.forIn_toList]
  refine wpAny_forIn_list _ (fun left r t => (r.1 = none ∧ t = s) ∧ ∀ v ∈ left, ∃ x, keyIs x v = true) _ (fun v left r t hr => ?_) (fun r t hr => ?_) _ _ ⟨⟨rfl, rfl⟩, parts_by its⟩
  · obtain ⟨⟨_, rfl⟩, hl⟩ := hr
    obtain ⟨x, hx⟩ := hl v List.mem_cons_self
    rw [part_hash _ hx]
    refine wpAny_bind (wpAny_pure ?_)
    cases plainKind v with
    | true => exact wpAny_pure ⟨⟨rfl, rfl⟩, fun u hu => hl u (List.mem_cons_of_mem _ hu)⟩
    | false => exact wpAny_pure (wpAny_pure (h _))
  · obtain ⟨r1, r2⟩ := r
    obtain ⟨⟨e, rfl⟩, _⟩ := hr
    cases e
    exact wpAny_pure (h _)
theorem tups_seen {k : List Key} {b : Addr} {Q : Bool → Shared → Prop} (hk : IsM P w s.heap k b) {ys : List Value} (hy : ∀ y ∈ ys, ∃ k' c, y = .ref c ∧ IsM P w s.heap k' c) (h : Q false s) : wpAny (model P w) A (searchCouldBeSeen (.ref b) ys) Q E s := by
  unfold searchCouldBeSeen
  refine wpAny_bind (wpAny_forIn_list _ (fun left r t => (r.1 = none ∧ t = s) ∧ ∀ y ∈ left, ∃ k' c, y = .ref c ∧ IsM P w s.heap k' c) _ (fun v left r t hr => ?_) (fun r t hr => ?_) _ _ ⟨⟨rfl, rfl⟩, hy⟩)
  · obtain ⟨⟨_, rfl⟩, hl⟩ := hr
    obtain ⟨k', c, rfl, hc⟩ := hl v List.mem_cons_self
    have on : ∀ y ∈ left, ∃ k' c, y = .ref c ∧ IsM P w t.heap k' c := fun u hu => hl u (List.mem_cons_of_mem _ hu)
    dsimp only
    by_cases q : (b == c || (carriedByValue (.ref b) && carriedByValue (.ref c))) = true
    · exact wp_if_pos q (wpAny_pure ⟨⟨rfl, rfl⟩, on⟩)
    · refine wp_if_neg q (wpAny_bind (wpAny_eqIsQuiet_tuple hk ?_))
      simp only [Bool.not_true, Bool.false_eq_true, if_false]
      refine wpAny_bind (wpAny_eqIsQuiet_tuple hc ?_)
      simp only [Bool.not_true, Bool.false_eq_true, if_false]
      refine wpAny_bind (tup_class hk ?_)
      simp only [Bool.false_eq_true, if_false]
      refine wpAny_bind (tup_class hc ?_)
      simp only [Bool.false_eq_true, if_false]
      exact wpAny_pure ⟨⟨rfl, rfl⟩, on⟩
  · obtain ⟨r1, r2⟩ := r
    obtain ⟨⟨e, rfl⟩, _⟩ := hr
    cases e
    exact wpAny_pure h
abbrev Mem := Addr × List Key
def ent (P : Program) (w : World) (p : Mem) : Int × Value := (hsh P w p.2, .ref p.1)
structure SetG (P : Program) (w : World) (h : Heap) (a : Addr) (L : List Mem) (o : Obj) (es : Array (Int × Value)) (ep : Nat) (t : SetTable) : Prop where
  at_ : h.get? a = some o
  ex : o.ExactSet
  dt : o.data = .set es ep t
  ls : es.toList = L.map (ent P w)
  tb : TabG t (L.map fun p => hsh P w p.2)
  nd : (L.map (·.2)).Nodup
  tp : ∀ p ∈ L, IsM P w h p.2 p.1
  ld : w.params.followText "set-order" = true ∨ t.led = true
  rm : L.length * 5 < t.mask * 3
  m6 : Mk6 t.mask
variable {a x : Addr} {k : List Key} {L : List Mem} {o : Obj} {es : Array (Int × Value)} {ep : Nat} {t : SetTable}
theorem SetG.len (R : SetG P w s.heap a L o es ep t) : es.size = L.length := by
  rw [← Array.length_toList, R.ls, List.length_map]
theorem SetG.pln (R : SetG P w s.heap a L o es ep t) : t.place.size = L.length := by
  have := R.tb.ln
  rwa [List.length_map, Array.length_toList] at this
theorem SetG.fit (R : SetG P w s.heap a L o es ep t) : t.fits es.size = true := by
  have h1 := R.len
  have h2 := R.pln
  have h3 := R.rm
  have h4 : t.dummies.size = 0 := by rw [R.tb.no]; rfl
  simp only [SetTable.fits, SetTable.fill, Bool.and_eq_true, beq_iff_eq]
  exact ⟨by omega, decide_eq_true (by omega)⟩
theorem SetG.get (R : SetG P w s.heap a L o es ep t) {i : Nat} {p : Mem} (h : L[i]? = some p) : es[i]? = some (ent P w p) := by
  rw [← Array.getElem?_toList, R.ls, List.getElem?_map, h]; rfl
theorem SetG.whole (R : SetG P w s.heap a L o es ep t) : ¬ t.gaveWay = true := by
  simp only [SetTable.gaveWay, R.tb.mg.od]
  decide
def ha (es : Array (Int × Value)) (i : Nat) : Int := (es[i]?.map (·.1)).getD 0
theorem SetG.ha (R : SetG P w s.heap a L o es ep t) {i : Nat} {p : Mem} (h : L[i]? = some p) : DM.ha es i = hsh P w p.2 := by
  unfold DM.ha
  rw [R.get h]; rfl
theorem pr_add {m : Nat} {h : Int} (c d : Nat) : nth m (pr m h c) d = pr m h (c + d) := (nth_add m c _ d).symm
theorem pr_dummy {m : Nat} {h : Int} : ∀ c, (pr m h c).dummy = none := by
  have on : ∀ (c : Nat) (p : SetTable.Probe), p.dummy = none → (nth m p c).dummy = none := by
    intro c
    induction c with
    | zero => exact fun p e => e
    | succ c ih => exact fun p e => ih _ (by unfold adv; split <;> exact e)
  exact fun c => on c _ rfl
end
end DM
namespace DM
open PySem PySem.Spec PyProof.Rows L2
section
variable {P : Program} {w : World} {A : Around} {E : Value → Shared → Prop} {s : Shared}
variable {a x : Addr} {k : List Key} {L : List Mem} {o : Obj} {es : Array (Int × Value)} {ep : Nat} {t : SetTable}
theorem look_from (R : SetG P w s.heap a L o es ep t) (hx : IsM P w s.heap k x) (hu : A.units < cLine) {K : Nat} (hf : K < 10 * SetTable.turns t.mask)
    (hK : (pr t.mask (hsh P w k) K).j ∉ t.place.toList) (hb : ∀ c, c < K → (pr t.mask (hsh P w k) c).j ∈ t.place.toList) {Q : SetFound → Shared → Prop}
    (yes : k ∈ L.map (·.2) → Q (.there none) s) (no : k ∉ L.map (·.2) → Q (.free (pr t.mask (hsh P w k) K).j false) s) :
    ∀ (f c : Nat) (st : Option SetTable.Probe), st.getD (t.probeStart (hsh P w k)) = pr t.mask (hsh P w k) c → c ≤ K → K < f + c →
      (∀ (i : Nat) (p : Mem), L[i]? = some p → p.2 = k → ∃ c', c ≤ c' ∧ c' < K ∧ t.place.toList[i]? = some (pr t.mask (hsh P w k) c').j) →
      wpAny (model P w) A (setSearchFrom a (.ref x) (hsh P w k) true f st) Q E s := by
  intro f
  induction f with
  | zero => intro c st _ h1 h2; omega
  | succ f ih =>
    intro c st e hc hlt left
    rw [setSearchFrom_succ]
    refine wpAny_bind (wpAny_setState_of R.at_ R.dt R.fit ?_)
    dsimp only
    refine wp_if_neg R.whole ?_
    try refine wpAny_bind (wpAny_pure ?_)
    have sp := go_spec t R.tb.up R.tb.no (DM.ha es) (hsh P w k) (10 * SetTable.turns t.mask) (K - c) (pr t.mask (hsh P w k) c) (pr_dummy c) (by omega) (fun q hq => by rw [pr_add]; exact hb _ (by omega)) (by rw [pr_add, show c + (K - c) = K by omega]; exact hK)
    simp only [pr_add] at sp
    rw [e]
    rcases sp with ⟨q, i, hq, hi, _, before, ep'⟩ | ⟨before, ep'⟩
    · rw [show t.probe (fun i => (es[i]?.map (·.1)).getD 0) (hsh P w k) (pr t.mask (hsh P w k) c) = _ from ep']
      dsimp only
      have hil : i < L.length := by
        have h1 := (List.getElem?_eq_some_iff.mp hi).1
        rw [Array.length_toList, R.pln] at h1
        exact h1
      obtain ⟨p, hp⟩ : ∃ p, L[i]? = some p := ⟨_, List.getElem?_eq_getElem hil⟩
      have mp := List.mem_of_getElem? hp
      have sl : t.slot (pr t.mask (hsh P w k) (c + q)).j = .live i := slot_live R.tb.up hi
      have go : wpAny (model P w) A (searchRest a (.ref x) (hsh P w k) true f es t (pr t.mask (hsh P w k) (c + q)).j i (pr t.mask (hsh P w k) (c + (q + 1)))) Q E s := by
        unfold searchRest
        rw [R.get hp]
        simp only [ent]
        refine wpAny_bind (wpAny_holding (wpAny_eqBool_tuple hu (R.tp p mp) hx (wpAny_bind (wpAny_setState_of R.at_ R.dt R.fit ?_))))
        by_cases hk : p.2 = k
        · exact wp_if_pos (by simp [hk]) (wpAny_pure (yes (List.mem_map.mpr ⟨p, mp, hk⟩)))
        · refine wp_if_neg (by simp [hk]) ?_
          try refine wpAny_bind (wpAny_pure ?_)
          rw [sameMem]
          simp only [if_true, sl, R.get hp, ent]
          refine wpAny_bind (wpAny_isSame_ref_self (wpAny_bind (wpAny_pure ?_)))
          simp only [if_true]
          refine wp_if_neg (by simp [hk]) (ih (c + (q + 1)) _ rfl (by omega) (by omega) fun i0 p0 h0 hk0 => ?_)
          obtain ⟨c', g1, g2, g3⟩ := left i0 p0 h0 hk0
          refine ⟨c', Nat.lt_of_not_le fun hle => ?_, g2, g3⟩
          have hle : c' ≤ c + q := hle
          have hh : DM.ha es i0 = hsh P w k := by rw [R.ha h0, hk0]
          rcases Nat.lt_or_eq_of_le hle with z | z
          · refine before (c' - c) i0 (by omega) ?_ hh
            rw [show c + (c' - c) = c' by omega]; exact g3
          · rw [z] at g3
            have s2 := slot_live R.tb.up g3
            rw [sl] at s2
            cases s2
            rw [hp] at h0
            cases h0
            exact hk hk0
      by_cases hl : t.led = true
      · refine wp_if_neg (by simp [hl]) ?_
        try refine wpAny_bind (wpAny_pure ?_)
        exact go
      · refine wp_if_pos (by simp [hl]) (wpAny_bind (tups_seen hx (fun y hy => ?_) (wp_if_neg (by decide) ?_)))
        · obtain ⟨u, hu1, rfl⟩ := List.mem_map.mp hy
          have hu2 : u ∈ es.toList := by
            simp only [Array.toList_filter, List.mem_filter] at hu1
            exact hu1.1
          rw [R.ls] at hu2
          obtain ⟨p2, hp2, rfl⟩ := List.mem_map.mp hu2
          exact ⟨p2.2, p2.1, rfl, R.tp p2 hp2⟩
        · try refine wpAny_bind (wpAny_pure ?_)
          exact go
    · rw [show c + (K - c) = K by omega] at ep'
      rw [show t.probe (fun i => (es[i]?.map (·.1)).getD 0) (hsh P w k) (pr t.mask (hsh P w k) c) = _ from ep']
      dsimp only
      refine wpAny_pure (no fun hm => ?_)
      obtain ⟨p0, m0, hk0⟩ := List.mem_map.mp hm
      obtain ⟨i0, hi0, e0⟩ := List.getElem_of_mem m0
      have h0 : L[i0]? = some p0 := by rw [List.getElem?_eq_getElem hi0, e0]
      obtain ⟨c', g1, g2, g3⟩ := left i0 p0 h0 hk0
      refine before (c' - c) i0 (by omega) ?_ (by rw [R.ha h0, hk0])
      rw [show c + (c' - c) = c' by omega]; exact g3
theorem look_for (R : SetG P w s.heap a L o es ep t) (hx : IsM P w s.heap k x) (hu : A.units < cLine) {Q : SetFound → Shared → Prop} (yes : k ∈ L.map (·.2) → Q (.there none) s)
    (no : ∀ K, k ∉ L.map (·.2) → (pr t.mask (hsh P w k) K).j ∉ t.place.toList → (∀ c, c < K → (pr t.mask (hsh P w k) c).j ∈ t.place.toList) → Q (.free (pr t.mask (hsh P w k) K).j false) s) :
    wpAny (model P w) A (setSearch a (.ref x) (hsh P w k) true) Q E s := by
  have rm := R.rm
  obtain ⟨K, hf, hK, hb⟩ := R.tb.free (by rw [List.length_map]; omega) (hsh P w k)
  have big : K < 100000 := by
    have := R.tb.mg.le
    unfold SetTable.turns at hf
    omega
  unfold setSearch
  refine look_from R hx hu hf hK hb yes (fun h => no K h hK hb) 100000 0 none rfl (Nat.zero_le _) (by omega) fun i p hp hk => ?_
  have hlt : i < t.place.toList.length := by rw [Array.length_toList, R.pln]; exact (List.getElem?_eq_some_iff.mp hp).1
  have hg := List.getElem?_eq_getElem hlt
  have cm := R.tb.go i (hsh P w k) _ (by rw [List.getElem?_map, hp, ← hk]; rfl) hg
  obtain ⟨c, hc, e⟩ := cm.ahead (List.mem_of_getElem? hg) hK
  exact ⟨c, Nat.zero_le _, hc, by rw [hg, e]⟩
end
end DM
namespace DM
open PySem PySem.Spec PyProof.Rows L2
section
variable {P : Program} {w : World} {A : Around} {E : Value → Shared → Prop} {s : Shared}
variable {a x : Addr} {k : List Key} {L : List Mem} {o : Obj} {es : Array (Int × Value)} {ep : Nat} {t : SetTable}
theorem IsM.off {h h' : Heap} {b : Addr} (hb : IsM P w h k b) (ho : h.get? a = some o) (hd : o.data = .set es ep t) (hs : Heap.SameBut a h h') : IsM P w h' k b := by
  obtain ⟨o', items, n, e, c, d, i⟩ := hb
  refine ⟨o', items, n, ?_, c, d, i⟩
  rw [hs.2 b fun z => by subst z; rw [ho] at e; cases e; rw [hd] at d; cases d]
  exact e
theorem IsM.on {h h' : Heap} {b : Addr} (hb : IsM P w h k b) (hs : ∀ c o, h.get? c = some o → h'.get? c = some o) : IsM P w h' k b :=
  let ⟨o', items, n, e, r⟩ := hb
  ⟨o', items, n, hs _ _ e, r⟩
theorem ents_order {es : Array (Int × Value)} (hr : es.toList = L.map (ent P w)) : ∀ {ns : List Nat}, (∀ i ∈ ns, i < L.length) → ∃ L', L' = ns.filterMap (fun i => L[i]?) ∧ ns.filterMap (fun i => es[i]?) = L'.map (ent P w) ∧ (L'.map fun p => hsh P w p.2) = ns.map fun i => (es.map (·.1)).getD i 0 := by
  intro ns
  induction ns with
  | nil => exact fun _ => ⟨[], rfl, rfl, rfl⟩
  | cons i ns ih =>
    intro h
    obtain ⟨L', e1, e2, e3⟩ := ih fun j hj => h j (List.mem_cons_of_mem _ hj)
    obtain ⟨p, hp⟩ : ∃ p, L[i]? = some p := ⟨_, List.getElem?_eq_getElem (h i List.mem_cons_self)⟩
    have he : es[i]? = some (ent P w p) := by rw [← Array.getElem?_toList, hr, List.getElem?_map, hp]; rfl
    refine ⟨p :: L', by rw [List.filterMap_cons_some hp, e1], by rw [List.filterMap_cons_some he, e2]; rfl, ?_⟩
    rw [List.map_cons, List.map_cons, e3]
    congr 1
    rw [Array.getD_eq_getD_getElem?, Array.getElem?_map, he]; rfl
theorem range_get {α : Type} (l : List α) : (List.range l.length).filterMap (fun i => l[i]?) = l := by
  have : ∀ n, n ≤ l.length → (List.range n).filterMap (fun i => l[i]?) = l.take n := by
    intro n
    induction n with
    | zero => intro _; rfl
    | succ n ih =>
      intro hn
      rw [List.range_succ, List.filterMap_append, ih (by omega), List.take_add_one, List.getElem?_eq_getElem (show n < l.length by omega), List.filterMap_cons_some (List.getElem?_eq_getElem (show n < l.length by omega))]
      rfl
  rw [this _ (Nat.le_refl _), List.take_length]
theorem anew (ho : s.heap.get? a = some o) (ex : o.ExactSet) (hd : o.data = .set es ep t) (ls : es.toList = L.map (ent P w)) (hz : t.place.size = es.size) (no : t.dummies = #[]) (fl : es.size ≤ t.mask) (nd : (L.map (·.2)).Nodup) (tp : ∀ p ∈ L, IsM P w s.heap p.2 p.1)
    (ld : w.params.followText "set-order" = true ∨ t.led = true) {wanted M : Nat} (hw : SetTable.sizeAbove wanted - 1 = M) (hM : Mk6 M) (rm : L.length * 5 < M * 3) {Q : Unit → Shared → Prop}
    (fin : ∀ h' L' o' es' ep' t', Heap.SameBut a s.heap h' → SetG P w h' a L' o' es' ep' t' → L'.Perm L → Q () { s with heap := h' }) : wpAny (model P w) A (setRelay a wanted) Q E s := by
  have hl : es.size = L.length := by rw [← Array.length_toList, ls, List.length_map]
  have hM2 := hM.g.le
  have fit : t.fits es.size = true := by
    simp only [SetTable.fits, SetTable.fill, Bool.and_eq_true, beq_iff_eq, no]
    exact ⟨hz, decide_eq_true (by simp; omega)⟩
  obtain ⟨t', order, e, hp, T, em, el, _⟩ := lay_anew t (hs := es.map (·.1)) (wanted := wanted) hw hM.g (by rw [Array.size_map]; omega)
  rw [Array.size_map, hl] at hp
  obtain ⟨L', r1, r2, r3⟩ := ents_order (P := P) (w := w) ls (ns := order.toList) fun i hi => List.mem_range.mp (hp.mem_iff.mp hi)
  have pm : L'.Perm L := by
    have := hp.filterMap fun i => L[i]?
    rwa [range_get, ← r1] at this
  rw [← r3] at T
  have r2 : (order.filterMap (es[·]?)).toList = L'.map (ent P w) := by rw [Array.toList_filterMap]; exact r2
  have hs2 : (order.filterMap (es[·]?)).size = es.size := by rw [← Array.length_toList, r2, List.length_map, pm.length_eq, hl]
  rw [setRelay_eq]
  refine wpAny_bind (wpAny_setState_of ho hd fit ?_)
  dsimp only
  refine wp_if_neg (by rw [sizeLine_eq]; omega) ?_
  try refine wpAny_bind (wpAny_pure ?_)
  rw [e]
  refine wpAny_bind (wp_if_neg (by simp [hs2]) ?_)
  try refine wpAny_bind (wpAny_pure ?_)
  refine wpAny_pure ?_
  dsimp only
  have sb : Heap.SameBut a s.heap (s.heap.update a (Obj.putSet (order.filterMap (es[·]?)) t')) := .update ..
  have R' : SetG P w _ a L' _ _ _ t' := { at_ := store_at ho hd, ex := ⟨ex.1, ex.2.1, ex.2.2⟩, dt := rfl, ls := r2, tb := T, nd := (pm.map (·.2)).nodup_iff.mpr nd, tp := fun p h => (tp p (pm.mem_iff.mp h)).off ho hd sb, ld := by rw [el]; exact ld, rm := by rw [em, pm.length_eq]; exact rm, m6 := by rw [em]; exact hM }
  exact wpAny_storeSet_of ho hd (fin _ _ _ _ _ _ sb R' pm) (by rw [hs2, sizeLine_eq]; omega)
theorem put_in (R : SetG P w s.heap a L o es ep t) (hx : IsM P w s.heap k x) (hu : A.units < cLine) (few : L.length + 1 < 4900) {Q : Bool → Shared → Prop}
    (fin : ∀ b h' L' o' es' ep' t', Heap.SameBut a s.heap h' → SetG P w h' a L' o' es' ep' t' → (k ∈ L.map (·.2) → L' = L) → (k ∉ L.map (·.2) → L'.Perm ((x, k) :: L)) → Q b { s with heap := h' }) :
    wpAny (model P w) A (setAddHashed a (.ref x) (hsh P w k)) Q E s := by
  have rm := R.rm
  have hl := R.len
  have no := R.tb.no
  unfold setAddHashed
  refine wpAny_holding ?_
  rw [show (100000 : Nat) = 99999 + 1 from rfl, setAddHashedIn_succ]
  refine wpAny_bind (wpAny_setState_of R.at_ R.dt R.fit ?_)
  dsimp only
  refine wp_if_neg (by simp [byScan, Value.scannable]) ?_
  try refine wpAny_bind (wpAny_pure ?_)
  refine wpAny_bind (look_for R hx hu (fun hm => ?_) fun K hm hK hb => ?_)
  · exact wpAny_pure (fin false s.heap L o es ep t (.refl a s.heap) R (fun _ => rfl) fun z => absurd hm z)
  dsimp only
  refine wpAny_bind (wpAny_setState_of R.at_ R.dt R.fit ?_)
  dsimp only
  obtain ⟨hp, T, fill⟩ := R.tb.put hK hb
  generalize (pr t.mask (hsh P w k) K).j = j at *
  have e2 : (t.put j).2 = SetTable.below t.place j := rfl
  have e3 : (t.put j).1.mask = t.mask := rfl
  have e4 : (t.put j).1.led = t.led := rfl
  rw [List.length_map] at hp fill
  have pm : (L.take (SetTable.below t.place j) ++ (x, k) :: L.drop (SetTable.below t.place j)).Perm ((x, k) :: L) := put_perm L _ _
  have ls : (SetTable.insertAt es (SetTable.below t.place j) (hsh P w k, Value.ref x)).toList = (L.take (SetTable.below t.place j) ++ (x, k) :: L.drop (SetTable.below t.place j)).map (ent P w) := by
    rw [SetTable.toList_insertAt, R.ls]
    simp [ent, List.map_take, List.map_drop]
  have T2 : TabG (t.put j).1 ((L.take (SetTable.below t.place j) ++ (x, k) :: L.drop (SetTable.below t.place j)).map fun p => hsh P w p.2) := by
    simpa [List.map_take, List.map_drop] using T
  clear T
  simp only [e2]
  generalize SetTable.insertAt es (SetTable.below t.place j) (hsh P w k, Value.ref x) = es1 at *
  generalize L.take (SetTable.below t.place j) ++ (x, k) :: L.drop (SetTable.below t.place j) = L1 at *
  generalize (t.put j).1 = t1 at *
  have len1 : L1.length = L.length + 1 := by rw [pm.length_eq]; rfl
  have esz : es1.size = L.length + 1 := by rw [← Array.length_toList, ls, List.length_map, len1]
  have nd1 : (L1.map (·.2)).Nodup := (pm.map (·.2)).nodup_iff.mpr (List.nodup_cons.mpr ⟨hm, R.nd⟩)
  have main : ∀ t2 : SetTable, t2.place = t1.place → t2.dummies = t1.dummies → t2.mask = t1.mask → t2.led = t1.led → wpAny (model P w) A (do
      storeSet a es1 t2
      if (!false && t2.tooFull) = true then do
        setRelay a (SetTable.grown (es.size + 1))
        pure true
      else pure true) Q E s := by
    intro t2 g1 g2 g3 g4
    have T3 : TabG t2 (L1.map fun p => hsh P w p.2) := by
      obtain ⟨a1, a2, a3, a4, a5, a6⟩ := T2
      refine ⟨by rw [g1]; exact a1, by rw [g2]; exact a2, by rw [g1]; exact a3, by rw [g3]; exact a4, by rw [g1, g3]; exact a5, fun i h j h1 h2 => ?_⟩
      rw [g1] at h2
      have := a6 i h j h1 h2
      unfold Come at this ⊢
      rw [g1, g3]; exact this
    have sb : Heap.SameBut a s.heap (s.heap.update a (Obj.putSet es1 t2)) := .update ..
    have ho1 := store_at (es' := es1) (t' := t2) R.at_ R.dt
    refine wpAny_bind (wpAny_storeSet_of R.at_ R.dt ?_ (by rw [esz, sizeLine_eq]; omega))
    have tp1 : ∀ p ∈ L1, IsM P w (s.heap.update a (Obj.putSet es1 t2)) p.2 p.1 := fun p h => by
      rcases List.mem_cons.mp (pm.mem_iff.mp h) with rfl | h
      · exact IsM.off hx R.at_ R.dt sb
      · exact IsM.off (R.tp p h) R.at_ R.dt sb
    have fill2 : t2.fill = L.length + 1 := by rw [← fill]; unfold SetTable.fill; rw [g1, g2]
    have hpl : t2.place.size = L.length + 1 := by have := T3.ln; rw [List.length_map, len1, Array.length_toList] at this; exact this
    have ld1 : w.params.followText "set-order" = true ∨ t2.led = true := by rw [g4, e4]; exact R.ld
    by_cases hf : t2.tooFull = true
    · have full : t.mask * 3 ≤ (L.length + 1) * 5 := by
        have := hf
        unfold SetTable.tooFull at this
        rw [decide_eq_true_eq, fill2, g3, e3] at this
        exact this
      obtain ⟨M, h1, h2, h3⟩ := R.m6.next rm full few
      refine wp_if_pos (by simp [hf]) (wpAny_bind ?_)
      rw [hl]
      refine anew (s := { s with heap := s.heap.update a (Obj.putSet es1 t2) }) ho1 ⟨R.ex.1, R.ex.2.1, R.ex.2.2⟩ rfl ls (by rw [hpl, esz]) T3.no (by rw [esz, g3, e3]; omega) nd1 tp1 ld1 h1 h2 (by rw [len1]; exact h3) fun h' L' o' es' ep' t' sb2 R2 pm2 => ?_
      exact wpAny_pure (fin true h' L' o' es' ep' t' (sb.trans sb2) R2 (fun z => absurd z hm) fun _ => pm2.trans pm)
    · have rm1 : L1.length * 5 < t2.mask * 3 := by
        have := hf
        unfold SetTable.tooFull at this
        rw [decide_eq_true_eq, fill2] at this
        rw [len1]
        omega
      have R1 : SetG P w _ a L1 _ es1 (ep + 1) t2 := { at_ := ho1, ex := ⟨R.ex.1, R.ex.2.1, R.ex.2.2⟩, dt := rfl, ls := ls, tb := T3, nd := nd1, tp := tp1, ld := ld1, rm := rm1, m6 := by rw [g3, e3]; exact R.m6 }
      exact wp_if_neg (by simp [hf]) (wpAny_pure (fin true _ _ _ _ _ _ sb R1 (fun z => absurd z hm) fun _ => pm))
  have both : ∀ r : Bool, wpAny (model P w) A (do
      storeSet a es1 (if r = true then t1 else { t1 with plain := false })
      if (!false && (if r = true then t1 else { t1 with plain := false }).tooFull) = true then do
        setRelay a (SetTable.grown (es.size + 1))
        pure true
      else pure true) Q E s := fun r => by
    cases r with
    | true => exact main t1 rfl rfl rfl rfl
    | false => exact main { t1 with plain := false } rfl rfl rfl rfl
  by_cases hpl : t1.plain = true
  · exact wp_if_pos hpl (wpAny_bind (tup_hash hx both))
  · exact wp_if_neg hpl (wpAny_bind (wpAny_pure (both true)))
end
end DM
namespace DM
open PySem PySem.Spec PyProof.Rows L2
section
variable {P : Program} {w : World} {A : Around} {E : Value → Shared → Prop} {s : Shared} {a : Addr}
def SetO (P : Program) (w : World) (h : Heap) (a : Addr) (L : List Mem) : Prop := ∃ o es ep t, h.get? a = some o ∧ ∀ h2 : Heap, h2.get? a = some o → (∀ p ∈ L, IsM P w h2 p.2 p.1) → SetG P w h2 a L o es ep t
theorem SetG.o {L : List Mem} {o : Obj} {es : Array (Int × Value)} {ep : Nat} {t : SetTable} {h : Heap} (R : SetG P w h a L o es ep t) : SetO P w h a L := ⟨o, es, ep, t, R.at_, fun h2 e tp => { R with at_ := e, tp := tp }⟩
theorem SetO.keep {L : List Mem} {h h' : Heap} (R : SetO P w h a L) (e : ∀ o, h.get? a = some o → h'.get? a = some o) : SetO P w h' a L := let ⟨o, es, ep, t, ho, r⟩ := R; ⟨o, es, ep, t, e o ho, r⟩
def setGO (P : Program) (w : World) (a : Addr) (L : List Mem) : HO := .ext fun h => SetO P w h a L
theorem setGO_ok {H : Hp} {h : Heap} {L : List Mem} (R : SetO P w h a L) : ObjOk P w H h a (setGO P w a L) := by
  have ⟨o, _, _, _, ho, _⟩ := R
  exact ⟨R, ⟨o, ho⟩, fun h1 h2 p k => SetO.keep p k⟩
theorem setG_nil {h : Heap} (e : h.get? a = some (set0 w)) : SetG P w h a [] (set0 w) #[] 0 (.fresh 0 0 (!w.params.followText "set-order")) where
  at_ := e
  ex := ⟨rfl, rfl, rfl⟩
  dt := rfl
  ls := rfl
  tb := ⟨List.Pairwise.nil, rfl, rfl, Mk6.g (.inl rfl), fun x hx => by simp [SetTable.fresh] at hx, fun i h j e => by simp at e⟩
  nd := List.nodup_nil
  tp := fun p h => by simp at h
  ld := by
    show _ ∨ (!w.params.followText "set-order") = true
    cases w.params.followText "set-order"
    · exact .inr rfl
    · exact .inl rfl
  rm := show 0 * 5 < 7 * 3 by decide
  m6 := .inl rfl
def setGJ (P : Program) (w : World) (ms : List Mem) (S : Addr) (i : Nat) (h : Heap) : Prop := ∃ L o es ep t, SetG P w h S L o es ep t ∧ (∀ k, k ∈ L.map (·.2) ↔ k ∈ (ms.take i).map (·.2)) ∧ (∀ p ∈ L, p ∈ ms) ∧ L.length ≤ i
theorem setGJ_keep {ms : List Mem} {S : Addr} {h0 : Heap} (hm : ∀ p ∈ ms, IsM P w h0 p.2 p.1) (i : Nat) (h h' : Heap) (j : setGJ P w ms S i h) (e : ∀ o, h.get? S = some o → h'.get? S = some o) (k : ∀ b o, h0.get? b = some o → h'.get? b = some o) : setGJ P w ms S i h' := by
  obtain ⟨L, o, es, ep, t, R, h1, h2, h3⟩ := j
  exact ⟨L, o, es, ep, t, { R with at_ := e o R.at_, tp := fun p hp => (hm p (h2 p hp)).on k }, h1, h2, h3⟩
theorem setGJ_adds {S : Addr} {items : Array Value} {ms : List Mem} {u : Nat} (hi : items.toList = ms.map fun p => Value.ref p.1) (hm : ∀ p ∈ ms, IsM P w s.heap p.2 p.1) (few : ms.length + 1 < 4900) (hu : u < cLine) : AddsTo P w u S items.size items (setGJ P w ms S) s.heap := by
  intro B i v t Q F hB lt hv ⟨L, o, es, ep, tb, R, h1, h2, h3⟩ ok fin
  have hsz : items.size = ms.length := by rw [← Array.length_toList, hi, List.length_map]
  obtain ⟨p, hp⟩ : ∃ p, ms[i]? = some p := ⟨_, List.getElem?_eq_getElem (by omega)⟩
  have hv2 : v = .ref p.1 := by
    rw [← Array.getElem?_toList, hi, List.getElem?_map, hp] at hv
    exact (Option.some.inj hv).symm
  subst hv2
  have mp := List.mem_of_getElem? hp
  have hx : IsM P w t.heap p.2 p.1 := (hm p mp).on ok
  have hub : B.units < cLine := by omega
  have tk : ms.take (i + 1) = ms.take i ++ [p] := by rw [List.take_add_one, hp]; rfl
  unfold setAdd
  refine wpAny_holding (wpAny_bind (wpAny_pyHash_tuple hub hx ?_))
  refine put_in (s := { t with toks := t.toks + (p.2.length + 1) }) R hx hub (by omega) fun b h' L' o' es' ep' t' sb R' c1 c2 => ?_
  refine fin b h' _ sb (Nat.le_add_right _ _) ⟨L', o', es', ep', t', R', fun k => ?_, fun q hq => ?_, ?_⟩
  · rw [tk, List.map_append, List.mem_append, ← h1]
    rcases Classical.em (p.2 ∈ L.map (·.2)) with z | z
    · rw [c1 z]
      exact ⟨.inl, fun h => h.elim id fun e => by rw [List.mem_singleton.mp e]; exact z⟩
    · rw [((c2 z).map (·.2)).mem_iff, List.map_cons, List.mem_cons]
      simp [or_comm]
  · rcases Classical.em (p.2 ∈ L.map (·.2)) with z | z
    · rw [c1 z] at hq; exact h2 q hq
    · rcases List.mem_cons.mp ((c2 z).mem_iff.mp hq) with rfl | hq
      · exact mp
      · exact h2 q hq
  · rcases Classical.em (p.2 ∈ L.map (·.2)) with z | z
    · rw [c1 z]; omega
    · rw [(c2 z).length_eq, List.length_cons]; omega
end
theorem ItemsAre.of {P : Program} {w : World} : ∀ {k : List Key} {us : List Value}, Vals (k.map kV) us → ItemsAre (mixKind P w) k us
  | [], _, .nil => .nil
  | .inl i :: k, _, .cons r q => by obtain ⟨t, rfl⟩ := r; exact .cons (keyIs_int i t) (ItemsAre.of q)
  | .inr x :: k, _, .cons r q => by obtain ⟨t, rfl⟩ := r; exact .cons (keyIs_str x t) (ItemsAre.of q)
theorem refs_at : ∀ {ms : List Mem} {us : List Value}, Vals (ms.map fun p => V.ref p.1) us → us = ms.map fun p => Value.ref p.1
  | [], _, .nil => rfl
  | p :: ms, _, .cons r q => by rw [show _ = Value.ref p.1 from r, refs_at q]; rfl
section
variable {X : Cx} {pins : List (Addr × Obj)} {σ : L2.St} {H : Hp} {s : Shared}
theorem isM_at (I : Inv X pins σ H s) {b : Addr} {k : List Key} (h : H b = some (.tup (k.map kV))) : IsM X.prog X.w s.heap k b := by
  obtain ⟨its, rv, o, h1, h2, n, h3⟩ := tup_at (H := ⟨H, fun _ => False⟩) I (show SqT X.K H b (k.map kV) from by first | exact .of h | exact .inl h | exact Or.inl h)
  exact ⟨o, its.toArray, n, h1, h2, h3, by simpa using ItemsAre.of rv⟩
end
def rSetG (K : PySem.W.Frag) (P : Program) (w : World) : List V → Hp → VK → Prop := fun xs H Q => ∃ (l : Addr) (ms : List Mem), xs = [V.ref l] ∧ (SqL K H l (ms.map fun p => V.ref p.1) ∨ SqT K H l (ms.map fun p => V.ref p.1)) ∧ (∀ p ∈ ms, H p.1 = some (.tup (p.2.map kV))) ∧ ms.length + 1 < 4900 ∧
  ∀ p (L : List Mem), (L.map (·.2)).Nodup → (∀ k, k ∈ L.map (·.2) ↔ k ∈ ms.map (·.2)) → (∀ q ∈ L, q ∈ ms) → H p = none → Q (.ref p) (upd H p (setGO P w p L))
theorem call_setG {X : Cx} (hc : X.calm = true) (hu : X.A.units + 150 < cLine) : CallR X (.type "set") (rSetG X.K X.prog X.w) := by
  intro pins s σ H xs us Q I r h
  obtain ⟨l, ms, rfl, hs, ht, few, q⟩ := h
  rw [Vals.ref1 r]
  have hm : ∀ p ∈ ms, IsM X.prog X.w s.heap p.2 p.1 := fun p hp => isM_at I (ht p hp)
  have fin : ∀ (its : List Value), its = ms.map (fun p => Value.ref p.1) → ∀ (h' : Heap) (tk : Nat), setGJ X.prog X.w ms s.heap.objs.size its.toArray.size h' → (∀ b o, s.heap.get? b = some o → h'.get? b = some o) → ∃ v H', Inv X pins σ H' { s with heap := h', toks := tk } ∧ RelV v (.ref s.heap.objs.size) ∧ Q v H' := by
    intro its ei h' tk ⟨L, o, es, ep, t, R, h1, h2, _⟩ keep
    have hl : its.toArray.size = ms.length := by rw [List.size_toArray, ei, List.length_map]
    rw [hl, List.take_length] at h1
    exact ⟨.ref s.heap.objs.size, upd H s.heap.objs.size (setGO X.prog X.w s.heap.objs.size L), I.laid (t' := tk) keep (Nat.le_refl _) (setGO_ok R.o), rfl, q _ L R.nd h1 h2 (I.hok.fresh (Nat.le_refl _))⟩
  rcases hs with hs | hs
  · obtain ⟨its, rv, hl, hz⟩ := I.list hs
    have ei := refs_at rv
    exact set_of_list (I.ok.hd hc) hl.isList (J := setGJ X.prog X.w ms s.heap.objs.size) (setGJ_keep hm) (fun h e => ⟨[], _, _, _, _, setG_nil e, by simp, by simp, by simp⟩) (setGJ_adds (by simpa using ei) hm few (by omega)) fun h' tk j keep => fin its ei h' tk j keep
  · obtain ⟨its, rv, hl⟩ := tup_at (H := ⟨H, fun _ => False⟩) I hs
    have ei := refs_at rv
    exact set_of_tup (I.ok.hd hc) hl (J := setGJ X.prog X.w ms s.heap.objs.size) (setGJ_keep hm) (fun h e => ⟨[], _, _, _, _, setG_nil e, by simp, by simp, by simp⟩) (setGJ_adds (by simpa using ei) hm few (by omega)) fun h' tk j keep => fin its ei h' tk j keep
end DM
namespace DM
open PySem PySem.Spec PyProof.Rows L2
def rSortG (P : Program) (w : World) : List V → Hp → VK → Prop := fun vs H Q => ∃ (a : Addr) (L : List Mem), vs = [V.ref a] ∧ H a = some (setGO P w a L) ∧ (∀ p ∈ L, H p.1 = some (.tup (p.2.map kV))) ∧ (∀ p ∈ L, p.2 ≠ []) ∧ L.length < 4000 ∧ SortOk (L.map fun p => tkD p.2) ∧
  ∀ (out ys : List Mem) (p : Addr), out.Perm L → (∀ y ∈ ys, y ∈ L) → (ys.map fun p => tkD p.2) = sortD (out.map fun p => tkD p.2) → H p = none → Q (.ref p) (upd H p (.lst (ys.map fun p => V.ref p.1)))
theorem mems_each {h : Heap} {R : Value → D → Prop} {T : Value → D → Prop} : ∀ {ms : List Mem}, (∀ p ∈ ms, R (.ref p.1) (tkD p.2)) → PySem.W.EachIs R (ms.map fun p => Value.ref p.1) (ms.map fun p => tkD p.2)
  | [], _ => .nil
  | p :: ms, hh => .cons (hh p List.mem_cons_self) (mems_each (h := h) (T := T) fun q hq => hh q (List.mem_cons_of_mem _ hq))
theorem mems_out {L : List Mem} : ∀ {vs : List Value} {ds : List D}, PySem.W.EachIs (fun v d => ∃ p ∈ L, d = tkD p.2 ∧ v = .ref p.1) vs ds → ∃ ys : List Mem, ds = ys.map (fun p => tkD p.2) ∧ (∀ y ∈ ys, y ∈ L) ∧ Vals (ys.map fun p => V.ref p.1) vs
  | _, _, .nil => ⟨[], rfl, by simp, .nil⟩
  | _, _, .cons ⟨p, hp, e1, e2⟩ t => by
    obtain ⟨ys, e3, hy, r⟩ := mems_out t
    refine ⟨p :: ys, by rw [e1, e3]; rfl, fun y h => (List.mem_cons.mp h).elim (fun e => e ▸ hp) (hy y), ?_⟩
    subst e2
    exact .cons rfl r
theorem call_sortG {X : Cx} (hc : X.calm = true) (hu : X.A.units + 150 < cLine) : CallR X (.builtin "sorted") (rSortG X.prog X.w) := by
  intro pins s σ H vs us Q I r h
  obtain ⟨a, L, rfl, ha, ht, hne, few, so, q⟩ := h
  rw [Vals.ref1 r]
  have hm : ∀ p ∈ L, IsM X.prog X.w s.heap p.2 p.1 := fun p hp => isM_at I (ht p hp)
  obtain ⟨o, es, ep, t, ho, mk⟩ := (show SetO X.prog X.w s.heap a L from (I.hok a _ ha).1)
  have R := mk s.heap ho hm
  have hlen := R.len
  have hL : L.length ≤ sizeLine := small_line2 (by omega)
  have reads : ∀ p ∈ L, ∃ as, Reads s.heap (.ref p.1) (toPy (tkD p.2)) as := fun p hp => by
    have := so.1
    exact reads_D (H := ⟨H, fun _ => False⟩) I (tkD p.2) (.ref p.1) (.ref p.1) (vr_key (hne p hp) (ht p hp)) rfl (mem_pure so.1 (List.mem_map.mpr ⟨p, hp, rfl⟩))
  refine sorted_some (R := fun v d => ∃ p ∈ L, d = tkD p.2 ∧ v = .ref p.1) (n := L.length) (B := fun vs bs t => ∃ out : List Mem, bs = out.map (fun p => tkD p.2) ∧ out.Perm L ∧ vs = out.map (fun p => Value.ref p.1) ∧ (∀ b o, s.heap.get? b = some o → t.heap.get? b = some o) ∧ s.heap.objs.size ≤ t.heap.objs.size ∧ t.gens = s.gens ∧ t.os = s.os) hL (fun vs bs t hb => ?_) (fun Q' E' hQ' => ?_) fun vs bs t hb h' out c p keep hp hg hl eo => ?_
  · obtain ⟨out, rfl, pm, rfl, k1, z1, g1, o1⟩ := hb
    obtain ⟨_, sd, sa, ss⟩ := so.perm (pm.map fun p => tkD p.2)
    refine ⟨by rw [List.length_map, pm.length_eq], mems_each (h := t.heap) (T := fun _ _ => True) fun p hp => ⟨p, pm.mem_iff.mp hp, rfl, rfl⟩, mems_each (h := t.heap) (T := fun _ _ => True) fun p hp => ?_, sa, ss, fun b hb => ?_, k1, z1, g1, o1⟩
    · obtain ⟨as, hr⟩ := reads p (pm.mem_iff.mp hp)
      exact ⟨as, PyProof.Rows.Reads.keeps k1 hr⟩
    · have h1 := depth_py b
      obtain ⟨j, hj, rfl⟩ := List.getElem_of_mem hb
      have h2 := depDs_get (List.getElem?_eq_getElem hj)
      omega
  · refine collect_set (I.ok.hd hc) ⟨o, ho, R.ex.1, R.dt⟩ R.fit (by unfold scanBound; omega) R.tb.up R.ld fun s' out k1 z1 g1 o1 pm => ?_
    have e : es.toList.map (·.2) = L.map fun p => Value.ref p.1 := by rw [R.ls, List.map_map]; rfl
    rw [e] at pm
    obtain ⟨out', e2, pm2⟩ : ∃ out' : List Mem, out = out'.map (fun p => Value.ref p.1) ∧ out'.Perm L := by
      have : ∀ {xs : List Value} {l : List Mem}, xs.Perm (l.map fun p => Value.ref p.1) → ∃ out' : List Mem, xs = out'.map (fun p => Value.ref p.1) ∧ out'.Perm l := by
        intro xs l h
        generalize hy : l.map (fun p => Value.ref p.1) = ys at h
        induction h generalizing l with
        | nil => exact ⟨[], rfl, by rw [List.map_eq_nil_iff.mp hy]⟩
        | cons x _ ih =>
          obtain ⟨p, l2, rfl, rfl, h3⟩ := List.map_eq_cons_iff.mp hy
          obtain ⟨out', e1, e2⟩ := ih h3
          exact ⟨p :: out', by rw [e1]; rfl, e2.cons p⟩
        | swap x y m =>
          obtain ⟨p, l2, rfl, rfl, h3⟩ := List.map_eq_cons_iff.mp hy
          obtain ⟨p2, l3, rfl, rfl, h4⟩ := List.map_eq_cons_iff.mp h3
          exact ⟨p2 :: p :: l3, by rw [← h4]; rfl, .swap _ _ _⟩
        | trans _ _ ih1 ih2 =>
          obtain ⟨o1, rfl, p1⟩ := ih2 hy
          obtain ⟨o2, rfl, p2⟩ := ih1 rfl
          exact ⟨o2, rfl, p2.trans p1⟩
      exact this pm
    exact hQ' _ _ s' ⟨out', rfl, pm2, e2, k1, z1, g1, o1⟩
  · obtain ⟨out0, rfl, pm, _, k1, z1, g1, o1⟩ := hb
    obtain ⟨ys, e, hy, rv⟩ := mems_out eo
    have hlen : (ys.map fun p => V.ref p.1).length ≤ sizeLine := by rw [rv.length, hl]; exact hL
    have hn : H p = none := I.hok.fresh hp
    have J : Inv X pins σ (upd H p (.lst (ys.map fun p => V.ref p.1))) { s with heap := h', gens := t.gens, drawn := t.drawn, toks := t.toks } :=
      I.call (ch := []) (Un.laid keep hp hn) (I.hok.laid keep hp ⟨hlen, out, c, rv, hg⟩) (by rw [g1]; exact I.bare) (fun _ z => nomatch z)
    have et : ({ t with heap := h' } : Shared) = { s with heap := h', gens := t.gens, drawn := t.drawn, toks := t.toks } := by
      cases t
      cases s
      cases o1
      rfl
    rw [et]
    exact ⟨.ref p, _, J, rfl, q out0 ys p pm hy e.symm hn⟩
def sortSetTQ (x : D) (M : Mm) (Q : List D → Mm → Prop) : Prop := match rdS M x with
  | some xs => (match keysTs xs with | some ks => (ks.length + 1 < 4000 ∧ SortOk xs) ∧ ∀ out : List (List Key), out.Nodup → (∀ k, k ∈ out ↔ k ∈ ks) → Q (sortD (out.map tkD)) M | none => False)
  | none => False
def dSortSetT (te : TDE) : TDL := fun ds M Q => te ds M fun x M1 => sortSetTQ x M1 Q
theorem keysTs_mem {K : PySem.W.Frag} {H : HF} : ∀ {xs : List D} {vs : List V} {ks : List (List Key)}, VRs K H xs vs → keysTs xs = some ks → ∃ ms : List Mem, vs = ms.map (fun p => V.ref p.1) ∧ ks = ms.map (·.2) ∧ xs = ms.map (fun p => tkD p.2) ∧ ∀ p ∈ ms, H.h p.1 = some (.tup (p.2.map kV))
  | [], _, ks, r, e => by cases r; cases e; exact ⟨[], rfl, rfl, rfl, by simp⟩
  | d :: ds, _, ks, r, e => by
    cases r with
    | cons r1 r2 =>
      unfold keysTs at e
      split at e
      · rename_i k ks' e1 e2
        cases e
        obtain ⟨ms, rfl, rfl, rfl, hp⟩ := keysTs_mem r2 e2
        obtain ⟨b, rfl, hb⟩ := key_v r1 e1
        refine ⟨(b, k) :: ms, rfl, rfl, ?_, fun p h => ?_⟩
        · rw [keyT_eq e1]; rfl
        · rcases List.mem_cons.mp h with rfl | h
          · exact hb
          · exact hp p h
      · cases e
theorem sort_sub {xs ys : List D} (h : SortOk xs) (hs : ∀ y ∈ ys, y ∈ xs) : SortOk ys := by
  obtain ⟨h1, h2, h3, h4⟩ := h
  have m2 : ∀ x ∈ ys.map toPy, x ∈ xs.map toPy := fun x hx => by
    obtain ⟨d, hd, rfl⟩ := List.mem_map.mp hx
    exact List.mem_map.mpr ⟨d, hs d hd, rfl⟩
  refine ⟨all_pure fun x hx => mem_pure h1 (hs x hx), all_dep (by decide) fun x hx => mem_dep h2 (hs x hx), fun x hx y hy => h3 x (m2 x hx) y (m2 y hy), ?_⟩
  rcases h4 with h4 | h4
  · exact .inl fun x hx => h4 x (m2 x hx)
  · exact .inr fun x hx => h4 x (m2 x hx)
theorem mems_len {L ms : List Mem} (h : ∀ q ∈ L, q ∈ ms) (nd : (L.map (·.2)).Nodup) (h2 : ∀ k, k ∈ L.map (·.2) ↔ k ∈ ms.map (·.2)) : L.length ≤ ms.length := by
  have := sub_len (m := ms.map (·.2)) nd fun k hk => (h2 k).mp hk
  simpa using this
section
variable {X : Cx} {e : Expr} {te : TDE} {p p2 pos pos2 : Pos} {k : Nat}
theorem jl_sortSetT (hc : X.calm = true) (hr : Room k X.A) (hm : X.mg "sorted" = none) (hm2 : X.mg "set" = none) (ha : JE X e te) (hg : Gl X "sorted" := by rfl) (hg2 : Gl X "set" := by rfl)
    (n1 : starEach [.Call (.Name "set" p2) [e] [] pos2] X.env = (false, eval (.Call (.Name "set" p2) [e] [] pos2) X.env) :: starEach [] X.env := by rfl) (n2 : starEach [e] X.env = (false, eval e X.env) :: starEach [] X.env := by rfl)
    (n3 : (backTo pos (starEach [] X.env)).any (·.1) = false := by rfl) (n4 : (backTo pos2 (starEach [] X.env)).any (·.1) = false := by rfl) :
    JL X (.Call (.Name "sorted" p) [.Call (.Name "set" p2) [e] [] pos2] [] pos) (dSortSetT te) := by
  obtain ⟨u, q, g⟩ := ha
  refine ⟨_, pe_callB (call_sortG hc (hu150 hr)) hg hm PyProof.Rows.boot_sorted (pa_cons (pe_callTy (call_setG hc (hu150 hr)) hg2 hm2 PyProof.Rows.boot_set (pa_cons q pa_nil n2) (by decide) (by decide) n2 n4) pa_nil n1) (by decide) (by decide) n1 n3, fun ds σ H M Q Q0 s m q k => ?_⟩
  refine g ds σ H M _ _ s m q fun v H1 d M1 r1 m1 g1 q1 => ?_
  unfold sortSetTQ at q1
  split at q1
  · rename_i xs e1
    split at q1
    · rename_i ks e2
      obtain ⟨⟨hl, so⟩, q1⟩ := q1
      obtain ⟨a, ws, rfl, ra, h1⟩ := rdS_v m1 r1 e1
      have e3 := e2
      obtain ⟨ms, rfl, rfl, rfl, ht⟩ := keysTs_mem ra e2
      have hmn : ∀ p ∈ ms, p.2 ≠ [] := fun p hp => keysTs_ne e3 _ (List.mem_map.mpr ⟨p, hp, rfl⟩)
      rw [List.length_map] at hl
      refine ⟨a, ms, rfl, h1.symm.imp (fun h => SqL.of h) (fun h => h.2), ht, by omega, fun o L nd hk hs ho => ?_⟩
      have hmo : ∀ p ∈ ms, p.1 ≠ o := fun p hp e => by have := ht p hp; rw [e, ho] at this; cases this
      have hll := mems_len hs nd hk
      refine ⟨o, L, rfl, upd_same, fun p hp => by rw [upd_ne (hmo p (hs p hp))]; exact ht p (hs p hp), fun p hp => hmn p (hs p hp), by omega, sort_sub so fun y hy => ?_, fun out ys l pm hy ey hl2 => ?_⟩
      · obtain ⟨p, hp, rfl⟩ := List.mem_map.mp hy
        exact List.mem_map.mpr ⟨p, hs p hp, rfl⟩
      have m2 : MR X.K M1 (H1.up o (setGO X.prog X.w o L)) := m1.newT ho
      have g2 : GG M1 H1 M1 (H1.up o (setGO X.prog X.w o L)) := GG.newT ho
      have ry : VRs X.K (H1.up o (setGO X.prog X.w o L)) (sortD (out.map fun p => tkD p.2)) (ys.map fun p => V.ref p.1) := by
        rw [← ey]
        have : ∀ {zs : List Mem}, (∀ z ∈ zs, z ∈ L) → VRs X.K (H1.up o (setGO X.prog X.w o L)) (zs.map fun p => tkD p.2) (zs.map fun p => V.ref p.1) := by
          intro zs
          induction zs with
          | nil => exact fun _ => .nil
          | cons z zs ih =>
            intro hz
            have h3 := hs z (hz z List.mem_cons_self)
            exact .cons (vr_key (hmn z h3) (by show upd H1.h o _ z.1 = _; rw [upd_ne (hmo z h3)]; exact ht z h3)) (ih fun y hy => hz y (List.mem_cons_of_mem _ hy))
        exact this hy
      have q2 := q1 (out.map (·.2)) ((pm.map (·.2)).nodup_iff.mpr nd) fun j => ((pm.map (·.2)).mem_iff).trans (hk j)
      rw [List.map_map, show (tkD ∘ fun x => x.2 : Mem → D) = fun p => tkD p.2 from rfl] at q2
      exact k l ((H1.up o (setGO X.prog X.w o L)).up l _) (sortD (out.map fun (p : Mem) => tkD p.2)) (ys.map fun (p : Mem) => V.ref p.1) M1 ((g1.trans g2).free hl2) upd_same (VRs.mono (TX.new m2 hl2) _ _ ry) (m2.free hl2) (m2.freeF hl2) (m2.newT hl2) ((g1.trans g2).trans (GG.newT hl2)) q2
    · exact q1.elim
  · exact q1.elim
end
end DM
namespace DM
open PySem L2
open PyProof.Rows (b2i)
theorem dSortSetT_e {te : TDE} {ds : DSt} {M : Mm} {Q : List D → Mm → Prop} : dSortSetT te ds M Q = (te ds M fun x M1 => sortSetTQ x M1 Q) := (rfl)
theorem keysTs_ed : ∀ {T : List Ed}, keysTs (T.map edD) = some (T.map edK)
  | [] => rfl
  | e :: T => by
    have h : keyT (edD e) = some (edK e) := rfl
    simp only [List.map_cons, keysTs, h, keysTs_ed (T := T)]
theorem of_edK {T : List Ed} {out : List (List Key)} (h : ∀ k, k ∈ out ↔ k ∈ T.map edK) (nd : out.Nodup) : ∃ T' : List Ed, out = T'.map edK ∧ T'.Nodup ∧ ∀ e, e ∈ T' ↔ e ∈ T := by
  have key : ∀ {out : List (List Key)}, (∀ k ∈ out, ∃ e, k = edK e) → ∃ T' : List Ed, out = T'.map edK := by
    intro out
    induction out with
    | nil => exact fun _ => ⟨[], rfl⟩
    | cons k out ih =>
      intro hk
      obtain ⟨e, rfl⟩ := hk k List.mem_cons_self
      obtain ⟨T', rfl⟩ := ih fun j hj => hk j (List.mem_cons_of_mem _ hj)
      exact ⟨e :: T', rfl⟩
  obtain ⟨T', rfl⟩ := key fun k hk => by
    obtain ⟨e, _, rfl⟩ := List.mem_map.mp ((h k).mp hk)
    exact ⟨e, rfl⟩
  refine ⟨T', rfl, List.Pairwise.of_map edK (fun _ _ hne e => hne (congrArg edK e)) nd, fun e => ?_⟩
  have inj : ∀ {l : List Ed}, edK e ∈ l.map edK ↔ e ∈ l := fun {l} => ⟨fun hm => by
    obtain ⟨f, hf, e2⟩ := List.mem_map.mp hm
    rw [← edK_inj e2]; exact hf, fun hm => List.mem_map.mpr ⟨e, hm, rfl⟩⟩
  rw [← inj (l := T'), h, inj]
def riseE (T : List Ed) : List Ed := sortE (insAll [] T)
theorem onceE_nodup (T : List Ed) : (insAll [] T).Nodup := insAll_nodup List.nodup_nil
theorem onceE_mem {T : List Ed} {e : Ed} : e ∈ insAll [] T ↔ e ∈ T := by rw [insAll_mem]; simp
theorem riseE_mem {T : List Ed} {e : Ed} : e ∈ riseE T ↔ e ∈ T := by unfold riseE; rw [sortE_mem, onceE_mem]
theorem riseE_nodup (T : List Ed) : (riseE T).Nodup := (sortE_perm _).nodup_iff.mpr (onceE_nodup T)
theorem riseE_len (T : List Ed) : (riseE T).length ≤ T.length := sub_len (riseE_nodup T) fun e he => riseE_mem.mp he
theorem riseE_eq {T T' : List Ed} (nd : T'.Nodup) (h : ∀ e, e ∈ T' ↔ e ∈ T) : sortE T' = riseE T := sortE_ext nd (onceE_nodup T) fun e => by rw [h, onceE_mem]
theorem sortSetT_go {x : D} {M : Mm} {Q : List D → Mm → Prop} {T : List Ed} (e : rdS M x = some (T.map edD)) (hl : T.length < 3999) (k : Q ((riseE T).map edD) M) : sortSetTQ x M Q := by
  unfold sortSetTQ
  simp only [e, keysTs_ed]
  refine ⟨⟨by rw [List.length_map]; omega, sortOk_ed⟩, fun out nd h => ?_⟩
  obtain ⟨T', rfl, nd', h'⟩ := of_edK h nd
  rw [← riseE_eq nd' h', ← sortD_eds] at k
  rw [List.map_map]
  exact k
end DM
namespace DM
open PySem L2
open PyProof.Rows (b2i)
theorem inR_tt {c z : Str} {M : Mm} {Q : DQ} : inR (.str c) (.str z) M Q = Q (.bl (inStr c z)) M := by
  show Q (.bl (false != inStr c z)) M = _
  simp
theorem notInR_tt {c z : Str} {M : Mm} {Q : DQ} : notInR (.str c) (.str z) M Q = Q (.bl (!inStr c z)) M := by
  show Q (.bl (true != inStr c z)) M = _
  simp
def digB (z : Str) : Bool := inStr (sgn0 z) ("0123456789" : Str)
end DM
namespace DM
open PySem PySem.Spec PyProof.Rows L2
def risB {α : Type} (le : α → α → Bool) (l : List α) : Bool := (l.zip l.tail).all fun p => !le p.2 p.1
theorem risB_of {α : Type} {le : α → α → Bool} : ∀ {l : List α}, l.Pairwise (fun a b => le b a = false) → risB le l = true
  | [], _ => rfl
  | [a], _ => rfl
  | a :: b :: l, h => by
    have h1 := (List.pairwise_cons.mp h).1 b List.mem_cons_self
    have h2 := risB_of (List.pairwise_cons.mp h).2
    simp only [risB, List.tail_cons, List.zip_cons_cons, List.all_cons, h1, Bool.not_false, Bool.true_and] at h2 ⊢
    exact h2
theorem risE_of {l : List Ed} (h : l.Nodup) (hs : ∃ l0, l = sortE l0) : risB leE l = true := by
  obtain ⟨l0, rfl⟩ := hs
  refine risB_of ?_
  have h1 : (sortE l0).Pairwise fun a b => leE a b = true := by
    have := List.pairwise_mergeSort (le := fun a b : Ed => leD (edD a) (edD b)) (fun a b c h h' => by rw [leD_ed] at *; exact leE_trans h h') (fun a b => by rw [leD_ed, leD_ed]; exact leE_total a b) l0
    exact this.imp fun h => by rwa [leD_ed] at h
  exact (h1.and h).imp fun ⟨g1, g2⟩ => Bool.eq_false_iff.mpr fun g => g2 (leE_anti g1 g)
theorem risS_of {l : List Str} (h : RisS l) : risB leS l = true := risB_of (h.imp fun ⟨g1, g2⟩ => Bool.eq_false_iff.mpr fun g => g2 (leS_anti g1 g))
abbrev letS : Str := "abcdefghijklmnopqrstuvwxyz"
abbrev sgnS : Str := "abcdefghijklmnopqrstuvwxyz0123456789"
def nameB (z : Str) : Bool := decide (1 ≤ z.length) && (decide (z.length ≤ 8) && (inStr (sgn0 z) letS && (cps z).all fun c => inStr ⟨#[c]⟩ sgnS))
theorem in_let (c : Nat) : inStr ⟨#[c]⟩ letS = decide (c ∈ lets) := by
  rw [inStr_sign]
  have : letS.cps.toList = lets := cps_lets
  rw [this]
theorem in_sgn (c : Nat) : inStr ⟨#[c]⟩ sgnS = decide (c ∈ sgns) := by
  rw [inStr_sign]
  have : sgnS.cps.toList = sgns := by decide +kernel
  rw [this]
theorem nameB_iff {z : Str} : nameB z = true ↔ NameS z := by
  unfold nameB NameS NameL
  rw [cps_len]
  simp only [Bool.and_eq_true, decide_eq_true_eq, sgn0, in_let, in_sgn, List.all_eq_true]
  constructor
  · rintro ⟨h1, h2, h3, h4⟩
    refine ⟨?_, h4, h2⟩
    cases e : cps z with
    | nil => rw [e] at h1; simp at h1
    | cons c r => rw [e] at h3; exact ⟨c, r, rfl, h3⟩
  · rintro ⟨⟨c, r, e, h3⟩, h4, h2⟩
    refine ⟨by rw [e]; simp, h2, by rw [e]; exact h3, h4⟩
def nameD : D → Bool
  | .str z => nameB z
  | _ => false
def figD : D → Bool
  | .str z => figB z
  | _ => false
def stateD (x : D) : Bool := figD x || nameD x
def edgeD : D → Bool
  | .tup [a, b, c] => stateD a && (stateD c && (nameD b || eqvD b (.str "")))
  | _ => false
def StateS (z : Str) : Prop := z.length ≤ 1000 ∧ cps z ≠ [] ∧ (NameS z ∨ figB z = true)
theorem WordS.st {z : Str} (h : WordS z) : StateS z := ⟨Nat.le_trans h.1 (by decide), h.2.2.1, h.2.2.2⟩
theorem StateS.d {z : Str} (h : StateS z) : stateD (.str z) = true := by
  unfold stateD
  rcases h.2.2 with g | g
  · rw [show nameD (.str z) = nameB z from rfl, nameB_iff.mpr g, Bool.or_true]
  · rw [show figD (.str z) = figB z from rfl, g]; rfl
def SmT (x : D) : Prop := ∀ z, x = .str z → z.length ≤ 1000000
def SmE (x : D) : Prop := ∀ a b c, x = .tup [a, b, c] → SmT a ∧ SmT b ∧ SmT c
def machB (E : List Ed) (F : List Str) : Bool := (E.all fun e => edgeD (edD e)) && ((F.all fun s => stateD (.str s)) && (risB leE E && risB leS F))
structure MachK (E : List Ed) (F : List Str) : Prop where
  el : E.length ≤ 100000
  fl : F.length ≤ 100000
  es : ∀ e ∈ E, e.1.length ≤ 1000000 ∧ e.2.1.length ≤ 1000000 ∧ e.2.2.length ≤ 1000000
  fs : ∀ s ∈ F, s.length ≤ 1000000
theorem smT_s {z : Str} (h : z.length ≤ 1000000) : SmT (.str z) := fun y e => by cases e; exact h
theorem smE_ed {e : Ed} (h : e.1.length ≤ 1000000 ∧ e.2.1.length ≤ 1000000 ∧ e.2.2.length ≤ 1000000) : SmE (edD e) := fun a b c e' => by
  simp only [edD, D.tup.injEq, List.cons.injEq, and_true] at e'
  obtain ⟨rfl, rfl, rfl⟩ := e'
  exact ⟨smT_s h.1, smT_s h.2.1, smT_s h.2.2⟩
section
variable {ok : Mm → Prop} {g : TDG} {tt : TDT} {te : TDE} {ds0 : DSt} {Q : List D → Mm → Prop} {d c : Addr} {n : Nat} {M M0 : Mm} {L : List (Addr × MO)}
theorem lcW_BS {α : Type} (f : α → D) (k : Nat) {l : List α} (hz : l.length ≤ sizeLine) (b : Bx d c n M0 L M) (hb : k * l.length ≤ n) (hok : ∀ n' M', Bx d c n' M0 L M' → ok M')
    (step : ∀ x ∈ l, ∀ (n' : Nat) (M1 : Mm) (N : D → Mm → Prop) (F : Mm → Prop), Bx d c (n' + k) M0 L M1 → (∀ M2, Bx d c n' M0 L M2 → N (f x) M2) → (∀ M2, Bx d c n' M0 L M2 → F M2) →
      g (f x) ds0 M1 fun ds' M2 => tt ds' M2 fun k M3 => if k = true then te ds' M3 N else F M3)
    (fin : ∀ (l' : List α) M', l'.Sublist l → Bx d c (n - k * l.length) M0 L M' → Q (l'.map f) M') : lcW ok g tt te ds0 Q (l.map f) [] M := by
  refine lcW_go (fun i acc M' => (∃ l', acc = l'.map f ∧ l'.Sublist (l.take i)) ∧ i ≤ l.length ∧ Bx d c (n - k * l.length + k * (l.length - i)) M0 L M') (l.map f) (fun i acc M' h => hok _ _ h.2.2) (fun i x N e hN acc M' hI => ?_) (fun acc M' hI => ?_) M ⟨⟨[], rfl, by simp⟩, Nat.zero_le _, b.mono (by simp; omega)⟩
  · obtain ⟨⟨l', rfl, h1⟩, h2, h3⟩ := hI
    rw [List.getElem?_map] at e
    obtain ⟨y, hy, rfl⟩ := Option.map_eq_some_iff.mp e
    have hlt : i < l.length := (List.getElem?_eq_some_iff.mp hy).1
    have tk : l.take (i + 1) = l.take i ++ [y] := by rw [List.take_add_one, hy]; rfl
    have hll : l'.length ≤ i := by have := h1.length_le; rw [List.length_take] at this; omega
    have b1 : Bx d c (n - k * l.length + k * (l.length - (i + 1)) + k) M0 L M' := h3.mono (by rw [show l.length - i = (l.length - (i + 1)) + 1 by omega, Nat.mul_add, Nat.mul_one]; omega)
    refine step y (List.mem_of_getElem? hy) _ M' (fun z M2 => (l'.map f).length < sizeLine ∧ N (l'.map f ++ [z]) M2) _ b1 (fun M2 b2 => ⟨by rw [List.length_map]; omega, hN _ _ ⟨⟨l' ++ [y], by simp, ?_⟩, hlt, b2⟩⟩) fun M2 b2 => hN _ _ ⟨⟨l', rfl, ?_⟩, hlt, b2⟩
    · rw [tk]; exact h1.append (List.Sublist.refl _)
    · rw [tk]; exact h1.trans (List.sublist_append_left _ _)
  · obtain ⟨⟨l', rfl, h1⟩, h2, h3⟩ := hI
    rw [List.length_map] at h1 h3
    rw [List.take_length] at h1
    exact fin l' M' h1 (h3.mono (by simp))
end
end DM
namespace DM
open PySem L2
open PyProof.Rows (b2i)
theorem readP_app {E : List Ed} {w : List Str} : ∀ {u : List Str} {S : Str → Prop}, readP E S (u ++ w) = readP E (readP E S u) w
  | [], _ => rfl
  | _ :: u, _ => readP_app (u := u)
end DM
namespace DM
open PySem L2
theorem name_dig {z : Str} (h : NameS z) : digB z = false := by
  obtain ⟨⟨c, r, e, hc⟩, _⟩ := h
  unfold digB sgn0
  rw [e, List.headD_cons]
  exact (by decide +kernel : ∀ c ∈ lets, inStr ⟨#[c]⟩ ("0123456789" : Str) = false) c hc
end DM
namespace DM
open PySem L2
open PyProof.Rows (b2i)
def keyP : Key → PyData
  | .inl i => .int i
  | .inr x => .str x
mutual
def toPx : D → PyData
  | .bl b => .bool b
  | .int i => .int i
  | .str x => .str x
  | .tup xs => .tuple (toPxs xs)
  | .lst xs => .list (toPxs xs)
  | .dic kvs => .dict (toPxk kvs)
  | .non => .none
  | .ref _ => .none
  | .ty _ => .none
  | .dit _ => .none
def toPxs : List D → List PyData
  | [] => []
  | x :: xs => toPx x :: toPxs xs
def toPxk : List (Key × D) → List (PyData × PyData)
  | [] => []
  | kv :: r => toPxp kv :: toPxk r
def toPxp : Key × D → PyData × PyData
  | (k, d) => (keyP k, toPx d)
end
mutual
def pureX : D → Bool
  | .ref _ => false
  | .ty _ => false
  | .dit _ => false
  | .dic kvs => pureXk kvs
  | .tup xs => pureXs xs
  | .lst xs => pureXs xs
  | .non => true
  | .bl _ => true
  | .int _ => true
  | .str _ => true
def pureXs : List D → Bool
  | [] => true
  | x :: xs => pureX x && pureXs xs
def pureXk : List (Key × D) → Bool
  | [] => true
  | kv :: r => pureXp kv && pureXk r
def pureXp : Key × D → Bool
  | (_, d) => pureX d
end
structure RX (P : Program) (w : World) (h : Heap) (u : Value) (b : PyData) : Prop where
  r : ∃ as, Reads h u b as
  k : b.showable = true → b.shown.length ≤ sizeLine → ∃ bs, ReadAtMost h b.depth bs ∧ ReprK P w bs h b.depth u b.shown
  c : b.showable = true → b.shown.length ≤ sizeLine → ∀ a, u = .ref a → ∃ T idr, ShowsBy P w h a b T idr
structure RXs (P : Program) (w : World) (h : Heap) (us : List Value) (bs : List PyData) : Prop where
  r : ∃ as, ReadsAll h us bs as
  k : PyData.showableAll bs = true → (∀ t ∈ PyData.shownAll bs, t.length ≤ sizeLine) → ∃ cs, ReadAtMost h (PyData.depthAll bs) cs ∧ ReprAllK P w cs h (PyData.depthAll bs) us (PyData.shownAll bs)
section
variable {P : Program} {w : World} {h : Heap}
theorem RX.non : RX P w h .none .none := ⟨⟨_, .none⟩, fun _ _ => ⟨[], fun _ z => (by cases z), by simp only [PyData.shown]; exact .of_is ReprIs.none _ _ _⟩, fun _ _ a e => by cases e⟩
theorem RX.bl (b : Bool) : RX P w h (.bool b) (.bool b) := ⟨⟨_, .bool b⟩, fun _ _ => ⟨[], fun _ z => (by cases z), by simp only [PyData.shown]; exact .of_is (ReprIs.bool b) _ _ _⟩, fun _ _ a e => by cases e⟩
theorem RX.int (i : Int) (t : Tok) : RX P w h (.int i t) (.int i) := ⟨⟨_, .int i t⟩, fun s _ => ⟨[], fun _ z => (by cases z), by simp only [PyData.shown]; exact .of_is (ReprIs.int t (by simpa [PyData.showable] using s)) _ _ _⟩, fun _ _ a e => by cases e⟩
theorem RX.str (x : Str) (t : Tok) : RX P w h (.str x t) (.str x) := ⟨⟨_, .str x t⟩, fun _ l => ⟨[], fun _ z => (by cases z), by simp only [PyData.shown]; exact .of_is (ReprIs.str x t (by simpa only [PyData.shown] using l)) _ _ _⟩, fun _ _ a e => by cases e⟩
theorem RXs.nil : RXs P w h [] [] := ⟨⟨_, .nil⟩, fun _ _ => ⟨[], fun _ z => (by cases z), by simp only [PyData.shownAll]; exact .nil⟩⟩
theorem RXs.cons {u : Value} {us : List Value} {b : PyData} {bs : List PyData} (x : RX P w h u b) (y : RXs P w h us bs) : RXs P w h (u :: us) (b :: bs) := by
  obtain ⟨as, r1⟩ := x.r
  obtain ⟨as2, r2⟩ := y.r
  refine ⟨⟨_, .cons r1 r2⟩, fun s l => ?_⟩
  have s' : b.showable = true ∧ PyData.showableAll bs = true := by simpa [PyData.showableAll] using s
  obtain ⟨c1, g1, k1⟩ := x.k s'.1 (l _ (by simp only [PyData.shownAll]; exact List.mem_cons_self ..))
  obtain ⟨c2, g2, k2⟩ := y.k s'.2 fun t ht => l t (by simp only [PyData.shownAll]; exact List.mem_cons_of_mem _ ht)
  refine ⟨c1 ++ c2, fun q hq => ?_, ?_⟩
  · simp only [PyData.depthAll]
    rcases List.mem_append.mp hq with z | z
    · obtain ⟨d, a, r, l⟩ := g1 q z; exact ⟨d, a, r, Nat.le_trans l (Nat.le_max_left _ _)⟩
    · obtain ⟨d, a, r, l⟩ := g2 q z; exact ⟨d, a, r, Nat.le_trans l (Nat.le_max_right _ _)⟩
  · simp only [PyData.depthAll, PyData.shownAll]
    exact .cons ((k1.more fun q z => List.mem_append_left _ z).level_le (Nat.le_max_left _ _)) (k2.more_le (fun q z => List.mem_append_right _ z) (Nat.le_max_right _ _))
theorem RX.tup {a : Addr} {o : Obj} {its : List Value} {n : Nat} {bs : List PyData} (h1 : h.get? a = some o) (h2 : o.cls = .type "tuple") (h3 : o.data = .seq its.toArray n) (y : RXs P w h its bs) : RX P w h (.ref a) (.tuple bs) := by
  obtain ⟨as, r⟩ := y.r
  have rr : Reads h (.ref a) (.tuple bs) as := .tuple h1 h2 h3 (by simpa using r)
  have key : (PyData.tuple bs).showable = true → (PyData.tuple bs).shown.length ≤ sizeLine → (tupleText (PyData.shownAll bs)).length ≤ sizeLine ∧ ∃ cs, a ∉ cs ∧ ReadAtMost h (PyData.depthAll bs) cs ∧ ReprAllK P w cs h (PyData.depthAll bs) (its.toArray).toList (PyData.shownAll bs) := fun s l => by
    have l' : (tupleText (PyData.shownAll bs)).length ≤ sizeLine := by simpa only [PyData.shown] using l
    obtain ⟨cs, g, k⟩ := y.k (by simpa [PyData.showable] using s) fun t ht => Nat.le_trans (tupleText_mem_le ht) l'
    exact ⟨l', cs, not_mem_of_deeper rr (by simp only [PyData.depth]; omega) g, g, by simpa using k⟩
  refine ⟨⟨as, rr⟩, fun s l => ?_, fun s l b e => ?_⟩
  · obtain ⟨l', cs, no, g, k⟩ := key s l
    refine ⟨a :: cs, ReadAtMost.cons rr (by simp only [PyData.depth]; omega) g, ?_⟩
    simp only [PyData.depth, PyData.shown]
    exact ReprK.tuple h1 h2 h3 no k
  · cases e
    obtain ⟨l', cs, no, g, k⟩ := key s l
    refine ⟨"tuple", "tuple.__repr__", F.slot_tuple_repr, F.slot_tuple_str, F.slot_tuple_format, fun z up => ⟨o, up _ _ h1, h2⟩, fun A E z Q gd ud up fin => ?_⟩
    simp only [PyData.depth] at ud
    simp only [PyData.shown] at fin
    exact call_tuple_reprK h1 h2 h3 no k gd (fun q _ => Clear.nil q) ud up fin l'
theorem RX.lst {a : Addr} {o : Obj} {its : List Value} {n : Nat} {bs : List PyData} (h1 : h.get? a = some o) (h2 : o.cls = .type "list") (h3 : o.data = .seq its.toArray n) (y : RXs P w h its bs) : RX P w h (.ref a) (.list bs) := by
  obtain ⟨as, r⟩ := y.r
  have rr : Reads h (.ref a) (.list bs) _ := .list h1 h2 h3 (by simpa using r)
  have key : (PyData.list bs).showable = true → (PyData.list bs).shown.length ≤ sizeLine → (listText (PyData.shownAll bs)).length ≤ sizeLine ∧ ∃ cs, a ∉ cs ∧ ReadAtMost h (PyData.depthAll bs) cs ∧ ReprAllK P w cs h (PyData.depthAll bs) its (PyData.shownAll bs) := fun s l => by
    have l' : (listText (PyData.shownAll bs)).length ≤ sizeLine := by simpa only [PyData.shown] using l
    obtain ⟨cs, g, k⟩ := y.k (by simpa [PyData.showable] using s) fun t ht => Nat.le_trans (listText_mem_le ht) l'
    exact ⟨l', cs, not_mem_of_deeper rr (by simp only [PyData.depth]; omega) g, g, k⟩
  have none : its = [] → bs = [] := fun e => by subst e; cases r; rfl
  refine ⟨⟨_, rr⟩, fun s l => ?_, fun s l b e => ?_⟩
  · obtain ⟨l', cs, no, g, k⟩ := key s l
    refine ⟨a :: cs, ReadAtMost.cons rr (by simp only [PyData.depth]; omega) g, ?_⟩
    simp only [PyData.depth, PyData.shown]
    cases its with
    | nil =>
      rw [none rfl]
      simp only [PyData.shownAll, listText_nil]
      exact ReprK.listEmpty h1 h2 h3
    | cons x its => exact ReprK.list h1 h2 h3 no (by simpa using k.length_eq) fun i z e => k.item i z (by simpa using e)
  · cases e
    obtain ⟨l', cs, no, g, k⟩ := key s l
    refine ⟨"list", "list.__repr__", F.slot_list_repr.toG, F.slot_list_str, F.slot_list_format, fun z up => ⟨o, up _ _ h1, h2⟩, fun A E z Q gd ud up fin => ?_⟩
    simp only [PyData.depth] at ud
    simp only [PyData.shown] at fin
    cases its with
    | nil =>
      rw [none rfl] at fin
      simp only [PyData.shownAll, listText_nil] at fin
      exact call_list_repr_empty ⟨o, up _ _ h1, h2⟩ (up _ _ h1) h3 (fin z.heap _ _ fun _ _ e => e)
    | cons x its => exact call_list_reprK h1 h2 h3 no (by simpa using k.length_eq) (fun i z e => k.item i z (by simpa using e)) gd (fun q _ => Clear.nil q) ud up fin l'
theorem RX.dic {a : Addr} {o : Obj} {es : Array DictEntry} {n : Nat} {kvs : List (PyData × PyData)} (hs : (a == sysModules) = false) (h1 : h.get? a = some o) (h2 : o.cls = .type "dict") (h3 : o.data = .dict es n)
    (x : RXs P w h (es.toList.map (·.key)) (kvs.map (·.1))) (y : RXs P w h (es.toList.map (·.val)) (kvs.map (·.2))) : RX P w h (.ref a) (.dict kvs) := by
  obtain ⟨as, r⟩ := x.r
  obtain ⟨as2, r2⟩ := y.r
  have rr : Reads h (.ref a) (.dict kvs) _ := .dict h1 h2 h3 r r2
  have key : (PyData.dict kvs).showable = true → (PyData.dict kvs).shown.length ≤ sizeLine → (dictText (PyData.shownKv kvs)).length ≤ sizeLine ∧ ∃ cs, a ∉ cs ∧ ReadAtMost h (PyData.depthKv kvs) cs ∧ ReprEntriesK P w cs h (PyData.depthKv kvs) es.toList (PyData.shownKv kvs) := fun s l => by
    have l' : (dictText (PyData.shownKv kvs)).length ≤ sizeLine := by simpa only [PyData.shown] using l
    obtain ⟨s1, s2⟩ := PyData.showableKv_split kvs (by simpa [PyData.showable] using s)
    obtain ⟨c1, g1, k1⟩ := x.k s1 fun t ht => by
      obtain ⟨p, hp, hl⟩ := PyData.shownKv_key_le kvs t ht
      exact Nat.le_trans hl (Nat.le_trans (dictText_mem_le hp) l')
    obtain ⟨c2, g2, k2⟩ := y.k s2 fun t ht => by
      obtain ⟨p, hp, hl⟩ := PyData.shownKv_val_le kvs t ht
      exact Nat.le_trans hl (Nat.le_trans (dictText_mem_le hp) l')
    have g := (g1.mono (PyData.depthAll_keys_le kvs)).append (g2.mono (PyData.depthAll_vals_le kvs))
    refine ⟨l', c1 ++ c2, not_mem_of_deeper rr (by simp only [PyData.depth]; omega) g, g, ?_⟩
    rw [PyData.shownKv_eq]
    exact ReprEntriesK.of_two es.toList _ _ (k1.more_le (fun q z => List.mem_append_left _ z) (PyData.depthAll_keys_le kvs)) (k2.more_le (fun q z => List.mem_append_right _ z) (PyData.depthAll_vals_le kvs))
  refine ⟨⟨_, rr⟩, fun s l => ?_, fun s l b e => ?_⟩
  · obtain ⟨l', cs, no, g, k⟩ := key s l
    refine ⟨a :: cs, ReadAtMost.cons rr (by simp only [PyData.depth]; omega) g, ?_⟩
    simp only [PyData.depth, PyData.shown]
    exact ReprK.dict h1 h2 h3 hs no k
  · cases e
    obtain ⟨l', cs, no, g, k⟩ := key s l
    refine ⟨"dict", "dict.__repr__", F.slot_dict_repr, F.slot_dict_str, F.slot_dict_format, fun z up => ⟨o, up _ _ h1, h2⟩, fun A E z Q gd ud up fin => ?_⟩
    simp only [PyData.depth] at ud
    simp only [PyData.shown] at fin
    exact call_dict_reprK h1 h2 h3 hs no k gd (fun q _ => Clear.nil q) ud up fin l'
theorem RX.call {s : Shared} {A : Around} {E : Value → Shared → Prop} {Q : Value → Shared → Prop} {a : Addr} {b : PyData} (x : RX P w s.heap (.ref a) b) (hs : b.showable = true) (hz : b.shown.length ≤ sizeLine) (hg : A.guards = some []) (hu : A.units + (b.depth + 1) < cLine)
    (hQ : ∀ h' u tk, (∀ b o, s.heap.get? b = some o → h'.get? b = some o) → Q (.str b.shown u) { s with heap := h', toks := tk }) : wpAny (model P w) A (call (.builtin "repr") [.ref a]) Q E s := by
  obtain ⟨T, idr, S⟩ := x.c hs hz a rfl
  exact call_repr_slot (by omega) (S.typeIs s fun _ _ e => e) S.slotRepr (S.call A.in1 E s _ hg (by show A.units + 1 + b.depth < cLine; omega) (fun _ _ e => e) fun h' u tk up => ⟨_, _, rfl, hQ h' u tk up⟩)
end
section
variable {X : Cx} {pins : List (Addr × Obj)} {σ : L2.St} {H : HF} {s : Shared}
mutual
theorem rx_D (I : Inv X pins σ H.h s) : ∀ (d : D) (v : V) (u : Value), VR X.K H d v → RelV v u → pureX d = true → RX X.prog X.w s.heap u (toPx d)
  | .non, _, _, r, ru, _ => by cases r; cases ru; exact .non
  | .bl b, _, _, r, ru, _ => by cases r; cases ru; exact .bl b
  | .int i, _, _, r, ru, _ => by cases r; obtain ⟨t, rfl⟩ := ru; exact .int i t
  | .str x, _, _, r, ru, _ => by cases r; obtain ⟨t, rfl⟩ := ru; exact .str x t
  | .tup xs, _, _, r, ru, p => by
    obtain ⟨a, vs, rfl, h, q⟩ := r.tup_v
    cases ru
    obtain ⟨its, rv, o, h1, h2, n, h3⟩ := tup_at I h
    exact .tup h1 h2 h3 (rxs_D I xs vs its q rv (by simpa [pureX] using p))
  | .lst xs, _, _, r, ru, p => by
    obtain ⟨a, vs, rfl, h, _, q⟩ := r.lst_v
    cases ru
    obtain ⟨z, its, n, rv, hl, e⟩ := I.lstM h
    exact .lst e rfl rfl (rxs_D I xs vs its q rv (by simpa [pureX] using p))
  | .dic kvs, _, _, r, ru, p => by
    cases r with
    | dic h _ q =>
      cases ru
      obtain ⟨_, hs, ws, hk, o, es, ep, h1, h2, h3, _, hp, _⟩ := I.hok _ _ h
      have y := rxk_D I kvs _ ws es.toList q hk hp (by simpa [pureX] using p)
      exact .dic hs h1 h2.1 h3 y.1 y.2
  | .ref _, _, _, _, _, p => by simp [pureX] at p
  | .ty _, _, _, _, _, p => by simp [pureX] at p
  | .dit _, _, _, _, _, p => by simp [pureX] at p
theorem rxs_D (I : Inv X pins σ H.h s) : ∀ (ds : List D) (vs : List V) (us : List Value), VRs X.K H ds vs → Vals vs us → pureXs ds = true → RXs X.prog X.w s.heap us (toPxs ds)
  | [], _, _, r, ru, _ => by cases r; cases ru; exact .nil
  | d :: ds, _, _, r, ru, p => by
    cases r with
    | cons r1 r2 =>
      cases ru with
      | cons u1 u2 =>
        have p' := Bool.and_eq_true_iff.mp (show (pureX d && pureXs ds) = true by simpa [pureXs] using p)
        exact .cons (rx_D I d _ _ r1 u1 p'.1) (rxs_D I ds _ _ r2 u2 p'.2)
theorem rxk_D (I : Inv X pins σ H.h s) : ∀ (kvs : List (Key × D)) (vs : List (Key × V)) (ws : List (Key × Value)) (es : List DictEntry), KRs X.K H kvs vs → KV vs ws → Pairs (mixKind X.prog X.w) es ws → pureXk kvs = true →
    RXs X.prog X.w s.heap (es.map (·.key)) ((toPxk kvs).map (·.1)) ∧ RXs X.prog X.w s.heap (es.map (·.val)) ((toPxk kvs).map (·.2))
  | [], _, _, _, r, ru, hp, _ => by cases r; cases ru; cases hp; exact ⟨.nil, .nil⟩
  | (k, d) :: ds, _, _, _, r, ru, hp, p => by
    cases r with
    | cons r1 r2 =>
      cases ru with
      | cons u1 u2 =>
        cases hp with
        | cons g1 g2 g3 =>
          have p' := Bool.and_eq_true_iff.mp (show (pureX d && pureXk ds) = true by simpa [pureXk, pureXp] using p)
          obtain ⟨y1, y2⟩ := rxk_D I ds _ _ _ r2 u2 g3 p'.2
          obtain ⟨e1, e2⟩ := u1
          have x := rx_D I d _ _ r1 e2 p'.1
          refine ⟨?_, ?_⟩
          · simp only [toPxk, toPxp, List.map_cons]
            refine .cons ?_ y1
            rw [← e1] at g1
            rw [mixKind_is] at g1
            rcases keyIs_shape g1 with ⟨i, t, e, f⟩ | ⟨z, t, e, f⟩
            · simp only at e
              rw [e, f]; exact .int i t
            · simp only at e
              rw [e, f]; exact .str z t
          · simp only [toPxk, toPxp, List.map_cons]
            refine .cons ?_ y2
            rw [g2]; exact x
end
end
def shx (d : D) : Str := (toPx d).shown
structure ShowX (d : D) : Prop where
  p : pureX d = true
  q : (toPx d).depth ≤ 100
  s : (toPx d).showable = true
  l : (shx d).length ≤ sizeLine
def rReprX (K : PySem.W.Frag) : List V → Hp → VK → Prop := fun vs H0 Q0 => ∃ (H : HF) (v : V) (d : D), H0 = H.h ∧ vs = [v] ∧ VR K H d v ∧ ShowX d ∧ Q0 (.str (shx d)) H.h
section
variable {X : Cx} {pins : List (Addr × Obj)} {σ : L2.St} {H : HF} {s : Shared}
theorem call_reprX (hg : X.A.guards = some []) (hu : X.A.units + 150 < cLine) : CallR X (.builtin "repr") (rReprX X.K) := by
  intro pins s σ H0 vs us Q I r h
  obtain ⟨H, v, d, rfl, rfl, rd, ok, q⟩ := h
  obtain ⟨u, rfl, ru⟩ := vals1 r
  have x := rx_D I d v u rd ru ok.p
  have hd := ok.q
  have goal : ∀ h' t tk, (∀ b o, s.heap.get? b = some o → h'.get? b = some o) → EP X pins σ Q (.str (shx d) t) { s with heap := h', toks := tk } := fun h' t tk hk => ⟨.str (shx d), H.h, I.kept hk, ⟨_, rfl⟩, q⟩
  have byRef : ∀ a, u = .ref a → wpAny (model X.prog X.w) X.A (call (.builtin "repr") [u]) (EP X pins σ Q) X.xe s := by
    rintro a rfl
    exact x.call ok.s ok.l hg (by omega) fun h' u tk hk => goal h' u tk hk
  cases d with
  | non => cases rd; cases ru; exact PySem.P.repr_of_none (goal s.heap _ _ fun _ _ e => e)
  | bl b =>
    cases rd; cases ru
    have g1 := goal s.heap s.toks (s.toks + 1) fun _ _ e => e
    refine PySem.P.repr_of_bool ?_
    cases b <;> exact g1
  | int i =>
    cases rd; obtain ⟨t, rfl⟩ := ru
    refine PySem.P.repr_of_int (by simpa [toPx, PyData.showable] using ok.s) ?_
    exact goal s.heap _ _ fun _ _ e => e
  | str x =>
    cases rd; obtain ⟨t, rfl⟩ := ru
    exact PySem.P.repr_of_str (goal s.heap _ _ fun _ _ e => e) ok.l
  | tup xs => obtain ⟨a, _, rfl, _⟩ := rd.tup_v; cases ru; exact byRef _ rfl
  | lst xs => obtain ⟨a, _, rfl, _⟩ := rd.lst_v; cases ru; exact byRef _ rfl
  | dic xs => obtain ⟨a, _, rfl, _⟩ := rd.dic_v; cases ru; exact byRef _ rfl
  | ref _ => have := ok.p; simp [pureX] at this
  | ty _ => have := ok.p; simp [pureX] at this
  | dit _ => have := ok.p; simp [pureX] at this
end
def reprXI (xs : List D) (M : Mm) (Q : DQ) : Prop := match xs with
  | [x] => ShowX x ∧ Q (.str (shx x)) M
  | _ => False
def dReprX (t : TDA) : TDE := fun ds M Q => t ds M fun xs M1 => reprXI xs M1 Q
theorem dReprX_e {t : TDA} {ds : DSt} {M : Mm} {Q : DQ} : dReprX t ds M Q = t ds M fun xs M1 => reprXI xs M1 Q := (rfl)
theorem reprX_go {x : D} {M : Mm} {Q : DQ} (h : ShowX x) (k : Q (.str (shx x)) M) : reprXI [x] M Q := ⟨h, k⟩
section
variable {X : Cx} {e : Expr} {es : List Expr} {t : TDA} {p pos : Pos} {k : Nat}
theorem je_reprX (hr : RoomG k X.A) (hm : X.mg "repr" = none) (ha : JA X (e :: es) t) (hg : Gl X "repr" := by rfl) (he : starEach (e :: es) X.env = (false, eval e X.env) :: starEach es X.env := by rfl) (hpl : (backTo pos (starEach es X.env)).any (·.1) = false := by rfl) :
    JE X (.Call (.Name "repr" p) (e :: es) [] pos) (dReprX t) := by
  obtain ⟨u, q, g⟩ := ha
  refine je_pe (pe_callB (call_reprX hr.g (hu150 hr.r)) hg hm PyProof.Rows.boot_repr q (by decide) (by decide) he hpl) fun ds σ H M Q Q0 s m q k => ?_
  refine g ds σ H M _ _ s m q fun vs H1 es M1 r1 m1 g1 q1 => ?_
  unfold reprXI at q1
  split at q1
  · obtain ⟨v, rfl, r5⟩ := r1.one
    exact ⟨H1, v, _, rfl, rfl, r5, q1.1, k _ H1 _ M1 (.str _) m1 g1 q1.2⟩
  · exact q1.elim
end
end DM
namespace DM
open PySem L2
open PyProof.Rows (b2i)
open PySem.SeqAt (EqAt RcAt RcNeAt)
mutual
theorem pureX_of : ∀ d : D, pureD d = true → pureX d = true
  | .non, _ => rfl
  | .bl _, _ => rfl
  | .int _, _ => rfl
  | .str _, _ => rfl
  | .tup xs, h => by simp only [pureX]; exact pureXs_of xs (by simpa [pureD] using h)
  | .lst xs, h => by simp only [pureX]; exact pureXs_of xs (by simpa [pureD] using h)
  | .ref _, h => by simp [pureD] at h
  | .ty _, h => by simp [pureD] at h
  | .dic _, h => by simp [pureD] at h
  | .dit _, h => by simp [pureD] at h
theorem pureXs_of : ∀ ds : List D, pureDs ds = true → pureXs ds = true
  | [], _ => rfl
  | d :: ds, h => by
    have h' := Bool.and_eq_true_iff.mp (show (pureD d && pureDs ds) = true by simpa [pureDs] using h)
    simp only [pureXs, pureX_of d h'.1, pureXs_of ds h'.2, Bool.and_self]
end
end DM
namespace DM
open PySem L2
def okK : Key → Bool
  | .inl i => decide (i.natAbs < 10 ^ 45)
  | .inr x => (cps x).all (· < 128)
def bkK : Key → Nat
  | .inl _ => 0
  | .inr x => x.length / 4
mutual
def okX : D → Bool
  | .str z => (cps z).all (· < 128)
  | .int i => decide (i.natAbs < 10 ^ 45)
  | .tup xs => okXs xs
  | .lst xs => okXs xs
  | .dic kvs => okXk kvs
  | .non => true
  | .bl _ => true
  | .ref _ => false
  | .ty _ => false
  | .dit _ => false
def okXs : List D → Bool
  | [] => true
  | x :: xs => okX x && okXs xs
def okXk : List (Key × D) → Bool
  | [] => true
  | kv :: r => okXp kv && okXk r
def okXp : Key × D → Bool
  | (k, d) => okK k && okX d
end
mutual
def bkX : D → Nat
  | .str z => z.length / 4
  | .tup xs => bkXs xs
  | .lst xs => bkXs xs
  | .dic kvs => bkXk kvs
  | .int _ => 0
  | .non => 0
  | .bl _ => 0
  | .ref _ => 0
  | .ty _ => 0
  | .dit _ => 0
def bkXs : List D → Nat
  | [] => 0
  | x :: xs => bkX x + 1 + bkXs xs
def bkXk : List (Key × D) → Nat
  | [] => 0
  | kv :: r => bkXp kv + bkXk r
def bkXp : Key × D → Nat
  | (k, d) => bkK k + bkX d + 2
end
mutual
def wdX : D → Nat
  | .tup xs => max xs.length (wdXs xs)
  | .lst xs => max xs.length (wdXs xs)
  | .str _ => 0
  | .dic _ => 0
  | .int _ => 0
  | .non => 0
  | .bl _ => 0
  | .ref _ => 0
  | .ty _ => 0
  | .dit _ => 0
def wdXs : List D → Nat
  | [] => 0
  | x :: xs => max (wdX x) (wdXs xs)
end
mutual
theorem okX_pure : ∀ d : D, okX d = true → pureX d = true
  | .str _, _ => by simp only [pureX]
  | .int _, _ => by simp only [pureX]
  | .non, _ => by simp only [pureX]
  | .bl _, _ => by simp only [pureX]
  | .tup xs, h => by simp only [pureX]; exact okXs_pure xs (by simpa [okX] using h)
  | .lst xs, h => by simp only [pureX]; exact okXs_pure xs (by simpa [okX] using h)
  | .dic kvs, h => by simp only [pureX]; exact okXk_pure kvs (by simpa [okX] using h)
  | .ref _, h => by simp [okX] at h
  | .ty _, h => by simp [okX] at h
  | .dit _, h => by simp [okX] at h
theorem okXs_pure : ∀ ds : List D, okXs ds = true → pureXs ds = true
  | [], _ => by simp only [pureXs]
  | d :: ds, h => by
    have h' : okX d = true ∧ okXs ds = true := by simpa [okXs] using h
    simp only [pureXs, okX_pure d h'.1, okXs_pure ds h'.2, Bool.and_self]
theorem okXk_pure : ∀ ds : List (Key × D), okXk ds = true → pureXk ds = true
  | [], _ => by simp only [pureXk]
  | (k, d) :: ds, h => by
    have h' : (okK k = true ∧ okX d = true) ∧ okXk ds = true := by simpa [okXk, okXp] using h
    simp only [pureXk, pureXp, okX_pure d h'.1.2, okXk_pure ds h'.2, Bool.and_self]
end
theorem ofString_app (a b : String) : Str.ofString (a ++ b) = Str.ofString a ++ Str.ofString b := by
  rw [Str.ofString_eq_toList, Str.ofString_eq_toList, Str.ofString_eq_toList, String.toList_append, List.map_append]
  show (⟨_⟩ : Str) = ⟨_⟩
  rw [List.append_toArray]
theorem int_len {i : Int} (h : i.natAbs < 10 ^ 45) : (Str.ofString (toString i)).length ≤ 46 := by
  by_cases h0 : 0 ≤ i
  · exact Nat.le_trans (PyProof.Rows.toString_length_le h0 (k := 45) (by decide) (by omega)) (by decide)
  · have h1 := PyProof.Rows.toString_length_le (v := 0 - i) (by omega) (k := 45) (by decide) (by omega)
    have e : Str.ofString (toString i) = ("-" : Str) ++ Str.ofString (toString (0 - i)) := by
      rw [PyProof.Rows.toString_neg (by omega)]
      exact ofString_app _ _
    rw [e, strLen_append]
    have : (("-" : String) : Str).length = 1 := rfl
    omega
theorem int_log {i : Int} (h : i.natAbs < 10 ^ 45) : i.natAbs.log2 < 1920 := log2_lt (by decide) (Nat.lt_of_lt_of_le h (by decide +kernel))
theorem key_showable {k : Key} (h : okK k = true) : (keyP k).showable = true := by
  cases k with
  | inl i => simp only [keyP, PyData.showable, decide_eq_true_eq]; exact int_log (of_decide_eq_true h)
  | inr x => simp only [keyP, PyData.showable]
mutual
theorem okX_showable : ∀ d : D, okX d = true → (toPx d).showable = true
  | .str z, h => by simp only [toPx, PyData.showable]
  | .int i, h => by simp only [toPx, PyData.showable, decide_eq_true_eq]; exact int_log (by simpa [okX] using h)
  | .non, _ => by simp only [toPx, PyData.showable]
  | .bl _, _ => by simp only [toPx, PyData.showable]
  | .tup xs, h => by simp only [toPx, PyData.showable]; exact okXs_showable xs (by simpa [okX] using h)
  | .lst xs, h => by simp only [toPx, PyData.showable]; exact okXs_showable xs (by simpa [okX] using h)
  | .dic kvs, h => by simp only [toPx, PyData.showable]; exact okXk_showable kvs (by simpa [okX] using h)
  | .ref _, h => by simp [okX] at h
  | .ty _, h => by simp [okX] at h
  | .dit _, h => by simp [okX] at h
theorem okXs_showable : ∀ ds : List D, okXs ds = true → PyData.showableAll (toPxs ds) = true
  | [], _ => by simp only [toPxs, PyData.showableAll]
  | d :: ds, h => by
    have h' : okX d = true ∧ okXs ds = true := by simpa [okXs] using h
    simp only [toPxs, PyData.showableAll, okX_showable d h'.1, okXs_showable ds h'.2, Bool.and_self]
theorem okXk_showable : ∀ ds : List (Key × D), okXk ds = true → PyData.showableKv (toPxk ds) = true
  | [], _ => by simp only [toPxk, PyData.showableKv]
  | (k, d) :: ds, h => by
    have h' : (okK k = true ∧ okX d = true) ∧ okXk ds = true := by simpa [okXk, okXp] using h
    simp only [toPxk, toPxp, PyData.showableKv, key_showable h'.1.1, okX_showable d h'.1.2, okXk_showable ds h'.2, Bool.and_self]
end
theorem asc_lt2 {z : Str} (h : ((cps z).all (· < 128)) = true) : ∀ c ∈ cps z, c < 16 ^ 8 := fun c hc => Nat.lt_of_lt_of_le (of_decide_eq_true (List.all_eq_true.mp h c hc)) (by decide)
theorem str_shown {z : Str} (h : ((cps z).all (· < 128)) = true) : (reprText z).length ≤ 49 * (z.length / 4) + 47 := by
  have := PySem.StrLaws.reprText_len z (asc_lt2 h)
  omega
theorem key_shown {k : Key} (h : okK k = true) : (keyP k).shown.length ≤ 49 * bkK k + 47 := by
  cases k with
  | inl i =>
    have := int_len (i := i) (of_decide_eq_true h)
    simp only [keyP, PyData.shown, bkK]
    exact Nat.le_trans this (by decide)
  | inr x => simp only [keyP, PyData.shown, bkK]; exact str_shown h
mutual
theorem okX_shown : ∀ d : D, okX d = true → (toPx d).shown.length ≤ 49 * bkX d + 47
  | .str z, h => by simp only [toPx, PyData.shown, bkX]; exact str_shown (by simpa [okX] using h)
  | .int i, h => by
    have := int_len (i := i) (by simpa [okX] using h)
    simp only [toPx, PyData.shown, bkX]
    exact Nat.le_trans this (by decide)
  | .non, _ => by
    have e : (PyData.shown .none).length = 4 := rfl
    simp only [toPx, e]; omega
  | .bl b, _ => by
    have e : (PyData.shown (.bool b)).length ≤ 5 := by cases b <;> decide
    simp only [toPx]; omega
  | .tup xs, h => by
    have z := okXs_shown xs (by simpa [okX] using h)
    have z2 := tupleText_len_le (PyData.shownAll (toPxs xs))
    simp only [toPx, PyData.shown, bkX]; omega
  | .lst xs, h => by
    have z := okXs_shown xs (by simpa [okX] using h)
    have z2 := listText_len_le (PyData.shownAll (toPxs xs))
    simp only [toPx, PyData.shown, bkX]; omega
  | .dic kvs, h => by
    have z := okXk_shown kvs (by simpa [okX] using h)
    have z2 := dictText_len_le (PyData.shownKv (toPxk kvs))
    simp only [toPx, PyData.shown, bkX]; omega
  | .ref _, h => by simp [okX] at h
  | .ty _, h => by simp [okX] at h
  | .dit _, h => by simp [okX] at h
theorem okXs_shown : ∀ ds : List D, okXs ds = true → ((PyData.shownAll (toPxs ds)).map (·.length)).sum + 2 * (PyData.shownAll (toPxs ds)).length ≤ 49 * bkXs ds
  | [], _ => by simp only [toPxs, PyData.shownAll, List.map_nil, List.sum_nil, List.length_nil, bkXs]; omega
  | d :: ds, h => by
    have h' : okX d = true ∧ okXs ds = true := by simpa [okXs] using h
    have z1 := okX_shown d h'.1
    have z2 := okXs_shown ds h'.2
    simp only [toPxs, PyData.shownAll, List.map_cons, List.sum_cons, List.length_cons, bkXs]; omega
theorem okXk_shown : ∀ ds : List (Key × D), okXk ds = true → ((PyData.shownKv (toPxk ds)).map (·.length)).sum + 2 * (PyData.shownKv (toPxk ds)).length ≤ 49 * bkXk ds
  | [], _ => by simp only [toPxk, PyData.shownKv, List.map_nil, List.sum_nil, List.length_nil, bkXk]; omega
  | (k, d) :: ds, h => by
    have h' : (okK k = true ∧ okX d = true) ∧ okXk ds = true := by simpa [okXk, okXp] using h
    have z0 := key_shown h'.1.1
    have z1 := okX_shown d h'.1.2
    have z2 := okXk_shown ds h'.2
    have e : ((keyP k).shown ++ ": " ++ (toPx d).shown).length = (keyP k).shown.length + 2 + (toPx d).shown.length := by
      rw [strLen_append, strLen_append]; rfl
    simp only [toPxk, toPxp, PyData.shownKv, List.map_cons, List.sum_cons, List.length_cons, bkXk, bkXp]; omega
end
def dpX (d : D) : Nat := (toPx d).depth
def dpXs (ds : List D) : Nat := PyData.depthAll (toPxs ds)
theorem dpX_tup (xs : List D) : dpX (.tup xs) = dpXs xs + 1 := by simp only [dpX, toPx, PyData.depth, dpXs]
theorem dpX_lst (xs : List D) : dpX (.lst xs) = dpXs xs + 1 := by simp only [dpX, toPx, PyData.depth, dpXs]
theorem dpX_str (z : Str) : dpX (.str z) = 0 := by simp only [dpX, toPx, PyData.depth]
theorem dpX_int (z : Int) : dpX (.int z) = 0 := by simp only [dpX, toPx, PyData.depth]
theorem dpX_bl (z : Bool) : dpX (.bl z) = 0 := by simp only [dpX, toPx, PyData.depth]
theorem dpX_non : dpX .non = 0 := by simp only [dpX, toPx, PyData.depth]
theorem dpXs_nil : dpXs [] = 0 := by simp only [dpXs, toPxs, PyData.depthAll]
theorem dpXs_cons (x : D) (xs : List D) : dpXs (x :: xs) = max (dpX x) (dpXs xs) := by simp only [dpXs, toPxs, PyData.depthAll, dpX]
theorem dpXs_le {k : Nat} : ∀ {xs : List D}, dpXs xs ≤ k ↔ ∀ x ∈ xs, dpX x ≤ k
  | [] => by simp [dpXs_nil]
  | x :: xs => by
    have ih := dpXs_le (k := k) (xs := xs)
    rw [dpXs_cons, List.forall_mem_cons, ← ih]
    omega
theorem wdXs_le {k : Nat} : ∀ {xs : List D}, wdXs xs ≤ k ↔ ∀ x ∈ xs, wdX x ≤ k
  | [] => by simp [wdXs]
  | x :: xs => by
    have ih := wdXs_le (k := k) (xs := xs)
    rw [wdXs, List.forall_mem_cons, ← ih]
    omega
theorem okXs_iff : ∀ {xs : List D}, okXs xs = true ↔ ∀ x ∈ xs, okX x = true
  | [] => by simp [okXs]
  | x :: xs => by
    have ih := okXs_iff (xs := xs)
    rw [okXs, List.forall_mem_cons, ← ih, Bool.and_eq_true]
theorem bkXs_app : ∀ {xs ys : List D}, bkXs (xs ++ ys) = bkXs xs + bkXs ys
  | [], _ => by simp [bkXs]
  | x :: xs, ys => by rw [List.cons_append, bkXs, bkXs, bkXs_app]; omega
theorem bkXs_td {xs : List D} (n : Nat) : bkXs (xs.take n) + bkXs (xs.drop n) = bkXs xs := by rw [← bkXs_app, List.take_append_drop]
theorem bkXs_get {xs : List D} {i : Nat} {x : D} (h : xs[i]? = some x) : bkXs (xs.take i) + (bkX x + 1) + bkXs (xs.drop (i + 1)) = bkXs xs := by
  have e : xs.drop i = x :: xs.drop (i + 1) := by
    obtain ⟨hl, rfl⟩ := List.getElem?_eq_some_iff.mp h
    exact List.drop_eq_getElem_cons hl
  have := bkXs_td (xs := xs) i
  rw [e, bkXs] at this
  omega
theorem bkXs_mem {xs : List D} {x : D} (h : x ∈ xs) : bkX x + 1 ≤ bkXs xs := by
  obtain ⟨i, hi⟩ := List.mem_iff_getElem?.mp h
  have := bkXs_get hi
  omega
structure Tg (n w k : Nat) (d : D) : Prop where
  ok : okX d = true
  bk : bkX d ≤ n
  wd : wdX d ≤ w
  dp : dpX d ≤ k
theorem Tg.mono {n n' w w' k k' : Nat} {d : D} (h : Tg n w k d) (hn : n ≤ n') (hw : w ≤ w') (hk : k ≤ k') : Tg n' w' k' d := ⟨h.ok, Nat.le_trans h.bk hn, Nat.le_trans h.wd hw, Nat.le_trans h.dp hk⟩
structure Tgs (n w k : Nat) (ds : List D) : Prop where
  ok : ∀ x ∈ ds, okX x = true
  bk : bkXs ds ≤ n
  wd : ∀ x ∈ ds, wdX x ≤ w
  dp : ∀ x ∈ ds, dpX x ≤ k
theorem Tg.tup {n w k : Nat} {xs : List D} (h : Tgs n w k xs) (hl : xs.length ≤ w) : Tg n w (k + 1) (.tup xs) :=
  ⟨by rw [okX]; exact okXs_iff.mpr h.ok, by rw [bkX]; exact h.bk, by rw [wdX]; have := wdXs_le.mpr h.wd; omega, by rw [dpX_tup]; have := dpXs_le.mpr h.dp; omega⟩
theorem Tg.lst {n w k : Nat} {xs : List D} (h : Tgs n w k xs) (hl : xs.length ≤ w) : Tg n w (k + 1) (.lst xs) :=
  ⟨by rw [okX]; exact okXs_iff.mpr h.ok, by rw [bkX]; exact h.bk, by rw [wdX]; have := wdXs_le.mpr h.wd; omega, by rw [dpX_lst]; have := dpXs_le.mpr h.dp; omega⟩
theorem Tg.ins {n w k : Nat} {xs : List D} (h : Tg n w k (.tup xs)) : Tgs n w (k - 1) xs ∧ xs.length ≤ w ∧ 1 ≤ k := by
  have h1 := h.ok
  have h2 := h.bk
  have h3 := h.wd
  have h4 := h.dp
  rw [okX, okXs_iff] at h1
  rw [bkX] at h2
  rw [wdX] at h3
  rw [dpX_tup] at h4
  exact ⟨⟨h1, h2, wdXs_le.mp (by omega), dpXs_le.mp (by omega)⟩, by omega, by omega⟩
theorem Tgs.mem {n w k : Nat} {xs : List D} (h : Tgs n w k xs) {x : D} (hx : x ∈ xs) : Tg n w k x := ⟨h.ok x hx, by have := bkXs_mem hx; have := h.bk; omega, h.wd x hx, h.dp x hx⟩
theorem Tgs.of {n w k : Nat} {xs ys : List D} (h : Tgs n w k xs) (hs : ∀ y ∈ ys, y ∈ xs) {m : Nat} (hb : bkXs ys ≤ m) : Tgs m w k ys := ⟨fun y hy => h.ok y (hs y hy), hb, fun y hy => h.wd y (hs y hy), fun y hy => h.dp y (hs y hy)⟩
theorem Tgs.app {n w k m w' k' : Nat} {xs ys : List D} (h : Tgs n w k xs) (h' : Tgs m w' k' ys) : Tgs (n + m) (max w w') (max k k') (xs ++ ys) :=
  ⟨fun y hy => (List.mem_append.mp hy).elim (h.ok y) (h'.ok y), by rw [bkXs_app]; have := h.bk; have := h'.bk; omega, fun y hy => (List.mem_append.mp hy).elim (fun z => by have := h.wd y z; omega) (fun z => by have := h'.wd y z; omega), fun y hy => (List.mem_append.mp hy).elim (fun z => by have := h.dp y z; omega) (fun z => by have := h'.dp y z; omega)⟩
theorem Tgs.one {n w k : Nat} {x : D} (h : Tg n w k x) : Tgs (n + 1) w k [x] := ⟨fun y hy => by rw [List.mem_singleton.mp hy]; exact h.ok, by simp only [bkXs]; have := h.bk; omega, fun y hy => by rw [List.mem_singleton.mp hy]; exact h.wd, fun y hy => by rw [List.mem_singleton.mp hy]; exact h.dp⟩
theorem Tgs.nil {n w k : Nat} : Tgs n w k [] := ⟨fun _ h => (by cases h), by simp [bkXs], fun _ h => (by cases h), fun _ h => (by cases h)⟩
theorem Tg.str {z : Str} {n w k : Nat} (h : ∀ c ∈ cps z, c < 128) (hl : z.length / 4 ≤ n) : Tg n w k (.str z) := ⟨by rw [okX, List.all_eq_true]; exact fun c hc => decide_eq_true (h c hc), by rw [bkX]; omega, by rw [wdX]; exact Nat.zero_le _, by rw [dpX_str]; exact Nat.zero_le _⟩
theorem Tg.int {i : Int} {n w k : Nat} (h : i.natAbs < 10 ^ 45) : Tg n w k (.int i) := ⟨by rw [okX]; exact decide_eq_true h, by rw [bkX]; exact Nat.zero_le _, by rw [wdX]; exact Nat.zero_le _, by rw [dpX_int]; exact Nat.zero_le _⟩
theorem Tg.bl {b : Bool} {n w k : Nat} : Tg n w k (.bl b) := ⟨by rw [okX], by rw [bkX]; exact Nat.zero_le _, by rw [wdX]; exact Nat.zero_le _, by rw [dpX_bl]; exact Nat.zero_le _⟩
theorem Tg.non {n w k : Nat} : Tg n w k .non := ⟨by rw [okX], by rw [bkX]; exact Nat.zero_le _, by rw [wdX]; exact Nat.zero_le _, by rw [dpX_non]; exact Nat.zero_le _⟩
theorem Tg.strs {z : Str} {n w k : Nat} (h : Tg n w k (.str z)) : (∀ c ∈ cps z, c < 128) ∧ z.length ≤ 4 * n + 3 := ⟨fun c hc => of_decide_eq_true (List.all_eq_true.mp (by have := h.ok; rwa [okX] at this) c hc), by have := h.bk; rw [bkX] at this; omega⟩
theorem Tg.show {n w k : Nat} {d : D} (h : Tg n w k d) (hn : n ≤ 326000) (hk : k ≤ 100) : ShowX d := by
  have h2 := okX_showable d h.ok
  have hb := okX_shown d h.ok
  have := h.bk
  have h3 := Nat.mul_le_mul (Nat.le_refl 49) (show bkX d ≤ 326000 by omega)
  exact ⟨okX_pure d h.ok, Nat.le_trans h.dp hk, h2, small_line2 (by unfold shx; omega)⟩
mutual
theorem depD_dp : ∀ d : D, depD d ≤ dpX d + 1
  | .tup xs => by rw [dpX_tup, depD]; have := depDs_dp xs; omega
  | .lst xs => by rw [dpX_lst, depD]; have := depDs_dp xs; omega
  | .str _ => by rw [depD]; omega
  | .int _ => by rw [depD]; omega
  | .bl _ => by rw [depD]; omega
  | .non => by rw [depD]; omega
  | .ref _ => by rw [depD]; omega
  | .ty _ => by rw [depD]; omega
  | .dic _ => by rw [depD]; omega
  | .dit _ => by rw [depD]; omega
theorem depDs_dp : ∀ ds : List D, depDs ds ≤ dpXs ds + 1
  | [] => by rw [depDs]; omega
  | d :: ds => by rw [depDs, dpXs_cons]; have := depD_dp d; have := depDs_dp ds; omega
end
theorem cps_upper {z : Str} (h : ∀ c ∈ cps z, c < 128) : (∀ c ∈ cps (Txt.upper z), c < 128) ∧ (Txt.upper z).length = z.length := by
  rw [PyProof.Rows.upper_ascii (x := z) h]
  refine ⟨fun c hc => ?_, by simp [Str.length]⟩
  obtain ⟨c0, h0, rfl⟩ : ∃ c0 ∈ cps z, PyProof.Rows.up1 c0 = c := by
    have : c ∈ (z.cps.map PyProof.Rows.up1).toList := hc
    rw [Array.toList_map, List.mem_map] at this
    exact this
  have := h c0 h0
  unfold PyProof.Rows.up1
  split <;> omega
def neXR : DR2 := fun d e M Q => (((pureX d = true ∧ depD d ≤ 100) ∧ pureD e = true) ∧ ∃ xs, d = .tup xs ∨ d = .lst xs) ∧ Q (.bl (!eqvD d e)) M
theorem neXL_go {xs : List D} {e : D} {M : Mm} {Q : DQ} (h : pureXs xs = true) (h2 : depDs xs ≤ 99) (h3 : pureD e = true) (k : Q (.bl (!eqvD (.lst xs) e)) M) : neXR (.lst xs) e M Q := ⟨⟨⟨⟨by rw [pureX]; exact h, by rw [depD]; omega⟩, h3⟩, xs, .inr rfl⟩, k⟩
end DM
namespace DM
open PySem PySem.Spec PyProof.Rows L2
theorem knx {x : D} (h : pureX x = true) : KnD x := by cases x <;> first | trivial | (simp [pureX] at h)
def XeP : D → Prop
  | .tup xs => pureXs xs = true ∧ depDs xs ≤ 97
  | x => KnD x
theorem XeP.of {x : D} (h : pureX x = true) (d : depD x ≤ 98) : XeP x := by
  cases x with
  | tup xs => exact ⟨by simpa [pureX] using h, by simp only [depD] at d; omega⟩
  | _ => exact knx h
abbrev mD (E : List Ed) (F : List Str) : D := .tup [.tup (E.map edD), .tup (F.map .str)]
structure SzM (x : D) : Prop where
  p : pureX x = true
  d : depD x ≤ 98
  s : ∀ es fs, x = .tup [.tup es, .tup fs] → es.length ≤ 100000 ∧ fs.length ≤ 100000 ∧ (∀ e ∈ es, SmE e) ∧ ∀ f ∈ fs, SmT f
theorem SzM.k {E : List Ed} {F : List Str} (h : SzM (mD E F)) : MachK E F := by
  obtain ⟨h1, h2, h3, h4⟩ := h.s _ _ rfl
  rw [List.length_map] at h1 h2
  refine ⟨h1, h2, fun e he => ?_, fun s hs => h4 _ (List.mem_map.mpr ⟨s, hs, rfl⟩) s rfl⟩
  obtain ⟨a, b, c⟩ := h3 _ (List.mem_map.mpr ⟨e, he, rfl⟩) _ _ _ rfl
  exact ⟨a _ rfl, b _ rfl, c _ rfl⟩
theorem MachK.sz {E : List Ed} {F : List Str} (h : MachK E F) : SzM (mD E F) := by
  have e1 : pureDs (E.map edD) = true := pureDs_all fun x hx => by obtain ⟨e, _, rfl⟩ := List.mem_map.mp hx; simp [edD, pureD, pureDs]
  have e2 : pureDs (F.map D.str) = true := pureDs_all fun x hx => by obtain ⟨e, _, rfl⟩ := List.mem_map.mp hx; simp [pureD]
  have d1 : depDs (E.map edD) ≤ 2 := depDs_all (by decide) fun x hx => by obtain ⟨e, _, rfl⟩ := List.mem_map.mp hx; simp [edD, depD, depDs]
  have d2 : depDs (F.map D.str) ≤ 1 := depDs_all (by decide) fun x hx => by obtain ⟨e, _, rfl⟩ := List.mem_map.mp hx; simp [depD]
  refine ⟨pureX_of _ (by simp only [pureD, pureDs, e1, e2, Bool.and_self]), by simp only [depD, depDs]; omega, fun es fs e => ?_⟩
  simp only [D.tup.injEq, List.cons.injEq, and_true] at e
  obtain ⟨rfl, rfl⟩ := e
  rw [List.length_map, List.length_map]
  exact ⟨h.el, h.fl, fun e he => by obtain ⟨f, hf, rfl⟩ := List.mem_map.mp he; exact smE_ed (h.es f hf), fun s hs => by obtain ⟨f, hf, rfl⟩ := List.mem_map.mp hs; exact smT_s (h.fs f hf)⟩
theorem Tg.kn {n w k : Nat} {x : D} (h : Tg n w k x) : KnD x := knx (okX_pure x h.ok)
theorem Tg.smT {n w k : Nat} {x : D} (h : Tg n w k x) (hn : n ≤ 240000) : SmT x := fun z e => by subst e; exact Nat.le_trans h.strs.2 (by omega)
theorem Tg.smE {n w k : Nat} {x : D} (h : Tg n w k x) (hn : n ≤ 240000) : SmE x := fun a b c e => by
  subst e
  obtain ⟨h1, _, _⟩ := h.ins
  exact ⟨(h1.mem (x := a) (by simp)).smT hn, (h1.mem (x := b) (by simp)).smT hn, (h1.mem (x := c) (by simp)).smT hn⟩
theorem Tg.dep {n w k : Nat} {x : D} (h : Tg n w k x) : depD x ≤ k + 1 := by have := depD_dp x; have := h.dp; omega
theorem Tg.xe {n w k : Nat} {x : D} (h : Tg n w k x) (hk : k ≤ 97) : XeP x := .of (okX_pure x h.ok) (by have := h.dep; omega)
theorem Tg.sz {n w k : Nat} {x : D} (h : Tg n w k x) (hn : n ≤ 240000) (hw : w ≤ 100000) (hk : k ≤ 97) : SzM x := by
  refine ⟨okX_pure x h.ok, by have := h.dep; omega, fun es fs e => ?_⟩
  subst e
  obtain ⟨h1, _, _⟩ := h.ins
  obtain ⟨g1, l1, _⟩ := (h1.mem (x := .tup es) (by simp)).ins
  obtain ⟨g2, l2, _⟩ := (h1.mem (x := .tup fs) (by simp)).ins
  exact ⟨by omega, by omega, fun e he => (g1.mem he).smE hn, fun f hf => (g2.mem hf).smT hn⟩
theorem risB_pair {α : Type} {le : α → α → Bool} (tr : ∀ a b c, le a b = true → le b c = true → le a c = true) (to : ∀ a b, (le a b || le b a) = true) : ∀ {l : List α}, risB le l = true → l.Pairwise fun a b => le b a = false
  | [], _ => .nil
  | [a], _ => by simp
  | a :: b :: l, h => by
    have h' : (!le b a && risB le (b :: l)) = true := by simpa only [risB, List.tail_cons, List.zip_cons_cons, List.all_cons] using h
    obtain ⟨h1, h2⟩ := Bool.and_eq_true_iff.mp h'
    have h1 : le b a = false := by simpa using h1
    have p := risB_pair tr to h2
    refine List.pairwise_cons.mpr ⟨fun c hc => ?_, p⟩
    rcases List.mem_cons.mp hc with rfl | hc
    · exact h1
    · have h3 := (List.pairwise_cons.mp p).1 c hc
      refine Bool.eq_false_iff.mpr fun q => ?_
      have h4 : le b c = true := by have := to b c; rw [h3, Bool.or_false] at this; exact this
      exact absurd (tr _ _ _ h4 q) (by rw [h1]; simp)
end DM
namespace DM
open PySem L2
theorem cutL_len {α : Type} {xs : List α} {lo hi : Option Int} : (cutL xs lo hi).length ≤ xs.length := by
  unfold cutL
  simp only [List.length_take, List.length_drop]
  omega
theorem Tg.cutS {n w k : Nat} {z : Str} (h : Tg n w k (.str z)) (lo hi : Option Int) : Tg n w k (.str (cutS z lo hi)) := by
  refine .str (fun c hc => h.strs.1 c ?_) ?_
  · rw [cps_cut] at hc
    exact cutL_mem hc
  · rw [cps_len, cps_cut]
    have := cutL_len (xs := cps z) (lo := lo) (hi := hi)
    have := h.bk
    rw [bkX, cps_len] at this
    omega
theorem Tg.addS {n m w k : Nat} {a b : Str} (h : Tg n w k (.str a)) (h' : Tg m w k (.str b)) : Tg (n + m + 1) w k (.str (a ++ b)) := by
  refine .str (fun c hc => ?_) ?_
  · rw [cps_append] at hc
    exact (List.mem_append.mp hc).elim (h.strs.1 c) (h'.strs.1 c)
  · rw [strLen_append]
    have := h.bk
    have := h'.bk
    rw [bkX] at *
    omega
theorem Tg.upper {n w k : Nat} {z : Str} (h : Tg n w k (.str z)) : Tg n w k (.str (Txt.upper z)) := by
  obtain ⟨h1, h2⟩ := cps_upper h.strs.1
  exact .str h1 (by rw [h2]; have := h.bk; rwa [bkX] at this)
theorem Tg.editL {n w k m v : Nat} {xs ys : List D} (h : Tg n w k (.tup xs)) (hs : ∀ y ∈ ys, y ∈ xs) (hb : bkXs ys ≤ m) (hl : ys.length ≤ v) (hw : w ≤ v) : Tg m v k (.lst ys) := by
  obtain ⟨h1, h2, h3⟩ := h.ins
  have := Tg.lst (w := v) ⟨fun y hy => h1.ok y (hs y hy), hb, fun y hy => Nat.le_trans (h1.wd y (hs y hy)) hw, fun y hy => h1.dp y (hs y hy)⟩ hl
  rwa [show k - 1 + 1 = k by omega] at this
theorem Tg.edit1 {n w k m v K nz wz kz : Nat} {xs ys : List D} {z : D} (h : Tg n w k (.tup xs)) (hz : Tg nz wz kz z) (hs : ∀ y ∈ ys, y ∈ xs ∨ y = z) (hb : bkXs ys ≤ m) (hl : ys.length ≤ v) (hw : w ≤ v) (hwz : wz ≤ v) (hk : k ≤ K) (hkz : kz + 1 ≤ K) : Tg m v K (.tup ys) := by
  obtain ⟨h1, h2, h3⟩ := h.ins
  have := Tg.tup (w := v) (n := m) (k := K - 1) (xs := ys) ⟨fun y hy => (hs y hy).elim (h1.ok y) fun e => e ▸ hz.ok, hb, fun y hy => (hs y hy).elim (fun q => Nat.le_trans (h1.wd y q) hw) fun e => e ▸ Nat.le_trans hz.wd hwz, fun y hy => (hs y hy).elim (fun q => Nat.le_trans (h1.dp y q) (by omega)) fun e => e ▸ Nat.le_trans hz.dp (by omega)⟩ hl
  rwa [show K - 1 + 1 = K by omega] at this
theorem Tg.bks {n w k : Nat} {xs : List D} (h : Tg n w k (.tup xs)) : bkXs xs ≤ n ∧ xs.length ≤ w := ⟨h.ins.1.bk, h.ins.2.1⟩
theorem Tg.one {n w k : Nat} {x : D} (h : Tg n w k x) (hw : 1 ≤ w) : Tg (n + 1) w (k + 1) (.tup [x]) := .tup (.one h) hw
theorem Tg.at {n w k N W K m V L : Nat} {xs : List D} {i : Nat} {x y : D} (h : Tg n w k (.tup xs)) (hx : xs[i]? = some x) (hy : Tg N W K y) (hN : n + N ≤ m + bkX x) (hw : w ≤ V) (hW : W ≤ V) (hk : k ≤ L) (hK : K + 1 ≤ L) : Tg m V L (.tup (xs.take i ++ [y] ++ xs.drop (i + 1))) := by
  have e := bkXs_get hx
  obtain ⟨b1, b2⟩ := h.bks
  have hi := (List.getElem?_eq_some_iff.mp hx).1
  refine h.edit1 hy (fun z hz => ?_) ?_ ?_ hw hW hk hK
  · rcases List.mem_append.mp hz with hz | hz
    · rcases List.mem_append.mp hz with hz | hz
      · exact .inl (List.mem_of_mem_take hz)
      · exact .inr (List.mem_singleton.mp hz)
    · exact .inl (List.mem_of_mem_drop hz)
  · rw [bkXs_app, bkXs_app]
    have := hy.bk
    simp only [bkXs]
    omega
  · simp only [List.length_append, List.length_take, List.length_drop, List.length_cons, List.length_nil]
    omega
def AscS (m : Nat) (z : Str) : Prop := (∀ c ∈ cps z, c < 128) ∧ z.length ≤ m
theorem AscS.mono {m m' : Nat} {z : Str} (h : AscS m z) (e : m ≤ m') : AscS m' z := ⟨h.1, Nat.le_trans h.2 e⟩
theorem AscS.tg {m w k : Nat} {z : Str} (h : AscS m z) : Tg (m / 4) w k (.str z) := .str h.1 (Nat.div_le_div_right h.2)
theorem sgns_asc : ∀ c ∈ sgns, c < 128 := by decide +kernel
theorem NameS.asc {z : Str} (h : NameS z) : AscS 8 z := ⟨fun c hc => sgns_asc c (h.2.1 c hc), by rw [cps_len]; exact h.2.2⟩
theorem figB_asc {z : Str} (h : figB z = true) : ∀ c ∈ cps z, c < 128 := fun c hc => by
  unfold figB at h
  simp only [Bool.and_eq_true, List.all_eq_true] at h
  have := h.2.1 c hc
  rw [inStr_sign] at this
  have hd : ∀ c ∈ ("0123456789" : Str).cps.toList, c < 128 := by decide +kernel
  exact hd c (of_decide_eq_true this)
theorem WordS.asc {z : Str} (h : WordS z) : AscS 8 z := ⟨h.2.2.2.elim (fun g => g.asc.1) figB_asc, h.1⟩
theorem tgs_strs {m : Nat} : ∀ {F : List Str}, (∀ s ∈ F, AscS m s) → Tgs (F.length * (m / 4 + 1)) 0 0 (F.map .str)
  | [], _ => .nil
  | s :: F, h => by
    have h1 : Tg (m / 4) 0 0 (.str s) := (h s (by simp)).tg
    have h2 := tgs_strs (m := m) (F := F) fun e he => h e (by simp [he])
    have := (Tgs.one h1).app h2
    rw [List.map_cons, List.length_cons]
    exact ⟨this.ok, by have := this.bk; rw [Nat.succ_mul]; have e' : D.str s :: F.map D.str = [D.str s] ++ F.map D.str := rfl; rw [e']; omega, fun y hy => Nat.le_trans (this.wd y hy) (by decide), fun y hy => Nat.le_trans (this.dp y hy) (by decide)⟩
theorem tg_two {n m w k : Nat} {a b : D} (h1 : Tg n w k a) (h2 : Tg m w k b) (hw : 2 ≤ w) : Tg (n + m + 2) w (k + 1) (.tup [a, b]) := by
  have := (Tgs.one h1).app (Tgs.one h2)
  exact .tup ⟨this.ok, by have := this.bk; show bkXs ([a] ++ [b]) ≤ _; omega, fun y hy => Nat.le_trans (this.wd y hy) (by omega), fun y hy => Nat.le_trans (this.dp y hy) (by omega)⟩ hw
end DM
namespace DM
open PySem PySem.Spec PyProof.Rows L2
def pairK (d : D) : Option (Key × D) := match d with
  | .tup [k, v] => (keyD k).map fun kk => (kk, v)
  | _ => none
def pairsK : List D → Option (List (Key × D))
  | [] => some []
  | d :: ds => match pairK d, pairsK ds with
    | some q, some qs => some (q :: qs)
    | _, _ => none
def dictKQ (o : Option (List D)) (M : Mm) (Q : DQ) : Prop := match o with
  | some ys => (match pairsK ys with | some kvs => ∀ p, M p = none → Q (.ref p) (mup M p (.dic (mergeD [] kvs))) | none => False)
  | none => False
def dictKR : DRC := fun xs M Q => match xs with
  | [x] => dictKQ (rdL M x) M Q
  | _ => False
def rDictPK (K : PySem.W.Frag) : List V → Hp → VK → Prop := fun xs H Q => ∃ (a : Addr) (ps : List Addr) (kvs : List (Key × V)), xs = [.ref a] ∧ SqL K H a (ps.map V.ref) ∧ Paired (fun p kv => SqT K H p [kV kv.1, kv.2]) ps kvs ∧
    ∀ p, H p = none → Q (.ref p) (upd H p (.dK (mergeK [] kvs)))
theorem pairsK_v {K : PySem.W.Frag} {H : HF} : ∀ {ys : List D} {vs : List V} {kvs : List (Key × D)}, VRs K H ys vs → pairsK ys = some kvs →
    ∃ (ps : List Addr) (qs : List (Key × V)), vs = ps.map V.ref ∧ Paired (fun p kv => SqT K H.h p [kV kv.1, kv.2]) ps qs ∧ FR K H kvs qs
  | [], _, kvs, r, e => by
    cases r
    cases e
    exact ⟨[], [], rfl, .nil, .nil⟩
  | d :: ds, _, kvs, r, e => by
    cases r with
    | cons r1 r2 =>
      unfold pairsK at e
      split at e
      · rename_i q qs0 e1 e2
        cases e
        obtain ⟨ps, qs, rfl, hp, hf⟩ := pairsK_v r2 e2
        unfold pairK at e1
        split at e1
        · rename_i k v
          obtain ⟨kk, hk, e1⟩ := Option.map_eq_some_iff.mp e1
          cases e1
          obtain ⟨b, ws, rfl, hb, rw⟩ := VR.tup_v r1
          cases rw with
          | cons rk rw =>
            cases rw with
            | cons rv rw =>
              cases rw
              have hkv := keyD_v rk hk
              subst hkv
              exact ⟨b :: ps, (kk, _) :: qs, rfl, .cons hb hp, .cons rv hf⟩
        · cases e1
      · cases e
theorem lift_dictPK {K : PySem.W.Frag} : LiftC K (rDictPK K) dictKR := by
  intro vs ds H M Q Q0 r m h k
  unfold dictKR at h
  split at h
  · rename_i x
    obtain ⟨v, rfl, r1⟩ := r.one
    unfold dictKQ at h
    split at h
    · rename_i ys e
      obtain ⟨a, ws, rfl, h1, r2⟩ := rdL_v m r1 e
      split at h
      · rename_i kvs e2
        obtain ⟨ps, qs, rfl, hp, hf⟩ := pairsK_v r2 e2
        refine ⟨a, ps, qs, rfl, SqL.of h1, hp, fun p hpn => ?_⟩
        have hm := FR.merge (kvs := []) (vs := []) hf .nil
        exact k (.ref p) (H.up p _) (.ref p) _ (.ref p) (m.new (w := .dic _) hpn ⟨_, upd_same, hm.mono (TX.new m hpn)⟩) (GG.new hpn) (h p (m.free hpn))
      · exact h.elim
    · exact h.elim
  · exact h.elim
section
variable {X : Cx} {e : Expr} {es : List Expr} {t : TDA} {p pos : Pos} {k : Nat}
theorem je_dictPK (hc : X.calm = true) (hr : Room k X.A) (hm : X.mg "dict" = none) (ha : JA X (e :: es) t) (hg : Gl X "dict" := by rfl) (he : starEach (e :: es) X.env = (false, eval e X.env) :: starEach es X.env := by rfl) (hpl : (backTo pos (starEach es X.env)).any (·.1) = false := by rfl) :
    JE X (.Call (.Name "dict" p) (e :: es) [] pos) (dCB dictKR t) := je_callTy (call_dictP hc) lift_dictPK hg hm PyProof.Rows.boot_dict ha (by decide) (by decide) he hpl
end
theorem dictK_go {l : List (Key × D)} {ys : List D} {x : D} {M : Mm} {Q : DQ} (e : rdL M x = some ys) (e2 : pairsK ys = some l) (k : ∀ p, M p = none → Q (.ref p) (mup M p (.dic (mergeD [] l)))) : dictKR [x] M Q := by
  show dictKQ (rdL M x) M Q
  rw [e]
  unfold dictKQ
  simp only [e2]
  exact k
theorem pairsK_strs {S : List Str} {f : Str → D} : pairsK (S.map fun s => .tup [.str s, f s]) = some (S.map fun s => (.inr s, f s)) := by
  induction S with
  | nil => rfl
  | cons e E ih =>
    rw [List.map_cons]
    unfold pairsK
    rw [ih]
    rfl
theorem dpX_dic1 {k : Key} {x : D} : dpX (.dic [(k, x)]) ≤ dpX x + 1 := by
  cases k <;> simp [dpX, toPx, toPxk, toPxp, keyP, PyData.depth, PyData.depthKv]
theorem Tg.dic1 {n w k : Nat} {x : D} {z : Str} (h : Tg n w k x) (hz : ((cps z).all (· < 128)) = true) (hl : z.length ≤ 3) : Tg (n + 2) w (k + 1) (.dic [(.inr z, x)]) := by
  refine ⟨?_, ?_, by simp [wdX], Nat.le_trans dpX_dic1 (Nat.succ_le_succ h.dp)⟩
  · simp only [okX, okXk, okXp, okK, h.ok, hz, Bool.and_self]
  · simp only [bkX, bkXk, bkXp, bkK]
    have := h.bk
    have : z.length / 4 = 0 := by omega
    omega
end DM
namespace DM
open PySem PySem.Spec PyProof.Rows L2
theorem rise_fix {F : List Str} : F = rise F ↔ risB leS F = true := by
  constructor
  · intro h
    have := risS_of (rise_ris F)
    rwa [← h] at this
  · intro h
    have hp : RisS F := (risB_pair (le := leS) (fun _ _ _ h h' => leS_trans h h') leS_total h).imp fun {a b} (g : leS b a = false) => by
      have h1 := leS_total a b
      rw [g, Bool.or_false] at h1
      refine ⟨h1, ?_⟩
      rintro rfl
      rw [g] at h1; cases h1
    exact (ris_eq (rise_ris F) hp fun z => rise_mem).symm
end DM
namespace DM
open PySem L2
open PyProof.Rows (b2i)
def KnX : D → Prop
  | .tup xs => ∀ y ∈ xs, KnD y ∧ SmT y
  | x => KnD x
theorem Tg.knx {n w k : Nat} {d : D} (h : Tg n w k d) (hn : n ≤ 240000) : KnX d := by
  cases d with
  | tup xs => exact fun y hy => ⟨(h.ins.1.mem hy).kn, (h.ins.1.mem hy).smT (by omega)⟩
  | ref _ => exact h.kn.elim
  | ty _ => exact h.kn.elim
  | dit _ => exact h.kn.elim
  | _ => trivial
end DM
namespace DM
open PySem L2
theorem Tg.mem {n w k : Nat} {xs : List D} (h : Tg n w k (.tup xs)) {x : D} (hx : x ∈ xs) : Tg n w k x := (h.ins.1.mem hx).mono (Nat.le_refl _) (Nat.le_refl _) (by omega)
end DM
namespace DM
open PySem L2
theorem cps_sp : cps (" " : Str) = [32] := by decide
theorem cps_joinS (y : Str) : ∀ {ws : List Str} {x : Str}, cps (Txt.join y (x :: ws)) = cps x ++ ws.flatMap fun w => cps y ++ cps w
  | [], x => by rw [TL.join_eq]; simp [Str.join]
  | w :: ws, x => by
    have := cps_joinS y (ws := ws) (x := w)
    rw [TL.join_eq] at this ⊢
    show cps (x ++ y ++ Str.join y (w :: ws)) = _
    rw [cps_append, cps_append, this]
    simp
theorem split_sp {ws : List Str} (hne : ws ≠ []) (h : ∀ w ∈ ws, 32 ∉ cps w) : Txt.split (Txt.join (" " : Str) ws) (" " : Str) = ws := TL.split_join (s := 32) (S := []) (by decide) (by decide +kernel) hne h
theorem sgns_no : 32 ∉ sgns ∧ 10 ∉ sgns ∧ ∀ c ∈ sgns, c < 128 := by decide +kernel
theorem NameS.no32 {z : Str} (h : NameS z) : 32 ∉ cps z := fun hc => sgns_no.1 (h.2.1 _ hc)
theorem fm_len2 {α : Type} {f : α → List Nat} {k : Nat} : ∀ {l : List α}, (∀ x ∈ l, (f x).length ≤ k) → (l.flatMap f).length ≤ k * l.length
  | [], _ => by simp
  | x :: l, h => by
    rw [List.flatMap_cons, List.length_append, List.length_cons, Nat.mul_add]
    have h1 := h x (by simp)
    have h2 := fm_len2 (f := f) (k := k) (l := l) fun y hy => h y (by simp [hy])
    omega
theorem sumS_le {k : Nat} : ∀ {ws : List Str}, (∀ z ∈ ws, z.length ≤ k) → (ws.map (·.length)).sum ≤ k * ws.length
  | [], _ => by simp
  | w :: ws, h => by
    rw [List.map_cons, List.sum_cons, List.length_cons, Nat.mul_add]
    have h1 := h w (by simp)
    have h2 := sumS_le (k := k) (ws := ws) fun z hz => h z (by simp [hz])
    omega
theorem join_go {M : Mm} {Q : DQ} {a : Str} {xs : List D} {ws : List Str} {k : Nat} (e : xs = ws.map .str) (hz : ∀ z ∈ ws, z.length ≤ k) (h1 : k * ws.length + ws.length * a.length ≤ 16777216) (h : Q (.str (Txt.join a ws)) M) : joinQ a xs M Q := by
  subst e
  have := sumS_le hz
  have e : ws.map (fun x => x) = ws := by simp
  exact joinQ_map (fun x => x) (by rw [e]; omega) (by rw [e]; exact h)
end DM
namespace DM
open PySem L2
theorem spl_mem {S : List Nat} : ∀ (l : List Nat) (n : Nat) (acc : List Nat), ∀ p ∈ TL.spl S n acc l, ∀ c ∈ p, c ∈ acc ∨ c ∈ l
  | [], n, acc, p, hp, c, hc => by
    rw [TL.spl_nil, List.mem_singleton] at hp
    subst hp
    exact .inl hc
  | x :: l, 0, acc, p, hp, c, hc => by
    cases h : TL.pre S (x :: l) with
    | true =>
      rw [TL.spl_hit h] at hp
      rcases List.mem_cons.mp hp with rfl | hp
      · exact .inl hc
      · rcases spl_mem l _ _ p hp c hc with h | h
        · cases h
        · exact .inr (List.mem_cons_of_mem _ h)
    | false =>
      rw [TL.spl_miss h] at hp
      rcases spl_mem l _ _ p hp c hc with h | h
      · rcases List.mem_append.mp h with h | h
        · exact .inl h
        · rw [List.mem_singleton.mp h]; exact .inr (by simp)
      · exact .inr (List.mem_cons_of_mem _ h)
  | x :: l, n + 1, acc, p, hp, c, hc => by
    have hp : p ∈ TL.spl S n acc l := hp
    rcases spl_mem l n acc p hp c hc with h | h
    · exact .inl h
    · exact .inr (List.mem_cons_of_mem _ h)
section
variable {x y : Str} (hy : cps y ≠ []) (hk : y.cps.all (· < 256) = true)
include hy hk
theorem split_maps : (Txt.split x y).map cps = TL.spl (cps y) 0 [] (cps x) := TL.split_spl x y hy (TL.kind_ok hk)
theorem split_mem {w : Str} (h : w ∈ Txt.split x y) : ∀ c ∈ cps w, c ∈ cps x := fun c hc => by
  have := spl_mem (S := cps y) (cps x) 0 [] (cps w) (by rw [← split_maps hy hk]; exact List.mem_map.mpr ⟨w, h, rfl⟩) c hc
  exact this.resolve_left (by simp)
end
end DM
namespace DM
open PySem L2
def AsW (ws : List Str) : Prop := ∀ w ∈ ws, ∀ c ∈ cps w, c < 128
theorem AsW.app {a b : List Str} (h : AsW a) (h' : AsW b) : AsW (a ++ b) := fun w hw => (List.mem_append.mp hw).elim (h w) (h' w)
theorem AsW.take {a : List Str} (h : AsW a) (k : Nat) : AsW (a.take k) := fun w hw => h w (List.mem_of_mem_take hw)
theorem AsW.drop {a : List Str} (h : AsW a) (k : Nat) : AsW (a.drop k) := fun w hw => h w (List.mem_of_mem_drop hw)
theorem AscS.split {m : Nat} {x y : Str} (h : AscS m x) (hy : cps y ≠ []) (hk : y.cps.all (· < 256) = true) : AsW (Txt.split x y) := fun w hw c hc => h.1 c (split_mem hy hk hw c hc)
theorem AscS.cut {m : Nat} {z : Str} (h : AscS m z) (lo hi : Option Int) : AscS m (cutS z lo hi) := by
  refine ⟨fun c hc => h.1 c ?_, ?_⟩
  · rw [cps_cut] at hc
    exact cutL_mem hc
  · rw [cps_len, cps_cut]
    have := cutL_len (xs := cps z) (lo := lo) (hi := hi)
    have := h.2
    rw [cps_len] at this
    omega
theorem AscS.add {m n : Nat} {a b : Str} (h : AscS m a) (h' : AscS n b) : AscS (m + n) (a ++ b) := ⟨fun c hc => by
  rw [cps_append] at hc
  exact (List.mem_append.mp hc).elim (h.1 c) (h'.1 c), by
  rw [strLen_append]
  have := h.2
  have := h'.2
  omega⟩
theorem AscS.up {m : Nat} {z : Str} (h : AscS m z) : AscS m (Txt.upper z) := by
  obtain ⟨h1, h2⟩ := cps_upper h.1
  exact ⟨h1, by rw [h2]; exact h.2⟩
end DM
namespace DM
open PySem L2
def nmT (h t : List Str) : Str := Txt.join (" " : Str) h ++ ("|" : Str) ++ Txt.join (" " : Str) t
end DM
namespace DM
open PySem PySem.Spec PyProof.Rows L2
def joinTI (x y : D) (M : Mm) (Q : DQ) : Prop := match x, y with
  | .str a, .tup xs => joinQ a xs M Q
  | _, _ => False
def dJoinT (to te : TDE) : TDE := fun ds M Q => to ds M fun x M1 => (∃ a, x = .str a) ∧ te ds M1 fun y M2 => joinTI x y M2 Q
theorem joinTI_s {z : Str} {xs : List D} {M : Mm} {Q : DQ} : joinTI (.str z) (.tup xs) M Q = joinQ z xs M Q := (rfl)
theorem dJoinT_e {to te : TDE} {ds : DSt} {M : Mm} {Q : DQ} : dJoinT to te ds M Q = to ds M fun x M1 => (∃ a, x = .str a) ∧ te ds M1 fun y M2 => joinTI x y M2 Q := (rfl)
theorem exStr {z : Str} : (∃ a, D.str z = .str a) = True := eq_true ⟨z, rfl⟩
section
variable {X : Cx} {o e : Expr} {to te : TDE} {apos cpos : Pos}
theorem je_joinT (ho : JE X o to) (he : JE X e te) (hs : starEach [e] X.env = [(false, eval e X.env)] := by rfl) (hbase : attributeBase o "join" X.env (eval o X.env) = eval o X.env := by rfl) (hline : (apos.endLine == cpos.line) = true := by rfl) :
    JE X (.Call (.Attribute o "join" apos) [e] [] cpos) (dJoinT to te) := by
  obtain ⟨u, p, g⟩ := ho
  obtain ⟨u', p', g'⟩ := he
  refine je_pe (pe_join p p' hs hbase hline) fun ds σ H M Q Q0 s m q k => ?_
  refine g ds σ H M _ _ s m q fun v H1 d M1 r1 m1 g1 q1 => ?_
  obtain ⟨⟨a, rfl⟩, q1⟩ := q1
  cases r1.str_v
  refine ⟨⟨a, rfl⟩, ?_⟩
  refine g' ds σ H1 M1 _ _ (s.gg m g1) m1 q1 fun w H2 d2 M2 r2 m2 g2 q2 => ?_
  unfold joinTI at q2
  split at q2
  · rename_i a' xs e1
    cases e1
    unfold joinQ at q2
    split at q2
    · rename_i ys e2
      obtain ⟨t, us, rfl, st, rt⟩ := r2.tup_v
      exact ⟨a, t, ys, rfl, rfl, .inr (by rw [← strsOf_v rt e2]; exact st), q2.1, k _ H2 _ M2 (.str _) m2 (g1.trans g2) q2.2⟩
    · exact q2.elim
  · exact q2.elim
end
end DM
namespace DM
open PySem L2
def Thing (x : D) : Prop := ∃ n w k, Tg n w k x ∧ k ≤ 90 ∧ w ≤ 1000000
theorem Tg.thing {n w k : Nat} {x : D} (h : Tg n w k x) (hk : k ≤ 90) (hw : w ≤ 1000000) : Thing x := ⟨n, w, k, h, hk, hw⟩
theorem Thing.len {xs : List D} (h : Thing (.tup xs)) : xs.length ≤ 1000000 := by
  obtain ⟨n, w, k, h, _, hw⟩ := h
  exact Nat.le_trans h.ins.2.1 hw
theorem Thing.kn {x : D} (h : Thing x) : KnD x := by
  obtain ⟨n, w, k, h, _⟩ := h
  exact h.kn
theorem Thing.mem {xs : List D} {y : D} (h : Thing (.tup xs)) (hy : y ∈ xs) : Thing y := by
  obtain ⟨n, w, k, h, hk, hw⟩ := h
  obtain ⟨g1, _, _⟩ := h.ins
  exact ⟨bkX y, w, k - 1, ⟨g1.ok y hy, Nat.le_refl _, g1.wd y hy, g1.dp y hy⟩, by omega, hw⟩
theorem Thing.sub {xs ys : List D} (h : Thing (.tup xs)) (hs : ∀ y ∈ ys, y ∈ xs) (hl : ys.length ≤ xs.length) : pureXs ys = true ∧ depDs ys ≤ 99 := by
  obtain ⟨n, w, k, h, hk, _⟩ := h
  have g := h.editL (m := bkXs ys) (v := w) hs (Nat.le_refl _) (Nat.le_trans hl h.ins.2.1) (Nat.le_refl _)
  have h1 := okX_pure _ g.ok
  have h2 := depD_dp (.lst ys)
  have h3 := g.dp
  rw [pureX] at h1
  exact ⟨h1, by rw [depD] at h2; omega⟩
theorem Thing.neL {xs ys : List D} {M : Mm} {Q : DQ} (h : Thing (.tup xs)) (hs : ∀ y ∈ ys, y ∈ xs) (hl : ys.length ≤ xs.length) (g : Q (.bl (!ys.isEmpty)) M) : neXR (.lst ys) (.lst []) M Q := by
  obtain ⟨h1, h2⟩ := h.sub hs hl
  refine neXL_go h1 h2 rfl ?_
  rw [show eqvD (.lst ys) (.lst []) = ys.isEmpty by cases ys <;> simp [eqvD, eqvDs]]
  exact g
end DM
namespace DM
open PySem L2
theorem leD_lex (x y : D) : leD x y = !PyProof.Rows.lexLt PyProof.Rows.itemOrd (PySem.W.keyToks (toPy y)) (PySem.W.keyToks (toPy x)) := rfl
theorem leD_refl (x : D) : leD x x = true := by rw [leD_lex, PyProof.Rows.lex_irrefl]; rfl
theorem leD_trans {x y z : D} (h : leD x y = true) (h' : leD y z = true) : leD x z = true := by
  rw [leD_lex, Bool.not_eq_true'] at *
  cases e : PyProof.Rows.lexLt PyProof.Rows.itemOrd (PySem.W.keyToks (toPy z)) (PySem.W.keyToks (toPy x)) with
  | false => rfl
  | true =>
    rcases PyProof.Rows.lex_negTrans _ (PySem.W.keyToks (toPy y)) _ e with g | g
    · rw [h'] at g; cases g
    · rw [h] at g; cases g
theorem leD_total (x y : D) : (leD x y || leD y x) = true := by
  cases e : leD x y with
  | true => rfl
  | false =>
    cases e2 : leD y x with
    | true => rfl
    | false =>
      rw [leD_lex, Bool.not_eq_false'] at e e2
      have := PyProof.Rows.lex_trans _ _ _ e e2
      rw [PyProof.Rows.lex_irrefl] at this
      cases this
inductive Tx : D → Prop
  | str (z : Str) : Tx (.str z)
  | tup {xs : List D} : (∀ x ∈ xs, Tx x) → Tx (.tup xs)
theorem tx_strs (ws : List Str) : ∀ x ∈ ws.map D.str, Tx x := fun x hx => by
  obtain ⟨w, _, rfl⟩ := List.mem_map.mp hx
  exact .str w
theorem tx_st (s : St2) : Tx (stD s) := .tup fun x hx => by
  simp only [List.mem_cons, List.not_mem_nil, or_false] at hx
  rcases hx with rfl | rfl
  · exact .str _
  · exact .tup (tx_strs _)
theorem toks_inj {x : D} (h : Tx x) : ∀ {y : D} {r r' : List (Int ⊕ List Nat)}, Tx y → PySem.W.keyToks (toPy x) ++ r = PySem.W.keyToks (toPy y) ++ r' → x = y ∧ r = r' := by
  induction h with
  | str z =>
    intro y r r' hy e
    cases hy with
    | str z' =>
      simp only [toPy, PySem.W.keyToks, List.cons_append, List.nil_append, List.cons.injEq, Sum.inr.injEq] at e
      exact ⟨by rw [PySem.W.str_of_cps e.1], e.2⟩
    | @tup ys hys =>
      exfalso
      cases ys with
      | nil => simp [toPy, toPys, PySem.W.keyToks, PySem.W.keyToksAll] at e
      | cons y ys => simp [toPy, toPys, PySem.W.keyToks, PySem.W.keyToksAll] at e
  | @tup xs hxs ih =>
    intro y r r' hy e
    cases hy with
    | str z' =>
      exfalso
      cases xs with
      | nil => simp [toPy, toPys, PySem.W.keyToks, PySem.W.keyToksAll] at e
      | cons x xs => simp [toPy, toPys, PySem.W.keyToks, PySem.W.keyToksAll] at e
    | @tup ys hys =>
      have key : ∀ (xs : List D), (∀ x ∈ xs, ∀ {y : D} {r r' : List (Int ⊕ List Nat)}, Tx y → PySem.W.keyToks (toPy x) ++ r = PySem.W.keyToks (toPy y) ++ r' → x = y ∧ r = r') → ∀ (ys : List D), (∀ y ∈ ys, Tx y) → ∀ {r r' : List (Int ⊕ List Nat)}, PySem.W.keyToksAll (toPys xs) ++ r = PySem.W.keyToksAll (toPys ys) ++ r' → xs = ys ∧ r = r' := by
        intro xs
        induction xs with
        | nil =>
          intro _ ys hys r r' e
          cases ys with
          | nil => simp only [toPys, PySem.W.keyToksAll, List.cons_append, List.nil_append, List.cons.injEq] at e; exact ⟨rfl, e.2⟩
          | cons y ys => simp [toPys, PySem.W.keyToksAll] at e
        | cons x xs ihx =>
          intro hx ys hys r r' e
          cases ys with
          | nil => simp [toPys, PySem.W.keyToksAll] at e
          | cons y ys =>
            simp only [toPys, PySem.W.keyToksAll, List.cons_append, List.cons.injEq, List.append_assoc] at e
            obtain ⟨e1, e2⟩ := hx x List.mem_cons_self (hys y List.mem_cons_self) e.2
            obtain ⟨e3, e4⟩ := ihx (fun x h => hx x (List.mem_cons_of_mem _ h)) ys (fun y h => hys y (List.mem_cons_of_mem _ h)) e2
            exact ⟨by rw [e1, e3], e4⟩
      simp only [toPy, PySem.W.keyToks] at e
      obtain ⟨e1, e2⟩ := key xs (fun x hx => ih x hx) ys hys e
      exact ⟨by rw [e1], e2⟩
theorem leD_anti {x y : D} (hx : Tx x) (hy : Tx y) (h : leD x y = true) (h' : leD y x = true) : x = y := by
  rw [leD_lex, Bool.not_eq_true'] at *
  have := PyProof.Rows.lex_total _ _ h' h
  exact (toks_inj hx (r := []) (r' := []) hy (by rw [this])).1
theorem stD_inj {s t : St2} (h : stD s = stD t) : s = t := by
  obtain ⟨a, w⟩ := s
  obtain ⟨b, v⟩ := t
  simp only [stD, D.tup.injEq, List.cons.injEq, D.str.injEq, and_true] at h
  obtain ⟨rfl, h⟩ := h
  have : ∀ {w v : List Str}, w.map D.str = v.map D.str → w = v := fun {w v} e => by
    have := congrArg (List.map fun d : D => match d with | .str z => z | _ => default) e
    simpa [List.map_map, Function.comp_def] using this
  rw [this h]
def leT2 (a b : St2) : Bool := leD (stD a) (stD b)
theorem leT2_trans (a b c : St2) (h : leT2 a b = true) (h' : leT2 b c = true) : leT2 a c = true := leD_trans h h'
theorem leT2_total (a b : St2) : (leT2 a b || leT2 b a) = true := leD_total _ _
theorem leT2_anti {a b : St2} (h : leT2 a b = true) (h' : leT2 b a = true) : a = b := stD_inj (leD_anti (tx_st a) (tx_st b) h h')
theorem alikeAll_strs : ∀ ws vs : List Str, PySem.W.alikeAll (toPys (ws.map D.str)) (toPys (vs.map D.str)) = true
  | [], vs => by cases vs <;> rfl
  | w :: ws, [] => rfl
  | w :: ws, v :: vs => by simp only [List.map_cons, toPys, toPy, PySem.W.alikeAll, PySem.W.alike, Bool.true_and]; exact alikeAll_strs ws vs
theorem alike_st (s t : St2) : PySem.W.alike (toPy (stD s)) (toPy (stD t)) = true := by
  simp only [stD, toPy, toPys, PySem.W.alike, PySem.W.alikeAll, Bool.true_and, Bool.and_true]
  exact alikeAll_strs _ _
theorem pure_st (s : St2) : pureD (stD s) = true := by simp [stD, pureD, pureDs, pureDs_str]
theorem depD_st (s : St2) : depD (stD s) ≤ 4 := by
  have := depDs_str s.2
  simp only [stD, depD, depDs]
  omega
theorem risS_iff {l : List Str} : RisS l ↔ risB leS l = true := ⟨risS_of, fun h => by rw [rise_fix.mpr h]; exact rise_ris l⟩
end DM
namespace DM
open PySem L2
section
variable {E E2 : List Ed} {F F2 xs ys : List Str} {z m : Str}
noncomputable def slS (E : List Ed) (xs : List Str) : List Str := rise ((xs ++ E.map (·.2.2)).filter fun z => @decide (Slips E (· ∈ xs) z) (Classical.propDecidable _))
noncomputable def onS (E : List Ed) (xs : List Str) (m : Str) : List Str := rise ((E.map (·.2.2)).filter fun z => @decide (Slips E (stepP E m (· ∈ xs)) z) (Classical.propDecidable _))
theorem slS_mem : z ∈ slS E xs ↔ Slips E (· ∈ xs) z := by
  unfold slS
  rw [rise_mem, List.mem_filter]
  refine ⟨fun h => @of_decide_eq_true _ (Classical.propDecidable _) h.2, fun h => ⟨?_, @decide_eq_true _ (Classical.propDecidable _) h⟩⟩
  rcases h.from with g | ⟨e, he, rfl⟩
  · exact List.mem_append_left _ g
  · exact List.mem_append_right _ (List.mem_map.mpr ⟨e, he, rfl⟩)
theorem onS_mem : z ∈ onS E xs m ↔ Slips E (stepP E m (· ∈ xs)) z := by
  unfold onS
  rw [rise_mem, List.mem_filter]
  refine ⟨fun h => @of_decide_eq_true _ (Classical.propDecidable _) h.2, fun h => ⟨?_, @decide_eq_true _ (Classical.propDecidable _) h⟩⟩
  rcases h.from with ⟨x, _, g⟩ | ⟨e, he, rfl⟩
  · exact List.mem_map.mpr ⟨_, g, rfl⟩
  · exact List.mem_map.mpr ⟨e, he, rfl⟩
theorem slS_ris : RisS (slS E xs) := rise_ris _
theorem onS_ris : RisS (onS E xs m) := rise_ris _
theorem slS_is {zs : List Str} (h : RisS zs) (hm : ∀ z, z ∈ zs ↔ Slips E (· ∈ xs) z) : zs = slS E xs := ris_eq h slS_ris fun z => (hm z).trans slS_mem.symm
theorem onS_is {zs : List Str} (h : RisS zs) (hm : ∀ z, z ∈ zs ↔ Slips E (stepP E m (· ∈ xs)) z) : zs = onS E xs m := ris_eq h onS_ris fun z => (hm z).trans onS_mem.symm
theorem onS_congr (h : ∀ z, z ∈ xs ↔ z ∈ ys) : onS E xs m = onS E ys m := onS_is onS_ris fun z => onS_mem.trans (Slips.congr (fun x => ⟨fun ⟨y, h1, h2⟩ => ⟨y, (h y).mp h1, h2⟩, fun ⟨y, h1, h2⟩ => ⟨y, (h y).mpr h1, h2⟩⟩) z)
theorem onS_from (h : z ∈ onS E xs m) : ∃ e ∈ E, e.2.2 = z := by
  rcases (onS_mem.mp h).from with ⟨x, _, g⟩ | g
  · exact ⟨_, g, rfl⟩
  · exact g
theorem slS_from (h : z ∈ slS E xs) : z ∈ xs ∨ ∃ e ∈ E, e.2.2 = z := (slS_mem.mp h).from
def WdM (z : Str) : Prop := NameS z ∨ figB z = true
theorem stateD_iff : stateD (.str z) = true ↔ WdM z := by
  unfold stateD WdM
  rw [Bool.or_eq_true, show figD (.str z) = figB z from rfl, show nameD (.str z) = nameB z from rfl, nameB_iff, or_comm]
theorem figB_all (h : figB z = true) : cps z ≠ [] ∧ ∀ c ∈ cps z, 48 ≤ c ∧ c ≤ 57 := by
  unfold figB at h
  simp only [Bool.and_eq_true, Bool.not_eq_true', decide_eq_false_iff_not, List.all_eq_true] at h
  refine ⟨fun e => h.1 (cps_inj (e.trans (by rfl))), fun c hc => ?_⟩
  have := h.2.1 c hc
  rw [inStr_sign] at this
  have h2 : c ∈ ("0123456789" : Str).cps.toList := of_decide_eq_true this
  exact (by decide +kernel : ∀ c ∈ ("0123456789" : Str).cps.toList, 48 ≤ c ∧ c ≤ 57) c h2
theorem WdM.no32 (h : WdM z) : 32 ∉ cps z := h.elim (fun g => g.no32) fun g hc => by have := (figB_all g).2 _ hc; omega
theorem WdM.ne (h : WdM z) : cps z ≠ [] := h.elim (fun ⟨⟨c, r, e, _⟩, _⟩ => by rw [e]; simp) fun g => (figB_all g).1
theorem figB_dig (h : figB z = true) : digB z = true := by
  obtain ⟨h1, h2⟩ := figB_all h
  unfold digB sgn0
  rw [inStr_sign]
  have hc : (cps z).headD 0 ∈ cps z := by
    cases e : cps z with
    | nil => exact absurd e h1
    | cons c r => simp
  have := h2 _ hc
  have key : ∀ c, 48 ≤ c ∧ c ≤ 57 → c ∈ ("0123456789" : Str).cps.toList := fun c hc => by
    have : c = 48 ∨ c = 49 ∨ c = 50 ∨ c = 51 ∨ c = 52 ∨ c = 53 ∨ c = 54 ∨ c = 55 ∨ c = 56 ∨ c = 57 := by omega
    rcases this with rfl | rfl | rfl | rfl | rfl | rfl | rfl | rfl | rfl | rfl <;> decide +kernel
  exact decide_eq_true (key _ this)
theorem WdM.fig (h : WdM z) : figB z = digB z := by
  rcases h with g | g
  · rw [name_dig g]
    cases e : figB z with
    | false => rfl
    | true => have := figB_dig e; rw [name_dig g] at this; cases this
  · rw [g, figB_dig g]
theorem join_inj {ws vs : List Str} (h1 : ws ≠ []) (h2 : vs ≠ []) (h3 : ∀ w ∈ ws, 32 ∉ cps w) (h4 : ∀ w ∈ vs, 32 ∉ cps w) (e : Txt.join (" " : Str) ws = Txt.join (" " : Str) vs) : ws = vs := by
  rw [← split_sp h1 h3, e, split_sp h2 h4]
structure WdsM (E : List Ed) (F : List Str) : Prop where
  ed : ∀ e ∈ E, WdM e.1 ∧ (NameS e.2.1 ∨ e.2.1 = ("" : Str)) ∧ WdM e.2.2
  en : ∀ s ∈ F, WdM s
theorem machB_wds (h : machB E F = true) : WdsM E F := by
  simp only [machB, Bool.and_eq_true, List.all_eq_true] at h
  refine ⟨fun e he => ?_, fun s hs => stateD_iff.mp (h.2.1 s hs)⟩
  have := h.1 e he
  simp only [edD, edgeD, Bool.and_eq_true, stateD_iff, Bool.or_eq_true] at this
  refine ⟨this.1, this.2.2.imp (fun g => nameB_iff.mp g) fun g => ?_, this.2.1⟩
  have g : eqvD (.str e.2.1) (.str "") = true := g
  simpa [eqvD] using g
theorem WdsM.st (h : WdsM E F) (k : stsOf E F z) : WdM z := by
  rcases k with ⟨e, he, rfl | rfl⟩ | k
  · exact (h.ed e he).1
  · exact (h.ed e he).2.2
  · exact h.en z k
def nmR (r : St2) : Str := Txt.join (" " : Str) (r.1 :: r.2)
theorem nmR_inj {r q : St2} (h1 : ∀ w ∈ r.1 :: r.2, 32 ∉ cps w) (h2 : ∀ w ∈ q.1 :: q.2, 32 ∉ cps w) (e : nmR r = nmR q) : r = q := by
  have := join_inj (by simp) (by simp) h1 h2 e
  obtain ⟨a, b⟩ := r
  obtain ⟨c, d⟩ := q
  simp only [List.cons.injEq] at this
  obtain ⟨rfl, rfl⟩ := this
  rfl
end
end DM
namespace DM
open PySem L2
def subL {α : Type} : List α → List (List α)
  | [] => [[]]
  | a :: l => subL l ++ (subL l).map (a :: ·)
theorem subL_len {α : Type} : ∀ l : List α, (subL l).length = 2 ^ l.length
  | [] => rfl
  | a :: l => by rw [subL, List.length_append, List.length_map, subL_len l, List.length_cons, Nat.pow_succ]; omega
theorem subL_mem {α : Type} {xs l : List α} (h : xs.Sublist l) : xs ∈ subL l := by
  induction h with
  | slnil => simp [subL]
  | cons a _ ih => exact List.mem_append_left _ ih
  | cons_cons a _ ih => exact List.mem_append_right _ (List.mem_map.mpr ⟨_, ih, rfl⟩)
theorem ris_sub : ∀ {l xs : List Str}, RisS xs → RisS l → (∀ x ∈ xs, x ∈ l) → xs.Sublist l
  | [], xs, _, _, h => by
    cases xs with
    | nil => exact .slnil
    | cons x xs => exact absurd (h x List.mem_cons_self) List.not_mem_nil
  | a :: l, xs, hx, hl, h => by
    obtain ⟨h1, h2⟩ := List.pairwise_cons.mp hl
    by_cases ha : a ∈ xs
    · cases xs with
      | nil => cases ha
      | cons x xs =>
        obtain ⟨h3, h4⟩ := List.pairwise_cons.mp hx
        have e : x = a := by
          rcases List.mem_cons.mp ha with e | ha
          · exact e.symm
          · rcases List.mem_cons.mp (h x List.mem_cons_self) with e | hx2
            · exact e
            · exact leS_anti (h3 a ha).1 (h1 x hx2).1
        subst e
        refine .cons_cons _ (ris_sub h4 h2 fun y hy => ?_)
        rcases List.mem_cons.mp (h y (List.mem_cons_of_mem _ hy)) with e | g
        · subst e; exact absurd rfl (h3 _ hy).2
        · exact g
    · exact .cons _ (ris_sub hx h2 fun y hy => (List.mem_cons.mp (h y hy)).elim (fun e => absurd (e ▸ hy) ha) id)
structure GdM (n : Nat) (S : List Str) (E : List Ed) (F : List Str) : Prop where
  mb : machB E F = true
  el : E.length ≤ n
  st : ∀ z, stsOf E F z → z ∈ S
  sa : ∀ z ∈ S, AscS 8 z
  ma : ∀ e ∈ E, AscS 8 e.2.1
theorem machB_ris {E : List Ed} {F : List Str} (h : machB E F = true) : RisS F := by
  simp only [machB, Bool.and_eq_true] at h
  exact risS_iff.mpr h.2.2.2
theorem GdM.fl {n : Nat} {S : List Str} {E : List Ed} {F : List Str} (h : GdM n S E F) : F.length ≤ S.length := sub_len (ris_nodup (machB_ris h.mb)) fun s hs => h.st s (.inr hs)
theorem GdM.mono {n n' : Nat} {S S' : List Str} {E : List Ed} {F : List Str} (h : GdM n S E F) (hn : n ≤ n') (hs : ∀ z ∈ S, z ∈ S') (ha : ∀ z ∈ S', AscS 8 z) : GdM n' S' E F := ⟨h.mb, Nat.le_trans h.el hn, fun z hz => hs z (h.st z hz), ha, h.ma⟩
def RowsIn (S S2 : List Str) (r : St2) : Prop := r.1 ∈ S ∧ RisS r.2 ∧ ∀ y ∈ r.2, y ∈ S2
def rowsU (S S2 : List Str) : List St2 := S.flatMap fun s => (subL (rise S2)).map fun ys => (s, ys)
theorem rowsU_len {S S2 : List Str} : (rowsU S S2).length ≤ S.length * 2 ^ S2.length := by
  have h : ∀ l : List Str, (l.flatMap fun s => (subL (rise S2)).map fun ys => (s, ys)).length = l.length * 2 ^ (rise S2).length := by
    intro l
    induction l with
    | nil => simp
    | cons a l ih => rw [List.flatMap_cons, List.length_append, ih, List.length_map, subL_len, List.length_cons, Nat.succ_mul]; omega
  unfold rowsU
  rw [h]
  exact Nat.mul_le_mul_left _ (Nat.pow_le_pow_right (by decide) (rise_len _))
theorem rowsU_mem {S S2 : List Str} {r : St2} (h : RowsIn S S2 r) : r ∈ rowsU S S2 :=
  List.mem_flatMap.mpr ⟨r.1, h.1, List.mem_map.mpr ⟨r.2, subL_mem (ris_sub h.2.1 (rise_ris _) fun x hx => rise_mem.mpr (h.2.2 x hx)), rfl⟩⟩
end DM
namespace DM
open PySem L2
section
variable {M0 M M' : Mm} {Reader a l q : Addr} {E : List Ed} {s : Str} {o o' : MO} {L : List (Addr × MO)}
theorem Px.base (b : Px M0 L M) (hq : M0 q ≠ none) : Px (mup M0 q o) L (mup M q o) := by
  have ne : ∀ y ∈ L, y.1 ≠ q := fun y hy e => hq (e ▸ (b.lo y hy).2)
  refine ⟨fun x v hx => ?_, fun y hy => ⟨?_, ?_⟩, b.nd⟩
  · by_cases e : x = q
    · subst e; rw [mup_same] at hx ⊢; exact hx
    · rw [mup_ne e] at hx ⊢; exact b.ex x v hx
  · rw [mup_ne (ne y hy)]; exact (b.lo y hy).1
  · rw [mup_ne (ne y hy)]; exact (b.lo y hy).2
end
def sumL (ws : List Str) : Nat := (ws.map (·.length)).sum
theorem sumL_le {k : Nat} {ws : List Str} (h : ∀ w ∈ ws, w.length ≤ k) : sumL ws ≤ k * ws.length := sumS_le h
theorem join_sum {M : Mm} {Q : DQ} {xs : List D} {ws : List Str} (e : xs = ws.map .str) (h : sumL ws + ws.length ≤ 16000000) (k : Q (.str (Txt.join (" " : Str) ws)) M) : joinQ (" " : Str) xs M Q := by
  subst e
  have e : ws.map (fun x => x) = ws := by simp
  refine joinQ_map (fun x => x) (by rw [e, show (" " : Str).length = 1 from rfl]; unfold sumL at h; omega) (by rw [e]; exact k)
def SzR (r : St2) : Prop := r.1.length ≤ 500000 ∧ sumL r.2 ≤ 5000000 ∧ r.2.length ≤ 3000
theorem SzR.sum {r : St2} (h : SzR r) : sumL (r.1 :: r.2) + (r.1 :: r.2).length ≤ 16000000 := by
  obtain ⟨h1, h2, h3⟩ := h
  unfold sumL at *
  simp only [List.map_cons, List.sum_cons, List.length_cons]
  omega
theorem szR_of {s : Str} {ys : List Str} (h1 : s.length ≤ 1000) (h2 : ∀ y ∈ ys, y.length ≤ 1000) (h3 : ys.length ≤ 2900) : SzR (s, ys) := by
  have := sumL_le (k := 1000) h2
  exact ⟨by show s.length ≤ _; omega, by show sumL ys ≤ _; omega, by show ys.length ≤ _; omega⟩
theorem slS_len {E : List Ed} {xs : List Str} : (slS E xs).length ≤ xs.length + E.length := by
  have := sub_len (l := slS E xs) (m := xs ++ E.map (·.2.2)) (ris_nodup slS_ris) fun z hz => by
    rcases slS_from hz with h | ⟨e, he, rfl⟩
    · exact List.mem_append_left _ h
    · exact List.mem_append_right _ (List.mem_map.mpr ⟨e, he, rfl⟩)
  simpa using this
end DM
namespace DM
open PySem L2
open PyProof.Rows (b2i)
class TKey (α : Type) where
  k : α → List Key
  inj : ∀ {a b}, k a = k b → a = b
  ne : ∀ a, k a ≠ []
def rwK (r : St2) : List Key := (r.1 :: r.2).map Sum.inr
theorem map_inr_inj : ∀ {a b : List Str}, a.map (Sum.inr : Str → Key) = b.map Sum.inr → a = b
  | [], [], _ => rfl
  | [], _ :: _, e => by cases e
  | _ :: _, [], e => by cases e
  | x :: a, y :: b, e => by
    simp only [List.map_cons, List.cons.injEq, Sum.inr.injEq] at e
    rw [e.1, map_inr_inj e.2]
instance : TKey St2 where
  k := rwK
  inj := fun {a b} h => by
    have := map_inr_inj h
    obtain ⟨a1, a2⟩ := a
    obtain ⟨b1, b2⟩ := b
    simp only [List.cons.injEq] at this
    rw [this.1, this.2]
  ne := fun a => by simp [rwK]
end DM
namespace DM
open PySem L2
theorem eqvAll_strs : ∀ ws vs : List Str, PyData.eqvAll (toPys (ws.map D.str)) (toPys (vs.map D.str)) = decide (ws = vs)
  | [], [] => by simp [toPys, PyData.eqvAll]
  | [], _ :: _ => by simp [toPys, PyData.eqvAll]
  | _ :: _, [] => by simp [toPys, PyData.eqvAll]
  | w :: ws, v :: vs => by
    simp only [List.map_cons, toPys, toPy, PyData.eqvAll, PyData.eqv, eqvAll_strs ws vs]
    rw [Bool.eq_iff_iff]
    simp
theorem eqv_st (s t : St2) : PyData.eqv (toPy (stD s)) (toPy (stD t)) = decide (s = t) := by
  obtain ⟨a, w⟩ := s
  obtain ⟨b, v⟩ := t
  simp only [stD, toPy, toPys, PyData.eqv, PyData.eqvAll, eqvAll_strs]
  rw [Bool.eq_iff_iff]
  simp
def leW (w v : List Str) : Bool := leD (.tup (w.map .str)) (.tup (v.map .str))
theorem leW_toks (w v : List Str) : leW w v = !PyProof.Rows.lexLt PyProof.Rows.itemOrd (PySem.W.keyToksAll (toPys (v.map .str))) (PySem.W.keyToksAll (toPys (w.map .str))) := rfl
theorem leW_refl (w : List Str) : leW w w = true := leD_refl _
theorem leW_cons (a b : Str) (w v : List Str) : leW (a :: w) (b :: v) = if a = b then leW w v else leS a b := by
  rw [leW_toks, leW_toks]
  simp only [List.map_cons, toPys, toPy]
  rw [PySem.W.dataLt_cons (by simp [PySem.W.alike])]
  by_cases h : a = b
  · subst h
    rw [if_pos (by simp [PyData.eqv]), if_pos rfl]
  · rw [if_neg (by simp [PyData.eqv]; exact fun e => h e.symm), if_neg h]
    exact (leD_str a b)
theorem leW_app : ∀ {w v : List Str} (u : List Str), w.length = v.length → leW w v = true → leW (w ++ u) (v ++ u) = true
  | [], [], u, _, _ => leW_refl u
  | [], _ :: _, _, h, _ => by simp at h
  | _ :: _, [], _, h, _ => by simp at h
  | a :: w, b :: v, u, h, k => by
    rw [leW_cons] at k
    rw [List.cons_append, List.cons_append, leW_cons]
    by_cases e : a = b
    · rw [if_pos e] at k ⊢
      exact leW_app u (by simpa using h) k
    · rw [if_neg e] at k ⊢
      exact k
theorem leT2_eq (s t : St2) : leT2 s t = if s.1 = t.1 then leW s.2 t.2 else leS s.1 t.1 := by
  unfold leT2
  rw [leD_lex]
  simp only [stD, toPy, toPys, PySem.W.keyToks]
  rw [PySem.W.dataLt_cons (by simp [PySem.W.alike])]
  by_cases h : s.1 = t.1
  · rw [if_pos (by simp [PyData.eqv, h]), if_pos h]
    rw [PySem.W.dataLt_cons (by simp only [PySem.W.alike]; exact alikeAll_strs _ _)]
    have e0 : PyProof.Rows.lexLt PyProof.Rows.itemOrd (PySem.W.keyToksAll []) (PySem.W.keyToksAll []) = false := PyProof.Rows.lex_irrefl _
    simp only [PyData.eqv, eqvAll_strs, e0]
    by_cases h2 : t.2 = s.2
    · rw [if_pos (by simpa using h2), ← h2, leW_refl]; rfl
    · rw [if_neg (by simpa using h2)]; rfl
  · rw [if_neg (by simp [PyData.eqv]; exact fun e => h e.symm), if_neg h]
    exact leD_str _ _
theorem leT2_app {s t : St2} (u : List Str) (hl : s.2.length = t.2.length) (h : leT2 s t = true) : leT2 (s.1, s.2 ++ u) (t.1, t.2 ++ u) = true := by
  rw [leT2_eq] at h ⊢
  by_cases e : s.1 = t.1
  · rw [if_pos e] at h
    rw [if_pos e]
    exact leW_app u hl h
  · rw [if_neg e] at h
    rw [if_neg e]
    exact h
theorem le_first {s t : St2} {xs ys : List D} (h : leD (.tup (stD s :: xs)) (.tup (stD t :: ys)) = true) : leT2 s t = true := by
  rw [leD_lex] at h
  simp only [toPy, toPys, PySem.W.keyToks] at h
  rw [PySem.W.dataLt_cons (alike_st t s)] at h
  by_cases e : t = s
  · subst e; exact leD_refl _
  · rw [if_neg (by rw [eqv_st]; simpa using e)] at h
    exact h
theorem le_first4 {s t : St2} {xs ys : List D} (h : leD (.tup (.str s.1 :: .tup (s.2.map .str) :: xs)) (.tup (.str t.1 :: .tup (t.2.map .str) :: ys)) = true) : leT2 s t = true := by
  rw [leD_lex] at h
  simp only [toPy, toPys, PySem.W.keyToks] at h
  rw [PySem.W.dataLt_cons (by simp [PySem.W.alike])] at h
  rw [leT2_eq]
  by_cases e : t.1 = s.1
  · rw [if_pos (by simp [PyData.eqv, e]), PySem.W.dataLt_cons (by simp only [PySem.W.alike]; exact alikeAll_strs _ _)] at h
    rw [if_pos e.symm]
    by_cases e2 : t.2 = s.2
    · rw [e2]; exact leW_refl _
    · rw [if_neg (by simp only [PyData.eqv, eqvAll_strs]; simpa using e2)] at h
      exact h
  · rw [if_neg (by simp [PyData.eqv, e])] at h
    rw [if_neg fun h' => e h'.symm]
    exact (leD_str _ _).symm.trans h
section
variable {Miss : St2 → Prop}
def LeastS (Miss : St2 → Prop) (s : St2) : Prop := Miss s ∧ ∀ t, Miss t → s.2.length < t.2.length ∨ (s.2.length = t.2.length ∧ leT2 s t = true)
theorem LeastS.uniq {s t : St2} (h : LeastS Miss s) (k : LeastS Miss t) : s = t := by
  rcases h.2 t k.1 with h1 | ⟨_, h1⟩
  · rcases k.2 s h.1 with h2 | ⟨h2, _⟩ <;> omega
  · rcases k.2 s h.1 with h2 | ⟨_, h2⟩
    · omega
    · exact leT2_anti h1 h2
theorem min_ex {P : Nat → Prop} (n : Nat) : P n → ∃ m, P m ∧ ∀ k, k < m → ¬ P k := by
  induction n using Nat.strongRecOn with
  | ind n ih =>
    intro h
    by_cases c : ∃ k, k < n ∧ P k
    · obtain ⟨k, hk, hp⟩ := c
      exact ih k hk hp
    · exact ⟨n, h, fun k hk hp => c ⟨k, hk, hp⟩⟩
def wordsN (ms : List Str) : Nat → List (List Str)
  | 0 => [[]]
  | n + 1 => ms.flatMap fun m => (wordsN ms n).map (m :: ·)
theorem wordsN_mem {ms : List Str} : ∀ {w : List Str}, (∀ m ∈ w, m ∈ ms) → w ∈ wordsN ms w.length
  | [], _ => by simp [wordsN]
  | m :: w, h => List.mem_flatMap.mpr ⟨m, h m (by simp), List.mem_map.mpr ⟨w, wordsN_mem fun x hx => h x (by simp [hx]), rfl⟩⟩
theorem wordsN_len {ms : List Str} : ∀ {n : Nat} {w : List Str}, w ∈ wordsN ms n → w.length = n
  | 0, w, h => by simp [wordsN] at h; rw [h]; rfl
  | n + 1, w, h => by
    obtain ⟨m, _, h⟩ := List.mem_flatMap.mp h
    obtain ⟨v, hv, rfl⟩ := List.mem_map.mp h
    rw [List.length_cons, wordsN_len hv]
theorem least_ex {ps ms : List Str} (h1 : ∀ s, Miss s → s.1 ∈ ps ∧ ∀ m ∈ s.2, m ∈ ms) {s0 : St2} (h : Miss s0) : ∃ s, LeastS Miss s := by
  classical
  obtain ⟨n, ⟨s1, m1, l1⟩, hmin⟩ := min_ex (P := fun n => ∃ s, Miss s ∧ s.2.length = n) _ ⟨s0, h, rfl⟩
  let L : List St2 := (ps.flatMap fun p => (wordsN ms n).map fun w => (p, w)).filter fun s => decide (Miss s)
  have hL : ∀ s, s ∈ L ↔ Miss s ∧ s.2.length = n := fun s => by
    simp only [L, List.mem_filter, List.mem_flatMap, List.mem_map, decide_eq_true_eq]
    constructor
    · rintro ⟨⟨p, _, w, hw, rfl⟩, hm⟩
      exact ⟨hm, wordsN_len hw⟩
    · rintro ⟨hm, hl⟩
      obtain ⟨g1, g2⟩ := h1 s hm
      exact ⟨⟨s.1, g1, s.2, hl ▸ wordsN_mem g2, rfl⟩, hm⟩
  have hs := List.pairwise_mergeSort (fun a b c => leT2_trans a b c) (fun a b => leT2_total a b) L
  have hmem : ∀ s, s ∈ L.mergeSort leT2 ↔ Miss s ∧ s.2.length = n := fun s => (List.mergeSort_perm L leT2).mem_iff.trans (hL s)
  cases e : L.mergeSort leT2 with
  | nil =>
    have := (hmem s1).mpr ⟨m1, l1⟩
    rw [e] at this; cases this
  | cons s rest =>
    rw [e] at hs hmem
    obtain ⟨hs1, _⟩ := List.pairwise_cons.mp hs
    obtain ⟨g1, g2⟩ := (hmem s).mp (by simp)
    refine ⟨s, g1, fun t ht => ?_⟩
    rcases Nat.lt_trichotomy s.2.length t.2.length with c | c | c
    · exact .inl c
    · refine .inr ⟨c, ?_⟩
      rcases List.mem_cons.mp ((hmem t).mpr ⟨ht, by omega⟩) with rfl | ht2
      · exact leD_refl _
      · exact hs1 t ht2
    · exact absurd ⟨t, ht, rfl⟩ (hmin _ (by omega))
end
structure Srch (κ : Type) (Miss : St2 → Prop) where
  Item : St2 → κ → Prop
  Acc : κ → List Str → Prop
  miss : ∀ {s k v}, Item s k → Acc k v → Miss (s.1, s.2 ++ v)
  ps : List Str
  ms : List Str
  fin : ∀ s, Miss s → s.1 ∈ ps ∧ ∀ m ∈ s.2, m ∈ ms
structure LvI {κ : Type} {Miss : St2 → Prop} (S : Srch κ Miss) (n : Nat) (row : List (St2 × κ)) (met : List κ) : Prop where
  it : ∀ x ∈ row, S.Item x.1 x.2 ∧ x.1.2.length = n
  no : ∀ s, Miss s → n ≤ s.2.length
  cp : ∀ s, LeastS Miss s → ∃ u v k, s.2 = u ++ v ∧ u.length = n ∧ ((s.1, u), k) ∈ row ∧ S.Acc k v
  mt : ∀ k ∈ met, ∃ s, S.Item s k ∧ s.2.length < n
structure FrI {κ : Type} (row : List (St2 × κ)) (met : List κ) (fresh : List (St2 × κ)) : Prop where
  sub : ∀ y ∈ fresh, y ∈ row
  al : ∀ x ∈ row, x.2 ∈ met ∨ ∃ y ∈ fresh, y.2 = x.2 ∧ leT2 y.1 x.1 = true
  pw : fresh.Pairwise fun a b => leT2 a.1 b.1 = true
section
variable {κ : Type} {Miss : St2 → Prop} {S : Srch κ Miss} {n : Nat} {row fr : List (St2 × κ)} {met : List κ}
theorem LvI.fresh (h : LvI S n row met) (f : FrI row met fr) {s : St2} (hs : LeastS Miss s) : ∃ u v k, s.2 = u ++ v ∧ u.length = n ∧ ((s.1, u), k) ∈ fr ∧ S.Acc k v := by
  obtain ⟨u, v, k, e, hu, hx, ha⟩ := h.cp s hs
  have el := congrArg List.length e
  rw [List.length_append, hu] at el
  rcases f.al _ hx with hm | ⟨y, hy, ek, hle⟩
  · obtain ⟨s', h1, h2⟩ := h.mt _ hm
    have h3 := S.miss h1 ha
    rcases hs.2 _ h3 with h4 | ⟨h4, _⟩ <;> (simp only [List.length_append] at h4; omega)
  · obtain ⟨h1, h2⟩ := h.it y (f.sub y hy)
    have ek : y.2 = k := ek
    have h3 := S.miss h1 (ek ▸ ha)
    have h4 := leT2_app (s := y.1) (t := (s.1, u)) v (by rw [h2]; exact hu.symm) hle
    rcases hs.2 _ h3 with h5 | ⟨_, h5⟩
    · simp only [List.length_append] at h5; omega
    · rw [show ((s.1, u).1, (s.1, u).2 ++ v) = s from Prod.ext rfl e.symm] at h4
      have h6 := leT2_anti h5 h4
      have h7 : y.1 = (s.1, u) := by
        rw [h6] at e ⊢
        refine Prod.ext rfl ?_
        exact List.append_cancel_right e
      refine ⟨u, v, k, e, hu, ?_, ha⟩
      rw [← h7, ← ek]; exact hy
theorem LvI.found (h : LvI S n row met) (f : FrI row met fr) {i : Nat} {y : St2 × κ} (hy : fr[i]? = some y) (hp : S.Acc y.2 []) (hn : ∀ x ∈ fr.take i, ¬ S.Acc x.2 []) : LeastS Miss y.1 := by
  obtain ⟨h1, h2⟩ := h.it y (f.sub y (List.mem_of_getElem? hy))
  have hm : Miss y.1 := by
    have := S.miss h1 hp
    rwa [List.append_nil] at this
  obtain ⟨s, hs⟩ := least_ex S.fin hm
  obtain ⟨u, v, k, e, hu, hx, ha⟩ := h.fresh f hs
  have el := congrArg List.length e
  rw [List.length_append, hu] at el
  have hv : v = [] := by
    rcases hs.2 _ hm with h3 | ⟨h3, _⟩ <;> exact List.eq_nil_of_length_eq_zero (by omega)
  subst hv
  rw [List.append_nil] at e
  have hx : (s, k) ∈ fr := by rw [show (s, k) = ((s.1, u), k) by rw [← e]]; exact hx
  obtain ⟨j, hj⟩ := List.mem_iff_getElem?.mp hx
  have hij : i ≤ j := by
    by_cases c : i ≤ j
    · exact c
    · exfalso
      refine hn (s, k) (List.mem_iff_getElem?.mpr ⟨j, ?_⟩) ha
      rw [List.getElem?_take, if_pos (by omega)]
      exact hj
  have hle : leT2 y.1 s = true := by
    rcases Nat.lt_or_eq_of_le hij with c | c
    · have hpw := f.pw
      rw [List.pairwise_iff_getElem] at hpw
      obtain ⟨a1, a2⟩ := List.getElem?_eq_some_iff.mp hy
      obtain ⟨b1, b2⟩ := List.getElem?_eq_some_iff.mp hj
      have := hpw i j a1 b1 c
      rw [a2, b2] at this
      exact this
    · subst c
      rw [hy] at hj
      cases hj
      exact leD_refl _
  rcases hs.2 _ hm with h3 | ⟨_, h3⟩
  · rw [e] at h3; omega
  · have e2 := leT2_anti h3 hle
    rw [← e2]; exact hs
theorem LvI.next (h : LvI S n row met) (f : FrI row met fr) (hn : ∀ x ∈ fr, ¬ S.Acc x.2 []) {row2 : List (St2 × κ)} {met2 : List κ}
    (it : ∀ x ∈ row2, S.Item x.1 x.2 ∧ x.1.2.length = n + 1)
    (on : ∀ x ∈ fr, ∀ m v, S.Acc x.2 (m :: v) → ∃ k, ((x.1.1, x.1.2 ++ [m]), k) ∈ row2 ∧ S.Acc k v)
    (m2 : ∀ k ∈ met2, k ∈ met ∨ ∃ x ∈ fr, x.2 = k) : LvI S (n + 1) row2 met2 := by
  have no : ∀ s, Miss s → n + 1 ≤ s.2.length := fun t ht => by
    have h1 := h.no t ht
    by_cases c : n + 1 ≤ t.2.length
    · exact c
    · obtain ⟨s, hs⟩ := least_ex S.fin ht
      obtain ⟨u, v, k, e, hu, hx, ha⟩ := h.fresh f hs
      have el := congrArg List.length e
      rw [List.length_append, hu] at el
      have hv : v = [] := by
        rcases hs.2 _ ht with h3 | ⟨h3, _⟩ <;> exact List.eq_nil_of_length_eq_zero (by omega)
      subst hv
      exact absurd ha (hn _ hx)
  refine ⟨it, no, fun s hs => ?_, fun k hk => ?_⟩
  · obtain ⟨u, v, k, e, hu, hx, ha⟩ := h.fresh f hs
    have el := congrArg List.length e
    rw [List.length_append, hu] at el
    have := no s hs.1
    cases v with
    | nil => simp at el; omega
    | cons m v =>
      obtain ⟨k2, h1, h2⟩ := on _ hx m v ha
      exact ⟨u ++ [m], v, k2, by rw [e]; simp, by simp [hu], h1, h2⟩
  · rcases m2 k hk with h1 | ⟨x, hx, rfl⟩
    · obtain ⟨s, h2, h3⟩ := h.mt k h1
      exact ⟨s, h2, by omega⟩
    · obtain ⟨h2, h3⟩ := h.it x (f.sub x hx)
      exact ⟨x.1, h2, by omega⟩
theorem LvI.none (h : LvI S n [] met) (s : St2) : ¬ Miss s := fun hm => by
  obtain ⟨t, ht⟩ := least_ex S.fin hm
  obtain ⟨_, _, _, _, _, hx, _⟩ := h.cp t ht
  cases hx
end
end DM
namespace DM
open PySem L2
section
variable {E E2 : List Ed} {F F2 : List Str}
theorem readP_cong2 {S S' : Str → Prop} (h : ∀ x, S x ↔ S' x) {w : List Str} {z : Str} : readP E S w z ↔ readP E S' w z := by
  rw [show S = S' from funext fun x => propext (h x)]
def AccE (E : List Ed) (F : List Str) : Str → List Str → Prop
  | q, [] => q ∈ F
  | q, m :: v => ∃ y q', (q, m, y) ∈ E ∧ Slips E (· = y) q' ∧ AccE E F q' v
theorem slips_one {S : Str → Prop} {z : Str} (h : Slips E S z) : ∃ x, S x ∧ Slips E (· = x) z := by
  induction h with
  | base h => exact ⟨_, h, .base rfl⟩
  | step _ he ih =>
    obtain ⟨x, h1, h2⟩ := ih
    exact ⟨x, h1, h2.step he⟩
theorem acc_of : ∀ {w : List Str} {S : Str → Prop} {z : Str}, readP E S w z → z ∈ F → ∃ q, S q ∧ AccE E F q w
  | [], S, z, h, hz => ⟨z, h, hz⟩
  | m :: w, S, z, h, hz => by
    obtain ⟨q', h1, h2⟩ := acc_of (S := Slips E (stepP E m S)) (w := w) h hz
    obtain ⟨y, ⟨q, h3, h4⟩, h5⟩ := slips_one h1
    exact ⟨q, h3, y, q', h4, h5, h2⟩
theorem acc_to : ∀ {w : List Str} {S : Str → Prop} {q : Str}, S q → AccE E F q w → ∃ z, readP E S w z ∧ z ∈ F
  | [], S, q, h, ha => ⟨q, h, ha⟩
  | m :: w, S, q, h, ha => by
    obtain ⟨y, q', h1, h2, h3⟩ := ha
    exact acc_to (S := Slips E (stepP E m S)) (h2.mono fun x e => e ▸ ⟨q, h, h1⟩) h3
theorem acc_marks : ∀ {w : List Str} {q : Str}, AccE E F q w → ∀ m ∈ w, ∃ e ∈ E, e.2.1 = m
  | [], q, h, m, hm => by cases hm
  | a :: w, q, h, m, hm => by
    obtain ⟨y, q', h1, h2, h3⟩ := h
    rcases List.mem_cons.mp hm with rfl | hm
    · exact ⟨_, h1, rfl⟩
    · exact acc_marks h3 m hm
theorem slips_from1 {p z : Str} (h : Slips E (· = p) z) : z = p ∨ ∃ e ∈ E, e.1 = p := by
  induction h with
  | base h => exact .inl h
  | step _ he ih =>
    rcases ih with rfl | h
    · exact .inr ⟨_, he, rfl⟩
    · exact .inr h
theorem held_st {s : St2} (h : HoldsM E F s) : stsOf E F s.1 ∧ ∀ m ∈ s.2, ∃ e ∈ E, e.2.1 = m := by
  obtain ⟨z, h1, h2⟩ := h
  obtain ⟨q, h3, h4⟩ := acc_of h1 h2
  refine ⟨?_, acc_marks h4⟩
  rcases slips_from1 h3 with rfl | ⟨e, he, c⟩
  · cases hw : s.2 with
    | nil => rw [hw] at h4; exact .inr h4
    | cons m v =>
      rw [hw] at h4
      obtain ⟨y, q', h5, _⟩ := h4
      exact .inl ⟨_, h5, .inl rfl⟩
  · exact .inl ⟨e, he, .inl c.symm⟩
noncomputable def rdW (E : List Ed) (p : Str) (w : List Str) : List Str := w.foldl (fun xs m => onS E xs m) (slS E [p])
theorem rdW_nil {p : Str} : rdW E p [] = slS E [p] := rfl
theorem rdW_snoc {p m : Str} {w : List Str} : rdW E p (w ++ [m]) = onS E (rdW E p w) m := by
  unfold rdW; rw [List.foldl_append]; rfl
theorem fold_mem : ∀ {w : List Str} {xs : List Str} {z : Str}, z ∈ w.foldl (fun xs m => onS E xs m) xs ↔ readP E (· ∈ xs) w z
  | [], xs, z => Iff.rfl
  | m :: w, xs, z => by
    rw [List.foldl_cons, fold_mem (w := w)]
    exact readP_cong2 fun x => onS_mem
theorem rdW_mem {p z : Str} {w : List Str} : z ∈ rdW E p w ↔ ReadsTo E p w z := by
  unfold rdW
  rw [fold_mem]
  exact readP_cong2 fun x => slS_mem.trans (Slips.congr (fun y => by simp) x)
theorem rdW_read {p z : Str} {w v : List Str} : ReadsTo E p (w ++ v) z ↔ readP E (· ∈ rdW E p w) v z := by
  unfold ReadsTo
  rw [readP_app]
  exact readP_cong2 fun x => rdW_mem.symm
def MissE (E : List Ed) (F : List Str) (E2 : List Ed) (F2 : List Str) (s : St2) : Prop := digB s.1 = false ∧ (∀ m ∈ s.2, m ≠ ("" : Str)) ∧ HoldsM E F s ∧ ¬ HoldsM E2 F2 s
def FirstM (E : List Ed) (F : List Str) (E2 : List Ed) (F2 : List Str) : Option St2 → Prop
  | some s => LeastS (MissE E F E2 F2) s
  | none => ∀ s, ¬ MissE E F E2 F2 s
theorem FirstM.uniq {o o' : Option St2} (h : FirstM E F E2 F2 o) (k : FirstM E F E2 F2 o') : o = o' := by
  cases o with
  | none => cases o' with
    | none => rfl
    | some s => exact absurd k.1 (h s)
  | some s => cases o' with
    | none => exact absurd h.1 (k s)
    | some t => rw [LeastS.uniq h k]
theorem miss_fin {s : St2} (h : MissE E F E2 F2 s) : s.1 ∈ E.map (·.1) ++ E.map (·.2.2) ++ F ∧ ∀ m ∈ s.2, m ∈ E.map (·.2.1) := by
  obtain ⟨h1, h2⟩ := held_st h.2.2.1
  refine ⟨?_, fun m hm => ?_⟩
  · simp only [List.mem_append, List.mem_map]
    rcases h1 with ⟨e, he, c | c⟩ | h1
    · exact .inl (.inl ⟨e, he, c.symm⟩)
    · exact .inl (.inr ⟨e, he, c.symm⟩)
    · exact .inr h1
  · obtain ⟨e, he, c⟩ := h2 m hm
    exact List.mem_map.mpr ⟨e, he, c⟩
noncomputable def srchP (E : List Ed) (F : List Str) (E2 : List Ed) (F2 : List Str) : Srch (Str × List Str) (MissE E F E2 F2) where
  Item := fun s k => digB s.1 = false ∧ (∀ m ∈ s.2, m ≠ ("" : Str)) ∧ ReadsTo E s.1 s.2 k.1 ∧ k.2 = rdW E2 s.1 s.2
  Acc := fun k v => (∀ m ∈ v, m ≠ ("" : Str)) ∧ AccE E F k.1 v ∧ ¬ ∃ z, readP E2 (· ∈ k.2) v z ∧ z ∈ F2
  miss := fun {s k v} h a => by
    obtain ⟨h1, h2, h3, h4⟩ := h
    obtain ⟨a1, a2, a3⟩ := a
    refine ⟨h1, fun m hm => (List.mem_append.mp hm).elim (h2 m) (a1 m), ?_, fun ⟨z, g1, g2⟩ => a3 ⟨z, ?_, g2⟩⟩
    · obtain ⟨z, g1, g2⟩ := acc_to (S := readP E (Slips E (· = s.1)) s.2) h3 a2
      exact ⟨z, by unfold ReadsTo; rw [readP_app]; exact g1, g2⟩
    · rw [h4]; exact rdW_read.mp g1
  ps := E.map (·.1) ++ E.map (·.2.2) ++ F
  ms := E.map (·.2.1)
  fin := fun s h => miss_fin h
noncomputable def srchL (E : List Ed) (F : List Str) (E2 : List Ed) (F2 : List Str) : Srch (List Str × List Str) (MissE E F E2 F2) where
  Item := fun s k => digB s.1 = false ∧ (∀ m ∈ s.2, m ≠ ("" : Str)) ∧ k.1 = rdW E s.1 s.2 ∧ k.2 = rdW E2 s.1 s.2
  Acc := fun k v => (∀ m ∈ v, m ≠ ("" : Str)) ∧ (∃ z, readP E (· ∈ k.1) v z ∧ z ∈ F) ∧ ¬ ∃ z, readP E2 (· ∈ k.2) v z ∧ z ∈ F2
  miss := fun {s k v} h a => by
    obtain ⟨h1, h2, h3, h4⟩ := h
    obtain ⟨a1, ⟨z, a2, a3⟩, a4⟩ := a
    refine ⟨h1, fun m hm => (List.mem_append.mp hm).elim (h2 m) (a1 m), ⟨z, rdW_read.mpr (h3 ▸ a2), a3⟩, fun ⟨z, g1, g2⟩ => a4 ⟨z, ?_, g2⟩⟩
    rw [h4]; exact rdW_read.mp g1
  ps := E.map (·.1) ++ E.map (·.2.2) ++ F
  ms := E.map (·.2.1)
  fin := fun s h => miss_fin h
theorem startP {row : List (St2 × (Str × List Str))} (h : ∀ x, x ∈ row ↔ ∃ p q, stsOf E F p ∧ digB p = false ∧ Slips E (· = p) q ∧ x = ((p, []), (q, slS E2 [p]))) : LvI (srchP E F E2 F2) 0 row [] := by
  refine ⟨fun x hx => ?_, fun s _ => Nat.zero_le _, fun s hs => ?_, fun k hk => by cases hk⟩
  · obtain ⟨p, q, h1, h2, h3, rfl⟩ := (h x).mp hx
    exact ⟨⟨h2, by simp, h3, rdW_nil.symm⟩, rfl⟩
  · obtain ⟨⟨h1, h2, h3, h4⟩, _⟩ := hs
    have hst := (held_st h3).1
    obtain ⟨z, g1, g2⟩ := h3
    obtain ⟨q, g3, g4⟩ := acc_of g1 g2
    refine ⟨[], s.2, (q, slS E2 [s.1]), rfl, rfl, (h _).mpr ⟨s.1, q, hst, h1, g3, rfl⟩, h2, g4, fun ⟨z, k1, k2⟩ => h4 ⟨z, ?_, k2⟩⟩
    have := (rdW_read (E := E2) (p := s.1) (w := []) (v := s.2) (z := z)).mpr k1
    exact this
theorem nextP {n : Nat} {row fr row2 : List (St2 × (Str × List Str))} {met met2 : List (Str × List Str)} (h : LvI (srchP E F E2 F2) n row met) (f : FrI row met fr) (hn : ∀ x ∈ fr, ¬ (srchP E F E2 F2).Acc x.2 [])
    (hr : ∀ y, y ∈ row2 ↔ ∃ x ∈ fr, ∃ m t q, m ≠ ("" : Str) ∧ (x.2.1, m, t) ∈ E ∧ Slips E (· = t) q ∧ y = ((x.1.1, x.1.2 ++ [m]), (q, onS E2 x.2.2 m))) (m2 : ∀ k ∈ met2, k ∈ met ∨ ∃ x ∈ fr, x.2 = k) : LvI (srchP E F E2 F2) (n + 1) row2 met2 := by
  refine h.next f hn (fun y hy => ?_) (fun x hx m v ha => ?_) m2
  · obtain ⟨x, hx, m, t, q, hm, he, hq, rfl⟩ := (hr y).mp hy
    obtain ⟨⟨h1, h2, h3, h4⟩, h5⟩ := h.it x (f.sub x hx)
    refine ⟨⟨h1, fun m' hm' => (List.mem_append.mp hm').elim (h2 m') fun e => by rw [List.mem_singleton.mp e]; exact hm, ?_, ?_⟩, by rw [List.length_append, h5]; rfl⟩
    · unfold ReadsTo
      rw [readP_app]
      exact hq.mono fun y e => e ▸ ⟨_, h3, he⟩
    · show onS E2 x.2.2 m = _
      rw [rdW_snoc, h4]
  · obtain ⟨a1, ⟨t, q, a2, a3, a4⟩, a5⟩ := ha
    refine ⟨(q, onS E2 x.2.2 m), (hr _).mpr ⟨x, hx, m, t, q, a1 m (by simp), a2, a3, rfl⟩, fun m' hm' => a1 m' (by simp [hm']), a4, fun ⟨z, k1, k2⟩ => a5 ⟨z, ?_, k2⟩⟩
    show readP E2 (Slips E2 (stepP E2 m (· ∈ x.2.2))) v z
    exact (readP_cong2 fun y => onS_mem).mp k1
theorem startL {row : List (St2 × (List Str × List Str))} (h : ∀ x, x ∈ row ↔ ∃ p, stsOf E F p ∧ digB p = false ∧ x = ((p, []), (slS E [p], slS E2 [p]))) : LvI (srchL E F E2 F2) 0 row [] := by
  refine ⟨fun x hx => ?_, fun s _ => Nat.zero_le _, fun s hs => ?_, fun k hk => by cases hk⟩
  · obtain ⟨p, h1, h2, rfl⟩ := (h x).mp hx
    exact ⟨⟨h2, by simp, rdW_nil.symm, rdW_nil.symm⟩, rfl⟩
  · obtain ⟨⟨h1, h2, h3, h4⟩, _⟩ := hs
    have hst := (held_st h3).1
    obtain ⟨z, g1, g2⟩ := h3
    refine ⟨[], s.2, (slS E [s.1], slS E2 [s.1]), rfl, rfl, (h _).mpr ⟨s.1, hst, h1, rfl⟩, h2, ⟨z, (rdW_read (E := E) (p := s.1) (w := []) (v := s.2) (z := z)).mp g1, g2⟩, fun ⟨z, k1, k2⟩ => h4 ⟨z, ?_, k2⟩⟩
    exact (rdW_read (E := E2) (p := s.1) (w := []) (v := s.2) (z := z)).mpr k1
theorem nextL {n : Nat} {row fr row2 : List (St2 × (List Str × List Str))} {met met2 : List (List Str × List Str)} {ms : List Str} (h : LvI (srchL E F E2 F2) n row met) (f : FrI row met fr) (hn : ∀ x ∈ fr, ¬ (srchL E F E2 F2).Acc x.2 []) (hms : ∀ e ∈ E, e.2.1 ∈ ms ∨ e.2.1 = ("" : Str)) (hm0 : ∀ m ∈ ms, m ≠ ("" : Str))
    (hr : ∀ y, y ∈ row2 ↔ ∃ x ∈ fr, ∃ m ∈ ms, onS E x.2.1 m ≠ [] ∧ y = ((x.1.1, x.1.2 ++ [m]), (onS E x.2.1 m, onS E2 x.2.2 m))) (m2 : ∀ k ∈ met2, k ∈ met ∨ ∃ x ∈ fr, x.2 = k) : LvI (srchL E F E2 F2) (n + 1) row2 met2 := by
  refine h.next f hn (fun y hy => ?_) (fun x hx m v ha => ?_) m2
  · obtain ⟨x, hx, m, hm, _, rfl⟩ := (hr y).mp hy
    obtain ⟨⟨h1, h2, h3, h4⟩, h5⟩ := h.it x (f.sub x hx)
    refine ⟨⟨h1, fun m' hm' => (List.mem_append.mp hm').elim (h2 m') fun e => by rw [List.mem_singleton.mp e]; exact hm0 m hm, ?_, ?_⟩, by rw [List.length_append, h5]; rfl⟩
    · show onS E x.2.1 m = _
      rw [rdW_snoc, h3]
    · show onS E2 x.2.2 m = _
      rw [rdW_snoc, h4]
  · obtain ⟨a1, ⟨z, a2, a3⟩, a5⟩ := ha
    have a2' : readP E (· ∈ onS E x.2.1 m) v z := (readP_cong2 fun y => onS_mem).mpr a2
    obtain ⟨q, g1, g2⟩ := acc_of a2' a3
    have hmem : m ∈ ms := by
      obtain ⟨y, ⟨x', _, he⟩, _⟩ := slips_one (onS_mem.mp g1)
      exact (hms _ he).resolve_right (a1 m (by simp))
    refine ⟨(onS E x.2.1 m, onS E2 x.2.2 m), (hr _).mpr ⟨x, hx, m, hmem, (fun e => by rw [e] at g1; exact nomatch g1), rfl⟩, fun m' hm' => a1 m' (by simp [hm']), ⟨z, a2', a3⟩, fun ⟨z, k1, k2⟩ => a5 ⟨z, ?_, k2⟩⟩
    show readP E2 (Slips E2 (stepP E2 m (· ∈ x.2.2))) v z
    exact (readP_cong2 fun y => onS_mem).mp k1
end
structure BesAt (M0 M : Mm) (Beside Reader a r1 r2 : Addr) (E : List Ed) (F : List Str) (E2 : List Ed) (F2 : List Str) : Prop where
  ia : insOf M a = some (Beside, [(("first" : Str), .ref r1), (("second" : Str), .ref r2), (("first_ends" : Str), .tup (F.map .str)), (("second_ends" : Str), .tup (F2.map .str))])
  r1 : RdrAt M0 M Reader r1 E
  r2 : RdrAt M0 M Reader r2 E2
theorem BesAt.frame {M0 M M' : Mm} {Beside Reader a r1 r2 : Addr} {E E2 : List Ed} {F F2 : List Str} (h : BesAt M0 M Beside Reader a r1 r2 E F E2 F2) (e : Sub M M') : BesAt M0 M' Beside Reader a r1 r2 E F E2 F2 := ⟨insOf_sub e h.ia, h.r1.frame e, h.r2.frame e⟩
end DM
namespace DM
open PySem L2
theorem RdrAt.rebase {M0 M0' M : Mm} {Reader a : Addr} {E : List Ed} (h : RdrAt M0 M Reader a E) (k : ∀ x, M0 x = none → M0' x = none) : RdrAt M0' M Reader a E := let ⟨l, h1, h2⟩ := h; ⟨l, h1, h2.rebase fun x hx _ => k x hx⟩
theorem RdrAt.putI {M0 M : Mm} {Reader a r : Addr} {E : List Ed} {o : MO} {x : Addr × List (Str × D)} (h : RdrAt M0 M Reader r E) (hi : insOf M a = some x) (ne : r ≠ a) : RdrAt M0 (mup M a o) Reader r E := by
  obtain ⟨l, h1, h2⟩ := h
  exact ⟨l, by rw [insOf_mup_ne ne]; exact h1, h2.put (ins_not hi).1 (ins_not hi).2⟩
theorem RdrAt.some {M0 M : Mm} {Reader a : Addr} {E : List Ed} (h : RdrAt M0 M Reader a E) : M a ≠ none := by
  obtain ⟨l, h1, _⟩ := h
  rw [of_insOf h1]; simp
def itP (x : St2 × (Str × List Str)) : D := .tup [stD x.1, stD (x.2.1, x.2.2)]
theorem pure_itP (x : St2 × (Str × List Str)) : pureD (itP x) = true := by simp [itP, pureD, pureDs, pure_st]
theorem dep_itP (x : St2 × (Str × List Str)) : depD (itP x) ≤ 6 := by
  have h1 := depD_st x.1
  have h2 := depD_st (x.2.1, x.2.2)
  simp only [itP, depD, depDs]
  omega
theorem alike_itP (x y : St2 × (Str × List Str)) : PySem.W.alike (toPy (itP x)) (toPy (itP y)) = true := by
  have h1 := alike_st x.1 y.1
  have h2 := alike_st (x.2.1, x.2.2) (y.2.1, y.2.2)
  show PySem.W.alikeAll [toPy (stD x.1), toPy (stD (x.2.1, x.2.2))] [toPy (stD y.1), toPy (stD (y.2.1, y.2.2))] = true
  simp only [PySem.W.alikeAll, h1, h2, Bool.and_self]
theorem sortOk_gen {α : Type} {f : α → D} {k : Nat} (hk : k ≤ 100) (hk1 : 1 ≤ k) (h1 : ∀ x, pureD (f x) = true) (h2 : ∀ x, depD (f x) ≤ k) (h3 : ∀ x y, PySem.W.alike (toPy (f x)) (toPy (f y)) = true) (h4 : ∀ x, ∃ y r, f x = .tup (y :: r)) {l : List α} : SortOk (l.map f) := by
  refine ⟨pureDs_map f h1 l, Nat.le_trans (depDs_map f k hk1 h2 l) hk, fun x hx y hy => ?_, .inl fun x hx => ?_⟩
  · rw [List.map_map] at hx hy
    obtain ⟨s, _, rfl⟩ := List.mem_map.mp hx
    obtain ⟨t, _, rfl⟩ := List.mem_map.mp hy
    exact h3 s t
  · rw [List.map_map] at hx
    obtain ⟨s, _, rfl⟩ := List.mem_map.mp hx
    obtain ⟨y, r, e⟩ := h4 s
    exact ⟨toPy y, toPys r, by show toPy (f s) = _; rw [e]; rfl⟩
theorem sortOk_itP {l : List (St2 × (Str × List Str))} : SortOk (l.map itP) := sortOk_gen (k := 6) (by decide) (by decide) pure_itP dep_itP alike_itP fun x => ⟨_, _, rfl⟩
def sortP (l : List (St2 × (Str × List Str))) : List (St2 × (Str × List Str)) := l.mergeSort fun a b => leD (itP a) (itP b)
theorem sortD_itP (l : List (St2 × (Str × List Str))) : sortD (l.map itP) = (sortP l).map itP := sortD_map itP l
theorem sortP_mem {l : List (St2 × (Str × List Str))} {x : St2 × (Str × List Str)} : x ∈ sortP l ↔ x ∈ l := (List.mergeSort_perm l _).mem_iff
theorem sortP_pw (l : List (St2 × (Str × List Str))) : (sortP l).Pairwise fun a b => leT2 a.1 b.1 = true :=
  (List.pairwise_mergeSort (le := fun a b => leD (itP a) (itP b)) (fun a b c => leD_trans) (fun a b => leD_total _ _) l).imp fun {a b} h => le_first h
def itQ (x : St2 × (List Str × List Str)) : D := .tup [.str x.1.1, .tup (x.1.2.map .str), .tup (x.2.1.map .str), .tup (x.2.2.map .str)]
theorem pure_itQ (x : St2 × (List Str × List Str)) : pureD (itQ x) = true := by simp [itQ, pureD, pureDs, pureDs_str]
theorem dep_itQ (x : St2 × (List Str × List Str)) : depD (itQ x) ≤ 6 := by
  have h1 := depDs_str x.1.2
  have h2 := depDs_str x.2.1
  have h3 := depDs_str x.2.2
  simp only [itQ, depD, depDs]
  omega
theorem alike_itQ (x y : St2 × (List Str × List Str)) : PySem.W.alike (toPy (itQ x)) (toPy (itQ y)) = true := by
  simp only [itQ, toPy, toPys, PySem.W.alike, PySem.W.alikeAll, alikeAll_strs, Bool.and_self]
theorem sortOk_itQ {l : List (St2 × (List Str × List Str))} : SortOk (l.map itQ) := sortOk_gen (k := 6) (by decide) (by decide) pure_itQ dep_itQ alike_itQ fun x => ⟨_, _, rfl⟩
def sortQ (l : List (St2 × (List Str × List Str))) : List (St2 × (List Str × List Str)) := l.mergeSort fun a b => leD (itQ a) (itQ b)
theorem sortD_itQ (l : List (St2 × (List Str × List Str))) : sortD (l.map itQ) = (sortQ l).map itQ := sortD_map itQ l
theorem sortQ_mem {l : List (St2 × (List Str × List Str))} {x : St2 × (List Str × List Str)} : x ∈ sortQ l ↔ x ∈ l := (List.mergeSort_perm l _).mem_iff
theorem sortQ_pw (l : List (St2 × (List Str × List Str))) : (sortQ l).Pairwise fun a b => leT2 a.1 b.1 = true :=
  (List.pairwise_mergeSort (le := fun a b => leD (itQ a) (itQ b)) (fun a b c => leD_trans) (fun a b => leD_total _ _) l).imp fun {a b} h => le_first4 h
theorem fresh_step {κ : Type} [DecidableEq κ] {row fr : List (St2 × κ)} {met0 met : List κ} {i : Nat} {x : St2 × κ} (hx : row[i]? = some x)
    (h : FrI (row.take i) met0 fr ∧ (∀ k, k ∈ met ↔ k ∈ met0 ∨ ∃ y ∈ fr, y.2 = k)) (hpw : row.Pairwise fun a b => leT2 a.1 b.1 = true) :
    if x.2 ∈ met then FrI (row.take (i + 1)) met0 fr else (FrI (row.take (i + 1)) met0 (fr ++ [x]) ∧ ∀ k, k ∈ met ++ [x.2] ↔ k ∈ met0 ∨ ∃ y ∈ fr ++ [x], y.2 = k) := by
  obtain ⟨⟨h1, h2, h3⟩, h4⟩ := h
  have hle : ∀ y ∈ row.take i, leT2 y.1 x.1 = true := fun y hy => by
    obtain ⟨j, hj⟩ := List.mem_iff_getElem?.mp hy
    rw [List.getElem?_take] at hj
    split at hj
    · next hji =>
      obtain ⟨a1, a2⟩ := List.getElem?_eq_some_iff.mp hj
      obtain ⟨b1, b2⟩ := List.getElem?_eq_some_iff.mp hx
      have := (List.pairwise_iff_getElem.mp hpw) j i a1 b1 hji
      rw [a2, b2] at this
      exact this
    · cases hj
  have htk : ∀ y, y ∈ row.take (i + 1) ↔ y ∈ row.take i ∨ y = x := fun y => by
    rw [List.take_add_one, hx, Option.toList_some, List.mem_append, List.mem_singleton]
  split
  · next hm =>
    refine ⟨fun y hy => (htk y).mpr (.inl (h1 y hy)), fun y hy => ?_, h3⟩
    rcases (htk y).mp hy with hy | rfl
    · exact h2 y hy
    · rcases (h4 _).mp hm with g | ⟨u, hu, e⟩
      · exact .inl g
      · exact .inr ⟨u, hu, e, hle u (h1 u hu)⟩
  · refine ⟨⟨fun y hy => ?_, fun y hy => ?_, ?_⟩, fun k => ?_⟩
    · rcases List.mem_append.mp hy with hy | hy
      · exact (htk y).mpr (.inl (h1 y hy))
      · exact (htk y).mpr (.inr (List.mem_singleton.mp hy))
    · rcases (htk y).mp hy with hy | rfl
      · rcases h2 y hy with g | ⟨u, hu, e, l⟩
        · exact .inl g
        · exact .inr ⟨u, List.mem_append_left _ hu, e, l⟩
      · exact .inr ⟨y, by simp, rfl, leD_refl _⟩
    · rw [List.pairwise_append]
      refine ⟨h3, by simp, fun a ha b hb => ?_⟩
      rw [List.mem_singleton.mp hb]
      exact hle a (h1 a ha)
    · rw [List.mem_append, h4, List.mem_singleton]
      constructor
      · rintro ((g | ⟨u, hu, e⟩) | rfl)
        · exact .inl g
        · exact .inr ⟨u, List.mem_append_left _ hu, e⟩
        · exact .inr ⟨x, by simp, rfl⟩
      · rintro (g | ⟨u, hu, e⟩)
        · exact .inl (.inl g)
        · rcases List.mem_append.mp hu with hu | hu
          · exact .inl (.inr ⟨u, hu, e⟩)
          · rw [List.mem_singleton.mp hu] at e; exact .inr e.symm
theorem merge_txs : ∀ {L acc : List Str}, acc.Nodup → ∃ S : List Str, mergeD (txD acc) (txD L) = txD S ∧ S.Nodup ∧ ∀ z, z ∈ S ↔ z ∈ acc ∨ z ∈ L
  | [], acc, h => ⟨acc, rfl, h, fun z => by simp⟩
  | s :: L, acc, h => by
    obtain ⟨S, h1, h2, h3⟩ := merge_txs (L := L) (acc := insS acc s) (insS_nodup h)
    refine ⟨S, ?_, h2, fun z => ?_⟩
    · show mergeD (putD (txD acc) (.inr s) (.bl true)) (txD L) = _
      rw [put_tx]; exact h1
    · rw [h3, insS_mem, List.mem_cons, or_assoc]
theorem dictK_txs {L : List Str} {x : D} {M : Mm} {Q : DQ} (e : rdL M x = some (L.map fun s => .tup [.str s, .bl true])) (k : ∀ (S : List Str) p, M p = none → S.Nodup → (∀ z, z ∈ S ↔ z ∈ L) → Q (.ref p) (mup M p (.dic (txD S)))) : dictKR [x] M Q := by
  obtain ⟨S, h1, h2, h3⟩ := merge_txs (L := L) (acc := []) List.nodup_nil
  refine dictK_go e (pairsK_strs (f := fun _ => .bl true)) fun p hp => ?_
  rw [show (L.map fun s => ((.inr s : Key), (D.bl true : D))) = txD L from rfl, show mergeD [] (txD L) = txD S from h1]
  exact k S p hp h2 fun z => by rw [h3]; simp
def BesE (M0 M : Mm) (Beside Reader a : Addr) (E : List Ed) (F : List Str) (E2 : List Ed) (F2 : List Str) : Prop := ∃ r1 r2, BesAt M0 M Beside Reader a r1 r2 E F E2 F2
theorem BesE.frame {M0 M M' : Mm} {Beside Reader a : Addr} {E E2 : List Ed} {F F2 : List Str} (h : BesE M0 M Beside Reader a E F E2 F2) (e : Sub M M') : BesE M0 M' Beside Reader a E F E2 F2 := let ⟨r1, r2, g⟩ := h; ⟨r1, r2, g.frame e⟩
end DM
namespace DM
open PySem L2
theorem cut_at {α : Type} {x : α} : ∀ {a a' b b' : List α}, x ∉ a → x ∉ a' → a ++ x :: b = a' ++ x :: b' → a = a' ∧ b = b'
  | [], [], b, b', _, _, e => by simp at e; exact ⟨rfl, e⟩
  | [], y :: a', b, b', _, h, e => by simp at e; exact absurd (e.1 ▸ List.mem_cons_self) h
  | y :: a, [], b, b', h, _, e => by simp at e; exact absurd (e.1 ▸ List.mem_cons_self) h
  | y :: a, z :: a', b, b', h, h', e => by
    simp only [List.cons_append, List.cons.injEq] at e
    obtain ⟨e1, e2⟩ := cut_at (fun g => h (List.mem_cons_of_mem _ g)) (fun g => h' (List.mem_cons_of_mem _ g)) e.2
    exact ⟨by rw [e.1, e1], e2⟩
theorem WdM.no124 {z : Str} (h : WdM z) : 124 ∉ cps z := h.elim (fun g hc => (by decide +kernel : 124 ∉ sgns) (g.2.1 _ hc)) fun g hc => by have := (figB_all g).2 _ hc; omega
theorem join_cps0 (ws : List Str) (h : ∀ w ∈ ws, WdM w) : 124 ∉ cps (Txt.join (" " : Str) ws) := by
  cases ws with
  | nil => decide +kernel
  | cons w ws =>
    rw [cps_joinS]
    intro hc
    rcases List.mem_append.mp hc with hc | hc
    · exact (h w (by simp)).no124 hc
    · obtain ⟨v, hv, hc⟩ := List.mem_flatMap.mp hc
      rcases List.mem_append.mp hc with hc | hc
      · rw [cps_sp] at hc; simp at hc
      · exact (h v (by simp [hv])).no124 hc
theorem join_inj0 {ws vs : List Str} (h1 : ∀ w ∈ ws, WdM w) (h2 : ∀ w ∈ vs, WdM w) (e : Txt.join (" " : Str) ws = Txt.join (" " : Str) vs) : ws = vs := by
  have emp : ∀ {w : Str} {l : List Str}, WdM w → Txt.join (" " : Str) (w :: l) ≠ Txt.join (" " : Str) [] := fun {w l} hw e => by
    have := congrArg cps e
    rw [cps_joinS, show cps (Txt.join (" " : Str) []) = [] from by decide +kernel] at this
    exact hw.ne (List.append_eq_nil_iff.mp this).1
  cases ws with
  | nil => cases vs with
    | nil => rfl
    | cons v vs => exact absurd e.symm (emp (h2 v (by simp)))
  | cons w ws => cases vs with
    | nil => exact absurd e (emp (h1 w (by simp)))
    | cons v vs => exact join_inj (by simp) (by simp) (fun x hx => (h1 x hx).no32) (fun x hx => (h2 x hx).no32) e
theorem nmT_inj {h t h' t' : List Str} (w1 : ∀ w ∈ h, WdM w) (w2 : ∀ w ∈ t, WdM w) (w3 : ∀ w ∈ h', WdM w) (w4 : ∀ w ∈ t', WdM w) (e : nmT h t = nmT h' t') : h = h' ∧ t = t' := by
  have e2 := congrArg cps e
  unfold nmT at e2
  rw [cps_append, cps_append, cps_append, cps_append, show cps ("|" : Str) = [124] from by decide +kernel, List.append_assoc, List.append_assoc, List.singleton_append, List.singleton_append] at e2
  obtain ⟨a, b⟩ := cut_at (join_cps0 h w1) (join_cps0 h' w3) e2
  exact ⟨join_inj0 w1 w3 (cps_inj a), join_inj0 w2 w4 (cps_inj b)⟩
def KnL (S S2 : List Str) (k : List Str × List Str) : Prop := (RisS k.1 ∧ ∀ y ∈ k.1, WdM y ∧ y ∈ S) ∧ RisS k.2 ∧ ∀ y ∈ k.2, WdM y ∧ y ∈ S2
theorem KnL.inj {S S2 : List Str} {k k' : List Str × List Str} (h : KnL S S2 k) (h' : KnL S S2 k') (e : nmT k.1 k.2 = nmT k'.1 k'.2) : k = k' := by
  obtain ⟨e1, e2⟩ := nmT_inj (fun w hw => (h.1.2 w hw).1) (fun w hw => (h.2.2 w hw).1) (fun w hw => (h'.1.2 w hw).1) (fun w hw => (h'.2.2 w hw).1) e
  exact Prod.ext e1 e2
def setsU (S S2 : List Str) : List (List Str × List Str) := (subL (rise S)).flatMap fun a => (subL (rise S2)).map fun b => (a, b)
theorem setsU_len {S S2 : List Str} : (setsU S S2).length ≤ 2 ^ S.length * 2 ^ S2.length := by
  have h : ∀ l : List (List Str), (l.flatMap fun a => (subL (rise S2)).map fun b => (a, b)).length = l.length * 2 ^ (rise S2).length := by
    intro l
    induction l with
    | nil => simp
    | cons a l ih => rw [List.flatMap_cons, List.length_append, ih, List.length_map, subL_len, List.length_cons, Nat.succ_mul]; omega
  unfold setsU
  rw [h, subL_len]
  exact Nat.mul_le_mul (Nat.pow_le_pow_right (by decide) (rise_len _)) (Nat.pow_le_pow_right (by decide) (rise_len _))
theorem setsU_mem {S S2 : List Str} {k : List Str × List Str} (h : KnL S S2 k) : k ∈ setsU S S2 :=
  List.mem_flatMap.mpr ⟨k.1, subL_mem (ris_sub h.1.1 (rise_ris _) fun x hx => rise_mem.mpr (h.1.2 x hx).2), List.mem_map.mpr ⟨k.2, subL_mem (ris_sub h.2.1 (rise_ris _) fun x hx => rise_mem.mpr (h.2.2 x hx).2), rfl⟩⟩
def toK (x : St2 × (List Str × List Str)) : St2 × (List Str × List Str) := (x.1, (rise x.2.1, rise x.2.2))
def neL (x : St2 × (List Str × List Str)) : Bool := !x.2.1.isEmpty
theorem neL_rise {xs : List Str} : rise xs = [] ↔ xs = [] := by
  constructor
  · intro h
    cases xs with
    | nil => rfl
    | cons x xs => have := rise_mem.mpr (List.mem_cons_self (a := x) (l := xs)); rw [h] at this; cases this
  · rintro rfl
    exact List.eq_nil_iff_forall_not_mem.mpr fun z hz => (by have := rise_mem.mp hz; cases this)
theorem fresh_stepQ {W : List (St2 × (List Str × List Str))} {fr : List (St2 × (List Str × List Str))} {met : List (List Str × List Str)} {i : Nat} {x : St2 × (List Str × List Str)} (hx : (sortQ W)[i]? = some x)
    (h : FrI ((((sortQ W).take i).filter neL).map toK) met (fr.map toK)) :
    (neL x = false → FrI ((((sortQ W).take (i + 1)).filter neL).map toK) met (fr.map toK)) ∧
    (neL x = true → (toK x).2 ∈ met ++ (fr.map toK).map (·.2) → FrI ((((sortQ W).take (i + 1)).filter neL).map toK) met (fr.map toK)) ∧
    (neL x = true → (toK x).2 ∉ met ++ (fr.map toK).map (·.2) → FrI ((((sortQ W).take (i + 1)).filter neL).map toK) met ((fr ++ [x]).map toK)) := by
  have htk : (sortQ W).take (i + 1) = (sortQ W).take i ++ [x] := by rw [List.take_add_one, hx]; rfl
  have key : neL x = true → if (toK x).2 ∈ met ++ (fr.map toK).map (·.2) then FrI ((((sortQ W).take (i + 1)).filter neL).map toK) met (fr.map toK) else FrI ((((sortQ W).take (i + 1)).filter neL).map toK) met ((fr ++ [x]).map toK) := fun hn => by
    have hrow : ((((sortQ W).take (i + 1)).filter neL).map toK) = (((sortQ W).take i).filter neL).map toK ++ [toK x] := by
      rw [htk, List.filter_append, List.filter_cons_of_pos hn, List.filter_nil, List.map_append]; rfl
    have hpw : (((((sortQ W).take i).filter neL).map toK) ++ [toK x]).Pairwise fun a b => leT2 a.1 b.1 = true := by
      rw [← hrow]
      refine List.pairwise_map.mpr ?_
      exact (sortQ_pw W).sublist ((List.filter_sublist).trans (List.take_sublist _ _))
    have hlen : ((((sortQ W).take i).filter neL).map toK ++ [toK x])[((((sortQ W).take i).filter neL).map toK).length]? = some (toK x) := by simp
    have hst := fresh_step (met0 := met) (met := met ++ (fr.map toK).map (·.2)) (fr := fr.map toK) hlen ⟨by rw [List.take_left']; exact h; rfl, fun k => by rw [List.mem_append, List.mem_map]⟩ hpw
    rw [hrow]
    rw [List.take_of_length_le (by simp)] at hst
    split
    · next hm => rwa [if_pos hm] at hst
    · next hm =>
      rw [if_neg hm] at hst
      rw [List.map_append]
      exact hst.1
  refine ⟨fun hn => ?_, fun hn hm => ?_, fun hn hm => ?_⟩
  · rw [htk, List.filter_append, List.filter_cons_of_neg (by rw [hn]; decide), List.filter_nil, List.append_nil]; exact h
  · have := key hn; rwa [if_pos hm] at this
  · have := key hn; rwa [if_neg hm] at this
end DM
namespace pileruns_k17_first_missing
open PySem PySem.Spec PyProof.Rows L2 DM
open PyProof.Rows (b2i)

local macro_rules | `(tactic| simp_all only [$xs,*]) => `(tactic| try simp only [dReprX_e, dNext_e, dDrop_e, dRet_e, dIfS_e, dAsg_e, dputS_e, dlputS_e, dOp_e, dVar_e, dC_e, dget_zero, dget_succ, dTest_e, dNil_e, dCons_e, dgName_e, dTup_e, dCB_e, dFresh_e, dFrz_e, dFreshD_e, dFrzD_e, dDisp_e, dBM_e, dBM0_e, dAndV_e, dOrV_e, dNotV_e, dAnd_e, dOr_e, dNot_e, dCall_e, dFor_e, dSl_e, dPart_e, dNoPart_e, diRng1_e, diAny_e, dstart, List.set_cons_zero, List.set_cons_succ, List.map_cons, List.map_nil, List.length_cons, List.length_nil, List.cons_append, List.nil_append, Nat.reduceAdd, Nat.reduceSub, Int.reduceAdd, Int.reduceSub, List.replicate, dListOf_e, dJoin_e, dIndex_e, dPar2_e, dDropX_e, dAsgX_e, dLc_e, wipeD, dCat_e, dGet2_e, ite_true, ite_false, if_true, if_false, reduceIte, Bool.false_eq_true, Bool.true_eq_false, and_true, true_and, rdL_lst, rdL_ref, rdS_lst, rdS_ref, rdS_tup, rdD_dic, rdD_ref, rdDL_dic, rdDL_ref, addR_ii, addR_ib, addR_ss, addR_tt, addR_LL, subR_ii, mulR_ii, modR_ii, fdivR_ii, powR_ii, ltR_ii, gtR_ii, geR_ii, keyD_s, keyD_i, eqR_ii, eqR_ss, eqR_bb, eqR_tt, eqR_LL, neR_ii, neR_ss, neR_bb, neR_tt, neR_LL, eqM_ii, eqM_ss, eqM_bb, eqM_tt, eqM_LL, okD_i, okD_s, okD_b, okD_n, okD_t, okD_L, deck_at, deck_sum, deck_cells, deck_len, deck_put, dicOf_mup_same, lstOf_mup_same, int1R_b, int1R_i, ix_t0, ix_t1, ix_t2, ix_t3, ix_t4, lenR_t, lenR_s, lenR_L, slR_t, slR_s, slR_L, cutL_from1, cutL_from2, tup1R_L, tup1R_t, beq_self_eq_true, Bool.not_true, Bool.not_false, Option.isSome_some, List.isEmpty_nil, List.isEmpty_cons, isNotR_nn, isNotR_tn, isNotR_Ln, isNotR_sn, isNotR_in, isNotR_bn, isNotR_bb, isi_t_bool, isi_t_int, isi_t_str, isi_t_tuple, isi_t_list, isi_t_dict, isi_s_bool, isi_s_int, isi_s_str, isi_s_tuple, isi_s_list, isi_s_dict, isi_i_bool, isi_i_int, isi_i_str, isi_i_tuple, isi_i_list, isi_i_dict, isi_b_bool, isi_b_int, isi_b_str, isi_b_tuple, isi_b_list, isi_b_dict, isi_n_bool, isi_n_int, isi_n_str, isi_n_tuple, isi_n_list, isi_n_dict, isi_L_bool, isi_L_int, isi_L_str, isi_L_tuple, isi_L_list, isi_L_dict, isi_d_bool, isi_d_int, isi_d_str, isi_d_tuple, isi_d_list, isi_d_dict, natlit_eq, Int.reduceNeg, puts, appendR_same, lenR_same, tup1R_same, sz0, sz1, sz2, sz3, sz4, sz5, sz6, sz7, sz8, sz9, sz10, ix_L0, ix_L1, ix_L2, ix_Lbs, dep_nil, dep_cons, dep_tup, dep_lst, dep_str, dep_int, dep_bl, dep_non, dep_strs, dep_ints, dep_app, dep_rules, dep_prog, dep_st, pu_nil, pu_cons, pu_tup, pu_lst, pu_str, pu_int, pu_bl, pu_non, pu_app, pureDs_str, pureDs_int, pu_rule, pu_rules, pu_prog, pu_st, eqv_self, eqvDs_nil, Bool.and_self, Bool.and_true, Bool.true_and, List.length_map, List.length_append, Int.zero_add, Nat.zero_add, cutL_to1, cutL_to2, cutL_to3, cutL_to15, List.take_succ_cons, List.take_zero, List.take_nil, List.drop_succ_cons, List.drop_zero, List.drop_nil, cutL_toN, cutL_toS, cutL_fromN, cutL_fromS, List.length_take, List.length_drop, ← List.map_take, ← List.map_drop, ← List.map_append, neR_prog0, eqR_prog0, lenR_prog, rep1, List.length_replicate, Int.toNat_natCast, ofLst_L, allLR_map, anyLR_map, ofString_beq, ofString_inj, String.reduceBEq, String.reduceEq, decide_true, decide_false, extA_t, extA_L, isSome_same, List.length_reverse, ← List.map_reverse, dYes_e, varI_s, isB_b, isI_i, isLst_r, dgTup_t, dgTup_l, dgCons_e, dgNil_e, anyI_t, anyI_s, anyI_L, anyI_r, anyR_s, someI_s, listI_1, joinI_s, isStr_s, par2I_2, catI_s, dputI_s, dputI_i, dlputI_r, dgetR_s, dgetR_i, getQ_s, getQ_i, isDic, isNotR_st, inR_natL, inR_natT, pu_nats, dep_nats, eqR_bi, cutL_mid2, cutL_from2S, dSorted_e, sortedI_L, sortedI_r, ix_L3, ix_L4, ix_L5, ix_L6, ix_L7, ix_L8, ix_L9, ix_t5, ix_t6, ix_t7, ix_t8, ix_t9, cutL_from3, cutL_from4, cutL_from5, cutL_from6, cutL_from8, cutL_to4, cutL_to5, cutL_to6, cutL_to8, cutL_to0, sortedI_t, dputTS_e, dDictT_e, dSortedT_e, sortedTI_r, dputTI_2s, dputTI_3s, cutL_toM1, cutL_fromM1, List.length_dropLast, ← List.map_dropLast, dFld_e, dFput_e, dFadd_e, dFadd2_i, dMeth_e, dMake_e, dSetd_e, dSortSet_e, dSortedK_e, orT_some, diKeys_e, lkEnds_e, dSortSetT_e, joinTI_s, dJoinT_e, exStr, $xs,*])
local macro_rules | `(tactic| simp_all? only [$xs,*]) => `(tactic| try simp only [dReprX_e, dSeq_e, dNext_e, dDrop_e, dRet_e, dIfS_e, dAsg_e, dputS_e, dlputS_e, dOp_e, dVar_e, dC_e, dget_zero, dget_succ, dTest_e, dNil_e, dCons_e, dgName_e, dTup_e, dCB_e, dFresh_e, dFrz_e, dFreshD_e, dFrzD_e, dDisp_e, dBM_e, dBM0_e, dAndV_e, dOrV_e, dNotV_e, dAnd_e, dOr_e, dNot_e, dCall_e, dFor_e, dSl_e, dPart_e, dNoPart_e, diRng1_e, diAny_e, dstart, List.set_cons_zero, List.set_cons_succ, List.map_cons, List.map_nil, List.length_cons, List.length_nil, List.cons_append, List.nil_append, Nat.reduceAdd, Nat.reduceSub, Int.reduceAdd, Int.reduceSub, List.replicate, dListOf_e, dJoin_e, dIndex_e, dPar2_e, dDropX_e, dAsgX_e, dLc_e, wipeD, dCat_e, dGet2_e, ite_true, ite_false, if_true, if_false, reduceIte, Bool.false_eq_true, Bool.true_eq_false, and_true, true_and, rdL_lst, rdL_ref, rdS_lst, rdS_ref, rdS_tup, rdD_dic, rdD_ref, rdDL_dic, rdDL_ref, addR_ii, addR_ib, addR_ss, addR_tt, addR_LL, subR_ii, mulR_ii, modR_ii, fdivR_ii, powR_ii, ltR_ii, gtR_ii, geR_ii, keyD_s, keyD_i, eqR_ii, eqR_ss, eqR_bb, eqR_tt, eqR_LL, neR_ii, neR_ss, neR_bb, neR_tt, neR_LL, eqM_ii, eqM_ss, eqM_bb, eqM_tt, eqM_LL, okD_i, okD_s, okD_b, okD_n, okD_t, okD_L, deck_at, deck_sum, deck_cells, deck_len, deck_put, dicOf_mup_same, lstOf_mup_same, int1R_b, int1R_i, ix_t0, ix_t1, ix_t2, ix_t3, ix_t4, lenR_t, lenR_s, lenR_L, slR_t, slR_s, slR_L, cutL_from1, cutL_from2, tup1R_L, tup1R_t, beq_self_eq_true, Bool.not_true, Bool.not_false, Option.isSome_some, List.isEmpty_nil, List.isEmpty_cons, isNotR_nn, isNotR_tn, isNotR_Ln, isNotR_sn, isNotR_in, isNotR_bn, isNotR_bb, isi_t_bool, isi_t_int, isi_t_str, isi_t_tuple, isi_t_list, isi_t_dict, isi_s_bool, isi_s_int, isi_s_str, isi_s_tuple, isi_s_list, isi_s_dict, isi_i_bool, isi_i_int, isi_i_str, isi_i_tuple, isi_i_list, isi_i_dict, isi_b_bool, isi_b_int, isi_b_str, isi_b_tuple, isi_b_list, isi_b_dict, isi_n_bool, isi_n_int, isi_n_str, isi_n_tuple, isi_n_list, isi_n_dict, isi_L_bool, isi_L_int, isi_L_str, isi_L_tuple, isi_L_list, isi_L_dict, isi_d_bool, isi_d_int, isi_d_str, isi_d_tuple, isi_d_list, isi_d_dict, natlit_eq, Int.reduceNeg, puts, appendR_same, lenR_same, tup1R_same, sz0, sz1, sz2, sz3, sz4, sz5, sz6, sz7, sz8, sz9, sz10, ix_L0, ix_L1, ix_L2, ix_Lbs, dep_nil, dep_cons, dep_tup, dep_lst, dep_str, dep_int, dep_bl, dep_non, dep_strs, dep_ints, dep_app, dep_rules, dep_prog, dep_st, pu_nil, pu_cons, pu_tup, pu_lst, pu_str, pu_int, pu_bl, pu_non, pu_app, pureDs_str, pureDs_int, pu_rule, pu_rules, pu_prog, pu_st, eqv_self, eqvDs_nil, Bool.and_self, Bool.and_true, Bool.true_and, List.length_map, List.length_append, Int.zero_add, Nat.zero_add, cutL_to1, cutL_to2, cutL_to3, cutL_to15, List.take_succ_cons, List.take_zero, List.take_nil, List.drop_succ_cons, List.drop_zero, List.drop_nil, cutL_toN, cutL_toS, cutL_fromN, cutL_fromS, List.length_take, List.length_drop, ← List.map_take, ← List.map_drop, ← List.map_append, neR_prog0, eqR_prog0, lenR_prog, rep1, List.length_replicate, Int.toNat_natCast, ofLst_L, allLR_map, anyLR_map, ofString_beq, ofString_inj, String.reduceBEq, String.reduceEq, decide_true, decide_false, extA_t, extA_L, isSome_same, List.length_reverse, ← List.map_reverse, dYes_e, varI_s, isB_b, isI_i, isLst_r, dgTup_t, dgTup_l, dgCons_e, dgNil_e, anyI_t, anyI_s, anyI_L, anyI_r, anyR_s, someI_s, listI_1, joinI_s, isStr_s, par2I_2, catI_s, dputI_s, dputI_i, dlputI_r, dgetR_s, dgetR_i, getQ_s, getQ_i, isDic, isNotR_st, inR_natL, inR_natT, pu_nats, dep_nats, eqR_bi, cutL_mid2, cutL_from2S, dSorted_e, sortedI_L, sortedI_r, ix_L3, ix_L4, ix_L5, ix_L6, ix_L7, ix_L8, ix_L9, ix_t5, ix_t6, ix_t7, ix_t8, ix_t9, cutL_from3, cutL_from4, cutL_from5, cutL_from6, cutL_from8, cutL_to4, cutL_to5, cutL_to6, cutL_to8, cutL_to0, sortedI_t, dputTS_e, dDictT_e, dSortedT_e, sortedTI_r, dputTI_2s, dputTI_3s, cutL_toM1, cutL_fromM1, List.length_dropLast, ← List.map_dropLast, dFld_e, dFput_e, dFadd_e, dFadd2_i, dMeth_e, dMake_e, dSetd_e, dSortSet_e, dSortedK_e, orT_some, diKeys_e, lkEnds_e, dSortSetT_e, joinTI_s, dJoinT_e, exStr, $xs,*])
local macro_rules | `(tactic| simp? only [$xs,*]) => `(tactic| try simp only [dNext, dDrop, dRet, dIfS, dAsg, dputS, dlputS, dOp, dVar, dC, dget_zero, dget_succ, dTest, isB, dNil, dCons, dgName, dTup, dCB, dFresh, dFrz, dFreshD, dFrzD, dDisp, dBM, dBM0, dAndV, dOrV, dNotV, dAnd, dOr, dNot, dCall, dFor, dSl, dPart, dNoPart, diRng1, diAny, isI, dstart, List.set_cons_zero, List.set_cons_succ, List.map_cons, List.map_nil, List.length_cons, List.length_nil, List.cons_append, List.nil_append, Nat.reduceAdd, Nat.reduceSub, Int.reduceAdd, Int.reduceSub, List.replicate, isLst, dgTup, dgCons, dgNil, dListOf, dJoin, dIndex, dPar2, dDropX, dAsgX, dLc, wipeD, dCat, dGet2, isDic, ite_true, ite_false, if_true, if_false, reduceIte, Bool.false_eq_true, Bool.true_eq_false, and_true, true_and, rdL_lst, rdL_ref, rdS_lst, rdS_ref, rdS_tup, rdD_dic, rdD_ref, rdDL_dic, rdDL_ref, addR_ii, addR_ib, addR_ss, addR_tt, addR_LL, subR_ii, mulR_ii, modR_ii, fdivR_ii, powR_ii, ltR_ii, gtR_ii, geR_ii, keyD_s, keyD_i, dgetR, eqR_ii, eqR_ss, eqR_bb, eqR_tt, eqR_LL, neR_ii, neR_ss, neR_bb, neR_tt, neR_LL, eqM_ii, eqM_ss, eqM_bb, eqM_tt, eqM_LL, okD_i, okD_s, okD_b, okD_n, okD_t, okD_L, deck_at, deck_sum, deck_cells, deck_len, deck_put, dicOf_mup_same, lstOf_mup_same, int1R_b, int1R_i, ix_t0, ix_t1, ix_t2, ix_t3, ix_t4, lenR_t, lenR_s, lenR_L, slR_t, slR_s, slR_L, cutL_from1, cutL_from2, tup1R_L, tup1R_t, beq_self_eq_true, Bool.not_true, Bool.not_false, Option.isSome_some, List.isEmpty_nil, List.isEmpty_cons, isNotR_nn, isNotR_tn, isNotR_Ln, isNotR_sn, isNotR_in, isNotR_bn, isNotR_bb, isi_t_bool, isi_t_int, isi_t_str, isi_t_tuple, isi_t_list, isi_t_dict, isi_s_bool, isi_s_int, isi_s_str, isi_s_tuple, isi_s_list, isi_s_dict, isi_i_bool, isi_i_int, isi_i_str, isi_i_tuple, isi_i_list, isi_i_dict, isi_b_bool, isi_b_int, isi_b_str, isi_b_tuple, isi_b_list, isi_b_dict, isi_n_bool, isi_n_int, isi_n_str, isi_n_tuple, isi_n_list, isi_n_dict, isi_L_bool, isi_L_int, isi_L_str, isi_L_tuple, isi_L_list, isi_L_dict, isi_d_bool, isi_d_int, isi_d_str, isi_d_tuple, isi_d_list, isi_d_dict, natlit_eq, Int.reduceNeg, orT_some, $xs,*])
local macro_rules | `(tactic| dsimp? only [$xs,*]) => `(tactic| try simp only [dSeq, dNext, dDrop, dRet, dIfS, dAsg, dputS, dlputS, dOp, dVar, dC, dget_zero, dget_succ, dTest, isB, dNil, dCons, dgName, dTup, dCB, dFresh, dFrz, dFreshD, dFrzD, dDisp, dBM, dBM0, dAndV, dOrV, dNotV, dAnd, dOr, dNot, dCall, dFor, dSl, dPart, dNoPart, diRng1, diAny, isI, dstart, List.set_cons_zero, List.set_cons_succ, List.map_cons, List.map_nil, List.length_cons, List.length_nil, List.cons_append, List.nil_append, Nat.reduceAdd, Nat.reduceSub, Int.reduceAdd, Int.reduceSub, List.replicate, isLst, dgTup, dgCons, dgNil, dListOf, dJoin, dIndex, dPar2, dDropX, dAsgX, dLc, wipeD, dCat, dGet2, isDic, ite_true, ite_false, if_true, if_false, reduceIte, Bool.false_eq_true, Bool.true_eq_false, and_true, true_and, rdL_lst, rdL_ref, rdS_lst, rdS_ref, rdS_tup, rdD_dic, rdD_ref, rdDL_dic, rdDL_ref, addR_ii, addR_ib, addR_ss, addR_tt, addR_LL, subR_ii, mulR_ii, modR_ii, fdivR_ii, powR_ii, ltR_ii, gtR_ii, geR_ii, keyD_s, keyD_i, dgetR, eqR_ii, eqR_ss, eqR_bb, eqR_tt, eqR_LL, neR_ii, neR_ss, neR_bb, neR_tt, neR_LL, eqM_ii, eqM_ss, eqM_bb, eqM_tt, eqM_LL, okD_i, okD_s, okD_b, okD_n, okD_t, okD_L, deck_at, deck_sum, deck_cells, deck_len, deck_put, dicOf_mup_same, lstOf_mup_same, int1R_b, int1R_i, ix_t0, ix_t1, ix_t2, ix_t3, ix_t4, lenR_t, lenR_s, lenR_L, slR_t, slR_s, slR_L, cutL_from1, cutL_from2, tup1R_L, tup1R_t, beq_self_eq_true, Bool.not_true, Bool.not_false, Option.isSome_some, List.isEmpty_nil, List.isEmpty_cons, isNotR_nn, isNotR_tn, isNotR_Ln, isNotR_sn, isNotR_in, isNotR_bn, isNotR_bb, isi_t_bool, isi_t_int, isi_t_str, isi_t_tuple, isi_t_list, isi_t_dict, isi_s_bool, isi_s_int, isi_s_str, isi_s_tuple, isi_s_list, isi_s_dict, isi_i_bool, isi_i_int, isi_i_str, isi_i_tuple, isi_i_list, isi_i_dict, isi_b_bool, isi_b_int, isi_b_str, isi_b_tuple, isi_b_list, isi_b_dict, isi_n_bool, isi_n_int, isi_n_str, isi_n_tuple, isi_n_list, isi_n_dict, isi_L_bool, isi_L_int, isi_L_str, isi_L_tuple, isi_L_list, isi_L_dict, isi_d_bool, isi_d_int, isi_d_str, isi_d_tuple, isi_d_list, isi_d_dict, natlit_eq, Int.reduceNeg, orT_some, $xs,*])
local macro_rules | `(tactic| infer_instance) => `(tactic| repeat (first | (with_reducible refine sa_lk fun Nx hNx => ?_) | (with_reducible refine sa_asg fun Nx hNx => ?_) | (with_reducible refine sa_drop fun Nx hNx => ?_) | (with_reducible refine sa_for fun Nx hNx => ?_) | (with_reducible refine sa_while fun Nx hNx => ?_) | (with_reducible refine sa_dput fun Nx hNx => ?_) | (with_reducible refine sa_dputT fun Nx hNx => ?_) | (with_reducible refine sa_lput fun Nx hNx => ?_) | (with_reducible refine sa_fput fun Nx hNx => ?_) | (with_reducible refine sa_fadd fun Nx hNx => ?_) | (with_reducible refine sa_par2 fun Nx hNx => ?_) | (with_reducible refine sa_asgX fun Nx hNx => ?_) | (with_reducible refine sa_dropX fun Nx hNx => ?_) | (simp only [dReprX_e, dNext_e, dDrop_e, dRet_e, dIfS_e, dAsg_e, dputS_e, dlputS_e, dOp_e, dVar_e, dC_e, dget_zero, dget_succ, dTest_e, dNil_e, dCons_e, dgName_e, dTup_e, dCB_e, dFresh_e, dFrz_e, dFreshD_e, dFrzD_e, dDisp_e, dBM_e, dBM0_e, dAndV_e, dOrV_e, dNotV_e, dAnd_e, dOr_e, dNot_e, dCall_e, dFor_e, dSl_e, dPart_e, dNoPart_e, diRng1_e, diAny_e, dstart, List.set_cons_zero, List.set_cons_succ, List.map_cons, List.map_nil, List.length_cons, List.length_nil, List.cons_append, List.nil_append, Nat.reduceAdd, Nat.reduceSub, Int.reduceAdd, Int.reduceSub, List.replicate, dListOf_e, dJoin_e, dIndex_e, dPar2_e, dDropX_e, dAsgX_e, dLc_e, wipeD, dCat_e, dGet2_e, ite_true, ite_false, if_true, if_false, reduceIte, Bool.false_eq_true, Bool.true_eq_false, and_true, true_and, rdL_lst, rdL_ref, rdS_lst, rdS_ref, rdS_tup, rdD_dic, rdD_ref, rdDL_dic, rdDL_ref, addR_ii, addR_ib, addR_ss, addR_tt, addR_LL, subR_ii, mulR_ii, modR_ii, fdivR_ii, powR_ii, ltR_ii, gtR_ii, geR_ii, keyD_s, keyD_i, eqR_ii, eqR_ss, eqR_bb, eqR_tt, eqR_LL, neR_ii, neR_ss, neR_bb, neR_tt, neR_LL, eqM_ii, eqM_ss, eqM_bb, eqM_tt, eqM_LL, okD_i, okD_s, okD_b, okD_n, okD_t, okD_L, deck_at, deck_sum, deck_cells, deck_len, deck_put, dicOf_mup_same, lstOf_mup_same, int1R_b, int1R_i, ix_t0, ix_t1, ix_t2, ix_t3, ix_t4, lenR_t, lenR_s, lenR_L, slR_t, slR_s, slR_L, cutL_from1, cutL_from2, tup1R_L, tup1R_t, beq_self_eq_true, Bool.not_true, Bool.not_false, Option.isSome_some, List.isEmpty_nil, List.isEmpty_cons, isNotR_nn, isNotR_tn, isNotR_Ln, isNotR_sn, isNotR_in, isNotR_bn, isNotR_bb, isi_t_bool, isi_t_int, isi_t_str, isi_t_tuple, isi_t_list, isi_t_dict, isi_s_bool, isi_s_int, isi_s_str, isi_s_tuple, isi_s_list, isi_s_dict, isi_i_bool, isi_i_int, isi_i_str, isi_i_tuple, isi_i_list, isi_i_dict, isi_b_bool, isi_b_int, isi_b_str, isi_b_tuple, isi_b_list, isi_b_dict, isi_n_bool, isi_n_int, isi_n_str, isi_n_tuple, isi_n_list, isi_n_dict, isi_L_bool, isi_L_int, isi_L_str, isi_L_tuple, isi_L_list, isi_L_dict, isi_d_bool, isi_d_int, isi_d_str, isi_d_tuple, isi_d_list, isi_d_dict, natlit_eq, Int.reduceNeg, puts, appendR_same, lenR_same, tup1R_same, sz0, sz1, sz2, sz3, sz4, sz5, sz6, sz7, sz8, sz9, sz10, ix_L0, ix_L1, ix_L2, ix_Lbs, dep_nil, dep_cons, dep_tup, dep_lst, dep_str, dep_int, dep_bl, dep_non, dep_strs, dep_ints, dep_app, dep_rules, dep_prog, dep_st, pu_nil, pu_cons, pu_tup, pu_lst, pu_str, pu_int, pu_bl, pu_non, pu_app, pureDs_str, pureDs_int, pu_rule, pu_rules, pu_prog, pu_st, eqv_self, eqvDs_nil, Bool.and_self, Bool.and_true, Bool.true_and, List.length_map, List.length_append, Int.zero_add, Nat.zero_add, cutL_to1, cutL_to2, cutL_to3, cutL_to15, List.take_succ_cons, List.take_zero, List.take_nil, List.drop_succ_cons, List.drop_zero, List.drop_nil, cutL_toN, cutL_toS, cutL_fromN, cutL_fromS, List.length_take, List.length_drop, ← List.map_take, ← List.map_drop, ← List.map_append, neR_prog0, eqR_prog0, lenR_prog, rep1, List.length_replicate, Int.toNat_natCast, ofLst_L, allLR_map, anyLR_map, ofString_beq, ofString_inj, String.reduceBEq, String.reduceEq, decide_true, decide_false, extA_t, extA_L, isSome_same, List.length_reverse, ← List.map_reverse, dYes_e, varI_s, isB_b, isI_i, isLst_r, dgTup_t, dgTup_l, dgCons_e, dgNil_e, anyI_t, anyI_s, anyI_L, anyI_r, anyR_s, someI_s, listI_1, joinI_s, isStr_s, par2I_2, catI_s, dputI_s, dputI_i, dlputI_r, dgetR_s, dgetR_i, getQ_s, getQ_i, isDic, isNotR_st, inR_natL, inR_natT, pu_nats, dep_nats, eqR_bi, cutL_mid2, cutL_from2S, dSorted_e, sortedI_L, sortedI_r, ix_L3, ix_L4, ix_L5, ix_L6, ix_L7, ix_L8, ix_L9, ix_t5, ix_t6, ix_t7, ix_t8, ix_t9, cutL_from3, cutL_from4, cutL_from5, cutL_from6, cutL_from8, cutL_to4, cutL_to5, cutL_to6, cutL_to8, cutL_to0, sortedI_t, dputTS_e, dDictT_e, dSortedT_e, sortedTI_r, dputTI_2s, dputTI_3s, cutL_toM1, cutL_fromM1, List.length_dropLast, ← List.map_dropLast, dFld_e, dFput_e, dFadd_e, dFadd2_i, dMeth_e, dMake_e, dSetd_e, dSortSet_e, dSortedK_e, orT_some, diKeys_e, lkEnds_e, dSortSetT_e, joinTI_s, dJoinT_e, exStr]) | (with_reducible refine kgo (by assumption) ?_) | ((with_reducible refine And.intro ?_ ?_); focus (first | with_reducible exact small_line2 (by omega) | with_reducible exact small_lt2 (by omega) | with_reducible exact cmul_sm (by omega) (by omega) (by omega) (by omega) | with_reducible exact cdiv_ok (by decide) (by decide) | with_reducible exact inLine_nat (by omega) | exact ⟨by omega, by omega⟩ | exact ⟨by omega, by omega, by first | omega | exact small_line2 (by decide)⟩ | omega | decide))))
local macro_rules | `(tactic| and_intros) => `(tactic| repeat (first | (with_reducible refine sa fun Nx hNx => ?_) | (simp only [dReprX_e, dNext_e, dDrop_e, dRet_e, dIfS_e, dAsg_e, dputS_e, dlputS_e, dOp_e, dVar_e, dC_e, dget_zero, dget_succ, dTest_e, dNil_e, dCons_e, dgName_e, dTup_e, dCB_e, dFresh_e, dFrz_e, dFreshD_e, dFrzD_e, dDisp_e, dBM_e, dBM0_e, dAndV_e, dOrV_e, dNotV_e, dAnd_e, dOr_e, dNot_e, dCall_e, dFor_e, dSl_e, dPart_e, dNoPart_e, diRng1_e, diAny_e, dstart, List.set_cons_zero, List.set_cons_succ, List.map_cons, List.map_nil, List.length_cons, List.length_nil, List.cons_append, List.nil_append, Nat.reduceAdd, Nat.reduceSub, Int.reduceAdd, Int.reduceSub, List.replicate, dListOf_e, dJoin_e, dIndex_e, dPar2_e, dDropX_e, dAsgX_e, dLc_e, wipeD, dCat_e, dGet2_e, ite_true, ite_false, if_true, if_false, reduceIte, Bool.false_eq_true, Bool.true_eq_false, and_true, true_and, rdL_lst, rdL_ref, rdS_lst, rdS_ref, rdS_tup, rdD_dic, rdD_ref, rdDL_dic, rdDL_ref, addR_ii, addR_ib, addR_ss, addR_tt, addR_LL, subR_ii, mulR_ii, modR_ii, fdivR_ii, powR_ii, ltR_ii, gtR_ii, geR_ii, keyD_s, keyD_i, eqR_ii, eqR_ss, eqR_bb, eqR_tt, eqR_LL, neR_ii, neR_ss, neR_bb, neR_tt, neR_LL, eqM_ii, eqM_ss, eqM_bb, eqM_tt, eqM_LL, okD_i, okD_s, okD_b, okD_n, okD_t, okD_L, deck_at, deck_sum, deck_cells, deck_len, deck_put, dicOf_mup_same, lstOf_mup_same, int1R_b, int1R_i, ix_t0, ix_t1, ix_t2, ix_t3, ix_t4, lenR_t, lenR_s, lenR_L, slR_t, slR_s, slR_L, cutL_from1, cutL_from2, tup1R_L, tup1R_t, beq_self_eq_true, Bool.not_true, Bool.not_false, Option.isSome_some, List.isEmpty_nil, List.isEmpty_cons, isNotR_nn, isNotR_tn, isNotR_Ln, isNotR_sn, isNotR_in, isNotR_bn, isNotR_bb, isi_t_bool, isi_t_int, isi_t_str, isi_t_tuple, isi_t_list, isi_t_dict, isi_s_bool, isi_s_int, isi_s_str, isi_s_tuple, isi_s_list, isi_s_dict, isi_i_bool, isi_i_int, isi_i_str, isi_i_tuple, isi_i_list, isi_i_dict, isi_b_bool, isi_b_int, isi_b_str, isi_b_tuple, isi_b_list, isi_b_dict, isi_n_bool, isi_n_int, isi_n_str, isi_n_tuple, isi_n_list, isi_n_dict, isi_L_bool, isi_L_int, isi_L_str, isi_L_tuple, isi_L_list, isi_L_dict, isi_d_bool, isi_d_int, isi_d_str, isi_d_tuple, isi_d_list, isi_d_dict, natlit_eq, Int.reduceNeg, puts, appendR_same, lenR_same, tup1R_same, sz0, sz1, sz2, sz3, sz4, sz5, sz6, sz7, sz8, sz9, sz10, ix_L0, ix_L1, ix_L2, ix_Lbs, dep_nil, dep_cons, dep_tup, dep_lst, dep_str, dep_int, dep_bl, dep_non, dep_strs, dep_ints, dep_app, dep_rules, dep_prog, dep_st, pu_nil, pu_cons, pu_tup, pu_lst, pu_str, pu_int, pu_bl, pu_non, pu_app, pureDs_str, pureDs_int, pu_rule, pu_rules, pu_prog, pu_st, eqv_self, eqvDs_nil, Bool.and_self, Bool.and_true, Bool.true_and, List.length_map, List.length_append, Int.zero_add, Nat.zero_add, cutL_to1, cutL_to2, cutL_to3, cutL_to15, List.take_succ_cons, List.take_zero, List.take_nil, List.drop_succ_cons, List.drop_zero, List.drop_nil, cutL_toN, cutL_toS, cutL_fromN, cutL_fromS, List.length_take, List.length_drop, ← List.map_take, ← List.map_drop, ← List.map_append, neR_prog0, eqR_prog0, lenR_prog, rep1, List.length_replicate, Int.toNat_natCast, ofLst_L, allLR_map, anyLR_map, ofString_beq, ofString_inj, String.reduceBEq, String.reduceEq, decide_true, decide_false, extA_t, extA_L, isSome_same, List.length_reverse, ← List.map_reverse, dYes_e, varI_s, isB_b, isI_i, isLst_r, dgTup_t, dgTup_l, dgCons_e, dgNil_e, anyI_t, anyI_s, anyI_L, anyI_r, anyR_s, someI_s, listI_1, joinI_s, isStr_s, par2I_2, catI_s, dputI_s, dputI_i, dlputI_r, dgetR_s, dgetR_i, getQ_s, getQ_i, isDic, isNotR_st, inR_natL, inR_natT, pu_nats, dep_nats, eqR_bi, cutL_mid2, cutL_from2S, dSorted_e, sortedI_L, sortedI_r, ix_L3, ix_L4, ix_L5, ix_L6, ix_L7, ix_L8, ix_L9, ix_t5, ix_t6, ix_t7, ix_t8, ix_t9, cutL_from3, cutL_from4, cutL_from5, cutL_from6, cutL_from8, cutL_to4, cutL_to5, cutL_to6, cutL_to8, cutL_to0, sortedI_t, dputTS_e, dDictT_e, dSortedT_e, sortedTI_r, dputTI_2s, dputTI_3s, cutL_toM1, cutL_fromM1, List.length_dropLast, ← List.map_dropLast, dFld_e, dFput_e, dFadd_e, dFadd2_i, dMeth_e, dMake_e, dSetd_e, dSortSet_e, dSortedK_e, orT_some, diKeys_e, lkEnds_e, dSortSetT_e, joinTI_s, dJoinT_e, exStr]) | (with_reducible refine kgo (by assumption) ?_) | ((with_reducible refine And.intro ?_ ?_); focus (first | with_reducible exact small_line2 (by omega) | with_reducible exact small_lt2 (by omega) | with_reducible exact cmul_sm (by omega) (by omega) (by omega) (by omega) | with_reducible exact cdiv_ok (by decide) (by decide) | with_reducible exact inLine_nat (by omega) | exact ⟨by omega, by omega⟩ | exact ⟨by omega, by omega, by first | omega | exact small_line2 (by decide)⟩ | omega | decide))))
local macro_rules | `(tactic| symm_saturate) => `(tactic| repeat ((with_reducible refine And.intro ?_ ?_); focus (first | with_reducible exact small_line2 (by omega) | with_reducible exact small_lt2 (by omega) | with_reducible exact cmul_sm (by omega) (by omega) (by omega) (by omega) | with_reducible exact cdiv_ok (by decide) (by decide) | with_reducible exact inLine_nat (by omega) | exact ⟨by omega, by omega⟩ | exact ⟨by omega, by omega, by first | omega | exact small_line2 (by decide)⟩ | omega | decide)))
def topS (i : Nat) : Stmt := PySem.Challenge.pw_pileruns_k17_first_missing.main.body.getD i (.Pass ⟨0, 0, 0, 0⟩)
abbrev st__law_deck : Stmt := topS 9
abbrev N__law_deck : List Str := ["_law_script", "_law_cells"]
theorem sc__law_deck : FnScope N__law_deck ["_law_script"] (defScope st__law_deck) := ⟨rfl, rfl, rfl, by decide +kernel, rfl, by decide +kernel, by decide +kernel⟩
abbrev st__law_draw : Stmt := topS 10
abbrev N__law_draw : List Str := ["_law_deck_here", "_law_most", "_law_at", "_law_cells", "_law_seed", "_law_number"]
theorem sc__law_draw : FnScope N__law_draw ["_law_deck_here", "_law_most"] (defScope st__law_draw) := ⟨rfl, rfl, rfl, by decide +kernel, rfl, by decide +kernel, by decide +kernel⟩
abbrev st__law_names : Stmt := topS 12
abbrev N__law_names : List Str := ["_law_deck_here", "_law_many", "_law_letters", "_law_signs", "_law_way", "_law_word", "_law_at", "_law_long", "_law_found", "_law_k", "_law_some", "_law_spot", "_law_sign", "_law_left", "_law_turned"]
theorem sc__law_names : FnScope N__law_names ["_law_deck_here", "_law_many"] (defScope st__law_names) := ⟨rfl, rfl, rfl, by decide +kernel, rfl, by decide +kernel, by decide +kernel⟩
abbrev st__law_numbers : Stmt := topS 13
abbrev N__law_numbers : List Str := ["_law_deck_here", "_law_most", "_law_some", "_law_turn"]
theorem sc__law_numbers : FnScope N__law_numbers ["_law_deck_here", "_law_most"] (defScope st__law_numbers) := ⟨rfl, rfl, rfl, by decide +kernel, rfl, by decide +kernel, by decide +kernel⟩
abbrev st__law_pick : Stmt := topS 11
abbrev N__law_pick : List Str := ["_law_deck_here", "_law_some"]
theorem sc__law_pick : FnScope N__law_pick ["_law_deck_here", "_law_some"] (defScope st__law_pick) := ⟨rfl, rfl, rfl, by decide +kernel, rfl, by decide +kernel, by decide +kernel⟩
abbrev st__law_machine : Stmt := topS 14
abbrev N__law_machine : List Str := ["_law_deck_here", "_law_places_here", "_law_marks", "_law_sort", "_law_most", "_law_great", "_law_numbers_here", "_law_states_here", "_law_goals", "_law_some", "_law_k", "_law_slip", "_law_mark", "_law_ends_here", "_law_state"]
theorem sc__law_machine : FnScope N__law_machine ["_law_deck_here", "_law_places_here", "_law_marks", "_law_sort", "_law_most"] (defScope st__law_machine) := ⟨rfl, rfl, rfl, by decide +kernel, rfl, by decide +kernel, by decide +kernel⟩
abbrev st__law_nearby : Stmt := topS 21
abbrev N__law_nearby : List Str := ["_law_deck_here", "_law_machine_here", "_law_places_here", "_law_marks", "_law_most", "_law_way", "_law_other", "_law_edges", "_law_ends_here", "_law_turn"]
theorem sc__law_nearby : FnScope N__law_nearby ["_law_deck_here", "_law_machine_here", "_law_places_here", "_law_marks", "_law_most"] (defScope st__law_nearby) := ⟨rfl, rfl, rfl, by decide +kernel, rfl, by decide +kernel, by decide +kernel⟩
abbrev st_Reader_init : Stmt := memS (topS 3) 0
abbrev N_Reader_init : List Str := ["self", "edges", "one", "mark", "other"]
theorem sc_Reader_init : FnScope N_Reader_init ["self", "edges"] (defScope st_Reader_init) := ⟨rfl, rfl, rfl, by decide +kernel, rfl, by decide +kernel, by decide +kernel⟩
abbrev st_Beside_init : Stmt := memS (topS 6) 0
abbrev N_Beside_init : List Str := ["self", "one", "other"]
theorem sc_Beside_init : FnScope N_Beside_init ["self", "one", "other"] (defScope st_Beside_init) := ⟨rfl, rfl, rfl, by decide +kernel, rfl, by decide +kernel, by decide +kernel⟩
abbrev st_marks_of : Stmt := topS 5
abbrev N_marks_of : List Str := ["machine", "edge"]
theorem sc_marks_of : FnScope N_marks_of ["machine"] (defScope st_marks_of) := ⟨rfl, rfl, rfl, by decide +kernel, rfl, by decide +kernel, by decide +kernel⟩
abbrev st_Reader_by : Stmt := memS (topS 3) 1
abbrev N_Reader_by : List Str := ["self", "state", "mark"]
theorem sc_Reader_by : FnScope N_Reader_by ["self", "state", "mark"] (defScope st_Reader_by) := ⟨rfl, rfl, rfl, by decide +kernel, rfl, by decide +kernel, by decide +kernel⟩
abbrev st_Reader_slipped : Stmt := memS (topS 3) 2
abbrev N_Reader_slipped : List Str := ["self", "states", "found", "waiting", "state"]
theorem sc_Reader_slipped : FnScope N_Reader_slipped ["self", "states"] (defScope st_Reader_slipped) := ⟨rfl, rfl, rfl, by decide +kernel, rfl, by decide +kernel, by decide +kernel⟩
abbrev st_Reader_on : Stmt := memS (topS 3) 3
abbrev N_Reader_on : List Str := ["self", "states", "mark", "found", "state"]
theorem sc_Reader_on : FnScope N_Reader_on ["self", "states", "mark"] (defScope st_Reader_on) := ⟨rfl, rfl, rfl, by decide +kernel, rfl, by decide +kernel, by decide +kernel⟩
abbrev st_Beside_knots : Stmt := memS (topS 6) 2
abbrev N_Beside_knots : List Str := ["self", "stand", "some", "states", "state"]
theorem sc_Beside_knots : FnScope N_Beside_knots ["self", "stand", "some", "states"] (defScope st_Beside_knots) := ⟨rfl, rfl, rfl, by decide +kernel, rfl, by decide +kernel, by decide +kernel⟩
abbrev st_Beside_onward : Stmt := memS (topS 6) 3
abbrev N_Beside_onward : List Str := ["self", "row", "marks", "found", "stand", "knot", "mark", "some", "states"]
theorem sc_Beside_onward : FnScope N_Beside_onward ["self", "row", "marks"] (defScope st_Beside_onward) := ⟨rfl, rfl, rfl, by decide +kernel, rfl, by decide +kernel, by decide +kernel⟩
abbrev st_Beside_parts : Stmt := memS (topS 6) 1
abbrev N_Beside_parts : List Str := ["self", "state", "states", "one"]
theorem sc_Beside_parts : FnScope N_Beside_parts ["self", "state", "states"] (defScope st_Beside_parts) := ⟨rfl, rfl, rfl, by decide +kernel, rfl, by decide +kernel, by decide +kernel⟩
abbrev st_states_of : Stmt := topS 2
abbrev N_states_of : List Str := ["machine", "found", "one", "mark", "other", "state"]
theorem sc_states_of : FnScope N_states_of ["machine"] (defScope st_states_of) := ⟨rfl, rfl, rfl, by decide +kernel, rfl, by decide +kernel, by decide +kernel⟩
abbrev st_is_figures : Stmt := topS 1
abbrev N_is_figures : List Str := ["thing", "sign"]
theorem sc_is_figures : FnScope N_is_figures ["thing"] (defScope st_is_figures) := ⟨rfl, rfl, rfl, by decide +kernel, rfl, by decide +kernel, by decide +kernel⟩
abbrev st_first_missing : Stmt := topS 7
abbrev N_first_missing : List Str := ["one", "other", "beside", "marks", "row", "place", "met", "fresh", "stand", "knot", "name", "state"]
theorem sc_first_missing : FnScope N_first_missing ["one", "other"] (defScope st_first_missing) := ⟨rfl, rfl, rfl, by decide +kernel, rfl, by decide +kernel, by decide +kernel⟩
abbrev st__law_states : Stmt := topS 18
abbrev N__law_states : List Str := ["_law_machine_here", "_law_some", "_law_edge"]
theorem sc__law_states : FnScope N__law_states ["_law_machine_here"] (defScope st__law_states) := ⟨rfl, rfl, rfl, by decide +kernel, rfl, by decide +kernel, by decide +kernel⟩
abbrev st__law_places : Stmt := topS 19
abbrev N__law_places : List Str := ["_law_machine_here", "_law_one"]
theorem sc__law_places : FnScope N__law_places ["_law_machine_here"] (defScope st__law_places) := ⟨rfl, rfl, rfl, by decide +kernel, rfl, by decide +kernel, by decide +kernel⟩
abbrev st__law_ends : Stmt := topS 17
abbrev N__law_ends : List Str := ["_law_machine_here", "_law_states_here", "_law_one"]
theorem sc__law_ends : FnScope N__law_ends ["_law_machine_here", "_law_states_here"] (defScope st__law_ends) := ⟨rfl, rfl, rfl, by decide +kernel, rfl, by decide +kernel, by decide +kernel⟩
abbrev st__law_slipped : Stmt := topS 15
abbrev N__law_slipped : List Str := ["_law_machine_here", "_law_states_here", "_law_found", "_law_at", "_law_s", "_law_a", "_law_t"]
theorem sc__law_slipped : FnScope N__law_slipped ["_law_machine_here", "_law_states_here"] (defScope st__law_slipped) := ⟨rfl, rfl, rfl, by decide +kernel, rfl, by decide +kernel, by decide +kernel⟩
abbrev st__law_on : Stmt := topS 16
abbrev N__law_on : List Str := ["_law_machine_here", "_law_states_here", "_law_mark", "_law_s", "_law_a", "_law_t"]
theorem sc__law_on : FnScope N__law_on ["_law_machine_here", "_law_states_here", "_law_mark"] (defScope st__law_on) := ⟨rfl, rfl, rfl, by decide +kernel, rfl, by decide +kernel, by decide +kernel⟩
abbrev st__law_first : Stmt := topS 20
abbrev N__law_first : List Str := ["_law_one", "_law_other", "_law_marks", "_law_row", "_law_place", "_law_met", "_law_fresh", "_law_pile", "_law_here", "_law_there", "_law_name", "_law_mark"]
theorem sc__law_first : FnScope N__law_first ["_law_one", "_law_other", "_law_marks"] (defScope st__law_first) := ⟨rfl, rfl, rfl, by decide +kernel, rfl, by decide +kernel, by decide +kernel⟩
abbrev st_law : Stmt := topS 22
abbrev N_law : List Str := ["_law_script", "_law_deck_here", "_law_turn", "_law_sort", "_law_names_here", "_law_places_here", "_law_marks", "_law_one", "_law_other", "_law_asked", "_law_first_here", "_law_second", "_law_told"]
theorem sc_law : FnScope N_law ["_law_script"] (defScope st_law) := ⟨rfl, rfl, rfl, by decide +kernel, rfl, by decide +kernel, by decide +kernel⟩
structure Owns (K : PySem.W.Frag) (mg : Str → Option Value) (f_Reader f_Beside f_Reader_init f_Beside_init f_Reader_by f_Reader_slipped f_Reader_on f_Beside_knots f_Beside_onward f_Beside_parts : Addr) : Prop where
  c_Reader : L2.Cls K f_Reader
  m_Reader : mg "Reader" = some (.ref f_Reader)
  n_Reader_leads : NoAttr K f_Reader "leads"
  c_Beside : L2.Cls K f_Beside
  m_Beside : mg "Beside" = some (.ref f_Beside)
  n_Beside_first : NoAttr K f_Beside "first"
  n_Beside_second : NoAttr K f_Beside "second"
  n_Beside_first_ends : NoAttr K f_Beside "first_ends"
  n_Beside_second_ends : NoAttr K f_Beside "second_ends"
  k_Reader : Mk K f_Reader f_Reader_init
  k_Beside : Mk K f_Beside f_Beside_init
  t_Reader_by : Meth K f_Reader "by" f_Reader_by
  t_Reader_slipped : Meth K f_Reader "slipped" f_Reader_slipped
  t_Reader_on : Meth K f_Reader "on" f_Reader_on
  t_Beside_knots : Meth K f_Beside "knots" f_Beside_knots
  t_Beside_onward : Meth K f_Beside "onward" f_Beside_onward
  t_Beside_parts : Meth K f_Beside "parts" f_Beside_parts
section
variable {P : Program} {w : World} {K : PySem.W.Frag} {mg : Str → Option Value} {base : Heap}
theorem draw_small {a : Int} (h0 : 0 ≤ a) (h1 : a ≤ 2 ^ 61) : a.natAbs < 2 ^ 62 := by omega
theorem draw_mod (a : Int) {m : Int} (h0 : 0 < m) (h1 : m ≤ 2 ^ 62) : (a % m).natAbs < 2 ^ 62 := by
  have := Int.emod_nonneg a (by omega : m ≠ 0)
  have := Int.emod_lt_of_pos a h0
  omega
theorem draw_tail {t most : Int} (t0 : 0 ≤ t) (t1 : t ≤ 2 ^ 61) (m0 : 0 < most) (m1 : most ≤ 2 ^ 62) (seed : Int) {Q : Int → Prop} (h : ∀ n, 0 ≤ n → n < most → Q n) :
    (0 : Int) < 2147483647 ∧ CMulW (seed % 2147483647) 48271 ∧ CMulW 69621 t ∧ CMulW (69621 * t) t ∧ (0 : Int) < 2147483629 ∧
      CMulW ((seed % 2147483647 * 48271 + 69621 * t * t + 7919) % 2147483629) ((seed % 2147483647 * 48271 + 69621 * t * t + 7919) % 2147483629) ∧ (0 : Int) < 2147483587 ∧
      CMulW ((seed % 2147483647 * 48271 + 69621 * t * t + 7919) % 2147483629 * ((seed % 2147483647 * 48271 + 69621 * t * t + 7919) % 2147483629) % 2147483587)
        ((seed % 2147483647 * 48271 + 69621 * t * t + 7919) % 2147483629 * ((seed % 2147483647 * 48271 + 69621 * t * t + 7919) % 2147483629) % 2147483587 + 39373) ∧ (0 : Int) < 2147483563 ∧
      CDivW ((seed % 2147483647 * 48271 + 69621 * t * t + 7919) % 2147483629 * ((seed % 2147483647 * 48271 + 69621 * t * t + 7919) % 2147483629) % 2147483587 *
        ((seed % 2147483647 * 48271 + 69621 * t * t + 7919) % 2147483629 * ((seed % 2147483647 * 48271 + 69621 * t * t + 7919) % 2147483629) % 2147483587 + 39373) % 2147483563) 64 ∧ 0 < most ∧
      Q ((seed % 2147483647 * 48271 + 69621 * t * t + 7919) % 2147483629 * ((seed % 2147483647 * 48271 + 69621 * t * t + 7919) % 2147483629) % 2147483587 *
        ((seed % 2147483647 * 48271 + 69621 * t * t + 7919) % 2147483629 * ((seed % 2147483647 * 48271 + 69621 * t * t + 7919) % 2147483629) % 2147483587 + 39373) % 2147483563 / 64 % most) := by
  have b1 := draw_mod seed (m := 2147483647) (by decide) (by decide)
  have bt : t.natAbs < 2 ^ 62 := draw_small t0 t1
  have b2 : (69621 * t).natAbs < 2 ^ (62 + 62) := nabs_mul (by decide) bt
  generalize seed % 2147483647 * 48271 + 69621 * t * t + 7919 = u
  have b3 := draw_mod u (m := 2147483629) (by decide) (by decide)
  generalize u % 2147483629 = v at *
  have b4 := draw_mod (v * v) (m := 2147483587) (by decide) (by decide)
  have b5 : (v * v % 2147483587 + 39373).natAbs < 2 ^ 63 := by
    have := Int.emod_nonneg (v * v) (by decide : (2147483587 : Int) ≠ 0)
    have := Int.emod_lt_of_pos (v * v) (by decide : (0 : Int) < 2147483587)
    omega
  refine ⟨by decide, cmul_ok (nabs_up b1 (by decide)) (by decide), cmul_ok (by decide) (nabs_up bt (by decide)), cmul_ok (nabs_up b2 (by decide)) (nabs_up bt (by decide)), by decide, cmul_ok (nabs_up b3 (by decide)) (nabs_up b3 (by decide)), by decide,
    cmul_ok (nabs_up b4 (by decide)) (nabs_up b5 (by decide)), by decide, cdiv_ok (by decide) (by decide), m0, h _ (Int.emod_nonneg _ (by omega)) (Int.emod_lt_of_pos _ m0)⟩
/-- a draw: some number below most; one draw less is left -/
def sp__law_draw : DSp := fun ds M R => ∃ (d : Addr) (most : Int), ds = [.ref d, .int most] ∧ ∃ c r, Deck M d c (r + 1) ∧ (0 < most ∧ most ≤ 2 ^ 62) ∧ ∀ n M', 0 ≤ n → n < most → Deck M' d c r → Upto d c M M' → R (.int n) M'
theorem draw_go {M : Mm} {d c : Addr} {r : Nat} {most : Int} {R : DQ} (D0 : Deck M d c (r + 1)) (h0 : 0 < most) (h1 : most ≤ 2 ^ 62) (k : ∀ n M', 0 ≤ n → n < most → Deck M' d c r → Upto d c M M' → R (.int n) M') : sp__law_draw [.ref d, .int most] M R := ⟨d, most, rfl, c, r, D0, ⟨h0, h1⟩, k⟩
theorem draw_B {M M0 : Mm} {d c : Addr} {n : Nat} {L : List (Addr × MO)} {most : Int} {R : DQ} (b : Bx d c n M0 L M) (hn : 1 ≤ n) (h0 : 0 < most) (h1 : most ≤ 2 ^ 62) (k : ∀ i M', 0 ≤ i → i < most → Bx d c (n - 1) M0 L M' → R (.int i) M') : sp__law_draw [.ref d, .int most] M R :=
  draw_go (r := n - 1) (b.dk.mono (by omega)) h0 h1 fun i M' h0 h1 D U => k i M' h0 h1 (b.call D U)
theorem ok__law_draw {f__law_draw : Addr} {fd__law_draw : FuncData} (F__law_draw : Fun K "_law_draw" "_law_draw" st__law_draw f__law_draw fd__law_draw) : FnOk P w K mg base CX0 1 f__law_draw fd__law_draw ["_law_deck_here", "_law_most"] (toSp K sp__law_draw) := by
  refine fn_ok (k := 0) F__law_draw sc__law_draw (fun ds M R h => ?_) (fun cdv A outer s H E hr => ⟨_, (jb_cons (js_dput hr (jv 0) je_str (je_add (je_dget hr (jv 0) je_str) je_int))
      (jb_cons (js_set (i := 2) sc__law_draw.nd (je_dget hr (jv 0) je_str))
      (jb_cons (js_set (i := 3) sc__law_draw.nd (je_dget hr (jv 0) je_str))
      (jb_cons (js_set (i := 4) sc__law_draw.nd (je_add (je_dget hr (jv 0) je_str) (jv 2)))
      (jb_cons (js_if (jt_ne hr (jv 3) (je_frz (jl_disp ja_nil))) (jb_cons (js_set (i := 4) sc__law_draw.nd (je_popAt (jv 3) je_int)) (jb_one (js_if (jt_ge (jv 4) (je_pow je_int je_int)) (jb_cons (js_expr (je_insert (jv 3) je_int (je_fdiv (jv 4) (jv 1)))) (jb_one (js_ret (je_mod (jv 4) (jv 1))))) jb_nil))) jb_nil)
      (jb_cons (js_set (i := 5) sc__law_draw.nd (je_mod (je_add (je_add (je_mul (je_mod (jv 4) je_int) je_int) (je_mul (je_mul je_int (jv 2)) (jv 2))) je_int) je_int))
      (jb_cons (js_set (i := 5) sc__law_draw.nd (je_mod (je_mul (jv 5) (jv 5)) je_int))
      (jb_one (js_ret (je_mod (je_fdiv (je_mod (je_mul (jv 5) (je_add (jv 5) je_int)) je_int) je_int) (jv 1))))))))))), fun ds M R h => ?_⟩)
  · unfold sp__law_draw at h
    first | (obtain ⟨rfl, _⟩ := h; rfl) | (obtain ⟨_, rfl, _⟩ := h; rfl) | (obtain ⟨_, _, rfl, _⟩ := h; rfl) | (obtain ⟨_, _, _, rfl, _⟩ := h; rfl) | (obtain ⟨_, _, _, _, rfl, _⟩ := h; rfl) | (obtain ⟨_, _, _, _, _, rfl, _⟩ := h; rfl) | (obtain ⟨_, _, _, _, _, _, rfl, _⟩ := h; rfl) | (obtain ⟨_, _, _, _, _, _, _, rfl, _⟩ := h; rfl) | (obtain ⟨_, _, _, _, _, _, _, _, rfl, _⟩ := h; rfl) | (obtain ⟨_, _, _, _, _, _, _, _, _, rfl, _⟩ := h; rfl) | (obtain ⟨_, _, _, _, _, _, _, _, _, _, rfl, _⟩ := h; rfl) | (split at h <;> first | rfl | exact h.elim)
  · unfold sp__law_draw at h
    obtain ⟨d, most, rfl, c, r, ⟨hdc, ⟨cs, at_, sm⟩, ⟨o1, o2, o3⟩, e1, e2⟩, ⟨hm0, hm1⟩, k⟩ := h
    simp only at o1 o2 o3 e1 e2
    have hcd := hdc.symm
    have f1 := dicOf_some e1
    dsimp? only [N__law_draw, f1]
    refine ⟨by decide, by decide, ?_⟩
    have g1 : lstOf (mup M d (.dic (deckD c ⟨cs, at_ + 1, sm⟩))) c = some (cs.map D.int) := by
      rw [lstOf_mup_ne hcd]
      exact lstOf_some e2
    refine ne_nil_l g1 (pureDs_int _) (Nat.le_trans (depDs_int _) (by decide)) ?_
    dsimp? only [g1]
    have t0 : 0 ≤ at_ + 1 := by omega
    have t1 : at_ + 1 ≤ 2 ^ 61 := by omega
    have t2 : at_ + 1 + (r : Int) ≤ 2 ^ 60 := by omega
    -- the answer, the deck's cells being cs'
    have fin : ∀ (cs' : List Int) (M1 : Mm), cs'.length ≤ 63 → (∀ a, a ≠ d → a ≠ c → M1 a = M a) → M1 d = some (.dic (deckD c ⟨cs, at_ + 1, sm⟩)) → M1 c = some (.lst (cs'.map D.int)) → ∀ n, 0 ≤ n → n < most → Shr R (.int n) M1 := by
      intro cs' M1 hl hM h1 h2 n n0 n1
      exact Shr.all (k n _ n0 n1 ⟨hdc, ⟨cs', at_ + 1, sm⟩, ⟨hl, t0, t2⟩, h1, h2⟩ hM)
    cases cs with
    | nil =>
      dsimp? only [List.map_nil, List.isEmpty_nil, Bool.not_true]
      refine draw_tail t0 t1 hm0 hm1 _ fun n n0 n1 => fin [] _ (by decide) (fun a h1 h2 => ?_) ?_ ?_ n n0 n1
      · rw [mup_ne h1]
      · rw [mup_same]
      · rw [mup_ne hcd]; exact e2
    | cons z zs =>
      rw [List.map_cons] at g1
      dsimp? only [List.map_cons, List.isEmpty_cons, Bool.not_false, popAtR, g1]
      refine ⟨⟨by decide, by decide⟩, ?_⟩
      dsimp? only [Int.toNat_zero, List.getElem?_cons_zero, List.eraseIdx_cons_zero, insertR]
      refine ⟨⟨by decide, by decide, by decide⟩, ?_⟩
      have o1' : zs.length ≤ 62 := by simpa using o1
      split
      · refine ⟨cdiv_ok hm0 (by omega), ⟨?_, by decide, by decide⟩, hm0, ?_⟩
        · rw [List.length_map]
          exact Nat.lt_of_le_of_lt o1' (by decide)
        · refine fin (z / most :: zs) _ (by simpa using o1') (fun a h1 h2 => ?_) ?_ ?_ _ (Int.emod_nonneg _ (by omega)) (Int.emod_lt_of_pos _ hm0)
          · rw [mup_ne h2, mup_ne h2, mup_ne h1]
          · rw [mup_ne hdc, mup_ne hdc, mup_same]
          · rw [mup_same]
            rfl
      · refine draw_tail t0 t1 hm0 hm1 _ fun n n0 n1 => fin zs _ (by omega) (fun a h1 h2 => ?_) ?_ ?_ n n0 n1
        · rw [mup_ne h2, mup_ne h1]
        · rw [mup_ne hdc, mup_same]
        · rw [mup_same]
/-- names: so many -/
def sp__law_names : DSp := fun ds M R => ∃ (d : Addr) (many : Nat), ds = [.ref d, .int many] ∧ many ≤ 26 ∧ ∃ c r, Deck M d c (r + 100) ∧
  ∀ (ns : List Str) M', ns.length = many → (∀ n ∈ ns, NameS n) → ns.Nodup → Deck M' d c r → Upto d c M M' → R (.lst (ns.map D.str)) M'
theorem names_goN {M : Mm} {d c : Addr} {r many : Nat} {R : DQ} (D0 : Deck M d c (r + 100)) (hm : many ≤ 26) (k : ∀ (ns : List Str) M', ns.length = many → (∀ n ∈ ns, NameS n) → ns.Nodup → Deck M' d c r → Upto d c M M' → R (.lst (ns.map D.str)) M') : sp__law_names [.ref d, .int many] M R := ⟨d, many, rfl, hm, c, r, D0, k⟩
theorem names_go {M : Mm} {d c : Addr} {r many : Nat} {R : DQ} (D0 : Deck M d c (r + 100)) (hm : many ≤ 26) (k : ∀ (ns : List Str) M', ns.length = many → (∀ n ∈ ns, NameS n) → Deck M' d c r → Upto d c M M' → R (.lst (ns.map D.str)) M') : sp__law_names [.ref d, .int many] M R := names_goN D0 hm fun ns M' h1 h2 _ D U => k ns M' h1 h2 D U
theorem ok__law_names {f__law_names f__law_draw : Addr} {fd__law_names fd__law_draw : FuncData} (F__law_names : Fun K "_law_names" "_law_names" st__law_names f__law_names fd__law_names) (G__law_draw : FnOk P w K mg base CX0 1 f__law_draw fd__law_draw ["_law_deck_here", "_law_most"] (toSp K sp__law_draw)) (g__law_draw : mg "_law_draw" = some (.ref f__law_draw)) (k__law_draw : PySem.W.keepIn K (.ref f__law_draw) = true) (b__law_draw : Binds K fd__law_draw ["_law_deck_here", "_law_most"] []) (z_range : mg "range" = none) (z_int : mg "int" = none) (z_len : mg "len" = none) (z_list : mg "list" = none) : FnOk P w K mg base CX0 2 f__law_names fd__law_names ["_law_deck_here", "_law_many"] (toSp K sp__law_names) := by
  refine fn_ok (k := 1) F__law_names sc__law_names (fun ds M R h => ?_) (fun cdv A outer s H E hr => ⟨_, (jb_cons (js_set (i := 2) sc__law_names.nd je_str)
      (jb_cons (js_set (i := 3) sc__law_names.nd (je_add (jv 2) je_str))
      (jb_cons (js_set (i := 4) sc__law_names.nd (je_call G__law_draw (hr.mono (by decide)) (by rfl) g__law_draw k__law_draw b__law_draw (ja_cons (jv 0) (ja_cons je_int ja_nil))))
      (jb_cons (js_set (i := 5) sc__law_names.nd (je_add (je_ix (jv 2) (je_call G__law_draw (hr.mono (by decide)) (by rfl) g__law_draw k__law_draw b__law_draw (ja_cons (jv 0) (ja_cons je_int ja_nil)))) (je_join je_str (je_frz (jl_lc rfl sc__law_names.nd (jlc (ji_rng1 (by rfl) z_range je_int) (blkOk_by (own := [("_law_k", 9)]) (N := N__law_names) (sc := defScope st__law_names) (by decide +kernel)) (fun _ _ _ _ _ => (jgv_name (i := 9) sc__law_names.nd (by decide))) (fun _ _ _ _ _ => jts_nil) (fun _ _ _ _ _ => (je_ix (jv 3) (je_call G__law_draw (hr.mono (by decide)) (by rfl) g__law_draw k__law_draw b__law_draw (ja_cons (jv 0) (ja_cons je_int ja_nil)))))))))))
      (jb_cons (js_set (i := 6) sc__law_names.nd (je_call G__law_draw (hr.mono (by decide)) (by rfl) g__law_draw k__law_draw b__law_draw (ja_cons (jv 0) (ja_cons je_int ja_nil))))
      (jb_cons (js_set (i := 7) sc__law_names.nd (je_ix (je_frz (jl_disp (ja_cons (je_add je_int (je_call G__law_draw (hr.mono (by decide)) (by rfl) g__law_draw k__law_draw b__law_draw (ja_cons (jv 0) (ja_cons je_int ja_nil)))) (ja_cons (je_add (je_add (jv 6) je_int) (je_call G__law_draw (hr.mono (by decide)) (by rfl) g__law_draw k__law_draw b__law_draw (ja_cons (jv 0) (ja_cons (je_sub je_int (jv 6)) ja_nil)))) ja_nil)))) (je_int1 z_int (ja_cons (je_eq hr (jv 4) je_int) ja_nil))))
      (jb_cons (js_set (i := 8) sc__law_names.nd (je_fresh (jl_disp ja_nil)))
      (jb_cons (js_for PassesOwn.never rfl (ji_rng1 (by rfl) z_range (jv 1)) (jg_name (i := 9) sc__law_names.nd) (jb_one (js_if (JW.jt (jw_and (jt_eq hr (jv 4) je_int) (jw_and1 (jt_lt (jv 1) je_int)))) (jb_one (js_expr (je_append (jv 8) (je_slice (jv 5) jo_none (jo_some (je_add (jv 9) je_int)))))) (jb_cons (js_set (i := 10) sc__law_names.nd (je_ix (je_frz (jl_disp (ja_cons (jv 2) (ja_cons (jv 3) ja_nil)))) (je_int1 z_int (ja_cons (je_gt (jv 6) je_int) ja_nil)))) (jb_cons (js_set (i := 11) sc__law_names.nd (je_ix (je_frz (jl_disp (ja_cons je_int (ja_cons (jv 6) ja_nil)))) (je_int1 z_int (ja_cons (je_eq hr (jv 4) je_int) ja_nil)))) (jb_cons (js_set (i := 12) sc__law_names.nd (je_ix (jv 2) (je_mod (je_add (je_sindex (jv 2) (je_ix (jv 5) je_int)) (jv 9)) je_int))) (jb_cons (js_if (jt_gt (jv 11) je_int) (jb_one (js_set (i := 12) sc__law_names.nd (je_ix (jv 10) (je_mod (je_add (je_sindex (jv 10) (je_ix (jv 5) (jv 11))) (jv 9)) (je_len z_len (ja_cons (jv 10) ja_nil)))))) jb_nil) (jb_one (js_expr (je_append (jv 8) (je_add (je_add (je_slice (jv 5) jo_none (jo_some (jv 11))) (jv 12)) (je_slice (jv 5) (jo_some (je_add (jv 11) je_int)) (jo_some (jv 7))))))))))))))
      (jb_cons (js_set (i := 13) sc__law_names.nd (je_fresh (jl_list z_list (ja_cons (jv 8) ja_nil))))
      (jb_cons (js_set (i := 14) sc__law_names.nd (je_fresh (jl_disp ja_nil)))
      (jb_cons (js_while PassesOwn.never (jt_ne hr (jv 13) (je_frz (jl_disp ja_nil))) (jb_one (js_expr (je_append (jv 14) (je_popAt (jv 13) (je_call G__law_draw (hr.mono (by decide)) (by rfl) g__law_draw k__law_draw b__law_draw (ja_cons (jv 0) (ja_cons (je_len z_len (ja_cons (jv 13) ja_nil)) ja_nil))))))))
      (jb_one (js_ret (jv 14)))))))))))))), fun ds M R h => ?_⟩)
  · unfold sp__law_names at h
    first | (obtain ⟨rfl, _⟩ := h; rfl) | (obtain ⟨_, rfl, _⟩ := h; rfl) | (obtain ⟨_, _, rfl, _⟩ := h; rfl) | (obtain ⟨_, _, _, rfl, _⟩ := h; rfl) | (obtain ⟨_, _, _, _, rfl, _⟩ := h; rfl) | (obtain ⟨_, _, _, _, _, rfl, _⟩ := h; rfl) | (obtain ⟨_, _, _, _, _, _, rfl, _⟩ := h; rfl) | (obtain ⟨_, _, _, _, _, _, _, rfl, _⟩ := h; rfl) | (obtain ⟨_, _, _, _, _, _, _, _, rfl, _⟩ := h; rfl) | (obtain ⟨_, _, _, _, _, _, _, _, _, rfl, _⟩ := h; rfl) | (obtain ⟨_, _, _, _, _, _, _, _, _, _, rfl, _⟩ := h; rfl) | (split at h <;> first | rfl | exact h.elim)
  · unfold sp__law_names at h
    obtain ⟨d, many, rfl, hm, c, r, D0, k⟩ := h
    dsimp? only [N__law_names]
    refine ⟨by decide +kernel, ?_⟩
    refine draw_go (r := r + 99) (D0.mono (by omega)) (by decide) (by decide) fun way M1 w0 w1 D1 U1 => ?_
    refine draw_go (r := r + 98) D1 (by decide) (by decide) fun i0 M2 a2 b2 D2 U2 => ?_
    obtain ⟨c0, hc0, mc0⟩ := lets_get (j := i0.toNat) (by omega)
    refine ix_s a2 (by rw [cps_lets]; exact hc0) (by decide +kernel) ⟨by decide, ?_⟩
    refine lcW_deck (d := d) (c := c) (r := r + 91) 1 (fun y => ∃ c, c ∈ sgns ∧ y = .str ⟨#[c]⟩) (by decide) (D2.mono (by simp [rangeD])) (fun _ _ => trivial) (fun x hx r' M3 N F D3 U3 hN => ?_) (fun ys M3 hl hP D3 U3 => ?_)
    · simp? only [dYes]
      refine draw_go D3 (by decide) (by decide) fun n M4 a4 b4 D4 U4 => ?_
      obtain ⟨e, he, me⟩ := sgns_get (j := n.toNat) (by omega)
      exact ix_s a4 (by rw [cps_sgns]; exact he) (by decide +kernel) (hN _ _ ⟨e, me, rfl⟩ D4 (U3.trans U4))
    · obtain ⟨cs, rfl, hcs, hlen⟩ := all_map (fun c => D.str ⟨#[c]⟩) (· ∈ sgns) hP
      have hcl : cs.length = 7 := by rw [hlen, hl]; simp [rangeD]
      refine joinQ_map (fun c => (⟨#[c]⟩ : Str)) (by rw [sum_ones]; simp [hcl]; decide +kernel) ?_
      obtain ⟨w, hw, ew⟩ : ∃ w : Str, cps w = c0 :: cs ∧ w = (⟨#[c0]⟩ : Str) ++ Txt.join ("" : Str) (cs.map fun c => (⟨#[c]⟩ : Str)) := ⟨_, by rw [cps_append, cps_one, join_signs]; rfl, rfl⟩
      dsimp? only []
      rw [← ew]
      refine ⟨?_, ?_⟩
      · rw [cps_len, cps_len, join_signs, hcl]; show 1 + 7 ≤ sizeLine; decide +kernel
      refine draw_go (r := r + 90) D3 (by decide) (by decide) fun at_ M4 at0 at1 D4 U4 => ?_
      refine draw_go (r := r + 89) D4 (by decide) (by decide) fun l1 M5 a5 b5 D5 U5 => ?_
      try dsimp? only []
      refine draw_go (r := r + 88) (most := 8 - at_) D5 (by omega) (by omega) fun l2 M6 a6 b6 D6 U6 => ?_
      try dsimp? only []
      refine ⟨by decide, ?_⟩
      refine ix_Lb ⟨by decide, fun p hp => ⟨inLine_nat (by omega), ?_⟩⟩
      have U06 : Upto d c M M6 := U1.trans <| U2.trans <| U3.trans (U4.trans (U5.trans U6))
      have hpd := D6.nd hp
      have hpc := D6.nc hp
      have hp0 : M p = none := U06.fresh D6 hp
      have hwl : w.length ≤ sizeLine := len_le hw (by simp [hcl])
      obtain ⟨long, hlong, hl1, hl8⟩ : ∃ long : Nat, (if (way == 1) = true then D.int (at_ + 1 + l2) else D.int (1 + l1)) = .int (long : Int) ∧ 1 ≤ long ∧ long ≤ 8 ∧ (way = 1 → at_ < long) := by
        split
        · exact ⟨(at_ + 1 + l2).toNat, by congr 1; omega, by omega, by omega, fun _ => by omega⟩
        · rename_i hw
          exact ⟨(1 + l1).toNat, by congr 1; omega, by omega, by omega, fun e => by simp [e] at hw⟩
      rw [hlong, Int.toNat_natCast]
      refine forW_rng (fun i ds M' => ∃ (ns : List Str) (x9 x10 x11 x12 : Option D), ds = [some (D.ref d), some (D.int many), some (D.str (Str.ofString "abcdefghijklmnopqrstuvwxyz")), some (D.str (Str.ofString "abcdefghijklmnopqrstuvwxyz" ++ Str.ofString "0123456789")),
          some (D.int way), some (D.str w), some (D.int at_), some (.int (long : Int)), some (D.ref p), x9, x10, x11, x12, none, none] ∧ ns.length = i ∧ i ≤ many ∧ (∀ n ∈ ns, NameS n) ∧ (∀ a z, ns[a]? = some z → nameG (way == 2 && decide (many < 9)) (if way = 1 then at_.toNat else 0) (c0 :: cs) z = a) ∧ lstOf M' p = some (ns.map D.str) ∧ Ext d c M M' ∧ Deck M' d c (r + 88))
        (fun i N hi hN ds M' hI => ?_) (fun ds M' hI => ?_) _ _ ⟨[], none, none, none, none, rfl, rfl, Nat.zero_le _, by simp, by simp, lstOf_mup_same, (U06.ext).new hp, D6.up hp⟩
      · obtain ⟨ns, x9, x10, x11, x12, rfl, hnl, hi2, hns, hG, hL, hX, hD⟩ := hI
        have fin : ∀ (z : Str) (y9 y10 y11 y12 : Option D), NameS z → nameG (way == 2 && decide (many < 9)) (if way = 1 then at_.toNat else 0) (c0 :: cs) z = i → isLst (.ref p) M' ∧ appendR (.ref p) [.str z] M' fun _ M1 => N [some (D.ref d), some (D.int many), some (D.str (Str.ofString "abcdefghijklmnopqrstuvwxyz")), some (D.str (Str.ofString "abcdefghijklmnopqrstuvwxyz" ++ Str.ofString "0123456789")),
            some (D.int way), some (D.str w), some (D.int at_), some (.int (long : Int)), some (D.ref p), y9, y10, y11, y12, none, none] M1 := by
          intro z y9 y10 y11 y12 hz hzG
          refine ⟨by simp [isLst, hL], append_go hL (by rw [List.length_map]; exact small_ltline (by omega)) (hN _ _ ⟨ns ++ [z], y9, y10, y11, y12, rfl, by simp [hnl], by omega, fun n hn => ?_, fun a y hy => ?_, by rw [lstOf_mup_same]; simp, hX.put hp0, hD.keep hpd hpc⟩)⟩
          rotate_left
          · rw [List.getElem?_append] at hy
            split at hy
            · exact hG a y hy
            · rename_i hge
              have ha : a = i := by
                have := (List.getElem?_eq_some_iff.mp hy).1
                simp at this; omega
              subst ha
              have : z = y := by rw [hnl, Nat.sub_self] at hy; simpa using hy
              rw [← this]; exact hzG
          rcases List.mem_append.mp hn with hn | hn
          · exact hns n hn
          · rw [List.mem_singleton.mp hn]; exact hz
        have hmem : ∀ x ∈ c0 :: cs, x ∈ sgns := fun x hx => by
          rcases List.mem_cons.mp hx with rfl | hx
          · exact lets_sgns mc0
          · exact hcs x hx
        try simp? only []
        refine ifs2 (fun hwy hm9 => ?_) (fun hnw => ?_)
        · obtain ⟨f1, f2⟩ := fin (cutS w none (some (0 + (i : Int) + 1))) _ _ _ _ (by show NameL _; rw [cut_nat, hw]; exact name_take mc0 hcs (by omega) i) (by
            have hm9' : many < 9 := by have := of_decide_eq_true hm9; omega
            rw [hwy, show decide (many < 9) = true by simpa using hm9', show (true && true) = true from rfl]
            exact nameG_way (by rw [cut_nat, hw]) (by rw [List.length_cons, hcl]; omega))
          exact ⟨by simp [hL], hwl, f2⟩
        · try dsimp? only []
          refine ⟨by decide, ix_Lb ?_⟩
          obtain ⟨some_, hsome⟩ : ∃ z : D, z = (if decide (0 < at_) = true then D.str (Str.ofString "abcdefghijklmnopqrstuvwxyz" ++ Str.ofString "0123456789") else D.str (Str.ofString "abcdefghijklmnopqrstuvwxyz")) := ⟨_, rfl⟩
          rw [← hsome]
          refine ⟨by decide, ix_Lb ?_⟩
          obtain ⟨spot, hspot, hs7, hs8⟩ : ∃ spot : Nat, (if (way == 1) = true then D.int at_ else D.int 0) = .int (spot : Int) ∧ spot ≤ 7 ∧ (0 < spot → way = 1 ∧ at_ = spot) := by
            split
            · rename_i hw
              exact ⟨at_.toNat, by congr 1; omega, by omega, fun _ => ⟨by simpa using hw, by omega⟩⟩
            · exact ⟨0, rfl, by omega, by omega⟩
          have hsp : (if way = 1 then at_.toNat else 0) = spot := by
            by_cases h1 : way = 1
            · rw [if_pos h1]; rw [if_pos (by simp [h1])] at hspot; injection hspot with hspot; omega
            · rw [if_neg h1]; rw [if_neg (by simp [h1])] at hspot; injection hspot with hspot; omega
          have hway0 : (way == 2 && decide (many < 9)) = false := by
            cases hb : (way == 2 && decide (many < 9)) with
            | false => rfl
            | true =>
              rw [Bool.and_eq_true] at hb
              exact absurd ⟨hb.1, by have := of_decide_eq_true hb.2; simpa using (by omega : ((many : Int) < 9))⟩ hnw
          rw [hspot]
          refine ix_s (c := c0) (by decide) (by rw [hw]; rfl) hwl ?_
          refine index_letsI mc0 fun hj => ?_
          obtain ⟨j, hjd⟩ : ∃ j, j = lets.idxOf c0 := ⟨_, rfl⟩
          rw [← hjd] at hj ⊢
          try dsimp? only []
          refine ⟨by decide, ?_⟩
          obtain ⟨c1, hc1, mc1⟩ := lets_get (j := (((j : Int) + (0 + (i : Int))) % 26).toNat) (by omega)
          refine ix_s (by omega) (by rw [cps_lets]; exact hc1) (by decide +kernel) ?_
          try dsimp? only []
          -- what is put
          have fin2 : ∀ (e : Nat) (y9 y10 y11 y12 : Option D), e ∈ sgns → (spot = 0 → e ∈ lets) → (∀ z : Str, cps z = (c0 :: cs).take spot ++ [e] ++ ((c0 :: cs).drop (spot + 1)).take (long - (spot + 1)) → nameG (way == 2 && decide (many < 9)) (if way = 1 then at_.toNat else 0) (c0 :: cs) z = i) → (lstOf M' p).isSome = true ∧ w.length ≤ sizeLine ∧ (cutS w none (some (spot : Int))).length + (⟨#[e]⟩ : Str).length ≤ sizeLine ∧ w.length ≤ sizeLine ∧
              (cutS w none (some (spot : Int)) ++ (⟨#[e]⟩ : Str)).length + (cutS w (some ((spot : Int) + 1)) (some (long : Int))).length ≤ sizeLine ∧
              appendR (.ref p) [.str (cutS w none (some (spot : Int)) ++ (⟨#[e]⟩ : Str) ++ cutS w (some ((spot : Int) + 1)) (some (long : Int)))] M' fun _ M1 => N [some (D.ref d), some (D.int many), some (D.str (Str.ofString "abcdefghijklmnopqrstuvwxyz")), some (D.str (Str.ofString "abcdefghijklmnopqrstuvwxyz" ++ Str.ofString "0123456789")),
            some (D.int way), some (D.str w), some (D.int at_), some (.int (long : Int)), some (D.ref p), y9, y10, y11, y12, none, none] M1 := by
            intro e y9 y10 y11 y12 me ml mG
            have e1 : cps (cutS w none (some (spot : Int))) = (c0 :: cs).take spot := by rw [cps_cut, hw, cutL_to]
            have e2 : cps (cutS w (some ((spot : Int) + 1)) (some (long : Int))) = ((c0 :: cs).drop (spot + 1)).take (long - (spot + 1)) := by rw [cps_cut, hw, show (spot : Int) + 1 = ((spot + 1 : Nat) : Int) by omega, cutL_mid]
            have e3 : cps (cutS w none (some (spot : Int)) ++ (⟨#[e]⟩ : Str)) = (c0 :: cs).take spot ++ [e] := by rw [cps_append, e1, cps_one]
            refine ⟨by simp [hL], hwl, ?_, hwl, ?_, ?_⟩
            · rw [cps_len, cps_len, e1, cps_one]; exact small_line (by simp only [List.length_take, List.length_cons, List.length_nil]; omega)
            · rw [cps_len, cps_len, e3, e2]; exact small_line (by simp only [List.length_append, List.length_take, List.length_drop, List.length_cons, List.length_nil]; omega)
            · refine (fin _ _ _ _ _ ?_ (mG _ (by rw [cps_append, e3, e2]))).2
              show NameL _
              rw [cps_append, e3, e2]
              have hlen : ((c0 :: cs).take spot ++ [e] ++ ((c0 :: cs).drop (spot + 1)).take (long - (spot + 1))).length ≤ 8 := by
                simp only [List.length_append, List.length_take, List.length_drop, List.length_cons, List.length_nil]; omega
              refine ⟨?_, fun x hx => ?_, hlen⟩
              · cases spot with
                | zero => exact ⟨e, _, rfl, ml rfl⟩
                | succ s => exact ⟨c0, _, rfl, mc0⟩
              · rcases List.mem_append.mp hx with hx | hx
                · rcases List.mem_append.mp hx with hx | hx
                  · exact hmem x (List.mem_of_mem_take hx)
                  · rw [List.mem_singleton.mp hx]; exact me
                · exact hmem x (List.mem_of_mem_drop (List.mem_of_mem_take hx))
          refine ifs (fun h0 => ?_) (fun h0 => ?_)
          · have h0 : 0 < spot := by simpa using h0
            obtain ⟨hw1, hat⟩ := hs8 h0
            have hsg : some_ = D.str (Str.ofString "abcdefghijklmnopqrstuvwxyz" ++ Str.ofString "0123456789") := by rw [hsome, if_pos (by simp; omega)]
            clear hsome
            subst hsg
            obtain ⟨e, he, me⟩ : ∃ e, (c0 :: cs)[spot]? = some e ∧ e ∈ sgns := by
              have : spot < (c0 :: cs).length := by simp [hcl]; omega
              exact ⟨_, List.getElem?_eq_getElem this, hmem _ (List.getElem_mem _)⟩
            refine ⟨trivial, ix_s (c := e) (by omega) (by rw [hw]; simpa using he) hwl ?_⟩
            refine index_sgnsI me fun hj2 => ?_
            obtain ⟨j2, hjd2⟩ : ∃ j, j = sgns.idxOf e := ⟨_, rfl⟩
            rw [← hjd2] at hj2 ⊢
            try dsimp? only []
            refine ⟨by decide +kernel, ?_⟩
            rw [show ((Str.ofString "abcdefghijklmnopqrstuvwxyz" ++ Str.ofString "0123456789").length : Int) = 36 by decide +kernel]
            obtain ⟨c2, hc2, mc2⟩ := sgns_get (j := (((j2 : Int) + (0 + (i : Int))) % 36).toNat) (by omega)
            refine ⟨by decide, ix_s (by omega) (by rw [cps_sgns]; exact hc2) (by decide +kernel) ?_⟩
            exact fin2 c2 _ _ _ _ mc2 (by omega) (fun z hz => by
              rw [hway0, hsp]
              have hgd : (c0 :: cs).getD spot 0 = e := by rw [List.getD_eq_getElem?_getD, he]; rfl
              refine nameG_sgn hz h0 (by rw [List.length_cons, hcl]; omega) (by omega) (by rw [hgd, ← hjd2]; exact hj2) ?_
              rw [hgd, ← hjd2, ← hc2]
              congr 1
              omega)
          · exact fin2 c1 _ _ _ _ (lets_sgns mc1) (fun _ => mc1) (fun z hz => by
              rw [hway0, hsp]
              have hs0 : spot = 0 := by simpa using h0
              subst hs0
              refine nameG_let (e := c1) (r := ((c0 :: cs).drop (0 + 1)).take (long - (0 + 1))) (by rw [hz]; simp) (by omega) (by rw [show (c0 :: cs).getD 0 0 = c0 from rfl, ← hjd]; exact hj) ?_
              rw [show (c0 :: cs).getD 0 0 = c0 from rfl, ← hjd, ← hc1]
              congr 1
              omega)
      · obtain ⟨ns, x9, x10, x11, x12, rfl, hnl, hi2, hns, hG, hL, hX, hD⟩ := hI
        have hnd : ns.Nodup := nodup_left hG
        dsimp? only [hL]
        refine fun q hq => ⟨by decide, fun t ht => ?_⟩
        have hqd := hD.nd hq
        have hqc := hD.nc hq
        have hq0 : M q = none := hX.fresh hD hq
        have hD2 : Deck (mup M' q (.lst (ns.map D.str))) d c (r + 88) := hD.up hq
        have htd := hD2.nd ht
        have htc := hD2.nc ht
        have ht0 : M t = none := (hX.new hq).fresh hD2 ht
        have htq : t ≠ q := by rintro rfl; rw [mup_same] at ht; cases ht
        refine whileN_go (fun m ds M2 => ∃ (ls ts : List Str) , ds = [some (D.ref d), some (D.int many), some (D.str (Str.ofString "abcdefghijklmnopqrstuvwxyz")), some (D.str (Str.ofString "abcdefghijklmnopqrstuvwxyz" ++ Str.ofString "0123456789")),
          some (D.int way), some (D.str w), some (D.int at_), some (.int (long : Int)), some (D.ref p), x9, x10, x11, x12, some (D.ref q), some (D.ref t)] ∧ ls.length = m ∧ ls.length + ts.length = many ∧ (∀ n ∈ ls, NameS n) ∧ (∀ n ∈ ts, NameS n) ∧ (ls ++ ts).Nodup ∧
          lstOf M2 q = some (ls.map D.str) ∧ lstOf M2 t = some (ts.map D.str) ∧ Ext d c M M2 ∧ Deck M2 d c (r + m)) (fun N ds M2 hI => ?_) (fun m N hN ds M2 hI => ?_) many _ _
          ⟨ns, [], rfl, by omega, by simp; omega, hns, by simp, by simpa using hnd, lstOf_keep htq.symm lstOf_mup_same, lstOf_mup_same, (hX.new hq).new ht, (hD2.up ht).mono (by omega)⟩
        · obtain ⟨ls, ts, rfl, hl0, hlt, h1, h2, hn2, e1, e2, hX2, hD3⟩ := hI
          have : ls = [] := List.eq_nil_of_length_eq_zero hl0
          subst this
          try simp? only []
          refine ⟨by decide, ne_nil_l e1 (pureDs_str _) (Nat.le_trans (depDs_str _) (by decide)) ?_⟩
          exact Shr.deckL D0 ht0 e2 hX2 hD3 fun M3 U D3 => k ts M3 (by simpa using hlt) h2 (by simpa using hn2) D3 U
        · obtain ⟨ls, ts, rfl, hl0, hlt, h1, h2, hn2, e1, e2, hX2, hD3⟩ := hI
          try simp? only []
          refine ⟨by decide, ne_nil_l e1 (pureDs_str _) (Nat.le_trans (depDs_str _) (by decide)) ?_⟩
          obtain ⟨l0, lr, rfl⟩ : ∃ l0 lr, ls = l0 :: lr := by
            cases ls with
            | nil => simp at hl0
            | cons a b => exact ⟨a, b, rfl⟩
          dsimp? only [List.isEmpty_cons, e2]
          refine ⟨by simp [e1], len_l e1 ?_⟩
          refine draw_go (r := r + m) (hD3.mono (by omega)) (by simp at hlt ⊢; try omega) (by simp at hlt ⊢; omega) fun j M3 j0 j1 D3 U3 => ?_
          have e1' : lstOf M3 q = some ((l0 :: lr).map D.str) := by rw [U3.lst hqd hqc]; exact e1
          have e2' : lstOf M3 t = some (ts.map D.str) := by rw [U3.lst htd htc]; exact e2
          obtain ⟨z, hz, mz⟩ : ∃ z, (l0 :: lr)[j.toNat]? = some z ∧ z ∈ (l0 :: lr) := by
            have : j.toNat < (l0 :: lr).length := by simp at j1 ⊢; omega
            exact ⟨_, List.getElem?_eq_getElem this, List.getElem_mem _⟩
          refine popAt_go (d := .str z) e1' j0 (by simp at j1 hlt; omega) (by rw [List.getElem?_map, hz]; rfl) ?_
          refine append_go (xs := ts.map D.str) (lstOf_keep htq e2') (by rw [List.length_map]; exact small_ltline (by omega)) ?_
          try dsimp? only []
          have hlen : ((l0 :: lr).eraseIdx j.toNat).length = m := by
            rw [List.length_eraseIdx_of_lt (by simp at j1 ⊢; omega)]; omega
          refine hN _ _ ⟨(l0 :: lr).eraseIdx j.toNat, ts ++ [z], rfl, hlen, by rw [hlen]; simp at hlt hl0 ⊢; omega, fun n hn => h1 n (List.mem_of_mem_eraseIdx hn), fun n hn => ?_, ?_, ?_, ?_, ((hX2.trans U3.ext).put hq0).put ht0, (D3.keep hqd hqc).keep htd htc⟩
          · rcases List.mem_append.mp hn with hn | hn
            · exact h2 n hn
            · rw [List.mem_singleton.mp hn]; exact h1 z mz
          · refine List.Perm.nodup (l := (l0 :: lr) ++ ts) ?_ hn2
            have hpp := takeNth_perm hz
            rw [← List.append_assoc]
            refine ((List.perm_append_comm.trans ?_) : (List.Perm _ _)).symm
            exact (hpp.append_right ts)
          · rw [lstOf_mup_ne htq.symm, lstOf_mup_same]; exact congrArg some (eraseIdx_map D.str (l0 :: lr) _)
          · rw [lstOf_mup_same]; simp
def num8 : List Str := [("0" : Str), ("1" : Str), ("10" : Str), ("11" : Str), ("2" : Str), ("205" : Str), ("3" : Str), ("7" : Str)]
theorem num8_f : ∀ s ∈ num8, figB s = true ∧ AscS 8 s := by
  have key : (num8.all fun s => figB s && ((cps s).all (· < 128) && decide (s.length ≤ 8))) = true := by decide +kernel
  intro s hs
  have := List.all_eq_true.mp key s hs
  simp only [Bool.and_eq_true, decide_eq_true_eq] at this
  exact ⟨this.1, fun c hc => by simpa using List.all_eq_true.mp this.2.1 c hc, this.2.2⟩
theorem num8_nodup : num8.Nodup := by decide +kernel
/-- some numbers, as texts -/
def sp__law_numbers : DSp := fun ds M R => ∃ (d : Addr) (n : Nat), ds = [.ref d, .int n] ∧ 1 ≤ n ∧ n ≤ 8 ∧ Draws d 2 (fun x => ∃ ns : List Str, x = .lst (ns.map D.str) ∧ ns ≠ [] ∧ ns.length ≤ n ∧ ns.Nodup ∧ ∀ s ∈ ns, s ∈ num8) M R
theorem numbers_B {M M0 : Mm} {d c : Addr} {r : Nat} {L : List (Addr × MO)} {n : Nat} {R : DQ} (b : Bx d c r M0 L M) (h5 : 1 ≤ n) (h6 : n ≤ 8) (hr : 2 ≤ r)
    (k : ∀ (ns : List Str) M', ns ≠ [] → ns.length ≤ n → ns.Nodup → (∀ s ∈ ns, s ∈ num8) → Bx d c (r - 2) M0 L M' → R (.lst (ns.map D.str)) M') : sp__law_numbers [.ref d, .int n] M R :=
  ⟨d, n, rfl, h5, h6, b.draws hr fun x M' ⟨ns, e, h1, h2, h3, h4⟩ b' => e ▸ k ns M' h1 h2 h3 h4 b'⟩
theorem ok__law_numbers {f__law_numbers f__law_draw : Addr} {fd__law_numbers fd__law_draw : FuncData} (F__law_numbers : Fun K "_law_numbers" "_law_numbers" st__law_numbers f__law_numbers fd__law_numbers) (G__law_draw : FnOk P w K mg base CX0 1 f__law_draw fd__law_draw ["_law_deck_here", "_law_most"] (toSp K sp__law_draw)) (g__law_draw : mg "_law_draw" = some (.ref f__law_draw)) (k__law_draw : PySem.W.keepIn K (.ref f__law_draw) = true) (b__law_draw : Binds K fd__law_draw ["_law_deck_here", "_law_most"] []) (z_sorted : mg "sorted" = none) : FnOk P w K mg base CX0 2 f__law_numbers fd__law_numbers ["_law_deck_here", "_law_most"] (toSp K sp__law_numbers) := by
  refine fn_ok (k := 1) F__law_numbers sc__law_numbers (fun ds M R h => ?_) (fun cdv A outer s H E hr => ⟨_, (jb_cons (js_set (i := 2) sc__law_numbers.nd (je_frz (jl_disp (ja_cons je_str (ja_cons je_str (ja_cons je_str (ja_cons je_str (ja_cons je_str (ja_cons je_str (ja_cons je_str (ja_cons je_str ja_nil)))))))))))
      (jb_cons (js_set (i := 3) sc__law_numbers.nd (je_call G__law_draw (hr.mono (by decide)) (by rfl) g__law_draw k__law_draw b__law_draw (ja_cons (jv 0) (ja_cons je_int ja_nil))))
      (jb_one (js_ret (je_frz (jl_sorted hr z_sorted (ja_cons (je_slice (je_add (je_slice (jv 2) (jo_some (jv 3)) jo_none) (je_slice (jv 2) jo_none (jo_some (jv 3)))) jo_none (jo_some (je_add je_int (je_call G__law_draw (hr.mono (by decide)) (by rfl) g__law_draw k__law_draw b__law_draw (ja_cons (jv 0) (ja_cons (jv 1) ja_nil)))))) ja_nil))))))), fun ds M R h => ?_⟩)
  · unfold sp__law_numbers at h
    first | (obtain ⟨rfl, _⟩ := h; rfl) | (obtain ⟨_, rfl, _⟩ := h; rfl) | (obtain ⟨_, _, rfl, _⟩ := h; rfl) | (obtain ⟨_, _, _, rfl, _⟩ := h; rfl) | (obtain ⟨_, _, _, _, rfl, _⟩ := h; rfl) | (obtain ⟨_, _, _, _, _, rfl, _⟩ := h; rfl) | (obtain ⟨_, _, _, _, _, _, rfl, _⟩ := h; rfl) | (obtain ⟨_, _, _, _, _, _, _, rfl, _⟩ := h; rfl) | (obtain ⟨_, _, _, _, _, _, _, _, rfl, _⟩ := h; rfl) | (obtain ⟨_, _, _, _, _, _, _, _, _, rfl, _⟩ := h; rfl) | (obtain ⟨_, _, _, _, _, _, _, _, _, _, rfl, _⟩ := h; rfl) | (split at h <;> first | rfl | exact h.elim)
  · unfold sp__law_numbers at h
    obtain ⟨d, n, rfl, hn1, hn, c, r, D0, k⟩ := h
    have b0 := Bx.start D0
    simp_all only [N__law_numbers]
    infer_instance
    refine draw_B b0 (by omega) (by omega) (by omega) fun t M1 t0 t1 b1 => ?_
    infer_instance
    obtain ⟨K, hK, hKl, hK8⟩ : ∃ K : List Str, K.map D.str = [D.str (Str.ofString "0"), D.str (Str.ofString "1"), D.str (Str.ofString "10"), D.str (Str.ofString "11"), D.str (Str.ofString "2"), D.str (Str.ofString "205"), D.str (Str.ofString "3"), D.str (Str.ofString "7")] ∧ K.length = 8 ∧ K = num8 := ⟨num8, rfl, rfl, rfl⟩
    rw [← hK]
    obtain ⟨u, rfl⟩ : ∃ u : Nat, t = u := ⟨t.toNat, by omega⟩
    rw [cutL_fromN, cutL_toN, ← List.map_drop, ← List.map_take, ← List.map_append]
    have hl : (K.drop u ++ K.take u).length = 8 := by simp; omega
    refine ⟨?_, ?_⟩
    · have := hl; simp at this ⊢; exact small_line2 (by omega)
    refine draw_B b1 (by omega) (by omega) (by omega) fun q M2 q0 q1 b2 => ?_
    infer_instance
    obtain ⟨j, hj⟩ : ∃ j : Nat, (1 : Int) + q = j := ⟨(1 + q).toNat, by omega⟩
    rw [hj, cutL_toN, ← List.map_take]
    refine ⟨sortOk_str, ?_⟩
    rw [sortD_strs]
    have hp : (K.drop u ++ K.take u).Perm K := List.perm_append_comm.trans (by rw [List.take_append_drop])
    refine b2.done k ⟨_, rfl, ?_, ?_, ?_, ?_⟩ (by omega)
    · intro h
      have := congrArg List.length h
      rw [sortS_len] at this
      simp at this hl
      omega
    · rw [sortS_len]; simp at hl ⊢; omega
    · refine (sortS_perm _).nodup_iff.mpr (List.Nodup.sublist (List.take_sublist _ _) (hp.nodup_iff.mpr ?_))
      rw [hK8]; exact num8_nodup
    · intro s hs
      rw [← hK8]
      exact hp.mem_iff.mp (List.mem_of_mem_take (sortS_mem.mp hs))
/-- one of some -/
def sp__law_pick : DSp := fun ds M R => ∃ (d : Addr) (x : D) (xs : List D), ds = [.ref d, x] ∧ (x = .lst xs ∨ x = .tup xs) ∧ xs ≠ [] ∧ xs.length ≤ 2 ^ 60 ∧ ∃ c r, Deck M d c (r + 1) ∧ ∀ y ∈ xs, ∀ M', Deck M' d c r → Upto d c M M' → R y M'
theorem pick_L {M : Mm} {d c : Addr} {r : Nat} {xs : List D} {R : DQ} (D0 : Deck M d c (r + 1)) (h0 : xs ≠ []) (h1 : xs.length ≤ 2 ^ 60) (k : ∀ y ∈ xs, ∀ M', Deck M' d c r → Upto d c M M' → R y M') : sp__law_pick [.ref d, .lst xs] M R := ⟨d, _, xs, rfl, .inl rfl, h0, h1, c, r, D0, k⟩
theorem pick_t {M : Mm} {d c : Addr} {r : Nat} {xs : List D} {R : DQ} (D0 : Deck M d c (r + 1)) (h0 : xs ≠ []) (h1 : xs.length ≤ 2 ^ 60) (k : ∀ y ∈ xs, ∀ M', Deck M' d c r → Upto d c M M' → R y M') : sp__law_pick [.ref d, .tup xs] M R := ⟨d, _, xs, rfl, .inr rfl, h0, h1, c, r, D0, k⟩
/-- of a list of things -/
theorem pick_Lm {α : Type} {f : α → D} {M : Mm} {d c : Addr} {r : Nat} {xs : List α} {R : DQ} (D0 : Deck M d c (r + 1)) (h0 : xs ≠ []) (h1 : xs.length ≤ 2 ^ 60) (k : ∀ y ∈ xs, ∀ M', Deck M' d c r → Upto d c M M' → R (f y) M') : sp__law_pick [.ref d, .lst (xs.map f)] M R :=
  pick_L D0 (by simpa using h0) (by simpa using h1) fun y hy M' D U => by
    obtain ⟨z, hz, rfl⟩ := List.mem_map.mp hy
    exact k z hz M' D U
theorem pick_tm {α : Type} {f : α → D} {M : Mm} {d c : Addr} {r : Nat} {xs : List α} {R : DQ} (D0 : Deck M d c (r + 1)) (h0 : xs ≠ []) (h1 : xs.length ≤ 2 ^ 60) (k : ∀ y ∈ xs, ∀ M', Deck M' d c r → Upto d c M M' → R (f y) M') : sp__law_pick [.ref d, .tup (xs.map f)] M R :=
  pick_t D0 (by simpa using h0) (by simpa using h1) fun y hy M' D U => by
    obtain ⟨z, hz, rfl⟩ := List.mem_map.mp hy
    exact k z hz M' D U
theorem pick_BL {α : Type} {f : α → D} {M M0 : Mm} {d c : Addr} {n : Nat} {L : List (Addr × MO)} {xs : List α} {R : DQ} (b : Bx d c n M0 L M) (hn : 1 ≤ n) (h0 : xs ≠ []) (h1 : xs.length ≤ 2 ^ 60) (k : ∀ y ∈ xs, ∀ M', Bx d c (n - 1) M0 L M' → R (f y) M') : sp__law_pick [.ref d, .lst (xs.map f)] M R :=
  pick_Lm (r := n - 1) (b.dk.mono (by omega)) h0 h1 fun y hy M' D U => k y hy M' (b.call D U)
theorem pick_Bt {α : Type} {f : α → D} {M M0 : Mm} {d c : Addr} {n : Nat} {L : List (Addr × MO)} {xs : List α} {R : DQ} (b : Bx d c n M0 L M) (hn : 1 ≤ n) (h0 : xs ≠ []) (h1 : xs.length ≤ 2 ^ 60) (k : ∀ y ∈ xs, ∀ M', Bx d c (n - 1) M0 L M' → R (f y) M') : sp__law_pick [.ref d, .tup (xs.map f)] M R :=
  pick_tm (r := n - 1) (b.dk.mono (by omega)) h0 h1 fun y hy M' D U => k y hy M' (b.call D U)
theorem ok__law_pick {f__law_pick f__law_draw : Addr} {fd__law_pick fd__law_draw : FuncData} (F__law_pick : Fun K "_law_pick" "_law_pick" st__law_pick f__law_pick fd__law_pick) (G__law_draw : FnOk P w K mg base CX0 1 f__law_draw fd__law_draw ["_law_deck_here", "_law_most"] (toSp K sp__law_draw)) (g__law_draw : mg "_law_draw" = some (.ref f__law_draw)) (k__law_draw : PySem.W.keepIn K (.ref f__law_draw) = true) (b__law_draw : Binds K fd__law_draw ["_law_deck_here", "_law_most"] []) (z_len : mg "len" = none) : FnOk P w K mg base CX0 2 f__law_pick fd__law_pick ["_law_deck_here", "_law_some"] (toSp K sp__law_pick) := by
  refine fn_ok (k := 1) F__law_pick sc__law_pick (fun ds M R h => ?_) (fun cdv A outer s H E hr => ⟨_, (jb_one (js_ret (je_ix (jv 1) (je_call G__law_draw (hr.mono (by decide)) (by rfl) g__law_draw k__law_draw b__law_draw (ja_cons (jv 0) (ja_cons (je_len z_len (ja_cons (jv 1) ja_nil)) ja_nil)))))), fun ds M R h => ?_⟩)
  · unfold sp__law_pick at h
    first | (obtain ⟨rfl, _⟩ := h; rfl) | (obtain ⟨_, rfl, _⟩ := h; rfl) | (obtain ⟨_, _, rfl, _⟩ := h; rfl) | (obtain ⟨_, _, _, rfl, _⟩ := h; rfl) | (obtain ⟨_, _, _, _, rfl, _⟩ := h; rfl) | (obtain ⟨_, _, _, _, _, rfl, _⟩ := h; rfl) | (obtain ⟨_, _, _, _, _, _, rfl, _⟩ := h; rfl) | (obtain ⟨_, _, _, _, _, _, _, rfl, _⟩ := h; rfl) | (obtain ⟨_, _, _, _, _, _, _, _, rfl, _⟩ := h; rfl) | (obtain ⟨_, _, _, _, _, _, _, _, _, rfl, _⟩ := h; rfl) | (obtain ⟨_, _, _, _, _, _, _, _, _, _, rfl, _⟩ := h; rfl) | (split at h <;> first | rfl | exact h.elim)
  · unfold sp__law_pick at h
    obtain ⟨d, x, xs, rfl, hx, h0, h1, c, r, D0, k⟩ := h
    have hpos : 0 < xs.length := List.length_pos_iff.mpr h0
    dsimp? only [N__law_pick]
    have hlen : ∀ {Q : DQ}, Q (.int xs.length) M → lenR [x] M Q := by
      rcases hx with rfl | rfl <;> exact fun h => h
    refine hlen ?_
    refine draw_go D0 (by omega) (by omega) fun n M1 n0 n1 D1 U1 => ?_
    obtain ⟨y, hy, my⟩ : ∃ y, xs[n.toNat]? = some y ∧ y ∈ xs := ⟨_, List.getElem?_eq_getElem (by omega), List.getElem_mem _⟩
    rcases hx with rfl | rfl
    · exact ix_L n0 hy (Shr.all (k y my M1 D1 U1))
    · exact ix_t n0 hy (Shr.all (k y my M1 D1 U1))
--TD _law_some
/-- a machine drawn -/
def sp__law_machine : DSp := fun ds M R => ∃ (d : Addr) (ps ms : List Str) (s n : Nat), ds = [.ref d, .lst (ps.map D.str), .lst (ms.map D.str), .int s, .int n] ∧ ps ≠ [] ∧ ms ≠ [] ∧ ps.length ≤ 100 ∧ ms.length ≤ 100 ∧ s ≤ 3 ∧ 1 ≤ n ∧ n ≤ 8 ∧ ps.Nodup ∧ (∀ s ∈ ps, NameS s) ∧ (∀ s ∈ ms, NameS s) ∧ Draws d 400 (fun x => ∃ (ns : List Str) (E : List Ed) (F : List Str), x = mD E F ∧ ns.length ≤ n ∧ GdM 40 (ps ++ ns) E F ∧ (∀ z ∈ ns, z ∈ num8) ∧ (∀ e ∈ E, e.2.1 ∈ ms ∨ e.2.1 = ("" : Str))) M R
theorem machine_B {M M0 : Mm} {d c : Addr} {r : Nat} {L : List (Addr × MO)} {ps ms : List Str} {s n : Nat} {R : DQ} (b : Bx d c r M0 L M) (h1 : ps ≠ []) (h2 : ms ≠ []) (h3 : ps.length ≤ 100) (h4 : ms.length ≤ 100) (hs : s ≤ 3) (h5 : 1 ≤ n) (h6 : n ≤ 8) (h7 : ps.Nodup) (h8 : ∀ s ∈ ps, NameS s) (h9 : ∀ s ∈ ms, NameS s) (hr : 400 ≤ r)
    (k : ∀ (ns : List Str) (E : List Ed) (F : List Str) M', ns.length ≤ n → GdM 40 (ps ++ ns) E F → (∀ z ∈ ns, z ∈ num8) → (∀ e ∈ E, e.2.1 ∈ ms ∨ e.2.1 = ("" : Str)) → Bx d c (r - 400) M0 L M' → R (mD E F) M') : sp__law_machine [.ref d, .lst (ps.map D.str), .lst (ms.map D.str), .int s, .int n] M R :=
  ⟨d, ps, ms, s, n, rfl, h1, h2, h3, h4, hs, h5, h6, h7, h8, h9, b.draws hr fun x M' ⟨ns, E, F, e, g1, g2, g3, g4⟩ b' => e ▸ k ns E F M' g1 g2 g3 g4 b'⟩
theorem ok__law_machine {f__law_machine f__law_draw f__law_numbers f__law_pick : Addr} {fd__law_machine fd__law_draw fd__law_numbers fd__law_pick : FuncData} (F__law_machine : Fun K "_law_machine" "_law_machine" st__law_machine f__law_machine fd__law_machine) (G__law_draw : FnOk P w K mg base CX0 1 f__law_draw fd__law_draw ["_law_deck_here", "_law_most"] (toSp K sp__law_draw)) (g__law_draw : mg "_law_draw" = some (.ref f__law_draw)) (k__law_draw : PySem.W.keepIn K (.ref f__law_draw) = true) (b__law_draw : Binds K fd__law_draw ["_law_deck_here", "_law_most"] []) (G__law_numbers : FnOk P w K mg base CX0 2 f__law_numbers fd__law_numbers ["_law_deck_here", "_law_most"] (toSp K sp__law_numbers)) (g__law_numbers : mg "_law_numbers" = some (.ref f__law_numbers)) (k__law_numbers : PySem.W.keepIn K (.ref f__law_numbers) = true) (b__law_numbers : Binds K fd__law_numbers ["_law_deck_here", "_law_most"] []) (G__law_pick : FnOk P w K mg base CX0 2 f__law_pick fd__law_pick ["_law_deck_here", "_law_some"] (toSp K sp__law_pick)) (g__law_pick : mg "_law_pick" = some (.ref f__law_pick)) (k__law_pick : PySem.W.keepIn K (.ref f__law_pick) = true) (b__law_pick : Binds K fd__law_pick ["_law_deck_here", "_law_some"] []) (z_list : mg "list" = none) (z_range : mg "range" = none) (z_int : mg "int" = none) (z_tuple : mg "tuple" = none) (z_sorted : mg "sorted" = none) : FnOk P w K mg base CX0 3 f__law_machine fd__law_machine ["_law_deck_here", "_law_places_here", "_law_marks", "_law_sort", "_law_most"] (toSp K sp__law_machine) := by
  refine fn_ok (k := 2) F__law_machine sc__law_machine (fun ds M R h => ?_) (fun cdv A outer s H E hr => ⟨_, (jb_cons (js_set (i := 5) sc__law_machine.nd (je_eq hr (je_call G__law_draw (hr.mono (by decide)) (by rfl) g__law_draw k__law_draw b__law_draw (ja_cons (jv 0) (ja_cons je_int ja_nil))) je_int))
      (jb_cons (js_set (i := 6) sc__law_machine.nd (je_call G__law_numbers (hr.mono (by decide)) (by rfl) g__law_numbers k__law_numbers b__law_numbers (ja_cons (jv 0) (ja_cons (jv 4) ja_nil))))
      (jb_cons (js_set (i := 7) sc__law_machine.nd (je_add (je_frz (jl_list z_list (ja_cons (jv 1) ja_nil))) (jv 6)))
      (jb_cons (js_set (i := 8) sc__law_machine.nd (je_ix (je_frz (jl_disp (ja_cons (jv 6) (ja_cons (jv 7) (ja_cons (jv 7) (ja_cons (jv 7) ja_nil)))))) (jv 3)))
      (jb_cons (js_set (i := 9) sc__law_machine.nd je_dictT)
      (jb_cons (js_for PassesOwn.never rfl (ji_rng1 (by rfl) z_range (je_ix (je_frz (jl_disp (ja_cons (je_add je_int (je_call G__law_draw (hr.mono (by decide)) (by rfl) g__law_draw k__law_draw b__law_draw (ja_cons (jv 0) (ja_cons je_int ja_nil)))) (ja_cons je_int ja_nil)))) (je_int1 z_int (ja_cons (jv 5) ja_nil)))) (jg_name (i := 10) sc__law_machine.nd) (jb_cons (js_set (i := 11) sc__law_machine.nd (je_and (je_gt (jv 3) je_int) (je_one (je_eq hr (je_call G__law_draw (hr.mono (by decide)) (by rfl) g__law_draw k__law_draw b__law_draw (ja_cons (jv 0) (ja_cons (je_ix (je_frz (jl_disp (ja_cons je_int (ja_cons je_int ja_nil)))) (je_mod (jv 3) je_int)) ja_nil))) je_int)))) (jb_cons (js_set (i := 12) sc__law_machine.nd (je_ix (je_frz (jl_disp (ja_cons (je_call G__law_pick (hr.mono (by decide)) (by rfl) g__law_pick k__law_pick b__law_pick (ja_cons (jv 0) (ja_cons (jv 2) ja_nil))) (ja_cons je_str ja_nil)))) (je_int1 z_int (ja_cons (jv 11) ja_nil)))) (jb_one (js_dputT hr (jv 9) (je_tup (ja_cons (je_call G__law_pick (hr.mono (by decide)) (by rfl) g__law_pick k__law_pick b__law_pick (ja_cons (jv 0) (ja_cons (jv 7) ja_nil))) (ja_cons (jv 12) (ja_cons (je_call G__law_pick (hr.mono (by decide)) (by rfl) g__law_pick k__law_pick b__law_pick (ja_cons (jv 0) (ja_cons (jv 8) ja_nil))) ja_nil)))) je_bl)))))
      (jb_cons (js_setLcF (i := 13) rfl sc__law_machine.nd (jlc (ji_any (jv 7)) (blkOk_by (own := [("_law_state", 14)]) (N := N__law_machine) (sc := defScope st__law_machine) (by decide +kernel)) (fun _ _ _ _ _ => (jgv_name (i := 14) sc__law_machine.nd (by decide))) (fun _ _ _ _ _ => (jts_one (jt_eq hr (je_call G__law_draw (hr.mono (by decide)) (by rfl) g__law_draw k__law_draw b__law_draw (ja_cons (jv 0) (ja_cons je_int ja_nil))) je_int))) (fun _ _ _ _ _ => (jv 14))) (sw_true rfl rfl rfl (by decide +kernel)))
      (jb_one (js_ret (je_tup (ja_cons (je_tuple z_tuple (ja_cons (je_frz (jl_sortedT rfl hr z_sorted (ja_cons (jv 9) ja_nil))) ja_nil)) (ja_cons (je_tuple z_tuple (ja_cons (je_frz (jl_sorted hr z_sorted (ja_cons (jv 13) ja_nil))) ja_nil)) ja_nil)))))))))))), fun ds M R h => ?_⟩)
  · unfold sp__law_machine at h
    first | (obtain ⟨rfl, _⟩ := h; rfl) | (obtain ⟨_, rfl, _⟩ := h; rfl) | (obtain ⟨_, _, rfl, _⟩ := h; rfl) | (obtain ⟨_, _, _, rfl, _⟩ := h; rfl) | (obtain ⟨_, _, _, _, rfl, _⟩ := h; rfl) | (obtain ⟨_, _, _, _, _, rfl, _⟩ := h; rfl) | (obtain ⟨_, _, _, _, _, _, rfl, _⟩ := h; rfl) | (obtain ⟨_, _, _, _, _, _, _, rfl, _⟩ := h; rfl) | (obtain ⟨_, _, _, _, _, _, _, _, rfl, _⟩ := h; rfl) | (obtain ⟨_, _, _, _, _, _, _, _, _, rfl, _⟩ := h; rfl) | (obtain ⟨_, _, _, _, _, _, _, _, _, _, rfl, _⟩ := h; rfl) | (split at h <;> first | rfl | exact h.elim)
  · unfold sp__law_machine at h
    obtain ⟨d, ps, ms, s, n, rfl, hp, hm, hpl, hml, hs, hn1, hn, hpnd, hpn2, hmn2, c, r, D0, k⟩ := h
    have b0 := Bx.start D0
    simp_all only [N__law_machine]
    infer_instance
    refine draw_B b0 (by omega) (by omega) (by omega) fun g M1 g0 g1 b1 => ?_
    infer_instance
    refine numbers_B b1 hn1 hn (by omega) fun ns M2 hn0 hnl hnd hnm b2 => ?_
    infer_instance
    refine ix_allL (fun y => ∃ gs : List Str, y = .lst (gs.map D.str) ∧ gs ≠ [] ∧ gs.length ≤ 108 ∧ ∀ s ∈ gs, s ∈ ps ++ ns) (by omega) (by simp; omega) (fun y hy => ?_) fun y hy => ?_
    · simp only [List.mem_cons, List.not_mem_nil, or_false] at hy
      rcases hy with rfl | rfl | rfl | rfl
      · exact ⟨ns, rfl, hn0, by omega, fun s hs => List.mem_append_right _ hs⟩
      all_goals exact ⟨ps ++ ns, rfl, by simp [hp], by simp; omega, fun s hs => hs⟩
    obtain ⟨gs, rfl, hg0, hgl, hgm⟩ := hy
    have hst : ∀ s ∈ ps ++ ns, stateD (.str s) = true ∧ AscS 8 s := fun s hs => (List.mem_append.mp hs).elim (fun h => ⟨by unfold stateD; rw [show nameD (.str s) = nameB s from rfl, nameB_iff.mpr (hpn2 s h), Bool.or_true], (hpn2 s h).asc⟩) fun h => ⟨by unfold stateD; rw [show figD (.str s) = figB s from rfl, (num8_f s (hnm s h)).1]; rfl, (num8_f s (hnm s h)).2⟩
    have hall : (ps ++ ns).Nodup := by
      rw [List.nodup_append]
      refine ⟨hpnd, hnd, fun a ha b hb e => ?_⟩
      subst e
      have h1 : digB a = true := (by decide +kernel : ∀ s ∈ num8, digB s = true) a (hnm a hb)
      rw [name_dig (hpn2 a ha)] at h1
      cases h1
    infer_instance
    intro p hpn
    have b3 := b2.new (p := p) (o := .dit (esD [])) hpn
    infer_instance
    refine draw_B b3 (by omega) (by omega) (by omega) fun q M3 q0 q1 b4 => ?_
    infer_instance
    obtain ⟨j, hj, j0, j1⟩ : ∃ j : Int, (if (g == 5) = true then D.int 40 else D.int (2 + q)) = .int j ∧ 2 ≤ j ∧ j ≤ 40 := by
      by_cases e : (g == 5) = true
      · rw [if_pos e]; exact ⟨40, rfl, by omega, by omega⟩
      · rw [if_neg e]; exact ⟨2 + q, rfl, by omega, by omega⟩
    rw [hj]
    infer_instance
    refine forR [10, 11, 12] (fun i vs M' => ∃ x10 x11 x12 es, vs = [x10, x11, x12] ∧ Bx d c (r + 150 + 5 * (j.toNat - i)) M [(p, .dit (esD es))] M' ∧ es.length ≤ i ∧ es.Nodup ∧ ∀ e ∈ es, e.1 ∈ ps ++ ns ∧ (e.2.1 ∈ ms ∨ e.2.1 = ("" : Str)) ∧ e.2.2 ∈ ps ++ ns) (fun _ _ _ _ => trivial) (fun i N hi hN vs M' hI => ?_) (fun vs M' hI => ?_) ⟨_, _, _, [], rfl, b4.mono (by omega), by simp, by simp, by simp⟩
    · obtain ⟨x10, x11, x12, es, rfl, b5, h1, h2, h3⟩ := hI
      refine seqS [11] (fun vs M' => ∃ b : Bool, vs = [some (.bl b)] ∧ Bx d c (r + 150 + 5 * (j.toNat - (i + 1)) + 4) M [(p, .dit (esD es))] M') (fun N hN => ?_) fun vs M4 hJ => ?_
      · try simp_all only []
        refine ifs (fun _ => ?_) (fun _ => ?_)
        · refine ⟨by decide, ?_⟩
          refine ix_allL (fun y => ∃ z : Int, y = .int z ∧ 1 ≤ z ∧ z ≤ 7) (by omega) (by simp; omega) (fun y hy => ?_) fun y hy => ?_
          · simp only [List.mem_cons, List.not_mem_nil, or_false] at hy
            rcases hy with rfl | rfl <;> exact ⟨_, rfl, by omega, by omega⟩
          obtain ⟨z, rfl, z0, z1⟩ := hy
          refine draw_B b5 (by omega) (by omega) (by omega) fun u M5 u0 u1 b6 => ?_
          and_intros
          exact hN _ _ _ (by rw [Int.zero_add]; rfl) ⟨_, rfl, b6.mono (by omega)⟩
        · exact hN _ _ _ (by rw [Int.zero_add]; rfl) ⟨_, rfl, b5.mono (by omega)⟩
      · obtain ⟨b, rfl, b6⟩ := hJ
        infer_instance
        refine pick_BL b6 (by omega) hm (by omega) fun mk hmk M5 b7 => ?_
        infer_instance
        refine pick_BL b7 (by omega) (by simp [hp]) (by simp; omega) fun a ha M6 b8 => ?_
        infer_instance
        refine pick_BL b8 (by omega) hg0 (by omega) fun t ht M7 b9 => ?_
        infer_instance
        obtain ⟨mk', hmk', hmk2⟩ : ∃ m' : Str, (if b = true then D.str (Str.ofString "") else D.str mk) = .str m' ∧ (m' ∈ ms ∨ m' = ("" : Str)) := by
          cases b
          · exact ⟨mk, rfl, .inl hmk⟩
          · exact ⟨_, rfl, .inr rfl⟩
        rw [hmk']
        infer_instance
        rw [b9.dit1]
        infer_instance
        refine ⟨small_lt2 (by rw [esD_len]; omega), ?_⟩
        rw [show ([.inr a, .inr mk', .inr t] : List Key) = edK (a, mk', t) from rfl, put_es]
        refine hN _ _ _ rfl ⟨_, _, _, insE es (a, mk', t), rfl, b9.put1.mono (by omega), by have := insE_len (es := es) (e := (a, mk', t)); omega, insE_nodup h2, fun f hf => (insE_mem.mp hf).elim (h3 f) fun e => by subst e; exact ⟨by simpa using ha, hmk2, hgm t ht⟩⟩
    · obtain ⟨x10, x11, x12, es, rfl, b5, h1, h2, h3⟩ := hI
      infer_instance
      refine lcW_BS D.str 1 (l := ps ++ ns) (small_line2 (by simp; omega)) b5 (by simp; omega) (fun _ _ _ => trivial) (fun s hs n' M4 N F b6 hN hF => ?_) fun Ee M4 hsub b6 => ?_
      · infer_instance
        refine draw_B b6 (by omega) (by omega) (by omega) fun u M5 u0 u1 b7 => ?_
        infer_instance
        refine ifs (fun _ => ?_) (fun _ => ?_)
        · exact hN _ (b7.mono (by omega))
        · exact hF _ (b7.mono (by omega))
      · have hel := hsub.length_le
        rw [List.length_append] at hel
        infer_instance
        have b6 : Bx d c r M [(p, .dit (esD es))] M4 := b6.mono (by simp; omega)
        rw [b6.dit1]
        infer_instance
        rw [keys_es, sortD_eds]
        refine ⟨sortOk_ed, ?_⟩
        infer_instance
        refine ⟨sortOk_str, ?_⟩
        rw [sortD_strs]
        have hEn : (sortE es).Nodup := (sortE_perm _).nodup_iff.mpr h2
        have hin : ∀ z, stsOf (sortE es) (sortS Ee) z → z ∈ ps ++ ns := fun z hz => by
          rcases hz with ⟨e, he, rfl | rfl⟩ | hz
          · exact (h3 e (sortE_mem.mp he)).1
          · exact (h3 e (sortE_mem.mp he)).2.2
          · exact hsub.subset (sortS_mem.mp hz)
        refine b6.done k ⟨ns, sortE es, sortS Ee, rfl, hnl, ⟨?_, by rw [sortE_len]; omega, hin, fun z hz => (hst z hz).2, fun e he => ?_⟩, hnm, fun e he => (h3 e (sortE_mem.mp he)).2.1⟩ (Nat.le_refl _)
        · unfold machB
          rw [risE_of hEn ⟨es, rfl⟩, risS_of (sortS_ris (hsub.nodup hall)), Bool.and_self, Bool.and_true, Bool.and_eq_true, List.all_eq_true, List.all_eq_true]
          refine ⟨fun e he => ?_, fun s hs => (hst s (hsub.subset (sortS_mem.mp hs))).1⟩
          obtain ⟨g1, g2, g3⟩ := h3 e (sortE_mem.mp he)
          have hmk : (nameD (.str e.2.1) || eqvD (.str e.2.1) (.str "")) = true := by
            rcases g2 with g2 | g2
            · rw [show nameD (.str e.2.1) = nameB e.2.1 from rfl, nameB_iff.mpr (hmn2 _ g2)]; rfl
            · rw [g2]; rfl
          simp only [edD, edgeD, (hst _ g1).1, (hst _ g3).1, hmk, Bool.and_self]
        · obtain ⟨g1, g2, g3⟩ := h3 e (sortE_mem.mp he)
          exact g2.elim (fun h => (hmn2 _ h).asc) fun h => by rw [h]; exact (⟨by decide +kernel, by decide +kernel⟩ : AscS 8 ("" : Str))
--MUT _law_edges
--MUT _law_ends_here
--FRESH _law_edges + list(_law_other[0])
--FRESH _law_ends_here + list(_law_other[1])
--TS _law_edges
/-- a machine near another one -/
def sp__law_nearby : DSp := fun ds M R => ∃ (d : Addr) (ps ms S : List Str) (n m : Nat) (E : List Ed) (F : List Str), ds = [.ref d, .tup [.tup (E.map edD), .tup (F.map .str)], .lst (ps.map D.str), .lst (ms.map D.str), .int n] ∧ ps ≠ [] ∧ ms ≠ [] ∧ ps.length ≤ 100 ∧ ms.length ≤ 100 ∧ 1 ≤ n ∧ n ≤ 8 ∧ ps.Nodup ∧ (∀ s ∈ ps, NameS s) ∧ (∀ s ∈ ms, NameS s) ∧ GdM m S E F ∧ m ≤ 500 ∧ S.length ≤ 300 ∧ Draws d 500 (fun x => ∃ (ns : List Str) (E' : List Ed) (F' : List Str), x = mD E' F' ∧ ns.length ≤ n ∧ GdM (m + 40) (S ++ (ps ++ ns)) E' F' ∧ (∀ z ∈ ns, z ∈ num8) ∧ (∀ e ∈ E', e ∈ E ∨ e.2.1 ∈ ms ∨ e.2.1 = ("" : Str))) M R
theorem nearby_B {M M0 : Mm} {d c : Addr} {r : Nat} {L : List (Addr × MO)} {ps ms S : List Str} {n m : Nat} {E : List Ed} {F : List Str} {R : DQ} (b : Bx d c r M0 L M) (h1 : ps ≠ []) (h2 : ms ≠ []) (h3 : ps.length ≤ 100) (h4 : ms.length ≤ 100) (h5 : 1 ≤ n) (h6 : n ≤ 8) (h7 : ps.Nodup) (h8 : ∀ s ∈ ps, NameS s) (h9 : ∀ s ∈ ms, NameS s) (g : GdM m S E F) (g1 : m ≤ 500) (g2 : S.length ≤ 300) (hr : 500 ≤ r)
    (k : ∀ (ns : List Str) (E' : List Ed) (F' : List Str) M', ns.length ≤ n → GdM (m + 40) (S ++ (ps ++ ns)) E' F' → (∀ z ∈ ns, z ∈ num8) → (∀ e ∈ E', e ∈ E ∨ e.2.1 ∈ ms ∨ e.2.1 = ("" : Str)) → Bx d c (r - 500) M0 L M' → R (mD E' F') M') : sp__law_nearby [.ref d, .tup [.tup (E.map edD), .tup (F.map .str)], .lst (ps.map D.str), .lst (ms.map D.str), .int n] M R :=
  ⟨d, ps, ms, S, n, m, E, F, rfl, h1, h2, h3, h4, h5, h6, h7, h8, h9, g, g1, g2, b.draws hr fun x M' ⟨ns, E', F', e, q1, q2, q3, q4⟩ b' => e ▸ k ns E' F' M' q1 q2 q3 q4 b'⟩
theorem ok__law_nearby {f__law_nearby f__law_draw f__law_machine : Addr} {fd__law_nearby fd__law_draw fd__law_machine : FuncData} (F__law_nearby : Fun K "_law_nearby" "_law_nearby" st__law_nearby f__law_nearby fd__law_nearby) (G__law_draw : FnOk P w K mg base CX0 1 f__law_draw fd__law_draw ["_law_deck_here", "_law_most"] (toSp K sp__law_draw)) (g__law_draw : mg "_law_draw" = some (.ref f__law_draw)) (k__law_draw : PySem.W.keepIn K (.ref f__law_draw) = true) (b__law_draw : Binds K fd__law_draw ["_law_deck_here", "_law_most"] []) (G__law_machine : FnOk P w K mg base CX0 3 f__law_machine fd__law_machine ["_law_deck_here", "_law_places_here", "_law_marks", "_law_sort", "_law_most"] (toSp K sp__law_machine)) (g__law_machine : mg "_law_machine" = some (.ref f__law_machine)) (k__law_machine : PySem.W.keepIn K (.ref f__law_machine) = true) (b__law_machine : Binds K fd__law_machine ["_law_deck_here", "_law_places_here", "_law_marks", "_law_sort", "_law_most"] []) (z_list : mg "list" = none) (z_range : mg "range" = none) (z_len : mg "len" = none) (z_tuple : mg "tuple" = none) (z_sorted : mg "sorted" = none) (z_set : mg "set" = none) : FnOk P w K mg base CX0 4 f__law_nearby fd__law_nearby ["_law_deck_here", "_law_machine_here", "_law_places_here", "_law_marks", "_law_most"] (toSp K sp__law_nearby) := by
  refine fn_ok (k := 3) F__law_nearby sc__law_nearby (fun ds M R h => ?_) (fun cdv A outer s H E hr => ⟨_, (jb_cons (js_set (i := 5) sc__law_nearby.nd (je_call G__law_draw (hr.mono (by decide)) (by rfl) g__law_draw k__law_draw b__law_draw (ja_cons (jv 0) (ja_cons je_int ja_nil))))
      (jb_cons (js_set (i := 6) sc__law_nearby.nd (je_call G__law_machine (hr.mono (by decide)) (by rfl) g__law_machine k__law_machine b__law_machine (ja_cons (jv 0) (ja_cons (jv 2) (ja_cons (jv 3) (ja_cons je_int (ja_cons (jv 4) ja_nil)))))))
      (jb_cons (js_set (i := 7) sc__law_nearby.nd (je_fresh (jl_list z_list (ja_cons (je_ix (jv 1) je_int) ja_nil))))
      (jb_cons (js_set (i := 8) sc__law_nearby.nd (je_fresh (jl_list z_list (ja_cons (je_ix (jv 1) je_int) ja_nil))))
      (jb_cons (js_for PassesOwn.never rfl (ji_rng1 (by rfl) z_range (je_add je_int (je_call G__law_draw (hr.mono (by decide)) (by rfl) g__law_draw k__law_draw b__law_draw (ja_cons (jv 0) (ja_cons je_int ja_nil))))) (jg_name (i := 9) sc__law_nearby.nd) (jb_cons (js_if (JW.jt (jw_and (jt_in hr (jv 5) (je_tup (ja_cons je_int (ja_cons je_int ja_nil)))) (jw_and1 (jt_ne hr (jv 7) (je_frz (jl_disp ja_nil)))))) (jb_one (js_expr (je_popAt (jv 7) (je_call G__law_draw (hr.mono (by decide)) (by rfl) g__law_draw k__law_draw b__law_draw (ja_cons (jv 0) (ja_cons (je_len z_len (ja_cons (jv 7) ja_nil)) ja_nil)))))) jb_nil) (jb_one (js_if (JW.jt (jw_and (jt_in hr (jv 5) (je_tup (ja_cons je_int (ja_cons je_int ja_nil)))) (jw_and1 (jt_ne hr (jv 8) (je_frz (jl_disp ja_nil)))))) (jb_one (js_expr (je_popAt (jv 8) (je_call G__law_draw (hr.mono (by decide)) (by rfl) g__law_draw k__law_draw b__law_draw (ja_cons (jv 0) (ja_cons (je_len z_len (ja_cons (jv 8) ja_nil)) ja_nil)))))) jb_nil))))
      (jb_cons (js_if (jt_eq hr (jv 5) je_int) (jb_one (js_set (i := 7) sc__law_nearby.nd (je_fresh (jl_cat (jv 7) (je_frz (jl_list z_list (ja_cons (je_ix (jv 6) je_int) ja_nil))))))) jb_nil)
      (jb_cons (js_if (jt_in hr (jv 5) (je_tup (ja_cons je_int (ja_cons je_int ja_nil)))) (jb_one (js_set (i := 8) sc__law_nearby.nd (je_fresh (jl_cat (jv 8) (je_frz (jl_list z_list (ja_cons (je_ix (jv 6) je_int) ja_nil))))))) jb_nil)
      (jb_cons (js_if (jt_eq hr (jv 5) je_int) (jb_one (js_ret (jv 6))) jb_nil)
      (jb_one (js_ret (je_tup (ja_cons (je_tuple z_tuple (ja_cons (je_frz (jl_sortSetT rfl hr z_sorted z_set (jv 7))) ja_nil)) (ja_cons (je_tuple z_tuple (ja_cons (je_frz (jl_sortSet rfl hr z_sorted z_set (jv 8))) ja_nil)) ja_nil))))))))))))), fun ds M R h => ?_⟩)
  · unfold sp__law_nearby at h
    first | (obtain ⟨rfl, _⟩ := h; rfl) | (obtain ⟨_, rfl, _⟩ := h; rfl) | (obtain ⟨_, _, rfl, _⟩ := h; rfl) | (obtain ⟨_, _, _, rfl, _⟩ := h; rfl) | (obtain ⟨_, _, _, _, rfl, _⟩ := h; rfl) | (obtain ⟨_, _, _, _, _, rfl, _⟩ := h; rfl) | (obtain ⟨_, _, _, _, _, _, rfl, _⟩ := h; rfl) | (obtain ⟨_, _, _, _, _, _, _, rfl, _⟩ := h; rfl) | (obtain ⟨_, _, _, _, _, _, _, _, rfl, _⟩ := h; rfl) | (obtain ⟨_, _, _, _, _, _, _, _, _, rfl, _⟩ := h; rfl) | (obtain ⟨_, _, _, _, _, _, _, _, _, _, rfl, _⟩ := h; rfl) | (split at h <;> first | rfl | exact h.elim)
  · unfold sp__law_nearby at h
    obtain ⟨d, ps, ms, S, n, m, E, F, rfl, hp, hm, hpl, hml, hn1, hn, hpnd, hpn2, hmn2, g, hm5, hS, c, r, D0, k⟩ := h
    have b0 := Bx.start D0
    have hE := g.el
    have hF := g.fl
    simp_all only [N__law_nearby]
    infer_instance
    refine draw_B b0 (by omega) (by omega) (by omega) fun way M1 w0 w1 b1 => ?_
    obtain ⟨wy, rfl⟩ : ∃ wy : Nat, way = wy := ⟨way.toNat, by omega⟩
    infer_instance
    refine machine_B (s := 1) b1 hp hm hpl hml (by decide) hn1 hn hpnd hpn2 hmn2 (by omega) fun ns E2 F2 M2 hnl g2 hn8 hmk b2 => ?_
    simp only [mD]
    infer_instance
    intro pe hpe
    have b3 := b2.new (p := pe) (o := .lst (E.map edD)) hpe
    infer_instance
    intro pf hpf
    have b4 := b3.new (p := pf) (o := .lst (F.map .str)) hpf
    infer_instance
    refine draw_B b4 (by omega) (by omega) (by omega) fun tn M3 t0 t1 b5 => ?_
    infer_instance
    refine forR [9] (fun i vs M' => ∃ x9, ∃ E' : List Ed, ∃ F' : List Str, vs = [x9] ∧ Bx d c (r + 50 + 4 * (4 - i)) M [(pf, .lst (F'.map .str)), (pe, .lst (E'.map edD))] M' ∧ E'.Sublist E ∧ F'.Sublist F) (fun _ _ _ _ => trivial) (fun i N hi hN vs M' hI => ?_) (fun vs M' hI => ?_) ⟨_, E, F, rfl, b5.mono (by omega), List.Sublist.refl _, List.Sublist.refl _⟩
    · obtain ⟨x9, E', F', rfl, b6, hsE, hsF⟩ := hI
      have hEl := hsE.length_le
      have hFl := hsF.length_le
      have hi4 : i < 3 := by omega
      infer_instance
      refine seqS [] (fun vs M2 => ∃ E'' : List Ed, vs = [] ∧ Bx d c (r + 50 + 4 * (4 - i) - 1) M [(pf, .lst (F'.map .str)), (pe, .lst (E''.map edD))] M2 ∧ E''.Sublist E) (fun N2 hN2 => ?_) fun vs M2 hJ => ?_
      · and_intros
        refine Eq.mpr (congrArg (fun Z => Z) (inR_natT (l := [0, 1]) (x := wy))) ?_
        and_intros
        refine ifs (fun _ => ?_) (fun _ => hN2 _ _ _ rfl ⟨E', rfl, b6.mono (by omega), hsE⟩)
        refine ne_nil_l b6.lst2 pu_eds (Nat.le_trans dep_eds (by decide)) ?_
        and_intros
        refine ifs (fun hb => ?_) (fun _ => hN2 _ _ _ rfl ⟨E', rfl, b6.mono (by omega), hsE⟩)
        have hg0 := List.length_pos_iff.mpr (show E' ≠ [] by rintro rfl; simp at hb)
        refine ⟨by rw [b6.lst2]; rfl, ?_⟩
        simp_all only [lenR, b6.at2]
        refine draw_B b6 (by omega) (by omega) (by omega) fun v M3 v0 v1 b7 => ?_
        refine popAt_go b7.lst2 v0 (by omega) (List.getElem?_eq_getElem (by rw [List.length_map]; omega)) ?_
        have b8 := b7.put2 (o' := .lst ((E'.map edD).eraseIdx v.toNat))
        rw [show (E'.map edD).eraseIdx v.toNat = (E'.eraseIdx v.toNat).map edD by simp [List.eraseIdx_eq_take_drop_succ, List.map_append, List.map_take, List.map_drop]] at *
        exact hN2 _ _ _ rfl ⟨E'.eraseIdx v.toNat, rfl, b8.mono (by omega), (List.eraseIdx_sublist _ _).trans hsE⟩
      obtain ⟨E'', rfl, b7, hsE2⟩ := hJ
      and_intros
      refine Eq.mpr (congrArg (fun Z => Z) (inR_natT (l := [1, 2]) (x := wy))) ?_
      and_intros
      refine ifs (fun _ => ?_) (fun _ => hN _ _ _ rfl ⟨_, E'', F', rfl, b7.mono (by omega), hsE2, hsF⟩)
      refine ne_nil_l b7.lst1 (pureDs_str _) (Nat.le_trans (depDs_str _) (by decide)) ?_
      and_intros
      refine ifs (fun hb => ?_) (fun _ => hN _ _ _ rfl ⟨_, E'', F', rfl, b7.mono (by omega), hsE2, hsF⟩)
      have hg0 := List.length_pos_iff.mpr (show F' ≠ [] by rintro rfl; simp at hb)
      refine ⟨by rw [b7.lst1]; rfl, ?_⟩
      simp_all only [lenR, b7.at1]
      refine draw_B b7 (by omega) (by omega) (by omega) fun v M3 v0 v1 b8 => ?_
      refine popAt_go b8.lst1 v0 (by omega) (List.getElem?_eq_getElem (by rw [List.length_map]; omega)) ?_
      have b9 := b8.put1 (o' := .lst ((F'.map D.str).eraseIdx v.toNat))
      rw [show (F'.map D.str).eraseIdx v.toNat = (F'.eraseIdx v.toNat).map D.str by simp [List.eraseIdx_eq_take_drop_succ, List.map_append, List.map_take, List.map_drop]] at *
      exact hN _ _ _ rfl ⟨_, E'', F'.eraseIdx v.toNat, rfl, b9.mono (by omega), hsE2, (List.eraseIdx_sublist _ _).trans hsF⟩
    · obtain ⟨x9, E', F', rfl, b6, hsE, hsF⟩ := hI
      have b6 : Bx d c (r + 50) M [(pf, .lst (F'.map .str)), (pe, .lst (E'.map edD))] M' := b6.mono (by omega)
      have hEl := hsE.length_le
      have hFl := hsF.length_le
      have hF2 := g2.fl
      have hE2 := g2.el
      rw [List.length_append] at hF2
      infer_instance
      refine seqS [7] (fun vs M3 => ∃ (G : List Ed) (pe' : Addr), vs = [some (.ref pe')] ∧ Bx d c (r + 50) M [(pe', .lst (G.map edD)), (pf, .lst (F'.map .str))] M3 ∧ G.length ≤ m + 40 ∧ ∀ e ∈ G, e ∈ E ∨ e ∈ E2) (fun N3 hN3 => ?_) fun vs M3 hJ => ?_
      · and_intros
        refine ifs (fun _ => ?_) (fun _ => hN3 [some (.ref pe)] _ _ rfl ⟨E', pe, rfl, b6.swap, by omega, fun e he => .inl (hsE.subset he)⟩)
        rw [b6.lst2]
        refine ⟨small_line2 (by simp; omega), fun q hq => ?_⟩
        have b7 := b6.new (p := q) (o := .lst ((E' ++ E2).map edD)) hq
        rw [List.map_append] at b7
        exact hN3 [some (.ref q)] _ _ rfl ⟨E' ++ E2, q, rfl, by rw [List.map_append]; exact (b7.perm (List.perm_append_comm (l₁ := [_, _]) (l₂ := [_]))).drop1, by rw [List.length_append]; omega, fun e he => (List.mem_append.mp he).imp (fun h => hsE.subset h) id⟩
      obtain ⟨G, pe', rfl, b7, hGl, hGm⟩ := hJ
      infer_instance
      refine seqS [8] (fun vs M4 => ∃ (H : List Str) (pf' : Addr), vs = [some (.ref pf')] ∧ Bx d c (r + 50) M [(pf', .lst (H.map .str)), (pe', .lst (G.map edD))] M4 ∧ H.length ≤ 1000 ∧ ∀ z ∈ H, z ∈ F ∨ z ∈ F2) (fun N3 hN3 => ?_) fun vs M4 hJ => ?_
      · and_intros
        refine Eq.mpr (congrArg (fun Z => Z) (inR_natT (l := [3, 4]) (x := wy))) ?_
        and_intros
        refine ifs (fun _ => ?_) (fun _ => hN3 [some (.ref pf)] _ _ rfl ⟨F', pf, rfl, b7.swap, by omega, fun z hz => .inl (hsF.subset hz)⟩)
        rw [b7.lst2]
        refine ⟨small_line2 (by simp; omega), fun q hq => ?_⟩
        have b8 := b7.new (p := q) (o := .lst ((F' ++ F2).map .str)) hq
        rw [List.map_append] at b8
        exact hN3 [some (.ref q)] _ _ rfl ⟨F' ++ F2, q, rfl, by rw [List.map_append]; exact (b8.perm (List.perm_append_comm (l₁ := [_, _]) (l₂ := [_]))).drop1, by rw [List.length_append]; omega, fun z hz => (List.mem_append.mp hz).imp (fun h => hsF.subset h) id⟩
      obtain ⟨H, pf', rfl, b8, hHl, hHm⟩ := hJ
      and_intros
      have hsub2 : ∀ z ∈ ps ++ ns, z ∈ S ++ (ps ++ ns) := fun z hz => List.mem_append_right _ hz
      have hsub1 : ∀ z ∈ S, z ∈ S ++ (ps ++ ns) := fun z hz => List.mem_append_left _ hz
      have hasc : ∀ z ∈ S ++ (ps ++ ns), AscS 8 z := fun z hz => (List.mem_append.mp hz).elim (g.sa z) (g2.sa z)
      refine ifs (fun _ => ?_) (fun _ => ?_)
      · exact b8.done k ⟨ns, E2, F2, rfl, hnl, ⟨g2.mb, by omega, fun z hz => hsub2 z (g2.st z hz), hasc, g2.ma⟩, hn8, fun e he => .inr (hmk e he)⟩ (by omega)
      · infer_instance
        refine sortSetT_go (rdS_of_L b8.lst2) (by omega) ?_
        infer_instance
        refine sortSet_go (l := H) (rdS_of_L b8.lst1) (by omega) ?_
        infer_instance
        have hst : ∀ z, stsOf (riseE G) (rise H) z → z ∈ S ++ (ps ++ ns) := fun z hz => by
          rcases hz with ⟨e, he, h⟩ | hz
          · rcases hGm e (riseE_mem.mp he) with h1 | h1
            · exact hsub1 z (g.st z (.inl ⟨e, h1, h⟩))
            · exact hsub2 z (g2.st z (.inl ⟨e, h1, h⟩))
          · rcases hHm z (rise_mem.mp hz) with h1 | h1
            · exact hsub1 z (g.st z (.inr h1))
            · exact hsub2 z (g2.st z (.inr h1))
        refine b8.done k ⟨ns, riseE G, rise H, rfl, hnl, ⟨?_, Nat.le_trans (riseE_len G) hGl, hst, hasc, fun e he => (hGm e (riseE_mem.mp he)).elim (g.ma e) (g2.ma e)⟩, hn8, fun e he => (hGm e (riseE_mem.mp he)).imp id (hmk e)⟩ (by omega)
        have m1 := g.mb
        have m2 := g2.mb
        simp only [machB, Bool.and_eq_true, List.all_eq_true] at m1 m2 ⊢
        exact ⟨fun e he => (hGm e (riseE_mem.mp he)).elim (m1.1 e) (m2.1 e), fun z hz => (hHm z (rise_mem.mp hz)).elim (m1.2.1 z) (m2.2.1 z), risE_of (riseE_nodup G) ⟨_, rfl⟩, risS_of (rise_ris H)⟩
--DKA edges
/-- a Reader made of some edges -/
def sp_Reader_init (Reader : Addr) : DSp := fun ds M R => ∃ (M0 : Mm) (a : Addr) (E : List Ed) (x : D), ds = [.ref a, x] ∧ (x = .tup (E.map edD) ∨ ∃ q, x = .ref q ∧ M0 q = some (.dit (esD E)) ∧ M q = some (.dit (esD E))) ∧ M a = some (.ins Reader []) ∧ E.length ≤ 100000 ∧ (∀ x, M x = none → M0 x = none) ∧ M0 a = none ∧
  ∀ M', (∀ x, M0 x ≠ none → M' x = M x) → (∀ x, M x ≠ none → M' x ≠ none) → RdrAt M0 M' Reader a E → R .non M'
theorem rinit_go {M : Mm} {Reader x : Addr} {E : List Ed} {Q : DQ} (hx : M x = none) (hE : E.length ≤ 100000) (k : ∀ M', Sub M M' → RdrAt M M' Reader x E → Q .non M') : sp_Reader_init Reader [.ref x, .tup (E.map edD)] (mup M x (.ins Reader [])) Q :=
  ⟨M, x, E, _, rfl, .inl rfl, mup_same, hE, fun y hy => by
    by_cases e : y = x
    · rw [e]; exact hx
    · rwa [mup_ne e] at hy, hx, fun M' h1 _ h3 => k M' (fun y o hy => by
    have hyx : y ≠ x := by rintro rfl; rw [hx] at hy; cases hy
    rw [h1 y (by rw [hy]; simp), mup_ne hyx, hy]) h3⟩
theorem rinit_goT {M : Mm} {Reader x q : Addr} {E : List Ed} {Q : DQ} (hx : M x = none) (hq : M q = some (.dit (esD E))) (hE : E.length ≤ 100000) (k : ∀ M', Sub M M' → RdrAt M M' Reader x E → Q .non M') : sp_Reader_init Reader [.ref x, .ref q] (mup M x (.ins Reader [])) Q :=
  ⟨M, x, E, _, rfl, .inr ⟨q, rfl, hq, by rw [mup_ne (by rintro rfl; rw [hx] at hq; cases hq)]; exact hq⟩, mup_same, hE, fun y hy => by
    by_cases e : y = x
    · rw [e]; exact hx
    · rwa [mup_ne e] at hy, hx, fun M' h1 _ h3 => k M' (fun y o hy => by
    have hyx : y ≠ x := by rintro rfl; rw [hx] at hy; cases hy
    rw [h1 y (by rw [hy]; simp), mup_ne hyx, hy]) h3⟩
theorem ok_Reader_init {f_Reader_init f_Reader f_Beside f_Beside_init f_Reader_by f_Reader_slipped f_Reader_on f_Beside_knots f_Beside_onward f_Beside_parts : Addr} {fd_Reader_init : FuncData} (TC : Owns K mg f_Reader f_Beside f_Reader_init f_Beside_init f_Reader_by f_Reader_slipped f_Reader_on f_Beside_knots f_Beside_onward f_Beside_parts) (F_Reader_init : Fun K "__init__" "Reader.__init__" st_Reader_init f_Reader_init fd_Reader_init) : FnOk P w K mg base CX0 1 f_Reader_init fd_Reader_init ["self", "edges"] (toSp K (sp_Reader_init f_Reader)) := by
  refine fn_ok (k := 0) F_Reader_init sc_Reader_init (fun ds M R h => ?_) (fun cdv A outer s H E hr => ⟨_, (jb_cons (js_fput ⟨TC.c_Reader, TC.n_Reader_leads⟩ (jv 0) (je_freshD jd_empty))
      (jb_one (js_lock (js_for PassesOwn.never rfl (ji_or (ji_any (jv 1)) (ji_keys (jv 1))) (jg_tup (n := 3) rfl (jgs_cons (jg_name (i := 2) sc_Reader_init.nd) (jgs_cons (jg_name (i := 3) sc_Reader_init.nd) (jgs_cons (jg_name (i := 4) sc_Reader_init.nd) jgs_nil)))) (jb_one (js_expr (je_append (je_setd (je_setd (je_fld ⟨TC.c_Reader, TC.n_Reader_leads⟩ (jv 0)) (jv 2) (je_freshD jd_empty)) (jv 3) (je_fresh (jl_disp ja_nil))) (jv 4)))))))), fun ds M R h => ?_⟩)
  · unfold sp_Reader_init at h
    first | (obtain ⟨rfl, _⟩ := h; rfl) | (obtain ⟨_, rfl, _⟩ := h; rfl) | (obtain ⟨_, _, rfl, _⟩ := h; rfl) | (obtain ⟨_, _, _, rfl, _⟩ := h; rfl) | (obtain ⟨_, _, _, _, rfl, _⟩ := h; rfl) | (obtain ⟨_, _, _, _, _, rfl, _⟩ := h; rfl) | (obtain ⟨_, _, _, _, _, _, rfl, _⟩ := h; rfl) | (obtain ⟨_, _, _, _, _, _, _, rfl, _⟩ := h; rfl) | (obtain ⟨_, _, _, _, _, _, _, _, rfl, _⟩ := h; rfl) | (obtain ⟨_, _, _, _, _, _, _, _, _, rfl, _⟩ := h; rfl) | (obtain ⟨_, _, _, _, _, _, _, _, _, _, rfl, _⟩ := h; rfl) | (split at h <;> first | rfl | exact h.elim)
  · unfold sp_Reader_init at h
    obtain ⟨M0, a, E, x, rfl, hx, ha, hE, hb, ha0, k⟩ := h
    simp_all only [N_Reader_init]
    infer_instance
    intro l hl
    have hal : a ≠ l := by rintro rfl; rw [ha] at hl; cases hl
    refine fput_g (C := f_Reader) (fs := []) (by rw [insOf_mup_ne hal]; exact insOf_some ha) (by decide) ?_
    simp only [putFD]
    infer_instance
    have hl0 := hb l hl
    have un : ∀ {x : Addr}, (if x = a then some (MO.lst []) else M0 x) = none → M0 x = none := fun {x} h => by
      by_cases e : x = a
      · rw [if_pos e] at h; cases h
      · rwa [if_neg e] at h
    have s1 : ∀ x, M0 x ≠ none → mup (mup M l (.dic [])) a (.ins f_Reader [(Str.ofString "leads", D.ref l)]) x = M x := fun x hx => by
      rw [mup_ne (by rintro rfl; exact hx ha0), mup_ne (by rintro rfl; exact hx hl0)]
    have s2 : ∀ x, M x ≠ none → mup (mup M l (.dic [])) a (.ins f_Reader [(Str.ofString "leads", D.ref l)]) x ≠ none := fun x hx => by
      by_cases e : x = a
      · rw [e, mup_same]; simp
      · rw [mup_ne e]
        by_cases e : x = l
        · rw [e, mup_same]; simp
        · rw [mup_ne e]; exact hx
    have s3 : LdsE (fun x => if x = a then some (.lst []) else M0 x) (mup (mup M l (.dic [])) a (.ins f_Reader [(Str.ofString "leads", D.ref l)])) l [] := by
      refine LdsE.nil (by rw [dicOf_mup_ne hal.symm]; exact dicOf_mup_same2) ?_
      rw [if_neg hal.symm]; exact hl0
    rcases hx with rfl | ⟨q, rfl, hq0, hq⟩
    · refine lk_no ?_
      try simp_all only []
      refine dOrI_l ?_
      try simp_all only []
      refine forS [2, 3, 4] (fun i vs M' => ∃ x2 x3 x4, vs = [x2, x3, x4] ∧ (∀ x, M0 x ≠ none → M' x = M x) ∧ (∀ x, M x ≠ none → M' x ≠ none) ∧ insOf M' a = some (f_Reader, [(("leads" : Str), D.ref l)]) ∧ LdsE (fun x => if x = a then some (.lst []) else M0 x) M' l (E.take i)) (fun _ _ _ _ => trivial) (fun i x N e hN vs M' hI => ?_) (fun vs M' hI => ?_) ⟨_, _, _, rfl, s1, s2, insOf_mup_same, s3⟩
      · obtain ⟨x2, x3, x4, rfl, hk, hal', hi, hL⟩ := hI
        rw [List.getElem?_map] at e
        obtain ⟨⟨s, m, t⟩, he, rfl⟩ := Option.map_eq_some_iff.mp e
        have hlt := (List.getElem?_eq_some_iff.mp he).1
        simp only [edD]
        infer_instance
        refine fld_go hi (by rfl) ?_
        refine leads_go (s := s) (m := m) hL (by rw [List.length_take]; omega) (fun p hp => ?_) fun M2 hL2 fr al => ?_
        · have hpa : p ≠ a := by rintro rfl; rw [of_insOf hi] at hp; cases hp
          rw [if_neg hpa]
          cases e0 : M0 p with
          | none => rfl
          | some o =>
            have h1 := hk p (by rw [e0]; simp)
            have h2 : M p ≠ none := fun h => by rw [hb p h] at e0; cases e0
            rw [hp] at h1
            exact absurd h1.symm h2
        · refine hN _ _ _ rfl ⟨_, _, _, rfl, fun x hx => ?_, fun x hx => al x (hal' x hx), ?_, ?_⟩
          · rw [fr x (by by_cases e : x = a <;> simp [e]; exact hx)]; exact hk x hx
          · have := fr a (by simp)
            unfold insOf
            rw [this]
            exact hi
          · rw [List.take_add_one, he]
            exact hL2
      · obtain ⟨x2, x3, x4, rfl, hk, hal', hi, hL⟩ := hI
        infer_instance
        have hlen : (List.map edD E).length = E.length := List.length_map ..
        rw [hlen, List.take_length] at hL
        obtain ⟨pA, qA, S, T, L, n, h1, h2⟩ := hL
        exact Shr.all (k _ hk hal' ⟨l, hi, pA, qA, S, T, L, n, ⟨h1.to, un h1.ol, fun s hs => un (h1.op s hs), fun s m ht => un (h1.oq s m ht)⟩, h2⟩)
    · have hqM : M0 q ≠ none := by rw [hq0]; simp
      have hqa : q ≠ a := by rintro rfl; exact hqM ha0
      have hM3 : mup (mup M l (.dic [])) a (.ins f_Reader [(Str.ofString "leads", D.ref l)]) q = some (.dit (esD E)) := (s1 q hqM).trans hq
      refine lk_t q hM3 fun ob us => ?_
      try simp_all only []
      refine dOrI_r ?_
      try simp_all only []
      refine keysI_t mup_same ?_
      rw [keys_es]
      refine forS [2, 3, 4] (fun i vs M' => ∃ x2 x3 x4, vs = [x2, x3, x4] ∧ M' q = some (.lkT ob us (esD E)) ∧ (∀ x, M0 x ≠ none → x ≠ q → M' x = M x) ∧ (∀ x, M x ≠ none → M' x ≠ none) ∧ insOf M' a = some (f_Reader, [(("leads" : Str), D.ref l)]) ∧ LdsE (fun x => if x = a then some (.lst []) else M0 x) M' l (E.take i)) (fun _ _ _ hI => ?_) (fun i x N e hN vs M' hI => ?_) (fun vs M' hI => ?_) ⟨_, _, _, rfl, mup_same, fun x hx hxq => by rw [mup_ne hxq]; exact s1 x hx, fun x hx => ?_, by rw [insOf_mup_ne hqa.symm]; exact insOf_mup_same, ?_⟩
      · obtain ⟨_, _, _, _, h, _⟩ := hI; exact h
      · obtain ⟨x2, x3, x4, rfl, hlk, hk, hal', hi, hL⟩ := hI
        rw [List.getElem?_map] at e
        obtain ⟨⟨s, m, t⟩, he, rfl⟩ := Option.map_eq_some_iff.mp e
        have hlt := (List.getElem?_eq_some_iff.mp he).1
        simp only [edD]
        infer_instance
        refine fld_go hi (by rfl) ?_
        refine leads_go (s := s) (m := m) hL (by rw [List.length_take]; omega) (fun p hp => ?_) fun M2 hL2 fr al => ?_
        · have hpa : p ≠ a := by rintro rfl; rw [of_insOf hi] at hp; cases hp
          have hpq : p ≠ q := by rintro rfl; rw [hlk] at hp; cases hp
          rw [if_neg hpa]
          cases e0 : M0 p with
          | none => rfl
          | some o =>
            have h1 := hk p (by rw [e0]; simp) hpq
            have h2 : M p ≠ none := fun h => by rw [hb p h] at e0; cases e0
            rw [hp] at h1
            exact absurd h1.symm h2
        · refine hN _ _ _ rfl ⟨_, _, _, rfl, ?_, fun x hx hxq => ?_, fun x hx => al x (hal' x hx), ?_, ?_⟩
          · rw [fr q (by simp [hqa]; exact hqM)]; exact hlk
          · rw [fr x (by by_cases e : x = a <;> simp [e]; exact hx)]; exact hk x hx hxq
          · have := fr a (by simp)
            unfold insOf
            rw [this]
            exact hi
          · rw [List.take_add_one, he]
            exact hL2
      · obtain ⟨x2, x3, x4, rfl, hlk, hk, hal', hi, hL⟩ := hI
        refine ⟨hlk, ?_⟩
        infer_instance
        have hlen : (List.map edD E).length = E.length := List.length_map ..
        rw [hlen, List.take_length] at hL
        have hL := hL.put (p := q) (o := .dit (esD E)) (by unfold dicOf; rw [hlk]) (by unfold lstOf; rw [hlk])
        obtain ⟨pA, qA, S, T, L, n, h1, h2⟩ := hL
        refine Shr.all (k _ (fun x hx => ?_) (fun x hx => ?_) ⟨l, by rw [insOf_mup_ne hqa.symm]; exact hi, pA, qA, S, T, L, n, ⟨h1.to, un h1.ol, fun s hs => un (h1.op s hs), fun s m ht => un (h1.oq s m ht)⟩, h2⟩)
        · by_cases e : x = q
          · rw [e, mup_same, hq]
          · rw [mup_ne e]; exact hk x hx e
        · by_cases e : x = q
          · rw [e, mup_same]; simp
          · rw [mup_ne e]; exact hal' x hx
      · by_cases e : x = q
        · rw [e, mup_same]; simp
        · rw [mup_ne e]; exact s2 x hx
      · refine LdsE.nil ?_ (by rw [if_neg hal.symm]; exact hl0)
        rw [dicOf_mup_ne' (by rintro rfl; exact hqM hl0), dicOf_mup_ne hal.symm]; exact dicOf_mup_same2
/-- two machines side by side -/
def sp_Beside_init (Beside Reader : Addr) : DSp := fun ds M R => ∃ (M0 : Mm) (a : Addr) (E E2 : List Ed) (F F2 : List Str), ds = [.ref a, .tup [.tup (E.map edD), .tup (F.map .str)], .tup [.tup (E2.map edD), .tup (F2.map .str)]] ∧ M = mup M0 a (.ins Beside []) ∧ M0 a = none ∧ E.length ≤ 100000 ∧ E2.length ≤ 100000 ∧ ∀ M' r1 r2, BesAt M0 M' Beside Reader a r1 r2 E F E2 F2 → Sub M0 M' → R .non M'
theorem bes_init_go {M0 : Mm} {R : DQ} {Beside Reader a : Addr} {E E2 : List Ed} {F F2 : List Str} (ha : M0 a = none) (h1 : E.length ≤ 100000) (h2 : E2.length ≤ 100000) (k : ∀ M' r1 r2, BesAt M0 M' Beside Reader a r1 r2 E F E2 F2 → Sub M0 M' → R .non M') : sp_Beside_init Beside Reader [.ref a, .tup [.tup (E.map edD), .tup (F.map .str)], .tup [.tup (E2.map edD), .tup (F2.map .str)]] (mup M0 a (.ins Beside [])) R := ⟨M0, a, E, E2, F, F2, rfl, rfl, ha, h1, h2, k⟩
theorem ok_Beside_init {f_Beside_init f_Reader_init f_Reader f_Beside f_Reader_by f_Reader_slipped f_Reader_on f_Beside_knots f_Beside_onward f_Beside_parts : Addr} {fd_Beside_init fd_Reader_init : FuncData} (TC : Owns K mg f_Reader f_Beside f_Reader_init f_Beside_init f_Reader_by f_Reader_slipped f_Reader_on f_Beside_knots f_Beside_onward f_Beside_parts) (F_Beside_init : Fun K "__init__" "Beside.__init__" st_Beside_init f_Beside_init fd_Beside_init) (G_Reader_init : FnOk P w K mg base CX0 1 f_Reader_init fd_Reader_init ["self", "edges"] (toSp K (sp_Reader_init f_Reader))) (b_Reader_init : Binds K fd_Reader_init ["self", "edges"] []) : FnOk P w K mg base CX0 3 f_Beside_init fd_Beside_init ["self", "one", "other"] (toSp K (sp_Beside_init f_Beside f_Reader)) := by
  refine fn_ok (k := 2) F_Beside_init sc_Beside_init (fun ds M R h => ?_) (fun cdv A outer s H E hr => ⟨_, (jb_cons (js_fput ⟨TC.c_Beside, TC.n_Beside_first⟩ (jv 0) (je_make TC.k_Reader G_Reader_init (hr.mono (by decide)) (by rfl) TC.m_Reader b_Reader_init (ja_cons (je_ix (jv 1) je_int) ja_nil)))
      (jb_cons (js_fput ⟨TC.c_Beside, TC.n_Beside_second⟩ (jv 0) (je_make TC.k_Reader G_Reader_init (hr.mono (by decide)) (by rfl) TC.m_Reader b_Reader_init (ja_cons (je_ix (jv 2) je_int) ja_nil)))
      (jb_cons (js_fput ⟨TC.c_Beside, TC.n_Beside_first_ends⟩ (jv 0) (je_ix (jv 1) je_int))
      (jb_one (js_fput ⟨TC.c_Beside, TC.n_Beside_second_ends⟩ (jv 0) (je_ix (jv 2) je_int)))))), fun ds M R h => ?_⟩)
  · unfold sp_Beside_init at h
    first | (obtain ⟨rfl, _⟩ := h; rfl) | (obtain ⟨_, rfl, _⟩ := h; rfl) | (obtain ⟨_, _, rfl, _⟩ := h; rfl) | (obtain ⟨_, _, _, rfl, _⟩ := h; rfl) | (obtain ⟨_, _, _, _, rfl, _⟩ := h; rfl) | (obtain ⟨_, _, _, _, _, rfl, _⟩ := h; rfl) | (obtain ⟨_, _, _, _, _, _, rfl, _⟩ := h; rfl) | (obtain ⟨_, _, _, _, _, _, _, rfl, _⟩ := h; rfl) | (obtain ⟨_, _, _, _, _, _, _, _, rfl, _⟩ := h; rfl) | (obtain ⟨_, _, _, _, _, _, _, _, _, rfl, _⟩ := h; rfl) | (obtain ⟨_, _, _, _, _, _, _, _, _, _, rfl, _⟩ := h; rfl) | (split at h <;> first | rfl | exact h.elim)
  · unfold sp_Beside_init at h
    obtain ⟨M0, a, E, E2, F, F2, rfl, rfl, ha, hE, hE2, k⟩ := h
    simp_all only [N_Beside_init]
    infer_instance
    intro r hr
    refine rinit_go hr hE fun M1 hs1 hrd1 => ?_
    refine ⟨rfl, ?_⟩
    have hia : insOf M1 a = some (f_Beside, []) := insOf_sub hs1 insOf_mup_same
    have hra : r ≠ a := by rintro rfl; rw [mup_same] at hr; cases hr
    have hM0 : ∀ x, mup M0 a (.ins f_Beside []) x = none → M0 x = none := fun x hx => by
      by_cases e : x = a
      · rw [e]; exact ha
      · rwa [mup_ne e] at hx
    have hrd1 := (hrd1.rebase hM0).putI (o := .ins f_Beside [(("first" : Str), .ref r)]) hia hra
    refine fput_g hia (by decide) ?_
    rw [show putFD (Str.ofString "first") (D.ref r) [] = [(("first" : Str), .ref r)] from rfl]
    have hs2 : Sub M0 (mup M1 a (.ins f_Beside [(("first" : Str), .ref r)])) := fun x o h => by
      have hxa : x ≠ a := by rintro rfl; rw [ha] at h; cases h
      rw [mup_ne hxa]
      exact hs1 x o (by rw [mup_ne hxa]; exact h)
    generalize hM2 : mup M1 a (.ins f_Beside [(("first" : Str), .ref r)]) = M2 at hrd1 hs2
    have hia2 : insOf M2 a = some (f_Beside, [(("first" : Str), .ref r)]) := by rw [← hM2]; exact insOf_mup_same
    infer_instance
    intro r2 hr2
    refine rinit_go hr2 hE2 fun M3 hs3 hrd2 => ?_
    refine ⟨rfl, ?_⟩
    have hia3 := insOf_sub hs3 hia2
    have hr2a : r2 ≠ a := by rintro rfl; rw [of_insOf hia2] at hr2; cases hr2
    have hM2n : ∀ x, M2 x = none → M0 x = none := fun x hx => hs2.none hx
    have q1 := (hrd1.frame hs3).putI (o := .ins f_Beside [(("first" : Str), .ref r), (("second" : Str), .ref r2)]) hia3 hra
    have q2 := (hrd2.rebase hM2n).putI (o := .ins f_Beside [(("first" : Str), .ref r), (("second" : Str), .ref r2)]) hia3 hr2a
    refine fput_g hia3 (by simp) ?_
    rw [show putFD (Str.ofString "second") (D.ref r2) [(("first" : Str), .ref r)] = [(("first" : Str), .ref r), (("second" : Str), .ref r2)] by simp [putFD]; decide]
    have hs3' : Sub M0 (mup M3 a (.ins f_Beside [(("first" : Str), .ref r), (("second" : Str), .ref r2)])) := fun x o h => by
      have hxa : x ≠ a := by rintro rfl; rw [ha] at h; cases h
      rw [mup_ne hxa]
      exact hs3 x o (hs2 x o h)
    generalize hM4 : mup M3 a (.ins f_Beside [(("first" : Str), .ref r), (("second" : Str), .ref r2)]) = M4 at q1 q2 hs3'
    have hia4 : insOf M4 a = some (f_Beside, [(("first" : Str), .ref r), (("second" : Str), .ref r2)]) := by rw [← hM4]; exact insOf_mup_same
    infer_instance
    refine fput_g hia4 (by simp) ?_
    rw [show putFD (Str.ofString "first_ends") (.tup (F.map .str)) [(("first" : Str), D.ref r), (("second" : Str), .ref r2)] = [(("first" : Str), .ref r), (("second" : Str), .ref r2), (("first_ends" : Str), .tup (F.map .str))] by simp only [putFD, if_neg (show ¬ Str.ofString "first" = Str.ofString "first_ends" by decide), if_neg (show ¬ Str.ofString "second" = Str.ofString "first_ends" by decide)]]
    infer_instance
    refine fput_g insOf_mup_same (by simp) ?_
    rw [show putFD (Str.ofString "second_ends") (.tup (F2.map .str)) [(("first" : Str), D.ref r), (("second" : Str), .ref r2), (("first_ends" : Str), .tup (F.map .str))] = [(("first" : Str), .ref r), (("second" : Str), .ref r2), (("first_ends" : Str), .tup (F.map .str)), (("second_ends" : Str), .tup (F2.map .str))] by simp only [putFD, if_neg (show ¬ Str.ofString "first" = Str.ofString "second_ends" by decide), if_neg (show ¬ Str.ofString "second" = Str.ofString "second_ends" by decide), if_neg (show ¬ Str.ofString "first_ends" = Str.ofString "second_ends" by decide)]]
    refine Shr.all (k _ r r2 ⟨insOf_mup_same, (q1.putI hia4 hra).putI insOf_mup_same hra, (q2.putI hia4 hr2a).putI insOf_mup_same hr2a⟩ fun x o h => ?_)
    have hxa : x ≠ a := by rintro rfl; rw [ha] at h; cases h
    rw [mup_ne hxa, mup_ne hxa]
    exact hs3' x o h
--DPK
--KD dict([(edge[1], True) for edge in machine[0] if edge[1] != ''])
/-- the marks of a machine's edges, rising -/
def sp_marks_of : DSp := fun ds M R => ∃ (E : List Ed) (F : D), ds = [.tup [.tup (E.map edD), F]] ∧ E.length ≤ 100000 ∧ ∀ ms : List Str, RisS ms → (∀ m, m ∈ ms ↔ m ≠ ("" : Str) ∧ ∃ e ∈ E, e.2.1 = m) → ms.length ≤ E.length → R (.lst (ms.map .str)) M
theorem marks_go {M : Mm} {R : DQ} {E : List Ed} {F : D} (h : E.length ≤ 100000) (k : ∀ ms : List Str, RisS ms → (∀ m, m ∈ ms ↔ m ≠ ("" : Str) ∧ ∃ e ∈ E, e.2.1 = m) → ms.length ≤ E.length → R (.lst (ms.map .str)) M) : sp_marks_of [.tup [.tup (E.map edD), F]] M R := ⟨E, F, rfl, h, k⟩
theorem ok_marks_of {f_marks_of : Addr} {fd_marks_of : FuncData} (F_marks_of : Fun K "marks_of" "marks_of" st_marks_of f_marks_of fd_marks_of) (z_sorted : mg "sorted" = none) (z_dict : mg "dict" = none) : FnOk P w K mg base CX0 1 f_marks_of fd_marks_of ["machine"] (toSp K sp_marks_of) := by
  refine fn_ok (k := 0) F_marks_of sc_marks_of (fun ds M R h => ?_) (fun cdv A outer s H E hr => ⟨_, (jb_one (js_ret (je_frz (jl_sortedK rfl hr z_sorted (je_dictPK rfl hr z_dict (ja_cons (je_frz (jl_lc rfl sc_marks_of.nd (jlc (ji_any (je_ix (jv 0) je_int)) (blkOk_by (own := [("edge", 1)]) (N := N_marks_of) (sc := defScope st_marks_of) (by decide +kernel)) (fun _ _ _ _ _ => (jgv_name (i := 1) sc_marks_of.nd (by decide))) (fun _ _ _ _ _ => (jts_one (jt_ne hr (je_ix (jv 1) je_int) je_str))) (fun _ _ _ _ _ => (je_tup (ja_cons (je_ix (jv 1) je_int) (ja_cons je_bl ja_nil))))))) ja_nil)))))), fun ds M R h => ?_⟩)
  · unfold sp_marks_of at h
    first | (obtain ⟨rfl, _⟩ := h; rfl) | (obtain ⟨_, rfl, _⟩ := h; rfl) | (obtain ⟨_, _, rfl, _⟩ := h; rfl) | (obtain ⟨_, _, _, rfl, _⟩ := h; rfl) | (obtain ⟨_, _, _, _, rfl, _⟩ := h; rfl) | (obtain ⟨_, _, _, _, _, rfl, _⟩ := h; rfl) | (obtain ⟨_, _, _, _, _, _, rfl, _⟩ := h; rfl) | (obtain ⟨_, _, _, _, _, _, _, rfl, _⟩ := h; rfl) | (obtain ⟨_, _, _, _, _, _, _, _, rfl, _⟩ := h; rfl) | (obtain ⟨_, _, _, _, _, _, _, _, _, rfl, _⟩ := h; rfl) | (obtain ⟨_, _, _, _, _, _, _, _, _, _, rfl, _⟩ := h; rfl) | (split at h <;> first | rfl | exact h.elim)
  · unfold sp_marks_of at h
    obtain ⟨E, F, rfl, hE, k⟩ := h
    simp_all only [N_marks_of]
    infer_instance
    refine lcW_filter (l := E) edD (fun e => !decide (e.2.1 = ("" : Str))) (fun e => .tup [.str e.2.1, .bl true]) (small_line2 (by omega)) trivial (fun e he NN FF g1 g2 => ?_) ?_
    · simp only [edD]
      and_intros
      by_cases c : e.2.1 = ("" : Str)
      · rw [if_neg (by simp [c])]; exact g2 (by simp [c])
      · rw [if_pos (by simpa using c)]; exact g1 (by simp [c])
    rw [show (E.filter fun e => !decide (e.2.1 = ("" : Str))).map (fun e => D.tup [D.str e.2.1, D.bl true]) = ((E.filter fun e => !decide (e.2.1 = ("" : Str))).map (·.2.1)).map fun s => D.tup [D.str s, D.bl true] by rw [List.map_map]; rfl]
    refine dictK_txs rfl fun S p hp hn hm => ?_
    refine sortedK_g (dicOf_some mup_same) (by rw [keys_tx]; exact sortOk_str) ?_
    rw [keys_tx, sortD_strs]
    have hmem : ∀ z, z ∈ sortS S ↔ z ≠ ("" : Str) ∧ ∃ e ∈ E, e.2.1 = z := fun z => by
      rw [sortS_mem, hm, List.mem_map]
      constructor
      · rintro ⟨e, he, rfl⟩
        obtain ⟨h1, h2⟩ := List.mem_filter.mp he
        exact ⟨by simpa using h2, e, h1, rfl⟩
      · rintro ⟨h1, e, he, rfl⟩
        exact ⟨e, List.mem_filter.mpr ⟨he, by simpa using h1⟩, rfl⟩
    refine Shr.of (k (sortS S) (sortS_ris hn) hmem ?_) (Sub.mup hp)
    have := sub_len (l := sortS S) (m := E.map (·.2.1)) (ris_nodup (sortS_ris hn)) fun z hz => by
      obtain ⟨_, e, he, c⟩ := (hmem z).mp hz
      exact List.mem_map.mpr ⟨e, he, c⟩
    simpa using this
/-- the states behind a state and a mark -/
def sp_Reader_by (Reader : Addr) : DSp := fun ds M R => ∃ (M0 : Mm) (a : Addr) (E : List Ed) (s m : Str), ds = [.ref a, .str s, .str m] ∧ RdrAt M0 M Reader a E ∧ ∀ d, rdL M d = some ((byE E s m).map .str) → (∃ xs, d = .lst xs) ∨ (∃ q, d = .ref q ∧ M0 q = none) → R d M
theorem by_go {M M0 : Mm} {R : DQ} {Reader a : Addr} {E : List Ed} {s m : Str} (h : RdrAt M0 M Reader a E) (k : ∀ d, rdL M d = some ((byE E s m).map .str) → (∃ xs, d = .lst xs) ∨ (∃ q, d = .ref q ∧ M0 q = none) → R d M) : sp_Reader_by Reader [.ref a, .str s, .str m] M R := ⟨M0, a, E, s, m, rfl, h, k⟩
theorem ok_Reader_by {f_Reader_by f_Reader f_Beside f_Reader_init f_Beside_init f_Reader_slipped f_Reader_on f_Beside_knots f_Beside_onward f_Beside_parts : Addr} {fd_Reader_by : FuncData} (TC : Owns K mg f_Reader f_Beside f_Reader_init f_Beside_init f_Reader_by f_Reader_slipped f_Reader_on f_Beside_knots f_Beside_onward f_Beside_parts) (F_Reader_by : Fun K "by" "Reader.by" st_Reader_by f_Reader_by fd_Reader_by) : FnOk P w K mg base CX0 1 f_Reader_by fd_Reader_by ["self", "state", "mark"] (toSp K (sp_Reader_by f_Reader)) := by
  refine fn_ok (k := 0) F_Reader_by sc_Reader_by (fun ds M R h => ?_) (fun cdv A outer s H E hr => ⟨_, (jb_one (js_ret (je_get2 hr (je_get2 hr (je_fld ⟨TC.c_Reader, TC.n_Reader_leads⟩ (jv 0)) (jv 1) (je_frzD jd_empty)) (jv 2) (je_frz (jl_disp ja_nil))))), fun ds M R h => ?_⟩)
  · unfold sp_Reader_by at h
    first | (obtain ⟨rfl, _⟩ := h; rfl) | (obtain ⟨_, rfl, _⟩ := h; rfl) | (obtain ⟨_, _, rfl, _⟩ := h; rfl) | (obtain ⟨_, _, _, rfl, _⟩ := h; rfl) | (obtain ⟨_, _, _, _, rfl, _⟩ := h; rfl) | (obtain ⟨_, _, _, _, _, rfl, _⟩ := h; rfl) | (obtain ⟨_, _, _, _, _, _, rfl, _⟩ := h; rfl) | (obtain ⟨_, _, _, _, _, _, _, rfl, _⟩ := h; rfl) | (obtain ⟨_, _, _, _, _, _, _, _, rfl, _⟩ := h; rfl) | (obtain ⟨_, _, _, _, _, _, _, _, _, rfl, _⟩ := h; rfl) | (obtain ⟨_, _, _, _, _, _, _, _, _, _, rfl, _⟩ := h; rfl) | (split at h <;> first | rfl | exact h.elim)
  · unfold sp_Reader_by at h
    obtain ⟨M0, a, E, s, m, rfl, ⟨l, hi, pA, qA, S, T, L, n, hL, hn, hLE⟩, k⟩ := h
    obtain ⟨kvs, hk, hl, h3⟩ := hL.to.ld
    simp_all only [N_Reader_by]
    infer_instance
    refine fld_go hi (by rfl) ?_
    infer_instance
    rw [hk]
    refine ⟨rfl, ?_⟩
    simp only [orT_some, someI_s]
    cases e1 : valD kvs (Sum.inr s) with
    | none =>
      have hs := hL.to.none_of hk e1
      have e2 : byE E s m = [] := by rw [← hLE]; exact hL.to.out s m fun ht => hs (hL.to.ts s m ht)
      rw [e2] at k
      exact ⟨rfl, Shr.all (k (.lst []) rfl (.inl ⟨_, rfl⟩))⟩
    | some d =>
      obtain ⟨hs, rfl⟩ := (h3 s d).mp e1
      obtain ⟨ms, hm, ⟨hml, _⟩, hm3⟩ := hL.to.inn s hs
      simp only [Option.getD_some, rdDL_ref, hm, orT_some, someI_s]
      refine ⟨rfl, ?_⟩
      cases e2 : valD ms (Sum.inr m) with
      | none =>
        have e3 : byE E s m = [] := by
          rw [← hLE]
          refine hL.to.out s m fun ht => ?_
          have := (hm3 m _).mpr ⟨ht, rfl⟩
          rw [e2] at this
          cases this
        rw [e3] at k
        exact Shr.all (k (.lst []) rfl (.inl ⟨_, rfl⟩))
      | some d =>
        obtain ⟨ht, rfl⟩ := (hm3 m d).mp e2
        have := hL.to.lst s m ht
        rw [hLE] at this
        exact Shr.all (k _ this (.inr ⟨_, rfl, hL.oq s m ht⟩))
--KD found
--MUT waiting
/-- all to which slips lead from some states, rising -/
def sp_Reader_slipped (Reader : Addr) : DSp := fun ds M R => ∃ (M0 : Mm) (a : Addr) (E : List Ed) (x : D) (xs : List Str), ds = [.ref a, x] ∧ RdrAt M0 M Reader a E ∧ rdS M x = some (xs.map .str) ∧ E.length ≤ 200000 ∧ xs.length ≤ 200000 ∧ ∀ ys, RisS ys → (∀ z, z ∈ ys ↔ Slips E (· ∈ xs) z) → R (.tup (ys.map .str)) M
theorem slipped_go {M M0 : Mm} {R : DQ} {Reader a : Addr} {E : List Ed} {x : D} {xs : List Str} (h : RdrAt M0 M Reader a E) (e : rdS M x = some (xs.map .str)) (h1 : E.length ≤ 200000) (h2 : xs.length ≤ 200000) (k : ∀ ys, RisS ys → (∀ z, z ∈ ys ↔ Slips E (· ∈ xs) z) → R (.tup (ys.map .str)) M) : sp_Reader_slipped Reader [.ref a, x] M R := ⟨M0, a, E, x, xs, rfl, h, e, h1, h2, k⟩
theorem ok_Reader_slipped {f_Reader_slipped f_Reader_by f_Reader f_Beside f_Reader_init f_Beside_init f_Reader_on f_Beside_knots f_Beside_onward f_Beside_parts : Addr} {fd_Reader_slipped fd_Reader_by : FuncData} (TC : Owns K mg f_Reader f_Beside f_Reader_init f_Beside_init f_Reader_by f_Reader_slipped f_Reader_on f_Beside_knots f_Beside_onward f_Beside_parts) (F_Reader_slipped : Fun K "slipped" "Reader.slipped" st_Reader_slipped f_Reader_slipped fd_Reader_slipped) (G_Reader_by : FnOk P w K mg base CX0 1 f_Reader_by fd_Reader_by ["self", "state", "mark"] (toSp K (sp_Reader_by f_Reader))) (b_Reader_by : Binds K fd_Reader_by ["self", "state", "mark"] []) (z_list : mg "list" = none) (z_tuple : mg "tuple" = none) (z_sorted : mg "sorted" = none) : FnOk P w K mg base CX0 2 f_Reader_slipped fd_Reader_slipped ["self", "states"] (toSp K (sp_Reader_slipped f_Reader)) := by
  refine fn_ok (k := 1) F_Reader_slipped sc_Reader_slipped (fun ds M R h => ?_) (fun cdv A outer s H E hr => ⟨_, (jb_cons (js_set (i := 2) sc_Reader_slipped.nd (je_freshD jd_empty))
      (jb_cons (js_set (i := 3) sc_Reader_slipped.nd (je_fresh (jl_list z_list (ja_cons (jv 1) ja_nil))))
      (jb_cons (js_while PassesOwn.never (jt_ne hr (jv 3) (je_frz (jl_disp ja_nil))) (jb_cons (js_set (i := 4) sc_Reader_slipped.nd (je_pop0 (jv 3))) (jb_one (js_if (jt_notin hr (jv 4) (jv 2)) (jb_cons (js_dput hr (jv 2) (jv 4) je_bl) (jb_one (js_expr (je_extendA (jv 3) (je_meth TC.c_Reader TC.t_Reader_by G_Reader_by (hr.mono (by decide)) b_Reader_by (jv 0) (ja_cons (jv 4) (ja_cons je_str ja_nil))))))) jb_nil))))
      (jb_one (js_ret (je_tuple z_tuple (ja_cons (je_frz (jl_sortedK rfl hr z_sorted (jv 2))) ja_nil))))))), fun ds M R h => ?_⟩)
  · unfold sp_Reader_slipped at h
    first | (obtain ⟨rfl, _⟩ := h; rfl) | (obtain ⟨_, rfl, _⟩ := h; rfl) | (obtain ⟨_, _, rfl, _⟩ := h; rfl) | (obtain ⟨_, _, _, rfl, _⟩ := h; rfl) | (obtain ⟨_, _, _, _, rfl, _⟩ := h; rfl) | (obtain ⟨_, _, _, _, _, rfl, _⟩ := h; rfl) | (obtain ⟨_, _, _, _, _, _, rfl, _⟩ := h; rfl) | (obtain ⟨_, _, _, _, _, _, _, rfl, _⟩ := h; rfl) | (obtain ⟨_, _, _, _, _, _, _, _, rfl, _⟩ := h; rfl) | (obtain ⟨_, _, _, _, _, _, _, _, _, rfl, _⟩ := h; rfl) | (obtain ⟨_, _, _, _, _, _, _, _, _, _, rfl, _⟩ := h; rfl) | (split at h <;> first | rfl | exact h.elim)
  · unfold sp_Reader_slipped at h
    obtain ⟨M0, a, E, x, xs, rfl, hR, ex, hE, hx, k⟩ := h
    simp_all only [N_Reader_slipped]
    infer_instance
    intro f hf
    infer_instance
    rw [rdS_sub (Sub.mup hf) ex]
    infer_instance
    intro w hw
    have b0 := ((Px.start (M := M)).new (o := .dic (txD [])) hf).new (o := .lst (xs.map .str)) hw
    infer_instance
    refine whileS [4] (fun m vs M' => ∃ x4 F W, vs = [x4] ∧ Px M [(w, .lst (W.map .str)), (f, .dic (txD F))] M' ∧ W.length + slipsLeft E F = m ∧ m ≤ xs.length + E.length ∧ F.Nodup ∧ (∀ z, z ∈ F ∨ z ∈ W → Slips E (· ∈ xs) z) ∧ (∀ z, z ∈ xs → z ∈ F ∨ z ∈ W) ∧ ∀ x ∈ F, ∀ z, (x, ("" : Str), z) ∈ E → z ∈ F ∨ z ∈ W) (xs.length + slipsLeft E []) (fun m N hN vs M' hI => ?_) ⟨_, [], xs, rfl, b0, rfl, by have := slipsLeft_nil E; omega, by simp, fun z hz => .base (by simpa using hz), fun z hz => .inr hz, by simp⟩
    obtain ⟨x4, F, W, rfl, b, hm, hm2, hF, h1, h2, h3⟩ := hI
    simp_all only []
    refine ne_nil_l b.lst1 (pureDs_str _) (Nat.le_trans (depDs_str _) (by decide)) ?_
    have hFl : F.length ≤ xs.length + E.length := slips_len hF fun z hz => Slips.from (h1 z (.inl hz))
    rcases List.eq_nil_or_concat W with rfl | ⟨W', s, rfl⟩
    · infer_instance
      refine sortedK_g b.dic2 (by rw [keys_tx]; exact sortOk_str) ?_
      rw [keys_tx, sortD_strs]
      infer_instance
      refine b.fin (k _ (sortS_ris hF) fun z => ?_)
      rw [sortS_mem]
      exact slips_done (fun z hz => h1 z (.inl hz)) (fun z hz => by simpa using h2 z hz) (fun x hx z he => by simpa using h3 x hx z he) z
    · simp only [List.concat_eq_append] at *
      have e : ((W' ++ [s]).map D.str).isEmpty = false := by simp
      rw [e]
      infer_instance
      refine ⟨by rw [b.lst1]; rfl, ?_⟩
      refine pop_go (xs := W'.map D.str) (d := .str s) (by rw [b.lst1]; simp) ?_
      have b2 := b.put1 (o' := .lst (W'.map .str))
      infer_instance
      refine notin_dic b2.dic2 ?_
      rw [val_tx]
      infer_instance
      by_cases hs : s ∈ F
      · rw [if_neg (by simp [hs])]
        refine hN (W'.length + slipsLeft E F) _ _ _ (by simp at hm; omega) rfl ⟨_, F, W', rfl, b2, rfl, by simp at hm; omega, hF, fun z hz => h1 z (hz.imp id fun h => by simp [h]), fun z hz => ?_, fun y hy z he => ?_⟩
        · rcases h2 z hz with h | h
          · exact .inl h
          · rcases List.mem_append.mp h with h | h
            · exact .inr h
            · rw [List.mem_singleton.mp h]; exact .inl hs
        · rcases h3 y hy z he with h | h
          · exact .inl h
          · rcases List.mem_append.mp h with h | h
            · exact .inr h
            · rw [List.mem_singleton.mp h]; exact .inl hs
      · rw [if_pos (by simp [hs])]
        infer_instance
        rw [b2.dic2]
        refine ⟨by rw [show (txD F).length = F.length by simp [txD]]; exact small_lt2 (by omega), ?_⟩
        rw [put_tx]
        have b3 := b2.put2 (o' := .dic (txD (insS F s)))
        have e3 : insS F s = F ++ [s] := if_neg hs
        have hsl := slipsLeft_add (E := E) hs
        have hbl := byE_len E s ("" : Str)
        infer_instance
        refine ⟨by rw [b3.lst1]; rfl, ?_⟩
        obtain ⟨l, hRi, hRl⟩ := hR
        refine meth_g (insOf_sub b3.ex hRi) (by rfl) ?_
        infer_instance
        refine by_go (RdrAt.frame ⟨l, hRi, hRl⟩ b3.ex) fun d hd ho => ?_
        refine ext_go b3.lst1 (rdS_of_L hd) ?_ ?_
        · exact Nat.le_of_lt (small_lt2 (by simp at hm ⊢; omega))
        · have b4 := b3.put1 (o' := .lst ((W' ++ byE E s ("" : Str)).map .str))
          rw [← List.map_append]
          infer_instance
          have hsS : Slips E (· ∈ xs) s := h1 s (.inr (by simp))
          refine hN (W'.length + slipsLeft E F) _ _ _ (by simp at hm; omega) rfl ⟨_, insS F s, W' ++ byE E s ("" : Str), rfl, b4, by rw [e3, List.length_append]; omega, by simp at hm; omega, insS_nodup hF, fun z hz => ?_, fun z hz => ?_, fun y hy z he => ?_⟩
          · rw [insS_mem, List.mem_append, byE_mem] at hz
            rcases hz with (h | rfl) | h | h
            · exact h1 z (.inl h)
            · exact hsS
            · exact h1 z (.inr (by simp [h]))
            · exact .step hsS h
          · rw [insS_mem, List.mem_append]
            rcases h2 z hz with h | h
            · exact .inl (.inl h)
            · rcases List.mem_append.mp h with h | h
              · exact .inr (.inl h)
              · rw [List.mem_singleton.mp h]; exact .inl (.inr rfl)
          · rw [insS_mem, List.mem_append, byE_mem]
            rw [insS_mem] at hy
            rcases hy with hy | rfl
            · rcases h3 y hy z he with h | h
              · exact .inl (.inl h)
              · rcases List.mem_append.mp h with h | h
                · exact .inr (.inl h)
                · rw [List.mem_singleton.mp h]; exact .inl (.inr rfl)
            · exact .inr (.inr he)
--MUT found
/-- the states behind some states and a mark -/
def sp_Reader_on (Reader : Addr) : DSp := fun ds M R => ∃ (M0 : Mm) (a : Addr) (E : List Ed) (ys : List Str) (m : Str), ds = [.ref a, .tup (ys.map .str), .str m] ∧ RdrAt M0 M Reader a E ∧ RisS ys ∧ E.length ≤ 200000 ∧ ∀ zs, RisS zs → (∀ z, z ∈ zs ↔ Slips E (stepP E m (· ∈ ys)) z) → R (.tup (zs.map .str)) M
theorem on_go {M M0 : Mm} {R : DQ} {Reader a : Addr} {E : List Ed} {ys : List Str} {m : Str} (h : RdrAt M0 M Reader a E) (hy : RisS ys) (h1 : E.length ≤ 200000) (k : ∀ zs, RisS zs → (∀ z, z ∈ zs ↔ Slips E (stepP E m (· ∈ ys)) z) → R (.tup (zs.map .str)) M) : sp_Reader_on Reader [.ref a, .tup (ys.map .str), .str m] M R := ⟨M0, a, E, ys, m, rfl, h, hy, h1, k⟩
theorem ok_Reader_on {f_Reader_on f_Reader_by f_Reader_slipped f_Reader f_Beside f_Reader_init f_Beside_init f_Beside_knots f_Beside_onward f_Beside_parts : Addr} {fd_Reader_on fd_Reader_by fd_Reader_slipped : FuncData} (TC : Owns K mg f_Reader f_Beside f_Reader_init f_Beside_init f_Reader_by f_Reader_slipped f_Reader_on f_Beside_knots f_Beside_onward f_Beside_parts) (F_Reader_on : Fun K "on" "Reader.on" st_Reader_on f_Reader_on fd_Reader_on) (G_Reader_by : FnOk P w K mg base CX0 1 f_Reader_by fd_Reader_by ["self", "state", "mark"] (toSp K (sp_Reader_by f_Reader))) (b_Reader_by : Binds K fd_Reader_by ["self", "state", "mark"] []) (G_Reader_slipped : FnOk P w K mg base CX0 2 f_Reader_slipped fd_Reader_slipped ["self", "states"] (toSp K (sp_Reader_slipped f_Reader))) (b_Reader_slipped : Binds K fd_Reader_slipped ["self", "states"] []) : FnOk P w K mg base CX0 3 f_Reader_on fd_Reader_on ["self", "states", "mark"] (toSp K (sp_Reader_on f_Reader)) := by
  refine fn_ok (k := 2) F_Reader_on sc_Reader_on (fun ds M R h => ?_) (fun cdv A outer s H E hr => ⟨_, (jb_cons (js_set (i := 3) sc_Reader_on.nd (je_fresh (jl_disp ja_nil)))
      (jb_cons (js_for PassesOwn.never rfl (ji_any (jv 1)) (jg_name (i := 4) sc_Reader_on.nd) (jb_one (js_expr (je_extendA (jv 3) (je_meth TC.c_Reader TC.t_Reader_by G_Reader_by (hr.mono (by decide)) b_Reader_by (jv 0) (ja_cons (jv 4) (ja_cons (jv 2) ja_nil)))))))
      (jb_one (js_ret (je_meth TC.c_Reader TC.t_Reader_slipped G_Reader_slipped (hr.mono (by decide)) b_Reader_slipped (jv 0) (ja_cons (jv 3) ja_nil)))))), fun ds M R h => ?_⟩)
  · unfold sp_Reader_on at h
    first | (obtain ⟨rfl, _⟩ := h; rfl) | (obtain ⟨_, rfl, _⟩ := h; rfl) | (obtain ⟨_, _, rfl, _⟩ := h; rfl) | (obtain ⟨_, _, _, rfl, _⟩ := h; rfl) | (obtain ⟨_, _, _, _, rfl, _⟩ := h; rfl) | (obtain ⟨_, _, _, _, _, rfl, _⟩ := h; rfl) | (obtain ⟨_, _, _, _, _, _, rfl, _⟩ := h; rfl) | (obtain ⟨_, _, _, _, _, _, _, rfl, _⟩ := h; rfl) | (obtain ⟨_, _, _, _, _, _, _, _, rfl, _⟩ := h; rfl) | (obtain ⟨_, _, _, _, _, _, _, _, _, rfl, _⟩ := h; rfl) | (obtain ⟨_, _, _, _, _, _, _, _, _, _, rfl, _⟩ := h; rfl) | (split at h <;> first | rfl | exact h.elim)
  · unfold sp_Reader_on at h
    obtain ⟨M0, a, E, ys, m, rfl, hR, hys, hE, k⟩ := h
    simp_all only [N_Reader_on]
    infer_instance
    intro f hf
    infer_instance
    have b0 := (Px.start (M := M)).new (o := .lst []) hf
    have hfl : ∀ i, ((ys.take i).flatMap (byE E · m)).length ≤ E.length := fun i => behind_len ((List.take_sublist i ys).nodup (ris_nodup hys))
    refine forS [4] (fun i vs M' => ∃ x4, vs = [x4] ∧ Px M [(f, .lst (((ys.take i).flatMap (byE E · m)).map .str))] M') (fun _ _ _ _ => trivial) (fun i x N e hN vs M' hI => ?_) (fun vs M' hI => ?_) ⟨_, rfl, b0⟩
    · obtain ⟨x4, rfl, b⟩ := hI
      rw [List.getElem?_map] at e
      obtain ⟨y, he, rfl⟩ := Option.map_eq_some_iff.mp e
      infer_instance
      refine ⟨by rw [b.lst1]; rfl, ?_⟩
      obtain ⟨l, hRi, hRl⟩ := hR
      refine meth_g (insOf_sub b.ex hRi) (by rfl) ?_
      infer_instance
      refine by_go (RdrAt.frame ⟨l, hRi, hRl⟩ b.ex) fun d hd ho => ?_
      have h1 := hfl (i + 1)
      rw [flat_take he, List.length_append] at h1
      refine ext_go b.lst1 (rdS_of_L hd) ?_ ?_
      · simp only [List.length_map]; exact Nat.le_of_lt (small_lt2 (by omega))
      · rw [← List.map_append, ← flat_take (f := (byE E · m)) he]
        infer_instance
        exact hN _ _ _ rfl ⟨_, rfl, b.put1⟩
    · obtain ⟨x4, rfl, b⟩ := hI
      rw [List.length_map, List.take_length] at b
      have h1 := hfl ys.length
      rw [List.take_length] at h1
      obtain ⟨l, hRi, hRl⟩ := hR
      infer_instance
      refine meth_g (insOf_sub b.ex hRi) (by rfl) ?_
      infer_instance
      refine slipped_go (xs := ys.flatMap (byE E · m)) (RdrAt.frame ⟨l, hRi, hRl⟩ b.ex) (show lstOf _ _ = _ from b.lst1) hE (by omega) fun zs hz hm => ?_
      infer_instance
      exact b.fin (k zs hz fun z => (hm z).trans (Slips.congr (fun x => behind_mem) z))
/-- knots of some states, with a stand -/
def sp_Beside_knots (Beside Reader : Addr) : DSp := fun ds M R => ∃ (M0 : Mm) (a : Addr) (E E2 : List Ed) (F F2 : List Str) (s : St2) (x : D) (xs U : List Str), ds = [.ref a, stD s, x, .tup (U.map .str)] ∧ BesE M0 M Beside Reader a E F E2 F2 ∧ rdS M x = some (xs.map .str) ∧ E.length ≤ 100000 ∧ xs.length ≤ 100000 ∧ R (.lst (((slS E xs).map fun q => (s, (q, U))).map itP)) M
theorem knots_go {M M0 : Mm} {R : DQ} {Beside Reader a : Addr} {E E2 : List Ed} {F F2 : List Str} {s : St2} {x : D} {xs U : List Str} (h : BesE M0 M Beside Reader a E F E2 F2) (hx : rdS M x = some (xs.map .str)) (h1 : E.length ≤ 100000) (h2 : xs.length ≤ 100000) (k : R (.lst (((slS E xs).map fun q => (s, (q, U))).map itP)) M) : sp_Beside_knots Beside Reader [.ref a, stD s, x, .tup (U.map .str)] M R := ⟨M0, a, E, E2, F, F2, s, x, xs, U, rfl, h, hx, h1, h2, k⟩
theorem ok_Beside_knots {f_Beside_knots f_Reader_slipped f_Reader f_Beside f_Reader_init f_Beside_init f_Reader_by f_Reader_on f_Beside_onward f_Beside_parts : Addr} {fd_Beside_knots fd_Reader_slipped : FuncData} (TC : Owns K mg f_Reader f_Beside f_Reader_init f_Beside_init f_Reader_by f_Reader_slipped f_Reader_on f_Beside_knots f_Beside_onward f_Beside_parts) (F_Beside_knots : Fun K "knots" "Beside.knots" st_Beside_knots f_Beside_knots fd_Beside_knots) (G_Reader_slipped : FnOk P w K mg base CX0 2 f_Reader_slipped fd_Reader_slipped ["self", "states"] (toSp K (sp_Reader_slipped f_Reader))) (b_Reader_slipped : Binds K fd_Reader_slipped ["self", "states"] []) : FnOk P w K mg base CX0 3 f_Beside_knots fd_Beside_knots ["self", "stand", "some", "states"] (toSp K (sp_Beside_knots f_Beside f_Reader)) := by
  refine fn_ok (k := 2) F_Beside_knots sc_Beside_knots (fun ds M R h => ?_) (fun cdv A outer s H E hr => ⟨_, (jb_one (js_ret (je_frz (jl_lc rfl sc_Beside_knots.nd (jlc (ji_any (je_meth TC.c_Reader TC.t_Reader_slipped G_Reader_slipped (hr.mono (by decide)) b_Reader_slipped (je_fld ⟨TC.c_Beside, TC.n_Beside_first⟩ (jv 0)) (ja_cons (jv 2) ja_nil))) (blkOk_by (own := [("state", 4)]) (N := N_Beside_knots) (sc := defScope st_Beside_knots) (by decide +kernel)) (fun _ _ _ _ _ => (jgv_name (i := 4) sc_Beside_knots.nd (by decide))) (fun _ _ _ _ _ => jts_nil) (fun _ _ _ _ _ => (je_tup (ja_cons (jv 1) (ja_cons (je_tup (ja_cons (jv 4) (ja_cons (jv 3) ja_nil))) ja_nil))))))))), fun ds M R h => ?_⟩)
  · unfold sp_Beside_knots at h
    first | (obtain ⟨rfl, _⟩ := h; rfl) | (obtain ⟨_, rfl, _⟩ := h; rfl) | (obtain ⟨_, _, rfl, _⟩ := h; rfl) | (obtain ⟨_, _, _, rfl, _⟩ := h; rfl) | (obtain ⟨_, _, _, _, rfl, _⟩ := h; rfl) | (obtain ⟨_, _, _, _, _, rfl, _⟩ := h; rfl) | (obtain ⟨_, _, _, _, _, _, rfl, _⟩ := h; rfl) | (obtain ⟨_, _, _, _, _, _, _, rfl, _⟩ := h; rfl) | (obtain ⟨_, _, _, _, _, _, _, _, rfl, _⟩ := h; rfl) | (obtain ⟨_, _, _, _, _, _, _, _, _, rfl, _⟩ := h; rfl) | (obtain ⟨_, _, _, _, _, _, _, _, _, _, rfl, _⟩ := h; rfl) | (split at h <;> first | rfl | exact h.elim)
  · unfold sp_Beside_knots at h
    obtain ⟨M0, a, E, E2, F, F2, s, x, xs, U, rfl, ⟨r1, r2, hb⟩, hx, hE, hxl, k⟩ := h
    simp_all only [N_Beside_knots]
    obtain ⟨l, hri, hrl⟩ := id hb.r1
    and_intros
    refine fld_go hb.ia (by rfl) ?_
    and_intros
    refine meth_g hri (by rfl) ?_
    and_intros
    refine slipped_go hb.r1 hx (by omega) (by omega) fun zs hz hm => ?_
    rw [slS_is hz hm]
    have hl := slS_len (E := E) (xs := xs)
    and_intros
    refine lcW_fun (l := slS E xs) D.str (fun q => itP (s, (q, U))) (ok := fun _ => True) (small_line2 (by omega)) trivial (fun y hy NN FF h' => ?_) ?_
    · and_intros
      exact h'
    rw [show (slS E xs).map (fun q => itP (s, (q, U))) = ((slS E xs).map fun q => (s, (q, U))).map itP by rw [List.map_map]; rfl]
    exact Shr.all k
/-- what comes of an item by a mark -/
noncomputable def onP (E E2 : List Ed) (x : St2 × (Str × List Str)) (m : Str) : List (St2 × (Str × List Str)) := if byE E x.2.1 m = [] then [] else (slS E (byE E x.2.1 m)).map fun q => ((x.1.1, x.1.2 ++ [m]), (q, onS E2 x.2.2 m))
theorem onP_len {E E2 : List Ed} {x : St2 × (Str × List Str)} {m : Str} : (onP E E2 x m).length ≤ 2 * E.length := by
  unfold onP
  split
  · simp
  · rw [List.length_map]
    have := slS_len (E := E) (xs := byE E x.2.1 m)
    have := byE_len E x.2.1 m
    omega
theorem fm_len3 {α β : Type} {f : α → List β} {n : Nat} (h : ∀ x, (f x).length ≤ n) : ∀ l : List α, (l.flatMap f).length ≤ n * l.length
  | [] => by simp
  | a :: l => by
    have := fm_len3 h l
    have := h a
    rw [List.flatMap_cons, List.length_append, List.length_cons, Nat.mul_succ]
    omega
theorem onP_mem {E E2 : List Ed} {x y : St2 × (Str × List Str)} {m : Str} : y ∈ onP E E2 x m ↔ ∃ t q, (x.2.1, m, t) ∈ E ∧ Slips E (· = t) q ∧ y = ((x.1.1, x.1.2 ++ [m]), (q, onS E2 x.2.2 m)) := by
  have key : y ∈ onP E E2 x m ↔ ∃ q, q ∈ slS E (byE E x.2.1 m) ∧ y = ((x.1.1, x.1.2 ++ [m]), (q, onS E2 x.2.2 m)) := by
    unfold onP
    split
    · next h =>
      constructor
      · intro h2; cases h2
      · rintro ⟨q, hq, _⟩
        rw [h] at hq
        obtain ⟨z, hz, _⟩ := slips_one (slS_mem.mp hq)
        cases hz
    · rw [List.mem_map]
      exact ⟨fun ⟨q, h1, h2⟩ => ⟨q, h1, h2.symm⟩, fun ⟨q, h1, h2⟩ => ⟨q, h1, h2.symm⟩⟩
  rw [key]
  constructor
  · rintro ⟨q, hq, e⟩
    obtain ⟨t, ht, hs⟩ := slips_one (slS_mem.mp hq)
    exact ⟨t, q, byE_mem.mp ht, hs, e⟩
  · rintro ⟨t, q, he, hs, e⟩
    exact ⟨q, slS_mem.mpr (hs.mono fun x c => c ▸ byE_mem.mpr he), e⟩
--MUT found
/-- all knots one mark further -/
def sp_Beside_onward (Beside Reader : Addr) : DSp := fun ds M R => ∃ (M0 : Mm) (a : Addr) (E E2 : List Ed) (F F2 ms : List Str) (row : List (St2 × (Str × List Str))) (u : D), ds = [.ref a, u, .lst (ms.map .str)] ∧ (u = .lst (row.map itP) ∨ ∃ p, u = .ref p ∧ lstOf M p = some (row.map itP)) ∧ BesE M0 M Beside Reader a E F E2 F2 ∧ E.length ≤ 1000 ∧ E2.length ≤ 1000 ∧ ms.length ≤ 1000 ∧ 2 * E.length * ms.length * row.length ≤ 10000000 ∧ (∀ x ∈ row, x.1.2.length ≤ 1000000 ∧ RisS x.2.2) ∧ R (.lst ((row.flatMap fun x => ms.flatMap fun m => onP E E2 x m).map itP)) M
theorem onward_go {M M0 : Mm} {R : DQ} {Beside Reader a p : Addr} {E E2 : List Ed} {F F2 ms : List Str} {row : List (St2 × (Str × List Str))} (h : BesE M0 M Beside Reader a E F E2 F2) (hp : lstOf M p = some (row.map itP)) (h1 : E.length ≤ 1000) (h2 : E2.length ≤ 1000) (h3 : ms.length ≤ 1000) (h4 : 2 * E.length * ms.length * row.length ≤ 10000000) (h5 : ∀ x ∈ row, x.1.2.length ≤ 1000000 ∧ RisS x.2.2) (k : R (.lst ((row.flatMap fun x => ms.flatMap fun m => onP E E2 x m).map itP)) M) : sp_Beside_onward Beside Reader [.ref a, .ref p, .lst (ms.map .str)] M R := ⟨M0, a, E, E2, F, F2, ms, row, _, rfl, .inr ⟨p, rfl, hp⟩, h, h1, h2, h3, h4, h5, k⟩
theorem ok_Beside_onward {f_Beside_onward f_Reader_by f_Reader_on f_Beside_knots f_Reader f_Beside f_Reader_init f_Beside_init f_Reader_slipped f_Beside_parts : Addr} {fd_Beside_onward fd_Reader_by fd_Reader_on fd_Beside_knots : FuncData} (TC : Owns K mg f_Reader f_Beside f_Reader_init f_Beside_init f_Reader_by f_Reader_slipped f_Reader_on f_Beside_knots f_Beside_onward f_Beside_parts) (F_Beside_onward : Fun K "onward" "Beside.onward" st_Beside_onward f_Beside_onward fd_Beside_onward) (G_Reader_by : FnOk P w K mg base CX0 1 f_Reader_by fd_Reader_by ["self", "state", "mark"] (toSp K (sp_Reader_by f_Reader))) (b_Reader_by : Binds K fd_Reader_by ["self", "state", "mark"] []) (G_Reader_on : FnOk P w K mg base CX0 3 f_Reader_on fd_Reader_on ["self", "states", "mark"] (toSp K (sp_Reader_on f_Reader))) (b_Reader_on : Binds K fd_Reader_on ["self", "states", "mark"] []) (G_Beside_knots : FnOk P w K mg base CX0 3 f_Beside_knots fd_Beside_knots ["self", "stand", "some", "states"] (toSp K (sp_Beside_knots f_Beside f_Reader))) (b_Beside_knots : Binds K fd_Beside_knots ["self", "stand", "some", "states"] []) : FnOk P w K mg base CX0 4 f_Beside_onward fd_Beside_onward ["self", "row", "marks"] (toSp K (sp_Beside_onward f_Beside f_Reader)) := by
  refine fn_ok (k := 3) F_Beside_onward sc_Beside_onward (fun ds M R h => ?_) (fun cdv A outer s H E hr => ⟨_, (jb_cons (js_set (i := 3) sc_Beside_onward.nd (je_fresh (jl_disp ja_nil)))
      (jb_cons (js_for PassesOwn.never rfl (ji_any (jv 1)) (jg_tup (n := 2) rfl (jgs_cons (jg_name (i := 4) sc_Beside_onward.nd) (jgs_cons (jg_name (i := 5) sc_Beside_onward.nd) jgs_nil))) (jb_one (js_for PassesOwn.never rfl (ji_any (jv 2)) (jg_name (i := 6) sc_Beside_onward.nd) (jb_cons (js_set (i := 7) sc_Beside_onward.nd (je_meth TC.c_Reader TC.t_Reader_by G_Reader_by (hr.mono (by decide)) b_Reader_by (je_fld ⟨TC.c_Beside, TC.n_Beside_first⟩ (jv 0)) (ja_cons (je_ix (jv 5) je_int) (ja_cons (jv 6) ja_nil)))) (jb_one (js_if (jt_ne hr (jv 7) (je_frz (jl_disp ja_nil))) (jb_cons (js_set (i := 8) sc_Beside_onward.nd (je_meth TC.c_Reader TC.t_Reader_on G_Reader_on (hr.mono (by decide)) b_Reader_on (je_fld ⟨TC.c_Beside, TC.n_Beside_second⟩ (jv 0)) (ja_cons (je_ix (jv 5) je_int) (ja_cons (jv 6) ja_nil)))) (jb_one (js_expr (je_extendA (jv 3) (je_meth TC.c_Beside TC.t_Beside_knots G_Beside_knots (hr.mono (by decide)) b_Beside_knots (jv 0) (ja_cons (je_tup (ja_cons (je_ix (jv 4) je_int) (ja_cons (je_add (je_ix (jv 4) je_int) (je_tup (ja_cons (jv 6) ja_nil))) ja_nil))) (ja_cons (jv 7) (ja_cons (jv 8) ja_nil)))))))) jb_nil))))))
      (jb_one (js_ret (jv 3))))), fun ds M R h => ?_⟩)
  · unfold sp_Beside_onward at h
    first | (obtain ⟨rfl, _⟩ := h; rfl) | (obtain ⟨_, rfl, _⟩ := h; rfl) | (obtain ⟨_, _, rfl, _⟩ := h; rfl) | (obtain ⟨_, _, _, rfl, _⟩ := h; rfl) | (obtain ⟨_, _, _, _, rfl, _⟩ := h; rfl) | (obtain ⟨_, _, _, _, _, rfl, _⟩ := h; rfl) | (obtain ⟨_, _, _, _, _, _, rfl, _⟩ := h; rfl) | (obtain ⟨_, _, _, _, _, _, _, rfl, _⟩ := h; rfl) | (obtain ⟨_, _, _, _, _, _, _, _, rfl, _⟩ := h; rfl) | (obtain ⟨_, _, _, _, _, _, _, _, _, rfl, _⟩ := h; rfl) | (obtain ⟨_, _, _, _, _, _, _, _, _, _, rfl, _⟩ := h; rfl) | (split at h <;> first | rfl | exact h.elim)
  · unfold sp_Beside_onward at h
    obtain ⟨M0, a, E, E2, F, F2, ms, row, u, rfl, hu, hb, hE, hE2, hms, hz, hrow, k⟩ := h
    have hle : ∀ i, ((row.take i).flatMap fun x => ms.flatMap fun m => onP E E2 x m).length ≤ 10000000 := fun i => by
      have h1 := fm_len3 (f := fun x => ms.flatMap fun m => onP E E2 x m) (n := 2 * E.length * ms.length) (fun x => fm_len3 (f := fun m => onP E E2 x m) (n := 2 * E.length) (fun m => onP_len) ms) (row.take i)
      exact Nat.le_trans h1 (Nat.le_trans (Nat.mul_le_mul_left _ (by rw [List.length_take]; omega)) hz)
    simp_all only [N_Beside_onward]
    infer_instance
    intro f hf
    infer_instance
    have b0 := (Px.start (M := M)).new (o := .lst []) hf
    rcases hu with rfl | ⟨pr, rfl, hpr⟩
    all_goals
      first
      | simp only [anyI_r, lstOf_sub b0.ex hpr, anyR_s]
      | skip
      refine forS [4, 5, 6, 7, 8] (fun i vs M' => ∃ x4 x5 x6 x7 x8, vs = [x4, x5, x6, x7, x8] ∧ Px M [(f, .lst (((row.take i).flatMap fun x => ms.flatMap fun m => onP E E2 x m).map itP))] M') (fun _ vs M' hI => by obtain ⟨_, _, _, _, _, _, b⟩ := hI; first | trivial | exact lstOf_sub b.ex hpr) (fun i x N e hN vs M' hI => ?_) (fun vs M' hI => ?_) ⟨_, _, _, _, _, rfl, by simpa using b0⟩
      · obtain ⟨x4, x5, x6, x7, x8, rfl, b⟩ := hI
        rw [List.getElem?_map] at e
        obtain ⟨x, hx, rfl⟩ := Option.map_eq_some_iff.mp e
        have hxr := hrow x (List.mem_of_getElem? hx)
        have hle1 := hle (i + 1)
        rw [List.take_add_one, hx, Option.toList_some, List.flatMap_append, List.flatMap_cons, List.flatMap_nil, List.append_nil] at hle1
        simp only [itP, stD]
        infer_instance
        refine forS [6, 7, 8] (fun j vs M2 => ∃ x6 x7 x8, vs = [x6, x7, x8] ∧ Px M [(f, .lst ((((row.take i).flatMap fun x => ms.flatMap fun m => onP E E2 x m) ++ (ms.take j).flatMap fun m => onP E E2 x m).map itP))] M2) (fun _ _ _ _ => trivial) (fun j y N2 e2 hN2 vs M2 hI => ?_) (fun vs M2 hI => ?_) ⟨_, _, _, rfl, by simpa using b⟩
        · obtain ⟨x6, x7, x8, rfl, b2⟩ := hI
          rw [List.getElem?_map] at e2
          obtain ⟨m, hm, rfl⟩ := Option.map_eq_some_iff.mp e2
          have hsn : (ms.take (j + 1)).flatMap (fun m => onP E E2 x m) = (ms.take j).flatMap (fun m => onP E E2 x m) ++ onP E E2 x m := by
            rw [List.take_add_one, hm, Option.toList_some, List.flatMap_append, List.flatMap_cons, List.flatMap_nil, List.append_nil]
          have hlj : (((row.take i).flatMap fun x => ms.flatMap fun m => onP E E2 x m) ++ (ms.take j).flatMap fun m => onP E E2 x m).length + (onP E E2 x m).length ≤ 12000000 := by
            have h1 := fm_len3 (f := fun m => onP E E2 x m) (n := 2 * E.length) (fun m => onP_len) (ms.take j)
            have h2 := onP_len (E := E) (E2 := E2) (x := x) (m := m)
            have h3 := hle i
            have h4 : 2 * E.length * (ms.take j).length ≤ 2 * 1000 * 500 ∨ True := .inr trivial
            have h5 : ((ms.take j).flatMap fun m => onP E E2 x m).length ≤ (ms.flatMap fun m => onP E E2 x m).length := by
              conv => rhs; rw [← List.take_append_drop j ms]
              rw [List.flatMap_append, List.length_append]; omega
            rw [List.length_append] at hle1 ⊢
            omega
          obtain ⟨r1, r2, hbb⟩ := hb.frame b2.ex
          obtain ⟨l1, hri1, _⟩ := id hbb.r1
          obtain ⟨l2, hri2, _⟩ := id hbb.r2
          infer_instance
          refine fld_go hbb.ia (by rfl) ?_
          infer_instance
          refine meth_g hri1 (by rfl) ?_
          infer_instance
          refine by_go hbb.r1 fun d hd ho => ?_
          infer_instance
          have hne : ∀ {Q : DQ}, Q (.bl (!(byE E x.2.1 m).isEmpty)) M2 → neR d (.lst []) M2 Q := fun {Q} k2 => by
            rcases ho with ⟨xs, rfl⟩ | ⟨q, rfl, _⟩
            · have h : xs = (byE E x.2.1 m).map .str := Option.some.inj hd
              subst h
              and_intros
              rw [List.isEmpty_map]; exact k2
            · refine ne_nil_l hd (pureDs_str _) (Nat.le_trans (depDs_str _) (by decide)) ?_
              rw [List.isEmpty_map]; exact k2
          refine hne ?_
          infer_instance
          by_cases c : byE E x.2.1 m = []
          · rw [if_neg (by rw [c]; decide)]
            refine hN2 _ _ _ rfl ⟨_, _, _, rfl, ?_⟩
            rw [hsn, show onP E E2 x m = [] by unfold onP; rw [if_pos c], List.append_nil]
            exact b2
          · rw [if_pos (by cases h : byE E x.2.1 m with | nil => exact absurd h c | cons _ _ => rfl)]
            infer_instance
            refine fld_go hbb.ia (by rfl) ?_
            infer_instance
            refine meth_g hri2 (by rfl) ?_
            infer_instance
            refine on_go hbb.r2 hxr.2 (by omega) fun us hu hmu => ?_
            rw [onS_is hu hmu]
            infer_instance
            refine ⟨by rw [b2.lst1]; rfl, ?_⟩
            refine meth_g hbb.ia (by rfl) ?_
            infer_instance
            rw [show [D.str m] = [m].map D.str from rfl, ← List.map_append]
            refine knots_go (s := (x.1.1, x.1.2 ++ [m])) (xs := byE E x.2.1 m) ⟨r1, r2, hbb⟩ (rdS_of_L hd) (by omega) (by have := byE_len E x.2.1 m; omega) ?_
            have hon : ((slS E (byE E x.2.1 m)).map fun q => ((x.1.1, x.1.2 ++ [m]), (q, onS E2 x.2.2 m))) = onP E E2 x m := by
              unfold onP; rw [if_neg c]
            rw [hon]
            refine ext_go b2.lst1 rfl (small_line2 (by simp only [List.length_map]; omega)) ?_
            have b3 := b2.put1 (o' := .lst ((((row.take i).flatMap fun x => ms.flatMap fun m => onP E E2 x m) ++ (ms.take (j + 1)).flatMap fun m => onP E E2 x m).map itP))
            rw [hsn, ← List.append_assoc, List.map_append] at b3
            refine hN2 _ _ _ rfl ⟨_, _, _, rfl, ?_⟩
            rw [hsn, ← List.append_assoc, List.map_append]
            exact b3
        · obtain ⟨x6, x7, x8, rfl, b2⟩ := hI
          rw [List.length_map, List.take_length] at b2
          refine hN _ _ _ rfl ⟨_, _, _, _, _, rfl, ?_⟩
          rw [List.take_add_one, hx, Option.toList_some, List.flatMap_append, List.flatMap_cons, List.flatMap_nil, List.append_nil]
          exact b2
      · obtain ⟨x4, x5, x6, x7, x8, rfl, b⟩ := hI
        rw [List.length_map, List.take_length] at b
        infer_instance
        exact b.finL k
/-- whether a state of the one is an end, none of some of the other -/
def sp_Beside_parts (Beside Reader : Addr) : DSp := fun ds M R => ∃ (M0 : Mm) (a : Addr) (E E2 : List Ed) (F F2 : List Str) (q : Str) (U : List Str), ds = [.ref a, .str q, .tup (U.map .str)] ∧ BesE M0 M Beside Reader a E F E2 F2 ∧ U.length ≤ 100000 ∧ R (.bl (decide (q ∈ F) && !(U.any fun z => decide (z ∈ F2)))) M
theorem parts_go {M M0 : Mm} {R : DQ} {Beside Reader a : Addr} {E E2 : List Ed} {F F2 : List Str} {q : Str} {U : List Str} (h : BesE M0 M Beside Reader a E F E2 F2) (h1 : U.length ≤ 100000) (k : R (.bl (decide (q ∈ F) && !(U.any fun z => decide (z ∈ F2)))) M) : sp_Beside_parts Beside Reader [.ref a, .str q, .tup (U.map .str)] M R := ⟨M0, a, E, E2, F, F2, q, U, rfl, h, h1, k⟩
theorem ok_Beside_parts {f_Beside_parts f_Reader f_Beside f_Reader_init f_Beside_init f_Reader_by f_Reader_slipped f_Reader_on f_Beside_knots f_Beside_onward : Addr} {fd_Beside_parts : FuncData} (TC : Owns K mg f_Reader f_Beside f_Reader_init f_Beside_init f_Reader_by f_Reader_slipped f_Reader_on f_Beside_knots f_Beside_onward f_Beside_parts) (F_Beside_parts : Fun K "parts" "Beside.parts" st_Beside_parts f_Beside_parts fd_Beside_parts) (z_any : mg "any" = none) : FnOk P w K mg base CX0 1 f_Beside_parts fd_Beside_parts ["self", "state", "states"] (toSp K (sp_Beside_parts f_Beside f_Reader)) := by
  refine fn_ok (k := 0) F_Beside_parts sc_Beside_parts (fun ds M R h => ?_) (fun cdv A outer s H E hr => ⟨_, (jb_one (js_ret (je_and (je_in hr (jv 1) (je_fld ⟨TC.c_Beside, TC.n_Beside_first_ends⟩ (jv 0))) (je_one (je_not (je_any rfl z_any (ja_cons (je_frz (jl_lc rfl sc_Beside_parts.nd (jlc (ji_any (jv 2)) (blkOk_by (own := [("one", 3)]) (N := N_Beside_parts) (sc := defScope st_Beside_parts) (by decide +kernel)) (fun _ _ _ _ _ => (jgv_name (i := 3) sc_Beside_parts.nd (by decide))) (fun _ _ _ _ _ => jts_nil) (fun _ _ _ _ _ => (je_in hr (jv 3) (je_fld ⟨TC.c_Beside, TC.n_Beside_second_ends⟩ (jv 0))))))) ja_nil))))))), fun ds M R h => ?_⟩)
  · unfold sp_Beside_parts at h
    first | (obtain ⟨rfl, _⟩ := h; rfl) | (obtain ⟨_, rfl, _⟩ := h; rfl) | (obtain ⟨_, _, rfl, _⟩ := h; rfl) | (obtain ⟨_, _, _, rfl, _⟩ := h; rfl) | (obtain ⟨_, _, _, _, rfl, _⟩ := h; rfl) | (obtain ⟨_, _, _, _, _, rfl, _⟩ := h; rfl) | (obtain ⟨_, _, _, _, _, _, rfl, _⟩ := h; rfl) | (obtain ⟨_, _, _, _, _, _, _, rfl, _⟩ := h; rfl) | (obtain ⟨_, _, _, _, _, _, _, _, rfl, _⟩ := h; rfl) | (obtain ⟨_, _, _, _, _, _, _, _, _, rfl, _⟩ := h; rfl) | (obtain ⟨_, _, _, _, _, _, _, _, _, _, rfl, _⟩ := h; rfl) | (split at h <;> first | rfl | exact h.elim)
  · unfold sp_Beside_parts at h
    obtain ⟨M0, a, E, E2, F, F2, q, U, rfl, ⟨r1, r2, hb⟩, hU, k⟩ := h
    simp_all only [N_Beside_parts]
    and_intros
    refine fld_go hb.ia (by rfl) ?_
    and_intros
    refine inR_strS (l := F) rfl ?_
    and_intros
    by_cases c : q ∈ F
    · rw [decide_eq_true c] at k ⊢
      rw [Bool.true_and] at k
      and_intros
      refine lcW_fun (l := U) D.str (fun y => .bl (decide (y ∈ F2))) (ok := fun _ => True) (small_line2 (by omega)) trivial (fun y hy NN FF h' => ?_) ?_
      · and_intros
        refine fld_go hb.ia (by rfl) ?_
        and_intros
        refine inR_strS (l := F2) rfl ?_
        exact h'
      rw [anyLR_map]
      and_intros
      exact Shr.all k
    · rw [decide_eq_false c] at k ⊢
      rw [Bool.false_and] at k
      and_intros
      exact Shr.all k
--KD found
/-- the states of a machine, rising -/
def sp_states_of : DSp := fun ds M R => ∃ (E : List Ed) (F : List Str), ds = [.tup [.tup (E.map edD), .tup (F.map .str)]] ∧ E.length ≤ 100000 ∧ F.length ≤ 100000 ∧ ∀ zs : List Str, RisS zs → (∀ z, z ∈ zs ↔ stsOf E F z) → zs.length ≤ 2 * E.length + F.length → R (.tup (zs.map .str)) M
theorem states_go {M : Mm} {Q : DQ} {E : List Ed} {F : List Str} (h1 : E.length ≤ 100000) (h2 : F.length ≤ 100000) (k : ∀ zs : List Str, RisS zs → (∀ z, z ∈ zs ↔ stsOf E F z) → zs.length ≤ 2 * E.length + F.length → Q (.tup (zs.map .str)) M) : sp_states_of [.tup [.tup (E.map edD), .tup (F.map .str)]] M Q := ⟨E, F, rfl, h1, h2, k⟩
theorem ok_states_of {f_states_of : Addr} {fd_states_of : FuncData} (F_states_of : Fun K "states_of" "states_of" st_states_of f_states_of fd_states_of) (z_tuple : mg "tuple" = none) (z_sorted : mg "sorted" = none) : FnOk P w K mg base CX0 1 f_states_of fd_states_of ["machine"] (toSp K sp_states_of) := by
  refine fn_ok (k := 0) F_states_of sc_states_of (fun ds M R h => ?_) (fun cdv A outer s H E hr => ⟨_, (jb_cons (js_set (i := 1) sc_states_of.nd (je_freshD jd_empty))
      (jb_cons (js_for PassesOwn.never rfl (ji_any (je_ix (jv 0) je_int)) (jg_tup (n := 3) rfl (jgs_cons (jg_name (i := 2) sc_states_of.nd) (jgs_cons (jg_name (i := 3) sc_states_of.nd) (jgs_cons (jg_name (i := 4) sc_states_of.nd) jgs_nil)))) (jb_cons (js_dput hr (jv 1) (jv 2) je_bl) (jb_one (js_dput hr (jv 1) (jv 4) je_bl))))
      (jb_cons (js_for PassesOwn.never rfl (ji_any (je_ix (jv 0) je_int)) (jg_name (i := 5) sc_states_of.nd) (jb_one (js_dput hr (jv 1) (jv 5) je_bl)))
      (jb_one (js_ret (je_tuple z_tuple (ja_cons (je_frz (jl_sortedK rfl hr z_sorted (jv 1))) ja_nil))))))), fun ds M R h => ?_⟩)
  · unfold sp_states_of at h
    first | (obtain ⟨rfl, _⟩ := h; rfl) | (obtain ⟨_, rfl, _⟩ := h; rfl) | (obtain ⟨_, _, rfl, _⟩ := h; rfl) | (obtain ⟨_, _, _, rfl, _⟩ := h; rfl) | (obtain ⟨_, _, _, _, rfl, _⟩ := h; rfl) | (obtain ⟨_, _, _, _, _, rfl, _⟩ := h; rfl) | (obtain ⟨_, _, _, _, _, _, rfl, _⟩ := h; rfl) | (obtain ⟨_, _, _, _, _, _, _, rfl, _⟩ := h; rfl) | (obtain ⟨_, _, _, _, _, _, _, _, rfl, _⟩ := h; rfl) | (obtain ⟨_, _, _, _, _, _, _, _, _, rfl, _⟩ := h; rfl) | (obtain ⟨_, _, _, _, _, _, _, _, _, _, rfl, _⟩ := h; rfl) | (split at h <;> first | rfl | exact h.elim)
  · unfold sp_states_of at h
    obtain ⟨E, F, rfl, hE, hF, k⟩ := h
    simp_all only [N_states_of]
    infer_instance
    intro p hp
    have b0 := (Px.start (M := M)).new (o := .dic (txD [])) hp
    infer_instance
    refine forS [2, 3, 4] (fun i vs M' => ∃ (x2 x3 x4 : Option DM.D) (G : List Str), vs = [x2, x3, x4] ∧ Px M [(p, .dic (txD G))] M' ∧ G.Nodup ∧ G.length ≤ 2 * i ∧ ∀ z, z ∈ G ↔ ∃ e ∈ E.take i, z = e.1 ∨ z = e.2.2) (fun _ _ _ _ => trivial) (fun i x N e hN vs M1 hI => ?_) (fun vs M1 hI => ?_) ⟨_, _, _, [], rfl, b0, by simp, by simp, by simp⟩
    · obtain ⟨x2, x3, x4, G, rfl, b, hn, hl, hm⟩ := hI
      rw [List.getElem?_map] at e
      obtain ⟨⟨a, m, c⟩, he, rfl⟩ := Option.map_eq_some_iff.mp e
      have hi := (List.getElem?_eq_some_iff.mp he).1
      have hl2 := insS_len (F := G) (s := a)
      have hl3 := insS_len (F := insS G a) (s := c)
      simp only [edD]
      infer_instance
      rw [b.dic1]
      infer_instance
      refine ⟨by rw [txD_len]; exact small_lt2 (by omega), ?_⟩
      rw [put_tx]
      have b2 := b.put1 (o' := .dic (txD (insS G a)))
      infer_instance
      refine ⟨by rw [txD_len]; exact small_lt2 (by omega), ?_⟩
      rw [put_tx]
      refine hN _ _ _ rfl ⟨_, _, _, insS (insS G a) c, rfl, b2.put1, insS_nodup (insS_nodup hn), by omega, fun z => ?_⟩
      rw [insS_mem, insS_mem, hm, List.take_add_one, he]
      constructor
      · rintro ((⟨e, h1, h2⟩ | rfl) | rfl)
        · exact ⟨e, List.mem_append_left _ h1, h2⟩
        · exact ⟨(z, m, c), by simp, .inl rfl⟩
        · exact ⟨(a, m, z), by simp, .inr rfl⟩
      · rintro ⟨e, h1, h2⟩
        rcases List.mem_append.mp h1 with h1 | h1
        · exact .inl (.inl ⟨e, h1, h2⟩)
        · obtain rfl : e = (a, m, c) := by simpa using h1
          rcases h2 with rfl | rfl
          · exact .inl (.inr rfl)
          · exact .inr rfl
    · obtain ⟨x2, x3, x4, G, rfl, b, hn, hl, hm⟩ := hI
      rw [List.length_map] at hl
      rw [List.length_map, List.take_length] at hm
      infer_instance
      refine forS [5] (fun i vs M' => ∃ (x5 : Option DM.D) (G2 : List Str), vs = [x5] ∧ Px M [(p, .dic (txD G2))] M' ∧ G2.Nodup ∧ G2.length ≤ 2 * E.length + i ∧ ∀ z, z ∈ G2 ↔ z ∈ G ∨ z ∈ F.take i) (fun _ _ _ _ => trivial) (fun i x N e hN vs M1 hI => ?_) (fun vs M1 hI => ?_) ⟨_, G, rfl, b, hn, by omega, by simp⟩
      · obtain ⟨x5, G2, rfl, b2, hn2, hl2, hm2⟩ := hI
        rw [List.getElem?_map] at e
        obtain ⟨s, he, rfl⟩ := Option.map_eq_some_iff.mp e
        have hi := (List.getElem?_eq_some_iff.mp he).1
        have hl3 := insS_len (F := G2) (s := s)
        infer_instance
        rw [b2.dic1]
        infer_instance
        refine ⟨by rw [txD_len]; exact small_lt2 (by omega), ?_⟩
        rw [put_tx]
        refine hN _ _ _ rfl ⟨_, insS G2 s, rfl, b2.put1, insS_nodup hn2, by omega, fun z => ?_⟩
        rw [insS_mem, hm2, List.take_add_one, he]
        simp [or_assoc]
      · obtain ⟨x5, G2, rfl, b2, hn2, hl2, hm2⟩ := hI
        rw [List.length_map] at hl2
        rw [List.length_map, List.take_length] at hm2
        infer_instance
        refine sortedK_g b2.dic1 (by rw [keys_tx]; exact sortOk_str) ?_
        rw [keys_tx, sortD_strs]
        infer_instance
        refine b2.fin (k (sortS G2) (sortS_ris hn2) (fun z => ?_) (by rw [sortS_len]; exact hl2))
        rw [sortS_mem, hm2, hm]
        rfl
/-- whether anything is a number in figures -/
def sp_is_figures : DSp := fun ds M R => ∃ x, ds = [x] ∧ KnD x ∧ SmT x ∧ R (.bl (figD x)) M
theorem fig_go {M : Mm} {R : DQ} {x : D} (h : KnD x) (h2 : SmT x) (k : R (.bl (figD x)) M) : sp_is_figures [x] M R := ⟨x, rfl, h, h2, k⟩
theorem ok_is_figures {f_is_figures : Addr} {fd_is_figures : FuncData} (F_is_figures : Fun K "is_figures" "is_figures" st_is_figures f_is_figures fd_is_figures) (z_isinstance : mg "isinstance" = none) (z_str : mg "str" = none) (z_all : mg "all" = none) : FnOk P w K mg base CX0 1 f_is_figures fd_is_figures ["thing"] (toSp K sp_is_figures) := by
  refine fn_ok (k := 0) F_is_figures sc_is_figures (fun ds M R h => ?_) (fun cdv A outer s H E hr => ⟨_, (jb_cons (js_if (JW.jt (jw_or (jt_not (jt_val (je_isi z_isinstance (ja_cons (jv 0) (ja_cons (je_ty (by rfl) z_str PyProof.Rows.boot_str) ja_nil))))) (jw_or1 (jt_eq hr (jv 0) je_str)))) (jb_one (js_ret je_bl)) jb_nil)
      (jb_one (js_ret (je_and (je_all rfl z_all (ja_cons (je_frz (jl_lc rfl sc_is_figures.nd (jlc (ji_any (jv 0)) (blkOk_by (own := [("sign", 1)]) (N := N_is_figures) (sc := defScope st_is_figures) (by decide +kernel)) (fun _ _ _ _ _ => (jgv_name (i := 1) sc_is_figures.nd (by decide))) (fun _ _ _ _ _ => jts_nil) (fun _ _ _ _ _ => (je_in hr (jv 1) je_str))))) ja_nil)) (je_one (je_or (je_eq hr (jv 0) je_str) (je_one (je_ne hr (je_ix (jv 0) je_int) je_str)))))))), fun ds M R h => ?_⟩)
  · unfold sp_is_figures at h
    first | (obtain ⟨rfl, _⟩ := h; rfl) | (obtain ⟨_, rfl, _⟩ := h; rfl) | (obtain ⟨_, _, rfl, _⟩ := h; rfl) | (obtain ⟨_, _, _, rfl, _⟩ := h; rfl) | (obtain ⟨_, _, _, _, rfl, _⟩ := h; rfl) | (obtain ⟨_, _, _, _, _, rfl, _⟩ := h; rfl) | (obtain ⟨_, _, _, _, _, _, rfl, _⟩ := h; rfl) | (obtain ⟨_, _, _, _, _, _, _, rfl, _⟩ := h; rfl) | (obtain ⟨_, _, _, _, _, _, _, _, rfl, _⟩ := h; rfl) | (obtain ⟨_, _, _, _, _, _, _, _, _, rfl, _⟩ := h; rfl) | (obtain ⟨_, _, _, _, _, _, _, _, _, _, rfl, _⟩ := h; rfl) | (split at h <;> first | rfl | exact h.elim)
  · unfold sp_is_figures at h
    obtain ⟨x, rfl, hk, hs, k⟩ := h
    simp_all only [N_is_figures]
    cases x with
    | str z =>
      have hz := hs z rfl
      simp only [figD, figB] at k
      and_intros
      by_cases h0 : z = ("" : Str)
      · subst h0
        rw [if_pos (by rfl)]
        exact Shr.all k
      · rw [if_neg (by simpa using h0)]
        simp only [h0, decide_false, Bool.not_false, Bool.true_and] at k
        and_intros
        unfold DM.signs
        have hc0 : cps z ≠ [] := fun e => h0 (by
          have h1 : z.cps = #[] := by have := congrArg List.toArray e; simpa [cps] using this
          cases z; simp only at h1; rw [h1]; rfl)
        refine lcW_fun (l := z.cps.toList) (fun c => D.str ⟨#[c]⟩) (fun c => D.bl (inStr ⟨#[c]⟩ ("0123456789" : Str))) (small_line2 (by have := cps_len (z := z); unfold cps at this; omega)) trivial (fun c hc N F h' => ?_) ?_
        · and_intros
          rw [inR_tt]
          exact h'
        rw [allLR_map]
        and_intros
        have k : R (.bl ((z.cps.toList.all fun c => inStr ⟨#[c]⟩ ("0123456789" : Str)) && (decide (z = ("0" : Str)) || !decide (sgn0 z = ("0" : Str))))) M := k
        cases ha : (z.cps.toList.all fun c => inStr ⟨#[c]⟩ ("0123456789" : Str)) with
        | false =>
          rw [ha] at k
          rw [if_neg (by simp)]
          exact Shr.all k
        | true =>
          rw [ha] at k
          rw [if_pos rfl]
          by_cases hz0 : z = ("0" : Str)
          · rw [if_pos (by rw [hz0]; rfl)]
            rw [hz0] at k
            exact Shr.all k
          · rw [if_neg (by simpa using hz0)]
            refine ix_s (c := (cps z).headD 0) (by omega) (by cases e : cps z with | nil => exact absurd e hc0 | cons c r => rfl) (small_line2 (by omega)) ?_
            and_intros
            simp only [hz0, decide_false, Bool.false_or, Bool.true_and] at k
            rw [show (⟨#[(cps z).headD 0]⟩ : Str) = sgn0 z from rfl]
            have e0 : (sgn0 z == Str.ofString "0") = decide (sgn0 z = ("0" : Str)) := by rw [Bool.eq_iff_iff]; simp
            rw [e0]
            exact Shr.all k
    | ref _ => exact hk.elim
    | ty _ => exact hk.elim
    | dit _ => exact hk.elim
    | _ => and_intros; exact Shr.all k
/-- a knot of two machines -/
def KnP (S S2 : List Str) (k : St2) : Prop := WdM k.1 ∧ (∀ y ∈ k.2, WdM y) ∧ RowsIn S S2 k
theorem KnP.words {S S2 : List Str} {k : St2} (h : KnP S S2 k) : ∀ w ∈ k.1 :: k.2, 32 ∉ cps w := fun w hw => by
  rcases List.mem_cons.mp hw with rfl | hw
  · exact h.1.no32
  · exact (h.2.1 w hw).no32
theorem KnP.inj {S S2 : List Str} {k k' : St2} (h : KnP S S2 k) (h' : KnP S S2 k') (e : nmR k = nmR k') : k = k' := nmR_inj h.words h'.words e
--OBJ beside Beside
--OBJ beside.second Reader
--JNT (knot[0],) + knot[1]
--KD met
/-- the first stand that the one machine holds and the other one doesn't, of the fewest marks -/
def sp_first_missing (Beside Reader : Addr) : DSp := fun ds M R => ∃ (n n2 : Nat) (S S2 : List Str) (E E2 : List Ed) (F F2 : List Str), ds = [.tup [.tup (E.map edD), .tup (F.map .str)], .tup [.tup (E2.map edD), .tup (F2.map .str)]] ∧ GdM n S E F ∧ GdM n2 S2 E2 F2 ∧ n ≤ 1000 ∧ n2 ≤ 1000 ∧ S.length ≤ 100 ∧ S2.length ≤ 100 ∧ 2 * n * n * (S.length * 2 ^ S2.length) ≤ 10000000 ∧ S.length * 2 ^ S2.length ≤ 400000 ∧ (∀ z, stsOf E F z → digB z = false → z ∈ S2) ∧
  ∀ o : Option St2, FirstM E F E2 F2 o → (∀ s, o = some s → s.2.length ≤ S.length * 2 ^ S2.length) → R (optD o) M
theorem first_go {M : Mm} {R : DQ} {Beside Reader : Addr} {n n2 : Nat} {S S2 : List Str} {E E2 : List Ed} {F F2 : List Str} (h1 : GdM n S E F) (h2 : GdM n2 S2 E2 F2) (h3 : n ≤ 1000) (h4 : n2 ≤ 1000) (h5 : S.length ≤ 100) (h6 : S2.length ≤ 100) (h7 : 2 * n * n * (S.length * 2 ^ S2.length) ≤ 10000000) (h8 : S.length * 2 ^ S2.length ≤ 400000) (h9 : ∀ z, stsOf E F z → digB z = false → z ∈ S2) (k : ∀ o : Option St2, FirstM E F E2 F2 o → (∀ s, o = some s → s.2.length ≤ S.length * 2 ^ S2.length) → R (optD o) M) :
    sp_first_missing Beside Reader [.tup [.tup (E.map edD), .tup (F.map .str)], .tup [.tup (E2.map edD), .tup (F2.map .str)]] M R := ⟨n, n2, S, S2, E, E2, F, F2, rfl, h1, h2, h3, h4, h5, h6, h7, h8, h9, k⟩
theorem ok_first_missing {f_first_missing f_Beside_init f_marks_of f_states_of f_is_figures f_Beside_knots f_Reader_slipped f_Beside_parts f_Beside_onward f_Reader f_Beside f_Reader_init f_Reader_by f_Reader_on : Addr} {fd_first_missing fd_Beside_init fd_marks_of fd_states_of fd_is_figures fd_Beside_knots fd_Reader_slipped fd_Beside_parts fd_Beside_onward : FuncData} (TC : Owns K mg f_Reader f_Beside f_Reader_init f_Beside_init f_Reader_by f_Reader_slipped f_Reader_on f_Beside_knots f_Beside_onward f_Beside_parts) (F_first_missing : Fun K "first_missing" "first_missing" st_first_missing f_first_missing fd_first_missing) (G_Beside_init : FnOk P w K mg base CX0 3 f_Beside_init fd_Beside_init ["self", "one", "other"] (toSp K (sp_Beside_init f_Beside f_Reader))) (b_Beside_init : Binds K fd_Beside_init ["self", "one", "other"] []) (G_marks_of : FnOk P w K mg base CX0 1 f_marks_of fd_marks_of ["machine"] (toSp K sp_marks_of)) (g_marks_of : mg "marks_of" = some (.ref f_marks_of)) (k_marks_of : PySem.W.keepIn K (.ref f_marks_of) = true) (b_marks_of : Binds K fd_marks_of ["machine"] []) (G_states_of : FnOk P w K mg base CX0 1 f_states_of fd_states_of ["machine"] (toSp K sp_states_of)) (g_states_of : mg "states_of" = some (.ref f_states_of)) (k_states_of : PySem.W.keepIn K (.ref f_states_of) = true) (b_states_of : Binds K fd_states_of ["machine"] []) (G_is_figures : FnOk P w K mg base CX0 1 f_is_figures fd_is_figures ["thing"] (toSp K sp_is_figures)) (g_is_figures : mg "is_figures" = some (.ref f_is_figures)) (k_is_figures : PySem.W.keepIn K (.ref f_is_figures) = true) (b_is_figures : Binds K fd_is_figures ["thing"] []) (G_Beside_knots : FnOk P w K mg base CX0 3 f_Beside_knots fd_Beside_knots ["self", "stand", "some", "states"] (toSp K (sp_Beside_knots f_Beside f_Reader))) (b_Beside_knots : Binds K fd_Beside_knots ["self", "stand", "some", "states"] []) (G_Reader_slipped : FnOk P w K mg base CX0 2 f_Reader_slipped fd_Reader_slipped ["self", "states"] (toSp K (sp_Reader_slipped f_Reader))) (b_Reader_slipped : Binds K fd_Reader_slipped ["self", "states"] []) (G_Beside_parts : FnOk P w K mg base CX0 1 f_Beside_parts fd_Beside_parts ["self", "state", "states"] (toSp K (sp_Beside_parts f_Beside f_Reader))) (b_Beside_parts : Binds K fd_Beside_parts ["self", "state", "states"] []) (G_Beside_onward : FnOk P w K mg base CX0 4 f_Beside_onward fd_Beside_onward ["self", "row", "marks"] (toSp K (sp_Beside_onward f_Beside f_Reader))) (b_Beside_onward : Binds K fd_Beside_onward ["self", "row", "marks"] []) (z_sorted : mg "sorted" = none) : FnOk P w K mg base CX0 5 f_first_missing fd_first_missing ["one", "other"] (toSp K (sp_first_missing f_Beside f_Reader)) := by
  refine fn_ok (k := 4) F_first_missing sc_first_missing (fun ds M R h => ?_) (fun cdv A outer s H E hr => ⟨_, (jb_cons (js_set (i := 2) sc_first_missing.nd (je_make TC.k_Beside G_Beside_init (hr.mono (by decide)) (by rfl) TC.m_Beside b_Beside_init (ja_cons (jv 0) (ja_cons (jv 1) ja_nil))))
      (jb_cons (js_set (i := 3) sc_first_missing.nd (je_call G_marks_of (hr.mono (by decide)) (by rfl) g_marks_of k_marks_of b_marks_of (ja_cons (jv 0) ja_nil)))
      (jb_cons (js_set (i := 4) sc_first_missing.nd (je_fresh (jl_disp ja_nil)))
      (jb_cons (js_for PassesOwn.never rfl (ji_any (je_frz (jl_lc rfl sc_first_missing.nd (jlc (ji_any (je_call G_states_of (hr.mono (by decide)) (by rfl) g_states_of k_states_of b_states_of (ja_cons (jv 0) ja_nil))) (blkOk_by (own := [("state", 11)]) (N := N_first_missing) (sc := defScope st_first_missing) (by decide +kernel)) (fun _ _ _ _ _ => (jgv_name (i := 11) sc_first_missing.nd (by decide))) (fun _ _ _ _ _ => (jts_one (jt_not (jt_val (je_call G_is_figures (hr.mono (by decide)) (by rfl) g_is_figures k_is_figures b_is_figures (ja_cons (jv 11) ja_nil)))))) (fun _ _ _ _ _ => (jv 11)))))) (jg_name (i := 5) sc_first_missing.nd) (jb_one (js_expr (je_extendA (jv 4) (je_meth TC.c_Beside TC.t_Beside_knots G_Beside_knots (hr.mono (by decide)) b_Beside_knots (jv 2) (ja_cons (je_tup (ja_cons (jv 5) (ja_cons (je_tup ja_nil) ja_nil))) (ja_cons (je_frz (jl_disp (ja_cons (jv 5) ja_nil))) (ja_cons (je_meth TC.c_Reader TC.t_Reader_slipped G_Reader_slipped (hr.mono (by decide)) b_Reader_slipped (je_fld ⟨TC.c_Beside, TC.n_Beside_second⟩ (jv 2)) (ja_cons (je_frz (jl_disp (ja_cons (jv 5) ja_nil))) ja_nil)) ja_nil))))))))
      (jb_cons (js_set (i := 6) sc_first_missing.nd (je_freshD jd_empty))
      (jb_cons (js_while PassesOwn.never (jt_ne hr (jv 4) (je_frz (jl_disp ja_nil))) (jb_cons (js_set (i := 7) sc_first_missing.nd (je_fresh (jl_disp ja_nil))) (jb_cons (js_for PassesOwn.never rfl (ji_any (je_frz (jl_sorted hr z_sorted (ja_cons (jv 4) ja_nil)))) (jg_tup (n := 2) rfl (jgs_cons (jg_name (i := 8) sc_first_missing.nd) (jgs_cons (jg_name (i := 9) sc_first_missing.nd) jgs_nil))) (jb_cons (js_set (i := 10) sc_first_missing.nd (je_joinT je_str (je_add (je_tup (ja_cons (je_ix (jv 9) je_int) ja_nil)) (je_ix (jv 9) je_int)))) (jb_one (js_if (jt_notin hr (jv 10) (jv 6)) (jb_cons (js_dput hr (jv 6) (jv 10) je_bl) (jb_one (js_expr (je_append (jv 7) (je_tup (ja_cons (jv 8) (ja_cons (jv 9) ja_nil))))))) jb_nil)))) (jb_cons (js_for PassesOwn.never rfl (ji_any (jv 7)) (jg_tup (n := 2) rfl (jgs_cons (jg_name (i := 8) sc_first_missing.nd) (jgs_cons (jg_name (i := 9) sc_first_missing.nd) jgs_nil))) (jb_one (js_if (jt_val (je_meth TC.c_Beside TC.t_Beside_parts G_Beside_parts (hr.mono (by decide)) b_Beside_parts (jv 2) (ja_cons (je_ix (jv 9) je_int) (ja_cons (je_ix (jv 9) je_int) ja_nil)))) (jb_one (js_ret (jv 8))) jb_nil))) (jb_one (js_set (i := 4) sc_first_missing.nd (je_meth TC.c_Beside TC.t_Beside_onward G_Beside_onward (hr.mono (by decide)) b_Beside_onward (jv 2) (ja_cons (jv 7) (ja_cons (jv 3) ja_nil)))))))))
      (jb_one (js_ret je_non)))))))), fun ds M R h => ?_⟩)
  · unfold sp_first_missing at h
    first | (obtain ⟨rfl, _⟩ := h; rfl) | (obtain ⟨_, rfl, _⟩ := h; rfl) | (obtain ⟨_, _, rfl, _⟩ := h; rfl) | (obtain ⟨_, _, _, rfl, _⟩ := h; rfl) | (obtain ⟨_, _, _, _, rfl, _⟩ := h; rfl) | (obtain ⟨_, _, _, _, _, rfl, _⟩ := h; rfl) | (obtain ⟨_, _, _, _, _, _, rfl, _⟩ := h; rfl) | (obtain ⟨_, _, _, _, _, _, _, rfl, _⟩ := h; rfl) | (obtain ⟨_, _, _, _, _, _, _, _, rfl, _⟩ := h; rfl) | (obtain ⟨_, _, _, _, _, _, _, _, _, rfl, _⟩ := h; rfl) | (obtain ⟨_, _, _, _, _, _, _, _, _, _, rfl, _⟩ := h; rfl) | (split at h <;> first | rfl | exact h.elim)
  · unfold sp_first_missing at h
    obtain ⟨n, n2, S, S2, E, E2, F, F2, rfl, g, g2, hn, hn2, hS, hS2, hz, hU, hpS, k⟩ := h
    have hE : E.length ≤ 1000 := Nat.le_trans g.el hn
    have hE2 : E2.length ≤ 1000 := Nat.le_trans g2.el hn2
    simp_all only [N_first_missing]
    infer_instance
    intro a ha
    refine bes_init_go ha (by omega) (by omega) fun M1 r1 r2 hb hs => ?_
    refine ⟨rfl, ?_⟩
    infer_instance
    have hw := machB_wds g.mb
    have hzl : ∀ z, stsOf E F z → z.length ≤ 1000 := fun z h => Nat.le_trans (g.sa z (g.st z h)).2 (by decide)
    have hF := g.fl
    refine marks_go (by omega) fun ms hmr hmm hml => ?_
    infer_instance
    intro pr hpr
    have b0 := (Px.start (M := M1)).new (o := .lst []) hpr
    infer_instance
    refine states_go (by omega) (by omega) fun zs hz2 hm hl => ?_
    refine lcW_filter (l := zs) D.str (fun z => !digB z) D.str (ok := fun _ => True) (small_line2 (by omega)) trivial (fun z hz3 NN FF g1 g2 => ?_) ?_
    · have hst := (hm z).mp hz3
      and_intros
      refine fig_go trivial (smT_s (Nat.le_trans (hzl z hst) (by decide))) ?_
      and_intros
      rw [show figD (.str z) = digB z from (hw.st hst).fig]
      cases e : digB z with
      | true => exact g2 (by rw [e]; rfl)
      | false => exact g1 (by rw [e]; rfl)
    have hpl : (zs.filter fun z => !digB z).length ≤ 2100 := Nat.le_trans (List.length_filter_le _ _) (by omega)
    have hpm : ∀ z, z ∈ (zs.filter fun z => !digB z) ↔ stsOf E F z ∧ digB z = false := fun z => by rw [List.mem_filter, hm, Bool.not_eq_true']
    generalize (zs.filter fun z => !digB z) = ps at hpl hpm
    have hkl : ∀ p, ((slS E [p]).map fun q => (((p, []), (q, slS E2 [p])) : St2 × (Str × List Str))).length ≤ 1001 := fun p => by
      rw [List.length_map]
      have := slS_len (E := E) (xs := [p])
      simp at this; omega
    refine forS [5] (fun i vs M2 => ∃ x5, ∃ A : List (St2 × (Str × List Str)), vs = [x5] ∧ Px M1 [(pr, .lst (A.map itP))] M2 ∧ (∀ x, x ∈ A ↔ ∃ p ∈ ps.take i, ∃ q, Slips E (· = p) q ∧ x = ((p, []), (q, slS E2 [p]))) ∧ A.length ≤ 1001 * i) (fun _ _ _ _ => trivial) (fun i x N e hN vs M2 hI => ?_) (fun vs M2 hI => ?_) ⟨_, [], rfl, b0, by simp, by simp⟩
    · obtain ⟨x5, A, rfl, b, hA, hAl⟩ := hI
      rw [List.getElem?_map] at e
      obtain ⟨p, hp, rfl⟩ := Option.map_eq_some_iff.mp e
      have hi := (List.getElem?_eq_some_iff.mp hp).1
      have hbb := hb.frame b.ex
      obtain ⟨l2, hri2, _⟩ := id hbb.r2
      infer_instance
      refine ⟨by rw [b.lst1]; rfl, ?_⟩
      refine meth_g hbb.ia (by rfl) ?_
      infer_instance
      refine fld_go hbb.ia (by rfl) ?_
      infer_instance
      refine meth_g hri2 (by rfl) ?_
      infer_instance
      refine slipped_go (xs := [p]) hbb.r2 rfl (by omega) (by simp) fun us hu hum => ?_
      rw [slS_is hu hum]
      infer_instance
      refine knots_go (s := (p, [])) (xs := [p]) ⟨r1, r2, hbb⟩ rfl (by omega) (by simp) ?_
      have hk1 := hkl p
      have b2 := b.put1 (o' := .lst ((A ++ (slS E [p]).map fun q => ((p, []), (q, slS E2 [p]))).map itP))
      rw [List.map_append] at b2
      refine ext_go b.lst1 rfl (small_line2 (by rw [List.length_map, List.length_map]; have : 1001 * i ≤ 1001 * 2100 := Nat.mul_le_mul_left _ (by omega); omega)) ?_
      refine hN _ _ _ rfl ⟨_, _, rfl, by rw [List.map_append]; exact b2, fun x => ?_, by rw [List.length_append, Nat.mul_succ]; omega⟩
      rw [List.mem_append, hA, List.take_add_one, hp, Option.toList_some]
      constructor
      · rintro (⟨p', h1, h2⟩ | h)
        · exact ⟨p', List.mem_append_left _ h1, h2⟩
        · obtain ⟨q, hq, rfl⟩ := List.mem_map.mp h
          obtain ⟨y, hy, hs2⟩ := slips_one (slS_mem.mp hq)
          rw [List.mem_singleton.mp hy] at hs2
          exact ⟨p, by simp, q, hs2, rfl⟩
      · rintro ⟨p', h1, q, hq, rfl⟩
        rcases List.mem_append.mp h1 with h1 | h1
        · exact .inl ⟨p', h1, q, hq, rfl⟩
        · rw [List.mem_singleton.mp h1] at hq ⊢
          exact .inr (List.mem_map.mpr ⟨q, slS_mem.mpr (hq.mono fun x c => c ▸ List.mem_singleton.mpr rfl), rfl⟩)
    · obtain ⟨x5, A, rfl, b, hA, hAl⟩ := hI
      rw [List.length_map, List.take_length] at hA
      rw [List.length_map] at hAl
      infer_instance
      intro pm hpm2
      have hw2 := machB_wds g2.mb
      have hA' : ∀ x, x ∈ A ↔ ∃ p q, stsOf E F p ∧ digB p = false ∧ Slips E (· = p) q ∧ x = ((p, []), (q, slS E2 [p])) := fun x => by
        rw [hA]
        exact ⟨fun ⟨p, hp, q, h1, h2⟩ => ⟨p, q, ((hpm p).mp hp).1, ((hpm p).mp hp).2, h1, h2⟩, fun ⟨p, q, h1, h2, h3, h4⟩ => ⟨p, (hpm p).mpr ⟨h1, h2⟩, q, h3, h4⟩⟩
      have hslE : ∀ {p q}, stsOf E F p → Slips E (· = p) q → WdM q ∧ q ∈ S := fun {p q} h1 h2 => by
        rcases h2.from with rfl | ⟨e, he, rfl⟩
        · exact ⟨hw.st h1, g.st _ h1⟩
        · exact ⟨(hw.ed e he).2.2, g.st _ (.inl ⟨e, he, .inr rfl⟩)⟩
      have hslE2 : ∀ {p}, WdM p → p ∈ S2 → ∀ y ∈ slS E2 [p], WdM y ∧ y ∈ S2 := fun {p} h1 h2 y hy => by
        rcases slS_from hy with h3 | ⟨e, he, rfl⟩
        · rw [List.mem_singleton.mp h3]; exact ⟨h1, h2⟩
        · exact ⟨(hw2.ed e he).2.2, g2.st _ (.inl ⟨e, he, .inr rfl⟩)⟩
      have hK0 : ∀ x ∈ A, KnP S S2 x.2 := fun x hx => by
        obtain ⟨p, q, h1, h2, h3, rfl⟩ := (hA' x).mp hx
        obtain ⟨h4, h5⟩ := hslE h1 h3
        have h6 := hslE2 (hw.st h1) (hpS p h1 h2)
        exact ⟨h4, fun y hy => (h6 y hy).1, h5, slS_ris, fun y hy => (h6 y hy).2⟩
      have hKon : ∀ {x : St2 × St2} {m : Str} {t q : Str}, (x.2.1, m, t) ∈ E → Slips E (· = t) q → KnP S S2 (q, onS E2 x.2.2 m) := fun {x m t q} he hq => by
        obtain ⟨h4, h5⟩ := hslE (.inl ⟨_, he, .inr rfl⟩) hq
        refine ⟨h4, fun y hy => ?_, h5, onS_ris, fun y hy => ?_⟩
        · obtain ⟨e, he2, rfl⟩ := onS_from hy
          exact (hw2.ed e he2).2.2
        · obtain ⟨e, he2, rfl⟩ := onS_from hy
          exact g2.st _ (.inl ⟨e, he2, .inr rfl⟩)
      have hUl := rowsU_len (S := S) (S2 := S2)
      have hKU : ∀ K : List St2, K.Nodup → (∀ k ∈ K, KnP S S2 k) → K.length ≤ S.length * 2 ^ S2.length := fun K h1 h2 => Nat.le_trans (sub_len h1 fun r hr => rowsU_mem (h2 r hr).2.2) hUl
      have b1 : Px M1 [(pm, .dic (txD (([] : List St2).map nmR)))] (mup M2 pm (.dic [])) := (b.drop1.new hpm2)
      have hlA : lstOf (mup M2 pm (.dic [])) pr = some (A.map itP) := by
        have := (b.new (o := .dic []) hpm2).lst2
        exact this
      generalize mup M2 pm (.dic []) = M3 at b1 hlA
      have hmm0 : ∀ m ∈ ms, m ≠ ("" : Str) := fun m hm => ((hmm m).mp hm).1
      infer_instance
      refine whileS [4, 7, 8, 9, 10] (fun mz vs M' => ∃ u x7 x8 x9 x10, ∃ lv : Nat, ∃ row : List (St2 × St2), ∃ met : List St2, vs = [some u, x7, x8, x9, x10] ∧ (u = .lst (row.map itP) ∨ ∃ q, u = .ref q ∧ lstOf M' q = some (row.map itP)) ∧ Px M1 [(pm, .dic (txD (met.map nmR)))] M' ∧ mz = 2 * (S.length * 2 ^ S2.length - met.length) + row.length.min 1 ∧ LvI (srchP E F E2 F2) lv row met ∧ met.Nodup ∧ (∀ k ∈ met, KnP S S2 k) ∧ (∀ x ∈ row, KnP S S2 x.2) ∧ row.length ≤ 12000000 ∧ (row ≠ [] → lv ≤ met.length)) (2 * (S.length * 2 ^ S2.length) + A.length.min 1) (fun mz N hN vs M' hI => ?_) ⟨_, _, _, _, _, 0, A, [], rfl, .inr ⟨pr, rfl, hlA⟩, b1, by simp, startP hA', List.nodup_nil, by simp, hK0, by have : 1001 * ps.length ≤ 1001 * 2100 := Nat.mul_le_mul_left _ hpl; omega, fun _ => Nat.zero_le _⟩
      obtain ⟨u, x7, x8, x9, x10, lv, row, met, rfl, hu, bw, hmz, hL, hmn, hmk, hrk, hrl, hlv⟩ := hI
      have hml2 := hKU met hmn hmk
      have pI : pureDs (row.map itP) = true ∧ depDs (row.map itP) ≤ 99 := ⟨pureDs_map itP pure_itP row, Nat.le_trans (depDs_map itP 6 (by decide) dep_itP row) (by decide)⟩
      infer_instance
      have hne : ∀ {Q : DQ}, Q (.bl (!row.isEmpty)) M' → neR u (.lst []) M' Q := fun {Q} k2 => by
        rcases hu with rfl | ⟨q, rfl, hq⟩
        · and_intros
          first
          | exact ⟨pI, by rw [List.isEmpty_map]; exact k2⟩
          | (rw [List.isEmpty_map]; exact k2)
        · refine ne_nil_l hq pI.1 pI.2 ?_
          rw [List.isEmpty_map]; exact k2
      refine hne ?_
      infer_instance
      by_cases hr0 : row = []
      · subst hr0
        rw [if_neg (by decide)]
        infer_instance
        exact Shr.of (k none (fun s => hL.none s) (fun s e => by cases e)) (hs.trans bw.ex)
      · rw [if_pos (by cases row with | nil => exact absurd rfl hr0 | cons _ _ => rfl)]
        have hr1 : row.length.min 1 = 1 := by
          have := List.length_pos_iff.mpr hr0
          show min row.length 1 = 1
          omega
        have hlv := hlv hr0
        infer_instance
        intro pf hpf
        have bf := bw.new (o := .lst []) hpf
        have hsrt : rdS (mup M' pf (.lst [])) u = some (row.map itP) := by
          rcases hu with rfl | ⟨q, rfl, hq⟩
          · rfl
          · exact lstOf_sub (Sub.mup hpf) hq
        generalize mup M' pf (.lst []) = M4 at bf hsrt
        infer_instance
        have hsz : row.length ≤ sizeLine := small_line2 (by omega)
        have hso : ∀ {Q : List DM.D → Mm → Prop}, Q ((sortP row).map itP) M4 → sortedI [u] M4 Q := fun {Q} q => by
          rw [← sortD_itP] at q
          unfold sortedI
          rcases hu with rfl | ⟨q0, rfl, hq⟩
          · simp only [rdL_lst]
            first | exact ⟨sortOk_itP, q⟩ | exact ⟨⟨sortOk_itP, by rw [List.length_map]; exact hsz⟩, q⟩
          · simp only [rdL_ref, show lstOf M4 q0 = some (row.map itP) from hsrt]
            first | exact ⟨sortOk_itP, q⟩ | exact ⟨⟨sortOk_itP, by rw [List.length_map]; exact hsz⟩, q⟩
        refine hso ?_
        have hpw := sortP_pw row
        refine forS [8, 9, 10] (fun i vs M5 => ∃ x8 x9 x10, ∃ fr : List (St2 × St2), vs = [x8, x9, x10] ∧ Px M1 [(pf, .lst (fr.map itP)), (pm, .dic (txD ((met ++ fr.map (·.2)).map nmR)))] M5 ∧ FrI ((sortP row).take i) met fr ∧ (met ++ fr.map (·.2)).Nodup) (fun _ _ _ _ => trivial) (fun i x N2 e hN2 vs M5 hI => ?_) (fun vs M5 hI => ?_) ⟨_, _, _, [], rfl, by simpa using bf, ⟨by simp, by simp, by simp⟩, by simpa using hmn⟩
        · obtain ⟨x8, x9, x10, fr, rfl, b5, hfr, hnd⟩ := hI
          rw [List.getElem?_map] at e
          obtain ⟨x, hx, rfl⟩ := Option.map_eq_some_iff.mp e
          have hxr := sortP_mem.mp (List.mem_of_getElem? hx)
          have hkx := hrk x hxr
          have hxl : x.2.2.length ≤ 100 := Nat.le_trans (sub_len (ris_nodup hkx.2.2.2.1) hkx.2.2.2.2) hS2
          have hkf : ∀ k ∈ met ++ fr.map (·.2), KnP S S2 k := fun k hk => by
            rcases List.mem_append.mp hk with h | h
            · exact hmk k h
            · obtain ⟨y, hy, rfl⟩ := List.mem_map.mp h
              exact hrk y (sortP_mem.mp (List.mem_of_mem_take (hfr.sub y hy)))
          have hst := fresh_step hx (met := met ++ fr.map (·.2)) ⟨hfr, fun k => by rw [List.mem_append, List.mem_map]⟩ hpw
          have hszk : SzR x.2 := szR_of (Nat.le_trans (g.sa _ hkx.2.2.1).2 (by decide)) (fun y hy => Nat.le_trans (g2.sa y (hkx.2.2.2.2 y hy)).2 (by decide)) (by show x.2.2.length ≤ _; omega)
          have hml3 := hKU _ hnd hkf
          simp only [itP, stD]
          have hxl2 : 1 + x.2.2.length ≤ sizeLine := small_line2 (by omega)
          infer_instance
          try refine ⟨hxl2, ?_⟩
          refine join_sum (ws := x.2.1 :: x.2.2) rfl hszk.sum ?_
          infer_instance
          refine notin_dic b5.dic2 ?_
          rw [val_tx]
          have hmn2 : Txt.join (" " : Str) (x.2.1 :: x.2.2) ∈ (met ++ fr.map (·.2)).map nmR ↔ x.2 ∈ met ++ fr.map (·.2) := by
            constructor
            · intro h
              obtain ⟨k, hk, e⟩ := List.mem_map.mp h
              rw [← (hkf k hk).inj hkx e]; exact hk
            · intro h
              exact List.mem_map.mpr ⟨_, h, rfl⟩
          infer_instance
          by_cases c : x.2 ∈ met ++ fr.map (·.2)
          · rw [if_neg (by simp only [hmn2, c]; decide)]
            rw [if_pos c] at hst
            exact hN2 _ _ _ rfl ⟨_, _, _, fr, rfl, b5, hst, hnd⟩
          · rw [if_pos (by simp only [hmn2, c]; decide)]
            rw [if_neg c] at hst
            infer_instance
            rw [b5.dic2]
            refine ⟨by rw [txD_len, List.length_map]; exact small_lt2 (by omega), ?_⟩
            rw [put_tx, show insS ((met ++ fr.map (·.2)).map nmR) (Txt.join (" " : Str) (x.2.1 :: x.2.2)) = (met ++ (fr ++ [x]).map (·.2)).map nmR by
              unfold insS
              rw [if_neg (fun h => c (hmn2.mp h)), List.map_append (l₂ := [x]), ← List.append_assoc, List.map_append (l₂ := List.map _ [x])]
              rfl]
            have b6 := b5.put2 (o' := .dic (txD ((met ++ (fr ++ [x]).map (·.2)).map nmR)))
            infer_instance
            refine ⟨by rw [b6.lst1]; rfl, ?_⟩
            have hfl : fr.length ≤ 400000 := by
              rw [List.length_append, List.length_map] at hml3; omega
            refine append_go b6.lst1 (by rw [List.length_map]; exact small_lt2 (by omega)) ?_
            have b7 := b6.put1 (o' := .lst ((fr ++ [x]).map itP))
            rw [List.map_append (l₁ := fr) (f := itP)] at b7
            refine hN2 _ _ _ rfl ⟨_, _, _, fr ++ [x], rfl, by rw [List.map_append (l₁ := fr) (f := itP)]; exact b7, hst.1, ?_⟩
            rw [List.map_append, ← List.append_assoc, List.nodup_append]
            exact ⟨hnd, by simp, fun a ha b hb e => c (by rw [show b = x.2 by simpa using hb] at e; exact e ▸ ha)⟩
        · obtain ⟨x8, x9, x10, fr, rfl, b5, hfr, hnd⟩ := hI
          rw [List.length_map, List.take_length] at hfr
          have hfr2 : FrI row met fr := ⟨fun y hy => sortP_mem.mp (hfr.sub y hy), fun x hx => hfr.al x (sortP_mem.mpr hx), hfr.pw⟩
          have hkf : ∀ k ∈ met ++ fr.map (·.2), KnP S S2 k := fun k hk => by
            rcases List.mem_append.mp hk with h | h
            · exact hmk k h
            · obtain ⟨y, hy, rfl⟩ := List.mem_map.mp h
              exact hrk y (hfr2.sub y hy)
          have hml3 := hKU _ hnd hkf
          rw [List.length_append, List.length_map] at hml3
          have hpart : ∀ y : St2 × St2, (srchP E F E2 F2).Acc y.2 [] ↔ (decide (y.2.1 ∈ F) && !(y.2.2.any fun z => decide (z ∈ F2))) = true := fun y => by
            rw [Bool.and_eq_true, decide_eq_true_eq, Bool.not_eq_true', List.any_eq_false]
            constructor
            · rintro ⟨_, h1, h2⟩
              exact ⟨h1, fun z hz => by simpa using fun h => h2 ⟨z, hz, h⟩⟩
            · rintro ⟨h1, h2⟩
              exact ⟨by simp, h1, fun ⟨z, hz, h⟩ => by have := h2 z hz; simp [h] at this⟩
          infer_instance
          rw [b5.lst1]
          infer_instance
          refine forS [8, 9] (fun i vs M6 => ∃ x8 x9, vs = [x8, x9] ∧ M6 = M5 ∧ ∀ y ∈ fr.take i, ¬ (srchP E F E2 F2).Acc y.2 []) (fun _ _ _ hI => by obtain ⟨_, _, _, rfl, _⟩ := hI; exact b5.lst1) (fun i x N2 e hN2 vs M6 hI => ?_) (fun vs M6 hI => ?_) ⟨_, _, rfl, rfl, by simp⟩
          · obtain ⟨x8, x9, rfl, rfl, hnp⟩ := hI
            rw [List.getElem?_map] at e
            obtain ⟨x, hx, rfl⟩ := Option.map_eq_some_iff.mp e
            have hxr := hfr2.sub x (List.mem_of_getElem? hx)
            have hkx := hrk x hxr
            have hxl : x.2.2.length ≤ 100 := Nat.le_trans (sub_len (ris_nodup hkx.2.2.2.1) hkx.2.2.2.2) hS2
            have hbb := hb.frame b5.ex
            simp only [itP, stD]
            infer_instance
            refine meth_g hbb.ia (by rfl) ?_
            and_intros
            refine parts_go ⟨r1, r2, hbb⟩ (by omega) ?_
            and_intros
            cases hpb : (decide (x.2.1 ∈ F) && !(x.2.2.any fun z => decide (z ∈ F2))) with
            | true =>
              and_intros
              have hf := hL.found hfr2 hx ((hpart x).mpr hpb) hnp
              refine Shr.of (k (some x.1) hf (fun s e => ?_)) (hs.trans b5.ex)
              cases e
              rw [(hL.it x hxr).2]; omega
            | false =>
              and_intros
              refine hN2 _ _ _ rfl ⟨_, _, rfl, rfl, fun y hy => ?_⟩
              rw [List.take_add_one, hx, Option.toList_some] at hy
              rcases List.mem_append.mp hy with hy | hy
              · exact hnp y hy
              · rw [List.mem_singleton.mp hy, hpart, hpb]; decide
          · obtain ⟨x8, x9, rfl, rfl, hnp⟩ := hI
            rw [List.length_map, List.take_length] at hnp
            have hbb := hb.frame b5.ex
            have hszf : 2 * E.length * ms.length * fr.length ≤ 10000000 := Nat.le_trans (Nat.mul_le_mul (Nat.mul_le_mul (Nat.mul_le_mul_left 2 g.el) (Nat.le_trans hml g.el)) (show fr.length ≤ S.length * 2 ^ S2.length by omega)) hz
            infer_instance
            refine meth_g hbb.ia (by rfl) ?_
            infer_instance
            refine onward_go ⟨r1, r2, hbb⟩ b5.lst1 hE hE2 (by omega) ?_ (fun x hx => ?_) ?_
            · exact hszf
            · have hkx := hrk x (hfr2.sub x hx)
              exact ⟨by rw [(hL.it x (hfr2.sub x hx)).2]; omega, hkx.2.2.2.1⟩
            infer_instance
            have hmem : ∀ y, y ∈ (fr.flatMap fun x => ms.flatMap fun m => onP E E2 x m) ↔ ∃ x ∈ fr, ∃ m t q, m ≠ ("" : Str) ∧ (x.2.1, m, t) ∈ E ∧ Slips E (· = t) q ∧ y = ((x.1.1, x.1.2 ++ [m]), (q, onS E2 x.2.2 m)) := fun y => by
              simp only [List.mem_flatMap, onP_mem]
              constructor
              · rintro ⟨x, hx, m, hm, t, q, h1, h2, h3⟩
                exact ⟨x, hx, m, t, q, hmm0 m hm, h1, h2, h3⟩
              · rintro ⟨x, hx, m, t, q, h0, h1, h2, h3⟩
                exact ⟨x, hx, m, (hmm m).mpr ⟨h0, _, h1, rfl⟩, t, q, h1, h2, h3⟩
            have hrl2 : (fr.flatMap fun x => ms.flatMap fun m => onP E E2 x m).length ≤ 10000000 := Nat.le_trans (fm_len3 (f := fun x => ms.flatMap fun m => onP E E2 x m) (n := 2 * E.length * ms.length) (fun x => fm_len3 (f := fun m => onP E E2 x m) (n := 2 * E.length) (fun m => onP_len) ms) fr) hszf
            have hfr0 : fr = [] → (fr.flatMap fun x => ms.flatMap fun m => onP E E2 x m) = [] := fun e => by rw [e]; rfl
            have hnx := nextP hL hfr2 hnp hmem (met2 := met ++ fr.map (·.2)) fun k hk => (List.mem_append.mp hk).imp id fun h => by
              obtain ⟨y, hy, e⟩ := List.mem_map.mp h
              exact ⟨y, hy, e⟩
            have hkn : ∀ y ∈ (fr.flatMap fun x => ms.flatMap fun m => onP E E2 x m), KnP S S2 y.2 := fun y hy => by
              obtain ⟨x, hx, m, t, q, h0, h1, h2, rfl⟩ := (hmem y).mp hy
              exact hKon h1 h2
            generalize (fr.flatMap fun x => ms.flatMap fun m => onP E E2 x m) = row2 at hmem hrl2 hfr0 hnx hkn
            refine hN (2 * (S.length * 2 ^ S2.length - (met ++ fr.map (·.2)).length) + row2.length.min 1) _ _ _ ?_ rfl ⟨_, _, _, _, _, lv + 1, row2, met ++ fr.map (·.2), rfl, .inl rfl, b5.drop1, rfl, hnx, hnd, hkf, hkn, by omega, fun h => ?_⟩
            · rw [List.length_append, List.length_map]
              have hm1 : row2.length.min 1 ≤ 1 := Nat.min_le_right _ _
              by_cases c : fr = []
              · rw [hfr0 c, c]
                show 2 * (S.length * 2 ^ S2.length - (met.length + 0)) + min 0 1 < mz
                omega
              · have := List.length_pos_iff.mpr c
                omega
            · rw [List.length_append, List.length_map]
              have : fr ≠ [] := fun c => h (hfr0 c)
              have := List.length_pos_iff.mpr this
              omega
/-- the states of a machine, rising -/
def sp__law_states : DSp := fun ds M R => ∃ (E : List Ed) (F : List Str), ds = [.tup [.tup (E.map edD), .tup (F.map .str)]] ∧ E.length ≤ 1000 ∧ F.length ≤ 1000 ∧ ∀ zs : List Str, RisS zs → (∀ z, z ∈ zs ↔ stsOf E F z) → zs.length ≤ 2 * E.length + F.length → R (.lst (zs.map .str)) M
theorem lstates_go {M : Mm} {R : DQ} {E : List Ed} {F : List Str} (h1 : E.length ≤ 1000) (h2 : F.length ≤ 1000) (k : ∀ zs : List Str, RisS zs → (∀ z, z ∈ zs ↔ stsOf E F z) → zs.length ≤ 2 * E.length + F.length → R (.lst (zs.map .str)) M) : sp__law_states [.tup [.tup (E.map edD), .tup (F.map .str)]] M R := ⟨E, F, rfl, h1, h2, k⟩
theorem ok__law_states {f__law_states : Addr} {fd__law_states : FuncData} (F__law_states : Fun K "_law_states" "_law_states" st__law_states f__law_states fd__law_states) (z_sorted : mg "sorted" = none) (z_set : mg "set" = none) (z_list : mg "list" = none) : FnOk P w K mg base CX0 1 f__law_states fd__law_states ["_law_machine_here"] (toSp K sp__law_states) := by
  refine fn_ok (k := 0) F__law_states sc__law_states (fun ds M R h => ?_) (fun cdv A outer s H E hr => ⟨_, (jb_cons (js_set (i := 1) sc__law_states.nd (je_add (je_frz (jl_lc rfl sc__law_states.nd (jlc (ji_any (je_ix (jv 0) je_int)) (blkOk_by (own := [("_law_edge", 2)]) (N := N__law_states) (sc := defScope st__law_states) (by decide +kernel)) (fun _ _ _ _ _ => (jgv_name (i := 2) sc__law_states.nd (by decide))) (fun _ _ _ _ _ => jts_nil) (fun _ _ _ _ _ => (je_ix (jv 2) je_int))))) (je_frz (jl_lc rfl sc__law_states.nd (jlc (ji_any (je_ix (jv 0) je_int)) (blkOk_by (own := [("_law_edge", 2)]) (N := N__law_states) (sc := defScope st__law_states) (by decide +kernel)) (fun _ _ _ _ _ => (jgv_name (i := 2) sc__law_states.nd (by decide))) (fun _ _ _ _ _ => jts_nil) (fun _ _ _ _ _ => (je_ix (jv 2) je_int)))))))
      (jb_one (js_ret (je_frz (jl_sortSet rfl hr z_sorted z_set (je_add (jv 1) (je_frz (jl_list z_list (ja_cons (je_ix (jv 0) je_int) ja_nil))))))))), fun ds M R h => ?_⟩)
  · unfold sp__law_states at h
    first | (obtain ⟨rfl, _⟩ := h; rfl) | (obtain ⟨_, rfl, _⟩ := h; rfl) | (obtain ⟨_, _, rfl, _⟩ := h; rfl) | (obtain ⟨_, _, _, rfl, _⟩ := h; rfl) | (obtain ⟨_, _, _, _, rfl, _⟩ := h; rfl) | (obtain ⟨_, _, _, _, _, rfl, _⟩ := h; rfl) | (obtain ⟨_, _, _, _, _, _, rfl, _⟩ := h; rfl) | (obtain ⟨_, _, _, _, _, _, _, rfl, _⟩ := h; rfl) | (obtain ⟨_, _, _, _, _, _, _, _, rfl, _⟩ := h; rfl) | (obtain ⟨_, _, _, _, _, _, _, _, _, rfl, _⟩ := h; rfl) | (obtain ⟨_, _, _, _, _, _, _, _, _, _, rfl, _⟩ := h; rfl) | (split at h <;> first | rfl | exact h.elim)
  · unfold sp__law_states at h
    obtain ⟨E, F, rfl, hE, hF, k⟩ := h
    simp_all only [N__law_states]
    infer_instance
    refine lcW_fun (l := E) edD (fun e => D.str e.1) (small_line2 (by omega)) trivial (fun e he N FF h' => ?_) ?_
    · simp only [edD]
      infer_instance
      exact h'
    refine lcW_fun (l := E) edD (fun e => D.str e.2.2) (small_line2 (by omega)) trivial (fun e he N FF h' => ?_) ?_
    · simp only [edD]
      infer_instance
      exact h'
    infer_instance
    rw [show E.map (fun e => D.str e.1) ++ E.map (fun e => D.str e.2.2) ++ F.map D.str = (E.map (·.1) ++ E.map (·.2.2) ++ F).map D.str by simp [List.map_append, List.map_map, Function.comp_def]]
    have hl : (E.map (·.1) ++ E.map (·.2.2) ++ F).length ≤ 2 * E.length + F.length := by simp; omega
    refine sortSet_go (l := E.map (·.1) ++ E.map (·.2.2) ++ F) rfl (by omega) ?_
    infer_instance
    refine Shr.all (k (rise _) (rise_ris _) (fun z => ?_) (Nat.le_trans (rise_len _) hl))
    rw [rise_mem]
    simp only [List.mem_append, List.mem_map]
    unfold stsOf
    constructor
    · rintro ((⟨e, he, rfl⟩ | ⟨e, he, rfl⟩) | h)
      · exact .inl ⟨e, he, .inl rfl⟩
      · exact .inl ⟨e, he, .inr rfl⟩
      · exact .inr h
    · rintro (⟨e, he, rfl | rfl⟩ | h)
      · exact .inl (.inl ⟨e, he, rfl⟩)
      · exact .inl (.inr ⟨e, he, rfl⟩)
      · exact .inr h
/-- the places of a machine, rising -/
def sp__law_places : DSp := fun ds M R => ∃ (E : List Ed) (F : List Str), ds = [.tup [.tup (E.map edD), .tup (F.map .str)]] ∧ E.length ≤ 1000 ∧ F.length ≤ 1000 ∧ (∀ z, stsOf E F z → WdM z ∧ z.length ≤ 1000) ∧ ∀ ps : List Str, RisS ps → (∀ z, z ∈ ps ↔ stsOf E F z ∧ digB z = false) → ps.length ≤ 2 * E.length + F.length → R (.lst (ps.map .str)) M
theorem lplaces_go {M : Mm} {R : DQ} {E : List Ed} {F : List Str} (h1 : E.length ≤ 1000) (h2 : F.length ≤ 1000) (h3 : ∀ z, stsOf E F z → WdM z ∧ z.length ≤ 1000) (k : ∀ ps : List Str, RisS ps → (∀ z, z ∈ ps ↔ stsOf E F z ∧ digB z = false) → ps.length ≤ 2 * E.length + F.length → R (.lst (ps.map .str)) M) : sp__law_places [.tup [.tup (E.map edD), .tup (F.map .str)]] M R := ⟨E, F, rfl, h1, h2, h3, k⟩
theorem ok__law_places {f__law_places f__law_states : Addr} {fd__law_places fd__law_states : FuncData} (F__law_places : Fun K "_law_places" "_law_places" st__law_places f__law_places fd__law_places) (G__law_states : FnOk P w K mg base CX0 1 f__law_states fd__law_states ["_law_machine_here"] (toSp K sp__law_states)) (g__law_states : mg "_law_states" = some (.ref f__law_states)) (k__law_states : PySem.W.keepIn K (.ref f__law_states) = true) (b__law_states : Binds K fd__law_states ["_law_machine_here"] []) : FnOk P w K mg base CX0 2 f__law_places fd__law_places ["_law_machine_here"] (toSp K sp__law_places) := by
  refine fn_ok (k := 1) F__law_places sc__law_places (fun ds M R h => ?_) (fun cdv A outer s H E hr => ⟨_, (jb_one (js_ret (je_frz (jl_lc rfl sc__law_places.nd (jlc (ji_any (je_call G__law_states (hr.mono (by decide)) (by rfl) g__law_states k__law_states b__law_states (ja_cons (jv 0) ja_nil))) (blkOk_by (own := [("_law_one", 1)]) (N := N__law_places) (sc := defScope st__law_places) (by decide +kernel)) (fun _ _ _ _ _ => (jgv_name (i := 1) sc__law_places.nd (by decide))) (fun _ _ _ _ _ => (jts_one (jt_notin hr (je_ix (jv 1) je_int) je_str))) (fun _ _ _ _ _ => (jv 1))))))), fun ds M R h => ?_⟩)
  · unfold sp__law_places at h
    first | (obtain ⟨rfl, _⟩ := h; rfl) | (obtain ⟨_, rfl, _⟩ := h; rfl) | (obtain ⟨_, _, rfl, _⟩ := h; rfl) | (obtain ⟨_, _, _, rfl, _⟩ := h; rfl) | (obtain ⟨_, _, _, _, rfl, _⟩ := h; rfl) | (obtain ⟨_, _, _, _, _, rfl, _⟩ := h; rfl) | (obtain ⟨_, _, _, _, _, _, rfl, _⟩ := h; rfl) | (obtain ⟨_, _, _, _, _, _, _, rfl, _⟩ := h; rfl) | (obtain ⟨_, _, _, _, _, _, _, _, rfl, _⟩ := h; rfl) | (obtain ⟨_, _, _, _, _, _, _, _, _, rfl, _⟩ := h; rfl) | (obtain ⟨_, _, _, _, _, _, _, _, _, _, rfl, _⟩ := h; rfl) | (split at h <;> first | rfl | exact h.elim)
  · unfold sp__law_places at h
    obtain ⟨E, F, rfl, hE, hF, hw, k⟩ := h
    simp_all only [N__law_places]
    infer_instance
    refine lstates_go hE hF fun zs hz hm hl => ?_
    infer_instance
    refine lcW_filter (l := zs) D.str (fun z => !digB z) D.str (small_line2 (by omega)) trivial (fun x hx NN FF g1 g2 => ?_) ?_
    · and_intros
      have hx2 := hw x ((hm x).mp hx)
      refine ix_s (c := (cps x).headD 0) (by omega) ?_ (small_line2 (by omega)) ?_
      · cases e : cps x with
        | nil => exact absurd e hx2.1.ne
        | cons c r => rfl
      and_intros
      rw [show (⟨#[(cps x).headD 0]⟩ : Str) = sgn0 x from rfl]
      rw [notInR_tt]
      and_intros
      cases e : digB x with
      | true => rw [if_neg (by rw [show inStr (sgn0 x) (Str.ofString "0123456789") = true from e]; decide)]; exact g2 (by rw [e]; rfl)
      | false => rw [if_pos (by rw [show inStr (sgn0 x) (Str.ofString "0123456789") = false from e]; rfl)]; exact g1 (by rw [e]; rfl)
    refine Shr.all (k (zs.filter fun z => !digB z) (hz.sublist List.filter_sublist) (fun z => ?_) (Nat.le_trans (List.length_filter_le _ _) hl))
    rw [List.mem_filter, hm, Bool.not_eq_true']
/-- whether one of some states is an end -/
def sp__law_ends : DSp := fun ds M R => ∃ (E : D) (F h : List Str) (x : D), ds = [.tup [E, .tup (F.map .str)], x] ∧ (x = .tup (h.map .str) ∨ x = .lst (h.map .str) ∨ ∃ p, x = .ref p ∧ lstOf M p = some (h.map .str)) ∧ h.length ≤ 10000 ∧ R (.bl (h.any fun s => decide (s ∈ F))) M
theorem lends_go {M : Mm} {R : DQ} {E : D} {F h : List Str} (h1 : h.length ≤ 10000) (k : R (.bl (h.any fun s => decide (s ∈ F))) M) : sp__law_ends [.tup [E, .tup (F.map .str)], .tup (h.map .str)] M R := ⟨E, F, h, _, rfl, .inl rfl, h1, k⟩
theorem lends_goL {M : Mm} {R : DQ} {E : D} {F h : List Str} {p : Addr} (e : lstOf M p = some (h.map .str)) (h1 : h.length ≤ 10000) (k : R (.bl (h.any fun s => decide (s ∈ F))) M) : sp__law_ends [.tup [E, .tup (F.map .str)], .ref p] M R := ⟨E, F, h, _, rfl, .inr (.inr ⟨p, rfl, e⟩), h1, k⟩
theorem ok__law_ends {f__law_ends : Addr} {fd__law_ends : FuncData} (F__law_ends : Fun K "_law_ends" "_law_ends" st__law_ends f__law_ends fd__law_ends) : FnOk P w K mg base CX0 1 f__law_ends fd__law_ends ["_law_machine_here", "_law_states_here"] (toSp K sp__law_ends) := by
  refine fn_ok (k := 0) F__law_ends sc__law_ends (fun ds M R h => ?_) (fun cdv A outer s H E hr => ⟨_, (jb_one (js_ret (je_ne hr (je_frz (jl_lc rfl sc__law_ends.nd (jlc (ji_any (jv 1)) (blkOk_by (own := [("_law_one", 2)]) (N := N__law_ends) (sc := defScope st__law_ends) (by decide +kernel)) (fun _ _ _ _ _ => (jgv_name (i := 2) sc__law_ends.nd (by decide))) (fun _ _ _ _ _ => (jts_one (jt_in hr (jv 2) (je_ix (jv 0) je_int)))) (fun _ _ _ _ _ => (jv 2))))) (je_frz (jl_disp ja_nil))))), fun ds M R h => ?_⟩)
  · unfold sp__law_ends at h
    first | (obtain ⟨rfl, _⟩ := h; rfl) | (obtain ⟨_, rfl, _⟩ := h; rfl) | (obtain ⟨_, _, rfl, _⟩ := h; rfl) | (obtain ⟨_, _, _, rfl, _⟩ := h; rfl) | (obtain ⟨_, _, _, _, rfl, _⟩ := h; rfl) | (obtain ⟨_, _, _, _, _, rfl, _⟩ := h; rfl) | (obtain ⟨_, _, _, _, _, _, rfl, _⟩ := h; rfl) | (obtain ⟨_, _, _, _, _, _, _, rfl, _⟩ := h; rfl) | (obtain ⟨_, _, _, _, _, _, _, _, rfl, _⟩ := h; rfl) | (obtain ⟨_, _, _, _, _, _, _, _, _, rfl, _⟩ := h; rfl) | (obtain ⟨_, _, _, _, _, _, _, _, _, _, rfl, _⟩ := h; rfl) | (split at h <;> first | rfl | exact h.elim)
  · unfold sp__law_ends at h
    obtain ⟨E, F, hs, x, rfl, hx, hl, k⟩ := h
    have hk := Shr.all k
    simp_all only [N__law_ends]
    rcases hx with rfl | rfl | ⟨p, rfl, hp⟩
    · and_intros
      refine lcW_filter (l := hs) D.str (fun s => decide (s ∈ F)) D.str (small_line2 (by omega)) trivial (fun s hs' N FF g1 g2 => ?_) ?_
      · and_intros
        refine inR_strS (l := F) rfl ?_
        and_intros
        refine ifs (fun h => g1 h) (fun h => g2 (by simpa using h))
      refine ⟨⟨pureDs_str _, Nat.le_trans (depDs_str _) (by decide)⟩, ?_⟩
      have e : (!((hs.filter fun s => decide (s ∈ F)).map D.str).isEmpty) = hs.any fun s => decide (s ∈ F) := by
        rw [List.isEmpty_map, Bool.eq_iff_iff, List.any_eq_true]
        simp only [Bool.not_eq_true', List.isEmpty_eq_false_iff_exists_mem, List.mem_filter]
      rw [e]
      exact hk
    · and_intros
      refine lcW_filter (l := hs) D.str (fun s => decide (s ∈ F)) D.str (small_line2 (by omega)) trivial (fun s hs' N FF g1 g2 => ?_) ?_
      · and_intros
        refine inR_strS (l := F) rfl ?_
        and_intros
        refine ifs (fun h => g1 h) (fun h => g2 (by simpa using h))
      refine ⟨⟨pureDs_str _, Nat.le_trans (depDs_str _) (by decide)⟩, ?_⟩
      have e : (!((hs.filter fun s => decide (s ∈ F)).map D.str).isEmpty) = hs.any fun s => decide (s ∈ F) := by
        rw [List.isEmpty_map, Bool.eq_iff_iff, List.any_eq_true]
        simp only [Bool.not_eq_true', List.isEmpty_eq_false_iff_exists_mem, List.mem_filter]
      rw [e]
      exact hk
    · and_intros
      rw [hp]
      and_intros
      refine lcW_filter (l := hs) D.str (fun s => decide (s ∈ F)) D.str (small_line2 (by omega)) hp (fun s hs' N FF g1 g2 => ?_) ?_
      · and_intros
        refine inR_strS (l := F) rfl ?_
        and_intros
        refine ifs (fun h => g1 h) (fun h => g2 (by simpa using h))
      refine ⟨⟨pureDs_str _, Nat.le_trans (depDs_str _) (by decide)⟩, ?_⟩
      have e : (!((hs.filter fun s => decide (s ∈ F)).map D.str).isEmpty) = hs.any fun s => decide (s ∈ F) := by
        rw [List.isEmpty_map, Bool.eq_iff_iff, List.any_eq_true]
        simp only [Bool.not_eq_true', List.isEmpty_eq_false_iff_exists_mem, List.mem_filter]
      rw [e]
      exact hk
--MUT _law_found
/-- where slips lead from some states -/
def sp__law_slipped : DSp := fun ds M R => ∃ (x y u : D) (E : List Ed) (xs : List Str), ds = [.tup [x, y], u] ∧ (u = .lst (xs.map .str) ∨ u = .tup (xs.map .str)) ∧ (x = .tup (E.map edD) ∨ x = .lst (E.map edD)) ∧ E.length ≤ 100000 ∧ xs.length ≤ 100000 ∧ ∀ zs : List Str, zs.length ≤ xs.length + E.length → (∀ z, z ∈ zs ↔ Slips E (· ∈ xs) z) → (xs.Nodup → zs.Nodup) → R (.lst (zs.map .str)) M
theorem lslipped_go {M : Mm} {R : DQ} {x y : D} {E : List Ed} {xs : List Str} (h : x = .tup (E.map edD) ∨ x = .lst (E.map edD)) (h1 : E.length ≤ 100000) (h2 : xs.length ≤ 100000) (k : ∀ zs : List Str, zs.length ≤ xs.length + E.length → (∀ z, z ∈ zs ↔ Slips E (· ∈ xs) z) → R (.lst (zs.map .str)) M) : sp__law_slipped [.tup [x, y], .lst (xs.map .str)] M R := ⟨x, y, _, E, xs, rfl, .inl rfl, h, h1, h2, fun zs a b _ => k zs a b⟩
theorem lslipped_goT {M : Mm} {R : DQ} {x y : D} {E : List Ed} {xs : List Str} (h : x = .tup (E.map edD) ∨ x = .lst (E.map edD)) (h1 : E.length ≤ 100000) (h2 : xs.length ≤ 100000) (k : ∀ zs : List Str, zs.length ≤ xs.length + E.length → (∀ z, z ∈ zs ↔ Slips E (· ∈ xs) z) → R (.lst (zs.map .str)) M) : sp__law_slipped [.tup [x, y], .tup (xs.map .str)] M R := ⟨x, y, _, E, xs, rfl, .inr rfl, h, h1, h2, fun zs a b _ => k zs a b⟩
theorem lslipped_goN {M : Mm} {R : DQ} {x y : D} {E : List Ed} {xs : List Str} (h : x = .tup (E.map edD) ∨ x = .lst (E.map edD)) (h1 : E.length ≤ 100000) (h2 : xs.length ≤ 100000) (h3 : xs.Nodup) (k : ∀ zs : List Str, zs.length ≤ xs.length + E.length → (∀ z, z ∈ zs ↔ Slips E (· ∈ xs) z) → zs.Nodup → R (.lst (zs.map .str)) M) : sp__law_slipped [.tup [x, y], .lst (xs.map .str)] M R := ⟨x, y, _, E, xs, rfl, .inl rfl, h, h1, h2, fun zs a b c => k zs a b (c h3)⟩
theorem ok__law_slipped {f__law_slipped : Addr} {fd__law_slipped : FuncData} (F__law_slipped : Fun K "_law_slipped" "_law_slipped" st__law_slipped f__law_slipped fd__law_slipped) (z_list : mg "list" = none) (z_len : mg "len" = none) : FnOk P w K mg base CX0 1 f__law_slipped fd__law_slipped ["_law_machine_here", "_law_states_here"] (toSp K sp__law_slipped) := by
  refine fn_ok (k := 0) F__law_slipped sc__law_slipped (fun ds M R h => ?_) (fun cdv A outer s H E hr => ⟨_, (jb_cons (js_set (i := 2) sc__law_slipped.nd (je_fresh (jl_list z_list (ja_cons (jv 1) ja_nil))))
      (jb_cons (js_set (i := 3) sc__law_slipped.nd je_int)
      (jb_cons (js_while PassesOwn.never (jt_lt (jv 3) (je_len z_len (ja_cons (jv 2) ja_nil))) (jb_cons (js_for PassesOwn.never rfl (ji_any (je_ix (jv 0) je_int)) (jg_tup (n := 3) rfl (jgs_cons (jg_name (i := 4) sc__law_slipped.nd) (jgs_cons (jg_name (i := 5) sc__law_slipped.nd) (jgs_cons (jg_name (i := 6) sc__law_slipped.nd) jgs_nil)))) (jb_one (js_if (JW.jt (jw_and (jt_eq hr (jv 4) (je_ix (jv 2) (jv 3))) (jw_and (jt_eq hr (jv 5) je_str) (jw_and1 (jt_notin hr (jv 6) (jv 2)))))) (jb_one (js_expr (je_append (jv 2) (jv 6)))) jb_nil))) (jb_one (js_set (i := 3) sc__law_slipped.nd (je_add (jv 3) je_int)))))
      (jb_one (js_ret (jv 2)))))), fun ds M R h => ?_⟩)
  · unfold sp__law_slipped at h
    first | (obtain ⟨rfl, _⟩ := h; rfl) | (obtain ⟨_, rfl, _⟩ := h; rfl) | (obtain ⟨_, _, rfl, _⟩ := h; rfl) | (obtain ⟨_, _, _, rfl, _⟩ := h; rfl) | (obtain ⟨_, _, _, _, rfl, _⟩ := h; rfl) | (obtain ⟨_, _, _, _, _, rfl, _⟩ := h; rfl) | (obtain ⟨_, _, _, _, _, _, rfl, _⟩ := h; rfl) | (obtain ⟨_, _, _, _, _, _, _, rfl, _⟩ := h; rfl) | (obtain ⟨_, _, _, _, _, _, _, _, rfl, _⟩ := h; rfl) | (obtain ⟨_, _, _, _, _, _, _, _, _, rfl, _⟩ := h; rfl) | (obtain ⟨_, _, _, _, _, _, _, _, _, _, rfl, _⟩ := h; rfl) | (split at h <;> first | rfl | exact h.elim)
  · unfold sp__law_slipped at h
    obtain ⟨x, y, u, E, xs, rfl, hu, hxx, hE, hx, k⟩ := h
    have hany : ∀ {M2 : Mm} {Q : DIt → Mm → Prop}, (∀ ok : Mm → Prop, (∀ M', ok M') → Q ⟨E.map edD, ok⟩ M2) → anyI x M2 Q := fun {M2 Q} h => by
      rcases hxx with rfl | rfl
      · exact h _ fun _ => trivial
      · exact h _ fun _ => (by first | trivial | rfl)
    simp_all only [N__law_slipped]
    rcases hu with rfl | rfl
    all_goals
      infer_instance
      intro f hf
      infer_instance
      have b0 := (Px.start (M := M)).new (o := .lst (xs.map .str)) hf
      refine whileS [3, 4, 5, 6] (fun m vs M' => ∃ (n : Nat) (z : Int) (x4 x5 x6 : Option DM.D) (G : List Str), vs = [some (.int z), x4, x5, x6] ∧ z = n ∧ Px M [(f, .lst ((xs ++ G).map .str))] M' ∧ m = xs.length + E.length - n ∧ n ≤ (xs ++ G).length ∧ G.Nodup ∧ (∀ z ∈ G, Slips E (· ∈ xs) z ∧ (∃ e ∈ E, e.2.2 = z) ∧ z ∉ xs) ∧ ∀ x ∈ (xs ++ G).take n, ∀ z, (x, ("" : Str), z) ∈ E → z ∈ xs ++ G) (xs.length + E.length) (fun m N hN vs M' hI => ?_) ⟨0, _, _, _, _, [], rfl, rfl, by rw [List.append_nil]; exact b0, by omega, by omega, by simp, by simp, by simp⟩
      obtain ⟨n, z, x4, x5, x6, G, rfl, rfl, b, hm, hn, hG, h1, h3⟩ := hI
      have hGl : ∀ {G : List Str}, G.Nodup → (∀ z ∈ G, Slips E (· ∈ xs) z ∧ (∃ e ∈ E, e.2.2 = z) ∧ z ∉ xs) → G.length ≤ E.length := fun {G} h h' => by
        have := sub_len (m := E.map (·.2.2)) h fun z hz => by
          obtain ⟨_, ⟨e, he, rfl⟩, _⟩ := h' z hz
          exact List.mem_map.mpr ⟨e, he, rfl⟩
        simpa using this
      have hGl0 := hGl hG h1
      have hFl : (xs ++ G).length ≤ xs.length + E.length := by rw [List.length_append]; omega
      have hF1 : ∀ z ∈ xs ++ G, Slips E (· ∈ xs) z := fun z hz => (List.mem_append.mp hz).elim (fun h => .base h) fun h => (h1 z h).1
      simp_all only []
      refine len_l (xs := (xs ++ G).map .str) b.lst1 ?_
      simp_all only []
      refine ifs (fun c => ?_) (fun c => ?_)
      rotate_left
      · infer_instance
        refine b.finL (k (xs ++ G) hFl (slips_done hF1 (fun z hz => List.mem_append_left _ hz) (fun x hx z he => h3 x (by rw [List.take_of_length_le (by simp at c; simp; omega)]; exact hx) z he)) (fun hx => List.nodup_append.mpr ⟨hx, hG, fun a ha b hb e => (h1 b hb).2.2 (e ▸ ha)⟩))
      · infer_instance
        have hlt : n < (xs ++ G).length := by have := of_decide_eq_true c; rw [List.length_append]; omega
        have hxn := List.getElem?_eq_getElem hlt
        obtain ⟨w, hw⟩ : ∃ w, w = (xs ++ G)[n] := ⟨_, rfl⟩
        rw [← hw] at hxn
        refine hany fun ok hok => ?_
        refine forS [4, 5, 6] (fun i vs M2 => ∃ (x4 x5 x6 : Option DM.D) (G2 : List Str), vs = [x4, x5, x6] ∧ Px M [(f, .lst ((xs ++ (G ++ G2)).map .str))] M2 ∧ (G ++ G2).Nodup ∧ (∀ z ∈ G ++ G2, Slips E (· ∈ xs) z ∧ (∃ e ∈ E, e.2.2 = z) ∧ z ∉ xs) ∧ ∀ e ∈ E.take i, e.1 = w → e.2.1 = ("" : Str) → e.2.2 ∈ xs ++ (G ++ G2)) (fun _ _ _ _ => hok _) (fun i x N2 e hN2 vs M2 hI => ?_) (fun vs M2 hI => ?_) ⟨_, _, _, [], rfl, by rw [List.append_nil]; exact b, by simpa using hG, by simpa using h1, by simp⟩
        · obtain ⟨x4, x5, x6, G2, rfl, b2, g1, g2, g3⟩ := hI
          rw [List.getElem?_map] at e
          obtain ⟨⟨ea, eb, ec⟩, he, rfl⟩ := Option.map_eq_some_iff.mp e
          have hem := List.mem_of_getElem? he
          have hl2 := hGl g1 g2
          simp only [edD]
          have skip : ¬ (ea = w ∧ eb = ("" : Str) ∧ ec ∉ xs ++ (G ++ G2)) → ∀ e ∈ E.take (i + 1), e.1 = w → e.2.1 = ("" : Str) → e.2.2 ∈ xs ++ (G ++ G2) := fun hs e' he' q1 q2 => by
            rw [List.take_add_one, he] at he'
            rcases List.mem_append.mp he' with he' | he'
            · exact g3 e' he' q1 q2
            · obtain rfl : e' = (ea, eb, ec) := by simpa using he'
              by_cases hh : ec ∈ xs ++ (G ++ G2)
              · exact hh
              · exact absurd ⟨q1, q2, hh⟩ hs
          have hwx : (xs ++ (G ++ G2))[n]? = some w := by
            rw [← List.append_assoc, List.getElem?_append_left hlt]; exact hxn
          infer_instance
          refine ix_l (d := .str w) b2.lst1 (by omega) (by rw [Int.toNat_natCast, List.getElem?_map, hwx]; rfl) ?_
          and_intros
          by_cases q1 : ea = w
          · rw [if_pos (by simp [q1])]
            by_cases q2 : eb = ("" : Str)
            · rw [if_pos (by simp [q2])]
              refine notInR_strS (l := xs ++ (G ++ G2)) b2.lst1 ?_
              and_intros
              by_cases q3 : ec ∈ xs ++ (G ++ G2)
              · rw [if_neg (by simp only [q3]; decide)]
                exact hN2 _ _ _ rfl ⟨_, _, _, G2, rfl, b2, g1, g2, skip fun h => h.2.2 q3⟩
              · rw [if_pos (by simp only [q3]; decide)]
                refine ⟨by rw [b2.lst1]; rfl, append_go b2.lst1 (by rw [List.length_map]; exact small_lt2 (by rw [List.length_append]; omega)) ?_⟩
                rw [show (xs ++ (G ++ G2)).map D.str ++ [D.str ec] = (xs ++ (G ++ (G2 ++ [ec]))).map D.str by simp]
                have hsl : Slips E (· ∈ xs) ec := .step (hF1 w (List.mem_of_getElem? hxn)) (by rw [← q1, ← q2]; exact hem)
                refine hN2 _ _ _ rfl ⟨_, _, _, G2 ++ [ec], rfl, b2.put1, ?_, fun z hz => ?_, fun e' he' r1 r2 => ?_⟩
                · rw [← List.append_assoc, List.nodup_append]
                  exact ⟨g1, by simp, fun a ha b hb => by rw [List.mem_singleton.mp hb]; rintro rfl; exact q3 (List.mem_append_right _ ha)⟩
                · rw [← List.append_assoc] at hz
                  rcases List.mem_append.mp hz with hz | hz
                  · exact g2 z hz
                  · rw [List.mem_singleton.mp hz]; exact ⟨hsl, ⟨_, hem, rfl⟩, fun h => q3 (List.mem_append_left _ h)⟩
                · rw [List.take_add_one, he] at he'
                  rcases List.mem_append.mp he' with he' | he'
                  · have := g3 e' he' r1 r2
                    simp only [List.mem_append] at this ⊢
                    rcases this with h | h | h
                    · exact .inl h
                    · exact .inr (.inl h)
                    · exact .inr (.inr (.inl h))
                  · obtain rfl : e' = (ea, eb, ec) := by simpa using he'
                    simp
            · rw [if_neg (by simp [q2])]
              exact hN2 _ _ _ rfl ⟨_, _, _, G2, rfl, b2, g1, g2, skip fun h => q2 h.2.1⟩
          · rw [if_neg (by simp [q1])]
            exact hN2 _ _ _ rfl ⟨_, _, _, G2, rfl, b2, g1, g2, skip fun h => q1 h.1⟩
        · obtain ⟨x4, x5, x6, G2, rfl, b2, g1, g2, g3⟩ := hI
          rw [List.length_map, List.take_length] at g3
          have hl2 := hGl g1 g2
          rw [← List.append_assoc] at b2
          infer_instance
          refine hN (xs.length + E.length - (n + 1)) _ _ _ (by omega) rfl ⟨n + 1, _, _, _, _, G ++ G2, rfl, by simp, by rw [List.append_assoc] at b2; exact b2, rfl, by simp at hlt ⊢; omega, g1, g2, fun x hx z he => ?_⟩
          rw [← List.append_assoc, List.take_append_of_le_length (by omega), List.take_add_one, hxn] at hx
          rcases List.mem_append.mp hx with hx | hx
          · have := h3 x hx z he
            simp only [List.mem_append] at this ⊢
            rcases this with h | h
            · exact .inl h
            · exact .inr (.inl h)
          · have : x = w := by simpa using hx
            exact g3 (x, ("" : Str), z) he this rfl
/-- where a mark leads from some states, slips behind it -/
def sp__law_on : DSp := fun ds M R => ∃ (E : List Ed) (F u : D) (h : List Str) (m : Str), ds = [.tup [.tup (E.map edD), F], u, .str m] ∧ (u = .lst (h.map .str) ∨ u = .tup (h.map .str)) ∧ E.length ≤ 1000 ∧ h.length ≤ 10000 ∧ ∀ zs : List Str, zs.length ≤ 2 * E.length → (∀ z, z ∈ zs ↔ Slips E (stepP E m (· ∈ h)) z) → R (.tup (zs.map .str)) M
theorem lon_go {M : Mm} {R : DQ} {E : List Ed} {F u : D} {h : List Str} {m : Str} (hu : u = .lst (h.map .str) ∨ u = .tup (h.map .str)) (h1 : E.length ≤ 1000) (h2 : h.length ≤ 10000) (k : ∀ zs : List Str, zs.length ≤ 2 * E.length → (∀ z, z ∈ zs ↔ Slips E (stepP E m (· ∈ h)) z) → R (.tup (zs.map .str)) M) : sp__law_on [.tup [.tup (E.map edD), F], u, .str m] M R := ⟨E, F, u, h, m, rfl, hu, h1, h2, k⟩
theorem ok__law_on {f__law_on f__law_slipped : Addr} {fd__law_on fd__law_slipped : FuncData} (F__law_on : Fun K "_law_on" "_law_on" st__law_on f__law_on fd__law_on) (G__law_slipped : FnOk P w K mg base CX0 1 f__law_slipped fd__law_slipped ["_law_machine_here", "_law_states_here"] (toSp K sp__law_slipped)) (g__law_slipped : mg "_law_slipped" = some (.ref f__law_slipped)) (k__law_slipped : PySem.W.keepIn K (.ref f__law_slipped) = true) (b__law_slipped : Binds K fd__law_slipped ["_law_machine_here", "_law_states_here"] []) (z_tuple : mg "tuple" = none) : FnOk P w K mg base CX0 2 f__law_on fd__law_on ["_law_machine_here", "_law_states_here", "_law_mark"] (toSp K sp__law_on) := by
  refine fn_ok (k := 1) F__law_on sc__law_on (fun ds M R h => ?_) (fun cdv A outer s H E hr => ⟨_, (jb_one (js_ret (je_tuple z_tuple (ja_cons (je_call G__law_slipped (hr.mono (by decide)) (by rfl) g__law_slipped k__law_slipped b__law_slipped (ja_cons (jv 0) (ja_cons (je_frz (jl_lc rfl sc__law_on.nd (jlc (ji_any (je_ix (jv 0) je_int)) (blkOk_by (own := [("_law_s", 3), ("_law_a", 4), ("_law_t", 5)]) (N := N__law_on) (sc := defScope st__law_on) (by decide +kernel)) (fun _ _ _ _ _ => (jgv_tup (n := 3) rfl (jgvs_cons (jgv_name (i := 3) sc__law_on.nd (by decide)) (jgvs_cons (jgv_name (i := 4) sc__law_on.nd (by decide)) (jgvs_cons (jgv_name (i := 5) sc__law_on.nd (by decide)) jgvs_nil))))) (fun _ _ _ _ _ => (jts_one (JW.jt (jw_and (jt_in hr (jv 3) (jv 1)) (jw_and1 (jt_eq hr (jv 4) (jv 2))))))) (fun _ _ _ _ _ => (jv 5))))) ja_nil))) ja_nil)))), fun ds M R h => ?_⟩)
  · unfold sp__law_on at h
    first | (obtain ⟨rfl, _⟩ := h; rfl) | (obtain ⟨_, rfl, _⟩ := h; rfl) | (obtain ⟨_, _, rfl, _⟩ := h; rfl) | (obtain ⟨_, _, _, rfl, _⟩ := h; rfl) | (obtain ⟨_, _, _, _, rfl, _⟩ := h; rfl) | (obtain ⟨_, _, _, _, _, rfl, _⟩ := h; rfl) | (obtain ⟨_, _, _, _, _, _, rfl, _⟩ := h; rfl) | (obtain ⟨_, _, _, _, _, _, _, rfl, _⟩ := h; rfl) | (obtain ⟨_, _, _, _, _, _, _, _, rfl, _⟩ := h; rfl) | (obtain ⟨_, _, _, _, _, _, _, _, _, rfl, _⟩ := h; rfl) | (obtain ⟨_, _, _, _, _, _, _, _, _, _, rfl, _⟩ := h; rfl) | (split at h <;> first | rfl | exact h.elim)
  · unfold sp__law_on at h
    obtain ⟨E, F, u, hs, m, rfl, hu, hE, hl, k⟩ := h
    simp_all only [N__law_on]
    and_intros
    refine lcW_filter (l := E) edD (fun e => decide (e.1 ∈ hs) && decide (e.2.1 = m)) (fun e => D.str e.2.2) (small_line2 (by omega)) trivial (fun e he N FF g1 g2 => ?_) ?_
    · simp only [edD]
      and_intros
      refine inR_strS (l := hs) (by rcases hu with rfl | rfl <;> rfl) ?_
      and_intros
      by_cases h1 : e.1 ∈ hs
      · rw [if_pos (by simpa using h1)]
        and_intros
        by_cases h2 : e.2.1 = m
        · rw [if_pos (by simpa using h2)]
          exact g1 (by simp [h1, h2])
        · rw [if_neg (by simpa using h2)]
          exact g2 (by simp [h1, h2])
      · rw [if_neg (by simpa using h1)]
        exact g2 (by simp [h1])
    rw [show (E.filter fun e => decide (e.1 ∈ hs) && decide (e.2.1 = m)).map (fun e => D.str e.2.2) = ((E.filter fun e => decide (e.1 ∈ hs) && decide (e.2.1 = m)).map (·.2.2)).map D.str by rw [List.map_map]; rfl]
    have hfl : ((E.filter fun e => decide (e.1 ∈ hs) && decide (e.2.1 = m)).map (·.2.2)).length ≤ E.length := by rw [List.length_map]; exact List.length_filter_le _ _
    and_intros
    refine lslipped_go (.inl rfl) (by omega) (by omega) fun zs hz hm => ?_
    and_intros
    refine Shr.all (k zs (by omega) fun z => (hm z).trans (Slips.congr (fun x => ?_) z))
    simp only [List.mem_map, List.mem_filter, Bool.and_eq_true, decide_eq_true_eq]
    constructor
    · rintro ⟨⟨a, b, c⟩, ⟨h1, h2, rfl⟩, rfl⟩
      exact ⟨a, h2, h1⟩
    · rintro ⟨y, h1, h2⟩
      exact ⟨_, ⟨h2, h1, rfl⟩, rfl⟩
theorem mem_filtK {W : List (St2 × (List Str × List Str))} {y : St2 × (List Str × List Str)} : y ∈ (W.filter neL).map toK ↔ y ∈ W.map toK ∧ y.2.1 ≠ [] := by
  simp only [List.mem_map, List.mem_filter]
  constructor
  · rintro ⟨w, ⟨h1, h2⟩, rfl⟩
    refine ⟨⟨w, h1, rfl⟩, fun e => ?_⟩
    have := neL_rise.mp (show rise w.2.1 = [] from e)
    unfold neL at h2
    rw [this] at h2; cases h2
  · rintro ⟨⟨w, h1, rfl⟩, h2⟩
    refine ⟨w, ⟨h1, ?_⟩, rfl⟩
    unfold neL
    cases c : w.2.1 with
    | nil => exact absurd (neL_rise.mpr c) h2
    | cons _ _ => rfl
theorem joinS_len {ws : List Str} {n : Nat} (h : ws.length ≤ n) (h2 : ∀ w ∈ ws, w.length ≤ 8) : (Txt.join (" " : Str) ws).length ≤ 9 * n := by
  rw [cps_len]
  cases ws with
  | nil => rw [show cps (Txt.join (" " : Str) []) = [] from by decide +kernel]; simp
  | cons w ws =>
    rw [cps_joinS, List.length_append]
    have h3 : ((ws.flatMap fun w => cps (" " : Str) ++ cps w)).length ≤ 9 * ws.length := fm_len2 (k := 9) fun x hx => by
      have := h2 x (by simp [hx])
      rw [cps_len] at this
      rw [List.length_append, cps_sp, List.length_singleton]; omega
    have h4 := h2 w (by simp)
    rw [cps_len] at h4
    rw [List.length_cons] at h
    omega
noncomputable def stepK (E E2 : List Ed) (y : St2 × (List Str × List Str)) (m : Str) : St2 × (List Str × List Str) := ((y.1.1, y.1.2 ++ [m]), (onS E y.2.1 m, onS E2 y.2.2 m))
def nmK (k : List Str × List Str) : Str := nmT k.1 k.2
def ItO (S S2 : List Str) (x : St2 × (List Str × List Str)) : Prop := x.2.1.length ≤ 2001 ∧ x.2.2.length ≤ 2001 ∧ KnL S S2 (toK x).2
--KD _law_met
/-- the first stand that the one machine holds and the other one doesn't -/
def sp__law_first : DSp := fun ds M R => ∃ (n n2 : Nat) (S S2 : List Str) (E E2 : List Ed) (F F2 ms : List Str), ds = [.tup [.tup (E.map edD), .tup (F.map .str)], .tup [.tup (E2.map edD), .tup (F2.map .str)], .lst (ms.map .str)] ∧ GdM n S E F ∧ GdM n2 S2 E2 F2 ∧ n ≤ 1000 ∧ n2 ≤ 1000 ∧ ms.length ≤ 10 ∧ 2 ^ S.length * 2 ^ S2.length ≤ 500000 ∧ (∀ z, stsOf E F z → digB z = false → z ∈ S2) ∧ (∀ e ∈ E, e.2.1 ∈ ms ∨ e.2.1 = ("" : Str)) ∧ (∀ m ∈ ms, m ≠ ("" : Str)) ∧
  ∀ o : Option St2, FirstM E F E2 F2 o → (∀ s, o = some s → s.2.length ≤ 500000) → R (optD o) M
theorem lfirst_go {M : Mm} {R : DQ} {n n2 : Nat} {S S2 : List Str} {E E2 : List Ed} {F F2 ms : List Str} (h1 : GdM n S E F) (h2 : GdM n2 S2 E2 F2) (h3 : n ≤ 1000) (h4 : n2 ≤ 1000) (h5 : ms.length ≤ 10) (h7 : 2 ^ S.length * 2 ^ S2.length ≤ 500000) (h9 : ∀ z, stsOf E F z → digB z = false → z ∈ S2) (h10 : ∀ e ∈ E, e.2.1 ∈ ms ∨ e.2.1 = ("" : Str)) (h11 : ∀ m ∈ ms, m ≠ ("" : Str)) (k : ∀ o : Option St2, FirstM E F E2 F2 o → (∀ s, o = some s → s.2.length ≤ 500000) → R (optD o) M) :
    sp__law_first [.tup [.tup (E.map edD), .tup (F.map .str)], .tup [.tup (E2.map edD), .tup (F2.map .str)], .lst (ms.map .str)] M R := ⟨n, n2, S, S2, E, E2, F, F2, ms, rfl, h1, h2, h3, h4, h5, h7, h9, h10, h11, k⟩
theorem ok__law_first {f__law_first f__law_places f__law_slipped f__law_ends f__law_on : Addr} {fd__law_first fd__law_places fd__law_slipped fd__law_ends fd__law_on : FuncData} (F__law_first : Fun K "_law_first" "_law_first" st__law_first f__law_first fd__law_first) (G__law_places : FnOk P w K mg base CX0 2 f__law_places fd__law_places ["_law_machine_here"] (toSp K sp__law_places)) (g__law_places : mg "_law_places" = some (.ref f__law_places)) (k__law_places : PySem.W.keepIn K (.ref f__law_places) = true) (b__law_places : Binds K fd__law_places ["_law_machine_here"] []) (G__law_slipped : FnOk P w K mg base CX0 1 f__law_slipped fd__law_slipped ["_law_machine_here", "_law_states_here"] (toSp K sp__law_slipped)) (g__law_slipped : mg "_law_slipped" = some (.ref f__law_slipped)) (k__law_slipped : PySem.W.keepIn K (.ref f__law_slipped) = true) (b__law_slipped : Binds K fd__law_slipped ["_law_machine_here", "_law_states_here"] []) (G__law_ends : FnOk P w K mg base CX0 1 f__law_ends fd__law_ends ["_law_machine_here", "_law_states_here"] (toSp K sp__law_ends)) (g__law_ends : mg "_law_ends" = some (.ref f__law_ends)) (k__law_ends : PySem.W.keepIn K (.ref f__law_ends) = true) (b__law_ends : Binds K fd__law_ends ["_law_machine_here", "_law_states_here"] []) (G__law_on : FnOk P w K mg base CX0 2 f__law_on fd__law_on ["_law_machine_here", "_law_states_here", "_law_mark"] (toSp K sp__law_on)) (g__law_on : mg "_law_on" = some (.ref f__law_on)) (k__law_on : PySem.W.keepIn K (.ref f__law_on) = true) (b__law_on : Binds K fd__law_on ["_law_machine_here", "_law_states_here", "_law_mark"] []) (z_tuple : mg "tuple" = none) (z_sorted : mg "sorted" = none) (z_set : mg "set" = none) : FnOk P w K mg base CX0 3 f__law_first fd__law_first ["_law_one", "_law_other", "_law_marks"] (toSp K sp__law_first) := by
  refine fn_ok (k := 2) F__law_first sc__law_first (fun ds M R h => ?_) (fun cdv A outer s H E hr => ⟨_, (jb_cons (js_set (i := 3) sc__law_first.nd (je_fresh (jl_disp ja_nil)))
      (jb_cons (js_for PassesOwn.never rfl (ji_any (je_call G__law_places (hr.mono (by decide)) (by rfl) g__law_places k__law_places b__law_places (ja_cons (jv 0) ja_nil))) (jg_name (i := 4) sc__law_first.nd) (jb_one (js_expr (je_append (jv 3) (je_tup (ja_cons (jv 4) (ja_cons (je_tup ja_nil) (ja_cons (je_tuple z_tuple (ja_cons (je_call G__law_slipped (hr.mono (by decide)) (by rfl) g__law_slipped k__law_slipped b__law_slipped (ja_cons (jv 0) (ja_cons (je_frz (jl_disp (ja_cons (jv 4) ja_nil))) ja_nil))) ja_nil)) (ja_cons (je_tuple z_tuple (ja_cons (je_call G__law_slipped (hr.mono (by decide)) (by rfl) g__law_slipped k__law_slipped b__law_slipped (ja_cons (jv 1) (ja_cons (je_frz (jl_disp (ja_cons (jv 4) ja_nil))) ja_nil))) ja_nil)) ja_nil)))))))))
      (jb_cons (js_set (i := 5) sc__law_first.nd (je_freshD jd_empty))
      (jb_cons (js_while PassesOwn.never (jt_ne hr (jv 3) (je_frz (jl_disp ja_nil))) (jb_cons (js_set (i := 6) sc__law_first.nd (je_fresh (jl_disp ja_nil))) (jb_cons (js_for PassesOwn.never rfl (ji_any (je_frz (jl_sorted hr z_sorted (ja_cons (jv 3) ja_nil)))) (jg_tup (n := 4) rfl (jgs_cons (jg_name (i := 4) sc__law_first.nd) (jgs_cons (jg_name (i := 7) sc__law_first.nd) (jgs_cons (jg_name (i := 8) sc__law_first.nd) (jgs_cons (jg_name (i := 9) sc__law_first.nd) jgs_nil))))) (jb_cons (js_set (i := 10) sc__law_first.nd (je_add (je_add (je_join je_str (je_frz (jl_sortSet rfl hr z_sorted z_set (jv 8)))) je_str) (je_join je_str (je_frz (jl_sortSet rfl hr z_sorted z_set (jv 9)))))) (jb_one (js_if (JW.jt (jw_and (jt_ne hr (jv 8) (je_tup ja_nil)) (jw_and1 (jt_notin hr (jv 10) (jv 5))))) (jb_cons (js_dput hr (jv 5) (jv 10) je_bl) (jb_one (js_expr (je_append (jv 6) (je_tup (ja_cons (jv 4) (ja_cons (jv 7) (ja_cons (jv 8) (ja_cons (jv 9) ja_nil))))))))) jb_nil)))) (jb_cons (js_for PassesOwn.never rfl (ji_any (jv 6)) (jg_tup (n := 4) rfl (jgs_cons (jg_name (i := 4) sc__law_first.nd) (jgs_cons (jg_name (i := 7) sc__law_first.nd) (jgs_cons (jg_name (i := 8) sc__law_first.nd) (jgs_cons (jg_name (i := 9) sc__law_first.nd) jgs_nil))))) (jb_one (js_if (JW.jt (jw_and (jt_val (je_call G__law_ends (hr.mono (by decide)) (by rfl) g__law_ends k__law_ends b__law_ends (ja_cons (jv 0) (ja_cons (jv 8) ja_nil)))) (jw_and1 (jt_not (jt_val (je_call G__law_ends (hr.mono (by decide)) (by rfl) g__law_ends k__law_ends b__law_ends (ja_cons (jv 1) (ja_cons (jv 9) ja_nil)))))))) (jb_one (js_ret (je_tup (ja_cons (jv 4) (ja_cons (jv 7) ja_nil))))) jb_nil))) (jb_cons (js_set (i := 3) sc__law_first.nd (je_fresh (jl_disp ja_nil))) (jb_one (js_for PassesOwn.never rfl (ji_any (jv 6)) (jg_tup (n := 4) rfl (jgs_cons (jg_name (i := 4) sc__law_first.nd) (jgs_cons (jg_name (i := 7) sc__law_first.nd) (jgs_cons (jg_name (i := 8) sc__law_first.nd) (jgs_cons (jg_name (i := 9) sc__law_first.nd) jgs_nil))))) (jb_one (js_for PassesOwn.never rfl (ji_any (jv 2)) (jg_name (i := 11) sc__law_first.nd) (jb_one (js_expr (je_append (jv 3) (je_tup (ja_cons (jv 4) (ja_cons (je_add (jv 7) (je_tup (ja_cons (jv 11) ja_nil))) (ja_cons (je_call G__law_on (hr.mono (by decide)) (by rfl) g__law_on k__law_on b__law_on (ja_cons (jv 0) (ja_cons (jv 8) (ja_cons (jv 11) ja_nil)))) (ja_cons (je_call G__law_on (hr.mono (by decide)) (by rfl) g__law_on k__law_on b__law_on (ja_cons (jv 1) (ja_cons (jv 9) (ja_cons (jv 11) ja_nil)))) ja_nil)))))))))))))))))
      (jb_one (js_ret je_non)))))), fun ds M R h => ?_⟩)
  · unfold sp__law_first at h
    first | (obtain ⟨rfl, _⟩ := h; rfl) | (obtain ⟨_, rfl, _⟩ := h; rfl) | (obtain ⟨_, _, rfl, _⟩ := h; rfl) | (obtain ⟨_, _, _, rfl, _⟩ := h; rfl) | (obtain ⟨_, _, _, _, rfl, _⟩ := h; rfl) | (obtain ⟨_, _, _, _, _, rfl, _⟩ := h; rfl) | (obtain ⟨_, _, _, _, _, _, rfl, _⟩ := h; rfl) | (obtain ⟨_, _, _, _, _, _, _, rfl, _⟩ := h; rfl) | (obtain ⟨_, _, _, _, _, _, _, _, rfl, _⟩ := h; rfl) | (obtain ⟨_, _, _, _, _, _, _, _, _, rfl, _⟩ := h; rfl) | (obtain ⟨_, _, _, _, _, _, _, _, _, _, rfl, _⟩ := h; rfl) | (split at h <;> first | rfl | exact h.elim)
  · unfold sp__law_first at h
    obtain ⟨n, n2, S, S2, E, E2, F, F2, ms, rfl, g, g2, hn, hn2, hms, hU, hpS, hem, hm0, k⟩ := h
    have hE : E.length ≤ 1000 := Nat.le_trans g.el hn
    have hE2 : E2.length ≤ 1000 := Nat.le_trans g2.el hn2
    have hw := machB_wds g.mb
    have hw2 := machB_wds g2.mb
    have hzl : ∀ z, stsOf E F z → z.length ≤ 1000 := fun z h => Nat.le_trans (g.sa z (g.st z h)).2 (by decide)
    have hSl : S.length ≤ 19 := by
      by_cases c : S.length ≤ 19
      · exact c
      · exfalso
        have h1 : 2 ^ 20 ≤ 2 ^ S.length := Nat.pow_le_pow_right (by decide) (by omega)
        have h2 : 2 ^ S.length ≤ 2 ^ S.length * 2 ^ S2.length := Nat.le_mul_of_pos_right _ (Nat.pow_pos (by decide))
        have h3 : 2 ^ 20 = 1048576 := by decide
        omega
    have hF := g.fl
    simp_all only [N__law_first]
    infer_instance
    intro pr hpr
    have b0 := (Px.start (M := M)).new (o := .lst []) hpr
    infer_instance
    refine lplaces_go hE (by omega) (fun z h => ⟨hw.st h, hzl z h⟩) fun ps hps hpm hpl => ?_
    have hit0 : ∀ {p us vs}, stsOf E F p → digB p = false → (∀ z, z ∈ us ↔ Slips E (· ∈ [p]) z) → (∀ z, z ∈ vs ↔ Slips E2 (· ∈ [p]) z) → toK ((p, []), (us, vs)) = ((p, []), (slS E [p], slS E2 [p])) ∧ KnL S S2 (slS E [p], slS E2 [p]) ∧ us ≠ [] := fun {p us vs} h1 h2 hu hv => by
      refine ⟨?_, ⟨⟨slS_ris, fun y hy => ?_⟩, slS_ris, fun y hy => ?_⟩, fun e => ?_⟩
      · unfold toK
        rw [slS_is (rise_ris us) fun z => rise_mem.trans (hu z), slS_is (rise_ris vs) fun z => rise_mem.trans (hv z)]
      · rcases slS_from hy with h3 | ⟨e, he, rfl⟩
        · rw [List.mem_singleton.mp h3]; exact ⟨hw.st h1, g.st _ h1⟩
        · exact ⟨(hw.ed e he).2.2, g.st _ (.inl ⟨e, he, .inr rfl⟩)⟩
      · rcases slS_from hy with h3 | ⟨e, he, rfl⟩
        · rw [List.mem_singleton.mp h3]; exact ⟨hw.st h1, hpS p h1 h2⟩
        · exact ⟨(hw2.ed e he).2.2, g2.st _ (.inl ⟨e, he, .inr rfl⟩)⟩
      · have := (hu p).mpr (.base (by simp))
        rw [e] at this; cases this
    refine forS [4] (fun i vs M2 => ∃ x4, ∃ W : List (St2 × (List Str × List Str)), vs = [x4] ∧ Px M [(pr, .lst (W.map itQ))] M2 ∧ W.length ≤ i ∧ (∀ x ∈ W, x.2.1.length ≤ 2001 ∧ x.2.2.length ≤ 2001 ∧ x.2.1 ≠ []) ∧ ∀ x, x ∈ W.map toK ↔ ∃ p ∈ ps.take i, x = ((p, []), (slS E [p], slS E2 [p]))) (fun _ _ _ _ => trivial) (fun i x N e hN vs M2 hI => ?_) (fun vs M2 hI => ?_) ⟨_, [], rfl, b0, by simp, by simp, by simp⟩
    · obtain ⟨x4, W, rfl, b, hWl, hWs, hWm⟩ := hI
      rw [List.getElem?_map] at e
      obtain ⟨p, hp, rfl⟩ := Option.map_eq_some_iff.mp e
      have hi := (List.getElem?_eq_some_iff.mp hp).1
      have hpp := (hpm p).mp (List.mem_of_getElem? hp)
      infer_instance
      refine ⟨by rw [b.lst1]; rfl, ?_⟩
      refine lslipped_go (xs := [p]) (.inl rfl) (by omega) (by simp) fun us hul hum => ?_
      infer_instance
      refine lslipped_go (xs := [p]) (.inl rfl) (by omega) (by simp) fun vs hvl hvm => ?_
      infer_instance
      obtain ⟨h1, h2, h3⟩ := hit0 hpp.1 hpp.2 hum hvm
      refine append_go b.lst1 (by rw [List.length_map]; exact small_lt2 (by omega)) ?_
      have b2 := b.put1 (o' := .lst ((W ++ [((p, []), (us, vs))]).map itQ))
      rw [List.map_append] at b2
      refine hN _ _ _ rfl ⟨_, W ++ [((p, []), (us, vs))], rfl, by rw [List.map_append]; exact b2, by rw [List.length_append]; simp; omega, fun x hx => ?_, fun x => ?_⟩
      · rcases List.mem_append.mp hx with hx | hx
        · exact hWs x hx
        · rw [List.mem_singleton.mp hx]
          exact ⟨by simp at hul; show us.length ≤ _; omega, by simp at hvl; show vs.length ≤ _; omega, h3⟩
      · rw [List.map_append, List.mem_append, hWm, List.map_singleton, List.mem_singleton, h1, List.take_add_one, hp, Option.toList_some]
        constructor
        · rintro (⟨q, hq, e⟩ | e)
          · exact ⟨q, List.mem_append_left _ hq, e⟩
          · exact ⟨p, by simp, e⟩
        · rintro ⟨q, hq, e⟩
          rcases List.mem_append.mp hq with hq | hq
          · exact .inl ⟨q, hq, e⟩
          · rw [List.mem_singleton.mp hq] at e; exact .inr e
    · obtain ⟨x4, W, rfl, b, hWl, hWs, hWm⟩ := hI
      rw [List.length_map, List.take_length] at hWm
      rw [List.length_map] at hWl
      infer_instance
      intro pm hpm2
      have hst : LvI (srchL E F E2 F2) 0 ((W.filter neL).map toK) [] := startL fun x => by
        rw [mem_filtK, hWm]
        constructor
        · rintro ⟨⟨p, hp, e⟩, _⟩
          exact ⟨p, ((hpm p).mp hp).1, ((hpm p).mp hp).2, e⟩
        · rintro ⟨p, h1, h2, e⟩
          refine ⟨⟨p, (hpm p).mpr ⟨h1, h2⟩, e⟩, fun e2 => ?_⟩
          rw [e] at e2
          have : p ∈ slS E [p] := slS_mem.mpr (.base (by simp))
          rw [show slS E [p] = [] from e2] at this; cases this
      have hIt0 : ∀ x ∈ W, ItO S S2 x := fun x hx => by
        obtain ⟨h1, h2, _⟩ := hWs x hx
        obtain ⟨p, hp, e⟩ := (hWm (toK x)).mp (List.mem_map.mpr ⟨x, hx, rfl⟩)
        refine ⟨h1, h2, ?_⟩
        rw [e]
        exact (hit0 (us := slS E [p]) (vs := slS E2 [p]) ((hpm p).mp hp).1 ((hpm p).mp hp).2 (fun z => slS_mem) (fun z => slS_mem)).2.1
      have hKU : ∀ K : List (List Str × List Str), K.Nodup → (∀ k ∈ K, KnL S S2 k) → K.length ≤ 2 ^ S.length * 2 ^ S2.length := fun K h1 h2 => Nat.le_trans (sub_len h1 fun r hr => setsU_mem (h2 r hr)) setsU_len
      have b1 : Px M [(pm, .dic (txD (([] : List (List Str × List Str)).map nmK)))] (mup M2 pm (.dic [])) := (b.drop1.new hpm2)
      have hlA : lstOf (mup M2 pm (.dic [])) pr = some (W.map itQ) := (b.new (o := .dic []) hpm2).lst2
      generalize mup M2 pm (.dic []) = M3 at b1 hlA
      infer_instance
      refine whileS [3, 4, 6, 7, 8, 9, 10, 11] (fun mz vs M' => ∃ x4 x6 x7 x8 x9 x10 x11, ∃ q : Addr, ∃ lv : Nat, ∃ W : List (St2 × (List Str × List Str)), ∃ met : List (List Str × List Str), vs = [some (.ref q), x4, x6, x7, x8, x9, x10, x11] ∧ lstOf M' q = some (W.map itQ) ∧ Px M [(pm, .dic (txD (met.map nmK)))] M' ∧ mz = 2 * (2 ^ S.length * 2 ^ S2.length - met.length) + W.length.min 1 ∧ LvI (srchL E F E2 F2) lv ((W.filter neL).map toK) met ∧ met.Nodup ∧ (∀ k ∈ met, KnL S S2 k) ∧ (∀ x ∈ W, ItO S S2 x) ∧ W.length ≤ 5000000 ∧ (W ≠ [] → lv ≤ met.length)) (2 * (2 ^ S.length * 2 ^ S2.length) + W.length.min 1) (fun mz N hN vs M' hI => ?_) ⟨_, _, _, _, _, _, _, pr, 0, W, [], rfl, hlA, b1, by simp, hst, List.nodup_nil, by simp, hIt0, by omega, fun _ => Nat.zero_le _⟩
      obtain ⟨x4, x6, x7, x8, x9, x10, x11, q, lv, W, met, rfl, hq, bw, hmz, hL, hmn, hmk, hrk, hrl, hlv⟩ := hI
      have hml2 := hKU met hmn hmk
      have pI : pureDs (W.map itQ) = true ∧ depDs (W.map itQ) ≤ 99 := ⟨pureDs_map itQ pure_itQ W, Nat.le_trans (depDs_map itQ 6 (by decide) dep_itQ W) (by decide)⟩
      infer_instance
      refine ne_nil_l hq pI.1 pI.2 ?_
      rw [List.isEmpty_map]
      infer_instance
      by_cases hr0 : W = []
      · subst hr0
        rw [if_neg (by decide)]
        infer_instance
        exact bw.fin (k none (fun s => hL.none s) (fun s e => by cases e))
      · rw [if_pos (by cases W with | nil => exact absurd rfl hr0 | cons _ _ => rfl)]
        have hr1 : W.length.min 1 = 1 := by
          have := List.length_pos_iff.mpr hr0
          show min W.length 1 = 1
          omega
        have hlv := hlv hr0
        infer_instance
        intro pf hpf
        have bf := bw.new (o := .lst []) hpf
        have hq2 : lstOf (mup M' pf (.lst [])) q = some (W.map itQ) := lstOf_sub (Sub.mup hpf) hq
        generalize mup M' pf (.lst []) = M4 at bf hq2
        infer_instance
        rw [hq2, someI_s, sortD_itQ]
        refine ⟨sortOk_itQ, ?_⟩
        refine forS [4, 7, 8, 9, 10] (fun i vs M5 => ∃ x4 x7 x8 x9 x10, ∃ fr : List (St2 × (List Str × List Str)), vs = [x4, x7, x8, x9, x10] ∧ Px M [(pf, .lst (fr.map itQ)), (pm, .dic (txD ((met ++ (fr.map toK).map (·.2)).map nmK)))] M5 ∧ FrI ((((sortQ W).take i).filter neL).map toK) met (fr.map toK) ∧ (met ++ (fr.map toK).map (·.2)).Nodup ∧ ∀ x ∈ fr, x ∈ W) (fun _ _ _ _ => trivial) (fun i x N2 e hN2 vs M5 hI => ?_) (fun vs M5 hI => ?_) ⟨_, _, _, _, _, [], rfl, by simpa using bf, ⟨by simp, by simp, by simp⟩, by simpa using hmn, by simp⟩
        · obtain ⟨x4, x7, x8, x9, x10, fr, rfl, b5, hfr, hnd, hfW⟩ := hI
          rw [List.getElem?_map] at e
          obtain ⟨x, hx, rfl⟩ := Option.map_eq_some_iff.mp e
          have hxr := sortQ_mem.mp (List.mem_of_getElem? hx)
          have hkx := hrk x hxr
          obtain ⟨s1, s2, s3⟩ := fresh_stepQ hx hfr
          have hkf : ∀ k ∈ met ++ (fr.map toK).map (·.2), KnL S S2 k := fun k hk => by
            rcases List.mem_append.mp hk with h | h
            · exact hmk k h
            · obtain ⟨y, hy, rfl⟩ := List.mem_map.mp h
              obtain ⟨z, hz, rfl⟩ := List.mem_map.mp hy
              exact (hrk z (hfW z hz)).2.2
          have hml3 := hKU _ hnd hkf
          simp only [itQ]
          infer_instance
          refine sortSet_go (l := x.2.1) rfl (by have := hkx.1; omega) ?_
          have e1 : (" " : Str).length = 1 := by decide
          have e2 : ("|" : Str).length = 1 := by decide
          have z3 : ∀ y ∈ rise x.2.1, y.length ≤ 8 := fun y hy => (g.sa y (hkx.2.2.1.2 y hy).2).2
          have z4 : ∀ y ∈ rise x.2.2, y.length ≤ 8 := fun y hy => (g2.sa y (hkx.2.2.2.2 y hy).2).2
          have z1 : (rise x.2.1).length ≤ 2001 := Nat.le_trans (rise_len _) hkx.1
          have z2 : (rise x.2.2).length ≤ 2001 := Nat.le_trans (rise_len _) hkx.2.1
          infer_instance
          refine join_go (ws := rise x.2.1) (k := 8) rfl z3 (by rw [e1]; omega) ?_
          have j1 := joinS_len z1 z3
          have j2 := joinS_len z2 z4
          infer_instance
          refine sortSet_go (l := x.2.2) rfl (by have := hkx.2.1; omega) ?_
          infer_instance
          refine join_go (ws := rise x.2.2) (k := 8) rfl z4 (by rw [e1]; omega) ?_
          infer_instance
          refine ⟨small_line2 (by rw [strLen_append, e2]; omega), ?_⟩
          rw [show Txt.join (" " : Str) (rise x.2.1) ++ ("|" : Str) ++ Txt.join (" " : Str) (rise x.2.2) = nmT (rise x.2.1) (rise x.2.2) from rfl]
          have hmn2 : nmT (rise x.2.1) (rise x.2.2) ∈ (met ++ (fr.map toK).map (·.2)).map nmK ↔ (toK x).2 ∈ met ++ (fr.map toK).map (·.2) := by
            constructor
            · intro h
              obtain ⟨k, hk, e⟩ := List.mem_map.mp h
              rw [← (hkf k hk).inj hkx.2.2 e]; exact hk
            · intro h
              exact List.mem_map.mpr ⟨_, h, rfl⟩
          infer_instance
          rw [List.isEmpty_map]
          cases hne : neL x with
          | false =>
            rw [if_neg (by rw [show (!x.2.1.isEmpty) = neL x from rfl, hne]; decide)]
            exact hN2 _ _ _ rfl ⟨_, _, _, _, _, fr, rfl, b5, s1 hne, hnd, hfW⟩
          | true =>
            rw [if_pos (by rw [show (!x.2.1.isEmpty) = neL x from rfl, hne])]
            refine notin_dic b5.dic2 ?_
            rw [val_tx]
            infer_instance
            by_cases c : (toK x).2 ∈ met ++ (fr.map toK).map (·.2)
            · rw [if_neg (by simp only [hmn2, c]; decide)]
              exact hN2 _ _ _ rfl ⟨_, _, _, _, _, fr, rfl, b5, s2 hne c, hnd, hfW⟩
            · rw [if_pos (by simp only [hmn2, c]; decide)]
              infer_instance
              rw [b5.dic2]
              refine ⟨by rw [txD_len, List.length_map]; exact small_lt2 (by omega), ?_⟩
              rw [put_tx, show insS ((met ++ (fr.map toK).map (·.2)).map nmK) (nmT (rise x.2.1) (rise x.2.2)) = (met ++ ((fr ++ [x]).map toK).map (·.2)).map nmK by
                unfold insS
                rw [if_neg (fun h => c (hmn2.mp h)), List.map_append (l₂ := [x]), List.map_append (l₂ := List.map toK [x]), ← List.append_assoc, List.map_append (l₂ := List.map _ (List.map toK [x]))]
                rfl]
              have b6 := b5.put2 (o' := .dic (txD ((met ++ ((fr ++ [x]).map toK).map (·.2)).map nmK)))
              infer_instance
              refine ⟨by rw [b6.lst1]; rfl, ?_⟩
              have hfl : fr.length ≤ 500000 := by
                rw [List.length_append, List.length_map, List.length_map] at hml3; omega
              refine append_go b6.lst1 (by rw [List.length_map]; exact small_lt2 (by omega)) ?_
              have b7 := b6.put1 (o' := .lst ((fr ++ [x]).map itQ))
              rw [List.map_append (l₁ := fr) (f := itQ)] at b7
              refine hN2 _ _ _ rfl ⟨_, _, _, _, _, fr ++ [x], rfl, by rw [List.map_append (l₁ := fr) (f := itQ)]; exact b7, s3 hne c, ?_, fun y hy => (List.mem_append.mp hy).elim (hfW y) fun h => by rw [List.mem_singleton.mp h]; exact hxr⟩
              rw [List.map_append, List.map_append, ← List.append_assoc, List.nodup_append]
              exact ⟨hnd, by simp, fun a ha b hb e => c (by rw [show b = (toK x).2 by simpa using hb] at e; exact e ▸ ha)⟩
        · obtain ⟨x4, x7, x8, x9, x10, fr, rfl, b5, hfr, hnd, hfW⟩ := hI
          rw [List.length_map, List.take_length] at hfr
          have hfr2 : FrI ((W.filter neL).map toK) met (fr.map toK) := by
            have hms2 : ∀ y, y ∈ ((sortQ W).filter neL).map toK ↔ y ∈ (W.filter neL).map toK := fun y => by simp only [List.mem_map, List.mem_filter, sortQ_mem]
            exact ⟨fun y hy => (hms2 y).mp (hfr.sub y hy), fun x hx => hfr.al x ((hms2 x).mpr hx), hfr.pw⟩
          have hkf : ∀ k ∈ met ++ (fr.map toK).map (·.2), KnL S S2 k := fun k hk => by
            rcases List.mem_append.mp hk with h | h
            · exact hmk k h
            · obtain ⟨y, hy, rfl⟩ := List.mem_map.mp h
              obtain ⟨z, hz, rfl⟩ := List.mem_map.mp hy
              exact (hrk z (hfW z hz)).2.2
          have hml3 := hKU _ hnd hkf
          rw [List.length_append, List.length_map, List.length_map] at hml3
          have hpart : ∀ y : St2 × (List Str × List Str), (srchL E F E2 F2).Acc (toK y).2 [] ↔ ((y.2.1.any fun z => decide (z ∈ F)) && !(y.2.2.any fun z => decide (z ∈ F2))) = true := fun y => by
            rw [Bool.and_eq_true, Bool.not_eq_true', List.any_eq_false, List.any_eq_true]
            constructor
            · rintro ⟨_, ⟨z, h1, h2⟩, h3⟩
              exact ⟨⟨z, rise_mem.mp h1, decide_eq_true h2⟩, fun z hz => by simpa using fun h => h3 ⟨z, rise_mem.mpr hz, h⟩⟩
            · rintro ⟨⟨z, h1, h2⟩, h3⟩
              exact ⟨by simp, ⟨z, rise_mem.mpr h1, of_decide_eq_true h2⟩, fun ⟨z, hz, h⟩ => by have := h3 z (rise_mem.mp hz); simp [h] at this⟩
          infer_instance
          rw [b5.lst1]
          infer_instance
          refine forS [4, 7, 8, 9] (fun i vs M6 => ∃ x4 x7 x8 x9, vs = [x4, x7, x8, x9] ∧ M6 = M5 ∧ ∀ y ∈ (fr.map toK).take i, ¬ (srchL E F E2 F2).Acc y.2 []) (fun _ _ _ hI => by obtain ⟨_, _, _, _, _, rfl, _⟩ := hI; exact b5.lst1) (fun i x N2 e hN2 vs M6 hI => ?_) (fun vs M6 hI => ?_) ⟨_, _, _, _, rfl, rfl, by simp⟩
          · obtain ⟨x4, x7, x8, x9, rfl, rfl, hnp⟩ := hI
            rw [List.getElem?_map] at e
            obtain ⟨x, hx, rfl⟩ := Option.map_eq_some_iff.mp e
            have hxW := hfW x (List.mem_of_getElem? hx)
            have hkx := hrk x hxW
            have hx2 : (fr.map toK)[i]? = some (toK x) := by rw [List.getElem?_map, hx]; rfl
            have hxr := hfr2.sub _ (List.mem_of_getElem? hx2)
            have hnon : ((x.2.1.any fun z => decide (z ∈ F)) && !(x.2.2.any fun z => decide (z ∈ F2))) = false → N2 [some (.tup [.tup (E.map edD), .tup (F.map .str)]), some (.tup [.tup (E2.map edD), .tup (F2.map .str)]), some (.lst (ms.map .str)), some (.ref q), some (.str x.1.1), some (.ref pm), some (.ref pf), some (.tup (x.1.2.map .str)), some (.tup (x.2.1.map .str)), some (.tup (x.2.2.map .str)), x10, x11] M6 := fun hpb => by
              refine hN2 _ _ _ rfl ⟨_, _, _, _, rfl, rfl, fun y hy => ?_⟩
              rw [List.take_add_one, hx2, Option.toList_some] at hy
              rcases List.mem_append.mp hy with hy | hy
              · exact hnp y hy
              · rw [List.mem_singleton.mp hy, hpart, hpb]; decide
            simp only [itQ]
            and_intros
            refine lends_go (by have := hkx.1; omega) ?_
            and_intros
            cases hp1 : (x.2.1.any fun z => decide (z ∈ F)) with
            | false =>
              and_intros
              exact hnon (by rw [hp1]; rfl)
            | true =>
              and_intros
              refine lends_go (by have := hkx.2.1; omega) ?_
              and_intros
              cases hp2 : (x.2.2.any fun z => decide (z ∈ F2)) with
              | true =>
                and_intros
                exact hnon (by rw [hp2, Bool.not_true, Bool.and_false])
              | false =>
                and_intros
                have hf := hL.found hfr2 hx2 ((hpart x).mpr (by rw [hp1, hp2]; rfl)) hnp
                refine Shr.of (k (some x.1) hf (fun s e => ?_)) b5.ex
                cases e
                have := (hL.it _ hxr).2
                rw [show x.1.2.length = lv from this]; omega
          · obtain ⟨x4, x7, x8, x9, rfl, rfl, hnp⟩ := hI
            rw [List.length_map, ← List.length_map (f := toK), List.take_length] at hnp
            infer_instance
            intro pq hpq
            have b7 := b5.new (o := .lst []) hpq
            generalize mup M6 pq (.lst []) = M7 at b7
            have hfl : fr.length ≤ 500000 := by omega
            infer_instance
            rw [b7.lst2]
            infer_instance
            have hstep : ∀ {x m}, x ∈ W → m ∈ ms → ∀ zs zs2 : List Str, (∀ z, z ∈ zs ↔ Slips E (stepP E m (· ∈ x.2.1)) z) → (∀ z, z ∈ zs2 ↔ Slips E2 (stepP E2 m (· ∈ x.2.2)) z) → toK ((x.1.1, x.1.2 ++ [m]), (zs, zs2)) = stepK E E2 (toK x) m ∧ KnL S S2 (toK ((x.1.1, x.1.2 ++ [m]), (zs, zs2))).2 := fun {x m} hx hm zs zs2 h1 h2 => by
              have e1 : rise zs = onS E (rise x.2.1) m := (onS_is (rise_ris _) fun z => rise_mem.trans (h1 z)).trans (onS_congr fun z => rise_mem.symm)
              have e2 : rise zs2 = onS E2 (rise x.2.2) m := (onS_is (rise_ris _) fun z => rise_mem.trans (h2 z)).trans (onS_congr fun z => rise_mem.symm)
              refine ⟨?_, ?_⟩
              · unfold toK stepK
                rw [e1, e2]
              · show KnL S S2 (rise zs, rise zs2)
                rw [e1, e2]
                refine ⟨⟨onS_ris, fun y hy => ?_⟩, onS_ris, fun y hy => ?_⟩
                · obtain ⟨e, he, rfl⟩ := onS_from hy
                  exact ⟨(hw.ed e he).2.2, g.st _ (.inl ⟨e, he, .inr rfl⟩)⟩
                · obtain ⟨e, he, rfl⟩ := onS_from hy
                  exact ⟨(hw2.ed e he).2.2, g2.st _ (.inl ⟨e, he, .inr rfl⟩)⟩
            refine forS [4, 7, 8, 9, 11] (fun i vs M8 => ∃ x4 x7 x8 x9 x11, ∃ W2 : List (St2 × (List Str × List Str)), vs = [x4, x7, x8, x9, x11] ∧ Px M [(pq, .lst (W2.map itQ)), (pf, .lst (fr.map itQ)), (pm, .dic (txD ((met ++ (fr.map toK).map (·.2)).map nmK)))] M8 ∧ (∀ y, y ∈ W2.map toK ↔ ∃ x ∈ fr.take i, ∃ m ∈ ms, y = stepK E E2 (toK x) m) ∧ (∀ x ∈ W2, ItO S S2 x) ∧ W2.length ≤ 10 * i) (fun _ vs M8 hI => by obtain ⟨_, _, _, _, _, _, _, b8, _⟩ := hI; exact b8.lst2) (fun i x N2 e hN2 vs M8 hI => ?_) (fun vs M8 hI => ?_) ⟨_, _, _, _, _, [], rfl, b7, by simp, by simp, by simp⟩
            · obtain ⟨x4, x7, x8, x9, x11, W2, rfl, b8, hm2, hI2, hl2⟩ := hI
              rw [List.getElem?_map] at e
              obtain ⟨x, hx, rfl⟩ := Option.map_eq_some_iff.mp e
              have hi := (List.getElem?_eq_some_iff.mp hx).1
              have hxW := hfW x (List.mem_of_getElem? hx)
              have hkx := hrk x hxW
              simp only [itQ]
              infer_instance
              refine forS [11] (fun j vs M9 => ∃ x11, ∃ W3 : List (St2 × (List Str × List Str)), vs = [x11] ∧ Px M [(pq, .lst (W3.map itQ)), (pf, .lst (fr.map itQ)), (pm, .dic (txD ((met ++ (fr.map toK).map (·.2)).map nmK)))] M9 ∧ (∀ y, y ∈ W3.map toK ↔ y ∈ W2.map toK ∨ ∃ m ∈ ms.take j, y = stepK E E2 (toK x) m) ∧ (∀ x ∈ W3, ItO S S2 x) ∧ W3.length ≤ W2.length + j) (fun _ _ _ _ => trivial) (fun j y N3 e2 hN3 vs M9 hI => ?_) (fun vs M9 hI => ?_) ⟨_, W2, rfl, b8, by simp, hI2, by omega⟩
              · obtain ⟨x11, W3, rfl, b9, hm3, hI3, hl3⟩ := hI
                rw [List.getElem?_map] at e2
                obtain ⟨m, hm, rfl⟩ := Option.map_eq_some_iff.mp e2
                have hj := (List.getElem?_eq_some_iff.mp hm).1
                infer_instance
                refine ⟨by rw [b9.lst1]; rfl, ?_⟩
                have hpl2 : x.1.2.length = lv := (hL.it _ (hfr2.sub _ (List.mem_map.mpr ⟨x, List.mem_of_getElem? hx, rfl⟩))).2
                refine ⟨small_line2 (by omega), ?_⟩
                refine lon_go (.inr rfl) hE (by have := hkx.1; omega) fun zs hzl1 hzm1 => ?_
                infer_instance
                refine lon_go (.inr rfl) hE2 (by have := hkx.2.1; omega) fun zs2 hzl2 hzm2 => ?_
                obtain ⟨q1, q2⟩ := hstep hxW (List.mem_of_getElem? hm) zs zs2 hzm1 hzm2
                refine append_go b9.lst1 (by rw [List.length_map]; exact small_lt2 (by omega)) ?_
                have b10 := b9.put1 (o' := .lst ((W3 ++ [((x.1.1, x.1.2 ++ [m]), (zs, zs2))]).map itQ))
                rw [List.map_append] at b10
                have hit : itQ ((x.1.1, x.1.2 ++ [m]), (zs, zs2)) = .tup [.str x.1.1, .tup (x.1.2.map .str ++ [.str m]), .tup (zs.map .str), .tup (zs2.map .str)] := by
                  unfold itQ
                  rw [List.map_append]; rfl
                refine hN3 _ _ _ rfl ⟨_, W3 ++ [((x.1.1, x.1.2 ++ [m]), (zs, zs2))], rfl, ?_, fun y => ?_, fun y hy => ?_, by rw [List.length_append, List.length_singleton]; omega⟩
                · rw [List.map_append, List.map_singleton, hit]
                  rw [List.map_singleton, hit] at b10
                  exact b10
                · rw [List.map_append, List.mem_append, hm3, List.map_singleton, List.mem_singleton, q1, List.take_add_one, hm, Option.toList_some]
                  constructor
                  · rintro ((h | ⟨m', h1, h2⟩) | h)
                    · exact .inl h
                    · exact .inr ⟨m', List.mem_append_left _ h1, h2⟩
                    · exact .inr ⟨m, by simp, h⟩
                  · rintro (h | ⟨m', h1, h2⟩)
                    · exact .inl (.inl h)
                    · rcases List.mem_append.mp h1 with h1 | h1
                      · exact .inl (.inr ⟨m', h1, h2⟩)
                      · rw [List.mem_singleton.mp h1] at h2; exact .inr h2
                · rcases List.mem_append.mp hy with hy | hy
                  · exact hI3 y hy
                  · rw [List.mem_singleton.mp hy]
                    exact ⟨by show zs.length ≤ _; omega, by show zs2.length ≤ _; omega, q2⟩
              · obtain ⟨x11, W3, rfl, b9, hm3, hI3, hl3⟩ := hI
                rw [List.length_map, List.take_length] at hm3
                rw [List.length_map] at hl3
                refine hN2 _ _ _ rfl ⟨_, _, _, _, _, W3, rfl, b9, fun y => ?_, hI3, by omega⟩
                rw [hm3, hm2, List.take_add_one, hx, Option.toList_some]
                constructor
                · rintro (⟨x', h1, h2⟩ | ⟨m, h1, h2⟩)
                  · exact ⟨x', List.mem_append_left _ h1, h2⟩
                  · exact ⟨x, by simp, m, h1, h2⟩
                · rintro ⟨x', h1, m, h2, h3⟩
                  rcases List.mem_append.mp h1 with h1 | h1
                  · exact .inl ⟨x', h1, m, h2, h3⟩
                  · rw [List.mem_singleton.mp h1] at h3
                    exact .inr ⟨m, h2, h3⟩
            · obtain ⟨x4, x7, x8, x9, x11, W2, rfl, b8, hm2, hI2, hl2⟩ := hI
              rw [List.length_map, List.take_length] at hm2
              rw [List.length_map] at hl2
              have hnx : LvI (srchL E F E2 F2) (lv + 1) ((W2.filter neL).map toK) (met ++ (fr.map toK).map (·.2)) := by
                refine nextL (ms := ms) hL hfr2 hnp hem hm0 (fun y => ?_) fun k hk => (List.mem_append.mp hk).imp id fun h => by
                  obtain ⟨y, hy, e⟩ := List.mem_map.mp h
                  exact ⟨y, hy, e⟩
                rw [mem_filtK, hm2]
                constructor
                · rintro ⟨⟨x, hx, m, hm, rfl⟩, hne⟩
                  exact ⟨toK x, List.mem_map.mpr ⟨x, hx, rfl⟩, m, hm, hne, rfl⟩
                · rintro ⟨x', hx', m, hm, hne, rfl⟩
                  obtain ⟨x, hx, rfl⟩ := List.mem_map.mp hx'
                  exact ⟨⟨x, hx, m, hm, rfl⟩, hne⟩
              have hfr0 : fr = [] → W2 = [] := fun c => by
                subst c
                exact List.eq_nil_of_length_eq_zero (by simp at hl2; rw [hl2]; rfl)
              refine hN (2 * (2 ^ S.length * 2 ^ S2.length - (met ++ (fr.map toK).map (·.2)).length) + W2.length.min 1) _ _ _ ?_ rfl ⟨_, _, _, _, _, _, _, pq, lv + 1, W2, met ++ (fr.map toK).map (·.2), rfl, b8.lst1, b8.drop1.drop1, rfl, hnx, hnd, hkf, hI2, by omega, fun h => ?_⟩
              · rw [List.length_append, List.length_map, List.length_map]
                have hm1 : W2.length.min 1 ≤ 1 := Nat.min_le_right _ _
                by_cases c : fr = []
                · rw [hfr0 c, c]
                  show 2 * (2 ^ S.length * 2 ^ S2.length - (met.length + 0)) + min 0 1 < mz
                  omega
                · have := List.length_pos_iff.mpr c
                  omega
              · rw [List.length_append, List.length_map, List.length_map]
                have : fr ≠ [] := fun c => h (hfr0 c)
                have := List.length_pos_iff.mpr this
                omega
theorem ok_law {f_law f__law_draw f__law_names f__law_machine f__law_nearby f_first_missing f__law_first f__law_deck f_Reader f_Beside f_Reader_init f_Beside_init f_Reader_by f_Reader_slipped f_Reader_on f_Beside_knots f_Beside_onward f_Beside_parts : Addr} {fd_law fd__law_draw fd__law_names fd__law_machine fd__law_nearby fd_first_missing fd__law_first fd__law_deck : FuncData} (TC : Owns K mg f_Reader f_Beside f_Reader_init f_Beside_init f_Reader_by f_Reader_slipped f_Reader_on f_Beside_knots f_Beside_onward f_Beside_parts) (F_law : Fun K "law" "law" st_law f_law fd_law) (G__law_draw : FnOk P w K mg base CX0 1 f__law_draw fd__law_draw ["_law_deck_here", "_law_most"] (toSp K sp__law_draw)) (g__law_draw : mg "_law_draw" = some (.ref f__law_draw)) (k__law_draw : PySem.W.keepIn K (.ref f__law_draw) = true) (b__law_draw : Binds K fd__law_draw ["_law_deck_here", "_law_most"] []) (G__law_names : FnOk P w K mg base CX0 2 f__law_names fd__law_names ["_law_deck_here", "_law_many"] (toSp K sp__law_names)) (g__law_names : mg "_law_names" = some (.ref f__law_names)) (k__law_names : PySem.W.keepIn K (.ref f__law_names) = true) (b__law_names : Binds K fd__law_names ["_law_deck_here", "_law_many"] []) (G__law_machine : FnOk P w K mg base CX0 3 f__law_machine fd__law_machine ["_law_deck_here", "_law_places_here", "_law_marks", "_law_sort", "_law_most"] (toSp K sp__law_machine)) (g__law_machine : mg "_law_machine" = some (.ref f__law_machine)) (k__law_machine : PySem.W.keepIn K (.ref f__law_machine) = true) (b__law_machine : Binds K fd__law_machine ["_law_deck_here", "_law_places_here", "_law_marks", "_law_sort", "_law_most"] []) (G__law_nearby : FnOk P w K mg base CX0 4 f__law_nearby fd__law_nearby ["_law_deck_here", "_law_machine_here", "_law_places_here", "_law_marks", "_law_most"] (toSp K sp__law_nearby)) (g__law_nearby : mg "_law_nearby" = some (.ref f__law_nearby)) (k__law_nearby : PySem.W.keepIn K (.ref f__law_nearby) = true) (b__law_nearby : Binds K fd__law_nearby ["_law_deck_here", "_law_machine_here", "_law_places_here", "_law_marks", "_law_most"] []) (G_first_missing : FnOk P w K mg base CX0 5 f_first_missing fd_first_missing ["one", "other"] (toSp K (sp_first_missing f_Beside f_Reader))) (g_first_missing : mg "first_missing" = some (.ref f_first_missing)) (k_first_missing : PySem.W.keepIn K (.ref f_first_missing) = true) (b_first_missing : Binds K fd_first_missing ["one", "other"] []) (G__law_first : FnOk P w K mg base CX0 3 f__law_first fd__law_first ["_law_one", "_law_other", "_law_marks"] (toSp K sp__law_first)) (g__law_first : mg "_law_first" = some (.ref f__law_first)) (k__law_first : PySem.W.keepIn K (.ref f__law_first) = true) (b__law_first : Binds K fd__law_first ["_law_one", "_law_other", "_law_marks"] []) (G__law_deck : FnOk P w K mg base CX0 1 f__law_deck fd__law_deck ["_law_script"] (spDeckH K)) (g__law_deck : mg "_law_deck" = some (.ref f__law_deck)) (k__law_deck : PySem.W.keepIn K (.ref f__law_deck) = true) (b__law_deck : Binds K fd__law_deck ["_law_script"] []) (z_range : mg "range" = none) (z_sorted : mg "sorted" = none) (z_repr : mg "repr" = none) : FnG P w K mg base CX0 6 f_law fd_law ["_law_script"] (spLawH K) := by
  refine law_okG (k := 5) F_law sc_law (by decide) (by rfl) fun cdv A outer s H E hrG => have hr := hrG.r; ⟨_, (ps_set (i := 1) sc_law.nd rfl (by first | exact Or.inl rfl | exact Or.inr rfl) (pe_call G__law_deck (hr.mono (by decide)) (by rfl) g__law_deck k__law_deck b__law_deck .nil pass0 (pa_cons (pv 0) pa_nil))),
    (jb_cons (js_for PassesOwn.never rfl (ji_rng1 (by rfl) z_range je_int) (jg_name (i := 2) sc_law.nd) (jb_cons (js_set (i := 3) sc_law.nd (je_call G__law_draw (hr.mono (by decide)) (by rfl) g__law_draw k__law_draw b__law_draw (ja_cons (jv 1) (ja_cons je_int ja_nil)))) (jb_cons (js_set (i := 4) sc_law.nd (je_call G__law_names (hr.mono (by decide)) (by rfl) g__law_names k__law_names b__law_names (ja_cons (jv 1) (ja_cons je_int ja_nil)))) (jb_cons (js_set (i := 5) sc_law.nd (je_slice (jv 4) jo_none (jo_some (je_add je_int (je_call G__law_draw (hr.mono (by decide)) (by rfl) g__law_draw k__law_draw b__law_draw (ja_cons (jv 1) (ja_cons je_int ja_nil))))))) (jb_cons (js_set (i := 6) sc_law.nd (je_frz (jl_sorted hr z_sorted (ja_cons (je_slice (jv 4) (jo_some je_int) (jo_some (je_add je_int (je_call G__law_draw (hr.mono (by decide)) (by rfl) g__law_draw k__law_draw b__law_draw (ja_cons (jv 1) (ja_cons je_int ja_nil)))))) ja_nil)))) (jb_cons (js_set (i := 7) sc_law.nd (je_call G__law_machine (hr.mono (by decide)) (by rfl) g__law_machine k__law_machine b__law_machine (ja_cons (jv 1) (ja_cons (jv 5) (ja_cons (jv 6) (ja_cons (jv 3) (ja_cons je_int ja_nil))))))) (jb_cons (js_set (i := 8) sc_law.nd (je_call G__law_nearby (hr.mono (by decide)) (by rfl) g__law_nearby k__law_nearby b__law_nearby (ja_cons (jv 1) (ja_cons (jv 7) (ja_cons (jv 5) (ja_cons (jv 6) (ja_cons je_int ja_nil))))))) (jb_cons (js_set (i := 9) sc_law.nd (je_frz (jl_disp (ja_cons (je_tup (ja_cons (jv 7) (ja_cons (jv 8) ja_nil))) (ja_cons (je_tup (ja_cons (jv 8) (ja_cons (jv 7) ja_nil))) (ja_cons (je_tup (ja_cons (jv 7) (ja_cons (jv 7) ja_nil))) (ja_cons (je_tup (ja_cons (jv 7) (ja_cons (jv 8) ja_nil))) ja_nil))))))) (jb_cons (js_for PassesOwn.never rfl (ji_any (jv 9)) (jg_tup (n := 2) rfl (jgs_cons (jg_name (i := 10) sc_law.nd) (jgs_cons (jg_name (i := 11) sc_law.nd) jgs_nil))) (jb_cons (js_set (i := 12) sc_law.nd (je_call G_first_missing (hr.mono (by decide)) (by rfl) g_first_missing k_first_missing b_first_missing (ja_cons (jv 10) (ja_cons (jv 11) ja_nil)))) (jb_one (js_if (jt_ne hr (je_reprX hrG z_repr (ja_cons (jv 12) ja_nil)) (je_reprX hrG z_repr (ja_cons (je_call G__law_first (hr.mono (by decide)) (by rfl) g__law_first k__law_first b__law_first (ja_cons (jv 10) (ja_cons (jv 11) (ja_cons (jv 6) ja_nil)))) ja_nil))) (jb_one (js_ret je_bl)) jb_nil)))) (jb_one (js_if (JW.jt (jw_or (jt_isnot (je_call G_first_missing (hr.mono (by decide)) (by rfl) g_first_missing k_first_missing b_first_missing (ja_cons (je_tup (ja_cons (je_tup ja_nil) (ja_cons (je_tup ja_nil) ja_nil))) (ja_cons (jv 7) ja_nil))) je_non) (jw_or1 (jt_ne hr (je_call G_first_missing (hr.mono (by decide)) (by rfl) g_first_missing k_first_missing b_first_missing (ja_cons (je_tup (ja_cons (je_tup ja_nil) (ja_cons (je_tup (ja_cons (je_ix (jv 5) je_int) ja_nil)) ja_nil))) (ja_cons (je_tup (ja_cons (je_tup ja_nil) (ja_cons (je_tup ja_nil) ja_nil))) ja_nil))) (je_tup (ja_cons (je_ix (jv 5) je_int) (ja_cons (je_tup ja_nil) ja_nil))))))) (jb_one (js_ret je_bl)) jb_nil)))))))))))
      (jb_one (js_ret je_bl))), fun M d c hD => ?_⟩
  have b0 := Bx.start (hD.mono (r' := 1000000) (by decide))
  simp_all only [N_law]
  infer_instance
  refine forR [2, 3, 4, 5, 6, 7, 8, 9, 10, 11, 12] (fun i vs M' => ∃ x2 x3 x4 x5 x6 x7 x8 x9 x10 x11 x12, vs = [x2, x3, x4, x5, x6, x7, x8, x9, x10, x11, x12] ∧ Bx d c (10000 + 10000 * (3 - i)) M [] M') (fun _ _ _ _ => trivial) (fun i N hi hN vs M' hI => ?_) (fun vs M' hI => ?_) ⟨_, _, _, _, _, _, _, _, _, _, _, rfl, b0.mono (by omega)⟩
  · obtain ⟨x2, x3, x4, x5, x6, x7, x8, x9, x10, x11, x12, rfl, b1⟩ := hI
    infer_instance
    refine draw_B b1 (by omega) (by omega) (by omega) fun so M2 s0 s1 b2 => ?_
    infer_instance
    refine names_goN (many := 8) (r := 9000 + 10000 * (3 - i)) (b2.dk.mono (by omega)) (by decide) fun ns M3 hnl hns hnd D2 U2 => ?_
    have b3 : Bx d c (9000 + 10000 * (3 - i)) _ [] M3 := (b2.mono (r' := 9000 + 10000 * (3 - i)) (by omega)).call D2 U2
    clear D2 U2
    infer_instance
    refine draw_B b3 (by omega) (by omega) (by omega) fun np M4 p0 p1 b4 => ?_
    infer_instance
    obtain ⟨kp, hkp⟩ : ∃ k : Nat, 1 + np = k := ⟨(1 + np).toNat, by omega⟩
    rw [hkp, cutL_toN, ← List.map_take]
    infer_instance
    refine draw_B b4 (by omega) (by omega) (by omega) fun nm M5 m0 m1 b5 => ?_
    infer_instance
    obtain ⟨km, hkm⟩ : ∃ k : Nat, 5 + nm = k := ⟨(5 + nm).toNat, by omega⟩
    rw [hkm, show (4 : Int) = ((4 : Nat) : Int) from rfl, cutL_midN, ← List.map_drop, ← List.map_take]
    refine ⟨sortOk_str, ?_⟩
    rw [sortD_strs]
    infer_instance
    have hps : ∀ s ∈ ns.take kp, NameS s := fun s hs => hns s (List.mem_of_mem_take hs)
    have hms : ∀ s ∈ sortS ((ns.drop 4).take (km - 4)), NameS s := fun s hs => hns s (List.mem_of_mem_drop (List.mem_of_mem_take (sortS_mem.mp hs)))
    have hpl : (ns.take kp).length = kp := by rw [List.length_take]; omega
    have hml : (sortS ((ns.drop 4).take (km - 4))).length = km - 4 := by rw [sortS_len, List.length_take, List.length_drop]; omega
    have hpnd : (ns.take kp).Nodup := hnd.sublist (List.take_sublist _ _)
    generalize ns.take kp = ps at *
    generalize sortS ((ns.drop 4).take (km - 4)) = ms at *
    have hp0 : ps ≠ [] := by rintro rfl; simp at hpl; omega
    have hm0 : ms ≠ [] := by rintro rfl; simp at hml; omega
    obtain ⟨s, rfl⟩ : ∃ s : Nat, so = s := ⟨so.toNat, by omega⟩
    refine machine_B (n := 3) b5 hp0 hm0 (by omega) (by omega) (by omega) (by omega) (by omega) hpnd hps hms (by omega) fun ns1 E F M6 hn1 g hn81 hmk1 b6 => ?_
    simp only [mD]
    infer_instance
    refine nearby_B (n := 3) b6 hp0 hm0 (by omega) (by omega) (by omega) (by omega) hpnd hps hms g (by decide) (by simp; omega) (by omega) fun ns2 E2 F2 M7 hn2 g2 hn82 hmk2 b7 => ?_
    simp only [mD]
    have hasc : ∀ z ∈ ps ++ ns1 ++ ns2, AscS 8 z := fun z hz => by
      rcases List.mem_append.mp hz with h | h
      · exact g.sa z h
      · exact (num8_f z (hn82 z h)).2
    have g2 : GdM 80 (ps ++ ns1 ++ ns2) E2 F2 := g2.mono (by decide) (fun z hz => by
      simp only [List.mem_append] at hz ⊢
      rcases hz with (h | h) | h | h
      · exact .inl (.inl h)
      · exact .inl (.inr h)
      · exact .inl (.inl h)
      · exact .inr h) hasc
    have hS : (ps ++ ns1).length ≤ 5 := by simp; omega
    have hS2 : (ps ++ ns1 ++ ns2).length ≤ 8 := by simp; omega
    have hd8 : ∀ s ∈ num8, digB s = true := by decide +kernel
    have hpl1 : ∀ z, z ∈ ps ++ ns1 ++ ns2 → digB z = false → z ∈ ps := fun z hz hd => by
      simp only [List.mem_append] at hz
      rcases hz with (h | h) | h
      · exact h
      · rw [hd8 z (hn81 z h)] at hd; cases hd
      · rw [hd8 z (hn82 z h)] at hd; cases hd
    have hm1 : ∀ e ∈ E, e.2.1 ∈ ms ∨ e.2.1 = ("" : Str) := hmk1
    have hm2 : ∀ e ∈ E2, e.2.1 ∈ ms ∨ e.2.1 = ("" : Str) := fun e he => (hmk2 e he).elim (hmk1 e) id
    have hmn : ∀ m ∈ ms, m ≠ ("" : Str) := fun m hm => (hms m hm).ne
    have ask1 : ∀ {A B : List Ed} {X Y SA SB : List Str} {nA nB : Nat} {Mz : Mm} {Q : DQ}, GdM nA SA A X → GdM nB SB B Y → nA ≤ 80 → nB ≤ 80 → SA.length ≤ 8 → SB.length ≤ 8 → nA * nA * (SA.length * 2 ^ SB.length) ≤ 4000000 → (∀ z ∈ SA, z ∈ ps ++ ns1 ++ ns2) → (∀ p ∈ ps, p ∈ SB) → (∀ e ∈ A, e.2.1 ∈ ms ∨ e.2.1 = ("" : Str)) →
        (∀ o, FirstM A X B Y o → ShowX (optD o) → Q (optD o) Mz) → sp_first_missing f_Beside f_Reader [.tup [.tup (A.map edD), .tup (X.map .str)], .tup [.tup (B.map edD), .tup (Y.map .str)]] Mz Q := fun {A B X Y SA SB nA nB Mz Q} gA gB h1 h2 h3 h4 h5 h6 h7 h8 kk => by
      have hU : SA.length * 2 ^ SB.length ≤ 8 * 2 ^ 8 := Nat.mul_le_mul h3 (Nat.pow_le_pow_right (by decide) h4)
      have e8 : 8 * 2 ^ 8 = 2048 := by decide
      have hp : ∀ z, stsOf A X z → digB z = false → z ∈ SB := fun z hz hd => h7 z (hpl1 z (h6 z (gA.st z hz)) hd)
      refine first_go gA gB (by omega) (by omega) (by omega) (by omega) (by rw [Nat.mul_assoc 2, Nat.mul_assoc 2]; omega) (by omega) hp fun o ho hl => kk o ho ?_
      cases o with
      | none => exact Tg.show (n := 0) (w := 0) (k := 0) .non (by decide) (by decide)
      | some s =>
        have hl := hl s rfl
        obtain ⟨q1, q2⟩ := held_st ho.1.2.2.1
        have t1 := tgs_strs (m := 8) (F := s.2) fun m hm => by
          obtain ⟨e, he, c⟩ := q2 m hm
          rw [← c]; exact gA.ma e he
        have t2 : Tg 8000 3000 1 (.tup (s.2.map .str)) := .tup ⟨t1.ok, Nat.le_trans t1.bk (by omega), fun y hy => Nat.le_trans (t1.wd y hy) (by decide), t1.dp⟩ (by rw [List.length_map]; omega)
        exact (tg_two ((gA.sa _ (gA.st _ q1)).tg (w := 3000) (k := 1)) t2 (by decide)).show (by decide) (by decide)
    have ask2 : ∀ {A B : List Ed} {X Y SA SB : List Str} {nA nB : Nat} {Mz : Mm} {Q : DQ}, GdM nA SA A X → GdM nB SB B Y → nA ≤ 80 → nB ≤ 80 → SA.length ≤ 8 → SB.length ≤ 8 → nA * nA * (SA.length * 2 ^ SB.length) ≤ 4000000 → (∀ z ∈ SA, z ∈ ps ++ ns1 ++ ns2) → (∀ p ∈ ps, p ∈ SB) → (∀ e ∈ A, e.2.1 ∈ ms ∨ e.2.1 = ("" : Str)) →
        (∀ o, FirstM A X B Y o → Q (optD o) Mz) → sp__law_first [.tup [.tup (A.map edD), .tup (X.map .str)], .tup [.tup (B.map edD), .tup (Y.map .str)], .lst (ms.map .str)] Mz Q := fun {A B X Y SA SB nA nB Mz Q} gA gB h1 h2 h3 h4 h5 h6 h7 h8 kk => by
      have hU2 : 2 ^ SA.length * 2 ^ SB.length ≤ 2 ^ 8 * 2 ^ 8 := Nat.mul_le_mul (Nat.pow_le_pow_right (by decide) h3) (Nat.pow_le_pow_right (by decide) h4)
      have e16 : 2 ^ 8 * 2 ^ 8 = 65536 := by decide
      have hp : ∀ z, stsOf A X z → digB z = false → z ∈ SB := fun z hz hd => h7 z (hpl1 z (h6 z (gA.st z hz)) hd)
      exact lfirst_go gA gB (by omega) (by omega) (by omega) (by omega) hp h8 hmn fun o ho _ => kk o ho
    have u1 : 40 * 40 * ((ps ++ ns1).length * 2 ^ (ps ++ ns1 ++ ns2).length) ≤ 4000000 := Nat.le_trans (Nat.mul_le_mul_left _ (Nat.mul_le_mul hS (Nat.pow_le_pow_right (by decide) hS2))) (by decide)
    have u2 : 80 * 80 * ((ps ++ ns1 ++ ns2).length * 2 ^ (ps ++ ns1).length) ≤ 4000000 := Nat.le_trans (Nat.mul_le_mul_left _ (Nat.mul_le_mul hS2 (Nat.pow_le_pow_right (by decide) hS))) (by decide)
    have u3 : 40 * 40 * ((ps ++ ns1).length * 2 ^ (ps ++ ns1).length) ≤ 4000000 := Nat.le_trans (Nat.mul_le_mul_left _ (Nat.mul_le_mul hS (Nat.pow_le_pow_right (by decide) hS))) (by decide)
    have i1 : ∀ z ∈ ps ++ ns1, z ∈ ps ++ ns1 ++ ns2 := fun z hz => List.mem_append_left _ hz
    have p1 : ∀ p ∈ ps, p ∈ ps ++ ns1 := fun p hp => List.mem_append_left _ hp
    have p2 : ∀ p ∈ ps, p ∈ ps ++ ns1 ++ ns2 := fun p hp => i1 p (p1 p hp)
    infer_instance
    refine forS [10, 11, 12] (fun j vs M' => ∃ x10 x11 x12, vs = [x10, x11, x12] ∧ M' = M7) (fun _ _ _ _ => trivial) (fun j x N2 e hN2 vs M' hI => ?_) (fun vs M' hI => ?_) ⟨_, _, _, rfl, rfl⟩
    · obtain ⟨x10, x11, x12, rfl, rfl⟩ := hI
      have hx := List.mem_of_getElem? e
      simp only [List.mem_cons, List.not_mem_nil, or_false] at hx
      have same : ∀ {A B : List Ed} {X Y : List Str} {o o' : Option St2}, FirstM A X B Y o → FirstM A X B Y o' → o' = o := fun h h' => h'.uniq h
      rcases hx with rfl | rfl | rfl | rfl
      · infer_instance
        refine ask1 g g2 (by decide) (by decide) (by omega) (by omega) u1 i1 p2 hm1 fun o ho sh => ?_
        infer_instance
        refine reprX_go sh ?_
        and_intros
        refine ask2 g g2 (by decide) (by decide) (by omega) (by omega) u1 i1 p2 hm1 fun o' ho' => ?_
        rw [same ho ho']
        and_intros
        refine reprX_go sh ?_
        and_intros
        exact hN2 _ _ _ rfl ⟨_, _, _, rfl, rfl⟩
      · infer_instance
        refine ask1 g2 g (by decide) (by decide) (by omega) (by omega) u2 (fun z hz => hz) p1 hm2 fun o ho sh => ?_
        infer_instance
        refine reprX_go sh ?_
        and_intros
        refine ask2 g2 g (by decide) (by decide) (by omega) (by omega) u2 (fun z hz => hz) p1 hm2 fun o' ho' => ?_
        rw [same ho ho']
        and_intros
        refine reprX_go sh ?_
        and_intros
        exact hN2 _ _ _ rfl ⟨_, _, _, rfl, rfl⟩
      · infer_instance
        refine ask1 g g (by decide) (by decide) (by omega) (by omega) u3 i1 p1 hm1 fun o ho sh => ?_
        infer_instance
        refine reprX_go sh ?_
        and_intros
        refine ask2 g g (by decide) (by decide) (by omega) (by omega) u3 i1 p1 hm1 fun o' ho' => ?_
        rw [same ho ho']
        and_intros
        refine reprX_go sh ?_
        and_intros
        exact hN2 _ _ _ rfl ⟨_, _, _, rfl, rfl⟩
      · infer_instance
        refine ask1 g g2 (by decide) (by decide) (by omega) (by omega) u1 i1 p2 hm1 fun o ho sh => ?_
        infer_instance
        refine reprX_go sh ?_
        and_intros
        refine ask2 g g2 (by decide) (by decide) (by omega) (by omega) u1 i1 p2 hm1 fun o' ho' => ?_
        rw [same ho ho']
        and_intros
        refine reprX_go sh ?_
        and_intros
        exact hN2 _ _ _ rfl ⟨_, _, _, rfl, rfl⟩
    · obtain ⟨x10, x11, x12, rfl, rfl⟩ := hI
      infer_instance
      have gn : GdM 0 [] [] [] := ⟨by rfl, by simp, (fun z hz => by
        rcases hz with ⟨e, he, _⟩ | hz
        · cases he
        · cases hz), (fun z hz => by cases hz), fun e he => by cases he⟩
      refine first_go (E := []) (F := []) (S := []) gn g (by decide) (by decide) (by simp) (by omega) (by simp) (by simp) (fun z hz _ => absurd (gn.st z hz) (by simp)) fun o ho _ => ?_
      have ho : o = none := by
        cases o with
        | none => rfl
        | some s =>
          obtain ⟨z, _, h2⟩ := ho.1.2.2.1
          cases h2
      subst ho
      obtain ⟨p, ps', rfl⟩ := List.exists_cons_of_ne_nil hp0
      have hpn := hps p (by simp)
      rw [show optD none = D.non from rfl]
      infer_instance
      have gp : GdM 0 [p] [] [p] := by
        refine ⟨?_, by simp, fun z hz => ?_, fun z hz => ?_, fun e he => by cases he⟩
        · have h1 : stateD (.str p) = true := stateD_iff.mpr (.inl hpn)
          show (true && (([p].all fun s => stateD (.str s)) && (true && risB leS [p]))) = true
          rw [List.all_cons, h1]; rfl
        · rcases hz with ⟨e, he, _⟩ | hz
          · cases he
          · exact hz
        · rw [List.mem_singleton.mp hz]; exact hpn.asc
      refine first_go (n2 := 0) (E := []) (F := [p]) (E2 := []) (F2 := []) (S := [p]) (S2 := [p]) gp ⟨by rfl, by simp, (fun z hz => by
        rcases hz with ⟨e, he, _⟩ | hz
        · cases he
        · cases hz), (fun z hz => by rw [List.mem_singleton.mp hz]; exact hpn.asc), fun e he => by cases he⟩ (by decide) (by decide) (by simp) (by simp) (by simp) (by simp) (fun z hz _ => gp.st z hz) fun o ho _ => ?_
      have hmiss : MissE [] [p] [] [] (p, []) := ⟨name_dig hpn, by simp, ⟨p, .base rfl, by simp⟩, fun ⟨z, _, h2⟩ => by cases h2⟩
      have ho : o = some (p, []) := by
        cases o with
        | none => exact absurd hmiss (ho _)
        | some s =>
          obtain ⟨h1, h2⟩ := held_st ho.1.2.2.1
          obtain ⟨a, w⟩ := s
          have h1 : a = p := by
            rcases h1 with ⟨e, he, _⟩ | h1
            · cases he
            · simpa using h1
          subst h1
          cases w with
          | nil => rfl
          | cons m w => obtain ⟨e, he, _⟩ := h2 m (by simp); cases he
      subst ho
      rw [show optD (some ((p, []) : St2)) = D.tup [.str p, .tup []] from rfl]
      infer_instance
      exact hN _ _ _ rfl ⟨_, _, _, _, _, _, _, _, _, _, _, rfl, b7.mono (by omega)⟩
  · obtain ⟨x2, x3, x4, x5, x6, x7, x8, x9, x10, x11, x12, rfl, b1⟩ := hI
    infer_instance
theorem ok__law_deck {f fd} (F : Fun K "_law_deck" "_law_deck" st__law_deck f fd) (z_list : mg "list" = none) (z_sum : mg "sum" = none) (z_len : mg "len" = none) : FnOk P w K mg base CX0 1 f fd ["_law_script"] (spDeckH K) := by
  refine ok_deck F sc__law_deck fun cdv A outer s H E => ?_
  exact pss_cons (ps_set (i := 1) sc__law_deck.nd rfl (.inl rfl) (pe_callTy call_list_of (by rfl) z_list PyProof.Rows.boot_list (pa_cons (pe_slice sl_list (pv 0) po_none (po_some pe_int)) pa_nil)))
    (pss_one (ps_ret (pe_disp (pps_cons pe_str (pv 1) (pps_cons pe_str pe_int (pps_cons pe_str (pe_op op_add (pe_op op_mod (pe_callB (cr_sum rfl) (by rfl) z_sum PyProof.Rows.boot_sum (pa_cons (pv 1) pa_nil)) pe_int) (pe_callB call_len_seq (by rfl) z_len PySem.boot_len (pa_cons (pv 1) pa_nil))) pps_nil))) rfl rfl (by simp) (by decide))))
theorem all_mk {fa : Addr} {h : Heap} {f__law_deck f__law_draw f__law_names f__law_numbers f__law_pick f__law_machine f__law_nearby f_Reader_init f_Beside_init f_marks_of f_Reader_by f_Reader_slipped f_Reader_on f_Beside_knots f_Beside_onward f_Beside_parts f_states_of f_is_figures f_first_missing f__law_states f__law_places f__law_ends f__law_slipped f__law_on f__law_first f_law f_Reader f_Beside : Addr} (XX : K.In h) (GG0 : h.Ns mainGlobals mg) (hfa : mg "law" = some (.ref fa)) {od__law_deck an__law_deck : Option Addr} {sl__law_deck : Array (Option Value)} {oc__law_deck kV__law_deck dc__law_deck pm__law_deck cd__law_deck ct__law_deck : Value} (a__law_deck : PySem.W.nsIn K mainGlobals "_law_deck" = some (some (.ref f__law_deck))) (l__law_deck : K.lookup f__law_deck = some ⟨oc__law_deck, od__law_deck, .func (PySem.W.fnOf "_law_deck" "_law_deck" (defArgs st__law_deck) (defBody st__law_deck) (defScope st__law_deck) .none kV__law_deck dc__law_deck pm__law_deck an__law_deck cd__law_deck ct__law_deck), sl__law_deck⟩) (c__law_deck : PySem.W.codeIn K cd__law_deck "_law_deck" = true) (k__law_deck : PySem.W.keepIn K (.ref f__law_deck) = true) {od__law_draw an__law_draw : Option Addr} {sl__law_draw : Array (Option Value)} {oc__law_draw kV__law_draw dc__law_draw pm__law_draw cd__law_draw ct__law_draw : Value} (a__law_draw : PySem.W.nsIn K mainGlobals "_law_draw" = some (some (.ref f__law_draw))) (l__law_draw : K.lookup f__law_draw = some ⟨oc__law_draw, od__law_draw, .func (PySem.W.fnOf "_law_draw" "_law_draw" (defArgs st__law_draw) (defBody st__law_draw) (defScope st__law_draw) .none kV__law_draw dc__law_draw pm__law_draw an__law_draw cd__law_draw ct__law_draw), sl__law_draw⟩) (c__law_draw : PySem.W.codeIn K cd__law_draw "_law_draw" = true) (k__law_draw : PySem.W.keepIn K (.ref f__law_draw) = true) {od__law_names an__law_names : Option Addr} {sl__law_names : Array (Option Value)} {oc__law_names kV__law_names dc__law_names pm__law_names cd__law_names ct__law_names : Value} (a__law_names : PySem.W.nsIn K mainGlobals "_law_names" = some (some (.ref f__law_names))) (l__law_names : K.lookup f__law_names = some ⟨oc__law_names, od__law_names, .func (PySem.W.fnOf "_law_names" "_law_names" (defArgs st__law_names) (defBody st__law_names) (defScope st__law_names) .none kV__law_names dc__law_names pm__law_names an__law_names cd__law_names ct__law_names), sl__law_names⟩) (c__law_names : PySem.W.codeIn K cd__law_names "_law_names" = true) (k__law_names : PySem.W.keepIn K (.ref f__law_names) = true) {od__law_numbers an__law_numbers : Option Addr} {sl__law_numbers : Array (Option Value)} {oc__law_numbers kV__law_numbers dc__law_numbers pm__law_numbers cd__law_numbers ct__law_numbers : Value} (a__law_numbers : PySem.W.nsIn K mainGlobals "_law_numbers" = some (some (.ref f__law_numbers))) (l__law_numbers : K.lookup f__law_numbers = some ⟨oc__law_numbers, od__law_numbers, .func (PySem.W.fnOf "_law_numbers" "_law_numbers" (defArgs st__law_numbers) (defBody st__law_numbers) (defScope st__law_numbers) .none kV__law_numbers dc__law_numbers pm__law_numbers an__law_numbers cd__law_numbers ct__law_numbers), sl__law_numbers⟩) (c__law_numbers : PySem.W.codeIn K cd__law_numbers "_law_numbers" = true) (k__law_numbers : PySem.W.keepIn K (.ref f__law_numbers) = true) {od__law_pick an__law_pick : Option Addr} {sl__law_pick : Array (Option Value)} {oc__law_pick kV__law_pick dc__law_pick pm__law_pick cd__law_pick ct__law_pick : Value} (a__law_pick : PySem.W.nsIn K mainGlobals "_law_pick" = some (some (.ref f__law_pick))) (l__law_pick : K.lookup f__law_pick = some ⟨oc__law_pick, od__law_pick, .func (PySem.W.fnOf "_law_pick" "_law_pick" (defArgs st__law_pick) (defBody st__law_pick) (defScope st__law_pick) .none kV__law_pick dc__law_pick pm__law_pick an__law_pick cd__law_pick ct__law_pick), sl__law_pick⟩) (c__law_pick : PySem.W.codeIn K cd__law_pick "_law_pick" = true) (k__law_pick : PySem.W.keepIn K (.ref f__law_pick) = true) {od__law_machine an__law_machine : Option Addr} {sl__law_machine : Array (Option Value)} {oc__law_machine kV__law_machine dc__law_machine pm__law_machine cd__law_machine ct__law_machine : Value} (a__law_machine : PySem.W.nsIn K mainGlobals "_law_machine" = some (some (.ref f__law_machine))) (l__law_machine : K.lookup f__law_machine = some ⟨oc__law_machine, od__law_machine, .func (PySem.W.fnOf "_law_machine" "_law_machine" (defArgs st__law_machine) (defBody st__law_machine) (defScope st__law_machine) .none kV__law_machine dc__law_machine pm__law_machine an__law_machine cd__law_machine ct__law_machine), sl__law_machine⟩) (c__law_machine : PySem.W.codeIn K cd__law_machine "_law_machine" = true) (k__law_machine : PySem.W.keepIn K (.ref f__law_machine) = true) {od__law_nearby an__law_nearby : Option Addr} {sl__law_nearby : Array (Option Value)} {oc__law_nearby kV__law_nearby dc__law_nearby pm__law_nearby cd__law_nearby ct__law_nearby : Value} (a__law_nearby : PySem.W.nsIn K mainGlobals "_law_nearby" = some (some (.ref f__law_nearby))) (l__law_nearby : K.lookup f__law_nearby = some ⟨oc__law_nearby, od__law_nearby, .func (PySem.W.fnOf "_law_nearby" "_law_nearby" (defArgs st__law_nearby) (defBody st__law_nearby) (defScope st__law_nearby) .none kV__law_nearby dc__law_nearby pm__law_nearby an__law_nearby cd__law_nearby ct__law_nearby), sl__law_nearby⟩) (c__law_nearby : PySem.W.codeIn K cd__law_nearby "_law_nearby" = true) (k__law_nearby : PySem.W.keepIn K (.ref f__law_nearby) = true) {od_Reader_init an_Reader_init : Option Addr} {sl_Reader_init : Array (Option Value)} {oc_Reader_init kV_Reader_init dc_Reader_init pm_Reader_init cd_Reader_init ct_Reader_init : Value} (l_Reader_init : K.lookup f_Reader_init = some ⟨oc_Reader_init, od_Reader_init, .func (PySem.W.fnOf "__init__" "Reader.__init__" (defArgs st_Reader_init) (defBody st_Reader_init) (defScope st_Reader_init) .none kV_Reader_init dc_Reader_init pm_Reader_init an_Reader_init cd_Reader_init ct_Reader_init), sl_Reader_init⟩) (c_Reader_init : PySem.W.codeIn K cd_Reader_init "Reader.__init__" = true) (k_Reader_init : PySem.W.keepIn K (.ref f_Reader_init) = true) {od_Beside_init an_Beside_init : Option Addr} {sl_Beside_init : Array (Option Value)} {oc_Beside_init kV_Beside_init dc_Beside_init pm_Beside_init cd_Beside_init ct_Beside_init : Value} (l_Beside_init : K.lookup f_Beside_init = some ⟨oc_Beside_init, od_Beside_init, .func (PySem.W.fnOf "__init__" "Beside.__init__" (defArgs st_Beside_init) (defBody st_Beside_init) (defScope st_Beside_init) .none kV_Beside_init dc_Beside_init pm_Beside_init an_Beside_init cd_Beside_init ct_Beside_init), sl_Beside_init⟩) (c_Beside_init : PySem.W.codeIn K cd_Beside_init "Beside.__init__" = true) (k_Beside_init : PySem.W.keepIn K (.ref f_Beside_init) = true) {od_marks_of an_marks_of : Option Addr} {sl_marks_of : Array (Option Value)} {oc_marks_of kV_marks_of dc_marks_of pm_marks_of cd_marks_of ct_marks_of : Value} (a_marks_of : PySem.W.nsIn K mainGlobals "marks_of" = some (some (.ref f_marks_of))) (l_marks_of : K.lookup f_marks_of = some ⟨oc_marks_of, od_marks_of, .func (PySem.W.fnOf "marks_of" "marks_of" (defArgs st_marks_of) (defBody st_marks_of) (defScope st_marks_of) .none kV_marks_of dc_marks_of pm_marks_of an_marks_of cd_marks_of ct_marks_of), sl_marks_of⟩) (c_marks_of : PySem.W.codeIn K cd_marks_of "marks_of" = true) (k_marks_of : PySem.W.keepIn K (.ref f_marks_of) = true) {od_Reader_by an_Reader_by : Option Addr} {sl_Reader_by : Array (Option Value)} {oc_Reader_by kV_Reader_by dc_Reader_by pm_Reader_by cd_Reader_by ct_Reader_by : Value} (l_Reader_by : K.lookup f_Reader_by = some ⟨oc_Reader_by, od_Reader_by, .func (PySem.W.fnOf "by" "Reader.by" (defArgs st_Reader_by) (defBody st_Reader_by) (defScope st_Reader_by) .none kV_Reader_by dc_Reader_by pm_Reader_by an_Reader_by cd_Reader_by ct_Reader_by), sl_Reader_by⟩) (c_Reader_by : PySem.W.codeIn K cd_Reader_by "Reader.by" = true) (k_Reader_by : PySem.W.keepIn K (.ref f_Reader_by) = true) {od_Reader_slipped an_Reader_slipped : Option Addr} {sl_Reader_slipped : Array (Option Value)} {oc_Reader_slipped kV_Reader_slipped dc_Reader_slipped pm_Reader_slipped cd_Reader_slipped ct_Reader_slipped : Value} (l_Reader_slipped : K.lookup f_Reader_slipped = some ⟨oc_Reader_slipped, od_Reader_slipped, .func (PySem.W.fnOf "slipped" "Reader.slipped" (defArgs st_Reader_slipped) (defBody st_Reader_slipped) (defScope st_Reader_slipped) .none kV_Reader_slipped dc_Reader_slipped pm_Reader_slipped an_Reader_slipped cd_Reader_slipped ct_Reader_slipped), sl_Reader_slipped⟩) (c_Reader_slipped : PySem.W.codeIn K cd_Reader_slipped "Reader.slipped" = true) (k_Reader_slipped : PySem.W.keepIn K (.ref f_Reader_slipped) = true) {od_Reader_on an_Reader_on : Option Addr} {sl_Reader_on : Array (Option Value)} {oc_Reader_on kV_Reader_on dc_Reader_on pm_Reader_on cd_Reader_on ct_Reader_on : Value} (l_Reader_on : K.lookup f_Reader_on = some ⟨oc_Reader_on, od_Reader_on, .func (PySem.W.fnOf "on" "Reader.on" (defArgs st_Reader_on) (defBody st_Reader_on) (defScope st_Reader_on) .none kV_Reader_on dc_Reader_on pm_Reader_on an_Reader_on cd_Reader_on ct_Reader_on), sl_Reader_on⟩) (c_Reader_on : PySem.W.codeIn K cd_Reader_on "Reader.on" = true) (k_Reader_on : PySem.W.keepIn K (.ref f_Reader_on) = true) {od_Beside_knots an_Beside_knots : Option Addr} {sl_Beside_knots : Array (Option Value)} {oc_Beside_knots kV_Beside_knots dc_Beside_knots pm_Beside_knots cd_Beside_knots ct_Beside_knots : Value} (l_Beside_knots : K.lookup f_Beside_knots = some ⟨oc_Beside_knots, od_Beside_knots, .func (PySem.W.fnOf "knots" "Beside.knots" (defArgs st_Beside_knots) (defBody st_Beside_knots) (defScope st_Beside_knots) .none kV_Beside_knots dc_Beside_knots pm_Beside_knots an_Beside_knots cd_Beside_knots ct_Beside_knots), sl_Beside_knots⟩) (c_Beside_knots : PySem.W.codeIn K cd_Beside_knots "Beside.knots" = true) (k_Beside_knots : PySem.W.keepIn K (.ref f_Beside_knots) = true) {od_Beside_onward an_Beside_onward : Option Addr} {sl_Beside_onward : Array (Option Value)} {oc_Beside_onward kV_Beside_onward dc_Beside_onward pm_Beside_onward cd_Beside_onward ct_Beside_onward : Value} (l_Beside_onward : K.lookup f_Beside_onward = some ⟨oc_Beside_onward, od_Beside_onward, .func (PySem.W.fnOf "onward" "Beside.onward" (defArgs st_Beside_onward) (defBody st_Beside_onward) (defScope st_Beside_onward) .none kV_Beside_onward dc_Beside_onward pm_Beside_onward an_Beside_onward cd_Beside_onward ct_Beside_onward), sl_Beside_onward⟩) (c_Beside_onward : PySem.W.codeIn K cd_Beside_onward "Beside.onward" = true) (k_Beside_onward : PySem.W.keepIn K (.ref f_Beside_onward) = true) {od_Beside_parts an_Beside_parts : Option Addr} {sl_Beside_parts : Array (Option Value)} {oc_Beside_parts kV_Beside_parts dc_Beside_parts pm_Beside_parts cd_Beside_parts ct_Beside_parts : Value} (l_Beside_parts : K.lookup f_Beside_parts = some ⟨oc_Beside_parts, od_Beside_parts, .func (PySem.W.fnOf "parts" "Beside.parts" (defArgs st_Beside_parts) (defBody st_Beside_parts) (defScope st_Beside_parts) .none kV_Beside_parts dc_Beside_parts pm_Beside_parts an_Beside_parts cd_Beside_parts ct_Beside_parts), sl_Beside_parts⟩) (c_Beside_parts : PySem.W.codeIn K cd_Beside_parts "Beside.parts" = true) (k_Beside_parts : PySem.W.keepIn K (.ref f_Beside_parts) = true) {od_states_of an_states_of : Option Addr} {sl_states_of : Array (Option Value)} {oc_states_of kV_states_of dc_states_of pm_states_of cd_states_of ct_states_of : Value} (a_states_of : PySem.W.nsIn K mainGlobals "states_of" = some (some (.ref f_states_of))) (l_states_of : K.lookup f_states_of = some ⟨oc_states_of, od_states_of, .func (PySem.W.fnOf "states_of" "states_of" (defArgs st_states_of) (defBody st_states_of) (defScope st_states_of) .none kV_states_of dc_states_of pm_states_of an_states_of cd_states_of ct_states_of), sl_states_of⟩) (c_states_of : PySem.W.codeIn K cd_states_of "states_of" = true) (k_states_of : PySem.W.keepIn K (.ref f_states_of) = true) {od_is_figures an_is_figures : Option Addr} {sl_is_figures : Array (Option Value)} {oc_is_figures kV_is_figures dc_is_figures pm_is_figures cd_is_figures ct_is_figures : Value} (a_is_figures : PySem.W.nsIn K mainGlobals "is_figures" = some (some (.ref f_is_figures))) (l_is_figures : K.lookup f_is_figures = some ⟨oc_is_figures, od_is_figures, .func (PySem.W.fnOf "is_figures" "is_figures" (defArgs st_is_figures) (defBody st_is_figures) (defScope st_is_figures) .none kV_is_figures dc_is_figures pm_is_figures an_is_figures cd_is_figures ct_is_figures), sl_is_figures⟩) (c_is_figures : PySem.W.codeIn K cd_is_figures "is_figures" = true) (k_is_figures : PySem.W.keepIn K (.ref f_is_figures) = true) {od_first_missing an_first_missing : Option Addr} {sl_first_missing : Array (Option Value)} {oc_first_missing kV_first_missing dc_first_missing pm_first_missing cd_first_missing ct_first_missing : Value} (a_first_missing : PySem.W.nsIn K mainGlobals "first_missing" = some (some (.ref f_first_missing))) (l_first_missing : K.lookup f_first_missing = some ⟨oc_first_missing, od_first_missing, .func (PySem.W.fnOf "first_missing" "first_missing" (defArgs st_first_missing) (defBody st_first_missing) (defScope st_first_missing) .none kV_first_missing dc_first_missing pm_first_missing an_first_missing cd_first_missing ct_first_missing), sl_first_missing⟩) (c_first_missing : PySem.W.codeIn K cd_first_missing "first_missing" = true) (k_first_missing : PySem.W.keepIn K (.ref f_first_missing) = true) {od__law_states an__law_states : Option Addr} {sl__law_states : Array (Option Value)} {oc__law_states kV__law_states dc__law_states pm__law_states cd__law_states ct__law_states : Value} (a__law_states : PySem.W.nsIn K mainGlobals "_law_states" = some (some (.ref f__law_states))) (l__law_states : K.lookup f__law_states = some ⟨oc__law_states, od__law_states, .func (PySem.W.fnOf "_law_states" "_law_states" (defArgs st__law_states) (defBody st__law_states) (defScope st__law_states) .none kV__law_states dc__law_states pm__law_states an__law_states cd__law_states ct__law_states), sl__law_states⟩) (c__law_states : PySem.W.codeIn K cd__law_states "_law_states" = true) (k__law_states : PySem.W.keepIn K (.ref f__law_states) = true) {od__law_places an__law_places : Option Addr} {sl__law_places : Array (Option Value)} {oc__law_places kV__law_places dc__law_places pm__law_places cd__law_places ct__law_places : Value} (a__law_places : PySem.W.nsIn K mainGlobals "_law_places" = some (some (.ref f__law_places))) (l__law_places : K.lookup f__law_places = some ⟨oc__law_places, od__law_places, .func (PySem.W.fnOf "_law_places" "_law_places" (defArgs st__law_places) (defBody st__law_places) (defScope st__law_places) .none kV__law_places dc__law_places pm__law_places an__law_places cd__law_places ct__law_places), sl__law_places⟩) (c__law_places : PySem.W.codeIn K cd__law_places "_law_places" = true) (k__law_places : PySem.W.keepIn K (.ref f__law_places) = true) {od__law_ends an__law_ends : Option Addr} {sl__law_ends : Array (Option Value)} {oc__law_ends kV__law_ends dc__law_ends pm__law_ends cd__law_ends ct__law_ends : Value} (a__law_ends : PySem.W.nsIn K mainGlobals "_law_ends" = some (some (.ref f__law_ends))) (l__law_ends : K.lookup f__law_ends = some ⟨oc__law_ends, od__law_ends, .func (PySem.W.fnOf "_law_ends" "_law_ends" (defArgs st__law_ends) (defBody st__law_ends) (defScope st__law_ends) .none kV__law_ends dc__law_ends pm__law_ends an__law_ends cd__law_ends ct__law_ends), sl__law_ends⟩) (c__law_ends : PySem.W.codeIn K cd__law_ends "_law_ends" = true) (k__law_ends : PySem.W.keepIn K (.ref f__law_ends) = true) {od__law_slipped an__law_slipped : Option Addr} {sl__law_slipped : Array (Option Value)} {oc__law_slipped kV__law_slipped dc__law_slipped pm__law_slipped cd__law_slipped ct__law_slipped : Value} (a__law_slipped : PySem.W.nsIn K mainGlobals "_law_slipped" = some (some (.ref f__law_slipped))) (l__law_slipped : K.lookup f__law_slipped = some ⟨oc__law_slipped, od__law_slipped, .func (PySem.W.fnOf "_law_slipped" "_law_slipped" (defArgs st__law_slipped) (defBody st__law_slipped) (defScope st__law_slipped) .none kV__law_slipped dc__law_slipped pm__law_slipped an__law_slipped cd__law_slipped ct__law_slipped), sl__law_slipped⟩) (c__law_slipped : PySem.W.codeIn K cd__law_slipped "_law_slipped" = true) (k__law_slipped : PySem.W.keepIn K (.ref f__law_slipped) = true) {od__law_on an__law_on : Option Addr} {sl__law_on : Array (Option Value)} {oc__law_on kV__law_on dc__law_on pm__law_on cd__law_on ct__law_on : Value} (a__law_on : PySem.W.nsIn K mainGlobals "_law_on" = some (some (.ref f__law_on))) (l__law_on : K.lookup f__law_on = some ⟨oc__law_on, od__law_on, .func (PySem.W.fnOf "_law_on" "_law_on" (defArgs st__law_on) (defBody st__law_on) (defScope st__law_on) .none kV__law_on dc__law_on pm__law_on an__law_on cd__law_on ct__law_on), sl__law_on⟩) (c__law_on : PySem.W.codeIn K cd__law_on "_law_on" = true) (k__law_on : PySem.W.keepIn K (.ref f__law_on) = true) {od__law_first an__law_first : Option Addr} {sl__law_first : Array (Option Value)} {oc__law_first kV__law_first dc__law_first pm__law_first cd__law_first ct__law_first : Value} (a__law_first : PySem.W.nsIn K mainGlobals "_law_first" = some (some (.ref f__law_first))) (l__law_first : K.lookup f__law_first = some ⟨oc__law_first, od__law_first, .func (PySem.W.fnOf "_law_first" "_law_first" (defArgs st__law_first) (defBody st__law_first) (defScope st__law_first) .none kV__law_first dc__law_first pm__law_first an__law_first cd__law_first ct__law_first), sl__law_first⟩) (c__law_first : PySem.W.codeIn K cd__law_first "_law_first" = true) (k__law_first : PySem.W.keepIn K (.ref f__law_first) = true) {od_law an_law : Option Addr} {sl_law : Array (Option Value)} {oc_law kV_law dc_law pm_law cd_law ct_law : Value} (a_law : PySem.W.nsIn K mainGlobals "law" = some (some (.ref f_law))) (l_law : K.lookup f_law = some ⟨oc_law, od_law, .func (PySem.W.fnOf "law" "law" (defArgs st_law) (defBody st_law) (defScope st_law) .none kV_law dc_law pm_law an_law cd_law ct_law), sl_law⟩) (c_law : PySem.W.codeIn K cd_law "law" = true) (k_law : PySem.W.keepIn K (.ref f_law) = true) (n_list : PySem.W.nsIn K mainGlobals "list" = some none) (n_sum : PySem.W.nsIn K mainGlobals "sum" = some none) (n_len : PySem.W.nsIn K mainGlobals "len" = some none) (n_range : PySem.W.nsIn K mainGlobals "range" = some none) (n_int : PySem.W.nsIn K mainGlobals "int" = some none) (n_sorted : PySem.W.nsIn K mainGlobals "sorted" = some none) (n_tuple : PySem.W.nsIn K mainGlobals "tuple" = some none) (n_set : PySem.W.nsIn K mainGlobals "set" = some none) (n_dict : PySem.W.nsIn K mainGlobals "dict" = some none) (n_any : PySem.W.nsIn K mainGlobals "any" = some none) (n_isinstance : PySem.W.nsIn K mainGlobals "isinstance" = some none) (n_str : PySem.W.nsIn K mainGlobals "str" = some none) (n_all : PySem.W.nsIn K mainGlobals "all" = some none) (n_repr : PySem.W.nsIn K mainGlobals "repr" = some none) (opg_Reader : PySem.W.plainGet K f_Reader Str.empty = true) (ohd_Reader : PySem.W.hasDictIn K f_Reader = true) (opo_Reader : PySem.W.plainOver K f_Reader = true) (osa_Reader : PySem.W.findIn K (.ref f_Reader) "__setattr__" = some (some (.builtin "object.__setattr__"))) (omk_Reader : PySem.W.makesIn K f_Reader = true) (okc_Reader : PySem.W.keepIn K (.ref f_Reader) = true) (ons_Reader : PySem.W.nsIn K mainGlobals "Reader" = some (some (.ref f_Reader))) (on_Reader_leads : PySem.W.findIn K (.ref f_Reader) "leads" = some none) (opg_Beside : PySem.W.plainGet K f_Beside Str.empty = true) (ohd_Beside : PySem.W.hasDictIn K f_Beside = true) (opo_Beside : PySem.W.plainOver K f_Beside = true) (osa_Beside : PySem.W.findIn K (.ref f_Beside) "__setattr__" = some (some (.builtin "object.__setattr__"))) (omk_Beside : PySem.W.makesIn K f_Beside = true) (okc_Beside : PySem.W.keepIn K (.ref f_Beside) = true) (ons_Beside : PySem.W.nsIn K mainGlobals "Beside" = some (some (.ref f_Beside))) (on_Beside_first : PySem.W.findIn K (.ref f_Beside) "first" = some none) (on_Beside_second : PySem.W.findIn K (.ref f_Beside) "second" = some none) (on_Beside_first_ends : PySem.W.findIn K (.ref f_Beside) "first_ends" = some none) (on_Beside_second_ends : PySem.W.findIn K (.ref f_Beside) "second_ends" = some none) (oa_Reader_init : PySem.W.findIn K (.ref f_Reader) "__init__" = some (some (.ref f_Reader_init))) (oi_Reader_init : PySem.W.isFn K (.ref f_Reader_init) = true) (oa_Beside_init : PySem.W.findIn K (.ref f_Beside) "__init__" = some (some (.ref f_Beside_init))) (oi_Beside_init : PySem.W.isFn K (.ref f_Beside_init) = true) (oa_Reader_by : PySem.W.findIn K (.ref f_Reader) "by" = some (some (.ref f_Reader_by))) (oi_Reader_by : PySem.W.isFn K (.ref f_Reader_by) = true) (oa_Reader_slipped : PySem.W.findIn K (.ref f_Reader) "slipped" = some (some (.ref f_Reader_slipped))) (oi_Reader_slipped : PySem.W.isFn K (.ref f_Reader_slipped) = true) (oa_Reader_on : PySem.W.findIn K (.ref f_Reader) "on" = some (some (.ref f_Reader_on))) (oi_Reader_on : PySem.W.isFn K (.ref f_Reader_on) = true) (oa_Beside_knots : PySem.W.findIn K (.ref f_Beside) "knots" = some (some (.ref f_Beside_knots))) (oi_Beside_knots : PySem.W.isFn K (.ref f_Beside_knots) = true) (oa_Beside_onward : PySem.W.findIn K (.ref f_Beside) "onward" = some (some (.ref f_Beside_onward))) (oi_Beside_onward : PySem.W.isFn K (.ref f_Beside_onward) = true) (oa_Beside_parts : PySem.W.findIn K (.ref f_Beside) "parts" = some (some (.ref f_Beside_parts))) (oi_Beside_parts : PySem.W.isFn K (.ref f_Beside_parts) = true) :
    ∃ fd : FuncData, (∀ (s : Shared) (v : Value), BindsTo s fd ⟨[v], []⟩ [("_law_script", v)]) ∧ ∀ base : Heap, K.In base → base.Ns mainGlobals mg → FnG PySem.Challenge.pw_pileruns_k17_first_missing w K mg base CX0 6 fa fd ["_law_script"] (spLawH K) := by
  have e := hfa.symm.trans (PySem.W.mg_of XX GG0 a_law)
  cases e
  have z_list := PySem.W.mg_none_of XX GG0 n_list
  have z_sum := PySem.W.mg_none_of XX GG0 n_sum
  have z_len := PySem.W.mg_none_of XX GG0 n_len
  have z_range := PySem.W.mg_none_of XX GG0 n_range
  have z_int := PySem.W.mg_none_of XX GG0 n_int
  have z_sorted := PySem.W.mg_none_of XX GG0 n_sorted
  have z_tuple := PySem.W.mg_none_of XX GG0 n_tuple
  have z_set := PySem.W.mg_none_of XX GG0 n_set
  have z_dict := PySem.W.mg_none_of XX GG0 n_dict
  have z_any := PySem.W.mg_none_of XX GG0 n_any
  have z_isinstance := PySem.W.mg_none_of XX GG0 n_isinstance
  have z_str := PySem.W.mg_none_of XX GG0 n_str
  have z_all := PySem.W.mg_none_of XX GG0 n_all
  have z_repr := PySem.W.mg_none_of XX GG0 n_repr
  have F__law_deck := fun_mk (st := st__law_deck) l__law_deck c__law_deck k__law_deck
  have g__law_deck := PySem.W.mg_of XX GG0 a__law_deck
  have b__law_deck := F__law_deck.binds (ps := ["_law_script"]) fun _ _ _ _ _ _ us hl => match us, hl with | [_], _ => rfl
  have F__law_draw := fun_mk (st := st__law_draw) l__law_draw c__law_draw k__law_draw
  have g__law_draw := PySem.W.mg_of XX GG0 a__law_draw
  have b__law_draw := F__law_draw.binds (ps := ["_law_deck_here", "_law_most"]) fun _ _ _ _ _ _ us hl => match us, hl with | [_, _], _ => rfl
  have F__law_names := fun_mk (st := st__law_names) l__law_names c__law_names k__law_names
  have g__law_names := PySem.W.mg_of XX GG0 a__law_names
  have b__law_names := F__law_names.binds (ps := ["_law_deck_here", "_law_many"]) fun _ _ _ _ _ _ us hl => match us, hl with | [_, _], _ => rfl
  have F__law_numbers := fun_mk (st := st__law_numbers) l__law_numbers c__law_numbers k__law_numbers
  have g__law_numbers := PySem.W.mg_of XX GG0 a__law_numbers
  have b__law_numbers := F__law_numbers.binds (ps := ["_law_deck_here", "_law_most"]) fun _ _ _ _ _ _ us hl => match us, hl with | [_, _], _ => rfl
  have F__law_pick := fun_mk (st := st__law_pick) l__law_pick c__law_pick k__law_pick
  have g__law_pick := PySem.W.mg_of XX GG0 a__law_pick
  have b__law_pick := F__law_pick.binds (ps := ["_law_deck_here", "_law_some"]) fun _ _ _ _ _ _ us hl => match us, hl with | [_, _], _ => rfl
  have F__law_machine := fun_mk (st := st__law_machine) l__law_machine c__law_machine k__law_machine
  have g__law_machine := PySem.W.mg_of XX GG0 a__law_machine
  have b__law_machine := F__law_machine.binds (ps := ["_law_deck_here", "_law_places_here", "_law_marks", "_law_sort", "_law_most"]) fun _ _ _ _ _ _ us hl => match us, hl with | [_, _, _, _, _], _ => rfl
  have F__law_nearby := fun_mk (st := st__law_nearby) l__law_nearby c__law_nearby k__law_nearby
  have g__law_nearby := PySem.W.mg_of XX GG0 a__law_nearby
  have b__law_nearby := F__law_nearby.binds (ps := ["_law_deck_here", "_law_machine_here", "_law_places_here", "_law_marks", "_law_most"]) fun _ _ _ _ _ _ us hl => match us, hl with | [_, _, _, _, _], _ => rfl
  have F_Reader_init := fun_mk (st := st_Reader_init) l_Reader_init c_Reader_init k_Reader_init
  have b_Reader_init := F_Reader_init.binds (ps := ["self", "edges"]) fun _ _ _ _ _ _ us hl => match us, hl with | [_, _], _ => rfl
  have F_Beside_init := fun_mk (st := st_Beside_init) l_Beside_init c_Beside_init k_Beside_init
  have b_Beside_init := F_Beside_init.binds (ps := ["self", "one", "other"]) fun _ _ _ _ _ _ us hl => match us, hl with | [_, _, _], _ => rfl
  have F_marks_of := fun_mk (st := st_marks_of) l_marks_of c_marks_of k_marks_of
  have g_marks_of := PySem.W.mg_of XX GG0 a_marks_of
  have b_marks_of := F_marks_of.binds (ps := ["machine"]) fun _ _ _ _ _ _ us hl => match us, hl with | [_], _ => rfl
  have F_Reader_by := fun_mk (st := st_Reader_by) l_Reader_by c_Reader_by k_Reader_by
  have b_Reader_by := F_Reader_by.binds (ps := ["self", "state", "mark"]) fun _ _ _ _ _ _ us hl => match us, hl with | [_, _, _], _ => rfl
  have F_Reader_slipped := fun_mk (st := st_Reader_slipped) l_Reader_slipped c_Reader_slipped k_Reader_slipped
  have b_Reader_slipped := F_Reader_slipped.binds (ps := ["self", "states"]) fun _ _ _ _ _ _ us hl => match us, hl with | [_, _], _ => rfl
  have F_Reader_on := fun_mk (st := st_Reader_on) l_Reader_on c_Reader_on k_Reader_on
  have b_Reader_on := F_Reader_on.binds (ps := ["self", "states", "mark"]) fun _ _ _ _ _ _ us hl => match us, hl with | [_, _, _], _ => rfl
  have F_Beside_knots := fun_mk (st := st_Beside_knots) l_Beside_knots c_Beside_knots k_Beside_knots
  have b_Beside_knots := F_Beside_knots.binds (ps := ["self", "stand", "some", "states"]) fun _ _ _ _ _ _ us hl => match us, hl with | [_, _, _, _], _ => rfl
  have F_Beside_onward := fun_mk (st := st_Beside_onward) l_Beside_onward c_Beside_onward k_Beside_onward
  have b_Beside_onward := F_Beside_onward.binds (ps := ["self", "row", "marks"]) fun _ _ _ _ _ _ us hl => match us, hl with | [_, _, _], _ => rfl
  have F_Beside_parts := fun_mk (st := st_Beside_parts) l_Beside_parts c_Beside_parts k_Beside_parts
  have b_Beside_parts := F_Beside_parts.binds (ps := ["self", "state", "states"]) fun _ _ _ _ _ _ us hl => match us, hl with | [_, _, _], _ => rfl
  have F_states_of := fun_mk (st := st_states_of) l_states_of c_states_of k_states_of
  have g_states_of := PySem.W.mg_of XX GG0 a_states_of
  have b_states_of := F_states_of.binds (ps := ["machine"]) fun _ _ _ _ _ _ us hl => match us, hl with | [_], _ => rfl
  have F_is_figures := fun_mk (st := st_is_figures) l_is_figures c_is_figures k_is_figures
  have g_is_figures := PySem.W.mg_of XX GG0 a_is_figures
  have b_is_figures := F_is_figures.binds (ps := ["thing"]) fun _ _ _ _ _ _ us hl => match us, hl with | [_], _ => rfl
  have F_first_missing := fun_mk (st := st_first_missing) l_first_missing c_first_missing k_first_missing
  have g_first_missing := PySem.W.mg_of XX GG0 a_first_missing
  have b_first_missing := F_first_missing.binds (ps := ["one", "other"]) fun _ _ _ _ _ _ us hl => match us, hl with | [_, _], _ => rfl
  have F__law_states := fun_mk (st := st__law_states) l__law_states c__law_states k__law_states
  have g__law_states := PySem.W.mg_of XX GG0 a__law_states
  have b__law_states := F__law_states.binds (ps := ["_law_machine_here"]) fun _ _ _ _ _ _ us hl => match us, hl with | [_], _ => rfl
  have F__law_places := fun_mk (st := st__law_places) l__law_places c__law_places k__law_places
  have g__law_places := PySem.W.mg_of XX GG0 a__law_places
  have b__law_places := F__law_places.binds (ps := ["_law_machine_here"]) fun _ _ _ _ _ _ us hl => match us, hl with | [_], _ => rfl
  have F__law_ends := fun_mk (st := st__law_ends) l__law_ends c__law_ends k__law_ends
  have g__law_ends := PySem.W.mg_of XX GG0 a__law_ends
  have b__law_ends := F__law_ends.binds (ps := ["_law_machine_here", "_law_states_here"]) fun _ _ _ _ _ _ us hl => match us, hl with | [_, _], _ => rfl
  have F__law_slipped := fun_mk (st := st__law_slipped) l__law_slipped c__law_slipped k__law_slipped
  have g__law_slipped := PySem.W.mg_of XX GG0 a__law_slipped
  have b__law_slipped := F__law_slipped.binds (ps := ["_law_machine_here", "_law_states_here"]) fun _ _ _ _ _ _ us hl => match us, hl with | [_, _], _ => rfl
  have F__law_on := fun_mk (st := st__law_on) l__law_on c__law_on k__law_on
  have g__law_on := PySem.W.mg_of XX GG0 a__law_on
  have b__law_on := F__law_on.binds (ps := ["_law_machine_here", "_law_states_here", "_law_mark"]) fun _ _ _ _ _ _ us hl => match us, hl with | [_, _, _], _ => rfl
  have F__law_first := fun_mk (st := st__law_first) l__law_first c__law_first k__law_first
  have g__law_first := PySem.W.mg_of XX GG0 a__law_first
  have b__law_first := F__law_first.binds (ps := ["_law_one", "_law_other", "_law_marks"]) fun _ _ _ _ _ _ us hl => match us, hl with | [_, _, _], _ => rfl
  have F_law := fun_mk (st := st_law) l_law c_law k_law
  have g_law := PySem.W.mg_of XX GG0 a_law
  have TC : Owns K mg f_Reader f_Beside f_Reader_init f_Beside_init f_Reader_by f_Reader_slipped f_Reader_on f_Beside_knots f_Beside_onward f_Beside_parts := ⟨⟨opg_Reader, ohd_Reader, opo_Reader, osa_Reader⟩, PySem.W.mg_of XX GG0 ons_Reader, on_Reader_leads, ⟨opg_Beside, ohd_Beside, opo_Beside, osa_Beside⟩, PySem.W.mg_of XX GG0 ons_Beside, on_Beside_first, on_Beside_second, on_Beside_first_ends, on_Beside_second_ends, ⟨omk_Reader, oa_Reader_init, oi_Reader_init, okc_Reader⟩, ⟨omk_Beside, oa_Beside_init, oi_Beside_init, okc_Beside⟩, ⟨oa_Reader_by, oi_Reader_by, k_Reader_by⟩, ⟨oa_Reader_slipped, oi_Reader_slipped, k_Reader_slipped⟩, ⟨oa_Reader_on, oi_Reader_on, k_Reader_on⟩, ⟨oa_Beside_knots, oi_Beside_knots, k_Beside_knots⟩, ⟨oa_Beside_onward, oi_Beside_onward, k_Beside_onward⟩, ⟨oa_Beside_parts, oi_Beside_parts, k_Beside_parts⟩⟩
  refine ⟨PySem.W.fnOf "law" "law" (defArgs st_law) (defBody st_law) (defScope st_law) .none kV_law dc_law pm_law an_law cd_law ct_law, fun s v => .of_eq rfl, fun base _ _ => ?_⟩
  have G__law_deck : FnOk PySem.Challenge.pw_pileruns_k17_first_missing w K mg base CX0 1 f__law_deck _ ["_law_script"] (spDeckH K) := ok__law_deck F__law_deck z_list z_sum z_len
  have G__law_draw : FnOk PySem.Challenge.pw_pileruns_k17_first_missing w K mg base CX0 1 f__law_draw _ ["_law_deck_here", "_law_most"] (toSp K sp__law_draw) := ok__law_draw F__law_draw
  have G__law_names : FnOk PySem.Challenge.pw_pileruns_k17_first_missing w K mg base CX0 2 f__law_names _ ["_law_deck_here", "_law_many"] (toSp K sp__law_names) := ok__law_names F__law_names G__law_draw g__law_draw k__law_draw b__law_draw z_range z_int z_len z_list
  have G__law_numbers : FnOk PySem.Challenge.pw_pileruns_k17_first_missing w K mg base CX0 2 f__law_numbers _ ["_law_deck_here", "_law_most"] (toSp K sp__law_numbers) := ok__law_numbers F__law_numbers G__law_draw g__law_draw k__law_draw b__law_draw z_sorted
  have G__law_pick : FnOk PySem.Challenge.pw_pileruns_k17_first_missing w K mg base CX0 2 f__law_pick _ ["_law_deck_here", "_law_some"] (toSp K sp__law_pick) := ok__law_pick F__law_pick G__law_draw g__law_draw k__law_draw b__law_draw z_len
  have G__law_machine : FnOk PySem.Challenge.pw_pileruns_k17_first_missing w K mg base CX0 3 f__law_machine _ ["_law_deck_here", "_law_places_here", "_law_marks", "_law_sort", "_law_most"] (toSp K sp__law_machine) := ok__law_machine F__law_machine G__law_draw g__law_draw k__law_draw b__law_draw G__law_numbers g__law_numbers k__law_numbers b__law_numbers G__law_pick g__law_pick k__law_pick b__law_pick z_list z_range z_int z_tuple z_sorted
  have G__law_nearby : FnOk PySem.Challenge.pw_pileruns_k17_first_missing w K mg base CX0 4 f__law_nearby _ ["_law_deck_here", "_law_machine_here", "_law_places_here", "_law_marks", "_law_most"] (toSp K sp__law_nearby) := ok__law_nearby F__law_nearby G__law_draw g__law_draw k__law_draw b__law_draw G__law_machine g__law_machine k__law_machine b__law_machine z_list z_range z_len z_tuple z_sorted z_set
  have G_Reader_init : FnOk PySem.Challenge.pw_pileruns_k17_first_missing w K mg base CX0 1 f_Reader_init _ ["self", "edges"] (toSp K (sp_Reader_init f_Reader)) := ok_Reader_init TC F_Reader_init
  have G_Beside_init : FnOk PySem.Challenge.pw_pileruns_k17_first_missing w K mg base CX0 3 f_Beside_init _ ["self", "one", "other"] (toSp K (sp_Beside_init f_Beside f_Reader)) := ok_Beside_init TC F_Beside_init G_Reader_init b_Reader_init
  have G_marks_of : FnOk PySem.Challenge.pw_pileruns_k17_first_missing w K mg base CX0 1 f_marks_of _ ["machine"] (toSp K sp_marks_of) := ok_marks_of F_marks_of z_sorted z_dict
  have G_Reader_by : FnOk PySem.Challenge.pw_pileruns_k17_first_missing w K mg base CX0 1 f_Reader_by _ ["self", "state", "mark"] (toSp K (sp_Reader_by f_Reader)) := ok_Reader_by TC F_Reader_by
  have G_Reader_slipped : FnOk PySem.Challenge.pw_pileruns_k17_first_missing w K mg base CX0 2 f_Reader_slipped _ ["self", "states"] (toSp K (sp_Reader_slipped f_Reader)) := ok_Reader_slipped TC F_Reader_slipped G_Reader_by b_Reader_by z_list z_tuple z_sorted
  have G_Reader_on : FnOk PySem.Challenge.pw_pileruns_k17_first_missing w K mg base CX0 3 f_Reader_on _ ["self", "states", "mark"] (toSp K (sp_Reader_on f_Reader)) := ok_Reader_on TC F_Reader_on G_Reader_by b_Reader_by G_Reader_slipped b_Reader_slipped
  have G_Beside_knots : FnOk PySem.Challenge.pw_pileruns_k17_first_missing w K mg base CX0 3 f_Beside_knots _ ["self", "stand", "some", "states"] (toSp K (sp_Beside_knots f_Beside f_Reader)) := ok_Beside_knots TC F_Beside_knots G_Reader_slipped b_Reader_slipped
  have G_Beside_onward : FnOk PySem.Challenge.pw_pileruns_k17_first_missing w K mg base CX0 4 f_Beside_onward _ ["self", "row", "marks"] (toSp K (sp_Beside_onward f_Beside f_Reader)) := ok_Beside_onward TC F_Beside_onward G_Reader_by b_Reader_by G_Reader_on b_Reader_on G_Beside_knots b_Beside_knots
  have G_Beside_parts : FnOk PySem.Challenge.pw_pileruns_k17_first_missing w K mg base CX0 1 f_Beside_parts _ ["self", "state", "states"] (toSp K (sp_Beside_parts f_Beside f_Reader)) := ok_Beside_parts TC F_Beside_parts z_any
  have G_states_of : FnOk PySem.Challenge.pw_pileruns_k17_first_missing w K mg base CX0 1 f_states_of _ ["machine"] (toSp K sp_states_of) := ok_states_of F_states_of z_tuple z_sorted
  have G_is_figures : FnOk PySem.Challenge.pw_pileruns_k17_first_missing w K mg base CX0 1 f_is_figures _ ["thing"] (toSp K sp_is_figures) := ok_is_figures F_is_figures z_isinstance z_str z_all
  have G_first_missing : FnOk PySem.Challenge.pw_pileruns_k17_first_missing w K mg base CX0 5 f_first_missing _ ["one", "other"] (toSp K (sp_first_missing f_Beside f_Reader)) := ok_first_missing TC F_first_missing G_Beside_init b_Beside_init G_marks_of g_marks_of k_marks_of b_marks_of G_states_of g_states_of k_states_of b_states_of G_is_figures g_is_figures k_is_figures b_is_figures G_Beside_knots b_Beside_knots G_Reader_slipped b_Reader_slipped G_Beside_parts b_Beside_parts G_Beside_onward b_Beside_onward z_sorted
  have G__law_states : FnOk PySem.Challenge.pw_pileruns_k17_first_missing w K mg base CX0 1 f__law_states _ ["_law_machine_here"] (toSp K sp__law_states) := ok__law_states F__law_states z_sorted z_set z_list
  have G__law_places : FnOk PySem.Challenge.pw_pileruns_k17_first_missing w K mg base CX0 2 f__law_places _ ["_law_machine_here"] (toSp K sp__law_places) := ok__law_places F__law_places G__law_states g__law_states k__law_states b__law_states
  have G__law_ends : FnOk PySem.Challenge.pw_pileruns_k17_first_missing w K mg base CX0 1 f__law_ends _ ["_law_machine_here", "_law_states_here"] (toSp K sp__law_ends) := ok__law_ends F__law_ends
  have G__law_slipped : FnOk PySem.Challenge.pw_pileruns_k17_first_missing w K mg base CX0 1 f__law_slipped _ ["_law_machine_here", "_law_states_here"] (toSp K sp__law_slipped) := ok__law_slipped F__law_slipped z_list z_len
  have G__law_on : FnOk PySem.Challenge.pw_pileruns_k17_first_missing w K mg base CX0 2 f__law_on _ ["_law_machine_here", "_law_states_here", "_law_mark"] (toSp K sp__law_on) := ok__law_on F__law_on G__law_slipped g__law_slipped k__law_slipped b__law_slipped z_tuple
  have G__law_first : FnOk PySem.Challenge.pw_pileruns_k17_first_missing w K mg base CX0 3 f__law_first _ ["_law_one", "_law_other", "_law_marks"] (toSp K sp__law_first) := ok__law_first F__law_first G__law_places g__law_places k__law_places b__law_places G__law_slipped g__law_slipped k__law_slipped b__law_slipped G__law_ends g__law_ends k__law_ends b__law_ends G__law_on g__law_on k__law_on b__law_on z_tuple z_sorted z_set
  exact ok_law TC F_law G__law_draw g__law_draw k__law_draw b__law_draw G__law_names g__law_names k__law_names b__law_names G__law_machine g__law_machine k__law_machine b__law_machine G__law_nearby g__law_nearby k__law_nearby b__law_nearby G_first_missing g_first_missing k_first_missing b_first_missing G__law_first g__law_first k__law_first b__law_first G__law_deck g__law_deck k__law_deck b__law_deck z_range z_sorted z_repr
end
end pileruns_k17_first_missing
open PySem PySem.W PyProof.Rows
set_option maxHeartbeats 0 in
theorem PySem.Challenge.cw_pileruns_k17_first_missing_holds : PySem.Challenge.rw_pileruns_k17_first_missing.Holds := by
  w_on; o_law; k_head; (case hw => w_witness2)
  k_fill
  refine DM.walk_ofG (l := PySem.Challenge.rw_pileruns_k17_first_missing) (k := 6) (x := "_law_script") rfl rfl ⟨rfl, by decide, by decide⟩ (fun w h Y => PySem.W.kIn_of Y) ?F
  case F =>
    intro w mg fa h KX G hmg
    refine' pileruns_k17_first_missing.all_mk KX G hmg ?a__law_deck ?l__law_deck ?c__law_deck ?k__law_deck ?a__law_draw ?l__law_draw ?c__law_draw ?k__law_draw ?a__law_names ?l__law_names ?c__law_names ?k__law_names ?a__law_numbers ?l__law_numbers ?c__law_numbers ?k__law_numbers ?a__law_pick ?l__law_pick ?c__law_pick ?k__law_pick ?a__law_machine ?l__law_machine ?c__law_machine ?k__law_machine ?a__law_nearby ?l__law_nearby ?c__law_nearby ?k__law_nearby ?l_Reader_init ?c_Reader_init ?k_Reader_init ?l_Beside_init ?c_Beside_init ?k_Beside_init ?a_marks_of ?l_marks_of ?c_marks_of ?k_marks_of ?l_Reader_by ?c_Reader_by ?k_Reader_by ?l_Reader_slipped ?c_Reader_slipped ?k_Reader_slipped ?l_Reader_on ?c_Reader_on ?k_Reader_on ?l_Beside_knots ?c_Beside_knots ?k_Beside_knots ?l_Beside_onward ?c_Beside_onward ?k_Beside_onward ?l_Beside_parts ?c_Beside_parts ?k_Beside_parts ?a_states_of ?l_states_of ?c_states_of ?k_states_of ?a_is_figures ?l_is_figures ?c_is_figures ?k_is_figures ?a_first_missing ?l_first_missing ?c_first_missing ?k_first_missing ?a__law_states ?l__law_states ?c__law_states ?k__law_states ?a__law_places ?l__law_places ?c__law_places ?k__law_places ?a__law_ends ?l__law_ends ?c__law_ends ?k__law_ends ?a__law_slipped ?l__law_slipped ?c__law_slipped ?k__law_slipped ?a__law_on ?l__law_on ?c__law_on ?k__law_on ?a__law_first ?l__law_first ?c__law_first ?k__law_first ?a_law ?l_law ?c_law ?k_law ?n_list ?n_sum ?n_len ?n_range ?n_int ?n_sorted ?n_tuple ?n_set ?n_dict ?n_any ?n_isinstance ?n_str ?n_all ?n_repr ?opg_Reader ?ohd_Reader ?opo_Reader ?osa_Reader ?omk_Reader ?okc_Reader ?ons_Reader ?on_Reader_leads ?opg_Beside ?ohd_Beside ?opo_Beside ?osa_Beside ?omk_Beside ?okc_Beside ?ons_Beside ?on_Beside_first ?on_Beside_second ?on_Beside_first_ends ?on_Beside_second_ends ?oa_Reader_init ?oi_Reader_init ?oa_Beside_init ?oi_Beside_init ?oa_Reader_by ?oi_Reader_by ?oa_Reader_slipped ?oi_Reader_slipped ?oa_Reader_on ?oi_Reader_on ?oa_Beside_knots ?oi_Beside_knots ?oa_Beside_onward ?oi_Beside_onward ?oa_Beside_parts ?oi_Beside_parts
    (case ons_Reader => k_is); (case ons_Beside => k_is); (case opg_Reader => k_is); (case ohd_Reader => k_is); (case opo_Reader => k_is); (case osa_Reader => k_is); (case omk_Reader => k_is); (case okc_Reader => k_is); (case on_Reader_leads => k_is); (case opg_Beside => k_is); (case ohd_Beside => k_is); (case opo_Beside => k_is); (case osa_Beside => k_is); (case omk_Beside => k_is); (case okc_Beside => k_is); (case on_Beside_first => k_is); (case on_Beside_second => k_is); (case on_Beside_first_ends => k_is); (case on_Beside_second_ends => k_is); (case oa_Reader_init => k_is); (case oi_Reader_init => k_is); (case oa_Beside_init => k_is); (case oi_Beside_init => k_is); (case oa_Reader_by => k_is); (case oi_Reader_by => k_is); (case oa_Reader_slipped => k_is); (case oi_Reader_slipped => k_is); (case oa_Reader_on => k_is); (case oi_Reader_on => k_is); (case oa_Beside_knots => k_is); (case oi_Beside_knots => k_is); (case oa_Beside_onward => k_is); (case oi_Beside_onward => k_is); (case oa_Beside_parts => k_is); (case oi_Beside_parts => k_is); (case a__law_deck => k_is); (case l__law_deck => k_is); (case c__law_deck => k_is); (case k__law_deck => k_is); (case a__law_draw => k_is); (case l__law_draw => k_is); (case c__law_draw => k_is); (case k__law_draw => k_is); (case a__law_names => k_is); (case l__law_names => k_is); (case c__law_names => k_is); (case k__law_names => k_is); (case a__law_numbers => k_is); (case l__law_numbers => k_is); (case c__law_numbers => k_is); (case k__law_numbers => k_is); (case a__law_pick => k_is); (case l__law_pick => k_is); (case c__law_pick => k_is); (case k__law_pick => k_is); (case a__law_machine => k_is); (case l__law_machine => k_is); (case c__law_machine => k_is); (case k__law_machine => k_is); (case a__law_nearby => k_is); (case l__law_nearby => k_is); (case c__law_nearby => k_is); (case k__law_nearby => k_is); (case l_Reader_init => k_is); (case c_Reader_init => k_is); (case k_Reader_init => k_is); (case l_Beside_init => k_is); (case c_Beside_init => k_is); (case k_Beside_init => k_is); (case a_marks_of => k_is); (case l_marks_of => k_is); (case c_marks_of => k_is); (case k_marks_of => k_is); (case l_Reader_by => k_is); (case c_Reader_by => k_is); (case k_Reader_by => k_is); (case l_Reader_slipped => k_is); (case c_Reader_slipped => k_is); (case k_Reader_slipped => k_is); (case l_Reader_on => k_is); (case c_Reader_on => k_is); (case k_Reader_on => k_is); (case l_Beside_knots => k_is); (case c_Beside_knots => k_is); (case k_Beside_knots => k_is); (case l_Beside_onward => k_is); (case c_Beside_onward => k_is); (case k_Beside_onward => k_is); (case l_Beside_parts => k_is); (case c_Beside_parts => k_is); (case k_Beside_parts => k_is); (case a_states_of => k_is); (case l_states_of => k_is); (case c_states_of => k_is); (case k_states_of => k_is); (case a_is_figures => k_is); (case l_is_figures => k_is); (case c_is_figures => k_is); (case k_is_figures => k_is); (case a_first_missing => k_is); (case l_first_missing => k_is); (case c_first_missing => k_is); (case k_first_missing => k_is); (case a__law_states => k_is); (case l__law_states => k_is); (case c__law_states => k_is); (case k__law_states => k_is); (case a__law_places => k_is); (case l__law_places => k_is); (case c__law_places => k_is); (case k__law_places => k_is); (case a__law_ends => k_is); (case l__law_ends => k_is); (case c__law_ends => k_is); (case k__law_ends => k_is); (case a__law_slipped => k_is); (case l__law_slipped => k_is); (case c__law_slipped => k_is); (case k__law_slipped => k_is); (case a__law_on => k_is); (case l__law_on => k_is); (case c__law_on => k_is); (case k__law_on => k_is); (case a__law_first => k_is); (case l__law_first => k_is); (case c__law_first => k_is); (case k__law_first => k_is); (case a_law => k_is); (case l_law => k_is); (case c_law => k_is); (case k_law => k_is); (case n_list => k_is); (case n_sum => k_is); (case n_len => k_is); (case n_range => k_is); (case n_int => k_is); (case n_sorted => k_is); (case n_tuple => k_is); (case n_set => k_is); (case n_dict => k_is); (case n_any => k_is); (case n_isinstance => k_is); (case n_str => k_is); (case n_all => k_is); (case n_repr => k_is)
