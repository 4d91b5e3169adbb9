import PyProof.Rows.All
import Wide.All
import OpenK.AllK
import Wide.FinOn
import HandS.ForMost
import HandS.TupAny
import HandS.Deep
import HandS.Wide
import HandS.IsInst
import HandS.Walk
import HandS.More
import HandS.Zip
import HandS.Rev
import HandS.WordsDict
import HandS.DictComp
import HandS.Flow
import KE.GoesZip
import KE.GoesMore
import KE.GoesEnum
import HandS.RevTup
import HandS.Strs
import HandS.Gcd
import HandS.NoneIn
import HandS.Comp
import PySem.Challenge.RW_spentwithin_k54_bound_problem
set_option Elab.async false
set_option linter.all false
set_option maxRecDepth 100000
set_option autoImplicit false
/-! PF: tuples that the run makes, with the object told (it has no dict) -/
namespace Pv
open PySem PySem.Spec PyProof.Rows L2
section
variable {X : Cx}
abbrev tupO (us : List Value) : Obj := { cls := .type "tuple", data := .seq us.toArray }
theorem inv_frz {pins : List (Addr × Obj)} {σ : L2.St} {H : Hp} {s : Shared} {ys : List V} {us : List Value} (I : Inv X pins σ H s) (hv : Vals ys us) (hl : ys.length ≤ sizeLine) :
    H s.heap.objs.size = none ∧ Inv X pins σ (upd H s.heap.objs.size (.frz (tupO us) (.tup ys))) { s with heap := s.heap.push (tupO us) } := by
  refine ⟨I.hok.fresh (Nat.le_refl _), I.laid (t' := s.toks) (fun b u q => Heap.get?_push_of_some _ q) (Nat.le_refl _) ?_⟩
  exact ⟨Heap.get?_push_size _ rfl, hl, us, hv, IsTup.new s.heap us.toArray⟩
theorem call_tupF : CallR X (.type "tuple") fun xs H Q => ∃ p ys, xs = [.ref p] ∧ ((SqL X.K H p ys ∧ ∀ l o, H l = none → o.dict = none → Q (.ref l) (upd H l (.frz o (.tup ys)))) ∨ SqT X.K H p ys ∧ Q (.ref p) H) := by
  intro pins s σ H xs us Q I r q
  obtain ⟨p, ys, rfl, h⟩ := q
  rcases h with ⟨hq, q⟩ | h
  · have r0 := r
    cases r0 with
    | cons r1 rr =>
      cases rr
      cases r1
      obtain ⟨its, rv, pl, hz⟩ := I.list hq
      refine call_tuple_list pl.isList (fun h' hk => ?_) (by simpa [rv.length] using hz)
      obtain ⟨h1, I'⟩ := inv_frz (I.kept (t' := s.toks) hk) rv hz
      exact ⟨.ref _, _, I', rfl, q _ _ h1 rfl⟩
  · exact call_tuple_of pins s σ H _ us Q I r ⟨p, ys, rfl, .inr h⟩
/-- t + u, with the new tuple's object told -/
def rCatF (K : PySem.W.Frag) : R2 := fun x y H Q => ∃ a b xs ys, x = .ref a ∧ y = .ref b ∧ SqT K H a xs ∧ SqT K H b ys ∧ xs.length + ys.length ≤ sizeLine ∧ (xs = [] → Q (.ref b) H) ∧ (xs ≠ [] → ys = [] → Q (.ref a) H) ∧ (xs ≠ [] → ys ≠ [] → ∀ p o, H p = none → o.dict = none → Q (.ref p) (upd H p (.frz o (.tup (xs ++ ys)))))
theorem op_catF : OpR X (binaryOp .Add) (rCatF X.K) := by
  intro pins s σ H x y v u Q I r1 r2 q
  obtain ⟨a, b, xs, ys, rfl, rfl, h1, h2, hl, q1, q2, q3⟩ := q
  by_cases hx : xs = []
  · exact op_catA pins s σ H _ _ v u Q I r1 r2 ⟨a, b, xs, ys, rfl, rfl, h1, h2, hl, q1, fun h => absurd hx h, fun h => absurd hx h⟩
  · cases r1
    cases r2
    obtain ⟨vs, v1, t1, z1⟩ := I.tuple h1
    obtain ⟨ws, v2, t2, z2⟩ := I.tuple h2
    refine HT.cat_tup t1 t2 (fun h => hx (v1.nil_iff.mp h)) (fun h => ⟨.ref a, H, I, rfl, q2 hx (v2.nil_iff.mp h)⟩) (fun h => ?_) (by rw [← v1.length, ← v2.length]; exact hl)
    obtain ⟨h3, I'⟩ := inv_frz I (v1.append v2) (by rw [List.length_append]; exact hl)
    exact ⟨.ref _, _, I', rfl, q3 hx (fun z => h (v2.nil_iff.mpr z)) _ _ h3 rfl⟩
/-- t[i:j] of a tuple -/
def rSlF (K : PySem.W.Frag) : V → Option Int → Option Int → Hp → VK → Prop := fun x lo hi H Q => ∃ a xs, x = .ref a ∧ SqT K H a xs ∧ (HT.sIx xs.length 0 lo = 0 ∧ HT.sIx xs.length xs.length hi = xs.length → Q (.ref a) H) ∧ (¬ (HT.sIx xs.length 0 lo = 0 ∧ HT.sIx xs.length xs.length hi = xs.length) → ∀ p o, H p = none → o.dict = none → Q (.ref p) (upd H p (.frz o (.tup (cutV xs lo hi)))))
theorem sl_tupF : SlR X (rSlF X.K) := by
  intro pins s σ H x v vl vu lo hi sl Q I r hs p1 p2 q
  obtain ⟨a, xs, rfl, h1, q1, q2⟩ := q
  by_cases hw : HT.sIx xs.length 0 lo = 0 ∧ HT.sIx xs.length xs.length hi = xs.length
  · exact sl_tupA pins s σ H _ v vl vu lo hi sl Q I r hs p1 p2 ⟨a, xs, rfl, h1, q1, fun h => absurd hw h⟩
  · cases r
    obtain ⟨vs, v1, t1, z1⟩ := I.tuple h1
    have hl : vs.toArray.size = xs.length := by rw [v1.length]; simp
    refine ⟨"tuple", _, slot_tuple_getitem.lookup, t1.typeIs, HT.getItem_tuple_cut t1 hs p1 p2 (by rw [hl]; exact hw) ?_ (by rw [hl]; exact z1)⟩
    rw [hl]
    obtain ⟨h3, I'⟩ := inv_frz I (ys := cutV xs lo hi) ((v1.drop _).take _) (Nat.le_trans (cutV_length _ _ _) z1)
    exact ⟨.ref _, _, I', rfl, q2 hw _ _ h3 rfl⟩
/-- (a, b, ..) -/
def tTupF (t : TA) : TE := fun σ H Q => t σ H fun xs H1 => xs.length ≤ sizeLine ∧ ∀ (p : Addr) (o : Obj), H1 p = none → o.dict = none → Q (V.ref p) (upd H1 p (.frz o (.tup xs)))
theorem pe_tupF {es : List Expr} {t : TA} {x1 : Nat} {pos : Pos} (h : PA X es t) : PE X (.Tuple es x1 pos) (tTupF t) := by
  refine ⟨fun pins s σ H Q I q => ?_⟩
  refine wpAny_Tuple_spliced (thn (h.run pos pins s σ H _ I q) fun us s1 ⟨vs, H1, I1, rv, hz, q1⟩ => ?_)
  obtain ⟨h3, I'⟩ := inv_frz I1 rv hz
  exact ⟨by rw [← rv.length]; exact hz, .ref _, _, I', rfl, q1 _ _ h3 rfl⟩
end
end Pv

/-! P0: frozen data, cells, the world relation -/
namespace Pv
open PySem PySem.Spec PyProof.Rows L2

abbrev Dt := PyData
def kD : Key → Dt
  | .inl i => .int i
  | .inr x => .str x

/-! ### what may be read stays -/
def Rle (F F' : Hp) : Prop := ∀ a u, (∀ o w, u = .frz o w → ∃ xs, w = .tup xs) → Rd F a u → Rd F' a u
theorem Rle.refl {F : Hp} : Rle F F := fun _ _ _ h => h
theorem Rle.trans {F F1 F2 : Hp} (h : Rle F F1) (h' : Rle F1 F2) : Rle F F2 := fun a u n r => h' a u n (h a u n r)
theorem Rle.upd {F : Hp} {p : Addr} {o : HO} (h : F p = none) : Rle F (upd F p o) := fun a u _ r => by
  have ne : a ≠ p := by
    rintro rfl
    rcases r with r | ⟨_, r⟩ <;> (rw [h] at r; cases r)
  rcases r with r | ⟨ob, r⟩
  · exact .inl (by rw [upd_ne ne]; exact r)
  · exact .inr ⟨ob, by rw [upd_ne ne]; exact r⟩
theorem Rle.sqL {K : PySem.W.Frag} {F F' : Hp} (h : Rle F F') {a : Addr} {xs : List V} (q : SqL K F a xs) : SqL K F' a xs := by
  rcases q with q | q
  · exact .inl (h _ _ (fun _ _ e => by cases e) q)
  · exact .inr q
theorem Rle.sqT {K : PySem.W.Frag} {F F' : Hp} (h : Rle F F') {a : Addr} {xs : List V} (q : SqT K F a xs) : SqT K F' a xs := by
  rcases q with q | q
  · exact .inl (h _ _ (fun _ _ e => by cases e) q)
  · exact .inr q
theorem Rle.same {F H : Hp} (h : ∀ a o, F a = some o → H a = some o) : Rle F H := fun a u _ r => by
  rcases r with r | ⟨ob, r⟩
  · exact .inl (h _ _ r)
  · exact .inr ⟨ob, h _ _ r⟩
/-- what is there stays -/
abbrev Ext (F F' : Hp) : Prop := ∀ a o, F a = some o → F' a = some o

/-! ### a value denotes data -/
def isTx : Dt → Bool
  | .str _ => true
  | _ => false
/-- a tuple of texts, one at least: its object is known (it has no dict), so that it has methods -/
def ixT (ds : List Dt) : Bool := !ds.isEmpty && ds.all isTx
def NoD (K : PySem.W.Frag) (F : Hp) (a : Addr) (xs : List V) (ds : List Dt) : Prop := ixT ds = true → (∃ o, Rd F a (.frz o (.tup xs)) ∧ o.dict = none) ∨ ∃ o, K.lookup a = some o ∧ o.cls = Value.type "tuple" ∧ o.dict = none
theorem NoD.mono {K : PySem.W.Frag} {F F' : Hp} {a : Addr} {xs : List V} {ds : List Dt} (h : Rle F F') (n : NoD K F a xs ds) : NoD K F' a xs ds := fun z => by
  rcases n z with ⟨o, h1, h2⟩ | h1
  · exact .inl ⟨o, h _ _ (fun _ _ e => by cases e; exact ⟨_, rfl⟩) h1, h2⟩
  · exact .inr h1
theorem NoD.new {K : PySem.W.Frag} {F : Hp} {a : Addr} {xs : List V} {ds : List Dt} {o : Obj} (h : o.dict = none) : NoD K (upd F a (.frz o (.tup xs))) a xs ds := fun _ => .inl ⟨o, .inl upd_same, h⟩
theorem NoD.not {K : PySem.W.Frag} {F : Hp} {a : Addr} {xs : List V} {ds : List Dt} (h : ixT ds = false) : NoD K F a xs ds := fun z => by rw [h] at z; cases z
mutual
inductive Den (K : PySem.W.Frag) (F : Hp) : V → Dt → Prop
  | non : Den K F .non .none
  | bl (b : Bool) : Den K F (.bl b) (.bool b)
  | int (i : Int) : Den K F (.int i) (.int i)
  | str (x : Str) : Den K F (.str x) (.str x)
  | lst {a : Addr} {xs : List V} {ds : List Dt} : SqL K F a xs → ds.length ≤ sizeLine → DenAll K F xs ds → Den K F (.ref a) (.list ds)
  | tup {a : Addr} {xs : List V} {ds : List Dt} : SqT K F a xs → ds.length ≤ sizeLine → DenAll K F xs ds → NoD K F a xs ds → Den K F (.ref a) (.tuple ds)
  | dct {a : Addr} {kvs : List (Key × V)} {ds : List (Dt × Dt)} : Rd F a (.dK kvs) → ds.length ≤ sizeLine → DenKV K F kvs ds → Den K F (.ref a) (.dict ds)
inductive DenAll (K : PySem.W.Frag) (F : Hp) : List V → List Dt → Prop
  | nil : DenAll K F [] []
  | cons {v : V} {vs : List V} {d : Dt} {ds : List Dt} : Den K F v d → DenAll K F vs ds → DenAll K F (v :: vs) (d :: ds)
inductive DenKV (K : PySem.W.Frag) (F : Hp) : List (Key × V) → List (Dt × Dt) → Prop
  | nil : DenKV K F [] []
  | cons {k : Key} {v : V} {vs : List (Key × V)} {d : Dt} {ds : List (Dt × Dt)} : Den K F v d → DenKV K F vs ds → DenKV K F ((k, v) :: vs) ((kD k, d) :: ds)
end
section
variable {K : PySem.W.Frag} {F F' : Hp}
mutual
theorem Den.mono (h : Rle F F') : ∀ {v : V} {d : Dt}, Den K F v d → Den K F' v d
  | _, _, .non => .non
  | _, _, .bl b => .bl b
  | _, _, .int i => .int i
  | _, _, .str x => .str x
  | _, _, .lst q z r => .lst (h.sqL q) z (DenAll.mono h r)
  | _, _, .tup q z r nd => .tup (h.sqT q) z (DenAll.mono h r) (nd.mono h)
  | _, _, .dct q z r => .dct (h _ _ (fun _ _ e => by cases e) q) z (DenKV.mono h r)
theorem DenAll.mono (h : Rle F F') : ∀ {vs : List V} {ds : List Dt}, DenAll K F vs ds → DenAll K F' vs ds
  | _, _, .nil => .nil
  | _, _, .cons a b => .cons (Den.mono h a) (DenAll.mono h b)
theorem DenKV.mono (h : Rle F F') : ∀ {vs : List (Key × V)} {ds : List (Dt × Dt)}, DenKV K F vs ds → DenKV K F' vs ds
  | _, _, .nil => .nil
  | _, _, .cons a b => .cons (Den.mono h a) (DenKV.mono h b)
end
theorem DenAll.length : ∀ {vs : List V} {ds : List Dt}, DenAll K F vs ds → vs.length = ds.length
  | _, _, .nil => rfl
  | _, _, .cons _ b => by rw [List.length_cons, List.length_cons, DenAll.length b]
theorem DenAll.get : ∀ {vs : List V} {ds : List Dt} {i : Nat} {d : Dt}, DenAll K F vs ds → ds[i]? = some d → ∃ v, vs[i]? = some v ∧ Den K F v d
  | _, _, _, _, .nil, e => by simp at e
  | _, _, 0, _, .cons a _, e => by simp at e; subst e; exact ⟨_, rfl, a⟩
  | _, _, i + 1, _, .cons _ b, e => by
    obtain ⟨v, h1, h2⟩ := DenAll.get (i := i) b (by simpa using e)
    exact ⟨v, by simpa using h1, h2⟩
theorem DenAll.append : ∀ {xs ys : List V} {ds es : List Dt}, DenAll K F xs ds → DenAll K F ys es → DenAll K F (xs ++ ys) (ds ++ es)
  | _, _, _, _, .nil, s => s
  | _, _, _, _, .cons r t, s => .cons r (DenAll.append t s)
theorem DenAll.take : ∀ {xs : List V} {ds : List Dt} (n : Nat), DenAll K F xs ds → DenAll K F (xs.take n) (ds.take n)
  | _, _, 0, _ => .nil
  | _, _, _ + 1, .nil => .nil
  | _, _, n + 1, .cons r t => .cons r (DenAll.take n t)
theorem DenAll.drop : ∀ {xs : List V} {ds : List Dt} (n : Nat), DenAll K F xs ds → DenAll K F (xs.drop n) (ds.drop n)
  | _, _, 0, r => r
  | _, _, _ + 1, .nil => .nil
  | _, _, n + 1, .cons _ t => DenAll.drop n t
end

/-! ### values of the evaluator: data, or a cell (an object that may change) -/
inductive Val where
  | d (x : Dt) | ref (n : Nat)
inductive Ob where
  | lst (vs : List Val) | dct (kvs : List (Key × Val)) | dead | ins (C : Str) (fs : List (Str × Val)) | dtk (kvs : List (List Key × Val))
/-- ρ: where the cells stand -/
def DenV (K : PySem.W.Frag) (F : Hp) (ρ : List Addr) : V → Val → Prop
  | u, .d x => Den K F u x
  | u, .ref n => ∃ a, ρ[n]? = some a ∧ u = .ref a
abbrev DenVs (K : PySem.W.Frag) (F : Hp) (ρ : List Addr) : List V → List Val → Prop := Paired (DenV K F ρ)
abbrev DenVK (K : PySem.W.Frag) (F : Hp) (ρ : List Addr) : List (Key × V) → List (Key × Val) → Prop := Paired fun p q => p.1 = q.1 ∧ DenV K F ρ p.2 q.2
abbrev DenVA (K : PySem.W.Frag) (F : Hp) (ρ : List Addr) {κ : Type} : List (κ × V) → List (κ × Val) → Prop := Paired fun p q => p.1 = q.1 ∧ DenV K F ρ p.2 q.2
section
variable {K : PySem.W.Frag} {F F' : Hp} {ρ ρ' : List Addr}
theorem DenV.mono (h : Rle F F') (hp : ρ <+: ρ') {u : V} {v : Val} (q : DenV K F ρ u v) : DenV K F' ρ' u v := by
  cases v with
  | d x => exact Den.mono h q
  | ref n =>
    obtain ⟨a, e, r⟩ := q
    obtain ⟨t, rfl⟩ := hp
    refine ⟨a, ?_, r⟩
    rw [List.getElem?_append_left (List.getElem?_eq_some_iff.mp e).1]
    exact e
theorem DenVs.mono (h : Rle F F') (hp : ρ <+: ρ') {us : List V} {vs : List Val} (q : DenVs K F ρ us vs) : DenVs K F' ρ' us vs := Paired.mapP q fun _ _ r => r.mono h hp
theorem DenVK.mono (h : Rle F F') (hp : ρ <+: ρ') {us : List (Key × V)} {vs : List (Key × Val)} (q : DenVK K F ρ us vs) : DenVK K F' ρ' us vs := Paired.mapP q fun _ _ r => ⟨r.1, r.2.mono h hp⟩
theorem DenVA.mono {κ : Type} (h : Rle F F') (hp : ρ <+: ρ') {us : List (κ × V)} {vs : List (κ × Val)} (q : DenVA K F ρ us vs) : DenVA K F' ρ' us vs := Paired.mapP q fun _ _ r => ⟨r.1, r.2.mono h hp⟩
theorem DenVs.of_all : ∀ {vs : List V} {ds : List Dt}, DenAll K F vs ds → DenVs K F ρ vs (ds.map Val.d)
  | _, _, .nil => .nil
  | _, _, .cons a b => .cons a (DenVs.of_all b)
/-- all of them data -/
def asD : Val → Option Dt
  | .d x => some x
  | .ref _ => none
def asDs : List Val → Option (List Dt)
  | [] => some []
  | v :: vs => match asD v, asDs vs with
    | some x, some xs => some (x :: xs)
    | _, _ => none
theorem asDs_map : ∀ ds : List Dt, asDs (ds.map Val.d) = some ds
  | [] => rfl
  | d :: ds => by simp only [List.map_cons, asDs, asD, asDs_map ds]
theorem asDs_eq : ∀ {vs : List Val} {ds : List Dt}, asDs vs = some ds → vs = ds.map Val.d
  | [], ds, h => by cases h; rfl
  | v :: vs, ds, h => by
    unfold asDs at h
    cases v with
    | ref n => simp [asD] at h
    | d x =>
      cases e : asDs vs with
      | none => rw [e] at h; simp [asD] at h
      | some xs =>
        rw [e] at h
        simp only [asD, Option.some.injEq] at h
        subst h
        rw [asDs_eq e]; rfl
theorem DenVs.all : ∀ {us : List V} {ds : List Dt}, DenVs K F ρ us (ds.map Val.d) → DenAll K F us ds
  | [], [], _ => .nil
  | _ :: _, _ :: _, .cons a b => .cons a (DenVs.all b)
theorem DenVs.length : ∀ {us : List V} {vs : List Val}, DenVs K F ρ us vs → us.length = vs.length
  | _, _, .nil => rfl
  | _, _, .cons _ b => by rw [List.length_cons, List.length_cons, DenVs.length b]
theorem DenVs.get : ∀ {us : List V} {vs : List Val} {i : Nat} {v : Val}, DenVs K F ρ us vs → vs[i]? = some v → ∃ u, us[i]? = some u ∧ DenV K F ρ u v
  | _, _, _, _, .nil, e => by simp at e
  | _, _, 0, _, .cons a _, e => by simp at e; subst e; exact ⟨_, rfl, a⟩
  | _, _, i + 1, _, .cons _ b, e => by
    obtain ⟨v, h1, h2⟩ := DenVs.get (i := i) b (by simpa using e)
    exact ⟨v, by simpa using h1, h2⟩
theorem DenVs.getU : ∀ {us : List V} {vs : List Val} {i : Nat} {u : V}, DenVs K F ρ us vs → us[i]? = some u → ∃ v, vs[i]? = some v ∧ DenV K F ρ u v
  | _, _, _, _, .nil, e => by simp at e
  | _, _, 0, _, .cons a _, e => by simp at e; subst e; exact ⟨_, rfl, a⟩
  | _, _, i + 1, _, .cons _ b, e => by
    obtain ⟨v, h1, h2⟩ := DenVs.getU (i := i) b (by simpa using e)
    exact ⟨v, by simpa using h1, h2⟩
theorem DenVs.append : ∀ {xs ys : List V} {ds es : List Val}, DenVs K F ρ xs ds → DenVs K F ρ ys es → DenVs K F ρ (xs ++ ys) (ds ++ es)
  | _, _, _, _, .nil, s => s
  | _, _, _, _, .cons r t, s => .cons r (DenVs.append t s)
theorem DenVs.take : ∀ {xs : List V} {ds : List Val} (n : Nat), DenVs K F ρ xs ds → DenVs K F ρ (xs.take n) (ds.take n)
  | _, _, 0, _ => .nil
  | _, _, _ + 1, .nil => .nil
  | _, _, n + 1, .cons r t => .cons r (DenVs.take n t)
theorem DenVs.drop : ∀ {xs : List V} {ds : List Val} (n : Nat), DenVs K F ρ xs ds → DenVs K F ρ (xs.drop n) (ds.drop n)
  | _, _, 0, r => r
  | _, _, _ + 1, .nil => .nil
  | _, _, n + 1, .cons _ t => DenVs.drop n t
theorem DenVs.set {u : V} {v : Val} (r : DenV K F ρ u v) : ∀ {us : List V} {vs : List Val} (i : Nat), DenVs K F ρ us vs → DenVs K F ρ (us.set i u) (vs.set i v)
  | _, _, _, .nil => .nil
  | _, _, 0, .cons _ t => .cons r t
  | _, _, i + 1, .cons q t => .cons q (DenVs.set r i t)
theorem DenVs.dropLast {xs : List V} {ds : List Val} (h : DenVs K F ρ xs ds) : DenVs K F ρ xs.dropLast ds.dropLast := by
  rw [List.dropLast_eq_take, List.dropLast_eq_take, h.length]
  exact h.take _
end

/-! ### the world: the frozen part F, the cells at ρ, the heap H -/
def ObD (K : PySem.W.Frag) (F : Hp) (ρ : List Addr) (H : Hp) (a : Addr) : Ob → Prop
  | .lst vs => vs.length ≤ sizeLine ∧ ∃ xs, H a = some (.lst xs) ∧ DenVs K F ρ xs vs
  | .dct kvs => kvs.length ≤ sizeLine ∧ ∃ ks, H a = some (.dK ks) ∧ DenVK K F ρ ks kvs
  | .dead => H a ≠ none
  | .ins C fs => fs.length ≤ 999 ∧ ∃ Ca dx us, PySem.W.nsIn K mainGlobals C = some (some (.ref Ca)) ∧ H a = some (.ins Ca dx us) ∧ DenVA K F ρ us fs
  | .dtk kvs => kvs.length ≤ sizeLine ∧ ∃ ks, H a = some (.dT ks) ∧ DenVA K F ρ ks kvs
def Ob.live : Ob → Bool
  | .dead => false
  | _ => true
structure Wd (K : PySem.W.Frag) (mh : List Ob) (F : Hp) (ρ : List Addr) (H : Hp) : Prop where
  same : ∀ a o, F a = some o → H a = some o
  len : ρ.length = mh.length
  nd : ρ.Nodup
  off : ∀ (n : Nat) (a : Addr) (o : Ob), ρ[n]? = some a → mh[n]? = some o → o.live = true → F a = none
  cell : ∀ (n : Nat) (a : Addr) (o : Ob), ρ[n]? = some a → mh[n]? = some o → ObD K F ρ H a o
/-- growth: what was readable is, cells stay, what is neither stays as it is -/
structure Gr (F : Hp) (ρ : List Addr) (H : Hp) (F' : Hp) (ρ' : List Addr) (H' : Hp) : Prop where
  ext : ∀ a o, F a = some o → F' a = some o
  pre : ρ <+: ρ'
  fr : ∀ a o, H a = some o → F a = none → a ∉ ρ → H' a = some o ∧ F' a = none ∧ a ∉ ρ'
section
variable {K : PySem.W.Frag} {mh mh' : List Ob} {F F' F2 : Hp} {ρ ρ' ρ2 : List Addr} {H H' H2 : Hp}
theorem Gr.rd (g : Gr F ρ H F' ρ' H') : Rle F F' := Rle.same g.ext
theorem ext_upd {p : Addr} {o : HO} (h : F p = none) : ∀ a u, F a = some u → upd F p o a = some u := fun a u e => by rw [upd_ne (ne_of_none e h)]; exact e
theorem Gr.refl : Gr F ρ H F ρ H := ⟨fun _ _ h => h, List.prefix_refl _, fun _ _ h1 h2 h3 => ⟨h1, h2, h3⟩⟩
theorem Gr.trans (a : Gr F ρ H F' ρ' H') (b : Gr F' ρ' H' F2 ρ2 H2) : Gr F ρ H F2 ρ2 H2 :=
  ⟨fun x o h => b.ext x o (a.ext x o h), a.pre.trans b.pre, fun x o h1 h2 h3 => let ⟨q1, q2, q3⟩ := a.fr x o h1 h2 h3; b.fr x o q1 q2 q3⟩
theorem ObD.there {a : Addr} {o : Ob} (h : ObD K F ρ H a o) : H a ≠ none := by
  cases o with
  | lst vs => obtain ⟨_, xs, e, _⟩ := h; rw [e]; exact fun z => nomatch z
  | dct vs => obtain ⟨_, xs, e, _⟩ := h; rw [e]; exact fun z => nomatch z
  | dead => exact h
  | ins C fs => obtain ⟨_, Ca, dx, us, _, e, _⟩ := h; rw [e]; exact fun z => nomatch z
  | dtk vs => obtain ⟨_, xs, e, _⟩ := h; rw [e]; exact fun z => nomatch z
theorem Wd.there (w : Wd K mh F ρ H) {a : Addr} (h : a ∈ ρ) : H a ≠ none := by
  obtain ⟨n, hn, e⟩ := List.mem_iff_getElem.mp h
  have h1 : ρ[n]? = some a := by rw [List.getElem?_eq_getElem hn, e]
  have h2 : n < mh.length := by rw [← w.len]; exact hn
  exact (w.cell n a _ h1 (List.getElem?_eq_getElem h2)).there
theorem Wd.freshF (w : Wd K mh F ρ H) {p : Addr} (hp : H p = none) : F p = none := by
  cases e : F p with
  | none => rfl
  | some o => rw [w.same _ _ e] at hp; cases hp
theorem Wd.freshρ (w : Wd K mh F ρ H) {p : Addr} (hp : H p = none) : p ∉ ρ := fun h => w.there h hp
theorem ObD.mono {a : Addr} {o : Ob} (h : ObD K F ρ H a o) (r : Rle F F') (p : ρ <+: ρ') (e : ∀ u, H a = some u → H' a = some u) : ObD K F' ρ' H' a o := by
  cases o with
  | lst vs => obtain ⟨z, xs, q, d⟩ := h; exact ⟨z, xs, e _ q, d.mono r p⟩
  | dct vs => obtain ⟨z, xs, q, d⟩ := h; exact ⟨z, xs, e _ q, d.mono r p⟩
  | dead =>
    have h' : H a ≠ none := h
    show H' a ≠ none
    cases q : H a with
    | none => exact absurd q h'
    | some u => rw [e u q]; exact fun z => nomatch z
  | ins C fs => obtain ⟨z, Ca, dx, us, n, q, d⟩ := h; exact ⟨z, Ca, dx, us, n, e _ q, d.mono r p⟩
  | dtk vs => obtain ⟨z, xs, q, d⟩ := h; exact ⟨z, xs, e _ q, d.mono r p⟩
/-- a new frozen object -/
theorem Wd.newF (w : Wd K mh F ρ H) {p : Addr} {o : HO} (hp : H p = none) : Wd K mh (upd F p o) ρ (upd H p o) ∧ Gr F ρ H (upd F p o) ρ (upd H p o) := by
  have hF := w.freshF hp
  have hρ := w.freshρ hp
  have ne : ∀ {a u}, H a = some u → a ≠ p := fun {a u} e => ne_of_none e hp
  refine ⟨⟨fun a u e => ?_, w.len, w.nd, fun n a ob e1 e2 l => ?_, fun n a ob e1 e2 => ?_⟩, ⟨ext_upd hF, List.prefix_refl _, fun a u h1 h2 h3 => ⟨?_, ?_, h3⟩⟩⟩
  · by_cases h : a = p
    · subst h; rw [upd_same] at e ⊢; exact e
    · rw [upd_ne h] at e ⊢; exact w.same _ _ e
  · have : a ≠ p := fun z => hρ (z ▸ List.mem_of_getElem? e1)
    rw [upd_ne this]; exact w.off n a ob e1 e2 l
  · refine (w.cell n a ob e1 e2).mono (Rle.upd hF) (List.prefix_refl _) fun u q => ?_
    rw [upd_ne (ne q)]; exact q
  · rw [upd_ne (ne h1)]; exact h1
  · rw [upd_ne (ne h1)]; exact h2
/-- a new cell -/
theorem Wd.newC (w : Wd K mh F ρ H) {p : Addr} {u : HO} {o : Ob} (hp : H p = none) (ho : ObD K F (ρ ++ [p]) (upd H p u) p o) : Wd K (mh ++ [o]) F (ρ ++ [p]) (upd H p u) ∧ Gr F ρ H F (ρ ++ [p]) (upd H p u) := by
  have hF := w.freshF hp
  have hρ := w.freshρ hp
  have ne : ∀ {a u}, H a = some u → a ≠ p := fun {a u} e => ne_of_none e hp
  have pre : ρ <+: ρ ++ [p] := List.prefix_append _ _
  have ix : ∀ {n : Nat} {a : Addr} {ob : Ob}, (ρ ++ [p])[n]? = some a → (mh ++ [o])[n]? = some ob → (ρ[n]? = some a ∧ mh[n]? = some ob) ∨ (a = p ∧ ob = o) := by
    intro n a ob e1 e2
    by_cases h : n < ρ.length
    · have h2 : n < mh.length := by rw [← w.len]; exact h
      rw [List.getElem?_append_left h] at e1
      rw [List.getElem?_append_left h2] at e2
      exact .inl ⟨e1, e2⟩
    · have h1 : ρ.length ≤ n := by omega
      have h2 : mh.length ≤ n := by rw [← w.len]; exact h1
      rw [List.getElem?_append_right h1] at e1
      rw [List.getElem?_append_right h2] at e2
      have hz : n - ρ.length = 0 := by
        cases q : n - ρ.length with
        | zero => rfl
        | succ k => rw [q] at e1; simp at e1
      have hz2 : n - mh.length = 0 := by rw [← w.len]; exact hz
      rw [hz] at e1
      rw [hz2] at e2
      simp at e1 e2
      exact .inr ⟨e1.symm, e2.symm⟩
  refine ⟨⟨fun a u' e => ?_, by rw [List.length_append, List.length_append, w.len]; rfl, ?_, fun n a ob e1 e2 l => ?_, fun n a ob e1 e2 => ?_⟩, ⟨fun _ _ h => h, pre, fun a u' h1 h2 h3 => ⟨?_, h2, ?_⟩⟩⟩
  · have q := w.same _ _ e
    rw [upd_ne (ne q)]; exact q
  · refine List.nodup_append.mpr ⟨w.nd, by simp, fun a ha b hb => ?_⟩
    have : b = p := by simpa using hb
    subst this
    exact fun z => hρ (z ▸ ha)
  · rcases ix e1 e2 with ⟨q1, q2⟩ | ⟨rfl, rfl⟩
    · exact w.off n a ob q1 q2 l
    · exact hF
  · rcases ix e1 e2 with ⟨q1, q2⟩ | ⟨rfl, rfl⟩
    · refine (w.cell n a ob q1 q2).mono .refl pre fun u' q => ?_
      rw [upd_ne (ne q)]; exact q
    · exact ho
  · rw [upd_ne (ne h1)]; exact h1
  · intro z
    rcases List.mem_append.mp z with z | z
    · exact h3 z
    · have : a = p := by simpa using z
      exact ne h1 this
/-- a cell is written -/
theorem Wd.write (w : Wd K mh F ρ H) {n : Nat} {a : Addr} {u : HO} {o0 o : Ob} (e1 : ρ[n]? = some a) (e2 : mh[n]? = some o0) (l : o0.live = true) (ho : ObD K F ρ (upd H a u) a o) : Wd K (mh.set n o) F ρ (upd H a u) ∧ Gr F ρ H F ρ (upd H a u) := by
  have hF := w.off n a o0 e1 e2 l
  have inj : ∀ {m b}, ρ[m]? = some b → b = a → m = n := fun {m b} e z => by
    subst z
    obtain ⟨l1, q1⟩ := List.getElem?_eq_some_iff.mp e
    obtain ⟨l2, q2⟩ := List.getElem?_eq_some_iff.mp e1
    exact (List.getElem_inj w.nd).mp (q1.trans q2.symm)
  have hn : n < mh.length := (List.getElem?_eq_some_iff.mp e2).1
  refine ⟨⟨fun b u' e => ?_, by rw [List.length_set]; exact w.len, w.nd, fun m b ob q1 q2 l' => ?_, fun m b ob q1 q2 => ?_⟩, ⟨fun _ _ h => h, List.prefix_refl _, fun b u' h1 h2 h3 => ⟨?_, h2, h3⟩⟩⟩
  · have : b ≠ a := fun z => by rw [z, hF] at e; cases e
    rw [upd_ne this]; exact w.same _ _ e
  · by_cases h : m = n
    · subst h
      rw [e1] at q1; cases q1
      exact hF
    · rw [List.getElem?_set_ne (Ne.symm h)] at q2
      exact w.off m b ob q1 q2 l'
  · by_cases h : m = n
    · subst h
      rw [e1] at q1; cases q1
      rw [List.getElem?_set_self hn] at q2
      cases q2
      exact ho
    · rw [List.getElem?_set_ne (Ne.symm h)] at q2
      refine (w.cell m b ob q1 q2).mono .refl (List.prefix_refl _) fun u' q => ?_
      rw [upd_ne fun z => h (inj q1 z)]; exact q
  · rw [upd_ne (show b ≠ a from fun z => h3 (by rw [z]; exact List.mem_of_getElem? e1))]; exact h1
/-- a cell is frozen -/
theorem Wd.freeze (w : Wd K mh F ρ H) {n : Nat} {a : Addr} {u : HO} {o0 : Ob} (e1 : ρ[n]? = some a) (e2 : mh[n]? = some o0) (l : o0.live = true) (hu : H a = some u) : Wd K (mh.set n .dead) (upd F a u) ρ H ∧ Gr F ρ H (upd F a u) ρ H := by
  have hF := w.off n a o0 e1 e2 l
  have hn : n < mh.length := (List.getElem?_eq_some_iff.mp e2).1
  have inj : ∀ {m b}, ρ[m]? = some b → b = a → m = n := fun {m b} e z => by
    subst z
    obtain ⟨l1, q1⟩ := List.getElem?_eq_some_iff.mp e
    obtain ⟨l2, q2⟩ := List.getElem?_eq_some_iff.mp e1
    exact (List.getElem_inj w.nd).mp (q1.trans q2.symm)
  refine ⟨⟨fun b u' e => ?_, by rw [List.length_set]; exact w.len, w.nd, fun m b ob q1 q2 l' => ?_, fun m b ob q1 q2 => ?_⟩, ⟨ext_upd hF, List.prefix_refl _, fun b u' h1 h2 h3 => ⟨h1, ?_, h3⟩⟩⟩
  · by_cases h : b = a
    · subst h; rw [upd_same] at e; cases e; exact hu
    · rw [upd_ne h] at e; exact w.same _ _ e
  · by_cases h : m = n
    · subst h
      rw [List.getElem?_set_self hn] at q2
      cases q2
      cases l'
    · rw [List.getElem?_set_ne (Ne.symm h)] at q2
      rw [upd_ne fun z => h (inj q1 z)]
      exact w.off m b ob q1 q2 l'
  · by_cases h : m = n
    · subst h
      rw [e1] at q1; cases q1
      rw [List.getElem?_set_self hn] at q2
      cases q2
      show H a ≠ none
      rw [hu]; exact fun z => nomatch z
    · rw [List.getElem?_set_ne (Ne.symm h)] at q2
      exact (w.cell m b ob q1 q2).mono (Rle.upd hF) (List.prefix_refl _) fun u' q => q
  · rw [upd_ne (show b ≠ a from fun z => h3 (by rw [z]; exact List.mem_of_getElem? e1))]; exact h2
/-- the newer cells are forgotten -/
theorem Wd.cut (w : Wd K mh F ρ' H) (n : Nat) (ok : ∀ m o, m < n → mh[m]? = some o → ∀ a, ρ'[m]? = some a → ObD K F (ρ'.take n) H a o) : Wd K (mh.take n) F (ρ'.take n) H := by
  refine ⟨w.same, by rw [List.length_take, List.length_take, w.len], w.nd.sublist (List.take_sublist _ _), fun m a o e1 e2 l => ?_, fun m a o e1 e2 => ?_⟩
  · have h : m < n := by
      have := (List.getElem?_eq_some_iff.mp e1).1
      rw [List.length_take] at this; omega
    rw [List.getElem?_take_of_lt h] at e1 e2
    exact w.off m a o e1 e2 l
  · have h : m < n := by
      have := (List.getElem?_eq_some_iff.mp e1).1
      rw [List.length_take] at this; omega
    rw [List.getElem?_take_of_lt h] at e1 e2
    exact ok m o h e2 a e1
end
end Pv

/-! P1: readers of values; operators -/
namespace Pv
open PySem PySem.Spec PyProof.Rows L2

/-! ### reading a value -/
def cellL (mh : List Ob) (n : Nat) : Option (List Val) := match mh[n]? with
  | some (.lst vs) => some vs
  | _ => none
def seqL (mh : List Ob) : Val → Option (List Val)
  | .d (.list xs) => some (xs.map Val.d)
  | .ref n => cellL mh n
  | _ => none
def seqT : Val → Option (List Val)
  | .d (.tuple xs) => some (xs.map Val.d)
  | _ => none
def seqA (mh : List Ob) (v : Val) : Option (List Val) := match v with
  | .d (.tuple xs) => some (xs.map Val.d)
  | v => seqL mh v
section
variable {K : PySem.W.Frag} {mh : List Ob} {F : Hp} {ρ : List Addr} {H : Hp} {u : V} {v : Val} {vs : List Val}
theorem Wd.rle (w : Wd K mh F ρ H) : Rle F H := Rle.same w.same
theorem cellL_ok (w : Wd K mh F ρ H) {n : Nat} {a : Addr} (e : ρ[n]? = some a) (h : cellL mh n = some vs) : mh[n]? = some (.lst vs) ∧ ∃ xs, H a = some (.lst xs) ∧ DenVs K F ρ xs vs ∧ vs.length ≤ sizeLine := by
  unfold cellL at h
  split at h
  · rename_i ws e2
    cases h
    obtain ⟨z, xs, q, d⟩ := w.cell n a _ e e2
    exact ⟨e2, xs, q, d, z⟩
  · cases h
theorem seqL_ok (w : Wd K mh F ρ H) (d : DenV K F ρ u v) (h : seqL mh v = some vs) : ∃ a xs, u = .ref a ∧ SqL K H a xs ∧ DenVs K F ρ xs vs ∧ vs.length ≤ sizeLine := by
  cases v with
  | d x =>
    cases x with
    | list ds =>
      cases d with
      | lst q z r =>
        cases h
        exact ⟨_, _, rfl, w.rle.sqL q, DenVs.of_all r, by rw [List.length_map]; exact z⟩
    | _ => cases h
  | ref n =>
    obtain ⟨a, e, rfl⟩ := d
    obtain ⟨_, xs, q, r, z⟩ := cellL_ok w e h
    exact ⟨a, xs, rfl, SqL.of q, r, z⟩
theorem seqT_ok (w : Wd K mh F ρ H) (d : DenV K F ρ u v) (h : seqT v = some vs) : ∃ a xs, u = .ref a ∧ SqT K H a xs ∧ DenVs K F ρ xs vs ∧ vs.length ≤ sizeLine := by
  cases v with
  | d x =>
    cases x with
    | tuple ds =>
      cases d with
      | tup q z r =>
        cases h
        exact ⟨_, _, rfl, w.rle.sqT q, DenVs.of_all r, by rw [List.length_map]; exact z⟩
    | _ => cases h
  | ref n => cases h
theorem seqA_ok (w : Wd K mh F ρ H) (d : DenV K F ρ u v) (h : seqA mh v = some vs) : ∃ a xs, u = .ref a ∧ (SqL K H a xs ∨ SqT K H a xs) ∧ DenVs K F ρ xs vs ∧ vs.length ≤ sizeLine := by
  unfold seqA at h
  split at h
  · obtain ⟨a, xs, e, q, r⟩ := seqT_ok (vs := vs) w d h
    exact ⟨a, xs, e, .inr q, r⟩
  · obtain ⟨a, xs, e, q, r⟩ := seqL_ok w d h
    exact ⟨a, xs, e, .inl q, r⟩
end

/-! ### results -/
inductive Rv where
  | v (x : Val) | nl (vs : List Val) | nd (kvs : List (Key × Val))
def PostR (K : PySem.W.Frag) (mh : List Ob) (F : Hp) (ρ : List Addr) (H : Hp) (Q : VK) : Rv → Prop
  | .v x => ∀ F' H' u, Wd K mh F' ρ H' → Gr F ρ H F' ρ H' → DenV K F' ρ u x → Q u H'
  | .nl vs => ∀ F' H' xs p, Wd K mh F' ρ H' → Gr F ρ H F' ρ H' → vs.length ≤ sizeLine → DenVs K F' ρ xs vs → H' p = none → Q (.ref p) (upd H' p (.lst xs))
  | .nd kvs => ∀ F' H' ks p, Wd K mh F' ρ H' → Gr F ρ H F' ρ H' → kvs.length ≤ sizeLine → DenVK K F' ρ ks kvs → H' p = none → Q (.ref p) (upd H' p (.dK ks))
section
variable {K : PySem.W.Frag} {mh : List Ob} {F : Hp} {ρ : List Addr} {H : Hp} {Q : VK}
theorem PostR.here {u : V} {x : Val} (h : PostR K mh F ρ H Q (.v x)) (w : Wd K mh F ρ H) (d : DenV K F ρ u x) : Q u H := h F H u w .refl d
theorem PostR.tup {xs : List V} {ds : List Dt} {p : Addr} {o : Obj} (h : PostR K mh F ρ H Q (.v (.d (.tuple ds)))) (w : Wd K mh F ρ H) (hp : H p = none) (ho : o.dict = none) (d : DenAll K F xs ds) (z : ds.length ≤ sizeLine) : Q (.ref p) (upd H p (.frz o (.tup xs))) := by
  obtain ⟨w', g⟩ := w.newF (o := .frz o (.tup xs)) hp
  exact h _ _ _ w' g (Den.tup (.inl (.inr ⟨_, upd_same⟩)) z (d.mono (Rle.upd (w.freshF hp))) (NoD.new ho))
theorem PostR.list {vs : List Val} {xs : List V} {p : Addr} (h : PostR K mh F ρ H Q (.nl vs)) (w : Wd K mh F ρ H) (hp : H p = none) (d : DenVs K F ρ xs vs) (z : vs.length ≤ sizeLine) : Q (.ref p) (upd H p (.lst xs)) := h F H xs p w .refl z d hp
end

abbrev M := StateT (List Ob) Option
theorem M.bind_some {α β : Type} {x : M α} {f : α → M β} {s : List Ob} {r : β × List Ob} : (x >>= f) s = some r ↔ ∃ a s1, x s = some (a, s1) ∧ f a s1 = some r := by
  show (x s >>= fun p => f p.1 p.2) = some r ↔ _
  cases x s with
  | none => simp
  | some p =>
    obtain ⟨a, t⟩ := p
    constructor
    · intro h; exact ⟨a, t, rfl, h⟩
    · rintro ⟨b, u, e, h⟩
      cases e; exact h
theorem M.pure_some {α : Type} {a : α} {s : List Ob} {r : α × List Ob} : (pure a : M α) s = some r ↔ r = (a, s) := by
  show some (a, s) = some r ↔ _
  constructor
  · intro h; exact (Option.some.inj h).symm
  · rintro rfl; rfl
/-- a reader's value; none: stuck -/
def rdM {α : Type} (f : List Ob → Option α) : M α := fun mh => (f mh).map fun a => (a, mh)
def ofO {α : Type} (o : Option α) : M α := fun mh => o.map fun a => (a, mh)
theorem rdM_some {α : Type} {f : List Ob → Option α} {s : List Ob} {r : α × List Ob} : rdM f s = some r ↔ f s = some r.1 ∧ r.2 = s := by
  unfold rdM
  cases f s with
  | none => simp
  | some a =>
    obtain ⟨b, t⟩ := r
    simp [Prod.ext_iff, eq_comm]
theorem ofO_some {α : Type} {o : Option α} {s : List Ob} {r : α × List Ob} : ofO o s = some r ↔ o = some r.1 ∧ r.2 = s := by
  unfold ofO
  cases o with
  | none => simp
  | some a =>
    obtain ⟨b, t⟩ := r
    simp [Prod.ext_iff, eq_comm]
def alloc (o : Ob) : M Val := fun mh => some (.ref mh.length, mh ++ [o])
def asDKs : List (Key × Val) → Option (List (Dt × Dt))
  | [] => some []
  | kv :: r => match asD kv.2, asDKs r with
    | some x, some xs => some ((kD kv.1, x) :: xs)
    | _, _ => none
def finR (c : Bool) : Rv → M Val
  | .v x => if c then fun _ => none else pure x
  | .nl vs => if c then alloc (.lst vs) else ofO ((asDs vs).map fun ds => .d (.list ds))
  | .nd kvs => if c then alloc (.dct kvs) else ofO ((asDKs kvs).map fun ds => .d (.dict ds))
section
variable {K : PySem.W.Frag} {mh mh' : List Ob} {F : Hp} {ρ : List Addr} {H : Hp} {Q : VK} {v : Val} {rv : Rv} {c : Bool}
theorem DenVK.length {ks : List (Key × V)} {kvs : List (Key × Val)} (h : DenVK K F ρ ks kvs) : ks.length = kvs.length := Paired.length h
theorem DenVK.all : ∀ {ks : List (Key × V)} {kvs : List (Key × Val)} {ds : List (Dt × Dt)}, DenVK K F ρ ks kvs → asDKs kvs = some ds → DenKV K F ks ds ∧ ds.length = kvs.length
  | _, _, _, .nil, h => by cases h; exact ⟨.nil, rfl⟩
  | (k, x) :: _, (k', .ref n) :: r, _, .cons a b, h => by simp [asDKs, asD] at h
  | (k, x) :: _, (k', .d y) :: r, ds, .cons a b, h => by
    unfold asDKs at h
    simp only [asD] at h
    cases e : asDKs r with
    | none => rw [e] at h; cases h
    | some xs =>
      rw [e] at h
      cases h
      obtain ⟨h1, h2⟩ := DenVK.all b e
      obtain ⟨e1, e2⟩ := a
      cases (show k = k' from e1)
      exact ⟨.cons e2 h1, by rw [List.length_cons, List.length_cons, h2]⟩
/-- the last step of an expression that makes something -/
theorem finR_ok (h : finR c rv mh = some (v, mh')) (q : ∀ F' ρ' H' u, Wd K mh' F' ρ' H' → Gr F ρ H F' ρ' H' → DenV K F' ρ' u v → Q u H') : PostR K mh F ρ H Q rv := by
  cases rv with
  | v x =>
    unfold finR at h
    cases c with
    | true => cases h
    | false =>
      cases h
      exact fun F' H' u w g d => q F' ρ H' u w g d
  | nl vs =>
    unfold finR at h
    intro F' H' xs p w g z d hp
    cases c with
    | true =>
      cases h
      obtain ⟨w', g'⟩ := w.newC (u := .lst xs) (o := .lst vs) hp ⟨z, xs, upd_same, d.mono .refl (List.prefix_append _ _)⟩
      exact q _ _ _ _ w' (g.trans g') ⟨p, by rw [← w.len, List.getElem?_append_right (Nat.le_refl _), Nat.sub_self]; rfl, rfl⟩
    | false =>
      obtain ⟨h1, h2⟩ := ofO_some.mp h
      simp only at h1 h2
      subst h2
      cases e : asDs vs with
      | none => rw [e] at h1; cases h1
      | some ds =>
        rw [e] at h1
        cases h1
        have e2 := asDs_eq e
        subst e2
        obtain ⟨w', g'⟩ := w.newF (o := .lst xs) hp
        exact q _ _ _ _ w' (g.trans g') (Den.lst (.inl (.inl upd_same)) (by rw [List.length_map] at z; exact z) (d.all.mono (Rle.upd (w.freshF hp))))
  | nd kvs =>
    unfold finR at h
    intro F' H' ks p w g z d hp
    cases c with
    | true =>
      cases h
      obtain ⟨w', g'⟩ := w.newC (u := .dK ks) (o := .dct kvs) hp ⟨z, ks, upd_same, d.mono .refl (List.prefix_append _ _)⟩
      exact q _ _ _ _ w' (g.trans g') ⟨p, by rw [← w.len, List.getElem?_append_right (Nat.le_refl _), Nat.sub_self]; rfl, rfl⟩
    | false =>
      obtain ⟨h1, h2⟩ := ofO_some.mp h
      simp only at h1 h2
      subst h2
      cases e : asDKs kvs with
      | none => rw [e] at h1; cases h1
      | some ds =>
        rw [e] at h1
        cases h1
        obtain ⟨d1, d2⟩ := d.all e
        obtain ⟨w', g'⟩ := w.newF (o := .dK ks) hp
        exact q _ _ _ _ w' (g.trans g') (Den.dct (.inl upd_same) (by rw [d2]; exact z) (d1.mono (Rle.upd (w.freshF hp))))
end

/-! ### operators by values -/
section
variable (X : Cx)
def OpS (f : Value → Value → Sem Value) (m : List Ob → Val → Val → Option Rv) : Prop :=
  ∃ r, OpR X f r ∧ ∀ {mh : List Ob} {F : Hp} {ρ : List Addr} {H : Hp} {x y : V} {dx dy : Val} {rv : Rv} (Q : VK), Wd X.K mh F ρ H → DenV X.K F ρ x dx → DenV X.K F ρ y dy → m mh dx dy = some rv → PostR X.K mh F ρ H Q rv → r x y H Q
end
section
variable {X : Cx} {f : Value → Value → Sem Value} {m m' : List Ob → Val → Val → Option Rv}
theorem OpS.or (h : OpS X f m) (h' : OpS X f m') : OpS X f (fun mh x y => (m mh x y).orElse fun _ => m' mh x y) := by
  obtain ⟨r, o, k⟩ := h
  obtain ⟨r', o', k'⟩ := h'
  refine ⟨_, o.or o', fun Q w dx dy e q => ?_⟩
  rename_i mh F ρ H x y vx vy rv
  cases e1 : m mh vx vy with
  | none =>
    simp only [e1] at e
    exact .inr (k' Q w dx dy e q)
  | some z =>
    simp only [e1] at e
    cases e
    exact .inl (k Q w dx dy e1 q)
end

def i2 (g : Int → Int → Option Dt) : List Ob → Val → Val → Option Rv
  | _, .d (.int i), .d (.int j) => (g i j).map fun x => .v (.d x)
  | _, _, _ => none
def s2 (g : Str → Str → Option Dt) : List Ob → Val → Val → Option Rv
  | _, .d (.str i), .d (.str j) => (g i j).map fun x => .v (.d x)
  | _, _, _ => none
section
variable {X : Cx} {f : Value → Value → Sem Value} {K : PySem.W.Frag} {F : Hp} {ρ : List Addr}
theorem den_int {u : V} {i : Int} (h : DenV K F ρ u (.d (.int i))) : u = .int i := by cases h; rfl
theorem den_str {u : V} {i : Str} (h : DenV K F ρ u (.d (.str i))) : u = .str i := by cases h; rfl
theorem den_bl {u : V} {i : Bool} (h : DenV K F ρ u (.d (.bool i))) : u = .bl i := by cases h; rfl
theorem den_non {u : V} (h : DenV K F ρ u (.d .none)) : u = .non := by cases h; rfl
/-- of two ints: C what is asked, the rule's answer z i j is the data d i j -/
theorem ops_i2 {C : Int → Int → Prop} {z : Int → Int → V} {g : Int → Int → Option Dt} (o : OpR X f (rI C z)) (h : ∀ i j x, g i j = some x → C i j ∧ ∀ F ρ, DenV X.K F ρ (z i j) (.d x)) : OpS X f (i2 g) := by
  refine ⟨_, o, fun Q w dx dy e q => ?_⟩
  rename_i mh F ρ H x y vx vy rv
  unfold i2 at e
  split at e
  · rename_i i j
    cases e1 : g i j with
    | none => rw [e1] at e; cases e
    | some r =>
      rw [e1] at e; cases e
      obtain ⟨c, d⟩ := h i j r e1
      exact ⟨i, j, den_int dx, den_int dy, c, q.here w (d F ρ)⟩
  · cases e
theorem ops_i20 {z : Int → Int → V} {g : Int → Int → Option Dt} (o : OpR X f (rI0 z)) (h : ∀ i j x, g i j = some x → ∀ F ρ, DenV X.K F ρ (z i j) (.d x)) : OpS X f (i2 g) := by
  refine ⟨_, o, fun Q w dx dy e q => ?_⟩
  rename_i mh F ρ H x y vx vy rv
  unfold i2 at e
  split at e
  · rename_i i j
    cases e1 : g i j with
    | none => rw [e1] at e; cases e
    | some r =>
      rw [e1] at e; cases e
      exact ⟨i, j, den_int dx, den_int dy, q.here w (h i j r e1 F ρ)⟩
  · cases e

/-! #### + -/
theorem op_catL : OpR X (binaryOp .Add) (fun x y H Q => ∃ l b xs zs, x = .ref l ∧ y = .ref b ∧ SqL X.K H l xs ∧ SqL X.K H b zs ∧ xs.length + zs.length ≤ sizeLine ∧ ∀ p, H p = none → Q (.ref p) (upd H p (.lst (xs ++ zs)))) := by
  intro pins s σ H x y v u Q I rx ry h
  obtain ⟨l, b, xs, zs, rfl, rfl, hH, hB, hz, q⟩ := h
  cases rx
  cases ry
  obtain ⟨its, r, pl, hl⟩ := I.list hH
  obtain ⟨its2, r2, pl2, hl2⟩ := I.list hB
  obtain ⟨⟨cls, dd, data, sl⟩, ho, hc, n, hd⟩ := pl.isList
  obtain ⟨⟨cls2, dd2, data2, sl2⟩, ho2, hc2, n2, hd2⟩ := pl2.isList
  simp only at hc hd hc2 hd2
  subst hc hd hc2 hd2
  have e : its.toArray ++ its2.toArray = (its ++ its2).toArray := by simp
  refine concat_meets ⟨_, ho, rfl⟩ ⟨_, ho2, rfl⟩ noFill_list_add seq_list_add PySem.F.slot_list_add PySem.F.entry_list_add (PySem.F.args_list_add_2 _ _) (list_addW l b its.toArray its2.toArray n n2 dd dd2 sl sl2 (by rw [List.size_toArray, List.size_toArray, ← r.length, ← r2.length]; exact hz)) ⟨ho, ho2, ?_⟩
  rw [e]
  exact ⟨.ref _, _, I.lnew (t' := s.toks) (r.append r2) (by rw [List.length_append]; exact hz), rfl, q _ I.fresh⟩
end
end Pv

/-! PM: a list times a whole number -/
namespace Pv
open PySem PySem.Spec PyProof.Rows L2
open AutoSeq1 (wpAny_loadPart')
theorem rmulW (a : Int) (t : Tok) (l : Addr) (items : Array Value) (n : Nat) (dd : Option Addr) (sl : Array (Option Value)) :
    Meets (Builtin.«int.__rmul__» ⟨[.int a t, .ref l], []⟩) (fun _ R s => s.heap.get? l = some { cls := .type "list", dict := dd, data := .seq items n, slots := sl } ∧ R (.ok (.ret Value.notImplemented)) s) :=
  .of_wp fun prog w A R s h => by obtain ⟨hp, g, d, tk, os⟩ := s; obtain ⟨hl, h⟩ := h; wp_walk; exact ⟨_, rfl, h⟩
theorem lmulW (l : Addr) (items : Array Value) (n : Nat) (x : Int) (u : Tok) (dd : Option Addr) (sl : Array (Option Value)) (hc0 : ¬(!Builtin.List.listFitsIndex x) = true) (hc1 : ¬items.size * x.toNat > (2 ^ 63 - 1) / 8) (hc2 : ¬Builtin.List.listTooLong (items.size * x.toNat) = true) :
    Meets (Builtin.«list.__mul__» ⟨[.ref l, .int x u], []⟩) (fun _ R s => s.heap.get? l = some { cls := .type "list", dict := dd, data := .seq items n, slots := sl } ∧ R (.ok (.ret (Value.ref s.heap.objs.size))) { s with heap := s.heap.push { cls := .type "list", data := .seq (List.foldl (fun x1 x2 => x1 ++ x2) #[] (List.replicate (if items.isEmpty = true then 0 else x.toNat) items)) } }) :=
  .of_wp fun prog w A R s h => by
    obtain ⟨hp, g, d, tk, os⟩ := s; obtain ⟨hl, h⟩ := h
    have hsz := AutoListH.joined_fits hc2
    wp_walk; refine wpAny_ite_false (decide_eq_false (Nat.not_lt.mpr hsz)) ?_; wp_walk; exact ⟨_, rfl, h⟩
section
variable {X : Cx}
def rRepS (K : PySem.W.Frag) : R2 := fun x y H Q => ∃ l k xs, x = .ref l ∧ y = .int k ∧ SqL K H l xs ∧ -(2 ^ 63) ≤ k ∧ k < 2 ^ 63 ∧ xs.length * k.toNat ≤ sizeLine ∧
  ∀ p, H p = none → Q (.ref p) (upd H p (.lst (List.replicate k.toNat xs).flatten))
theorem op_repS : OpR X (binaryOp .Mult) (rRepS X.K) := by
  intro pins s σ H x y v u Q I rx ry h
  obtain ⟨l, k, xs, rfl, rfl, hH, h1, h2, hz, q⟩ := h
  cases rx
  obtain ⟨t, rfl⟩ := ry
  obtain ⟨its, r, pl, _⟩ := I.list hH
  obtain ⟨⟨cls, dd, data, sl⟩, ho, hc, n, hd⟩ := pl.isList
  simp only at hc hd
  subst hc hd
  have hl := r.length
  have hlen : its.toArray.size * k.toNat ≤ sizeLine := by rw [List.size_toArray, ← hl]; exact hz
  have hcap : ¬ its.toArray.size * k.toNat > (2 ^ 63 - 1) / 8 := by
    have : (sizeLine : Nat) ≤ (2 ^ 63 - 1) / 8 := by decide
    omega
  have hfit : ¬ (!Builtin.List.listFitsIndex k) = true := by
    rw [fitsIndex_both h1 h2]
    exact Bool.false_ne_true
  have hlong : ¬ Builtin.List.listTooLong (its.toArray.size * k.toNat) = true := by
    rw [notLongL hlen]
    exact Bool.false_ne_true
  have hnew : List.foldl (fun x1 x2 => x1 ++ x2) #[] (List.replicate (if its.toArray.isEmpty = true then 0 else k.toNat) its.toArray) = (List.replicate k.toNat its).flatten.toArray := by
    have f0 : ∀ m : Nat, List.foldl (fun x1 x2 => x1 ++ x2) #[] (List.replicate m its.toArray) = (List.replicate m its).flatten.toArray := fun m => by
      have := foldl_rep its m []
      rw [List.nil_append] at this
      exact this
    rw [f0]
    cases its with
    | nil => simp
    | cons a r' => rw [if_neg (by simp)]
  refine wpAny_binaryOp_repeat_ref (T := "list") (U := "int") (by decide) ⟨_, ho, rfl⟩ (fun s' => typeIs_int s' k t) noFill_list_mul F.fills_int_mul F.slot_int_rmul repeat_list F.slot_int_index.lookup
    (call_meets F.slot_int_rmul (typeIs_int s k t) F.entry_int_rmul (F.args_int_rmul_2 _ _) (rmulW k t l its.toArray n dd sl)
      ⟨ho, rfl, ⟨_, ho, rfl⟩, call_meets F.slot_list_mul ⟨_, ho, rfl⟩ F.entry_list_mul (F.args_list_mul_2 _ _) (lmulW l its.toArray n k t dd sl hfit hcap hlong) ⟨ho, ?_⟩⟩)
  rw [hnew]
  exact ⟨.ref _, _, I.lnew (t' := s.toks) (r.rep k.toNat) (by rw [PyProof.Rows.lm_len_rep_flat, Nat.mul_comm]; exact hz), rfl, q _ I.fresh⟩
end
end Pv

/-! P2: operators, comparisons by values -/
namespace Pv
open PySem PySem.Spec PyProof.Rows L2

section
variable {X : Cx}
/-! ### arithmetic -/
def addV (mh : List Ob) (a b : Val) : Option Rv := match a, b with
  | .d (.int i), .d (.int j) => some (.v (.d (.int (i + j))))
  | .d (.str x), .d (.str y) => if x.length + y.length ≤ sizeLine then some (.v (.d (.str (x ++ y)))) else none
  | .d (.tuple xs), .d (.tuple ys) => if xs.length + ys.length ≤ sizeLine then some (.v (.d (.tuple (xs ++ ys)))) else none
  | a, b => match seqL mh a, seqL mh b with
    | some xs, some ys => if xs.length + ys.length ≤ sizeLine then some (.nl (xs ++ ys)) else none
    | _, _ => none
theorem ops_add : OpS X (binaryOp .Add) addV := by
  refine ⟨_, op_add.or (op_add_str.or (op_catF.or op_catL)), fun Q w dx dy e q => ?_⟩
  rename_i mh F ρ H x y vx vy rv
  unfold addV at e
  split at e
  · cases e
    exact .inl ⟨_, _, den_int dx, den_int dy, q.here w (Den.int _)⟩
  · split at e
    · cases e
      exact .inr (.inl ⟨_, _, den_str dx, den_str dy, ‹_›, q.here w (Den.str _)⟩)
    · cases e
  · rename_i xs ys
    split at e
    · rename_i hz
      cases e
      refine .inr (.inr (.inl ?_))
      cases dx with
      | tup q1 z1 r1 n1 =>
        cases dy with
        | tup q2 z2 r2 n2 =>
          refine ⟨_, _, _, _, rfl, rfl, w.rle.sqT q1, w.rle.sqT q2, by rw [r1.length, r2.length]; exact hz, fun z => ?_, fun z1' z => ?_, fun _ _ p ob hp hob => ?_⟩
          · subst z
            cases r1
            exact q.here w (Den.tup q2 z2 r2 n2)
          · subst z
            cases r2
            rw [List.append_nil] at q
            exact q.here w (Den.tup q1 z1 r1 n1)
          · exact q.tup w hp hob (r1.append r2) (by rw [List.length_append]; exact hz)
    · cases e
  · split at e
    · rename_i _ _ _ _ _ xs ys e1 e2
      split at e
      · rename_i hz
        cases e
        obtain ⟨a, us, rfl, q1, r1, z1⟩ := seqL_ok w dx e1
        obtain ⟨b, ws, rfl, q2, r2, z2⟩ := seqL_ok w dy e2
        exact .inr (.inr (.inr ⟨_, _, _, _, rfl, rfl, q1, q2, by rw [r1.length, r2.length]; exact hz, fun p hp => q.list w hp (r1.append r2) (by rw [List.length_append]; exact hz)⟩))
      · cases e
    · cases e
def subV : List Ob → Val → Val → Option Rv := i2 fun i j => some (.int (i - j))
theorem ops_sub : OpS X (binaryOp .Sub) subV := ops_i20 op_sub fun i j x e _ _ => by cases e; exact Den.int _
def MulOk (i j : Int) : Prop := i.natAbs < 2 ^ 64 ∨ j.natAbs < 2 ^ 64 ∨ (i.natAbs < 2 ^ 9000 ∧ j.natAbs < 2 ^ 9000)
instance (i j : Int) : Decidable (MulOk i j) := by unfold MulOk; infer_instance
def mulV (mh : List Ob) (a b : Val) : Option Rv := match a, b with
  | .d (.int i), .d (.int j) => if MulOk i j then some (.v (.d (.int (i * j)))) else none
  | a, .d (.int k) => match seqL mh a with
    | some xs => if 0 ≤ k ∧ k < 2 ^ 62 ∧ xs.length * k.toNat ≤ sizeLine then some (.nl (List.replicate k.toNat xs).flatten) else none
    | none => none
  | _, _ => none
theorem denVs_rep {K : PySem.W.Frag} {F : Hp} {ρ : List Addr} {us : List V} {vs : List Val} (h : DenVs K F ρ us vs) : ∀ n : Nat, DenVs K F ρ (List.replicate n us).flatten (List.replicate n vs).flatten
  | 0 => .nil
  | n + 1 => by
    rw [List.replicate_succ, List.replicate_succ, List.flatten_cons, List.flatten_cons]
    exact h.append (denVs_rep h n)
theorem MulOk.c {i j : Int} (h : MulOk i j) : CMul i j ∨ CMulW i j := by
  rcases h with h | h | ⟨h1, h2⟩
  · exact .inl (.inl ⟨by omega, by omega⟩)
  · exact .inl (.inr ⟨by omega, by omega⟩)
  · exact .inr (wide_mul h1 h2 (by decide) (by decide) (by decide))
theorem ops_mul : OpS X (binaryOp .Mult) mulV := by
  refine ⟨_, op_mul.or (op_mulW.or op_repS), fun Q w dx dy e q => ?_⟩
  rename_i mh F ρ H x y vx vy rv
  unfold mulV at e
  split at e
  · split at e
    · rename_i hm
      cases e
      rcases hm.c with c | c
      · exact .inl ⟨_, _, den_int dx, den_int dy, c, q.here w (Den.int _)⟩
      · exact .inr (.inl ⟨_, _, den_int dx, den_int dy, c, q.here w (Den.int _)⟩)
    · cases e
  · split at e
    · rename_i _ _ k _ _ xs e1
      split at e
      · rename_i hz
        cases e
        obtain ⟨a, us, rfl, q1, r1, z1⟩ := seqL_ok w dx e1
        exact .inr (.inr ⟨a, k, us, rfl, den_int dy, q1, by omega, by omega, by rw [r1.length]; exact hz.2.2, fun p hp => q.list w hp (denVs_rep r1 _) (by
          have := (denVs_rep r1 k.toNat).length
          rw [← this, PyProof.Rows.lm_len_rep_flat, Nat.mul_comm, r1.length]
          exact hz.2.2)⟩)
      · cases e
    · cases e
  · cases e
def DivOk (j : Int) : Prop := 0 < j ∧ j.natAbs < 2 ^ 9000
instance (j : Int) : Decidable (DivOk j) := by unfold DivOk; infer_instance
def divV : List Ob → Val → Val → Option Rv := i2 fun i j => if DivOk j then some (.int (i / j)) else none
theorem ops_div : OpS X (binaryOp .FloorDiv) divV := ops_i2 op_fdivW fun i j x e => by
  split at e
  · rename_i h
    cases e
    exact ⟨wide_div h.1 h.2 (by decide) (by decide), fun _ _ => Den.int _⟩
  · cases e
def modV : List Ob → Val → Val → Option Rv := i2 fun i j => if 0 < j then some (.int (i % j)) else none
theorem ops_mod : OpS X (binaryOp .Mod) modV := ops_i2 op_mod fun i j x e => by
  split at e
  · cases e; exact ⟨‹_›, fun _ _ => Den.int _⟩
  · cases e
def powV : List Ob → Val → Val → Option Rv := i2 fun i j => if 0 ≤ j ∧ j ≤ 1000000 ∧ i.natAbs < 2 ^ 64 then some (.int (i ^ j.toNat)) else none
theorem ops_pow : OpS X (binaryOp .Pow) powV := ops_i2 op_pow fun i j x e => by
  split at e
  · cases e; exact ⟨‹_›, fun _ _ => Den.int _⟩
  · cases e

/-! ### ordering of ints -/
def ltV : List Ob → Val → Val → Option Rv := i2 fun i j => some (.bool (decide (i < j)))
def leV : List Ob → Val → Val → Option Rv := i2 fun i j => some (.bool (decide (i ≤ j)))
def gtV : List Ob → Val → Val → Option Rv := i2 fun i j => some (.bool (decide (j < i)))
def geV : List Ob → Val → Val → Option Rv := i2 fun i j => some (.bool (decide (j ≤ i)))
theorem ops_lt : OpS X (compareOp .Lt) ltV := ops_i20 op_lt fun i j x e _ _ => by cases e; exact Den.bl _
theorem ops_le : OpS X (compareOp .LtE) leV := ops_i20 op_le fun i j x e _ _ => by cases e; exact Den.bl _
theorem ops_gt : OpS X (compareOp .Gt) gtV := ops_i20 op_gt fun i j x e _ _ => by cases e; exact Den.bl _
theorem ops_ge : OpS X (compareOp .GtE) geV := ops_i20 op_ge fun i j x e _ _ => by cases e; exact Den.bl _
end

/-! ### == -/
/-- the data that a value is (a cell of data counts) -/
def pureD (mh : List Ob) : Val → Option Dt
  | .d x => some x
  | .ref n => ((cellL mh n).bind asDs).map fun ds => .list ds
section
variable {K : PySem.W.Frag} {mh : List Ob} {F : Hp} {ρ : List Addr} {H : Hp} {u : V} {v : Val} {x : Dt}
theorem pureD_ok (w : Wd K mh F ρ H) (d : DenV K F ρ u v) (h : pureD mh v = some x) : Den K H u x := by
  cases v with
  | d y => cases h; exact Den.mono w.rle d
  | ref n =>
    have h : ((cellL mh n).bind asDs).map (fun ds => PyData.list ds) = some x := h
    cases e1 : cellL mh n with
    | none => rw [e1] at h; cases h
    | some vs =>
      rw [e1] at h
      cases e2 : asDs vs with
      | none => simp [e2] at h
      | some ds =>
        simp only [Option.bind_some, e2, Option.map_some, Option.some.injEq] at h
        subst h
        obtain ⟨a, e, rfl⟩ := d
        obtain ⟨_, xs, q, r, z⟩ := cellL_ok w e e1
        have e3 := asDs_eq e2
        subst e3
        exact Den.lst (SqL.of q) (by rw [List.length_map] at z; exact z) (r.all.mono w.rle)
mutual
theorem Den.dp (F : Hp) : ∀ (x : Dt) (u : V), Den K F u x → x.canLay0 = true → Dp K F u x
  | .none, _, h, _ => by cases h; exact .non
  | .bool b, _, h, _ => by cases h; exact .bl b
  | .int i, _, h, _ => by cases h; exact .int i
  | .str y, _, h, _ => by cases h; exact .str y
  | .list ds, _, h, c => by
    cases h with
    | lst q z r => exact .lst q (DenAll.dp F ds _ r (by simpa [PyData.canLay0] using c))
  | .tuple ds, _, h, c => by
    cases h with
    | tup q z r nd => exact .tup q (DenAll.dp F ds _ r (by simpa [PyData.canLay0] using c))
  | .dict ds, _, h, c => by simp [PyData.canLay0] at c
theorem DenAll.dp (F : Hp) : ∀ (xs : List Dt) (us : List V), DenAll K F us xs → PyData.canLayAll0 xs = true → DpAll K F us xs
  | [], _, h, _ => by cases h; exact .nil
  | x :: xs, _, h, c => by
    cases h with
    | cons a b =>
      simp only [PyData.canLayAll0, Bool.and_eq_true] at c
      exact .cons (Den.dp F x _ a c.1) (DenAll.dp F xs _ b c.2)
end
end
def eqD (x y : Dt) : Option Bool := match x, y with
  | .int i, .int j => some (decide (i = j))
  | .str i, .str j => some (decide (i = j))
  | .bool i, .bool j => some (decide (i = j))
  | .int _, .str _ => some false
  | .str _, .int _ => some false
  | .none, .str _ => some false
  | .none, .int _ => some false
  | .str _, .none => some false
  | .int _, .none => some false
  | x, y => if SeqAt.shaped x = true ∧ SeqAt.shaped y = true then some (PyData.eqv x y) else none
def eqV2 (mh : List Ob) (a b : Val) : Option Bool := match pureD mh a, pureD mh b with
  | some x, some y => eqD x y
  | _, _ => none
def bR (o : Option Bool) : Option Rv := o.map fun b => .v (.d (.bool b))
theorem bR_some {o : Option Bool} {rv : Rv} (h : bR o = some rv) : ∃ b, o = some b ∧ rv = .v (.d (.bool b)) := by
  unfold bR at h
  cases o with
  | none => cases h
  | some b => cases h; exact ⟨b, rfl, rfl⟩
section
variable {X : Cx}
theorem eqD_ok {mh : List Ob} {F : Hp} {ρ : List Addr} {H : Hp} {u v : V} {a c : Val} {b : Bool} (w : Wd X.K mh F ρ H) (du : DenV X.K F ρ u a) (dv : DenV X.K F ρ v c) (h : eqV2 mh a c = some b) :
    (scal u v = true ∧ b = decide (u = v)) ∨ ∃ d e, Dp X.K H u d ∧ Dp X.K H v e ∧ SeqAt.shaped d = true ∧ SeqAt.shaped e = true ∧ b = PyData.eqv d e := by
  unfold eqV2 at h
  split at h
  · rename_i x y ex ey
    have hx := pureD_ok w du ex
    have hy := pureD_ok w dv ey
    unfold eqD at h
    split at h
    · cases h; cases hx; cases hy; exact .inl ⟨rfl, by simp⟩
    · cases h; cases hx; cases hy; exact .inl ⟨rfl, by simp⟩
    · cases h; cases hx; cases hy; exact .inl ⟨rfl, by simp⟩
    · cases h; cases hx; cases hy; exact .inl ⟨rfl, by simp⟩
    · cases h; cases hx; cases hy; exact .inl ⟨rfl, by simp⟩
    · cases h; cases hx; cases hy; exact .inl ⟨rfl, by simp⟩
    · cases h; cases hx; cases hy; exact .inl ⟨rfl, by simp⟩
    · cases h; cases hx; cases hy; exact .inl ⟨rfl, by simp⟩
    · cases h; cases hx; cases hy; exact .inl ⟨rfl, by simp⟩
    · split at h
      · rename_i hs
        cases h
        exact .inr ⟨_, _, Den.dp H _ _ hx (SeqAt.canLay_of_shaped hs.1), Den.dp H _ _ hy (SeqAt.canLay_of_shaped hs.2), hs.1, hs.2, rfl⟩
      · cases h
  · cases h
theorem ops_eq (hu : X.A.units + 64 < cLine) : OpS X (compareOp .Eq) (fun mh a b => bR (eqV2 mh a b)) := by
  refine ⟨_, op_eq.or (op_eqD hu), fun Q w dx dy e q => ?_⟩
  obtain ⟨b, e1, rfl⟩ := bR_some e
  have q' := q.here w (Den.bl b)
  rcases eqD_ok w dx dy e1 with ⟨h1, rfl⟩ | ⟨d, e2, h1, h2, h3, h4, rfl⟩
  · exact .inl ⟨h1, q'⟩
  · exact .inr ⟨d, e2, h1, h2, h3, h4, q'⟩
theorem ops_ne (hu : X.A.units + 64 < cLine) : OpS X (compareOp .NotEq) (fun mh a b => bR ((eqV2 mh a b).map (!·))) := by
  refine ⟨_, op_ne.or (op_neD hu), fun Q w dx dy e q => ?_⟩
  rename_i mh F ρ H x y vx vy rv
  obtain ⟨b, e1, rfl⟩ := bR_some e
  have q' := q.here w (Den.bl b)
  cases e2 : eqV2 mh vx vy with
  | none => rw [e2] at e1; cases e1
  | some c =>
    rw [e2] at e1
    cases e1
    rcases eqD_ok w dx dy e2 with ⟨h1, rfl⟩ | ⟨d, e3, h1, h2, h3, h4, rfl⟩
    · exact .inl ⟨h1, q'⟩
    · exact .inr ⟨d, e3, h1, h2, h3, h4, q'⟩

/-! ### in -/
def flatD : Dt → Bool
  | .none => true
  | .bool _ => true
  | .int _ => true
  | .str _ => true
  | _ => false
def keyD : Dt → Option Key
  | .int i => some (.inl i)
  | .str x => some (.inr x)
  | _ => none
def keyVl : Val → Option Key
  | .d x => keyD x
  | _ => none
/-- a dict: frozen (by data), or a cell -/
def unkey : List (Dt × Dt) → Option (List (Key × Val))
  | [] => some []
  | kv :: r => match keyD kv.1, unkey r with
    | some k, some xs => some ((k, .d kv.2) :: xs)
    | _, _ => none
def dctOf (mh : List Ob) : Val → Option (List (Key × Val))
  | .d (.dict ds) => unkey ds
  | .ref n => match mh[n]? with
    | some (.dct kvs) => some kvs
    | _ => none
  | _ => none
def findK (kvs : List (Key × Val)) (k : Key) : Option Val := (kvs.find? fun kv => decide (kv.1 = k)).map (·.2)
def inSeq (x : Dt) (ys : List Dt) : Option Bool :=
  if flatD x = true ∧ ys.all flatD = true then some (ys.any fun y => PyData.eqv y x) else none
def inV2 (mh : List Ob) (a c : Val) : Option Bool := match dctOf mh c with
  | some kvs => (keyVl a).map fun k => (findK kvs k).isSome
  | none => match a, (seqA mh c).bind asDs with
    | .d x, some ys => (inSeq x ys).orElse fun _ =>
        if (seqL mh c).isNone then none else if SeqAt.shaped x = true ∧ SeqAt.shaped (.list ys) = true then some (ys.any fun y => PyData.eqv y x) else none
    | _, _ => none
theorem key_den {K : PySem.W.Frag} {F : Hp} {ρ : List Addr} {u : V} {v : Val} {k : Key} (d : DenV K F ρ u v) (h : keyVl v = some k) : u = kV k := by
  cases v with
  | ref n => cases h
  | d x =>
    cases x with
    | int i => cases h; cases d; rfl
    | str i => cases h; cases d; rfl
    | _ => cases h
theorem unkey_ok {K : PySem.W.Frag} {F : Hp} {ρ : List Addr} : ∀ {ds : List (Dt × Dt)} {kvs : List (Key × Val)} {ks : List (Key × V)}, unkey ds = some kvs → DenKV K F ks ds → DenVK K F ρ ks kvs
  | [], _, _, h, r => by cases h; cases r; exact .nil
  | p :: r, kvs, _, h, dd => by
    cases dd with
    | @cons k v vs d ds d rr =>
      unfold unkey at h
      have hk : keyD (kD k) = some k := by cases k <;> rfl
      cases e : unkey r with
      | none => simp only [e, hk] at h; cases h
      | some xs =>
        simp only [e, hk, Option.some.injEq] at h
        subst h
        exact .cons ⟨rfl, d⟩ (unkey_ok e rr)
theorem dctOf_ok {K : PySem.W.Frag} {mh : List Ob} {F : Hp} {ρ : List Addr} {H : Hp} {u : V} {v : Val} {kvs : List (Key × Val)} (w : Wd K mh F ρ H) (d : DenV K F ρ u v) (h : dctOf mh v = some kvs) :
    ∃ a ks, u = .ref a ∧ Rd H a (.dK ks) ∧ DenVK K F ρ ks kvs := by
  cases v with
  | d x =>
    cases x with
    | dict ds =>
      cases d with
      | dct q z r => exact ⟨_, _, rfl, w.rle _ _ (fun _ _ e => by cases e) q, unkey_ok h r⟩
    | _ => cases h
  | ref n =>
    obtain ⟨a, e, rfl⟩ := d
    unfold dctOf at h
    simp only at h
    split at h
    · rename_i kvs' e2
      cases h
      obtain ⟨z, ks, q, r⟩ := w.cell n a _ e e2
      exact ⟨a, ks, rfl, .inl q, r⟩
    · cases h
theorem findK_ok {K : PySem.W.Frag} {F : Hp} {ρ : List Addr} {k : Key} : ∀ {ks : List (Key × V)} {kvs : List (Key × Val)}, DenVK K F ρ ks kvs → (valV ks k = none ∧ findK kvs k = none) ∨ ∃ u v, valV ks k = some u ∧ findK kvs k = some v ∧ DenV K F ρ u v
  | _, _, .nil => .inl ⟨rfl, rfl⟩
  | (k1, u) :: ks, (k2, v) :: kvs, .cons ⟨e, d⟩ r => by
    have e : k1 = k2 := e
    subst e
    by_cases h : k1 = k
    · subst h
      exact .inr ⟨u, v, valV_pos rfl, by simp [findK], d⟩
    · rw [show valV ((k1, u) :: ks) k = valV ks k from valV_neg h, show findK ((k1, v) :: kvs) k = findK kvs k by simp [findK, List.find?_cons, h]]
      exact findK_ok r
theorem flat_den {K : PySem.W.Frag} {F : Hp} {u : V} {x : Dt} (d : Den K F u x) : flatV u = flatD x := by
  cases d <;> rfl
theorem flat_eq {K : PySem.W.Frag} {F : Hp} {u v : V} {x y : Dt} (d : Den K F u x) (e : Den K F v y) (h : flatD x = true) (h' : flatD y = true) : eqV u v = PyData.eqv x y := by
  cases d <;> cases e <;> first | rfl | cases h | cases h'
theorem flat_all {K : PySem.W.Frag} {F : Hp} : ∀ {us : List V} {xs : List Dt}, DenAll K F us xs → us.all flatV = xs.all flatD
  | _, _, .nil => rfl
  | _, _, .cons a b => by rw [List.all_cons, List.all_cons, flat_den a, flat_all b]
theorem flat_any {K : PySem.W.Frag} {F : Hp} {v : V} {y : Dt} (e : Den K F v y) (h' : flatD y = true) : ∀ {us : List V} {xs : List Dt}, DenAll K F us xs → xs.all flatD = true → (us.any fun u => eqV u v) = xs.any fun x => PyData.eqv x y
  | _, _, .nil, _ => rfl
  | _, _, .cons a b, h => by
    rw [List.all_cons, Bool.and_eq_true] at h
    rw [List.any_cons, List.any_cons, flat_eq a e h.1 h', flat_any e h' b h.2]
/-- x in d, by values -/
theorem op_in_dct (hu : X.A.units + 1 < cLine) : OpR X (compareOp .In) (fun y x H Q => ∃ a o, x = .ref a ∧ DGet H a y o ∧ Q (.bl o.isSome) H) := by
  intro pins s σ H y x v u Q I ry rx h
  obtain ⟨a, o, rfl, g, q⟩ := h
  cases rx
  exact d_in hu I g ry fun s3 I3 => ⟨.bl o.isSome, H, I3, rfl, q⟩
theorem op_notin_dct (hu : X.A.units + 1 < cLine) : OpR X (compareOp .NotIn) (fun y x H Q => ∃ a o, x = .ref a ∧ DGet H a y o ∧ Q (.bl (!o.isSome)) H) := by
  intro pins s σ H y x v u Q I ry rx h
  obtain ⟨a, o, rfl, g, q⟩ := h
  cases rx
  exact d_notIn hu I g ry fun s3 I3 => ⟨.bl (!o.isSome), H, I3, rfl, q⟩
theorem inV2_ok {mh : List Ob} {F : Hp} {ρ : List Addr} {H : Hp} {u v : V} {a c : Val} {b : Bool} (w : Wd X.K mh F ρ H) (du : DenV X.K F ρ u a) (dv : DenV X.K F ρ v c) (h : inV2 mh a c = some b) :
    (∃ p o, v = .ref p ∧ DGet H p u o ∧ b = o.isSome) ∨ (∃ p xs, v = .ref p ∧ (SqL X.K H p xs ∨ SqT X.K H p xs) ∧ flatV u = true ∧ xs.all flatV = true ∧ b = inV u xs) ∨
    ∃ d ds, Dp X.K H u d ∧ Dp X.K H v (.list ds) ∧ SeqAt.shaped d = true ∧ SeqAt.shaped (.list ds) = true ∧ b = ds.any fun z => PyData.eqv z d := by
  unfold inV2 at h
  split at h
  · rename_i kvs e1
    cases ek : keyVl a with
    | none => rw [ek] at h; cases h
    | some k =>
      rw [ek] at h
      have h : (findK kvs k).isSome = b := Option.some.inj h
      subst h
      obtain ⟨p, ks, rfl, q, r⟩ := dctOf_ok w dv e1
      have eu := key_den du ek
      refine .inl ⟨p, valV ks k, rfl, .inl ⟨ks, k, q, eu, rfl⟩, ?_⟩
      rcases findK_ok (k := k) r with ⟨q1, q2⟩ | ⟨x, y, q1, q2, _⟩ <;> rw [q1, q2] <;> rfl
  · split at h
    · rename_i x ys e2
      cases e3 : seqA mh c with
      | none => rw [e3] at e2; cases e2
      | some vs =>
        rw [e3] at e2
        have e4 : asDs vs = some ys := e2
        have e5 := asDs_eq e4
        subst e5
        obtain ⟨p, xs, rfl, hq, r, z⟩ := seqA_ok w dv e3
        cases e6 : inSeq x ys with
        | some b' =>
          rw [e6] at h
          cases h
          unfold inSeq at e6
          split at e6
          · rename_i hf
            cases e6
            exact .inr (.inl ⟨p, xs, rfl, hq, (flat_den du).trans hf.1, (flat_all r.all).trans hf.2, (flat_any du hf.1 r.all hf.2).symm⟩)
          · cases e6
        | none =>
          rw [e6] at h
          simp only [Option.orElse_none] at h
          split at h
          · cases h
          · rename_i nt
            split at h
            · rename_i hs
              cases h
              refine .inr (.inr ⟨x, ys, Den.dp H _ _ (Den.mono w.rle du) (SeqAt.canLay_of_shaped hs.1), ?_, hs.1, hs.2, rfl⟩)
              cases c with
              | d y =>
                cases y with
                | list zs =>
                  have : zs = ys := by
                    have e7 : some (zs.map Val.d) = some (ys.map Val.d) := e3
                    have e8 := congrArg asDs (Option.some.inj e7)
                    rw [asDs_map, asDs_map] at e8
                    exact Option.some.inj e8
                  subst this
                  exact Den.dp H _ _ (Den.mono w.rle dv) (SeqAt.canLay_of_shaped hs.2)
                | tuple zs => exact absurd rfl nt
                | _ => cases e3
              | ref n =>
                have e7 : pureD mh (.ref n) = some (.list ys) := by
                  have e8 : cellL mh n = some (ys.map Val.d) := e3
                  show ((cellL mh n).bind asDs).map _ = _
                  rw [e8]
                  show (asDs (ys.map Val.d)).map _ = _
                  rw [asDs_map]
                  rfl
                exact Den.dp H _ _ (pureD_ok w dv e7) (SeqAt.canLay_of_shaped hs.2)
            · cases h
    · cases h
theorem ops_in (hu : X.A.units + 65 < cLine) : OpS X (compareOp .In) (fun mh a b => bR (inV2 mh a b)) := by
  refine ⟨_, (op_in_dct (by omega)).or (op_in_seq.or (op_inD hu)), fun Q w dx dy e q => ?_⟩
  obtain ⟨b, e1, rfl⟩ := bR_some e
  have q' := q.here w (Den.bl b)
  rcases inV2_ok w dx dy e1 with ⟨p, o, rfl, h1, rfl⟩ | ⟨p, xs, rfl, h1, h2, h3, rfl⟩ | ⟨d, ds, h1, h2, h3, h4, rfl⟩
  · exact .inl ⟨p, o, rfl, h1, q'⟩
  · exact .inr (.inl ⟨p, xs, rfl, h1, h2, h3, q'⟩)
  · exact .inr (.inr ⟨d, ds, h1, h2, h3, h4, q'⟩)
theorem ops_notin (hu : X.A.units + 65 < cLine) : OpS X (compareOp .NotIn) (fun mh a b => bR ((inV2 mh a b).map (!·))) := by
  refine ⟨_, (op_notin_dct (by omega)).or (op_notIn_seq.or (op_notInD hu)), fun Q w dx dy e q => ?_⟩
  rename_i mh F ρ H x y vx vy rv
  obtain ⟨b, e1, rfl⟩ := bR_some e
  have q' := q.here w (Den.bl b)
  cases e2 : inV2 mh vx vy with
  | none => rw [e2] at e1; cases e1
  | some c =>
    rw [e2] at e1
    cases e1
    rcases inV2_ok w dx dy e2 with ⟨p, o, rfl, h1, rfl⟩ | ⟨p, xs, rfl, h1, h2, h3, rfl⟩ | ⟨d, ds, h1, h2, h3, h4, rfl⟩
    · exact .inl ⟨p, o, rfl, h1, q'⟩
    · exact .inr (.inl ⟨p, xs, rfl, h1, h2, h3, q'⟩)
    · exact .inr (.inr ⟨d, ds, h1, h2, h3, h4, q'⟩)
/-- is None -/
def isNV (mh : List Ob) (a b : Val) : Option Bool := match a, b with
  | .d .none, .d .none => some true
  | _, .d .none => some false
  | _, _ => none
theorem isNV_ok {mh : List Ob} {F : Hp} {ρ : List Addr} {u v : V} {a c : Val} {b : Bool} (du : DenV X.K F ρ u a) (dv : DenV X.K F ρ v c) (h : isNV mh a c = some b) : v = .non ∧ b = decide (u = .non) := by
  unfold isNV at h
  split at h
  · cases h
    exact ⟨den_non dv, by rw [den_non du]; rfl⟩
  · rename_i x hn
    cases h
    refine ⟨den_non dv, ?_⟩
    cases a with
    | ref n => obtain ⟨p, _, rfl⟩ := du; rfl
    | d y =>
      cases y with
      | none => exact absurd rfl (hn)
      | _ => cases du <;> rfl
  · cases h
theorem ops_is : OpS X (compareOp .Is) (fun mh a b => bR (isNV mh a b)) := by
  refine ⟨_, op_isN, fun Q w dx dy e q => ?_⟩
  obtain ⟨b, e1, rfl⟩ := bR_some e
  have q' := q.here w (Den.bl b)
  obtain ⟨h1, rfl⟩ := isNV_ok dx dy e1
  exact ⟨h1, q'⟩
theorem ops_isnot : OpS X (compareOp .IsNot) (fun mh a b => bR ((isNV mh a b).map (!·))) := by
  refine ⟨_, op_notN, fun Q w dx dy e q => ?_⟩
  rename_i mh F ρ H x y vx vy rv
  obtain ⟨b, e1, rfl⟩ := bR_some e
  have q' := q.here w (Den.bl b)
  cases e2 : isNV mh vx vy with
  | none => rw [e2] at e1; cases e1
  | some c =>
    rw [e2] at e1
    cases e1
    obtain ⟨h1, rfl⟩ := isNV_ok dx dy e2
    exact ⟨h1, q'⟩
end
end Pv

/-! P3: calls of built-ins by values -/
namespace Pv
open PySem PySem.Spec PyProof.Rows L2

section
variable (X : Cx)
def CallS (f : Value) (m : List Ob → List Val → Option Rv) : Prop :=
  ∃ r, CallR X f r ∧ ∀ {mh : List Ob} {F : Hp} {ρ : List Addr} {H : Hp} {xs : List V} {vs : List Val} {rv : Rv} (Q : VK), Wd X.K mh F ρ H → DenVs X.K F ρ xs vs → m mh vs = some rv → PostR X.K mh F ρ H Q rv → r xs H Q
end
theorem CallR.or {X : Cx} {f : Value} {r r' : List V → Hp → VK → Prop} (h : CallR X f r) (h' : CallR X f r') : CallR X f (fun xs H Q => r xs H Q ∨ r' xs H Q) := by
  intro pins s σ H xs us Q I rx q
  rcases q with q | q
  · exact h pins s σ H xs us Q I rx q
  · exact h' pins s σ H xs us Q I rx q

/-! ### lists of one kind -/
def asInt : Val → Option Int
  | .d (.int i) => some i
  | _ => none
def asBl : Val → Option Bool
  | .d (.bool i) => some i
  | _ => none
def asStr : Val → Option Str
  | .d (.str i) => some i
  | _ => none
def allOf {α : Type} (f : Val → Option α) : List Val → Option (List α)
  | [] => some []
  | v :: vs => match f v, allOf f vs with
    | some x, some xs => some (x :: xs)
    | _, _ => none
section
variable {K : PySem.W.Frag} {F : Hp} {ρ : List Addr}
theorem allOf_ok {α : Type} {f : Val → Option α} {g : α → V} (h : ∀ {u : V} {v : Val} {x : α}, DenV K F ρ u v → f v = some x → u = g x) : ∀ {us : List V} {vs : List Val} {xs : List α}, DenVs K F ρ us vs → allOf f vs = some xs → us = xs.map g ∧ vs.length = xs.length
  | _, _, _, .nil, e => by cases e; exact ⟨rfl, rfl⟩
  | _, _, xs, .cons (b := v) (l₂ := vs) a b, e => by
    unfold allOf at e
    cases e1 : f v with
    | none => rw [e1] at e; cases e
    | some x =>
      cases e2 : allOf f vs with
      | none => rw [e1, e2] at e; cases e
      | some ys =>
        rw [e1, e2] at e
        cases e
        obtain ⟨h1, h2⟩ := allOf_ok h b e2
        exact ⟨by rw [h a e1, h1]; rfl, by rw [List.length_cons, List.length_cons, h2]⟩
theorem asInt_ok {u : V} {v : Val} {x : Int} (d : DenV K F ρ u v) (h : asInt v = some x) : u = V.int x := by
  unfold asInt at h
  split at h
  · cases h; exact den_int d
  · cases h
theorem asBl_ok {u : V} {v : Val} {x : Bool} (d : DenV K F ρ u v) (h : asBl v = some x) : u = V.bl x := by
  unfold asBl at h
  split at h
  · cases h; exact den_bl d
  · cases h
theorem asStr_ok {u : V} {v : Val} {x : Str} (d : DenV K F ρ u v) (h : asStr v = some x) : u = V.str x := by
  unfold asStr at h
  split at h
  · cases h; exact den_str d
  · cases h
theorem allOf_map {α : Type} {f : Val → Option α} {g : α → Val} (h : ∀ x, f (g x) = some x) : ∀ xs : List α, allOf f (xs.map g) = some xs
  | [] => rfl
  | x :: xs => by simp only [List.map_cons, allOf, h, allOf_map h xs]
end

/-! ### len, abs, int, str -/
def lenV (mh : List Ob) : List Val → Option Rv
  | [v] => match dctOf mh v with
    | some kvs => some (.v (.d (.int kvs.length)))
    | none => match seqA mh v with
      | some vs => some (.v (.d (.int vs.length)))
      | none => match v with
        | .d (.str x) => if x.length ≤ sizeLine then some (.v (.d (.int x.length))) else none
        | _ => none
  | _ => none
section
variable {X : Cx}
theorem call_lenR : CallR X (.builtin "len") (fun xs H Q => ∃ a kvs, xs = [V.ref a] ∧ Rd H a (.dK kvs) ∧ Q (.int kvs.length) H) := by
  intro pins s σ H xs us Q I r h
  obtain ⟨a, kvs, rfl, ha, q⟩ := h
  obtain ⟨u, rfl, ru⟩ := vals1 r
  cases ru
  exact d_len I ha fun t s' I' => ⟨.int kvs.length, H, I', ⟨t, rfl⟩, q⟩
theorem calls_len : CallS X (.builtin "len") lenV := by
  refine ⟨_, call_lenR.or call_len, fun Q w dv e q => ?_⟩
  rename_i mh F ρ H xs vs rv
  unfold lenV at e
  split at e
  · rename_i v
    cases dv with
    | cons d dn =>
      cases dn
      split at e
      · rename_i kvs e1
        cases e
        obtain ⟨a, ks, rfl, h1, h2⟩ := dctOf_ok w d e1
        refine .inl ⟨a, ks, rfl, h1, ?_⟩
        rw [show ks.length = kvs.length from h2.length]
        exact q.here w (Den.int _)
      · split at e
        · rename_i vs e1
          cases e
          obtain ⟨a, us, rfl, h1, h2, _⟩ := seqA_ok w d e1
          have q' := q.here w (Den.int _)
          rcases h1 with h1 | h1
          · exact .inr ⟨_, _, rfl, .inl ⟨us, h1, h2.length.symm⟩, q'⟩
          · exact .inr ⟨_, _, rfl, .inr ⟨us, h1, h2.length.symm⟩, q'⟩
        · split at e
          · split at e
            · rename_i hz
              cases e
              have := den_str d
              subst this
              exact .inr ⟨_, _, rfl, ⟨hz, rfl⟩, q.here w (Den.int _)⟩
            · cases e
          · cases e
  · cases e
def absVl (mh : List Ob) : List Val → Option Rv
  | [.d (.int i)] => some (.v (.d (.int (if i < 0 then -i else i))))
  | _ => none
theorem calls_abs : CallS X (.builtin "abs") absVl := by
  refine ⟨_, call_abs, fun Q w dv e q => ?_⟩
  unfold absVl at e
  split at e
  · cases dv with
    | cons d dn =>
      cases dn
      cases e
      exact ⟨_, by rw [den_int d], q.here w (Den.int _)⟩
  · cases e
def intVl (mh : List Ob) : List Val → Option Rv
  | [.d (.int i)] => some (.v (.d (.int i)))
  | [.d (.bool k)] => some (.v (.d (.int (if k then 1 else 0))))
  | _ => none
theorem calls_int : CallS X (.type "int") intVl := by
  refine ⟨_, call_int1, fun Q w dv e q => ?_⟩
  unfold intVl at e
  split at e
  · cases dv with
    | cons d dn =>
      cases dn
      cases e
      exact .inl ⟨_, by rw [den_int d], q.here w (Den.int _)⟩
  · cases dv with
    | cons d dn =>
      cases dn
      cases e
      exact .inr ⟨_, by rw [den_bl d], q.here w (Den.int _)⟩
  · cases e
def strVl (mh : List Ob) : List Val → Option Rv
  | [.d (.int i)] => if i.natAbs < 2 ^ 1900 then some (.v (.d (.str (toString i)))) else none
  | _ => none
theorem calls_str : CallS X (.type "str") strVl := by
  refine ⟨_, call_str_int, fun Q w dv e q => ?_⟩
  unfold strVl at e
  split at e
  · split at e
    · rename_i hz
      cases dv with
      | cons d dn =>
        cases dn
        cases e
        exact ⟨_, by rw [den_int d], Nat.lt_of_lt_of_le (PySem.Flt.log2_lt_of (by decide) hz) (by decide), q.here w (Den.str _)⟩
    · cases e
  · cases e

/-! ### max, min, sum, all, any -/
def maxI (ns : List Int) : Option Int := ns.max?
def maxVl (mh : List Ob) : List Val → Option Rv
  | [.d (.int i), .d (.int j)] => some (.v (.d (.int (if j > i then j else i))))
  | [v] => match (seqL mh v).bind (allOf asInt) with
    | some ns => ns.max?.map fun m => .v (.d (.int m))
    | _ => none
  | _ => none
def minVl (mh : List Ob) : List Val → Option Rv
  | [.d (.int i), .d (.int j)] => some (.v (.d (.int (if j < i then j else i))))
  | [v] => match (seqL mh v).bind (allOf asInt) with
    | some ns => ns.min?.map fun m => .v (.d (.int m))
    | _ => none
  | _ => none
theorem seqL_ints {K : PySem.W.Frag} {mh : List Ob} {F : Hp} {ρ : List Addr} {H : Hp} {u : V} {v : Val} {α : Type} {f : Val → Option α} {g : α → V} {ns : List α} (hf : ∀ {u : V} {v : Val} {x : α}, DenV K F ρ u v → f v = some x → u = g x) (w : Wd K mh F ρ H) (d : DenV K F ρ u v) (h : (seqL mh v).bind (allOf f) = some ns) :
    ∃ a, u = .ref a ∧ SqL K H a (ns.map g) ∧ ns.length ≤ sizeLine := by
  cases e1 : seqL mh v with
  | none => rw [e1] at h; cases h
  | some vs =>
    rw [e1] at h
    obtain ⟨a, xs, rfl, h1, h2, h3⟩ := seqL_ok w d e1
    obtain ⟨h4, h5⟩ := allOf_ok hf h2 h
    subst h4
    exact ⟨a, rfl, h1, by rw [← h5]; exact h3⟩
theorem calls_max (hc : X.calm = true) : CallS X (.builtin "max") maxVl := by
  refine ⟨_, (call_max2 hc).or (cr_max hc), fun Q w dv e q => ?_⟩
  unfold maxVl at e
  split at e
  · cases dv with
    | cons d dn =>
      cases dn with
      | cons d2 dn =>
        cases dn
        cases e
        exact .inl ⟨_, _, by rw [den_int d, den_int d2], q.here w (Den.int _)⟩
  · split at e
    · rename_i ns e1
      cases dv with
      | cons d dn =>
        cases dn
        obtain ⟨a, rfl, h1, h2⟩ := seqL_ints asInt_ok w d e1
        cases e2 : ns.max? with
        | none => rw [e2] at e; cases e
        | some m =>
          rw [e2] at e
          cases e
          have hm := List.max?_eq_some_iff.mp e2
          have hne : ns ≠ [] := fun z => by subst z; cases e2
          refine .inr ⟨a, ns, rfl, h1, List.length_pos_iff.mpr hne, fun m' h3 h4 => ?_⟩
          have : m' = m := Int.le_antisymm (hm.2 m' h3) (h4 m hm.1)
          subst this
          exact q.here w (Den.int _)
    · cases e
  · cases e
theorem calls_min (hc : X.calm = true) : CallS X (.builtin "min") minVl := by
  refine ⟨_, (call_min2 hc).or (cr_min hc), fun Q w dv e q => ?_⟩
  unfold minVl at e
  split at e
  · cases dv with
    | cons d dn =>
      cases dn with
      | cons d2 dn =>
        cases dn
        cases e
        exact .inl ⟨_, _, by rw [den_int d, den_int d2], q.here w (Den.int _)⟩
  · split at e
    · rename_i ns e1
      cases dv with
      | cons d dn =>
        cases dn
        obtain ⟨a, rfl, h1, h2⟩ := seqL_ints asInt_ok w d e1
        cases e2 : ns.min? with
        | none => rw [e2] at e; cases e
        | some m =>
          rw [e2] at e
          cases e
          have hm := List.min?_eq_some_iff.mp e2
          have hne : ns ≠ [] := fun z => by subst z; cases e2
          refine .inr ⟨a, ns, rfl, h1, List.length_pos_iff.mpr hne, fun m' h3 h4 => ?_⟩
          have : m' = m := Int.le_antisymm (h4 m hm.1) (hm.2 m' h3)
          subst this
          exact q.here w (Den.int _)
    · cases e
  · cases e
def sumVl (mh : List Ob) : List Val → Option Rv
  | [v] => match (seqL mh v).bind (allOf asInt) with
    | some ns => some (.v (.d (.int ns.sum)))
    | _ => none
  | _ => none
theorem calls_sum (hc : X.calm = true) : CallS X (.builtin "sum") sumVl := by
  refine ⟨_, cr_sum hc, fun Q w dv e q => ?_⟩
  unfold sumVl at e
  split at e
  · split at e
    · rename_i ns e1
      cases dv with
      | cons d dn =>
        cases dn
        cases e
        obtain ⟨a, rfl, h1, h2⟩ := seqL_ints asInt_ok w d e1
        exact ⟨a, ns, rfl, h1, q.here w (Den.int _)⟩
    · cases e
  · cases e
def allVl (mh : List Ob) : List Val → Option Rv
  | [v] => match (seqL mh v).bind (allOf asBl) with
    | some ns => some (.v (.d (.bool (ns.all id))))
    | _ => none
  | _ => none
def anyVl (mh : List Ob) : List Val → Option Rv
  | [v] => match (seqL mh v).bind (allOf asBl) with
    | some ns => some (.v (.d (.bool (ns.any id))))
    | _ => none
  | _ => none
theorem calls_all (hc : X.calm = true) : CallS X (.builtin "all") allVl := by
  refine ⟨_, cr_all hc, fun Q w dv e q => ?_⟩
  unfold allVl at e
  split at e
  · split at e
    · rename_i ns e1
      cases dv with
      | cons d dn =>
        cases dn
        cases e
        obtain ⟨a, rfl, h1, h2⟩ := seqL_ints asBl_ok w d e1
        exact ⟨a, ns, rfl, h1, q.here w (Den.bl _)⟩
    · cases e
  · cases e
theorem calls_any (hc : X.calm = true) : CallS X (.builtin "any") anyVl := by
  refine ⟨_, cr_any hc, fun Q w dv e q => ?_⟩
  unfold anyVl at e
  split at e
  · split at e
    · rename_i ns e1
      cases dv with
      | cons d dn =>
        cases dn
        cases e
        obtain ⟨a, rfl, h1, h2⟩ := seqL_ints asBl_ok w d e1
        exact ⟨a, ns, rfl, h1, q.here w (Den.bl _)⟩
    · cases e
  · cases e

/-! ### list, tuple -/
def listVl (mh : List Ob) : List Val → Option Rv
  | [v] => (seqA mh v).map .nl
  | _ => none
def tupVl (mh : List Ob) : List Val → Option Rv
  | [v] => ((seqA mh v).bind asDs).map fun ds => .v (.d (.tuple ds))
  | _ => none
theorem calls_list : CallS X (.type "list") listVl := by
  refine ⟨_, call_list_of, fun Q w dv e q => ?_⟩
  unfold listVl at e
  split at e
  · rename_i v
    cases dv with
    | cons d dn =>
      cases dn
      cases e1 : seqA _ v with
      | none => rw [e1] at e; cases e
      | some vs =>
        rw [e1] at e
        cases e
        obtain ⟨a, us, rfl, h1, h2, h3⟩ := seqA_ok w d e1
        exact ⟨a, us, rfl, h1, fun p hp => q.list w hp h2 h3⟩
  · cases e
theorem calls_tup : CallS X (.type "tuple") tupVl := by
  refine ⟨_, call_tupF, fun Q w dv e q => ?_⟩
  rename_i mh F ρ H xs vs rv
  unfold tupVl at e
  split at e
  · rename_i v
    cases dv with
    | cons d dn =>
      cases dn
      cases e1 : seqA mh v with
      | none => rw [e1] at e; cases e
      | some vs =>
        rw [e1] at e
        cases e2 : asDs vs with
        | none => simp [e2] at e
        | some ds =>
          simp only [Option.bind_some, e2, Option.map_some, Option.some.injEq] at e
          subst e
          have e3 := asDs_eq e2
          subst e3
          obtain ⟨a, us, rfl, h1, h2, h3⟩ := seqA_ok w d e1
          rw [List.length_map] at h3
          rcases h1 with h1 | h1
          · exact ⟨a, us, rfl, .inl ⟨h1, fun p ob hp hob => q.tup w hp hob h2.all h3⟩⟩
          · -- the tuple itself: it denotes in H; the data is v's own
            have hv : v = .d (.tuple ds) ∨ ∃ l, seqL mh v = some l := by
              unfold seqA at e1
              split at e1
              · rename_i xs
                have e4 := congrArg asDs (Option.some.inj e1)
                rw [asDs_map, asDs_map] at e4
                cases e4
                exact .inl rfl
              · exact .inr ⟨_, e1⟩
            rcases hv with rfl | ⟨l, hl⟩
            · exact ⟨a, us, rfl, .inr ⟨h1, q.here w d⟩⟩
            · obtain ⟨a', us', e5, h4, h5, h6⟩ := seqL_ok w d hl
              cases e5
              have e6 : l = ds.map Val.d := by
                have : seqA mh v = some l := by
                  unfold seqA
                  split
                  · cases hl
                  · exact hl
                rw [e1] at this
                exact (Option.some.inj this).symm
              subst e6
              exact ⟨a, us', rfl, .inl ⟨h4, fun p ob hp hob => q.tup w hp hob h5.all h3⟩⟩
  · cases e

/-! ### sorted -/
def leS (a b : Str) : Bool := decide (a.cps.toList ≤ b.cps.toList)
def leI (a b : Int) : Bool := decide (a ≤ b)
def sortS (xs : List Str) : List Str := xs.mergeSort leS
def sortI (xs : List Int) : List Int := xs.mergeSort leI
theorem leS_trans (a b c : Str) (h : leS a b = true) (h' : leS b c = true) : leS a c = true := decide_eq_true (List.le_trans (of_decide_eq_true h) (of_decide_eq_true h'))
theorem leS_total (a b : Str) : (leS a b || leS b a) = true := by
  rw [Bool.or_eq_true]
  rcases List.le_total a.cps.toList b.cps.toList with h | h
  · exact .inl (decide_eq_true h)
  · exact .inr (decide_eq_true h)
theorem leS_antisymm {a b : Str} (h : leS a b = true) (h' : leS b a = true) : a = b := by
  have e : a.cps.toList = b.cps.toList := List.le_antisymm (of_decide_eq_true h) (of_decide_eq_true h')
  obtain ⟨⟨x⟩⟩ := a
  obtain ⟨⟨y⟩⟩ := b
  simp only at e
  rw [e]
theorem sortS_pairwise (xs : List Str) : (sortS xs).Pairwise fun a b => leS a b = true := List.pairwise_mergeSort leS_trans leS_total xs
theorem sortS_perm (xs : List Str) : (sortS xs).Perm xs := List.mergeSort_perm _ _
theorem sortI_pairwise (xs : List Int) : (sortI xs).Pairwise fun a b => a ≤ b := by
  have h := List.pairwise_mergeSort (le := leI) (fun a b c h h' => by simp only [leI, decide_eq_true_eq] at *; omega) (fun a b => by simp only [leI, Bool.or_eq_true, decide_eq_true_eq]; omega) xs
  exact h.imp fun h => of_decide_eq_true h
theorem sortI_perm (xs : List Int) : (sortI xs).Perm xs := List.mergeSort_perm _ _
theorem rising_pw : ∀ (r : List Str) (p : Str), risingS p r = true → (p :: r).Pairwise fun a b => leS a b = true
  | [], p, _ => List.pairwise_singleton _ _
  | x :: r, p, h => by
    unfold risingS at h
    rw [Bool.and_eq_true] at h
    have h1 : leS p x = true := by
      have := h.1
      rw [ltCps_eq] at this
      simp only [Bool.not_eq_true', decide_eq_false_iff_not] at this
      exact decide_eq_true (List.not_lt.mp this)
    have ih := rising_pw r x h.2
    refine List.Pairwise.cons (fun y hy => ?_) ih
    rcases List.mem_cons.mp hy with rfl | hy
    · exact h1
    · exact leS_trans _ _ _ h1 ((List.pairwise_cons.mp ih).1 y hy)
theorem sortedS_pw : ∀ (l : List Str), sortedS l = true → l.Pairwise fun a b => leS a b = true
  | [], _ => .nil
  | x :: r, h => rising_pw r x h
theorem sortS_unique {xs ys : List Str} (p : ys.Perm xs) (h : sortedS ys = true) : ys = sortS xs :=
  List.Perm.eq_of_pairwise (fun _ _ _ _ => leS_antisymm) (sortedS_pw ys h) (sortS_pairwise xs) (p.trans (sortS_perm xs).symm)
theorem sortI_unique {xs ys : List Int} (p : ys.Perm xs) (h : ys.Pairwise (· ≤ ·)) : ys = sortI xs :=
  List.Perm.eq_of_pairwise (fun _ _ _ _ => Int.le_antisymm) h (sortI_pairwise xs) (p.trans (sortI_perm xs).symm)
def keyS : Key → Option Str
  | .inr x => some x
  | _ => none
def keysS : List (Key × Val) → Option (List Str)
  | [] => some []
  | kv :: r => match keyS kv.1, keysS r with
    | some x, some xs => some (x :: xs)
    | _, _ => none
theorem keysS_ok {K : PySem.W.Frag} {F : Hp} {ρ : List Addr} : ∀ {ks : List (Key × V)} {kvs : List (Key × Val)} {xs : List Str}, DenVK K F ρ ks kvs → keysS kvs = some xs → ks.map (·.1) = xs.map Sum.inr
  | _, _, _, .nil, h => by cases h; rfl
  | (k, u) :: _, (k', v) :: r, xs, .cons a b, h => by
    unfold keysS at h
    have e : k = k' := a.1
    subst e
    cases e1 : keyS k with
    | none => simp only [e1] at h; cases h
    | some x =>
      cases e2 : keysS r with
      | none => simp only [e1, e2] at h; cases h
      | some ys =>
        simp only [e1, e2, Option.some.injEq] at h
        subst h
        have e3 : k = .inr x := by
          cases k with
          | inl i => cases e1
          | inr y => cases e1; rfl
        rw [List.map_cons, List.map_cons, keysS_ok b e2, e3]
def sortVl (mh : List Ob) : List Val → Option Rv
  | [v] => match dctOf mh v with
    | some kvs => match keysS kvs with
      | some ks => if ks.length < 64 then some (.nl ((sortS ks).map fun x => .d (.str x))) else none
      | none => none
    | none => match (seqL mh v).bind (allOf asStr) with
      | some xs => if xs.length < 64 then some (.nl ((sortS xs).map fun x => .d (.str x))) else none
      | none => match (seqL mh v).bind (allOf asInt) with
        | some xs => if xs.length < 64 then some (.nl ((sortI xs).map fun x => .d (.int x))) else none
        | none => none
  | _ => none
theorem denVs_strs {K : PySem.W.Frag} {F : Hp} {ρ : List Addr} : ∀ xs : List Str, DenVs K F ρ (xs.map V.str) (xs.map fun x => .d (.str x))
  | [] => .nil
  | x :: xs => .cons (Den.str x) (denVs_strs xs)
theorem denVs_ints {K : PySem.W.Frag} {F : Hp} {ρ : List Addr} : ∀ xs : List Int, DenVs K F ρ (xs.map V.int) (xs.map fun x => .d (.int x))
  | [] => .nil
  | x :: xs => .cons (Den.int x) (denVs_ints xs)
theorem calls_sorted (hc : X.calm = true) : CallS X (.builtin "sorted") sortVl := by
  refine ⟨_, (call_sortedD hc).or (cr_sortedS.or cr_sorted), fun Q w dv e q => ?_⟩
  rename_i mh F ρ H xs vs rv
  unfold sortVl at e
  split at e
  · rename_i v
    cases dv with
    | cons d dn =>
      cases dn
      split at e
      · rename_i kvs e1
        split at e
        · rename_i ks e2
          split at e
          · rename_i hz
            cases e
            obtain ⟨a, ls, rfl, h1, h2⟩ := dctOf_ok w d e1
            refine .inl ⟨a, ls, ks, rfl, h1, keysS_ok h2 e2, hz, fun ys p h3 h4 hp => ?_⟩
            rw [sortS_unique h3 h4]
            exact q.list w hp (denVs_strs _) (by rw [List.length_map, (sortS_perm ks).length_eq]; exact small64 hz)
          · cases e
        · cases e
      · split at e
        · rename_i xs e1
          split at e
          · rename_i hz
            cases e
            obtain ⟨a, rfl, h1, h2⟩ := seqL_ints asStr_ok w d e1
            refine .inr (.inl ⟨a, xs, rfl, h1, hz, fun ys p h3 h4 hp => ?_⟩)
            rw [sortS_unique h3 h4]
            exact q.list w hp (denVs_strs _) (by rw [List.length_map, (sortS_perm xs).length_eq]; exact small64 hz)
          · cases e
        · split at e
          · rename_i xs e1
            split at e
            · rename_i hz
              cases e
              obtain ⟨a, rfl, h1, h2⟩ := seqL_ints asInt_ok w d e1
              refine .inr (.inr ⟨a, xs, rfl, h1, hz, fun ys p h3 h4 hp => ?_⟩)
              rw [sortI_unique h3 h4]
              exact q.list w hp (denVs_ints _) (by rw [List.length_map, (sortI_perm xs).length_eq]; exact small64 hz)
            · cases e
          · cases e
  · cases e

/-! ### isinstance -/
def tyD : Dt → String
  | .none => "NoneType"
  | .bool _ => "bool"
  | .int _ => "int"
  | .str _ => "str"
  | .list _ => "list"
  | .tuple _ => "tuple"
  | .dict _ => "dict"
def tyVal (mh : List Ob) : Val → Option String
  | .d x => some (tyD x)
  | .ref n => match mh[n]? with
    | some (.lst _) => some "list"
    | some (.dct _) => some "dict"
    | _ => none
def isIn (a b : String) : Bool := a == b || (a == "bool" && b == "int")
def isTys : List String := ["bool", "int", "str", "list", "tuple", "dict"]
theorem kit_all : (("NoneType" :: isTys).all fun a => isTys.all fun b => decide (kitB a b = some (isIn a b))) = true := by decide +kernel
theorem kit_is {a b : String} (ha : a ∈ "NoneType" :: isTys) (hb : b ∈ isTys) : kitB a b = some (isIn a b) :=
  of_decide_eq_true (List.all_eq_true.mp (List.all_eq_true.mp kit_all a ha) b hb)
theorem tyD_mem (x : Dt) : tyD x ∈ "NoneType" :: isTys := by cases x <;> simp [tyD, isTys]
theorem ty_den {K : PySem.W.Frag} {H : Hp} {u : V} {x : Dt} (d : Den K H u x) : TyX K H u (.type (tyD x)) := by
  cases d with
  | non => exact .base .non
  | bl b => exact .base (.bl b)
  | int i => exact .base (.int i)
  | str y => exact .base (.str y)
  | lst q z r =>
    rcases q with (q | ⟨o, q⟩) | ⟨o, its, n, h1, h2, h3⟩
    · exact .base (.lst q)
    · exact .base (.frz q)
    · exact .kList h1 h2
  | tup q z r =>
    rcases q with (q | ⟨o, q⟩) | ⟨o, its, n, h1, h2, h3⟩
    · exact .base (.tup q)
    · exact .fTuple q
    · exact .kTuple h1 h2
  | dct q z r =>
    rcases q with q | ⟨o, q⟩
    · exact .base (.dK q)
    · exact .fDict q
theorem tyVal_ok {K : PySem.W.Frag} {mh : List Ob} {F : Hp} {ρ : List Addr} {H : Hp} {u : V} {v : Val} {t : String} (w : Wd K mh F ρ H) (d : DenV K F ρ u v) (h : tyVal mh v = some t) : TyX K H u (.type t) ∧ t ∈ "NoneType" :: isTys := by
  cases v with
  | d x =>
    cases h
    exact ⟨ty_den (Den.mono w.rle d), tyD_mem x⟩
  | ref n =>
    obtain ⟨a, e, rfl⟩ := d
    have h : (match mh[n]? with | some (.lst _) => some "list" | some (.dct _) => some "dict" | _ => none) = some t := h
    split at h
    · rename_i vs e1
      cases h
      obtain ⟨_, xs, q, _⟩ := w.cell n a _ e e1
      exact ⟨.base (.lst q), by simp [isTys]⟩
    · rename_i vs e1
      cases h
      obtain ⟨_, xs, q, _⟩ := w.cell n a _ e e1
      exact ⟨.base (.dK q), by simp [isTys]⟩
    · cases h
theorem isin_ok {mh : List Ob} {F : Hp} {ρ : List Addr} {H : Hp} {u : V} {v : Val} {t c : String} (Q : VK) (w : Wd X.K mh F ρ H) (d : DenV X.K F ρ u v) (h : tyVal mh v = some t) (hc : c ∈ isTys) (q : Q (.bl (isIn t c)) H) : rIsi X.K [u, .ty c] H Q := by
  obtain ⟨h1, h2⟩ := tyVal_ok w d h
  exact ⟨u, .ty c, .type t, .type c, isIn t c, rfl, .ty c, h1, kit_ty (kit_is h2 hc), q⟩
end
end Pv

/-! P4: subscripts, slices, stores, methods by values -/
namespace Pv
open PySem PySem.Spec PyProof.Rows L2

/-! ### a[i] -/
section
variable (X : Cx)
def IxS (m : List Ob → Val → Val → Option Val) : Prop :=
  ∃ r, IxR X r ∧ ∀ {mh : List Ob} {F : Hp} {ρ : List Addr} {H : Hp} {x y : V} {dx dy v : Val} (Q : VK), Wd X.K mh F ρ H → DenV X.K F ρ x dx → DenV X.K F ρ y dy → m mh dx dy = some v → (∀ u, DenV X.K F ρ u v → Q u H) → r x y H Q
end
def ixVl (mh : List Ob) (o i : Val) : Option Val := match dctOf mh o with
  | some kvs => (keyVl i).bind (findK kvs)
  | none => match i with
    | .d (.int k) => match seqA mh o with
      | some vs => atI vs k
      | none => match o with
        | .d (.str z) => if z.length ≤ sizeLine then (atI z.cps.toList k).map fun c => .d (.str ⟨#[c]⟩) else none
        | _ => none
    | _ => none
theorem atI_get {α : Type} {xs : List α} {i : Int} {v : α} (h : atI xs i = some v) : ∃ j, ixN xs.length i = some j ∧ xs[j]? = some v := by
  unfold atI at h
  cases e : ixN xs.length i with
  | none => rw [e] at h; cases h
  | some j => rw [e] at h; exact ⟨j, rfl, h⟩
theorem atI_den {K : PySem.W.Frag} {F : Hp} {ρ : List Addr} {us : List V} {vs : List Val} {i : Int} {v : Val} (d : DenVs K F ρ us vs) (h : atI vs i = some v) : ∃ u, atI us i = some u ∧ DenV K F ρ u v := by
  obtain ⟨j, h1, h2⟩ := atI_get h
  obtain ⟨u, h3, h4⟩ := d.get h2
  refine ⟨u, ?_, h4⟩
  unfold atI
  rw [show us.length = vs.length from d.length, h1]
  exact h3
section
variable {X : Cx}
theorem ix_dct (hu : X.A.units + 1 < cLine) : IxR X (fun x y H Q => ∃ a v, x = .ref a ∧ DGet H a y (some v) ∧ Q v H) := by
  intro value slice pins s σ H x y v u Q I rx ry h hs
  obtain ⟨a, w, rfl, g, q⟩ := h
  cases rx
  have hT := dict_typeIs I g
  have h2 : wpAny (model X.prog X.w) X.A (getItem (.ref a) u) (EP X pins σ Q) X.xe s := d_getItem hu I g ry fun w' s3 I3 rw' => ⟨w, H, I3, rw', q⟩
  unfold subscriptTail
  refine wpAny_bind ?_
  rw [getitemInPython_of_ne hT.not_modules]
  refine wpAny_bind (wpAny_specialOf hT PySem.F.slot_dict_getitem.lookup ?_)
  have fin : wpAny (model X.prog X.w) X.A (subscripted slice false (.ref a) u) (fun r s₃ => wpAny (model X.prog X.w) X.A (letTemporaryGo value (.ref a) r >>= fun _ => pure r) (EP X pins σ Q) X.xe s₃) X.xe s := by
    rw [hs]
    exact wpAny_operating (wpAny_mono h2 (fun r s₃ h₃ => wpAny_bind (wpAny_letTemporaryGo (wpAny_pure h₃))) fun _ _ x => x)
  first
    | exact wpAny_pure (wpAny_bind fin)
    | exact wpAny_bind (wpAny_pure (wpAny_bind fin))
    | exact wpAny_bind fin
theorem ixs_all (hu : X.A.units + 1 < cLine) : IxS X ixVl := by
  refine ⟨_, (ix_dct hu).or ix_seq, fun Q w dx dy e q => ?_⟩
  rename_i mh F ρ H x y vx vy v
  unfold ixVl at e
  split at e
  · rename_i kvs e1
    cases e2 : keyVl vy with
    | none => rw [e2] at e; cases e
    | some k =>
      rw [e2] at e
      have e : findK kvs k = some v := e
      obtain ⟨a, ks, rfl, h1, h2⟩ := dctOf_ok w dx e1
      rcases findK_ok (k := k) h2 with ⟨_, h3⟩ | ⟨u, v', h3, h4, h5⟩
      · rw [h3] at e; cases e
      · rw [h4] at e; cases e
        exact .inl ⟨a, u, rfl, .inl ⟨ks, k, h1, key_den dy e2, h3.symm⟩, q u h5⟩
  · split at e
    · rename_i k
      have := den_int dy
      subst this
      split at e
      · rename_i vs e1
        obtain ⟨a, us, rfl, h1, h2, _⟩ := seqA_ok w dx e1
        obtain ⟨u, h3, h4⟩ := atI_den h2 e
        rcases h1 with h1 | h1
        · exact .inr (.inl ⟨a, us, k, u, rfl, rfl, h1, h3, q u h4⟩)
        · exact .inr (.inr (.inl ⟨a, us, k, u, rfl, rfl, h1, h3, q u h4⟩))
      · split at e
        · rename_i z _ _
          split at e
          · rename_i hz
            cases e1 : atI z.cps.toList k with
            | none => rw [e1] at e; cases e
            | some c =>
              rw [e1] at e
              cases e
              have := den_str dx
              subst this
              exact .inr (.inr (.inr ⟨z, k, c, rfl, rfl, hz, e1, q _ (Den.str _)⟩))
          · cases e
        · cases e
    · cases e

/-! ### a[lo:hi] -/
end
def cutG {α : Type} (xs : List α) (lo hi : Option Int) : List α := (xs.drop (HT.sIx xs.length 0 lo)).take (HT.sIx xs.length xs.length hi - HT.sIx xs.length 0 lo)
theorem cutG_length {α : Type} (xs : List α) (lo hi : Option Int) : (cutG xs lo hi).length ≤ xs.length := by
  unfold cutG
  rw [List.length_take, List.length_drop]
  omega
theorem cutG_den {K : PySem.W.Frag} {F : Hp} {ρ : List Addr} {us : List V} {vs : List Val} {lo hi : Option Int} (d : DenVs K F ρ us vs) : DenVs K F ρ (cutV us lo hi) (cutG vs lo hi) := by
  unfold cutV cutG
  rw [show us.length = vs.length from d.length]
  exact (d.drop _).take _
theorem cutG_all {K : PySem.W.Frag} {F : Hp} {us : List V} {vs : List Dt} {lo hi : Option Int} (d : DenAll K F us vs) : DenAll K F (cutV us lo hi) (cutG vs lo hi) := by
  unfold cutV cutG
  rw [show us.length = vs.length from d.length]
  exact (d.drop _).take _
section
variable (X : Cx)
def SlS (m : List Ob → Val → Option Int → Option Int → Option Rv) : Prop :=
  ∃ r, SlR X r ∧ ∀ {mh : List Ob} {F : Hp} {ρ : List Addr} {H : Hp} {x : V} {dx : Val} {lo hi : Option Int} {rv : Rv} (Q : VK), Wd X.K mh F ρ H → DenV X.K F ρ x dx → m mh dx lo hi = some rv → PostR X.K mh F ρ H Q rv → r x lo hi H Q
end
def slVl (mh : List Ob) (v : Val) (lo hi : Option Int) : Option Rv := match v with
  | .d (.tuple xs) => some (.v (.d (.tuple (cutG xs lo hi))))
  | .d (.str z) => if z.length ≤ sizeLine then some (.v (.d (.str (cutS z lo hi)))) else none
  | v => (seqL mh v).map fun vs => .nl (cutG vs lo hi)
section
variable {X : Cx}
theorem sls_all : SlS X slVl := by
  refine ⟨_, sl_tupF.or (sl_str.or sl_list), fun Q w dx e q => ?_⟩
  rename_i mh F ρ H x vx lo hi rv
  unfold slVl at e
  split at e
  · rename_i ds
    cases e
    cases dx with
    | tup hq z r nd =>
      rename_i a xs
      have hl := r.length
      refine .inl ⟨a, xs, rfl, w.rle.sqT hq, fun hw => ?_, fun hw p ob hp hob => ?_⟩
      · have e1 : cutG ds lo hi = ds := by
          unfold cutG
          rw [← hl, hw.1, hw.2, hl]
          simp
        rw [e1] at q
        exact q.here w (Den.tup hq z r nd)
      · exact q.tup w hp hob (cutG_all r) (Nat.le_trans (cutG_length _ _ _) z)
  · split at e
    · rename_i hz
      cases e
      have := den_str dx
      subst this
      exact .inr (.inl ⟨_, rfl, hz, q.here w (Den.str _)⟩)
    · cases e
  · cases e1 : seqL mh vx with
    | none => rw [e1] at e; cases e
    | some vs =>
      rw [e1] at e
      cases e
      obtain ⟨a, us, rfl, h1, h2, h3⟩ := seqL_ok w dx e1
      exact .inr (.inr ⟨a, us, rfl, h1, fun p hp => q.list w hp (cutG_den h2) (Nat.le_trans (cutG_length _ _ _) h3)⟩)
end

/-! ### o[i] = v -/
def putV (kvs : List (Key × Val)) (k : Key) (v : Val) : List (Key × Val) :=
  if (kvs.any fun kv => decide (kv.1 = k)) = true then kvs.map fun kv => if kv.1 = k then (kv.1, v) else kv else kvs ++ [(k, v)]
def setVl (o i v : Val) : M Unit := fun mh => match o with
  | .ref n => match mh[n]? with
    | some (.lst vs) => match i with
      | .d (.int k) => (ixN vs.length k).map fun j => ((), mh.set n (.lst (vs.set j v)))
      | _ => none
    | some (.dct kvs) => match keyVl i with
      | some k => if kvs.length < sizeLine then some ((), mh.set n (.dct (putV kvs k v))) else none
      | none => none
    | _ => none
  | _ => none
section
variable (X : Cx)
def SetS (m : Val → Val → Val → M Unit) : Prop :=
  ∃ r, PSet X r ∧ ∀ {mh mh' : List Ob} {F : Hp} {ρ : List Addr} {H : Hp} {x y z : V} {dx dy dz : Val} (Q : Hp → Prop), Wd X.K mh F ρ H → DenV X.K F ρ x dx → DenV X.K F ρ y dy → DenV X.K F ρ z dz → m dx dy dz mh = some ((), mh') → (∀ H', Wd X.K mh' F ρ H' → Gr F ρ H F ρ H' → Q H') → r x y z H Q
end
section
variable {X : Cx}
theorem set_dct (hu : X.A.units + 1 < cLine) : PSet X (fun o i v H Q => ∃ a H', o = .ref a ∧ DPut H a i v H' ∧ Q H') := by
  intro pins s σ H o i v ov iv u Q I ro ri rv h
  obtain ⟨a, H', rfl, g, q⟩ := h
  cases ro
  exact d_setItem hu I g ri rv fun s4 I4 => ⟨H', I4, q⟩
theorem PSet.or {t t' : TSet} (h : PSet X t) (h' : PSet X t') : PSet X (fun o i v H Q => t o i v H Q ∨ t' o i v H Q) := by
  intro pins s σ H o i v ov iv u Q I ro ri rv q
  rcases q with q | q
  · exact h pins s σ H o i v ov iv u Q I ro ri rv q
  · exact h' pins s σ H o i v ov iv u Q I ro ri rv q
theorem putV_any {K : PySem.W.Frag} {F : Hp} {ρ : List Addr} {k : Key} : ∀ {ks : List (Key × V)} {kvs : List (Key × Val)}, DenVK K F ρ ks kvs → (ks.any fun kv => decide (kv.1 = k)) = kvs.any fun kv => decide (kv.1 = k)
  | _, _, .nil => rfl
  | _, _, .cons a b => by rw [List.any_cons, List.any_cons, putV_any b, a.1]
theorem putV_map {K : PySem.W.Frag} {F : Hp} {ρ : List Addr} {k : Key} {u : V} {v : Val} (d : DenV K F ρ u v) : ∀ {ks : List (Key × V)} {kvs : List (Key × Val)}, DenVK K F ρ ks kvs →
    DenVK K F ρ (ks.map fun kv => if kv.1 = k then (kv.1, u) else kv) (kvs.map fun kv => if kv.1 = k then (kv.1, v) else kv)
  | _, _, .nil => .nil
  | (k1, x) :: _, (k2, y) :: _, .cons a b => by
    have e : k1 = k2 := a.1
    subst e
    refine .cons ?_ (putV_map d b)
    by_cases h : k1 = k
    · simp only [h]; exact ⟨rfl, d⟩
    · show (if k1 = k then (k1, u) else (k1, x)).1 = (if k1 = k then (k1, v) else (k1, y)).1 ∧ DenV K F ρ (if k1 = k then (k1, u) else (k1, x)).2 (if k1 = k then (k1, v) else (k1, y)).2
      rw [if_neg h, if_neg h]; exact ⟨rfl, a.2⟩
theorem putV_snoc {K : PySem.W.Frag} {F : Hp} {ρ : List Addr} {k : Key} {u : V} {v : Val} (d : DenV K F ρ u v) : ∀ {ks : List (Key × V)} {kvs : List (Key × Val)}, DenVK K F ρ ks kvs → DenVK K F ρ (ks ++ [(k, u)]) (kvs ++ [(k, v)])
  | _, _, .nil => .cons ⟨rfl, d⟩ .nil
  | _, _, .cons a b => .cons a (putV_snoc d b)
theorem putV_den {K : PySem.W.Frag} {F : Hp} {ρ : List Addr} {k : Key} {u : V} {v : Val} (d : DenV K F ρ u v) {ks : List (Key × V)} {kvs : List (Key × Val)} (h : DenVK K F ρ ks kvs) : DenVK K F ρ (putK ks k u) (putV kvs k v) := by
  unfold putK putV
  rw [putV_any h]
  split
  · exact putV_map d h
  · exact putV_snoc d h
theorem putV_length (kvs : List (Key × Val)) (k : Key) (v : Val) : (putV kvs k v).length ≤ kvs.length + 1 := by
  unfold putV
  split
  · rw [List.length_map]; omega
  · rw [List.length_append]; exact Nat.le_refl _
theorem sets_all (hu : X.A.units + 1 < cLine) : SetS X setVl := by
  refine ⟨_, PSet.or set_list (set_dct hu), fun Q w dx dy dz e q => ?_⟩
  rename_i mh mh' F ρ H x y z vx vy vz
  unfold setVl at e
  split at e
  · rename_i n
    obtain ⟨a, ea, rfl⟩ := dx
    split at e
    · rename_i vs e1
      split at e
      · rename_i k
        have := den_int dy
        subst this
        cases e2 : ixN vs.length k with
        | none => rw [e2] at e; cases e
        | some j =>
          rw [e2] at e
          cases e
          obtain ⟨hz, us, h1, h2⟩ := w.cell n a _ ea e1
          obtain ⟨w', g⟩ := w.write (u := .lst (us.set j z)) (o := .lst (vs.set j vz)) ea e1 rfl ⟨by rw [List.length_set]; exact hz, _, upd_same, h2.set dz j⟩
          exact .inl ⟨a, us, k, j, rfl, rfl, h1, by rw [show us.length = vs.length from h2.length]; exact e2, q _ w' g⟩
      · cases e
    · rename_i kvs e1
      split at e
      · rename_i k e2
        split at e
        · rename_i hl
          cases e
          obtain ⟨hz, ks, h1, h2⟩ := w.cell n a _ ea e1
          obtain ⟨w', g⟩ := w.write (u := .dK (putK ks k z)) (o := .dct (putV kvs k vz)) ea e1 rfl ⟨Nat.le_trans (putV_length _ _ _) hl, _, upd_same, putV_den dz h2⟩
          exact .inr ⟨a, _, rfl, .inl ⟨ks, k, h1, key_den dy e2, by rw [show ks.length = kvs.length from h2.length]; exact hl, rfl⟩, q _ w' g⟩
        · cases e
      · cases e
    · cases e
  · cases e

/-! ### methods -/
/-- the value is of that built-in type (a dict may be locked) -/
def tyQ (K : PySem.W.Frag) (T : String) (x : V) (H : Hp) : Prop := match x with
  | .str _ => T = "str"
  | .ref p => (T = "list" ∧ ∃ xs, SqL K H p xs) ∨ (T = "dict" ∧ ∃ kvs, Rd H p (.dK kvs)) ∨ (T = "tuple" ∧ ∃ xs, SqT K H p xs ∧ ((∃ o, Rd H p (.frz o (.tup xs)) ∧ o.dict = none) ∨ ∃ o, K.lookup p = some o ∧ o.cls = Value.type "tuple" ∧ o.dict = none))
  | _ => False
theorem tyQ_is {pins : List (Addr × Obj)} {σ : L2.St} {H : Hp} {s : Shared} {T : String} {x : V} {v : Value} (I : Inv X pins σ H s) (r : RelV x v) (ty : tyQ X.K T x H) :
    s.TypeIs v T ∧ ∀ a, v = .ref a → ∃ ob, s.heap.get? a = some ob ∧ ob.dict = none := by
  cases x with
  | str z => exact tyV_is I r (show tyV X.K T (.str z) H from ty)
  | ref p =>
    rcases ty with h | ⟨rfl, kvs, h⟩ | ⟨rfl, xs, h1, h2⟩
    · exact tyV_is I r (show tyV X.K T (.ref p) H from .inl h)
    · cases r
      obtain ⟨t1, t2, _⟩ := isD_at I (.inl ⟨kvs, h⟩)
      exact ⟨t1, t2⟩
    · rcases h2 with ⟨o, h2, h3⟩ | h2
      · cases r
        obtain ⟨its, _, t1, _⟩ := I.tuple h1
        refine ⟨t1.typeIs, fun a e => ?_⟩
        cases e
        refine ⟨o, ?_, h3⟩
        rcases h2 with h2 | ⟨o2, h2⟩
        · exact (I.hok _ _ h2).1
        · exact (I.hok _ _ h2).2.1
      · exact tyV_is I r (show tyV X.K "tuple" (.ref p) H from .inr (.inl ⟨rfl, h2⟩))
  | _ => exact ty.elim
def tBMq (K : PySem.W.Frag) (T : String) (r : V → List V → Hp → VK → Prop) (to : TE) (t : TA) : TE := fun σ H Q => to σ H fun x H1 => tyQ K T x H1 ∧ t σ H1 fun xs H2 => r x xs H2 Q
theorem pe_bmq {o : Expr} {es : List Expr} {to : TE} {t : TA} {name : Str} {apos cpos : Pos} {T id : String} {r : V → List V → Hp → VK → Prop} {e : Expr} (pa : PlainAttrs T) (slot : Slot T name id) (hty : typeOf (.builtin id) = pure (.type "method_descriptor")) (hm : MtR X id r) (ho : PE X o to) (ha : PA X (e :: es) t)
    (hbase : attributeBase o name X.env (eval o X.env) = eval o X.env)
    (hfew : ((backTo cpos (starEach (e :: es) X.env)).all (fun x => !x.1) && (backToKw cpos (keywordEach [] X.env)).all (fun x => x.1.isSome)
      && decide ((e :: es).length + ([] : List Keyword).length + (if ([] : List Keyword).isEmpty then 0 else 1) < 30)) = true)
    (hline : (apos.endLine == cpos.line) = true) (hs : starEach (e :: es) X.env = (false, eval e X.env) :: starEach es X.env) (hplain : (backTo cpos (starEach es X.env)).any (·.1) = false) :
    PE X (.Call (.Attribute o name apos) (e :: es) [] cpos) (tBMq X.K T r to t) := by
  refine ⟨fun pins s σ H Q I h => ?_⟩
  refine wpAny_Call_method_late hbase hfew hline rfl (thn (ho.run pins s σ H _ I h) fun v s1 ⟨x, H1, I1, r1, ty, q1⟩ => ?_)
  obtain ⟨h1, h2⟩ := tyQ_is I1 r1 ty
  refine ⟨T, id, pa, slot, hty, h1, h2, ?_⟩
  have hA := ha.run cpos pins s1 σ H1 _ I1 q1
  rw [hs] at hA ⊢
  refine Calls.callWith_builtin (by show (false || (backTo cpos (starEach es X.env)).any (·.1)) = false; rw [hplain] <;> rfl) (Calls.evalArgs_plain ?_)
  exact thn hA fun us s2 ⟨vs, H2, I2, r2, q2⟩ => hm pins s2 σ H2 x vs v us Q I2 r1 r2 q2
theorem pe_bm0q {o : Expr} {to : TE} {name : Str} {apos cpos : Pos} {T id : String} {r : V → List V → Hp → VK → Prop} (pa : PlainAttrs T) (slot : Slot T name id) (hty : typeOf (.builtin id) = pure (.type "method_descriptor")) (hm : MtR X id r) (ho : PE X o to)
    (hbase : attributeBase o name X.env (eval o X.env) = eval o X.env) (hline : (apos.endLine == cpos.line) = true) : PE X (.Call (.Attribute o name apos) [] [] cpos) (fun σ H Q => to σ H fun x H1 => tyQ X.K T x H1 ∧ r x [] H1 Q) := by
  refine ⟨fun pins s σ H Q I h => ?_⟩
  refine wpAny_Call_method0_late hbase hline (thn (ho.run pins s σ H _ I h) fun v s1 ⟨x, H1, I1, r1, ty, q1⟩ => ?_)
  obtain ⟨h1, h2⟩ := tyQ_is I1 r1 ty
  exact ⟨T, id, pa, slot, hty, h1, h2, Calls.callWith_builtin rfl (PySem.evalArgs_none (hm pins s1 σ H1 x [] v [] Q I1 r1 .nil q1))⟩
end
section
variable (X : Cx)
/-- a method by values: what the receiver must be (ahead of the arguments), what it does; it may write cells, and makes nothing that lasts -/
def MtS (T : String) (id : String) (m : Val → List Val → M Val) : Prop :=
  ∃ r, MtR X id r ∧ ∀ {mh mh' : List Ob} {F : Hp} {ρ : List Addr} {H : Hp} {x : V} {xs : List V} {o v : Val} {vs : List Val} (Q : VK), Wd X.K mh F ρ H → DenV X.K F ρ x o → DenVs X.K F ρ xs vs → m o vs mh = some (v, mh') →
    (∀ F' H' u, Wd X.K mh' F' ρ H' → Gr F ρ H F' ρ H' → DenV X.K F' ρ u v → Q u H') → r x xs H Q
end
/-- the receiver's type, seen ahead of the arguments -/
def rcv (T : String) (o : Val) : List Ob → Bool := fun mh => match o with
  | .d (.str _) => T == "str"
  | .d (.list _) => T == "list"
  | .d (.dict ds) => T == "dict"
  | .d (.tuple ds) => T == "tuple" && ixT ds
  | .ref n => match mh[n]? with
    | some (.lst _) => T == "list"
    | some (.dct _) => T == "dict"
    | _ => false
  | _ => false
section
variable {X : Cx}
theorem rcv_ok {K : PySem.W.Frag} {mh : List Ob} {F : Hp} {ρ : List Addr} {H : Hp} {x : V} {o : Val} {T : String} (w : Wd K mh F ρ H) (d : DenV K F ρ x o) (h : rcv T o mh = true) : tyQ K T x H := by
  unfold rcv at h
  split at h
  · have := den_str d
    subst this
    show T = "str"
    simpa using h
  · cases d with
    | lst q z r => exact .inl ⟨by simpa using h, _, w.rle.sqL q⟩
  · cases d with
    | dct q z r => exact .inr (.inl ⟨by simpa using h, _, w.rle _ _ (fun _ _ e => by cases e) q⟩)
  · simp only [Bool.and_eq_true, beq_iff_eq] at h
    cases d with
    | tup q z r nd => exact .inr (.inr ⟨h.1, _, w.rle.sqT q, (nd.mono w.rle) h.2⟩)
  · rename_i n
    obtain ⟨a, e, rfl⟩ := d
    split at h
    · rename_i vs e1
      obtain ⟨_, xs, q, _⟩ := w.cell n a _ e e1
      exact .inl ⟨by simpa using h, xs, SqL.of q⟩
    · rename_i vs e1
      obtain ⟨_, xs, q, _⟩ := w.cell n a _ e e1
      exact .inr (.inl ⟨by simpa using h, xs, .inl q⟩)
    · cases h
  · cases h
def appVl (o : Val) (as : List Val) : M Val := fun mh => match o, as with
  | .ref n, [v] => match mh[n]? with
    | some (.lst vs) => if vs.length < sizeLine then some (.d .none, mh.set n (.lst (vs ++ [v]))) else none
    | _ => none
  | _, _ => none
theorem mts_append : MtS X "list" "list.append" appVl := by
  refine ⟨_, mt_append, fun Q w dx dv e q => ?_⟩
  rename_i mh mh' F ρ H x xs o v vs
  unfold appVl at e
  split at e
  · rename_i n v0
    obtain ⟨a, ea, rfl⟩ := dx
    cases dv with
    | @cons u _ _ _ d dn =>
      cases dn
      split at e
      · rename_i ws e1
        split at e
        · rename_i hl
          cases e
          obtain ⟨hz, us, h1, h2⟩ := w.cell n a _ ea e1
          obtain ⟨w', g⟩ := w.write (u := .lst (us ++ [u])) (o := .lst (ws ++ [v0])) ea e1 rfl ⟨by rw [List.length_append]; exact hl, _, upd_same, h2.append (.cons d .nil)⟩
          exact ⟨a, us, _, rfl, rfl, h1, by rw [show us.length = ws.length from h2.length]; exact hl, q _ _ _ w' g Den.non⟩
        · cases e
      · cases e
  · cases e
theorem list_extend_tupW (l : Addr) (items : Array Value) (n : Nat) (b : Addr) (items2 : Array Value) (n2 : Nat) (dd2 : Option Addr) (sl2 : Array (Option Value)) (hs0 : ¬(!items.isEmpty && Builtin.List.listTooLong (items.size + items2.size)) = true) (hs1 : items.size ≤ sizeLine) (hs2 : items.size + items2.size ≤ sizeLine + 1) :
    Meets (Builtin.«list.extend» ⟨[.ref l, .ref b], []⟩) (fun _ R s => s.heap.get? l = some { cls := .type "list", dict := none, data := .seq items n, slots := #[] } ∧ s.heap.get? b = some { cls := .type "tuple", dict := dd2, data := .seq items2 n2, slots := sl2 } ∧ R (.ok (.ret Value.none)) { s with heap := s.heap.update l (Obj.mapSeq fun x => x ++ items2), toks := s.toks }) :=
  .of_wp fun prog w A R s h => by
    obtain ⟨hp, g, d, tk, os⟩ := s; obtain ⟨hl, hb, h⟩ := h; have f1 := AutoSeq1.idx_int; have f2 := AutoSeq1.sub_tuple_tuple; have f3 := AutoSeq1.sub_list_list; have f4 := AutoSeq1.sub_tuple_list; have f5 := AutoSeq1.sub_list_tuple;
    have hz' : (items ++ items2).size ≤ sizeLine + 1 := by rw [Array.size_append]; exact hs2
    wp_walk using (PySem.wpAny_updateSeq hl rfl (hz := hs1) (_hz' := hz')), AutoSeq1.wpAny_loadPart' hl, AutoSeq1.wpAny_loadPart' hb; exact ⟨_, rfl, h⟩
theorem list_extend_listW (l : Addr) (items : Array Value) (n : Nat) (b : Addr) (items2 : Array Value) (n2 : Nat) (dd2 : Option Addr) (sl2 : Array (Option Value)) (hs0 : ¬(!items.isEmpty && Builtin.List.listTooLong (items.size + items2.size)) = true) (hs1 : items.size ≤ sizeLine) (hs2 : items.size + items2.size ≤ sizeLine + 1) :
    Meets (Builtin.«list.extend» ⟨[.ref l, .ref b], []⟩) (fun _ R s => s.heap.get? l = some { cls := .type "list", dict := none, data := .seq items n, slots := #[] } ∧ s.heap.get? b = some { cls := .type "list", dict := dd2, data := .seq items2 n2, slots := sl2 } ∧ R (.ok (.ret Value.none)) { s with heap := s.heap.update l (Obj.mapSeq fun x => x ++ items2), toks := s.toks }) :=
  .of_wp fun prog w A R s h => by
    obtain ⟨hp, g, d, tk, os⟩ := s; obtain ⟨hl, hb, h⟩ := h; have f1 := AutoSeq1.idx_int; have f2 := AutoSeq1.sub_tuple_tuple; have f3 := AutoSeq1.sub_list_list; have f4 := AutoSeq1.sub_tuple_list; have f5 := AutoSeq1.sub_list_tuple;
    have hz' : (items ++ items2).size ≤ sizeLine + 1 := by rw [Array.size_append]; exact hs2
    wp_walk using (PySem.wpAny_updateSeq hl rfl (hz := hs1) (_hz' := hz')), AutoSeq1.wpAny_loadPart' hl, AutoSeq1.wpAny_loadPart' hb; exact ⟨_, rfl, h⟩
theorem mt_extA : MtR X "list.extend" (fun x vs H Q => ∃ l b xs zs, x = .ref l ∧ vs = [.ref b] ∧ H l = some (.lst xs) ∧ (SqL X.K H b zs ∨ SqT X.K H b zs) ∧ xs.length + zs.length ≤ sizeLine ∧ Q .non (upd H l (.lst (xs ++ zs)))) := by
  intro pins s σ H x vs v us Q I rx rv h
  obtain ⟨l, b, xs, zs, rfl, rfl, hH, hB, hz, q⟩ := h
  cases rx
  obtain ⟨u, rfl, ru⟩ := rv.one
  cases ru
  obtain ⟨z, its, n, r, hl, e⟩ := I.lstM hH
  have fin : ∀ its2 : List Value, Vals zs its2 → Inv X pins σ (upd H l (.lst (xs ++ zs))) { s with heap := s.heap.update l (Obj.mapSeq fun x => x ++ its2.toArray) } := fun its2 r2 =>
    I.lset (its' := its ++ its2) hH e (by simp) (r.append r2) (by rw [List.length_append]; exact hz)
  have hlong : ∀ its2 : List Value, Vals zs its2 → ¬ (!its.toArray.isEmpty && Builtin.List.listTooLong (its.toArray.size + its2.toArray.size)) = true := fun its2 r2 => by
    rw [notLongL (by rw [List.size_toArray, List.size_toArray, ← r.length, ← r2.length]; exact hz), Bool.and_false]
    exact Bool.false_ne_true
  rcases hB with hB | hB
  · obtain ⟨its2, r2, pl, z2⟩ := I.list hB
    obtain ⟨⟨cls2, dd2, data2, sl2⟩, ho2, hc2, n2, hd2⟩ := pl.isList
    simp only at hc2 hd2
    subst hc2 hd2
    refine call_meets F.slot_list_extend ⟨_, e, rfl⟩ F.entry_list_extend (F.args_list_extend_2 _ _)
      (list_extend_listW l its.toArray n b its2.toArray n2 dd2 sl2 (hlong its2 r2) (by rw [List.size_toArray, ← r.length]; omega) (by rw [List.size_toArray, List.size_toArray, ← r.length, ← r2.length]; omega)) ⟨e, ho2, ?_⟩
    exact ⟨.non, _, fin its2 r2, rfl, q⟩
  · obtain ⟨its2, r2, ⟨⟨cls2, dd2, data2, sl2⟩, ho2, hc2, n2, hd2⟩, z2⟩ := I.tuple hB
    simp only at hc2 hd2
    subst hc2 hd2
    refine call_meets F.slot_list_extend ⟨_, e, rfl⟩ F.entry_list_extend (F.args_list_extend_2 _ _)
      (list_extend_tupW l its.toArray n b its2.toArray n2 dd2 sl2 (hlong its2 r2) (by rw [List.size_toArray, ← r.length]; omega) (by rw [List.size_toArray, List.size_toArray, ← r.length, ← r2.length]; omega)) ⟨e, ho2, ?_⟩
    exact ⟨.non, _, fin its2 r2, rfl, q⟩
def extVl (o : Val) (as : List Val) : M Val := fun mh => match o, as with
  | .ref n, [v] => match mh[n]?, seqA mh v with
    | some (.lst vs), some ws => if vs.length + ws.length ≤ sizeLine then some (.d .none, mh.set n (.lst (vs ++ ws))) else none
    | _, _ => none
  | _, _ => none
theorem mts_extend : MtS X "list" "list.extend" extVl := by
  refine ⟨_, mt_extA, fun Q w dx dv e q => ?_⟩
  rename_i mh mh' F ρ H x xs o v vs
  unfold extVl at e
  split at e
  · rename_i n v0
    obtain ⟨a, ea, rfl⟩ := dx
    cases dv with
    | @cons u _ _ _ d dn =>
      cases dn
      split at e
      · rename_i vs ws e1 e2
        split at e
        · rename_i hl
          cases e
          obtain ⟨hz, us, h1, h2⟩ := w.cell n a _ ea e1
          obtain ⟨b, us2, rfl, h3, h4, h5⟩ := seqA_ok w d e2
          obtain ⟨w', g⟩ := w.write (u := .lst (us ++ us2)) (o := .lst (vs ++ ws)) ea e1 rfl ⟨by rw [List.length_append]; exact hl, _, upd_same, h2.append h4⟩
          exact ⟨a, b, us, us2, rfl, rfl, h1, h3, by rw [show us.length = vs.length from h2.length, show us2.length = ws.length from h4.length]; exact hl, q _ _ _ w' g Den.non⟩
        · cases e
      · cases e
  · cases e
def getVl (o : Val) (as : List Val) : M Val := fun mh => match as with
  | [k] => match dctOf mh o, keyVl k with
    | some kvs, some k => some ((findK kvs k).getD (.d .none), mh)
    | _, _ => none
  | [k, y] => match dctOf mh o, keyVl k with
    | some kvs, some k => some ((findK kvs k).getD y, mh)
    | _, _ => none
  | _ => none
theorem mts_get (hu : X.A.units + 1 < cLine) : MtS X "dict" "dict.get" getVl := by
  refine ⟨fun x vs H Q => (∃ a y o, x = .ref a ∧ vs = [y] ∧ DGet H a y o ∧ Q (o.getD .non) H) ∨ ∃ a y z o, x = .ref a ∧ vs = [y, z] ∧ DGet H a y o ∧ Q (o.getD z) H, ?_, fun Q w dx dv e q => ?_⟩
  · intro pins s σ H x vs v us Q I rx rv h
    rcases h with ⟨a, y, o, rfl, rfl, g, q⟩ | ⟨a, y, z, o, rfl, rfl, g, q⟩
    · cases rx
      obtain ⟨u, rfl, ru⟩ := rv.one
      exact d_get1 hu I g ru fun w' s3 I3 rw' => ⟨_, H, I3, rw', q⟩
    · cases rx
      obtain ⟨u1, u2, rfl, r1, r2⟩ := rv.two
      exact d_get2 hu I g r1 r2 fun w' s3 I3 rw' => ⟨_, H, I3, rw', q⟩
  · rename_i mh mh' F ρ H x xs o v vs
    unfold getVl at e
    split at e
    · rename_i k
      cases dv with
      | @cons u _ _ _ d dn =>
        cases dn
        split at e
        · rename_i kvs k' e1 e2
          cases e
          obtain ⟨a, ks, rfl, h1, h2⟩ := dctOf_ok w dx e1
          refine .inl ⟨a, u, valV ks k', rfl, rfl, .inl ⟨ks, k', h1, key_den d e2, rfl⟩, ?_⟩
          rcases findK_ok (k := k') h2 with ⟨h3, h4⟩ | ⟨u', v', h3, h4, h5⟩
          · rw [h3]; rw [h4] at q; exact q _ _ _ w .refl Den.non
          · rw [h3]; rw [h4] at q; exact q _ _ _ w .refl h5
        · cases e
    · rename_i k y
      cases dv with
      | @cons u _ _ _ d dn =>
        cases dn with
        | @cons u2 _ _ _ d2 dn =>
          cases dn
          split at e
          · rename_i kvs k' e1 e2
            cases e
            obtain ⟨a, ks, rfl, h1, h2⟩ := dctOf_ok w dx e1
            refine .inr ⟨a, u, u2, valV ks k', rfl, rfl, .inl ⟨ks, k', h1, key_den d e2, rfl⟩, ?_⟩
            rcases findK_ok (k := k') h2 with ⟨h3, h4⟩ | ⟨u', v', h3, h4, h5⟩
            · rw [h3]; rw [h4] at q; exact q _ _ _ w .refl d2
            · rw [h3]; rw [h4] at q; exact q _ _ _ w .refl h5
          · cases e
    · cases e
def startsVl (o : Val) (as : List Val) : M Val := fun mh => match o, as with
  | .d (.str a), [.d (.str b)] => some (.d (.bool (Txt.startswith a b)), mh)
  | _, _ => none
theorem mts_starts : MtS X "str" "str.startswith" startsVl := by
  refine ⟨_, mt_startswith, fun Q w dx dv e q => ?_⟩
  unfold startsVl at e
  split at e
  · cases dv with
    | cons d dn =>
      cases dn
      cases e
      have := den_str dx
      subst this
      have := den_str d
      subst this
      exact ⟨_, _, rfl, rfl, q _ _ _ w .refl (Den.bl _)⟩
  · cases e
def insVl (o : Val) (as : List Val) : M Val := fun mh => match o, as with
  | .ref n, [.d (.int i), v] => match mh[n]? with
    | some (.lst vs) => if vs.length < sizeLine ∧ 0 ≤ i ∧ i < 2 ^ 63 then some (.d .none, mh.set n (.lst (vs.take i.toNat ++ [v] ++ vs.drop i.toNat))) else none
    | _ => none
  | _, _ => none
theorem mts_insert : MtS X "list" "list.insert" insVl := by
  refine ⟨_, mt_insert, fun Q w dx dv e q => ?_⟩
  rename_i mh mh' F ρ H x xs o v vs
  unfold insVl at e
  split at e
  · rename_i n i v0
    obtain ⟨a, ea, rfl⟩ := dx
    cases dv with
    | @cons u0 _ _ _ d0 dn =>
      cases dn with
      | @cons u _ _ _ d dn =>
        cases dn
        have := den_int d0
        subst this
        split at e
        · rename_i ws e1
          split at e
          · rename_i hl
            cases e
            obtain ⟨hz, us, h1, h2⟩ := w.cell n a _ ea e1
            have hlen : (ws.take i.toNat ++ [v0] ++ ws.drop i.toNat).length ≤ sizeLine := by
              rw [List.length_append, List.length_append, List.length_take, List.length_drop, List.length_singleton]
              omega
            obtain ⟨w', g⟩ := w.write (u := .lst (us.take i.toNat ++ [u] ++ us.drop i.toNat)) (o := .lst (ws.take i.toNat ++ [v0] ++ ws.drop i.toNat)) ea e1 rfl ⟨hlen, _, upd_same, ((h2.take _).append (.cons d .nil)).append (h2.drop _)⟩
            exact ⟨a, us, i, u, rfl, rfl, h1, by rw [show us.length = ws.length from h2.length]; exact hl.1, hl.2.1, hl.2.2, q _ _ _ w' g Den.non⟩
          · cases e
        · cases e
  · cases e
def popVl (o : Val) (as : List Val) : M Val := fun mh => match o, as with
  | .ref n, [] => match mh[n]? with
    | some (.lst vs) => (vs[vs.length - 1]?).map fun v => (v, mh.set n (.lst vs.dropLast))
    | _ => none
  | _, _ => none
theorem mts_pop : MtS X "list" "list.pop" popVl := by
  refine ⟨_, mt_pop, fun Q w dx dv e q => ?_⟩
  rename_i mh mh' F ρ H x xs o v vs
  unfold popVl at e
  split at e
  · rename_i n
    obtain ⟨a, ea, rfl⟩ := dx
    cases dv
    split at e
    · rename_i ws e1
      cases e2 : ws[ws.length - 1]? with
      | none => rw [e2] at e; cases e
      | some v0 =>
        rw [e2] at e
        cases e
        obtain ⟨hz, us, h1, h2⟩ := w.cell n a _ ea e1
        obtain ⟨u, h3, h4⟩ := h2.get e2
        obtain ⟨w', g⟩ := w.write (u := .lst us.dropLast) (o := .lst ws.dropLast) ea e1 rfl ⟨by rw [List.length_dropLast]; omega, _, upd_same, h2.dropLast⟩
        exact ⟨a, us, u, rfl, rfl, h1, by rw [show us.length = ws.length from h2.length]; exact h3, q _ _ _ w' g h4⟩
    · cases e
  · cases e
end
end Pv

/-! P5: expressions -/
namespace Pv
open PySem PySem.Spec PyProof.Rows L2

/-! ### the state of a body -/
abbrev Sl := List (Option Val)
structure Rl (K : PySem.W.Frag) (env : Sl) (mh : List Ob) (F : Hp) (ρ : List Addr) (σ : L2.St) (H : Hp) : Prop where
  wd : Wd K mh F ρ H
  len : σ.length = env.length
  get : ∀ (i : Nat) (v : Val), env[i]? = some (some v) → ∃ u, σ[i]? = some (some u) ∧ DenV K F ρ u v
section
variable {K : PySem.W.Frag} {env : Sl} {mh mh' : List Ob} {F F' : Hp} {ρ ρ' : List Addr} {σ : L2.St} {H H' : Hp}
theorem Rl.grow (r : Rl K env mh F ρ σ H) (w : Wd K mh' F' ρ' H') (g : Gr F ρ H F' ρ' H') : Rl K env mh' F' ρ' σ H' :=
  ⟨w, r.len, fun i v e => let ⟨u, h1, h2⟩ := r.get i v e; ⟨u, h1, h2.mono g.rd g.pre⟩⟩
theorem DenV.grow {u : V} {v : Val} (d : DenV K F ρ u v) (g : Gr F ρ H F' ρ' H') : DenV K F' ρ' u v := d.mono g.rd g.pre
theorem DenVs.grow {u : List V} {v : List Val} (d : DenVs K F ρ u v) (g : Gr F ρ H F' ρ' H') : DenVs K F' ρ' u v := d.mono g.rd g.pre
theorem Rl.set {u : V} {v : Val} (r : Rl K env mh F ρ σ H) (i : Nat) (d : DenV K F ρ u v) : Rl K (env.set i (some v)) mh F ρ (σ.set i (some u)) H := by
  refine ⟨r.wd, by rw [List.length_set, List.length_set]; exact r.len, fun j w e => ?_⟩
  by_cases h : i = j
  · subst h
    have hi : i < env.length := by
      have := (List.getElem?_eq_some_iff.mp e).1
      rwa [List.length_set] at this
    rw [List.getElem?_set_self hi] at e
    cases e
    exact ⟨u, by rw [List.getElem?_set_self (by rw [r.len]; exact hi)], d⟩
  · rw [List.getElem?_set_ne h] at e ⊢
    exact r.get j w e
theorem Rl.wiped (r : Rl K env mh F ρ σ H) : ∀ vs : List Nat, Rl K (vs.foldr (fun i e => e.set i none) env) mh F ρ (wipe σ vs) H
  | [] => r
  | v :: vs => by
    have ih := Rl.wiped r vs
    refine ⟨r.wd, ?_, fun j w e => ?_⟩
    · show ((wipe σ vs).set v none).length = _
      rw [List.length_set, List.foldr_cons, List.length_set]
      exact ih.len
    · rw [List.foldr_cons] at e
      show ∃ u, ((wipe σ vs).set v none)[j]? = some (some u) ∧ _
      by_cases h : v = j
      · subst h
        by_cases hl : v < (vs.foldr (fun i e => e.set i none) env).length
        · rw [List.getElem?_set_self hl] at e; cases e
        · rw [List.getElem?_eq_none (by rw [List.length_set]; omega)] at e; cases e
      · rw [List.getElem?_set_ne h] at e ⊢
        exact ih.get j w e
end

/-! ### the judgements -/
def tE (K : PySem.W.Frag) (m : Sl → M Val) : TE := fun σ H Q => ∃ env mh F ρ v mh', Rl K env mh F ρ σ H ∧ m env mh = some (v, mh') ∧ ∀ F' ρ' H' u, Wd K mh' F' ρ' H' → Gr F ρ H F' ρ' H' → DenV K F' ρ' u v → Q u H'
def tTs (K : PySem.W.Frag) (m : Sl → M Bool) : TT := fun σ H Q => ∃ env mh F ρ b mh', Rl K env mh F ρ σ H ∧ m env mh = some (b, mh') ∧ ∀ F' ρ' H', Wd K mh' F' ρ' H' → Gr F ρ H F' ρ' H' → Q b H'
def tAs (K : PySem.W.Frag) (m : Sl → M (List Val)) : TA := fun σ H Q => ∃ env mh F ρ vs mh', Rl K env mh F ρ σ H ∧ m env mh = some (vs, mh') ∧ ∀ F' ρ' H' us, Wd K mh' F' ρ' H' → Gr F ρ H F' ρ' H' → DenVs K F' ρ' us vs → Q us H'
def SE (X : Cx) (e : Expr) (m : Sl → M Val) : Prop := PE X e (tE X.K m)
def STs (X : Cx) (e : Expr) (m : Sl → M Bool) : Prop := PT X e (tTs X.K m)
def SA (X : Cx) (es : List Expr) (m : Sl → M (List Val)) : Prop := PA X es (tAs X.K m)

def mSlot (i : Nat) (env : Sl) : M Val := ofO (env.getD i none)
def mArgs : List (Sl → M Val) → Sl → M (List Val)
  | [], _ => pure []
  | m :: ms, env => do
    let v ← m env
    let vs ← mArgs ms env
    pure (v :: vs)
def mBin (f : List Ob → Val → Val → Option Rv) (c : Bool) (a b : Sl → M Val) (env : Sl) : M Val := do
  let x ← a env
  let y ← b env
  let r ← rdM fun mh => f mh x y
  finR c r
def mUn (f : Val → Option Val) (a : Sl → M Val) (env : Sl) : M Val := do
  let x ← a env
  ofO (f x)
section
variable {X : Cx} {a b : Expr} {ma mb : Sl → M Val} {pos : Pos}
theorem SE.mk {e : Expr} {t : TE} {m : Sl → M Val} (h : PE X e t) (k : ∀ {env : Sl} {mh mh' : List Ob} {F : Hp} {ρ : List Addr} {σ : L2.St} {H : Hp} {v : Val} (Q : VK), Rl X.K env mh F ρ σ H → m env mh = some (v, mh') →
    (∀ F' ρ' H' u, Wd X.K mh' F' ρ' H' → Gr F ρ H F' ρ' H' → DenV X.K F' ρ' u v → Q u H') → t σ H Q) : SE X e m := by
  refine ⟨fun pins s σ H Q I h1 => ?_⟩
  obtain ⟨env, mh, F, ρ, v, mh', rl, e1, q⟩ := h1
  exact h.run pins s σ H Q I (k Q rl e1 q)
theorem STs.mk {e : Expr} {t : TT} {m : Sl → M Bool} (h : PT X e t) (k : ∀ {env : Sl} {mh mh' : List Ob} {F : Hp} {ρ : List Addr} {σ : L2.St} {H : Hp} {b : Bool} (Q : Bool → Hp → Prop), Rl X.K env mh F ρ σ H → m env mh = some (b, mh') →
    (∀ F' ρ' H', Wd X.K mh' F' ρ' H' → Gr F ρ H F' ρ' H' → Q b H') → t σ H Q) : STs X e m := by
  refine ⟨fun pins s σ H Q I h1 => ?_⟩
  obtain ⟨env, mh, F, ρ, v, mh', rl, e1, q⟩ := h1
  exact h.run pins s σ H Q I (k Q rl e1 q)
theorem SA.mk {es : List Expr} {t : TA} {m : Sl → M (List Val)} (h : PA X es t) (k : ∀ {env : Sl} {mh mh' : List Ob} {F : Hp} {ρ : List Addr} {σ : L2.St} {H : Hp} {vs : List Val} (Q : List V → Hp → Prop), Rl X.K env mh F ρ σ H → m env mh = some (vs, mh') →
    (∀ F' ρ' H' us, Wd X.K mh' F' ρ' H' → Gr F ρ H F' ρ' H' → DenVs X.K F' ρ' us vs → Q us H') → t σ H Q) : SA X es m := by
  refine ⟨fun pos pins s σ H Q I h1 => ?_⟩
  obtain ⟨env, mh, F, ρ, v, mh', rl, e1, q⟩ := h1
  exact h.run pos pins s σ H Q I (k Q rl e1 q)

/-! ### names, constants -/
theorem se_slot {i : Nat} {x : Str} (hN : X.N[i]? = some x) (hv : Vis X.env.scope x) (hd : (x == ("__debug__" : Str)) = false) (hcd : (x == ("__classdict__" : Str)) = false) : SE X (.Name x pos) (mSlot i) :=
  SE.mk (pe_var hN hv hd hcd) fun Q rl e q => by
    rename_i env mh mh' F ρ σ H v
    obtain ⟨h1, h2⟩ := ofO_some.mp e
    simp only at h1 h2
    subst h2
    have h3 : env[i]? = some (some v) := by
      rw [List.getD_eq_getElem?_getD] at h1
      cases h4 : env[i]? with
      | none => rw [h4] at h1; cases h1
      | some o => rw [h4] at h1; rw [show o = some v from h1]
    obtain ⟨u, h5, h6⟩ := rl.get i v h3
    exact ⟨u, h5, q F ρ H u rl.wd .refl h6⟩
def mC (x : Dt) (_ : Sl) : M Val := pure (.d x)
theorem se_int {i : Int} {j : Nat} : SE X (.Constant (.int i) j pos) (mC (.int i)) := SE.mk pe_int fun Q rl e q => by cases e; exact q _ _ _ _ rl.wd .refl (Den.int i)
theorem se_str {i : Str} {j : Nat} : SE X (.Constant (.str i) j pos) (mC (.str i)) := SE.mk pe_str fun Q rl e q => by cases e; exact q _ _ _ _ rl.wd .refl (Den.str i)
theorem se_bl {i : Bool} {j : Nat} : SE X (.Constant (.bool i) j pos) (mC (.bool i)) := SE.mk pe_bl fun Q rl e q => by cases e; exact q _ _ _ _ rl.wd .refl (Den.bl i)
theorem se_non {j : Nat} : SE X (.Constant .none j pos) (mC .none) := SE.mk pe_non fun Q rl e q => by cases e; exact q _ _ _ _ rl.wd .refl Den.non
/-- a constant of the module: data that stands in the written part -/
theorem se_glob {x : Str} {v : V} {u : Value} {d : Dt} (hg : Gl X x) (hm : X.mg x = some u) (r : RelV v u) (hd : ∀ F, Den X.K F v d) (hdb : (x == ("__debug__" : Str)) = false) : SE X (.Name x pos) (mC d) :=
  SE.mk (pe_glob hg hm r hdb) fun Q rl e q => by cases e; exact q _ _ _ _ rl.wd .refl (hd _)

/-! ### operators -/
theorem se_bin {op : Operator} {f : List Ob → Val → Val → Option Rv} {c : Bool} (o : OpS X (binaryOp op) f) (ha : SE X a ma) (hb : SE X b mb) : SE X (.BinOp a op b pos) (mBin f c ma mb) := by
  obtain ⟨r, o1, o2⟩ := o
  refine SE.mk (pe_op o1 ha hb) fun Q rl e q => ?_
  obtain ⟨x, mh1, e1, e_1⟩ := M.bind_some.mp e
  obtain ⟨y, mh2, e2, e_2⟩ := M.bind_some.mp e_1
  obtain ⟨rv, mh3, e3, e_3⟩ := M.bind_some.mp e_2
  obtain ⟨e3, e4⟩ := rdM_some.mp e3
  simp only at e3 e4
  subst e4
  refine ⟨_, _, _, _, _, _, rl, e1, fun F1 ρ1 H1 u1 w1 g1 d1 => ⟨_, _, _, _, _, _, rl.grow w1 g1, e2, fun F2 ρ2 H2 u2 w2 g2 d2 => ?_⟩⟩
  exact o2 Q w2 (d1.grow g2) d2 e3 (finR_ok e_3 fun F' ρ' H' u w g d => q F' ρ' H' u w ((g1.trans g2).trans g) d)
theorem se_cmp {op : CmpOp} {f : List Ob → Val → Val → Option Rv} (o : OpS X (compareOp op) f) (ha : SE X a ma) (hb : SE X b mb) (hm : behindInMarks op b = false) : SE X (.Compare a [op] [b] pos) (mBin f false ma mb) := by
  obtain ⟨r, o1, o2⟩ := o
  refine SE.mk (pe_cmpR o1 ha hb hm) fun Q rl e q => ?_
  obtain ⟨x, mh1, e1, e_1⟩ := M.bind_some.mp e
  obtain ⟨y, mh2, e2, e_2⟩ := M.bind_some.mp e_1
  obtain ⟨rv, mh3, e3, e_3⟩ := M.bind_some.mp e_2
  obtain ⟨e3, e4⟩ := rdM_some.mp e3
  simp only at e3 e4
  subst e4
  refine ⟨_, _, _, _, _, _, rl, e1, fun F1 ρ1 H1 u1 w1 g1 d1 => ⟨_, _, _, _, _, _, rl.grow w1 g1, e2, fun F2 ρ2 H2 u2 w2 g2 d2 => ?_⟩⟩
  exact o2 Q w2 (d1.grow g2) d2 e3 (finR_ok e_3 fun F' ρ' H' u w g d => q F' ρ' H' u w ((g1.trans g2).trans g) d)
def negVl : Val → Option Val
  | .d (.int i) => some (.d (.int (-i)))
  | _ => none
def notVl : Val → Option Val
  | .d (.bool i) => some (.d (.bool (!i)))
  | _ => none
theorem se_neg (ha : SE X a ma) : SE X (.UnaryOp .USub a pos) (mUn negVl ma) :=
  SE.mk (pe_un un_neg ha) fun Q rl e q => by
    obtain ⟨x, mh1, e1, e_1⟩ := M.bind_some.mp e
    obtain ⟨e2, e3⟩ := ofO_some.mp e_1
    simp only at e2 e3
    subst e3
    refine ⟨_, _, _, _, _, _, rl, e1, fun F1 ρ1 H1 u1 w1 g1 d1 => ?_⟩
    unfold negVl at e2
    split at e2
    · cases e2
      exact ⟨_, den_int d1, q _ _ _ _ w1 g1 (Den.int _)⟩
    · cases e2
theorem se_not (ha : SE X a ma) : SE X (.UnaryOp .Not a pos) (mUn notVl ma) :=
  SE.mk (pe_not ha) fun Q rl e q => by
    obtain ⟨x, mh1, e1, e_1⟩ := M.bind_some.mp e
    obtain ⟨e2, e3⟩ := ofO_some.mp e_1
    simp only at e2 e3
    subst e3
    refine ⟨_, _, _, _, _, _, rl, e1, fun F1 ρ1 H1 u1 w1 g1 d1 => ?_⟩
    unfold notVl at e2
    split at e2
    · cases e2
      exact ⟨_, den_bl d1, q _ _ _ _ w1 g1 (Den.bl _)⟩
    · cases e2
/-- a and b, a or b: the left a bool -/
def mAnd (a b : Sl → M Val) (env : Sl) : M Val := do
  let x ← a env
  match x with
  | .d (.bool true) => b env
  | .d (.bool false) => pure (.d (.bool false))
  | _ => fun _ => none
def mOr (a b : Sl → M Val) (env : Sl) : M Val := do
  let x ← a env
  match x with
  | .d (.bool true) => pure (.d (.bool true))
  | .d (.bool false) => b env
  | _ => fun _ => none
theorem se_one {op : BoolOp} (ha : SE X a ma) : SE X (.BoolOp op [a] pos) ma := pe_one ha
theorem se_and {rest : List Expr} (ha : SE X a ma) (hb : SE X (.BoolOp .And (b :: rest) pos) mb) : SE X (.BoolOp .And (a :: b :: rest) pos) (mAnd ma mb) :=
  SE.mk (pe_and ha hb) fun Q rl e q => by
    obtain ⟨x, mh1, e1, e_1⟩ := M.bind_some.mp e
    refine ⟨_, _, _, _, _, _, rl, e1, fun F1 ρ1 H1 u1 w1 g1 d1 => ?_⟩
    split at e_1
    · exact ⟨true, den_bl d1, _, _, _, _, _, _, rl.grow w1 g1, e_1, fun F' ρ' H' u w g d => q F' ρ' H' u w (g1.trans g) d⟩
    · cases e_1
      exact ⟨false, den_bl d1, q _ _ _ _ w1 g1 (Den.bl _)⟩
    · cases e_1
theorem se_or {rest : List Expr} (ha : SE X a ma) (hb : SE X (.BoolOp .Or (b :: rest) pos) mb) : SE X (.BoolOp .Or (a :: b :: rest) pos) (mOr ma mb) :=
  SE.mk (pe_or ha hb) fun Q rl e q => by
    obtain ⟨x, mh1, e1, e_1⟩ := M.bind_some.mp e
    refine ⟨_, _, _, _, _, _, rl, e1, fun F1 ρ1 H1 u1 w1 g1 d1 => ?_⟩
    split at e_1
    · cases e_1
      exact ⟨true, den_bl d1, q _ _ _ _ w1 g1 (Den.bl _)⟩
    · exact ⟨false, den_bl d1, _, _, _, _, _, _, rl.grow w1 g1, e_1, fun F' ρ' H' u w g d => q F' ρ' H' u w (g1.trans g) d⟩
    · cases e_1

/-! ### tests -/
def truVl (mh : List Ob) : Val → Option Bool
  | .d .none => some false
  | .d (.bool b) => some b
  | .d (.int i) => some (i != 0)
  | .d (.str x) => if x.length ≤ sizeLine then some ((x.length : Int) != 0) else none
  | v => (seqA mh v).map fun vs => !vs.isEmpty
theorem truVl_ok {K : PySem.W.Frag} {mh : List Ob} {F : Hp} {ρ : List Addr} {H : Hp} {u : V} {v : Val} {b : Bool} (w : Wd K mh F ρ H) (d : DenV K F ρ u v) (h : truVl mh v = some b) : TruV K u H b := by
  unfold truVl at h
  split at h
  · cases h; rw [den_non d]; rfl
  · cases h; rw [den_bl d]; rfl
  · cases h; rw [den_int d]; rfl
  · split at h
    · cases h; rw [den_str d]; exact ⟨‹_›, rfl⟩
    · cases h
  · cases e : seqA mh v with
    | none => rw [e] at h; cases h
    | some vs =>
      rw [e] at h
      cases h
      obtain ⟨a, us, rfl, h1, h2, _⟩ := seqA_ok w d e
      have he : (!vs.isEmpty) = !us.isEmpty := by cases h2 <;> rfl
      rcases h1 with h1 | h1
      · exact .inl ⟨us, h1, he⟩
      · exact .inr (.inl ⟨us, h1, he⟩)
def mTru (a : Sl → M Val) (env : Sl) : M Bool := do
  let x ← a env
  rdM fun mh => truVl mh x
theorem st_tru (ha : SE X a ma) (he : ∀ whole, isTrue a X.env whole = (do let v ← whole; standAt a.pos; holding [v] (truthy v))) : STs X a (mTru ma) :=
  STs.mk (pt_truth ha he) fun Q rl e q => by
    obtain ⟨x, mh1, e1, e_1⟩ := M.bind_some.mp e
    obtain ⟨e2, e3⟩ := rdM_some.mp e_1
    simp only at e2 e3
    subst e3
    exact ⟨_, _, _, _, _, _, rl, e1, fun F1 ρ1 H1 u1 w1 g1 d1 => ⟨_, truVl_ok w1 d1 e2, q _ _ _ w1 g1⟩⟩
/-- a comparison as a test -/
def rvB : Rv → Option Bool
  | .v (.d (.bool b)) => some b
  | _ => none
def mCmpT (f : List Ob → Val → Val → Option Rv) (a b : Sl → M Val) (env : Sl) : M Bool := do
  let x ← a env
  let y ← b env
  rdM fun mh => (f mh x y).bind rvB
theorem rvB_some {o : Option Rv} {b : Bool} (h : o.bind rvB = some b) : o = some (.v (.d (.bool b))) := by
  cases o with
  | none => cases h
  | some r =>
    have h : rvB r = some b := h
    unfold rvB at h
    split at h
    · cases h; rfl
    · cases h
theorem st_cmp {op : CmpOp} {f : List Ob → Val → Val → Option Rv} (o : OpS X (compareOp op) f) (ha : SE X a ma) (hb : SE X b mb) (hm : behindInMarks op b = false) : STs X (.Compare a [op] [b] pos) (mCmpT f ma mb) := by
  obtain ⟨r, o1, o2⟩ := o
  refine STs.mk (pt_cmpR o1 ha hb hm) fun Q rl e q => ?_
  obtain ⟨x, mh1, e1, e_1⟩ := M.bind_some.mp e
  obtain ⟨y, mh2, e2, e_2⟩ := M.bind_some.mp e_1
  obtain ⟨e3, e4⟩ := rdM_some.mp e_2
  simp only at e3 e4
  subst e4
  refine ⟨_, _, _, _, _, _, rl, e1, fun F1 ρ1 H1 u1 w1 g1 d1 => ⟨_, _, _, _, _, _, rl.grow w1 g1, e2, fun F2 ρ2 H2 u2 w2 g2 d2 => ?_⟩⟩
  refine o2 _ w2 (d1.grow g2) d2 (rvB_some e3) fun F' H' u w g d => ?_
  exact ⟨_, den_bl d, q _ _ _ w ((g1.trans g2).trans g)⟩
def mNotT (a : Sl → M Bool) (env : Sl) : M Bool := do
  let x ← a env
  pure (!x)
theorem st_not {ta : Sl → M Bool} (ha : STs X a ta) : STs X (.UnaryOp .Not a pos) (mNotT ta) :=
  STs.mk (pt_not ha) fun Q rl e q => by
    obtain ⟨x, mh1, e1, e_1⟩ := M.bind_some.mp e
    cases e_1
    exact ⟨_, _, _, _, _, _, rl, e1, fun F1 ρ1 H1 w1 g1 => q _ _ _ w1 g1⟩
/-- and, or as tests -/
def SW (X : Cx) (e : Expr) (m : Sl → M Bool) : Prop := PW X e (tTs X.K m)
def mAndT (a b : Sl → M Bool) (env : Sl) : M Bool := do
  let x ← a env
  if x then b env else pure false
def mOrT (a b : Sl → M Bool) (env : Sl) : M Bool := do
  let x ← a env
  if x then pure true else b env
theorem SW.mk {e : Expr} {t : TT} {m : Sl → M Bool} (h : PW X e t) (k : ∀ {env : Sl} {mh mh' : List Ob} {F : Hp} {ρ : List Addr} {σ : L2.St} {H : Hp} {b : Bool} (Q : Bool → Hp → Prop), Rl X.K env mh F ρ σ H → m env mh = some (b, mh') →
    (∀ F' ρ' H', Wd X.K mh' F' ρ' H' → Gr F ρ H F' ρ' H' → Q b H') → t σ H Q) : SW X e m := by
  refine ⟨fun wh pins s σ H Q I h1 => ?_⟩
  obtain ⟨env, mh, F, ρ, v, mh', rl, e1, q⟩ := h1
  exact h.run wh pins s σ H Q I (k Q rl e1 q)
theorem SW.st {e : Expr} {m : Sl → M Bool} (h : SW X e m) : STs X e m := PW.pt h
theorem sw_and1 {ta : Sl → M Bool} (ha : STs X a ta) : SW X (.BoolOp .And [a] pos) ta := pw_and1 ha
theorem sw_or1 {ta : Sl → M Bool} (ha : STs X a ta) : SW X (.BoolOp .Or [a] pos) ta := pw_or1 ha
theorem sw_and {rest : List Expr} {ta tb : Sl → M Bool} (ha : STs X a ta) (hb : SW X (.BoolOp .And (b :: rest) pos) tb) : SW X (.BoolOp .And (a :: b :: rest) pos) (mAndT ta tb) :=
  SW.mk (pw_and ha hb) fun Q rl e q => by
    obtain ⟨x, mh1, e1, e_1⟩ := M.bind_some.mp e
    refine ⟨_, _, _, _, _, _, rl, e1, fun F1 ρ1 H1 w1 g1 => ?_⟩
    cases x with
    | true => exact ⟨_, _, _, _, _, _, rl.grow w1 g1, e_1, fun F' ρ' H' w g => q F' ρ' H' w (g1.trans g)⟩
    | false => cases e_1; exact q _ _ _ w1 g1
theorem sw_or {rest : List Expr} {ta tb : Sl → M Bool} (ha : STs X a ta) (hb : SW X (.BoolOp .Or (b :: rest) pos) tb) : SW X (.BoolOp .Or (a :: b :: rest) pos) (mOrT ta tb) :=
  SW.mk (pw_or ha hb) fun Q rl e q => by
    obtain ⟨x, mh1, e1, e_1⟩ := M.bind_some.mp e
    refine ⟨_, _, _, _, _, _, rl, e1, fun F1 ρ1 H1 w1 g1 => ?_⟩
    cases x with
    | false => exact ⟨_, _, _, _, _, _, rl.grow w1 g1, e_1, fun F' ρ' H' w g => q F' ρ' H' w (g1.trans g)⟩
    | true => cases e_1; exact q _ _ _ w1 g1
/-- x if t else y -/
def mIte {α : Type} (t : Sl → M Bool) (a b : Sl → M α) (env : Sl) : M α := do
  let x ← t env
  if x then a env else b env
theorem se_ife {c : Expr} {tc : Sl → M Bool} (hc : STs X c tc) (ha : SE X a ma) (hb : SE X b mb) : SE X (.IfExp c a b pos) (mIte tc ma mb) :=
  SE.mk (pe_ifExp hc ha hb) fun Q rl e q => by
    obtain ⟨x, mh1, e1, e_1⟩ := M.bind_some.mp e
    refine ⟨_, _, _, _, _, _, rl, e1, fun F1 ρ1 H1 w1 g1 => ?_⟩
    cases x with
    | true => exact ⟨_, _, _, _, _, _, rl.grow w1 g1, e_1, fun F' ρ' H' u w g d => q F' ρ' H' u w (g1.trans g) d⟩
    | false => exact ⟨_, _, _, _, _, _, rl.grow w1 g1, e_1, fun F' ρ' H' u w g d => q F' ρ' H' u w (g1.trans g) d⟩

/-! ### argument lists, displays -/
theorem sa_nil : SA X [] (mArgs []) := SA.mk pa_nil fun Q rl e q => by cases e; exact q _ _ _ _ rl.wd .refl .nil
theorem sa_cons {es : List Expr} {ms : List (Sl → M Val)} (ha : SE X a ma) (hr : SA X es (mArgs ms)) (hs : starEach (a :: es) X.env = (false, eval a X.env) :: starEach es X.env) : SA X (a :: es) (mArgs (ma :: ms)) :=
  SA.mk (pa_cons ha hr hs) fun Q rl e q => by
    obtain ⟨x, mh1, e1, e_1⟩ := M.bind_some.mp e
    obtain ⟨xs, mh2, e2, e_2⟩ := M.bind_some.mp e_1
    cases e_2
    exact ⟨_, _, _, _, _, _, rl, e1, fun F1 ρ1 H1 u1 w1 g1 d1 => ⟨_, _, _, _, _, _, rl.grow w1 g1, e2, fun F2 ρ2 H2 us w2 g2 d2 => q _ _ _ _ w2 (g1.trans g2) (.cons (d1.grow g2) d2)⟩⟩
def mTup (as : Sl → M (List Val)) (env : Sl) : M Val := do
  let vs ← as env
  ofO ((asDs vs).bind fun ds => if ds.length ≤ sizeLine then some (.d (.tuple ds)) else none)
def mLst (c : Bool) (as : Sl → M (List Val)) (env : Sl) : M Val := do
  let vs ← as env
  if vs.length ≤ sizeLine then finR c (.nl vs) else fun _ => none
theorem se_tup {es : List Expr} {as : Sl → M (List Val)} {j : Nat} (h : SA X es as) : SE X (.Tuple es j pos) (mTup as) :=
  SE.mk (pe_tupF h) fun Q rl e q => by
    obtain ⟨vs, mh1, e1, e_1⟩ := M.bind_some.mp e
    obtain ⟨e2, e3⟩ := ofO_some.mp e_1
    simp only at e2 e3
    subst e3
    refine ⟨_, _, _, _, _, _, rl, e1, fun F1 ρ1 H1 us w1 g1 d1 => ?_⟩
    cases e4 : asDs vs with
    | none => rw [e4] at e2; cases e2
    | some ds =>
      rw [e4] at e2
      simp only [Option.bind_some] at e2
      split at e2
      · rename_i hz
        cases e2
        have e5 := asDs_eq e4
        subst e5
        refine ⟨by rw [d1.length, List.length_map]; exact hz, fun p ob hp hob => ?_⟩
        obtain ⟨w', g'⟩ := w1.newF (o := .frz ob (.tup us)) hp
        exact q _ _ _ _ w' (g1.trans g') (Den.tup (.inl (.inr ⟨_, upd_same⟩)) hz (d1.all.mono (Rle.upd (w1.freshF hp))) (NoD.new hob))
      · cases e2
theorem se_lst {es : List Expr} {as : Sl → M (List Val)} {c : Bool} (h : SA X es as) : SE X (.List es pos) (mLst c as) :=
  SE.mk (pe_lst h) fun Q rl e q => by
    obtain ⟨vs, mh1, e1, e_1⟩ := M.bind_some.mp e
    split at e_1
    · rename_i hz
      refine ⟨_, _, _, _, _, _, rl, e1, fun F1 ρ1 H1 us w1 g1 d1 => ⟨by rw [d1.length]; exact hz, fun p hp => ?_⟩⟩
      exact PostR.list (finR_ok e_1 fun F' ρ' H' u w g d => q F' ρ' H' u w (g1.trans g) d) w1 hp d1 hz
    · cases e_1
def mDict0 (c : Bool) (_ : Sl) : M Val := finR c (.nd [])
theorem se_dict0 {c : Bool} : SE X (.Dict [] [] pos) (mDict0 c) :=
  SE.mk pe_dnewK fun Q rl e q => by
    intro p hp
    exact (finR_ok (K := X.K) e q : PostR _ _ _ _ _ Q (.nd [])) _ _ [] p rl.wd .refl (Nat.zero_le _) .nil hp

/-! ### subscripts, slices -/
def mIx (a b : Sl → M Val) (env : Sl) : M Val := do
  let x ← a env
  let y ← b env
  rdM fun mh => ixVl mh x y
theorem se_ix (hu : X.A.units + 1 < cLine) (ha : SE X a ma) (hb : SE X b mb) (hs : PlainIx b) : SE X (.Subscript a b pos) (mIx ma mb) := by
  obtain ⟨r, o1, o2⟩ := ixs_all hu
  refine SE.mk (pe_ix o1 ha hb hs) fun Q rl e q => ?_
  obtain ⟨x, mh1, e1, e_1⟩ := M.bind_some.mp e
  obtain ⟨y, mh2, e2, e_2⟩ := M.bind_some.mp e_1
  obtain ⟨e3, e4⟩ := rdM_some.mp e_2
  simp only at e3 e4
  subst e4
  refine ⟨_, _, _, _, _, _, rl, e1, fun F1 ρ1 H1 u1 w1 g1 d1 => ⟨_, _, _, _, _, _, rl.grow w1 g1, e2, fun F2 ρ2 H2 u2 w2 g2 d2 => ?_⟩⟩
  exact o2 Q w2 (d1.grow g2) d2 e3 fun u d => q _ _ _ _ w2 (g1.trans g2) d
/-- a slice's part -/
def SO (X : Cx) (e : Option Expr) (m : Sl → M (Option Int)) : Prop := PO X e (fun σ H Q => ∃ env mh F ρ v mh', Rl X.K env mh F ρ σ H ∧ m env mh = some (v, mh') ∧ ∀ F' ρ' H', Wd X.K mh' F' ρ' H' → Gr F ρ H F' ρ' H' → Q v H')
def mPart (a : Sl → M Val) (env : Sl) : M (Option Int) := do
  let x ← a env
  ofO ((asInt x).map some)
def mNoPart (_ : Sl) : M (Option Int) := pure none
theorem so_none : SO X none mNoPart := ⟨fun pins s σ H Q I h => by
  obtain ⟨env, mh, F, ρ, v, mh', rl, e, q⟩ := h
  cases e
  exact po_none.run pins s σ H Q I (q _ _ _ rl.wd .refl)⟩
theorem so_some (ha : SE X a ma) : SO X (some a) (mPart ma) := ⟨fun pins s σ H Q I h => by
  obtain ⟨env, mh, F, ρ, v, mh', rl, e, q⟩ := h
  obtain ⟨x, mh1, e1, e_1⟩ := M.bind_some.mp e
  obtain ⟨e2, e3⟩ := ofO_some.mp e_1
  simp only at e2 e3
  subst e3
  refine (po_some ha).run pins s σ H Q I ⟨_, _, _, _, _, _, rl, e1, fun F1 ρ1 H1 u1 w1 g1 d1 => ?_⟩
  cases e4 : asInt x with
  | none => rw [e4] at e2; cases e2
  | some i =>
    rw [e4] at e2
    cases e2
    exact ⟨i, asInt_ok d1 e4, q _ _ _ w1 g1⟩⟩
def mSl (c : Bool) (a : Sl → M Val) (lo hi : Sl → M (Option Int)) (env : Sl) : M Val := do
  let x ← a env
  let l ← lo env
  let h ← hi env
  let r ← rdM fun mh => slVl mh x l h
  finR c r
theorem se_sl {lo hi : Option Expr} {ml mhi : Sl → M (Option Int)} {c : Bool} {p2 : Pos} (ha : SE X a ma) (hl : SO X lo ml) (hh : SO X hi mhi) : SE X (.Subscript a (.Slice lo hi none p2) pos) (mSl c ma ml mhi) := by
  obtain ⟨r, o1, o2⟩ := sls_all (X := X)
  refine SE.mk (pe_slice o1 ha hl hh) fun Q rl e q => ?_
  obtain ⟨x, mh1, e1, e_1⟩ := M.bind_some.mp e
  obtain ⟨l, mh2, e2, e_2⟩ := M.bind_some.mp e_1
  obtain ⟨h, mh3, e3, e_3⟩ := M.bind_some.mp e_2
  obtain ⟨rv, mh4, e4, e_4⟩ := M.bind_some.mp e_3
  obtain ⟨e4, e5⟩ := rdM_some.mp e4
  simp only at e4 e5
  subst e5
  refine ⟨_, _, _, _, _, _, rl, e1, fun F1 ρ1 H1 u1 w1 g1 d1 => ⟨_, _, _, _, _, _, rl.grow w1 g1, e2, fun F2 ρ2 H2 w2 g2 => ⟨_, _, _, _, _, _, rl.grow w2 (g1.trans g2), e3, fun F3 ρ3 H3 w3 g3 => ?_⟩⟩⟩
  exact o2 Q w3 (d1.grow (g2.trans g3)) e4 (finR_ok e_4 fun F' ρ' H' u w g d => q F' ρ' H' u w ((g1.trans (g2.trans g3)).trans g) d)

/-! ### calls of built-ins -/
def mBi (f : List Ob → List Val → Option Rv) (c : Bool) (as : Sl → M (List Val)) (env : Sl) : M Val := do
  let vs ← as env
  let r ← rdM fun mh => f mh vs
  finR c r
theorem se_biB {x : Str} {id : String} {f : List Ob → List Val → Option Rv} {c : Bool} {e0 : Expr} {es : List Expr} {as : Sl → M (List Val)} {p : Pos} (o : CallS X (.builtin id) f) (hg : Gl X x) (hm : X.mg x = none) (hv : bootBuiltins x = some (.builtin id)) (h : SA X (e0 :: es) as)
    (hn : x ≠ "__name__") (hdb : (x == ("__debug__" : Str)) = false) (he : starEach (e0 :: es) X.env = (false, eval e0 X.env) :: starEach es X.env) (hpl : (backTo pos (starEach es X.env)).any (·.1) = false) : SE X (.Call (.Name x p) (e0 :: es) [] pos) (mBi f c as) := by
  obtain ⟨r, o1, o2⟩ := o
  refine SE.mk (pe_callB o1 hg hm hv h hn hdb he hpl) fun Q rl e q => ?_
  obtain ⟨vs, mh1, e1, e_1⟩ := M.bind_some.mp e
  obtain ⟨rv, mh2, e2, e_2⟩ := M.bind_some.mp e_1
  obtain ⟨e2, e3⟩ := rdM_some.mp e2
  simp only at e2 e3
  subst e3
  exact ⟨_, _, _, _, _, _, rl, e1, fun F1 ρ1 H1 us w1 g1 d1 => o2 Q w1 d1 e2 (finR_ok e_2 fun F' ρ' H' u w g d => q F' ρ' H' u w (g1.trans g) d)⟩
theorem se_biT {x : Str} {T : String} {f : List Ob → List Val → Option Rv} {c : Bool} {e0 : Expr} {es : List Expr} {as : Sl → M (List Val)} {p : Pos} (o : CallS X (.type T) f) (hg : Gl X x) (hm : X.mg x = none) (hv : bootBuiltins x = some (.type T)) (h : SA X (e0 :: es) as)
    (hn : x ≠ "__name__") (hdb : (x == ("__debug__" : Str)) = false) (he : starEach (e0 :: es) X.env = (false, eval e0 X.env) :: starEach es X.env) (hpl : (backTo pos (starEach es X.env)).any (·.1) = false) : SE X (.Call (.Name x p) (e0 :: es) [] pos) (mBi f c as) := by
  obtain ⟨r, o1, o2⟩ := o
  refine SE.mk (pe_callTy o1 hg hm hv h hn hdb he hpl) fun Q rl e q => ?_
  obtain ⟨vs, mh1, e1, e_1⟩ := M.bind_some.mp e
  obtain ⟨rv, mh2, e2, e_2⟩ := M.bind_some.mp e_1
  obtain ⟨e2, e3⟩ := rdM_some.mp e2
  simp only at e2 e3
  subst e3
  exact ⟨_, _, _, _, _, _, rl, e1, fun F1 ρ1 H1 us w1 g1 d1 => o2 Q w1 d1 e2 (finR_ok e_2 fun F' ρ' H' u w g d => q F' ρ' H' u w (g1.trans g) d)⟩
/-- isinstance(a, T) -/
def mIsin (T : String) (a : Sl → M Val) (env : Sl) : M Val := do
  let x ← a env
  rdM fun mh => (tyVal mh x).map fun t => .d (.bool (isIn t T))
theorem se_isin {x y : Str} {T : String} {p p2 : Pos} (ha : SE X a ma) (hT : T ∈ isTys) (hx : x = "isinstance") (hg : Gl X x) (hm : X.mg x = none) (hg2 : Gl X y) (hm2 : X.mg y = none) (hv2 : bootBuiltins y = some (.type T)) (hn2 : y ≠ "__name__") (hdb2 : (y == ("__debug__" : Str)) = false)
    (he : starEach [a, .Name y p2] X.env = (false, eval a X.env) :: starEach [.Name y p2] X.env) : SE X (.Call (.Name x p) [a, .Name y p2] [] pos) (mIsin T ma) := by
  subst hx
  refine SE.mk (pe_callB call_isi hg hm (by decide +kernel) (pa_cons ha (pa_cons (pe_bltn (v := .ty T) hg2 hm2 hv2 (show L2.RelV (.ty T) (Value.type T) from rfl) hn2 hdb2) pa_nil) he) (by decide) (by decide) he rfl) fun Q rl e q => ?_
  obtain ⟨v, mh1, e1, e_1⟩ := M.bind_some.mp e
  obtain ⟨e2, e3⟩ := rdM_some.mp e_1
  simp only at e2 e3
  subst e3
  refine ⟨_, _, _, _, _, _, rl, e1, fun F1 ρ1 H1 u w1 g1 d1 => ?_⟩
  obtain ⟨t, e4, e5⟩ := Option.map_eq_some_iff.mp e2
  cases e5
  exact isin_ok Q w1 d1 e4 hT (q _ _ _ _ w1 g1 (Den.bl _))

/-! ### methods of built-ins -/
def mMeth (T : String) (m : Val → List Val → M Val) (o : Sl → M Val) (as : Sl → M (List Val)) (env : Sl) : M Val := do
  let x ← o env
  let ok ← rdM fun mh => some (rcv T x mh)
  if ok then do
    let vs ← as env
    m x vs
  else fun _ => none
theorem se_meth {o : Expr} {es : List Expr} {mo : Sl → M Val} {as : Sl → M (List Val)} {name : Str} {apos cpos : Pos} {T id : String} {m : Val → List Val → M Val} {e0 : Expr} (pa : PlainAttrs T) (slot : Slot T name id) (hty : typeOf (.builtin id) = pure (.type "method_descriptor")) (hm : MtS X T id m) (ho : SE X o mo) (ha : SA X (e0 :: es) as)
    (hbase : attributeBase o name X.env (eval o X.env) = eval o X.env)
    (hfew : ((backTo cpos (starEach (e0 :: es) X.env)).all (fun x => !x.1) && (backToKw cpos (keywordEach [] X.env)).all (fun x => x.1.isSome)
      && decide ((e0 :: es).length + ([] : List Keyword).length + (if ([] : List Keyword).isEmpty then 0 else 1) < 30)) = true)
    (hline : (apos.endLine == cpos.line) = true) (hs : starEach (e0 :: es) X.env = (false, eval e0 X.env) :: starEach es X.env) (hplain : (backTo cpos (starEach es X.env)).any (·.1) = false) :
    SE X (.Call (.Attribute o name apos) (e0 :: es) [] cpos) (mMeth T m mo as) := by
  obtain ⟨r, o1, o2⟩ := hm
  refine SE.mk (pe_bmq pa slot hty o1 ho ha hbase hfew hline hs hplain) fun Q rl e q => ?_
  obtain ⟨x, mh1, e1, e_1⟩ := M.bind_some.mp e
  obtain ⟨ok, mh2, e2, e_2⟩ := M.bind_some.mp e_1
  obtain ⟨e2, e3⟩ := rdM_some.mp e2
  simp only at e2 e3
  subst e3
  refine ⟨_, _, _, _, _, _, rl, e1, fun F1 ρ1 H1 u w1 g1 d1 => ?_⟩
  cases ok with
  | false => cases e_2
  | true =>
    obtain ⟨vs, mh3, e3, e_3⟩ := M.bind_some.mp e_2
    refine ⟨rcv_ok w1 d1 (Option.some.inj e2), _, _, _, _, _, _, rl.grow w1 g1, e3, fun F2 ρ2 H2 us w2 g2 d2 => ?_⟩
    exact o2 Q w2 (d1.grow g2) d2 e_3 fun F' H' u' w g d => q F' ρ2 H' u' w ((g1.trans g2).trans g) d
theorem se_meth0 {o : Expr} {mo : Sl → M Val} {name : Str} {apos cpos : Pos} {T id : String} {m : Val → List Val → M Val} (pa : PlainAttrs T) (slot : Slot T name id) (hty : typeOf (.builtin id) = pure (.type "method_descriptor")) (hm : MtS X T id m) (ho : SE X o mo)
    (hbase : attributeBase o name X.env (eval o X.env) = eval o X.env) (hline : (apos.endLine == cpos.line) = true) : SE X (.Call (.Attribute o name apos) [] [] cpos) (mMeth T m mo (mArgs [])) := by
  obtain ⟨r, o1, o2⟩ := hm
  refine SE.mk (pe_bm0q pa slot hty o1 ho hbase hline) fun Q rl e q => ?_
  obtain ⟨x, mh1, e1, e_1⟩ := M.bind_some.mp e
  obtain ⟨ok, mh2, e2, e_2⟩ := M.bind_some.mp e_1
  obtain ⟨e2, e3⟩ := rdM_some.mp e2
  simp only at e2 e3
  subst e3
  refine ⟨_, _, _, _, _, _, rl, e1, fun F1 ρ1 H1 u w1 g1 d1 => ?_⟩
  cases ok with
  | false => cases e_2
  | true =>
    obtain ⟨vs, mh3, e3, e_3⟩ := M.bind_some.mp e_2
    cases e3
    exact ⟨rcv_ok w1 d1 (Option.some.inj e2), o2 Q w1 d1 .nil e_3 fun F' H' u' w g d => q F' ρ1 H' u' w (g1.trans g) d⟩
end
end Pv

/-! PR: list(reversed(x)), x a list -/
namespace Pv
open PySem PySem.Spec PyProof.Rows L2 RZ
section
variable {prog : Program} {w : World} {A : Around} {E : Value → Shared → Prop} {s : Shared}
theorem list_of_rev {it l : Addr} {items : Array Value} {Q : Value → Shared → Prop} (hh : A.handled = none) (hit : s.heap.IsRevIter it l ((items.size : Int) - 1)) (hl : s.heap.IsList l items) (hne : l ≠ it) (hn : items.size ≤ sizeLine)
    (hQ : ∀ (h' : Heap) (tk : Nat) (acc : Array Value) (c' : Nat), (∀ b o, b ≠ it → s.heap.get? b = some o → h'.get? b = some o) → ItemsOf (fun i v => items[items.size - 1 - i]? = some v) acc items.size →
      h'.get? s.heap.objs.size = some { cls := .type "list", dict := none, data := .seq acc c', slots := #[] } → Q (.ref s.heap.objs.size) { s with heap := h', toks := tk }) :
    wpAny (model prog w) A (call (.type "list") [.ref it]) Q E s := by
  obtain ⟨oi, hoi, _⟩ := id hit
  obtain ⟨ol, hol, _⟩ := id hl
  have hSi : s.heap.objs.size ≠ it := Nat.ne_of_gt (Heap.lt_size hoi)
  have hSl : s.heap.objs.size ≠ l := Nat.ne_of_gt (Heap.lt_size hol)
  have hSf : s.heap.objs.size ∉ [it, l] := by simp only [List.mem_cons, List.not_mem_nil, or_false, not_or]; exact ⟨hSi, hSl⟩
  refine callType_codes (Q₁ := fun obj s₁ => obj = .ref s.heap.objs.size ∧ s₁ = { s with heap := s.heap.push { cls := .type "list", data := .seq #[] } }) F.called_list (F.typeCall_list_1 _) F.entry_list_init
    (code_list_new _ ⟨rfl, rfl⟩) fun obj s₁ h₁ => ?_
  obtain ⟨rfl, rfl⟩ := h₁
  have hS : (s.heap.push { cls := .type "list", data := .seq #[] }).get? s.heap.objs.size = some { cls := .type "list", data := .seq #[] } := Heap.get?_push_size _ rfl
  refine ⟨⟨_, hS, rfl⟩, F.args_list_init_2 _ _, ?_⟩
  have W := (Walks.listRev (prog := prog) (w := w) (A := A.in1.in1) hh it l hne items).toS
  show wpAny _ A.in1.in1 (do let old ← Builtin.List.listItems (.ref s.heap.objs.size); Builtin.List.listUpdate (.ref s.heap.objs.size) (fun _ => #[]); letGo old.toList.reverse; Builtin.List.listExtendWith (.ref s.heap.objs.size) (.ref it) .none) _ _ _
  refine wpAny_bind ?_
  unfold Builtin.List.listItems
  refine wpAny_bind (wpAny_seqItems hS rfl (wpAny_pure ?_))
  show wpAny _ A.in1.in1 (updateSeq s.heap.objs.size (fun _ => #[]) >>= fun _ => letGo (#[] : Array Value).toList.reverse >>= fun _ => Builtin.List.listExtendWith (.ref s.heap.objs.size) (.ref it) .none) _ _ _
  refine wpAny_bind (wpAny_updateSeq hS rfl ?_)
  have hS₂ := Heap.get?_update_self (Obj.mapSeq (fun _ => (#[] : Array Value))) hS rfl
  refine wpAny_bind (wpAny_letGo ?_)
  have far : ∀ b o, s.heap.get? b = some o → ((s.heap.push { cls := .type "list", data := .seq #[] }).update s.heap.objs.size (Obj.mapSeq fun _ => (#[] : Array Value))).get? b = some o := fun b o e =>
    (Heap.get?_update_other _ _ (Ne.symm (Nat.ne_of_lt (Heap.lt_size e)))).trans (Heap.get?_push_of_some _ e)
  show wpAny _ A.in1.in1 _ _ _ { s with heap := (s.heap.push { cls := .type "list", data := .seq #[] }).update s.heap.objs.size (Obj.mapSeq fun _ => (#[] : Array Value)) }
  generalize hh2 : (s.heap.push { cls := .type "list", data := .seq #[] }).update s.heap.objs.size (Obj.mapSeq fun _ => (#[] : Array Value)) = h2 at far hS₂
  have hit1 : h2.IsRevIter it l ((items.size : Int) - 1) := hit.at fun o e => far _ o e
  have hl1 : h2.IsList l items := hl.at fun o e => far _ o e
  have hT : ({ s with heap := h2 } : Shared).TypeIs (.ref it) "list_reverseiterator" := Heap.IsRevIter.typeIs (s := { s with heap := h2 }) hit1
  have h1 : Builtin.List.listSameRef (.ref s.heap.objs.size) (.ref it) = false := by simp [Builtin.List.listSameRef, hSi]
  unfold Builtin.List.listExtendWith
  refine wpAny_bind (wpAny_typeOf hT ?_)
  rw [if_neg (by rw [h1]; decide)]
  refine wpAny_bind (wpAny_pyIter_revIter (s := { s with heap := h2 }) hit1 ?_)
  refine wpAny_bind (wpAny_holding ?_)
  unfold Builtin.List.listLengthHint
  refine wpAny_bind (wpAny_specialOf hT RT.nolen_lri ?_)
  show wpAny _ A.in1.in1 (specialOf (Value.ref it) (Str.ofString "__length_hint__") >>= _) _ _ _
  refine wpAny_bind (wpAny_specialOf hT RT.hint_lri ?_)
  generalize hid : ("list_reverseiterator.__length_hint__" : String) = id0
  wp_delta
  rw [show splitId id0 = some ("list_reverseiterator", "__length_hint__") from by subst hid; decide +kernel]
  subst hid
  refine wpAny_bind (wpAny_isInstance (b := true) hT (by rw [isSubtype_type]; kernel_rfl) ?_)
  refine wpAny_pure ?_
  rw [if_neg (by decide)]
  have e0 : ((items.size : Nat) : Int) - 1 - ((0 : Nat) : Int) = (items.size : Int) - 1 := by omega
  refine wpAny_pure ⟨plainId_quiet F.plain_extend_loop _, codeAny_extend_loopS W hn _ hSf _ items.size 0 _ _ _ rfl (Nat.zero_le _) ⟨Nat.zero_le _, by rw [e0]; exact hit1, hl1⟩ hS₂ (ItemsOf.nil _) fun s' acc' c' hm hS' hacc => ?_⟩
  have he := Moved.eq_with hm
  rw [he] at hS' ⊢
  refine ⟨rfl, hQ s'.heap s'.toks acc' c' (fun b o hb e => hm.heap b o (fun hmem => ?_) (far b o e)) hacc hS'⟩
  rcases List.mem_cons.mp hmem with e' | hmem
  · exact absurd (Heap.lt_size e) (by rw [e']; exact Nat.lt_irrefl _)
  · exact hb (List.mem_singleton.mp hmem)
end
def tListRev (K : PySem.W.Frag) (te : TE) : TE := fun σ H Q => te σ H fun v H1 => ∃ (a : Addr) (xs : List V), v = .ref a ∧ SqL K H1 a xs ∧ ∀ q, H1 q = none → Q (.ref q) (upd H1 q (.lst xs.reverse))
section
variable {X : Cx}
theorem pe_listRev {e : Expr} {te : TE} {p p2 pos pos2 : Pos} (hc : X.calm = true) (hg : Gl X "list") (hm : X.mg "list" = none) (hg2 : Gl X "reversed") (hm2 : X.mg "reversed" = none) (he : PE X e te)
    (hs : starEach [e] X.env = (false, eval e X.env) :: starEach [] X.env)
    (hs2 : starEach [.Call (.Name "reversed" p2) [e] [] pos2] X.env = (false, eval (.Call (.Name "reversed" p2) [e] [] pos2) X.env) :: starEach [] X.env) :
    PE X (.Call (.Name "list" p) [.Call (.Name "reversed" p2) [e] [] pos2] [] pos) (tListRev X.K te) := by
  refine ⟨fun pins s σ H Q I h => ?_⟩
  refine Call_ (ld_blt I hg hm (show bootBuiltins (Str.ofString "list") = some (.type "list") by decide +kernel) (PyProof.Rows.callWith_type1 (args_cons (Call_ (ld_blt I hg2 hm2 PyProof.Rows.boot_reversed (PyProof.Rows.callWith_type1 (args_cons (thn (he.run pins s σ H _ I h) fun u s1 ⟨v, H1, I1, r1, q1⟩ => args_nil ?_) hs) hs rfl))) hs2) hs2 rfl))
  obtain ⟨a, xs, ev, hq, q⟩ := q1
  subst ev
  obtain rfl : u = Value.ref a := r1
  obtain ⟨its, rv, p', hz⟩ := I1.list hq
  refine call_reversed_list p'.isList (args_nil ?_)
  have I2 : Inv X pins σ H1 { s1 with heap := s1.heap.push (revObj a ((its.toArray.size : Int) - 1)) } := I1.kept (t' := s1.toks) fun b o e => Heap.get?_push_of_some _ e
  have fp := I1.fpOk (H' := H1) (b := s1.heap.objs.size) (Nat.le_refl _) (I1.hok.fresh (Nat.le_refl _))
  have hl := p'.isList
  obtain ⟨ol, hol, _⟩ := id hl
  have hne : a ≠ s1.heap.objs.size := Nat.ne_of_lt (Heap.lt_size hol)
  have hn : its.toArray.size ≤ sizeLine := by rw [List.size_toArray, ← rv.length]; exact hz
  refine list_of_rev (s := { s1 with heap := s1.heap.push (revObj a ((its.toArray.size : Int) - 1)) }) (I1.ok.hd hc) ⟨_, Heap.get?_push_size _ rfl, rfl, rfl⟩ (hl.push _) hne hn fun h' tk acc c' hk hi hS => ?_
  have new : ObjOk X.prog X.w (upd H1 (s1.heap.push (revObj a ((its.toArray.size : Int) - 1))).objs.size (.lst xs.reverse)) h' (s1.heap.push (revObj a ((its.toArray.size : Int) - 1))).objs.size (.lst xs.reverse) :=
    ⟨by rw [List.length_reverse]; exact hz, acc.toList, c', RT.vals_rev rv hi, by rw [Array.toArray_toList]; exact hS⟩
  have I3 := I2.turnedNew (t' := tk) (ch := [s1.heap.objs.size]) (fun b o hb e => hk b o (fun z => hb (by simp [z])) e) (fun b hb => by rw [List.mem_singleton.mp hb]; exact fp) (Nat.le_refl _) new
  exact ⟨.ref _, _, I3, rfl, q _ (I2.hok.fresh (Nat.le_refl _))⟩
end
theorem paired_app {α β : Type} {R : α → β → Prop} : ∀ {xs xs' : List α} {ys ys' : List β}, Paired R xs ys → Paired R xs' ys' → Paired R (xs ++ xs') (ys ++ ys')
  | _, _, _, _, .nil, h => h
  | _, _, _, _, .cons a b, h => .cons a (paired_app b h)
theorem paired_rev {α β : Type} {R : α → β → Prop} : ∀ {xs : List α} {ys : List β}, Paired R xs ys → Paired R xs.reverse ys.reverse
  | _, _, .nil => .nil
  | _, _, .cons (l₁ := xs) (l₂ := ys) a b => by
    rw [List.reverse_cons, List.reverse_cons]
    exact paired_app (paired_rev b) (.cons a .nil)
/-! list(reversed(a)) in the evaluator -/
def mRev (c : Bool) (a : Sl → M Val) (env : Sl) : M Val := do
  let x ← a env
  let vs ← rdM fun mh => seqL mh x
  finR c (.nl vs.reverse)
section
variable {X : Cx}
theorem se_rev {c : Bool} {e : Expr} {ma : Sl → M Val} {p p2 pos pos2 : Pos} (hc : X.calm = true) (hg : Gl X "list") (hm : X.mg "list" = none) (hg2 : Gl X "reversed") (hm2 : X.mg "reversed" = none) (ha : SE X e ma)
    (hs : starEach [e] X.env = (false, eval e X.env) :: starEach [] X.env)
    (hs2 : starEach [.Call (.Name "reversed" p2) [e] [] pos2] X.env = (false, eval (.Call (.Name "reversed" p2) [e] [] pos2) X.env) :: starEach [] X.env) :
    SE X (.Call (.Name "list" p) [.Call (.Name "reversed" p2) [e] [] pos2] [] pos) (mRev c ma) :=
  SE.mk (pe_listRev hc hg hm hg2 hm2 ha hs hs2) fun Q rl e q => by
    obtain ⟨x, mh1, e1, ea⟩ := M.bind_some.mp e
    obtain ⟨vs, mh2, e2, eb⟩ := M.bind_some.mp ea
    obtain ⟨e3, e4⟩ := rdM_some.mp e2
    simp only at e3 e4
    subst e4
    refine ⟨_, _, _, _, _, _, rl, e1, fun F1 ρ1 H1 u1 w1 g1 d1 => ?_⟩
    obtain ⟨a, us, rfl, hS, hd, hz⟩ := seqL_ok w1 d1 e3
    have post := finR_ok (K := X.K) (F := F1) (ρ := ρ1) (H := H1) eb fun F' ρ' H' u w g d => q F' ρ' H' u w (g1.trans g) d
    exact ⟨a, us, rfl, hS, fun p hp => PostR.list post w1 hp (paired_rev hd) (by rw [List.length_reverse]; exact hz)⟩
end
end Pv

/-! P6: targets, walks, statements, comprehensions, calls -/
namespace Pv
open PySem PySem.Spec PyProof.Rows L2

/-! ### targets -/
def tGt (K : PySem.W.Frag) (sl : List Nat) (m : Val → Sl → M Sl) : TG := fun u σ H Q => ∃ env mh F ρ v env' mh', Rl K env mh F ρ σ H ∧ DenV K F ρ u v ∧ m v env mh = some (env', mh') ∧
  ∀ F' ρ' σ' H', Rl K env' mh' F' ρ' σ' H' → Gr F ρ H F' ρ' H' → (∀ vs : List Nat, (∀ i ∈ sl, i ∈ vs) → wipe σ' vs = wipe σ vs) → Q σ' H'
def SG (X : Cx) (tg : Expr) (sl : List Nat) (m : Val → Sl → M Sl) : Prop := PG X tg (tGt X.K sl m)
def tGsd (K : PySem.W.Frag) (sl : List Nat) (m : List Val → Sl → M Sl) : TGs := fun us σ H Q => ∃ env mh F ρ ds env' mh', Rl K env mh F ρ σ H ∧ DenVs K F ρ us ds ∧ m ds env mh = some (env', mh') ∧
  ∀ F' ρ' σ' H', Rl K env' mh' F' ρ' σ' H' → Gr F ρ H F' ρ' H' → (∀ vs : List Nat, (∀ i ∈ sl, i ∈ vs) → wipe σ' vs = wipe σ vs) → Q σ' H'
def SGs (X : Cx) (ts : List Expr) (sl : List Nat) (m : List Val → Sl → M Sl) : Prop := PGs X ts (tGsd X.K sl m)
theorem wipe_set {σ : L2.St} {i : Nat} {o : Option V} : ∀ {vs : List Nat}, i ∈ vs → wipe (σ.set i o) vs = wipe σ vs
  | [], h => nomatch h
  | v :: vs, h => by
    show (wipe (σ.set i o) vs).set v none = (wipe σ vs).set v none
    by_cases e : i ∈ vs
    · rw [wipe_set e]
    · have e2 : i = v := by
        rcases List.mem_cons.mp h with z | z
        · exact z
        · exact absurd z e
      subst e2
      have : ∀ (ws : List Nat), i ∉ ws → wipe (σ.set i o) ws = (wipe σ ws).set i o := by
        intro ws
        induction ws with
        | nil => intro _; rfl
        | cons w ws ih =>
          intro hn
          have h1 : i ≠ w := fun z => hn (by simp [z])
          have h2 : i ∉ ws := fun z => hn (by simp [z])
          show (wipe (σ.set i o) ws).set w none = ((wipe σ ws).set w none).set i o
          rw [ih h2, List.set_comm _ _ h1]
      rw [this vs e, List.set_set]
def gNm (i : Nat) (v : Val) (env : Sl) : M Sl := pure (env.set i (some v))
section
variable {X : Cx} {pos : Pos}
theorem sg_name {i : Nat} {x : Str} (hN : X.N.Nodup) (hi : X.N[i]? = some x) (hx : Loc X.env.scope x) (hf : X.fn x = true ∨ X.env.scope.names.lookup x = some .local) : SG X (.Name x pos) [i] (gNm i) := by
  refine ⟨fun pins s σ H u w Q I r h => ?_⟩
  obtain ⟨env, mh, F, ρ, v, env', mh', rl, d, e, q⟩ := h
  cases e
  exact (pg_name hN hi hx hf).run pins s σ H u w Q I r (q _ _ _ _ (rl.set i d) .refl fun vs hv => wipe_set (hv i (by simp)))
def gNil : List Val → Sl → M Sl
  | [], env => pure env
  | _ :: _, _ => fun _ => none
def gCons (m : Val → Sl → M Sl) (ms : List Val → Sl → M Sl) : List Val → Sl → M Sl
  | [], _ => fun _ => none
  | d :: ds, env => do
    let env1 ← m d env
    ms ds env1
theorem sgs_nil : SGs X [] [] gNil := by
  refine ⟨fun pins s σ H us ws Q I r h => ?_⟩
  obtain ⟨env, mh, F, ρ, v, env', mh', rl, d, e, q⟩ := h
  cases d with
  | nil =>
    cases e
    exact pgs_nil.run pins s σ H [] ws Q I r ⟨rfl, q _ _ _ _ rl .refl fun _ _ => rfl⟩
  | cons _ _ => cases e
theorem sgs_cons {a : Expr} {es : List Expr} {s1 s2 : List Nat} {m : Val → Sl → M Sl} {ms : List Val → Sl → M Sl} (h1 : SG X a s1 m) (h2 : SGs X es s2 ms)
    (hs : (assignEach (a :: es) X.env).map (·.2) = assign a X.env :: (assignEach es X.env).map (·.2)) : SGs X (a :: es) (s1 ++ s2) (gCons m ms) := by
  refine ⟨fun pins s σ H us ws Q I r h => ?_⟩
  obtain ⟨env, mh, F, ρ, v, env', mh', rl, d, e, q⟩ := h
  cases d with
  | nil => cases e
  | cons d1 d2 =>
    obtain ⟨env1, mh1, e1, e2⟩ := M.bind_some.mp e
    refine (pgs_cons h1 h2 hs).run pins s σ H _ ws Q I r ⟨_, _, rfl, _, _, _, _, _, _, _, rl, d1, e1, fun F1 ρ1 σ1 H1 rl1 g1 w1 => ?_⟩
    exact ⟨_, _, _, _, _, _, _, rl1, DenVs.grow d2 g1, e2, fun F2 ρ2 σ2 H2 rl2 g2 w2 => q _ _ _ _ rl2 (g1.trans g2) fun vs hv => (w2 vs fun i hi => hv i (List.mem_append_right _ hi)).trans (w1 vs fun i hi => hv i (List.mem_append_left _ hi))⟩
def gTp (n : Nat) (ms : List Val → Sl → M Sl) (v : Val) (env : Sl) : M Sl := fun mh => match seqA mh v with
  | some vs => if vs.length = n then ms vs env mh else none
  | none => none
theorem sg_tup {es : List Expr} {j n : Nat} {sl : List Nat} {ms : List Val → Sl → M Sl} (hc : X.calm = true) (h : SGs X es sl ms)
    (hn : (assignEach es X.env).length = n) (hst : (assignEach es X.env).findIdx? (·.1) = none) : SG X (.Tuple es j pos) sl (gTp n ms) := by
  refine ⟨fun pins s σ H u w Q I r hw => ?_⟩
  obtain ⟨env, mh, F, ρ, v, env', mh', rl, d, e, q⟩ := hw
  unfold gTp at e
  split at e
  · rename_i vs hvs
    split at e
    · rename_i hl
      obtain ⟨a, us, rfl, hq, dv, z⟩ := seqA_ok rl.wd d hvs
      have ul : us.length = n := by rw [dv.length]; exact hl
      rcases hq with hq | hq
      · exact (pg_unl hc h hn hst).run pins s σ H _ w Q I r ⟨_, _, rfl, hq, ul, _, _, _, _, _, _, _, rl, dv, e, q⟩
      · exact (pg_tup hc h hn hst).run pins s σ H _ w Q I r ⟨_, _, rfl, hq, ul, _, _, _, _, _, _, _, rl, dv, e, q⟩
    · cases e
  · cases e
/-- o[i] = v -/
def gSb (mo mi : Sl → M Val) (v : Val) (env : Sl) : M Sl := do
  let o ← mo env
  let i ← mi env
  setVl o i v
  pure env
theorem sg_sub {o i : Expr} {mo mi : Sl → M Val} (hu : X.A.units + 1 < cLine) (ho : SE X o mo) (hi : SE X i mi)
    (ha : ∀ v, assign (.Subscript o i pos) X.env v = (do
      let ov ← holding [v] (eval o X.env)
      let iv ← holding [v, ov] (eval i X.env)
      standAt pos
      holding [v, ov, iv] (setItem ov iv v)
      release [v, ov, iv] [])) : SG X (.Subscript o i pos) [] (gSb mo mi) := by
  obtain ⟨t, o1, o2⟩ := sets_all hu
  refine ⟨fun pins s σ H u w Q I r hw => ?_⟩
  obtain ⟨env, mh, F, ρ, v, env', mh', rl, d, e, q⟩ := hw
  obtain ⟨vo, mh1, e1, ea⟩ := M.bind_some.mp e
  obtain ⟨vi, mh2, e2, eb⟩ := M.bind_some.mp ea
  obtain ⟨_, mh3, e3, ec⟩ := M.bind_some.mp eb
  cases ec
  refine (pg_sub ho hi o1 ha).run pins s σ H u w Q I r ⟨_, _, _, _, _, _, rl, e1, fun F1 ρ1 H1 u1 w1 g1 d1 => ⟨_, _, _, _, _, _, rl.grow w1 g1, e2, fun F2 ρ2 H2 u2 w2 g2 d2 => ?_⟩⟩
  exact o2 _ w2 (d1.grow g2) d2 (d.grow (g1.trans g2)) e3 fun H' w3 g3 => q _ _ _ _ (rl.grow w3 ((g1.trans g2).trans g3)) ((g1.trans g2).trans g3) fun _ _ => rfl
end

/-! ### what is walked -/
structure Ix where
  items : List Val
  g : List (Nat × List Val)
def gOk (g : List (Nat × List Val)) (mh : List Ob) : Prop := ∀ p ∈ g, mh[p.1]? = some (.lst p.2)
open Classical in
noncomputable def chkG (g : List (Nat × List Val)) : M Unit := fun mh => if gOk g mh then some ((), mh) else none
theorem chkG_some {g : List (Nat × List Val)} {mh : List Ob} {r : Unit × List Ob} (h : chkG g mh = some r) : gOk g mh ∧ r = ((), mh) := by
  unfold chkG at h
  split at h
  · cases h; exact ⟨‹_›, rfl⟩
  · cases h
structure ItOk (K : PySem.W.Frag) (J : It) (it : Ix) (F : Hp) (ρ : List Addr) : Prop where
  small : it.items.length ≤ sizeLine
  stop : ∀ {mh F' ρ' H'}, Wd K mh F' ρ' H' → Ext F F' → ρ <+: ρ' → gOk it.g mh → J.stop it.items.length H'
  go : ∀ {mh F' ρ' H' i v}, Wd K mh F' ρ' H' → Ext F F' → ρ <+: ρ' → gOk it.g mh → it.items[i]? = some v → J.go i H' ∧ ∀ x H'', J.yld i H' x H'' → ∃ F'', Wd K mh F'' ρ' H'' ∧ Gr F' ρ' H' F'' ρ' H'' ∧ DenV K F'' ρ' x v
def tIt (K : PySem.W.Frag) (m : Sl → M Ix) : TI := fun σ H R => ∃ env mh F ρ it mh', Rl K env mh F ρ σ H ∧ m env mh = some (it, mh') ∧ ∀ J F' ρ' H', Wd K mh' F' ρ' H' → Gr F ρ H F' ρ' H' → ItOk K J it F' ρ' → R J H'
def SI (X : Cx) (tg iter : Expr) (m : Sl → M Ix) : Prop := PI X tg iter (tIt X.K m)
theorem SI.mk {X : Cx} {tg iter : Expr} {t : TI} {m : Sl → M Ix} (h : PI X tg iter t) (k : ∀ {env : Sl} {mh mh' : List Ob} {F : Hp} {ρ : List Addr} {σ : L2.St} {H : Hp} {it : Ix} (R : It → Hp → Prop), Rl X.K env mh F ρ σ H → m env mh = some (it, mh') →
    (∀ J F' ρ' H', Wd X.K mh' F' ρ' H' → Gr F ρ H F' ρ' H' → ItOk X.K J it F' ρ' → R J H') → t σ H R) : SI X tg iter m := by
  refine ⟨fun pins s σ H R I h1 => ?_⟩
  obtain ⟨env, mh, F, ρ, it, mh', rl, e1, q⟩ := h1
  exact h.run pins s σ H R I (k R rl e1 q)
/-- over the cell or the data that a value is -/
def guardOf : Val → List Val → List (Nat × List Val)
  | .ref n, vs => [(n, vs)]
  | _, _ => []
section
variable {X : Cx} {tg : Expr} {pos p : Pos}
theorem seqL_again {K : PySem.W.Frag} {mh mh2 : List Ob} {F F2 : Hp} {ρ ρ2 : List Addr} {H H2 : Hp} {u : V} {v : Val} {vs : List Val} (w : Wd K mh F ρ H) (d : DenV K F ρ u v) (h : seqL mh v = some vs) (w2 : Wd K mh2 F2 ρ2 H2) (r : Ext F F2) (hp : ρ <+: ρ2) (g : gOk (guardOf v vs) mh2) :
    ∃ a us, u = .ref a ∧ SqL K H2 a us ∧ DenVs K F2 ρ2 us vs ∧ vs.length ≤ sizeLine := by
  have h2 : seqL mh2 v = some vs := by
    cases v with
    | d x =>
      cases x with
      | list ds => exact h
      | _ => cases h
    | ref n =>
      have := g (n, vs) (by simp [guardOf])
      show cellL mh2 n = some vs
      unfold cellL
      rw [this]
  exact seqL_ok w2 (d.mono (Rle.same r) hp) h2
theorem seqT_again {K : PySem.W.Frag} {mh mh2 : List Ob} {F F2 : Hp} {ρ ρ2 : List Addr} {H H2 : Hp} {u : V} {v : Val} {vs : List Val} (w : Wd K mh F ρ H) (d : DenV K F ρ u v) (h : seqT v = some vs) (w2 : Wd K mh2 F2 ρ2 H2) (r : Ext F F2) (hp : ρ <+: ρ2) :
    ∃ a us, u = .ref a ∧ SqT K H2 a us ∧ DenVs K F2 ρ2 us vs ∧ vs.length ≤ sizeLine := seqT_ok w2 (d.mono (Rle.same r) hp) h
theorem itok_list {K : PySem.W.Frag} {mh : List Ob} {F : Hp} {ρ : List Addr} {H : Hp} {a : Addr} {v : Val} {vs : List Val} (w : Wd K mh F ρ H) (d : DenV K F ρ (.ref a) v) (h : seqL mh v = some vs) : ItOk K (Itl K a) ⟨vs, guardOf v vs⟩ F ρ where
  small := let ⟨_, _, _, _, _, z⟩ := seqL_ok w d h; z
  stop := fun {mh2 F2 ρ2 H2} w2 r hp g => by
    obtain ⟨b, us, e, q, dd, z⟩ := seqL_again w d h w2 r hp g
    cases e
    exact ⟨us, q, by rw [dd.length]; exact Nat.le_refl _⟩
  go := fun {mh2 F2 ρ2 H2 i x} w2 r hp g hx => by
    obtain ⟨b, us, e, q, dd, z⟩ := seqL_again w d h w2 r hp g
    cases e
    obtain ⟨u, h1, h2⟩ := dd.get hx
    refine ⟨⟨us, u, q, h1⟩, fun y H'' hy => ?_⟩
    obtain ⟨rfl, hy⟩ := hy
    have : y = u := Option.some.inj ((hy us q).symm.trans h1)
    subst this
    exact ⟨F2, w2, .refl, h2⟩
theorem itok_tup {K : PySem.W.Frag} {mh : List Ob} {F : Hp} {ρ : List Addr} {H : Hp} {a : Addr} {v : Val} {vs : List Val} (w : Wd K mh F ρ H) (d : DenV K F ρ (.ref a) v) (h : seqT v = some vs) : ItOk K (Itt K a) ⟨vs, []⟩ F ρ where
  small := let ⟨_, _, _, _, _, z⟩ := seqT_ok w d h; z
  stop := fun {mh2 F2 ρ2 H2} w2 r hp g => by
    obtain ⟨b, us, e, q, dd, z⟩ := seqT_again w d h w2 r hp
    cases e
    exact ⟨us, q, by rw [dd.length]; exact Nat.le_refl _⟩
  go := fun {mh2 F2 ρ2 H2 i x} w2 r hp g hx => by
    obtain ⟨b, us, e, q, dd, z⟩ := seqT_again w d h w2 r hp
    cases e
    obtain ⟨u, h1, h2⟩ := dd.get hx
    refine ⟨⟨us, u, q, h1⟩, fun y H'' hy => ?_⟩
    obtain ⟨rfl, hy⟩ := hy
    have : y = u := Option.some.inj ((hy us q).symm.trans h1)
    subst this
    exact ⟨F2, w2, .refl, h2⟩
theorem itok_str {K : PySem.W.Frag} {F : Hp} {ρ : List Addr} {z : Str} (hz : z.length ≤ sizeLine) : ItOk K (Its z) ⟨z.cps.toList.map fun c => .d (.str ⟨#[c]⟩), []⟩ F ρ where
  small := by rw [List.length_map]; exact hz
  stop := fun {mh2 F2 ρ2 H2} w2 r hp g => by
    show z.cps.size ≤ _
    rw [List.length_map]
    exact Nat.le_refl _
  go := fun {mh2 F2 ρ2 H2 i x} w2 r hp g hx => by
    rw [List.getElem?_map] at hx
    obtain ⟨c, h1, h2⟩ := Option.map_eq_some_iff.mp hx
    have h3 : z.cps[i]? = some c := by rw [← Array.getElem?_toList]; exact h1
    refine ⟨(Array.getElem?_eq_some_iff.mp h3).1, fun y H'' hy => ?_⟩
    obtain ⟨rfl, c', h4, rfl⟩ := hy
    rw [h3] at h4
    cases h4
    subst h2
    exact ⟨F2, w2, .refl, Den.str _⟩
/-- a value that is walked: a list, a tuple, a text -/
theorem pi_val {l : Expr} {tl : TE} (hl : PE X l tl) : PI X tg l (fun σ H R => tl σ H fun x H1 => (∃ a, x = .ref a ∧ (∃ xs, SqL X.K H1 a xs) ∧ R (Itl X.K a) H1) ∨ (∃ a, x = .ref a ∧ (∃ xs, SqT X.K H1 a xs) ∧ R (Itt X.K a) H1) ∨ ∃ z, x = .str z ∧ R (Its z) H1) := by
  refine ⟨fun pins s σ H R I h => ?_⟩
  refine thn (hl.run pins s σ H _ I h) fun v s1 ⟨x, H1, I1, r1, q1⟩ => ?_
  rcases q1 with ⟨a, e, ⟨xs, hq⟩, q⟩ | ⟨a, e, ⟨xs, hq⟩, q⟩ | ⟨z, e, q⟩
  · subst e
    cases r1
    obtain ⟨its, rv, p, hz⟩ := I1.list hq
    refine wpAny_pyIter_list p.isList ?_
    refine ⟨s1.heap.objs.size, [s1.heap.objs.size], _, _, H1, rfl, I1.kept (t' := s1.toks) fun b o e => Heap.get?_push_of_some _ e, turn_list a _, ⟨_, Heap.get?_push_size _ rfl, rfl, rfl⟩, fun b hb => ?_, q⟩
    have e : b = s1.heap.objs.size := by simpa using hb
    subst e
    exact I1.fpOk (Nat.le_refl _) (I1.hok.fresh (Nat.le_refl _))
  · subst e
    cases r1
    obtain ⟨its, rv, p, hz⟩ := I1.tuple hq
    refine wpAny_pyIter_tuple (show s1.heap.IsTuple a its.toArray from p) ?_
    refine ⟨s1.heap.objs.size, [s1.heap.objs.size], _, _, H1, rfl, I1.kept (t' := s1.toks) fun b o e => Heap.get?_push_of_some _ e, turn_tuple a _, ⟨_, Heap.get?_push_size _ rfl, rfl, rfl⟩, fun b hb => ?_, q⟩
    have e : b = s1.heap.objs.size := by simpa using hb
    subst e
    exact I1.fpOk (Nat.le_refl _) (I1.hok.fresh (Nat.le_refl _))
  · subst e
    obtain ⟨t, rfl⟩ := r1
    cases ha : z.cps.all (· < 128)
    · exact wpAny_pyIter_wide ha (pi_one (tk := s1.toks) I1 _ (turn_str _ z t "str_iterator" (.inr rfl)) ⟨_, Heap.get?_push_size _ rfl, rfl, rfl⟩ q)
    · exact wpAny_pyIter_ascii ha (pi_one (tk := s1.toks) I1 _ (turn_str _ z t "str_ascii_iterator" (.inl rfl)) ⟨_, Heap.get?_push_size _ rfl, rfl, rfl⟩ q)
def ixOf (mh : List Ob) (v : Val) : Option Ix := match v with
  | .d (.tuple ds) => some ⟨ds.map Val.d, []⟩
  | .d (.str z) => if z.length ≤ sizeLine then some ⟨z.cps.toList.map fun c => .d (.str ⟨#[c]⟩), []⟩ else none
  | v => (seqL mh v).map fun vs => ⟨vs, guardOf v vs⟩
def iVal (a : Sl → M Val) (env : Sl) : M Ix := do
  let x ← a env
  rdM fun mh => ixOf mh x
theorem si_val {a : Expr} {ma : Sl → M Val} (ha : SE X a ma) : SI X tg a (iVal ma) :=
  SI.mk (pi_val ha) fun R rl e q => by
    obtain ⟨v, mh1, e1, ea⟩ := M.bind_some.mp e
    obtain ⟨e2, e3⟩ := rdM_some.mp ea
    simp only at e2 e3
    subst e3
    refine ⟨_, _, _, _, _, _, rl, e1, fun F1 ρ1 H1 u w1 g1 d1 => ?_⟩
    unfold ixOf at e2
    split at e2
    · rename_i ds
      cases e2
      obtain ⟨a, us, rfl, hq, dd, z⟩ := seqT_ok w1 d1 (show seqT (.d (.tuple ds)) = some (ds.map Val.d) from rfl)
      exact .inr (.inl ⟨a, rfl, ⟨us, hq⟩, q _ _ _ _ w1 g1 (itok_tup w1 d1 rfl)⟩)
    · split at e2
      · rename_i z hz
        cases e2
        exact .inr (.inr ⟨z, den_str d1, q _ _ _ _ w1 g1 (itok_str hz)⟩)
      · cases e2
    · obtain ⟨vs, e4, e5⟩ := Option.map_eq_some_iff.mp e2
      subst e5
      obtain ⟨a, us, rfl, hq, dd, z⟩ := seqL_ok w1 d1 e4
      exact .inl ⟨a, rfl, ⟨us, hq⟩, q _ _ _ _ w1 g1 (itok_list w1 d1 e4)⟩
/-- range -/
def rgItems (lo : Int) (n : Nat) : List Val := (List.range n).map fun (i : Nat) => .d (.int (lo + i))
theorem itok_range {K : PySem.W.Frag} {F : Hp} {ρ : List Addr} {lo : Int} {n : Nat} (hn : n ≤ sizeLine) : ItOk K (Itr lo n) ⟨rgItems lo n, []⟩ F ρ where
  small := by simp only [rgItems, List.length_map, List.length_range]; exact hn
  stop := fun {mh2 F2 ρ2 H2} w2 r hp g => by
    show n ≤ (rgItems lo n).length
    simp only [rgItems, List.length_map, List.length_range]
    exact Nat.le_refl _
  go := fun {mh2 F2 ρ2 H2 i x} w2 r hp g hx => by
    have hx : ((List.range n).map fun (i : Nat) => Val.d (.int (lo + i)))[i]? = some x := hx
    rw [List.getElem?_map] at hx
    obtain ⟨c, h1, h2⟩ := Option.map_eq_some_iff.mp hx
    obtain ⟨h3, h4⟩ := List.getElem?_eq_some_iff.mp h1
    rw [List.length_range] at h3
    rw [List.getElem_range] at h4
    subst h4 h2
    refine ⟨h3, fun y H'' hy => ?_⟩
    obtain ⟨rfl, rfl⟩ := hy
    exact ⟨F2, w2, .refl, Den.int _⟩
def rng1 : List Val → Option Ix
  | [.d (.int j)] => if -(2 ^ 62) ≤ j ∧ j ≤ 16777216 then some ⟨rgItems 0 j.toNat, []⟩ else none
  | _ => none
def rng2 : List Val → Option Ix
  | [.d (.int i), .d (.int j)] => if (-(2 ^ 62) ≤ i ∧ i < 2 ^ 62 ∧ -(2 ^ 62) ≤ j ∧ j < 2 ^ 62) ∧ j - i ≤ 16777216 then some ⟨rgItems i (j - i).toNat, []⟩ else none
  | _ => none
def iArgs (f : List Val → Option Ix) (as : Sl → M (List Val)) (env : Sl) : M Ix := do
  let vs ← as env
  ofO (f vs)
theorem si_range1 {a : Expr} {as : Sl → M (List Val)} (hg : Gl X "range") (hm : X.mg "range" = none) (h : SA X [a] as) (hs : starEach [a] X.env = [(false, eval a X.env)]) : SI X tg (.Call (.Name "range" p) [a] [] pos) (iArgs rng1 as) :=
  SI.mk (pi_range1 hg hm h hs) fun R rl e q => by
    obtain ⟨vs, mh1, e1, ea⟩ := M.bind_some.mp e
    obtain ⟨e2, e3⟩ := ofO_some.mp ea
    simp only at e2 e3
    subst e3
    refine ⟨_, _, _, _, _, _, rl, e1, fun F1 ρ1 H1 us w1 g1 d1 => ?_⟩
    unfold rng1 at e2
    split at e2
    · split at e2
      · rename_i j hj
        cases e2
        cases d1 with
        | cons d dn =>
          cases dn
          have := den_int d
          subst this
          exact ⟨j, rfl, hj.1, by omega, q _ _ _ _ w1 g1 (itok_range (by rw [sizeLine_eq]; omega))⟩
      · cases e2
    · cases e2
theorem si_range2 {a b : Expr} {as : Sl → M (List Val)} (hg : Gl X "range") (hm : X.mg "range" = none) (h : SA X [a, b] as) (hs : starEach [a, b] X.env = [(false, eval a X.env), (false, eval b X.env)]) (hs2 : starEach [b] X.env = [(false, eval b X.env)]) : SI X tg (.Call (.Name "range" p) [a, b] [] pos) (iArgs rng2 as) :=
  SI.mk (pi_range2 hg hm h hs hs2) fun R rl e q => by
    obtain ⟨vs, mh1, e1, ea⟩ := M.bind_some.mp e
    obtain ⟨e2, e3⟩ := ofO_some.mp ea
    simp only at e2 e3
    subst e3
    refine ⟨_, _, _, _, _, _, rl, e1, fun F1 ρ1 H1 us w1 g1 d1 => ?_⟩
    unfold rng2 at e2
    split at e2
    · split at e2
      · rename_i i j hj
        cases e2
        cases d1 with
        | cons d dn =>
          cases dn with
          | cons d' dn =>
            cases dn
            have := den_int d
            subst this
            have := den_int d'
            subst this
            exact ⟨i, j, rfl, hj.1, q _ _ _ _ w1 g1 (itok_range (by rw [sizeLine_eq]; omega))⟩
      · cases e2
    · cases e2
/-- zip of two lists, of two tuples -/
def zipIt (vs ws : List Val) : Option (List Val) := match asDs vs, asDs ws with
  | some ds, some es => if (ds.zip es).all (fun p => !ixT [p.1, p.2]) then some ((ds.zip es).map fun p => .d (.tuple [p.1, p.2])) else none
  | _, _ => none
def zip2 (mh : List Ob) : List Val → Option Ix
  | [v, w] => match seqT v, seqT w with
    | some vs, some ws => (zipIt vs ws).map fun l => ⟨l, []⟩
    | _, _ => match seqL mh v, seqL mh w with
      | some vs, some ws => (zipIt vs ws).map fun l => ⟨l, guardOf v vs ++ guardOf w ws⟩
      | _, _ => none
  | _ => none
theorem zipIt_ok {K : PySem.W.Frag} {F : Hp} {ρ : List Addr} {us xs : List V} {vs ws l : List Val} (h : zipIt vs ws = some l) (d1 : DenVs K F ρ us vs) (d2 : DenVs K F ρ xs ws) :
    l.length = min us.length xs.length ∧ ∀ (i : Nat) (v : Val), l[i]? = some v → ∃ (x y : V) (a b : Dt), us[i]? = some x ∧ xs[i]? = some y ∧ Den K F x a ∧ Den K F y b ∧ v = Val.d (.tuple [a, b]) ∧ ixT [a, b] = false := by
  unfold zipIt at h
  split at h
  · rename_i ds es e1 e2
    split at h
    rotate_left
    · cases h
    rename_i hnx
    cases h
    have e3 := asDs_eq e1
    have e4 := asDs_eq e2
    subst e3 e4
    refine ⟨by rw [List.length_map, List.length_zip, d1.length, d2.length, List.length_map, List.length_map], fun i v hv => ?_⟩
    rw [List.getElem?_map] at hv
    obtain ⟨p, h1, h2⟩ := Option.map_eq_some_iff.mp hv
    obtain ⟨h3, h4⟩ := List.getElem?_zip_eq_some.mp h1
    obtain ⟨x, h5, h6⟩ := d1.all.get h3
    obtain ⟨y, h7, h8⟩ := d2.all.get h4
    have hnp := List.all_eq_true.mp hnx p (List.mem_of_getElem? h1)
    exact ⟨x, y, p.1, p.2, h5, h7, h6, h8, h2.symm, by simpa using hnp⟩
  · cases h
theorem itok_zipL {K : PySem.W.Frag} {mh : List Ob} {F : Hp} {ρ : List Addr} {H : Hp} {a b : Addr} {v w : Val} {vs ws l : List Val} (wd : Wd K mh F ρ H) (d1 : DenV K F ρ (.ref a) v) (d2 : DenV K F ρ (.ref b) w) (h1 : seqL mh v = some vs) (h2 : seqL mh w = some ws) (h : zipIt vs ws = some l) :
    ItOk K (Itz K a b) ⟨l, guardOf v vs ++ guardOf w ws⟩ F ρ where
  small := by
    obtain ⟨_, us, e, _, dd, z⟩ := seqL_ok wd d1 h1
    obtain ⟨_, xs, _, _, dd2, _⟩ := seqL_ok wd d2 h2
    have := (zipIt_ok h dd dd2).1
    rw [dd.length] at this
    show l.length ≤ _
    omega
  stop := fun {mh2 F2 ρ2 H2} w2 r hp g => by
    obtain ⟨_, us, e, q, dd, z⟩ := seqL_again wd d1 h1 w2 r hp fun p hp => g p (List.mem_append_left _ hp)
    cases e
    obtain ⟨_, xs, e, q2, dd2, z2⟩ := seqL_again wd d2 h2 w2 r hp fun p hp => g p (List.mem_append_right _ hp)
    cases e
    have := (zipIt_ok h dd dd2).1
    exact ⟨us, xs, q, q2, by show us.length ≤ l.length ∨ xs.length ≤ l.length; omega⟩
  go := fun {mh2 F2 ρ2 H2 i x} w2 r hp g hx => by
    obtain ⟨_, us, e, q, dd, z⟩ := seqL_again wd d1 h1 w2 r hp fun p hp => g p (List.mem_append_left _ hp)
    cases e
    obtain ⟨_, xs, e, q2, dd2, z2⟩ := seqL_again wd d2 h2 w2 r hp fun p hp => g p (List.mem_append_right _ hp)
    cases e
    obtain ⟨x1, y1, a1, b1, f1, f2, f3, f4, f5, f6⟩ := (zipIt_ok h dd dd2).2 i x hx
    refine ⟨⟨us, xs, x1, y1, q, q2, f1, f2⟩, fun y H'' hy => ?_⟩
    obtain ⟨T, z1, z2, rfl, nT, rfl, k1, k2⟩ := hy
    have e1 : z1 = x1 := Option.some.inj ((k1 us q).symm.trans f1)
    have e2 : z2 = y1 := Option.some.inj ((k2 xs q2).symm.trans f2)
    subst e1 e2
    obtain ⟨w', g'⟩ := w2.newF (o := .tup [z1, z2]) nT
    refine ⟨_, w', g', ?_⟩
    subst f5
    exact Den.tup (.inl (.inl upd_same)) (by show 2 ≤ sizeLine; decide) (.cons (f3.mono g'.rd) (.cons (f4.mono g'.rd) .nil)) (NoD.not f6)
theorem itok_zipT {K : PySem.W.Frag} {mh : List Ob} {F : Hp} {ρ : List Addr} {H : Hp} {a b : Addr} {v w : Val} {vs ws l : List Val} (wd : Wd K mh F ρ H) (d1 : DenV K F ρ (.ref a) v) (d2 : DenV K F ρ (.ref b) w) (h1 : seqT v = some vs) (h2 : seqT w = some ws) (h : zipIt vs ws = some l) :
    ItOk K (RZ.ItzT K a b) ⟨l, []⟩ F ρ where
  small := by
    obtain ⟨_, us, e, _, dd, z⟩ := seqT_ok wd d1 h1
    obtain ⟨_, xs, _, _, dd2, _⟩ := seqT_ok wd d2 h2
    have := (zipIt_ok h dd dd2).1
    rw [dd.length] at this
    show l.length ≤ _
    omega
  stop := fun {mh2 F2 ρ2 H2} w2 r hp g => by
    obtain ⟨_, us, e, q, dd, z⟩ := seqT_again wd d1 h1 w2 r hp
    cases e
    obtain ⟨_, xs, e, q2, dd2, z2⟩ := seqT_again wd d2 h2 w2 r hp
    cases e
    have := (zipIt_ok h dd dd2).1
    exact ⟨us, xs, q, q2, by show us.length ≤ l.length ∨ xs.length ≤ l.length; omega⟩
  go := fun {mh2 F2 ρ2 H2 i x} w2 r hp g hx => by
    obtain ⟨_, us, e, q, dd, z⟩ := seqT_again wd d1 h1 w2 r hp
    cases e
    obtain ⟨_, xs, e, q2, dd2, z2⟩ := seqT_again wd d2 h2 w2 r hp
    cases e
    obtain ⟨x1, y1, a1, b1, f1, f2, f3, f4, f5, f6⟩ := (zipIt_ok h dd dd2).2 i x hx
    refine ⟨⟨us, xs, x1, y1, q, q2, f1, f2⟩, fun y H'' hy => ?_⟩
    obtain ⟨T, z1, z2, rfl, nT, rfl, k1, k2⟩ := hy
    have e1 : z1 = x1 := Option.some.inj ((k1 us q).symm.trans f1)
    have e2 : z2 = y1 := Option.some.inj ((k2 xs q2).symm.trans f2)
    subst e1 e2
    obtain ⟨w', g'⟩ := w2.newF (o := .tup [z1, z2]) nT
    refine ⟨_, w', g', ?_⟩
    subst f5
    exact Den.tup (.inl (.inl upd_same)) (by show 2 ≤ sizeLine; decide) (.cons (f3.mono g'.rd) (.cons (f4.mono g'.rd) .nil)) (NoD.not f6)
def iArgsH (f : List Ob → List Val → Option Ix) (as : Sl → M (List Val)) (env : Sl) : M Ix := do
  let vs ← as env
  rdM fun mh => f mh vs
theorem si_zip {a b : Expr} {as : Sl → M (List Val)} {elts : List Expr} {kk : Nat} {tpos : Pos} (hg : Gl X "zip") (hm : X.mg "zip" = none) (h : SA X [a, b] as) (hs : starEach [a, b] X.env = (false, eval a X.env) :: starEach [b] X.env) (hpl : (backTo pos (starEach [b] X.env)).any (·.1) = false) :
    SI X (.Tuple elts kk tpos) (.Call (.Name "zip" p) [a, b] [] pos) (iArgsH zip2 as) :=
  SI.mk (RZ.pi_zipA hg hm h hs hpl) fun R rl e q => by
    obtain ⟨vs, mh1, e1, ea⟩ := M.bind_some.mp e
    obtain ⟨e2, e3⟩ := rdM_some.mp ea
    simp only at e2 e3
    subst e3
    refine ⟨_, _, _, _, _, _, rl, e1, fun F1 ρ1 H1 us w1 g1 d1 => ?_⟩
    unfold zip2 at e2
    split at e2
    · rename_i v w
      cases d1 with
      | cons dv dn =>
        cases dn with
        | cons dw dn =>
          cases dn
          split at e2
          · rename_i vs ws h1 h2
            obtain ⟨l, h3, h4⟩ := Option.map_eq_some_iff.mp e2
            subst h4
            obtain ⟨a, us, rfl, qa, _, _⟩ := seqT_ok w1 dv h1
            obtain ⟨b, xs, rfl, qb, _, _⟩ := seqT_ok w1 dw h2
            exact ⟨a, b, us, xs, rfl, .inr ⟨qa, qb, q _ _ _ _ w1 g1 (itok_zipT w1 dv dw h1 h2 h3)⟩⟩
          · split at e2
            · rename_i vs ws h1 h2
              obtain ⟨l, h3, h4⟩ := Option.map_eq_some_iff.mp e2
              subst h4
              obtain ⟨a, us, rfl, qa, _, _⟩ := seqL_ok w1 dv h1
              obtain ⟨b, xs, rfl, qb, _, _⟩ := seqL_ok w1 dw h2
              exact ⟨a, b, us, xs, rfl, .inl ⟨qa, qb, q _ _ _ _ w1 g1 (itok_zipL w1 dv dw h1 h2 h3)⟩⟩
            · cases e2
    · cases e2
end
end Pv

/-! PZ: a walk over three tuples at once -/
namespace Pv
open PySem PySem.Spec PyProof.Rows L2

/-- the items of three tuples, in new triples -/
def Itz3 (K : PySem.W.Frag) (a b c : Addr) : It :=
  ⟨fun i H => ∃ (xs ys zs : List V) (x y z : V), SqT K H a xs ∧ SqT K H b ys ∧ SqT K H c zs ∧ xs[i]? = some x ∧ ys[i]? = some y ∧ zs[i]? = some z,
    fun i H v H' => ∃ T x y z, v = .ref T ∧ H T = none ∧ H' = upd H T (.tup [x, y, z]) ∧ (∀ xs, SqT K H a xs → xs[i]? = some x) ∧ (∀ ys, SqT K H b ys → ys[i]? = some y) ∧ ∀ zs, SqT K H c zs → zs[i]? = some z,
    fun i H => ∃ xs ys zs : List V, SqT K H a xs ∧ SqT K H b ys ∧ SqT K H c zs ∧ i ≤ xs.length ∧ i ≤ ys.length ∧ i ≤ zs.length ∧ (i = xs.length ∨ i = ys.length ∨ i = zs.length)⟩
theorem turn_zip3 {P : Program} {w : World} {K : PySem.W.Frag} {elts : List Expr} {kk : Nat} {tpos : Pos} {a b c z TI TO i1 i2 i3 : Addr} (S : ZipSep3 z TI TO i1 i2 i3 [i1, a] [i2, b] [i3, c]) (n1 : a ≠ i1) (n2 : b ≠ i2) (n3 : c ≠ i3) :
    Turn P w K (.Tuple elts kk tpos) (Itz3 K a b c) [z, TI, TO, i1, i2, i3] z (fun i h => IsZip h z TI TO .none ∧ IsTupOf3 h TI (.ref i1) (.ref i2) (.ref i3) ∧ (∃ x y u, IsTupOf3 h TO x y u) ∧ h.IsTupleIter i1 a i ∧ h.IsTupleIter i2 b i ∧ h.IsTupleIter i3 c i) where
  mem := by simp
  obj := fun i h st d hd => by
    obtain ⟨hz, hTI, ⟨x, y, u, hTO⟩, ⟨o1, e1, _, d1⟩, ⟨o2, e2, _, d2⟩, ⟨o3, e3, _, d3⟩⟩ := st
    have e' : d = z ∨ d = TI ∨ d = TO ∨ d = i1 ∨ d = i2 ∨ d = i3 := by simpa using hd
    rcases e' with q | q | q | q | q | q <;> rw [q]
    · exact ⟨_, hz, fun v q => nomatch q⟩
    · exact ⟨_, hTI, fun v q => nomatch q⟩
    · exact ⟨_, hTO, fun v q => nomatch q⟩
    · exact ⟨o1, e1, fun v q => by rw [d1] at q; cases q⟩
    · exact ⟨o2, e2, fun v q => by rw [d2] at q; cases q⟩
    · exact ⟨o3, e3, fun v q => by rw [d3] at q; cases q⟩
  keep := fun i h h' st k => by
    obtain ⟨hz, hTI, ⟨x, y, u, hTO⟩, h1, h2, h3⟩ := st
    exact ⟨k z (by simp) _ hz, k TI (by simp) _ hTI, ⟨x, y, u, k TO (by simp) _ hTO⟩, h1.at fun o q => k i1 (by simp) o q, h2.at fun o q => k i2 (by simp) o q, h3.at fun o q => k i3 (by simp) o q⟩
  item := by
    intro X hP hw hK hc i pins s σ H E I hf st hg
    subst hP hw hK
    obtain ⟨hz, hTI, ⟨x0, y0, u0, hTO⟩, h1, h2, h3⟩ := st
    obtain ⟨xs, ys, zs, x, y, q, hqx, hqy, hqz, hx, hy, hzz⟩ := hg
    obtain ⟨its, rv, p, _⟩ := I.tuple hqx
    obtain ⟨its2, rv2, p2, _⟩ := I.tuple hqy
    obtain ⟨its3, rv3, p3, _⟩ := I.tuple hqz
    obtain ⟨u, hu, ru⟩ := rv.get hx
    obtain ⟨u2, hu2, ru2⟩ := rv2.get hy
    obtain ⟨u3, hu3, ru3⟩ := rv3.get hzz
    have hh := I.ok.hd hc
    have lt1 : i < its.toArray.size := by simpa using (List.getElem?_eq_some_iff.mp hu).1
    have lt2 : i < its2.toArray.size := by simpa using (List.getElem?_eq_some_iff.mp hu2).1
    have lt3 : i < its3.toArray.size := by simpa using (List.getElem?_eq_some_iff.mp hu3).1
    have hzl : z < s.heap.objs.size := Heap.lt_size hz
    refine wpAny_pyNext_zipD3_item S (Draws.tuple (prog := X.prog) (w := X.w) (A := X.A.in1) hh i1 a n1 its.toArray) (Draws.tuple (prog := X.prog) (w := X.w) (A := X.A.in1) hh i2 b n2 its2.toArray) (Draws.tuple (prog := X.prog) (w := X.w) (A := X.A.in1) hh i3 c n3 its3.toArray) hz hTI hTO ⟨h1, p⟩ ⟨h2, p2⟩ ⟨h3, p3⟩ lt1 lt2 lt3 fun v1 v2 v3 h' tk e1 e2 e3 z' TO' s1 s2 s3 hT hsz hk => ?_
    have w1 : v1 = u := Option.some.inj (e1.symm.trans (by simpa using hu))
    have w2 : v2 = u2 := Option.some.inj (e2.symm.trans (by simpa using hu2))
    have w3 : v3 = u3 := Option.some.inj (e3.symm.trans (by simpa using hu3))
    subst w1 w2 w3
    refine ⟨_, rfl, wpAny_letOwnedTupleGo_zip (s := { s with heap := h', toks := tk }) z' fun h'' z'' sb => ?_⟩
    have hT2 : h''.get? s.heap.objs.size = some { cls := .type "tuple", data := .seq #[v1, v2, v3] } := (sb.2 _ (Nat.ne_of_gt hzl)).trans hT
    have new : ObjOk X.prog X.w (upd H s.heap.objs.size (.tup [x, y, q])) h'' s.heap.objs.size (.tup [x, y, q]) :=
      ⟨by show 3 ≤ sizeLine; decide, [v1, v2, v3], .cons ru (.cons ru2 (.cons ru3 .nil)), ⟨_, hT2, rfl, _, rfl⟩⟩
    have far : ∀ d o, d ∉ [z, TI, TO, i1, i2, i3] → s.heap.get? d = some o → h''.get? d = some o := fun d o hb e =>
      (sb.2 d (fun q' => hb (by simp [q']))).trans (hk d o (fun q' => hb (by simp [q'])) (fun q' => hb (by simp [q'])) (fun q' => hb (by simp [q'])) (fun q' => hb (by simp [q'])) (fun q' => hb (by simp [q'])) e)
    have I1 : Inv X pins σ (upd H s.heap.objs.size (.tup [x, y, q])) { s with heap := h'', toks := tk } :=
      I.turnedNew (t' := tk) (ch := [z, TI, TO, i1, i2, i3]) far hf (Nat.le_refl _) new
    refine ⟨.ref s.heap.objs.size, _, I1, rfl, ⟨_, x, y, q, rfl, I.hok.fresh (Nat.le_refl _), rfl, fun l hl => by rw [I.tuple_inj hl hqx]; exact hx, fun l hl => by rw [I.tuple_inj hl hqy]; exact hy, fun l hl => by rw [I.tuple_inj hl hqz]; exact hzz⟩, ⟨z'', ?_, ⟨v1, v2, v3, ?_⟩, ?_, ?_, ?_⟩, fun d hdm => ?_⟩
    · exact (sb.2 _ S.TIz).trans (hk _ _ S.TIz S.TITO S.TIi1 S.TIi2 S.TIi3 hTI)
    · exact (sb.2 _ S.TOz).trans TO'
    · exact s1.1.at fun o e => (sb.2 _ S.zi1.symm).trans e
    · exact s2.1.at fun o e => (sb.2 _ S.zi2.symm).trans e
    · exact s3.1.at fun o e => (sb.2 _ S.zi3.symm).trans e
    · have hlt : d < s.heap.objs.size := by
        have e' : d = z ∨ d = TI ∨ d = TO ∨ d = i1 ∨ d = i2 ∨ d = i3 := by simpa using hdm
        rcases e' with e | e | e | e | e | e <;> rw [e]
        · exact hzl
        · exact Heap.lt_size hTI
        · exact Heap.lt_size hTO
        · obtain ⟨_, e1, _⟩ := h1; exact Heap.lt_size e1
        · obtain ⟨_, e1, _⟩ := h2; exact Heap.lt_size e1
        · obtain ⟨_, e1, _⟩ := h3; exact Heap.lt_size e1
      rw [upd_ne (Nat.ne_of_lt hlt)]
      exact (hf d hdm).1
  done := by
    intro X hP hw hK hc i pins s σ H E I hf st hg
    subst hP hw hK
    obtain ⟨hz, hTI, ⟨x0, y0, u0, hTO⟩, h1, h2, h3⟩ := st
    obtain ⟨xs, ys, zs, hqx, hqy, hqz, l1, l2, l3, hend⟩ := hg
    obtain ⟨its, rv, p, _⟩ := I.tuple hqx
    obtain ⟨its2, rv2, p2, _⟩ := I.tuple hqy
    obtain ⟨its3, rv3, p3, _⟩ := I.tuple hqz
    have m1 : its.toArray.size = xs.length := by have := rv.length; simp; omega
    have m2 : its2.toArray.size = ys.length := by have := rv2.length; simp; omega
    have m3 : its3.toArray.size = zs.length := by have := rv3.length; simp; omega
    have hh := I.ok.hd hc
    exact wpAny_pyNext_zipD3_end S (Draws.tuple (prog := X.prog) (w := X.w) (A := X.A.in1) hh i1 a n1 its.toArray) (Draws.tuple (prog := X.prog) (w := X.w) (A := X.A.in1) hh i2 b n2 its2.toArray) (Draws.tuple (prog := X.prog) (w := X.w) (A := X.A.in1) hh i3 c n3 its3.toArray) hz hTI hTO ⟨h1, p⟩ ⟨h2, p2⟩ ⟨h3, p3⟩ (by omega) (by omega) (by omega) (by omega) fun h' tk hk => ⟨rfl, I.turnedL (t' := tk) (ch := [z, TI, TO, i1, i2, i3]) (fun d o hb q =>
      hk d o (fun q' => hb (by simp [q'])) (fun q' => hb (by simp [q'])) (fun q' => hb (by simp [q'])) (fun q' => hb (by simp [q'])) (fun q' => hb (by simp [q'])) q) hf⟩
  self := fun A i s Q E st h => wpAny_pyIter_zip st.1 h
theorem sep3 (N a b c : Nat) (la : a < N) (lb : b < N) (lc : c < N) : ZipSep3 (N + 5) (N + 3) (N + 4) N (N + 1) (N + 2) [N, a] [N + 1, b] [N + 2, c] := by
  have ne : ∀ {x y : Nat}, x < y ∨ y < x → x ≠ y := fun h => by omega
  have nm : ∀ {x y z : Nat}, (x < y ∨ y < x) → (x < z ∨ z < x) → x ∉ [y, z] := fun h1 h2 e => by
    rcases List.mem_cons.mp e with e | e
    · omega
    · have := List.mem_singleton.mp e
      omega
  exact { TIz := ne (by omega), TOz := ne (by omega), TITO := ne (by omega), TIi1 := ne (by omega), mem1 := List.mem_cons_self, zf1 := nm (by omega) (by omega), Tf1 := nm (by omega) (by omega),
          TIi2 := ne (by omega), mem2 := List.mem_cons_self, zf2 := nm (by omega) (by omega), Tf2 := nm (by omega) (by omega), TIi3 := ne (by omega), mem3 := List.mem_cons_self, zf3 := nm (by omega) (by omega), Tf3 := nm (by omega) (by omega),
          sep1_2 := nm (by omega) (by omega), sep1_3 := nm (by omega) (by omega), sep2_1 := nm (by omega) (by omega), sep2_3 := nm (by omega) (by omega), sep3_1 := nm (by omega) (by omega), sep3_2 := nm (by omega) (by omega) }
def iZip3 (K : PySem.W.Frag) (ta : TA) : TI := fun σ H R => ta σ H fun vs H1 => ∃ a b c xs ys zs, vs = [.ref a, .ref b, .ref c] ∧ SqT K H1 a xs ∧ SqT K H1 b ys ∧ SqT K H1 c zs ∧ R (Itz3 K a b c) H1
theorem pi_zip3 {X : Cx} {e e2 e3 : Expr} {ta : TA} {p pos tpos : Pos} {elts : List Expr} {kk : Nat} (hg : Gl X "zip") (hm : X.mg "zip" = none) (ha : PA X [e, e2, e3] ta)
    (hs : starEach [e, e2, e3] X.env = (false, eval e X.env) :: starEach [e2, e3] X.env) (hpl : (backTo pos (starEach [e2, e3] X.env)).any (·.1) = false) :
    PI X (.Tuple elts kk tpos) (.Call (.Name "zip" p) [e, e2, e3] [] pos) (iZip3 X.K ta) := by
  refine ⟨fun pins s σ H R I h => ?_⟩
  refine Call_ (ld_blt I hg hm PyProof.Rows.boot_zip (PyProof.Rows.callWith_type1 (thn (ha.run pos pins s σ H _ I h) fun us s1 ⟨vs, H1, I1, r1, q1⟩ => ?_) hs hpl))
  obtain ⟨a, b, c, xs, ys, zs, ex, hqx, hqy, hqz, q⟩ := q1
  subst ex
  cases r1 with
  | cons r rr =>
    cases rr with
    | cons r' rr =>
      cases rr with
      | cons r'' rr =>
        cases rr
        cases r
        cases r'
        cases r''
        obtain ⟨its, rv, p1, _⟩ := I1.tuple hqx
        obtain ⟨its2, rv2, p2, _⟩ := I1.tuple hqy
        obtain ⟨its3, rv3, p3, _⟩ := I1.tuple hqz
        have la : a < s1.heap.objs.size := by obtain ⟨o1, ho1, _⟩ := id p1; exact Heap.lt_size ho1
        have lb : b < s1.heap.objs.size := by obtain ⟨o1, ho1, _⟩ := id p2; exact Heap.lt_size ho1
        have lc : c < s1.heap.objs.size := by obtain ⟨o1, ho1, _⟩ := id p3; exact Heap.lt_size ho1
        refine zip_begins3 (begins_tuple a its.toArray) (begins_tuple b its2.toArray) (begins_tuple c its3.toArray) p1 p2 p3 fun h' hz hTI hTO g1 g2 g3 hsz hk => wpAny_pyIter_zip hz ?_
        have I2 : Inv X pins σ H1 { s1 with heap := h' } := I1.kept (t' := s1.toks) hk
        generalize hN : s1.heap.objs.size = N at *
        have S := sep3 N a b c la lb lc
        refine ⟨N + 5, [N + 5, N + 3, N + 4, N, N + 1, N + 2], _, _, H1, rfl, I2, turn_zip3 S (Nat.ne_of_lt la) (Nat.ne_of_lt (Nat.lt_succ_of_lt lb)) (Nat.ne_of_lt (Nat.lt_succ_of_lt (Nat.lt_succ_of_lt lc))), ⟨hz, hTI, ⟨_, _, _, hTO⟩, ⟨_, g1, rfl, rfl⟩, ⟨_, g2, rfl, rfl⟩, ⟨_, g3, rfl, rfl⟩⟩, fun d hdm => ?_, q⟩
        have hle : N ≤ d := by
          have e' : d = N + 5 ∨ d = N + 3 ∨ d = N + 4 ∨ d = N ∨ d = N + 1 ∨ d = N + 2 := by simpa using hdm
          rcases e' with e | e | e | e | e | e <;> rw [e] <;> first | exact Nat.le_refl _ | exact Nat.le_add_right _ _
        have hle2 : s1.heap.objs.size ≤ d := by rw [hN]; exact hle
        exact I1.fpOk hle2 (I1.hok.fresh hle2)
def zip3 : List Val → Option Ix
  | [.d (.tuple xs), .d (.tuple ys), .d (.tuple zs)] => if (xs.zip (ys.zip zs)).all (fun p => !ixT [p.1, p.2.1, p.2.2]) then some ⟨(xs.zip (ys.zip zs)).map fun p => .d (.tuple [p.1, p.2.1, p.2.2]), []⟩ else none
  | _ => none
theorem itok_zip3 {K : PySem.W.Frag} {mh : List Ob} {F : Hp} {ρ : List Addr} {H : Hp} {a b c : Addr} {xs ys zs : List Dt} (wd : Wd K mh F ρ H) (d1 : DenV K F ρ (.ref a) (.d (.tuple xs))) (d2 : DenV K F ρ (.ref b) (.d (.tuple ys))) (d3 : DenV K F ρ (.ref c) (.d (.tuple zs))) (hnx : (xs.zip (ys.zip zs)).all (fun p => !ixT [p.1, p.2.1, p.2.2]) = true) :
    ItOk K (Itz3 K a b c) ⟨(xs.zip (ys.zip zs)).map fun p => .d (.tuple [p.1, p.2.1, p.2.2]), []⟩ F ρ where
  small := by
    cases d1 with
    | tup q z r =>
      show (List.map _ _).length ≤ _
      rw [List.length_map, List.length_zip]
      omega
  stop := fun {mh2 F2 ρ2 H2} w2 r hp g => by
    cases d1 with
    | tup q z r1 =>
      cases d2 with
      | tup q2 z2 r2 =>
        cases d3 with
        | tup q3 z3 r3 =>
          have e1 := r1.length
          have e2 := r2.length
          have e3 := r3.length
          refine ⟨_, _, _, w2.rle.sqT ((Rle.same r).sqT q), w2.rle.sqT ((Rle.same r).sqT q2), w2.rle.sqT ((Rle.same r).sqT q3), ?_⟩
          show (List.map _ _).length ≤ _ ∧ (List.map _ _).length ≤ _ ∧ (List.map _ _).length ≤ _ ∧ ((List.map _ _).length = _ ∨ (List.map _ _).length = _ ∨ (List.map _ _).length = _)
          rw [List.length_map, List.length_zip, List.length_zip]
          omega
  go := fun {mh2 F2 ρ2 H2 i x} w2 r hp g hx => by
    cases d1 with
    | tup q z r1 =>
      cases d2 with
      | tup q2 z2 r2 =>
        cases d3 with
        | tup q3 z3 r3 =>
          have hx : ((xs.zip (ys.zip zs)).map fun p => Val.d (.tuple [p.1, p.2.1, p.2.2]))[i]? = some x := hx
          rw [List.getElem?_map] at hx
          obtain ⟨p, h1, h2⟩ := Option.map_eq_some_iff.mp hx
          obtain ⟨h3, h4⟩ := List.getElem?_zip_eq_some.mp h1
          obtain ⟨h5, h6⟩ := List.getElem?_zip_eq_some.mp h4
          obtain ⟨x1, k1, l1⟩ := r1.get h3
          obtain ⟨x2, k2, l2⟩ := r2.get h5
          obtain ⟨x3, k3, l3⟩ := r3.get h6
          have s1 := w2.rle.sqT ((Rle.same r).sqT q)
          have s2 := w2.rle.sqT ((Rle.same r).sqT q2)
          have s3 := w2.rle.sqT ((Rle.same r).sqT q3)
          refine ⟨⟨_, _, _, x1, x2, x3, s1, s2, s3, k1, k2, k3⟩, fun y H'' hy => ?_⟩
          obtain ⟨T, y1, y2, y3, rfl, nT, rfl, m1, m2, m3⟩ := hy
          have e1 : y1 = x1 := Option.some.inj ((m1 _ s1).symm.trans k1)
          have e2 : y2 = x2 := Option.some.inj ((m2 _ s2).symm.trans k2)
          have e3 : y3 = x3 := Option.some.inj ((m3 _ s3).symm.trans k3)
          subst e1 e2 e3
          obtain ⟨w', g'⟩ := w2.newF (o := .tup [y1, y2, y3]) nT
          refine ⟨_, w', g', ?_⟩
          subst h2
          exact Den.tup (.inl (.inl upd_same)) (by show 3 ≤ sizeLine; decide) (.cons ((l1.mono (Rle.same r)).mono g'.rd) (.cons ((l2.mono (Rle.same r)).mono g'.rd) (.cons ((l3.mono (Rle.same r)).mono g'.rd) .nil))) (NoD.not (by simpa using List.all_eq_true.mp hnx p (List.mem_of_getElem? h1)))
theorem si_zip3 {X : Cx} {a b c : Expr} {as : Sl → M (List Val)} {p pos tpos : Pos} {elts : List Expr} {kk : Nat} (hg : Gl X "zip") (hm : X.mg "zip" = none) (h : SA X [a, b, c] as) (hs : starEach [a, b, c] X.env = (false, eval a X.env) :: starEach [b, c] X.env) (hpl : (backTo pos (starEach [b, c] X.env)).any (·.1) = false) :
    SI X (.Tuple elts kk tpos) (.Call (.Name "zip" p) [a, b, c] [] pos) (iArgs zip3 as) :=
  SI.mk (pi_zip3 hg hm h hs hpl) fun R rl e q => by
    obtain ⟨vs, mh1, e1, ea⟩ := M.bind_some.mp e
    obtain ⟨e2, e3⟩ := ofO_some.mp ea
    simp only at e2 e3
    subst e3
    refine ⟨_, _, _, _, _, _, rl, e1, fun F1 ρ1 H1 us w1 g1 d1 => ?_⟩
    unfold zip3 at e2
    split at e2
    · split at e2
      rotate_left
      · cases e2
      rename_i hnx
      cases e2
      cases d1 with
      | cons dv dn =>
        cases dn with
        | cons dw dn =>
          cases dn with
          | cons du dn =>
            cases dn
            obtain ⟨a, us, rfl, qa, _, _⟩ := seqT_ok w1 dv rfl
            obtain ⟨b, vs, rfl, qb, _, _⟩ := seqT_ok w1 dw rfl
            obtain ⟨c, ws, rfl, qc, _, _⟩ := seqT_ok w1 du rfl
            exact ⟨a, b, c, _, _, _, rfl, qa, qb, qc, q _ _ _ _ w1 g1 (itok_zip3 w1 dv dw du hnx)⟩
    · cases e2
end Pv

/-! PE: a walk over a tuple with the numbers of its items -/
namespace Pv
open PySem PySem.Spec PyProof.Rows L2
open Sem (wp)

theorem meets_enum_new1 {v : Value} {o : Obj} {H : Heap → Prop} (B : Begins v o H) :
    Meets (Builtin.«enumerate.__new__» ⟨[.type "enumerate", v], []⟩) (fun _ R s => H s.heap ∧
      R (.ok (.ret (.ref (s.heap.push o).objs.size))) { s with heap := (s.heap.push o).push { cls := .type "enumerate", data := .fields #[.none, .bool false, .ref s.heap.objs.size, rawInt 0, .none, .none] } }) :=
  .of_wp fun prog w A R s h => by
    obtain ⟨hp, g, d, tk, os⟩ := s; obtain ⟨h1, h⟩ := h
    have hsub := sub_enumerate
    have q1 : ∀ {A' : Around} {E : Value → Shared → Prop} {Q : Value → Shared → Prop}, Q (.ref hp.objs.size) ⟨hp.push o, g, d, tk, os⟩ → wpAny (model prog w) A' (pyIter v) Q E ⟨hp, g, d, tk, os⟩ :=
      fun q => B.iter prog w _ _ ⟨hp, g, d, tk, os⟩ _ h1 q
    wp_walk using q1
    refine wpAny_stack_any fun st => wpAny_pure ?_
    split
    · rename_i c _ _ _ _ _
      cases (c == Value.type "enumerate")
      · wp_walk using q1
        exact ⟨_, rfl, h⟩
      · wp_walk using q1
        exact ⟨_, rfl, h⟩
    · wp_walk using q1
      exact ⟨_, rfl, h⟩
section
variable {prog : Program} {w : World} {A : Around} {E : Value → Shared → Prop} {s : Shared}
theorem enum_begins1 {v : Value} {o : Obj} {H : Heap → Prop} {Q : Value → Shared → Prop} (B : Begins v o H) (h1 : H s.heap)
    (h : ∀ h', IsEnum h' (s.heap.objs.size + 1) s.heap.objs.size 0 .none → h'.get? s.heap.objs.size = some o → h'.objs.size = s.heap.objs.size + 2 →
      (∀ b o, s.heap.get? b = some o → h'.get? b = some o) → Q (.ref (s.heap.objs.size + 1)) { s with heap := h' }) :
    wpAny (model prog w) A (call (.type "enumerate") [v]) Q E s := by
  refine callType_new F.called_enumerate (by decide) (F.typeCall_enumerate_1 _) (F.newCall_enumerate_1 _) (fun obj => F.args_object_init_2 obj _) F.entry_enumerate_new
    (meets_enum_new1 B) ⟨h1, ?_⟩
  have hz : (s.heap.push o).objs.size = s.heap.objs.size + 1 := Heap.size_push ..
  show _ ∧ _
  rw [hz]
  have he : IsEnum ((s.heap.push o).push { cls := .type "enumerate", data := .fields #[.none, .bool false, .ref s.heap.objs.size, rawInt 0, .none, .none] }) (s.heap.objs.size + 1) s.heap.objs.size 0 .none := by
    have := Heap.get?_push_size (s.heap.push o) (o := { cls := .type "enumerate", data := .fields #[.none, .bool false, .ref s.heap.objs.size, rawInt 0, .none, .none] }) rfl
    rw [hz] at this; exact this
  refine ⟨⟨_, he, rfl⟩, h _ he (Heap.get?_push_of_some _ (Heap.get?_push_size _ B.free)) (by rw [Heap.size_push, hz]) fun b o x => Heap.get?_push_of_some _ (Heap.get?_push_of_some _ x)⟩
end
def IteT (K : PySem.W.Frag) (a : Addr) : It :=
  ⟨fun i H => ∃ (xs : List V) (x : V), SqT K H a xs ∧ xs[i]? = some x, fun i H v H' => ∃ T x, v = .ref T ∧ H T = none ∧ H' = upd H T (.tup [.int (i : Nat), x]) ∧ ∀ xs, SqT K H a xs → xs[i]? = some x, fun i H => ∃ xs : List V, SqT K H a xs ∧ xs.length = i⟩
theorem turn_enumT {P : Program} {w : World} {K : PySem.W.Frag} {elts : List Expr} {kk : Nat} {tpos : Pos} (a e it : Addr) (n1 : a ≠ it) (n2 : e ≠ a) :
    Turn P w K (.Tuple elts kk tpos) (IteT K a) [e, it] e (fun i h => (∃ old, IsEnum h e it ((i : Nat) : Int) old) ∧ h.IsTupleIter it a i ∧ e ≠ it) where
  mem := by simp
  obj := fun i h st b hb => by
    obtain ⟨⟨old, he⟩, ⟨o, ho, hc, hd⟩, _⟩ := st
    have e' : b = e ∨ b = it := by simpa using hb
    rcases e' with z | z
    · rw [z]; exact ⟨_, he, fun v q => nomatch q⟩
    · rw [z]; exact ⟨o, ho, fun v q => by rw [hd] at q; cases q⟩
  keep := fun i h h' st k => let ⟨⟨old, he⟩, hi, hne⟩ := st; ⟨⟨old, k e (by simp) _ he⟩, hi.at fun o q => k it (by simp) o q, hne⟩
  item := by
    intro X hP hw hK hc i pins s σ H E I hf st hg
    subst hP hw hK
    obtain ⟨⟨old, he⟩, hit, hne⟩ := st
    obtain ⟨xs, x, hq, hx⟩ := hg
    obtain ⟨its, rv, p, hz⟩ := I.tuple hq
    obtain ⟨u, hu, ru⟩ := rv.get hx
    have hel : e < s.heap.objs.size := Heap.lt_size he
    have hil : it < s.heap.objs.size := by obtain ⟨_, q, _⟩ := hit; exact Heap.lt_size q
    have lt1 : i < its.toArray.size := by simpa using (List.getElem?_eq_some_iff.mp hu).1
    have hef : e ∉ [it, a] := by
      intro z
      rcases List.mem_cons.mp z with z | z
      · exact hne z
      · exact n2 (List.mem_singleton.mp z)
    refine wpAny_pyNext_enum_itemD (Draws.tuple (prog := X.prog) (w := X.w) (A := X.A.in1) (I.ok.hd hc) it a n1 its.toArray) he ⟨hit, p⟩ lt1 hne hef fun v h' tk hPx ho hst' hT hsz hk => ?_
    obtain ⟨hit', p'⟩ := hst'
    have w1 : v = u := Option.some.inj (hPx.symm.trans (by simpa using hu))
    subst w1
    refine ⟨_, rfl, wpAny_letOwnedTupleGo_enum (s := { s with heap := h', toks := tk + 1 }) ho fun h'' he' sb => ?_⟩
    have hT2 : h''.get? s.heap.objs.size = some { cls := .type "tuple", data := .seq #[.int i tk, v] } := (sb.2 _ (Nat.ne_of_gt hel)).trans hT
    have new : ObjOk X.prog X.w (upd H s.heap.objs.size (.tup [.int (i : Nat), x])) h'' s.heap.objs.size (.tup [.int (i : Nat), x]) :=
      ⟨by show 2 ≤ sizeLine; decide, [.int i tk, v], .cons ⟨_, rfl⟩ (.cons ru .nil), ⟨_, hT2, rfl, _, rfl⟩⟩
    have I1 : Inv X pins σ (upd H s.heap.objs.size (.tup [.int (i : Nat), x])) { s with heap := h'', toks := tk + 1 } :=
      I.turnedNew (ch := [e, it]) (fun b ob hb q => (sb.2 b (fun z => hb (by simp [z]))).trans (hk b ob (fun z => hb (by simp [z])) (fun z => hb (by simp [z])) q)) hf (Nat.le_refl _) new
    refine ⟨.ref s.heap.objs.size, _, I1, rfl, ⟨_, x, rfl, I.hok.fresh (Nat.le_refl _), rfl, fun ys hy => by rw [I.tuple_inj hy hq]; exact hx⟩, ⟨⟨v, ?_⟩, hit'.at fun o q => (sb.2 it (Ne.symm hne)).trans q, hne⟩, fun b hb => ?_⟩
    · have e1 : ((i + 1 : Nat) : Int) = (i : Int) + 1 := by omega
      rw [e1]; exact he'
    · have hb' : b < s.heap.objs.size := by
        have e' : b = e ∨ b = it := by simpa using hb
        rcases e' with z | z
        · rw [z]; exact hel
        · rw [z]; exact hil
      rw [upd_ne (Nat.ne_of_lt hb')]
      exact (hf b hb).1
  done := by
    intro X hP hw hK hc i pins s σ H E I hf st hg
    subst hP hw hK
    obtain ⟨⟨old, he⟩, hit, hne⟩ := st
    obtain ⟨xs, hq, hx⟩ := hg
    obtain ⟨its, rv, p, hz⟩ := I.tuple hq
    obtain ⟨f0, f1, f2, f3, f4, f5⟩ := hf it (by simp)
    have hl := rv.length
    have hit2 : s.heap.IsTupleIter it a its.toArray.size := by
      have : its.toArray.size = i := by simp; omega
      rw [this]; exact hit
    exact wpAny_pyNext_enum_endD (Draws.tuple (prog := X.prog) (w := X.w) (A := X.A.in1) (I.ok.hd hc) it a n1 its.toArray) he ⟨hit2, p⟩ fun h' eb => ⟨rfl, I.turned (t' := s.toks) (fun b o hb q => eb b o hb q) f0 f1 f3 f4 f5⟩
  self := fun A i s Q E st h => let ⟨⟨_, he⟩, _⟩ := st; wpAny_pyIter_enum he h
def iEnumT (K : PySem.W.Frag) (ta : TA) : TI := fun σ H R => ta σ H fun vs H1 => ∃ a, vs = [.ref a] ∧ ((∃ xs, SqT K H1 a xs ∧ R (IteT K a) H1) ∨ ∃ xs, SqL K H1 a xs ∧ R (Ite K a) H1)
theorem pi_enumT {X : Cx} {e : Expr} {ta : TA} {p pos tpos : Pos} {elts : List Expr} {kk : Nat} (hg : Gl X "enumerate") (hm : X.mg "enumerate" = none) (ha : PA X [e] ta) (hs : starEach [e] X.env = (false, eval e X.env) :: starEach [] X.env) :
    PI X (.Tuple elts kk tpos) (.Call (.Name "enumerate" p) [e] [] pos) (iEnumT X.K ta) := by
  refine ⟨fun pins s σ H R I h => ?_⟩
  refine Call_ (ld_blt I hg hm boot_enumerate (PyProof.Rows.callWith_type1 (thn (ha.run pos pins s σ H _ I h) fun us s1 ⟨vs, H1, I1, r1, q1⟩ => ?_) hs rfl))
  obtain ⟨a, ex, q1⟩ := q1
  subst ex
  cases r1 with
  | cons r rr =>
    cases rr
    cases r
    rcases q1 with ⟨xs, hq, q⟩ | ⟨xs, hq, q⟩
    · obtain ⟨its, rv, p', hz⟩ := I1.tuple hq
      have la : a < s1.heap.objs.size := by obtain ⟨o1, ho1, _⟩ := id p'; exact Heap.lt_size ho1
      refine enum_begins1 (begins_tuple a its.toArray) p' fun h' he g1 hsz hk => wpAny_pyIter_enum he ?_
      have I2 : Inv X pins σ H1 { s1 with heap := h' } := I1.kept (t' := s1.toks) hk
      refine ⟨s1.heap.objs.size + 1, [s1.heap.objs.size + 1, s1.heap.objs.size], _, _, H1, rfl, I2, turn_enumT a (s1.heap.objs.size + 1) s1.heap.objs.size (Nat.ne_of_lt la) (Nat.ne_of_gt (Nat.lt_succ_of_lt la)), ⟨⟨.none, he⟩, ⟨_, g1, rfl, rfl⟩, Nat.succ_ne_self _⟩, fun b hb => ?_, q⟩
      have e' : b = s1.heap.objs.size + 1 ∨ b = s1.heap.objs.size := by simpa using hb
      have hle : s1.heap.objs.size ≤ b := by
        rcases e' with z | z
        · rw [z]; exact Nat.le_add_right _ _
        · rw [z]; exact Nat.le_refl _
      exact I1.fpOk hle (I1.hok.fresh hle)
    · obtain ⟨its, rv, p', hz⟩ := I1.list hq
      refine enum_begins1 (begins_list a its.toArray) p'.isList fun h' he g1 hsz hk => wpAny_pyIter_enum he ?_
      have I2 : Inv X pins σ H1 { s1 with heap := h' } := I1.kept (t' := s1.toks) hk
      refine ⟨s1.heap.objs.size + 1, [s1.heap.objs.size + 1, s1.heap.objs.size], _, _, H1, rfl, I2, turn_enum a (s1.heap.objs.size + 1) s1.heap.objs.size, ⟨⟨.none, he⟩, ⟨_, g1, rfl, rfl⟩, Nat.succ_ne_self _⟩, fun b hb => ?_, q⟩
      have e' : b = s1.heap.objs.size + 1 ∨ b = s1.heap.objs.size := by simpa using hb
      have hle : s1.heap.objs.size ≤ b := by
        rcases e' with z | z
        · rw [z]; exact Nat.le_add_right _ _
        · rw [z]; exact Nat.le_refl _
      exact I1.fpOk hle (I1.hok.fresh hle)
def enumV : List Val → Option Ix
  | [.d (.tuple xs)] => some ⟨(xs.zipIdx).map fun p => .d (.tuple [.int (p.2 : Nat), p.1]), []⟩
  | [.d (.list xs)] => some ⟨(xs.zipIdx).map fun p => .d (.tuple [.int (p.2 : Nat), p.1]), []⟩
  | _ => none
theorem itok_enumT {K : PySem.W.Frag} {mh : List Ob} {F : Hp} {ρ : List Addr} {H : Hp} {a : Addr} {xs : List Dt} (wd : Wd K mh F ρ H) (d1 : DenV K F ρ (.ref a) (.d (.tuple xs))) :
    ItOk K (IteT K a) ⟨(xs.zipIdx).map fun p => .d (.tuple [.int (p.2 : Nat), p.1]), []⟩ F ρ where
  small := by
    cases d1 with
    | tup q z r =>
      show (List.map _ _).length ≤ _
      rw [List.length_map, List.length_zipIdx]
      exact z
  stop := fun {mh2 F2 ρ2 H2} w2 r hp g => by
    cases d1 with
    | tup q z r1 =>
      have e1 := r1.length
      refine ⟨_, w2.rle.sqT ((Rle.same r).sqT q), ?_⟩
      show _ = (List.map _ _).length
      rw [List.length_map, List.length_zipIdx]
      exact e1
  go := fun {mh2 F2 ρ2 H2 i x} w2 r hp g hx => by
    cases d1 with
    | tup q z r1 =>
      have hx : ((xs.zipIdx).map fun p => Val.d (.tuple [.int (p.2 : Nat), p.1]))[i]? = some x := hx
      rw [List.getElem?_map, List.getElem?_zipIdx, Option.map_map] at hx
      obtain ⟨d, h1, h2⟩ := Option.map_eq_some_iff.mp hx
      obtain ⟨x1, k1, l1⟩ := r1.get h1
      have s1 := w2.rle.sqT ((Rle.same r).sqT q)
      refine ⟨⟨_, x1, s1, k1⟩, fun y H'' hy => ?_⟩
      obtain ⟨T, y1, rfl, nT, rfl, m1⟩ := hy
      have e1 : y1 = x1 := Option.some.inj ((m1 _ s1).symm.trans k1)
      subst e1
      obtain ⟨w', g'⟩ := w2.newF (o := .tup [.int (i : Nat), y1]) nT
      refine ⟨_, w', g', ?_⟩
      subst h2
      have e3 : ((0 + i : Nat) : Int) = (i : Int) := by omega
      show DenV _ _ _ _ (.d (.tuple [.int ((0 + i : Nat) : Int), d]))
      rw [e3]
      exact Den.tup (.inl (.inl upd_same)) (by show 2 ≤ sizeLine; decide) (.cons (.int _) (.cons ((l1.mono (Rle.same r)).mono g'.rd) .nil)) (NoD.not rfl)
theorem itok_enumL {K : PySem.W.Frag} {mh : List Ob} {F : Hp} {ρ : List Addr} {H : Hp} {a : Addr} {xs : List Dt} (wd : Wd K mh F ρ H) (d1 : DenV K F ρ (.ref a) (.d (.list xs))) :
    ItOk K (Ite K a) ⟨(xs.zipIdx).map fun p => .d (.tuple [.int (p.2 : Nat), p.1]), []⟩ F ρ where
  small := by
    cases d1 with
    | lst q z r =>
      show (List.map _ _).length ≤ _
      rw [List.length_map, List.length_zipIdx]
      exact z
  stop := fun {mh2 F2 ρ2 H2} w2 r hp g => by
    cases d1 with
    | lst q z r1 =>
      have e1 := r1.length
      refine ⟨_, w2.rle.sqL ((Rle.same r).sqL q), ?_⟩
      show _ ≤ (List.map _ _).length
      rw [List.length_map, List.length_zipIdx]
      exact Nat.le_of_eq e1
  go := fun {mh2 F2 ρ2 H2 i x} w2 r hp g hx => by
    cases d1 with
    | lst q z r1 =>
      have hx : ((xs.zipIdx).map fun p => Val.d (.tuple [.int (p.2 : Nat), p.1]))[i]? = some x := hx
      rw [List.getElem?_map, List.getElem?_zipIdx, Option.map_map] at hx
      obtain ⟨d, h1, h2⟩ := Option.map_eq_some_iff.mp hx
      obtain ⟨x1, k1, l1⟩ := r1.get h1
      have s1 := w2.rle.sqL ((Rle.same r).sqL q)
      refine ⟨⟨_, x1, s1, k1⟩, fun y H'' hy => ?_⟩
      obtain ⟨T, y1, rfl, nT, rfl, m1⟩ := hy
      have e1 : y1 = x1 := Option.some.inj ((m1 _ s1).symm.trans k1)
      subst e1
      obtain ⟨w', g'⟩ := w2.newF (o := .tup [.int (i : Nat), y1]) nT
      refine ⟨_, w', g', ?_⟩
      subst h2
      have e3 : ((0 + i : Nat) : Int) = (i : Int) := by omega
      show DenV _ _ _ _ (.d (.tuple [.int ((0 + i : Nat) : Int), d]))
      rw [e3]
      exact Den.tup (.inl (.inl upd_same)) (by show 2 ≤ sizeLine; decide) (.cons (.int _) (.cons ((l1.mono (Rle.same r)).mono g'.rd) .nil)) (NoD.not rfl)
theorem si_enumT {X : Cx} {a : Expr} {as : Sl → M (List Val)} {p pos tpos : Pos} {elts : List Expr} {kk : Nat} (hg : Gl X "enumerate") (hm : X.mg "enumerate" = none) (h : SA X [a] as) (hs : starEach [a] X.env = (false, eval a X.env) :: starEach [] X.env) :
    SI X (.Tuple elts kk tpos) (.Call (.Name "enumerate" p) [a] [] pos) (iArgs enumV as) :=
  SI.mk (pi_enumT hg hm h hs) fun R rl e q => by
    obtain ⟨vs, mh1, e1, ea⟩ := M.bind_some.mp e
    obtain ⟨e2, e3⟩ := ofO_some.mp ea
    simp only at e2 e3
    subst e3
    refine ⟨_, _, _, _, _, _, rl, e1, fun F1 ρ1 H1 us w1 g1 d1 => ?_⟩
    unfold enumV at e2
    split at e2
    · cases e2
      cases d1 with
      | cons dv dn =>
        cases dn
        obtain ⟨a, us, rfl, qa, _, _⟩ := seqT_ok w1 dv rfl
        exact ⟨a, rfl, .inl ⟨_, qa, q _ _ _ _ w1 g1 (itok_enumT w1 dv)⟩⟩
    · cases e2
      cases d1 with
      | cons dv dn =>
        cases dn
        obtain ⟨a, us, rfl, qa, _, _⟩ := seqL_ok w1 dv rfl
        exact ⟨a, rfl, .inr ⟨_, qa, q _ _ _ _ w1 g1 (itok_enumL w1 dv)⟩⟩
    · cases e2
end Pv

/-! PI: t.index(x), t a tuple of texts -/
namespace Pv
open PySem PySem.Spec PyProof.Rows L2
section
variable {X : Cx}
def idxVl (o : Val) (as : List Val) : M Val := fun mh => match o, as with
  | .d (.tuple xs), [.d (.str z)] => match allOf asStr (xs.map Val.d) with
    | some ys => if ys.idxOf z < ys.length then some (.d (.int (ys.idxOf z : Nat)), mh) else none
    | none => none
  | _, _ => none
theorem mts_index : MtS X "tuple" "tuple.index" idxVl := by
  refine ⟨_, mt_tup_index, fun Q w dx dv e q => ?_⟩
  unfold idxVl at e
  split at e
  · rename_i xs z
    cases e1 : allOf asStr (xs.map Val.d) with
    | none => rw [e1] at e; cases e
    | some ys =>
      rw [e1] at e
      simp only at e
      split at e
      · rename_i hlt
        cases dv with
        | cons d dn =>
          cases dn
          cases e
          have hz := den_str d
          subst hz
          cases dx with
          | tup q1 z1 r1 =>
            have hu := (allOf_ok (g := V.str) (fun d h => asStr_ok d h) (DenVs.of_all (ρ := []) r1) e1).1
            subst hu
            refine ⟨_, ys, z, ys.idxOf z, rfl, rfl, w.rle.sqT q1, ?_, fun m hm e2 => ?_, q _ _ _ w .refl (Den.int _)⟩
            · rw [List.getElem?_eq_getElem hlt, List.getElem_idxOf hlt]
            · obtain ⟨h1, h2⟩ := List.getElem?_eq_some_iff.mp e2
              have h3 := List.idxOf_lt_length_iff.mp hlt
              have := List.not_of_lt_findIdx (p := (· == z)) hm
              rw [h2] at this
              simp at this
      · cases e
  · cases e
end
end Pv

/-! P7: statements, loops, comprehensions, calls -/
namespace Pv
open PySem PySem.Spec PyProof.Rows L2

inductive Fl where
  | nx (e : Sl) | rt (v : Val) | bk (e : Sl) | ct (e : Sl)
def Post (K : PySem.W.Frag) (D : Ends) (mh : List Ob) (F : Hp) (ρ : List Addr) (H : Hp) : Fl → Prop
  | .nx e => ∀ F' ρ' σ' H', Rl K e mh F' ρ' σ' H' → Gr F ρ H F' ρ' H' → D.nx σ' H'
  | .rt v => ∀ F' ρ' H' u, Wd K mh F' ρ' H' → Gr F ρ H F' ρ' H' → DenV K F' ρ' u v → D.rt u H'
  | .bk e => ∀ F' ρ' σ' H', Rl K e mh F' ρ' σ' H' → Gr F ρ H F' ρ' H' → D.bk σ' H'
  | .ct e => ∀ F' ρ' σ' H', Rl K e mh F' ρ' σ' H' → Gr F ρ H F' ρ' H' → D.ct σ' H'
def tSt (K : PySem.W.Frag) (m : Sl → M Fl) : TS := fun D σ H => ∃ env mh F ρ fl mh', Rl K env mh F ρ σ H ∧ m env mh = some (fl, mh') ∧ Post K D mh' F ρ H fl
def SS (X : Cx) (st : Stmt) (m : Sl → M Fl) : Prop := PS X st (tSt X.K m)
def SSs (X : Cx) (st : List Stmt) (m : Sl → M Fl) : Prop := PSs X st (tSt X.K m)
theorem Post.grow {K : PySem.W.Frag} {D : Ends} {mh : List Ob} {F F1 : Hp} {ρ ρ1 : List Addr} {H H1 : Hp} {fl : Fl} (p : Post K D mh F ρ H fl) (g : Gr F ρ H F1 ρ1 H1) : Post K D mh F1 ρ1 H1 fl := by
  cases fl with
  | nx e => exact fun F' ρ' σ' H' r g' => p F' ρ' σ' H' r (g.trans g')
  | bk e => exact fun F' ρ' σ' H' r g' => p F' ρ' σ' H' r (g.trans g')
  | ct e => exact fun F' ρ' σ' H' r g' => p F' ρ' σ' H' r (g.trans g')
  | rt v => exact fun F' ρ' H' u w g' d => p F' ρ' H' u w (g.trans g') d
section
variable {X : Cx} {pos : Pos}
theorem SS.mk {st : Stmt} {t : TS} {m : Sl → M Fl} (h : PS X st t) (k : ∀ {env : Sl} {mh mh' : List Ob} {F : Hp} {ρ : List Addr} {σ : L2.St} {H : Hp} {fl : Fl} (D : Ends), Rl X.K env mh F ρ σ H → m env mh = some (fl, mh') →
    Post X.K D mh' F ρ H fl → t D σ H) : SS X st m := by
  refine ⟨fun pins s σ H D I h1 => ?_⟩
  obtain ⟨env, mh, F, ρ, fl, mh', rl, e1, q⟩ := h1
  exact h.run pins s σ H D I (k D rl e1 q)
theorem SSs.mk {st : List Stmt} {t : TS} {m : Sl → M Fl} (h : PSs X st t) (k : ∀ {env : Sl} {mh mh' : List Ob} {F : Hp} {ρ : List Addr} {σ : L2.St} {H : Hp} {fl : Fl} (D : Ends), Rl X.K env mh F ρ σ H → m env mh = some (fl, mh') →
    Post X.K D mh' F ρ H fl → t D σ H) : SSs X st m := by
  refine ⟨fun pins s σ H D I h1 => ?_⟩
  obtain ⟨env, mh, F, ρ, fl, mh', rl, e1, q⟩ := h1
  exact h.run pins s σ H D I (k D rl e1 q)

/-! ### blocks -/
def mNil (env : Sl) : M Fl := pure (.nx env)
def mSeq (a b : Sl → M Fl) (env : Sl) : M Fl := do
  let f ← a env
  match f with
  | .nx e => b e
  | .rt v => pure (.rt v)
  | .bk e => pure (.bk e)
  | .ct e => pure (.ct e)
theorem sss_nil : SSs X [] mNil := SSs.mk pss_nil fun D rl e q => by cases e; exact q _ _ _ _ rl .refl
theorem sss_cons {st : Stmt} {rest : List Stmt} {a b : Sl → M Fl} (h1 : SS X st a) (h2 : SSs X rest b) : SSs X (st :: rest) (mSeq a b) :=
  SSs.mk (pss_cons h1 h2) fun D rl e q => by
    obtain ⟨f, mh1, e1, ea⟩ := M.bind_some.mp e
    refine ⟨_, _, _, _, _, _, rl, e1, ?_⟩
    cases f with
    | nx e2 => exact fun F1 ρ1 σ1 H1 r1 g1 => ⟨_, _, _, _, _, _, r1, ea, q.grow g1⟩
    | rt v => cases ea; exact q
    | bk e2 => cases ea; exact q
    | ct e2 => cases ea; exact q
/-- a ghost: the cell in slot i is frozen -/
def mFrz (i : Nat) (env : Sl) : M Fl := fun mh => match env.getD i none with
  | some (.ref n) => match mh[n]? with
    | some (.lst vs) => (asDs vs).map fun ds => (.nx (env.set i (some (.d (.list ds)))), mh.set n .dead)
    | some (.dct kvs) => (asDKs kvs).map fun ds => (.nx (env.set i (some (.d (.dict ds)))), mh.set n .dead)
    | _ => none
  | _ => none
theorem Rl.setGhost {K : PySem.W.Frag} {env : Sl} {mh : List Ob} {F : Hp} {ρ : List Addr} {σ : L2.St} {H : Hp} {u : V} {v : Val} {i : Nat} (r : Rl K env mh F ρ σ H) (hu : σ[i]? = some (some u)) (d : DenV K F ρ u v) : Rl K (env.set i (some v)) mh F ρ σ H := by
  have h := r.set i d
  have e : σ.set i (some u) = σ := by
    obtain ⟨h1, h2⟩ := List.getElem?_eq_some_iff.mp hu
    rw [← h2]
    exact List.set_getElem_self h1
  rw [e] at h
  exact h
theorem mFrz_ok {K : PySem.W.Frag} {env : Sl} {mh mh' : List Ob} {F : Hp} {ρ : List Addr} {σ : L2.St} {H : Hp} {fl : Fl} {i : Nat} (r : Rl K env mh F ρ σ H) (h : mFrz i env mh = some (fl, mh')) : ∃ env' F', fl = .nx env' ∧ Rl K env' mh' F' ρ σ H ∧ Gr F ρ H F' ρ H := by
  unfold mFrz at h
  split at h
  · rename_i n e0
    have e1 : env[i]? = some (some (.ref n)) := by
      rw [List.getD_eq_getElem?_getD] at e0
      cases h4 : env[i]? with
      | none => rw [h4] at e0; cases e0
      | some o => rw [h4] at e0; rw [show o = some (.ref n) from e0]
    obtain ⟨u, hu, a, ea, rfl⟩ := r.get i _ e1
    split at h
    · rename_i vs e2
      obtain ⟨ds, e3, e4⟩ := Option.map_eq_some_iff.mp h
      cases e4
      obtain ⟨z, us, q1, q2⟩ := r.wd.cell n a _ ea e2
      obtain ⟨w', g'⟩ := r.wd.freeze ea e2 rfl q1
      have e5 := asDs_eq e3
      subst e5
      exact ⟨_, _, rfl, (r.grow w' g').setGhost hu (Den.lst (.inl (.inl upd_same)) (by rw [List.length_map] at z; exact z) (q2.all.mono g'.rd)), g'⟩
    · rename_i kvs e2
      obtain ⟨ds, e3, e4⟩ := Option.map_eq_some_iff.mp h
      cases e4
      obtain ⟨z, us, q1, q2⟩ := r.wd.cell n a _ ea e2
      obtain ⟨w', g'⟩ := r.wd.freeze ea e2 rfl q1
      obtain ⟨d1, d2⟩ := q2.all e3
      exact ⟨_, _, rfl, (r.grow w' g').setGhost hu (Den.dct (.inl upd_same) (by rw [d2]; exact z) (d1.mono g'.rd)), g'⟩
    · cases h
  · cases h
theorem sss_frz {i : Nat} {rest : List Stmt} {b : Sl → M Fl} (h2 : SSs X rest b) : SSs X rest (mSeq (mFrz i) b) := by
  refine ⟨fun pins s σ H D I h1 => ?_⟩
  obtain ⟨env, mh, F, ρ, fl, mh', rl, e1, q⟩ := h1
  obtain ⟨f, mh1, e2, ea⟩ := M.bind_some.mp e1
  obtain ⟨env', F', rfl, r', g'⟩ := mFrz_ok rl e2
  exact h2.run pins s σ H D I ⟨_, _, _, _, _, _, r', ea, q.grow g'⟩

/-! ### small statements -/
def mPass (env : Sl) : M Fl := pure (.nx env)
def mBrk (env : Sl) : M Fl := pure (.bk env)
def mCnt (env : Sl) : M Fl := pure (.ct env)
theorem ss_pass : SS X (.Pass pos) mPass := SS.mk ps_pass fun D rl e q => by cases e; exact q _ _ _ _ rl .refl
theorem ss_brk : SS X (.Break pos) mBrk := SS.mk ps_break fun D rl e q => by cases e; exact q _ _ _ _ rl .refl
theorem ss_cnt : SS X (.Continue pos) mCnt := SS.mk ps_continue fun D rl e q => by cases e; exact q _ _ _ _ rl .refl
def mExpr (a : Sl → M Val) (env : Sl) : M Fl := do
  let _ ← a env
  pure (.nx env)
theorem ss_expr {a : Expr} {ma : Sl → M Val} (ha : SE X a ma) (hs : swapsWith a none pos.line X.env = pure false) : SS X (.Expr a pos) (mExpr ma) :=
  SS.mk (ps_expr ha hs) fun D rl e q => by
    obtain ⟨v, mh1, e1, ea⟩ := M.bind_some.mp e
    cases ea
    exact ⟨_, _, _, _, _, _, rl, e1, fun F1 ρ1 H1 u w1 g1 d1 => q _ _ _ _ (rl.grow w1 g1) g1⟩
def mRet (a : Sl → M Val) (env : Sl) : M Fl := do
  let v ← a env
  pure (.rt v)
theorem ss_ret {a : Expr} {ma : Sl → M Val} (ha : SE X a ma) : SS X (.Return (some a) pos) (mRet ma) :=
  SS.mk (ps_ret ha) fun D rl e q => by
    obtain ⟨v, mh1, e1, ea⟩ := M.bind_some.mp e
    cases ea
    exact ⟨_, _, _, _, _, _, rl, e1, fun F1 ρ1 H1 u w1 g1 d1 => q _ _ _ _ w1 g1 d1⟩
theorem ss_retN : SS X (.Return none pos) (mRet (mC .none)) :=
  SS.mk ps_retN fun D rl e q => by
    cases e
    exact q _ _ _ _ rl.wd .refl Den.non
def mAsg (a : Sl → M Val) (g : Val → Sl → M Sl) (env : Sl) : M Fl := do
  let v ← a env
  let e ← g v env
  pure (.nx e)
theorem ss_asg {tg a : Expr} {ma : Sl → M Val} {sl : List Nat} {g : Val → Sl → M Sl} (ha : SE X a ma) (hg : SG X tg sl g) (hs : swapsWithSole [tg] a pos.line X.env = pure false) (hw : swappedStores [tg] a X.env = pure none)
    (h1 : (assignEach [tg] X.env).map (·.2) = [assign tg X.env]) : SS X (.Assign [tg] a pos) (mAsg ma g) :=
  SS.mk (ps_asg ha hg hs hw h1) fun D rl e q => by
    obtain ⟨v, mh1, e1, ea⟩ := M.bind_some.mp e
    obtain ⟨env', mh2, e2, eb⟩ := M.bind_some.mp ea
    cases eb
    exact ⟨_, _, _, _, _, _, rl, e1, fun F1 ρ1 H1 u w1 g1 d1 => ⟨_, _, _, _, _, _, _, rl.grow w1 g1, d1, e2, fun F2 ρ2 σ2 H2 r2 g2 _ => q _ _ _ _ r2 (g1.trans g2)⟩⟩
theorem ss_set {i : Nat} {x : Str} {a : Expr} {ma : Sl → M Val} {pos' : Pos} (hN : X.N.Nodup) (hi : X.N[i]? = some x) (hx : Loc X.env.scope x) (ha : SE X a ma) (hs : swapsWith a (some (.Name x pos')) pos.line X.env = pure false) (hf : X.fn x = true ∨ X.env.scope.names.lookup x = some .local) :
    SS X (.Assign [.Name x pos'] a pos) (mAsg ma (gNm i)) :=
  SS.mk (ps_set hN hi hx ha hs hf) fun D rl e q => by
    obtain ⟨v, mh1, e1, ea⟩ := M.bind_some.mp e
    obtain ⟨env', mh2, e2, eb⟩ := M.bind_some.mp ea
    cases eb
    cases e2
    exact ⟨_, _, _, _, _, _, rl, e1, fun F1 ρ1 H1 u w1 g1 d1 => q _ _ _ _ ((rl.grow w1 g1).set i d1) g1⟩
/-- a, b = x, y -/
def mPar (i j : Nat) (as : Sl → M (List Val)) (env : Sl) : M Fl := do
  let vs ← as env
  match vs with
  | [v, w] => pure (.nx ((env.set i (some v)).set j (some w)))
  | _ => fun _ => none
theorem ss_par {i j : Nat} {x y : Str} {a b : Expr} {as : Sl → M (List Val)} {px py pt : Pos} {kt k2 : Nat} {pt2 : Pos} (hc : X.calm = true) (hN : X.N.Nodup) (hi : X.N[i]? = some x) (hj : X.N[j]? = some y) (hij : i ≠ j)
    (hx : X.env.scope.names.lookup x = some .local) (hy : X.env.scope.names.lookup y = some .local) (ha : SA X [a, b] as)
    (hw : swappedStores [.Tuple [.Name x px, .Name y py] kt pt] (.Tuple [a, b] k2 pt2) X.env = pure (some [x, y]))
    (hs : swapsWithSole [.Tuple [.Name x px, .Name y py] kt pt] (.Tuple [a, b] k2 pt2) pos.line X.env = pure false) :
    SS X (.Assign [.Tuple [.Name x px, .Name y py] kt pt] (.Tuple [a, b] k2 pt2) pos) (mPar i j as) :=
  SS.mk (ps_par hc hN hi hj hij hx hy ha hw hs) fun D rl e q => by
    obtain ⟨vs, mh1, e1, ea⟩ := M.bind_some.mp e
    refine ⟨_, _, _, _, _, _, rl, e1, fun F1 ρ1 H1 us w1 g1 d1 => ?_⟩
    split at ea
    · rename_i v w
      cases ea
      cases d1 with
      | cons dv dn =>
        cases dn with
        | cons dw dn =>
          cases dn
          exact ⟨_, _, rfl, q _ _ _ _ (((rl.grow w1 g1).set i dv).set j dw) g1⟩
    · cases ea
/-- name op= e (ints) -/
def mAug (i : Nat) (f : Int → Int → Int) (a : Sl → M Val) (env : Sl) : M Fl := do
  let x ← mSlot i env
  let y ← a env
  match x, y with
  | .d (.int p), .d (.int q) => pure (.nx (env.set i (some (.d (.int (f p q))))))
  | _, _ => fun _ => none
theorem ss_aug {i : Nat} {x : Str} {a : Expr} {ma : Sl → M Val} {op : Operator} {f : Int → Int → Int} {pos' : Pos} (hN : X.N.Nodup) (hi : X.N[i]? = some x) (hx : Loc X.env.scope x) (ha : SE X a ma) (ho : PIp X op (ipI f)) (hf : X.fn x = true ∨ X.env.scope.names.lookup x = some .local) :
    SS X (.AugAssign (.Name x pos') op a pos) (mAug i f ma) :=
  SS.mk (ps_aug hN hi hx ha ho hf) fun D rl e q => by
    rename_i env mh mh' F ρ σ H fl
    obtain ⟨v, mh1, e1, ea⟩ := M.bind_some.mp e
    obtain ⟨w, mh2, e2, eb⟩ := M.bind_some.mp ea
    obtain ⟨h1, h2⟩ := ofO_some.mp e1
    simp only at h1 h2
    subst h2
    have h3 : env[i]? = some (some v) := by
      rw [List.getD_eq_getElem?_getD] at h1
      cases h4 : env[i]? with
      | none => rw [h4] at h1; cases h1
      | some o => rw [h4] at h1; rw [show o = some v from h1]
    obtain ⟨u, h5, h6⟩ := rl.get i v h3
    refine ⟨u, h5, _, _, _, _, _, _, rl, e2, fun F1 ρ1 H1 u1 w1 g1 d1 => ?_⟩
    split at eb
    · cases eb
      exact ⟨_, _, den_int h6, den_int d1, q _ _ _ _ ((rl.grow w1 g1).set i (Den.int _)) g1⟩
    · cases eb
def mIf (t : Sl → M Bool) (a b : Sl → M Fl) (env : Sl) : M Fl := mIte t a b env
theorem ss_if {c : Expr} {a b : List Stmt} {tc : Sl → M Bool} {ma mb : Sl → M Fl} (hc : STs X c tc) (ha : SSs X a ma) (hb : SSs X b mb) : SS X (.If c a b pos) (mIf tc ma mb) :=
  SS.mk (ps_if hc ha hb) fun D rl e q => by
    obtain ⟨x, mh1, e1, ea⟩ := M.bind_some.mp e
    refine ⟨_, _, _, _, _, _, rl, e1, fun F1 ρ1 H1 w1 g1 => ?_⟩
    cases x with
    | true => exact ⟨_, _, _, _, _, _, rl.grow w1 g1, ea, q.grow g1⟩
    | false => exact ⟨_, _, _, _, _, _, rl.grow w1 g1, ea, q.grow g1⟩

/-! ### for -/
noncomputable def loopF (gd : List (Nat × List Val)) (g : Val → Sl → M Sl) (body : Sl → M Fl) : List Val → Sl → M Fl
  | [], env => do
    chkG gd
    pure (.nx env)
  | v :: vs, env => do
    chkG gd
    let e1 ← g v env
    let f ← body e1
    match f with
    | .nx e => loopF gd g body vs e
    | .ct e => loopF gd g body vs e
    | .bk e => pure (.nx e)
    | .rt r => pure (.rt r)
noncomputable def mFor (it : Sl → M Ix) (g : Val → Sl → M Sl) (body : Sl → M Fl) (env : Sl) : M Fl := do
  let ix ← it env
  loopF ix.g g body ix.items env
theorem ss_for {tg iter : Expr} {body : List Stmt} {mi : Sl → M Ix} {sl : List Nat} {g : Val → Sl → M Sl} {mb : Sl → M Fl} (hxe : X.xe = fun _ _ => False) (hc : X.calm = true) (hi : SI X tg iter mi) (hg : SG X tg sl g) (hb : SSs X body mb)
    (hs : ∀ x, foldedSetIterable iter X.env x = pure x) : SS X (.For tg iter body [] pos) (mFor mi g mb) :=
  SS.mk (ps_for (by rw [hxe]; exact PassesOwn.never) hc hi hg hb hs) fun D rl e q => by
    rename_i env mh mh' F ρ σ H fl
    obtain ⟨ix, mh1, e1, ea⟩ := M.bind_some.mp e
    refine ⟨_, _, _, _, _, _, rl, e1, fun J F1 ρ1 H1 w1 g1 ok => ?_⟩
    refine ⟨fun i m σ2 H2 => m = ix.items.length - i ∧ i ≤ ix.items.length ∧ ∃ env2 mh2 F2 ρ2, Rl X.K env2 mh2 F2 ρ2 σ2 H2 ∧ Gr F1 ρ1 H1 F2 ρ2 H2 ∧ loopF ix.g g mb (ix.items.drop i) env2 mh2 = some (fl, mh'), ⟨ix.items.length, rfl, Nat.zero_le _, _, _, _, _, rl.grow w1 g1, .refl, ea⟩, ?_⟩
    rintro i m σ2 H2 ⟨rfl, hi2, env2, mh2, F2, ρ2, r2, g2, e2⟩
    by_cases hlt : i < ix.items.length
    · rw [List.drop_eq_getElem_cons hlt] at e2
      obtain ⟨_, mh3, e3, e4⟩ := M.bind_some.mp e2
      obtain ⟨k1, k2⟩ := chkG_some e3
      cases k2
      obtain ⟨env4, mh4, e5, e6⟩ := M.bind_some.mp e4
      obtain ⟨f, mh5, e7, e8⟩ := M.bind_some.mp e6
      obtain ⟨go, yl⟩ := ok.go r2.wd g2.ext g2.pre k1 (List.getElem?_eq_getElem hlt)
      refine .inr ⟨go, fun σ' H' => ∃ env' mh' F' ρ', Rl X.K env' mh' F' ρ' σ' H' ∧ Gr F1 ρ1 H1 F' ρ' H' ∧ loopF ix.g g mb (ix.items.drop (i + 1)) env' mh' = some (fl, _), fun σ' H' ⟨env', mhx, F', ρ', a1, a2, a3⟩ => ⟨ix.items.length - (i + 1), by omega, rfl, hlt, env', mhx, F', ρ', a1, a2, a3⟩, fun x H3 hy => ?_⟩
      obtain ⟨F3, w3, g3, d3⟩ := yl x H3 hy
      refine ⟨_, _, _, _, _, _, _, r2.grow w3 g3, d3, e5, fun F4 ρ4 σ4 H4 r4 g4 _ => ⟨_, _, _, _, _, _, r4, e7, ?_⟩⟩
      have g24 := (g2.trans g3).trans g4
      cases f with
      | nx e9 => exact fun F' ρ' σ' H' r' g' => ⟨_, _, _, _, r', g24.trans g', e8⟩
      | ct e9 => exact fun F' ρ' σ' H' r' g' => ⟨_, _, _, _, r', g24.trans g', e8⟩
      | bk e9 => cases e8; exact fun F' ρ' σ' H' r' g' => q _ _ _ _ r' (g1.trans (g24.trans g'))
      | rt v => cases e8; exact fun F' ρ' H' u w' g' d' => q _ _ _ _ w' (g1.trans (g24.trans g')) d'
    · have hie : i = ix.items.length := by omega
      subst hie
      rw [List.drop_length] at e2
      obtain ⟨_, mh3, e3, e4⟩ := M.bind_some.mp e2
      obtain ⟨k1, k2⟩ := chkG_some e3
      cases k2
      cases e4
      exact .inl ⟨ok.stop r2.wd g2.ext g2.pre k1, q _ _ _ _ r2 (g1.trans g2)⟩

/-! ### while: n turns at most -/
def loopW (t : Sl → M Bool) (body : Sl → M Fl) : Nat → Sl → M Fl
  | 0, _ => fun _ => none
  | n + 1, env => do
    let b ← t env
    if b then do
      let f ← body env
      match f with
      | .nx e => loopW t body n e
      | .ct e => loopW t body n e
      | .bk e => pure (.nx e)
      | .rt r => pure (.rt r)
    else pure (.nx env)
theorem ss_while {c : Expr} {body : List Stmt} {tc : Sl → M Bool} {mb : Sl → M Fl} {n : Nat} (hxe : X.xe = fun _ _ => False) (hc : STs X c tc) (hb : SSs X body mb) : SS X (.While c body [] pos) (loopW tc mb n) :=
  SS.mk (ps_while (by rw [hxe]; exact PassesOwn.never) hc hb) fun D rl e q => by
    rename_i env mh mh' F ρ σ H fl
    refine ⟨fun m σ2 H2 => ∃ env2 mh2 F2 ρ2, Rl X.K env2 mh2 F2 ρ2 σ2 H2 ∧ Gr F ρ H F2 ρ2 H2 ∧ loopW tc mb m env2 mh2 = some (fl, mh'), ⟨n, _, _, _, _, rl, .refl, e⟩, ?_⟩
    rintro m σ2 H2 ⟨env2, mh2, F2, ρ2, r2, g2, e2⟩
    cases m with
    | zero => cases e2
    | succ m =>
      obtain ⟨b, mh3, e3, e4⟩ := M.bind_some.mp e2
      refine ⟨_, _, _, _, _, _, r2, e3, fun F3 ρ3 H3 w3 g3 => ?_⟩
      cases b with
      | true =>
        obtain ⟨f, mh5, e7, e8⟩ := M.bind_some.mp e4
        refine ⟨fun σ' H' => ∃ env' mh' F' ρ', Rl X.K env' mh' F' ρ' σ' H' ∧ Gr F ρ H F' ρ' H' ∧ loopW tc mb m env' mh' = some (fl, _), fun σ' H' h => ⟨m, Nat.lt_succ_self m, h⟩, _, _, _, _, _, _, r2.grow w3 g3, e7, ?_⟩
        cases f with
        | nx e9 => exact fun F' ρ' σ' H' r' g' => ⟨_, _, _, _, r', (g2.trans g3).trans g', e8⟩
        | ct e9 => exact fun F' ρ' σ' H' r' g' => ⟨_, _, _, _, r', (g2.trans g3).trans g', e8⟩
        | bk e9 => cases e8; exact fun F' ρ' σ' H' r' g' => q _ _ _ _ r' ((g2.trans g3).trans g')
        | rt v => cases e8; exact fun F' ρ' H' u w' g' d' => q _ _ _ _ w' ((g2.trans g3).trans g') d'
      | false =>
        cases e4
        exact q _ _ _ _ (r2.grow w3 g3) (g2.trans g3)
end
end Pv

/-! P8: comprehensions, calls of defs -/
namespace Pv
open PySem PySem.Spec PyProof.Rows L2

/-! ### an object beside the world -/
def del (H : Hp) (D : Addr) : Hp := fun b => if b = D then none else H b
theorem del_same {H : Hp} {D : Addr} : del H D D = none := if_pos rfl
theorem del_ne {H : Hp} {D a : Addr} (h : a ≠ D) : del H D a = H a := if_neg h
theorem upd_del {H : Hp} {D : Addr} {o : HO} (h : H D = some o) : upd (del H D) D o = H := by
  funext b
  by_cases e : b = D
  · subst e; rw [upd_same, h]
  · rw [upd_ne e, del_ne e]
section
variable {K : PySem.W.Frag} {mh : List Ob} {F : Hp} {ρ : List Addr} {H : Hp} {D : Addr}
theorem Wd.turn {H' : Hp} (w : Wd K mh F ρ H) (e : ∀ a, a ≠ D → H' a = H a) (hF : F D = none) (hρ : D ∉ ρ) : Wd K mh F ρ H' := by
  refine ⟨fun a o h => ?_, w.len, w.nd, w.off, fun n a o h1 h2 => ?_⟩
  · have : a ≠ D := fun z => by rw [z, hF] at h; cases h
    rw [e a this]; exact w.same a o h
  · have : a ≠ D := fun z => hρ (z ▸ List.mem_of_getElem? h1)
    exact (w.cell n a o h1 h2).mono .refl (List.prefix_refl _) fun u q => by rw [e a this]; exact q
theorem Wd.del (w : Wd K mh F ρ H) (hF : F D = none) (hρ : D ∉ ρ) : Wd K mh F ρ (del H D) := w.turn (fun a h => del_ne h) hF hρ
theorem Wd.updO {o : HO} (w : Wd K mh F ρ H) (hF : F D = none) (hρ : D ∉ ρ) : Wd K mh F ρ (upd H D o) := w.turn (fun a h => upd_ne h) hF hρ
/-- growth, beside D (which is not there at first) -/
structure GrD (D : Addr) (F : Hp) (ρ : List Addr) (H : Hp) (F' : Hp) (ρ' : List Addr) (H' : Hp) : Prop where
  ext : ∀ a o, F a = some o → F' a = some o
  pre : ρ <+: ρ'
  fr : ∀ a o, a ≠ D → H a = some o → F a = none → a ∉ ρ → H' a = some o ∧ F' a = none ∧ a ∉ ρ'
theorem GrD.rd {F' : Hp} {ρ' : List Addr} {H' : Hp} (g : GrD D F ρ H F' ρ' H') : Rle F F' := Rle.same g.ext
theorem GrD.next {F0 F' : Hp} {ρ0 ρ' : List Addr} {H0 H' : Hp} (g : GrD D F0 ρ0 H0 F ρ H) (g' : Gr F ρ H F' ρ' H') : GrD D F0 ρ0 H0 F' ρ' H' :=
  ⟨fun x o h => g'.ext x o (g.ext x o h), g.pre.trans g'.pre, fun a o n h1 h2 h3 => let ⟨a1, a2, a3⟩ := g.fr a o n h1 h2 h3; g'.fr a o a1 a2 a3⟩
theorem GrD.upd {F0 : Hp} {ρ0 : List Addr} {H0 : Hp} {o : HO} (g : GrD D F0 ρ0 H0 F ρ H) : GrD D F0 ρ0 H0 F ρ (upd H D o) :=
  ⟨g.ext, g.pre, fun a u n h1 h2 h3 => by rw [upd_ne n]; exact g.fr a u n h1 h2 h3⟩
theorem GrD.gr {F0 : Hp} {ρ0 : List Addr} {H0 : Hp} (g : GrD D F0 ρ0 H0 F ρ H) (h0 : H0 D = none) : Gr F0 ρ0 H0 F ρ (Pv.del H D) :=
  ⟨g.ext, g.pre, fun a u h1 h2 h3 => by
    have n : a ≠ D := fun z => by rw [z, h0] at h1; cases h1
    rw [del_ne n]; exact g.fr a u n h1 h2 h3⟩
theorem GrD.of {F0 : Hp} {ρ0 : List Addr} {H0 : Hp} {o : HO} : GrD D F0 ρ0 H0 F0 ρ0 (L2.upd H0 D o) := ⟨fun _ _ h => h, List.prefix_refl _, fun a u n h1 h2 h3 => ⟨by rw [upd_ne n]; exact h1, h2, h3⟩⟩
end

/-! ### list comprehensions -/
def wipeE (env : Sl) (vs : List Nat) : Sl := vs.foldr (fun i e => e.set i none) env
theorem wipe_twice {σ : L2.St} {vs : List Nat} : ∀ ws : List Nat, (∀ i ∈ ws, i ∈ vs) → wipe (wipe σ ws) vs = wipe σ vs
  | [], _ => rfl
  | w :: ws, h => by
    show wipe ((wipe σ ws).set w none) vs = _
    rw [wipe_set (h w (by simp))]
    exact wipe_twice ws fun i hi => h i (by simp [hi])
def SPs (X : Cx) (ifs : List Expr) (m : Sl → M Bool) : Prop := PTs X ifs (tTs X.K m)
def mYes (_ : Sl) : M Bool := pure true
theorem sps_nil {X : Cx} : SPs X [] mYes := ⟨fun pins s σ H Q I h => by
  obtain ⟨env, mh, F, ρ, b, mh', rl, e, q⟩ := h
  cases e
  exact pts_nil.run pins s σ H Q I (q _ _ _ rl.wd .refl)⟩
theorem sps_one {X : Cx} {c : Expr} {m : Sl → M Bool} (h : STs X c m) : SPs X [c] m := pts_one h
noncomputable def loopC {α : Type} (gd : List (Nat × List Val)) (g : Val → Sl → M Sl) (t : Sl → M Bool) (el : Sl → M α) (env : Sl) : List Val → M (List α)
  | [] => do
    chkG gd
    pure []
  | v :: vs => do
    chkG gd
    let e1 ← g v env
    let b ← t e1
    if b then do
      let y ← el e1
      let ys ← loopC gd g t el env vs
      pure (y :: ys)
    else loopC gd g t el env vs
noncomputable def mLc (c : Bool) (mi : Sl → M Ix) (vs : List Nat) (g : Val → Sl → M Sl) (t : Sl → M Bool) (el : Sl → M Val) (env : Sl) : M Val := do
  let ix ← mi env
  let ys ← loopC ix.g g t el (wipeE env vs) ix.items
  finR c (.nl ys)
theorem lc_sem {K : PySem.W.Frag} {c : Bool} {mi : Sl → M Ix} {vs sl : List Nat} {g : Val → Sl → M Sl} {t : Sl → M Bool} {el : Sl → M Val} {env : Sl} {mh mh' : List Ob} {F : Hp} {ρ : List Addr} {σ : L2.St} {H : Hp} {v : Val} (Q : VK) (hsl : ∀ i ∈ sl, i ∈ vs)
    (rl : Rl K env mh F ρ σ H) (e : mLc c mi vs g t el env mh = some (v, mh')) (q : ∀ F' ρ' H' u, Wd K mh' F' ρ' H' → Gr F ρ H F' ρ' H' → DenV K F' ρ' u v → Q u H') :
    tLc (tIt K mi) (tGt K sl g) (tTs K t) (tE K el) vs σ H Q := by
  obtain ⟨ix, mh1, e1, ea⟩ := M.bind_some.mp e
  obtain ⟨ys, mh2, e2, eb⟩ := M.bind_some.mp ea
  refine ⟨_, _, _, _, _, _, rl, e1, fun J F1 ρ1 H1 w1 g1 ok D hD => ?_⟩
  have hFD := w1.freshF hD
  have hρD := w1.freshρ hD
  refine ⟨fun i m H2 => m = ix.items.length - i ∧ i ≤ ix.items.length ∧ ∃ mhx F2 ρ2 acc us rest, Wd K mhx F2 ρ2 H2 ∧ GrD D F1 ρ1 H1 F2 ρ2 H2 ∧ H2 D = some (.lst us) ∧ F2 D = none ∧ D ∉ ρ2 ∧ DenVs K F2 ρ2 us acc ∧ acc.length ≤ i ∧ acc ++ rest = ys ∧
    loopC ix.g g t el (wipeE env vs) (ix.items.drop i) mhx = some (rest, mh2), ⟨ix.items.length, rfl, Nat.zero_le _, mh1, F1, ρ1, [], [], ys, w1.updO hFD hρD, .of, upd_same, hFD, hρD, .nil, Nat.le_refl _, rfl, e2⟩, ?_⟩
  rintro i m H2 ⟨rfl, hi2, mhx, F2, ρ2, acc, us, rest, w2, g2, hD2, hF2, hρ2, d2, hl, ey, e3⟩
  have rl2 : Rl K (wipeE env vs) mhx F2 ρ2 (wipe σ vs) H2 := by
    refine ⟨w2, (rl.wiped vs).len, fun j x hx => ?_⟩
    obtain ⟨u, a1, a2⟩ := (rl.wiped vs).get j x hx
    exact ⟨u, a1, a2.mono (g1.rd.trans g2.rd) (g1.pre.trans g2.pre)⟩
  by_cases hlt : i < ix.items.length
  · rw [List.drop_eq_getElem_cons hlt] at e3
    obtain ⟨_, mh3, f3, e4⟩ := M.bind_some.mp e3
    obtain ⟨k1, k2⟩ := chkG_some f3
    cases k2
    obtain ⟨env4, mh4, f4, e5⟩ := M.bind_some.mp e4
    obtain ⟨b, mh5, f5, e6⟩ := M.bind_some.mp e5
    obtain ⟨go, yl⟩ := ok.go w2 g2.ext g2.pre k1 (List.getElem?_eq_getElem hlt)
    refine .inr ⟨go, fun H' => ∃ mhx F2 ρ2 acc us rest, Wd K mhx F2 ρ2 H' ∧ GrD D F1 ρ1 H1 F2 ρ2 H' ∧ H' D = some (.lst us) ∧ F2 D = none ∧ D ∉ ρ2 ∧ DenVs K F2 ρ2 us acc ∧ acc.length ≤ i + 1 ∧ acc ++ rest = ys ∧
      loopC ix.g g t el (wipeE env vs) (ix.items.drop (i + 1)) mhx = some (rest, mh2), fun H' h => ⟨ix.items.length - (i + 1), by omega, rfl, hlt, h⟩, fun x H3 hy => ?_⟩
    obtain ⟨F3, w3, g3, d3⟩ := yl x H3 hy
    refine ⟨_, _, _, _, _, _, _, rl2.grow w3 g3, d3, f4, fun F4 ρ4 σ4 H4 r4 g4 wp => ⟨(wp vs hsl).trans (wipe_twice vs fun _ h => h), _, _, _, _, _, _, r4, f5, fun F5 ρ5 H5 w5 g5 => ?_⟩⟩
    have g25 : Gr F2 ρ2 H2 F5 ρ5 H5 := (g3.trans g4).trans g5
    cases b with
    | true =>
      obtain ⟨y, mh6, f6, e7⟩ := M.bind_some.mp e6
      obtain ⟨zs, mh7, f7, e8⟩ := M.bind_some.mp e7
      cases e8
      refine ⟨_, _, _, _, _, _, r4.grow w5 g5, f6, fun F6 ρ6 H6 u6 w6 g6 d6 => ?_⟩
      have g26 := g25.trans g6
      obtain ⟨a1, a2, a3⟩ := g26.fr D _ hD2 hF2 hρ2
      have hsm := ok.small
      refine ⟨us, a1, by rw [d2.length]; omega, mh6, F6, ρ6, acc ++ [y], us ++ [u6], zs, w6.updO a2 a3, (g2.next g26).upd, upd_same, a2, a3, (d2.grow g26).append (.cons d6 .nil), by rw [List.length_append, List.length_singleton]; omega, by rw [← ey]; simp, f7⟩
    | false =>
      obtain ⟨a1, a2, a3⟩ := g25.fr D _ hD2 hF2 hρ2
      exact ⟨mh5, F5, ρ5, acc, us, rest, w5, g2.next g25, a1, a2, a3, d2.grow g25, by omega, ey, e6⟩
  · have hie : i = ix.items.length := by omega
    subst hie
    rw [List.drop_length] at e3
    obtain ⟨_, mh3, f3, e4⟩ := M.bind_some.mp e3
    obtain ⟨k1, k2⟩ := chkG_some f3
    cases k2
    cases e4
    refine .inl ⟨ok.stop w2 g2.ext g2.pre k1, ?_⟩
    rw [List.append_nil] at ey
    subst ey
    have p : PostR K mh2 F2 ρ2 (del H2 D) Q (.nl acc) := finR_ok eb fun F' ρ' H' u w' g' d' => q F' ρ' H' u w' (g1.trans ((g2.gr hD).trans g')) d'
    have fin := p.list (w2.del hF2 hρ2) del_same d2 (Nat.le_trans hl ok.small)
    rw [upd_del hD2] at fin
    exact fin
section
variable {X : Cx} {pos : Pos}
theorem se_lc {c : Bool} {elt tg iter : Expr} {ifs : List Expr} {scope : Scope} {own : List (Str × Nat)} {sl : List Nat} {mi : Sl → M Ix} {g : Val → Sl → M Sl} {t : Sl → M Bool} {el : Sl → M Val} (hc : X.calm = true) (hN : X.N.Nodup) (hi : SI X tg iter mi) (ok : BlkOk X.N X.env.scope scope own) (hsl : ∀ i ∈ sl, i ∈ own.map (·.2))
    (hg : ∀ (s : Shared) (H : Hp) (C : Addr) (cl : List (Str × Addr)) (fp : List Addr), SG (X.blk s H scope (compEnvC scope cl C X.env) fp) tg sl g) (ht : ∀ (s : Shared) (H : Hp) (C : Addr) (cl : List (Str × Addr)) (fp : List Addr), SPs (X.blk s H scope (compEnvC scope cl C X.env) fp) ifs t)
    (he : ∀ (s : Shared) (H : Hp) (C : Addr) (cl : List (Str × Addr)) (fp : List Addr), SE (X.blk s H scope (compEnvC scope cl C X.env) fp) elt el) (hs : ∀ x, foldedSetIterable iter X.env x = pure x) :
    SE X (.ListComp elt [⟨tg, iter, ifs, 0⟩] scope pos) (mLc c mi (own.map (·.2)) g t el) :=
  SE.mk (pe_lc (g := tGt X.K sl g) (tt := tTs X.K t) (te := tE X.K el) hc hN hi ok hg ht he hs) fun Q rl e q => lc_sem Q hsl rl e q
theorem ss_setLc {c : Bool} {i : Nat} {y : Str} {py spos : Pos} {elt tg iter : Expr} {ifs : List Expr} {scope : Scope} {own : List (Str × Nat)} {sl : List Nat} {mi : Sl → M Ix} {g : Val → Sl → M Sl} {t : Sl → M Bool} {el : Sl → M Val} (hc : X.calm = true) (hN : X.N.Nodup) (hy : X.N[i]? = some y) (hyl : X.env.scope.names.lookup y = some .local)
    (hsw : swapsWith (.ListComp elt [⟨tg, iter, ifs, 0⟩] scope pos) (some (.Name y py)) spos.line X.env = pure true) (hi : SI X tg iter mi) (ok : BlkOk X.N X.env.scope scope own) (hsl : ∀ i ∈ sl, i ∈ own.map (·.2))
    (hg : ∀ (s : Shared) (H : Hp) (C : Addr) (cl : List (Str × Addr)) (fp : List Addr), SG (X.blk s H scope (compEnvC scope cl C X.env) fp) tg sl g) (ht : ∀ (s : Shared) (H : Hp) (C : Addr) (cl : List (Str × Addr)) (fp : List Addr), SPs (X.blk s H scope (compEnvC scope cl C X.env) fp) ifs t)
    (he : ∀ (s : Shared) (H : Hp) (C : Addr) (cl : List (Str × Addr)) (fp : List Addr), SE (X.blk s H scope (compEnvC scope cl C X.env) fp) elt el) (hs : ∀ x, foldedSetIterable iter X.env x = pure x) :
    SS X (.Assign [.Name y py] (.ListComp elt [⟨tg, iter, ifs, 0⟩] scope pos) spos) (mAsg (mLc c mi (own.map (·.2)) g t el) (gNm i)) :=
  SS.mk (ps_setLc (g := tGt X.K sl g) (tt := tTs X.K t) (te := tE X.K el) hc hN hy hyl hsw hi ok hg ht he hs) fun D rl e q => by
    obtain ⟨v, mh1, e1, ea⟩ := M.bind_some.mp e
    obtain ⟨env', mh2, e2, eb⟩ := M.bind_some.mp ea
    cases eb
    cases e2
    exact lc_sem _ hsl rl e1 fun F1 ρ1 H1 u w1 g1 d1 => q _ _ _ _ ((rl.grow w1 g1).set i d1) g1
end

/-! ### dict comprehensions -/
def mergeV (kvs more : List (Key × Val)) : List (Key × Val) := more.foldl (fun acc kv => putV acc kv.1 kv.2) kvs
theorem mergeV_length : ∀ (more kvs : List (Key × Val)), (mergeV kvs more).length ≤ kvs.length + more.length
  | [], kvs => Nat.le_refl _
  | p :: more, kvs => by
    have := mergeV_length more (putV kvs p.1 p.2)
    have := putV_length kvs p.1 p.2
    show (mergeV (putV kvs p.1 p.2) more).length ≤ _
    rw [List.length_cons]
    omega
def mKv (mk mv : Sl → M Val) (env : Sl) : M (Key × Val) := do
  let y ← mk env
  let z ← mv env
  let k ← ofO (keyVl y)
  pure (k, z)
noncomputable def mDc (c : Bool) (mi : Sl → M Ix) (vs : List Nat) (g : Val → Sl → M Sl) (t : Sl → M Bool) (mk mv : Sl → M Val) (env : Sl) : M Val := do
  let ix ← mi env
  let ys ← loopC ix.g g t (mKv mk mv) (wipeE env vs) ix.items
  finR c (.nd (mergeV [] ys))
theorem dc_sem {K : PySem.W.Frag} {c : Bool} {mi : Sl → M Ix} {vs sl : List Nat} {g : Val → Sl → M Sl} {t : Sl → M Bool} {mk mv : Sl → M Val} {env : Sl} {mh mh' : List Ob} {F : Hp} {ρ : List Addr} {σ : L2.St} {H : Hp} {v : Val} (Q : VK) (hsl : ∀ i ∈ sl, i ∈ vs)
    (rl : Rl K env mh F ρ σ H) (e : mDc c mi vs g t mk mv env mh = some (v, mh')) (q : ∀ F' ρ' H' u, Wd K mh' F' ρ' H' → Gr F ρ H F' ρ' H' → DenV K F' ρ' u v → Q u H') :
    tDc (tIt K mi) (tGt K sl g) (tTs K t) (tE K mk) (tE K mv) vs σ H Q := by
  obtain ⟨ix, mh1, e1, ea⟩ := M.bind_some.mp e
  obtain ⟨ys, mh2, e2, eb⟩ := M.bind_some.mp ea
  refine ⟨_, _, _, _, _, _, rl, e1, fun J F1 ρ1 H1 w1 g1 ok D hD => ?_⟩
  have hFD := w1.freshF hD
  have hρD := w1.freshρ hD
  refine ⟨fun i m H2 => m = ix.items.length - i ∧ i ≤ ix.items.length ∧ ∃ mhx F2 ρ2 acc us rest, Wd K mhx F2 ρ2 H2 ∧ GrD D F1 ρ1 H1 F2 ρ2 H2 ∧ H2 D = some (.dK us) ∧ F2 D = none ∧ D ∉ ρ2 ∧ DenVK K F2 ρ2 us acc ∧ acc.length ≤ i ∧ mergeV acc rest = mergeV [] ys ∧
    loopC ix.g g t (mKv mk mv) (wipeE env vs) (ix.items.drop i) mhx = some (rest, mh2), ⟨ix.items.length, rfl, Nat.zero_le _, mh1, F1, ρ1, [], [], ys, w1.updO hFD hρD, .of, upd_same, hFD, hρD, .nil, Nat.le_refl _, rfl, e2⟩, ?_⟩
  rintro i m H2 ⟨rfl, hi2, mhx, F2, ρ2, acc, us, rest, w2, g2, hD2, hF2, hρ2, d2, hl, ey, e3⟩
  have rl2 : Rl K (wipeE env vs) mhx F2 ρ2 (wipe σ vs) H2 := by
    refine ⟨w2, (rl.wiped vs).len, fun j x hx => ?_⟩
    obtain ⟨u, a1, a2⟩ := (rl.wiped vs).get j x hx
    exact ⟨u, a1, a2.mono (g1.rd.trans g2.rd) (g1.pre.trans g2.pre)⟩
  by_cases hlt : i < ix.items.length
  · rw [List.drop_eq_getElem_cons hlt] at e3
    obtain ⟨_, mh3, f3, e4⟩ := M.bind_some.mp e3
    obtain ⟨k1, k2⟩ := chkG_some f3
    cases k2
    obtain ⟨env4, mh4, f4, e5⟩ := M.bind_some.mp e4
    obtain ⟨b, mh5, f5, e6⟩ := M.bind_some.mp e5
    obtain ⟨go, yl⟩ := ok.go w2 g2.ext g2.pre k1 (List.getElem?_eq_getElem hlt)
    refine .inr ⟨go, fun H' => ∃ mhx F2 ρ2 acc us rest, Wd K mhx F2 ρ2 H' ∧ GrD D F1 ρ1 H1 F2 ρ2 H' ∧ H' D = some (.dK us) ∧ F2 D = none ∧ D ∉ ρ2 ∧ DenVK K F2 ρ2 us acc ∧ acc.length ≤ i + 1 ∧ mergeV acc rest = mergeV [] ys ∧
      loopC ix.g g t (mKv mk mv) (wipeE env vs) (ix.items.drop (i + 1)) mhx = some (rest, mh2), fun H' h => ⟨ix.items.length - (i + 1), by omega, rfl, hlt, h⟩, fun x H3 hy => ?_⟩
    obtain ⟨F3, w3, g3, d3⟩ := yl x H3 hy
    refine ⟨_, _, _, _, _, _, _, rl2.grow w3 g3, d3, f4, fun F4 ρ4 σ4 H4 r4 g4 wp => ⟨(wp vs hsl).trans (wipe_twice vs fun _ h => h), _, _, _, _, _, _, r4, f5, fun F5 ρ5 H5 w5 g5 => ?_⟩⟩
    have g25 : Gr F2 ρ2 H2 F5 ρ5 H5 := (g3.trans g4).trans g5
    cases b with
    | true =>
      obtain ⟨y, mh6, f6, e7⟩ := M.bind_some.mp e6
      obtain ⟨zs, mh7, f7, e8⟩ := M.bind_some.mp e7
      cases e8
      obtain ⟨vk, mh8, f8, e9⟩ := M.bind_some.mp f6
      obtain ⟨vz, mh9, f9, e10⟩ := M.bind_some.mp e9
      obtain ⟨k, mh10, f10, e11⟩ := M.bind_some.mp e10
      obtain ⟨h1, h2⟩ := ofO_some.mp f10
      simp only at h1 h2
      subst h2
      cases e11
      refine ⟨_, _, _, _, _, _, r4.grow w5 g5, f8, fun F6 ρ6 H6 u6 w6 g6 d6 => ⟨_, _, _, _, _, _, (r4.grow w5 g5).grow w6 g6, f9, fun F7 ρ7 H7 u7 w7 g7 d7 => ?_⟩⟩
      have g26 := (g25.trans g6).trans g7
      obtain ⟨a1, a2, a3⟩ := g26.fr D _ hD2 hF2 hρ2
      have hsm := ok.small
      refine ⟨us, k, key_den d6 h1, a1, by rw [show us.length = acc.length from d2.length]; omega, _, F7, ρ7, putV acc k vz, putK us k u7, zs, w7.updO a2 a3, (g2.next g26).upd, upd_same, a2, a3, putV_den d7 (d2.mono g26.rd g26.pre), Nat.le_trans (putV_length _ _ _) (by omega), ey, f7⟩
    | false =>
      obtain ⟨a1, a2, a3⟩ := g25.fr D _ hD2 hF2 hρ2
      exact ⟨mh5, F5, ρ5, acc, us, rest, w5, g2.next g25, a1, a2, a3, d2.mono g25.rd g25.pre, by omega, ey, e6⟩
  · have hie : i = ix.items.length := by omega
    subst hie
    rw [List.drop_length] at e3
    obtain ⟨_, mh3, f3, e4⟩ := M.bind_some.mp e3
    obtain ⟨k1, k2⟩ := chkG_some f3
    cases k2
    cases e4
    refine .inl ⟨ok.stop w2 g2.ext g2.pre k1, ?_⟩
    have ey : acc = mergeV [] ys := ey
    subst ey
    have p : PostR K mh2 F2 ρ2 (del H2 D) Q (.nd (mergeV [] ys)) := finR_ok eb fun F' ρ' H' u w' g' d' => q F' ρ' H' u w' (g1.trans ((g2.gr hD).trans g')) d'
    have fin := p _ _ us D (w2.del hF2 hρ2) .refl (Nat.le_trans hl ok.small) d2 del_same
    rw [upd_del hD2] at fin
    exact fin
section
variable {X : Cx} {pos : Pos}
theorem se_dc {c : Bool} {kx vx tg iter : Expr} {ifs : List Expr} {scope : Scope} {own : List (Str × Nat)} {sl : List Nat} {mi : Sl → M Ix} {g : Val → Sl → M Sl} {t : Sl → M Bool} {mk mv : Sl → M Val} (hc : X.calm = true) (hN : X.N.Nodup) (hi : SI X tg iter mi) (ok : BlkOk X.N X.env.scope scope own) (hsl : ∀ i ∈ sl, i ∈ own.map (·.2))
    (hg : ∀ (s : Shared) (H : Hp) (C : Addr) (cl : List (Str × Addr)) (fp : List Addr), SG (X.blk s H scope (compEnvC scope cl C X.env) fp) tg sl g) (ht : ∀ (s : Shared) (H : Hp) (C : Addr) (cl : List (Str × Addr)) (fp : List Addr), SPs (X.blk s H scope (compEnvC scope cl C X.env) fp) ifs t)
    (hk : ∀ (s : Shared) (H : Hp) (C : Addr) (cl : List (Str × Addr)) (fp : List Addr), SE (X.blk s H scope (compEnvC scope cl C X.env) fp) kx mk)
    (he : ∀ (s : Shared) (H : Hp) (C : Addr) (cl : List (Str × Addr)) (fp : List Addr), SE (X.blk s H scope (compEnvC scope cl C X.env) fp) vx mv) (hs : ∀ x, foldedSetIterable iter X.env x = pure x) :
    SE X (.DictComp kx vx [⟨tg, iter, ifs, 0⟩] scope pos) (mDc c mi (own.map (·.2)) g t mk mv) :=
  SE.mk (pe_dc (g := tGt X.K sl g) (tt := tTs X.K t) (tk := tE X.K mk) (tv := tE X.K mv) hc hN hi ok hg ht hk he hs) fun Q rl e q => dc_sem Q hsl rl e q
/-- name = {..} on one line, the name a local -/
theorem ps_setDc {i : Nat} {y : Str} {py : Pos} {kx vx tg iter : Expr} {ifs : List Expr} {scope : Scope} {own : List (Str × Nat)} {spos : Pos} {wi : TI} {g : TG} {tt : TT} {tk tv : TE} (hc : X.calm = true) (hN : X.N.Nodup) (hy : X.N[i]? = some y) (hyl : X.env.scope.names.lookup y = some .local)
    (hsw : swapsWith (.DictComp kx vx [⟨tg, iter, ifs, 0⟩] scope pos) (some (.Name y py)) spos.line X.env = pure true) (hi : PI X tg iter wi) (ok : BlkOk X.N X.env.scope scope own)
    (hg : ∀ (s : Shared) (H : Hp) (C : Addr) (cl : List (Str × Addr)) (fp : List Addr), PG (X.blk s H scope (compEnvC scope cl C X.env) fp) tg g) (ht : ∀ (s : Shared) (H : Hp) (C : Addr) (cl : List (Str × Addr)) (fp : List Addr), PTs (X.blk s H scope (compEnvC scope cl C X.env) fp) ifs tt)
    (hk : ∀ (s : Shared) (H : Hp) (C : Addr) (cl : List (Str × Addr)) (fp : List Addr), PE (X.blk s H scope (compEnvC scope cl C X.env) fp) kx tk)
    (he : ∀ (s : Shared) (H : Hp) (C : Addr) (cl : List (Str × Addr)) (fp : List Addr), PE (X.blk s H scope (compEnvC scope cl C X.env) fp) vx tv) (hs : ∀ x, foldedSetIterable iter X.env x = pure x) :
    PS X (.Assign [.Name y py] (.DictComp kx vx [⟨tg, iter, ifs, 0⟩] scope pos) spos) (tAsg (tDc wi g tt tk tv (own.map (·.2))) (gName i)) := by
  refine ⟨fun pins s σ H D I h => ?_⟩
  rw [exec_Assign_Name_used _ _ _ _ hsw]
  refine wpAny_bind (wpAny_standAt (wpAny_bind ?_))
  show wpAny _ X.A (do let _ ← comprehension (.DictComp kx vx [⟨tg, iter, ifs, 0⟩] scope pos) scope X.env (firstIterPos [⟨tg, iter, ifs, 0⟩] pos) newDict false (eval iter X.env) (some (assign (.Name y py) X.env))) _ _ s
  have h : tDc wi g tt tk tv (own.map (·.2)) σ H (fun x H1 => gName i x σ H1 D.nx) := h
  refine wpAny_bind (thn (dc_core (Qf := fun _ s' => SP X pins D .next s') hc hN I hi ok hg ht hk he hs h fun L C s' m H' I' q hn f => ?_) fun _ s' hq => wpAny_pure (wpAny_pure hq))
  show wpAny _ _ (assign (.Name y py) X.env (.ref L)) _ _ _
  refine wpAny_assign_Name (store_ok2 (v := V.ref L) I' hN hy (.inl hyl) rfl (fun s2 I2 ⟨a, sb, ha⟩ => ?_) (.inr hyl))
  obtain ⟨f0, f1, f2, f3, f4, f5⟩ := f
  have haC : C ≠ a := by
    rcases ha with z | z
    · rw [z]; exact f1
    · exact fun e => f4 y a z e.symm
  refine ⟨m, hn.sameBut sb haC, fun h3 sb3 => ?_⟩
  exact ⟨_, H', I2.turned (t' := s2.toks) (fun b o hb e => (sb3.2 b hb).trans e) f0 f1 f3 f4 f5, q⟩
theorem ss_setDc {c : Bool} {i : Nat} {y : Str} {py spos : Pos} {kx vx tg iter : Expr} {ifs : List Expr} {scope : Scope} {own : List (Str × Nat)} {sl : List Nat} {mi : Sl → M Ix} {g : Val → Sl → M Sl} {t : Sl → M Bool} {mk mv : Sl → M Val} (hc : X.calm = true) (hN : X.N.Nodup) (hy : X.N[i]? = some y) (hyl : X.env.scope.names.lookup y = some .local)
    (hsw : swapsWith (.DictComp kx vx [⟨tg, iter, ifs, 0⟩] scope pos) (some (.Name y py)) spos.line X.env = pure true) (hi : SI X tg iter mi) (ok : BlkOk X.N X.env.scope scope own) (hsl : ∀ i ∈ sl, i ∈ own.map (·.2))
    (hg : ∀ (s : Shared) (H : Hp) (C : Addr) (cl : List (Str × Addr)) (fp : List Addr), SG (X.blk s H scope (compEnvC scope cl C X.env) fp) tg sl g) (ht : ∀ (s : Shared) (H : Hp) (C : Addr) (cl : List (Str × Addr)) (fp : List Addr), SPs (X.blk s H scope (compEnvC scope cl C X.env) fp) ifs t)
    (hk : ∀ (s : Shared) (H : Hp) (C : Addr) (cl : List (Str × Addr)) (fp : List Addr), SE (X.blk s H scope (compEnvC scope cl C X.env) fp) kx mk)
    (he : ∀ (s : Shared) (H : Hp) (C : Addr) (cl : List (Str × Addr)) (fp : List Addr), SE (X.blk s H scope (compEnvC scope cl C X.env) fp) vx mv) (hs : ∀ x, foldedSetIterable iter X.env x = pure x) :
    SS X (.Assign [.Name y py] (.DictComp kx vx [⟨tg, iter, ifs, 0⟩] scope pos) spos) (mAsg (mDc c mi (own.map (·.2)) g t mk mv) (gNm i)) :=
  SS.mk (ps_setDc (g := tGt X.K sl g) (tt := tTs X.K t) (tk := tE X.K mk) (tv := tE X.K mv) hc hN hy hyl hsw hi ok hg ht hk he hs) fun D rl e q => by
    obtain ⟨v, mh1, e1, ea⟩ := M.bind_some.mp e
    obtain ⟨env', mh2, e2, eb⟩ := M.bind_some.mp ea
    cases eb
    cases e2
    exact dc_sem _ hsl rl e1 fun F1 ρ1 H1 u w1 g1 d1 => q _ _ _ _ ((rl.grow w1 g1).set i d1) g1

/-! ### calls of defs -/
def spF (K : PySem.W.Frag) (n : Nat) (m : List Val → M Val) : Sp := fun us H Q _ => us.length = n ∧ ∃ mh F ρ vs v mh', Wd K mh F ρ H ∧ DenVs K F ρ us vs ∧ m vs mh = some (v, mh') ∧ ∀ F' ρ' H' u, Wd K mh' F' ρ' H' → Gr F ρ H F' ρ' H' → DenV K F' ρ' u v → Q u H'
def mCall (f : List Val → M Val) (as : Sl → M (List Val)) (env : Sl) : M Val := do
  let vs ← as env
  f vs
theorem se_call {f : Addr} {fd : FuncData} {ps : List Str} {k : Nat} {m : List Val → M Val} {x : Str} {p : Pos} {e0 : Expr} {es : List Expr} {as : Sl → M (List Val)} (F : FnOk X.prog X.w X.K X.mg X.base L2.CX0 k f fd ps (spF X.K ps.length m)) (hr : Room k X.A) (hg : Gl X x) (hm : X.mg x = some (.ref f)) (hk : PySem.W.keepIn X.K (.ref f) = true) (hb : Binds X.K fd ps [])
    (ha : SA X (e0 :: es) as) (hl : (e0 :: es).length = ps.length) (hdb : (x == ("__debug__" : Str)) = false) (he : starEach (e0 :: es) X.env = (false, eval e0 X.env) :: starEach es X.env) (hpl : (backTo pos (starEach es X.env)).any (·.1) = false)
    (hal : ∀ {env : Sl} {mh mh' : List Ob} {vs : List Val}, as env mh = some (vs, mh') → vs.length = (e0 :: es).length) :
    SE X (.Call (.Name x p) (e0 :: es) [] pos) (mCall m as) :=
  SE.mk (pe_call F hr hg hm hk hb .nil L2.pass0 ha hdb he hpl) fun Q rl e q => by
    obtain ⟨vs, mh1, e1, ea⟩ := M.bind_some.mp e
    refine ⟨_, _, _, _, _, _, rl, e1, fun F1 ρ1 H1 us w1 g1 d1 => ?_⟩
    show spF X.K ps.length m (us ++ []) H1 Q L2.E0
    rw [List.append_nil]
    exact ⟨by rw [d1.length, hal e1, hl], _, _, _, _, _, _, w1, d1, ea, fun F' ρ' H' u w g d => q F' ρ' H' u w (g1.trans g) d⟩
theorem se_call0 {f : Addr} {fd : FuncData} {k : Nat} {m : List Val → M Val} {x : Str} {p : Pos} (F : FnOk X.prog X.w X.K X.mg X.base L2.CX0 k f fd [] (spF X.K 0 m)) (hr : Room k X.A) (hg : Gl X x) (hm : X.mg x = some (.ref f)) (hk : PySem.W.keepIn X.K (.ref f) = true) (hb : Binds X.K fd [] [])
    (hdb : (x == ("__debug__" : Str)) = false) : SE X (.Call (.Name x p) [] [] pos) (mCall m (mArgs [])) :=
  SE.mk (pe_call0 F hr hg hm hk hb .nil L2.pass0 hdb) fun Q rl e q => by
    obtain ⟨vs, mh1, e1, ea⟩ := M.bind_some.mp e
    cases e1
    exact ⟨rfl, _, _, _, _, _, _, rl.wd, .nil, ea, fun F' ρ' H' u w g d => q F' ρ' H' u w g d⟩
end

/-! ### a def's frame: the cells that it made are dropped -/
def Val.below (n : Nat) : Val → Bool
  | .d _ => true
  | .ref m => decide (m < n)
def Ob.below (n : Nat) : Ob → Bool
  | .lst vs => vs.all (·.below n)
  | .dct kvs => kvs.all fun kv => kv.2.below n
  | .dead => true
  | .ins _ fs => fs.all fun kv => kv.2.below n
  | .dtk kvs => kvs.all fun kv => kv.2.below n
/-- the elder cells hold no younger ones -/
def cutOk (n : Nat) : List Ob → List Ob → Prop
  | o :: os, o' :: os' => (o' = o ∨ o'.below n = true) ∧ cutOk n os os'
  | [], _ => True
  | _ :: _, [] => False
/-- how many cells stay behind a def: those that were, and the one handed back with what was made ahead of it -/
def keepN (n : Nat) : Val → Nat
  | .d _ => n
  | .ref m => if m < n then n else m + 1
open Classical in
noncomputable def frame (f : List Val → M Val) (vs : List Val) : M Val := fun mh => match f vs mh with
  | some (v, mh') => if cutOk (keepN mh.length v) mh mh' ∧ ((mh'.take (keepN mh.length v)).drop mh.length).all (·.below (keepN mh.length v)) = true then some (v, mh'.take (keepN mh.length v)) else none
  | none => none
end Pv

/-! PX: repr (where no code is guarded around), math.gcd -/
namespace Pv
open PySem PySem.Spec PyProof.Rows L2

def isSq : Dt → Bool
  | .tuple _ => true
  | .list _ => true
  | _ => false
def repOk (d : Dt) : Bool := isSq d && d.showable && !d.hasDict && decide (d.shown.length ≤ sizeLine) && decide (d.depth ≤ 60)
def reprV (_ : List Ob) : List Val → Option Rv
  | [.d d] => if repOk d then some (.v (.d (.str d.shown))) else none
  | _ => none
section
variable {X : Cx} {F : Hp} {H : Hp} {s : Shared} {pins : List (Addr × Obj)} {σ : L2.St}
mutual
theorem den_reads (I : L2.Inv X pins σ H s) (r : Rle F H) : ∀ {v : V} {d : Dt} {u : Value}, Den X.K F v d → d.hasDict = false → RelV v u → ∃ as, Reads s.heap u d as
  | _, _, u, .non, _, rv => by cases (show u = Value.none from rv); exact ⟨_, .none⟩
  | _, _, u, .bl b, _, rv => by cases (show u = Value.bool b from rv); exact ⟨_, .bool b⟩
  | _, _, u, .int i, _, rv => by obtain ⟨t, rfl⟩ := rv; exact ⟨_, .int i t⟩
  | _, _, u, .str x, _, rv => by obtain ⟨t, rfl⟩ := rv; exact ⟨_, .str x t⟩
  | _, _, u, .lst (a := a) (xs := xs) (ds := ds) q z h, hd, rv => by
    cases (show u = Value.ref a from rv)
    obtain ⟨its, rr, pl, hl⟩ := I.list (r.sqL q)
    obtain ⟨o, n, ho, hc, _, hdt⟩ := pl
    have hd : PyData.hasDictAll ds = false := by unfold PyData.hasDict at hd; exact hd
    obtain ⟨as, ra⟩ := dens_reads I r h hd rr
    exact ⟨_, .list ho hc hdt (by rw [List.toList_toArray]; exact ra)⟩
  | _, _, u, .tup (a := a) (xs := xs) (ds := ds) q z h _, hd, rv => by
    cases (show u = Value.ref a from rv)
    obtain ⟨its, rr, pl, hl⟩ := I.tuple (r.sqT q)
    obtain ⟨o, ho, hc, n, hdt⟩ := pl
    have hd : PyData.hasDictAll ds = false := by unfold PyData.hasDict at hd; exact hd
    obtain ⟨as, ra⟩ := dens_reads I r h hd rr
    exact ⟨_, .tuple ho hc hdt (by rw [List.toList_toArray]; exact ra)⟩
  | _, _, u, .dct q z h, hd, rv => by unfold PyData.hasDict at hd; cases hd
theorem dens_reads (I : L2.Inv X pins σ H s) (r : Rle F H) : ∀ {vs : List V} {ds : List Dt} {us : List Value}, DenAll X.K F vs ds → PyData.hasDictAll ds = false → Vals vs us → ∃ as, ReadsAll s.heap us ds as
  | _, _, _, .nil, _, .nil => ⟨_, .nil⟩
  | _, _, _, .cons a b, hd, .cons p q => by
    unfold PyData.hasDictAll at hd
    rw [Bool.or_eq_false_iff] at hd
    obtain ⟨as, h1⟩ := den_reads I r a hd.1 p
    obtain ⟨bs, h2⟩ := dens_reads I r b hd.2 q
    exact ⟨_, .cons h1 h2⟩
end
end
theorem calls_repr {X : Cx} (hg : X.A.guards = some []) (hu : X.A.units + 65 < cLine) : CallS X (.builtin "repr") reprV := by
  refine ⟨fun xs H Q => ∃ (a : Addr) (F : Hp) (d : Dt), xs = [.ref a] ∧ Den X.K F (.ref a) d ∧ Rle F H ∧ repOk d = true ∧ Q (.str d.shown) H, ?_, ?_⟩
  · intro pins s σ H xs us Q I rx h
    obtain ⟨a, F, d, rfl, hD, hr, hok, q⟩ := h
    obtain ⟨u, us', e, ru, rn⟩ : ∃ u us', us = u :: us' ∧ RelV (.ref a) u ∧ Vals [] us' := by
      cases rx with
      | cons p q => exact ⟨_, _, rfl, p, q⟩
    cases rn
    cases (show u = Value.ref a from ru)
    subst e
    unfold repOk at hok
    simp only [Bool.and_eq_true, decide_eq_true_eq, Bool.not_eq_true'] at hok
    obtain ⟨⟨⟨⟨h1, h2⟩, h3⟩, h4⟩, h5⟩ := hok
    obtain ⟨as, rd⟩ := den_reads I hr hD h3 rfl
    refine repr_of_reads' rd h2 (fun z => by rw [h3] at z; cases z) hg (by omega) (fun b o e => e) (fun h' u tk hk => ?_) h4
    exact ⟨.str d.shown, H, I.turnedL (t' := tk) (ch := []) (fun b o _ e => hk b o e) (fun b hb => nomatch hb), ⟨u, rfl⟩, q⟩
  · intro mh F ρ H xs vs rv Q w dd e q
    unfold reprV at e
    split at e
    · rename_i d
      split at e
      · rename_i hok
        cases e
        cases dd with
        | cons p pn =>
          cases pn
          have p : Den X.K F _ d := p
          have hs : isSq d = true := by
            unfold repOk at hok
            simp only [Bool.and_eq_true] at hok
            exact hok.1.1.1.1
          cases p with
          | lst a b c => exact ⟨_, F, _, rfl, .lst a b c, w.rle, hok, q.here w (Den.str _)⟩
          | tup a b c nd => exact ⟨_, F, _, rfl, .tup a b c nd, w.rle, hok, q.here w (Den.str _)⟩
          | non => cases hs
          | bl b => cases hs
          | int b => cases hs
          | str b => cases hs
          | dct a b c => cases hs
      · cases e
    · cases e
def gcdV (_ : List Ob) : List Val → Option Rv
  | [.d (.int a), .d (.int b)] => some (.v (.d (.int ((Nat.gcd a.natAbs b.natAbs : Nat) : Int))))
  | _ => none
theorem calls_gcd {X : Cx} : CallS X (.builtin "math.gcd") gcdV := by
  refine ⟨rGcd, cr_gcd, ?_⟩
  intro mh F ρ H xs vs rv Q w dd e q
  unfold gcdV at e
  split at e
  · cases e
    cases dd with
    | cons p pn =>
      cases pn with
      | cons p2 pn2 =>
        cases pn2
        cases den_int p
        cases den_int p2
        exact ⟨_, _, rfl, q.here w (Den.int _)⟩
  · cases e
section
variable {X : Cx} {pos : Pos}
theorem se_biG {x : Str} {id : String} {f : List Ob → List Val → Option Rv} {c : Bool} {e0 : Expr} {es : List Expr} {as : Sl → M (List Val)} {p : Pos} (o : CallS X (.builtin id) f) (hg : Gl X x) (hm : X.mg x = some (.builtin id)) (h : SA X (e0 :: es) as)
    (hdb : (x == ("__debug__" : Str)) = false) (he : starEach (e0 :: es) X.env = (false, eval e0 X.env) :: starEach es X.env) (hpl : (backTo pos (starEach es X.env)).any (·.1) = false) : SE X (.Call (.Name x p) (e0 :: es) [] pos) (mBi f c as) := by
  obtain ⟨r, o1, o2⟩ := o
  refine SE.mk (pe_callBfun o1 hg hm h hdb he hpl) fun Q rl e q => ?_
  obtain ⟨vs, mh1, e1, e_1⟩ := M.bind_some.mp e
  obtain ⟨rv, mh2, e2, e_2⟩ := M.bind_some.mp e_1
  obtain ⟨e2, e3⟩ := rdM_some.mp e2
  simp only at e2 e3
  subst e3
  exact ⟨_, _, _, _, _, _, rl, e1, fun F1 ρ1 H1 us w1 g1 d1 => o2 Q w1 d1 e2 (finR_ok e_2 fun F' ρ' H' u w g d => q F' ρ' H' u w (g1.trans g) d)⟩
end
end Pv

/-! PC: instances, dicts by tuples, comprehensions of two clauses -/
namespace Pv
open PySem PySem.Spec PyProof.Rows L2

/-! ### fields -/
def putFV (f : Str) (v : Val) : List (Str × Val) → List (Str × Val)
  | [] => [(f, v)]
  | (g, x) :: r => if g = f then (g, v) :: r else (g, x) :: putFV f v r
theorem putFV_length (f : Str) (v : Val) : ∀ fs : List (Str × Val), (putFV f v fs).length ≤ fs.length + 1
  | [] => Nat.le_refl _
  | (g, x) :: r => by
    have := putFV_length f v r
    unfold putFV
    split
    · exact Nat.le_succ _
    · rw [List.length_cons, List.length_cons]; omega
section
variable {K : PySem.W.Frag} {mh : List Ob} {F : Hp} {ρ : List Addr} {H : Hp}
theorem DenVA.length {κ : Type} {us : List (κ × V)} {vs : List (κ × Val)} (h : DenVA K F ρ us vs) : us.length = vs.length := Paired.length h
theorem fld_some {f : Str} : ∀ {us : List (Str × V)} {fs : List (Str × Val)} {v : Val}, DenVA K F ρ us fs → fs.lookup f = some v → ∃ u, us.lookup f = some u ∧ DenV K F ρ u v
  | _, _, _, .nil, e => by cases e
  | (g, x) :: us, (g', y) :: fs, v, .cons a b, e => by
    have e1 : g = g' := a.1
    subst e1
    by_cases h : f = g
    · have hb : (f == g) = true := beq_iff_eq.mpr h
      simp only [List.lookup, hb] at e ⊢
      cases e
      exact ⟨x, rfl, a.2⟩
    · have hb : (f == g) = false := beq_eq_false_iff_ne.mpr h
      simp only [List.lookup, hb] at e ⊢
      exact fld_some b e
theorem fld_none {f : Str} : ∀ {us : List (Str × V)} {fs : List (Str × Val)}, DenVA K F ρ us fs → fs.lookup f = none → us.lookup f = none
  | _, _, .nil, e => rfl
  | (g, x) :: us, (g', y) :: fs, .cons a b, e => by
    have e1 : g = g' := a.1
    subst e1
    by_cases h : f = g
    · have hb : (f == g) = true := beq_iff_eq.mpr h
      simp only [List.lookup, hb] at e
      cases e
    · have hb : (f == g) = false := beq_eq_false_iff_ne.mpr h
      simp only [List.lookup, hb] at e ⊢
      exact fld_none b e
theorem putF_den {f : Str} {u : V} {v : Val} (d : DenV K F ρ u v) : ∀ {us : List (Str × V)} {fs : List (Str × Val)}, DenVA K F ρ us fs → DenVA K F ρ (L2.putF f u us) (putFV f v fs)
  | _, _, .nil => .cons ⟨rfl, d⟩ .nil
  | (g, x) :: us, (g', y) :: fs, .cons a b => by
    have e1 : g = g' := a.1
    subst e1
    by_cases h : g = f
    · show DenVA K F ρ (if g = f then (g, u) :: us else (g, x) :: L2.putF f u us) (if g = f then (g, v) :: fs else (g, y) :: putFV f v fs)
      rw [if_pos h, if_pos h]
      exact .cons ⟨rfl, d⟩ b
    · show DenVA K F ρ (if g = f then (g, u) :: us else (g, x) :: L2.putF f u us) (if g = f then (g, v) :: fs else (g, y) :: putFV f v fs)
      rw [if_neg h, if_neg h]
      exact .cons a (putF_den d b)
end
/-- the class of the name C stands at Ca -/
abbrev ClAt (K : PySem.W.Frag) (C : Str) (Ca : Addr) : Prop := PySem.W.nsIn K mainGlobals C = some (some (.ref Ca))
/-- the object that a value is: its cell, its class, its attributes -/
def insOf (mh : List Ob) : Val → Option (Str × List (Str × Val))
  | .ref n => match mh[n]? with
    | some (.ins C fs) => some (C, fs)
    | _ => none
  | _ => none
theorem insOf_ok {K : PySem.W.Frag} {mh : List Ob} {F : Hp} {ρ : List Addr} {H : Hp} {u : V} {v : Val} {C : Str} {fs : List (Str × Val)} (w : Wd K mh F ρ H) (d : DenV K F ρ u v) (h : insOf mh v = some (C, fs)) :
    ∃ (n : Nat) (a Ca dx : Addr) (us : List (Str × V)), v = .ref n ∧ mh[n]? = some (.ins C fs) ∧ ρ[n]? = some a ∧ u = .ref a ∧ ClAt K C Ca ∧ H a = some (.ins Ca dx us) ∧ DenVA K F ρ us fs ∧ fs.length ≤ 999 := by
  unfold insOf at h
  split at h
  · rename_i n
    split at h
    · rename_i C' fs' e
      cases h
      obtain ⟨a, ea, rfl⟩ := d
      obtain ⟨z, Ca, dx, us, h1, h2, h3⟩ := w.cell n a _ ea e
      exact ⟨n, a, Ca, dx, us, rfl, e, ea, rfl, h1, h2, h3, z⟩
    · cases h
  · cases h
/-! o.f -/
def mFld (Cs : List Str) (f : Str) (o : Sl → M Val) (env : Sl) : M Val := do
  let x ← o env
  rdM fun mh => (insOf mh x).bind fun p => if Cs.contains p.1 then p.2.lookup f else none
section
variable {X : Cx} {pos pos' : Pos} {o a value : Expr} {mo ma : Sl → M Val}
theorem se_fld {Cs : List Str} {f : Str} (hC : ∀ C ∈ Cs, ∀ Ca, ClAt X.K C Ca → Cls X.K Ca ∧ NoAttr X.K Ca f) (ho : SE X o mo) (hb : attributeBase o f X.env (eval o X.env) = eval o X.env) : SE X (.Attribute o f pos) (mFld Cs f mo) :=
  SE.mk (pe_fld ho hb) fun Q rl e q => by
    obtain ⟨x, mh1, e1, ea⟩ := M.bind_some.mp e
    obtain ⟨e2, e3⟩ := rdM_some.mp ea
    simp only at e2 e3
    subst e3
    refine ⟨_, _, _, _, _, _, rl, e1, fun F1 ρ1 H1 u w1 g1 d1 => ?_⟩
    obtain ⟨p, e4, e5⟩ := Option.bind_eq_some_iff.mp e2
    obtain ⟨C, fs⟩ := p
    have e5 : (if Cs.contains C then fs.lookup f else none) = some _ := e5
    by_cases hc : Cs.contains C = true
    · rw [if_pos hc] at e5
      obtain ⟨n, a, Ca, dx, us, rfl, h1, h2, rfl, h3, h4, h5, _⟩ := insOf_ok w1 d1 e4
      obtain ⟨c1, c2⟩ := hC C (List.contains_iff_mem.mp hc) Ca h3
      obtain ⟨z, h6, h7⟩ := fld_some h5 e5
      exact ⟨a, Ca, dx, us, z, rfl, h4, c1, c2, h6, q _ _ _ _ w1 g1 h7⟩
    · rw [if_neg hc] at e5; cases e5
/-! o.f = e -/
def setF (Cs : List Str) (f : Str) (x v : Val) : M Unit := fun mh => match x with
  | .ref n => match mh[n]? with
    | some (.ins C fs) => if Cs.contains C ∧ fs.length < 999 then some ((), mh.set n (.ins C (putFV f v fs))) else none
    | _ => none
  | _ => none
theorem setF_ok {K : PySem.W.Frag} {mh mh' : List Ob} {F : Hp} {ρ : List Addr} {H : Hp} {u uv : V} {x v : Val} {Cs : List Str} {f : Str} (w : Wd K mh F ρ H) (d : DenV K F ρ u x) (dv : DenV K F ρ uv v) (h : setF Cs f x v mh = some ((), mh')) :
    ∃ (a Ca dx : Addr) (us : List (Str × V)) (C : Str), C ∈ Cs ∧ ClAt K C Ca ∧ u = .ref a ∧ H a = some (.ins Ca dx us) ∧ us.length < 999 ∧ Wd K mh' F ρ (upd H a (.ins Ca dx (L2.putF f uv us))) ∧ Gr F ρ H F ρ (upd H a (.ins Ca dx (L2.putF f uv us))) := by
  unfold setF at h
  split at h
  · rename_i n
    split at h
    · rename_i C fs e
      split at h
      · rename_i hc
        cases h
        obtain ⟨a, ea, rfl⟩ := d
        obtain ⟨z, Ca, dx, us, h1, h2, h3⟩ := w.cell n a _ ea e
        obtain ⟨w', g'⟩ := w.write (u := .ins Ca dx (L2.putF f uv us)) (o := .ins C (putFV f v fs)) ea e rfl ⟨Nat.le_trans (putFV_length _ _ _) hc.2, Ca, dx, _, h1, upd_same, putF_den dv h3⟩
        exact ⟨a, Ca, dx, us, C, List.contains_iff_mem.mp hc.1, h1, rfl, h2, by rw [h3.length]; exact hc.2, w', g'⟩
      · cases h
    · cases h
  · cases h
def mSetF (Cs : List Str) (f : Str) (o a : Sl → M Val) (env : Sl) : M Fl := do
  let v ← a env
  let x ← o env
  setF Cs f x v
  pure (.nx env)
theorem ss_fld {Cs : List Str} {f : Str} (hC : ∀ C ∈ Cs, ∀ Ca, ClAt X.K C Ca → Cls X.K Ca ∧ NoAttr X.K Ca f) (ho : SE X o mo) (ha : SE X value ma) (hs : swapsWith value (some (.Attribute o f pos')) pos.line X.env = pure false) :
    SS X (.Assign [.Attribute o f pos'] value pos) (mSetF Cs f mo ma) :=
  SS.mk (ps_fld ho ha hs) fun D rl e q => by
    obtain ⟨v, mh1, e1, ea⟩ := M.bind_some.mp e
    obtain ⟨x, mh2, e2, eb⟩ := M.bind_some.mp ea
    obtain ⟨_, mh3, e3, ec⟩ := M.bind_some.mp eb
    cases ec
    refine ⟨_, _, _, _, _, _, rl, e1, fun F1 ρ1 H1 u1 w1 g1 d1 => ⟨_, _, _, _, _, _, rl.grow w1 g1, e2, fun F2 ρ2 H2 u2 w2 g2 d2 => ?_⟩⟩
    obtain ⟨a, Ca, dx, us, C, hm, h1, rfl, h2, h3, w3, g3⟩ := setF_ok w2 d2 (d1.grow g2) e3
    obtain ⟨c1, c2⟩ := hC C hm Ca h1
    exact ⟨a, Ca, dx, us, rfl, h2, c1, c2, by omega, q _ _ _ _ (rl.grow w3 ((g1.trans g2).trans g3)) ((g1.trans g2).trans g3)⟩
/-! C(..) -/
def mMk (C : Str) (f : List Val → M Val) (as : Sl → M (List Val)) (env : Sl) : M Val := do
  let vs ← as env
  fun mh => match f (.ref mh.length :: vs) (mh ++ [.ins C []]) with
    | some (.d .none, mh') => some (.ref mh.length, mh')
    | _ => none
theorem mk_sem {K : PySem.W.Frag} {mh mh' : List Ob} {F : Hp} {ρ : List Addr} {H : Hp} {C : Str} {Ca : Addr} {f : List Val → M Val} {us : List V} {vs : List Val} {v : Val} {n : Nat} {E : XK} (Q : VK) (hC : ClAt K C Ca) (hn : us.length + 1 = n) (w : Wd K mh F ρ H) (d : DenVs K F ρ us vs)
    (e : (match f (.ref mh.length :: vs) (mh ++ [.ins C []]) with | some (.d .none, mh') => some (.ref mh.length, mh') | _ => none) = some (v, mh')) (q : ∀ F' ρ' H' u, Wd K mh' F' ρ' H' → Gr F ρ H F' ρ' H' → DenV K F' ρ' u v → Q u H') :
    ∀ x dx, H x = none → H dx = none → dx ≠ x → spF K n f (.ref x :: (us ++ [])) (upd (upd H dx (.own x)) x (.ins Ca dx [])) (fun v H2 => v = .non ∧ Q (.ref x) H2) E := by
  intro x dx hx hdx ne
  split at e
  · rename_i mh1 e1
    cases e
    have hFx := w.freshF hdx
    have hρx := w.freshρ hdx
    have w0 : Wd K mh F ρ (upd H dx (.own x)) := w.updO hFx hρx
    have g0 : Gr F ρ H F ρ (upd H dx (.own x)) := ⟨fun _ _ h => h, List.prefix_refl _, fun a o h1 h2 h3 => ⟨by rw [upd_ne (ne_of_none h1 hdx)]; exact h1, h2, h3⟩⟩
    have hx2 : upd H dx (.own x) x = none := by rw [upd_ne (Ne.symm ne)]; exact hx
    obtain ⟨w1, g1⟩ := w0.newC (u := .ins Ca dx []) (o := .ins C []) hx2 ⟨Nat.zero_le _, Ca, dx, [], hC, upd_same, .nil⟩
    have g01 := g0.trans g1
    have hl : (ρ ++ [x])[mh.length]? = some x := by rw [← w.len, List.getElem?_append_right (Nat.le_refl _), Nat.sub_self]; rfl
    refine ⟨by rw [List.append_nil, List.length_cons]; exact hn, _, _, _, _, _, _, w1, ?_, e1, fun F' ρ' H' u w' g' d' => ⟨den_non d', q _ _ _ _ w' (g01.trans g') ?_⟩⟩
    · rw [List.append_nil]
      exact .cons ⟨x, hl, rfl⟩ (d.grow g01)
    · obtain ⟨t, et⟩ := g'.pre
      exact ⟨x, by rw [← et, List.getElem?_append_left (List.getElem?_eq_some_iff.mp hl).1]; exact hl, rfl⟩
  · cases e
theorem se_mk {C : Str} {Ca f : Addr} {fd : FuncData} {ps : List Str} {k : Nat} {m : List Val → M Val} {x : Str} {p : Pos} {e0 : Expr} {es : List Expr} {as : Sl → M (List Val)} (hC : ClAt X.K C Ca) (Mq : Mk X.K Ca f) (F : FnOk X.prog X.w X.K X.mg X.base L2.CX0 k f fd ps (spF X.K ps.length m)) (hr : Room (k + 1) X.A) (hg : Gl X x) (hm : X.mg x = some (.ref Ca)) (hb : Binds X.K fd ps [])
    (ha : SA X (e0 :: es) as) (hl : (e0 :: es).length + 1 = ps.length) (hdb : (x == ("__debug__" : Str)) = false) (he : starEach (e0 :: es) X.env = (false, eval e0 X.env) :: starEach es X.env) (hpl : (backTo pos (starEach es X.env)).any (·.1) = false)
    (hal : ∀ {env : Sl} {mh mh' : List Ob} {vs : List Val}, as env mh = some (vs, mh') → vs.length = (e0 :: es).length) :
    SE X (.Call (.Name x p) (e0 :: es) [] pos) (mMk C m as) :=
  SE.mk (pe_make Mq F hr hg hm hb .nil L2.pass0 ha hdb he hpl) fun Q rl e q => by
    obtain ⟨vs, mh1, e1, ea⟩ := M.bind_some.mp e
    refine ⟨_, _, _, _, _, _, rl, e1, fun F1 ρ1 H1 us w1 g1 d1 => ?_⟩
    exact mk_sem Q hC (by rw [d1.length, hal e1, hl]) w1 d1 ea fun F' ρ' H' u w g d => q F' ρ' H' u w (g1.trans g) d
theorem se_mk0 {C : Str} {Ca f : Addr} {fd : FuncData} {ps : List Str} {k : Nat} {m : List Val → M Val} {x : Str} {p : Pos} (hC : ClAt X.K C Ca) (Mq : Mk X.K Ca f) (F : FnOk X.prog X.w X.K X.mg X.base L2.CX0 k f fd ps (spF X.K ps.length m)) (hr : Room (k + 1) X.A) (hg : Gl X x) (hm : X.mg x = some (.ref Ca)) (hb : Binds X.K fd ps [])
    (hl : 1 = ps.length) (hdb : (x == ("__debug__" : Str)) = false) : SE X (.Call (.Name x p) [] [] pos) (mMk C m (mArgs [])) :=
  SE.mk (pe_make0 Mq F hr hg hm hb .nil L2.pass0 hdb) fun Q rl e q => by
    obtain ⟨vs, mh1, e1, ea⟩ := M.bind_some.mp e
    cases e1
    exact mk_sem Q hC hl rl.wd .nil ea q
end
end Pv

/-! PD: methods of instances; dicts by tuples -/
namespace Pv
open PySem PySem.Spec PyProof.Rows L2

/-! ### o.m(..): the kit's pe_meth for any o -/
section
variable {X : Cx} {CX : CXT} {k : Nat} {f C : Addr} {fd : FuncData} {ps : List Str} {sp : Sp} {E : XK} {m : Str} {pos apos : Pos} {e o : Expr} {es : List Expr} {ta : TE} {t : TA}
theorem pv_meth (he : PE X o ta) (c : Cls X.K C) (hm : Meth X.K C m f) (F : FnOk X.prog X.w X.K X.mg X.base CX k f fd ps sp) (hr : Room k X.A) (hb : Binds X.K fd ps []) (hx : Passes CX X E) (ha : PA X (e :: es) t)
    (hbase : attributeBase o m X.env (eval o X.env) = eval o X.env)
    (hfew : ((backTo pos (starEach (e :: es) X.env)).all (fun x => !x.1) && (backToKw pos (keywordEach [] X.env)).all (fun x => x.1.isSome)
      && decide ((e :: es).length + ([] : List Keyword).length + (if ([] : List Keyword).isEmpty then 0 else 1) < 30)) = true)
    (hline : (apos.endLine == pos.line) = true)
    (hst : starEach (e :: es) X.env = (false, eval e X.env) :: starEach es X.env) (hpl : (backTo pos (starEach es X.env)).any (·.1) = false) :
    PE X (.Call (.Attribute o m apos) (e :: es) [] pos) (tMeth C m sp [] E ta t) := by
  refine ⟨fun pins s σ H Q I h => ?_⟩
  rw [arm_eval_Call, hbase]
  refine wpAny_bind (wpAny_mono (he.run pins s σ H _ I h) (fun u s1 ⟨x, H1, I1, rx, a, dx, fs, ex, ea, l, q⟩ => ?_) fun _ _ z => z)
  subst ex
  obtain rfl : u = Value.ref a := rx
  refine wpAny_bind (wpAny_standAt ?_)
  have hform : methodCallForm ((e :: es).length + ([] : List Keyword).length) (backTo pos (starEach (e :: es) X.env)) (backToKw pos (keywordEach [] X.env)) = true := hfew
  have hpos : methodCallPos true o X.env apos pos = pure pos := by unfold methodCallPos; simp [hline]
  unfold methodCall
  rw [hform]
  refine wpAny_bind (wpAny_holding ?_)
  refine getmeth_ok I1 ea c hm l ?_
  refine wpAny_bind (wpAny_of_eq hpos ?_)
  refine PySem.W.callWith_K (first := [.ref a]) (h₀ := X.base) I.ok.mod.kin hm.kp (thn (ha.run pos pins s1 σ H1 _ I1 q) fun us s2 ⟨vs, H2, I2, r, q2⟩ => ⟨I2.kIn, ?_⟩) hst hpl
  exact run_fn (us := .ref a :: us) (vs := .ref a :: vs) F hr hb .nil hx I2 (.cons rfl r) q2
theorem pv_meth0 (he : PE X o ta) (c : Cls X.K C) (hm : Meth X.K C m f) (F : FnOk X.prog X.w X.K X.mg X.base CX k f fd ps sp) (hr : Room k X.A) (hb : Binds X.K fd ps []) (hx : Passes CX X E)
    (hbase : attributeBase o m X.env (eval o X.env) = eval o X.env) (hline : (apos.endLine == pos.line) = true) :
    PE X (.Call (.Attribute o m apos) [] [] pos) (tMeth C m sp [] E ta tNil) := by
  refine ⟨fun pins s σ H Q I h => ?_⟩
  rw [arm_eval_Call, hbase]
  refine wpAny_bind (wpAny_mono (he.run pins s σ H _ I h) (fun u s1 ⟨x, H1, I1, rx, a, dx, fs, ex, ea, l, q⟩ => ?_) fun _ _ z => z)
  subst ex
  obtain rfl : u = Value.ref a := rx
  refine wpAny_bind (wpAny_standAt ?_)
  have hform : methodCallForm (([] : List Expr).length + ([] : List Keyword).length) (backTo pos (starEach [] X.env)) (backToKw pos (keywordEach [] X.env)) = true := rfl
  have hpos : methodCallPos true o X.env apos pos = pure pos := by unfold methodCallPos; simp [hline]
  unfold methodCall
  rw [hform]
  refine wpAny_bind (wpAny_holding ?_)
  refine getmeth_ok I1 ea c hm l ?_
  refine wpAny_bind (wpAny_of_eq hpos ?_)
  exact PySem.W.callWith_K0 (first := [.ref a]) I1.kIn hm.kp (run_fn (us := [.ref a]) (vs := [.ref a]) F hr hb .nil hx I1 (.cons rfl .nil) q)
end
/-- o.m(..): by the class that o is of -/
def mMc (alts : List (Str × (List Val → M Val))) (m : Str) (o : Sl → M Val) (as : Sl → M (List Val)) (env : Sl) : M Val := do
  let x ← o env
  let p ← rdM fun mh => insOf mh x
  match alts.lookup p.1, p.2.lookup m with
  | some f, none => do
    let vs ← as env
    f (x :: vs)
  | _, _ => fun _ => none
section
variable {X : Cx} {pos apos : Pos} {o e0 : Expr} {es : List Expr} {mo : Sl → M Val} {as : Sl → M (List Val)} {m : Str} {k : Nat} {alts : List (Str × (List Val → M Val))}
theorem se_mcall (hA : ∀ C f, alts.lookup C = some f → ∃ Ca, ClAt X.K C Ca ∧ Cls X.K Ca ∧ ∃ (addr : Addr) (fd : FuncData) (ps : List Str), Meth X.K Ca m addr ∧ FnOk X.prog X.w X.K X.mg X.base L2.CX0 k addr fd ps (spF X.K ps.length f) ∧ Binds X.K fd ps [] ∧ ps.length = (e0 :: es).length + 1)
    (hr : Room k X.A) (ho : SE X o mo) (ha : SA X (e0 :: es) as) (hbase : attributeBase o m X.env (eval o X.env) = eval o X.env)
    (hfew : ((backTo pos (starEach (e0 :: es) X.env)).all (fun x => !x.1) && (backToKw pos (keywordEach [] X.env)).all (fun x => x.1.isSome)
      && decide ((e0 :: es).length + ([] : List Keyword).length + (if ([] : List Keyword).isEmpty then 0 else 1) < 30)) = true)
    (hline : (apos.endLine == pos.line) = true) (hst : starEach (e0 :: es) X.env = (false, eval e0 X.env) :: starEach es X.env) (hpl : (backTo pos (starEach es X.env)).any (·.1) = false)
    (hal : ∀ {env : Sl} {mh mh' : List Ob} {vs : List Val}, as env mh = some (vs, mh') → vs.length = (e0 :: es).length) : SE X (.Call (.Attribute o m apos) (e0 :: es) [] pos) (mMc alts m mo as) := by
  refine ⟨fun pins s σ H Q I h1 => ?_⟩
  obtain ⟨env, mh, F, ρ, v, mh', rl, e, q⟩ := h1
  obtain ⟨x, mh1, e1, ea⟩ := M.bind_some.mp e
  obtain ⟨p, mh2, e2, eb⟩ := M.bind_some.mp ea
  obtain ⟨e2, e3⟩ := rdM_some.mp e2
  simp only at e2 e3
  subst e3
  obtain ⟨C, fs⟩ := p
  have eb : (match alts.lookup C, fs.lookup m with | some f, none => (do let vs ← as env; f (x :: vs) : M Val) | _, _ => fun _ => none) _ = some (v, mh') := eb
  cases hf : alts.lookup C with
  | none => rw [hf] at eb; cases eb
  | some f =>
    cases hn : fs.lookup m with
    | some z => rw [hf, hn] at eb; cases eb
    | none =>
      rw [hf, hn] at eb
      obtain ⟨vs, mh3, e4, ec⟩ := M.bind_some.mp eb
      obtain ⟨Ca, hCa, c1, addr, fd, ps, c2, c3, c4, c5⟩ := hA C f hf
      refine (pv_meth (E := L2.E0) ho c1 c2 c3 hr c4 L2.pass0 ha hbase hfew hline hst hpl).run pins s σ H Q I ⟨_, _, _, _, _, _, rl, e1, fun F1 ρ1 H1 u w1 g1 d1 => ?_⟩
      obtain ⟨n, a, Ca', dx, us, rfl, h1, h2, rfl, h3, h4, h5, _⟩ := insOf_ok w1 d1 e2
      have ec2 : Ca' = Ca := by
        have := h3.symm.trans hCa
        cases this; rfl
      subst ec2
      refine ⟨a, dx, us, rfl, h4, fld_none h5 hn, _, _, _, _, _, _, rl.grow w1 g1, e4, fun F2 ρ2 H2 us2 w2 g2 d2 => ?_⟩
      refine ⟨by rw [List.append_nil, List.length_cons, d2.length, hal e4, c5], _, _, _, _, _, _, w2, ?_, ec, fun F' ρ' H' u w g d => q F' ρ' H' u w ((g1.trans g2).trans g) d⟩
      rw [List.append_nil]
      exact .cons (d1.grow g2) d2
theorem se_mcall0 (hA : ∀ C f, alts.lookup C = some f → ∃ Ca, ClAt X.K C Ca ∧ Cls X.K Ca ∧ ∃ (addr : Addr) (fd : FuncData) (ps : List Str), Meth X.K Ca m addr ∧ FnOk X.prog X.w X.K X.mg X.base L2.CX0 k addr fd ps (spF X.K ps.length f) ∧ Binds X.K fd ps [] ∧ ps.length = 1)
    (hr : Room k X.A) (ho : SE X o mo) (hbase : attributeBase o m X.env (eval o X.env) = eval o X.env) (hline : (apos.endLine == pos.line) = true) : SE X (.Call (.Attribute o m apos) [] [] pos) (mMc alts m mo (mArgs [])) := by
  refine ⟨fun pins s σ H Q I h1 => ?_⟩
  obtain ⟨env, mh, F, ρ, v, mh', rl, e, q⟩ := h1
  obtain ⟨x, mh1, e1, ea⟩ := M.bind_some.mp e
  obtain ⟨p, mh2, e2, eb⟩ := M.bind_some.mp ea
  obtain ⟨e2, e3⟩ := rdM_some.mp e2
  simp only at e2 e3
  subst e3
  obtain ⟨C, fs⟩ := p
  have eb : (match alts.lookup C, fs.lookup m with | some f, none => (do let vs ← mArgs [] env; f (x :: vs) : M Val) | _, _ => fun _ => none) _ = some (v, mh') := eb
  cases hf : alts.lookup C with
  | none => rw [hf] at eb; cases eb
  | some f =>
    cases hn : fs.lookup m with
    | some z => rw [hf, hn] at eb; cases eb
    | none =>
      rw [hf, hn] at eb
      obtain ⟨vs, mh3, e4, ec⟩ := M.bind_some.mp eb
      cases e4
      obtain ⟨Ca, hCa, c1, addr, fd, ps, c2, c3, c4, c5⟩ := hA C f hf
      refine (pv_meth0 (E := L2.E0) ho c1 c2 c3 hr c4 L2.pass0 hbase hline).run pins s σ H Q I ⟨_, _, _, _, _, _, rl, e1, fun F1 ρ1 H1 u w1 g1 d1 => ?_⟩
      obtain ⟨n, a, Ca', dx, us, rfl, h1, h2, rfl, h3, h4, h5, _⟩ := insOf_ok w1 d1 e2
      have ec2 : Ca' = Ca := by
        have := h3.symm.trans hCa
        cases this; rfl
      subst ec2
      refine ⟨a, dx, us, rfl, h4, fld_none h5 hn, ?_⟩
      exact ⟨c5.symm, _, _, _, _, _, _, w1, .cons d1 .nil, ec, fun F' ρ' H' u w g d => q F' ρ' H' u w (g1.trans g) d⟩
end
end Pv

/-! PT: dicts by tuples -/
namespace Pv
open PySem PySem.Spec PyProof.Rows L2
def keysL : List Val → Option (List Key)
  | [] => some []
  | v :: vs => match keyVl v, keysL vs with
    | some k, some ks => some (k :: ks)
    | _, _ => none
def findG {κ : Type} [DecidableEq κ] (kvs : List (κ × Val)) (k : κ) : Option Val := (kvs.find? fun kv => decide (kv.1 = k)).map (·.2)
def putG {κ : Type} [DecidableEq κ] (kvs : List (κ × Val)) (k : κ) (v : Val) : List (κ × Val) :=
  if (kvs.any fun kv => decide (kv.1 = k)) = true then kvs.map fun kv => if kv.1 = k then (kv.1, v) else kv else kvs ++ [(k, v)]
section
variable {K : PySem.W.Frag} {F : Hp} {ρ : List Addr} {κ : Type} [DecidableEq κ]
theorem keysL_den : ∀ {us : List V} {vs : List Val} {ks : List Key}, DenVs K F ρ us vs → keysL vs = some ks → us = ks.map kV
  | _, _, _, .nil, e => by cases e; rfl
  | _, v :: vs, ks, .cons a b, e => by
    unfold keysL at e
    cases h1 : keyVl v with
    | none => rw [h1] at e; cases e
    | some k =>
      cases h2 : keysL vs with
      | none => rw [h1, h2] at e; cases e
      | some ks' =>
        rw [h1, h2] at e
        cases e
        rw [key_den a h1, keysL_den b h2]; rfl
theorem findG_ok {k : κ} : ∀ {ks : List (κ × V)} {kvs : List (κ × Val)} {v : Val}, DenVA K F ρ ks kvs → findG kvs k = some v → ∃ u, valV ks k = some u ∧ DenV K F ρ u v
  | _, _, _, .nil, e => by cases e
  | (k1, u) :: ks, (k2, v) :: kvs, w, .cons ⟨e, d⟩ r, h => by
    have e : k1 = k2 := e
    subst e
    by_cases hk : k1 = k
    · subst hk
      have h2 : findG ((k1, v) :: kvs) k1 = some v := by simp [findG]
      rw [h2] at h
      cases h
      exact ⟨u, valV_pos rfl, d⟩
    · rw [show findG ((k1, v) :: kvs) k = findG kvs k by simp [findG, List.find?_cons, hk]] at h
      rw [show valV ((k1, u) :: ks) k = valV ks k from valV_neg hk]
      exact findG_ok r h
theorem putG_any {k : κ} : ∀ {ks : List (κ × V)} {kvs : List (κ × Val)}, DenVA K F ρ ks kvs → (ks.any fun kv => decide (kv.1 = k)) = kvs.any fun kv => decide (kv.1 = k)
  | _, _, .nil => rfl
  | _, _, .cons a b => by rw [List.any_cons, List.any_cons, putG_any b, a.1]
theorem putG_map {k : κ} {u : V} {v : Val} (d : DenV K F ρ u v) : ∀ {ks : List (κ × V)} {kvs : List (κ × Val)}, DenVA K F ρ ks kvs →
    DenVA K F ρ (ks.map fun kv => if kv.1 = k then (kv.1, u) else kv) (kvs.map fun kv => if kv.1 = k then (kv.1, v) else kv)
  | _, _, .nil => .nil
  | (k1, x) :: _, (k2, y) :: _, .cons a b => by
    have e : k1 = k2 := a.1
    subst e
    refine .cons ?_ (putG_map d b)
    by_cases h : k1 = k
    · simp only [h]; exact ⟨rfl, d⟩
    · show (if k1 = k then (k1, u) else (k1, x)).1 = (if k1 = k then (k1, v) else (k1, y)).1 ∧ DenV K F ρ (if k1 = k then (k1, u) else (k1, x)).2 (if k1 = k then (k1, v) else (k1, y)).2
      rw [if_neg h, if_neg h]; exact ⟨rfl, a.2⟩
theorem putG_snoc {k : κ} {u : V} {v : Val} (d : DenV K F ρ u v) : ∀ {ks : List (κ × V)} {kvs : List (κ × Val)}, DenVA K F ρ ks kvs → DenVA K F ρ (ks ++ [(k, u)]) (kvs ++ [(k, v)])
  | _, _, .nil => .cons ⟨rfl, d⟩ .nil
  | _, _, .cons a b => .cons a (putG_snoc d b)
theorem putG_den {k : κ} {u : V} {v : Val} (d : DenV K F ρ u v) {ks : List (κ × V)} {kvs : List (κ × Val)} (h : DenVA K F ρ ks kvs) : DenVA K F ρ (putK ks k u) (putG kvs k v) := by
  unfold putK putG
  rw [putG_any h]
  split
  · exact putG_map d h
  · exact putG_snoc d h
theorem putG_length (kvs : List (κ × Val)) (k : κ) (v : Val) : (putG kvs k v).length ≤ kvs.length + 1 := by
  unfold putG
  split
  · rw [List.length_map]; omega
  · rw [List.length_append]; exact Nat.le_refl _
end
/-- the key that a tuple display is -/
def keyT (vs : List Val) : Option (List Key) := if vs.length ≤ sizeLine then keysL vs else none
theorem keyT_some {vs : List Val} {k : List Key} (h : keyT vs = some k) : vs.length ≤ sizeLine ∧ keysL vs = some k := by
  unfold keyT at h
  split at h
  · exact ⟨‹_›, h⟩
  · cases h
def getT (mh : List Ob) (x : Val) (k : List Key) : Option Val := match x with
  | .ref n => match mh[n]? with
    | some (.dtk kvs) => findG kvs k
    | _ => none
  | _ => none
def mIxT (o : Sl → M Val) (as : Sl → M (List Val)) (env : Sl) : M Val := do
  let x ← o env
  let vs ← as env
  let k ← ofO (keyT vs)
  rdM fun mh => getT mh x k
def setT (x : Val) (k : List Key) (v : Val) : M Unit := fun mh => match x with
  | .ref n => match mh[n]? with
    | some (.dtk kvs) => if kvs.length < sizeLine then some ((), mh.set n (.dtk (putG kvs k v))) else none
    | _ => none
  | _ => none
def gSbT (mo : Sl → M Val) (as : Sl → M (List Val)) (v : Val) (env : Sl) : M Sl := do
  let x ← mo env
  let vs ← as env
  let k ← ofO (keyT vs)
  setT x k v
  pure env
def mDictT0 (_ : Sl) : M Val := alloc (.dtk [])
section
variable {X : Cx} {pos p2 : Pos} {o : Expr} {es : List Expr} {mo : Sl → M Val} {as : Sl → M (List Val)} {j : Nat}
theorem se_ixT (hu : X.A.units + 1 < cLine) (ho : SE X o mo) (ha : SA X es as) : SE X (.Subscript o (.Tuple es j p2) pos) (mIxT mo as) :=
  SE.mk (pe_dget hu ho (pe_tup ha) (fun _ _ => rfl)) fun Q rl e q => by
    obtain ⟨x, mh1, e1, ea⟩ := M.bind_some.mp e
    obtain ⟨vs, mh2, e2, eb⟩ := M.bind_some.mp ea
    obtain ⟨k, mh3, e3, ec⟩ := M.bind_some.mp eb
    obtain ⟨h1, h2⟩ := ofO_some.mp e3
    simp only at h1 h2
    subst h2
    obtain ⟨h3, h4⟩ := rdM_some.mp ec
    simp only at h3 h4
    subst h4
    obtain ⟨hl, hk⟩ := keyT_some h1
    refine ⟨_, _, _, _, _, _, rl, e1, fun F1 ρ1 H1 u w1 g1 d1 => ⟨_, _, _, _, _, _, rl.grow w1 g1, e2, fun F2 ρ2 H2 us w2 g2 d2 => ⟨by rw [d2.length]; exact hl, fun p hp => ?_⟩⟩⟩
    obtain ⟨w3, g3⟩ := w2.newF (o := .tup us) hp
    have d1' := d1.grow (g2.trans g3)
    unfold getT at h3
    split at h3
    · rename_i n
      split at h3
      · rename_i kvs e4
        obtain ⟨a, ea, rfl⟩ := d1'
        obtain ⟨z, ks, h5, h6⟩ := w3.cell n a _ ea e4
        obtain ⟨y, h7, h8⟩ := findG_ok h6 h3
        refine ⟨a, y, rfl, ?_, q _ _ _ _ w3 ((g1.trans g2).trans g3) h8⟩
        rw [← h7]
        exact DGet.t h5 (by rw [upd_same, keysL_den d2 hk])
      · cases h3
    · cases h3
theorem sg_subT (hu : X.A.units + 1 < cLine) (ho : SE X o mo) (ha : SA X es as)
    (hq : ∀ v, assign (.Subscript o (.Tuple es j p2) pos) X.env v = (do
      let ov ← holding [v] (eval o X.env)
      let iv ← holding [v, ov] (eval (.Tuple es j p2) X.env)
      standAt pos
      holding [v, ov, iv] (setItem ov iv v)
      release [v, ov, iv] [])) : SG X (.Subscript o (.Tuple es j p2) pos) [] (gSbT mo as) := by
  refine ⟨fun pins s σ H u w Q I r hw => ?_⟩
  obtain ⟨env, mh, F, ρ, v, env', mh', rl, d, e, q⟩ := hw
  obtain ⟨x, mh1, e1, ea⟩ := M.bind_some.mp e
  obtain ⟨vs, mh2, e2, eb⟩ := M.bind_some.mp ea
  obtain ⟨k, mh3, e3, ec⟩ := M.bind_some.mp eb
  obtain ⟨_, mh4, e4, ed⟩ := M.bind_some.mp ec
  cases ed
  obtain ⟨h1, h2⟩ := ofO_some.mp e3
  simp only at h1 h2
  subst h2
  obtain ⟨hl, hk⟩ := keyT_some h1
  refine (pg_sub ho (pe_tup ha) (set_dct hu) hq).run pins s σ H u w Q I r ⟨_, _, _, _, _, _, rl, e1, fun F1 ρ1 H1 u1 w1 g1 d1 => ⟨_, _, _, _, _, _, rl.grow w1 g1, e2, fun F2 ρ2 H2 us w2 g2 d2 => ⟨by rw [d2.length]; exact hl, fun p hp => ?_⟩⟩⟩
  obtain ⟨w3, g3⟩ := w2.newF (o := .tup us) hp
  have d1' := d1.grow (g2.trans g3)
  have dv := d.grow ((g1.trans g2).trans g3)
  unfold setT at e4
  split at e4
  · rename_i n
    split at e4
    · rename_i kvs e5
      split at e4
      · rename_i hz
        cases e4
        obtain ⟨a, ea, rfl⟩ := d1'
        obtain ⟨z, ks, h5, h6⟩ := w3.cell n a _ ea e5
        obtain ⟨w4, g4⟩ := w3.write (u := .dT (putK ks k u)) (o := .dtk (putG kvs k v)) ea e5 rfl ⟨Nat.le_trans (putG_length _ _ _) hz, _, upd_same, putG_den dv h6⟩
        exact ⟨a, _, rfl, DPut.t h5 (by rw [upd_same, keysL_den d2 hk]) (by rw [h6.length]; exact hz), q _ _ _ _ (rl.grow w4 (((g1.trans g2).trans g3).trans g4)) (((g1.trans g2).trans g3).trans g4) fun _ _ => rfl⟩
      · cases e4
    · cases e4
  · cases e4
theorem se_dictT0 : SE X (.Dict [] [] pos) mDictT0 :=
  SE.mk pe_dnewT fun Q rl e q => by
    cases e
    intro p hp
    obtain ⟨w', g'⟩ := rl.wd.newC (u := .dT []) (o := .dtk []) hp ⟨Nat.zero_le _, [], upd_same, .nil⟩
    exact q _ _ _ _ w' g' ⟨p, by rw [← rl.wd.len, List.getElem?_append_right (Nat.le_refl _), Nat.sub_self]; rfl, rfl⟩
end
/-- {k: v}: the dict stands before its entry -/
def putD (n : Nat) (k : Key) (v : Val) : M Val := fun mh => match mh[n]? with
  | some (.dct []) => some (.ref n, mh.set n (.dct [(k, v)]))
  | _ => none
def mDk (a b : Sl → M Val) (env : Sl) : M Val := fun mh => (do
  let _ ← alloc (.dct [])
  let y ← a env
  let z ← b env
  let k ← ofO (keyVl y)
  putD mh.length k z) mh
theorem se_dk {X : Cx} {pos : Pos} {a b : Expr} {ma mb : Sl → M Val} (ha : SE X a ma) (hb : SE X b mb) : SE X (.Dict [some a] [b] pos) (mDk ma mb) :=
  SE.mk (pe_disp (pps_cons ha hb pps_nil) rfl rfl (fun z => by cases z) (show 1 ≤ 15 by decide)) fun {env mh mh' F ρ σ H v} Q rl e q => by
    intro p hp
    obtain ⟨w0, g0⟩ := rl.wd.newC (u := .dK []) (o := .dct []) hp ⟨Nat.zero_le _, [], upd_same, .nil⟩
    obtain ⟨x0, mh0, e0, ea⟩ := M.bind_some.mp e
    cases e0
    obtain ⟨y, mh1, e1, eb⟩ := M.bind_some.mp ea
    obtain ⟨z, mh2, e2, ec⟩ := M.bind_some.mp eb
    obtain ⟨k, mh3, e3, ed⟩ := M.bind_some.mp ec
    obtain ⟨h1, h2⟩ := ofO_some.mp e3
    simp only at h1 h2
    subst h2
    have rl0 := rl.grow w0 g0
    show tE X.K ma σ _ _
    refine ⟨_, _, _, _, _, _, rl0, e1, fun F1 ρ1 H1 u w1 g1 d1 => ⟨_, _, _, _, _, _, rl0.grow w1 g1, e2, fun F2 ρ2 H2 u2 w2 g2 d2 => ?_⟩⟩
    unfold putD at ed
    split at ed
    · rename_i hn
      cases ed
      have hρ : (ρ ++ [p])[mh.length]? = some p := by rw [← rl.wd.len, List.getElem?_append_right (Nat.le_refl _), Nat.sub_self]; rfl
      have hpre : ρ ++ [p] <+: ρ2 := (g1.trans g2).pre
      have hρ2 : ρ2[mh.length]? = some p := by
        obtain ⟨t, ht⟩ := hpre
        rw [← ht, List.getElem?_append_left (List.getElem?_eq_some_iff.mp hρ).1]; exact hρ
      obtain ⟨_, ks, h5, h6⟩ := w2.cell _ p _ hρ2 hn
      cases h6
      have dk := key_den (d1.grow g2) h1
      refine ⟨h5, [(k, u2)], by rw [dk]; rfl, by show 1 ≤ 15; decide, ?_⟩
      obtain ⟨w4, g4⟩ := w2.write (u := .dK [(k, u2)]) (o := .dct [(k, z)]) hρ2 hn rfl ⟨by show 1 ≤ sizeLine; decide, _, upd_same, .cons ⟨rfl, d2⟩ .nil⟩
      exact q _ _ _ _ w4 (((g0.trans g1).trans g2).trans g4) ⟨p, hρ2, rfl⟩
    · cases ed
end Pv

/-! PL: list comprehensions of two clauses -/
namespace Pv
open PySem PySem.Spec PyProof.Rows L2
noncomputable def mIn {α : Type} (mi1 : Sl → M Ix) (vs1 : List Nat) (g1 : Val → Sl → M Sl) (t1 : Sl → M Bool) (el : Sl → M α) (env : Sl) : M (List α) := do
  let ix ← mi1 env
  loopC ix.g g1 t1 el (wipeE env vs1) ix.items
noncomputable def mLc2 (c : Bool) (mi : Sl → M Ix) (vs : List Nat) (g : Val → Sl → M Sl) (t : Sl → M Bool) (mi1 : Sl → M Ix) (vs1 : List Nat) (g1 : Val → Sl → M Sl) (t1 : Sl → M Bool) (el : Sl → M Val) (env : Sl) : M Val := do
  let ix ← mi env
  let ys ← loopC ix.g g t (mIn mi1 vs1 g1 t1 el) (wipeE env vs) ix.items
  if ys.flatten.length ≤ sizeLine then finR c (.nl ys.flatten) else fun _ => none
theorem lc2_sem {K : PySem.W.Frag} {c : Bool} {mi mi1 : Sl → M Ix} {vs vs1 sl sl1 : List Nat} {g g1 : Val → Sl → M Sl} {t t1 : Sl → M Bool} {el : Sl → M Val} {env : Sl} {mh mh' : List Ob} {F : Hp} {ρ : List Addr} {σ : L2.St} {H : Hp} {v : Val} (Q : VK) (hsl : ∀ i ∈ sl, i ∈ vs) (hsl1 : ∀ i ∈ sl1, i ∈ vs1)
    (rl : Rl K env mh F ρ σ H) (e : mLc2 c mi vs g t mi1 vs1 g1 t1 el env mh = some (v, mh')) (q : ∀ F' ρ' H' u, Wd K mh' F' ρ' H' → Gr F ρ H F' ρ' H' → DenV K F' ρ' u v → Q u H') :
    tLc2 (tIt K mi) (tGt K sl g) (tTs K t) (tIt K mi1) (tGt K sl1 g1) (tTs K t1) (tE K el) vs vs1 σ H Q := by
  obtain ⟨ix, mh1, e1, ea⟩ := M.bind_some.mp e
  obtain ⟨yss, mh2, e2, eb⟩ := M.bind_some.mp ea
  by_cases hys : yss.flatten.length ≤ sizeLine
  case neg => rw [if_neg hys] at eb; cases eb
  rw [if_pos hys] at eb
  generalize hfl : yss.flatten = ys at hys eb
  refine ⟨_, _, _, _, _, _, rl, e1, fun J F1 ρ1 H1 w1 g1' ok D hD => ?_⟩
  have hFD := w1.freshF hD
  have hρD := w1.freshρ hD
  refine ⟨fun i m H2 => m = ix.items.length - i ∧ i ≤ ix.items.length ∧ ∃ mhx F2 ρ2 acc us rest, Wd K mhx F2 ρ2 H2 ∧ GrD D F1 ρ1 H1 F2 ρ2 H2 ∧ H2 D = some (.lst us) ∧ F2 D = none ∧ D ∉ ρ2 ∧ DenVs K F2 ρ2 us acc ∧ acc ++ rest.flatten = ys ∧
    loopC ix.g g t (mIn mi1 vs1 g1 t1 el) (wipeE env vs) (ix.items.drop i) mhx = some (rest, mh2), ⟨ix.items.length, rfl, Nat.zero_le _, mh1, F1, ρ1, [], [], yss, w1.updO hFD hρD, .of, upd_same, hFD, hρD, .nil, by rw [← hfl]; rfl, e2⟩, ?_⟩
  rintro i m H2 ⟨rfl, hi2, mhx, F2, ρ2, acc, us, rest, w2, g2, hD2, hF2, hρ2, d2, ey, e3⟩
  have rl2 : Rl K (wipeE env vs) mhx F2 ρ2 (wipe σ vs) H2 := by
    refine ⟨w2, (rl.wiped vs).len, fun j x hx => ?_⟩
    obtain ⟨u, a1, a2⟩ := (rl.wiped vs).get j x hx
    exact ⟨u, a1, a2.mono (g1'.rd.trans g2.rd) (g1'.pre.trans g2.pre)⟩
  by_cases hlt : i < ix.items.length
  · rw [List.drop_eq_getElem_cons hlt] at e3
    obtain ⟨_, mh3, f3, e4⟩ := M.bind_some.mp e3
    obtain ⟨k1, k2⟩ := chkG_some f3
    cases k2
    obtain ⟨env4, mh4, f4, e5⟩ := M.bind_some.mp e4
    obtain ⟨b, mh5, f5, e6⟩ := M.bind_some.mp e5
    obtain ⟨go, yl⟩ := ok.go w2 g2.ext g2.pre k1 (List.getElem?_eq_getElem hlt)
    refine .inr ⟨go, fun H' => ∃ mhx F2 ρ2 acc us rest, Wd K mhx F2 ρ2 H' ∧ GrD D F1 ρ1 H1 F2 ρ2 H' ∧ H' D = some (.lst us) ∧ F2 D = none ∧ D ∉ ρ2 ∧ DenVs K F2 ρ2 us acc ∧ acc ++ rest.flatten = ys ∧
      loopC ix.g g t (mIn mi1 vs1 g1 t1 el) (wipeE env vs) (ix.items.drop (i + 1)) mhx = some (rest, mh2), fun H' h => ⟨ix.items.length - (i + 1), by omega, rfl, hlt, h⟩, fun x H3 hy => ?_⟩
    obtain ⟨F3, w3, g3, d3⟩ := yl x H3 hy
    refine ⟨_, _, _, _, _, _, _, rl2.grow w3 g3, d3, f4, fun F4 ρ4 σ4 H4 r4 g4 wp => ⟨(wp vs hsl).trans (wipe_twice vs fun _ h => h), _, _, _, _, _, _, r4, f5, fun F5 ρ5 H5 w5 g5 => ?_⟩⟩
    have g25 : Gr F2 ρ2 H2 F5 ρ5 H5 := (g3.trans g4).trans g5
    cases b with
    | false =>
      obtain ⟨a1, a2, a3⟩ := g25.fr D _ hD2 hF2 hρ2
      exact ⟨mh5, F5, ρ5, acc, us, rest, w5, g2.next g25, a1, a2, a3, d2.grow g25, ey, e6⟩
    | true =>
      obtain ⟨zs, mh6, f6, e7⟩ := M.bind_some.mp e6
      obtain ⟨rest', mh7, f7, e8⟩ := M.bind_some.mp e7
      cases e8
      obtain ⟨ix1, mh8, f8, e9⟩ := M.bind_some.mp f6
      rw [List.flatten_cons] at ey
      refine ⟨_, _, _, _, _, _, r4.grow w5 g5, f8, fun J1 F6 ρ6 H6 w6 g6 ok1 => ?_⟩
      have g26 := g25.trans g6
      obtain ⟨a1, a2, a3⟩ := g26.fr D _ hD2 hF2 hρ2
      refine ⟨fun j m H7 => m = ix1.items.length - j ∧ j ≤ ix1.items.length ∧ ∃ mhy F7 ρ7 acc us rest1, Wd K mhy F7 ρ7 H7 ∧ GrD D F1 ρ1 H1 F7 ρ7 H7 ∧ Ext F6 F7 ∧ ρ6 <+: ρ7 ∧ H7 D = some (.lst us) ∧ F7 D = none ∧ D ∉ ρ7 ∧ DenVs K F7 ρ7 us acc ∧ acc ++ (rest1 ++ rest'.flatten) = ys ∧
        loopC ix1.g g1 t1 el (wipeE env4 vs1) (ix1.items.drop j) mhy = some (rest1, mh6), ⟨ix1.items.length, rfl, Nat.zero_le _, mh8, F6, ρ6, acc, us, zs, w6, g2.next g26, fun _ _ h => h, List.prefix_refl _, a1, a2, a3, d2.grow g26, ey, e9⟩, ?_⟩
      rintro j m H7 ⟨rfl, hj2, mhy, F7, ρ7, acc, us, rest1, w7, g7, r67, p67, hD7, hF7, hρ7, d7, ey, e10⟩
      have rl7 : Rl K (wipeE env4 vs1) mhy F7 ρ7 (wipe σ4 vs1) H7 := by
        refine ⟨w7, (r4.wiped vs1).len, fun j x hx => ?_⟩
        obtain ⟨u, b1, b2⟩ := (r4.wiped vs1).get j x hx
        exact ⟨u, b1, b2.mono ((g5.rd.trans g6.rd).trans (Rle.same r67)) ((g5.pre.trans g6.pre).trans p67)⟩
      by_cases hjt : j < ix1.items.length
      · rw [List.drop_eq_getElem_cons hjt] at e10
        obtain ⟨_, mh9, f9, e11⟩ := M.bind_some.mp e10
        obtain ⟨k3, k4⟩ := chkG_some f9
        cases k4
        obtain ⟨env10, mh10, f10, e12⟩ := M.bind_some.mp e11
        obtain ⟨b, mh11, f11, e13⟩ := M.bind_some.mp e12
        obtain ⟨go1, yl1⟩ := ok1.go w7 r67 p67 k3 (List.getElem?_eq_getElem hjt)
        refine .inr ⟨go1, fun H7 => ∃ mhy F7 ρ7 acc us rest1, Wd K mhy F7 ρ7 H7 ∧ GrD D F1 ρ1 H1 F7 ρ7 H7 ∧ Ext F6 F7 ∧ ρ6 <+: ρ7 ∧ H7 D = some (.lst us) ∧ F7 D = none ∧ D ∉ ρ7 ∧ DenVs K F7 ρ7 us acc ∧ acc ++ (rest1 ++ rest'.flatten) = ys ∧
          loopC ix1.g g1 t1 el (wipeE env4 vs1) (ix1.items.drop (j + 1)) mhy = some (rest1, mh6), fun H' h => ⟨ix1.items.length - (j + 1), by omega, rfl, hjt, h⟩, fun x H8 hy => ?_⟩
        obtain ⟨F8, w8, g8, d8⟩ := yl1 x H8 hy
        refine ⟨_, _, _, _, _, _, _, rl7.grow w8 g8, d8, f10, fun F9 ρ9 σ9 H9 r9 g9 wp9 => ⟨(wp9 vs1 hsl1).trans (wipe_twice vs1 fun _ h => h), _, _, _, _, _, _, r9, f11, fun F10 ρ10 H10 w10 g10 => ?_⟩⟩
        have g710 : Gr F7 ρ7 H7 F10 ρ10 H10 := (g8.trans g9).trans g10
        cases b with
        | false =>
          obtain ⟨b1, b2, b3⟩ := g710.fr D _ hD7 hF7 hρ7
          exact ⟨mh11, F10, ρ10, acc, us, rest1, w10, g7.next g710, fun a o h => g710.ext a o (r67 a o h), p67.trans g710.pre, b1, b2, b3, d7.grow g710, ey, e13⟩
        | true =>
          obtain ⟨y, mh12, f12, e14⟩ := M.bind_some.mp e13
          obtain ⟨rs, mh13, f13, e15⟩ := M.bind_some.mp e14
          cases e15
          refine ⟨_, _, _, _, _, _, r9.grow w10 g10, f12, fun F11 ρ11 H11 u11 w11 g11 d11 => ?_⟩
          have g711 := g710.trans g11
          obtain ⟨b1, b2, b3⟩ := g711.fr D _ hD7 hF7 hρ7
          have hlen : acc.length < sizeLine := by
            have := congrArg List.length ey
            rw [List.length_append, List.length_append, List.length_cons] at this
            omega
          exact ⟨us, b1, by rw [d7.length]; exact hlen, mh12, F11, ρ11, acc ++ [y], us ++ [u11], rs, w11.updO b2 b3, (g7.next g711).upd, fun a o h => g711.ext a o (r67 a o h), p67.trans g711.pre, upd_same, b2, b3, (d7.grow g711).append (.cons d11 .nil), by rw [← ey]; simp, f13⟩
      · have hje : j = ix1.items.length := by omega
        subst hje
        rw [List.drop_length] at e10
        obtain ⟨_, mh9, f9, e11⟩ := M.bind_some.mp e10
        obtain ⟨k3, k4⟩ := chkG_some f9
        cases k4
        cases e11
        exact .inl ⟨ok1.stop w7 r67 p67 k3, mh6, F7, ρ7, acc, us, rest', w7, g7, hD7, hF7, hρ7, d7, by rw [← ey]; rfl, f7⟩
  · have hie : i = ix.items.length := by omega
    subst hie
    rw [List.drop_length] at e3
    obtain ⟨_, mh3, f3, e4⟩ := M.bind_some.mp e3
    obtain ⟨k1, k2⟩ := chkG_some f3
    cases k2
    cases e4
    refine .inl ⟨ok.stop w2 g2.ext g2.pre k1, ?_⟩
    rw [List.flatten_nil, List.append_nil] at ey
    subst ey
    have p : PostR K mh2 F2 ρ2 (del H2 D) Q (.nl acc) := finR_ok eb fun F' ρ' H' u w' g' d' => q F' ρ' H' u w' (g1'.trans ((g2.gr hD).trans g')) d'
    have fin := p.list (w2.del hF2 hρ2) del_same d2 hys
    rw [upd_del hD2] at fin
    exact fin
section
variable {X : Cx} {pos : Pos}
theorem se_lc2 {c : Bool} {elt tg iter tg1 iter1 : Expr} {ifs ifs1 : List Expr} {scope : Scope} {own : List (Str × Nat)} {sl sl1 vs1 : List Nat} {mi mi1 : Sl → M Ix} {g g1 : Val → Sl → M Sl} {t t1 : Sl → M Bool} {el : Sl → M Val} (hc : X.calm = true) (hN : X.N.Nodup) (hi : SI X tg iter mi) (ok : BlkOk X.N X.env.scope scope own) (hsl : ∀ i ∈ sl, i ∈ own.map (·.2)) (hsl1 : ∀ i ∈ sl1, i ∈ vs1) (hv : ∀ i ∈ vs1, i ∈ own.map (·.2))
    (hg : ∀ (s : Shared) (H : Hp) (C : Addr) (cl : List (Str × Addr)) (fp : List Addr), SG (X.blk s H scope (compEnvC scope cl C X.env) fp) tg sl g) (ht : ∀ (s : Shared) (H : Hp) (C : Addr) (cl : List (Str × Addr)) (fp : List Addr), SPs (X.blk s H scope (compEnvC scope cl C X.env) fp) ifs t)
    (hi1 : ∀ (s : Shared) (H : Hp) (C : Addr) (cl : List (Str × Addr)) (fp : List Addr), SI (X.blk s H scope (compEnvC scope cl C X.env) fp) tg1 iter1 mi1)
    (hg1 : ∀ (s : Shared) (H : Hp) (C : Addr) (cl : List (Str × Addr)) (fp : List Addr), SG (X.blk s H scope (compEnvC scope cl C X.env) fp) tg1 sl1 g1) (ht1 : ∀ (s : Shared) (H : Hp) (C : Addr) (cl : List (Str × Addr)) (fp : List Addr), SPs (X.blk s H scope (compEnvC scope cl C X.env) fp) ifs1 t1)
    (he : ∀ (s : Shared) (H : Hp) (C : Addr) (cl : List (Str × Addr)) (fp : List Addr), SE (X.blk s H scope (compEnvC scope cl C X.env) fp) elt el) (hs : ∀ x, foldedSetIterable iter X.env x = pure x) (hs1 : ∀ env x, foldedSetIterable iter1 env x = pure x) :
    SE X (.ListComp elt [⟨tg, iter, ifs, 0⟩, ⟨tg1, iter1, ifs1, 0⟩] scope pos) (mLc2 c mi (own.map (·.2)) g t mi1 vs1 g1 t1 el) :=
  SE.mk (pe_lc2 (wi1 := tIt X.K mi1) (g := tGt X.K sl g) (tt := tTs X.K t) (g1 := tGt X.K sl1 g1) (tt1 := tTs X.K t1) (te := tE X.K el) hc hN hi ok hv hg ht hi1 hg1 ht1 he hs hs1) fun Q rl e q => lc2_sem Q hsl hsl1 rl e q
theorem ss_setLc2 {c : Bool} {i : Nat} {y : Str} {py spos : Pos} {elt tg iter tg1 iter1 : Expr} {ifs ifs1 : List Expr} {scope : Scope} {own : List (Str × Nat)} {sl sl1 vs1 : List Nat} {mi mi1 : Sl → M Ix} {g g1 : Val → Sl → M Sl} {t t1 : Sl → M Bool} {el : Sl → M Val} (hc : X.calm = true) (hN : X.N.Nodup) (hy : X.N[i]? = some y) (hyl : X.env.scope.names.lookup y = some .local)
    (hsw : swapsWith (.ListComp elt [⟨tg, iter, ifs, 0⟩, ⟨tg1, iter1, ifs1, 0⟩] scope pos) (some (.Name y py)) spos.line X.env = pure true) (hi : SI X tg iter mi) (ok : BlkOk X.N X.env.scope scope own) (hsl : ∀ i ∈ sl, i ∈ own.map (·.2)) (hsl1 : ∀ i ∈ sl1, i ∈ vs1) (hv : ∀ i ∈ vs1, i ∈ own.map (·.2))
    (hg : ∀ (s : Shared) (H : Hp) (C : Addr) (cl : List (Str × Addr)) (fp : List Addr), SG (X.blk s H scope (compEnvC scope cl C X.env) fp) tg sl g) (ht : ∀ (s : Shared) (H : Hp) (C : Addr) (cl : List (Str × Addr)) (fp : List Addr), SPs (X.blk s H scope (compEnvC scope cl C X.env) fp) ifs t)
    (hi1 : ∀ (s : Shared) (H : Hp) (C : Addr) (cl : List (Str × Addr)) (fp : List Addr), SI (X.blk s H scope (compEnvC scope cl C X.env) fp) tg1 iter1 mi1)
    (hg1 : ∀ (s : Shared) (H : Hp) (C : Addr) (cl : List (Str × Addr)) (fp : List Addr), SG (X.blk s H scope (compEnvC scope cl C X.env) fp) tg1 sl1 g1) (ht1 : ∀ (s : Shared) (H : Hp) (C : Addr) (cl : List (Str × Addr)) (fp : List Addr), SPs (X.blk s H scope (compEnvC scope cl C X.env) fp) ifs1 t1)
    (he : ∀ (s : Shared) (H : Hp) (C : Addr) (cl : List (Str × Addr)) (fp : List Addr), SE (X.blk s H scope (compEnvC scope cl C X.env) fp) elt el) (hs : ∀ x, foldedSetIterable iter X.env x = pure x) (hs1 : ∀ env x, foldedSetIterable iter1 env x = pure x) :
    SS X (.Assign [.Name y py] (.ListComp elt [⟨tg, iter, ifs, 0⟩, ⟨tg1, iter1, ifs1, 0⟩] scope pos) spos) (mAsg (mLc2 c mi (own.map (·.2)) g t mi1 vs1 g1 t1 el) (gNm i)) :=
  SS.mk (ps_setLc2 (wi1 := tIt X.K mi1) (g := tGt X.K sl g) (tt := tTs X.K t) (g1 := tGt X.K sl1 g1) (tt1 := tTs X.K t1) (te := tE X.K el) hc hN hy hyl hsw hi ok hv hg ht hi1 hg1 ht1 he hs hs1) fun D rl e q => by
    obtain ⟨v, mh1, e1, ea⟩ := M.bind_some.mp e
    obtain ⟨env', mh2, e2, eb⟩ := M.bind_some.mp ea
    cases eb
    cases e2
    exact lc2_sem _ hsl hsl1 rl e1 fun F1 ρ1 H1 u w1 g1 d1 => q _ _ _ _ ((rl.grow w1 g1).set i d1) g1
end
end Pv

/-! PK: a dict (data, in a slot) is walked: by keys, values, items -/
namespace Pv
open PySem PySem.Spec PyProof.Rows L2

theorem DenKV.at_ {K : PySem.W.Frag} {F : Hp} : ∀ {kvs : List (Key × V)} {ds : List (Dt × Dt)} {i : Nat} {p : Dt × Dt}, DenKV K F kvs ds → ds[i]? = some p → ∃ k u, kvs[i]? = some (k, u) ∧ p.1 = kD k ∧ Den K F u p.2
  | _, _, _, _, .nil, e => by simp at e
  | _, _, 0, _, .cons a _, e => by simp at e; subst e; exact ⟨_, _, rfl, rfl, a⟩
  | _, _, i + 1, _, .cons _ b, e => by
    obtain ⟨k, u, h1, h2, h3⟩ := DenKV.at_ (i := i) b (by simpa using e)
    exact ⟨k, u, by simpa using h1, h2, h3⟩
theorem DenKV.len {K : PySem.W.Frag} {F : Hp} : ∀ {kvs : List (Key × V)} {ds : List (Dt × Dt)}, DenKV K F kvs ds → kvs.length = ds.length
  | _, _, .nil => rfl
  | _, _, .cons _ b => by rw [List.length_cons, List.length_cons, DenKV.len b]
theorem den_kV {K : PySem.W.Frag} {F : Hp} (k : Key) : Den K F (kV k) (kD k) := by
  cases k with
  | inl i => exact Den.int i
  | inr x => exact Den.str x
def dkIt : Nat → List (Dt × Dt) → List Val
  | 0, ds => ds.map fun p => .d p.1
  | 1, ds => ds.map fun p => .d p.2
  | _, ds => ds.map fun p => .d (.tuple [p.1, p.2])
theorem dkIt_len : ∀ (md : Nat) (ds : List (Dt × Dt)), (dkIt md ds).length = ds.length
  | 0, ds => List.length_map ..
  | 1, ds => List.length_map ..
  | _ + 2, ds => List.length_map ..
def ItD (md : Nat) (d : Addr) (o : Obj) (kvs : List (Key × V)) : It := match md with
  | 0 => Itk d o kvs
  | 1 => Itd d o kvs
  | _ => Iti d o kvs
theorem itok_dict {K : PySem.W.Frag} {F : Hp} {ρ : List Addr} {d : Addr} {o : Obj} {kvs : List (Key × V)} {ds : List (Dt × Dt)} (md : Nat) (hF : F d = some (.frz o (.dK kvs))) (hz : ds.length ≤ sizeLine) (dd : DenKV K F kvs ds) (hnx : md < 2 ∨ ds.all (fun p => !ixT [p.1, p.2]) = true) : ItOk K (ItD md d o kvs) ⟨dkIt md ds, []⟩ F ρ where
  small := by rw [dkIt_len]; exact hz
  stop := fun {mh2 F2 ρ2 H2} w2 r hp g => by
    have h : H2 d = some (.frz o (.dK kvs)) := w2.same _ _ (r _ _ hF)
    have hl : kvs.length ≤ (dkIt md ds).length := by rw [dkIt_len, dd.len]; exact Nat.le_refl _
    match md, hl with
    | 0, hl => exact ⟨h, hl⟩
    | 1, hl => exact ⟨h, hl⟩
    | _ + 2, hl => exact ⟨h, hl⟩
  go := fun {mh2 F2 ρ2 H2 i v} w2 r hp g hv => by
    have h : H2 d = some (.frz o (.dK kvs)) := w2.same _ _ (r _ _ hF)
    have hil : i < ds.length := by
      have h1 : i < (dkIt md ds).length := (List.getElem?_eq_some_iff.mp hv).1
      have h2 : (dkIt md ds).length = ds.length := dkIt_len md ds
      omega
    obtain ⟨k, u, h1, h2, h3⟩ := dd.at_ (List.getElem?_eq_getElem hil)
    have h3 := h3.mono (Rle.same r)
    have hil2 : i < kvs.length := by rw [dd.len]; exact hil
    have hp : ds[i]? = some ds[i] := List.getElem?_eq_getElem hil
    generalize ds[i] = p at h2 h3 hp
    match md, hv with
    | 0, hv =>
      have hv : (ds.map fun p => Val.d p.1)[i]? = some v := hv
      rw [List.getElem?_map, hp] at hv
      cases hv
      refine ⟨⟨h, hil2⟩, fun x H'' hy => ?_⟩
      obtain ⟨rfl, k', v', h4, rfl⟩ := hy
      rw [h1] at h4; cases h4
      refine ⟨F2, w2, .refl, ?_⟩
      show Den K F2 (kV k) p.1
      rw [h2]; exact den_kV k
    | 1, hv =>
      have hv : (ds.map fun p => Val.d p.2)[i]? = some v := hv
      rw [List.getElem?_map, hp] at hv
      cases hv
      refine ⟨⟨h, hil2⟩, fun x H'' hy => ?_⟩
      obtain ⟨rfl, k', h4⟩ := hy
      rw [h1] at h4; cases h4
      exact ⟨F2, w2, .refl, h3⟩
    | n + 2, hv =>
      have hv : (ds.map fun p => Val.d (.tuple [p.1, p.2]))[i]? = some v := hv
      rw [List.getElem?_map, hp] at hv
      cases hv
      refine ⟨⟨h, hil2⟩, fun x H'' hy => ?_⟩
      obtain ⟨T, k', v', h4, rfl, nT, rfl⟩ := hy
      rw [h1] at h4; cases h4
      obtain ⟨w', g'⟩ := w2.newF (o := .tup [kV k, u]) nT
      refine ⟨_, w', g', ?_⟩
      refine Den.tup (.inl (.inl upd_same)) (by show 2 ≤ sizeLine; decide) (.cons ?_ (.cons (h3.mono g'.rd) .nil)) (NoD.not ?_)
      rotate_left
      · rcases hnx with h | h
        · omega
        · simpa using List.all_eq_true.mp h p (List.mem_of_getElem? hp)
      rw [h2]; exact den_kV k
/-- the lock's other look -/
theorem Rl.lab {K : PySem.W.Frag} {env : Sl} {mh : List Ob} {F : Hp} {ρ : List Addr} {σ : L2.St} {H : Hp} {d : Addr} {u w : HO} (r : Rl K env mh F ρ σ H) (hF : F d = some u)
    (hw : ∀ v : HO, (∀ o x, v = .frz o x → ∃ xs, x = .tup xs) → (u = v ∨ ∃ o, u = .frz o v) → (w = v ∨ ∃ o, w = .frz o v)) : Rl K env mh (upd F d w) ρ σ (upd H d w) ∧ Rle F (upd F d w) := by
  have hr : Rle F (upd F d w) := fun a v n q => by
    by_cases h : a = d
    · subst h
      have : u = v ∨ ∃ o, u = .frz o v := by
        rcases q with q | ⟨o, q⟩
        · rw [hF] at q; exact .inl (Option.some.inj q)
        · rw [hF] at q; exact .inr ⟨o, Option.some.inj q⟩
      rcases hw v n this with e | ⟨o, e⟩
      · exact .inl (by rw [upd_same, e])
      · exact .inr ⟨o, by rw [upd_same, e]⟩
    · rcases q with q | ⟨o, q⟩
      · exact .inl (by rw [upd_ne h]; exact q)
      · exact .inr ⟨o, by rw [upd_ne h]; exact q⟩
  have wd := r.wd
  refine ⟨⟨⟨fun a o e => ?_, wd.len, wd.nd, fun n a o e1 e2 l => ?_, fun n a o e1 e2 => ?_⟩, r.len, fun i v e => ?_⟩, hr⟩
  · by_cases h : a = d
    · subst h; rw [upd_same] at e ⊢; exact e
    · rw [upd_ne h] at e ⊢; exact wd.same _ _ e
  · have h0 := wd.off n a o e1 e2 l
    have h : a ≠ d := fun z => by rw [z, hF] at h0; cases h0
    rw [upd_ne h]; exact h0
  · by_cases h : a = d
    · cases hl : o.live with
      | true =>
        have h0 := wd.off n a o e1 e2 hl
        rw [h, hF] at h0; cases h0
      | false =>
        cases o with
        | dead =>
          show upd H d w a ≠ none
          rw [h, upd_same]; exact fun z => nomatch z
        | _ => cases hl
    · exact (wd.cell n a o e1 e2).mono hr (List.prefix_refl _) fun u' q => by rw [upd_ne h]; exact q
  · obtain ⟨x, h1, h2⟩ := r.get i v e
    exact ⟨x, h1, h2.mono hr (List.prefix_refl _)⟩
section
variable {X : Cx} {pos : Pos}
theorem for_run {K : PySem.W.Frag} {sl : List Nat} {g : Val → Sl → M Sl} {mb : Sl → M Fl} {ix : Ix} {J : It} {env : Sl} {mh mh' : List Ob} {F : Hp} {ρ : List Addr} {σ : L2.St} {H : Hp} {fl : Fl} {D : Ends} (rl : Rl K env mh F ρ σ H) (ok : ItOk K J ix F ρ) (ea : loopF ix.g g mb ix.items env mh = some (fl, mh')) (q : Post K D mh' F ρ H fl) :
    ∃ W : Nat → Nat → L2.St → Hp → Prop, (∃ m, W 0 m σ H) ∧ ∀ (i m : Nat) (σ : L2.St) (H : Hp), W i m σ H → J.stop i H ∧ D.nx σ H ∨ J.go i H ∧ ∃ N : L2.St → Hp → Prop, (∀ σ' H', N σ' H' → ∃ m', m' < m ∧ W (i + 1) m' σ' H') ∧ ∀ (x : V) (H' : Hp), J.yld i H x H' → tGt K sl g x σ H' fun σ2 H2 => tSt K mb { nx := N, rt := D.rt, bk := D.nx, ct := N } σ2 H2 := by
  refine ⟨fun i m σ2 H2 => m = ix.items.length - i ∧ i ≤ ix.items.length ∧ ∃ env2 mh2 F2 ρ2, Rl K env2 mh2 F2 ρ2 σ2 H2 ∧ Gr F ρ H F2 ρ2 H2 ∧ loopF ix.g g mb (ix.items.drop i) env2 mh2 = some (fl, mh'), ⟨ix.items.length, rfl, Nat.zero_le _, _, _, _, _, rl, .refl, ea⟩, ?_⟩
  rintro i m σ2 H2 ⟨rfl, hi2, env2, mh2, F2, ρ2, r2, g2, e2⟩
  by_cases hlt : i < ix.items.length
  · rw [List.drop_eq_getElem_cons hlt] at e2
    obtain ⟨_, mh3, e3, e4⟩ := M.bind_some.mp e2
    obtain ⟨k1, k2⟩ := chkG_some e3
    cases k2
    obtain ⟨env4, mh4, e5, e6⟩ := M.bind_some.mp e4
    obtain ⟨f, mh5, e7, e8⟩ := M.bind_some.mp e6
    obtain ⟨go, yl⟩ := ok.go r2.wd g2.ext g2.pre k1 (List.getElem?_eq_getElem hlt)
    refine .inr ⟨go, fun σ' H' => ∃ env' mh' F' ρ', Rl K env' mh' F' ρ' σ' H' ∧ Gr F ρ H F' ρ' H' ∧ loopF ix.g g mb (ix.items.drop (i + 1)) env' mh' = some (fl, _), fun σ' H' ⟨env', mhx, F', ρ', a1, a2, a3⟩ => ⟨ix.items.length - (i + 1), by omega, rfl, hlt, env', mhx, F', ρ', a1, a2, a3⟩, fun x H3 hy => ?_⟩
    obtain ⟨F3, w3, g3, d3⟩ := yl x H3 hy
    refine ⟨_, _, _, _, _, _, _, r2.grow w3 g3, d3, e5, fun F4 ρ4 σ4 H4 r4 g4 _ => ⟨_, _, _, _, _, _, r4, e7, ?_⟩⟩
    have g24 := (g2.trans g3).trans g4
    cases f with
    | nx e9 => exact fun F' ρ' σ' H' r' g' => ⟨_, _, _, _, r', g24.trans g', e8⟩
    | ct e9 => exact fun F' ρ' σ' H' r' g' => ⟨_, _, _, _, r', g24.trans g', e8⟩
    | bk e9 => cases e8; exact fun F' ρ' σ' H' r' g' => q _ _ _ _ r' (g24.trans g')
    | rt v => cases e8; exact fun F' ρ' H' u w' g' d' => q _ _ _ _ w' (g24.trans g') d'
  · have hie : i = ix.items.length := by omega
    subst hie
    rw [List.drop_length] at e2
    obtain ⟨_, mh3, e3, e4⟩ := M.bind_some.mp e2
    obtain ⟨k1, k2⟩ := chkG_some e3
    cases k2
    cases e4
    exact .inl ⟨ok.stop r2.wd g2.ext g2.pre k1, q _ _ _ _ r2 g2⟩
noncomputable def mForK (md i : Nat) (g : Val → Sl → M Sl) (body : Sl → M Fl) (env : Sl) : M Fl := fun mh => match env.getD i none with
  | some (.d (.dict ds)) => if md < 2 ∨ ds.all (fun p => !ixT [p.1, p.2]) = true then loopF [] g body (dkIt md ds) env mh else none
  | _ => none
theorem ss_dict {st : Stmt} {wi : TI} {md i : Nat} {sl : List Nat} {g : Val → Sl → M Sl} {mb : Sl → M Fl} (base : PS X st (tFor wi (tGt X.K sl g) (tSt X.K mb)))
    (hw : ∀ (σ : L2.St) (H : Hp) (R : It → Hp → Prop) (d : Addr) (o : Obj) (kvs : List (Key × V)), σ[i]? = some (some (.ref d)) → H d = some (.frz o (.dK kvs)) → R (ItD md d o kvs) H → wi σ H R) : SS X st (mForK md i g mb) := by
  have both : PS X st (fun D σ H => tLock (tFor wi (tGt X.K sl g) (tSt X.K mb)) D σ H ∨ tFor wi (tGt X.K sl g) (tSt X.K mb) D σ H) := ⟨fun pins s σ H D I h => h.elim ((ps_lock base).run pins s σ H D I) (base.run pins s σ H D I)⟩
  refine SS.mk both fun D rl e q => ?_
  rename_i env mh mh' F ρ σ H fl
  unfold mForK at e
  split at e
  · rename_i ds e0
    split at e
    rotate_left
    · cases e
    rename_i hnx
    have e1 : env[i]? = some (some (.d (.dict ds))) := by
      rw [List.getD_eq_getElem?_getD] at e0
      cases h4 : env[i]? with
      | none => rw [h4] at e0; cases e0
      | some o => rw [h4] at e0; rw [show o = some (.d (.dict ds)) from e0]
    obtain ⟨u, hu, hd⟩ := rl.get i _ e1
    have hd : Den X.K F u (.dict ds) := hd
    cases hd with
    | dct hr hz dd =>
      rename_i d kvs
      rcases hr with hF | ⟨o, hF⟩
      · refine .inl ⟨d, .dK kvs, rl.wd.same _ _ hF, trivial, fun od => ?_⟩
        obtain ⟨rl1, r1⟩ := rl.lab (w := .frz od (.dK kvs)) hF fun v n h => by
          rcases h with rfl | ⟨o, h⟩
          · exact .inr ⟨od, rfl⟩
          · cases h
        have hF1 : upd F d (.frz od (.dK kvs)) d = some (.frz od (.dK kvs)) := upd_same
        have ok := itok_dict (K := X.K) (ρ := ρ) md hF1 hz (dd.mono r1) hnx
        have gr : ∀ {F' : Hp} {ρ' : List Addr} {H' : Hp}, Gr (upd F d (.frz od (.dK kvs))) ρ (upd H d (.frz od (.dK kvs))) F' ρ' H' → Gr F ρ H (upd F' d (.dK kvs)) ρ' (upd H' d (.dK kvs)) := fun {F' ρ' H'} g' => by
          refine ⟨fun a o h => ?_, g'.pre, fun a o h1 h2 h3 => ?_⟩
          · by_cases ha : a = d
            · subst ha; rw [upd_same, ← hF]; exact h
            · rw [upd_ne ha]; exact g'.ext a o (by rw [upd_ne ha]; exact h)
          · have ha : a ≠ d := fun z => by rw [z, hF] at h2; cases h2
            rw [upd_ne ha, upd_ne ha]
            exact g'.fr a o (by rw [upd_ne ha]; exact h1) (by rw [upd_ne ha]; exact h2) h3
        have un : ∀ v : HO, (∀ o x, v = .frz o x → ∃ xs, x = .tup xs) → ((HO.frz od (.dK kvs)) = v ∨ ∃ o, (HO.frz od (.dK kvs)) = .frz o v) → ((HO.dK kvs) = v ∨ ∃ o, (HO.dK kvs) = .frz o v) := fun v n h => by
          rcases h with h | ⟨o, h⟩
          · obtain ⟨_, z⟩ := n _ _ h.symm; cases z
          · cases h; exact .inl rfl
        refine hw _ _ _ d od kvs hu upd_same ?_
        refine for_run rl1 ok e ?_
        cases fl with
        | nx e2 => exact fun F' ρ' σ' H' r' g' => ⟨r'.wd.same _ _ (g'.ext _ _ hF1), q _ _ _ _ (r'.lab (g'.ext _ _ hF1) un).1 (gr g')⟩
        | bk e2 => exact fun F' ρ' σ' H' r' g' => ⟨r'.wd.same _ _ (g'.ext _ _ hF1), q _ _ _ _ (r'.lab (g'.ext _ _ hF1) un).1 (gr g')⟩
        | ct e2 => exact fun F' ρ' σ' H' r' g' => ⟨r'.wd.same _ _ (g'.ext _ _ hF1), q _ _ _ _ (r'.lab (g'.ext _ _ hF1) un).1 (gr g')⟩
        | rt v =>
          refine fun F' ρ' H' u w' g' d' => ?_
          have r0 : Rl X.K [] mh' F' ρ' [] H' := ⟨w', rfl, fun i v h => by simp at h⟩
          obtain ⟨r2, rle⟩ := r0.lab (g'.ext _ _ hF1) un
          exact ⟨w'.same _ _ (g'.ext _ _ hF1), q _ _ _ _ r2.wd (gr g') (d'.mono rle (List.prefix_refl _))⟩
      · refine .inr (hw _ _ _ d o kvs hu (rl.wd.same _ _ hF) ?_)
        exact for_run rl (itok_dict md hF hz dd hnx) e q
  · cases e
theorem ss_forK {tg : Expr} {x : Str} {px : Pos} {body : List Stmt} {i : Nat} {sl : List Nat} {g : Val → Sl → M Sl} {mb : Sl → M Fl} (hxe : X.xe = fun _ _ => False) (hc : X.calm = true) (hN : X.N[i]? = some x) (hv : Vis X.env.scope x) (hd : (x == ("__debug__" : Str)) = false) (hcd : (x == ("__classdict__" : Str)) = false) (hg : SG X tg sl g) (hb : SSs X body mb)
    (hs : ∀ y, foldedSetIterable (.Name x px) X.env y = pure y) : SS X (.For tg (.Name x px) body [] pos) (mForK 0 i g mb) :=
  ss_dict (ps_for (by rw [hxe]; exact PassesOwn.never) hc (pi_keys (pe_var hN hv hd hcd)) hg hb hs) fun σ H R d o kvs h1 h2 h3 => ⟨_, h1, d, o, rfl, .inl ⟨kvs, h2, h3⟩⟩
theorem ss_forI {elts : List Expr} {kk : Nat} {tpos apos cpos : Pos} {x : Str} {px : Pos} {body : List Stmt} {i : Nat} {sl : List Nat} {g : Val → Sl → M Sl} {mb : Sl → M Fl} (hxe : X.xe = fun _ _ => False) (hc : X.calm = true) (hN : X.N[i]? = some x) (hv : Vis X.env.scope x) (hd : (x == ("__debug__" : Str)) = false) (hcd : (x == ("__classdict__" : Str)) = false) (hg : SG X (.Tuple elts kk tpos) sl g) (hb : SSs X body mb)
    (h1 : attributeBase (.Name x px) (PySem.Str.ofString "items") X.env (eval (.Name x px) X.env) = eval (.Name x px) X.env) (h2 : (apos.endLine == cpos.line) = true)
    (hs : ∀ y, foldedSetIterable (.Call (.Attribute (.Name x px) (PySem.Str.ofString "items") apos) [] [] cpos) X.env y = pure y) : SS X (.For (.Tuple elts kk tpos) (.Call (.Attribute (.Name x px) (PySem.Str.ofString "items") apos) [] [] cpos) body [] pos) (mForK 2 i g mb) :=
  ss_dict (ps_for (by rw [hxe]; exact PassesOwn.never) hc (pi_items (pe_var hN hv hd hcd) h1 h2) hg hb hs) fun σ H R d o kvs h1 h2 h3 => ⟨_, h1, d, o, kvs, rfl, h2, h3⟩
theorem ss_forV {tg : Expr} {apos cpos : Pos} {x : Str} {px : Pos} {body : List Stmt} {i : Nat} {sl : List Nat} {g : Val → Sl → M Sl} {mb : Sl → M Fl} (hxe : X.xe = fun _ _ => False) (hc : X.calm = true) (hN : X.N[i]? = some x) (hv : Vis X.env.scope x) (hd : (x == ("__debug__" : Str)) = false) (hcd : (x == ("__classdict__" : Str)) = false) (hg : SG X tg sl g) (hb : SSs X body mb)
    (h1 : attributeBase (.Name x px) (PySem.Str.ofString "values") X.env (eval (.Name x px) X.env) = eval (.Name x px) X.env) (h2 : (apos.endLine == cpos.line) = true)
    (hs : ∀ y, foldedSetIterable (.Call (.Attribute (.Name x px) (PySem.Str.ofString "values") apos) [] [] cpos) X.env y = pure y) : SS X (.For tg (.Call (.Attribute (.Name x px) (PySem.Str.ofString "values") apos) [] [] cpos) body [] pos) (mForK 1 i g mb) :=
  ss_dict (ps_for (by rw [hxe]; exact PassesOwn.never) hc (pi_values (pe_var hN hv hd hcd) h1 h2) hg hb hs) fun σ H R d o kvs h1 h2 h3 => ⟨_, h1, d, o, kvs, rfl, h2, h3⟩
end
end Pv

/-! P9: a small language, what it does, which text it is -/
namespace Pv
open PySem PySem.Spec PyProof.Rows L2

inductive Bi where
  | len | abs | int | str | max | min | sum | all | any | tuple | list | sorted | repr | gcd
  deriving DecidableEq
def Bi.name : Bi → Str
  | .len => "len" | .abs => "abs" | .int => "int" | .str => "str" | .max => "max" | .min => "min" | .sum => "sum" | .all => "all" | .any => "any" | .tuple => "tuple" | .list => "list" | .sorted => "sorted" | .repr => "repr" | .gcd => "gcd"
def Bi.f : Bi → List Ob → List Val → Option Rv
  | .len => lenV | .abs => absVl | .int => intVl | .str => strVl | .max => maxVl | .min => minVl | .sum => sumVl | .all => allVl | .any => anyVl | .tuple => tupVl | .list => listVl | .sorted => sortVl | .repr => reprV | .gcd => gcdV
inductive Mt where
  | append | extend | get | starts | insert | pop | index
  deriving DecidableEq
def Mt.name : Mt → Str
  | .append => "append" | .extend => "extend" | .get => "get" | .starts => "startswith" | .insert => "insert" | .pop => "pop" | .index => "index"
def Mt.ty : Mt → String
  | .append => "list" | .extend => "list" | .get => "dict" | .starts => "str" | .insert => "list" | .pop => "list" | .index => "tuple"
def Mt.f : Mt → Val → List Val → M Val
  | .append => appVl | .extend => extVl | .get => getVl | .starts => startsVl | .insert => insVl | .pop => popVl | .index => idxVl
def binF : Operator → List Ob → Val → Val → Option Rv
  | .Add => addV | .Sub => subV | .Mult => mulV | .FloorDiv => divV | .Mod => modV | .Pow => powV
  | _ => fun _ _ _ => none
def cmpF : CmpOp → List Ob → Val → Val → Option Rv
  | .Eq => fun mh a b => bR (eqV2 mh a b)
  | .NotEq => fun mh a b => bR ((eqV2 mh a b).map (!·))
  | .Lt => ltV | .LtE => leV | .Gt => gtV | .GtE => geV
  | .Is => fun mh a b => bR (isNV mh a b)
  | .IsNot => fun mh a b => bR ((isNV mh a b).map (!·))
  | .In => fun mh a b => bR (inV2 mh a b)
  | .NotIn => fun mh a b => bR ((inV2 mh a b).map (!·))
def augF : Operator → Int → Int → Int
  | .Sub => fun i j => i - j
  | _ => fun i j => i + j
inductive Kc where
  | int (i : Int) | str (x : Str) | bl (b : Bool) | non
def Kc.d : Kc → Dt
  | .int i => .int i | .str x => .str x | .bl b => .bool b | .non => .none

mutual
inductive E where
  | slot (i : Nat) | k (c : Kc) | glob (j : Nat) | absent
  | neg (a : E) | nt (a : E)
  | bin (op : Operator) (c : Bool) (a b : E)
  | cmp (op : CmpOp) (a b : E)
  | and2 (a b : E) | or2 (a b : E) | one (a : E)
  | ife (t : T) (a b : E)
  | tup (as : As) | lst (c : Bool) (as : As) | dict0 (c : Bool)
  | ix (a b : E) | sl (c : Bool) (a lo hi : E)
  | call (f : Nat) (as : As)
  | bi (b : Bi) (c : Bool) (as : As)
  | isin (T : String) (a : E)
  | rev (c : Bool) (a : E)
  | meth (m : Mt) (o : E) (as : As)
  | lc (c : Bool) (own : List (Str × Nat)) (g : G) (it : I) (t : T) (el : E)
  | dc (c : Bool) (own : List (Str × Nat)) (g : G) (it : I) (t : T) (kx vx : E)
  | fld (Cs : List Str) (f : Str) (o : E) | mk (C : Str) (i : Nat) (as : As) | mcall (alts : List (Str × Nat)) (m : Str) (o : E) (as : As)
  | ixT (o : E) (as : As) | dictT0 | dk (a b : E)
  | lc2 (c : Bool) (own : List (Str × Nat)) (g : G) (it : I) (t : T) (vs1 : List Nat) (g1 : G) (it1 : I) (t1 : T) (el : E)
inductive As where
  | nil | cons (a : E) (as : As)
inductive T where
  | yes
  | cmp (op : CmpOp) (a b : E) | tru (a : E) | nt (t : T) | and2 (a b : T) | or2 (a b : T) | one (a : T)
inductive I where
  | val (a : E) | range1 (as : As) | range2 (as : As) | zip (as : As) | zip3 (as : As) | enumT (as : As)
inductive G where
  | nm (i : Nat) | tp (n : Nat) (gs : Gs) | sb (o i : E) | sbT (o : E) (as : As)
inductive Gs where
  | nil | cons (g : G) (gs : Gs)
inductive S where
  | asg (g : G) (a : E) | set (i : Nat) (a : E) | swp (i : Nat) (a : E) | par (i j : Nat) (as : As) | aug (i : Nat) (op : Operator) (a : E)
  | expr (a : E) | ret (a : E) | retN | iff (t : T) (a b : Ss) | for (g : G) (it : I) (b : Ss) | while (n : Nat) (t : T) (b : Ss)
  | pass | brk | cnt | doc
  | fset (Cs : List Str) (f : Str) (o a : E)
  | forK (md i : Nat) (g : G) (b : Ss)
inductive Ss where
  | nil | cons (s : S) (b : Ss) | frz (i : Nat) (b : Ss)
end

def E.isAbs : E → Bool
  | .absent => true
  | _ => false
def mOpt (b : Bool) (m : Sl → M Val) : Sl → M (Option Int) := match b with
  | true => mNoPart
  | false => mPart m
def mGlob (gl : List (Str × Dt)) (j : Nat) (_ : Sl) : M Val := ofO ((gl[j]?).map fun p => .d p.2)
mutual
noncomputable def evE (gl : List (Str × Dt)) (c : Nat → List Val → M Val) : E → Sl → M Val
  | .slot i => mSlot i
  | .k x => mC x.d
  | .glob j => mGlob gl j
  | .absent => fun _ _ => none
  | .neg a => mUn negVl (evE gl c a)
  | .nt a => mUn notVl (evE gl c a)
  | .bin op k a b => mBin (binF op) k (evE gl c a) (evE gl c b)
  | .cmp op a b => mBin (cmpF op) false (evE gl c a) (evE gl c b)
  | .and2 a b => mAnd (evE gl c a) (evE gl c b)
  | .or2 a b => mOr (evE gl c a) (evE gl c b)
  | .one a => evE gl c a
  | .ife t a b => mIte (evT gl c t) (evE gl c a) (evE gl c b)
  | .tup as => mTup (mArgs (evAs gl c as))
  | .lst k as => mLst k (mArgs (evAs gl c as))
  | .dict0 k => mDict0 k
  | .ix a b => mIx (evE gl c a) (evE gl c b)
  | .sl k a lo hi => mSl k (evE gl c a) (mOpt lo.isAbs (evE gl c lo)) (mOpt hi.isAbs (evE gl c hi))
  | .call f as => mCall (c f) (mArgs (evAs gl c as))
  | .bi b k as => mBi b.f k (mArgs (evAs gl c as))
  | .isin t a => mIsin t (evE gl c a)
  | .rev k a => mRev k (evE gl c a)
  | .meth m o as => mMeth m.ty m.f (evE gl c o) (mArgs (evAs gl c as))
  | .lc k own g it t el => mLc k (evI gl c it) (own.map (·.2)) (evG gl c g) (evT gl c t) (evE gl c el)
  | .dc k own g it t kx vx => mDc k (evI gl c it) (own.map (·.2)) (evG gl c g) (evT gl c t) (evE gl c kx) (evE gl c vx)
  | .fld Cs f o => mFld Cs f (evE gl c o)
  | .mk C i as => mMk C (c i) (mArgs (evAs gl c as))
  | .mcall alts m o as => mMc (alts.map fun p => (p.1, c p.2)) m (evE gl c o) (mArgs (evAs gl c as))
  | .ixT o as => mIxT (evE gl c o) (mArgs (evAs gl c as))
  | .dictT0 => mDictT0
  | .dk a b => mDk (evE gl c a) (evE gl c b)
  | .lc2 k own g it t vs1 g1 it1 t1 el => mLc2 k (evI gl c it) (own.map (·.2)) (evG gl c g) (evT gl c t) (evI gl c it1) vs1 (evG gl c g1) (evT gl c t1) (evE gl c el)
termination_by structural e => e
noncomputable def evAs (gl : List (Str × Dt)) (c : Nat → List Val → M Val) : As → List (Sl → M Val)
  | .nil => []
  | .cons a as => evE gl c a :: evAs gl c as
termination_by structural e => e
noncomputable def evT (gl : List (Str × Dt)) (c : Nat → List Val → M Val) : T → Sl → M Bool
  | .yes => mYes
  | .cmp op a b => mCmpT (cmpF op) (evE gl c a) (evE gl c b)
  | .tru a => mTru (evE gl c a)
  | .nt t => mNotT (evT gl c t)
  | .and2 a b => mAndT (evT gl c a) (evT gl c b)
  | .or2 a b => mOrT (evT gl c a) (evT gl c b)
  | .one a => evT gl c a
termination_by structural e => e
noncomputable def evI (gl : List (Str × Dt)) (c : Nat → List Val → M Val) : I → Sl → M Ix
  | .val a => iVal (evE gl c a)
  | .range1 as => iArgs rng1 (mArgs (evAs gl c as))
  | .range2 as => iArgs rng2 (mArgs (evAs gl c as))
  | .zip as => iArgsH zip2 (mArgs (evAs gl c as))
  | .zip3 as => iArgs zip3 (mArgs (evAs gl c as))
  | .enumT as => iArgs enumV (mArgs (evAs gl c as))
termination_by structural e => e
noncomputable def evG (gl : List (Str × Dt)) (c : Nat → List Val → M Val) : G → Val → Sl → M Sl
  | .nm i => gNm i
  | .tp n gs => gTp n (evGs gl c gs)
  | .sb o i => gSb (evE gl c o) (evE gl c i)
  | .sbT o as => gSbT (evE gl c o) (mArgs (evAs gl c as))
termination_by structural e => e
noncomputable def evGs (gl : List (Str × Dt)) (c : Nat → List Val → M Val) : Gs → List Val → Sl → M Sl
  | .nil => gNil
  | .cons g gs => gCons (evG gl c g) (evGs gl c gs)
termination_by structural e => e
noncomputable def evS (gl : List (Str × Dt)) (c : Nat → List Val → M Val) : S → Sl → M Fl
  | .asg g a => mAsg (evE gl c a) (evG gl c g)
  | .set i a => mAsg (evE gl c a) (gNm i)
  | .swp i a => mAsg (evE gl c a) (gNm i)
  | .par i j as => mPar i j (mArgs (evAs gl c as))
  | .aug i op a => mAug i (augF op) (evE gl c a)
  | .expr a => mExpr (evE gl c a)
  | .ret a => mRet (evE gl c a)
  | .retN => mRet (mC .none)
  | .iff t a b => mIf (evT gl c t) (evSs gl c a) (evSs gl c b)
  | .for g it b => mFor (evI gl c it) (evG gl c g) (evSs gl c b)
  | .while n t b => loopW (evT gl c t) (evSs gl c b) n
  | .pass => mPass
  | .brk => mBrk
  | .cnt => mCnt
  | .doc => mPass
  | .fset Cs f o a => mSetF Cs f (evE gl c o) (evE gl c a)
  | .forK md i g b => mForK md i (evG gl c g) (evSs gl c b)
termination_by structural e => e
noncomputable def evSs (gl : List (Str × Dt)) (c : Nat → List Val → M Val) : Ss → Sl → M Fl
  | .nil => mNil
  | .cons s b => mSeq (evS gl c s) (evSs gl c b)
  | .frz i b => mSeq (mFrz i) (evSs gl c b)
termination_by structural e => e
end

/-! ### looks at a text -/
def notStar : Expr → Bool
  | .Starred .. => false
  | _ => true
def notSlice : Expr → Bool
  | .Slice .. => false
  | _ => true
def notComp : Expr → Bool
  | .ListComp .. => false | .SetComp .. => false | .DictComp .. => false
  | _ => true
def plainT : Expr → Bool
  | .UnaryOp .. => false | .BoolOp .. => false | .IfExp .. => false | .Compare .. => false
  | _ => true
def notSet : Expr → Bool
  | .Set .. => false
  | _ => true
def notCall : Expr → Bool
  | .Call .. => false
  | _ => true
def notSup : Expr → Bool
  | .Call (.Name _ _) [] [] _ => false
  | _ => true
def notNm : Expr → Bool
  | .Name .. => false
  | _ => true
def notTup : Expr → Bool
  | .Tuple .. => false
  | _ => true
def notTL : Expr → Bool
  | .Tuple .. => false | .List .. => false
  | _ => true
def isTup : Expr → Bool
  | .Tuple .. => true
  | _ => false
section
variable {env : Env} {pos : Pos}
theorem star_cons {e : Expr} {es : List Expr} (h : notStar e = true) : starEach (e :: es) env = (false, eval e env) :: starEach es env := by
  cases e <;> first | rfl | cases h
theorem star_any : ∀ {es : List Expr}, es.all notStar = true → (backTo pos (starEach es env)).any (·.1) = false
  | [], _ => rfl
  | e :: es, h => by
    rw [List.all_cons, Bool.and_eq_true] at h
    rw [star_cons h.1]
    show (false || (backTo pos (starEach es env)).any (·.1)) = false
    rw [Bool.false_or]
    exact star_any h.2
theorem star_all : ∀ {es : List Expr}, es.all notStar = true → (backTo pos (starEach es env)).all (fun x => !x.1) = true
  | [], _ => rfl
  | e :: es, h => by
    rw [List.all_cons, Bool.and_eq_true] at h
    rw [star_cons h.1]
    show (true && (backTo pos (starEach es env)).all (fun x => !x.1)) = true
    rw [Bool.true_and]
    exact star_all h.2
theorem asg_cons {e : Expr} {es : List Expr} (h : notStar e = true) : (assignEach (e :: es) env).map (·.2) = assign e env :: (assignEach es env).map (·.2) := by
  cases e <;> first | rfl | cases h
theorem asg_cons' {e : Expr} {es : List Expr} (h : notStar e = true) : assignEach (e :: es) env = (false, assign e env) :: assignEach es env := by
  cases e <;> first | rfl | cases h
theorem asg_len : ∀ {es : List Expr}, es.all notStar = true → (assignEach es env).length = es.length
  | [], _ => rfl
  | e :: es, h => by
    rw [List.all_cons, Bool.and_eq_true] at h
    rw [asg_cons' h.1, List.length_cons, List.length_cons, asg_len h.2]
theorem asg_find : ∀ {es : List Expr}, es.all notStar = true → (assignEach es env).findIdx? (·.1) = none
  | [], _ => rfl
  | e :: es, h => by
    rw [List.all_cons, Bool.and_eq_true] at h
    rw [asg_cons' h.1, List.findIdx?_cons, asg_find h.2]
    rfl
theorem slice_ix {e : Expr} (h : notSlice e = true) : PlainIx e := by
  intro o i
  cases e <;> first | rfl | cases h
theorem comp_swaps {e : Expr} {t : Option Expr} {l : Nat} (h : notComp e = true) : swapsWith e t l env = pure false := by
  cases e <;> first | rfl | cases h
theorem nm_swaps {e t : Expr} {l : Nat} (h : notNm t = true) : swapsWith e (some t) l env = pure false := by
  cases t with
  | Name _ _ => cases h
  | _ => cases e <;> rfl
theorem test_plain {e : Expr} (h : plainT e = true) : ∀ whole, isTrue e env whole = (do let v ← whole; standAt e.pos; holding [v] (truthy v)) := by
  intro whole
  cases e <;> first | rfl | cases h
theorem set_marks {e : Expr} {op : CmpOp} (h : notSet e = true) : behindInMarks op e = false := by
  cases e <;> first | rfl | cases h
theorem set_fold {e : Expr} (h : notSet e = true) : ∀ x, foldedSetIterable e env x = pure x := by
  intro x
  cases e <;> first | rfl | cases h
theorem call_base {o : Expr} {name : Str} (h : notCall o = true) : attributeBase o name env (eval o env) = eval o env := by
  cases o <;> first | rfl | cases h
theorem sup_base {o : Expr} {name : Str} (h : notSup o = true) : attributeBase o name env (eval o env) = eval o env := by
  cases o with
  | Call f as kws p =>
    cases f with
    | Name x q =>
      cases as with
      | nil =>
        cases kws with
        | nil => cases h
        | cons _ _ => rfl
      | cons _ _ => rfl
    | _ => rfl
  | _ => rfl
theorem tup_swap {t a : Expr} (h : notTL t = true ∨ notTup a = true) : swappedStores [t] a env = pure none := by
  unfold swappedStores
  cases t <;> first | rfl | (cases a <;> first | rfl | (rcases h with h | h <;> cases h))
end
def visB (sc : Scope) (x : Str) : Bool := match sc.names.lookup x with
  | some .local => true | some .cell => true | some .free => true
  | _ => false
def locB (sc : Scope) (cl : Str → Bool) (x : Str) : Bool := match sc.names.lookup x with
  | some .local => true
  | some .cell => cl x
  | _ => false
def glB (sc : Scope) (x : Str) : Bool := match sc.names.lookup x with
  | some .globalImplicit => true
  | _ => false
def okN (x : Str) : Bool := !(x == ("__debug__" : Str)) && !(x == ("__classdict__" : Str)) && !(x == ("__name__" : Str))
theorem visB_ok {sc : Scope} {x : Str} (h : visB sc x = true) : Vis sc x := by
  unfold visB at h
  unfold Vis
  split at h <;> first | (rename_i e; rw [e]; simp) | cases h
theorem locB_ok {sc : Scope} {cl : Str → Bool} {x : Str} (h : locB sc cl x = true) : L2.Loc sc x ∧ (cl x = true ∨ sc.names.lookup x = some .local) := by
  unfold locB at h
  unfold L2.Loc
  split at h
  · rename_i e; rw [e]; simp
  · rename_i e; rw [e]; exact ⟨.inr rfl, .inl h⟩
  · cases h
theorem glB_ok {sc : Scope} {x : Str} (h : glB sc x = true) : sc.names.lookup x = some .globalImplicit := by
  unfold glB at h
  split at h
  · assumption
  · cases h
theorem okN_ok {x : Str} (h : okN x = true) : (x == ("__debug__" : Str)) = false ∧ (x == ("__classdict__" : Str)) = false ∧ x ≠ "__name__" := by
  unfold okN at h
  simp only [Bool.and_eq_true, Bool.not_eq_true'] at h
  exact ⟨h.1.1, h.1.2, fun z => by have := h.2; rw [z] at this; simp at this⟩
end Pv

/-! P10: which text a term is -/
namespace Pv
open PySem PySem.Spec PyProof.Rows L2

/-- a class: its name, attributes, methods (name, def, number of parameters), what makes it (def, number of parameters) -/
structure Cd where
  nm : Str
  flds : List Str
  ms : List (Str × Nat × Nat)
  init : Option (Nat × Nat)
/-- what is known of the program: the defs (name, number of parameters), the free built-ins' names, the constants' names -/
structure Tb where
  fs : List (Str × Nat)
  bs : List Str
  gs : List Str
  rq : Bool := false
  gq : Bool := false
  cs : List Cd := []
def biOk (tb : Tb) : Bi → Bool
  | .repr => tb.rq && tb.bs.contains "repr"
  | .gcd => tb.gq
  | b => tb.bs.contains b.name
def As.len : As → Nat
  | .nil => 0
  | .cons _ as => as.len + 1
def T.isYes : T → Bool
  | .yes => true
  | _ => false
def Gs.len : Gs → Nat
  | .nil => 0
  | .cons _ as => as.len + 1
mutual
def gSl : G → List Nat
  | .nm i => [i]
  | .tp _ gs => gsSl gs
  | .sb _ _ => []
  | .sbT _ _ => []
termination_by structural g => g
def gsSl : Gs → List Nat
  | .nil => []
  | .cons g gs => gSl g ++ gsSl gs
termination_by structural g => g
end
def optB (m : Expr → Bool) (ab : Bool) : Option Expr → Bool
  | none => ab
  | some e => !ab && m e
def ifsB (m : Expr → Bool) (y : Bool) : List Expr → Bool
  | [] => y
  | [c] => m c
  | _ => false
def clOf (scope : Scope) (x : Str) : Bool := scope.names.lookup x == some .cell
def Kc.is : Kc → Const → Bool
  | .int i, .int j => i == j
  | .str x, .str y => x == y
  | .bl b, .bool d => b == d
  | .non, .none => true
  | _, _ => false
/-! #### one sign each -/
section
variable (tb : Tb) (N : List Str) (sc : Scope) (cl : Str → Bool)
def kSlot (i : Nat) : Expr → Bool
  | .Name x _ => decide (N[i]? = some x) && visB sc x && okN x
  | _ => false
def kK (c : Kc) : Expr → Bool
  | .Constant d _ _ => c.is d
  | _ => false
def kGlob (j : Nat) : Expr → Bool
  | .Name x _ => decide (tb.gs[j]? = some x) && glB sc x && okN x
  | _ => false
def kNeg (a : Expr → Bool) : Expr → Bool
  | .UnaryOp .USub e _ => a e
  | _ => false
def kNt (a : Expr → Bool) : Expr → Bool
  | .UnaryOp .Not e _ => a e
  | _ => false
def kBin (op : Operator) (a b : Expr → Bool) : Expr → Bool
  | .BinOp ea eop eb _ => decide (op = eop) && a ea && b eb
  | _ => false
def kCmp (op : CmpOp) (a b : Expr → Bool) : Expr → Bool
  | .Compare ea [eop] [eb] _ => decide (op = eop) && a ea && b eb && notSet eb
  | _ => false
def kOne (a : Expr → Bool) : Expr → Bool
  | .BoolOp _ [e] _ => a e
  | _ => false
def kAnd (a b : Expr → Bool) : Expr → Bool
  | .BoolOp .And (e :: e2 :: es) p => a e && b (.BoolOp .And (e2 :: es) p)
  | _ => false
def kOr (a b : Expr → Bool) : Expr → Bool
  | .BoolOp .Or (e :: e2 :: es) p => a e && b (.BoolOp .Or (e2 :: es) p)
  | _ => false
def kIfe (t a b : Expr → Bool) : Expr → Bool
  | .IfExp et ea eb _ => t et && a ea && b eb
  | _ => false
def kTup (as : List Expr → Bool) : Expr → Bool
  | .Tuple es _ _ => as es
  | _ => false
def kLst (as : List Expr → Bool) : Expr → Bool
  | .List es _ => as es
  | _ => false
def kDict0 : Expr → Bool
  | .Dict [] [] _ => true
  | _ => false
def kIx (a b : Expr → Bool) : Expr → Bool
  | .Subscript ea eb _ => a ea && b eb && notSlice eb
  | _ => false
def kSl (a : Expr → Bool) (lo hi : Option Expr → Bool) : Expr → Bool
  | .Subscript ea (.Slice elo ehi none _) _ => a ea && lo elo && hi ehi
  | _ => false
def kCall (f n : Nat) (as : List Expr → Bool) : Expr → Bool
  | .Call (.Name x _) es [] _ => decide (tb.fs[f]? = some (x, n)) && glB sc x && okN x && as es
  | _ => false
def kBi (b : Bi) (n : Nat) (as : List Expr → Bool) : Expr → Bool
  | .Call (.Name x _) es [] _ => decide (x = b.name) && biOk tb b && glB sc x && as es && decide (0 < n)
  | _ => false
def kIsin (t : String) (a : Expr → Bool) : Expr → Bool
  | .Call (.Name x _) [e, .Name y _] [] _ => decide (x = "isinstance") && tb.bs.contains x && glB sc x && tb.bs.contains y && glB sc y && decide (y = Str.ofString t) && isTys.contains t && a e && notStar e
  | _ => false
def kMeth (m : Mt) (n : Nat) (o : Expr → Bool) (as : List Expr → Bool) : Expr → Bool
  | .Call (.Attribute eo name ap) es [] cp => decide (name = m.name) && o eo && as es && decide (n < 30) && notCall eo && (ap.endLine == cp.line)
  | _ => false
def kLc (own : List (Str × Nat)) (sl : List Nat) (it : Expr → Expr → Bool) (g : Scope → (Str → Bool) → Expr → Bool) (ty : Bool) (t el : Scope → (Str → Bool) → Expr → Bool) : Expr → Bool
  | .ListComp ex [⟨tg, iter, ifs, ia⟩] scope _ => decide (ia = 0) && blkC N sc scope own && sl.all (fun i => (own.map (·.2)).contains i) && it tg iter && notSet iter && g (relS scope sc) (clOf scope) tg && ifsB (t (relS scope sc) (clOf scope)) ty ifs && el (relS scope sc) (clOf scope) ex
  | _ => false
def kDc (own : List (Str × Nat)) (sl : List Nat) (it : Expr → Expr → Bool) (g : Scope → (Str → Bool) → Expr → Bool) (ty : Bool) (t kx vx : Scope → (Str → Bool) → Expr → Bool) : Expr → Bool
  | .DictComp ek ev [⟨tg, iter, ifs, ia⟩] scope _ => decide (ia = 0) && blkC N sc scope own && sl.all (fun i => (own.map (·.2)).contains i) && it tg iter && notSet iter && g (relS scope sc) (clOf scope) tg && ifsB (t (relS scope sc) (clOf scope)) ty ifs && kx (relS scope sc) (clOf scope) ek && vx (relS scope sc) (clOf scope) ev
  | _ => false
def fldB (Cs : List Str) (f : Str) : Bool := Cs.all fun C => tb.cs.any fun cd => cd.nm == C && cd.flds.contains f
def altB (alts : List (Str × Nat)) (m : Str) (n : Nat) : Bool := alts.all fun p => tb.cs.any fun cd => cd.nm == p.1 && cd.ms.contains (m, p.2, n)
def kFld (Cs : List Str) (f : Str) (o : Expr → Bool) : Expr → Bool
  | .Attribute eo x _ => decide (x = f) && o eo && notSup eo && fldB tb Cs f
  | _ => false
def kMk (C : Str) (i n : Nat) (as : List Expr → Bool) : Expr → Bool
  | .Call (.Name x _) es [] _ => decide (x = C) && (tb.cs.any fun cd => cd.nm == C && cd.init == some (i, n + 1)) && glB sc x && okN x && as es
  | _ => false
def kMcall (alts : List (Str × Nat)) (m : Str) (n : Nat) (o : Expr → Bool) (as : List Expr → Bool) : Expr → Bool
  | .Call (.Attribute eo name ap) es [] cp => decide (name = m) && o eo && as es && decide (n < 29) && notSup eo && (ap.endLine == cp.line) && altB tb alts m (n + 1)
  | _ => false
def kDk (a b : Expr → Bool) : Expr → Bool
  | .Dict [some x] [y] _ => a x && b y
  | _ => false
def kIxT (o : Expr → Bool) (as : List Expr → Bool) : Expr → Bool
  | .Subscript eo (.Tuple es _ _) _ => o eo && as es
  | _ => false
def kLc2 (own : List (Str × Nat)) (sl : List Nat) (it : Expr → Expr → Bool) (g : Scope → (Str → Bool) → Expr → Bool) (ty : Bool) (t : Scope → (Str → Bool) → Expr → Bool) (vs1 sl1 : List Nat) (it1 : Scope → (Str → Bool) → Expr → Expr → Bool) (g1 : Scope → (Str → Bool) → Expr → Bool) (ty1 : Bool) (t1 el : Scope → (Str → Bool) → Expr → Bool) : Expr → Bool
  | .ListComp ex [⟨tg, iter, ifs, ia⟩, ⟨tg1, iter1, ifs1, ia1⟩] scope _ => decide (ia = 0) && blkC N sc scope own && sl.all (fun i => (own.map (·.2)).contains i) && it tg iter && notSet iter && g (relS scope sc) (clOf scope) tg && ifsB (t (relS scope sc) (clOf scope)) ty ifs && (decide (ia1 = 0) && sl1.all (fun i => vs1.contains i) && vs1.all (fun i => (own.map (·.2)).contains i) && notSet iter1 && it1 (relS scope sc) (clOf scope) tg1 iter1 && g1 (relS scope sc) (clOf scope) tg1 && ifsB (t1 (relS scope sc) (clOf scope)) ty1 ifs1 && el (relS scope sc) (clOf scope) ex)
  | _ => false
def kRev (a : Expr → Bool) : Expr → Bool
  | .Call (.Name x _) [.Call (.Name y _) [e] [] _] [] _ => decide (x = "list") && tb.bs.contains x && glB sc x && decide (y = "reversed") && tb.bs.contains y && glB sc y && a e && notStar e
  | _ => false
def kNil {α : Type} : List α → Bool
  | [] => true
  | _ => false
def kCons (a : Expr → Bool) (as : List Expr → Bool) : List Expr → Bool
  | e :: es => a e && as es && notStar e
  | _ => false
def kTru (a : Expr → Bool) (e : Expr) : Bool := a e && plainT e
def kRng1 (as : List Expr → Bool) : Expr → Bool
  | .Call (.Name x _) [e] [] _ => decide (x = "range") && tb.bs.contains x && glB sc x && as [e]
  | _ => false
def kRng2 (as : List Expr → Bool) : Expr → Bool
  | .Call (.Name x _) [e, e2] [] _ => decide (x = "range") && tb.bs.contains x && glB sc x && as [e, e2]
  | _ => false
def kZip (as : List Expr → Bool) (tg : Expr) : Expr → Bool
  | .Call (.Name x _) [e, e2] [] _ => decide (x = "zip") && tb.bs.contains x && glB sc x && as [e, e2] && isTup tg
  | _ => false
def kZip3 (as : List Expr → Bool) (tg : Expr) : Expr → Bool
  | .Call (.Name x _) [e, e2, e3] [] _ => decide (x = "zip") && tb.bs.contains x && glB sc x && as [e, e2, e3] && isTup tg
  | _ => false
def kEnumT (as : List Expr → Bool) (tg : Expr) : Expr → Bool
  | .Call (.Name x _) [e] [] _ => decide (x = "enumerate") && tb.bs.contains x && glB sc x && as [e] && isTup tg
  | _ => false
def kNm (i : Nat) : Expr → Bool
  | .Name x _ => decide (N[i]? = some x) && locB sc cl x
  | _ => false
def kTp (n : Nat) (gs : List Expr → Bool) : Expr → Bool
  | .Tuple es _ _ => gs es && decide (es.length = n)
  | _ => false
def kSb (o i : Expr → Bool) : Expr → Bool
  | .Subscript eo ei _ => o eo && i ei && notSlice ei
  | _ => false
def kSbT (o : Expr → Bool) (as : List Expr → Bool) : Expr → Bool
  | .Subscript eo (.Tuple es _ _) _ => o eo && as es
  | _ => false
def notCompN : Expr → Bool
  | .SetComp .. => false
  | _ => true
def kFset (Cs : List Str) (f : Str) (o a : Expr → Bool) : Stmt → Bool
  | .Assign [.Attribute eo x _] e _ => decide (x = f) && o eo && a e && fldB tb Cs f
  | _ => false
def kAsg (g a : Expr → Bool) : Stmt → Bool
  | .Assign [tg] e _ => g tg && a e && (notComp e || notNm tg) && (notTL tg || notTup e) && notStar tg
  | _ => false
def kSet (i : Nat) (a : Expr → Bool) : Stmt → Bool
  | .Assign [.Name x _] e _ => decide (N[i]? = some x) && locB sc cl x && a e && (notComp e || decide (sc.names.lookup x = some .cell))
  | _ => false
def compS : Expr → Option (Scope × Pos)
  | .ListComp _ _ s p => some (s, p)
  | .DictComp _ _ _ s p => some (s, p)
  | _ => none
def swpB (y : Str) (py : Pos) : Option (Scope × Pos) → Bool
  | some (scope, cp) => (py.line == cp.line) && !(scope.names.any fun (n, k) => n == y && (k == .local || k == .cell))
  | none => false
def kSwp (i : Nat) (a : Expr → Bool) : Stmt → Bool
  | .Assign [.Name y py] e sp => decide (N[i]? = some y) && decide (sc.names.lookup y = some .local) && a e && swpB y py (compS e)
  | _ => false
def kAug (i : Nat) (op : Operator) (a : Expr → Bool) : Stmt → Bool
  | .AugAssign (.Name x _) eop e _ => decide (op = eop) && (decide (op = .Add) || decide (op = .Sub)) && decide (N[i]? = some x) && locB sc cl x && a e
  | _ => false
def kExpr (a : Expr → Bool) : Stmt → Bool
  | .Expr e _ => a e && notComp e
  | _ => false
def kDoc : Stmt → Bool
  | .Expr (.Constant (.str _) _ _) _ => true
  | _ => false
def kRet (a : Expr → Bool) : Stmt → Bool
  | .Return (some e) _ => a e
  | _ => false
def kRetN : Stmt → Bool
  | .Return none _ => true
  | _ => false
def kIf (t : Expr → Bool) (a b : List Stmt → Bool) : Stmt → Bool
  | .If et ea eb _ => t et && a ea && b eb
  | _ => false
def kFor (g : Expr → Bool) (it : Expr → Expr → Bool) (b : List Stmt → Bool) : Stmt → Bool
  | .For tg iter body [] _ => g tg && it tg iter && b body && notSet iter
  | _ => false
def kWalkV (i : Nat) : Expr → Bool
  | .Call (.Attribute eo name ap) [] [] cp => decide (name = ("values" : Str)) && kSlot N sc i eo && (ap.endLine == cp.line)
  | _ => false
def kWalkT (i : Nat) : Expr → Expr → Bool
  | .Call (.Attribute eo name ap) [] [] cp, .Tuple _ _ _ => decide (name = ("items" : Str)) && kSlot N sc i eo && (ap.endLine == cp.line)
  | _, _ => false
def kWalkD (md i : Nat) (tg iter : Expr) : Bool := match md with
  | 0 => kSlot N sc i iter
  | 1 => kWalkV N sc i iter
  | 2 => kWalkT N sc i iter tg
  | _ => false
def kForK (md i : Nat) (g : Expr → Bool) (b : List Stmt → Bool) : Stmt → Bool
  | .For tg iter body [] _ => g tg && b body && notSet iter && kWalkD N sc md i tg iter
  | _ => false
def kWhile (t : Expr → Bool) (b : List Stmt → Bool) : Stmt → Bool
  | .While et body [] _ => t et && b body
  | _ => false
def kPass : Stmt → Bool
  | .Pass _ => true
  | _ => false
def kBrk : Stmt → Bool
  | .Break _ => true
  | _ => false
def kCnt : Stmt → Bool
  | .Continue _ => true
  | _ => false
def kConsS (s : Stmt → Bool) (b : List Stmt → Bool) : List Stmt → Bool
  | e :: es => s e && b es
  | _ => false
end
mutual
def mE (tb : Tb) (N : List Str) : E → Scope → (Str → Bool) → Expr → Bool
  | .slot i, sc, _ => kSlot N sc i
  | .k c, _, _ => kK c
  | .glob j, sc, _ => kGlob tb sc j
  | .absent, _, _ => fun _ => false
  | .neg a, sc, cl => kNeg (mE tb N a sc cl)
  | .nt a, sc, cl => kNt (mE tb N a sc cl)
  | .bin op _ a b, sc, cl => kBin op (mE tb N a sc cl) (mE tb N b sc cl)
  | .cmp op a b, sc, cl => kCmp op (mE tb N a sc cl) (mE tb N b sc cl)
  | .one a, sc, cl => kOne (mE tb N a sc cl)
  | .and2 a b, sc, cl => kAnd (mE tb N a sc cl) (mE tb N b sc cl)
  | .or2 a b, sc, cl => kOr (mE tb N a sc cl) (mE tb N b sc cl)
  | .ife t a b, sc, cl => kIfe (mT tb N t sc cl) (mE tb N a sc cl) (mE tb N b sc cl)
  | .tup as, sc, cl => kTup (mAs tb N as sc cl)
  | .lst _ as, sc, cl => kLst (mAs tb N as sc cl)
  | .dict0 _, _, _ => kDict0
  | .ix a b, sc, cl => kIx (mE tb N a sc cl) (mE tb N b sc cl)
  | .sl _ a lo hi, sc, cl => kSl (mE tb N a sc cl) (optB (mE tb N lo sc cl) lo.isAbs) (optB (mE tb N hi sc cl) hi.isAbs)
  | .call f as, sc, cl => kCall tb sc f as.len (mAs tb N as sc cl)
  | .bi b _ as, sc, cl => kBi tb sc b as.len (mAs tb N as sc cl)
  | .isin t a, sc, cl => kIsin tb sc t (mE tb N a sc cl)
  | .rev _ a, sc, cl => kRev tb sc (mE tb N a sc cl)
  | .meth m o as, sc, cl => kMeth m as.len (mE tb N o sc cl) (mAs tb N as sc cl)
  | .lc _ own g it t el, sc, cl => kLc N sc own (gSl g) (mI tb N it sc cl) (mG tb N g) t.isYes (mT tb N t) (mE tb N el)
  | .dc _ own g it t kx vx, sc, cl => kDc N sc own (gSl g) (mI tb N it sc cl) (mG tb N g) t.isYes (mT tb N t) (mE tb N kx) (mE tb N vx)
  | .fld Cs f o, sc, cl => kFld tb Cs f (mE tb N o sc cl)
  | .mk C i as, sc, cl => kMk tb sc C i as.len (mAs tb N as sc cl)
  | .mcall alts m o as, sc, cl => kMcall tb alts m as.len (mE tb N o sc cl) (mAs tb N as sc cl)
  | .ixT o as, sc, cl => kIxT (mE tb N o sc cl) (mAs tb N as sc cl)
  | .dictT0, _, _ => kDict0
  | .dk a b, sc, cl => kDk (mE tb N a sc cl) (mE tb N b sc cl)
  | .lc2 _ own g it t vs1 g1 it1 t1 el, sc, cl => kLc2 N sc own (gSl g) (mI tb N it sc cl) (mG tb N g) t.isYes (mT tb N t) vs1 (gSl g1) (mI tb N it1) (mG tb N g1) t1.isYes (mT tb N t1) (mE tb N el)
termination_by structural e => e
def mAs (tb : Tb) (N : List Str) : As → Scope → (Str → Bool) → List Expr → Bool
  | .nil, _, _ => kNil
  | .cons a as, sc, cl => kCons (mE tb N a sc cl) (mAs tb N as sc cl)
termination_by structural e => e
def mT (tb : Tb) (N : List Str) : T → Scope → (Str → Bool) → Expr → Bool
  | .yes, _, _ => fun _ => false
  | .cmp op a b, sc, cl => kCmp op (mE tb N a sc cl) (mE tb N b sc cl)
  | .tru a, sc, cl => kTru (mE tb N a sc cl)
  | .nt t, sc, cl => kNt (mT tb N t sc cl)
  | .one a, sc, cl => kOne (mT tb N a sc cl)
  | .and2 a b, sc, cl => kAnd (mT tb N a sc cl) (mW tb N b sc cl)
  | .or2 a b, sc, cl => kOr (mT tb N a sc cl) (mW tb N b sc cl)
termination_by structural e => e
def mW (tb : Tb) (N : List Str) : T → Scope → (Str → Bool) → Expr → Bool
  | .one a, sc, cl => kOne (mT tb N a sc cl)
  | .and2 a b, sc, cl => kAnd (mT tb N a sc cl) (mW tb N b sc cl)
  | .or2 a b, sc, cl => kOr (mT tb N a sc cl) (mW tb N b sc cl)
  | _, _, _ => fun _ => false
termination_by structural e => e
def mI (tb : Tb) (N : List Str) : I → Scope → (Str → Bool) → Expr → Expr → Bool
  | .val a, sc, cl => fun _ e => mE tb N a sc cl e
  | .range1 as, sc, cl => fun _ => kRng1 tb sc (mAs tb N as sc cl)
  | .range2 as, sc, cl => fun _ => kRng2 tb sc (mAs tb N as sc cl)
  | .zip as, sc, cl => kZip tb sc (mAs tb N as sc cl)
  | .zip3 as, sc, cl => kZip3 tb sc (mAs tb N as sc cl)
  | .enumT as, sc, cl => kEnumT tb sc (mAs tb N as sc cl)
termination_by structural e => e
def mG (tb : Tb) (N : List Str) : G → Scope → (Str → Bool) → Expr → Bool
  | .nm i, sc, cl => kNm N sc cl i
  | .tp n gs, sc, cl => kTp n (mGs tb N gs sc cl)
  | .sb o i, sc, cl => kSb (mE tb N o sc cl) (mE tb N i sc cl)
  | .sbT o as, sc, cl => kSbT (mE tb N o sc cl) (mAs tb N as sc cl)
termination_by structural e => e
def mGs (tb : Tb) (N : List Str) : Gs → Scope → (Str → Bool) → List Expr → Bool
  | .nil, _, _ => kNil
  | .cons g gs, sc, cl => kCons (mG tb N g sc cl) (mGs tb N gs sc cl)
termination_by structural e => e
end
mutual
def mS (tb : Tb) (N : List Str) : S → Scope → (Str → Bool) → Stmt → Bool
  | .asg g a, sc, cl => kAsg (mG tb N g sc cl) (mE tb N a sc cl)
  | .set i a, sc, cl => kSet N sc cl i (mE tb N a sc cl)
  | .swp i a, sc, cl => kSwp N sc i (mE tb N a sc cl)
  | .par _ _ _, _, _ => fun _ => false
  | .aug i op a, sc, cl => kAug N sc cl i op (mE tb N a sc cl)
  | .expr a, sc, cl => kExpr (mE tb N a sc cl)
  | .doc, _, _ => kDoc
  | .ret a, sc, cl => kRet (mE tb N a sc cl)
  | .retN, _, _ => kRetN
  | .iff t a b, sc, cl => kIf (mT tb N t sc cl) (mSs tb N a sc cl) (mSs tb N b sc cl)
  | .for g it b, sc, cl => kFor (mG tb N g sc cl) (mI tb N it sc cl) (mSs tb N b sc cl)
  | .while _ t b, sc, cl => kWhile (mT tb N t sc cl) (mSs tb N b sc cl)
  | .pass, _, _ => kPass
  | .brk, _, _ => kBrk
  | .cnt, _, _ => kCnt
  | .fset Cs f o a, sc, cl => kFset tb Cs f (mE tb N o sc cl) (mE tb N a sc cl)
  | .forK md i g b, sc, cl => kForK N sc md i (mG tb N g sc cl) (mSs tb N b sc cl)
termination_by structural s => s
def mSs (tb : Tb) (N : List Str) : Ss → Scope → (Str → Bool) → List Stmt → Bool
  | .nil, _, _ => kNil
  | .cons s b, sc, cl => kConsS (mS tb N s sc cl) (mSs tb N b sc cl)
  | .frz _ b, sc, cl => mSs tb N b sc cl
termination_by structural s => s
end

/-! ### the context of a piece of text -/
structure Wx where
  P : Program
  w : World
  K : PySem.W.Frag
  mg : Str → Option Value
  base : Heap
  gd : Bool := false
structure Gd (Y : Wx) (N : List Str) (k : Nat) (X : Cx) (sc : Scope) (cl : Str → Bool) : Prop where
  hP : X.prog = Y.P
  hw : X.w = Y.w
  hK : X.K = Y.K
  hmg : X.mg = Y.mg
  hb : X.base = Y.base
  hN : X.N = N
  nd : N.Nodup
  calm : X.calm = true
  room : Room (k + 1) X.A
  hsc : X.env.scope = sc
  kind : sc.kind = .function
  fn : ∀ x, cl x = true → X.fn x = true
  xe : X.xe = fun _ _ => False
  grd : Y.gd = true → X.A.guards = some []
structure Calls (Y : Wx) (k : Nat) (tb : Tb) (gl : List (Str × Dt)) (c : Nat → List Val → M Val) : Prop where
  fn : ∀ (f : Nat) (x : Str) (n : Nat), tb.fs[f]? = some (x, n) → okN x = true → ∃ (addr : Addr) (fd : FuncData) (ps : List Str), ps.length = n ∧ FnOk Y.P Y.w Y.K Y.mg Y.base L2.CX0 k addr fd ps (spF Y.K n (c f)) ∧ Y.mg x = some (.ref addr) ∧ PySem.W.keepIn Y.K (.ref addr) = true ∧ Binds Y.K fd ps []
  bi : ∀ x ∈ tb.bs, Y.mg x = none
  gl : ∀ (j : Nat) (x : Str), tb.gs[j]? = some x → ∃ (d : Dt) (v : V) (u : Value), gl[j]? = some (x, d) ∧ Y.mg x = some u ∧ RelV v u ∧ ∀ F, Den Y.K F v d
  rq : tb.rq = true → Y.gd = true
  gq : tb.gq = true → Y.mg "gcd" = some (.builtin "math.gcd")
  cl : ∀ cd ∈ tb.cs, ∃ Ca : Addr, ClAt Y.K cd.nm Ca ∧ Y.mg cd.nm = some (.ref Ca) ∧ Cls Y.K Ca ∧ (∀ f ∈ cd.flds, NoAttr Y.K Ca f) ∧
    (∀ p ∈ cd.ms, ∃ (addr : Addr) (fd : FuncData) (ps : List Str), Meth Y.K Ca p.1 addr ∧ FnOk Y.P Y.w Y.K Y.mg Y.base L2.CX0 k addr fd ps (spF Y.K ps.length (c p.2.1)) ∧ Binds Y.K fd ps [] ∧ ps.length = p.2.2) ∧
    (∀ p, cd.init = some p → ∃ (addr : Addr) (fd : FuncData) (ps : List Str), Mk Y.K Ca addr ∧ FnOk Y.P Y.w Y.K Y.mg Y.base L2.CX0 k addr fd ps (spF Y.K ps.length (c p.1)) ∧ Binds Y.K fd ps [] ∧ ps.length = p.2)
section
variable {Y : Wx} {N : List Str} {k : Nat} {X : Cx} {sc : Scope} {cl : Str → Bool} {tb : Tb} {gl : List (Str × Dt)} {c : Nat → List Val → M Val}
theorem Gd.blk (g : Gd Y N k X sc cl) {scope : Scope} (hk : scope.kind = .function) (s : Shared) (H : Hp) (C : Addr) (cs : List (Str × Addr)) (fp : List Addr) : Gd Y N k (X.blk s H scope (compEnvC scope cs C X.env) fp) (relS scope sc) (clOf scope) := by
  refine ⟨g.hP, g.hw, g.hK, g.hmg, g.hb, g.hN, g.nd, g.calm, g.room, ?_, hk, fun x h => h, rfl, g.grd⟩
  show relabel scope X.env = relS scope sc
  rw [← g.hsc]
  rfl
theorem Gd.un (g : Gd Y N k X sc cl) : X.A.units + 65 < cLine := by have := g.room.un; omega
theorem Gd.vis (g : Gd Y N k X sc cl) {x : Str} (h : visB sc x = true) : Vis X.env.scope x := by rw [g.hsc]; exact visB_ok h
theorem Gd.loc (g : Gd Y N k X sc cl) {x : Str} (h : locB sc cl x = true) : L2.Loc X.env.scope x ∧ (X.fn x = true ∨ X.env.scope.names.lookup x = some .local) := by
  obtain ⟨h1, h2⟩ := locB_ok h
  rw [g.hsc]
  exact ⟨h1, h2.imp (g.fn x) id⟩
theorem Gd.glo (g : Gd Y N k X sc cl) {x : Str} (h : glB sc x = true) : Gl X x := by
  show X.env.scope.names.lookup x = _
  rw [g.hsc]
  exact glB_ok h
theorem Gd.at (g : Gd Y N k X sc cl) {i : Nat} {x : Str} (h : N[i]? = some x) : X.N[i]? = some x := by rw [g.hN]; exact h
theorem Gd.ndX (g : Gd Y N k X sc cl) : X.N.Nodup := by rw [g.hN]; exact g.nd
theorem Gd.free (g : Gd Y N k X sc cl) (C : Calls Y k tb gl c) {x : Str} (h : tb.bs.contains x = true) : X.mg x = none := by
  rw [g.hmg]
  exact C.bi x (List.contains_iff_mem.mp h)
theorem mArgs_len : ∀ {ms : List (Sl → M Val)} {env : Sl} {mh mh' : List Ob} {vs : List Val}, mArgs ms env mh = some (vs, mh') → vs.length = ms.length
  | [], _, _, _, _, e => by cases e; rfl
  | m :: ms, _, _, _, _, e => by
    obtain ⟨x, mh1, e1, ea⟩ := M.bind_some.mp e
    obtain ⟨xs, mh2, e2, eb⟩ := M.bind_some.mp ea
    cases eb
    rw [List.length_cons, List.length_cons, mArgs_len e2]
theorem evAs_len : ∀ as : As, (evAs gl c as).length = as.len
  | .nil => rfl
  | .cons a as => by
    show (evE gl c a :: evAs gl c as).length = as.len + 1
    rw [List.length_cons, evAs_len as]
theorem mAs_len : ∀ {as : As} {es : List Expr}, mAs tb N as sc cl es = true → es.length = as.len ∧ es.all notStar = true
  | .nil, [], _ => ⟨rfl, rfl⟩
  | .nil, _ :: _, h => by cases h
  | .cons a as, [], h => by cases h
  | .cons a as, e :: es, h => by
    have h : (mE tb N a sc cl e && mAs tb N as sc cl es && notStar e) = true := h
    rw [Bool.and_eq_true, Bool.and_eq_true] at h
    obtain ⟨h1, h2⟩ := mAs_len h.1.2
    exact ⟨by rw [List.length_cons, h1]; rfl, by rw [List.all_cons, h.2, h2]; rfl⟩
theorem mGs_len : ∀ {gs : Gs} {es : List Expr}, mGs tb N gs sc cl es = true → es.all notStar = true
  | .nil, [], _ => rfl
  | .nil, _ :: _, h => by cases h
  | .cons a as, [], h => by cases h
  | .cons a as, e :: es, h => by
    have h : (mG tb N a sc cl e && mGs tb N as sc cl es && notStar e) = true := h
    rw [Bool.and_eq_true, Bool.and_eq_true] at h
    rw [List.all_cons, h.2, mGs_len h.1.2]; rfl
/-! ### operators by their sign -/
theorem bin_ok (op : Operator) : OpS X (binaryOp op) (binF op) := by
  cases op
  case Add => exact ops_add
  case Sub => exact ops_sub
  case Mult => exact ops_mul
  case FloorDiv => exact ops_div
  case Mod => exact ops_mod
  case Pow => exact ops_pow
  all_goals exact ⟨fun _ _ _ _ => False, fun _ _ _ _ _ _ _ _ _ _ _ _ h => h.elim, fun Q w d1 d2 e q => by cases e⟩
theorem cmp_ok (hu : X.A.units + 65 < cLine) (op : CmpOp) : OpS X (compareOp op) (cmpF op) := by
  cases op
  case Eq => exact ops_eq (by omega)
  case NotEq => exact ops_ne (by omega)
  case Lt => exact ops_lt
  case LtE => exact ops_le
  case Gt => exact ops_gt
  case GtE => exact ops_ge
  case Is => exact ops_is
  case IsNot => exact ops_isnot
  case In => exact ops_in hu
  case NotIn => exact ops_notin hu
theorem bi_name (b : Bi) : okN b.name = true := by cases b <;> decide +kernel
theorem bi_se (hc : X.calm = true) (hu : X.A.units + 65 < cLine) {b : Bi} {k : Bool} {e0 : Expr} {es : List Expr} {as : Sl → M (List Val)} {p pos : Pos} (hg : Gl X b.name) (hm : b ≠ .gcd → X.mg b.name = none) (hmg : b = .gcd → X.mg "gcd" = some (.builtin "math.gcd")) (hrq : b = .repr → X.A.guards = some []) (h : SA X (e0 :: es) as)
    (he : starEach (e0 :: es) X.env = (false, eval e0 X.env) :: starEach es X.env) (hpl : (backTo pos (starEach es X.env)).any (·.1) = false) : SE X (.Call (.Name b.name p) (e0 :: es) [] pos) (mBi b.f k as) := by
  obtain ⟨n1, n2, n3⟩ := okN_ok (bi_name b)
  cases b
  case len => exact se_biB calls_len hg (hm (by decide)) (by decide +kernel) h n3 n1 he hpl
  case abs => exact se_biB calls_abs hg (hm (by decide)) (by decide +kernel) h n3 n1 he hpl
  case int => exact se_biT calls_int hg (hm (by decide)) (by decide +kernel) h n3 n1 he hpl
  case str => exact se_biT calls_str hg (hm (by decide)) (by decide +kernel) h n3 n1 he hpl
  case max => exact se_biB (calls_max hc) hg (hm (by decide)) (by decide +kernel) h n3 n1 he hpl
  case min => exact se_biB (calls_min hc) hg (hm (by decide)) (by decide +kernel) h n3 n1 he hpl
  case sum => exact se_biB (calls_sum hc) hg (hm (by decide)) (by decide +kernel) h n3 n1 he hpl
  case all => exact se_biB (calls_all hc) hg (hm (by decide)) (by decide +kernel) h n3 n1 he hpl
  case any => exact se_biB (calls_any hc) hg (hm (by decide)) (by decide +kernel) h n3 n1 he hpl
  case tuple => exact se_biT calls_tup hg (hm (by decide)) (by decide +kernel) h n3 n1 he hpl
  case list => exact se_biT calls_list hg (hm (by decide)) (by decide +kernel) h n3 n1 he hpl
  case sorted => exact se_biB (calls_sorted hc) hg (hm (by decide)) (by decide +kernel) h n3 n1 he hpl
  case repr => exact se_biB (calls_repr (hrq rfl) hu) hg (hm (by decide)) (by decide +kernel) h n3 n1 he hpl
  case gcd => exact se_biG calls_gcd hg (hmg rfl) h n1 he hpl
theorem ty_boot : (isTys.all fun t => decide (bootBuiltins (Str.ofString t) = some (.type t)) && okN (Str.ofString t)) = true := by decide +kernel
end
end Pv

/-! P11: a term that is the text does what the text does -/
namespace Pv
open PySem PySem.Spec PyProof.Rows L2
section
variable {Y : Wx} {N : List Str} {k : Nat} {tb : Tb} {gl : List (Str × Dt)} {c : Nat → List Val → M Val}

theorem kc_se {X : Cx} {x : Kc} {d : Const} {j : Nat} {pos : Pos} (h : x.is d = true) : SE X (.Constant d j pos) (mC x.d) := by
  cases x <;> cases d <;> first | cases h | skip
  · have := of_decide_eq_true h; subst this; exact se_int
  · have := eq_of_beq h; subst this; exact se_str
  · have := eq_of_beq h; subst this; exact se_bl
  · exact se_non
theorem glob_se {X : Cx} {sc : Scope} {cl : Str → Bool} (C : Calls Y k tb gl c) (g : Gd Y N k X sc cl) {j : Nat} {x : Str} {pos : Pos} (h : tb.gs[j]? = some x) (hg : glB sc x = true) (hn : okN x = true) : SE X (.Name x pos) (mGlob gl j) := by
  obtain ⟨d, v, u, h1, h2, h3, h4⟩ := C.gl j x h
  have := se_glob (X := X) (pos := pos) (g.glo hg) (by rw [g.hmg]; exact h2) h3 (fun F => by rw [g.hK]; exact h4 F) (okN_ok hn).1
  have e : mGlob gl j = mC d := by
    funext env mh
    unfold mGlob mC ofO
    rw [h1]
    rfl
  rw [e]; exact this
theorem isin_se {X : Cx} {sc : Scope} {cl : Str → Bool} (C : Calls Y k tb gl c) (g : Gd Y N k X sc cl) {t : String} {x y : Str} {a : Expr} {ma : Sl → M Val} {p p2 pos : Pos} (ha : SE X a ma) (hx : x = "isinstance") (bx : tb.bs.contains x = true) (gx : glB sc x = true) (by' : tb.bs.contains y = true) (gy : glB sc y = true) (hy : y = Str.ofString t) (ht : isTys.contains t = true) (hs : notStar a = true) :
    SE X (.Call (.Name x p) [a, .Name y p2] [] pos) (mIsin t ma) := by
  have ht' := List.contains_iff_mem.mp ht
  have hb := List.all_eq_true.mp ty_boot t ht'
  rw [Bool.and_eq_true] at hb
  obtain ⟨n1, n2, n3⟩ := okN_ok hb.2
  subst hy
  exact se_isin ha ht' hx (g.glo gx) (g.free C bx) (g.glo gy) (g.free C by') (of_decide_eq_true hb.1) n3 n1 (star_cons hs)
theorem meth_se {X : Cx} (hu : X.A.units + 65 < cLine) {m : Mt} {o : Expr} {es : List Expr} {mo : Sl → M Val} {ms : List (Sl → M Val)} {ap cp : Pos} (ho : SE X o mo) (ha : SA X es (mArgs ms)) (hz : es = [] → ms = []) (hs : es.all notStar = true) (hl : es.length < 30) (hb : notCall o = true) (hline : (ap.endLine == cp.line) = true) :
    SE X (.Call (.Attribute o m.name ap) es [] cp) (mMeth m.ty m.f mo (mArgs ms)) := by
  cases es with
  | nil =>
    have := hz rfl
    subst this
    cases m
    case append => exact se_meth0 PySem.F.plainAttrs_list PySem.F.slot_list_append PySem.F.type_list_append mts_append ho (call_base hb) hline
    case extend => exact se_meth0 PySem.F.plainAttrs_list PySem.F.slot_list_extend PySem.F.type_list_extend mts_extend ho (call_base hb) hline
    case get => exact se_meth0 PySem.F.plainAttrs_dict PySem.F.slot_dict_get PySem.F.type_dict_get (mts_get (by omega)) ho (call_base hb) hline
    case starts => exact se_meth0 PySem.F.plainAttrs_str PySem.F.slot_str_startswith PySem.F.type_str_startswith mts_starts ho (call_base hb) hline
    case insert => exact se_meth0 PySem.F.plainAttrs_list PySem.F.slot_list_insert PySem.F.type_list_insert mts_insert ho (call_base hb) hline
    case pop => exact se_meth0 PySem.F.plainAttrs_list PySem.F.slot_list_pop PySem.F.type_list_pop mts_pop ho (call_base hb) hline
    case index => exact se_meth0 PySem.F.plainAttrs_tuple PySem.F.slot_tuple_index PySem.F.type_tuple_index mts_index ho (call_base hb) hline
  | cons e0 es =>
    rw [List.all_cons, Bool.and_eq_true] at hs
    have hfew : ((backTo cp (starEach (e0 :: es) X.env)).all (fun x => !x.1) && (backToKw cp (keywordEach [] X.env)).all (fun x => x.1.isSome)
      && decide ((e0 :: es).length + ([] : List Keyword).length + (if ([] : List Keyword).isEmpty then 0 else 1) < 30)) = true := by
      rw [star_all (by rw [List.all_cons, hs.1, hs.2]; rfl)]
      have : decide ((e0 :: es).length + ([] : List Keyword).length + (if ([] : List Keyword).isEmpty then 0 else 1) < 30) = true := decide_eq_true (by simpa using hl)
      rw [this]
      rfl
    cases m
    case append => exact se_meth PySem.F.plainAttrs_list PySem.F.slot_list_append PySem.F.type_list_append mts_append ho ha (call_base hb) hfew hline (star_cons hs.1) (star_any hs.2)
    case extend => exact se_meth PySem.F.plainAttrs_list PySem.F.slot_list_extend PySem.F.type_list_extend mts_extend ho ha (call_base hb) hfew hline (star_cons hs.1) (star_any hs.2)
    case get => exact se_meth PySem.F.plainAttrs_dict PySem.F.slot_dict_get PySem.F.type_dict_get (mts_get (by omega)) ho ha (call_base hb) hfew hline (star_cons hs.1) (star_any hs.2)
    case starts => exact se_meth PySem.F.plainAttrs_str PySem.F.slot_str_startswith PySem.F.type_str_startswith mts_starts ho ha (call_base hb) hfew hline (star_cons hs.1) (star_any hs.2)
    case insert => exact se_meth PySem.F.plainAttrs_list PySem.F.slot_list_insert PySem.F.type_list_insert mts_insert ho ha (call_base hb) hfew hline (star_cons hs.1) (star_any hs.2)
    case pop => exact se_meth PySem.F.plainAttrs_list PySem.F.slot_list_pop PySem.F.type_list_pop mts_pop ho ha (call_base hb) hfew hline (star_cons hs.1) (star_any hs.2)
    case index => exact se_meth PySem.F.plainAttrs_tuple PySem.F.slot_tuple_index PySem.F.type_tuple_index mts_index ho ha (call_base hb) hfew hline (star_cons hs.1) (star_any hs.2)
theorem bi_se' {X : Cx} {sc : Scope} {cl : Str → Bool} (C : Calls Y k tb gl c) (g : Gd Y N k X sc cl) {b : Bi} {q : Bool} {x : Str} {es : List Expr} {as : Sl → M (List Val)} {p pos : Pos} (hx : x = b.name) (bx : biOk tb b = true) (gx : glB sc x = true) (h : SA X es as) (hs : es.all notStar = true) (hl : 0 < es.length) :
    SE X (.Call (.Name x p) es [] pos) (mBi b.f q as) := by
  subst hx
  cases es with
  | nil => cases hl
  | cons e0 es =>
    rw [List.all_cons, Bool.and_eq_true] at hs
    refine bi_se g.calm g.un (g.glo gx) (fun hb => ?_) (fun hb => ?_) (fun hb => ?_) h (star_cons hs.1) (star_any hs.2)
    · cases b
      case gcd => exact absurd rfl hb
      case repr =>
        have bx : (tb.rq && tb.bs.contains "repr") = true := bx
        rw [Bool.and_eq_true] at bx
        exact g.free C bx.2
      all_goals exact g.free C bx
    · subst hb
      rw [g.hmg]
      exact C.gq bx
    · subst hb
      have bx : (tb.rq && tb.bs.contains "repr") = true := bx
      rw [Bool.and_eq_true] at bx
      exact g.grd (C.rq bx.1)
theorem call_se' {X : Cx} {sc : Scope} {cl : Str → Bool} (C : Calls Y k tb gl c) (g : Gd Y N k X sc cl) {f n : Nat} {x : Str} {es : List Expr} {ms : List (Sl → M Val)} {p pos : Pos} (hf : tb.fs[f]? = some (x, n)) (gx : glB sc x = true) (hn : okN x = true) (h : SA X es (mArgs ms)) (hs : es.all notStar = true) (hl : es.length = n) (hl2 : ms.length = n) :
    SE X (.Call (.Name x p) es [] pos) (mCall (c f) (mArgs ms)) := by
  obtain ⟨addr, fd, ps, h1, h2, h3, h4, h5⟩ := C.fn f x n hf hn
  rw [← g.hP, ← g.hw, ← g.hK, ← g.hmg, ← g.hb] at h2
  rw [← g.hmg] at h3
  rw [← g.hK] at h4 h5
  cases es with
  | nil =>
    have hn0 : n = 0 := hl.symm
    subst hn0
    have hps : ps = [] := List.eq_nil_of_length_eq_zero h1
    subst hps
    have hms : ms = [] := List.eq_nil_of_length_eq_zero hl2
    subst hms
    exact se_call0 h2 (g.room.mono (Nat.le_succ _)) (g.glo gx) h3 h4 h5 (okN_ok hn).1
  | cons e0 es =>
    rw [List.all_cons, Bool.and_eq_true] at hs
    rw [← h1] at h2
    exact se_call h2 (g.room.mono (Nat.le_succ _)) (g.glo gx) h3 h4 h5 h (hl.trans h1.symm) (okN_ok hn).1 (star_cons hs.1) (star_any hs.2) fun {env mh mh' vs} e => (mArgs_len e).trans (hl2.trans hl.symm)
theorem ifs_ok {X : Cx} {ifs : List Expr} {t : T} {m : Expr → Bool} (ih : ∀ x, m x = true → STs X x (evT gl c t)) (h : ifsB m t.isYes ifs = true) : SPs X ifs (evT gl c t) := by
  match ifs, h with
  | [], h => cases t <;> first | exact sps_nil | cases h
  | [_], h => exact sps_one (ih _ h)
  | _ :: _ :: _, h => cases h
theorem opt_ok {X : Cx} {o : Option Expr} {e : E} {m : Expr → Bool} (ih : ∀ x, m x = true → SE X x (evE gl c e)) (h : optB m e.isAbs o = true) : SO X o (mOpt e.isAbs (evE gl c e)) := by
  match o, h with
  | none, h => rw [show e.isAbs = true from h]; exact so_none
  | some x, h =>
    have h : (!e.isAbs && m x) = true := h
    rw [Bool.and_eq_true, Bool.not_eq_true'] at h
    rw [h.1]; exact so_some (ih x h.2)
section
variable {X : Cx} {sc : Scope} {cl : Str → Bool} {fa fb : Sl → M Val} {a b : Expr → Bool}
theorem k_slot (g : Gd Y N k X sc cl) {i : Nat} : ∀ x, kSlot N sc i x = true → SE X x (mSlot i)
  | .Name x _, h => by
    have h : (decide (N[i]? = some x) && visB sc x && okN x) = true := h
    simp only [Bool.and_eq_true, decide_eq_true_eq] at h
    obtain ⟨n1, n2, n3⟩ := okN_ok h.2
    exact se_slot (g.at h.1.1) (g.vis h.1.2) n1 n2
theorem k_k {q : Kc} : ∀ x, kK q x = true → SE X x (mC q.d)
  | .Constant d _ _, h => kc_se h
theorem k_glob (C : Calls Y k tb gl c) (g : Gd Y N k X sc cl) {j : Nat} : ∀ x, kGlob tb sc j x = true → SE X x (mGlob gl j)
  | .Name x _, h => by
    have h : (decide (tb.gs[j]? = some x) && glB sc x && okN x) = true := h
    simp only [Bool.and_eq_true, decide_eq_true_eq] at h
    exact glob_se C g h.1.1 h.1.2 h.2
theorem k_neg (ih : ∀ x, a x = true → SE X x fa) : ∀ x, kNeg a x = true → SE X x (mUn negVl fa)
  | .UnaryOp .USub e _, h => se_neg (ih e h)
theorem k_nt (ih : ∀ x, a x = true → SE X x fa) : ∀ x, kNt a x = true → SE X x (mUn notVl fa)
  | .UnaryOp .Not e _, h => se_not (ih e h)
theorem k_bin {op : Operator} {q : Bool} (ih : ∀ x, a x = true → SE X x fa) (ih2 : ∀ x, b x = true → SE X x fb) : ∀ x, kBin op a b x = true → SE X x (mBin (binF op) q fa fb)
  | .BinOp ea eop eb _, h => by
    have h : (decide (op = eop) && a ea && b eb) = true := h
    simp only [Bool.and_eq_true, decide_eq_true_eq] at h
    obtain ⟨⟨rfl, h1⟩, h2⟩ := h
    exact se_bin (bin_ok op) (ih ea h1) (ih2 eb h2)
theorem k_cmp (hu : X.A.units + 65 < cLine) {op : CmpOp} (ih : ∀ x, a x = true → SE X x fa) (ih2 : ∀ x, b x = true → SE X x fb) : ∀ x, kCmp op a b x = true → SE X x (mBin (cmpF op) false fa fb)
  | .Compare ea [eop] [eb] _, h => by
    have h : (decide (op = eop) && a ea && b eb && notSet eb) = true := h
    simp only [Bool.and_eq_true, decide_eq_true_eq] at h
    obtain ⟨⟨⟨rfl, h1⟩, h2⟩, h3⟩ := h
    exact se_cmp (cmp_ok hu op) (ih ea h1) (ih2 eb h2) (set_marks h3)
theorem k_cmpT (hu : X.A.units + 65 < cLine) {op : CmpOp} (ih : ∀ x, a x = true → SE X x fa) (ih2 : ∀ x, b x = true → SE X x fb) : ∀ x, kCmp op a b x = true → STs X x (mCmpT (cmpF op) fa fb)
  | .Compare ea [eop] [eb] _, h => by
    have h : (decide (op = eop) && a ea && b eb && notSet eb) = true := h
    simp only [Bool.and_eq_true, decide_eq_true_eq] at h
    obtain ⟨⟨⟨rfl, h1⟩, h2⟩, h3⟩ := h
    exact st_cmp (cmp_ok hu op) (ih ea h1) (ih2 eb h2) (set_marks h3)
theorem k_one (ih : ∀ x, a x = true → SE X x fa) : ∀ x, kOne a x = true → SE X x fa
  | .BoolOp _ [e] _, h => se_one (ih e h)
theorem k_and (ih : ∀ x, a x = true → SE X x fa) (ih2 : ∀ x, b x = true → SE X x fb) : ∀ x, kAnd a b x = true → SE X x (mAnd fa fb)
  | .BoolOp .And (e :: e2 :: es) p, h => by
    have h : (a e && b (.BoolOp .And (e2 :: es) p)) = true := h
    rw [Bool.and_eq_true] at h
    exact se_and (ih e h.1) (ih2 _ h.2)
theorem k_or (ih : ∀ x, a x = true → SE X x fa) (ih2 : ∀ x, b x = true → SE X x fb) : ∀ x, kOr a b x = true → SE X x (mOr fa fb)
  | .BoolOp .Or (e :: e2 :: es) p, h => by
    have h : (a e && b (.BoolOp .Or (e2 :: es) p)) = true := h
    rw [Bool.and_eq_true] at h
    exact se_or (ih e h.1) (ih2 _ h.2)
theorem k_ife {t : Expr → Bool} {ft : Sl → M Bool} (iht : ∀ x, t x = true → STs X x ft) (ih : ∀ x, a x = true → SE X x fa) (ih2 : ∀ x, b x = true → SE X x fb) : ∀ x, kIfe t a b x = true → SE X x (mIte ft fa fb)
  | .IfExp et ea eb _, h => by
    have h : (t et && a ea && b eb) = true := h
    simp only [Bool.and_eq_true] at h
    exact se_ife (iht et h.1.1) (ih ea h.1.2) (ih2 eb h.2)
theorem k_tup {as : List Expr → Bool} {fs : Sl → M (List Val)} (ih : ∀ x, as x = true → SA X x fs) : ∀ x, kTup as x = true → SE X x (mTup fs)
  | .Tuple es _ _, h => se_tup (ih es h)
theorem k_lst {as : List Expr → Bool} {fs : Sl → M (List Val)} {q : Bool} (ih : ∀ x, as x = true → SA X x fs) : ∀ x, kLst as x = true → SE X x (mLst q fs)
  | .List es _, h => se_lst (ih es h)
theorem k_dict0 {q : Bool} : ∀ x, kDict0 x = true → SE X x (mDict0 q)
  | .Dict [] [] _, h => se_dict0
theorem k_ix (hu : X.A.units + 65 < cLine) (ih : ∀ x, a x = true → SE X x fa) (ih2 : ∀ x, b x = true → SE X x fb) : ∀ x, kIx a b x = true → SE X x (mIx fa fb)
  | .Subscript ea eb _, h => by
    have h : (a ea && b eb && notSlice eb) = true := h
    simp only [Bool.and_eq_true] at h
    exact se_ix (by omega) (ih ea h.1.1) (ih2 eb h.1.2) (slice_ix h.2)
theorem k_sl {q : Bool} {lo hi : Option Expr → Bool} {fl fh : Sl → M (Option Int)} (ih : ∀ x, a x = true → SE X x fa) (ihl : ∀ x, lo x = true → SO X x fl) (ihh : ∀ x, hi x = true → SO X x fh) : ∀ x, kSl a lo hi x = true → SE X x (mSl q fa fl fh)
  | .Subscript ea (.Slice elo ehi none _) _, h => by
    have h : (a ea && lo elo && hi ehi) = true := h
    simp only [Bool.and_eq_true] at h
    exact se_sl (ih ea h.1.1) (ihl elo h.1.2) (ihh ehi h.2)
theorem k_call (C : Calls Y k tb gl c) (g : Gd Y N k X sc cl) {f : Nat} {as : As} (ih : ∀ x, mAs tb N as sc cl x = true → SA X x (mArgs (evAs gl c as))) : ∀ x, kCall tb sc f as.len (mAs tb N as sc cl) x = true → SE X x (mCall (c f) (mArgs (evAs gl c as)))
  | .Call (.Name x _) es [] _, h => by
    have h : (decide (tb.fs[f]? = some (x, as.len)) && glB sc x && okN x && mAs tb N as sc cl es) = true := h
    simp only [Bool.and_eq_true, decide_eq_true_eq] at h
    obtain ⟨⟨⟨h1, h2⟩, h3⟩, h4⟩ := h
    obtain ⟨h5, h6⟩ := mAs_len h4
    exact call_se' C g h1 h2 h3 (ih es h4) h6 h5 (evAs_len as)
theorem k_bi (C : Calls Y k tb gl c) (g : Gd Y N k X sc cl) {bb : Bi} {q : Bool} {as : As} (ih : ∀ x, mAs tb N as sc cl x = true → SA X x (mArgs (evAs gl c as))) : ∀ x, kBi tb sc bb as.len (mAs tb N as sc cl) x = true → SE X x (mBi bb.f q (mArgs (evAs gl c as)))
  | .Call (.Name x _) es [] _, h => by
    have h : (decide (x = bb.name) && biOk tb bb && glB sc x && mAs tb N as sc cl es && decide (0 < as.len)) = true := h
    simp only [Bool.and_eq_true, decide_eq_true_eq] at h
    obtain ⟨⟨⟨⟨h1, h2⟩, h3⟩, h4⟩, h7⟩ := h
    obtain ⟨h5, h6⟩ := mAs_len h4
    exact bi_se' C g h1 h2 h3 (ih es h4) h6 (by rw [h5]; exact h7)
theorem k_isin (C : Calls Y k tb gl c) (g : Gd Y N k X sc cl) {t : String} (ih : ∀ x, a x = true → SE X x fa) : ∀ x, kIsin tb sc t a x = true → SE X x (mIsin t fa)
  | .Call (.Name x _) [e, .Name y _] [] _, h => by
    have h : (decide (x = "isinstance") && tb.bs.contains x && glB sc x && tb.bs.contains y && glB sc y && decide (y = Str.ofString t) && isTys.contains t && a e && notStar e) = true := h
    simp only [Bool.and_eq_true, decide_eq_true_eq] at h
    obtain ⟨⟨⟨⟨⟨⟨⟨⟨h1, h2⟩, h3⟩, h4⟩, h5⟩, h6⟩, h7⟩, h8⟩, h9⟩ := h
    exact isin_se C g (ih e h8) h1 h2 h3 h4 h5 h6 h7 h9
theorem k_meth (g : Gd Y N k X sc cl) {m : Mt} {as : As} (iho : ∀ x, a x = true → SE X x fa) (ih : ∀ x, mAs tb N as sc cl x = true → SA X x (mArgs (evAs gl c as))) : ∀ x, kMeth m as.len a (mAs tb N as sc cl) x = true → SE X x (mMeth m.ty m.f fa (mArgs (evAs gl c as)))
  | .Call (.Attribute eo name ap) es [] cp, h => by
    have h : (decide (name = m.name) && a eo && mAs tb N as sc cl es && decide (as.len < 30) && notCall eo && (ap.endLine == cp.line)) = true := h
    simp only [Bool.and_eq_true, decide_eq_true_eq] at h
    obtain ⟨⟨⟨⟨⟨rfl, h2⟩, h3⟩, h4⟩, h5⟩, h6⟩ := h
    obtain ⟨h7, h8⟩ := mAs_len h3
    exact meth_se g.un (iho eo h2) (ih es h3) (fun z => by
      have h9 := evAs_len (gl := gl) (c := c) as
      rw [← h7, z] at h9
      exact List.eq_nil_of_length_eq_zero h9) h8 (by rw [h7]; exact h4) h5 h6
/-- what a comprehension's block asks -/
structure LcP (Y : Wx) (N : List Str) (k : Nat) (X : Cx) (sc : Scope) (own : List (Str × Nat)) (scope : Scope) (tg iter : Expr) (ifs : List Expr) (sl : List Nat) (mi : Sl → M Ix) (fg : Val → Sl → M Sl) (ft : Sl → M Bool) : Prop where
  hi : SI X tg iter mi
  bk : BlkOk X.N X.env.scope scope own
  sub : ∀ i ∈ sl, i ∈ own.map (·.2)
  hg : ∀ (s : Shared) (H : Hp) (C : Addr) (cl : List (Str × Addr)) (fp : List Addr), SG (X.blk s H scope (compEnvC scope cl C X.env) fp) tg sl fg
  ht : ∀ (s : Shared) (H : Hp) (C : Addr) (cl : List (Str × Addr)) (fp : List Addr), SPs (X.blk s H scope (compEnvC scope cl C X.env) fp) ifs ft
  hs : ∀ x, foldedSetIterable iter X.env x = pure x
  gd : ∀ (s : Shared) (H : Hp) (C : Addr) (cl : List (Str × Addr)) (fp : List Addr), Gd Y N k (X.blk s H scope (compEnvC scope cl C X.env) fp) (relS scope sc) (clOf scope)
theorem lcP (g : Gd Y N k X sc cl) {own : List (Str × Nat)} {sl : List Nat} {it : Expr → Expr → Bool} {gg : Scope → (Str → Bool) → Expr → Bool} {t : T} {tt : Scope → (Str → Bool) → Expr → Bool} {mi : Sl → M Ix} {fg : Val → Sl → M Sl}
    {scope : Scope} {tg iter : Expr} {ifs : List Expr} (iI : ∀ tg x, it tg x = true → SI X tg x mi) (iG : ∀ sc cl x, gg sc cl x = true → ∀ X, Gd Y N k X sc cl → SG X x sl fg) (iT : ∀ sc cl x, tt sc cl x = true → ∀ X, Gd Y N k X sc cl → STs X x (evT gl c t))
    (h1 : blkC N sc scope own = true) (h2 : sl.all (fun i => (own.map (·.2)).contains i) = true) (h3 : it tg iter = true) (h4 : notSet iter = true) (h5 : gg (relS scope sc) (clOf scope) tg = true) (h6 : ifsB (tt (relS scope sc) (clOf scope)) t.isYes ifs = true) :
    LcP Y N k X sc own scope tg iter ifs sl mi fg (evT gl c t) := by
  have bk := blkOk_by h1
  refine ⟨iI _ _ h3, by rw [g.hN, g.hsc]; exact bk, fun i hi => List.contains_iff_mem.mp (List.all_eq_true.mp h2 i hi), fun s H a b f => iG _ _ _ h5 _ (g.blk bk.kind s H a b f), fun s H a b f => ?_, set_fold h4, fun s H a b f => g.blk bk.kind s H a b f⟩
  exact ifs_ok (fun x hx => iT _ _ x hx _ (g.blk bk.kind s H a b f)) h6
theorem k_lc (g : Gd Y N k X sc cl) {q : Bool} {own : List (Str × Nat)} {sl : List Nat} {it : Expr → Expr → Bool} {gg : Scope → (Str → Bool) → Expr → Bool} {t : T} {tt ee : Scope → (Str → Bool) → Expr → Bool} {mi : Sl → M Ix} {fg : Val → Sl → M Sl} {fe : Sl → M Val}
    (iI : ∀ tg x, it tg x = true → SI X tg x mi) (iG : ∀ sc cl x, gg sc cl x = true → ∀ X, Gd Y N k X sc cl → SG X x sl fg) (iT : ∀ sc cl x, tt sc cl x = true → ∀ X, Gd Y N k X sc cl → STs X x (evT gl c t)) (iE : ∀ sc cl x, ee sc cl x = true → ∀ X, Gd Y N k X sc cl → SE X x fe) :
    ∀ x, kLc N sc own sl it gg t.isYes tt ee x = true → SE X x (mLc q mi (own.map (·.2)) fg (evT gl c t) fe)
  | .ListComp ex [⟨tg, iter, ifs, ia⟩] scope _, h => by
    have h : (decide (ia = 0) && blkC N sc scope own && sl.all (fun i => (own.map (·.2)).contains i) && it tg iter && notSet iter && gg (relS scope sc) (clOf scope) tg && ifsB (tt (relS scope sc) (clOf scope)) t.isYes ifs && ee (relS scope sc) (clOf scope) ex) = true := h
    simp only [Bool.and_eq_true, decide_eq_true_eq] at h
    obtain ⟨⟨⟨⟨⟨⟨⟨rfl, h1⟩, h2⟩, h3⟩, h4⟩, h5⟩, h6⟩, h7⟩ := h
    have P := lcP g iI iG iT h1 h2 h3 h4 h5 h6
    exact se_lc g.calm g.ndX P.hi P.bk P.sub P.hg P.ht (fun s H a b f => iE _ _ _ h7 _ (P.gd s H a b f)) P.hs
theorem k_dc (g : Gd Y N k X sc cl) {q : Bool} {own : List (Str × Nat)} {sl : List Nat} {it : Expr → Expr → Bool} {gg : Scope → (Str → Bool) → Expr → Bool} {t : T} {tt ee ev : Scope → (Str → Bool) → Expr → Bool} {mi : Sl → M Ix} {fg : Val → Sl → M Sl} {fe fv : Sl → M Val}
    (iI : ∀ tg x, it tg x = true → SI X tg x mi) (iG : ∀ sc cl x, gg sc cl x = true → ∀ X, Gd Y N k X sc cl → SG X x sl fg) (iT : ∀ sc cl x, tt sc cl x = true → ∀ X, Gd Y N k X sc cl → STs X x (evT gl c t)) (iE : ∀ sc cl x, ee sc cl x = true → ∀ X, Gd Y N k X sc cl → SE X x fe) (iV : ∀ sc cl x, ev sc cl x = true → ∀ X, Gd Y N k X sc cl → SE X x fv) :
    ∀ x, kDc N sc own sl it gg t.isYes tt ee ev x = true → SE X x (mDc q mi (own.map (·.2)) fg (evT gl c t) fe fv)
  | .DictComp ek ex [⟨tg, iter, ifs, ia⟩] scope _, h => by
    have h : (decide (ia = 0) && blkC N sc scope own && sl.all (fun i => (own.map (·.2)).contains i) && it tg iter && notSet iter && gg (relS scope sc) (clOf scope) tg && ifsB (tt (relS scope sc) (clOf scope)) t.isYes ifs && ee (relS scope sc) (clOf scope) ek && ev (relS scope sc) (clOf scope) ex) = true := h
    simp only [Bool.and_eq_true, decide_eq_true_eq] at h
    obtain ⟨⟨⟨⟨⟨⟨⟨⟨rfl, h1⟩, h2⟩, h3⟩, h4⟩, h5⟩, h6⟩, h7⟩, h8⟩ := h
    have P := lcP g iI iG iT h1 h2 h3 h4 h5 h6
    exact se_dc g.calm g.ndX P.hi P.bk P.sub P.hg P.ht (fun s H a b f => iE _ _ _ h7 _ (P.gd s H a b f)) (fun s H a b f => iV _ _ _ h8 _ (P.gd s H a b f)) P.hs
theorem k_nil : ∀ x, kNil x = true → SA X x (mArgs [])
  | [], h => sa_nil
theorem k_cons {as : List Expr → Bool} {ms : List (Sl → M Val)} (ih : ∀ x, a x = true → SE X x fa) (ih2 : ∀ x, as x = true → SA X x (mArgs ms)) : ∀ x, kCons a as x = true → SA X x (mArgs (fa :: ms))
  | e :: es, h => by
    have h : (a e && as es && notStar e) = true := h
    simp only [Bool.and_eq_true] at h
    exact sa_cons (ih e h.1.1) (ih2 es h.1.2) (star_cons h.2)
theorem k_tru (ih : ∀ x, a x = true → SE X x fa) (x : Expr) (h : kTru a x = true) : STs X x (mTru fa) := by
  unfold kTru at h
  rw [Bool.and_eq_true] at h
  exact st_tru (ih x h.1) (test_plain h.2)
theorem k_ntT {fa : Sl → M Bool} (ih : ∀ x, a x = true → STs X x fa) : ∀ x, kNt a x = true → STs X x (mNotT fa)
  | .UnaryOp .Not e _, h => st_not (ih e h)
theorem k_oneW {fa : Sl → M Bool} (ih : ∀ x, a x = true → STs X x fa) : ∀ x, kOne a x = true → SW X x fa
  | .BoolOp .And [e] _, h => sw_and1 (ih e h)
  | .BoolOp .Or [e] _, h => sw_or1 (ih e h)
theorem k_andW {fa fb : Sl → M Bool} (ih : ∀ x, a x = true → STs X x fa) (ih2 : ∀ x, b x = true → SW X x fb) : ∀ x, kAnd a b x = true → SW X x (mAndT fa fb)
  | .BoolOp .And (e :: e2 :: es) p, h => by
    have h : (a e && b (.BoolOp .And (e2 :: es) p)) = true := h
    rw [Bool.and_eq_true] at h
    exact sw_and (ih e h.1) (ih2 _ h.2)
theorem k_orW {fa fb : Sl → M Bool} (ih : ∀ x, a x = true → STs X x fa) (ih2 : ∀ x, b x = true → SW X x fb) : ∀ x, kOr a b x = true → SW X x (mOrT fa fb)
  | .BoolOp .Or (e :: e2 :: es) p, h => by
    have h : (a e && b (.BoolOp .Or (e2 :: es) p)) = true := h
    rw [Bool.and_eq_true] at h
    exact sw_or (ih e h.1) (ih2 _ h.2)
theorem k_rng1 (C : Calls Y k tb gl c) (g : Gd Y N k X sc cl) {as : As} {tg : Expr} (ih : ∀ x, mAs tb N as sc cl x = true → SA X x (mArgs (evAs gl c as))) : ∀ x, kRng1 tb sc (mAs tb N as sc cl) x = true → SI X tg x (iArgs rng1 (mArgs (evAs gl c as)))
  | .Call (.Name x _) [e] [] _, h => by
    have h : (decide (x = "range") && tb.bs.contains x && glB sc x && mAs tb N as sc cl [e]) = true := h
    simp only [Bool.and_eq_true, decide_eq_true_eq] at h
    obtain ⟨⟨⟨rfl, h1⟩, h2⟩, h3⟩ := h
    have hs := (mAs_len h3).2
    exact si_range1 (g.glo h2) (g.free C h1) (ih [e] h3) (star_cons (by rw [List.all_cons, Bool.and_eq_true] at hs; exact hs.1))
theorem k_rng2 (C : Calls Y k tb gl c) (g : Gd Y N k X sc cl) {as : As} {tg : Expr} (ih : ∀ x, mAs tb N as sc cl x = true → SA X x (mArgs (evAs gl c as))) : ∀ x, kRng2 tb sc (mAs tb N as sc cl) x = true → SI X tg x (iArgs rng2 (mArgs (evAs gl c as)))
  | .Call (.Name x _) [e, e2] [] _, h => by
    have h : (decide (x = "range") && tb.bs.contains x && glB sc x && mAs tb N as sc cl [e, e2]) = true := h
    simp only [Bool.and_eq_true, decide_eq_true_eq] at h
    obtain ⟨⟨⟨rfl, h1⟩, h2⟩, h3⟩ := h
    have hs := (mAs_len h3).2
    rw [List.all_cons, List.all_cons, Bool.and_eq_true, Bool.and_eq_true] at hs
    exact si_range2 (g.glo h2) (g.free C h1) (ih [e, e2] h3) (by rw [star_cons hs.1, star_cons hs.2.1]; rfl) (star_cons hs.2.1)
theorem k_rev (C : Calls Y k tb gl c) (g : Gd Y N k X sc cl) {q : Bool} (ih : ∀ x, a x = true → SE X x fa) : ∀ x, kRev tb sc a x = true → SE X x (mRev q fa)
  | .Call (.Name x _) [.Call (.Name y _) [e] [] _] [] _, h => by
    have h : (decide (x = "list") && tb.bs.contains x && glB sc x && decide (y = "reversed") && tb.bs.contains y && glB sc y && a e && notStar e) = true := h
    simp only [Bool.and_eq_true, decide_eq_true_eq] at h
    obtain ⟨⟨⟨⟨⟨⟨⟨rfl, h1⟩, h2⟩, rfl⟩, h3⟩, h4⟩, h5⟩, h6⟩ := h
    exact se_rev g.calm (g.glo h2) (g.free C h1) (g.glo h4) (g.free C h3) (ih e h5) (star_cons h6) (star_cons rfl)
theorem k_enumT (C : Calls Y k tb gl c) (g : Gd Y N k X sc cl) {as : As} (ih : ∀ x, mAs tb N as sc cl x = true → SA X x (mArgs (evAs gl c as))) : ∀ tg x, kEnumT tb sc (mAs tb N as sc cl) tg x = true → SI X tg x (iArgs enumV (mArgs (evAs gl c as)))
  | tg, .Call (.Name x _) [e] [] _, h => by
    have h : (decide (x = "enumerate") && tb.bs.contains x && glB sc x && mAs tb N as sc cl [e] && isTup tg) = true := h
    simp only [Bool.and_eq_true, decide_eq_true_eq] at h
    obtain ⟨⟨⟨⟨rfl, h1⟩, h2⟩, h3⟩, h4⟩ := h
    have hs := (mAs_len h3).2
    rw [List.all_cons, Bool.and_eq_true] at hs
    cases tg with
    | Tuple elts kk tpos => exact si_enumT (g.glo h2) (g.free C h1) (ih [e] h3) (star_cons hs.1)
    | _ => cases h4
theorem k_zip (C : Calls Y k tb gl c) (g : Gd Y N k X sc cl) {as : As} (ih : ∀ x, mAs tb N as sc cl x = true → SA X x (mArgs (evAs gl c as))) : ∀ tg x, kZip tb sc (mAs tb N as sc cl) tg x = true → SI X tg x (iArgsH zip2 (mArgs (evAs gl c as)))
  | tg, .Call (.Name x _) [e, e2] [] _, h => by
    have h : (decide (x = "zip") && tb.bs.contains x && glB sc x && mAs tb N as sc cl [e, e2] && isTup tg) = true := h
    simp only [Bool.and_eq_true, decide_eq_true_eq] at h
    obtain ⟨⟨⟨⟨rfl, h1⟩, h2⟩, h3⟩, h4⟩ := h
    have hs := (mAs_len h3).2
    rw [List.all_cons, Bool.and_eq_true] at hs
    cases tg with
    | Tuple elts kk tpos => exact si_zip (g.glo h2) (g.free C h1) (ih [e, e2] h3) (star_cons hs.1) (star_any hs.2)
    | _ => cases h4
theorem k_zip3 (C : Calls Y k tb gl c) (g : Gd Y N k X sc cl) {as : As} (ih : ∀ x, mAs tb N as sc cl x = true → SA X x (mArgs (evAs gl c as))) : ∀ tg x, kZip3 tb sc (mAs tb N as sc cl) tg x = true → SI X tg x (iArgs zip3 (mArgs (evAs gl c as)))
  | tg, .Call (.Name x _) [e, e2, e3] [] _, h => by
    have h : (decide (x = "zip") && tb.bs.contains x && glB sc x && mAs tb N as sc cl [e, e2, e3] && isTup tg) = true := h
    simp only [Bool.and_eq_true, decide_eq_true_eq] at h
    obtain ⟨⟨⟨⟨rfl, h1⟩, h2⟩, h3⟩, h4⟩ := h
    have hs := (mAs_len h3).2
    rw [List.all_cons, Bool.and_eq_true] at hs
    cases tg with
    | Tuple elts kk tpos => exact si_zip3 (g.glo h2) (g.free C h1) (ih [e, e2, e3] h3) (star_cons hs.1) (star_any hs.2)
    | _ => cases h4
theorem k_nm (g : Gd Y N k X sc cl) {i : Nat} : ∀ x, kNm N sc cl i x = true → SG X x [i] (gNm i)
  | .Name x _, h => by
    have h : (decide (N[i]? = some x) && locB sc cl x) = true := h
    simp only [Bool.and_eq_true, decide_eq_true_eq] at h
    obtain ⟨h1, h2⟩ := g.loc h.2
    exact sg_name g.ndX (g.at h.1) h1 h2
theorem k_tp (g : Gd Y N k X sc cl) {n : Nat} {gs : Gs} {sl : List Nat} {ms : List Val → Sl → M Sl} (ih : ∀ x, mGs tb N gs sc cl x = true → SGs X x sl ms) : ∀ x, kTp n (mGs tb N gs sc cl) x = true → SG X x sl (gTp n ms)
  | .Tuple es _ _, h => by
    have h : (mGs tb N gs sc cl es && decide (es.length = n)) = true := h
    simp only [Bool.and_eq_true, decide_eq_true_eq] at h
    have hs := mGs_len h.1
    exact sg_tup g.calm (ih es h.1) (by rw [asg_len hs]; exact h.2) (asg_find hs)
theorem k_sb (hu : X.A.units + 65 < cLine) (ih : ∀ x, a x = true → SE X x fa) (ih2 : ∀ x, b x = true → SE X x fb) : ∀ x, kSb a b x = true → SG X x [] (gSb fa fb)
  | .Subscript eo ei _, h => by
    have h : (a eo && b ei && notSlice ei) = true := h
    simp only [Bool.and_eq_true] at h
    refine sg_sub (by omega) (ih eo h.1.1) (ih2 ei h.1.2) fun v => ?_
    have h3 := h.2
    cases ei <;> first | rfl | cases h3
theorem k_gnil : ∀ x, kNil x = true → SGs X x [] gNil
  | [], h => sgs_nil
theorem k_gcons {as : List Expr → Bool} {s1 s2 : List Nat} {m : Val → Sl → M Sl} {ms : List Val → Sl → M Sl} (ih : ∀ x, a x = true → SG X x s1 m) (ih2 : ∀ x, as x = true → SGs X x s2 ms) : ∀ x, kCons a as x = true → SGs X x (s1 ++ s2) (gCons m ms)
  | e :: es, h => by
    have h : (a e && as es && notStar e) = true := h
    simp only [Bool.and_eq_true] at h
    exact sgs_cons (ih e h.1.1) (ih2 es h.1.2) (asg_cons h.2)
end

theorem fld_ok {X : Cx} {sc : Scope} {cl : Str → Bool} (C : Calls Y k tb gl c) (g : Gd Y N k X sc cl) {Cs : List Str} {f : Str} (h : fldB tb Cs f = true) : ∀ D ∈ Cs, ∀ Ca, ClAt X.K D Ca → Cls X.K Ca ∧ NoAttr X.K Ca f := by
  intro D hD Ca hCa
  rw [g.hK] at hCa ⊢
  have h1 := List.all_eq_true.mp h D hD
  obtain ⟨cd, hcd, h2⟩ := List.any_eq_true.mp h1
  rw [Bool.and_eq_true] at h2
  obtain ⟨Cb, a1, a2, a3, a4, _⟩ := C.cl cd hcd
  have e : cd.nm = D := eq_of_beq h2.1
  rw [e] at a1
  have e2 : Ca = Cb := by
    have := hCa.symm.trans a1
    cases this; rfl
  subst e2
  exact ⟨a3, a4 f (List.contains_iff_mem.mp h2.2)⟩
theorem alt_ok {X : Cx} {sc : Scope} {cl : Str → Bool} (C : Calls Y k tb gl c) (g : Gd Y N k X sc cl) {alts : List (Str × Nat)} {m : Str} {n : Nat} (h : altB tb alts m n = true) : ∀ D f, (alts.map fun p => (p.1, c p.2)).lookup D = some f →
    ∃ Ca, ClAt X.K D Ca ∧ Cls X.K Ca ∧ ∃ (addr : Addr) (fd : FuncData) (ps : List Str), Meth X.K Ca m addr ∧ FnOk X.prog X.w X.K X.mg X.base L2.CX0 k addr fd ps (spF X.K ps.length f) ∧ Binds X.K fd ps [] ∧ ps.length = n := by
  intro D f hf
  rw [g.hP, g.hw, g.hK, g.hmg, g.hb]
  have : ∃ i, (D, i) ∈ alts ∧ f = c i := by
    clear h
    induction alts with
    | nil => cases hf
    | cons p ps ih =>
      by_cases hd : D = p.1
      · have hb : (D == p.1) = true := beq_iff_eq.mpr hd
        simp only [List.map_cons, List.lookup, hb] at hf
        cases hf
        exact ⟨p.2, by rw [hd]; exact List.mem_cons_self, rfl⟩
      · have hb : (D == p.1) = false := beq_eq_false_iff_ne.mpr hd
        simp only [List.map_cons, List.lookup, hb] at hf
        obtain ⟨i, h1, h2⟩ := ih hf
        exact ⟨i, List.mem_cons_of_mem _ h1, h2⟩
  obtain ⟨i, h1, rfl⟩ := this
  obtain ⟨cd, hcd, h2⟩ := List.any_eq_true.mp (List.all_eq_true.mp h _ h1)
  rw [Bool.and_eq_true] at h2
  obtain ⟨Cb, a1, a2, a3, a4, a5, _⟩ := C.cl cd hcd
  have e : cd.nm = D := eq_of_beq h2.1
  rw [e] at a1
  obtain ⟨addr, fd, ps, b1, b2, b3, b4⟩ := a5 _ (List.contains_iff_mem.mp h2.2)
  exact ⟨Cb, a1, a3, addr, fd, ps, b1, b2, b3, b4⟩
theorem few_ok {X : Cx} {e0 : Expr} {es : List Expr} {cp : Pos} (hs : (e0 :: es).all notStar = true) (hl : (e0 :: es).length < 30) : ((backTo cp (starEach (e0 :: es) X.env)).all (fun x => !x.1) && (backToKw cp (keywordEach [] X.env)).all (fun x => x.1.isSome)
      && decide ((e0 :: es).length + ([] : List Keyword).length + (if ([] : List Keyword).isEmpty then 0 else 1) < 30)) = true := by
  rw [star_all hs]
  have : decide ((e0 :: es).length + ([] : List Keyword).length + (if ([] : List Keyword).isEmpty then 0 else 1) < 30) = true := decide_eq_true (by simpa using hl)
  rw [this]
  rfl
section
variable {X : Cx} {sc : Scope} {cl : Str → Bool} {fa fb : Sl → M Val} {a b : Expr → Bool}
theorem k_fld (C : Calls Y k tb gl c) (g : Gd Y N k X sc cl) {Cs : List Str} {f : Str} (ih : ∀ x, a x = true → SE X x fa) : ∀ x, kFld tb Cs f a x = true → SE X x (mFld Cs f fa)
  | .Attribute eo x _, h => by
    have h : (decide (x = f) && a eo && notSup eo && fldB tb Cs f) = true := h
    simp only [Bool.and_eq_true, decide_eq_true_eq] at h
    obtain ⟨⟨⟨rfl, h2⟩, h3⟩, h4⟩ := h
    exact se_fld (fld_ok C g h4) (ih eo h2) (sup_base h3)
theorem k_mk (C : Calls Y k tb gl c) (g : Gd Y N k X sc cl) {D : Str} {i : Nat} {as : As} (ih : ∀ x, mAs tb N as sc cl x = true → SA X x (mArgs (evAs gl c as))) : ∀ x, kMk tb sc D i as.len (mAs tb N as sc cl) x = true → SE X x (mMk D (c i) (mArgs (evAs gl c as)))
  | .Call (.Name x _) es [] _, h => by
    have h : (decide (x = D) && (tb.cs.any fun cd => cd.nm == D && cd.init == some (i, as.len + 1)) && glB sc x && okN x && mAs tb N as sc cl es) = true := h
    simp only [Bool.and_eq_true, decide_eq_true_eq] at h
    obtain ⟨⟨⟨⟨rfl, h2⟩, h3⟩, h4⟩, h5⟩ := h
    obtain ⟨cd, hcd, h6⟩ := List.any_eq_true.mp h2
    rw [Bool.and_eq_true] at h6
    obtain ⟨Ca, a1, a2, a3, a4, a5, a6⟩ := C.cl cd hcd
    obtain ⟨addr, fd, ps, b1, b2, b3, b4⟩ := a6 _ (eq_of_beq h6.2)
    have e : cd.nm = x := eq_of_beq h6.1
    rw [e] at a1 a2
    obtain ⟨l1, l2⟩ := mAs_len h5
    have ih5 := ih es h5
    rw [← g.hP, ← g.hw, ← g.hK, ← g.hmg, ← g.hb] at b2
    rw [← g.hK] at a1 b1 b3
    rw [← g.hmg] at a2
    have b4 : ps.length = as.len + 1 := b4
    have hal : ∀ {env : Sl} {mh mh' : List Ob} {vs : List Val}, mArgs (evAs gl c as) env mh = some (vs, mh') → vs.length = es.length := fun {env mh mh' vs} e => (mArgs_len e).trans ((evAs_len as).trans l1.symm)
    cases es with
    | nil =>
      have hz : as = .nil := by
        cases as with
        | nil => rfl
        | cons _ _ => cases l1
      subst hz
      exact se_mk0 a1 b1 b2 g.room (g.glo h3) a2 b3 b4.symm (okN_ok h4).1
    | cons e0 es =>
      rw [List.all_cons, Bool.and_eq_true] at l2
      exact se_mk a1 b1 b2 g.room (g.glo h3) a2 b3 ih5 (by rw [b4, l1]) (okN_ok h4).1 (star_cons l2.1) (star_any l2.2) hal
theorem k_mcall (C : Calls Y k tb gl c) (g : Gd Y N k X sc cl) {alts : List (Str × Nat)} {m : Str} {as : As} (iho : ∀ x, a x = true → SE X x fa) (ih : ∀ x, mAs tb N as sc cl x = true → SA X x (mArgs (evAs gl c as))) : ∀ x, kMcall tb alts m as.len a (mAs tb N as sc cl) x = true → SE X x (mMc (alts.map fun p => (p.1, c p.2)) m fa (mArgs (evAs gl c as)))
  | .Call (.Attribute eo name ap) es [] cp, h => by
    have h : (decide (name = m) && a eo && mAs tb N as sc cl es && decide (as.len < 29) && notSup eo && (ap.endLine == cp.line) && altB tb alts m (as.len + 1)) = true := h
    simp only [Bool.and_eq_true, decide_eq_true_eq] at h
    obtain ⟨⟨⟨⟨⟨⟨rfl, h2⟩, h3⟩, h4⟩, h5⟩, h6⟩, h7⟩ := h
    obtain ⟨l1, l2⟩ := mAs_len h3
    have ih3 := ih es h3
    have hal : ∀ {env : Sl} {mh mh' : List Ob} {vs : List Val}, mArgs (evAs gl c as) env mh = some (vs, mh') → vs.length = es.length := fun {env mh mh' vs} e => (mArgs_len e).trans ((evAs_len as).trans l1.symm)
    have A := alt_ok C g h7
    cases es with
    | nil =>
      have hz : as = .nil := by
        cases as with
        | nil => rfl
        | cons _ _ => cases l1
      subst hz
      exact se_mcall0 A (g.room.mono (Nat.le_succ _)) (iho eo h2) (sup_base h5) h6
    | cons e0 es =>
      rw [← l1] at A
      have hs := l2
      rw [List.all_cons, Bool.and_eq_true] at l2
      exact se_mcall A (g.room.mono (Nat.le_succ _)) (iho eo h2) ih3 (sup_base h5) (few_ok hs (by rw [l1]; omega)) h6 (star_cons l2.1) (star_any l2.2) hal
theorem k_ixT (hu : X.A.units + 65 < cLine) {as : List Expr → Bool} {fs : Sl → M (List Val)} (iho : ∀ x, a x = true → SE X x fa) (ih : ∀ x, as x = true → SA X x fs) : ∀ x, kIxT a as x = true → SE X x (mIxT fa fs)
  | .Subscript eo (.Tuple es _ _) _, h => by
    have h : (a eo && as es) = true := h
    rw [Bool.and_eq_true] at h
    exact se_ixT (by omega) (iho eo h.1) (ih es h.2)
theorem k_dk {a b : Expr → Bool} {fa fb : Sl → M Val} (iha : ∀ x, a x = true → SE X x fa) (ihb : ∀ x, b x = true → SE X x fb) : ∀ x, kDk a b x = true → SE X x (mDk fa fb)
  | .Dict [some x] [y] _, h => by
    have h : (a x && b y) = true := h
    rw [Bool.and_eq_true] at h
    exact se_dk (iha x h.1) (ihb y h.2)
theorem k_dictT0 : ∀ x, kDict0 x = true → SE X x mDictT0
  | .Dict [] [] _, h => se_dictT0
theorem k_sbT (hu : X.A.units + 65 < cLine) {as : List Expr → Bool} {fs : Sl → M (List Val)} (iho : ∀ x, a x = true → SE X x fa) (ih : ∀ x, as x = true → SA X x fs) : ∀ x, kSbT a as x = true → SG X x [] (gSbT fa fs)
  | .Subscript eo (.Tuple es _ _) _, h => by
    have h : (a eo && as es) = true := h
    rw [Bool.and_eq_true] at h
    exact sg_subT (by omega) (iho eo h.1) (ih es h.2) fun v => rfl
theorem k_lc2 (g : Gd Y N k X sc cl) {q : Bool} {own : List (Str × Nat)} {sl sl1 vs1 : List Nat} {it : Expr → Expr → Bool} {it1 : Scope → (Str → Bool) → Expr → Expr → Bool} {gg gg1 : Scope → (Str → Bool) → Expr → Bool} {t t1 : T} {tt tt1 ee : Scope → (Str → Bool) → Expr → Bool} {mi mi1 : Sl → M Ix} {fg fg1 : Val → Sl → M Sl} {fe : Sl → M Val}
    (iI : ∀ tg x, it tg x = true → SI X tg x mi) (iG : ∀ sc cl x, gg sc cl x = true → ∀ X, Gd Y N k X sc cl → SG X x sl fg) (iT : ∀ sc cl x, tt sc cl x = true → ∀ X, Gd Y N k X sc cl → STs X x (evT gl c t))
    (iI1 : ∀ sc cl tg x, it1 sc cl tg x = true → ∀ X, Gd Y N k X sc cl → SI X tg x mi1) (iG1 : ∀ sc cl x, gg1 sc cl x = true → ∀ X, Gd Y N k X sc cl → SG X x sl1 fg1) (iT1 : ∀ sc cl x, tt1 sc cl x = true → ∀ X, Gd Y N k X sc cl → STs X x (evT gl c t1))
    (iE : ∀ sc cl x, ee sc cl x = true → ∀ X, Gd Y N k X sc cl → SE X x fe) :
    ∀ x, kLc2 N sc own sl it gg t.isYes tt vs1 sl1 it1 gg1 t1.isYes tt1 ee x = true → SE X x (mLc2 q mi (own.map (·.2)) fg (evT gl c t) mi1 vs1 fg1 (evT gl c t1) fe)
  | .ListComp ex [⟨tg, iter, ifs, ia⟩, ⟨tg1, iter1, ifs1, ia1⟩] scope _, h => by
    have h : (decide (ia = 0) && blkC N sc scope own && sl.all (fun i => (own.map (·.2)).contains i) && it tg iter && notSet iter && gg (relS scope sc) (clOf scope) tg && ifsB (tt (relS scope sc) (clOf scope)) t.isYes ifs && (decide (ia1 = 0) && sl1.all (fun i => vs1.contains i) && vs1.all (fun i => (own.map (·.2)).contains i) && notSet iter1 && it1 (relS scope sc) (clOf scope) tg1 iter1 && gg1 (relS scope sc) (clOf scope) tg1 && ifsB (tt1 (relS scope sc) (clOf scope)) t1.isYes ifs1 && ee (relS scope sc) (clOf scope) ex)) = true := h
    simp only [Bool.and_eq_true, decide_eq_true_eq] at h
    obtain ⟨⟨⟨⟨⟨⟨⟨rfl, h1⟩, h2⟩, h3⟩, h4⟩, h5⟩, h6⟩, ⟨⟨⟨⟨⟨⟨⟨rfl, h7⟩, h8⟩, h9⟩, h10⟩, h11⟩, h12⟩, h13⟩⟩ := h
    have P := lcP g iI iG iT h1 h2 h3 h4 h5 h6
    exact se_lc2 g.calm g.ndX P.hi P.bk P.sub (fun i hi => List.contains_iff_mem.mp (List.all_eq_true.mp h7 i hi)) (fun i hi => List.contains_iff_mem.mp (List.all_eq_true.mp h8 i hi)) P.hg P.ht (fun s H a b f => iI1 _ _ _ _ h10 _ (P.gd s H a b f)) (fun s H a b f => iG1 _ _ _ h11 _ (P.gd s H a b f))
      (fun s H a b f => ifs_ok (fun x hx => iT1 _ _ x hx _ (P.gd s H a b f)) h12) (fun s H a b f => iE _ _ _ h13 _ (P.gd s H a b f)) P.hs (fun env x => set_fold h9 x)
end

mutual
theorem sndE (C : Calls Y k tb gl c) : ∀ (e : E) (sc : Scope) (cl : Str → Bool) (x : Expr), mE tb N e sc cl x = true → ∀ X, Gd Y N k X sc cl → SE X x (evE gl c e)
  | .slot i, sc, cl, x, h, X, g => k_slot g x h
  | .k q, sc, cl, x, h, X, g => k_k x h
  | .glob j, sc, cl, x, h, X, g => k_glob C g x h
  | .absent, sc, cl, x, h, X, g => nomatch h
  | .neg a, sc, cl, x, h, X, g => k_neg (fun x hx => sndE C a sc cl x hx X g) x h
  | .nt a, sc, cl, x, h, X, g => k_nt (fun x hx => sndE C a sc cl x hx X g) x h
  | .bin op q a b, sc, cl, x, h, X, g => k_bin (fun x hx => sndE C a sc cl x hx X g) (fun x hx => sndE C b sc cl x hx X g) x h
  | .cmp op a b, sc, cl, x, h, X, g => k_cmp g.un (fun x hx => sndE C a sc cl x hx X g) (fun x hx => sndE C b sc cl x hx X g) x h
  | .one a, sc, cl, x, h, X, g => k_one (fun x hx => sndE C a sc cl x hx X g) x h
  | .and2 a b, sc, cl, x, h, X, g => k_and (fun x hx => sndE C a sc cl x hx X g) (fun x hx => sndE C b sc cl x hx X g) x h
  | .or2 a b, sc, cl, x, h, X, g => k_or (fun x hx => sndE C a sc cl x hx X g) (fun x hx => sndE C b sc cl x hx X g) x h
  | .ife t a b, sc, cl, x, h, X, g => k_ife (fun x hx => sndT C t sc cl x hx X g) (fun x hx => sndE C a sc cl x hx X g) (fun x hx => sndE C b sc cl x hx X g) x h
  | .tup as, sc, cl, x, h, X, g => k_tup (fun x hx => sndAs C as sc cl x hx X g) x h
  | .lst q as, sc, cl, x, h, X, g => k_lst (fun x hx => sndAs C as sc cl x hx X g) x h
  | .dict0 q, sc, cl, x, h, X, g => k_dict0 x h
  | .ix a b, sc, cl, x, h, X, g => k_ix g.un (fun x hx => sndE C a sc cl x hx X g) (fun x hx => sndE C b sc cl x hx X g) x h
  | .sl q a lo hi, sc, cl, x, h, X, g => k_sl (fun x hx => sndE C a sc cl x hx X g) (fun _ ho => opt_ok (fun x hx => sndE C lo sc cl x hx X g) ho) (fun _ ho => opt_ok (fun x hx => sndE C hi sc cl x hx X g) ho) x h
  | .call f as, sc, cl, x, h, X, g => k_call C g (fun x hx => sndAs C as sc cl x hx X g) x h
  | .bi b q as, sc, cl, x, h, X, g => k_bi C g (fun x hx => sndAs C as sc cl x hx X g) x h
  | .isin t a, sc, cl, x, h, X, g => k_isin C g (fun x hx => sndE C a sc cl x hx X g) x h
  | .rev _ a, sc, cl, x, h, X, g => k_rev C g (fun x hx => sndE C a sc cl x hx X g) x h
  | .meth m o as, sc, cl, x, h, X, g => k_meth g (fun x hx => sndE C o sc cl x hx X g) (fun x hx => sndAs C as sc cl x hx X g) x h
  | .lc q own tg it t el, sc, cl, x, h, X, g => k_lc g (fun tg x hx => sndI C it sc cl tg x hx X g) (fun sc cl x hx X g => sndG C tg sc cl x hx X g) (fun sc cl x hx X g => sndT C t sc cl x hx X g) (fun sc cl x hx X g => sndE C el sc cl x hx X g) x h
  | .dc q own tg it t kx vx, sc, cl, x, h, X, g => k_dc g (fun tg x hx => sndI C it sc cl tg x hx X g) (fun sc cl x hx X g => sndG C tg sc cl x hx X g) (fun sc cl x hx X g => sndT C t sc cl x hx X g) (fun sc cl x hx X g => sndE C kx sc cl x hx X g) (fun sc cl x hx X g => sndE C vx sc cl x hx X g) x h
  | .fld Cs f o, sc, cl, x, h, X, g => k_fld C g (fun x hx => sndE C o sc cl x hx X g) x h
  | .mk D i as, sc, cl, x, h, X, g => k_mk C g (fun x hx => sndAs C as sc cl x hx X g) x h
  | .mcall alts m o as, sc, cl, x, h, X, g => k_mcall C g (fun x hx => sndE C o sc cl x hx X g) (fun x hx => sndAs C as sc cl x hx X g) x h
  | .ixT o as, sc, cl, x, h, X, g => k_ixT g.un (fun x hx => sndE C o sc cl x hx X g) (fun x hx => sndAs C as sc cl x hx X g) x h
  | .dictT0, sc, cl, x, h, X, g => k_dictT0 x h
  | .dk a b, sc, cl, x, h, X, g => k_dk (fun x hx => sndE C a sc cl x hx X g) (fun x hx => sndE C b sc cl x hx X g) x h
  | .lc2 q own tg it t vs1 tg1 it1 t1 el, sc, cl, x, h, X, g => k_lc2 g (fun tg x hx => sndI C it sc cl tg x hx X g) (fun sc cl x hx X g => sndG C tg sc cl x hx X g) (fun sc cl x hx X g => sndT C t sc cl x hx X g) (fun sc cl tg x hx X g => sndI C it1 sc cl tg x hx X g) (fun sc cl x hx X g => sndG C tg1 sc cl x hx X g) (fun sc cl x hx X g => sndT C t1 sc cl x hx X g) (fun sc cl x hx X g => sndE C el sc cl x hx X g) x h
termination_by structural e => e
theorem sndAs (C : Calls Y k tb gl c) : ∀ (as : As) (sc : Scope) (cl : Str → Bool) (es : List Expr), mAs tb N as sc cl es = true → ∀ X, Gd Y N k X sc cl → SA X es (mArgs (evAs gl c as))
  | .nil, sc, cl, x, h, X, g => k_nil x h
  | .cons a as, sc, cl, x, h, X, g => k_cons (fun x hx => sndE C a sc cl x hx X g) (fun x hx => sndAs C as sc cl x hx X g) x h
termination_by structural e => e
theorem sndT (C : Calls Y k tb gl c) : ∀ (t : T) (sc : Scope) (cl : Str → Bool) (x : Expr), mT tb N t sc cl x = true → ∀ X, Gd Y N k X sc cl → STs X x (evT gl c t)
  | .yes, sc, cl, x, h, X, g => nomatch h
  | .cmp op a b, sc, cl, x, h, X, g => k_cmpT g.un (fun x hx => sndE C a sc cl x hx X g) (fun x hx => sndE C b sc cl x hx X g) x h
  | .tru a, sc, cl, x, h, X, g => k_tru (fun x hx => sndE C a sc cl x hx X g) x h
  | .nt t, sc, cl, x, h, X, g => k_ntT (fun x hx => sndT C t sc cl x hx X g) x h
  | .one a, sc, cl, x, h, X, g => (k_oneW (fun x hx => sndT C a sc cl x hx X g) x h).st
  | .and2 a b, sc, cl, x, h, X, g => (k_andW (fun x hx => sndT C a sc cl x hx X g) (fun x hx => sndW C b sc cl x hx X g) x h).st
  | .or2 a b, sc, cl, x, h, X, g => (k_orW (fun x hx => sndT C a sc cl x hx X g) (fun x hx => sndW C b sc cl x hx X g) x h).st
termination_by structural e => e
theorem sndW (C : Calls Y k tb gl c) : ∀ (t : T) (sc : Scope) (cl : Str → Bool) (x : Expr), mW tb N t sc cl x = true → ∀ X, Gd Y N k X sc cl → SW X x (evT gl c t)
  | .one a, sc, cl, x, h, X, g => k_oneW (fun x hx => sndT C a sc cl x hx X g) x h
  | .and2 a b, sc, cl, x, h, X, g => k_andW (fun x hx => sndT C a sc cl x hx X g) (fun x hx => sndW C b sc cl x hx X g) x h
  | .or2 a b, sc, cl, x, h, X, g => k_orW (fun x hx => sndT C a sc cl x hx X g) (fun x hx => sndW C b sc cl x hx X g) x h
  | .yes, sc, cl, x, h, X, g => nomatch h
  | .cmp _ _ _, sc, cl, x, h, X, g => nomatch h
  | .tru _, sc, cl, x, h, X, g => nomatch h
  | .nt _, sc, cl, x, h, X, g => nomatch h
termination_by structural e => e
theorem sndI (C : Calls Y k tb gl c) : ∀ (i : I) (sc : Scope) (cl : Str → Bool) (tg x : Expr), mI tb N i sc cl tg x = true → ∀ X, Gd Y N k X sc cl → SI X tg x (evI gl c i)
  | .val a, sc, cl, tg, x, h, X, g => si_val (sndE C a sc cl x h X g)
  | .range1 as, sc, cl, tg, x, h, X, g => k_rng1 C g (fun x hx => sndAs C as sc cl x hx X g) x h
  | .range2 as, sc, cl, tg, x, h, X, g => k_rng2 C g (fun x hx => sndAs C as sc cl x hx X g) x h
  | .zip as, sc, cl, tg, x, h, X, g => k_zip C g (fun x hx => sndAs C as sc cl x hx X g) tg x h
  | .zip3 as, sc, cl, tg, x, h, X, g => k_zip3 C g (fun x hx => sndAs C as sc cl x hx X g) tg x h
  | .enumT as, sc, cl, tg, x, h, X, g => k_enumT C g (fun x hx => sndAs C as sc cl x hx X g) tg x h
termination_by structural e => e
theorem sndG (C : Calls Y k tb gl c) : ∀ (t : G) (sc : Scope) (cl : Str → Bool) (x : Expr), mG tb N t sc cl x = true → ∀ X, Gd Y N k X sc cl → SG X x (gSl t) (evG gl c t)
  | .nm i, sc, cl, x, h, X, g => k_nm g x h
  | .tp n gs, sc, cl, x, h, X, g => k_tp g (fun x hx => sndGs C gs sc cl x hx X g) x h
  | .sb o i, sc, cl, x, h, X, g => k_sb g.un (fun x hx => sndE C o sc cl x hx X g) (fun x hx => sndE C i sc cl x hx X g) x h
  | .sbT o as, sc, cl, x, h, X, g => k_sbT g.un (fun x hx => sndE C o sc cl x hx X g) (fun x hx => sndAs C as sc cl x hx X g) x h
termination_by structural e => e
theorem sndGs (C : Calls Y k tb gl c) : ∀ (t : Gs) (sc : Scope) (cl : Str → Bool) (es : List Expr), mGs tb N t sc cl es = true → ∀ X, Gd Y N k X sc cl → SGs X es (gsSl t) (evGs gl c t)
  | .nil, sc, cl, x, h, X, g => k_gnil x h
  | .cons t ts, sc, cl, x, h, X, g => k_gcons (fun x hx => sndG C t sc cl x hx X g) (fun x hx => sndGs C ts sc cl x hx X g) x h
termination_by structural e => e
end
end
end Pv

/-! P12: statements, defs, programs -/
namespace Pv
open PySem PySem.Spec PyProof.Rows L2
section
variable {Y : Wx} {N : List Str} {k : Nat} {tb : Tb} {gl : List (Str × Dt)} {c : Nat → List Val → M Val}
theorem swaps_cell {X : Cx} {e : Expr} {x : Str} {p : Pos} {l : Nat} (h : X.env.scope.names.lookup x = some .cell) : swapsWith e (some (.Name x p)) l X.env = pure false := by
  have hk : (X.env.kindOf x == some NameKind.local) = false := by
    show (X.env.scope.names.lookup x == some NameKind.local) = false
    rw [h]; rfl
  unfold swapsWith
  cases e <;> first | rfl | simp only [hk, Bool.and_false, Bool.false_and]
theorem swaps_on {X : Cx} {e : Expr} {scope : Scope} {x : Str} {p : Pos} {l : Nat} (he : (∃ a b c, e = .ListComp a b scope c) ∨ ∃ a d b c, e = .DictComp a d b scope c) (hk : X.env.scope.kind = .function) (h : X.env.scope.names.lookup x = some .local) (hl : (p.line == e.pos.line) = true)
    (ha : (scope.names.any fun (n, k) => n == x && (k == .local || k == .cell)) = false) : swapsWith e (some (.Name x p)) l X.env = pure true := by
  have hk2 : (X.env.kindOf x == some NameKind.local) = true := by
    show (X.env.scope.names.lookup x == some NameKind.local) = true
    rw [h]; rfl
  have hb : (X.env.blockKind == ScopeKind.function) = true := by
    unfold Env.blockKind
    rw [hk]; rfl
  unfold swapsWith
  rcases he with ⟨a, b, d, rfl⟩ | ⟨a, d', b, d, rfl⟩ <;> (simp only [hk2, hb, hl, ha, Bool.not_false, Bool.and_true, Bool.and_self]; done)
theorem aug_ok {X : Cx} {op : Operator} (h : op = .Add ∨ op = .Sub) : PIp X op (ipI (augF op)) := by
  rcases h with rfl | rfl
  · exact ip_add
  · exact ip_sub
theorem swpB_on {X : Cx} {sc : Scope} {cl : Str → Bool} (g : Gd Y N k X sc cl) {y : Str} {py : Pos} {l : Nat} {e : Expr} (h2 : sc.names.lookup y = some .local) (h : swpB y py (compS e) = true) : swapsWith e (some (.Name y py)) l X.env = pure true := by
  have h2 : X.env.scope.names.lookup y = some .local := by rw [g.hsc]; exact h2
  have hk : X.env.scope.kind = .function := by rw [g.hsc]; exact g.kind
  cases e with
  | ListComp a b s p =>
    have h : ((py.line == p.line) && !(s.names.any fun (n, k) => n == y && (k == .local || k == .cell))) = true := h
    rw [Bool.and_eq_true] at h
    exact swaps_on (.inl ⟨_, _, _, rfl⟩) hk h2 h.1 ((Bool.not_eq_true' _).mp h.2)
  | DictComp a d b s p =>
    have h : ((py.line == p.line) && !(s.names.any fun (n, k) => n == y && (k == .local || k == .cell))) = true := h
    rw [Bool.and_eq_true] at h
    exact swaps_on (.inr ⟨_, _, _, _, rfl⟩) hk h2 h.1 ((Bool.not_eq_true' _).mp h.2)
  | _ => cases h
section
variable {X : Cx} {sc : Scope} {cl : Str → Bool} {fa : Sl → M Val} {a b : Expr → Bool}
theorem k_asg {t : Expr → Bool} {sl : List Nat} {fg : Val → Sl → M Sl} (ihg : ∀ x, t x = true → SG X x sl fg) (ih : ∀ x, a x = true → SE X x fa) : ∀ x, kAsg t a x = true → SS X x (mAsg fa fg) := by
  intro x h
  cases x with
  | Assign ts e pp =>
    cases ts with
    | cons tg ts =>
      cases ts with
      | nil =>
        have h : (t tg && a e && (notComp e || notNm tg) && (notTL tg || notTup e) && notStar tg) = true := h
        simp only [Bool.and_eq_true, Bool.or_eq_true] at h
        obtain ⟨⟨⟨⟨h1, h2⟩, h3⟩, h4⟩, h5⟩ := h
        exact ss_asg (ih e h2) (ihg tg h1) (h3.elim comp_swaps nm_swaps) (tup_swap h4) (by rw [asg_cons h5]; rfl)
      | _ => cases h
    | _ => cases h
  | _ => cases h
theorem k_set (g : Gd Y N k X sc cl) {i : Nat} (ih : ∀ x, a x = true → SE X x fa) : ∀ x, kSet N sc cl i a x = true → SS X x (mAsg fa (gNm i)) := by
  intro x h
  cases x with
  | Assign ts e pp =>
    cases ts with
    | cons tg ts =>
      cases ts with
      | nil =>
        cases tg with
        | Name x p0 =>
          have h : (decide (N[i]? = some x) && locB sc cl x && a e && (notComp e || decide (sc.names.lookup x = some .cell))) = true := h
          simp only [Bool.and_eq_true, Bool.or_eq_true, decide_eq_true_eq] at h
          obtain ⟨⟨⟨h1, h2⟩, h3⟩, h4⟩ := h
          obtain ⟨l1, l2⟩ := g.loc h2
          refine ss_set g.ndX (g.at h1) l1 (ih e h3) ?_ l2
          rcases h4 with h4 | h4
          · exact comp_swaps h4
          · exact swaps_cell (by rw [g.hsc]; exact h4)
        | _ => cases h
      | _ => cases tg <;> cases h
    | _ => cases h
  | _ => cases h
theorem k_swpL (g : Gd Y N k X sc cl) {i : Nat} {q : Bool} {own : List (Str × Nat)} {sl : List Nat} {it : Expr → Expr → Bool} {gg : Scope → (Str → Bool) → Expr → Bool} {t : T} {tt ee : Scope → (Str → Bool) → Expr → Bool} {mi : Sl → M Ix} {fg : Val → Sl → M Sl} {fe : Sl → M Val}
    (iI : ∀ tg x, it tg x = true → SI X tg x mi) (iG : ∀ sc cl x, gg sc cl x = true → ∀ X, Gd Y N k X sc cl → SG X x sl fg) (iT : ∀ sc cl x, tt sc cl x = true → ∀ X, Gd Y N k X sc cl → STs X x (evT gl c t)) (iE : ∀ sc cl x, ee sc cl x = true → ∀ X, Gd Y N k X sc cl → SE X x fe) :
    ∀ x, kSwp N sc i (kLc N sc own sl it gg t.isYes tt ee) x = true → SS X x (mAsg (mLc q mi (own.map (·.2)) fg (evT gl c t) fe) (gNm i)) := by
  intro x h
  cases x with
  | Assign ts e sp =>
    cases ts with
    | cons tg ts =>
      cases ts with
      | nil =>
        cases tg with
        | Name y py =>
          have h : (decide (N[i]? = some y) && decide (sc.names.lookup y = some .local) && kLc N sc own sl it gg t.isYes tt ee e && swpB y py (compS e)) = true := h
          simp only [Bool.and_eq_true, decide_eq_true_eq] at h
          obtain ⟨⟨⟨h1, h2⟩, h3⟩, h4⟩ := h
          have hsw := swpB_on (l := sp.line) g h2 h4
          match e, h3, hsw with
          | .ListComp ex [⟨tg, iter, ifs, ia⟩] scope _, h, hsw =>
            have h : (decide (ia = 0) && blkC N sc scope own && sl.all (fun i => (own.map (·.2)).contains i) && it tg iter && notSet iter && gg (relS scope sc) (clOf scope) tg && ifsB (tt (relS scope sc) (clOf scope)) t.isYes ifs && ee (relS scope sc) (clOf scope) ex) = true := h
            simp only [Bool.and_eq_true, decide_eq_true_eq] at h
            obtain ⟨⟨⟨⟨⟨⟨⟨rfl, e1⟩, e2⟩, e3⟩, e4⟩, e5⟩, e6⟩, e7⟩ := h
            have P := lcP g iI iG iT e1 e2 e3 e4 e5 e6
            exact ss_setLc g.calm g.ndX (g.at h1) (by rw [g.hsc]; exact h2) hsw P.hi P.bk P.sub P.hg P.ht (fun s H a b f => iE _ _ _ e7 _ (P.gd s H a b f)) P.hs
        | _ => cases h
      | _ => cases tg <;> cases h
    | _ => cases h
  | _ => cases h
theorem k_swpD (g : Gd Y N k X sc cl) {i : Nat} {q : Bool} {own : List (Str × Nat)} {sl : List Nat} {it : Expr → Expr → Bool} {gg : Scope → (Str → Bool) → Expr → Bool} {t : T} {tt ee ev : Scope → (Str → Bool) → Expr → Bool} {mi : Sl → M Ix} {fg : Val → Sl → M Sl} {fe fv : Sl → M Val}
    (iI : ∀ tg x, it tg x = true → SI X tg x mi) (iG : ∀ sc cl x, gg sc cl x = true → ∀ X, Gd Y N k X sc cl → SG X x sl fg) (iT : ∀ sc cl x, tt sc cl x = true → ∀ X, Gd Y N k X sc cl → STs X x (evT gl c t)) (iE : ∀ sc cl x, ee sc cl x = true → ∀ X, Gd Y N k X sc cl → SE X x fe) (iV : ∀ sc cl x, ev sc cl x = true → ∀ X, Gd Y N k X sc cl → SE X x fv) :
    ∀ x, kSwp N sc i (kDc N sc own sl it gg t.isYes tt ee ev) x = true → SS X x (mAsg (mDc q mi (own.map (·.2)) fg (evT gl c t) fe fv) (gNm i)) := by
  intro x h
  cases x with
  | Assign ts e sp =>
    cases ts with
    | cons tg ts =>
      cases ts with
      | nil =>
        cases tg with
        | Name y py =>
          have h : (decide (N[i]? = some y) && decide (sc.names.lookup y = some .local) && kDc N sc own sl it gg t.isYes tt ee ev e && swpB y py (compS e)) = true := h
          simp only [Bool.and_eq_true, decide_eq_true_eq] at h
          obtain ⟨⟨⟨h1, h2⟩, h3⟩, h4⟩ := h
          have hsw := swpB_on (l := sp.line) g h2 h4
          match e, h3, hsw with
          | .DictComp ek ex [⟨tg, iter, ifs, ia⟩] scope _, h, hsw =>
            have h : (decide (ia = 0) && blkC N sc scope own && sl.all (fun i => (own.map (·.2)).contains i) && it tg iter && notSet iter && gg (relS scope sc) (clOf scope) tg && ifsB (tt (relS scope sc) (clOf scope)) t.isYes ifs && ee (relS scope sc) (clOf scope) ek && ev (relS scope sc) (clOf scope) ex) = true := h
            simp only [Bool.and_eq_true, decide_eq_true_eq] at h
            obtain ⟨⟨⟨⟨⟨⟨⟨⟨rfl, e1⟩, e2⟩, e3⟩, e4⟩, e5⟩, e6⟩, e7⟩, e8⟩ := h
            have P := lcP g iI iG iT e1 e2 e3 e4 e5 e6
            exact ss_setDc g.calm g.ndX (g.at h1) (by rw [g.hsc]; exact h2) hsw P.hi P.bk P.sub P.hg P.ht (fun s H a b f => iE _ _ _ e7 _ (P.gd s H a b f)) (fun s H a b f => iV _ _ _ e8 _ (P.gd s H a b f)) P.hs
        | _ => cases h
      | _ => cases tg <;> cases h
    | _ => cases h
  | _ => cases h
theorem k_swpL2 (g : Gd Y N k X sc cl) {i : Nat} {q : Bool} {own : List (Str × Nat)} {sl sl1 vs1 : List Nat} {it : Expr → Expr → Bool} {it1 : Scope → (Str → Bool) → Expr → Expr → Bool} {gg gg1 : Scope → (Str → Bool) → Expr → Bool} {t t1 : T} {tt tt1 ee : Scope → (Str → Bool) → Expr → Bool} {mi mi1 : Sl → M Ix} {fg fg1 : Val → Sl → M Sl} {fe : Sl → M Val}
    (iI : ∀ tg x, it tg x = true → SI X tg x mi) (iG : ∀ sc cl x, gg sc cl x = true → ∀ X, Gd Y N k X sc cl → SG X x sl fg) (iT : ∀ sc cl x, tt sc cl x = true → ∀ X, Gd Y N k X sc cl → STs X x (evT gl c t))
    (iI1 : ∀ sc cl tg x, it1 sc cl tg x = true → ∀ X, Gd Y N k X sc cl → SI X tg x mi1) (iG1 : ∀ sc cl x, gg1 sc cl x = true → ∀ X, Gd Y N k X sc cl → SG X x sl1 fg1) (iT1 : ∀ sc cl x, tt1 sc cl x = true → ∀ X, Gd Y N k X sc cl → STs X x (evT gl c t1))
    (iE : ∀ sc cl x, ee sc cl x = true → ∀ X, Gd Y N k X sc cl → SE X x fe) :
    ∀ x, kSwp N sc i (kLc2 N sc own sl it gg t.isYes tt vs1 sl1 it1 gg1 t1.isYes tt1 ee) x = true → SS X x (mAsg (mLc2 q mi (own.map (·.2)) fg (evT gl c t) mi1 vs1 fg1 (evT gl c t1) fe) (gNm i)) := by
  intro x h
  cases x with
  | Assign ts e sp =>
    cases ts with
    | cons tg ts =>
      cases ts with
      | nil =>
        cases tg with
        | Name y py =>
          have h : (decide (N[i]? = some y) && decide (sc.names.lookup y = some .local) && kLc2 N sc own sl it gg t.isYes tt vs1 sl1 it1 gg1 t1.isYes tt1 ee e && swpB y py (compS e)) = true := h
          simp only [Bool.and_eq_true, decide_eq_true_eq] at h
          obtain ⟨⟨⟨h1, h2⟩, h3⟩, h4⟩ := h
          have hsw := swpB_on (l := sp.line) g h2 h4
          match e, h3, hsw with
          | .ListComp ex [⟨tg, iter, ifs, ia⟩, ⟨tg1, iter1, ifs1, ia1⟩] scope _, h, hsw =>
            have h : (decide (ia = 0) && blkC N sc scope own && sl.all (fun i => (own.map (·.2)).contains i) && it tg iter && notSet iter && gg (relS scope sc) (clOf scope) tg && ifsB (tt (relS scope sc) (clOf scope)) t.isYes ifs && (decide (ia1 = 0) && sl1.all (fun i => vs1.contains i) && vs1.all (fun i => (own.map (·.2)).contains i) && notSet iter1 && it1 (relS scope sc) (clOf scope) tg1 iter1 && gg1 (relS scope sc) (clOf scope) tg1 && ifsB (tt1 (relS scope sc) (clOf scope)) t1.isYes ifs1 && ee (relS scope sc) (clOf scope) ex)) = true := h
            simp only [Bool.and_eq_true, decide_eq_true_eq] at h
            obtain ⟨⟨⟨⟨⟨⟨⟨rfl, e1⟩, e2⟩, e3⟩, e4⟩, e5⟩, e6⟩, ⟨⟨⟨⟨⟨⟨⟨rfl, e7⟩, e8⟩, e9⟩, e10⟩, e11⟩, e12⟩, e13⟩⟩ := h
            have P := lcP g iI iG iT e1 e2 e3 e4 e5 e6
            exact ss_setLc2 g.calm g.ndX (g.at h1) (by rw [g.hsc]; exact h2) hsw P.hi P.bk P.sub (fun i hi => List.contains_iff_mem.mp (List.all_eq_true.mp e7 i hi)) (fun i hi => List.contains_iff_mem.mp (List.all_eq_true.mp e8 i hi)) P.hg P.ht (fun s H a b f => iI1 _ _ _ _ e10 _ (P.gd s H a b f)) (fun s H a b f => iG1 _ _ _ e11 _ (P.gd s H a b f))
              (fun s H a b f => ifs_ok (fun x hx => iT1 _ _ x hx _ (P.gd s H a b f)) e12) (fun s H a b f => iE _ _ _ e13 _ (P.gd s H a b f)) P.hs (fun env x => set_fold e9 x)
        | _ => cases h
      | _ => cases tg <;> cases h
    | _ => cases h
  | _ => cases h
theorem swaps_at {X : Cx} {e o : Expr} {f : Str} {p : Pos} {l : Nat} : swapsWith e (some (.Attribute o f p)) l X.env = pure false := by
  cases e <;> rfl
theorem k_fset (C : Calls Y k tb gl c) (g : Gd Y N k X sc cl) {Cs : List Str} {f : Str} {fb : Sl → M Val} (iho : ∀ x, a x = true → SE X x fa) (ih : ∀ x, b x = true → SE X x fb) : ∀ x, kFset tb Cs f a b x = true → SS X x (mSetF Cs f fa fb) := by
  intro x h
  cases x with
  | Assign ts e sp =>
    cases ts with
    | cons tg ts =>
      cases ts with
      | nil =>
        cases tg with
        | Attribute eo y py =>
          have h : (decide (y = f) && a eo && b e && fldB tb Cs f) = true := h
          simp only [Bool.and_eq_true, decide_eq_true_eq] at h
          obtain ⟨⟨⟨rfl, h2⟩, h3⟩, h4⟩ := h
          exact ss_fld (fld_ok C g h4) (iho eo h2) (ih e h3) swaps_at
        | _ => cases h
      | _ => cases tg <;> cases h
    | _ => cases h
  | _ => cases h
theorem kSwp_no {i : Nat} (ha : ∀ e, compS e ≠ none → a e = false) : ∀ x, kSwp N sc i a x = true → False := by
  intro x h
  cases x with
  | Assign ts e sp =>
    cases ts with
    | cons tg ts =>
      cases ts with
      | nil =>
        cases tg with
        | Name y py =>
          have h : (decide (N[i]? = some y) && decide (sc.names.lookup y = some .local) && a e && swpB y py (compS e)) = true := h
          simp only [Bool.and_eq_true] at h
          cases q : compS e with
          | none => rw [q] at h; cases h.2
          | some r =>
            have := ha e (by rw [q]; exact fun z => nomatch z)
            rw [this] at h
            cases h.1.2
        | _ => cases h
      | _ => cases tg <;> cases h
    | _ => cases h
  | _ => cases h
theorem k_aug (g : Gd Y N k X sc cl) {i : Nat} {op : Operator} (ih : ∀ x, a x = true → SE X x fa) : ∀ x, kAug N sc cl i op a x = true → SS X x (mAug i (augF op) fa) := by
  intro x h
  cases x with
  | AugAssign tg eop e p0 =>
    cases tg with
    | Name x p1 =>
      have h : (decide (op = eop) && (decide (op = .Add) || decide (op = .Sub)) && decide (N[i]? = some x) && locB sc cl x && a e) = true := h
      simp only [Bool.and_eq_true, Bool.or_eq_true, decide_eq_true_eq] at h
      obtain ⟨⟨⟨⟨rfl, h2⟩, h3⟩, h4⟩, h5⟩ := h
      obtain ⟨l1, l2⟩ := g.loc h4
      exact ss_aug g.ndX (g.at h3) l1 (ih e h5) (aug_ok h2) l2
    | _ => cases h
  | _ => cases h
theorem k_expr (ih : ∀ x, a x = true → SE X x fa) : ∀ x, kExpr a x = true → SS X x (mExpr fa) := by
  intro x h
  cases x with
  | Expr e p0 =>
    have h : (a e && notComp e) = true := h
    rw [Bool.and_eq_true] at h
    exact ss_expr (ih e h.1) (comp_swaps h.2)
  | _ => cases h
theorem k_doc : ∀ x, kDoc x = true → SS X x mPass := by
  intro x h
  cases x with
  | Expr e p0 =>
    cases e with
    | Constant d j p1 =>
      cases d with
      | str d =>
        exact SS.mk ps_doc fun D rl e q => by cases e; exact q _ _ _ _ rl .refl
      | _ => cases h
    | _ => cases h
  | _ => cases h
theorem k_ret (ih : ∀ x, a x = true → SE X x fa) : ∀ x, kRet a x = true → SS X x (mRet fa) := by
  intro x h
  cases x with
  | Return o p0 =>
    cases o with
    | some e =>
      exact ss_ret (ih e h)
    | _ => cases h
  | _ => cases h
theorem k_retN : ∀ x, kRetN x = true → SS X x (mRet (mC .none)) := by
  intro x h
  cases x with
  | Return o p0 =>
    cases o with
    | none =>
      exact ss_retN
    | _ => cases h
  | _ => cases h
theorem k_if {t : Expr → Bool} {p q : List Stmt → Bool} {ft : Sl → M Bool} {fp fq : Sl → M Fl} (iht : ∀ x, t x = true → STs X x ft) (ihp : ∀ x, p x = true → SSs X x fp) (ihq : ∀ x, q x = true → SSs X x fq) : ∀ x, kIf t p q x = true → SS X x (mIf ft fp fq) := by
  intro x h
  cases x with
  | If et ea eb p0 =>
    have h : (t et && p ea && q eb) = true := h
    rw [Bool.and_eq_true, Bool.and_eq_true] at h
    exact ss_if (iht et h.1.1) (ihp ea h.1.2) (ihq eb h.2)
  | _ => cases h
theorem k_for (g : Gd Y N k X sc cl) {t : Expr → Bool} {it : Expr → Expr → Bool} {p : List Stmt → Bool} {sl : List Nat} {mi : Sl → M Ix} {fg : Val → Sl → M Sl} {fp : Sl → M Fl} (ihg : ∀ x, t x = true → SG X x sl fg) (ihi : ∀ tg x, it tg x = true → SI X tg x mi) (ihp : ∀ x, p x = true → SSs X x fp) : ∀ x, kFor t it p x = true → SS X x (mFor mi fg fp) := by
  intro x h
  cases x with
  | For tg iter body els p0 =>
    cases els with
    | nil =>
      have h : (t tg && it tg iter && p body && notSet iter) = true := h
      rw [Bool.and_eq_true, Bool.and_eq_true, Bool.and_eq_true] at h
      exact ss_for g.xe g.calm (ihi tg iter h.1.1.2) (ihg tg h.1.1.1) (ihp body h.1.2) (set_fold h.2)
    | _ => cases h
  | _ => cases h
theorem k_forK (g : Gd Y N k X sc cl) {md i : Nat} {t : Expr → Bool} {p : List Stmt → Bool} {sl : List Nat} {fg : Val → Sl → M Sl} {fp : Sl → M Fl} (ihg : ∀ x, t x = true → SG X x sl fg) (ihp : ∀ x, p x = true → SSs X x fp) : ∀ x, kForK N sc md i t p x = true → SS X x (mForK md i fg fp) := by
  intro x h
  have at_ : ∀ {e : Expr}, kSlot N sc i e = true → ∃ x px, e = .Name x px ∧ X.N[i]? = some x ∧ Vis X.env.scope x ∧ (x == ("__debug__" : Str)) = false ∧ (x == ("__classdict__" : Str)) = false := fun {e} h => by
    cases e with
    | Name x px =>
      have h : (decide (N[i]? = some x) && visB sc x && okN x) = true := h
      simp only [Bool.and_eq_true, decide_eq_true_eq] at h
      obtain ⟨n1, n2, n3⟩ := okN_ok h.2
      exact ⟨x, px, rfl, g.at h.1.1, g.vis h.1.2, n1, n2⟩
    | _ => cases h
  cases x with
  | For tg iter body els p0 =>
    cases els with
    | nil =>
      have h : (t tg && p body && notSet iter && kWalkD N sc md i tg iter) = true := h
      rw [Bool.and_eq_true, Bool.and_eq_true, Bool.and_eq_true] at h
      obtain ⟨⟨⟨h1, h2⟩, h3⟩, h4⟩ := h
      match md, h4 with
      | 0, h4 =>
        obtain ⟨x, px, rfl, n1, n2, n3, n5⟩ := at_ h4
        exact ss_forK g.xe g.calm n1 n2 n3 n5 (ihg tg h1) (ihp body h2) (set_fold h3)
      | 1, h4 =>
        have h4 : kWalkV N sc i iter = true := h4
        unfold kWalkV at h4
        split at h4
        · rename_i eo name ap cp
          simp only [Bool.and_eq_true, decide_eq_true_eq] at h4
          obtain ⟨⟨rfl, h5⟩, h6⟩ := h4
          obtain ⟨x, px, rfl, n1, n2, n3, n5⟩ := at_ h5
          exact ss_forV g.xe g.calm n1 n2 n3 n5 (ihg tg h1) (ihp body h2) (call_base rfl) h6 (set_fold h3)
        · cases h4
      | 2, h4 =>
        have h4 : kWalkT N sc i iter tg = true := h4
        unfold kWalkT at h4
        split at h4
        · rename_i eo name ap cp _ _ _
          simp only [Bool.and_eq_true, decide_eq_true_eq] at h4
          obtain ⟨⟨rfl, h5⟩, h6⟩ := h4
          obtain ⟨x, px, rfl, n1, n2, n3, n5⟩ := at_ h5
          exact ss_forI g.xe g.calm n1 n2 n3 n5 (ihg _ h1) (ihp body h2) (call_base rfl) h6 (set_fold h3)
        · cases h4
      | n + 3, h4 => cases h4
    | _ => cases h
  | _ => cases h
theorem k_while (g : Gd Y N k X sc cl) {n : Nat} {t : Expr → Bool} {p : List Stmt → Bool} {ft : Sl → M Bool} {fp : Sl → M Fl} (iht : ∀ x, t x = true → STs X x ft) (ihp : ∀ x, p x = true → SSs X x fp) : ∀ x, kWhile t p x = true → SS X x (loopW ft fp n) := by
  intro x h
  cases x with
  | While et body els p0 =>
    cases els with
    | nil =>
      have h : (t et && p body) = true := h
      rw [Bool.and_eq_true] at h
      exact ss_while g.xe (iht et h.1) (ihp body h.2)
    | _ => cases h
  | _ => cases h
theorem k_pass : ∀ x, kPass x = true → SS X x mPass := by
  intro x h
  cases x with
  | Pass p0 =>
    exact ss_pass
  | _ => cases h
theorem k_brk : ∀ x, kBrk x = true → SS X x mBrk := by
  intro x h
  cases x with
  | Break p0 =>
    exact ss_brk
  | _ => cases h
theorem k_cnt : ∀ x, kCnt x = true → SS X x mCnt := by
  intro x h
  cases x with
  | Continue p0 =>
    exact ss_cnt
  | _ => cases h
theorem k_snil : ∀ x, kNil x = true → SSs X x mNil
  | [], h => sss_nil
theorem k_scons {s : Stmt → Bool} {b : List Stmt → Bool} {fs fb : Sl → M Fl} (ih : ∀ x, s x = true → SS X x fs) (ih2 : ∀ x, b x = true → SSs X x fb) : ∀ x, kConsS s b x = true → SSs X x (mSeq fs fb)
  | e :: es, h => by
    have h : (s e && b es) = true := h
    rw [Bool.and_eq_true] at h
    exact sss_cons (ih e h.1) (ih2 es h.2)
end
/-- what stands on the right of a swapped store -/
theorem sndSwp (C : Calls Y k tb gl c) (i : Nat) (a : E) (sc : Scope) (cl : Str → Bool) (x : Stmt) (h : kSwp N sc i (mE tb N a sc cl) x = true) (X : Cx) (g : Gd Y N k X sc cl) : SS X x (mAsg (evE gl c a) (gNm i)) := by
  cases a with
  | lc q own tg it t el => exact k_swpL g (fun tg x hx => sndI C it sc cl tg x hx X g) (fun sc cl x hx X g => sndG C tg sc cl x hx X g) (fun sc cl x hx X g => sndT C t sc cl x hx X g) (fun sc cl x hx X g => sndE C el sc cl x hx X g) x h
  | dc q own tg it t kx vx => exact k_swpD g (fun tg x hx => sndI C it sc cl tg x hx X g) (fun sc cl x hx X g => sndG C tg sc cl x hx X g) (fun sc cl x hx X g => sndT C t sc cl x hx X g) (fun sc cl x hx X g => sndE C kx sc cl x hx X g) (fun sc cl x hx X g => sndE C vx sc cl x hx X g) x h
  | lc2 q own tg it t vs1 tg1 it1 t1 el => exact k_swpL2 g (fun tg x hx => sndI C it sc cl tg x hx X g) (fun sc cl x hx X g => sndG C tg sc cl x hx X g) (fun sc cl x hx X g => sndT C t sc cl x hx X g) (fun sc cl tg x hx X g => sndI C it1 sc cl tg x hx X g) (fun sc cl x hx X g => sndG C tg1 sc cl x hx X g) (fun sc cl x hx X g => sndT C t1 sc cl x hx X g) (fun sc cl x hx X g => sndE C el sc cl x hx X g) x h
  | _ => exact (kSwp_no (fun e he => by cases e <;> first | rfl | exact absurd rfl he) x h).elim
mutual
theorem sndS (C : Calls Y k tb gl c) : ∀ (s : S) (sc : Scope) (cl : Str → Bool) (x : Stmt), mS tb N s sc cl x = true → ∀ X, Gd Y N k X sc cl → SS X x (evS gl c s)
  | .asg t a, sc, cl, x, h, X, g => k_asg (fun x hx => sndG C t sc cl x hx X g) (fun x hx => sndE C a sc cl x hx X g) x h
  | .set i a, sc, cl, x, h, X, g => k_set g (fun x hx => sndE C a sc cl x hx X g) x h
  | .swp i a, sc, cl, x, h, X, g => sndSwp C i a sc cl x h X g
  | .par _ _ _, sc, cl, x, h, X, g => nomatch h
  | .aug i op a, sc, cl, x, h, X, g => k_aug g (fun x hx => sndE C a sc cl x hx X g) x h
  | .expr a, sc, cl, x, h, X, g => k_expr (fun x hx => sndE C a sc cl x hx X g) x h
  | .doc, sc, cl, x, h, X, g => k_doc x h
  | .ret a, sc, cl, x, h, X, g => k_ret (fun x hx => sndE C a sc cl x hx X g) x h
  | .retN, sc, cl, x, h, X, g => k_retN x h
  | .iff t a b, sc, cl, x, h, X, g => k_if (fun x hx => sndT C t sc cl x hx X g) (fun x hx => sndSs C a sc cl x hx X g) (fun x hx => sndSs C b sc cl x hx X g) x h
  | .for t it b, sc, cl, x, h, X, g => k_for g (fun x hx => sndG C t sc cl x hx X g) (fun tg x hx => sndI C it sc cl tg x hx X g) (fun x hx => sndSs C b sc cl x hx X g) x h
  | .while n t b, sc, cl, x, h, X, g => k_while g (fun x hx => sndT C t sc cl x hx X g) (fun x hx => sndSs C b sc cl x hx X g) x h
  | .pass, sc, cl, x, h, X, g => k_pass x h
  | .brk, sc, cl, x, h, X, g => k_brk x h
  | .cnt, sc, cl, x, h, X, g => k_cnt x h
  | .forK md i t b, sc, cl, x, h, X, g => k_forK g (fun x hx => sndG C t sc cl x hx X g) (fun x hx => sndSs C b sc cl x hx X g) x h
  | .fset Cs f o a, sc, cl, x, h, X, g => k_fset C g (fun x hx => sndE C o sc cl x hx X g) (fun x hx => sndE C a sc cl x hx X g) x h
termination_by structural s => s
theorem sndSs (C : Calls Y k tb gl c) : ∀ (s : Ss) (sc : Scope) (cl : Str → Bool) (x : List Stmt), mSs tb N s sc cl x = true → ∀ X, Gd Y N k X sc cl → SSs X x (evSs gl c s)
  | .nil, sc, cl, x, h, X, g => k_snil x h
  | .cons s b, sc, cl, x, h, X, g => k_scons (fun x hx => sndS C s sc cl x hx X g) (fun x hx => sndSs C b sc cl x hx X g) x h
  | .frz i b, sc, cl, x, h, X, g => sss_frz (sndSs C b sc cl x h X g)
termination_by structural s => s
end

/-! ### a def's frame -/
def mBody (n : Nat) (m : Sl → M Fl) (vs : List Val) : M Val := do
  let f ← m (vs.map some ++ List.replicate (n - vs.length) none)
  match f with
  | .rt v => pure v
  | .nx _ => pure (.d .none)
  | _ => fun _ => none
section
variable {K : PySem.W.Frag} {mh mh' : List Ob} {F F' : Hp} {ρ ρ' : List Addr} {H H' : Hp}
theorem below_den {u : V} {v : Val} {n : Nat} (h : DenV K F ρ' u v) (b : v.below n = true) : DenV K F (ρ'.take n) u v := by
  cases v with
  | d x => exact h
  | ref m =>
    obtain ⟨a, e, r⟩ := h
    exact ⟨a, by rw [List.getElem?_take_of_lt (of_decide_eq_true b)]; exact e, r⟩
theorem below_dens {n : Nat} : ∀ {us : List V} {vs : List Val}, DenVs K F ρ' us vs → vs.all (·.below n) = true → DenVs K F (ρ'.take n) us vs
  | _, _, .nil, _ => .nil
  | _, _, .cons a b, h => by
    rw [List.all_cons, Bool.and_eq_true] at h
    exact .cons (below_den a h.1) (below_dens b h.2)
theorem below_denk {κ : Type} {n : Nat} : ∀ {us : List (κ × V)} {vs : List (κ × Val)}, DenVA K F ρ' us vs → (vs.all fun kv => kv.2.below n) = true → DenVA K F (ρ'.take n) us vs
  | _, _, .nil, _ => .nil
  | _, _, .cons a b, h => by
    rw [List.all_cons, Bool.and_eq_true] at h
    exact .cons ⟨a.1, below_den a.2 h.1⟩ (below_denk b h.2)
theorem den_below {u : V} {v : Val} (h : DenV K F ρ u v) : v.below ρ.length = true := by
  cases v with
  | d x => rfl
  | ref m =>
    obtain ⟨a, e, r⟩ := h
    exact decide_eq_true (List.getElem?_eq_some_iff.mp e).1
theorem dens_below : ∀ {us : List V} {vs : List Val}, DenVs K F ρ us vs → vs.all (·.below ρ.length) = true
  | _, _, .nil => rfl
  | _, _, .cons a b => by rw [List.all_cons, den_below a, dens_below b]; rfl
theorem denk_below {κ : Type} : ∀ {us : List (κ × V)} {vs : List (κ × Val)}, DenVA K F ρ us vs → (vs.all fun kv => kv.2.below ρ.length) = true
  | _, _, .nil => rfl
  | _, _, .cons a b => by rw [List.all_cons, den_below a.2, denk_below b]; rfl
theorem ObD.below {a : Addr} {o : Ob} (h : ObD K F ρ H a o) : o.below ρ.length = true := by
  cases o with
  | lst vs => obtain ⟨_, xs, _, d⟩ := h; exact dens_below d
  | dct vs => obtain ⟨_, xs, _, d⟩ := h; exact denk_below d
  | dead => rfl
  | ins C fs => obtain ⟨_, Ca, dx, us, _, _, d⟩ := h; exact denk_below d
  | dtk vs => obtain ⟨_, xs, _, d⟩ := h; exact denk_below d
theorem ObD.cut {a : Addr} {o : Ob} {n : Nat} (h : ObD K F ρ' H a o) (b : o.below n = true) : ObD K F (ρ'.take n) H a o := by
  cases o with
  | lst vs => obtain ⟨z, xs, e, d⟩ := h; exact ⟨z, xs, e, below_dens d b⟩
  | dct vs => obtain ⟨z, xs, e, d⟩ := h; exact ⟨z, xs, e, below_denk d b⟩
  | dead => exact h
  | ins C fs => obtain ⟨z, Ca, dx, us, n', e, d⟩ := h; exact ⟨z, Ca, dx, us, n', e, below_denk d b⟩
  | dtk vs => obtain ⟨z, xs, e, d⟩ := h; exact ⟨z, xs, e, below_denk d b⟩
theorem vbelow_mono {n m : Nat} (h : n ≤ m) {v : Val} (b : v.below n = true) : v.below m = true := by
  cases v with
  | d x => rfl
  | ref k =>
    have : k < n := of_decide_eq_true b
    exact decide_eq_true (by omega)
theorem below_mono {n m : Nat} (h : n ≤ m) {o : Ob} (b : o.below n = true) : o.below m = true := by
  cases o with
  | lst vs =>
    have b : vs.all (·.below n) = true := b
    show vs.all (·.below m) = true
    rw [List.all_eq_true] at b ⊢
    exact fun v hv => vbelow_mono h (b v hv)
  | dct vs =>
    have b : (vs.all fun kv => kv.2.below n) = true := b
    show (vs.all fun kv => kv.2.below m) = true
    rw [List.all_eq_true] at b ⊢
    exact fun v hv => vbelow_mono h (b v hv)
  | dead => rfl
  | ins C vs =>
    have b : (vs.all fun kv => kv.2.below n) = true := b
    show (vs.all fun kv => kv.2.below m) = true
    rw [List.all_eq_true] at b ⊢
    exact fun v hv => vbelow_mono h (b v hv)
  | dtk vs =>
    have b : (vs.all fun kv => kv.2.below n) = true := b
    show (vs.all fun kv => kv.2.below m) = true
    rw [List.all_eq_true] at b ⊢
    exact fun v hv => vbelow_mono h (b v hv)
theorem cutOk_get : ∀ {n : Nat} {os os' : List Ob} {m : Nat} {o o' : Ob}, cutOk n os os' → os[m]? = some o → os'[m]? = some o' → o' = o ∨ o'.below n = true
  | _, [], _, _, _, _, _, e, _ => by simp at e
  | _, _ :: _, [], _, _, _, h, _, _ => h.elim
  | _, o :: os, o' :: os', 0, _, _, h, e1, e2 => by
    simp at e1 e2
    subst e1 e2
    exact h.1
  | _, o :: os, o' :: os', m + 1, _, _, h, e1, e2 => cutOk_get (m := m) h.2 (by simpa using e1) (by simpa using e2)
theorem keepN_le (n : Nat) (v : Val) : n ≤ keepN n v := by
  cases v with
  | d x => exact Nat.le_refl _
  | ref m => show n ≤ (if m < n then n else m + 1); split <;> omega
theorem keepN_below (n : Nat) (v : Val) : v.below (keepN n v) = true := by
  cases v with
  | d x => rfl
  | ref m =>
    refine decide_eq_true ?_
    show m < (if m < n then n else m + 1)
    split <;> omega
theorem Wd.back (w : Wd K mh F ρ H) (w' : Wd K mh' F' ρ' H') (g : Gr F ρ H F' ρ' H') {n : Nat} (hn : mh.length ≤ n) (h : cutOk n mh mh') (h2 : ((mh'.take n).drop mh.length).all (·.below n) = true) : Wd K (mh'.take n) F' (ρ'.take n) H' ∧ Gr F ρ H F' (ρ'.take n) H' := by
  have pre : ρ <+: ρ'.take n := by
    obtain ⟨t, rfl⟩ := g.pre
    rw [List.take_append, List.take_of_length_le (by rw [w.len]; exact hn)]
    exact List.prefix_append _ _
  refine ⟨w'.cut n fun m o hm e1 a e2 => (w'.cell m a o e2 e1).cut ?_, ⟨g.ext, pre, fun a o q1 q2 q3 => let ⟨a1, a2, a3⟩ := g.fr a o q1 q2 q3; ⟨a1, a2, fun z => a3 (List.mem_of_mem_take z)⟩⟩⟩
  by_cases h1 : m < mh.length
  · rcases cutOk_get h (List.getElem?_eq_getElem h1) e1 with q | q
    · rw [q]
      have hmρ : m < ρ.length := by rw [w.len]; exact h1
      have b := (w.cell m _ _ (List.getElem?_eq_getElem hmρ) (List.getElem?_eq_getElem h1)).below
      rw [w.len] at b
      exact below_mono hn b
    · exact q
  · have hmem : o ∈ (mh'.take n).drop mh.length := by
      refine List.mem_iff_getElem?.mpr ⟨m - mh.length, ?_⟩
      rw [List.getElem?_drop, show mh.length + (m - mh.length) = m by omega, List.getElem?_take_of_lt hm]
      exact e1
    exact List.all_eq_true.mp h2 o hmem
end
/-- a def's frame; or none: all that it made stays -/
noncomputable def frameK (kp : Bool) (f : List Val → M Val) : List Val → M Val := match kp with
  | true => f
  | false => frame f
theorem frameK_some {kp : Bool} {f : List Val → M Val} {vs : List Val} {mh mh' : List Ob} {v : Val} (h : frameK kp f vs mh = some (v, mh')) : ∃ mh1, f vs mh = some (v, mh1) ∧ ((kp = true ∧ mh' = mh1) ∨ (mh' = mh1.take (keepN mh.length v) ∧ cutOk (keepN mh.length v) mh mh1 ∧ ((mh1.take (keepN mh.length v)).drop mh.length).all (·.below (keepN mh.length v)) = true)) := by
  cases kp with
  | true => exact ⟨mh', h, .inl ⟨rfl, rfl⟩⟩
  | false =>
    have h : frame f vs mh = some (v, mh') := h
    unfold frame at h
    cases e1 : f vs mh with
    | none => rw [e1] at h; cases h
    | some r =>
      obtain ⟨v1, mh1⟩ := r
      rw [e1] at h
      simp only at h
      split at h
      · rename_i hb
        have ev : v1 = v ∧ mh1.take (keepN mh.length v1) = mh' := by simpa using h
        obtain ⟨rfl, rfl⟩ := ev
        exact ⟨mh1, rfl, .inr ⟨rfl, hb.1, hb.2⟩⟩
      · cases h
/-- a def of the text, by its body -/
theorem def_ok {x qual : Str} {st : Stmt} {addr : Addr} {fd : FuncData} {ps : List Str} {b : Ss} {kp : Bool} (hgd : Y.gd = false) (C : Calls Y k tb gl c) (F : Fun Y.K x qual st addr fd) (S : FnScope N ps (defScope st)) (h : mSs tb N b (defScope st) (fun _ => true) (defBody st) = true) :
    FnOk Y.P Y.w Y.K Y.mg Y.base L2.CX0 (k + 2) addr fd ps (spF Y.K ps.length (frameK kp (mBody N.length (evSs gl c b)))) := by
  refine F.ok S (fun vs H Q E h => h.1) (fun cdv A outer s H us Q E hr hq => ?_)
  obtain ⟨hl, mh, Fz, ρ, vs, v, mh', w, d, e, q⟩ := hq
  obtain ⟨mh1, e1, hk⟩ := frameK_some e
  obtain ⟨f, mh2, e2, e3⟩ := M.bind_some.mp e1
  have G : Gd Y N k (cxOf L2.CX0 Y.P Y.w Y.K Y.mg Y.base N qual (defScope st) addr cdv A outer s H E).nox (defScope st) (fun _ => true) :=
    ⟨rfl, rfl, rfl, rfl, rfl, rfl, S.nd, rfl, hr, rfl, S.kind, fun _ _ => rfl, rfl, fun z => by rw [hgd] at z; cases z⟩
  refine ⟨_, sndSs C b _ _ _ h _ G, vs.map some ++ List.replicate (N.length - vs.length) none, mh, Fz, ρ, f, mh2, ?_, e2, ?_⟩
  · refine ⟨w, ?_, fun i v hv => ?_⟩
    · unfold L2.start
      rw [List.length_append, List.length_append, List.length_map, List.length_map, List.length_replicate, List.length_replicate, d.length]
    · unfold L2.start
      by_cases hi : i < vs.length
      · rw [List.getElem?_append_left (by rw [List.length_map]; exact hi), List.getElem?_map] at hv
        obtain ⟨v', h1, h2⟩ := Option.map_eq_some_iff.mp hv
        cases h2
        obtain ⟨u, h3, h4⟩ := d.get h1
        refine ⟨u, ?_, h4⟩
        rw [List.getElem?_append_left (by rw [List.length_map, d.length]; exact hi), List.getElem?_map, h3]
        rfl
      · rw [List.getElem?_append_right (by rw [List.length_map]; omega)] at hv
        have := List.mem_of_getElem? hv
        rw [List.mem_replicate] at this
        cases this.2
  · have fin : ∀ F' ρ' H' u, Wd Y.K mh1 F' ρ' H' → Gr Fz ρ H F' ρ' H' → DenV Y.K F' ρ' u v → Q u H' := fun F' ρ' H' u w' g' d' => by
      rcases hk with ⟨_, rfl⟩ | ⟨rfl, hb1, hb2⟩
      · exact q F' _ H' u w' g' d'
      · obtain ⟨w2, g2⟩ := w.back w' g' (keepN_le _ _) hb1 hb2
        exact q F' _ H' u w2 g2 (below_den d' (keepN_below _ _))
    cases f with
    | rt v => cases e3; exact fin
    | nx env' => cases e3; exact fun F' ρ' σ' H' r g' => fin F' ρ' H' _ r.wd g' Den.non
    | bk _ => cases e3
    | ct _ => cases e3
end
end Pv

/-! PQ: the law's own def, walked with no code guarded around it (for repr) -/
namespace Pv
open PySem PySem.Spec PyProof.Rows L2
structure FnOkG (P : Program) (w : World) (K : PySem.W.Frag) (mg : Str → Option Value) (base : Heap) (CX : CXT) (k : Nat) (f : Addr) (fd : FuncData) (ps : List Str) (sp : Sp) : Prop where
  run : ∀ (A : Around) (outer : List Env) (s : Shared) (H : Hp) (args : Args) (us : List Value) (vs : List V) (Q : VK) (E : XK), Room k A → A.guards = some [] → Env0 P w K mg base A outer s H →
    BindsTo s fd args (ps.zip us) → Vals vs us → sp vs H Q E → codeAny (model P w) A (.call (.ref f) args) (CR CX outer P w H s Q E) s
theorem law_callG {P : Program} {w : World} {K : PySem.W.Frag} {mg mb : Str → Option Value} {CX : CXT} {k : Nat} {fa a : Addr} {fd : FuncData} {x : Str} {sp : Sp} {s₁ : Shared} {vs : List Value} {ns : List Int}
    (KX : K.In s₁.heap) (hns : s₁.heap.Ns mainGlobals mg) (hb : s₁.heap.Ns builtinsNs mb) (hbb : ∀ x : Str, x ≠ Str.ofString "__name__" → mb x = bootBuiltins x) (hlim : s₁.heap.NoLimit) (hg : s₁.gens = #[])
    (ha : s₁.heap.get? a = some { cls := .type "list", data := .seq vs.toArray }) (hi : IntsAre vs ns) (hl : ns.length ≤ sizeLine) (hr : Room k callerA)
    (F : ∀ base : Heap, K.In base → base.Ns mainGlobals mg → FnOkG P w K mg base CX k fa fd [x] sp) (hbind : ∀ (s : Shared) (u : Value), BindsTo s fd { pos := [u] } [(x, u)])
    (hsp : ∀ H : Hp, Only H → SqL K H a (ns.map V.int) → sp [V.ref a] H (fun v _ => v = .bl true) fun _ _ _ => False)
    (hCX : ∀ (H : Hp) (e : Value) (s' : Shared), CX [] H s₁ (fun _ _ _ => False) e s' → False) :
    codeAny (model P w) callerA (.call (.ref fa) { pos := [.ref a] }) (fun r s' => r = .ok (.ret (.bool true)) ∧ OldK s₁.heap s'.heap ∧ s'.os = s₁.os ∧ AllBare s'.gens) s₁ := by
  have rv := vals_ints hi
  have lenV := IntsAre.length hi
  have core : ∀ H : Hp, Only H → SqL K H a (ns.map V.int) → HOk P w H s₁.heap → (∀ b, H b ≠ none → b = a) → (H a ≠ none → List.lookup a K = none) →
      codeAny (model P w) callerA (.call (.ref fa) { pos := [.ref a] }) (fun r s' => r = .ok (.ret (.bool true)) ∧ OldK s₁.heap s'.heap ∧ s'.os = s₁.os ∧ AllBare s'.gens) s₁ := by
    intro H hO hS hok hA hK
    have base_of : ∀ {b o}, s₁.heap.get? b = some o → H b = none → (hidT s₁.heap H).get? b = some o := fun e n => hidT_get e n
    have noA : ∀ {b o es ep}, s₁.heap.get? b = some o → o.data = .dict es ep → H b = none := by
      intro b o es ep e d
      cases q : H b with
      | none => rfl
      | some u =>
        have e' := hA b (by rw [q]; simp)
        subst e'
        rw [ha] at e
        cases e
        cases d
    have nsK : ∀ {b m}, s₁.heap.Ns b m → (hidT s₁.heap H).Ns b m := fun x => by
      obtain ⟨o, es, ep, e, d, r⟩ := x
      exact ⟨o, es, ep, base_of e (noA e d), d, r⟩
    have hKb : K.In (hidT s₁.heap H) := fun b o e => base_of (KX b o e) (by
      cases q : H b with
      | none => rfl
      | some u =>
        have e' := hA b (by rw [q]; simp)
        subst e'
        have h2 := hK (by rw [q]; simp)
        have e : List.lookup b K = some o := e
        rw [h2] at e
        cases e)
    have hM : Mod K mg (hidT s₁.heap H) := ⟨hKb, nsK hns, ⟨mb, nsK hb, hbb⟩, by obtain ⟨mc, h1, h2⟩ := hlim; exact ⟨mc, nsK h1, h2⟩⟩
    have e0 : Env0 P w K mg (hidT s₁.heap H) callerA [] s₁ H := ⟨rfl, hM, fun b o e => of_hidT e, Nat.le_of_eq (hidT_size s₁.heap H), trivial, fun b hb => absurd hb List.not_mem_nil, hok, AllBare.of_eq hg⟩
    refine codeAny_mono ((F _ hKb (nsK hns)).run callerA [] s₁ H _ [.ref a] [.ref a] (fun v _ => v = .bl true) (fun _ _ _ => False) hr rfl e0 (hbind s₁ (.ref a)) (.cons rfl .nil) (hsp H hO hS)) ?_
    intro r s' h
    cases r with
    | error e => exact (hCX H e s' h).elim
    | ok fl =>
      cases fl with
      | ret u =>
        obtain ⟨v, H', os, bare, un, hok', r', q⟩ := h
        have q : v = .bl true := q
        subst q
        have r' : u = .bool true := r'
        subst r'
        refine ⟨rfl, OldK.of_keep fun b o e => ?_, os, bare⟩
        cases q : H b with
        | none => exact un.keep b o e q List.not_mem_nil List.not_mem_nil
        | some u =>
          rcases hO b with z | ⟨ob, xs, z⟩
          · rw [q] at z; cases z
          · have z2 := un.frzs b ob (.lst xs) z
            obtain ⟨e1, _⟩ := hok b _ z
            obtain ⟨e2, _⟩ := hok' b _ z2
            rw [e] at e1; cases e1
            exact e2
      | _ => exact h.elim
  cases hk : List.lookup a K with
  | none =>
    refine core (fun b => if b = a then some (.frz { cls := .type "list", data := .seq vs.toArray } (.lst (ns.map V.int))) else none) (fun b => ?_) (.inl (.inr ⟨_, if_pos rfl⟩)) (fun b u z => ?_) (fun b z => ?_) fun _ => hk
    · by_cases hb : b = a
      · exact .inr ⟨_, _, if_pos hb⟩
      · exact .inl (if_neg hb)
    · by_cases hb : b = a
      · subst hb
        have z' := (if_pos rfl).symm.trans z
        cases z'
        exact ⟨ha, by rw [List.length_map]; exact hl, vs, 0, rv, ha⟩
      · have z' := (if_neg hb).symm.trans z
        cases z'
    · by_cases hb : b = a
      · exact hb
      · exact absurd (if_neg hb) z
  | some o =>
    have e := KX a o hk
    rw [ha] at e
    cases e
    exact core (fun _ => none) (fun _ => .inl rfl) (.inr ⟨_, vs.toArray, 0, hk, rfl, rfl, rfl, by rw [List.size_toArray, lenV]; exact hl, rv⟩) (fun b u z => by cases z) (fun b z => absurd rfl z) fun z => absurd rfl z
theorem walk_ofG {l : PySem.W.OpenLaw} {n k : Nat} {q : Program} {loose : List Str} {XP : (Str → Option Value) → Heap → Prop} {YP : World → Heap → Prop} {d : DefRec} {K : Params → PySem.W.Frag} {CX : World → CXT} {sp : World → Sp} {x : Str}
    (hn : l.most = some n) (hn2 : n ≤ sizeLine) (hdf : d.params.defaults = []) (hr : Room k callerA) (hY : ∀ (w : World) (h : Heap), YP w h → (K w.params).In h)
    (F : ∀ (w : World) (mg : Str → Option Value) (fa : Addr) (h : Heap), (K w.params).In h → h.Ns mainGlobals mg → mg d.name = some (.ref fa) →
      ∃ fd, (∀ (s : Shared) (u : Value), BindsTo s fd { pos := [u] } [(x, u)]) ∧ ∀ base : Heap, (K w.params).In base → base.Ns mainGlobals mg → FnOkG l.prog w (K w.params) mg base (CX w) k fa fd [x] (sp w))
    (hsp : ∀ (w : World) (H : Hp) (a : Addr) (ns : List Int), ns.length ≤ n → Only H → SqL (K w.params) H a (ns.map V.int) → sp w [V.ref a] H (fun v _ => v = .bl true) fun _ _ _ => False)
    (hCX : ∀ (w : World) (H : Hp) (s : Shared) (e : Value) (s' : Shared), CX w [] H s (fun _ _ _ => False) e s' → False) :
    PySem.W.WalkO q loose XP YP l.row.toRowW d [] fun f vs => call f vs :=
  Att.attach_call hn hdf fun w s₀ s₁ mg mb fa o pm cd doc a vs ns G Y ho hd hcd hmg hobj hints hlen hg => by
    have KX := hY w s₁.heap Y
    obtain ⟨fd, hb, hF⟩ := F w mg fa s₁.heap KX G.T.g hmg
    exact law_callG KX G.T.g G.T.b G.T.builtins G.T.nolimit hg hobj hints (Nat.le_trans hlen hn2) hr hF hb (fun H hO hS => hsp w H a ns hlen hO hS) fun H e s' => hCX w H s₁ e s'
/-- one run of a written def (as the kit's fn_of, for one place only) -/
theorem fn_run {CX : CXT} {P : Program} {w : World} {K : PySem.W.Frag} {mg : Str → Option Value} {base : Heap} {k : Nat} {f : Addr} {name qual : Str} {params : Arguments} {body : List Stmt} {scope : Scope} {dV kV doc pm cdv ct oc : Value}
    {an od : Option Addr} {osl : Array (Option Value)} {N ps : List Str} {A : Around} {outer : List Env} {s : Shared} {H : Hp} {args : Args} {us : List Value} {vs : List V} {Q : VK} {E : XK}
    (lk : List.lookup f K = some { cls := oc, dict := od, data := .func (PySem.W.fnOf name qual params body scope dV kV doc pm an cdv ct), slots := osl }) (hcd : PySem.W.codeIn K cdv qual = true) (S : FnScope N ps scope) (hl : vs.length = ps.length)
    (hr : Room (k + 1) A) (e0 : Env0 P w K mg base A outer s H) (hb : BindsTo s (PySem.W.fnOf name qual params body scope dV kV doc pm an cdv ct) args (ps.zip us)) (r : Vals vs us)
    (hbody : Room k (A.deeper (envOfC qual scope s.heap.objs.size f cdv)) → ∃ t, PSs (cxOf CX P w K mg base N qual scope f cdv A outer s H E) body t ∧ t { nx := fun _ H' => Q V.non H', rt := Q } (L2.start N vs) H) :
    codeAny (model P w) A (.call (.ref f) args) (CR CX outer P w H s Q E) s := by
  have KX := PySem.W.Frag.In.keeps e0.mod.kin fun b o e => (e0.bs b o e).1
  have lim := Heap.NoLimit.keeps e0.mod.nolimit fun b o e => (e0.bs b o e).1
  refine codeAny_call_function (Room.depth hr) (KX f _ lk) rfl S.co S.gen rfl (PySem.W.codeRec_of KX hcd) (hb (model P w) A.in1 (fun e s' => CR CX outer P w H s Q E (.error e) s') _ ?_)
  refine wpAny_newFunctionEnv_cells S.kind (fun p hy => (S.par p.1 (List.of_mem_zip hy).1).elim (fun q => Or.inl q) fun q => Or.inr ⟨q, PySem.W.cellsFrom_some scope.names (s.heap.objs.size + 1) [] (Or.inl q)⟩) fun env he s1 x => ?_
  subst he
  refine ⟨Heap.NoLimit.keeps lim x.toInCall.keep, codeAny_func ?_⟩
  obtain ⟨t, ht, hq⟩ := hbody (Room.deeper hr (envOfC qual scope s.heap.objs.size f cdv))
  have I := inv_start (CX := CX) (E := E) S hr.hd e0 hl r x
  refine wpAny_mono (ht.run [] s1 (L2.start N vs) H { nx := fun _ H' => Q V.non H', rt := Q } I hq) (fun fl s' hs => ?_) fun e s' hs => hs
  cases fl with
  | ret u =>
    obtain ⟨v, σ', H', J, rv, q⟩ := hs
    exact ⟨v, H', J.os, J.bare, J.base, J.hok, rv, q⟩
  | next =>
    obtain ⟨σ', H', J, q⟩ := hs
    exact ⟨V.non, H', J.os, J.bare, J.base, J.hok, rfl, q⟩
  | _ =>
    obtain ⟨_, _, _, q⟩ := hs
    exact q.elim
end Pv

/-! P13: a program of defs; the last of them is the law's own -/
namespace Pv
open PySem PySem.Spec PyProof.Rows L2

/-- a def: of the module (fn), or a method (qn: the name with the class); kp: what it makes stays -/
structure Df where
  name : Str
  ps : List Str
  N : List Str
  body : Ss
  kp : Bool := false
  fn : Bool := true
  qn : Str := name
abbrev Pg := List Df
noncomputable def callP (P : Pg) (gl : List (Str × Dt)) : Nat → Nat → List Val → M Val
  | 0, _, _ => fun _ => none
  | k + 1, f, vs => match P[f]? with
    | some d => frameK d.kp (mBody d.N.length (evSs gl (callP P gl k) d.body)) vs
    | none => fun _ => none
def Df.cn (d : Df) : Str := match d.fn with
  | true => d.name
  | false => "__debug__"
def tbOf (P : Pg) (bs : List Str) (gl : List (Str × Dt)) (gq rq : Bool) (cs : List Cd) : Tb := ⟨P.dropLast.map fun d => (d.cn, d.ps.length), bs, gl.map (·.1), rq, gq, cs⟩
/-- the def d stands in the written part, with the text st -/
structure DefAt (Y : Wx) (tb : Tb) (d : Df) (st : Stmt) (addr : Addr) (fd : FuncData) : Prop where
  at_ : Fun Y.K d.name d.qn st addr fd
  bn : Binds Y.K fd d.ps []
  sc : FnScope d.N d.ps (defScope st)
  txt : mSs tb d.N d.body (defScope st) (fun _ => true) (defBody st) = true
structure ProgOk (Y : Wx) (P : Pg) (bs : List Str) (gl : List (Str × Dt)) (gq : Bool) (cs : List Cd) : Prop where
  df : ∀ (f : Nat) (d : Df), P.dropLast[f]? = some d → d.fn = true → ∃ st addr fd, DefAt Y (tbOf P bs gl gq false cs) d st addr fd ∧ Y.mg d.name = some (.ref addr)
  bi : ∀ x ∈ bs, Y.mg x = none
  gls : ∀ (j : Nat) (x : Str) (d : Dt), gl[j]? = some (x, d) → ∃ (v : V) (u : Value), Y.mg x = some u ∧ RelV v u ∧ ∀ F, Den Y.K F v d
  gqs : gq = true → Y.mg "gcd" = some (.builtin "math.gcd")
  cl : ∀ cd ∈ cs, ∃ Ca : Addr, ClAt Y.K cd.nm Ca ∧ Y.mg cd.nm = some (.ref Ca) ∧ Cls Y.K Ca ∧ (∀ f ∈ cd.flds, NoAttr Y.K Ca f) ∧
    (∀ p ∈ cd.ms, ∃ d st addr fd, P.dropLast[p.2.1]? = some d ∧ DefAt Y (tbOf P bs gl gq false cs) d st addr fd ∧ Meth Y.K Ca p.1 addr ∧ d.ps.length = p.2.2) ∧
    (∀ p, cd.init = some p → ∃ d st addr fd, P.dropLast[p.1]? = some d ∧ DefAt Y (tbOf P bs gl gq false cs) d st addr fd ∧ Mk Y.K Ca addr ∧ d.ps.length = p.2)
section
variable {Y : Wx} {P : Pg} {bs : List Str} {gl : List (Str × Dt)} {gq : Bool} {cs : List Cd}
theorem drop_get {f : Nat} {d : Df} (h : P.dropLast[f]? = some d) : P[f]? = some d := by
  rw [List.dropLast_eq_take] at h
  have h1 := (List.getElem?_eq_some_iff.mp h).1
  rw [List.length_take] at h1
  rwa [List.getElem?_take_of_lt (by omega)] at h
theorem calls_mk {Y : Wx} (O : ProgOk Y P bs gl gq cs) {k : Nat} {rq : Bool} (hr : rq = true → Y.gd = true) {K : Nat} (ih : ∀ (f : Nat) (d : Df), P.dropLast[f]? = some d → ∀ (st : Stmt) (addr : Addr) (fd : FuncData), DefAt Y (tbOf P bs gl gq false cs) d st addr fd →
    FnOk Y.P Y.w Y.K Y.mg Y.base L2.CX0 K addr fd d.ps (spF Y.K d.ps.length (callP P gl k f))) : Calls Y K (tbOf P bs gl gq rq cs) gl (callP P gl k) := by
  refine ⟨fun f' x n hf hn => ?_, O.bi, fun j x hx => ?_, hr, O.gqs, fun cd hcd => ?_⟩
  · have hf : (P.dropLast.map fun d => (d.cn, d.ps.length))[f']? = some (x, n) := hf
    rw [List.getElem?_map] at hf
    obtain ⟨d', h1, h2⟩ := Option.map_eq_some_iff.mp hf
    cases h2
    cases hfn : d'.fn with
    | false =>
      have : d'.cn = "__debug__" := by unfold Df.cn; rw [hfn]
      rw [this] at hn
      exact absurd hn (by decide +kernel)
    | true =>
      have : d'.cn = d'.name := by unfold Df.cn; rw [hfn]
      rw [this]
      obtain ⟨st', addr', fd', D', hm'⟩ := O.df f' d' h1 hfn
      exact ⟨addr', fd', d'.ps, rfl, ih f' d' h1 st' addr' fd' D', hm', D'.at_.kp, D'.bn⟩
  · have hx : (gl.map (·.1))[j]? = some x := hx
    rw [List.getElem?_map] at hx
    obtain ⟨p, h1, h2⟩ := Option.map_eq_some_iff.mp hx
    subst h2
    obtain ⟨v, u, h3, h4, h5⟩ := O.gls j p.1 p.2 h1
    exact ⟨p.2, v, u, h1, h3, h4, h5⟩
  · obtain ⟨Ca, a1, a2, a3, a4, a5, a6⟩ := O.cl cd hcd
    refine ⟨Ca, a1, a2, a3, a4, fun p hp => ?_, fun p hp => ?_⟩
    · obtain ⟨d, st, addr, fd, b1, b2, b3, b4⟩ := a5 p hp
      exact ⟨addr, fd, d.ps, b3, ih _ d b1 st addr fd b2, b2.bn, b4⟩
    · obtain ⟨d, st, addr, fd, b1, b2, b3, b4⟩ := a6 p hp
      exact ⟨addr, fd, d.ps, b3, ih _ d b1 st addr fd b2, b2.bn, b4⟩
theorem callP_ok (O : ProgOk Y P bs gl gq cs) (hgd : Y.gd = false) : ∀ (k f : Nat) (d : Df), P.dropLast[f]? = some d → ∀ (st : Stmt) (addr : Addr) (fd : FuncData), DefAt Y (tbOf P bs gl gq false cs) d st addr fd →
    FnOk Y.P Y.w Y.K Y.mg Y.base L2.CX0 (2 * k) addr fd d.ps (spF Y.K d.ps.length (callP P gl k f))
  | 0, f, d, hd, st, addr, fd, D => by
    refine ⟨fun vs H Q E h => h.1, fun A outer s H args us vs Q E hr he hb hv hs => ?_⟩
    obtain ⟨_, mh, Fz, ρ, vs', v, mh', w, dd, e, q⟩ := hs
    cases e
  | k + 1, f, d, hd, st, addr, fd, D => by
    have C : Calls Y (2 * k) (tbOf P bs gl gq false cs) gl (callP P gl k) := calls_mk (rq := false) O (fun z => nomatch z) fun f' d' h1 st' addr' fd' D' => callP_ok O hgd k f' d' h1 st' addr' fd' D'
    have := def_ok (kp := d.kp) hgd C D.at_ D.sc D.txt
    refine FnOk.imp this fun vs H Q E h => ?_
    obtain ⟨hl, mh, Fz, ρ, vs', v, mh', w, dd, e, q⟩ := h
    refine ⟨hl, mh, Fz, ρ, vs', v, mh', w, dd, ?_, q⟩
    have e : (match P[f]? with
      | some d => frameK d.kp (mBody d.N.length (evSs gl (callP P gl k) d.body)) vs'
      | none => fun _ => none : M Val) mh = some (v, mh') := e
    rw [drop_get hd] at e
    exact e
/-- the law's promise -/
def spLaw (K : PySem.W.Frag) : Sp := fun vs H Q _ => ∃ (a : Addr) (ns : List Int), vs = [.ref a] ∧ SqL K H a (ns.map V.int) ∧ ns.length ≤ 63 ∧ ∀ H', Q (.bl true) H'
theorem den_ints {K : PySem.W.Frag} {F : Hp} : ∀ ns : List Int, DenAll K F (ns.map V.int) (ns.map PyData.int)
  | [] => .nil
  | n :: ns => .cons (.int n) (den_ints ns)
theorem law_okG (O : ProgOk Y P bs gl gq cs) (hgd : Y.gd = false) {k f : Nat} {d : Df} (hd : P[f]? = some d) {addr : Addr} {fd : FuncData} {st : Stmt} (hps : d.ps = ([Str.ofString "script"] : List Str)) (F : Fun Y.K d.name d.qn st addr fd) (S : FnScope d.N d.ps (defScope st)) (m : mSs (tbOf P bs gl gq true cs) d.N d.body (defScope st) (fun _ => true) (defBody st) = true)
    (law : ∀ ns : List Int, ns.length ≤ 63 → ∃ mh', callP P gl (k + 1) f [.d (.list (ns.map PyData.int))] [] = some (.d (.bool true), mh')) :
    FnOkG Y.P Y.w Y.K Y.mg Y.base L2.CX0 (2 * (k + 1)) addr fd ([Str.ofString "script"] : List Str) (spLaw Y.K) := by
  refine ⟨fun A outer s H args us vs Q E hr hg e0 hb hv hs => ?_⟩
  obtain ⟨a, ns, rfl, hS, hl, q⟩ := hs
  obtain ⟨mh', e⟩ := law ns hl
  obtain ⟨oc, od, kV, doc, pm, an, cdv, ct, osl, rfl, lk, hcd⟩ := F.ex
  have hbx : Env0 Y.P Y.w Y.K Y.mg Y.base A outer s H := e0
  refine fn_run (k := 2 * k + 1) lk hcd S (by rw [hps]; rfl) (by rw [show 2 * k + 1 + 1 = 2 * (k + 1) by omega]; exact hr) e0 (by rw [hps]; exact hb) hv fun hr2 => ?_
  have e : (match P[f]? with
    | some d => frameK d.kp (mBody d.N.length (evSs gl (callP P gl k) d.body)) [.d (.list (ns.map PyData.int))]
    | none => fun _ => none : M Val) [] = some (.d (.bool true), mh') := e
  rw [hd] at e
  simp only at e
  let Y' : Wx := ⟨Y.P, Y.w, Y.K, Y.mg, Y.base, true⟩
  have cv : ∀ {d st addr fd}, DefAt Y (tbOf P bs gl gq false cs) d st addr fd → DefAt Y' (tbOf P bs gl gq false cs) d st addr fd := fun h => ⟨h.1, h.2, h.3, h.4⟩
  have vc : ∀ {d st addr fd}, DefAt Y' (tbOf P bs gl gq false cs) d st addr fd → DefAt Y (tbOf P bs gl gq false cs) d st addr fd := fun h => ⟨h.1, h.2, h.3, h.4⟩
  have O' : ProgOk Y' P bs gl gq cs := ⟨fun f d h hf => let ⟨st, addr, fd, h1, h2⟩ := O.df f d h hf; ⟨st, addr, fd, cv h1, h2⟩, O.bi, O.gls, O.gqs, fun cd hcd => by
    obtain ⟨Ca, a1, a2, a3, a4, a5, a6⟩ := O.cl cd hcd
    refine ⟨Ca, a1, a2, a3, a4, fun p hp => ?_, fun p hp => ?_⟩
    · obtain ⟨d, st, addr, fd, b1, b2, b3, b4⟩ := a5 p hp
      exact ⟨d, st, addr, fd, b1, cv b2, b3, b4⟩
    · obtain ⟨d, st, addr, fd, b1, b2, b3, b4⟩ := a6 p hp
      exact ⟨d, st, addr, fd, b1, cv b2, b3, b4⟩⟩
  have C : Calls Y' (2 * k) (tbOf P bs gl gq true cs) gl (callP P gl k) := calls_mk O' (fun _ => rfl) fun f' d' h1 st' addr' fd' D' => callP_ok O hgd k f' d' h1 st' addr' fd' (vc D')
  obtain ⟨mh1, e1, _⟩ := frameK_some e
  obtain ⟨fl, mh2, e2, e3⟩ := M.bind_some.mp e1
  have G : Gd Y' d.N (2 * k) (cxOf L2.CX0 Y.P Y.w Y.K Y.mg Y.base d.N d.qn (defScope st) addr cdv A outer s H E).nox (defScope st) (fun _ => true) :=
    ⟨rfl, rfl, rfl, rfl, rfl, rfl, S.nd, rfl, hr2, rfl, S.kind, fun _ _ => rfl, rfl, fun _ => hg⟩
  have w : Wd Y.K [] H [] H := ⟨fun _ _ h => h, rfl, List.nodup_nil, fun n a o h => by simp at h, fun n a o h => by simp at h⟩
  have dv : DenVs Y.K H [] [V.ref a] [.d (.list (ns.map PyData.int))] := .cons (show DenV Y.K H [] (V.ref a) (.d (.list (ns.map PyData.int))) from Den.lst hS (by rw [List.length_map]; exact Nat.le_trans hl (by decide)) (den_ints ns)) .nil
  refine ⟨_, PSs.nox (sndSs C d.body _ _ _ m _ G), [some (.d (.list (ns.map PyData.int)))] ++ List.replicate (d.N.length - 1) none, [], H, [], fl, mh2, ?_, e2, ?_⟩
  · refine ⟨w, ?_, fun i v hv => ?_⟩
    · unfold L2.start
      simp
    · unfold L2.start
      by_cases hi : i < 1
      · have : i = 0 := by omega
        subst this
        simp at hv
        subst hv
        exact ⟨V.ref a, rfl, (dv.get (i := 0) rfl).elim fun u hu => by obtain ⟨h1, h2⟩ := hu; cases h1; exact h2⟩
      · rw [List.getElem?_append_right (by simp; omega)] at hv
        have := List.mem_of_getElem? hv
        rw [List.mem_replicate] at this
        cases this.2
  · have fin : ∀ F' ρ' H' u, Wd Y.K mh1 F' ρ' H' → Gr H [] H F' ρ' H' → DenV Y.K F' ρ' u (.d (.bool true)) → Q u H' := fun F' ρ' H' u w' g' d' => by
      rw [den_bl d']
      exact q H'
    cases fl with
    | rt v => cases e3; exact fin
    | nx env' => cases e3
    | bk _ => cases e3
    | ct _ => cases e3
end
end Pv

/-! P14: what the evaluator does, read backwards from what is wanted -/
namespace Pv
open PySem PySem.Spec PyProof.Rows L2
/-- what is left of a goal by its rule -/
class Wp (G : Prop) (P : outParam Prop) : Prop where
  prf : P → G

open PySem PySem.Spec PyProof.Rows L2

def W {α : Type} (m : M α) (mh : List Ob) (Q : α → List Ob → Prop) : Prop := ∃ a mh', m mh = some (a, mh') ∧ Q a mh'
theorem W.mono {α : Type} {m : M α} {mh : List Ob} {Q R : α → List Ob → Prop} (h : W m mh Q) (k : ∀ a mh', Q a mh' → R a mh') : W m mh R := by
  obtain ⟨a, mh', e, q⟩ := h
  exact ⟨a, mh', e, k _ _ q⟩
theorem W.bind {α β : Type} {x : M α} {f : α → M β} {mh : List Ob} {Q : β → List Ob → Prop} (h : W x mh fun a mh1 => W (f a) mh1 Q) : W (x >>= f) mh Q := by
  obtain ⟨a, mh1, e1, b, mh2, e2, q⟩ := h
  exact ⟨b, mh2, M.bind_some.mpr ⟨a, mh1, e1, e2⟩, q⟩
theorem W.pure {α : Type} {a : α} {mh : List Ob} {Q : α → List Ob → Prop} (h : Q a mh) : W (pure a : M α) mh Q := ⟨a, mh, rfl, h⟩
theorem W.rd {α : Type} {f : List Ob → Option α} {mh : List Ob} {Q : α → List Ob → Prop} (h : ∃ a, f mh = some a ∧ Q a mh) : W (rdM f) mh Q := by
  obtain ⟨a, e, q⟩ := h
  exact ⟨a, mh, rdM_some.mpr ⟨e, rfl⟩, q⟩
theorem W.ofO {α : Type} {o : Option α} {mh : List Ob} {Q : α → List Ob → Prop} (h : ∃ a, o = some a ∧ Q a mh) : W (Pv.ofO o) mh Q := by
  obtain ⟨a, e, q⟩ := h
  exact ⟨a, mh, ofO_some.mpr ⟨e, rfl⟩, q⟩
/-- a result that is to be made -/
def WR (k : Bool) (o : Option Rv) (mh : List Ob) (Q : Val → List Ob → Prop) : Prop := ∃ r, o = some r ∧ W (finR k r) mh Q
section
variable {k : Bool} {o : Option Rv} {mh : List Ob} {Q : Val → List Ob → Prop}
theorem wr_v {x : Val} (e : o = some (.v x)) (h : Q x mh) : WR false o mh Q := ⟨_, e, W.pure h⟩
theorem wr_nl {ds : List Dt} (e : o = some (.nl (ds.map Val.d))) (h : Q (.d (.list ds)) mh) : WR false o mh Q :=
  ⟨_, e, W.ofO ⟨_, by rw [asDs_map]; rfl, h⟩⟩
theorem wr_cell {vs : List Val} (e : o = some (.nl vs)) (h : Q (.ref mh.length) (mh ++ [.lst vs])) : WR true o mh Q := ⟨_, e, ⟨_, _, rfl, h⟩⟩
theorem wr_dcell {kvs : List (Key × Val)} (e : o = some (.nd kvs)) (h : Q (.ref mh.length) (mh ++ [.dct kvs])) : WR true o mh Q := ⟨_, e, ⟨_, _, rfl, h⟩⟩
theorem wr_nd {kvs : List (Key × Val)} {ds : List (Dt × Dt)} (e : o = some (.nd kvs)) (e2 : asDKs kvs = some ds) (h : Q (.d (.dict ds)) mh) : WR false o mh Q :=
  ⟨_, e, W.ofO ⟨_, by rw [e2]; rfl, h⟩⟩
end
section
variable {gl : List (Str × Dt)} {c : Nat → List Val → M Val} {env : Sl} {mh : List Ob} {Q : Val → List Ob → Prop}
theorem we_slot {i : Nat} {v : Val} (h : env.getD i none = some v) (q : Q v mh) : W (evE gl c (.slot i) env) mh Q := W.ofO ⟨_, h, q⟩
theorem we_k {x : Kc} (q : Q (.d x.d) mh) : W (evE gl c (.k x) env) mh Q := W.pure q
theorem we_glob {j : Nat} {x : Str} {d : Dt} (h : gl[j]? = some (x, d)) (q : Q (.d d) mh) : W (evE gl c (.glob j) env) mh Q := W.ofO ⟨.d d, by rw [h]; rfl, q⟩
theorem we_neg {a : E} (h : W (evE gl c a env) mh fun v mh1 => ∃ i, v = .d (.int i) ∧ Q (.d (.int (-i))) mh1) : W (evE gl c (.neg a) env) mh Q :=
  W.bind (h.mono fun v mh1 ⟨i, e, q⟩ => by subst e; exact W.ofO ⟨_, rfl, q⟩)
instance i_we_neg {a : E} : Wp (W (evE gl c (.neg a) env) mh Q) (W (evE gl c a env) mh fun v mh1 => ∃ i, v = .d (.int i) ∧ Q (.d (.int (-i))) mh1) := ⟨fun h => we_neg h⟩
theorem we_nt {a : E} (h : W (evE gl c a env) mh fun v mh1 => ∃ b, v = .d (.bool b) ∧ Q (.d (.bool (!b))) mh1) : W (evE gl c (.nt a) env) mh Q :=
  W.bind (h.mono fun v mh1 ⟨i, e, q⟩ => by subst e; exact W.ofO ⟨_, rfl, q⟩)
instance i_we_nt {a : E} : Wp (W (evE gl c (.nt a) env) mh Q) (W (evE gl c a env) mh fun v mh1 => ∃ b, v = .d (.bool b) ∧ Q (.d (.bool (!b))) mh1) := ⟨fun h => we_nt h⟩
theorem we_bin {op : Operator} {k : Bool} {a b : E} (h : W (evE gl c a env) mh fun x mh1 => W (evE gl c b env) mh1 fun y mh2 => WR k (binF op mh2 x y) mh2 Q) : W (evE gl c (.bin op k a b) env) mh Q :=
  W.bind (h.mono fun x mh1 h1 => W.bind (h1.mono fun y mh2 ⟨r, e, w⟩ => W.bind (W.rd ⟨r, e, w⟩)))
instance i_we_bin {op : Operator} {k : Bool} {a b : E} : Wp (W (evE gl c (.bin op k a b) env) mh Q) (W (evE gl c a env) mh fun x mh1 => W (evE gl c b env) mh1 fun y mh2 => WR k (binF op mh2 x y) mh2 Q) := ⟨fun h => we_bin h⟩
theorem we_cmp {op : CmpOp} {a b : E} (h : W (evE gl c a env) mh fun x mh1 => W (evE gl c b env) mh1 fun y mh2 => WR false (cmpF op mh2 x y) mh2 Q) : W (evE gl c (.cmp op a b) env) mh Q :=
  W.bind (h.mono fun x mh1 h1 => W.bind (h1.mono fun y mh2 ⟨r, e, w⟩ => W.bind (W.rd ⟨r, e, w⟩)))
instance i_we_cmp {op : CmpOp} {a b : E} : Wp (W (evE gl c (.cmp op a b) env) mh Q) (W (evE gl c a env) mh fun x mh1 => W (evE gl c b env) mh1 fun y mh2 => WR false (cmpF op mh2 x y) mh2 Q) := ⟨fun h => we_cmp h⟩
theorem we_one {a : E} (h : W (evE gl c a env) mh Q) : W (evE gl c (.one a) env) mh Q := h
instance i_we_one {a : E} : Wp (W (evE gl c (.one a) env) mh Q) (W (evE gl c a env) mh Q) := ⟨fun h => we_one h⟩
theorem we_and {a b : E} (h : W (evE gl c a env) mh fun x mh1 => ∃ p, x = .d (.bool p) ∧ (p = true → W (evE gl c b env) mh1 Q) ∧ (p = false → Q (.d (.bool false)) mh1)) : W (evE gl c (.and2 a b) env) mh Q :=
  W.bind (h.mono fun x mh1 ⟨p, e, q1, q2⟩ => by subst e; cases p; exact W.pure (q2 rfl); exact q1 rfl)
instance i_we_and {a b : E} : Wp (W (evE gl c (.and2 a b) env) mh Q) (W (evE gl c a env) mh fun x mh1 => ∃ p, x = .d (.bool p) ∧ (p = true → W (evE gl c b env) mh1 Q) ∧ (p = false → Q (.d (.bool false)) mh1)) := ⟨fun h => we_and h⟩
theorem we_or {a b : E} (h : W (evE gl c a env) mh fun x mh1 => ∃ p, x = .d (.bool p) ∧ (p = false → W (evE gl c b env) mh1 Q) ∧ (p = true → Q (.d (.bool true)) mh1)) : W (evE gl c (.or2 a b) env) mh Q :=
  W.bind (h.mono fun x mh1 ⟨p, e, q1, q2⟩ => by subst e; cases p; exact q1 rfl; exact W.pure (q2 rfl))
instance i_we_or {a b : E} : Wp (W (evE gl c (.or2 a b) env) mh Q) (W (evE gl c a env) mh fun x mh1 => ∃ p, x = .d (.bool p) ∧ (p = false → W (evE gl c b env) mh1 Q) ∧ (p = true → Q (.d (.bool true)) mh1)) := ⟨fun h => we_or h⟩
theorem we_ife {t : T} {a b : E} (h : W (evT gl c t env) mh fun x mh1 => (x = true → W (evE gl c a env) mh1 Q) ∧ (x = false → W (evE gl c b env) mh1 Q)) : W (evE gl c (.ife t a b) env) mh Q :=
  W.bind (h.mono fun x mh1 ⟨q1, q2⟩ => by cases x; exact q2 rfl; exact q1 rfl)
/-- arguments -/
def WA (gl : List (Str × Dt)) (c : Nat → List Val → M Val) (as : As) (env : Sl) (mh : List Ob) (Q : List Val → List Ob → Prop) : Prop := W (mArgs (evAs gl c as) env) mh Q
theorem wa_nil {Q : List Val → List Ob → Prop} (q : Q [] mh) : WA gl c .nil env mh Q := W.pure q
instance i_wa_nil {Q : List Val → List Ob → Prop} : Wp (WA gl c .nil env mh Q) (Q [] mh) := ⟨fun h => wa_nil h⟩
theorem wa_cons {a : E} {as : As} {Q : List Val → List Ob → Prop} (h : W (evE gl c a env) mh fun v mh1 => WA gl c as env mh1 fun vs mh2 => Q (v :: vs) mh2) : WA gl c (.cons a as) env mh Q :=
  W.bind (h.mono fun v mh1 h1 => W.bind (W.mono h1 fun vs mh2 q => W.pure q))
instance i_wa_cons {a : E} {as : As} {Q : List Val → List Ob → Prop} : Wp (WA gl c (.cons a as) env mh Q) (W (evE gl c a env) mh fun v mh1 => WA gl c as env mh1 fun vs mh2 => Q (v :: vs) mh2) := ⟨fun h => wa_cons h⟩
theorem we_tup {as : As} (h : WA gl c as env mh fun vs mh1 => ∃ ds, asDs vs = some ds ∧ ds.length ≤ sizeLine ∧ Q (.d (.tuple ds)) mh1) : W (evE gl c (.tup as) env) mh Q :=
  W.bind (W.mono h fun vs mh1 ⟨ds, e, hl, q⟩ => W.ofO ⟨_, by rw [e]; exact if_pos hl, q⟩)
instance i_we_tup {as : As} : Wp (W (evE gl c (.tup as) env) mh Q) (WA gl c as env mh fun vs mh1 => ∃ ds, asDs vs = some ds ∧ ds.length ≤ sizeLine ∧ Q (.d (.tuple ds)) mh1) := ⟨fun h => we_tup h⟩
theorem we_lst {k : Bool} {as : As} (h : WA gl c as env mh fun vs mh1 => vs.length ≤ sizeLine ∧ WR k (some (.nl vs)) mh1 Q) : W (evE gl c (.lst k as) env) mh Q :=
  W.bind (W.mono h fun vs mh1 ⟨hl, r, e, w⟩ => by cases e; rw [if_pos hl]; exact w)
instance i_we_lst {k : Bool} {as : As} : Wp (W (evE gl c (.lst k as) env) mh Q) (WA gl c as env mh fun vs mh1 => vs.length ≤ sizeLine ∧ WR k (some (.nl vs)) mh1 Q) := ⟨fun h => we_lst h⟩
theorem we_dict0 {k : Bool} (h : WR k (some (.nd [])) mh Q) : W (evE gl c (.dict0 k) env) mh Q := by
  obtain ⟨r, e, w⟩ := h
  cases e
  exact w
instance i_we_dict0 {k : Bool} : Wp (W (evE gl c (.dict0 k) env) mh Q) (WR k (some (.nd [])) mh Q) := ⟨fun h => we_dict0 h⟩
theorem we_ix {a b : E} (h : W (evE gl c a env) mh fun x mh1 => W (evE gl c b env) mh1 fun y mh2 => ∃ v, ixVl mh2 x y = some v ∧ Q v mh2) : W (evE gl c (.ix a b) env) mh Q :=
  W.bind (h.mono fun x mh1 h1 => W.bind (h1.mono fun y mh2 h2 => W.rd h2))
instance i_we_ix {a b : E} : Wp (W (evE gl c (.ix a b) env) mh Q) (W (evE gl c a env) mh fun x mh1 => W (evE gl c b env) mh1 fun y mh2 => ∃ v, ixVl mh2 x y = some v ∧ Q v mh2) := ⟨fun h => we_ix h⟩
/-- a bound of a slice -/
def WO (gl : List (Str × Dt)) (c : Nat → List Val → M Val) (e : E) (env : Sl) (mh : List Ob) (Q : Option Int → List Ob → Prop) : Prop := W (mOpt e.isAbs (evE gl c e) env) mh Q
theorem wo_none {Q : Option Int → List Ob → Prop} (q : Q none mh) : WO gl c .absent env mh Q := W.pure q
instance i_wo_none {Q : Option Int → List Ob → Prop} : Wp (WO gl c .absent env mh Q) (Q none mh) := ⟨fun h => wo_none h⟩
theorem wo_some {e : E} {Q : Option Int → List Ob → Prop} (ha : e.isAbs = false) (h : W (evE gl c e env) mh fun v mh1 => ∃ i, v = .d (.int i) ∧ Q (some i) mh1) : WO gl c e env mh Q := by
  unfold WO
  rw [ha]
  exact W.bind (h.mono fun v mh1 ⟨i, e, q⟩ => by subst e; exact W.ofO ⟨_, rfl, q⟩)
theorem we_sl {k : Bool} {a lo hi : E} (h : W (evE gl c a env) mh fun x mh1 => WO gl c lo env mh1 fun l mh2 => WO gl c hi env mh2 fun r mh3 => WR k (slVl mh3 x l r) mh3 Q) : W (evE gl c (.sl k a lo hi) env) mh Q :=
  W.bind (h.mono fun x mh1 h1 => W.bind (W.mono h1 fun l mh2 h2 => W.bind (W.mono h2 fun u mh3 ⟨r, e, w⟩ => W.bind (W.rd ⟨r, e, w⟩))))
instance i_we_sl {k : Bool} {a lo hi : E} : Wp (W (evE gl c (.sl k a lo hi) env) mh Q) (W (evE gl c a env) mh fun x mh1 => WO gl c lo env mh1 fun l mh2 => WO gl c hi env mh2 fun r mh3 => WR k (slVl mh3 x l r) mh3 Q) := ⟨fun h => we_sl h⟩
theorem we_call {f : Nat} {as : As} (h : WA gl c as env mh fun vs mh1 => W (c f vs) mh1 Q) : W (evE gl c (.call f as) env) mh Q := W.bind h
instance i_we_call {f : Nat} {as : As} : Wp (W (evE gl c (.call f as) env) mh Q) (WA gl c as env mh fun vs mh1 => W (c f vs) mh1 Q) := ⟨fun h => we_call h⟩
theorem we_bi {b : Bi} {k : Bool} {as : As} (h : WA gl c as env mh fun vs mh1 => WR k (b.f mh1 vs) mh1 Q) : W (evE gl c (.bi b k as) env) mh Q :=
  W.bind (W.mono h fun vs mh1 ⟨r, e, w⟩ => W.bind (W.rd ⟨r, e, w⟩))
instance i_we_bi {b : Bi} {k : Bool} {as : As} : Wp (W (evE gl c (.bi b k as) env) mh Q) (WA gl c as env mh fun vs mh1 => WR k (b.f mh1 vs) mh1 Q) := ⟨fun h => we_bi h⟩
theorem we_isin {t : String} {a : E} (h : W (evE gl c a env) mh fun x mh1 => ∃ ty, tyVal mh1 x = some ty ∧ Q (.d (.bool (isIn ty t))) mh1) : W (evE gl c (.isin t a) env) mh Q :=
  W.bind (h.mono fun x mh1 ⟨ty, e, q⟩ => W.rd ⟨_, by rw [e]; rfl, q⟩)
instance i_we_isin {t : String} {a : E} : Wp (W (evE gl c (.isin t a) env) mh Q) (W (evE gl c a env) mh fun x mh1 => ∃ ty, tyVal mh1 x = some ty ∧ Q (.d (.bool (isIn ty t))) mh1) := ⟨fun h => we_isin h⟩
theorem we_rev {k : Bool} {a : E} (h : W (evE gl c a env) mh fun x mh1 => ∃ vs, seqL mh1 x = some vs ∧ WR k (some (.nl vs.reverse)) mh1 Q) : W (evE gl c (.rev k a) env) mh Q :=
  W.bind (h.mono fun x mh1 ⟨vs, e, r, e2, w⟩ => W.bind (W.rd ⟨vs, e, by cases e2; exact w⟩))
instance i_we_rev {k : Bool} {a : E} : Wp (W (evE gl c (.rev k a) env) mh Q) (W (evE gl c a env) mh fun x mh1 => ∃ vs, seqL mh1 x = some vs ∧ WR k (some (.nl vs.reverse)) mh1 Q) := ⟨fun h => we_rev h⟩
theorem we_meth {m : Mt} {o : E} {as : As} (h : W (evE gl c o env) mh fun x mh1 => rcv m.ty x mh1 = true ∧ WA gl c as env mh1 fun vs mh2 => W (m.f x vs) mh2 Q) : W (evE gl c (.meth m o as) env) mh Q :=
  W.bind (h.mono fun x mh1 ⟨h1, h2⟩ => W.bind (W.rd ⟨_, rfl, by rw [h1]; exact W.bind h2⟩))
instance i_we_meth {m : Mt} {o : E} {as : As} : Wp (W (evE gl c (.meth m o as) env) mh Q) (W (evE gl c o env) mh fun x mh1 => rcv m.ty x mh1 = true ∧ WA gl c as env mh1 fun vs mh2 => W (m.f x vs) mh2 Q) := ⟨fun h => we_meth h⟩
/-- a walk over things -/
def WI (gl : List (Str × Dt)) (c : Nat → List Val → M Val) (it : I) (env : Sl) (mh : List Ob) (Q : Ix → List Ob → Prop) : Prop := W (evI gl c it env) mh Q
theorem wi_val {a : E} {Q : Ix → List Ob → Prop} (h : W (evE gl c a env) mh fun v mh1 => ∃ ix, ixOf mh1 v = some ix ∧ Q ix mh1) : WI gl c (.val a) env mh Q :=
  W.bind (h.mono fun v mh1 h1 => W.rd h1)
instance i_wi_val {a : E} {Q : Ix → List Ob → Prop} : Wp (WI gl c (.val a) env mh Q) (W (evE gl c a env) mh fun v mh1 => ∃ ix, ixOf mh1 v = some ix ∧ Q ix mh1) := ⟨fun h => wi_val h⟩
theorem wi_range1 {as : As} {Q : Ix → List Ob → Prop} (h : WA gl c as env mh fun vs mh1 => ∃ ix, rng1 vs = some ix ∧ Q ix mh1) : WI gl c (.range1 as) env mh Q :=
  W.bind (W.mono h fun v mh1 h1 => W.ofO h1)
instance i_wi_range1 {as : As} {Q : Ix → List Ob → Prop} : Wp (WI gl c (.range1 as) env mh Q) (WA gl c as env mh fun vs mh1 => ∃ ix, rng1 vs = some ix ∧ Q ix mh1) := ⟨fun h => wi_range1 h⟩
theorem wi_range2 {as : As} {Q : Ix → List Ob → Prop} (h : WA gl c as env mh fun vs mh1 => ∃ ix, rng2 vs = some ix ∧ Q ix mh1) : WI gl c (.range2 as) env mh Q :=
  W.bind (W.mono h fun v mh1 h1 => W.ofO h1)
instance i_wi_range2 {as : As} {Q : Ix → List Ob → Prop} : Wp (WI gl c (.range2 as) env mh Q) (WA gl c as env mh fun vs mh1 => ∃ ix, rng2 vs = some ix ∧ Q ix mh1) := ⟨fun h => wi_range2 h⟩
theorem wi_zip {as : As} {Q : Ix → List Ob → Prop} (h : WA gl c as env mh fun vs mh1 => ∃ ix, zip2 mh1 vs = some ix ∧ Q ix mh1) : WI gl c (.zip as) env mh Q :=
  W.bind (W.mono h fun v mh1 h1 => W.rd h1)
instance i_wi_zip {as : As} {Q : Ix → List Ob → Prop} : Wp (WI gl c (.zip as) env mh Q) (WA gl c as env mh fun vs mh1 => ∃ ix, zip2 mh1 vs = some ix ∧ Q ix mh1) := ⟨fun h => wi_zip h⟩
theorem wi_zip3 {as : As} {Q : Ix → List Ob → Prop} (h : WA gl c as env mh fun vs mh1 => ∃ ix, zip3 vs = some ix ∧ Q ix mh1) : WI gl c (.zip3 as) env mh Q :=
  W.bind (W.mono h fun v mh1 h1 => W.ofO h1)
instance i_wi_zip3 {as : As} {Q : Ix → List Ob → Prop} : Wp (WI gl c (.zip3 as) env mh Q) (WA gl c as env mh fun vs mh1 => ∃ ix, zip3 vs = some ix ∧ Q ix mh1) := ⟨fun h => wi_zip3 h⟩
theorem wi_enumT {as : As} {Q : Ix → List Ob → Prop} (h : WA gl c as env mh fun vs mh1 => ∃ ix, enumV vs = some ix ∧ Q ix mh1) : WI gl c (.enumT as) env mh Q :=
  W.bind (W.mono h fun v mh1 h1 => W.ofO h1)
instance i_wi_enumT {as : As} {Q : Ix → List Ob → Prop} : Wp (WI gl c (.enumT as) env mh Q) (WA gl c as env mh fun vs mh1 => ∃ ix, enumV vs = some ix ∧ Q ix mh1) := ⟨fun h => wi_enumT h⟩
/-- a comprehension's turns -/
def WC {α : Type} (gl : List (Str × Dt)) (c : Nat → List Val → M Val) (g : G) (t : T) (el : Sl → M α) (env : Sl) (ix : Ix) (mh : List Ob) (Q : List α → List Ob → Prop) : Prop :=
  W (loopC ix.g (evG gl c g) (evT gl c t) el env ix.items) mh Q
theorem we_lc {k : Bool} {own : List (Str × Nat)} {g : G} {it : I} {t : T} {el : E} (h : WI gl c it env mh fun ix mh1 => WC gl c g t (evE gl c el) (wipeE env (own.map (·.2))) ix mh1 fun ys mh2 => WR k (some (.nl ys)) mh2 Q) : W (evE gl c (.lc k own g it t el) env) mh Q :=
  W.bind (W.mono h fun ix mh1 h1 => W.bind (W.mono h1 fun ys mh2 ⟨r, e, w⟩ => by cases e; exact w))
instance i_we_lc {k : Bool} {own : List (Str × Nat)} {g : G} {it : I} {t : T} {el : E} : Wp (W (evE gl c (.lc k own g it t el) env) mh Q) (WI gl c it env mh fun ix mh1 => WC gl c g t (evE gl c el) (wipeE env (own.map (·.2))) ix mh1 fun ys mh2 => WR k (some (.nl ys)) mh2 Q) := ⟨fun h => we_lc h⟩
theorem we_dc {k : Bool} {own : List (Str × Nat)} {g : G} {it : I} {t : T} {kx vx : E} (h : WI gl c it env mh fun ix mh1 => WC gl c g t (mKv (evE gl c kx) (evE gl c vx)) (wipeE env (own.map (·.2))) ix mh1 fun ys mh2 => WR k (some (.nd (mergeV [] ys))) mh2 Q) : W (evE gl c (.dc k own g it t kx vx) env) mh Q :=
  W.bind (W.mono h fun ix mh1 h1 => W.bind (W.mono h1 fun ys mh2 ⟨r, e, w⟩ => by cases e; exact w))
instance i_we_dc {k : Bool} {own : List (Str × Nat)} {g : G} {it : I} {t : T} {kx vx : E} : Wp (W (evE gl c (.dc k own g it t kx vx) env) mh Q) (WI gl c it env mh fun ix mh1 => WC gl c g t (mKv (evE gl c kx) (evE gl c vx)) (wipeE env (own.map (·.2))) ix mh1 fun ys mh2 => WR k (some (.nd (mergeV [] ys))) mh2 Q) := ⟨fun h => we_dc h⟩
theorem w_kv {kx vx : E} {Q : Key × Val → List Ob → Prop} (h : W (evE gl c kx env) mh fun y mh1 => W (evE gl c vx env) mh1 fun z mh2 => ∃ k, keyVl y = some k ∧ Q (k, z) mh2) : W (mKv (evE gl c kx) (evE gl c vx) env) mh Q :=
  W.bind (h.mono fun y mh1 h1 => W.bind (h1.mono fun z mh2 ⟨k, e, q⟩ => W.bind (W.ofO ⟨k, e, W.pure q⟩)))
instance i_w_kv {kx vx : E} {Q : Key × Val → List Ob → Prop} : Wp (W (mKv (evE gl c kx) (evE gl c vx) env) mh Q) (W (evE gl c kx env) mh fun y mh1 => W (evE gl c vx env) mh1 fun z mh2 => ∃ k, keyVl y = some k ∧ Q (k, z) mh2) := ⟨fun h => w_kv h⟩
/-! tests -/
def WT (gl : List (Str × Dt)) (c : Nat → List Val → M Val) (t : T) (env : Sl) (mh : List Ob) (Q : Bool → List Ob → Prop) : Prop := W (evT gl c t env) mh Q
theorem wt_yes {Q : Bool → List Ob → Prop} (q : Q true mh) : WT gl c .yes env mh Q := W.pure q
instance i_wt_yes {Q : Bool → List Ob → Prop} : Wp (WT gl c .yes env mh Q) (Q true mh) := ⟨fun h => wt_yes h⟩
theorem wt_cmp {op : CmpOp} {a b : E} {Q : Bool → List Ob → Prop} (h : W (evE gl c a env) mh fun x mh1 => W (evE gl c b env) mh1 fun y mh2 => ∃ r, cmpF op mh2 x y = some (.v (.d (.bool r))) ∧ Q r mh2) : WT gl c (.cmp op a b) env mh Q :=
  W.bind (h.mono fun x mh1 h1 => W.bind (h1.mono fun y mh2 ⟨r, e, q⟩ => W.rd ⟨r, by rw [e]; rfl, q⟩))
instance i_wt_cmp {op : CmpOp} {a b : E} {Q : Bool → List Ob → Prop} : Wp (WT gl c (.cmp op a b) env mh Q) (W (evE gl c a env) mh fun x mh1 => W (evE gl c b env) mh1 fun y mh2 => ∃ r, cmpF op mh2 x y = some (.v (.d (.bool r))) ∧ Q r mh2) := ⟨fun h => wt_cmp h⟩
theorem wt_tru {a : E} {Q : Bool → List Ob → Prop} (h : W (evE gl c a env) mh fun x mh1 => ∃ r, truVl mh1 x = some r ∧ Q r mh1) : WT gl c (.tru a) env mh Q :=
  W.bind (h.mono fun x mh1 h1 => W.rd h1)
instance i_wt_tru {a : E} {Q : Bool → List Ob → Prop} : Wp (WT gl c (.tru a) env mh Q) (W (evE gl c a env) mh fun x mh1 => ∃ r, truVl mh1 x = some r ∧ Q r mh1) := ⟨fun h => wt_tru h⟩
theorem wt_nt {t : T} {Q : Bool → List Ob → Prop} (h : WT gl c t env mh fun r mh1 => Q (!r) mh1) : WT gl c (.nt t) env mh Q :=
  W.bind (W.mono h fun x mh1 h1 => W.pure h1)
instance i_wt_nt {t : T} {Q : Bool → List Ob → Prop} : Wp (WT gl c (.nt t) env mh Q) (WT gl c t env mh fun r mh1 => Q (!r) mh1) := ⟨fun h => wt_nt h⟩
theorem wt_one {t : T} {Q : Bool → List Ob → Prop} (h : WT gl c t env mh Q) : WT gl c (.one t) env mh Q := h
instance i_wt_one {t : T} {Q : Bool → List Ob → Prop} : Wp (WT gl c (.one t) env mh Q) (WT gl c t env mh Q) := ⟨fun h => wt_one h⟩
theorem wt_and {a b : T} {Q : Bool → List Ob → Prop} (h : WT gl c a env mh fun x mh1 => (x = true → WT gl c b env mh1 Q) ∧ (x = false → Q false mh1)) : WT gl c (.and2 a b) env mh Q :=
  W.bind (W.mono h fun x mh1 ⟨q1, q2⟩ => by cases x; exact W.pure (q2 rfl); exact q1 rfl)
instance i_wt_and {a b : T} {Q : Bool → List Ob → Prop} : Wp (WT gl c (.and2 a b) env mh Q) (WT gl c a env mh fun x mh1 => (x = true → WT gl c b env mh1 Q) ∧ (x = false → Q false mh1)) := ⟨fun h => wt_and h⟩
theorem wt_or {a b : T} {Q : Bool → List Ob → Prop} (h : WT gl c a env mh fun x mh1 => (x = false → WT gl c b env mh1 Q) ∧ (x = true → Q true mh1)) : WT gl c (.or2 a b) env mh Q :=
  W.bind (W.mono h fun x mh1 ⟨q1, q2⟩ => by cases x; exact q1 rfl; exact W.pure (q2 rfl))
instance i_wt_or {a b : T} {Q : Bool → List Ob → Prop} : Wp (WT gl c (.or2 a b) env mh Q) (WT gl c a env mh fun x mh1 => (x = false → WT gl c b env mh1 Q) ∧ (x = true → Q true mh1)) := ⟨fun h => wt_or h⟩
theorem we_ifeT {t : T} {a b : E} (h : WT gl c t env mh fun x mh1 => (x = true → W (evE gl c a env) mh1 Q) ∧ (x = false → W (evE gl c b env) mh1 Q)) : W (evE gl c (.ife t a b) env) mh Q := we_ife h
instance i_we_ifeT {t : T} {a b : E} : Wp (W (evE gl c (.ife t a b) env) mh Q) (WT gl c t env mh fun x mh1 => (x = true → W (evE gl c a env) mh1 Q) ∧ (x = false → W (evE gl c b env) mh1 Q)) := ⟨fun h => we_ifeT h⟩
/-! targets -/
def WG (gl : List (Str × Dt)) (c : Nat → List Val → M Val) (g : G) (v : Val) (env : Sl) (mh : List Ob) (Q : Sl → List Ob → Prop) : Prop := W (evG gl c g v env) mh Q
def WGs (gl : List (Str × Dt)) (c : Nat → List Val → M Val) (g : Gs) (ds : List Val) (env : Sl) (mh : List Ob) (Q : Sl → List Ob → Prop) : Prop := W (evGs gl c g ds env) mh Q
theorem wg_nm {i : Nat} {v : Val} {Q : Sl → List Ob → Prop} (q : Q (env.set i (some v)) mh) : WG gl c (.nm i) v env mh Q := W.pure q
instance i_wg_nm {i : Nat} {v : Val} {Q : Sl → List Ob → Prop} : Wp (WG gl c (.nm i) v env mh Q) (Q (env.set i (some v)) mh) := ⟨fun h => wg_nm h⟩
theorem wg_seq {n : Nat} {gs : Gs} {v : Val} {vs : List Val} {Q : Sl → List Ob → Prop} (hs : seqA mh v = some vs) (hn : vs.length = n) (q : WGs gl c gs vs env mh Q) : WG gl c (.tp n gs) v env mh Q := by
  obtain ⟨e, mh', h1, h2⟩ := q
  refine ⟨e, mh', ?_, h2⟩
  show (match seqA mh v with | some vs => if vs.length = n then evGs gl c gs vs env mh else none | none => none) = _
  rw [hs]
  simp only
  rw [if_pos hn]
  exact h1
theorem wg_tp {n : Nat} {gs : Gs} {ds : List Dt} {Q : Sl → List Ob → Prop} (hn : ds.length = n) (q : WGs gl c gs (ds.map Val.d) env mh Q) : WG gl c (.tp n gs) (.d (.tuple ds)) env mh Q :=
  wg_seq rfl (by rw [List.length_map]; exact hn) q
theorem wg_tl {n : Nat} {gs : Gs} {ds : List Dt} {Q : Sl → List Ob → Prop} (hn : ds.length = n) (q : WGs gl c gs (ds.map Val.d) env mh Q) : WG gl c (.tp n gs) (.d (.list ds)) env mh Q :=
  wg_seq rfl (by rw [List.length_map]; exact hn) q
theorem wg_tc {n a : Nat} {gs : Gs} {vs : List Val} {Q : Sl → List Ob → Prop} (he : mh[a]? = some (.lst vs)) (hn : vs.length = n) (q : WGs gl c gs vs env mh Q) : WG gl c (.tp n gs) (.ref a) env mh Q :=
  wg_seq (by show cellL mh a = _; unfold cellL; rw [he]) hn q
theorem wgs_nilD {Q : Sl → List Ob → Prop} (q : Q env mh) : WGs gl c .nil (([] : List Dt).map Val.d) env mh Q := W.pure q
instance i_wgs_nilD {Q : Sl → List Ob → Prop} : Wp (WGs gl c .nil (([] : List Dt).map Val.d) env mh Q) (Q env mh) := ⟨fun h => wgs_nilD h⟩
theorem wgs_consD {g : G} {gs : Gs} {d : Dt} {ds : List Dt} {Q : Sl → List Ob → Prop} (q : WG gl c g (.d d) env mh fun e mh1 => WGs gl c gs (ds.map Val.d) e mh1 Q) : WGs gl c (.cons g gs) ((d :: ds).map Val.d) env mh Q := W.bind q
instance i_wgs_consD {g : G} {gs : Gs} {d : Dt} {ds : List Dt} {Q : Sl → List Ob → Prop} : Wp (WGs gl c (.cons g gs) ((d :: ds).map Val.d) env mh Q) (WG gl c g (.d d) env mh fun e mh1 => WGs gl c gs (ds.map Val.d) e mh1 Q) := ⟨fun h => wgs_consD h⟩
theorem wgs_nil {Q : Sl → List Ob → Prop} (q : Q env mh) : WGs gl c .nil [] env mh Q := W.pure q
instance i_wgs_nil {Q : Sl → List Ob → Prop} : Wp (WGs gl c .nil [] env mh Q) (Q env mh) := ⟨fun h => wgs_nil h⟩
theorem wgs_cons {g : G} {gs : Gs} {v : Val} {vs : List Val} {Q : Sl → List Ob → Prop} (q : WG gl c g v env mh fun e mh1 => WGs gl c gs vs e mh1 Q) : WGs gl c (.cons g gs) (v :: vs) env mh Q := W.bind q
instance i_wgs_cons {g : G} {gs : Gs} {v : Val} {vs : List Val} {Q : Sl → List Ob → Prop} : Wp (WGs gl c (.cons g gs) (v :: vs) env mh Q) (WG gl c g v env mh fun e mh1 => WGs gl c gs vs e mh1 Q) := ⟨fun h => wgs_cons h⟩
theorem wg_sb {o i : E} {v : Val} {Q : Sl → List Ob → Prop} (h : W (evE gl c o env) mh fun x mh1 => W (evE gl c i env) mh1 fun y mh2 => W (setVl x y v) mh2 fun _ mh3 => Q env mh3) : WG gl c (.sb o i) v env mh Q :=
  W.bind (h.mono fun x mh1 h1 => W.bind (h1.mono fun y mh2 h2 => W.bind (h2.mono fun _ mh3 q => W.pure q)))
instance i_wg_sb {o i : E} {v : Val} {Q : Sl → List Ob → Prop} : Wp (WG gl c (.sb o i) v env mh Q) (W (evE gl c o env) mh fun x mh1 => W (evE gl c i env) mh1 fun y mh2 => W (setVl x y v) mh2 fun _ mh3 => Q env mh3) := ⟨fun h => wg_sb h⟩
/-! statements -/
def WS (gl : List (Str × Dt)) (c : Nat → List Val → M Val) (b : Ss) (env : Sl) (mh : List Ob) (Q : Fl → List Ob → Prop) : Prop := W (evSs gl c b env) mh Q
def thenS (gl : List (Str × Dt)) (c : Nat → List Val → M Val) (b : Ss) (Q : Fl → List Ob → Prop) : Fl → List Ob → Prop := fun f mh => match f with
  | .nx e => WS gl c b e mh Q
  | f => Q f mh
end
section
variable {gl : List (Str × Dt)} {c : Nat → List Val → M Val} {env : Sl} {mh : List Ob} {Q : Fl → List Ob → Prop} {b : Ss}
theorem thenS_nx {e : Sl} (h : WS gl c b e mh Q) : thenS gl c b Q (.nx e) mh := h
instance i_thenS_nx {e : Sl} : Wp (thenS gl c b Q (.nx e) mh) (WS gl c b e mh Q) := ⟨fun h => thenS_nx h⟩
theorem thenS_rt {v : Val} (h : Q (.rt v) mh) : thenS gl c b Q (.rt v) mh := h
instance i_thenS_rt {v : Val} : Wp (thenS gl c b Q (.rt v) mh) (Q (.rt v) mh) := ⟨fun h => thenS_rt h⟩
theorem thenS_bk {e : Sl} (h : Q (.bk e) mh) : thenS gl c b Q (.bk e) mh := h
instance i_thenS_bk {e : Sl} : Wp (thenS gl c b Q (.bk e) mh) (Q (.bk e) mh) := ⟨fun h => thenS_bk h⟩
theorem thenS_ct {e : Sl} (h : Q (.ct e) mh) : thenS gl c b Q (.ct e) mh := h
instance i_thenS_ct {e : Sl} : Wp (thenS gl c b Q (.ct e) mh) (Q (.ct e) mh) := ⟨fun h => thenS_ct h⟩
theorem ws_seq {s : S} (h : W (evS gl c s env) mh (thenS gl c b Q)) : WS gl c (.cons s b) env mh Q :=
  W.bind (h.mono fun f mh1 h1 => by
    cases f with
    | nx e => exact h1
    | rt v => exact W.pure h1
    | bk e => exact W.pure h1
    | ct e => exact W.pure h1)
theorem ws_nil (q : Q (.nx env) mh) : WS gl c .nil env mh Q := W.pure q
instance i_ws_nil  : Wp (WS gl c .nil env mh Q) (Q (.nx env) mh) := ⟨fun h => ws_nil h⟩
theorem ws_set {i : Nat} {a : E} (h : W (evE gl c a env) mh fun v mh1 => WS gl c b (env.set i (some v)) mh1 Q) : WS gl c (.cons (.set i a) b) env mh Q :=
  ws_seq (W.bind (h.mono fun v mh1 h1 => W.bind (W.pure (W.pure h1))))
instance i_ws_set {i : Nat} {a : E} : Wp (WS gl c (.cons (.set i a) b) env mh Q) (W (evE gl c a env) mh fun v mh1 => WS gl c b (env.set i (some v)) mh1 Q) := ⟨fun h => ws_set h⟩
theorem ws_swp {i : Nat} {a : E} (h : W (evE gl c a env) mh fun v mh1 => WS gl c b (env.set i (some v)) mh1 Q) : WS gl c (.cons (.swp i a) b) env mh Q :=
  ws_seq (W.bind (h.mono fun v mh1 h1 => W.bind (W.pure (W.pure h1))))
instance i_ws_swp {i : Nat} {a : E} : Wp (WS gl c (.cons (.swp i a) b) env mh Q) (W (evE gl c a env) mh fun v mh1 => WS gl c b (env.set i (some v)) mh1 Q) := ⟨fun h => ws_swp h⟩
theorem ws_asg {g : G} {a : E} (h : W (evE gl c a env) mh fun v mh1 => WG gl c g v env mh1 fun e mh2 => WS gl c b e mh2 Q) : WS gl c (.cons (.asg g a) b) env mh Q :=
  ws_seq (W.bind (h.mono fun v mh1 h1 => W.bind (W.mono h1 fun e mh2 h2 => W.pure h2)))
instance i_ws_asg {g : G} {a : E} : Wp (WS gl c (.cons (.asg g a) b) env mh Q) (W (evE gl c a env) mh fun v mh1 => WG gl c g v env mh1 fun e mh2 => WS gl c b e mh2 Q) := ⟨fun h => ws_asg h⟩
theorem ws_aug {i : Nat} {op : Operator} {a : E} {p : Int} (h0 : env.getD i none = some (.d (.int p))) (h : W (evE gl c a env) mh fun v mh1 => ∃ q, v = .d (.int q) ∧ WS gl c b (env.set i (some (.d (.int (augF op p q))))) mh1 Q) : WS gl c (.cons (.aug i op a) b) env mh Q :=
  ws_seq (W.bind (W.ofO ⟨_, h0, W.bind (h.mono fun v mh1 ⟨q, e, h1⟩ => by subst e; exact W.pure h1)⟩))
theorem ws_expr {a : E} (h : W (evE gl c a env) mh fun v mh1 => WS gl c b env mh1 Q) : WS gl c (.cons (.expr a) b) env mh Q :=
  ws_seq (W.bind (h.mono fun v mh1 h1 => W.pure h1))
instance i_ws_expr {a : E} : Wp (WS gl c (.cons (.expr a) b) env mh Q) (W (evE gl c a env) mh fun v mh1 => WS gl c b env mh1 Q) := ⟨fun h => ws_expr h⟩
theorem ws_ret {a : E} (h : W (evE gl c a env) mh fun v mh1 => Q (.rt v) mh1) : WS gl c (.cons (.ret a) b) env mh Q :=
  ws_seq (W.bind (h.mono fun v mh1 h1 => W.pure h1))
instance i_ws_ret {a : E} : Wp (WS gl c (.cons (.ret a) b) env mh Q) (W (evE gl c a env) mh fun v mh1 => Q (.rt v) mh1) := ⟨fun h => ws_ret h⟩
theorem ws_retN (h : Q (.rt (.d .none)) mh) : WS gl c (.cons .retN b) env mh Q := ws_seq (W.bind (W.pure (W.pure h)))
instance i_ws_retN  : Wp (WS gl c (.cons .retN b) env mh Q) (Q (.rt (.d .none)) mh) := ⟨fun h => ws_retN h⟩
theorem ws_if {t : T} {x y : Ss} (h : WT gl c t env mh fun r mh1 => (r = true → WS gl c x env mh1 (thenS gl c b Q)) ∧ (r = false → WS gl c y env mh1 (thenS gl c b Q))) : WS gl c (.cons (.iff t x y) b) env mh Q :=
  ws_seq (W.bind (W.mono h fun r mh1 ⟨q1, q2⟩ => by cases r; exact q2 rfl; exact q1 rfl))
instance i_ws_if {t : T} {x y : Ss} : Wp (WS gl c (.cons (.iff t x y) b) env mh Q) (WT gl c t env mh fun r mh1 => (r = true → WS gl c x env mh1 (thenS gl c b Q)) ∧ (r = false → WS gl c y env mh1 (thenS gl c b Q))) := ⟨fun h => ws_if h⟩
theorem ws_pass (h : WS gl c b env mh Q) : WS gl c (.cons .pass b) env mh Q := ws_seq (W.pure h)
instance i_ws_pass  : Wp (WS gl c (.cons .pass b) env mh Q) (WS gl c b env mh Q) := ⟨fun h => ws_pass h⟩
theorem ws_doc (h : WS gl c b env mh Q) : WS gl c (.cons .doc b) env mh Q := ws_seq (W.pure h)
instance i_ws_doc  : Wp (WS gl c (.cons .doc b) env mh Q) (WS gl c b env mh Q) := ⟨fun h => ws_doc h⟩
theorem ws_brk (h : Q (.bk env) mh) : WS gl c (.cons .brk b) env mh Q := ws_seq (W.pure h)
instance i_ws_brk  : Wp (WS gl c (.cons .brk b) env mh Q) (Q (.bk env) mh) := ⟨fun h => ws_brk h⟩
theorem ws_cnt (h : Q (.ct env) mh) : WS gl c (.cons .cnt b) env mh Q := ws_seq (W.pure h)
instance i_ws_cnt  : Wp (WS gl c (.cons .cnt b) env mh Q) (Q (.ct env) mh) := ⟨fun h => ws_cnt h⟩
/-- the turns of a for -/
def WL (gl : List (Str × Dt)) (c : Nat → List Val → M Val) (g : G) (x : Ss) (gd : List (Nat × List Val)) (items : List Val) (env : Sl) (mh : List Ob) (Q : Fl → List Ob → Prop) : Prop := W (loopF gd (evG gl c g) (evSs gl c x) items env) mh Q
theorem ws_forK {md i : Nat} {g : G} {x : Ss} {ds : List (Dt × Dt)} (h0 : env.getD i none = some (.d (.dict ds))) (hnx : md < 2 ∨ ds.all (fun p => !ixT [p.1, p.2]) = true) (h : WL gl c g x [] (dkIt md ds) env mh (thenS gl c b Q)) : WS gl c (.cons (.forK md i g x) b) env mh Q :=
  ws_seq (by
    obtain ⟨r, m2, e, q⟩ := h
    refine ⟨r, m2, ?_, q⟩
    show mForK md i (evG gl c g) (evSs gl c x) env mh = some (r, m2)
    unfold mForK
    rw [h0]
    simp only [if_pos hnx]
    exact e)
theorem ws_for {g : G} {it : I} {x : Ss} (h : WI gl c it env mh fun ix mh1 => WL gl c g x ix.g ix.items env mh1 (thenS gl c b Q)) : WS gl c (.cons (.for g it x) b) env mh Q :=
  ws_seq (W.bind h)
instance i_ws_for {g : G} {it : I} {x : Ss} : Wp (WS gl c (.cons (.for g it x) b) env mh Q) (WI gl c it env mh fun ix mh1 => WL gl c g x ix.g ix.items env mh1 (thenS gl c b Q)) := ⟨fun h => ws_for h⟩
theorem chk_yes {gd : List (Nat × List Val)} (h : gOk gd mh) {R : Unit → List Ob → Prop} (q : R () mh) : W (chkG gd) mh R := ⟨(), mh, by unfold chkG; exact if_pos h, q⟩
theorem wl_nil {g : G} {x : Ss} {gd : List (Nat × List Val)} (hg : gOk gd mh) (q : Q (.nx env) mh) : WL gl c g x gd [] env mh Q := W.bind (chk_yes hg (W.pure q))
def stepL (gl : List (Str × Dt)) (c : Nat → List Val → M Val) (g : G) (x : Ss) (gd : List (Nat × List Val)) (items : List Val) (Q : Fl → List Ob → Prop) : Fl → List Ob → Prop := fun f mh => match f with
  | .nx e => WL gl c g x gd items e mh Q
  | .ct e => WL gl c g x gd items e mh Q
  | .bk e => Q (.nx e) mh
  | .rt r => Q (.rt r) mh
theorem wl_cons {g : G} {x : Ss} {gd : List (Nat × List Val)} {v : Val} {items : List Val} (hg : gOk gd mh) (h : WG gl c g v env mh fun e mh1 => WS gl c x e mh1 (stepL gl c g x gd items Q)) : WL gl c g x gd (v :: items) env mh Q :=
  W.bind (chk_yes hg (W.bind (W.mono h fun e mh1 h1 => W.bind (W.mono h1 fun f mh2 h2 => by
    cases f with
    | nx e => exact h2
    | ct e => exact h2
    | bk e => exact W.pure h2
    | rt r => exact W.pure h2))))
/-- an invariant of a for -/
theorem wl_inv {g : G} {x : Ss} {gd : List (Nat × List Val)} {items : List Val} (I : Nat → Sl → List Ob → Prop) (hg : ∀ i e m, I i e m → gOk gd m) (h0 : I 0 env mh)
    (hs : ∀ i v e m, items[i]? = some v → I i e m → WG gl c g v e m fun e1 m1 => WS gl c x e1 m1 fun f m2 => match f with
      | .nx e2 => I (i + 1) e2 m2 | .ct e2 => I (i + 1) e2 m2 | .bk e2 => Q (.nx e2) m2 | .rt r => Q (.rt r) m2)
    (hq : ∀ e m, I items.length e m → Q (.nx e) m) : WL gl c g x gd items env mh Q := by
  suffices h : ∀ n i e m, items.length - i = n → i ≤ items.length → I i e m → WL gl c g x gd (items.drop i) e m Q from h _ 0 env mh rfl (Nat.zero_le _) h0
  intro n
  induction n with
  | zero =>
    intro i e m hn hi hI
    have : i = items.length := by omega
    subst this
    rw [List.drop_length]
    exact wl_nil (hg _ _ _ hI) (hq _ _ hI)
  | succ n ih =>
    intro i e m hn hi hI
    have hlt : i < items.length := by omega
    rw [List.drop_eq_getElem_cons hlt]
    refine wl_cons (hg _ _ _ hI) ((hs i _ e m (List.getElem?_eq_getElem hlt) hI).mono fun e1 m1 h1 => W.mono h1 fun f m2 h2 => ?_)
    cases f with
    | nx e2 => exact ih (i + 1) e2 m2 (by omega) hlt h2
    | ct e2 => exact ih (i + 1) e2 m2 (by omega) hlt h2
    | bk e2 => exact h2
    | rt r => exact h2
end
section
variable {gl : List (Str × Dt)} {c : Nat → List Val → M Val} {env : Sl} {mh : List Ob} {α : Type} {g : G} {t : T} {el : Sl → M α}
theorem wc_inv {ix : Ix} {Q : List α → List Ob → Prop} (I : Nat → List α → List Ob → Prop) (hg : ∀ i a m, I i a m → gOk ix.g m) (h0 : I 0 [] mh)
    (hs : ∀ i v acc m, ix.items[i]? = some v → I i acc m → WG gl c g v env m fun e1 m1 => WT gl c t e1 m1 fun r m2 => (r = true → W (el e1) m2 fun y m3 => I (i + 1) (acc ++ [y]) m3) ∧ (r = false → I (i + 1) acc m2))
    (hq : ∀ acc m, I ix.items.length acc m → Q acc m) : WC gl c g t el env ix mh Q := by
  obtain ⟨items, gd⟩ := ix
  suffices h : ∀ n i acc m, items.length - i = n → i ≤ items.length → I i acc m → W (loopC gd (evG gl c g) (evT gl c t) el env (items.drop i)) m fun ys m2 => Q (acc ++ ys) m2 from h _ 0 [] mh rfl (Nat.zero_le _) h0
  intro n
  induction n with
  | zero =>
    intro i acc m hn hi hI
    have : i = items.length := by omega
    subst this
    rw [List.drop_length]
    exact W.bind (chk_yes (hg _ _ _ hI) (W.pure (by rw [List.append_nil]; exact hq _ _ hI)))
  | succ n ih =>
    intro i acc m hn hi hI
    have hlt : i < items.length := by omega
    rw [List.drop_eq_getElem_cons hlt]
    refine W.bind (chk_yes (hg _ _ _ hI) (W.bind (W.mono (hs i _ acc m (List.getElem?_eq_getElem hlt) hI) fun e1 m1 h1 => W.bind (W.mono h1 fun r m2 ⟨q1, q2⟩ => ?_))))
    cases r with
    | true => exact W.bind ((q1 rfl).mono fun y m3 h3 => W.bind ((ih (i + 1) (acc ++ [y]) m3 (by omega) hlt h3).mono fun ys m4 h4 => W.pure (by rw [List.append_assoc] at h4; exact h4)))
    | false => exact ih (i + 1) acc m2 (by omega) hlt (q2 rfl)
/-- turns that change nothing and leave nothing out -/
theorem wc_map {β : Type} {gd : List (Nat × List Val)} {xs : List β} {emb : β → Val} {r : β → α} {Q : List α → List Ob → Prop} (hg : gOk gd mh)
    (hs : ∀ x ∈ xs, WG gl c g (emb x) env mh fun e1 m1 => WT gl c t e1 m1 fun b m2 => b = true ∧ W (el e1) m2 fun y m3 => y = r x ∧ m3 = mh) (hq : Q (xs.map r) mh) : WC gl c g t el env ⟨xs.map emb, gd⟩ mh Q := by
  refine wc_inv (ix := ⟨xs.map emb, gd⟩) (fun i acc m => m = mh ∧ acc = (xs.take i).map r) (fun _ _ _ h => by rw [h.1]; exact hg) ⟨rfl, rfl⟩ (fun i v acc m hv ⟨e1, e2⟩ => ?_) (fun acc m h => ?_)
  · have hv : (xs.map emb)[i]? = some v := hv
    rw [List.getElem?_map] at hv
    obtain ⟨x, h1, rfl⟩ := Option.map_eq_some_iff.mp hv
    subst e1
    refine W.mono (hs x (List.mem_of_getElem? h1)) fun e1 m1 h2 => W.mono h2 fun b m2 ⟨hb, h3⟩ => ⟨fun _ => h3.mono fun y m3 ⟨a1, a2⟩ => ⟨a2, ?_⟩, fun z => by rw [z] at hb; cases hb⟩
    rw [e2, a1, List.take_add_one, h1, List.map_append]
    rfl
  · have h : m = mh ∧ acc = (xs.take (xs.map emb).length).map r := h
    rw [List.length_map, List.take_length] at h
    rw [h.1, h.2]
    exact hq
theorem wc_filter {β : Type} {gd : List (Nat × List Val)} {xs : List β} {emb : β → Val} {p : β → Bool} {r : β → α} {Q : List α → List Ob → Prop} (hg : gOk gd mh)
    (hs : ∀ x ∈ xs, WG gl c g (emb x) env mh fun e1 m1 => WT gl c t e1 m1 fun b m2 => b = p x ∧ m2 = mh ∧ (b = true → W (el e1) m2 fun y m3 => y = r x ∧ m3 = mh)) (hq : Q ((xs.filter p).map r) mh) : WC gl c g t el env ⟨xs.map emb, gd⟩ mh Q := by
  refine wc_inv (ix := ⟨xs.map emb, gd⟩) (fun i acc m => m = mh ∧ acc = ((xs.take i).filter p).map r) (fun _ _ _ h => by rw [h.1]; exact hg) ⟨rfl, rfl⟩ (fun i v acc m hv ⟨e1, e2⟩ => ?_) (fun acc m h => ?_)
  · have hv : (xs.map emb)[i]? = some v := hv
    rw [List.getElem?_map] at hv
    obtain ⟨x, h1, rfl⟩ := Option.map_eq_some_iff.mp hv
    subst e1
    refine W.mono (hs x (List.mem_of_getElem? h1)) fun e1 m1 h2 => W.mono h2 fun b m2 ⟨hb, hm, h3⟩ => ⟨fun z => (h3 z).mono fun y m3 ⟨a1, a2⟩ => ⟨a2, ?_⟩, fun z => ⟨hm, ?_⟩⟩
    · rw [e2, a1, List.take_add_one, h1, List.filter_append, List.map_append]
      rw [z] at hb
      simp [← hb]
    · rw [e2, List.take_add_one, h1, List.filter_append, List.map_append]
      rw [z] at hb
      simp [← hb]
  · have h : m = mh ∧ acc = ((xs.take (xs.map emb).length).filter p).map r := h
    rw [List.length_map, List.take_length] at h
    rw [h.1, h.2]
    exact hq
end
/-! instances, dicts by tuples, two clauses -/
section
variable {gl : List (Str × Dt)} {c : Nat → List Val → M Val} {env : Sl} {mh : List Ob} {Q : Val → List Ob → Prop}
theorem we_fld {Cs : List Str} {f : Str} {o : E} (h : W (evE gl c o env) mh fun x mh1 => ∃ v, ((insOf mh1 x).bind fun p => if Cs.contains p.1 then p.2.lookup f else none) = some v ∧ Q v mh1) : W (evE gl c (.fld Cs f o) env) mh Q :=
  W.bind (h.mono fun x mh1 ⟨v, e, q⟩ => W.rd ⟨v, e, q⟩)
instance i_we_fld {Cs : List Str} {f : Str} {o : E} : Wp (W (evE gl c (.fld Cs f o) env) mh Q) (W (evE gl c o env) mh fun x mh1 => ∃ v, ((insOf mh1 x).bind fun p => if Cs.contains p.1 then p.2.lookup f else none) = some v ∧ Q v mh1) := ⟨fun h => we_fld h⟩
theorem fld_ex {Cs : List Str} {f C : Str} {n : Nat} {fs : List (Str × Val)} {v : Val} {R : Val → Prop} (h : mh[n]? = some (.ins C fs)) (hc : Cs.contains C = true) (hv : fs.lookup f = some v) (q : R v) : ∃ v, ((insOf mh (.ref n)).bind fun p => if Cs.contains p.1 then p.2.lookup f else none) = some v ∧ R v := by
  refine ⟨v, ?_, q⟩
  unfold insOf
  simp only [h]
  show (if Cs.contains C then fs.lookup f else none) = _
  rw [if_pos hc]; exact hv
theorem we_mk {C : Str} {i : Nat} {as : As} (h : WA gl c as env mh fun vs mh1 => W (c i (.ref mh1.length :: vs)) (mh1 ++ [.ins C []]) fun v mh2 => v = .d .none ∧ Q (.ref mh1.length) mh2) : W (evE gl c (.mk C i as) env) mh Q :=
  W.bind (W.mono h fun vs mh1 ⟨v, mh2, e, e2, q⟩ => by
    subst e2
    refine ⟨.ref mh1.length, mh2, ?_, q⟩
    show (match c i (.ref mh1.length :: vs) (mh1 ++ [.ins C []]) with | some (.d .none, mh') => some (Val.ref mh1.length, mh') | _ => none) = _
    rw [e])
instance i_we_mk {C : Str} {i : Nat} {as : As} : Wp (W (evE gl c (.mk C i as) env) mh Q) (WA gl c as env mh fun vs mh1 => W (c i (.ref mh1.length :: vs)) (mh1 ++ [.ins C []]) fun v mh2 => v = .d .none ∧ Q (.ref mh1.length) mh2) := ⟨fun h => we_mk h⟩
theorem alts_lk {C : Str} {i : Nat} : ∀ {alts : List (Str × Nat)}, alts.lookup C = some i → (alts.map fun p => (p.1, c p.2)).lookup C = some (c i)
  | [], h => by cases h
  | p :: ps, h => by
    by_cases hd : C = p.1
    · have hb : (C == p.1) = true := beq_iff_eq.mpr hd
      simp only [List.map_cons, List.lookup, hb] at h ⊢
      cases h; rfl
    · have hb : (C == p.1) = false := beq_eq_false_iff_ne.mpr hd
      simp only [List.map_cons, List.lookup, hb] at h ⊢
      exact alts_lk h
theorem we_mcall {alts : List (Str × Nat)} {m : Str} {o : E} {as : As} (h : W (evE gl c o env) mh fun x mh1 => ∃ C fs i, insOf mh1 x = some (C, fs) ∧ alts.lookup C = some i ∧ fs.lookup m = none ∧ WA gl c as env mh1 fun vs mh2 => W (c i (x :: vs)) mh2 Q) : W (evE gl c (.mcall alts m o as) env) mh Q :=
  W.bind (h.mono fun x mh1 ⟨C, fs, i, e1, e2, e3, k⟩ => W.bind (W.rd ⟨(C, fs), e1, by
    show W ((match (alts.map fun p => (p.1, c p.2)).lookup C, fs.lookup m with | some f, none => (do let vs ← mArgs (evAs gl c as) env; f (x :: vs) : M Val) | _, _ => fun _ => none)) mh1 Q
    rw [alts_lk e2, e3]
    exact W.bind k⟩))
instance i_we_mcall {alts : List (Str × Nat)} {m : Str} {o : E} {as : As} : Wp (W (evE gl c (.mcall alts m o as) env) mh Q) (W (evE gl c o env) mh fun x mh1 => ∃ C fs i, insOf mh1 x = some (C, fs) ∧ alts.lookup C = some i ∧ fs.lookup m = none ∧ WA gl c as env mh1 fun vs mh2 => W (c i (x :: vs)) mh2 Q) := ⟨fun h => we_mcall h⟩
theorem mcall_ex {alts : List (Str × Nat)} {m C : Str} {n i : Nat} {fs : List (Str × Val)} (h : mh[n]? = some (.ins C fs)) (ha : alts.lookup C = some i) (hm : fs.lookup m = none) {K : Prop} (k : K) : ∃ C fs i, insOf mh (.ref n) = some (C, fs) ∧ alts.lookup C = some i ∧ fs.lookup m = none ∧ K :=
  ⟨C, fs, i, by unfold insOf; simp only [h], ha, hm, k⟩
theorem we_ixT {o : E} {as : As} (h : W (evE gl c o env) mh fun x mh1 => WA gl c as env mh1 fun vs mh2 => ∃ k, keyT vs = some k ∧ ∃ v, getT mh2 x k = some v ∧ Q v mh2) : W (evE gl c (.ixT o as) env) mh Q :=
  W.bind (h.mono fun x mh1 h1 => W.bind (W.mono h1 fun vs mh2 ⟨k, e1, v, e2, q⟩ => W.bind (W.ofO ⟨k, e1, W.rd ⟨v, e2, q⟩⟩)))
instance i_we_ixT {o : E} {as : As} : Wp (W (evE gl c (.ixT o as) env) mh Q) (W (evE gl c o env) mh fun x mh1 => WA gl c as env mh1 fun vs mh2 => ∃ k, keyT vs = some k ∧ ∃ v, getT mh2 x k = some v ∧ Q v mh2) := ⟨fun h => we_ixT h⟩
theorem getT_ex {n : Nat} {kvs : List (List Key × Val)} {k : List Key} {v : Val} {R : Val → Prop} (h : mh[n]? = some (.dtk kvs)) (hv : findG kvs k = some v) (q : R v) : ∃ v, getT mh (.ref n) k = some v ∧ R v :=
  ⟨v, by unfold getT; simp only [h]; exact hv, q⟩
theorem we_dictT0 (q : Q (.ref mh.length) (mh ++ [.dtk []])) : W (evE gl c .dictT0 env) mh Q := ⟨_, _, rfl, q⟩
instance i_we_dictT0  : Wp (W (evE gl c .dictT0 env) mh Q) (Q (.ref mh.length) (mh ++ [.dtk []])) := ⟨fun h => we_dictT0 h⟩
theorem we_dk {a b : E} (h : W (evE gl c a env) (mh ++ [.dct []]) fun y mh1 => W (evE gl c b env) mh1 fun z mh2 => ∃ k, keyVl y = some k ∧ W (putD mh.length k z) mh2 Q) : W (evE gl c (.dk a b) env) mh Q := by
  have hb : W (do
    let _ ← alloc (.dct [])
    let y ← evE gl c a env
    let z ← evE gl c b env
    let k ← ofO (keyVl y)
    putD mh.length k z) mh Q :=
    W.bind (⟨_, _, rfl, W.bind (W.mono h fun y mh1 h1 => W.bind (W.mono h1 fun z mh2 ⟨k, hk, h2⟩ => W.bind (W.ofO ⟨k, hk, h2⟩)))⟩)
  exact hb
instance i_we_dk {a b : E} : Wp (W (evE gl c (.dk a b) env) mh Q) (W (evE gl c a env) (mh ++ [.dct []]) fun y mh1 => W (evE gl c b env) mh1 fun z mh2 => ∃ k, keyVl y = some k ∧ W (putD mh.length k z) mh2 Q) := ⟨fun h => we_dk h⟩
theorem putD_ex {n : Nat} {k : Key} {v : Val} {mh : List Ob} {Q : Val → List Ob → Prop} (h : mh[n]? = some (.dct [])) (q : Q (.ref n) (mh.set n (.dct [(k, v)]))) : W (putD n k v) mh Q := by
  refine ⟨.ref n, _, ?_, q⟩
  unfold putD
  rw [h]
theorem we_lc2 {k : Bool} {own : List (Str × Nat)} {g g1 : G} {it it1 : I} {t t1 : T} {vs1 : List Nat} {el : E} (h : WI gl c it env mh fun ix mh1 => WC gl c g t (mIn (evI gl c it1) vs1 (evG gl c g1) (evT gl c t1) (evE gl c el)) (wipeE env (own.map (·.2))) ix mh1 fun ys mh2 => ys.flatten.length ≤ sizeLine ∧ WR k (some (.nl ys.flatten)) mh2 Q) :
    W (evE gl c (.lc2 k own g it t vs1 g1 it1 t1 el) env) mh Q :=
  W.bind (W.mono h fun ix mh1 h1 => W.bind (W.mono h1 fun ys mh2 ⟨hl, r, e, w⟩ => by
    show W (if ys.flatten.length ≤ sizeLine then finR k (.nl ys.flatten) else fun _ => none) mh2 Q
    rw [if_pos hl]
    cases e; exact w))
instance i_we_lc2 {k : Bool} {own : List (Str × Nat)} {g g1 : G} {it it1 : I} {t t1 : T} {vs1 : List Nat} {el : E} : Wp (W (evE gl c (.lc2 k own g it t vs1 g1 it1 t1 el) env) mh Q) (WI gl c it env mh fun ix mh1 => WC gl c g t (mIn (evI gl c it1) vs1 (evG gl c g1) (evT gl c t1) (evE gl c el)) (wipeE env (own.map (·.2))) ix mh1 fun ys mh2 => ys.flatten.length ≤ sizeLine ∧ WR k (some (.nl ys.flatten)) mh2 Q) := ⟨fun h => we_lc2 h⟩
theorem w_in {g1 : G} {it1 : I} {t1 : T} {vs1 : List Nat} {el : E} {Q : List Val → List Ob → Prop} (h : WI gl c it1 env mh fun ix mh1 => WC gl c g1 t1 (evE gl c el) (wipeE env vs1) ix mh1 Q) : W (mIn (evI gl c it1) vs1 (evG gl c g1) (evT gl c t1) (evE gl c el) env) mh Q :=
  W.bind (W.mono h fun ix mh1 h1 => h1)
instance i_w_in {g1 : G} {it1 : I} {t1 : T} {vs1 : List Nat} {el : E} {Q : List Val → List Ob → Prop} : Wp (W (mIn (evI gl c it1) vs1 (evG gl c g1) (evT gl c t1) (evE gl c el) env) mh Q) (WI gl c it1 env mh fun ix mh1 => WC gl c g1 t1 (evE gl c el) (wipeE env vs1) ix mh1 Q) := ⟨fun h => w_in h⟩
theorem wg_sbT {o : E} {as : As} {v : Val} {Q : Sl → List Ob → Prop} (h : W (evE gl c o env) mh fun x mh1 => WA gl c as env mh1 fun vs mh2 => ∃ k, keyT vs = some k ∧ W (setT x k v) mh2 fun _ mh3 => Q env mh3) : WG gl c (.sbT o as) v env mh Q :=
  W.bind (h.mono fun x mh1 h1 => W.bind (W.mono h1 fun vs mh2 ⟨k, e1, h2⟩ => W.bind (W.ofO ⟨k, e1, W.bind (h2.mono fun _ mh3 q => W.pure q)⟩)))
instance i_wg_sbT {o : E} {as : As} {v : Val} {Q : Sl → List Ob → Prop} : Wp (WG gl c (.sbT o as) v env mh Q) (W (evE gl c o env) mh fun x mh1 => WA gl c as env mh1 fun vs mh2 => ∃ k, keyT vs = some k ∧ W (setT x k v) mh2 fun _ mh3 => Q env mh3) := ⟨fun h => wg_sbT h⟩
theorem setT_w {n : Nat} {kvs : List (List Key × Val)} {k : List Key} {v : Val} {Q : Unit → List Ob → Prop} (h : mh[n]? = some (.dtk kvs)) (hl : kvs.length < sizeLine) (q : Q () (mh.set n (.dtk (putG kvs k v)))) : W (setT (.ref n) k v) mh Q :=
  ⟨(), _, by unfold setT; simp only [h]; exact if_pos hl, q⟩
theorem setF_w {Cs : List Str} {f C : Str} {n : Nat} {fs : List (Str × Val)} {v : Val} {Q : Unit → List Ob → Prop} (h : mh[n]? = some (.ins C fs)) (hc : Cs.contains C = true) (hl : fs.length < 999) (q : Q () (mh.set n (.ins C (putFV f v fs)))) : W (setF Cs f (.ref n) v) mh Q :=
  ⟨(), _, by unfold setF; simp only [h]; exact if_pos ⟨hc, hl⟩, q⟩
theorem ws_fset {Cs : List Str} {f : Str} {o a : E} {b : Ss} {Q : Fl → List Ob → Prop} (h : W (evE gl c a env) mh fun v mh1 => W (evE gl c o env) mh1 fun x mh2 => W (setF Cs f x v) mh2 fun _ mh3 => WS gl c b env mh3 Q) : WS gl c (.cons (.fset Cs f o a) b) env mh Q :=
  ws_seq (W.bind (h.mono fun v mh1 h1 => W.bind (h1.mono fun x mh2 h2 => W.bind (h2.mono fun _ mh3 h3 => W.pure h3))))
instance i_ws_fset {Cs : List Str} {f : Str} {o a : E} {b : Ss} {Q : Fl → List Ob → Prop} : Wp (WS gl c (.cons (.fset Cs f o a) b) env mh Q) (W (evE gl c a env) mh fun v mh1 => W (evE gl c o env) mh1 fun x mh2 => W (setF Cs f x v) mh2 fun _ mh3 => WS gl c b env mh3 Q) := ⟨fun h => ws_fset h⟩
end
end Pv

/-! P15: the draws' state; a def's call; a tactic -/
namespace Pv
open PySem PySem.Spec PyProof.Rows L2

structure Ds where
  sc : List Int
  pos : Int
  acc : Int
  cnt : Int
def St (d : Ds) : Ob := .lst [.d (.list (d.sc.map PyData.int)), .d (.int d.pos), .d (.int d.acc), .d (.int d.cnt)]
theorem cutOk_app {n : Nat} : ∀ (tl os : List Ob), cutOk n tl (tl ++ os)
  | [], _ => trivial
  | o :: tl, os => ⟨.inl rfl, cutOk_app tl os⟩
theorem st_below {n : Nat} (d : Ds) : (St d).below n = true := rfl
section
variable {P : Pg} {gl : List (Str × Dt)} {k f : Nat} {vs : List Val} {d : Df} {Q : Val → List Ob → Prop}
open Classical in
theorem w_body {mh : List Ob} {c : Nat → List Val → M Val} (h : WS gl c d.body (vs.map some ++ List.replicate (d.N.length - vs.length) none) mh fun fl mh' => ∃ x, (fl = .rt (.d x) ∨ ∃ e, fl = .nx e ∧ x = .none) ∧ cutOk mh.length mh mh' ∧ Q (.d x) (mh'.take mh.length)) :
    W (frame (mBody d.N.length (evSs gl c d.body)) vs) mh Q := by
  obtain ⟨fl, mh', e, x, hx, hc, q⟩ := h
  refine ⟨.d x, mh'.take mh.length, ?_, q⟩
  have e2 : mBody d.N.length (evSs gl c d.body) vs mh = some (.d x, mh') := by
    refine M.bind_some.mpr ⟨fl, mh', e, ?_⟩
    rcases hx with rfl | ⟨e, rfl, rfl⟩ <;> rfl
  unfold frame
  rw [e2]
  exact if_pos ⟨hc, by
    show ((mh'.take mh.length).drop mh.length).all _ = true
    rw [List.drop_eq_nil_of_le (by rw [List.length_take]; exact Nat.min_le_left _ _)]; rfl⟩
theorem w_call {mh : List Ob} (hd : P[f]? = some d) (h : W (frame (mBody d.N.length (evSs gl (callP P gl k) d.body)) vs) mh Q) (hk : d.kp = false := by rfl) : W (callP P gl (k + 1) f vs) mh Q := by
  have e : callP P gl (k + 1) f vs = frame (mBody d.N.length (evSs gl (callP P gl k) d.body)) vs := by
    show (match P[f]? with | some d => frameK d.kp (mBody d.N.length (evSs gl (callP P gl k) d.body)) vs | none => fun _ => none) = _
    rw [hd]
    show frameK d.kp _ vs = _
    rw [hk]; rfl
  rw [e]
  exact h
/-- a def whose cells all stay -/
theorem w_callK {mh : List Ob} (hd : P[f]? = some d) (hk : d.kp = true) (h : W (mBody d.N.length (evSs gl (callP P gl k) d.body) vs) mh Q) : W (callP P gl (k + 1) f vs) mh Q := by
  have e : callP P gl (k + 1) f vs = mBody d.N.length (evSs gl (callP P gl k) d.body) vs := by
    show (match P[f]? with | some d => frameK d.kp (mBody d.N.length (evSs gl (callP P gl k) d.body)) vs | none => fun _ => none) = _
    rw [hd]
    show frameK d.kp _ vs = _
    rw [hk]; rfl
  rw [e]
  exact h
theorem w_keep {mh : List Ob} {nm : Str} {ps N : List Str} {body : Ss} {fn : Bool} {qn : Str} {env : Sl} (hd : P[f]? = some ⟨nm, ps, N, body, true, fn, qn⟩) (he : vs.map some ++ List.replicate (N.length - vs.length) none = env) (h : WS gl (callP P gl k) body env mh fun fl mh' => match fl with
    | .rt v => Q v mh' | .nx _ => Q (.d .none) mh' | .bk _ => False | .ct _ => False) : W (callP P gl (k + 1) f vs) mh Q := by
  subst he
  obtain ⟨fl, mh', e, q⟩ := h
  refine w_callK hd rfl ?_
  cases fl with
  | rt v => exact ⟨v, mh', M.bind_some.mpr ⟨_, _, e, rfl⟩, q⟩
  | nx e2 => exact ⟨.d .none, mh', M.bind_some.mpr ⟨_, _, e, rfl⟩, q⟩
  | bk e2 => exact q.elim
  | ct e2 => exact q.elim
/-- a def that hands data back; of the cells that were there only the state changes -/
theorem w_def {s : Ds} {tl : List Ob} {nm : Str} {ps N : List Str} {body : Ss} {fn : Bool} {qn : Str} {env : Sl} (hd : P[f]? = some ⟨nm, ps, N, body, false, fn, qn⟩) (he : vs.map some ++ List.replicate (N.length - vs.length) none = env) (h : WS gl (callP P gl k) body env (St s :: tl) fun fl mh' => ∃ x s' os, (fl = .rt (.d x) ∨ ∃ e, fl = .nx e ∧ x = .none) ∧ mh' = St s' :: (tl ++ os) ∧ Q (.d x) (St s' :: tl)) :
    W (callP P gl (k + 1) f vs) (St s :: tl) Q := by
  subst he
  exact w_call hd (w_body (W.mono h fun fl mh' ⟨x, s', os, h1, h2, h3⟩ => by
    subst h2
    refine ⟨x, h1, ⟨.inr (st_below _), cutOk_app _ _⟩, ?_⟩
    show Q _ (St s' :: List.take tl.length (tl ++ os))
    rw [List.take_left]
    exact h3))
theorem fin_rt {s' : Ds} {tl os mh' : List Ob} {x : Dt} (h1 : mh' = St s' :: (tl ++ os)) (h : Q (.d x) (St s' :: tl)) :
    ∃ y t os, (Fl.rt (.d x) = .rt (.d y) ∨ ∃ e, Fl.rt (.d x) = .nx e ∧ y = .none) ∧ mh' = St t :: (tl ++ os) ∧ Q (.d y) (St t :: tl) := ⟨x, s', os, .inl rfl, h1, h⟩
/-- a def that changes nothing -/
theorem w_pure {mh : List Ob} {nm : Str} {ps N : List Str} {body : Ss} {fn : Bool} {qn : Str} {env : Sl} (hd : P[f]? = some ⟨nm, ps, N, body, false, fn, qn⟩) (he : vs.map some ++ List.replicate (N.length - vs.length) none = env) (h : WS gl (callP P gl k) body env mh fun fl mh' => ∃ x os, (fl = .rt (.d x) ∨ ∃ e, fl = .nx e ∧ x = .none) ∧ mh' = mh ++ os ∧ Q (.d x) mh) :
    W (callP P gl (k + 1) f vs) mh Q := by
  subst he
  exact w_call hd (w_body (W.mono h fun fl mh' ⟨x, os, h1, h2, h3⟩ => by
    subst h2
    refine ⟨x, h1, cutOk_app _ _, ?_⟩
    rw [List.take_left]
    exact h3))
theorem fin_pure {mh : List Ob} {x : Dt} (h : Q (.d x) mh) : ∃ y os, (Fl.rt (.d x) = .rt (.d y) ∨ ∃ e, Fl.rt (.d x) = .nx e ∧ y = .none) ∧ mh = mh ++ os ∧ Q (.d y) mh := ⟨x, [], .inl rfl, (List.append_nil _).symm, h⟩
theorem fin_pure' {mh os : List Ob} {x : Dt} (h : Q (.d x) mh) : ∃ y os', (Fl.rt (.d x) = .rt (.d y) ∨ ∃ e, Fl.rt (.d x) = .nx e ∧ y = .none) ∧ mh ++ os = mh ++ os' ∧ Q (.d y) mh := ⟨x, os, .inl rfl, rfl, h⟩
end
section
variable {gl : List (Str × Dt)} {c : Nat → List Val → M Val} {env : Sl} {mh : List Ob} {Q : Val → List Ob → Prop}
theorem we_ki {i : Int} (q : Q (.d (.int i)) mh) : W (evE gl c (.k (.int i)) env) mh Q := W.pure q
instance i_we_ki {i : Int} : Wp (W (evE gl c (.k (.int i)) env) mh Q) (Q (.d (.int i)) mh) := ⟨fun h => we_ki h⟩
theorem we_ks {i : Str} (q : Q (.d (.str i)) mh) : W (evE gl c (.k (.str i)) env) mh Q := W.pure q
instance i_we_ks {i : Str} : Wp (W (evE gl c (.k (.str i)) env) mh Q) (Q (.d (.str i)) mh) := ⟨fun h => we_ks h⟩
theorem we_kb {i : Bool} (q : Q (.d (.bool i)) mh) : W (evE gl c (.k (.bl i)) env) mh Q := W.pure q
instance i_we_kb {i : Bool} : Wp (W (evE gl c (.k (.bl i)) env) mh Q) (Q (.d (.bool i)) mh) := ⟨fun h => we_kb h⟩
theorem we_kn (q : Q (.d .none) mh) : W (evE gl c (.k .non) env) mh Q := W.pure q
instance i_we_kn  : Wp (W (evE gl c (.k .non) env) mh Q) (Q (.d .none) mh) := ⟨fun h => we_kn h⟩
end
section
variable {s : Ds} {tl : List Ob} {i : Int} {Q : Unit → List Ob → Prop}
theorem set_pos (q : Q () (St { s with pos := i } :: tl)) : W (setVl (.ref 0) (.d (.int 1)) (.d (.int i))) (St s :: tl) Q := ⟨(), _, rfl, q⟩
instance i_set_pos  : Wp (W (setVl (.ref 0) (.d (.int 1)) (.d (.int i))) (St s :: tl) Q) (Q () (St { s with pos := i } :: tl)) := ⟨fun h => set_pos h⟩
theorem set_acc (q : Q () (St { s with acc := i } :: tl)) : W (setVl (.ref 0) (.d (.int 2)) (.d (.int i))) (St s :: tl) Q := ⟨(), _, rfl, q⟩
instance i_set_acc  : Wp (W (setVl (.ref 0) (.d (.int 2)) (.d (.int i))) (St s :: tl) Q) (Q () (St { s with acc := i } :: tl)) := ⟨fun h => set_acc h⟩
theorem set_cnt (q : Q () (St { s with cnt := i } :: tl)) : W (setVl (.ref 0) (.d (.int 3)) (.d (.int i))) (St s :: tl) Q := ⟨(), _, rfl, q⟩
instance i_set_cnt  : Wp (W (setVl (.ref 0) (.d (.int 3)) (.d (.int i))) (St s :: tl) Q) (Q () (St { s with cnt := i } :: tl)) := ⟨fun h => set_cnt h⟩
theorem at_sc {R : Val → Prop} (q : R (.d (.list (s.sc.map PyData.int)))) : ∃ v, ixVl (St s :: tl) (.ref 0) (.d (.int 0)) = some v ∧ R v := ⟨_, rfl, q⟩
instance i_at_sc {R : Val → Prop} : Wp (∃ v, ixVl (St s :: tl) (.ref 0) (.d (.int 0)) = some v ∧ R v) (R (.d (.list (s.sc.map PyData.int)))) := ⟨fun h => at_sc h⟩
theorem at_pos {R : Val → Prop} (q : R (.d (.int s.pos))) : ∃ v, ixVl (St s :: tl) (.ref 0) (.d (.int 1)) = some v ∧ R v := ⟨_, rfl, q⟩
instance i_at_pos {R : Val → Prop} : Wp (∃ v, ixVl (St s :: tl) (.ref 0) (.d (.int 1)) = some v ∧ R v) (R (.d (.int s.pos))) := ⟨fun h => at_pos h⟩
theorem at_acc {R : Val → Prop} (q : R (.d (.int s.acc))) : ∃ v, ixVl (St s :: tl) (.ref 0) (.d (.int 2)) = some v ∧ R v := ⟨_, rfl, q⟩
instance i_at_acc {R : Val → Prop} : Wp (∃ v, ixVl (St s :: tl) (.ref 0) (.d (.int 2)) = some v ∧ R v) (R (.d (.int s.acc))) := ⟨fun h => at_acc h⟩
theorem at_cnt {R : Val → Prop} (q : R (.d (.int s.cnt))) : ∃ v, ixVl (St s :: tl) (.ref 0) (.d (.int 3)) = some v ∧ R v := ⟨_, rfl, q⟩
instance i_at_cnt {R : Val → Prop} : Wp (∃ v, ixVl (St s :: tl) (.ref 0) (.d (.int 3)) = some v ∧ R v) (R (.d (.int s.cnt))) := ⟨fun h => at_cnt h⟩
end
section
variable {mh : List Ob} {Q : Val → List Ob → Prop}
theorem wr_mul {i j : Int} (h : MulOk i j) (q : Q (.d (.int (i * j))) mh) : WR false (binF .Mult mh (.d (.int i)) (.d (.int j))) mh Q :=
  wr_v (show (if MulOk i j then some (Rv.v (.d (.int (i * j)))) else none) = _ from if_pos h) q
theorem wr_div {i j : Int} (h : 0 < j) (h2 : j.natAbs < 2 ^ 9000) (q : Q (.d (.int (i / j))) mh) : WR false (binF .FloorDiv mh (.d (.int i)) (.d (.int j))) mh Q := by
  have h : DivOk j := ⟨h, h2⟩
  refine wr_v (x := .d (.int (i / j))) ?_ q
  show ((if DivOk j then some (PyData.int (i / j)) else none).map _) = _
  rw [if_pos h]
  rfl
theorem wr_mod {i j : Int} (h : 0 < j) (q : Q (.d (.int (i % j))) mh) : WR false (binF .Mod mh (.d (.int i)) (.d (.int j))) mh Q := by
  refine wr_v (x := .d (.int (i % j))) ?_ q
  show ((if 0 < j then some (PyData.int (i % j)) else none).map _) = _
  rw [if_pos h]
  rfl
theorem wr_pow {i j : Int} (h : 0 ≤ j ∧ j ≤ 1000000 ∧ i.natAbs < 2 ^ 64) (q : Q (.d (.int (i ^ j.toNat))) mh) : WR false (binF .Pow mh (.d (.int i)) (.d (.int j))) mh Q := by
  refine wr_v (x := .d (.int (i ^ j.toNat))) ?_ q
  show ((if 0 ≤ j ∧ j ≤ 1000000 ∧ i.natAbs < 2 ^ 64 then some (PyData.int (i ^ j.toNat)) else none).map _) = _
  rw [if_pos h]
  rfl
theorem mul64 {i j : Int} (h : j.natAbs < 2 ^ 64) : MulOk i j := .inr (.inl h)
theorem mul64' {i j : Int} (h : i.natAbs < 2 ^ 64) : MulOk i j := .inl h
theorem div64 {j : Int} (h : j.natAbs < 2 ^ 64) : j.natAbs < 2 ^ 9000 := Nat.lt_of_lt_of_le h (Nat.pow_le_pow_right (by decide) (by decide))
end
section
variable {mh : List Ob} {A B : Prop} {a b : Int}
theorem br_by {p : Prop} [Decidable p] {f : Option Rv} (e : f = some (.v (.d (.bool (decide p))))) (h1 : p → A) (h2 : ¬ p → B) : ∃ r, f = some (.v (.d (.bool r))) ∧ (r = true → A) ∧ (r = false → B) :=
  ⟨_, e, fun h => h1 (of_decide_eq_true h), fun h => h2 (of_decide_eq_false h)⟩
theorem br_byN {p : Prop} [Decidable p] {f : Option Rv} (e : f = some (.v (.d (.bool (decide p))))) (h1 : p → B) (h2 : ¬ p → A) : ∃ r, f = some (.v (.d (.bool r))) ∧ ((!r) = true → A) ∧ ((!r) = false → B) :=
  ⟨_, e, fun h => h2 (of_decide_eq_false (by simpa using h)), fun h => h1 (of_decide_eq_true (by simpa using h))⟩
theorem br_gt (h1 : b < a → A) (h2 : ¬ b < a → B) : ∃ r, cmpF .Gt mh (.d (.int a)) (.d (.int b)) = some (.v (.d (.bool r))) ∧ (r = true → A) ∧ (r = false → B) := br_by rfl h1 h2
theorem br_lt (h1 : a < b → A) (h2 : ¬ a < b → B) : ∃ r, cmpF .Lt mh (.d (.int a)) (.d (.int b)) = some (.v (.d (.bool r))) ∧ (r = true → A) ∧ (r = false → B) := br_by rfl h1 h2
theorem br_le (h1 : a ≤ b → A) (h2 : ¬ a ≤ b → B) : ∃ r, cmpF .LtE mh (.d (.int a)) (.d (.int b)) = some (.v (.d (.bool r))) ∧ (r = true → A) ∧ (r = false → B) := br_by rfl h1 h2
theorem br_ge (h1 : b ≤ a → A) (h2 : ¬ b ≤ a → B) : ∃ r, cmpF .GtE mh (.d (.int a)) (.d (.int b)) = some (.v (.d (.bool r))) ∧ (r = true → A) ∧ (r = false → B) := br_by rfl h1 h2
theorem br_eq (h1 : a = b → A) (h2 : ¬ a = b → B) : ∃ r, cmpF .Eq mh (.d (.int a)) (.d (.int b)) = some (.v (.d (.bool r))) ∧ (r = true → A) ∧ (r = false → B) := br_by rfl h1 h2
theorem br_ne (h1 : ¬ a = b → A) (h2 : a = b → B) : ∃ r, cmpF .NotEq mh (.d (.int a)) (.d (.int b)) = some (.v (.d (.bool r))) ∧ (r = true → A) ∧ (r = false → B) :=
  ⟨!decide (a = b), rfl, fun h => h1 (of_decide_eq_false (by simpa using h)), fun h => h2 (of_decide_eq_true (by simpa using h))⟩
theorem br_eqS {x y : Str} (h1 : x = y → A) (h2 : ¬ x = y → B) : ∃ r, cmpF .Eq mh (.d (.str x)) (.d (.str y)) = some (.v (.d (.bool r))) ∧ (r = true → A) ∧ (r = false → B) := br_by rfl h1 h2
theorem br_neS {x y : Str} (h1 : ¬ x = y → A) (h2 : x = y → B) : ∃ r, cmpF .NotEq mh (.d (.str x)) (.d (.str y)) = some (.v (.d (.bool r))) ∧ (r = true → A) ∧ (r = false → B) :=
  ⟨!decide (x = y), rfl, fun h => h1 (of_decide_eq_false (by simpa using h)), fun h => h2 (of_decide_eq_true (by simpa using h))⟩
theorem pick_f (h : B) : (false = true → A) ∧ (false = false → B) := ⟨(nomatch ·), fun _ => h⟩
instance i_pick_f  : Wp ((false = true → A) ∧ (false = false → B)) (B) := ⟨fun h => pick_f h⟩
theorem pick_t (h : A) : (true = true → A) ∧ (true = false → B) := ⟨fun _ => h, (nomatch ·)⟩
instance i_pick_t  : Wp ((true = true → A) ∧ (true = false → B)) (A) := ⟨fun h => pick_t h⟩
/-! arithmetic -/
variable {Q : Val → List Ob → Prop}
theorem wr_add (q : Q (.d (.int (a + b))) mh) : WR false (binF .Add mh (.d (.int a)) (.d (.int b))) mh Q := wr_v rfl q
instance i_wr_add  : Wp (WR false (binF .Add mh (.d (.int a)) (.d (.int b))) mh Q) (Q (.d (.int (a + b))) mh) := ⟨fun h => wr_add h⟩
theorem wr_sub (q : Q (.d (.int (a - b))) mh) : WR false (binF .Sub mh (.d (.int a)) (.d (.int b))) mh Q := wr_v rfl q
instance i_wr_sub  : Wp (WR false (binF .Sub mh (.d (.int a)) (.d (.int b))) mh Q) (Q (.d (.int (a - b))) mh) := ⟨fun h => wr_sub h⟩
theorem wr_int (q : Q (.d (.int a)) mh) : WR false (Bi.f .int mh [.d (.int a)]) mh Q := wr_v rfl q
instance i_wr_int  : Wp (WR false (Bi.f .int mh [.d (.int a)]) mh Q) (Q (.d (.int a)) mh) := ⟨fun h => wr_int h⟩
theorem wr_abs (q : Q (.d (.int (if a < 0 then -a else a))) mh) : WR false (Bi.f .abs mh [.d (.int a)]) mh Q := wr_v rfl q
instance i_wr_abs  : Wp (WR false (Bi.f .abs mh [.d (.int a)]) mh Q) (Q (.d (.int (if a < 0 then -a else a))) mh) := ⟨fun h => wr_abs h⟩
theorem wr_len {xs : List Dt} (q : Q (.d (.int xs.length)) mh) : WR false (Bi.f .len mh [.d (.list xs)]) mh Q := by
  refine wr_v (x := .d (.int (xs.map Val.d).length)) rfl ?_
  rw [List.length_map]
  exact q
instance i_wr_len {xs : List Dt} : Wp (WR false (Bi.f .len mh [.d (.list xs)]) mh Q) (Q (.d (.int xs.length)) mh) := ⟨fun h => wr_len h⟩
theorem wr_lenT {xs : List Dt} (q : Q (.d (.int xs.length)) mh) : WR false (Bi.f .len mh [.d (.tuple xs)]) mh Q := by
  refine wr_v (x := .d (.int (xs.map Val.d).length)) rfl ?_
  rw [List.length_map]
  exact q
instance i_wr_lenT {xs : List Dt} : Wp (WR false (Bi.f .len mh [.d (.tuple xs)]) mh Q) (Q (.d (.int xs.length)) mh) := ⟨fun h => wr_lenT h⟩
theorem wr_max (q : Q (.d (.int (if b > a then b else a))) mh) : WR false (Bi.f .max mh [.d (.int a), .d (.int b)]) mh Q := wr_v rfl q
instance i_wr_max  : Wp (WR false (Bi.f .max mh [.d (.int a), .d (.int b)]) mh Q) (Q (.d (.int (if b > a then b else a))) mh) := ⟨fun h => wr_max h⟩
theorem atI_nat' {α : Type} {xs : List α} {j : Nat} {v : α} (h : xs[j]? = some v) : atI xs (j : Int) = some v := atI_nat h
theorem ix_list {R : Val → Prop} {xs : List Dt} {j : Nat} {i : Int} {v : Dt} (e : i = (j : Int)) (h : xs[j]? = some v) (q : R (.d v)) : ∃ v, ixVl mh (.d (.list xs)) (.d (.int i)) = some v ∧ R v := by
  subst e
  refine ⟨.d v, ?_, q⟩
  show atI (xs.map Val.d) (j : Int) = _
  exact atI_nat' (by rw [List.getElem?_map, h]; rfl)
theorem ix_tup {R : Val → Prop} {xs : List Dt} {j : Nat} {i : Int} {v : Dt} (e : i = (j : Int)) (h : xs[j]? = some v) (q : R (.d v)) : ∃ v, ixVl mh (.d (.tuple xs)) (.d (.int i)) = some v ∧ R v := by
  subst e
  refine ⟨.d v, ?_, q⟩
  show atI (xs.map Val.d) (j : Int) = _
  exact atI_nat' (by rw [List.getElem?_map, h]; rfl)
end
section
variable {mh : List Ob} {Q : Val → List Ob → Prop}
theorem tup_by {vs : List Val} {ds : List Dt} {R : List Dt → Prop} (h : asDs vs = some ds) (h2 : Nat.ble ds.length sizeLine = true) (q : R ds) : ∃ ds, asDs vs = some ds ∧ ds.length ≤ sizeLine ∧ R ds := ⟨ds, h, Nat.le_of_ble_eq_true h2, q⟩
theorem lst_by {vs : List Val} {A : Prop} (h : Nat.ble vs.length sizeLine = true) (q : A) : vs.length ≤ sizeLine ∧ A := ⟨Nat.le_of_ble_eq_true h, q⟩
theorem wr_nls {vs : List Val} {ds : List Dt} (h : asDs vs = some ds) (q : Q (.d (.list ds)) mh) : WR false (some (.nl vs)) mh Q := ⟨_, rfl, W.ofO ⟨_, by rw [h]; rfl, q⟩⟩
theorem wr_new {vs : List Val} (q : Q (.ref mh.length) (mh ++ [.lst vs])) : WR true (some (.nl vs)) mh Q := wr_cell rfl q
instance i_wr_new {vs : List Val} : Wp (WR true (some (.nl vs)) mh Q) (Q (.ref mh.length) (mh ++ [.lst vs])) := ⟨fun h => wr_new h⟩
theorem wr_newD {kvs : List (Key × Val)} (q : Q (.ref mh.length) (mh ++ [.dct kvs])) : WR true (some (.nd kvs)) mh Q := wr_dcell rfl q
instance i_wr_newD {kvs : List (Key × Val)} : Wp (WR true (some (.nd kvs)) mh Q) (Q (.ref mh.length) (mh ++ [.dct kvs])) := ⟨fun h => wr_newD h⟩
theorem wr_tup {ds : List Dt} (q : Q (.d (.tuple ds)) mh) : WR false (Bi.f .tuple mh [.d (.list ds)]) mh Q := by
  refine wr_v (x := .d (.tuple ds)) ?_ q
  show ((asDs (ds.map Val.d)).map fun ds => Rv.v (.d (.tuple ds))) = _
  rw [asDs_map]
  rfl
instance i_wr_tup {ds : List Dt} : Wp (WR false (Bi.f .tuple mh [.d (.list ds)]) mh Q) (Q (.d (.tuple ds)) mh) := ⟨fun h => wr_tup h⟩
theorem wr_tupT {ds : List Dt} (q : Q (.d (.tuple ds)) mh) : WR false (Bi.f .tuple mh [.d (.tuple ds)]) mh Q := by
  refine wr_v (x := .d (.tuple ds)) ?_ q
  show ((asDs (ds.map Val.d)).map fun ds => Rv.v (.d (.tuple ds))) = _
  rw [asDs_map]
  rfl
instance i_wr_tupT {ds : List Dt} : Wp (WR false (Bi.f .tuple mh [.d (.tuple ds)]) mh Q) (Q (.d (.tuple ds)) mh) := ⟨fun h => wr_tupT h⟩
end
end Pv

/-! P16: cells that are frozen; dicts by texts; words -/
namespace Pv
open PySem PySem.Spec PyProof.Rows L2

section
variable {gl : List (Str × Dt)} {c : Nat → List Val → M Val} {env : Sl} {mh : List Ob} {Q : Fl → List Ob → Prop} {b : Ss}
theorem ws_frz {i n : Nat} {v : Dt} (h0 : env.getD i none = some (.ref n)) (h : mFrz i env mh = some (.nx (env.set i (some (.d v))), mh.set n .dead)) (q : WS gl c b (env.set i (some (.d v))) (mh.set n .dead) Q) : WS gl c (.frz i b) env mh Q :=
  W.bind ⟨_, _, h, q⟩
theorem frz_lst {i n : Nat} {ds : List Dt} (h0 : env.getD i none = some (.ref n)) (h : mh[n]? = some (.lst (ds.map Val.d))) (q : WS gl c b (env.set i (some (.d (.list ds)))) (mh.set n .dead) Q) : WS gl c (.frz i b) env mh Q := by
  refine ws_frz h0 ?_ q
  unfold mFrz
  rw [h0]
  show (match mh[n]? with | some (.lst vs) => _ | some (.dct kvs) => _ | _ => none : Option (Fl × List Ob)) = _
  rw [h]
  show (asDs (ds.map Val.d)).map _ = _
  rw [asDs_map]
  rfl
theorem frz_dct {i n : Nat} {kvs : List (Key × Val)} {ds : List (Dt × Dt)} (h0 : env.getD i none = some (.ref n)) (h : mh[n]? = some (.dct kvs)) (hd : asDKs kvs = some ds) (q : WS gl c b (env.set i (some (.d (.dict ds)))) (mh.set n .dead) Q) : WS gl c (.frz i b) env mh Q := by
  refine ws_frz h0 ?_ q
  unfold mFrz
  rw [h0]
  show (match mh[n]? with | some (.lst vs) => _ | some (.dct kvs) => _ | _ => none : Option (Fl × List Ob)) = _
  rw [h]
  show (asDKs kvs).map _ = _
  rw [hd]
  rfl
end
/-! a cell at the end of the cells -/
section
variable {mh : List Ob} {o o2 : Ob}
theorem end_get : (mh ++ [o])[mh.length]? = some o := by simp
theorem end_set : (mh ++ [o]).set mh.length o2 = mh ++ [o2] := by simp [List.set_append]
theorem st_get {s : Ds} {tl : List Ob} : (St s :: (tl ++ [o]))[tl.length + 1]? = some o := by simp
theorem st_set {s : Ds} {tl : List Ob} : (St s :: (tl ++ [o])).set (tl.length + 1) o2 = St s :: (tl ++ [o2]) := by simp [List.set_append]
theorem app_end {vs : List Val} {n : Nat} {v : Val} {mh : List Ob} {Q : Val → List Ob → Prop} (h : mh[n]? = some (.lst vs)) (hl : vs.length < sizeLine) (q : Q (.d .none) (mh.set n (.lst (vs ++ [v])))) : W (Mt.f .append (.ref n) [v]) mh Q := by
  refine ⟨.d .none, _, ?_, q⟩
  show (match mh[n]? with | some (.lst vs) => if vs.length < sizeLine then some (Val.d .none, mh.set n (.lst (vs ++ [v]))) else none | _ => none) = _
  rw [h]
  exact if_pos hl
theorem rcv_lst {vs : List Val} {n : Nat} {mh : List Ob} (h : mh[n]? = some (.lst vs)) : rcv "list" (.ref n) mh = true := by
  unfold rcv
  simp only [h]
  rfl
theorem rcv_dct {vs : List (Key × Val)} {n : Nat} {mh : List Ob} (h : mh[n]? = some (.dct vs)) : rcv "dict" (.ref n) mh = true := by
  unfold rcv
  simp only [h]
  rfl
end
/-! ### dicts from texts to whole numbers, as the evaluator holds them -/
section
variable {α : Type} (em : α → Dt)
def mapK (m : List (Str × α)) : List (Key × Val) := m.map fun p => (Sum.inr p.1, .d (em p.2))
def datK (m : List (Str × α)) : Dt := .dict (m.map fun p => (.str p.1, em p.2))
def lkS {α : Type} (m : List (Str × α)) (x : Str) : Option α := (m.find? fun p => decide (p.1 = x)).map (·.2)
def putS {α : Type} (m : List (Str × α)) (x : Str) (v : α) : List (Str × α) := if (m.any fun p => decide (p.1 = x)) = true then m.map fun p => if p.1 = x then (p.1, v) else p else m ++ [(x, v)]
theorem find_mapK (m : List (Str × α)) (x : Str) : findK (mapK em m) (.inr x) = (lkS m x).map fun a => .d (em a) := by
  induction m with
  | nil => rfl
  | cons p m ih =>
    unfold findK lkS mapK at *
    rw [List.map_cons, List.find?_cons, List.find?_cons]
    by_cases h : p.1 = x
    · rw [show decide ((Sum.inr p.1 : Key) = Sum.inr x) = true by rw [h]; simp, show decide (p.1 = x) = true from decide_eq_true h]
      rfl
    · rw [show decide ((Sum.inr p.1 : Key) = Sum.inr x) = false by simp [h], show decide (p.1 = x) = false from decide_eq_false h]
      exact ih
theorem put_mapK (m : List (Str × α)) (x : Str) (v : α) : putV (mapK em m) (.inr x) (.d (em v)) = mapK em (putS m x v) := by
  unfold putV putS mapK
  rw [List.any_map]
  have e : ((fun kv : Key × Val => decide (kv.1 = Sum.inr x)) ∘ fun p : Str × α => (Sum.inr p.1, Val.d (em p.2))) = fun p => decide (p.1 = x) := by
    funext p
    show decide ((Sum.inr p.1 : Key) = Sum.inr x) = decide (p.1 = x)
    by_cases h : p.1 = x <;> simp [h]
  rw [e]
  split
  · rw [List.map_map, List.map_map]
    refine List.map_congr_left fun p _ => ?_
    show (if (Sum.inr p.1 : Key) = Sum.inr x then _ else _) = _
    by_cases h : p.1 = x
    · simp [h]
    · simp [h]
  · rw [List.map_append]
    rfl
theorem unkey_datK (m : List (Str × α)) : unkey (m.map fun p => (.str p.1, em p.2)) = some (mapK em m) := by
  induction m with
  | nil => rfl
  | cons p m ih =>
    show (match keyD (.str p.1), unkey (m.map fun p => (PyData.str p.1, em p.2)) with | some k, some xs => some ((k, Val.d (em p.2)) :: xs) | _, _ => none) = _
    rw [ih]
    rfl
theorem asDKs_mapK (m : List (Str × α)) : asDKs (mapK em m) = some (m.map fun p => (.str p.1, em p.2)) := by
  induction m with
  | nil => rfl
  | cons p m ih =>
    show (match asD (Val.d (em p.2)), asDKs (mapK em m) with | some x, some xs => some ((kD (Sum.inr p.1), x) :: xs) | _, _ => none) = _
    rw [ih]
    rfl
theorem keysS_mapK (m : List (Str × α)) : keysS (mapK em m) = some (m.map (·.1)) := by
  induction m with
  | nil => rfl
  | cons p m ih =>
    show (match keyS (Sum.inr p.1), keysS (mapK em m) with | some k, some xs => some (k :: xs) | _, _ => none) = _
    rw [ih]
    rfl
end
section
variable {α : Type} {m : List (Str × α)} {x y : Str} {v w : α}
theorem lkS_mem (h : lkS m x = some v) : (x, v) ∈ m := by
  unfold lkS at h
  obtain ⟨p, h1, rfl⟩ := Option.map_eq_some_iff.mp h
  have h2 := List.find?_some h1
  have h3 : p.1 = x := of_decide_eq_true h2
  subst h3
  exact List.mem_of_find?_eq_some h1
theorem lkS_of_mem (h : x ∈ m.map (·.1)) : ∃ v, lkS m x = some v := by
  obtain ⟨p, hp, rfl⟩ := List.mem_map.mp h
  unfold lkS
  cases e : m.find? fun q => decide (q.1 = p.1) with
  | some q => exact ⟨q.2, rfl⟩
  | none => exact absurd (show decide (p.1 = p.1) = true from decide_eq_true rfl) (List.find?_eq_none.mp e p hp)
theorem putS_mem {p : Str × α} (h : p ∈ putS m x v) : p ∈ m ∨ p = (x, v) := by
  unfold putS at h
  split at h
  · obtain ⟨q, hq, rfl⟩ := List.mem_map.mp h
    split
    · rename_i e; subst e; exact .inr rfl
    · exact .inl hq
  · rcases List.mem_append.mp h with h | h
    · exact .inl h
    · exact .inr (List.mem_singleton.mp h)
theorem putS_length : (putS m x v).length ≤ m.length + 1 := by
  unfold putS
  split
  · rw [List.length_map]; omega
  · rw [List.length_append]; exact Nat.le_refl _
theorem lkS_put_same : lkS (putS m x v) x = some v := by
  unfold putS
  split
  · rename_i h
    unfold lkS
    induction m with
    | nil => simp at h
    | cons p m ih =>
      rw [List.map_cons, List.find?_cons]
      by_cases hp : p.1 = x
      · rw [if_pos hp, show decide (p.1 = x) = true from decide_eq_true hp]
        rfl
      · rw [if_neg hp, show decide (p.1 = x) = false from decide_eq_false hp]
        refine ih ?_
        rw [List.any_cons, show decide (p.1 = x) = false from decide_eq_false hp, Bool.false_or] at h
        exact h
  · rename_i h
    unfold lkS
    rw [List.find?_append]
    have : m.find? (fun p => decide (p.1 = x)) = none := by
      rw [List.find?_eq_none]
      intro p hp z
      exact h (List.any_eq_true.mpr ⟨p, hp, z⟩)
    rw [this]
    simp
theorem lkS_put_ne (hxy : y ≠ x) : lkS (putS m x v) y = lkS m y := by
  unfold putS
  split
  · unfold lkS
    rename_i hh
    clear hh
    induction m with
    | nil => rfl
    | cons p m ih =>
      rw [List.map_cons, List.find?_cons, List.find?_cons]
      by_cases hp : p.1 = x
      · rw [if_pos hp]
        have : decide (p.1 = y) = false := decide_eq_false fun e => hxy (e.symm.trans hp)
        simp only [this]
        exact ih
      · rw [if_neg hp]
        cases decide (p.1 = y)
        · exact ih
        · rfl
  · unfold lkS
    rw [List.find?_append]
    cases m.find? fun p => decide (p.1 = y) with
    | some q => rfl
    | none => simp [Ne.symm hxy]
end
/-! ### words -/
def Wo (x : Str) : Prop := PySem.PyData.strOk x = true ∧ x.length ≤ 64
theorem wo_app {x y : Str} (hx : PySem.PyData.strOk x = true) (hy : PySem.PyData.strOk y = true) : PySem.PyData.strOk (x ++ y) = true := by
  unfold PySem.PyData.strOk at *
  show ((x.cps ++ y.cps).all _) = true
  rw [Array.all_append, hx, hy]
  rfl
theorem len_app (x y : Str) : (x ++ y).length = x.length + y.length := by
  show (x.cps ++ y.cps).size = _
  rw [Array.size_append]
  rfl
section
variable {mh : List Ob} {Q : Val → List Ob → Prop}
theorem wr_addS {x y : Str} (h : x.length + y.length ≤ sizeLine) (q : Q (.d (.str (x ++ y))) mh) : WR false (binF .Add mh (.d (.str x)) (.d (.str y))) mh Q :=
  wr_v (show (if x.length + y.length ≤ sizeLine then some (Rv.v (.d (.str (x ++ y)))) else none) = _ from if_pos h) q
theorem ixS_str {R : Val → Prop} {z : Str} {j : Nat} {i : Int} {n : Nat} (hl : z.length ≤ sizeLine) (e : i = (j : Int)) (h : z.cps.toList[j]? = some n) (q : R (.d (.str ⟨#[n]⟩))) : ∃ v, ixVl mh (.d (.str z)) (.d (.int i)) = some v ∧ R v := by
  subst e
  refine ⟨_, ?_, q⟩
  show (if z.length ≤ sizeLine then (atI z.cps.toList (j : Int)).map fun c => Val.d (.str ⟨#[c]⟩) else none) = _
  rw [if_pos hl, atI_nat' h]
  rfl
theorem wr_slS {z : Str} {lo hi : Option Int} (h : z.length ≤ sizeLine) (q : Q (.d (.str (cutS z lo hi))) mh) : WR false (slVl mh (.d (.str z)) lo hi) mh Q :=
  wr_v (show (if z.length ≤ sizeLine then some (Rv.v (.d (.str (cutS z lo hi)))) else none) = _ from if_pos h) q
theorem wr_slT {xs : List Dt} {lo hi : Option Int} (q : Q (.d (.tuple (cutG xs lo hi))) mh) : WR false (slVl mh (.d (.tuple xs)) lo hi) mh Q := wr_v rfl q
instance i_wr_slT {xs : List Dt} {lo hi : Option Int} : Wp (WR false (slVl mh (.d (.tuple xs)) lo hi) mh Q) (Q (.d (.tuple (cutG xs lo hi))) mh) := ⟨fun h => wr_slT h⟩
theorem wr_slL {xs : List Dt} {lo hi : Option Int} (q : Q (.d (.list (cutG xs lo hi))) mh) : WR false (slVl mh (.d (.list xs)) lo hi) mh Q := by
  refine wr_nl ?_ q
  show some (Rv.nl (cutG (xs.map Val.d) lo hi)) = _
  unfold cutG
  rw [List.map_take, List.map_drop, List.length_map]
instance i_wr_slL {xs : List Dt} {lo hi : Option Int} : Wp (WR false (slVl mh (.d (.list xs)) lo hi) mh Q) (Q (.d (.list (cutG xs lo hi))) mh) := ⟨fun h => wr_slL h⟩
theorem ix_dct' {α : Type} {em : α → Dt} {R : Val → Prop} {m : List (Str × α)} {x : Str} {a : α} (h : lkS m x = some a) (q : R (.d (em a))) : ∃ v, ixVl mh (.d (datK em m)) (.d (.str x)) = some v ∧ R v := by
  refine ⟨_, ?_, q⟩
  show (match unkey (m.map fun p => (PyData.str p.1, em p.2)) with | some kvs => (keyVl (.d (.str x))).bind (findK kvs) | none => _) = _
  rw [unkey_datK]
  show findK (mapK em m) (.inr x) = _
  rw [find_mapK, h]
  rfl
end
/-! ### data that may be compared -/
def Shp (n : Nat) (d : Dt) : Prop := d.canLay0 = true ∧ d.depth ≤ n
theorem shp_int {n : Nat} (i : Int) : Shp n (.int i) := ⟨by simp only [PyData.canLay0], by simp only [PyData.depth]; exact Nat.zero_le _⟩
theorem shp_str {n : Nat} {x : Str} (h : PyData.strOk x = true) : Shp n (.str x) := ⟨by simp only [PyData.canLay0]; exact h, by simp only [PyData.depth]; exact Nat.zero_le _⟩
theorem shp_all {n : Nat} : ∀ {xs : List Dt}, (∀ x ∈ xs, Shp n x) → PyData.canLayAll0 xs = true ∧ PyData.depthAll xs ≤ n
  | [], _ => ⟨by simp only [PyData.canLayAll0], by simp only [PyData.depthAll]; exact Nat.zero_le _⟩
  | x :: xs, h => by
    obtain ⟨h1, h2⟩ := shp_all fun y hy => h y (List.mem_cons_of_mem _ hy)
    obtain ⟨h3, h4⟩ := h x List.mem_cons_self
    exact ⟨by simp only [PyData.canLayAll0, h1, h3, Bool.and_self], by simp only [PyData.depthAll]; exact Nat.max_le.mpr ⟨h4, h2⟩⟩
theorem shp_tup {n : Nat} {xs : List Dt} (h : ∀ x ∈ xs, Shp n x) : Shp (n + 1) (.tuple xs) := by
  obtain ⟨h1, h2⟩ := shp_all h
  exact ⟨by simp only [PyData.canLay0]; exact h1, by simp only [PyData.depth]; exact Nat.succ_le_succ h2⟩
theorem shp_lst {n : Nat} {xs : List Dt} (h : ∀ x ∈ xs, Shp n x) : Shp (n + 1) (.list xs) := by
  obtain ⟨h1, h2⟩ := shp_all h
  exact ⟨by simp only [PyData.canLay0]; exact h1, by simp only [PyData.depth]; exact Nat.succ_le_succ h2⟩
theorem Shp.mono {n m : Nat} {d : Dt} (h : Shp n d) (hm : n ≤ m) : Shp m d := ⟨h.1, Nat.le_trans h.2 hm⟩
theorem Shp.shaped {n : Nat} {d : Dt} (h : Shp n d) (hn : n ≤ 64) : SeqAt.shaped d = true := by
  show (d.canLay0 && decide (d.depth ≤ 64)) = true
  rw [h.1, decide_eq_true (Nat.le_trans h.2 hn)]
  rfl
section
variable {mh : List Ob}
/-- two tuples -/
theorem eqD_tup {xs ys : List Dt} (h1 : SeqAt.shaped (.tuple xs) = true) (h2 : SeqAt.shaped (.tuple ys) = true) : eqD (.tuple xs) (.tuple ys) = some (PyData.eqv (.tuple xs) (.tuple ys)) := by
  show (if SeqAt.shaped (.tuple xs) = true ∧ SeqAt.shaped (.tuple ys) = true then some (PyData.eqv (.tuple xs) (.tuple ys)) else none) = _
  rw [if_pos ⟨h1, h2⟩]
theorem ne_tup {xs ys : List Dt} (h1 : SeqAt.shaped (.tuple xs) = true) (h2 : SeqAt.shaped (.tuple ys) = true) : cmpF .NotEq mh (.d (.tuple xs)) (.d (.tuple ys)) = some (.v (.d (.bool (!PyData.eqv (.tuple xs) (.tuple ys))))) := by
  show bR ((eqD (.tuple xs) (.tuple ys)).map (!·)) = _
  rw [eqD_tup h1 h2]
  rfl
/-- in a list that is a cell -/
theorem in_cell {n : Nat} {x : Dt} {ys : List Dt} (h : mh[n]? = some (.lst (ys.map Val.d))) (hx : SeqAt.shaped x = true) (hy : SeqAt.shaped (.list ys) = true) (hf : flatD x = false) : inV2 mh (.d x) (.ref n) = some (ys.any fun y => PyData.eqv y x) := by
  have h1 : dctOf mh (.ref n) = none := by unfold dctOf; simp only [h]
  have h2 : seqL mh (.ref n) = some (ys.map Val.d) := by show cellL mh n = _; unfold cellL; simp only [h]
  have h3 : seqA mh (.ref n) = some (ys.map Val.d) := h2
  unfold inV2
  rw [h1]
  simp only
  rw [h3]
  rw [show (some (ys.map Val.d)).bind asDs = some ys from asDs_map ys]
  show ((inSeq x ys).orElse fun _ => if (seqL mh (.ref n)).isNone then none else if SeqAt.shaped x = true ∧ SeqAt.shaped (.list ys) = true then some (ys.any fun y => PyData.eqv y x) else none) = _
  have h4 : inSeq x ys = none := by unfold inSeq; rw [hf]; simp
  rw [h4, h2]
  show (if SeqAt.shaped x = true ∧ SeqAt.shaped (.list ys) = true then some (ys.any fun y => PyData.eqv y x) else none) = _
  rw [if_pos ⟨hx, hy⟩]
theorem notin_cell {n : Nat} {x : Dt} {ys : List Dt} (h : mh[n]? = some (.lst (ys.map Val.d))) (hx : SeqAt.shaped x = true) (hy : SeqAt.shaped (.list ys) = true) (hf : flatD x = false) : cmpF .NotIn mh (.d x) (.ref n) = some (.v (.d (.bool (!ys.any fun y => PyData.eqv y x)))) := by
  show bR ((inV2 mh (.d x) (.ref n)).map (!·)) = _
  rw [in_cell h hx hy hf]
  rfl
theorem len_cell {n : Nat} {ys : List Val} {Q : Val → List Ob → Prop} (h : mh[n]? = some (.lst ys)) (q : Q (.d (.int ys.length)) mh) : WR false (Bi.f .len mh [.ref n]) mh Q := by
  refine wr_v (x := .d (.int ys.length)) ?_ q
  have h1 : dctOf mh (.ref n) = none := by unfold dctOf; simp only [h]
  have h2 : seqA mh (.ref n) = some ys := by show cellL mh n = _; unfold cellL; simp only [h]
  show (match dctOf mh (.ref n) with | some kvs => _ | none => match seqA mh (.ref n) with | some vs => some (Rv.v (.d (.int vs.length))) | none => _) = _
  rw [h1]
  simp only [h2]
theorem ix_cell {n j : Nat} {i : Int} {ys : List Val} {v : Val} {R : Val → Prop} (h : mh[n]? = some (.lst ys)) (e : i = (j : Int)) (hv : ys[j]? = some v) (q : R v) : ∃ v, ixVl mh (.ref n) (.d (.int i)) = some v ∧ R v := by
  subst e
  refine ⟨v, ?_, q⟩
  have h1 : dctOf mh (.ref n) = none := by unfold dctOf; simp only [h]
  have h2 : seqA mh (.ref n) = some ys := by show cellL mh n = _; unfold cellL; simp only [h]
  unfold ixVl
  rw [h1]
  simp only [h2]
  exact atI_nat' hv
theorem cutG_to {α : Type} (xs : List α) (k : Nat) : cutG xs none (some (k : Int)) = xs.take k := by
  unfold cutG
  rw [show HT.sIx xs.length 0 none = 0 from rfl, HT.sIx_nat, List.drop_zero, Nat.sub_zero]
  rcases Nat.le_total k xs.length with h | h
  · rw [Nat.min_eq_left h]
  · rw [Nat.min_eq_right h, List.take_length, List.take_of_length_le h]
theorem cutG_from {α : Type} (xs : List α) (k : Nat) : cutG xs (some (k : Int)) none = xs.drop k := by
  unfold cutG
  rw [show HT.sIx xs.length xs.length none = xs.length from rfl, HT.sIx_nat]
  rcases Nat.le_total k xs.length with h | h
  · rw [Nat.min_eq_left h, List.take_of_length_le (by rw [List.length_drop]; exact Nat.le_refl _)]
  · rw [Nat.min_eq_right h, List.drop_length, List.drop_of_length_le h, List.take_nil]
end
end Pv

/-! P17: rules for draws in comprehensions and loops; ends of defs; words -/
namespace Pv
open PySem PySem.Spec PyProof.Rows L2

theorem big_sz {n : Nat} (h : n < 100000) : n < sizeLine := by have : sizeLine = 16777216 := rfl; omega
theorem items_map {α : Type} (xs : List α) (g : α → Dt) : ((xs.map g).map Val.d) = xs.map fun x => Val.d (g x) := by rw [List.map_map]; rfl
theorem rg_items (n : Nat) : rgItems 0 n = (List.range n).map fun (i : Nat) => Val.d (.int (0 + (i : Int))) := rfl
theorem rg_at {n i : Nat} {v : Val} (h : (rgItems 0 n)[i]? = some v) : i < n ∧ v = .d (.int (i : Int)) := by
  rw [rg_items, List.getElem?_map] at h
  obtain ⟨j, hj, rfl⟩ := Option.map_eq_some_iff.mp h
  obtain ⟨h1, h2⟩ := List.getElem?_eq_some_iff.mp hj
  rw [List.length_range] at h1
  rw [List.getElem_range] at h2
  subst h2
  rw [Int.zero_add]
  exact ⟨h1, rfl⟩
theorem rg_len {n : Nat} : (rgItems 0 n).length = n := by rw [rg_items, List.length_map, List.length_range]
theorem rg_map (n : Nat) : rgItems 0 n = (List.range n).map fun (i : Nat) => Val.d (.int (i : Int)) := by
  rw [rg_items]
  refine List.map_congr_left fun i _ => ?_
  rw [Int.zero_add]
section
variable {R : Ix → Prop} {mh : List Ob}
theorem rg1 {n : Nat} {i : Int} (e : i = (n : Int)) (h : n ≤ 16777216) (q : R ⟨rgItems 0 n, []⟩) : ∃ ix, rng1 [.d (.int i)] = some ix ∧ R ix := by
  subst e
  refine ⟨_, ?_, q⟩
  show (if -(2 ^ 62) ≤ (n : Int) ∧ (n : Int) ≤ 16777216 then some (Ix.mk (rgItems 0 (n : Int).toNat) []) else none) = _
  rw [if_pos (by omega), Int.toNat_natCast]
theorem ix_L {α : Type} {xs : List α} {em : α → Dt} (q : R ⟨xs.map fun x => Val.d (em x), []⟩) : ∃ ix, ixOf mh (.d (.list (xs.map em))) = some ix ∧ R ix := ⟨⟨(xs.map em).map Val.d, []⟩, rfl, by rw [items_map]; exact q⟩
theorem ix_T {α : Type} {xs : List α} {em : α → Dt} (q : R ⟨xs.map fun x => Val.d (em x), []⟩) : ∃ ix, ixOf mh (.d (.tuple (xs.map em))) = some ix ∧ R ix := ⟨⟨(xs.map em).map Val.d, []⟩, rfl, by rw [items_map]; exact q⟩
end
theorem gnil {mh : List Ob} : gOk [] mh := fun _ h => nomatch h
section
variable {gl : List (Str × Dt)} {c : Nat → List Val → M Val} {env : Sl} {α : Type} {g : G} {t : T} {el : Sl → M Val} {s : Ds} {tl : List Ob}
/-- a comprehension whose turns draw -/
theorem wc_gen {items : List Val} {Q : List Val → List Ob → Prop} (emb : α → Dt) (R : Nat → α → Prop)
    (hs : ∀ i v s, items[i]? = some v → WG gl c g v env (St s :: tl) fun e1 m1 => WT gl c t e1 m1 fun b m2 => b = true ∧ W (el e1) m2 fun y m3 => ∃ a s', y = .d (emb a) ∧ m3 = St s' :: tl ∧ R i a)
    (hq : ∀ (as : List α) s', as.length = items.length → (∀ i a, as[i]? = some a → R i a) → Q ((as.map emb).map .d) (St s' :: tl)) : WC gl c g t el env ⟨items, []⟩ (St s :: tl) Q := by
  refine wc_inv (ix := ⟨items, []⟩) (fun i acc m => ∃ (as : List α) (s' : Ds), acc = (as.map emb).map .d ∧ m = St s' :: tl ∧ as.length = i ∧ ∀ j a, as[j]? = some a → R j a) (fun _ _ _ _ => gnil) ⟨[], s, rfl, rfl, rfl, fun j a h => by simp at h⟩ (fun i v acc m hv I => ?_) (fun acc m I => ?_)
  · obtain ⟨as, s', rfl, rfl, h1, h2⟩ := I
    refine W.mono (hs i v s' hv) fun e1 m1 h3 => W.mono h3 fun b m2 ⟨hb, h4⟩ => ⟨fun _ => h4.mono fun y m3 ⟨a, s2, e1, e2, h5⟩ => ?_, fun z => by rw [hb] at z; cases z⟩
    subst e1 e2
    refine ⟨as ++ [a], s2, by rw [List.map_append, List.map_append]; rfl, rfl, by rw [List.length_append, h1]; rfl, fun j b hj => ?_⟩
    by_cases hlt : j < as.length
    · rw [List.getElem?_append_left hlt] at hj
      exact h2 j b hj
    · rw [List.getElem?_append_right (by omega)] at hj
      have : j - as.length = 0 := by
        obtain ⟨hh, _⟩ := List.getElem?_eq_some_iff.mp hj
        simp at hh; omega
      rw [this] at hj
      have : j = i := by omega
      subst this
      cases hj
      exact h5
  · obtain ⟨as, s', rfl, rfl, h1, h2⟩ := I
    exact hq as s' h1 h2
theorem wc_genR {n : Nat} {Q : List Val → List Ob → Prop} (emb : α → Dt) (R : α → Prop)
    (hs : ∀ (i : Nat) s, i < n → WG gl c g (.d (.int (i : Int))) env (St s :: tl) fun e1 m1 => WT gl c t e1 m1 fun b m2 => b = true ∧ W (el e1) m2 fun y m3 => ∃ a s', y = .d (emb a) ∧ m3 = St s' :: tl ∧ R a)
    (hq : ∀ (as : List α) s', as.length = n → (∀ a ∈ as, R a) → Q ((as.map emb).map .d) (St s' :: tl)) : WC gl c g t el env ⟨rgItems 0 n, []⟩ (St s :: tl) Q :=
  wc_gen emb (fun _ => R) (fun i v s hv => by
    obtain ⟨h1, rfl⟩ := rg_at hv
    exact hs i s h1) fun as s' h1 h2 => hq as s' (h1.trans rg_len) fun a ha => by
      obtain ⟨j, hj, e⟩ := List.getElem_of_mem ha
      exact h2 j a (by rw [List.getElem?_eq_getElem hj, e])
theorem wc_genL {β : Type} {xs : List β} {em : β → Val} {Q : List Val → List Ob → Prop} (emb : α → Dt) (R : β → α → Prop)
    (hs : ∀ x s, x ∈ xs → WG gl c g (em x) env (St s :: tl) fun e1 m1 => WT gl c t e1 m1 fun b m2 => b = true ∧ W (el e1) m2 fun y m3 => ∃ a s', y = .d (emb a) ∧ m3 = St s' :: tl ∧ R x a)
    (hq : ∀ (as : List α) s', as.length = xs.length → (∀ (i : Nat) x a, xs[i]? = some x → as[i]? = some a → R x a) → Q ((as.map emb).map .d) (St s' :: tl)) : WC gl c g t el env ⟨xs.map em, []⟩ (St s :: tl) Q :=
  wc_gen emb (fun i a => ∀ x, xs[i]? = some x → R x a) (fun i v s hv => by
    rw [List.getElem?_map] at hv
    obtain ⟨x, h1, rfl⟩ := Option.map_eq_some_iff.mp hv
    refine W.mono (hs x s (List.mem_of_getElem? h1)) fun e1 m1 h3 => W.mono h3 fun b m2 ⟨hb, h4⟩ => ⟨hb, h4.mono fun y m3 ⟨a, s2, e1, e2, h5⟩ => ⟨a, s2, e1, e2, fun y hy => ?_⟩⟩
    rw [h1] at hy
    cases hy
    exact h5) fun as s' h1 h2 => hq as s' (h1.trans (List.length_map _)) fun i x a h3 h4 => h2 i a h4 x h3
/-- the same, some left out -/
theorem wc_genF {β : Type} {xs : List β} {em : β → Val} {Q : List Val → List Ob → Prop} (emb : α → Dt) (R : α → Prop)
    (hs : ∀ x s, x ∈ xs → WG gl c g (em x) env (St s :: tl) fun e1 m1 => WT gl c t e1 m1 fun b m2 => (b = true → W (el e1) m2 fun y m3 => ∃ a s', y = .d (emb a) ∧ m3 = St s' :: tl ∧ R a) ∧ (b = false → ∃ s', m2 = St s' :: tl))
    (hq : ∀ (as : List α) s', as.length ≤ xs.length → (∀ a ∈ as, R a) → Q ((as.map emb).map .d) (St s' :: tl)) : WC gl c g t el env ⟨xs.map em, []⟩ (St s :: tl) Q := by
  refine wc_inv (ix := ⟨xs.map em, []⟩) (fun i acc m => ∃ (as : List α) (s' : Ds), acc = (as.map emb).map .d ∧ m = St s' :: tl ∧ as.length ≤ i ∧ ∀ a ∈ as, R a) (fun _ _ _ _ => gnil) ⟨[], s, rfl, rfl, Nat.le_refl _, fun _ h => nomatch h⟩ (fun i v acc m hv I => ?_) (fun acc m I => ?_)
  · obtain ⟨as, s', rfl, rfl, h1, h2⟩ := I
    have hv : (xs.map em)[i]? = some v := hv
    rw [List.getElem?_map] at hv
    obtain ⟨x, h0, rfl⟩ := Option.map_eq_some_iff.mp hv
    refine W.mono (hs x s' (List.mem_of_getElem? h0)) fun e1 m1 h3 => W.mono h3 fun b m2 ⟨h4, h5⟩ => ⟨fun z => (h4 z).mono fun y m3 ⟨a, s2, e1, e2, h6⟩ => ?_, fun z => ?_⟩
    · subst e1 e2
      refine ⟨as ++ [a], s2, by rw [List.map_append, List.map_append]; rfl, rfl, by rw [List.length_append]; exact Nat.succ_le_succ h1, fun b hb => ?_⟩
      rcases List.mem_append.mp hb with hb | hb
      · exact h2 b hb
      · rw [List.mem_singleton.mp hb]; exact h6
    · obtain ⟨s2, e⟩ := h5 z
      exact ⟨as, s2, rfl, e, Nat.le_succ_of_le h1, h2⟩
  · obtain ⟨as, s', rfl, rfl, h1, h2⟩ := I
    have h1 : as.length ≤ (xs.map em).length := h1
    rw [List.length_map] at h1
    exact hq as s' h1 h2
end
section
variable {gl : List (Str × Dt)} {c : Nat → List Val → M Val} {env : Sl} {mh : List Ob} {Q : Fl → List Ob → Prop} {g : G} {x : Ss}
theorem wl_invR {n : Nat} (I : Nat → Sl → List Ob → Prop) (h0 : I 0 env mh)
    (hs : ∀ (i : Nat) e m, i < n → I i e m → WG gl c g (.d (.int (i : Int))) e m fun e1 m1 => WS gl c x e1 m1 fun f m2 => match f with
      | .nx e2 => I (i + 1) e2 m2 | .ct e2 => I (i + 1) e2 m2 | .bk e2 => Q (.nx e2) m2 | .rt r => Q (.rt r) m2)
    (hq : ∀ e m, I n e m → Q (.nx e) m) : WL gl c g x [] (rgItems 0 n) env mh Q :=
  wl_inv I (fun _ _ _ _ => gnil) h0 (fun i v e m hv hI => by
    obtain ⟨h1, rfl⟩ := rg_at hv
    exact hs i e m h1 hI) fun e m hI => hq e m (by rw [rg_len] at hI; exact hI)
theorem wl_invL {β : Type} {xs : List β} {em : β → Val} (I : Nat → Sl → List Ob → Prop) (h0 : I 0 env mh)
    (hs : ∀ (i : Nat) y e m, xs[i]? = some y → I i e m → WG gl c g (em y) e m fun e1 m1 => WS gl c x e1 m1 fun f m2 => match f with
      | .nx e2 => I (i + 1) e2 m2 | .ct e2 => I (i + 1) e2 m2 | .bk e2 => Q (.nx e2) m2 | .rt r => Q (.rt r) m2)
    (hq : ∀ e m, I xs.length e m → Q (.nx e) m) : WL gl c g x [] (xs.map em) env mh Q :=
  wl_inv I (fun _ _ _ _ => gnil) h0 (fun i v e m hv hI => by
    rw [List.getElem?_map] at hv
    obtain ⟨y, h1, rfl⟩ := Option.map_eq_some_iff.mp hv
    exact hs i y e m h1 hI) fun e m hI => hq e m (by rw [List.length_map] at hI; exact hI)
end
/-! ends of defs -/
section
variable {s' : Ds} {tl os os2 mh : List Ob} {x : Dt} {Q : Val → List Ob → Prop}
theorem fin0 (h : Q (.d x) (St s' :: tl)) : ∃ y t os, (Fl.rt (.d x) = .rt (.d y) ∨ ∃ e, Fl.rt (.d x) = .nx e ∧ y = .none) ∧ St s' :: tl = St t :: (tl ++ os) ∧ Q (.d y) (St t :: tl) := fin_rt (os := []) (by rw [List.append_nil]) h
instance i_fin0  : Wp (∃ y t os, (Fl.rt (.d x) = .rt (.d y) ∨ ∃ e, Fl.rt (.d x) = .nx e ∧ y = .none) ∧ St s' :: tl = St t :: (tl ++ os) ∧ Q (.d y) (St t :: tl)) (Q (.d x) (St s' :: tl)) := ⟨fun h => fin0 h⟩
theorem fin1 (h : Q (.d x) (St s' :: tl)) : ∃ y t os, (Fl.rt (.d x) = .rt (.d y) ∨ ∃ e, Fl.rt (.d x) = .nx e ∧ y = .none) ∧ St s' :: (tl ++ os2) = St t :: (tl ++ os) ∧ Q (.d y) (St t :: tl) := fin_rt rfl h
instance i_fin1  : Wp (∃ y t os, (Fl.rt (.d x) = .rt (.d y) ∨ ∃ e, Fl.rt (.d x) = .nx e ∧ y = .none) ∧ St s' :: (tl ++ os2) = St t :: (tl ++ os) ∧ Q (.d y) (St t :: tl)) (Q (.d x) (St s' :: tl)) := ⟨fun h => fin1 h⟩
theorem fin2 {a b : List Ob} (h : Q (.d x) (St s' :: tl)) : ∃ y t os, (Fl.rt (.d x) = .rt (.d y) ∨ ∃ e, Fl.rt (.d x) = .nx e ∧ y = .none) ∧ St s' :: (tl ++ a ++ b) = St t :: (tl ++ os) ∧ Q (.d y) (St t :: tl) := fin_rt (by rw [List.append_assoc]) h
instance i_fin2 {a b : List Ob} : Wp (∃ y t os, (Fl.rt (.d x) = .rt (.d y) ∨ ∃ e, Fl.rt (.d x) = .nx e ∧ y = .none) ∧ St s' :: (tl ++ a ++ b) = St t :: (tl ++ os) ∧ Q (.d y) (St t :: tl)) (Q (.d x) (St s' :: tl)) := ⟨fun h => fin2 h⟩
theorem fin3 {a b d : List Ob} (h : Q (.d x) (St s' :: tl)) : ∃ y t os, (Fl.rt (.d x) = .rt (.d y) ∨ ∃ e, Fl.rt (.d x) = .nx e ∧ y = .none) ∧ St s' :: (tl ++ a ++ b ++ d) = St t :: (tl ++ os) ∧ Q (.d y) (St t :: tl) := fin_rt (by rw [List.append_assoc, List.append_assoc]) h
instance i_fin3 {a b d : List Ob} : Wp (∃ y t os, (Fl.rt (.d x) = .rt (.d y) ∨ ∃ e, Fl.rt (.d x) = .nx e ∧ y = .none) ∧ St s' :: (tl ++ a ++ b ++ d) = St t :: (tl ++ os) ∧ Q (.d y) (St t :: tl)) (Q (.d x) (St s' :: tl)) := ⟨fun h => fin3 h⟩
theorem pin0 (h : Q (.d x) mh) : ∃ y os, (Fl.rt (.d x) = .rt (.d y) ∨ ∃ e, Fl.rt (.d x) = .nx e ∧ y = .none) ∧ mh = mh ++ os ∧ Q (.d y) mh := fin_pure h
instance i_pin0  : Wp (∃ y os, (Fl.rt (.d x) = .rt (.d y) ∨ ∃ e, Fl.rt (.d x) = .nx e ∧ y = .none) ∧ mh = mh ++ os ∧ Q (.d y) mh) (Q (.d x) mh) := ⟨fun h => pin0 h⟩
theorem pin1 (h : Q (.d x) mh) : ∃ y os, (Fl.rt (.d x) = .rt (.d y) ∨ ∃ e, Fl.rt (.d x) = .nx e ∧ y = .none) ∧ mh ++ os2 = mh ++ os ∧ Q (.d y) mh := fin_pure' h
instance i_pin1  : Wp (∃ y os, (Fl.rt (.d x) = .rt (.d y) ∨ ∃ e, Fl.rt (.d x) = .nx e ∧ y = .none) ∧ mh ++ os2 = mh ++ os ∧ Q (.d y) mh) (Q (.d x) mh) := ⟨fun h => pin1 h⟩
theorem pin2 {a b : List Ob} (h : Q (.d x) mh) : ∃ y os, (Fl.rt (.d x) = .rt (.d y) ∨ ∃ e, Fl.rt (.d x) = .nx e ∧ y = .none) ∧ mh ++ a ++ b = mh ++ os ∧ Q (.d y) mh := ⟨x, a ++ b, .inl rfl, by rw [List.append_assoc], h⟩
theorem wr_listL {Q : Val → List Ob → Prop} {ds : List Dt} (q : Q (.d (.list ds)) mh) : WR false (Bi.f .list mh [.d (.list ds)]) mh Q := wr_nl (ds := ds) rfl q
instance i_wr_listL {Q : Val → List Ob → Prop} {ds : List Dt} : Wp (WR false (Bi.f .list mh [.d (.list ds)]) mh Q) (Q (.d (.list ds)) mh) := ⟨fun h => wr_listL h⟩
theorem wr_listT {Q : Val → List Ob → Prop} {ds : List Dt} (q : Q (.d (.list ds)) mh) : WR false (Bi.f .list mh [.d (.tuple ds)]) mh Q := wr_nl (ds := ds) rfl q
instance i_wr_listT {Q : Val → List Ob → Prop} {ds : List Dt} : Wp (WR false (Bi.f .list mh [.d (.tuple ds)]) mh Q) (Q (.d (.list ds)) mh) := ⟨fun h => wr_listT h⟩
theorem yes_and {A : Prop} (h : A) : true = true ∧ A := ⟨rfl, h⟩
instance i_yes_and {A : Prop} : Wp (true = true ∧ A) (A) := ⟨fun h => yes_and h⟩
theorem isi {A : Prop} {R : Val → List Ob → Prop} {t c : String} (e : tyVal mh (.d x) = some t) (h : R (.d (.bool (isIn t c))) mh) : ∃ ty, tyVal mh (.d x) = some ty ∧ R (.d (.bool (isIn ty c))) mh := ⟨t, e, h⟩
end
section
variable {mh : List Ob} {R : Val → List Ob → Prop} {A B : Prop} {RB : Bool → List Ob → Prop}
theorem isi_int {P : String → Prop} {i : Int} (h : P "int") : ∃ ty, tyVal mh (.d (.int i)) = some ty ∧ P ty := ⟨"int", rfl, h⟩
instance i_isi_int {P : String → Prop} {i : Int} : Wp (∃ ty, tyVal mh (.d (.int i)) = some ty ∧ P ty) (P "int") := ⟨fun h => isi_int h⟩
theorem isi_str {P : String → Prop} {i : Str} (h : P "str") : ∃ ty, tyVal mh (.d (.str i)) = some ty ∧ P ty := ⟨"str", rfl, h⟩
instance i_isi_str {P : String → Prop} {i : Str} : Wp (∃ ty, tyVal mh (.d (.str i)) = some ty ∧ P ty) (P "str") := ⟨fun h => isi_str h⟩
theorem isi_bool {P : String → Prop} {i : Bool} (h : P "bool") : ∃ ty, tyVal mh (.d (.bool i)) = some ty ∧ P ty := ⟨"bool", rfl, h⟩
instance i_isi_bool {P : String → Prop} {i : Bool} : Wp (∃ ty, tyVal mh (.d (.bool i)) = some ty ∧ P ty) (P "bool") := ⟨fun h => isi_bool h⟩
theorem isi_tup {P : String → Prop} {xs : List Dt} (h : P "tuple") : ∃ ty, tyVal mh (.d (.tuple xs)) = some ty ∧ P ty := ⟨"tuple", rfl, h⟩
instance i_isi_tup {P : String → Prop} {xs : List Dt} : Wp (∃ ty, tyVal mh (.d (.tuple xs)) = some ty ∧ P ty) (P "tuple") := ⟨fun h => isi_tup h⟩
theorem isi_lst {P : String → Prop} {xs : List Dt} (h : P "list") : ∃ ty, tyVal mh (.d (.list xs)) = some ty ∧ P ty := ⟨"list", rfl, h⟩
instance i_isi_lst {P : String → Prop} {xs : List Dt} : Wp (∃ ty, tyVal mh (.d (.list xs)) = some ty ∧ P ty) (P "list") := ⟨fun h => isi_lst h⟩
variable {b : Bool} {PB : Bool → Prop}
theorem int_ex {P : Int → Prop} {i : Int} (h : P i) : ∃ j, Val.d (.int i) = .d (.int j) ∧ P j := ⟨i, rfl, h⟩
instance i_int_ex {P : Int → Prop} {i : Int} : Wp (∃ j, Val.d (.int i) = .d (.int j) ∧ P j) (P i) := ⟨fun h => int_ex h⟩
theorem and_t (e : b = true) (h : A) : ∃ p, Val.d (.bool b) = .d (.bool p) ∧ (p = true → A) ∧ (p = false → B) := ⟨true, by rw [e], fun _ => h, (nomatch ·)⟩
theorem and_f (e : b = false) (h : B) : ∃ p, Val.d (.bool b) = .d (.bool p) ∧ (p = true → A) ∧ (p = false → B) := ⟨false, by rw [e], (nomatch ·), fun _ => h⟩
theorem or_t (e : b = true) (h : B) : ∃ p, Val.d (.bool b) = .d (.bool p) ∧ (p = false → A) ∧ (p = true → B) := ⟨true, by rw [e], (nomatch ·), fun _ => h⟩
theorem or_f (e : b = false) (h : A) : ∃ p, Val.d (.bool b) = .d (.bool p) ∧ (p = false → A) ∧ (p = true → B) := ⟨false, by rw [e], fun _ => h, (nomatch ·)⟩
theorem tru_b (h : PB b) : ∃ r, truVl mh (.d (.bool b)) = some r ∧ PB r := ⟨b, rfl, h⟩
instance i_tru_b  : Wp (∃ r, truVl mh (.d (.bool b)) = some r ∧ PB r) (PB b) := ⟨fun h => tru_b h⟩
theorem nt_t (e : b = true) (h : PB true) : ∃ c, Val.d (.bool b) = .d (.bool c) ∧ PB c := ⟨true, by rw [e], h⟩
theorem nt_f (e : b = false) (h : PB false) : ∃ c, Val.d (.bool b) = .d (.bool c) ∧ PB c := ⟨false, by rw [e], h⟩
theorem pick_a (e : b = true) (h : A) : (b = true → A) ∧ (b = false → B) := ⟨fun _ => h, fun z => (by rw [e] at z; cases z)⟩
theorem pick_b (e : b = false) (h : B) : (b = true → A) ∧ (b = false → B) := ⟨fun z => (by rw [e] at z; cases z), fun _ => h⟩
theorem pick_c (e : b = true) (h : B) : (b = false → A) ∧ (b = true → B) := ⟨fun z => (by rw [e] at z; cases z), fun _ => h⟩
theorem pick_d (e : b = false) (h : A) : (b = false → A) ∧ (b = true → B) := ⟨fun _ => h, fun z => (by rw [e] at z; cases z)⟩
/-- a test that is known -/
theorem cmp_t {f : Option Rv} (e : f = some (.v (.d (.bool true)))) (h : PB true) : ∃ r, f = some (.v (.d (.bool r))) ∧ PB r := ⟨_, e, h⟩
theorem cmp_f {f : Option Rv} (e : f = some (.v (.d (.bool false)))) (h : PB false) : ∃ r, f = some (.v (.d (.bool r))) ∧ PB r := ⟨_, e, h⟩
end
section
variable {mh : List Ob} {P : Bool → Prop} {a b : Int}
theorem c_by {p : Prop} [Decidable p] {f : Option Rv} (e : f = some (.v (.d (.bool (decide p))))) (h1 : p → P true) (h2 : ¬ p → P false) : ∃ r, f = some (.v (.d (.bool r))) ∧ P r := by
  refine ⟨_, e, ?_⟩
  by_cases h : p
  · rw [decide_eq_true h]; exact h1 h
  · rw [decide_eq_false h]; exact h2 h
theorem c_byN {p : Prop} [Decidable p] {f : Option Rv} (e : f = some (.v (.d (.bool (!decide p))))) (h1 : ¬ p → P true) (h2 : p → P false) : ∃ r, f = some (.v (.d (.bool r))) ∧ P r := by
  refine ⟨_, e, ?_⟩
  by_cases h : p
  · rw [decide_eq_true h]; exact h2 h
  · rw [decide_eq_false h]; exact h1 h
theorem ci_gt (h1 : b < a → P true) (h2 : ¬ b < a → P false) : ∃ r, cmpF .Gt mh (.d (.int a)) (.d (.int b)) = some (.v (.d (.bool r))) ∧ P r := c_by rfl h1 h2
theorem ci_lt (h1 : a < b → P true) (h2 : ¬ a < b → P false) : ∃ r, cmpF .Lt mh (.d (.int a)) (.d (.int b)) = some (.v (.d (.bool r))) ∧ P r := c_by rfl h1 h2
theorem ci_le (h1 : a ≤ b → P true) (h2 : ¬ a ≤ b → P false) : ∃ r, cmpF .LtE mh (.d (.int a)) (.d (.int b)) = some (.v (.d (.bool r))) ∧ P r := c_by rfl h1 h2
theorem ci_ge (h1 : b ≤ a → P true) (h2 : ¬ b ≤ a → P false) : ∃ r, cmpF .GtE mh (.d (.int a)) (.d (.int b)) = some (.v (.d (.bool r))) ∧ P r := c_by rfl h1 h2
theorem ci_eq (h1 : a = b → P true) (h2 : ¬ a = b → P false) : ∃ r, cmpF .Eq mh (.d (.int a)) (.d (.int b)) = some (.v (.d (.bool r))) ∧ P r := c_by rfl h1 h2
theorem ci_ne (h1 : ¬ a = b → P true) (h2 : a = b → P false) : ∃ r, cmpF .NotEq mh (.d (.int a)) (.d (.int b)) = some (.v (.d (.bool r))) ∧ P r := c_byN rfl h1 h2
theorem cs_eq {x y : Str} (h1 : x = y → P true) (h2 : ¬ x = y → P false) : ∃ r, cmpF .Eq mh (.d (.str x)) (.d (.str y)) = some (.v (.d (.bool r))) ∧ P r := c_by rfl h1 h2
theorem cs_ne {x y : Str} (h1 : ¬ x = y → P true) (h2 : x = y → P false) : ∃ r, cmpF .NotEq mh (.d (.str x)) (.d (.str y)) = some (.v (.d (.bool r))) ∧ P r := c_byN rfl h1 h2
end
theorem wr_addT {mh : List Ob} {Q : Val → List Ob → Prop} {xs ys : List Dt} (h : xs.length + ys.length ≤ sizeLine) (q : Q (.d (.tuple (xs ++ ys))) mh) : WR false (binF .Add mh (.d (.tuple xs)) (.d (.tuple ys))) mh Q :=
  wr_v (show (if xs.length + ys.length ≤ sizeLine then some (Rv.v (.d (.tuple (xs ++ ys)))) else none) = _ from if_pos h) q
theorem wr_addL {mh : List Ob} {Q : Val → List Ob → Prop} {xs ys : List Dt} (h : xs.length + ys.length ≤ sizeLine) (q : Q (.d (.list (xs ++ ys))) mh) : WR false (binF .Add mh (.d (.list xs)) (.d (.list ys))) mh Q := by
  refine wr_nl (ds := xs ++ ys) ?_ q
  show (if (xs.map Val.d).length + (ys.map Val.d).length ≤ sizeLine then some (Rv.nl (xs.map Val.d ++ ys.map Val.d)) else none) = _
  rw [List.length_map, List.length_map, if_pos h, List.map_append]
/-- a list in a cell and a list, in a new cell -/
theorem wr_catC {mh : List Ob} {Q : Val → List Ob → Prop} {n : Nat} {xs ys : List Dt} (h : mh[n]? = some (.lst (xs.map Val.d))) (hl : xs.length + ys.length ≤ sizeLine) (q : Q (.ref mh.length) (mh ++ [.lst ((xs ++ ys).map Val.d)])) : WR true (binF .Add mh (.ref n) (.d (.list ys))) mh Q := by
  refine wr_cell (vs := (xs ++ ys).map Val.d) ?_ q
  have h1 : seqL mh (.ref n) = some (xs.map Val.d) := by show cellL mh n = _; unfold cellL; simp only [h]
  show (match seqL mh (.ref n), seqL mh (.d (.list ys)) with | some xs, some ys => if xs.length + ys.length ≤ sizeLine then some (Rv.nl (xs ++ ys)) else none | _, _ => none) = _
  rw [h1]
  show (if (xs.map Val.d).length + (ys.map Val.d).length ≤ sizeLine then some (Rv.nl (xs.map Val.d ++ ys.map Val.d)) else none) = _
  rw [List.length_map, List.length_map, if_pos hl, List.map_append]
/-! lists with a cell at the end, behind frozen ones -/
section
variable {o o2 : Ob} {s : Ds} {tl : List Ob} {a : List Ob}
theorem st_get2 : (St s :: (tl ++ a ++ [o]))[(tl ++ a).length + 1]? = some o := st_get
theorem cons_get {o : Ob} {tl os : List Ob} {m : Nat} {r : Ob} (h : tl[m]? = some r) : (o :: (tl ++ os))[m + 1]? = some r := by
  show (tl ++ os)[m]? = _
  rw [List.getElem?_append_left (List.getElem?_eq_some_iff.mp h).1]
  exact h
end
section
variable {o : Ob} {s : Ds} {tl os : List Ob} {j : Nat}
theorem os_get (h : os[j]? = some o) : (St s :: (tl ++ os))[tl.length + 1 + j]? = some o := by
  rw [show tl.length + 1 + j = (tl.length + j) + 1 by omega, List.getElem?_cons_succ, List.getElem?_append_right (by omega), show tl.length + j - tl.length = j by omega]
  exact h
theorem os_set : (St s :: (tl ++ os)).set (tl.length + 1 + j) o = St s :: (tl ++ os.set j o) := by
  rw [show tl.length + 1 + j = (tl.length + j) + 1 by omega, List.set_cons_succ, List.set_append_right _ _ (by omega), show tl.length + j - tl.length = j by omega]
theorem os_len : (St s :: (tl ++ os)).length = tl.length + 1 + os.length := by rw [List.length_cons, List.length_append]; omega
theorem os_new : St s :: (tl ++ os) ++ [o] = St s :: (tl ++ (os ++ [o])) := by rw [List.cons_append, List.append_assoc]
theorem os_end : (os ++ [o])[os.length]? = some o := by simp
end
theorem nodup_map {α β : Type} {f : α → β} : ∀ {xs : List α}, (∀ a ∈ xs, ∀ b ∈ xs, f a = f b → a = b) → xs.Nodup → (xs.map f).Nodup
  | [], _, _ => List.nodup_nil
  | x :: xs, h, n => by
    rw [List.nodup_cons] at n
    rw [List.map_cons, List.nodup_cons]
    refine ⟨fun hm => ?_, nodup_map (fun a ha b hb => h a (List.mem_cons_of_mem _ ha) b (List.mem_cons_of_mem _ hb)) n.2⟩
    obtain ⟨y, hy, e⟩ := List.mem_map.mp hm
    have := h y (List.mem_cons_of_mem _ hy) x (List.mem_cons_self) e
    subst this
    exact n.1 hy
abbrev strD (ws : List Str) : Dt := .list (ws.map .str)
abbrev strT (ws : List Str) : Dt := .tuple (ws.map .str)
/-! ### plain data: whole numbers, texts and tuples of such -/
mutual
def plD : Dt → Bool
  | .int _ => true
  | .str _ => true
  | .tuple xs => decide (xs.length < 1000000) && plAll xs
  | _ => false
def plAll : List Dt → Bool
  | [] => true
  | x :: xs => plD x && plAll xs
end
theorem plAll_iff : ∀ {xs : List Dt}, plAll xs = true ↔ ∀ x ∈ xs, plD x = true
  | [] => by simp [plAll]
  | x :: xs => by simp [plAll, plAll_iff (xs := xs)]
theorem pl_tup {xs : List Dt} (h : xs.length < 1000000) (h2 : ∀ x ∈ xs, plD x = true) : plD (.tuple xs) = true := by
  simp only [plD, Bool.and_eq_true, decide_eq_true_eq]
  exact ⟨h, plAll_iff.mpr h2⟩
theorem depth_tup {n : Nat} : ∀ {xs : List Dt}, (∀ x ∈ xs, x.depth ≤ n) → PyData.depthAll xs ≤ n
  | [], _ => by simp [PyData.depthAll]
  | x :: xs, h => by
    simp only [PyData.depthAll]
    exact Nat.max_le.mpr ⟨h x List.mem_cons_self, depth_tup fun y hy => h y (List.mem_cons_of_mem _ hy)⟩
theorem le_depthAll : ∀ {xs : List Dt} {x : Dt}, x ∈ xs → x.depth ≤ PyData.depthAll xs
  | y :: ys, x, h => by
    simp only [PyData.depthAll]
    rcases List.mem_cons.mp h with rfl | h
    · exact Nat.le_max_left _ _
    · exact Nat.le_trans (le_depthAll h) (Nat.le_max_right _ _)
/-- plain data of a depth -/
def Pl (n : Nat) (d : Dt) : Prop := plD d = true ∧ d.depth ≤ n
theorem pl_int {n : Nat} (i : Int) : Pl n (.int i) := ⟨rfl, by simp [PyData.depth]⟩
theorem pl_str {n : Nat} (x : Str) : Pl n (.str x) := ⟨rfl, by simp [PyData.depth]⟩
theorem pl_T {n : Nat} {xs : List Dt} (h : xs.length < 1000000) (h2 : ∀ x ∈ xs, Pl n x) : Pl (n + 1) (.tuple xs) :=
  ⟨pl_tup h fun x hx => (h2 x hx).1, by simp only [PyData.depth]; exact Nat.succ_le_succ (depth_tup fun x hx => (h2 x hx).2)⟩
theorem Pl.mono {n m : Nat} {d : Dt} (h : Pl n d) (hm : n ≤ m) : Pl m d := ⟨h.1, Nat.le_trans h.2 hm⟩
end Pv
local macro_rules | `(tactic| walk_at "pv one") => `(tactic| first
  | with_reducible refine Pv.Wp.prf ?_
  | ((with_reducible refine Pv.we_slot (v := ?v) ?h ?_); (case h => rfl))
  | ((with_reducible refine Pv.tup_by (ds := ?ds) ?h ?h2 ?_); (case h => rfl); (case h2 => rfl))
  | ((with_reducible refine Pv.lst_by ?h ?_); (case h => rfl))
  | ((with_reducible refine Pv.wr_nls (ds := ?ds) ?h ?_); (case h => rfl))
  | ((with_reducible refine Pv.and_t ?h ?_); (case h => decide))
  | ((with_reducible refine Pv.and_f ?h ?_); (case h => decide))
  | ((with_reducible refine Pv.or_t ?h ?_); (case h => decide))
  | ((with_reducible refine Pv.or_f ?h ?_); (case h => decide))
  | ((with_reducible refine Pv.nt_t ?h ?_); (case h => decide))
  | ((with_reducible refine Pv.nt_f ?h ?_); (case h => decide))
  | ((with_reducible refine Pv.pick_a ?h ?_); (case h => decide))
  | ((with_reducible refine Pv.pick_b ?h ?_); (case h => decide))
  | ((with_reducible refine Pv.pick_c ?h ?_); (case h => decide))
  | ((with_reducible refine Pv.pick_d ?h ?_); (case h => decide))
  | ((with_reducible refine Pv.we_glob (x := ?x) (d := ?d) ?h ?_); (case h => rfl))
  | ((with_reducible refine Pv.wo_some ?h ?_); (case h => rfl))
  | ((with_reducible refine Pv.wg_tp ?h ?_); (case h => rfl))
  | ((with_reducible refine Pv.wg_tl ?h ?_); (case h => rfl))
  | ((with_reducible refine Pv.ws_aug (p := ?p) ?h ?_); (case h => rfl))
  | ((with_reducible refine Pv.wr_mul ?h ?_); (case h => exact Pv.mul64 (by decide)))
  | ((with_reducible refine Pv.wr_div ?h ?h2 ?_); (case h => first | assumption | decide); (case h2 => exact Pv.div64 (by first | assumption | decide)))
  | ((with_reducible refine Pv.wr_mod ?h ?_); (case h => first | assumption | decide))
  | ((with_reducible refine Pv.wr_pow ?h ?_); (case h => decide))
  | ((with_reducible refine Pv.wr_v (x := ?x) ?h ?_); (case h => rfl)))
local macro_rules | `(tactic| walk_at "pv all") => `(tactic| repeat walk_at "pv one")
local macro_rules | `(tactic| walk_at "pv eq") => `(tactic| ((refine ⟨?w, ?h, ?_⟩); (case h => rfl)))

/-! P18: what is equal, what is in: plain data -/
namespace Pv
open PySem PySem.Spec PyProof.Rows L2
mutual
theorem eqv_pl : ∀ (x y : Dt), plD x = true → plD y = true → (PyData.eqv x y = true ↔ x = y)
  | .int i, .int j, _, _ => by simp [PyData.eqv]
  | .str i, .str j, _, _ => by simp [PyData.eqv]
  | .tuple xs, .tuple ys, hx, hy => by
    simp only [plD, Bool.and_eq_true, decide_eq_true_eq] at hx hy
    simp only [PyData.eqv, PyData.tuple.injEq]
    exact eqvAll_pl xs ys hx.2 hy.2
  | .int i, .str j, _, _ => by simp [PyData.eqv]
  | .int i, .tuple j, _, _ => by simp [PyData.eqv]
  | .str i, .int j, _, _ => by simp [PyData.eqv]
  | .str i, .tuple j, _, _ => by simp [PyData.eqv]
  | .tuple i, .int j, _, _ => by simp [PyData.eqv]
  | .tuple i, .str j, _, _ => by simp [PyData.eqv]
  | .none, _, h, _ => by simp [plD] at h
  | .bool _, _, h, _ => by simp [plD] at h
  | .list _, _, h, _ => by simp [plD] at h
  | .dict _, _, h, _ => by simp [plD] at h
  | _, .none, _, h => by simp [plD] at h
  | _, .bool _, _, h => by simp [plD] at h
  | _, .list _, _, h => by simp [plD] at h
  | _, .dict _, _, h => by simp [plD] at h
theorem eqvAll_pl : ∀ (xs ys : List Dt), plAll xs = true → plAll ys = true → (PyData.eqvAll xs ys = true ↔ xs = ys)
  | [], [], _, _ => by simp [PyData.eqvAll]
  | [], y :: ys, _, _ => by simp [PyData.eqvAll]
  | x :: xs, [], _, _ => by simp [PyData.eqvAll]
  | x :: xs, y :: ys, hx, hy => by
    simp only [plAll, Bool.and_eq_true] at hx hy
    simp only [PyData.eqvAll, Bool.and_eq_true, List.cons.injEq, eqv_pl x y hx.1 hy.1, eqvAll_pl xs ys hx.2 hy.2]
end
/-- plain data whose texts are texts, of a depth -/
def Ps (n : Nat) (d : Dt) : Prop := plD d = true ∧ d.canLay0 = true ∧ d.depth ≤ n
theorem ps_int {n : Nat} (i : Int) : Ps n (.int i) := ⟨rfl, (shp_int (n := n) i).1, (shp_int i).2⟩
theorem ps_str {n : Nat} {x : Str} (h : PyData.strOk x = true) : Ps n (.str x) := ⟨rfl, (shp_str (n := n) h).1, (shp_str h).2⟩
theorem ps_T {n : Nat} {xs : List Dt} (h : xs.length < 1000000) (h2 : ∀ x ∈ xs, Ps n x) : Ps (n + 1) (.tuple xs) :=
  ⟨pl_tup h fun x hx => (h2 x hx).1, (shp_tup (n := n) fun x hx => ⟨(h2 x hx).2.1, (h2 x hx).2.2⟩).1, (shp_tup fun x hx => ⟨(h2 x hx).2.1, (h2 x hx).2.2⟩).2⟩
theorem ps_ints {n : Nat} {xs : List Int} (h : xs.length < 1000000) : Ps (n + 1) (.tuple (xs.map .int)) := ps_T (by rw [List.length_map]; exact h) fun x hx => by
  obtain ⟨i, _, rfl⟩ := List.mem_map.mp hx
  exact ps_int i
theorem Ps.mono {n m : Nat} {d : Dt} (h : Ps n d) (hm : n ≤ m) : Ps m d := ⟨h.1, h.2.1, Nat.le_trans h.2.2 hm⟩
theorem Ps.pl {n : Nat} {d : Dt} (h : Ps n d) : Pl n d := ⟨h.1, h.2.2⟩
theorem Ps.shp {n : Nat} {d : Dt} (h : Ps n d) : Shp n d := ⟨h.2.1, h.2.2⟩
theorem Ps.shaped {n : Nat} {d : Dt} (h : Ps n d) (hn : n ≤ 64) : SeqAt.shaped d = true := h.shp.shaped hn
section
variable {mh : List Ob} {P : Bool → Prop} {x y : Dt} {n : Nat}
theorem eqD_pl (hx : Ps 60 x) (hy : Ps 60 y) : eqD x y = some (PyData.eqv x y) := by
  have sx := hx.shaped (by decide)
  have sy := hy.shaped (by decide)
  have e : (if SeqAt.shaped x = true ∧ SeqAt.shaped y = true then some (PyData.eqv x y) else none) = some (PyData.eqv x y) := if_pos ⟨sx, sy⟩
  cases x <;> cases y <;> first | exact e | (simp [eqD, PyData.eqv]; done) | (rename_i a b; by_cases h : a = b <;> simp [eqD, PyData.eqv, h]; done) | exact absurd hx.1 (by simp [plD]) | exact absurd hy.1 (by simp [plD])
theorem cd_eq (hx : Ps 60 x) (hy : Ps 60 y) (h1 : x = y → P true) (h2 : x ≠ y → P false) : ∃ r, cmpF .Eq mh (.d x) (.d y) = some (.v (.d (.bool r))) ∧ P r := by
  refine ⟨PyData.eqv x y, ?_, ?_⟩
  · show bR (eqD x y) = _
    rw [eqD_pl hx hy]; rfl
  · have := eqv_pl x y hx.1 hy.1
    cases e : PyData.eqv x y with
    | true => exact h1 (this.mp e)
    | false => exact h2 fun z => by rw [this.mpr z] at e; cases e
theorem cd_ne (hx : Ps 60 x) (hy : Ps 60 y) (h1 : x ≠ y → P true) (h2 : x = y → P false) : ∃ r, cmpF .NotEq mh (.d x) (.d y) = some (.v (.d (.bool r))) ∧ P r := by
  refine ⟨!PyData.eqv x y, ?_, ?_⟩
  · show bR ((eqD x y).map (!·)) = _
    rw [eqD_pl hx hy]; rfl
  · have := eqv_pl x y hx.1 hy.1
    cases e : PyData.eqv x y with
    | true => exact h2 (this.mp e)
    | false => exact h1 fun z => by rw [this.mpr z] at e; cases e
theorem any_eqv {ys : List Dt} (hx : plD x = true) (hy : ∀ y ∈ ys, plD y = true) : (ys.any fun y => PyData.eqv y x) = true ↔ x ∈ ys := by
  rw [List.any_eq_true]
  constructor
  · rintro ⟨y, h1, h2⟩
    rw [← (eqv_pl y x (hy y h1) hx).mp h2]; exact h1
  · intro h
    exact ⟨x, h, (eqv_pl x x hx hx).mpr rfl⟩
theorem inV2_T {ys : List Dt} (hx : plD x = true) (fx : flatD x = true) (fy : ∀ y ∈ ys, flatD y = true) : inV2 mh (.d x) (.d (.tuple ys)) = some (ys.any fun y => PyData.eqv y x) := by
  have h2 : ((seqA mh (.d (.tuple ys))).bind asDs) = some ys := asDs_map ys
  unfold inV2
  rw [show dctOf mh (.d (.tuple ys)) = none from rfl]
  simp only [h2]
  have : inSeq x ys = some (ys.any fun y => PyData.eqv y x) := if_pos ⟨fx, List.all_eq_true.mpr fy⟩
  simp only [this]
  rfl
theorem inV2_L {ys : List Dt} (hx : plD x = true) (sx : SeqAt.shaped x = true) (sy : SeqAt.shaped (.list ys) = true) : inV2 mh (.d x) (.d (.list ys)) = some (ys.any fun y => PyData.eqv y x) := by
  have h2 : ((seqA mh (.d (.list ys))).bind asDs) = some ys := asDs_map ys
  unfold inV2
  rw [show dctOf mh (.d (.list ys)) = none from rfl]
  simp only [h2]
  by_cases h : flatD x = true ∧ ys.all flatD = true
  · have e : inSeq x ys = some (ys.any fun y => PyData.eqv y x) := if_pos h
    rw [e]; rfl
  · have e : inSeq x ys = none := if_neg h
    rw [e]
    show (if (some (ys.map Val.d)).isNone = true then none else if SeqAt.shaped x = true ∧ SeqAt.shaped (.list ys) = true then some (ys.any fun y => PyData.eqv y x) else none) = _
    have e2 : (some (ys.map Val.d)).isNone = false := rfl
    rw [e2, if_neg (by decide), if_pos ⟨sx, sy⟩]
/-- in a tuple of texts and whole numbers -/
theorem cd_inT {ys : List Dt} (hx : plD x = true) (fx : flatD x = true) (hy : ∀ y ∈ ys, plD y = true ∧ flatD y = true) (h1 : x ∈ ys → P true) (h2 : x ∉ ys → P false) : ∃ r, cmpF .In mh (.d x) (.d (.tuple ys)) = some (.v (.d (.bool r))) ∧ P r := by
  refine ⟨ys.any fun y => PyData.eqv y x, ?_, ?_⟩
  · show bR (inV2 mh (.d x) (.d (.tuple ys))) = _
    rw [inV2_T hx fx fun y h => (hy y h).2]; rfl
  · have := any_eqv (x := x) hx fun y h => (hy y h).1
    cases e : (ys.any fun y => PyData.eqv y x) with
    | true => exact h1 (this.mp e)
    | false => exact h2 fun z => by rw [this.mpr z] at e; cases e
theorem cd_ninT {ys : List Dt} (hx : plD x = true) (fx : flatD x = true) (hy : ∀ y ∈ ys, plD y = true ∧ flatD y = true) (h1 : x ∉ ys → P true) (h2 : x ∈ ys → P false) : ∃ r, cmpF .NotIn mh (.d x) (.d (.tuple ys)) = some (.v (.d (.bool r))) ∧ P r := by
  refine ⟨!ys.any fun y => PyData.eqv y x, ?_, ?_⟩
  · show bR ((inV2 mh (.d x) (.d (.tuple ys))).map (!·)) = _
    rw [inV2_T hx fx fun y h => (hy y h).2]; rfl
  · have := any_eqv (x := x) hx fun y h => (hy y h).1
    cases e : (ys.any fun y => PyData.eqv y x) with
    | true => exact h2 (this.mp e)
    | false => exact h1 fun z => by rw [this.mpr z] at e; cases e
theorem shp_L {ys : List Dt} (h : ∀ y ∈ ys, Ps n y) : Shp (n + 1) (.list ys) := shp_lst fun y hy => (h y hy).shp
theorem cd_inL {ys : List Dt} (hx : Ps 60 x) (hy : ∀ y ∈ ys, Ps 60 y) (h1 : x ∈ ys → P true) (h2 : x ∉ ys → P false) : ∃ r, cmpF .In mh (.d x) (.d (.list ys)) = some (.v (.d (.bool r))) ∧ P r := by
  refine ⟨ys.any fun y => PyData.eqv y x, ?_, ?_⟩
  · show bR (inV2 mh (.d x) (.d (.list ys))) = _
    rw [inV2_L hx.1 (hx.shaped (by decide)) ((shp_L hy).shaped (by decide))]; rfl
  · have := any_eqv (x := x) hx.1 fun y h => (hy y h).1
    cases e : (ys.any fun y => PyData.eqv y x) with
    | true => exact h1 (this.mp e)
    | false => exact h2 fun z => by rw [this.mpr z] at e; cases e
theorem cd_ninL {ys : List Dt} (hx : Ps 60 x) (hy : ∀ y ∈ ys, Ps 60 y) (h1 : x ∉ ys → P true) (h2 : x ∈ ys → P false) : ∃ r, cmpF .NotIn mh (.d x) (.d (.list ys)) = some (.v (.d (.bool r))) ∧ P r := by
  refine ⟨!ys.any fun y => PyData.eqv y x, ?_, ?_⟩
  · show bR ((inV2 mh (.d x) (.d (.list ys))).map (!·)) = _
    rw [inV2_L hx.1 (hx.shaped (by decide)) ((shp_L hy).shaped (by decide))]; rfl
  · have := any_eqv (x := x) hx.1 fun y h => (hy y h).1
    cases e : (ys.any fun y => PyData.eqv y x) with
    | true => exact h2 (this.mp e)
    | false => exact h1 fun z => by rw [this.mpr z] at e; cases e
end
theorem wr_of {mh : List Ob} {Q : Val → List Ob → Prop} {f : Option Rv} (h : ∃ r, f = some (.v (.d (.bool r))) ∧ Q (.d (.bool r)) mh) : WR false f mh Q := by
  obtain ⟨r, e, q⟩ := h
  exact wr_v e q
theorem ints_inj {xs ys : List Int} : (PyData.tuple (xs.map .int) = .tuple (ys.map .int)) ↔ xs = ys := by
  constructor
  · intro h
    have h := PyData.tuple.inj h
    exact (List.map_inj_right (f := PyData.int) fun _ _ e => PyData.int.inj e).mp h
  · rintro rfl; rfl
/-! all, any over a list of truths -/
section
variable {mh : List Ob} {Q : Val → List Ob → Prop}
theorem asBl_map (bs : List Bool) : (seqL mh (.d (.list (bs.map .bool)))).bind (allOf asBl) = some bs := by
  have := allOf_map (f := asBl) (g := fun b => Val.d (.bool b)) (fun _ => rfl) bs
  show allOf asBl ((bs.map PyData.bool).map Val.d) = _
  rw [List.map_map]
  exact this
theorem wr_all {bs : List Bool} (q : Q (.d (.bool (bs.all id))) mh) : WR false (Bi.f .all mh [.d (.list (bs.map .bool))]) mh Q := by
  refine wr_v (x := .d (.bool (bs.all id))) ?_ q
  show allVl mh [.d (.list (bs.map .bool))] = _
  unfold allVl
  simp only [asBl_map]
theorem wr_any {bs : List Bool} (q : Q (.d (.bool (bs.any id))) mh) : WR false (Bi.f .any mh [.d (.list (bs.map .bool))]) mh Q := by
  refine wr_v (x := .d (.bool (bs.any id))) ?_ q
  show anyVl mh [.d (.list (bs.map .bool))] = _
  unfold anyVl
  simp only [asBl_map]
/-- a comprehension of truths under all -/
theorem wr_allL {α : Type} {xs : List α} {f : α → Bool} {ds : List Dt} (e : ds = (xs.map f).map .bool) (q : Q (.d (.bool (xs.all f))) mh) : WR false (Bi.f .all mh [.d (.list ds)]) mh Q := by
  subst e
  refine wr_all ?_
  rw [List.all_map]
  exact q
theorem list_ix0 {α : Type} {xs : List α} {em : α → Dt} {a : α} {R : Val → Prop} (h : xs.head? = some a) (q : R (.d (em a))) : ∃ v, ixVl mh (.d (.list (xs.map em))) (.d (.int 0)) = some v ∧ R v := by
  refine ix_list (j := 0) rfl ?_ q
  rw [List.getElem?_map, ← List.head?_eq_getElem?, h]
  rfl
end
end Pv

/-! P19: linear forms in their plain shape -/
namespace Pv
open PySem PySem.Spec PyProof.Rows L2
abbrev Fm := Int × List (Str × Int)
abbrev pd (p : Str × Int) : Dt := .tuple [.str p.1, .int p.2]
abbrev fm (F : Fm) : Dt := .tuple [.int F.1, .tuple (F.2.map pd)]
/-- the sum of the numbers of a name -/
def cf : List (Str × Int) → Str → Int
  | [], _ => 0
  | p :: ps, x => (if p.1 = x then p.2 else 0) + cf ps x
section
variable {ps qs : List (Str × Int)} {x : Str}
theorem cf_append : ∀ {ps qs : List (Str × Int)} {x : Str}, cf (ps ++ qs) x = cf ps x + cf qs x
  | [], qs, x => by rw [List.nil_append]; show _ = 0 + _; omega
  | p :: ps, qs, x => by
    show _ + cf (ps ++ qs) x = (_ + cf ps x) + cf qs x
    rw [cf_append]; omega
theorem cf_none : ∀ {ps : List (Str × Int)} {x : Str}, x ∉ ps.map (·.1) → cf ps x = 0
  | [], _, _ => rfl
  | p :: ps, x, h => by
    rw [List.map_cons, List.mem_cons, not_or] at h
    show (if p.1 = x then p.2 else 0) + cf ps x = 0
    rw [if_neg fun e => h.1 e.symm, cf_none h.2]; rfl
theorem cf_times {k : Int} : ∀ {ps : List (Str × Int)} {x : Str}, cf (ps.map fun p => (p.1, k * p.2)) x = k * cf ps x
  | [], x => by show (0 : Int) = k * 0; rw [Int.mul_zero]
  | p :: ps, x => by
    show (if p.1 = x then k * p.2 else 0) + cf (ps.map fun p => (p.1, k * p.2)) x = k * ((if p.1 = x then p.2 else 0) + cf ps x)
    rw [cf_times, Int.mul_add]
    split
    · rfl
    · rw [Int.mul_zero]
end
/-! the table of sums -/
def accF (ps : List (Str × Int)) : List (Str × Int) := ps.foldl (fun m p => putS m p.1 ((lkS m p.1).getD 0 + p.2)) []
theorem accF_snoc (ps : List (Str × Int)) (p : Str × Int) : accF (ps ++ [p]) = putS (accF ps) p.1 ((lkS (accF ps) p.1).getD 0 + p.2) := by
  unfold accF
  rw [List.foldl_append]; rfl
theorem lkS_none {α : Type} {m : List (Str × α)} {x : Str} (h : x ∉ m.map (·.1)) : lkS m x = none := by
  cases e : lkS m x with
  | none => rfl
  | some v => exact absurd (List.mem_map.mpr ⟨_, lkS_mem e, rfl⟩) h
theorem putS_keys {α : Type} {m : List (Str × α)} {x y : Str} {v : α} : y ∈ (putS m x v).map (·.1) ↔ y = x ∨ y ∈ m.map (·.1) := by
  unfold putS
  split
  · rename_i h
    obtain ⟨q, hq, e⟩ := List.any_eq_true.mp h
    have e := of_decide_eq_true e
    rw [List.map_map]
    have : (m.map ((fun p : Str × α => p.1) ∘ fun p => if p.1 = x then (p.1, v) else p)) = m.map (·.1) := List.map_congr_left fun p _ => by
      show (if p.1 = x then (p.1, v) else p).1 = p.1
      split <;> rfl
    rw [this]
    constructor
    · exact .inr
    · rintro (rfl | h)
      · exact List.mem_map.mpr ⟨q, hq, e⟩
      · exact h
  · rw [List.map_append, List.mem_append]
    simp only [List.map_cons, List.map_nil, List.mem_singleton]
    exact or_comm
theorem putS_nd {α : Type} {m : List (Str × α)} {x : Str} {v : α} (h : (m.map (·.1)).Nodup) : ((putS m x v).map (·.1)).Nodup := by
  unfold putS
  split
  · have : ((m.map fun p : Str × α => if p.1 = x then (p.1, v) else p).map (·.1)) = m.map (·.1) := by
      rw [List.map_map]
      exact List.map_congr_left fun p _ => by
        show (if p.1 = x then (p.1, v) else p).1 = p.1
        split <;> rfl
    rw [this]; exact h
  · rename_i hn
    rw [List.map_append]
    refine List.nodup_append.mpr ⟨h, by simp, fun a ha b hb => ?_⟩
    have : b = x := by simpa using hb
    subst this
    rintro rfl
    obtain ⟨q, hq, e⟩ := List.mem_map.mp ha
    exact hn (List.any_eq_true.mpr ⟨q, hq, decide_eq_true e⟩)
theorem snoc_ind {α : Type} {P : List α → Prop} (h0 : P []) (hs : ∀ xs x, P xs → P (xs ++ [x])) (xs : List α) : P xs := by
  have : ∀ n, ∀ xs : List α, xs.length = n → P xs := by
    intro n
    induction n with
    | zero => intro xs h; rw [List.eq_nil_of_length_eq_zero h]; exact h0
    | succ n ih =>
      intro xs h
      have hne : xs ≠ [] := fun e => by rw [e] at h; cases h
      rw [← List.dropLast_concat_getLast hne]
      exact hs _ _ (ih _ (by rw [List.length_dropLast]; omega))
  exact this _ xs rfl
theorem acc_cf (ps : List (Str × Int)) : ∀ x, (lkS (accF ps) x).getD 0 = cf ps x := by
  refine snoc_ind (P := fun ps => ∀ x, (lkS (accF ps) x).getD 0 = cf ps x) (fun x => rfl) (fun ps p ih x => ?_) ps
  rw [accF_snoc, cf_append]
  by_cases h : x = p.1
  · subst h
    rw [lkS_put_same, ih]
    show cf ps p.1 + p.2 = cf ps p.1 + ((if p.1 = p.1 then p.2 else 0) + 0)
    rw [if_pos rfl]; omega
  · rw [lkS_put_ne h, ih]
    show cf ps x = cf ps x + ((if p.1 = x then p.2 else 0) + 0)
    rw [if_neg fun e => h e.symm]; omega
theorem acc_keys (ps : List (Str × Int)) : ∀ x, x ∈ (accF ps).map (·.1) ↔ x ∈ ps.map (·.1) := by
  refine snoc_ind (P := fun ps => ∀ x, x ∈ (accF ps).map (·.1) ↔ x ∈ ps.map (·.1)) (fun x => Iff.rfl) (fun ps p ih x => ?_) ps
  rw [accF_snoc, putS_keys, ih, List.map_append, List.mem_append]
  simp only [List.map_cons, List.map_nil, List.mem_singleton]
  exact or_comm
theorem acc_nd (ps : List (Str × Int)) : ((accF ps).map (·.1)).Nodup := by
  refine snoc_ind (P := fun ps => ((accF ps).map (·.1)).Nodup) List.nodup_nil (fun ps p ih => ?_) ps
  rw [accF_snoc]
  exact putS_nd ih
theorem acc_len (ps : List (Str × Int)) : (accF ps).length ≤ ps.length := by
  refine snoc_ind (P := fun ps => (accF ps).length ≤ ps.length) (Nat.le_refl _) (fun ps p ih => ?_) ps
  rw [accF_snoc, List.length_append]
  exact Nat.le_trans putS_length (Nat.succ_le_succ ih)
/-! the plain shape -/
def nfP (ps : List (Str × Int)) : List (Str × Int) := ((sortS ((accF ps).map (·.1))).filter fun x => !decide (cf ps x = 0)).map fun x => (x, cf ps x)
def nf (c : Int) (ps : List (Str × Int)) : Fm := (c, nfP ps)
def ltS (a b : Str) : Prop := leS a b = true ∧ a ≠ b
/-- strictly ascending names, no number 0 -/
structure Nrm (F : Fm) : Prop where
  asc : (F.2.map (·.1)).Pairwise ltS
  nz : ∀ p ∈ F.2, p.2 ≠ 0
theorem nfP_keys {ps : List (Str × Int)} {p : Str × Int} (h : p ∈ nfP ps) : p.1 ∈ ps.map (·.1) ∧ p.2 = cf ps p.1 ∧ p.2 ≠ 0 := by
  obtain ⟨x, hx, rfl⟩ := List.mem_map.mp h
  obtain ⟨h1, h2⟩ := List.mem_filter.mp hx
  exact ⟨(acc_keys ps x).mp ((sortS_perm _).mem_iff.mp h1), rfl, fun e => by rw [show cf ps x = 0 from e] at h2; simp at h2⟩
theorem nf_nrm (c : Int) (ps : List (Str × Int)) : Nrm (nf c ps) := by
  refine ⟨?_, fun p hp => (nfP_keys hp).2.2⟩
  show ((nfP ps).map (·.1)).Pairwise ltS
  have e : (nfP ps).map (·.1) = (sortS ((accF ps).map (·.1))).filter fun x => !decide (cf ps x = 0) := by
    unfold nfP
    rw [List.map_map]
    exact List.map_id'' (fun _ => rfl) _
  rw [e]
  refine List.Pairwise.sublist List.filter_sublist ?_
  have h1 := sortS_pairwise ((accF ps).map (·.1))
  have h2 : (sortS ((accF ps).map (·.1))).Nodup := (sortS_perm _).nodup_iff.mpr (acc_nd ps)
  exact List.Pairwise.and h1 h2
theorem cf_nodup : ∀ {ps : List (Str × Int)} {p : Str × Int}, (ps.map (·.1)).Nodup → p ∈ ps → cf ps p.1 = p.2
  | [], _, _, h => by cases h
  | q :: ps, p, nd, h => by
    rw [List.map_cons, List.nodup_cons] at nd
    show (if q.1 = p.1 then q.2 else 0) + cf ps p.1 = p.2
    rcases List.mem_cons.mp h with rfl | h
    · rw [if_pos rfl, cf_none nd.1]; omega
    · rw [if_neg (fun e : q.1 = p.1 => nd.1 (by rw [e]; exact List.mem_map.mpr ⟨p, h, rfl⟩)), cf_nodup nd.2 h]; omega
theorem Nrm.nd {F : Fm} (h : Nrm F) : (F.2.map (·.1)).Nodup := h.asc.imp fun h => h.2
theorem cf_nf (c : Int) (ps : List (Str × Int)) (x : Str) : cf (nf c ps).2 x = cf ps x := by
  by_cases h : x ∈ ((nf c ps).2).map (·.1)
  · obtain ⟨p, hp, rfl⟩ := List.mem_map.mp h
    rw [cf_nodup (nf_nrm c ps).nd hp, (nfP_keys hp).2.1]
  · rw [cf_none h]
    by_cases h2 : cf ps x = 0
    · exact h2.symm
    · refine absurd ?_ h
      have hk : x ∈ ps.map (·.1) := by
        by_cases z : x ∈ ps.map (·.1)
        · exact z
        · exact absurd (cf_none z) h2
      exact List.mem_map.mpr ⟨(x, cf ps x), List.mem_map.mpr ⟨x, List.mem_filter.mpr ⟨(sortS_perm _).mem_iff.mpr ((acc_keys ps x).mpr hk), by simp [h2]⟩, rfl⟩, rfl⟩
theorem nfP_len (ps : List (Str × Int)) : (nfP ps).length ≤ ps.length := by
  unfold nfP
  rw [List.length_map]
  refine Nat.le_trans (List.length_filter_le _ _) ?_
  rw [(sortS_perm _).length_eq, List.length_map]
  exact acc_len ps
theorem ltS_irr {a : Str} : ¬ ltS a a := fun h => h.2 rfl
theorem ltS_tri (a b : Str) : ltS a b ∨ a = b ∨ ltS b a := by
  by_cases h : a = b
  · exact .inr (.inl h)
  · have := leS_total a b
    rw [Bool.or_eq_true] at this
    rcases this with h1 | h1
    · exact .inl ⟨h1, h⟩
    · exact .inr (.inr ⟨h1, Ne.symm h⟩)
theorem ltS_trans {a b c : Str} (h : ltS a b) (h' : ltS b c) : ltS a c :=
  ⟨leS_trans _ _ _ h.1 h'.1, fun e => by subst e; exact h.2 (leS_antisymm h.1 h'.1)⟩
theorem asc_ext : ∀ {ps qs : List (Str × Int)}, (ps.map (·.1)).Pairwise ltS → (qs.map (·.1)).Pairwise ltS → (∀ p ∈ ps, p.2 ≠ 0) → (∀ p ∈ qs, p.2 ≠ 0) → (∀ x, cf ps x = cf qs x) → ps = qs
  | [], [], _, _, _, _, _ => rfl
  | [], q :: qs, _, h2, _, z2, e => by
    have h3 := cf_nodup (ps := q :: qs) (h2.imp fun h => h.2) List.mem_cons_self
    rw [← e] at h3
    exact absurd h3.symm (z2 q List.mem_cons_self)
  | p :: ps, [], h1, _, z1, _, e => by
    have h3 := cf_nodup (ps := p :: ps) (h1.imp fun h => h.2) List.mem_cons_self
    rw [e] at h3
    exact absurd h3.symm (z1 p List.mem_cons_self)
  | p :: ps, q :: qs, h1, h2, z1, z2, e => by
    rw [List.map_cons, List.pairwise_cons] at h1 h2
    have k1 : p.1 = q.1 := by
      rcases ltS_tri p.1 q.1 with h | h | h
      · have h3 : cf (q :: qs) p.1 = 0 := cf_none fun hm => by
          rw [List.map_cons, List.mem_cons] at hm
          rcases hm with hm | hm
          · exact h.2 hm
          · have := h2.1 _ hm
            exact ltS_irr (ltS_trans h this)
        have h4 := cf_nodup (ps := p :: ps) (p := p) (by rw [List.map_cons, List.nodup_cons]; exact ⟨fun hm => ltS_irr (h1.1 _ hm), h1.2.imp fun h => h.2⟩) List.mem_cons_self
        rw [e, h3] at h4
        exact absurd h4.symm (z1 p List.mem_cons_self)
      · exact h
      · have h3 : cf (p :: ps) q.1 = 0 := cf_none fun hm => by
          rw [List.map_cons, List.mem_cons] at hm
          rcases hm with hm | hm
          · exact h.2 hm
          · have := h1.1 _ hm
            exact ltS_irr (ltS_trans h this)
        have h4 := cf_nodup (ps := q :: qs) (p := q) (by rw [List.map_cons, List.nodup_cons]; exact ⟨fun hm => ltS_irr (h2.1 _ hm), h2.2.imp fun h => h.2⟩) List.mem_cons_self
        rw [← e, h3] at h4
        exact absurd h4.symm (z2 q List.mem_cons_self)
    have n1 : p.1 ∉ ps.map (·.1) := fun hm => ltS_irr (h1.1 _ hm)
    have n2 : q.1 ∉ qs.map (·.1) := fun hm => ltS_irr (h2.1 _ hm)
    have k2 : p.2 = q.2 := by
      have := e p.1
      have a1 : cf (p :: ps) p.1 = p.2 := by show (if p.1 = p.1 then p.2 else 0) + cf ps p.1 = _; rw [if_pos rfl, cf_none n1]; omega
      have a2 : cf (q :: qs) p.1 = q.2 := by show (if q.1 = p.1 then q.2 else 0) + cf qs p.1 = _; rw [if_pos k1.symm, k1, cf_none n2]; omega
      rw [a1, a2] at this
      exact this
    have k3 : p = q := Prod.ext k1 k2
    subst k3
    rw [asc_ext h1.2 h2.2 (fun r hr => z1 r (List.mem_cons_of_mem _ hr)) (fun r hr => z2 r (List.mem_cons_of_mem _ hr)) fun x => by
      have := e x
      have a1 : cf (p :: ps) x = (if p.1 = x then p.2 else 0) + cf ps x := rfl
      have a2 : cf (p :: qs) x = (if p.1 = x then p.2 else 0) + cf qs x := rfl
      omega]
theorem nrm_ext {F G : Fm} (h : Nrm F) (g : Nrm G) (e1 : F.1 = G.1) (e : ∀ x, cf F.2 x = cf G.2 x) : F = G :=
  Prod.ext e1 (asc_ext h.asc g.asc h.nz g.nz e)
theorem nf_id {F : Fm} (h : Nrm F) : nf F.1 F.2 = F := nrm_ext (nf_nrm _ _) h rfl fun x => cf_nf _ _ x
/-! bounds -/
theorem cf_bound {b : Nat} : ∀ {ps : List (Str × Int)} {x : Str}, (∀ p ∈ ps, p.2.natAbs ≤ b) → (cf ps x).natAbs ≤ ps.length * b
  | [], _, _ => by show (0 : Int).natAbs ≤ _; omega
  | p :: ps, x, h => by
    have h1 := cf_bound (x := x) fun q hq => h q (List.mem_cons_of_mem _ hq)
    have h2 := h p List.mem_cons_self
    show ((if p.1 = x then p.2 else 0) + cf ps x).natAbs ≤ (ps.length + 1) * b
    rw [Nat.succ_mul]
    refine Nat.le_trans (Int.natAbs_add_le _ _) ?_
    split
    · omega
    · simp; omega
end Pv

/-! P20: dicts by texts -/
namespace Pv
open PySem PySem.Spec PyProof.Rows L2
section
variable {α : Type} {em : α → Dt} {m : List (Str × α)} {n : Nat} {mh : List Ob} {x : Str} {v : α}
theorem dct_cell (h : mh[n]? = some (.dct (mapK em m))) : dctOf mh (.ref n) = some (mapK em m) := by unfold dctOf; simp only [h]
theorem dct_dat : dctOf mh (.d (datK em m)) = some (mapK em m) := unkey_datK em m
theorem put_c {Q : Unit → List Ob → Prop} (h : mh[n]? = some (.dct (mapK em m))) (hl : m.length < sizeLine) (q : Q () (mh.set n (.dct (mapK em (putS m x v))))) : W (setVl (.ref n) (.d (.str x)) (.d (em v))) mh Q := by
  refine ⟨(), _, ?_, q⟩
  unfold setVl
  simp only [h]
  show (if (mapK em m).length < sizeLine then some ((), mh.set n (.dct (putV (mapK em m) (.inr x) (.d (em v))))) else none) = _
  rw [if_pos (by unfold mapK; rw [List.length_map]; exact hl), put_mapK]
theorem get_t {o : Val} {Q : Val → List Ob → Prop} {y : Dt} (h : dctOf mh o = some (mapK em m)) (q : Q (.d (((lkS m x).map em).getD y)) mh) : W (Mt.f .get o [.d (.str x), .d y]) mh Q := by
  refine ⟨_, mh, ?_, q⟩
  show (match dctOf mh o, keyVl (.d (.str x)) with | some kvs, some k => some ((findK kvs k).getD (.d y), mh) | _, _ => none) = _
  rw [h]
  show some ((findK (mapK em m) (.inr x)).getD _, mh) = _
  rw [find_mapK]
  cases lkS m x <;> rfl
theorem get_n {o : Val} {Q : Val → List Ob → Prop} (h : dctOf mh o = some (mapK em m)) (q : Q (.d (((lkS m x).map em).getD .none)) mh) : W (Mt.f .get o [.d (.str x)]) mh Q := by
  refine ⟨_, mh, ?_, q⟩
  show (match dctOf mh o, keyVl (.d (.str x)) with | some kvs, some k => some ((findK kvs k).getD (.d .none), mh) | _, _ => none) = _
  rw [h]
  show some ((findK (mapK em m) (.inr x)).getD _, mh) = _
  rw [find_mapK]
  cases lkS m x <;> rfl
theorem ix_t {o : Val} {a : α} {R : Val → Prop} (h : dctOf mh o = some (mapK em m)) (hx : lkS m x = some a) (q : R (.d (em a))) : ∃ v, ixVl mh o (.d (.str x)) = some v ∧ R v := by
  refine ⟨_, ?_, q⟩
  unfold ixVl
  rw [h]
  show findK (mapK em m) (.inr x) = _
  rw [find_mapK, hx]
  rfl
/-- is a name in a dict -/
theorem in_t {o : Val} {P : Bool → Prop} (h : dctOf mh o = some (mapK em m)) (h1 : x ∈ m.map (·.1) → P true) (h2 : x ∉ m.map (·.1) → P false) : ∃ r, cmpF .In mh (.d (.str x)) o = some (.v (.d (.bool r))) ∧ P r := by
  refine ⟨(findK (mapK em m) (.inr x)).isSome, ?_, ?_⟩
  · show bR (inV2 mh (.d (.str x)) o) = _
    unfold inV2
    rw [h]
    rfl
  · rw [find_mapK]
    cases e : lkS m x with
    | some a => exact h1 (List.mem_map.mpr ⟨_, lkS_mem e, rfl⟩)
    | none => exact h2 fun hm => by obtain ⟨v, hv⟩ := lkS_of_mem hm; rw [e] at hv; cases hv
theorem rcv_dat {kvs : List (Dt × Dt)} : rcv "dict" (.d (.dict kvs)) mh = true := rfl
end
/-! the keys of a table that is made name by name -/
def tabS {α : Type} (ps : List (Str × α)) : List (Str × α) := ps.foldl (fun m p => putS m p.1 p.2) []
theorem tabS_snoc {α : Type} (ps : List (Str × α)) (p : Str × α) : tabS (ps ++ [p]) = putS (tabS ps) p.1 p.2 := by
  unfold tabS
  rw [List.foldl_append]; rfl
theorem tabS_len {α : Type} (ps : List (Str × α)) : (tabS ps).length ≤ ps.length := by
  refine snoc_ind (P := fun ps => (tabS ps).length ≤ ps.length) (Nat.le_refl _) (fun ps p ih => ?_) ps
  rw [tabS_snoc, List.length_append]
  exact Nat.le_trans putS_length (Nat.succ_le_succ ih)
theorem tabS_keys {α : Type} (ps : List (Str × α)) : ∀ x, x ∈ (tabS ps).map (·.1) ↔ x ∈ ps.map (·.1) := by
  refine snoc_ind (P := fun ps => ∀ x, x ∈ (tabS ps).map (·.1) ↔ x ∈ ps.map (·.1)) (fun x => Iff.rfl) (fun ps p ih x => ?_) ps
  rw [tabS_snoc, putS_keys, ih, List.map_append, List.mem_append]
  simp only [List.map_cons, List.map_nil, List.mem_singleton]
  exact or_comm
theorem tabS_mem {α : Type} (ps : List (Str × α)) : ∀ p, p ∈ tabS ps → p ∈ ps := by
  refine snoc_ind (P := fun ps => ∀ p, p ∈ tabS ps → p ∈ ps) (fun p h => h) (fun ps p ih q hq => ?_) ps
  rw [tabS_snoc] at hq
  rcases putS_mem hq with h | rfl
  · exact List.mem_append_left _ (ih q h)
  · exact List.mem_append_right _ List.mem_cons_self
theorem tabS_nd {α : Type} (ps : List (Str × α)) : ((tabS ps).map (·.1)).Nodup := by
  refine snoc_ind (P := fun ps => ((tabS ps).map (·.1)).Nodup) List.nodup_nil (fun ps p ih => ?_) ps
  rw [tabS_snoc]
  exact putS_nd ih
/-- distinct things among others are not more -/
theorem nodup_le {α : Type} : ∀ {xs ys : List α}, xs.Nodup → (∀ x ∈ xs, x ∈ ys) → xs.length ≤ ys.length
  | [], _, _, _ => Nat.zero_le _
  | x :: xs, ys, nd, h => by
    rw [List.nodup_cons] at nd
    obtain ⟨a, b, rfl⟩ := List.append_of_mem (h x List.mem_cons_self)
    have := nodup_le (xs := xs) (ys := a ++ b) nd.2 fun y hy => by
      have := h y (List.mem_cons_of_mem _ hy)
      rw [List.mem_append, List.mem_cons] at this
      rcases this with h1 | h1 | h1
      · exact List.mem_append_left _ h1
      · subst h1; exact absurd hy nd.1
      · exact List.mem_append_right _ h1
    rw [List.length_append] at this
    rw [List.length_append, List.length_cons, List.length_cons]
    omega
end Pv

/-! P21: how large data is, so that it may be shown -/
namespace Pv
open PySem PySem.Spec PyProof.Rows L2
mutual
def szB : Dt → Bool
  | .none => true
  | .bool _ => true
  | .int i => decide (i.natAbs < 2 ^ 200)
  | .str x => PyData.strOk x
  | .list xs => szBs xs
  | .tuple xs => szBs xs
  | .dict _ => false
def szBs : List Dt → Bool
  | [] => true
  | x :: xs => szB x && szBs xs
end
theorem toString_le {i : Int} (h : i.natAbs < 2 ^ 200) : (PyData.int i).shown.length ≤ 64 := by
  rw [PyData.shown_int]
  have hb : 2 ^ 200 < 10 ^ 61 := by decide
  by_cases h0 : 0 ≤ i
  · have := PyProof.Rows.toString_length_le h0 (k := 61) (by decide) (by omega)
    omega
  · have h1 := PyProof.Rows.toString_length_le (v := 0 - i) (by omega) (k := 61) (by decide) (by omega)
    rw [PyProof.Rows.toString_neg (by omega), PySem.ofString_length, String.length_append]
    rw [PySem.ofString_length] at h1
    have : ("-" : String).length = 1 := by decide +kernel
    omega
theorem strOk_16 {x : Str} (h : PyData.strOk x = true) : (x.cps.toList.all fun c => decide (c < 16 ^ 8)) = true := by
  unfold PyData.strOk at h
  rw [List.all_eq_true]
  rw [← Array.all_toList, List.all_eq_true] at h
  intro c hc
  have := h c hc
  simp only [Bool.and_eq_true, Bool.or_eq_true, decide_eq_true_eq] at this ⊢
  omega
mutual
theorem szB_show : ∀ {d : Dt}, szB d = true → d.showable = true ∧ d.hasDict = false ∧ PyData.leavesShort 64 d = true
  | .none, _ => ⟨by unfold PyData.showable; rfl, by unfold PyData.hasDict; rfl, by unfold PyData.leavesShort; rfl⟩
  | .bool b, _ => ⟨by unfold PyData.showable; rfl, by unfold PyData.hasDict; rfl, by unfold PyData.leavesShort; rfl⟩
  | .int i, h => by
    unfold szB at h
    have h := of_decide_eq_true h
    refine ⟨by
      unfold PyData.showable
      refine decide_eq_true ?_
      by_cases h0 : i.natAbs = 0
      · rw [h0]; decide
      · have := (Nat.log2_lt h0).mpr h
        omega, by unfold PyData.hasDict; rfl, by unfold PyData.leavesShort; exact decide_eq_true (toString_le h)⟩
  | .str x, h => by
    unfold szB at h
    exact ⟨by unfold PyData.showable; rfl, by unfold PyData.hasDict; rfl, by unfold PyData.leavesShort; exact strOk_16 h⟩
  | .list xs, h => by
    unfold szB at h
    obtain ⟨h1, h2, h3⟩ := szBs_show h
    exact ⟨by unfold PyData.showable; exact h1, by unfold PyData.hasDict; exact h2, by unfold PyData.leavesShort; exact h3⟩
  | .tuple xs, h => by
    unfold szB at h
    obtain ⟨h1, h2, h3⟩ := szBs_show h
    exact ⟨by unfold PyData.showable; exact h1, by unfold PyData.hasDict; exact h2, by unfold PyData.leavesShort; exact h3⟩
  | .dict _, h => by unfold szB at h; cases h
theorem szBs_show : ∀ {ds : List Dt}, szBs ds = true → PyData.showableAll ds = true ∧ PyData.hasDictAll ds = false ∧ PyData.leavesShortAll 64 ds = true
  | [], _ => ⟨by unfold PyData.showableAll; rfl, by unfold PyData.hasDictAll; rfl, by unfold PyData.leavesShortAll; rfl⟩
  | d :: ds, h => by
    unfold szBs at h
    rw [Bool.and_eq_true] at h
    obtain ⟨a1, a2, a3⟩ := szB_show h.1
    obtain ⟨b1, b2, b3⟩ := szBs_show h.2
    exact ⟨by unfold PyData.showableAll; rw [a1, b1]; rfl, by unfold PyData.hasDictAll; rw [a2, b2]; rfl, by unfold PyData.leavesShortAll; rw [a3, b3]; rfl⟩
end
/-- data of at most this bulk and depth -/
structure Sz (n m : Nat) (d : Dt) : Prop where
  b : szB d = true
  n : d.bulk ≤ n
  m : d.depth ≤ m
structure SzA (n m : Nat) (ds : List Dt) : Prop where
  b : szBs ds = true
  n : PyData.bulkAll ds ≤ n
  m : PyData.depthAll ds ≤ m
theorem Sz.up {n m n' m' : Nat} {d : Dt} (h : Sz n m d) (hn : n ≤ n') (hm : m ≤ m') : Sz n' m' d := ⟨h.b, Nat.le_trans h.n hn, Nat.le_trans h.m hm⟩
theorem SzA.up {n m n' m' : Nat} {d : List Dt} (h : SzA n m d) (hn : n ≤ n') (hm : m ≤ m') : SzA n' m' d := ⟨h.b, Nat.le_trans h.n hn, Nat.le_trans h.m hm⟩
theorem sz_int {m : Nat} {i : Int} (h : i.natAbs < 2 ^ 200) : Sz 0 m (.int i) := ⟨by unfold szB; exact decide_eq_true h, by unfold PyData.bulk; exact Nat.le_refl _, by unfold PyData.depth; exact Nat.zero_le _⟩
theorem sz_str {n m : Nat} {x : Str} (h : PyData.strOk x = true) (hl : x.length ≤ n) : Sz n m (.str x) := ⟨by unfold szB; exact h, by unfold PyData.bulk; exact hl, by unfold PyData.depth; exact Nat.zero_le _⟩
theorem sz_bool {m : Nat} {b : Bool} : Sz 0 m (.bool b) := ⟨by unfold szB; rfl, by unfold PyData.bulk; exact Nat.le_refl _, by unfold PyData.depth; exact Nat.zero_le _⟩
theorem sz_none {m : Nat} : Sz 0 m .none := ⟨by unfold szB; rfl, by unfold PyData.bulk; exact Nat.le_refl _, by unfold PyData.depth; exact Nat.zero_le _⟩
theorem sz_nil {m : Nat} : SzA 0 m [] := ⟨by unfold szBs; rfl, by unfold PyData.bulkAll; exact Nat.le_refl _, by unfold PyData.depthAll; exact Nat.zero_le _⟩
theorem sz_cons {n N m : Nat} {d : Dt} {ds : List Dt} (h : Sz n m d) (h2 : SzA N m ds) : SzA (n + 1 + N) m (d :: ds) :=
  ⟨by unfold szBs; rw [h.b, h2.b]; rfl, by unfold PyData.bulkAll; have := h.n; have := h2.n; omega, by unfold PyData.depthAll; exact Nat.max_le.mpr ⟨h.m, h2.m⟩⟩
theorem sz_tup {N m : Nat} {ds : List Dt} (h : SzA N m ds) : Sz N (m + 1) (.tuple ds) :=
  ⟨by unfold szB; exact h.b, by unfold PyData.bulk; exact h.n, by unfold PyData.depth; exact Nat.succ_le_succ h.m⟩
theorem sz_lst {N m : Nat} {ds : List Dt} (h : SzA N m ds) : Sz N (m + 1) (.list ds) :=
  ⟨by unfold szB; exact h.b, by unfold PyData.bulk; exact h.n, by unfold PyData.depth; exact Nat.succ_le_succ h.m⟩
theorem sz_all {n m : Nat} : ∀ {ds : List Dt}, (∀ d ∈ ds, Sz n m d) → SzA (ds.length * (n + 1)) m ds
  | [], _ => by rw [List.length_nil, Nat.zero_mul]; exact sz_nil
  | d :: ds, h => by
    have := sz_cons (h d List.mem_cons_self) (sz_all fun x hx => h x (List.mem_cons_of_mem _ hx))
    refine this.up ?_ (Nat.le_refl _)
    rw [List.length_cons, Nat.succ_mul]; omega
theorem sz_map {α : Type} {f : α → Dt} {xs : List α} {n m L : Nat} (hl : xs.length ≤ L) (h : ∀ x ∈ xs, Sz n m (f x)) : SzA (L * (n + 1)) m (xs.map f) := by
  refine (sz_all (n := n) (ds := xs.map f) fun d hd => ?_).up ?_ (Nat.le_refl _)
  · obtain ⟨x, hx, rfl⟩ := List.mem_map.mp hd
    exact h x hx
  · rw [List.length_map]; exact Nat.mul_le_mul_right _ hl
theorem rep_ok {n m : Nat} {d : Dt} (h : Sz n m d) (hs : isSq d = true) (hn : n ≤ 250000) (hm : m ≤ 60) : repOk d = true := by
  obtain ⟨h1, h2, h3⟩ := szB_show h.b
  have h4 := PyData.shown_le_bulk 64 (by decide) d h3
  have h5 : d.shown.length ≤ sizeLine := by
    have e : sizeLine = 16777216 := rfl
    have := h.n
    omega
  have h6 : d.depth ≤ 60 := Nat.le_trans h.m hm
  unfold repOk
  rw [hs, h1, h2, decide_eq_true h5, decide_eq_true h6]
  rfl
theorem wr_repr {mh : List Ob} {Q : Val → List Ob → Prop} {d : Dt} {n m : Nat} (h : Sz n m d) (hs : isSq d = true) (hn : n ≤ 250000) (hm : m ≤ 60) (q : Q (.d (.str d.shown)) mh) : WR false (Bi.f .repr mh [.d d]) mh Q := by
  refine wr_v ?_ q
  show (if repOk d = true then some (Rv.v (.d (.str d.shown))) else none) = _
  rw [if_pos (rep_ok h hs hn hm)]
/-! names -/
/-- a name that may be shown, of at most ten signs -/
def SN (n : Nat) (x : Str) : Prop := PyData.strOk x = true ∧ x.length ≤ n
abbrev SM (x : Str) : Prop := SN 10 x
theorem SN.up {n m : Nat} {x : Str} (h : SN n x) (hn : n ≤ m) : SN m x := ⟨h.1, Nat.le_trans h.2 hn⟩
theorem SN.app {n m : Nat} {x y : Str} (h : SN n x) (h2 : SN m y) : SN (n + m) (x ++ y) := ⟨wo_app h.1 h2.1, by rw [len_app]; have := h.2; have := h2.2; omega⟩
theorem sz_nm {m : Nat} {x : Str} (h : SM x) : Sz 10 m (.str x) := sz_str h.1 h.2
end Pv

/-! a global constant that is a tuple -/
namespace Pv
open PySem PySem.Spec PyProof.Rows L2
theorem den_t {K : PySem.W.Frag} {a : Addr} {its : Array Value} {n : Nat} {sl : Array (Option Value)} {xs : List V} {ds : List Dt} (h : K.lookup a = some ⟨.type "tuple", none, .seq its n, sl⟩) (h1 : its.size ≤ sizeLine) (hv : L2.Vals xs its.toList) (hl : ds.length ≤ sizeLine) (hd : ∀ F, DenAll K F xs ds) : ∀ F, Den K F (.ref a) (.tuple ds) :=
  fun F => .tup (.inr ⟨_, its, n, h, rfl, rfl, h1, hv⟩) hl (hd F) (fun _ => .inr ⟨_, h, rfl, rfl⟩)
theorem all_nil {K : PySem.W.Frag} : ∀ F, DenAll K F [] [] := fun _ => .nil
theorem all_cons {K : PySem.W.Frag} {v : V} {vs : List V} {d : Dt} {ds : List Dt} (h1 : ∀ F, Den K F v d) (h2 : ∀ F, DenAll K F vs ds) : ∀ F, DenAll K F (v :: vs) (d :: ds) := fun F => .cons (h1 F) (h2 F)
theorem rel_ref {a : Addr} : L2.RelV (.ref a) (Value.ref a) := rfl
theorem rel_int {i : Int} {t} : L2.RelV (.int i) (Value.int i t) := ⟨t, rfl⟩
theorem rel_str {x : Str} {t} : L2.RelV (.str x) (Value.str x t) := ⟨t, rfl⟩
end Pv

namespace PvK
open PySem PySem.Spec PyProof.Rows L2 Pv
/-! the defs of the law, as terms -/
def f0 : Df where
  name := "form"
  ps := ["constant", "pairs"]
  N := ["constant", "pairs", "sums", "name", "coefficient"]
  body :=
    (.cons (.set 2 (.dict0 true))
    (.cons (.for (.tp 2 (.cons (.nm 3) (.cons (.nm 4) .nil))) (.val (.slot 1)) (.cons (.asg (.sb (.slot 2) (.slot 3)) (.bin .Add false (.meth .get (.slot 2) (.cons (.slot 3) (.cons (.k (.int 0)) .nil))) (.slot 4)))
    .nil))
    (.frz 2 (.cons (.ret (.tup (.cons (.slot 0) (.cons (.bi .tuple false (.cons (.lc false [("name", 3)] (.nm 3) (.val (.bi .sorted false (.cons (.slot 2) .nil))) (.cmp .NotEq (.ix (.slot 2) (.slot 3)) (.k (.int 0))) (.tup (.cons (.slot 3) (.cons (.ix (.slot 2) (.slot 3)) .nil)))) .nil)) .nil))))
    .nil))))
def f1 : Df where
  name := "variable"
  ps := ["name"]
  N := ["name"]
  body :=
    (.cons (.ret (.tup (.cons (.k (.int 0)) (.cons (.tup (.cons (.tup (.cons (.slot 0) (.cons (.k (.int 1)) .nil))) .nil)) .nil))))
    .nil)
def f2 : Df where
  name := "times"
  ps := ["k", "f"]
  N := ["k", "f", "name", "coefficient"]
  body :=
    (.cons (.iff (.cmp .Eq (.slot 0) (.k (.int 0))) (.cons (.ret (.glob 0))
    .nil) .nil)
    (.cons (.ret (.tup (.cons (.bin .Mult false (.slot 0) (.ix (.slot 1) (.k (.int 0)))) (.cons (.bi .tuple false (.cons (.lc false [("name", 2), ("coefficient", 3)] (.tp 2 (.cons (.nm 2) (.cons (.nm 3) .nil))) (.val (.ix (.slot 1) (.k (.int 1)))) .yes (.tup (.cons (.slot 2) (.cons (.bin .Mult false (.slot 0) (.slot 3)) .nil)))) .nil)) .nil))))
    .nil))
def f3 : Df where
  name := "image"
  ps := ["f", "pairs"]
  N := ["f", "pairs", "table", "constant", "rest", "name", "coefficient", "g", "other", "factor"]
  body :=
    (.cons (.swp 2 (.dc false [("name", 5), ("g", 7)] (.tp 2 (.cons (.nm 5) (.cons (.nm 7) .nil))) (.val (.slot 1)) .yes (.slot 5) (.slot 7)))
    (.cons (.set 3 (.ix (.slot 0) (.k (.int 0))))
    (.cons (.set 4 (.lst true .nil))
    (.cons (.for (.tp 2 (.cons (.nm 5) (.cons (.nm 6) .nil))) (.val (.ix (.slot 0) (.k (.int 1)))) (.cons (.iff (.cmp .In (.slot 5) (.slot 2)) (.cons (.set 7 (.ix (.slot 2) (.slot 5)))
    (.cons (.aug 3 .Add (.bin .Mult false (.slot 6) (.ix (.slot 7) (.k (.int 0)))))
    (.cons (.expr (.meth .extend (.slot 4) (.cons (.lc false [("other", 8), ("factor", 9)] (.tp 2 (.cons (.nm 8) (.cons (.nm 9) .nil))) (.val (.ix (.slot 7) (.k (.int 1)))) .yes (.tup (.cons (.slot 8) (.cons (.bin .Mult false (.slot 6) (.slot 9)) .nil)))) .nil)))
    .nil))) (.cons (.expr (.meth .append (.slot 4) (.cons (.tup (.cons (.slot 5) (.cons (.slot 6) .nil))) .nil)))
    .nil))
    .nil))
    (.frz 4 (.cons (.ret (.call 0 (.cons (.slot 3) (.cons (.slot 4) .nil))))
    .nil))))))
def f4 : Df where
  name := "face_of"
  ps := ["lower", "callee"]
  N := ["lower", "callee", "face"]
  body :=
    (.cons (.ret (.ix (.lc false [("face", 2)] (.nm 2) (.val (.slot 0)) (.cmp .Eq (.ix (.slot 2) (.k (.int 0))) (.slot 1)) (.slot 2)) (.k (.int 0))))
    .nil)
def f5 : Df where
  name := "posts_of"
  ps := ["lower", "facts", "callee"]
  N := ["lower", "facts", "callee"]
  body :=
    (.cons (.iff (.tru (.isin "str" (.slot 2))) (.cons (.ret (.ix (.call 4 (.cons (.slot 0) (.cons (.slot 2) .nil))) (.k (.int 3))))
    .nil) .nil)
    (.cons (.ret (.ix (.ix (.slot 1) (.slot 2)) (.k (.int 1))))
    .nil))
def f6 : Df where
  name := "hypotheses"
  ps := ["system", "lower", "facts", "edge"]
  N := ["system", "lower", "facts", "edge", "row", "proc", "found", "pairs", "callee", "args", "outs", "post", "outcome", "name"]
  body :=
    (.cons (.set 4 (.ix (.ix (.slot 0) (.k (.int 1))) (.slot 3)))
    (.cons (.set 5 (.ix (.ix (.slot 0) (.k (.int 0))) (.ix (.slot 4) (.k (.int 1)))))
    (.cons (.set 6 (.bi .list true (.cons (.ix (.slot 5) (.k (.int 6))) .nil)))
    (.cons (.iff (.cmp .NotEq (.ix (.slot 4) (.k (.int 2))) (.k (.int 0))) (.cons (.expr (.meth .extend (.slot 6) (.cons (.ix (.slot 5) (.k (.int 7))) .nil)))
    (.cons (.expr (.meth .extend (.slot 6) (.cons (.ix (.ix (.ix (.slot 2) (.ix (.slot 4) (.k (.int 1)))) (.k (.int 0))) (.ix (.slot 4) (.k (.int 2)))) .nil)))
    .nil)) .nil)
    (.cons (.expr (.meth .extend (.slot 6) (.cons (.ix (.slot 4) (.k (.int 5))) .nil)))
    (.cons (.iff (.and2 (.cmp .Eq (.ix (.slot 4) (.k (.int 0))) (.k (.str "step"))) (.one (.cmp .NotEq (.ix (.slot 4) (.k (.int 7))) (.tup .nil)))) (.cons (.asg (.tp 3 (.cons (.nm 8) (.cons (.nm 9) (.cons (.nm 10) .nil)))) (.ix (.slot 4) (.k (.int 7))))
    (.cons (.set 7 (.bin .Add false (.bi .list false (.cons (.slot 9) .nil)) (.lc false [("outcome", 12), ("name", 13)] (.tp 2 (.cons (.nm 12) (.cons (.nm 13) .nil))) (.val (.slot 10)) .yes (.tup (.cons (.slot 12) (.cons (.call 1 (.cons (.slot 13) .nil)) .nil))))))
    (.cons (.expr (.meth .extend (.slot 6) (.cons (.lc false [("post", 11)] (.nm 11) (.val (.call 5 (.cons (.slot 1) (.cons (.slot 2) (.cons (.slot 8) .nil))))) .yes (.call 3 (.cons (.slot 11) (.cons (.slot 7) .nil)))) .nil)))
    .nil))) .nil)
    (.frz 6 (.cons (.ret (.bi .tuple false (.cons (.slot 6) .nil)))
    .nil))))))))
def f7 : Df where
  name := "names_at"
  ps := ["system", "proc", "place"]
  N := ["system", "proc", "place", "row"]
  body :=
    (.cons (.set 3 (.ix (.ix (.slot 0) (.k (.int 0))) (.slot 1)))
    (.cons (.iff (.cmp .Eq (.slot 2) (.k (.int 0))) (.cons (.ret (.ix (.slot 3) (.k (.int 1))))
    .nil) .nil)
    (.cons (.iff (.cmp .Lt (.slot 2) (.k (.int 0))) (.cons (.ret (.bin .Add false (.ix (.slot 3) (.k (.int 1))) (.ix (.slot 3) (.k (.int 4)))))
    .nil) .nil)
    (.cons (.ret (.bin .Add false (.ix (.slot 3) (.k (.int 1))) (.ix (.slot 3) (.k (.int 2)))))
    .nil))))
def f8 : Df where
  name := "identity"
  ps := ["names"]
  N := ["names", "name"]
  body :=
    (.cons (.ret (.bi .tuple false (.cons (.lc false [("name", 1)] (.nm 1) (.val (.slot 0)) .yes (.call 1 (.cons (.slot 1) .nil))) .nil)))
    .nil)
def f9 : Df where
  name := "all_hypotheses"
  ps := ["system", "lower", "facts"]
  N := ["system", "lower", "facts", "edge"]
  body :=
    (.cons (.ret (.lc false [("edge", 3)] (.nm 3) (.range1 (.cons (.bi .len false (.cons (.ix (.slot 0) (.k (.int 1))) .nil)) .nil)) .yes (.call 6 (.cons (.slot 0) (.cons (.slot 1) (.cons (.slot 2) (.cons (.slot 3) .nil)))))))
    .nil)
def f10 : Df where
  name := "alive_edges"
  ps := ["lives"]
  N := ["lives", "k", "life"]
  body :=
    (.cons (.ret (.lc false [("k", 1), ("life", 2)] (.tp 2 (.cons (.nm 1) (.cons (.nm 2) .nil))) (.enumT (.cons (.slot 0) .nil)) (.cmp .Eq (.ix (.slot 2) (.k (.int 0))) (.k (.str "alive"))) (.slot 1)))
    .nil)
def f11 : Df where
  name := "images_at_target"
  ps := ["system", "edge"]
  N := ["system", "edge", "row", "proc", "states"]
  body :=
    (.cons (.set 2 (.ix (.ix (.slot 0) (.k (.int 1))) (.slot 1)))
    (.cons (.set 3 (.ix (.ix (.slot 0) (.k (.int 0))) (.ix (.slot 2) (.k (.int 1)))))
    (.cons (.set 4 (.ife (.cmp .Eq (.ix (.slot 2) (.k (.int 0))) (.k (.str "step"))) (.ix (.slot 2) (.k (.int 6))) (.call 8 (.cons (.ix (.slot 3) (.k (.int 2))) .nil))))
    (.cons (.ret (.bin .Add false (.call 8 (.cons (.ix (.slot 3) (.k (.int 1))) .nil)) (.slot 4)))
    .nil))))
def f12 : Df where
  name := "make_bound_problem"
  ps := ["system", "hyps", "lives", "proc", "outcome", "sign"]
  N := ["system", "hyps", "lives", "proc", "outcome", "sign", "conditions", "edge", "row", "terms", "known", "unknowns", "point"]
  body :=
    (.cons (.set 6 (.lst true .nil))
    (.cons (.for (.nm 7) (.val (.call 10 (.cons (.slot 2) .nil))) (.cons (.set 8 (.ix (.ix (.slot 0) (.k (.int 1))) (.slot 7)))
    (.cons (.iff (.cmp .Eq (.ix (.slot 8) (.k (.int 1))) (.slot 3)) (.cons (.set 9 (.lst true (.cons (.tup (.cons (.k (.int 1)) (.cons (.ix (.slot 8) (.k (.int 2))) (.cons (.call 8 (.cons (.call 7 (.cons (.slot 0) (.cons (.slot 3) (.cons (.ix (.slot 8) (.k (.int 2))) .nil)))) .nil)) .nil)))) .nil)))
    (.cons (.set 10 (.glob 0))
    (.cons (.iff (.cmp .GtE (.ix (.slot 8) (.k (.int 3))) (.k (.int 0))) (.cons (.expr (.meth .append (.slot 9) (.cons (.tup (.cons (.neg (.k (.int 1))) (.cons (.ix (.slot 8) (.k (.int 3))) (.cons (.call 11 (.cons (.slot 0) (.cons (.slot 7) .nil))) .nil)))) .nil)))
    .nil) (.cons (.set 10 (.call 2 (.cons (.neg (.slot 5)) (.cons (.ix (.ix (.slot 8) (.k (.int 6))) (.meth .index (.ix (.ix (.ix (.slot 0) (.k (.int 0))) (.slot 3)) (.k (.int 4))) (.cons (.slot 4) .nil))) .nil))))
    .nil))
    (.frz 9 (.cons (.expr (.meth .append (.slot 6) (.cons (.tup (.cons (.ix (.slot 1) (.slot 7)) (.cons (.bi .tuple false (.cons (.slot 9) .nil)) (.cons (.slot 10) (.cons (.k (.int 0)) .nil))))) .nil)))
    .nil))))) .nil)
    .nil)))
    (.frz 6 (.cons (.set 11 (.bi .tuple false (.cons (.lc false [("point", 12)] (.nm 12) (.range1 (.cons (.bi .len false (.cons (.ix (.ix (.ix (.slot 0) (.k (.int 0))) (.slot 3)) (.k (.int 3))) .nil)) .nil)) .yes (.call 7 (.cons (.slot 0) (.cons (.slot 3) (.cons (.slot 12) .nil))))) .nil)))
    (.cons (.ret (.tup (.cons (.slot 11) (.cons (.bi .tuple false (.cons (.slot 6) .nil)) (.cons (.tup (.cons (.tup (.cons (.k (.int 0)) (.cons (.k (.int 1)) .nil))) .nil)) .nil)))))
    .nil)))))
def f13 : Df where
  name := "bound_problem"
  ps := ["system", "lower", "facts", "lives", "proc", "outcome", "sign"]
  N := ["system", "lower", "facts", "lives", "proc", "outcome", "sign"]
  body :=
    (.cons (.ret (.call 12 (.cons (.slot 0) (.cons (.call 9 (.cons (.slot 0) (.cons (.slot 1) (.cons (.slot 2) .nil)))) (.cons (.slot 3) (.cons (.slot 4) (.cons (.slot 5) (.cons (.slot 6) .nil))))))))
    .nil)
def f14 : Df where
  name := "_law_start"
  ps := ["script"]
  N := ["script"]
  body :=
    (.cons (.ret (.lst true (.cons (.bi .list false (.cons (.slot 0) .nil)) (.cons (.k (.int 0)) (.cons (.k (.int 0)) (.cons (.k (.int 0)) .nil))))))
    .nil)
def f15 : Df where
  name := "_law_draw"
  ps := ["state", "most"]
  N := ["state", "most", "found", "cell", "mixed"]
  body :=
    (.cons (.asg (.sb (.slot 0) (.k (.int 3))) (.bin .Add false (.ix (.slot 0) (.k (.int 3))) (.k (.int 1))))
    (.cons (.iff (.cmp .Gt (.ix (.slot 0) (.k (.int 2))) (.k (.int 0))) (.cons (.set 2 (.bin .Mod false (.bi .int false (.cons (.ix (.slot 0) (.k (.int 2))) .nil)) (.slot 1)))
    (.cons (.asg (.sb (.slot 0) (.k (.int 2))) (.bin .FloorDiv false (.ix (.slot 0) (.k (.int 2))) (.slot 1)))
    (.cons (.ret (.slot 2))
    .nil))) .nil)
    (.cons (.set 3 (.k (.int 0)))
    (.cons (.iff (.cmp .Gt (.bi .len false (.cons (.ix (.slot 0) (.k (.int 0))) .nil)) (.k (.int 0))) (.cons (.set 3 (.bi .abs false (.cons (.ix (.ix (.slot 0) (.k (.int 0))) (.bin .Mod false (.bi .int false (.cons (.ix (.slot 0) (.k (.int 1))) .nil)) (.bi .len false (.cons (.ix (.slot 0) (.k (.int 0))) .nil)))) .nil)))
    .nil) .nil)
    (.cons (.asg (.sb (.slot 0) (.k (.int 1))) (.bin .Add false (.ix (.slot 0) (.k (.int 1))) (.k (.int 1))))
    (.cons (.iff (.cmp .GtE (.slot 3) (.bin .Pow false (.k (.int 10)) (.k (.int 18)))) (.cons (.asg (.sb (.slot 0) (.k (.int 2))) (.bin .FloorDiv false (.slot 3) (.slot 1)))
    (.cons (.ret (.bin .Mod false (.bi .int false (.cons (.slot 3) .nil)) (.slot 1)))
    .nil)) .nil)
    (.cons (.set 4 (.bin .Mod false (.bi .int false (.cons (.bin .Add false (.bin .Mult false (.bin .Add false (.slot 3) (.k (.int 1))) (.k (.int 48271))) (.bin .Mult false (.ix (.slot 0) (.k (.int 3))) (.k (.int 69621)))) .nil)) (.k (.int 2147483647))))
    (.cons (.set 4 (.bin .Mod false (.bi .int false (.cons (.bin .Add false (.bin .Add false (.bin .Mult false (.slot 4) (.k (.int 16807))) (.bin .FloorDiv false (.slot 3) (.k (.int 97)))) (.ix (.slot 0) (.k (.int 3)))) .nil)) (.k (.int 2147483629))))
    (.cons (.ret (.bin .Mod false (.bin .FloorDiv false (.slot 4) (.k (.int 11))) (.slot 1)))
    .nil)))))))))
def f16 : Df where
  name := "_law_words"
  ps := ["state", "many"]
  N := ["state", "many", "letters", "start", "step", "shared", "k"]
  body :=
    (.cons (.set 2 (.k (.str "abcdefghijklmnopqrstuvwxyz")))
    (.cons (.set 3 (.call 15 (.cons (.slot 0) (.cons (.k (.int 26)) .nil))))
    (.cons (.set 4 (.bin .Add false (.k (.int 1)) (.bin .Mult false (.k (.int 2)) (.call 15 (.cons (.slot 0) (.cons (.k (.int 6)) .nil))))))
    (.cons (.set 5 (.sl false (.k (.str "qxz")) .absent (.call 15 (.cons (.slot 0) (.cons (.k (.int 4)) .nil)))))
    (.cons (.iff (.cmp .Eq (.call 15 (.cons (.slot 0) (.cons (.k (.int 2)) .nil))) (.k (.int 0))) (.cons (.ret (.lc false [("k", 6)] (.nm 6) (.range1 (.cons (.slot 1) .nil)) .yes (.bin .Add false (.slot 5) (.ix (.slot 2) (.bin .Mod false (.bi .int false (.cons (.bin .Add false (.slot 3) (.bin .Mult false (.slot 6) (.slot 4))) .nil)) (.k (.int 26)))))))
    .nil) .nil)
    (.cons (.ret (.lc false [("k", 6)] (.nm 6) (.range1 (.cons (.slot 1) .nil)) .yes (.bin .Add false (.ix (.slot 2) (.bin .Mod false (.bi .int false (.cons (.bin .Add false (.slot 3) (.bin .Mult false (.slot 6) (.slot 4))) .nil)) (.k (.int 26)))) (.slot 5))))
    .nil))))))
def f17 : Df where
  name := "_law_numbers"
  ps := ["state", "names"]
  N := ["state", "names", "table", "name"]
  body :=
    (.cons (.set 2 (.dict0 true))
    (.cons (.for (.nm 3) (.val (.slot 1)) (.cons (.asg (.sb (.slot 2) (.slot 3)) (.bin .Sub false (.call 15 (.cons (.slot 0) (.cons (.k (.int 12)) .nil))) (.k (.int 3))))
    .nil))
    (.frz 2 (.cons (.ret (.slot 2))
    .nil))))
def f18 : Df where
  name := "_law_form"
  ps := ["constant", "pairs"]
  N := ["constant", "pairs", "sums", "name", "number"]
  body :=
    (.cons (.set 2 (.dict0 true))
    (.cons (.for (.tp 2 (.cons (.nm 3) (.cons (.nm 4) .nil))) (.val (.slot 1)) (.cons (.asg (.sb (.slot 2) (.slot 3)) (.bin .Add false (.meth .get (.slot 2) (.cons (.slot 3) (.cons (.k (.int 0)) .nil))) (.slot 4)))
    .nil))
    (.frz 2 (.cons (.ret (.tup (.cons (.slot 0) (.cons (.bi .tuple false (.cons (.lc false [("name", 3)] (.nm 3) (.val (.bi .sorted false (.cons (.slot 2) .nil))) (.cmp .NotEq (.ix (.slot 2) (.slot 3)) (.k (.int 0))) (.tup (.cons (.slot 3) (.cons (.ix (.slot 2) (.slot 3)) .nil)))) .nil)) .nil))))
    .nil))))
def f19 : Df where
  name := "_law_sum"
  ps := ["parts"]
  N := ["parts", "constant", "pairs", "factor", "f", "name", "number"]
  body :=
    (.cons (.set 1 (.k (.int 0)))
    (.cons (.set 2 (.lst true .nil))
    (.cons (.for (.tp 2 (.cons (.nm 3) (.cons (.nm 4) .nil))) (.val (.slot 0)) (.cons (.set 1 (.bin .Add false (.slot 1) (.bin .Mult false (.slot 3) (.ix (.slot 4) (.k (.int 0))))))
    (.cons (.for (.tp 2 (.cons (.nm 5) (.cons (.nm 6) .nil))) (.val (.ix (.slot 4) (.k (.int 1)))) (.cons (.expr (.meth .append (.slot 2) (.cons (.tup (.cons (.slot 5) (.cons (.bin .Mult false (.slot 3) (.slot 6)) .nil))) .nil)))
    .nil))
    .nil)))
    (.frz 2 (.cons (.ret (.call 18 (.cons (.slot 1) (.cons (.slot 2) .nil))))
    .nil)))))
def f20 : Df where
  name := "_law_drawn"
  ps := ["state", "names", "most"]
  N := ["state", "names", "most", "pairs", "k", "f"]
  body :=
    (.cons (.set 3 (.lst true .nil))
    (.cons (.iff (.cmp .Gt (.bi .len false (.cons (.slot 1) .nil)) (.k (.int 0))) (.cons (.for (.nm 4) (.range1 (.cons (.call 15 (.cons (.slot 0) (.cons (.bin .Add false (.slot 2) (.k (.int 1))) .nil))) .nil)) (.cons (.expr (.meth .append (.slot 3) (.cons (.tup (.cons (.ix (.slot 1) (.call 15 (.cons (.slot 0) (.cons (.bi .len false (.cons (.slot 1) .nil)) .nil)))) (.cons (.bin .Sub false (.call 15 (.cons (.slot 0) (.cons (.k (.int 7)) .nil))) (.k (.int 3))) .nil))) .nil)))
    .nil))
    .nil) .nil)
    (.frz 3 (.cons (.set 5 (.call 18 (.cons (.bin .Sub false (.call 15 (.cons (.slot 0) (.cons (.k (.int 11)) .nil))) (.k (.int 5))) (.cons (.slot 3) .nil))))
    (.cons (.iff (.cmp .Eq (.call 15 (.cons (.slot 0) (.cons (.k (.int 15)) .nil))) (.k (.int 0))) (.cons (.ret (.call 19 (.cons (.lst false (.cons (.tup (.cons (.bin .Add false (.bin .Pow false (.k (.int 10)) (.k (.int 20))) (.k (.int 39))) (.cons (.slot 5) .nil))) .nil)) .nil)))
    .nil) .nil)
    (.cons (.ret (.slot 5))
    .nil))))))
def f21 : Df where
  name := "_law_at"
  ps := ["f", "den", "table"]
  N := ["f", "den", "table", "total", "name", "number"]
  body :=
    (.cons (.set 3 (.bin .Mult false (.slot 1) (.ix (.slot 0) (.k (.int 0)))))
    (.cons (.for (.tp 2 (.cons (.nm 4) (.cons (.nm 5) .nil))) (.val (.ix (.slot 0) (.k (.int 1)))) (.cons (.set 3 (.bin .Add false (.slot 3) (.bin .Mult false (.slot 5) (.ix (.slot 2) (.slot 4)))))
    .nil))
    (.cons (.ret (.slot 3))
    .nil)))
def f22 : Df where
  name := "_law_true"
  ps := ["state", "names", "table"]
  N := ["state", "names", "table", "f", "now"]
  body :=
    (.cons (.set 3 (.call 20 (.cons (.slot 0) (.cons (.slot 1) (.cons (.k (.int 3)) .nil)))))
    (.cons (.set 4 (.call 21 (.cons (.slot 3) (.cons (.k (.int 1)) (.cons (.slot 2) .nil)))))
    (.cons (.iff (.cmp .GtE (.slot 4) (.k (.int 0))) (.cons (.ret (.slot 3))
    .nil) .nil)
    (.cons (.ret (.tup (.cons (.bin .Add false (.bin .Sub false (.ix (.slot 3) (.k (.int 0))) (.slot 4)) (.call 15 (.cons (.slot 0) (.cons (.k (.int 4)) .nil)))) (.cons (.ix (.slot 3) (.k (.int 1))) .nil))))
    .nil))))
def f23 : Df where
  name := "_law_low"
  ps := ["state", "name"]
  N := ["state", "name", "words", "inputs", "outcomes", "table", "needs", "posts", "k"]
  body :=
    (.cons (.set 2 (.call 16 (.cons (.slot 0) (.cons (.k (.int 8)) .nil))))
    (.cons (.set 3 (.bi .tuple false (.cons (.lc false [("k", 8)] (.nm 8) (.range1 (.cons (.call 15 (.cons (.slot 0) (.cons (.k (.int 4)) .nil))) .nil)) .yes (.bin .Add false (.k (.str "@")) (.ix (.slot 2) (.slot 8)))) .nil)))
    (.cons (.set 4 (.bi .tuple false (.cons (.lc false [("k", 8)] (.nm 8) (.range1 (.cons (.call 15 (.cons (.slot 0) (.cons (.k (.int 3)) .nil))) .nil)) .yes (.ix (.slot 2) (.bin .Add false (.k (.int 4)) (.slot 8)))) .nil)))
    (.cons (.set 5 (.call 17 (.cons (.slot 0) (.cons (.bin .Add false (.slot 3) (.slot 4)) .nil))))
    (.cons (.set 6 (.bi .tuple false (.cons (.lc false [("k", 8)] (.nm 8) (.range1 (.cons (.call 15 (.cons (.slot 0) (.cons (.k (.int 2)) .nil))) .nil)) .yes (.call 20 (.cons (.slot 0) (.cons (.slot 3) (.cons (.k (.int 2)) .nil))))) .nil)))
    (.cons (.set 7 (.bi .tuple false (.cons (.lc false [("k", 8)] (.nm 8) (.range1 (.cons (.call 15 (.cons (.slot 0) (.cons (.k (.int 3)) .nil))) .nil)) .yes (.call 22 (.cons (.slot 0) (.cons (.bin .Add false (.slot 3) (.slot 4)) (.cons (.slot 5) .nil))))) .nil)))
    (.cons (.ret (.tup (.cons (.slot 1) (.cons (.slot 3) (.cons (.slot 4) (.cons (.slot 5) (.cons (.tup (.cons (.slot 1) (.cons (.call 15 (.cons (.slot 0) (.cons (.k (.int 2)) .nil))) (.cons (.slot 6) (.cons (.slot 7) .nil))))) .nil)))))))
    .nil)))))))
def f24 : Df where
  name := "_law_nests"
  ps := ["state", "many"]
  N := ["state", "many", "nests", "point", "nest"]
  body :=
    (.cons (.set 2 (.lst true (.cons (.tup .nil) .nil)))
    (.cons (.for (.nm 3) (.range2 (.cons (.k (.int 1)) (.cons (.slot 1) .nil))) (.cons (.set 4 (.ix (.slot 2) (.call 15 (.cons (.slot 0) (.cons (.slot 3) .nil)))))
    (.cons (.iff (.cmp .Eq (.call 15 (.cons (.slot 0) (.cons (.k (.int 2)) .nil))) (.k (.int 0))) (.cons (.set 4 (.bin .Add false (.slot 4) (.tup (.cons (.slot 3) .nil))))
    .nil) .nil)
    (.cons (.expr (.meth .append (.slot 2) (.cons (.slot 4) .nil)))
    .nil))))
    (.frz 2 (.cons (.ret (.bi .tuple false (.cons (.slot 2) .nil)))
    .nil))))
def f25 : Df where
  name := "_law_proc"
  ps := ["state", "name", "most"]
  N := ["state", "name", "most", "words", "inputs", "states", "k", "outcomes", "table", "needs", "first", "grounds", "nests", "x"]
  body :=
    (.cons (.set 3 (.call 16 (.cons (.slot 0) (.cons (.k (.int 15)) .nil))))
    (.cons (.set 4 (.lst true .nil))
    (.cons (.set 5 (.lst true .nil))
    (.cons (.for (.nm 6) (.range1 (.cons (.call 15 (.cons (.slot 0) (.cons (.slot 2) .nil))) .nil)) (.cons (.expr (.meth .append (.slot 4) (.cons (.bin .Add false (.ix (.lst false (.cons (.k (.str "@")) (.cons (.k (.str "@#")) .nil))) (.call 15 (.cons (.slot 0) (.cons (.k (.int 2)) .nil)))) (.ix (.slot 3) (.slot 6))) .nil)))
    .nil))
    (.frz 4 (.cons (.for (.nm 6) (.range1 (.cons (.call 15 (.cons (.slot 0) (.cons (.slot 2) .nil))) .nil)) (.cons (.expr (.meth .append (.slot 5) (.cons (.bin .Add false (.ix (.lst false (.cons (.k (.str "")) (.cons (.k (.str "#")) .nil))) (.call 15 (.cons (.slot 0) (.cons (.k (.int 2)) .nil)))) (.ix (.slot 3) (.bin .Add false (.k (.int 6)) (.slot 6)))) .nil)))
    .nil))
    (.frz 5 (.cons (.swp 7 (.lc false [("k", 6)] (.nm 6) (.range1 (.cons (.bin .Add false (.k (.int 1)) (.call 15 (.cons (.slot 0) (.cons (.k (.int 2)) .nil)))) .nil)) .yes (.ix (.slot 3) (.bin .Add false (.k (.int 12)) (.slot 6)))))
    (.cons (.iff (.and2 (.cmp .Eq (.call 15 (.cons (.slot 0) (.cons (.k (.int 2)) .nil))) (.k (.int 0))) (.one (.cmp .NotEq (.slot 5) (.lst false .nil)))) (.cons (.set 7 (.sl false (.slot 5) .absent (.bin .Add false (.k (.int 1)) (.call 15 (.cons (.slot 0) (.cons (.k (.int 2)) .nil))))))
    .nil) .nil)
    (.cons (.set 8 (.call 17 (.cons (.slot 0) (.cons (.bin .Add false (.bin .Add false (.slot 4) (.slot 5)) (.lc false [("x", 13)] (.nm 13) (.val (.slot 7)) (.cmp .NotIn (.slot 13) (.slot 5)) (.slot 13))) .nil))))
    (.cons (.set 9 (.bi .tuple false (.cons (.lc false [("k", 6)] (.nm 6) (.range1 (.cons (.call 15 (.cons (.slot 0) (.cons (.k (.int 2)) .nil))) .nil)) .yes (.call 20 (.cons (.slot 0) (.cons (.slot 4) (.cons (.k (.int 2)) .nil))))) .nil)))
    (.cons (.set 10 (.bi .tuple false (.cons (.lc false [("k", 6)] (.nm 6) (.range1 (.cons (.call 15 (.cons (.slot 0) (.cons (.k (.int 3)) .nil))) .nil)) .yes (.call 22 (.cons (.slot 0) (.cons (.slot 4) (.cons (.slot 8) .nil))))) .nil)))
    (.cons (.set 11 (.bi .tuple false (.cons (.lc false [("k", 6)] (.nm 6) (.range1 (.cons (.call 15 (.cons (.slot 0) (.cons (.k (.int 3)) .nil))) .nil)) .yes (.call 22 (.cons (.slot 0) (.cons (.bin .Add false (.slot 4) (.slot 5)) (.cons (.slot 8) .nil))))) .nil)))
    (.cons (.set 12 (.call 24 (.cons (.slot 0) (.cons (.bin .Add false (.k (.int 1)) (.call 15 (.cons (.slot 0) (.cons (.bin .Add false (.slot 2) (.k (.int 1))) .nil)))) .nil))))
    (.cons (.ret (.tup (.cons (.tup (.cons (.slot 1) (.cons (.bi .tuple false (.cons (.slot 4) .nil)) (.cons (.bi .tuple false (.cons (.slot 5) .nil)) (.cons (.slot 12) (.cons (.bi .tuple false (.cons (.slot 7) .nil)) (.cons (.slot 9) (.cons (.slot 10) (.cons (.slot 11) .nil))))))))) (.cons (.slot 8) .nil))))
    .nil)))))))))))))))
def f26 : Df where
  name := "_law_made"
  ps := ["state", "names", "table"]
  N := ["state", "names", "table", "k", "made"]
  body :=
    (.cons (.for (.nm 3) (.range1 (.cons (.call 15 (.cons (.slot 0) (.cons (.k (.int 3)) .nil))) .nil)) (.cons (.set 4 (.bin .Add false (.k (.str "?")) (.bi .str false (.cons (.bin .Add false (.slot 3) (.k (.int 1))) .nil))))
    (.cons (.asg (.sb (.slot 2) (.slot 4)) (.bin .Sub false (.call 15 (.cons (.slot 0) (.cons (.k (.int 9)) .nil))) (.k (.int 3))))
    (.cons (.set 1 (.bin .Add false (.slot 1) (.tup (.cons (.slot 4) .nil))))
    .nil))))
    (.cons (.ret (.slot 1))
    .nil))
def f27 : Df where
  name := "_law_edge_hyps"
  ps := ["state", "names", "table", "shut"]
  N := ["state", "names", "table", "shut", "hyps", "f", "k"]
  body :=
    (.cons (.swp 4 (.lc false [("k", 6)] (.nm 6) (.range1 (.cons (.call 15 (.cons (.slot 0) (.cons (.k (.int 3)) .nil))) .nil)) .yes (.call 22 (.cons (.slot 0) (.cons (.slot 1) (.cons (.slot 2) .nil))))))
    (.cons (.iff (.cmp .Gt (.slot 3) (.k (.int 0))) (.cons (.set 5 (.call 20 (.cons (.slot 0) (.cons (.slot 1) (.cons (.k (.int 3)) .nil)))))
    (.cons (.set 4 (.bin .Add false (.slot 4) (.lst false (.cons (.slot 5) (.cons (.call 19 (.cons (.lst false (.cons (.tup (.cons (.neg (.k (.int 1))) (.cons (.slot 5) .nil))) (.cons (.tup (.cons (.k (.int 1)) (.cons (.tup (.cons (.neg (.slot 3)) (.cons (.tup .nil) .nil))) .nil))) .nil))) .nil)) .nil)))))
    .nil)) .nil)
    (.cons (.ret (.bi .tuple false (.cons (.slot 4) .nil)))
    .nil)))
def f28 : Df where
  name := "_law_args"
  ps := ["state", "callee", "names", "table"]
  N := ["state", "callee", "names", "table", "pairs", "name", "f"]
  body :=
    (.cons (.set 4 (.lst true .nil))
    (.cons (.for (.nm 5) (.val (.ix (.slot 1) (.k (.int 1)))) (.cons (.set 6 (.call 20 (.cons (.slot 0) (.cons (.slot 2) (.cons (.k (.int 2)) .nil)))))
    (.cons (.expr (.meth .append (.slot 4) (.cons (.tup (.cons (.slot 5) (.cons (.tup (.cons (.bin .Sub false (.bin .Add false (.ix (.slot 6) (.k (.int 0))) (.ix (.ix (.slot 1) (.k (.int 3))) (.slot 5))) (.call 21 (.cons (.slot 6) (.cons (.k (.int 1)) (.cons (.slot 3) .nil))))) (.cons (.ix (.slot 6) (.k (.int 1))) .nil))) .nil))) .nil)))
    .nil)))
    (.frz 4 (.cons (.ret (.bi .tuple false (.cons (.slot 4) .nil)))
    .nil))))
def f29 : Df where
  name := "_law_call_edge"
  ps := ["state", "proc", "row", "values", "point", "callee", "shut"]
  N := ["state", "proc", "row", "values", "point", "callee", "shut", "table", "name", "names", "hyps", "args"]
  body :=
    (.cons (.set 7 (.dict0 true))
    (.cons (.for (.nm 8) (.val (.bin .Add false (.ix (.slot 2) (.k (.int 1))) (.ix (.slot 2) (.k (.int 2))))) (.cons (.asg (.sb (.slot 7) (.slot 8)) (.ix (.slot 3) (.slot 8)))
    .nil))
    (.cons (.set 9 (.call 26 (.cons (.slot 0) (.cons (.bin .Add false (.ix (.slot 2) (.k (.int 1))) (.ix (.slot 2) (.k (.int 2)))) (.cons (.slot 7) .nil)))))
    (.frz 7 (.cons (.set 10 (.call 27 (.cons (.slot 0) (.cons (.slot 9) (.cons (.slot 7) (.cons (.slot 6) .nil))))))
    (.cons (.set 11 (.call 28 (.cons (.slot 0) (.cons (.slot 5) (.cons (.slot 9) (.cons (.slot 7) .nil))))))
    (.cons (.ret (.tup (.cons (.tup (.cons (.k (.str "call")) (.cons (.slot 1) (.cons (.slot 4) (.cons (.bin .Add false (.slot 4) (.k (.int 1))) (.cons (.k (.int 1)) (.cons (.slot 10) (.cons (.ix (.slot 5) (.k (.int 0))) (.cons (.slot 11) .nil))))))))) (.cons (.slot 7) (.cons (.slot 6) .nil)))))
    .nil)))))))
def f30 : Df where
  name := "_law_step_edge"
  ps := ["state", "proc", "row", "values", "point", "callee", "shut"]
  N := ["state", "proc", "row", "values", "point", "callee", "shut", "names", "table", "name", "most", "after", "args", "outs", "x", "made", "target", "goal", "hyps", "effect"]
  body :=
    (.cons (.set 7 (.ix (.slot 2) (.k (.int 1))))
    (.cons (.iff (.cmp .Gt (.slot 4) (.k (.int 0))) (.cons (.set 7 (.bin .Add false (.slot 7) (.ix (.slot 2) (.k (.int 2)))))
    .nil) .nil)
    (.cons (.set 8 (.dict0 true))
    (.cons (.for (.nm 9) (.val (.slot 7)) (.cons (.asg (.sb (.slot 8) (.slot 9)) (.ix (.slot 3) (.slot 9)))
    .nil))
    (.cons (.set 10 (.bi .len false (.cons (.slot 7) .nil)))
    (.cons (.set 7 (.call 26 (.cons (.slot 0) (.cons (.slot 7) (.cons (.slot 8) .nil)))))
    (.cons (.set 11 (.tup .nil))
    (.cons (.iff (.cmp .IsNot (.slot 5) (.k .non)) (.cons (.set 12 (.call 28 (.cons (.slot 0) (.cons (.slot 5) (.cons (.slot 7) (.cons (.slot 8) .nil))))))
    (.cons (.set 13 (.lst true .nil))
    (.cons (.for (.nm 14) (.val (.ix (.slot 5) (.k (.int 2)))) (.cons (.set 15 (.bin .Add false (.k (.str "?")) (.bi .str false (.cons (.bin .Add false (.bin .Sub false (.bi .len false (.cons (.slot 7) .nil)) (.slot 10)) (.k (.int 1))) .nil))))
    (.cons (.asg (.sb (.slot 8) (.slot 15)) (.ix (.ix (.slot 5) (.k (.int 3))) (.slot 14)))
    (.cons (.set 7 (.bin .Add false (.slot 7) (.tup (.cons (.slot 15) .nil))))
    (.cons (.expr (.meth .append (.slot 13) (.cons (.tup (.cons (.slot 14) (.cons (.slot 15) .nil))) .nil)))
    .nil)))))
    (.frz 13 (.cons (.set 11 (.tup (.cons (.ix (.slot 5) (.k (.int 0))) (.cons (.slot 12) (.cons (.bi .tuple false (.cons (.slot 13) .nil)) .nil)))))
    .nil))))) .nil)
    (.frz 8 (.cons (.set 16 (.call 15 (.cons (.slot 0) (.cons (.bi .len false (.cons (.ix (.slot 2) (.k (.int 3))) .nil)) .nil))))
    (.cons (.set 17 (.ix (.slot 2) (.k (.int 2))))
    (.cons (.iff (.cmp .Eq (.slot 16) (.k (.int 0))) (.cons (.set 16 (.neg (.k (.int 1))))
    (.cons (.set 17 (.ix (.slot 2) (.k (.int 4))))
    .nil)) .nil)
    (.cons (.set 18 (.call 27 (.cons (.slot 0) (.cons (.slot 7) (.cons (.slot 8) (.cons (.slot 6) .nil))))))
    (.cons (.set 19 (.bi .tuple false (.cons (.lc false [("x", 14)] (.nm 14) (.val (.slot 17)) .yes (.call 20 (.cons (.slot 0) (.cons (.slot 7) (.cons (.k (.int 2)) .nil))))) .nil)))
    (.cons (.ret (.tup (.cons (.tup (.cons (.k (.str "step")) (.cons (.slot 1) (.cons (.slot 4) (.cons (.slot 16) (.cons (.call 15 (.cons (.slot 0) (.cons (.k (.int 5)) .nil))) (.cons (.slot 18) (.cons (.slot 19) (.cons (.slot 11) .nil))))))))) (.cons (.slot 8) (.cons (.slot 6) .nil)))))
    .nil)))))))))))))))
def f31 : Df where
  name := "_law_proc_edges"
  ps := ["state", "proc", "row", "values", "callees"]
  N := ["state", "proc", "row", "values", "callees", "chosen", "found", "point", "called", "shut", "k"]
  body :=
    (.cons (.set 5 (.dict0 true))
    (.cons (.set 6 (.lst true .nil))
    (.cons (.for (.nm 7) (.range1 (.cons (.bi .len false (.cons (.ix (.slot 2) (.k (.int 3))) .nil)) .nil)) (.cons (.set 8 (.and2 (.cmp .Gt (.slot 7) (.k (.int 0))) (.and2 (.cmp .Lt (.bin .Add false (.slot 7) (.k (.int 1))) (.bi .len false (.cons (.ix (.slot 2) (.k (.int 3))) .nil))) (.one (.cmp .NotIn (.slot 7) (.slot 5))))))
    (.cons (.iff (.and2 (.tru (.slot 8)) (.one (.cmp .Lt (.call 15 (.cons (.slot 0) (.cons (.k (.int 3)) .nil))) (.bin .Add false (.k (.int 1)) (.bi .int false (.cons (.cmp .Gt (.bi .len false (.cons (.slot 4) .nil)) (.k (.int 2))) .nil)))))) (.cons (.asg (.sb (.slot 5) (.bin .Add false (.slot 7) (.k (.int 1)))) (.ix (.slot 4) (.call 15 (.cons (.slot 0) (.cons (.bi .len false (.cons (.slot 4) .nil)) .nil)))))
    (.cons (.set 9 (.bi .max false (.cons (.k (.int 0)) (.cons (.bin .Sub false (.call 15 (.cons (.slot 0) (.cons (.k (.int 9)) .nil))) (.k (.int 6))) .nil))))
    (.cons (.expr (.meth .append (.slot 6) (.cons (.call 29 (.cons (.slot 0) (.cons (.slot 1) (.cons (.slot 2) (.cons (.slot 3) (.cons (.slot 7) (.cons (.ix (.slot 5) (.bin .Add false (.slot 7) (.k (.int 1)))) (.cons (.slot 9) .nil)))))))) .nil)))
    .nil))) (.cons (.for (.nm 10) (.range1 (.cons (.call 15 (.cons (.slot 0) (.cons (.k (.int 4)) .nil))) .nil)) (.cons (.set 9 (.bi .max false (.cons (.k (.int 0)) (.cons (.bin .Sub false (.call 15 (.cons (.slot 0) (.cons (.k (.int 9)) .nil))) (.k (.int 6))) .nil))))
    (.cons (.expr (.meth .append (.slot 6) (.cons (.call 30 (.cons (.slot 0) (.cons (.slot 1) (.cons (.slot 2) (.cons (.slot 3) (.cons (.slot 7) (.cons (.meth .get (.slot 5) (.cons (.slot 7) .nil)) (.cons (.slot 9) .nil)))))))) .nil)))
    .nil)))
    (.cons (.iff (.cmp .Eq (.slot 7) (.k (.int 0))) (.cons (.expr (.meth .append (.slot 6) (.cons (.call 30 (.cons (.slot 0) (.cons (.slot 1) (.cons (.slot 2) (.cons (.slot 3) (.cons (.k (.int 0)) (.cons (.k .non) (.cons (.k (.int 0)) .nil)))))))) .nil)))
    .nil) .nil)
    .nil)))
    .nil)))
    (.frz 6 (.cons (.ret (.slot 6))
    .nil)))))
def f32 : Df where
  name := "_law_true_facts"
  ps := ["state", "row", "table"]
  N := ["state", "row", "table", "points", "point", "posts", "k"]
  body :=
    (.cons (.set 3 (.lst true (.cons (.tup .nil) .nil)))
    (.cons (.for (.nm 4) (.range2 (.cons (.k (.int 1)) (.cons (.bi .len false (.cons (.ix (.slot 1) (.k (.int 3))) .nil)) .nil))) (.cons (.expr (.meth .append (.slot 3) (.cons (.bi .tuple false (.cons (.lc false [("k", 6)] (.nm 6) (.range1 (.cons (.call 15 (.cons (.slot 0) (.cons (.k (.int 3)) .nil))) .nil)) .yes (.call 22 (.cons (.slot 0) (.cons (.bin .Add false (.ix (.slot 1) (.k (.int 1))) (.ix (.slot 1) (.k (.int 2)))) (.cons (.slot 2) .nil))))) .nil)) .nil)))
    .nil))
    (.frz 3 (.cons (.set 5 (.bi .tuple false (.cons (.lc false [("k", 6)] (.nm 6) (.range1 (.cons (.call 15 (.cons (.slot 0) (.cons (.k (.int 3)) .nil))) .nil)) .yes (.call 22 (.cons (.slot 0) (.cons (.bin .Add false (.ix (.slot 1) (.k (.int 1))) (.ix (.slot 1) (.k (.int 4)))) (.cons (.slot 2) .nil))))) .nil)))
    (.cons (.ret (.tup (.cons (.bi .tuple false (.cons (.slot 3) .nil)) (.cons (.slot 5) .nil))))
    .nil)))))
def f33 : Df where
  name := "_law_var"
  ps := ["name"]
  N := ["name"]
  body :=
    (.cons (.ret (.tup (.cons (.k (.int 0)) (.cons (.tup (.cons (.tup (.cons (.slot 0) (.cons (.k (.int 1)) .nil))) .nil)) .nil))))
    .nil)
def f34 : Df where
  name := "_law_put"
  ps := ["f", "table"]
  N := ["f", "table", "parts", "name", "number"]
  body :=
    (.cons (.set 2 (.lst true (.cons (.tup (.cons (.k (.int 1)) (.cons (.tup (.cons (.ix (.slot 0) (.k (.int 0))) (.cons (.tup .nil) .nil))) .nil))) .nil)))
    (.cons (.for (.tp 2 (.cons (.nm 3) (.cons (.nm 4) .nil))) (.val (.ix (.slot 0) (.k (.int 1)))) (.cons (.expr (.meth .append (.slot 2) (.cons (.tup (.cons (.slot 4) (.cons (.meth .get (.slot 1) (.cons (.slot 3) (.cons (.call 33 (.cons (.slot 3) .nil)) .nil))) .nil))) .nil)))
    .nil))
    (.frz 2 (.cons (.ret (.call 19 (.cons (.slot 2) .nil)))
    .nil))))
def f35 : Df where
  name := "_law_hyps"
  ps := ["system", "lower", "facts", "edge"]
  N := ["system", "lower", "facts", "edge", "s", "row", "found", "table", "name", "f", "number", "posts", "post", "face"]
  body :=
    (.cons (.set 4 (.ix (.ix (.slot 0) (.k (.int 1))) (.slot 3)))
    (.cons (.set 5 (.ix (.ix (.slot 0) (.k (.int 0))) (.ix (.slot 4) (.k (.int 1)))))
    (.cons (.set 6 (.bi .list false (.cons (.ix (.slot 5) (.k (.int 6))) .nil)))
    (.cons (.iff (.cmp .NotEq (.ix (.slot 4) (.k (.int 2))) (.k (.int 0))) (.cons (.set 6 (.bin .Add false (.bin .Add false (.slot 6) (.bi .list false (.cons (.ix (.slot 5) (.k (.int 7))) .nil))) (.bi .list false (.cons (.ix (.ix (.ix (.slot 2) (.ix (.slot 4) (.k (.int 1)))) (.k (.int 0))) (.ix (.slot 4) (.k (.int 2)))) .nil))))
    .nil) .nil)
    (.cons (.set 6 (.bin .Add false (.slot 6) (.bi .list false (.cons (.ix (.slot 4) (.k (.int 5))) .nil))))
    (.cons (.iff (.and2 (.cmp .Eq (.ix (.slot 4) (.k (.int 0))) (.k (.str "step"))) (.one (.cmp .NotEq (.ix (.slot 4) (.k (.int 7))) (.tup .nil)))) (.cons (.set 7 (.dict0 true))
    (.cons (.for (.tp 2 (.cons (.nm 8) (.cons (.nm 9) .nil))) (.val (.ix (.ix (.slot 4) (.k (.int 7))) (.k (.int 1)))) (.cons (.asg (.sb (.slot 7) (.slot 8)) (.slot 9))
    .nil))
    (.cons (.for (.tp 2 (.cons (.nm 8) (.cons (.nm 10) .nil))) (.val (.ix (.ix (.slot 4) (.k (.int 7))) (.k (.int 2)))) (.cons (.asg (.sb (.slot 7) (.slot 8)) (.call 33 (.cons (.slot 10) .nil)))
    .nil))
    (.frz 7 (.cons (.iff (.tru (.isin "str" (.ix (.ix (.slot 4) (.k (.int 7))) (.k (.int 0))))) (.cons (.set 11 (.ix (.ix (.lc false [("face", 13)] (.nm 13) (.val (.slot 1)) (.cmp .Eq (.ix (.slot 13) (.k (.int 0))) (.ix (.ix (.slot 4) (.k (.int 7))) (.k (.int 0)))) (.slot 13)) (.k (.int 0))) (.k (.int 3))))
    .nil) (.cons (.set 11 (.ix (.ix (.slot 2) (.ix (.ix (.slot 4) (.k (.int 7))) (.k (.int 0)))) (.k (.int 1))))
    .nil))
    (.cons (.set 6 (.bin .Add false (.slot 6) (.lc false [("post", 12)] (.nm 12) (.val (.slot 11)) .yes (.call 34 (.cons (.slot 12) (.cons (.slot 7) .nil))))))
    .nil)))))) .nil)
    (.cons (.ret (.bi .tuple false (.cons (.slot 6) .nil)))
    .nil)))))))
def f36 : Df where
  name := "_law_all_hyps"
  ps := ["system", "lower", "facts"]
  N := ["system", "lower", "facts", "k"]
  body :=
    (.cons (.ret (.lc false [("k", 3)] (.nm 3) (.range1 (.cons (.bi .len false (.cons (.ix (.slot 0) (.k (.int 1))) .nil)) .nil)) .yes (.call 35 (.cons (.slot 0) (.cons (.slot 1) (.cons (.slot 2) (.cons (.slot 3) .nil)))))))
    .nil)
def f37 : Df where
  name := "_law_names"
  ps := ["forms"]
  N := ["forms", "found", "f", "name", "number"]
  body :=
    (.cons (.set 1 (.lst true .nil))
    (.cons (.for (.nm 2) (.val (.slot 0)) (.cons (.for (.tp 2 (.cons (.nm 3) (.cons (.nm 4) .nil))) (.val (.ix (.slot 2) (.k (.int 1)))) (.cons (.iff (.cmp .NotIn (.slot 3) (.slot 1)) (.cons (.expr (.meth .append (.slot 1) (.cons (.slot 3) .nil)))
    .nil) .nil)
    .nil))
    .nil))
    (.frz 1 (.cons (.ret (.bi .sorted false (.cons (.slot 1) .nil)))
    .nil))))
def f38 : Df where
  name := "_law_known_life"
  ps := ["system", "facts", "hyps", "edge", "table", "shut"]
  N := ["system", "facts", "hyps", "edge", "table", "shut", "s", "at", "weights", "name"]
  body :=
    (.cons (.iff (.cmp .Eq (.slot 5) (.k (.int 0))) (.cons (.ret (.tup (.cons (.k (.str "alive")) (.cons (.tup (.cons (.k (.str "case")) (.cons (.k (.int 1)) (.cons (.bi .tuple false (.cons (.lc false [("name", 9)] (.nm 9) (.val (.call 37 (.cons (.slot 2) .nil))) .yes (.tup (.cons (.slot 9) (.cons (.ix (.slot 4) (.slot 9)) .nil)))) .nil)) .nil)))) .nil))))
    .nil) .nil)
    (.cons (.set 6 (.ix (.ix (.slot 0) (.k (.int 1))) (.slot 3)))
    (.cons (.set 7 (.bin .Sub false (.bin .Add false (.bi .len false (.cons (.ix (.ix (.ix (.slot 0) (.k (.int 0))) (.ix (.slot 6) (.k (.int 1)))) (.k (.int 6))) .nil)) (.bi .len false (.cons (.ix (.slot 6) (.k (.int 5))) .nil))) (.k (.int 2))))
    (.cons (.iff (.cmp .NotEq (.ix (.slot 6) (.k (.int 2))) (.k (.int 0))) (.cons (.set 7 (.bin .Add false (.bin .Add false (.slot 7) (.bi .len false (.cons (.ix (.ix (.ix (.slot 0) (.k (.int 0))) (.ix (.slot 6) (.k (.int 1)))) (.k (.int 7))) .nil))) (.bi .len false (.cons (.ix (.ix (.ix (.slot 1) (.ix (.slot 6) (.k (.int 1)))) (.k (.int 0))) (.ix (.slot 6) (.k (.int 2)))) .nil))))
    .nil) .nil)
    (.cons (.set 8 (.bin .Mult true (.lst false (.cons (.k (.int 0)) .nil)) (.bi .len false (.cons (.slot 2) .nil))))
    (.cons (.asg (.sb (.slot 8) (.slot 7)) (.k (.int 1)))
    (.cons (.asg (.sb (.slot 8) (.bin .Add false (.slot 7) (.k (.int 1)))) (.k (.int 1)))
    (.frz 8 (.cons (.ret (.tup (.cons (.k (.str "shut")) (.cons (.tup (.cons (.k (.str "reason")) (.cons (.slot 5) (.cons (.bi .tuple false (.cons (.slot 8) .nil)) (.cons (.k (.int 0)) .nil))))) .nil))))
    .nil)))))))))
def f39 : Df where
  name := "_law_system"
  ps := ["state", "many", "most", "inner"]
  N := ["state", "many", "most", "inner", "names", "at", "lowers", "rows", "tables", "callees", "k", "row", "table", "built", "system", "facts", "lower", "hyps", "lives", "low", "edge", "shut"]
  body :=
    (.cons (.set 4 (.bi .sorted false (.cons (.call 16 (.cons (.slot 0) (.cons (.bin .Add false (.slot 1) (.k (.int 2))) .nil))) .nil)))
    (.cons (.set 5 (.call 15 (.cons (.slot 0) (.cons (.bin .Add false (.slot 1) (.k (.int 1))) .nil))))
    (.cons (.set 6 (.lst false (.cons (.call 23 (.cons (.slot 0) (.cons (.ix (.slot 4) (.slot 5)) .nil))) (.cons (.call 23 (.cons (.slot 0) (.cons (.ix (.slot 4) (.bin .Add false (.slot 5) (.k (.int 1)))) .nil))) .nil))))
    (.cons (.set 4 (.bin .Add false (.sl false (.slot 4) .absent (.slot 5)) (.sl false (.slot 4) (.bin .Add false (.slot 5) (.k (.int 2))) .absent)))
    (.cons (.set 7 (.lst true .nil))
    (.cons (.set 8 (.lst true .nil))
    (.cons (.swp 9 (.lc false [("low", 19)] (.nm 19) (.val (.slot 6)) .yes (.sl false (.slot 19) .absent (.k (.int 4)))))
    (.cons (.for (.nm 10) (.range1 (.cons (.slot 1) .nil)) (.cons (.asg (.tp 2 (.cons (.nm 11) (.cons (.nm 12) .nil))) (.call 25 (.cons (.slot 0) (.cons (.ix (.slot 4) (.slot 10)) (.cons (.slot 2) .nil)))))
    (.cons (.expr (.meth .append (.slot 7) (.cons (.slot 11) .nil)))
    (.cons (.expr (.meth .append (.slot 8) (.cons (.slot 12) .nil)))
    (.cons (.iff (.tru (.slot 3)) (.cons (.set 9 (.bin .Add false (.slot 9) (.lst false (.cons (.tup (.cons (.slot 10) (.cons (.ix (.slot 11) (.k (.int 1))) (.cons (.ix (.slot 11) (.k (.int 4))) (.cons (.slot 12) .nil))))) (.cons (.tup (.cons (.slot 10) (.cons (.ix (.slot 11) (.k (.int 1))) (.cons (.ix (.slot 11) (.k (.int 4))) (.cons (.slot 12) .nil))))) .nil)))))
    .nil) .nil)
    .nil)))))
    (.frz 8 (.frz 7 (.cons (.set 13 (.lst false .nil))
    (.cons (.for (.nm 10) (.range1 (.cons (.slot 1) .nil)) (.cons (.set 13 (.bin .Add false (.slot 13) (.call 31 (.cons (.slot 0) (.cons (.slot 10) (.cons (.ix (.slot 7) (.slot 10)) (.cons (.ix (.slot 8) (.slot 10)) (.cons (.slot 9) .nil))))))))
    .nil))
    (.cons (.set 14 (.tup (.cons (.bi .tuple false (.cons (.slot 7) .nil)) (.cons (.bi .tuple false (.cons (.lc false [("edge", 20), ("table", 12), ("shut", 21)] (.tp 3 (.cons (.nm 20) (.cons (.nm 12) (.cons (.nm 21) .nil)))) (.val (.slot 13)) .yes (.slot 20)) .nil)) .nil))))
    (.cons (.set 15 (.bi .tuple false (.cons (.lc false [("k", 10)] (.nm 10) (.range1 (.cons (.slot 1) .nil)) .yes (.call 32 (.cons (.slot 0) (.cons (.ix (.slot 7) (.slot 10)) (.cons (.ix (.slot 8) (.slot 10)) .nil))))) .nil)))
    (.cons (.set 16 (.bi .tuple false (.cons (.lc false [("low", 19)] (.nm 19) (.val (.slot 6)) .yes (.ix (.slot 19) (.k (.int 4)))) .nil)))
    (.cons (.set 17 (.call 36 (.cons (.slot 14) (.cons (.slot 16) (.cons (.slot 15) .nil)))))
    (.cons (.set 18 (.lst true .nil))
    (.cons (.for (.nm 10) (.range1 (.cons (.bi .len false (.cons (.slot 13) .nil)) .nil)) (.cons (.expr (.meth .append (.slot 18) (.cons (.call 38 (.cons (.slot 14) (.cons (.slot 15) (.cons (.ix (.slot 17) (.slot 10)) (.cons (.slot 10) (.cons (.ix (.ix (.slot 13) (.slot 10)) (.k (.int 1))) (.cons (.ix (.ix (.slot 13) (.slot 10)) (.k (.int 2))) .nil))))))) .nil)))
    .nil))
    (.frz 18 (.cons (.ret (.tup (.cons (.slot 14) (.cons (.slot 16) (.cons (.slot 15) (.cons (.bi .tuple false (.cons (.slot 18) .nil)) (.cons (.slot 17) .nil)))))))
    .nil))))))))))))))))))))
def f40 : Df where
  name := "_law_identity"
  ps := ["names"]
  N := ["names", "name"]
  body :=
    (.cons (.ret (.bi .tuple false (.cons (.lc false [("name", 1)] (.nm 1) (.val (.slot 0)) .yes (.call 33 (.cons (.slot 1) .nil))) .nil)))
    .nil)
def f41 : Df where
  name := "_law_names_at"
  ps := ["system", "proc", "point"]
  N := ["system", "proc", "point", "row"]
  body :=
    (.cons (.set 3 (.ix (.ix (.slot 0) (.k (.int 0))) (.slot 1)))
    (.cons (.iff (.cmp .Eq (.slot 2) (.k (.int 0))) (.cons (.ret (.ix (.slot 3) (.k (.int 1))))
    .nil) .nil)
    (.cons (.iff (.cmp .Lt (.slot 2) (.k (.int 0))) (.cons (.ret (.bin .Add false (.ix (.slot 3) (.k (.int 1))) (.ix (.slot 3) (.k (.int 4)))))
    .nil) .nil)
    (.cons (.ret (.bin .Add false (.ix (.slot 3) (.k (.int 1))) (.ix (.slot 3) (.k (.int 2)))))
    .nil))))
def f42 : Df where
  name := "_law_is_int"
  ps := ["x"]
  N := ["x"]
  body :=
    (.cons (.ret (.and2 (.isin "int" (.slot 0)) (.one (.nt (.isin "bool" (.slot 0))))))
    .nil)
def f43 : Df where
  name := "_law_same"
  ps := ["x", "y"]
  N := ["x", "y", "k"]
  body :=
    (.cons (.iff (.tru (.isin "tuple" (.slot 1))) (.cons (.iff (.or2 (.nt (.tru (.isin "tuple" (.slot 0)))) (.one (.cmp .NotEq (.bi .len false (.cons (.slot 0) .nil)) (.bi .len false (.cons (.slot 1) .nil))))) (.cons (.ret (.k (.bl false)))
    .nil) .nil)
    (.cons (.ret (.bi .all false (.cons (.lc false [("k", 2)] (.nm 2) (.range1 (.cons (.bi .len false (.cons (.slot 1) .nil)) .nil)) .yes (.call 43 (.cons (.ix (.slot 0) (.slot 2)) (.cons (.ix (.slot 1) (.slot 2)) .nil)))) .nil)))
    .nil)) .nil)
    (.cons (.iff (.tru (.isin "str" (.slot 1))) (.cons (.ret (.and2 (.isin "str" (.slot 0)) (.one (.cmp .Eq (.slot 0) (.slot 1)))))
    .nil) .nil)
    (.cons (.ret (.and2 (.call 42 (.cons (.slot 0) .nil)) (.one (.cmp .Eq (.slot 0) (.slot 1)))))
    .nil)))
def f44 : Df where
  name := "_law_bound_problem"
  ps := ["system", "hyps", "alive", "proc", "outcome", "sign"]
  N := ["system", "hyps", "alive", "proc", "outcome", "sign", "row", "at", "conditions", "k", "s", "base", "states", "unknowns", "point"]
  body :=
    (.cons (.set 6 (.ix (.ix (.slot 0) (.k (.int 0))) (.slot 3)))
    (.cons (.set 7 (.ix (.lc false [("k", 9)] (.nm 9) (.range1 (.cons (.bi .len false (.cons (.ix (.slot 6) (.k (.int 4))) .nil)) .nil)) (.cmp .Eq (.ix (.ix (.slot 6) (.k (.int 4))) (.slot 9)) (.slot 4)) (.slot 9)) (.k (.int 0))))
    (.cons (.set 8 (.lst true .nil))
    (.cons (.for (.nm 9) (.val (.slot 2)) (.cons (.set 10 (.ix (.ix (.slot 0) (.k (.int 1))) (.slot 9)))
    (.cons (.iff (.cmp .Eq (.ix (.slot 10) (.k (.int 1))) (.slot 3)) (.cons (.set 11 (.tup (.cons (.k (.int 1)) (.cons (.ix (.slot 10) (.k (.int 2))) (.cons (.call 40 (.cons (.call 41 (.cons (.slot 0) (.cons (.slot 3) (.cons (.ix (.slot 10) (.k (.int 2))) .nil)))) .nil)) .nil)))))
    (.cons (.set 12 (.call 40 (.cons (.ix (.slot 6) (.k (.int 2))) .nil)))
    (.cons (.iff (.cmp .Eq (.ix (.slot 10) (.k (.int 0))) (.k (.str "step"))) (.cons (.set 12 (.ix (.slot 10) (.k (.int 6))))
    .nil) .nil)
    (.cons (.iff (.cmp .Eq (.ix (.slot 10) (.k (.int 3))) (.neg (.k (.int 1)))) (.cons (.expr (.meth .append (.slot 8) (.cons (.tup (.cons (.ix (.slot 1) (.slot 9)) (.cons (.tup (.cons (.slot 11) .nil)) (.cons (.call 19 (.cons (.lst false (.cons (.tup (.cons (.neg (.slot 5)) (.cons (.ix (.ix (.slot 10) (.k (.int 6))) (.slot 7)) .nil))) .nil)) .nil)) (.cons (.k (.int 0)) .nil))))) .nil)))
    .nil) (.cons (.expr (.meth .append (.slot 8) (.cons (.tup (.cons (.ix (.slot 1) (.slot 9)) (.cons (.tup (.cons (.slot 11) (.cons (.tup (.cons (.neg (.k (.int 1))) (.cons (.ix (.slot 10) (.k (.int 3))) (.cons (.bin .Add false (.call 40 (.cons (.ix (.slot 6) (.k (.int 1))) .nil)) (.slot 12)) .nil)))) .nil))) (.cons (.tup (.cons (.k (.int 0)) (.cons (.tup .nil) .nil))) (.cons (.k (.int 0)) .nil))))) .nil)))
    .nil))
    .nil)))) .nil)
    .nil)))
    (.frz 8 (.cons (.set 13 (.bi .tuple false (.cons (.lc false [("point", 14)] (.nm 14) (.range1 (.cons (.bi .len false (.cons (.ix (.slot 6) (.k (.int 3))) .nil)) .nil)) .yes (.call 41 (.cons (.slot 0) (.cons (.slot 3) (.cons (.slot 14) .nil))))) .nil)))
    (.cons (.ret (.tup (.cons (.slot 13) (.cons (.bi .tuple false (.cons (.slot 8) .nil)) (.cons (.tup (.cons (.tup (.cons (.k (.int 0)) (.cons (.k (.int 1)) .nil))) .nil)) .nil)))))
    .nil)))))))
def f45 : Df where
  name := "law"
  ps := ["script"]
  N := ["script", "state", "most", "system", "lower", "facts", "lives", "hyps", "alive", "before", "turn", "proc", "outcomes", "outcome", "sign", "due", "k"]
  body :=
    (.cons (.set 1 (.call 14 (.cons (.slot 0) .nil)))
    (.cons (.set 2 (.k (.int 3)))
    (.cons (.iff (.cmp .Eq (.call 15 (.cons (.slot 1) (.cons (.k (.int 8)) .nil))) (.k (.int 0))) (.cons (.set 2 (.k (.int 5)))
    .nil) .nil)
    (.cons (.asg (.tp 5 (.cons (.nm 3) (.cons (.nm 4) (.cons (.nm 5) (.cons (.nm 6) (.cons (.nm 7) .nil)))))) (.call 39 (.cons (.slot 1) (.cons (.bin .Add false (.k (.int 1)) (.call 15 (.cons (.slot 1) (.cons (.k (.int 3)) .nil)))) (.cons (.slot 2) (.cons (.k (.bl true)) .nil))))))
    (.cons (.swp 8 (.lc false [("k", 16)] (.nm 16) (.range1 (.cons (.bi .len false (.cons (.slot 6) .nil)) .nil)) (.cmp .Eq (.ix (.ix (.slot 6) (.slot 16)) (.k (.int 0))) (.k (.str "alive"))) (.slot 16)))
    (.cons (.set 9 (.bi .repr false (.cons (.tup (.cons (.slot 3) (.cons (.slot 4) (.cons (.slot 5) (.cons (.slot 6) .nil))))) .nil)))
    (.cons (.for (.nm 10) (.range1 (.cons (.k (.int 4)) .nil)) (.cons (.set 11 (.call 15 (.cons (.slot 1) (.cons (.bi .len false (.cons (.ix (.slot 3) (.k (.int 0))) .nil)) .nil))))
    (.cons (.set 12 (.ix (.ix (.ix (.slot 3) (.k (.int 0))) (.slot 11)) (.k (.int 4))))
    (.cons (.set 13 (.ix (.slot 12) (.call 15 (.cons (.slot 1) (.cons (.bi .len false (.cons (.slot 12) .nil)) .nil)))))
    (.cons (.for (.nm 14) (.val (.lst false (.cons (.k (.int 1)) (.cons (.neg (.k (.int 1))) .nil)))) (.cons (.set 15 (.call 44 (.cons (.slot 3) (.cons (.slot 7) (.cons (.slot 8) (.cons (.slot 11) (.cons (.slot 13) (.cons (.slot 14) .nil))))))))
    (.cons (.iff (.nt (.tru (.call 43 (.cons (.call 13 (.cons (.slot 3) (.cons (.slot 4) (.cons (.slot 5) (.cons (.slot 6) (.cons (.slot 11) (.cons (.slot 13) (.cons (.slot 14) .nil)))))))) (.cons (.slot 15) .nil))))) (.cons (.ret (.k (.bl false)))
    .nil) .nil)
    .nil)))
    .nil)))))
    (.cons (.ret (.cmp .Eq (.bi .repr false (.cons (.tup (.cons (.slot 3) (.cons (.slot 4) (.cons (.slot 5) (.cons (.slot 6) .nil))))) .nil)) (.slot 9)))
    .nil))))))))
def P : Pg := [f0, f1, f2, f3, f4, f5, f6, f7, f8, f9, f10, f11, f12, f13, f14, f15, f16, f17, f18, f19, f20, f21, f22, f23, f24, f25, f26, f27, f28, f29, f30, f31, f32, f33, f34, f35, f36, f37, f38, f39, f40, f41, f42, f43, f44, f45]
def bs : List Str := ["tuple", "sorted", "isinstance", "str", "list", "range", "len", "enumerate", "int", "abs", "max", "bool", "all", "repr"]
def gl : List (Str × Dt) := [("ZERO", (.tuple [(.int (0)), (.tuple [])]))]
def cs : List Cd := []
end PvK

namespace PvK
open PySem PySem.Spec PyProof.Rows L2 Pv
/-! draws, words, what is the same -/
theorem draw_ok (m : Nat) (k : Nat) (s : Ds) (tl : List Ob) (hm : 0 < m) (hm2 : m < 2 ^ 64) (Q : Val → List Ob → Prop)
    (q : ∀ (r : Nat) s', r < m → Q (.d (.int (r : Int))) (St s' :: tl)) : W (callP P gl (k + 1) 15 [.ref 0, .d (.int (m : Int))]) (St s :: tl) Q := by
  have q : ∀ (r : Int) s', 0 ≤ r → r < (m : Int) → Q (.d (.int r)) (St s' :: tl) := fun r s' h0 h1 => by
    obtain ⟨r, rfl⟩ := Int.eq_ofNat_of_zero_le h0
    exact q r s' (by omega)
  have hm : (0 : Int) < (m : Int) := by omega
  have hm2 : (m : Int).natAbs < 2 ^ 64 := by rw [Int.natAbs_natCast]; exact hm2
  generalize (m : Int) = m at *
  refine w_def (nm := f15.name) (ps := f15.ps) (N := f15.N) (body := f15.body) (env := [some (.ref 0), some (.d (.int m)), none, none, none]) rfl rfl ?_
  unfold f15
  walk_at "pv all"
  refine ci_gt (fun h => ?_) (fun h => ?_)
  · walk_at "pv all"
    exact q _ _ (Int.emod_nonneg _ (by omega)) (Int.emod_lt_of_pos _ hm)
  · walk_at "pv all"
    refine ci_gt (fun h => ?_) (fun h => ?_)
    · walk_at "pv all"
      obtain ⟨j, hj⟩ := Int.eq_ofNat_of_zero_le (Int.emod_nonneg s.pos (show ((s.sc.map PyData.int).length : Int) ≠ 0 by have h : (0 : Int) < (s.sc.map PyData.int).length := h; omega))
      have hl : j < (s.sc.map PyData.int).length := by
        have h : (0 : Int) < (s.sc.map PyData.int).length := h
        have := Int.emod_lt_of_pos s.pos h
        omega
      have hx : (s.sc.map PyData.int)[j]? = some (.int (s.sc[j]'(by rwa [List.length_map] at hl))) := by
        rw [List.getElem?_map, List.getElem?_eq_getElem (by rwa [List.length_map] at hl)]
        rfl
      refine ix_list hj hx ?_
      walk_at "pv all"
      refine ci_ge (fun h => ?_) (fun h => ?_)
      · walk_at "pv all"
        exact q _ _ (Int.emod_nonneg _ (by omega)) (Int.emod_lt_of_pos _ hm)
      · walk_at "pv all"
        exact q _ _ (Int.emod_nonneg _ (by omega)) (Int.emod_lt_of_pos _ hm)
    · walk_at "pv all"
      refine ci_ge (fun h => ?_) (fun h => ?_)
      · walk_at "pv all"
        exact q _ _ (Int.emod_nonneg _ (by omega)) (Int.emod_lt_of_pos _ hm)
      · walk_at "pv all"
        exact q _ _ (Int.emod_nonneg _ (by omega)) (Int.emod_lt_of_pos _ hm)
theorem start_ok (k : Nat) (ns : List Int) (Q : Val → List Ob → Prop) (q : Q (.ref 0) [St ⟨ns, 0, 0, 0⟩]) : W (callP P gl (k + 1) 14 [.d (.list (ns.map PyData.int))]) [] Q := by
  refine w_call (d := f14) rfl ⟨.ref 0, [St ⟨ns, 0, 0, 0⟩], ?_, q⟩
  have e : mBody f14.N.length (evSs gl (callP P gl k) f14.body) [.d (.list (ns.map PyData.int))] [] = some (.ref 0, [St ⟨ns, 0, 0, 0⟩]) := by
    have e2 : W (evSs gl (callP P gl k) f14.body [some (.d (.list (ns.map PyData.int)))]) [] fun fl mh' => fl = .rt (.ref 0) ∧ mh' = [St ⟨ns, 0, 0, 0⟩] := by
      show WS gl (callP P gl k) f14.body _ _ _
      unfold f14
      walk_at "pv all"
      exact ⟨rfl, rfl⟩
    obtain ⟨fl, mh', e3, rfl, rfl⟩ := e2
    exact M.bind_some.mpr ⟨_, _, e3, rfl⟩
  unfold frame
  rw [e]
  exact if_pos ⟨trivial, rfl⟩
def ltr (s r k : Nat) : Nat := 97 + (s + k * (1 + 2 * r)) % 26
theorem ltr_inj {s r a b : Nat} (hr : r < 6) (ha : a < 26) (hb : b < 26) (h : ltr s r a = ltr s r b) : a = b := by
  unfold ltr at h
  have : r = 0 ∨ r = 1 ∨ r = 2 ∨ r = 3 ∨ r = 4 ∨ r = 5 := by omega
  rcases this with rfl | rfl | rfl | rfl | rfl | rfl <;> omega
theorem abc_at : ((List.range 26).all fun j => decide ((Str.ofString "abcdefghijklmnopqrstuvwxyz").cps.toList[j]? = some (97 + j))) = true := by decide +kernel
theorem abc_get {j : Nat} (h : j < 26) : (Str.ofString "abcdefghijklmnopqrstuvwxyz").cps.toList[j]? = some (97 + j) :=
  of_decide_eq_true (List.all_eq_true.mp abc_at j (List.mem_range.mpr h))
theorem abc_len : (Str.ofString "abcdefghijklmnopqrstuvwxyz").length ≤ sizeLine := by decide +kernel
/-- a word: one to four small letters -/
def Wrd (x : Str) : Prop := x.length ≤ 4 ∧ ∃ a as, x.cps.toList = a :: as ∧ 97 ≤ a ∧ a ≤ 122 ∧ ∀ b ∈ as, 97 ≤ b ∧ b ≤ 122
def wrdB (x : Str) : Bool := decide (x.length ≤ 3) && x.cps.toList.all fun b => decide (97 ≤ b) && decide (b ≤ 122)
theorem qxz_dec : ((List.range 4).all fun r => wrdB (cutS (Str.ofString "qxz") none (some (r : Int)))) = true := by decide +kernel
theorem wrdB_ok {x : Str} (h : wrdB x = true) : x.length ≤ 3 ∧ ∀ b ∈ x.cps.toList, 97 ≤ b ∧ b ≤ 122 := by
  unfold wrdB at h
  rw [Bool.and_eq_true, decide_eq_true_eq] at h
  refine ⟨h.1, fun b hb => ?_⟩
  have := List.all_eq_true.mp h.2 b hb
  rw [Bool.and_eq_true, decide_eq_true_eq, decide_eq_true_eq] at this
  exact this
theorem app_list (x y : Str) : (x ++ y).cps.toList = x.cps.toList ++ y.cps.toList := by
  show (x.cps ++ y.cps).toList = _
  simp
theorem ltr_le (s r k : Nat) : 97 ≤ ltr s r k ∧ ltr s r k ≤ 122 := by unfold ltr; omega
theorem wrd_pre {z : Str} {n : Nat} (h : wrdB z = true) (h1 : 97 ≤ n ∧ n ≤ 122) : Wrd (z ++ ⟨#[n]⟩) := by
  obtain ⟨a, b⟩ := wrdB_ok h
  refine ⟨by rw [len_app]; have : (⟨#[n]⟩ : Str).length = 1 := rfl; omega, ?_⟩
  rw [app_list]
  cases e : z.cps.toList with
  | nil => exact ⟨n, [], rfl, h1.1, h1.2, fun _ h => nomatch h⟩
  | cons c cs =>
    rw [e] at b
    refine ⟨c, cs ++ [n], rfl, (b c List.mem_cons_self).1, (b c List.mem_cons_self).2, fun d hd => ?_⟩
    rcases List.mem_append.mp hd with hd | hd
    · exact b d (List.mem_cons_of_mem _ hd)
    · rw [List.mem_singleton.mp hd]; exact h1
theorem wrd_suf {z : Str} {n : Nat} (h : wrdB z = true) (h1 : 97 ≤ n ∧ n ≤ 122) : Wrd (⟨#[n]⟩ ++ z) := by
  obtain ⟨a, b⟩ := wrdB_ok h
  refine ⟨by rw [len_app]; have : (⟨#[n]⟩ : Str).length = 1 := rfl; omega, ?_⟩
  rw [app_list]
  exact ⟨n, z.cps.toList, rfl, h1.1, h1.2, b⟩
theorem Wrd.so {x : Str} (h : Wrd x) : PyData.strOk x = true := by
  obtain ⟨_, a, as, e, h1, h2, h3⟩ := h
  unfold PyData.strOk
  rw [← Array.all_toList, e, List.all_eq_true]
  intro b hb
  rcases List.mem_cons.mp hb with rfl | hb
  · exact decide_eq_true (by omega)
  · have := h3 b hb
    exact decide_eq_true (by omega)
theorem Wrd.ok4 {x : Str} (h : Wrd x) : SN 4 x := ⟨h.so, h.1⟩
theorem Wrd.ok {x : Str} (h : Wrd x) : SM x := h.ok4.up (by decide)
theorem pre_inj {x : Str} {a b : Nat} (h : x ++ (⟨#[a]⟩ : Str) = x ++ ⟨#[b]⟩) : a = b := by
  have h2 := congrArg (fun z => z.cps.toList) h
  simp only [app_list] at h2
  have := List.append_cancel_left h2
  simpa using this
theorem suf_inj {x : Str} {a b : Nat} (h : (⟨#[a]⟩ : Str) ++ x = ⟨#[b]⟩ ++ x) : a = b := by
  have h2 := congrArg (fun z => z.cps.toList) h
  simp only [app_list] at h2
  have := List.append_cancel_right h2
  simpa using this
theorem words_ok (n : Nat) (k : Nat) (s : Ds) (tl : List Ob) (hn : n ≤ 26) (Q : Val → List Ob → Prop)
    (q : ∀ ws s', ws.length = n → ws.Nodup → (∀ x ∈ ws, Wrd x) → Q (.d (strD ws)) (St s' :: tl)) : W (callP P gl (k + 2) 16 [.ref 0, .d (.int (n : Int))]) (St s :: tl) Q := by
  refine w_def (nm := f16.name) (ps := f16.ps) (N := f16.N) (body := f16.body) (env := [some (.ref 0), some (.d (.int n)), none, none, none, none, none]) rfl rfl ?_
  unfold f16
  walk_at "pv all"
  refine draw_ok 26 _ _ _ (by decide) (by decide) _ fun a s1 a1 => ?_
  walk_at "pv all"
  refine draw_ok 6 _ _ _ (by decide) (by decide) _ fun r s2 r1 => ?_
  walk_at "pv all"
  refine draw_ok 4 _ _ _ (by decide) (by decide) _ fun c s3 c1 => ?_
  have hq := List.all_eq_true.mp qxz_dec c (List.mem_range.mpr c1)
  walk_at "pv eq"
  refine wr_slS (by decide +kernel) ?_
  generalize cutS (Str.ofString "qxz") none (some (c : Int)) = z at *
  have hz := (wrdB_ok hq).1
  walk_at "pv all"
  refine draw_ok 2 _ _ _ (by decide) (by decide) _ fun e s4 e1 => ?_
  walk_at "pv all"
  have hidx : ∀ i : Nat, ((a : Int) + (i : Int) * (1 + 2 * (r : Int))) % 26 = (((a + i * (1 + 2 * r)) % 26 : Nat) : Int) := by
    intro i
    push_cast
    rfl
  have hsz : ∀ i, z.length + (⟨#[ltr a r i]⟩ : Str).length ≤ sizeLine := fun i => by
    have : (⟨#[ltr a r i]⟩ : Str).length = 1 := rfl
    have h2 : sizeLine = 16777216 := rfl
    omega
  have hsz' : ∀ i, (⟨#[ltr a r i]⟩ : Str).length + z.length ≤ sizeLine := fun i => by
    have := hsz i
    omega
  refine ci_eq (fun h => ?_) (fun h => ?_)
  · walk_at "pv all"
    refine rg1 rfl (by omega) ?_
    rw [rg_map]
    refine wc_map (r := fun i => Val.d (.str (z ++ ⟨#[ltr a r i]⟩))) gnil (fun i hi => ?_) ?_
    · walk_at "pv all"
      refine wr_mul (mul64 (by omega)) ?_
      walk_at "pv all"
      refine ixS_str abc_len (hidx i) (abc_get (Nat.mod_lt _ (by decide))) ?_
      refine wr_addS (hsz i) ⟨rfl, rfl⟩
    · refine wr_nl (ds := (List.range n).map fun i => .str (z ++ ⟨#[ltr a r i]⟩)) (by rw [List.map_map]; rfl) ?_
      refine fin0 ?_
      have := q ((List.range n).map fun i => z ++ ⟨#[ltr a r i]⟩) s4 (by simp) (nodup_map (fun x hx y hy e => ltr_inj r1 (by have := List.mem_range.mp hx; omega) (by have := List.mem_range.mp hy; omega) (pre_inj e)) List.nodup_range) fun x hx => by
        obtain ⟨i, hi, rfl⟩ := List.mem_map.mp hx
        exact wrd_pre hq (ltr_le _ _ _)
      unfold strD at this
      rw [List.map_map] at this
      exact this
  · walk_at "pv all"
    refine rg1 rfl (by omega) ?_
    rw [rg_map]
    refine wc_map (r := fun i => Val.d (.str (⟨#[ltr a r i]⟩ ++ z))) gnil (fun i hi => ?_) ?_
    · walk_at "pv all"
      refine wr_mul (mul64 (by omega)) ?_
      walk_at "pv all"
      refine ixS_str abc_len (hidx i) (abc_get (Nat.mod_lt _ (by decide))) ?_
      walk_at "pv all"
      refine wr_addS (hsz' i) ⟨rfl, rfl⟩
    · refine wr_nl (ds := (List.range n).map fun i => .str (⟨#[ltr a r i]⟩ ++ z)) (by rw [List.map_map]; rfl) ?_
      refine fin0 ?_
      have := q ((List.range n).map fun i => ⟨#[ltr a r i]⟩ ++ z) s4 (by simp) (nodup_map (fun x hx y hy e => ltr_inj r1 (by have := List.mem_range.mp hx; omega) (by have := List.mem_range.mp hy; omega) (suf_inj e)) List.nodup_range) fun x hx => by
        obtain ⟨i, hi, rfl⟩ := List.mem_map.mp hx
        exact wrd_suf hq (ltr_le _ _ _)
      unfold strD at this
      rw [List.map_map] at this
      exact this
theorem isint_ok (k : Nat) (mh : List Ob) (r : Int) (Q : Val → List Ob → Prop) (q : Q (.d (.bool true)) mh) : W (callP P gl (k + 1) 42 [.d (.int r)]) mh Q := by
  refine w_pure (nm := f42.name) (ps := f42.ps) (N := f42.N) (body := f42.body) (env := [some (.d (.int r))]) rfl rfl ?_
  unfold f42
  walk_at "pv all"
  exact q
/-! the same -/
theorem all_true {mh : List Ob} {n : Nat} : Bi.f .all mh [.d (.list (List.replicate n (.bool true)))] = some (.v (.d (.bool true))) := by
  have h : (seqL mh (.d (.list (List.replicate n (.bool true))))).bind (allOf asBl) = some (List.replicate n true) := by
    have := allOf_map (f := asBl) (g := fun b => Val.d (.bool b)) (fun _ => rfl) (List.replicate n true)
    rw [List.map_replicate] at this
    show allOf asBl ((List.replicate n (PyData.bool true)).map Val.d) = _
    rw [List.map_replicate]
    exact this
  show allVl mh [.d (.list (List.replicate n (.bool true)))] = _
  unfold allVl
  simp only [h]
  simp
theorem same_ok : ∀ (n : Nat) (x : Dt) (k : Nat) (mh : List Ob) (Q : Val → List Ob → Prop), Pl n x → Q (.d (.bool true)) mh → W (callP P gl (k + n + 2) 43 [.d x, .d x]) mh Q := by
  intro n
  induction n with
  | zero =>
    intro x k mh Q hx q
    refine w_pure (nm := f43.name) (ps := f43.ps) (N := f43.N) (body := f43.body) (env := [some (.d x), some (.d x), none]) rfl rfl ?_
    unfold f43
    cases x with
    | int i =>
      walk_at "pv all"
      refine isint_ok _ _ _ _ ?_
      walk_at "pv all"
      simpa using q
    | str i =>
      walk_at "pv all"
      simpa using q
    | tuple xs => exact absurd hx.2 (by simp [PyData.depth])
    | _ => exact absurd hx.1 (by simp [plD])
  | succ n ih =>
    intro x k mh Q hx q
    cases x with
    | int i => 
      have := ih (.int i) (k + 1) mh Q (pl_int _) q
      rw [show k + 1 + n + 2 = k + (n + 1) + 2 by omega] at this
      exact this
    | str i => 
      have := ih (.str i) (k + 1) mh Q (pl_str _) q
      rw [show k + 1 + n + 2 = k + (n + 1) + 2 by omega] at this
      exact this
    | tuple xs =>
      have hl : xs.length < 1000000 ∧ plAll xs = true := by
        have := hx.1
        simp only [plD, Bool.and_eq_true, decide_eq_true_eq] at this
        exact this
      have hd : PyData.depthAll xs ≤ n := by
        have := hx.2
        simp only [PyData.depth] at this
        omega
      refine w_pure (k := k + n + 2) (nm := f43.name) (ps := f43.ps) (N := f43.N) (body := f43.body) (env := [some (.d (.tuple xs)), some (.d (.tuple xs)), none]) rfl rfl ?_
      unfold f43
      walk_at "pv all"
      refine cmp_f (by simp [cmpF, eqV2, pureD, eqD, bR]) ?_
      walk_at "pv all"
      refine rg1 rfl (by omega) ?_
      rw [rg_map]
      refine wc_map (r := fun _ => Val.d (.bool true)) gnil (fun i hi => ?_) ?_
      · have hi := List.mem_range.mp hi
        walk_at "pv all"
        refine ix_tup rfl (List.getElem?_eq_getElem hi) ?_
        walk_at "pv all"
        refine ix_tup rfl (List.getElem?_eq_getElem hi) ?_
        walk_at "pv all"
        refine ih xs[i] k mh _ ⟨plAll_iff.mp hl.2 _ (List.getElem_mem hi), Nat.le_trans (le_depthAll (List.getElem_mem hi)) hd⟩ ⟨rfl, rfl⟩
      · refine wr_nl (ds := List.replicate xs.length (.bool true)) (by rw [List.map_replicate, List.map_const', List.length_range]) ?_
        walk_at "pv all"
        refine wr_v all_true ?_
        walk_at "pv all"
        exact q
    | _ => exact absurd hx.1 (by simp [plD])
end PvK

namespace PvK
open PySem PySem.Spec PyProof.Rows L2 Pv
/-! forms of the law's own -/
def sqd (b : Bool) (ds : List Dt) : Dt := if b = true then .list ds else .tuple ds
abbrev nsd (b : Bool) (ns : List Str) : Dt := sqd b (ns.map .str)
theorem wr_lenS {b : Bool} {ds : List Dt} {mh : List Ob} {Q : Val → List Ob → Prop} (q : Q (.d (.int ds.length)) mh) : WR false (Bi.f .len mh [.d (sqd b ds)]) mh Q := by
  cases b
  · exact wr_lenT q
  · exact wr_len q
theorem ix_S {b : Bool} {ds : List Dt} {mh : List Ob} {j : Nat} {i : Int} {v : Dt} {R : Val → Prop} (e : i = (j : Int)) (h : ds[j]? = some v) (q : R (.d v)) : ∃ v, ixVl mh (.d (sqd b ds)) (.d (.int i)) = some v ∧ R v := by
  cases b
  · exact ix_tup e h q
  · exact ix_list e h q
theorem ixo_S {α : Type} {b : Bool} {xs : List α} {em : α → Dt} {mh : List Ob} {R : Ix → Prop} (q : R ⟨xs.map fun x => Val.d (em x), []⟩) : ∃ ix, ixOf mh (.d (sqd b (xs.map em))) = some ix ∧ R ix := by
  cases b
  · exact ix_T q
  · exact ix_L q
theorem wr_sortD {α : Type} {em : α → Dt} {mh : List Ob} {Q : Val → List Ob → Prop} {m : List (Str × α)} (hl : m.length < 64) (q : Q (.d (strD (sortS (m.map (·.1))))) mh) : WR false (Bi.f .sorted mh [.d (datK em m)]) mh Q := by
  refine wr_nl (ds := (sortS (List.map (fun p : Str × α => p.1) m)).map .str) ?_ q
  show sortVl mh [.d (datK em m)] = _
  have h0 : dctOf mh (.d (datK em m)) = some (mapK em m) := dct_dat
  unfold sortVl
  simp only [h0, keysS_mapK]
  rw [if_pos (by rw [List.length_map]; exact hl), List.map_map]
  rfl
theorem form_ok (b : Bool) (k : Nat) (mh : List Ob) (c : Int) (ps : List (Str × Int)) (hp : ps.length < 100000) (hn : (accF ps).length < 64) (Q : Val → List Ob → Prop)
    (q : Q (.d (fm (nf c ps))) mh) : W (callP P gl (k + 1) 18 [.d (.int c), .d (sqd b (ps.map pd))]) mh Q := by
  refine w_pure (nm := f18.name) (ps := f18.ps) (N := f18.N) (body := f18.body) (env := [some (.d (.int c)), some (.d (sqd b (ps.map pd))), none, none, none]) rfl rfl ?_
  unfold f18
  walk_at "pv all"
  have hix : ∀ (mh : List Ob) (R : Ix → Prop), R ⟨ps.map fun x => Val.d (pd x), []⟩ → ∃ ix, ixOf mh (.d (sqd b (ps.map pd))) = some ix ∧ R ix := fun mh R h => by
    cases b
    · exact ix_T h
    · exact ix_L h
  refine hix _ _ ?_
  refine wl_invL (fun i e m => ∃ (a1 a2 : Option Val), e = [some (.d (.int c)), some (.d (sqd b (ps.map pd))), some (.ref mh.length), a1, a2] ∧ m = mh ++ [.dct (mapK .int (accF (ps.take i)))]) ⟨none, none, rfl, rfl⟩ (fun i p e m hp' I => ?_) (fun e m I => ?_)
  · obtain ⟨a1, a2, rfl, rfl⟩ := I
    have hi : i < ps.length := (List.getElem?_eq_some_iff.mp hp').1
    have hsz : (accF (ps.take i)).length < sizeLine := by have := acc_len (ps.take i); rw [List.length_take] at this; have h2 : sizeLine = 16777216 := rfl; omega
    walk_at "pv all"
    refine ⟨rcv_dct end_get, ?_⟩
    walk_at "pv all"
    refine get_t (dct_cell end_get) ?_
    have e1 : ((lkS (accF (ps.take i)) p.1).map PyData.int).getD (.int 0) = .int ((lkS (accF (ps.take i)) p.1).getD 0) := by cases lkS (accF (ps.take i)) p.1 <;> rfl
    rw [e1]
    walk_at "pv all"
    refine put_c end_get hsz ?_
    walk_at "pv all"
    rw [end_set]
    refine ⟨_, _, rfl, ?_⟩
    rw [List.take_add_one, hp']
    show _ = mh ++ [Ob.dct (mapK .int (accF (ps.take i ++ [p])))]
    rw [accF_snoc]
  · obtain ⟨a1, a2, rfl, rfl⟩ := I
    rw [List.take_length]
    refine thenS_nx ?_
    refine frz_dct rfl end_get (asDKs_mapK _ _) ?_
    rw [end_set]
    show WS _ _ _ [some (.d (.int c)), some (.d (sqd b (ps.map pd))), some (.d (datK .int (accF ps))), a1, a2] _ _
    walk_at "pv all"
    refine wr_sortD hn ?_
    refine ix_L ?_
    refine wc_filter (p := fun x => !decide (cf ps x = 0)) (r := fun x => .d (pd (x, cf ps x))) gnil (fun x hx => ?_) ?_
    · have hx2 : x ∈ (accF ps).map (·.1) := (sortS_perm _).mem_iff.mp hx
      obtain ⟨v, hv⟩ := lkS_of_mem hx2
      have hv2 : v = cf ps x := by rw [← acc_cf, hv]; rfl
      subst hv2
      walk_at "pv all"
      refine ix_t dct_dat hv ?_
      walk_at "pv all"
      refine ⟨!decide (cf ps x = 0), rfl, rfl, rfl, fun _ => ?_⟩
      walk_at "pv all"
      refine ix_t dct_dat hv ?_
      walk_at "pv all"
      exact ⟨rfl, rfl⟩
    · refine wr_nl (ds := (nfP ps).map pd) (by unfold nfP; rw [List.map_map, List.map_map]; rfl) ?_
      walk_at "pv all"
      exact q
end PvK

namespace PvK
open PySem PySem.Spec PyProof.Rows L2 Pv
abbrev partd (p : Int × Fm) : Dt := .tuple [.int p.1, fm p.2]
def prs (parts : List (Int × Fm)) : List (Str × Int) := parts.flatMap fun p => p.2.2.map fun x => (x.1, p.1 * x.2)
def csum (parts : List (Int × Fm)) : Int := parts.foldl (fun c p => c + p.1 * p.2.1) 0
def sumF (parts : List (Int × Fm)) : Fm := nf (csum parts) (prs parts)
theorem prs_snoc (parts : List (Int × Fm)) (p : Int × Fm) : prs (parts ++ [p]) = prs parts ++ p.2.2.map fun x => (x.1, p.1 * x.2) := by
  unfold prs
  rw [List.flatMap_append]
  simp
theorem csum_snoc (parts : List (Int × Fm)) (p : Int × Fm) : csum (parts ++ [p]) = csum parts + p.1 * p.2.1 := by
  unfold csum
  rw [List.foldl_append]; rfl
/-- what may be multiplied -/
def MOk (p : Int × Fm) : Prop := MulOk p.1 p.2.1 ∧ ∀ x ∈ p.2.2, MulOk p.1 x.2
theorem sum_ok2 (k : Nat) (mh : List Ob) (parts : List (Int × Fm)) (hm : ∀ p ∈ parts, MOk p) (hla : (accF (prs parts)).length < 64) (hl : (prs parts).length < 10000) (hl2 : parts.length < 1000) (Q : Val → List Ob → Prop)
    (q : Q (.d (fm (sumF parts))) mh) : W (callP P gl (k + 2) 19 [.d (.list (parts.map partd))]) mh Q := by
  refine w_pure (nm := f19.name) (ps := f19.ps) (N := f19.N) (body := f19.body) (env := [some (.d (.list (parts.map partd))), none, none, none, none, none, none]) rfl rfl ?_
  unfold f19
  walk_at "pv all"
  refine ix_L ?_
  refine wl_invL (fun i e m => ∃ (a1 a2 a3 a4 : Option Val), e = [some (.d (.list (parts.map partd))), some (.d (.int (csum (parts.take i)))), some (.ref mh.length), a1, a2, a3, a4] ∧ m = mh ++ [.lst (((prs (parts.take i)).map pd).map Val.d)]) ⟨none, none, none, none, rfl, rfl⟩ (fun i p e m hp I => ?_) (fun e m I => ?_)
  · obtain ⟨a1, a2, a3, a4, rfl, rfl⟩ := I
    obtain ⟨m1, m2⟩ := hm p (List.mem_of_getElem? hp)
    have e1 : prs (parts.take (i + 1)) = prs (parts.take i) ++ p.2.2.map fun x => (x.1, p.1 * x.2) := by rw [List.take_add_one, hp]; exact prs_snoc _ _
    have e2 : csum (parts.take (i + 1)) = csum (parts.take i) + p.1 * p.2.1 := by rw [List.take_add_one, hp]; exact csum_snoc _ _
    have hlen : (prs (parts.take (i + 1))).length ≤ (prs parts).length := by
      have : prs parts = prs (parts.take (i + 1)) ++ prs (parts.drop (i + 1)) := by
        unfold prs
        rw [← List.flatMap_append, List.take_append_drop]
      rw [this, List.length_append]; omega
    rw [e1, List.length_append, List.length_map] at hlen
    walk_at "pv all"
    refine ix_tup (j := 0) rfl rfl ?_
    refine wr_mul m1 ?_
    walk_at "pv all"
    refine ix_tup (j := 1) rfl rfl ?_
    refine ix_T ?_
    refine wl_invL (fun j e m => ∃ (a3 a4 : Option Val), e = [some (.d (.list (parts.map partd))), some (.d (.int (csum (parts.take i) + p.1 * p.2.1))), some (.ref mh.length), some (.d (.int p.1)), some (.d (fm p.2)), a3, a4] ∧ m = mh ++ [.lst (((prs (parts.take i) ++ (p.2.2.take j).map fun x => (x.1, p.1 * x.2)).map pd).map Val.d)]) ⟨a3, a4, rfl, by simp⟩ (fun j x e m hx I => ?_) (fun e m I => ?_)
    · obtain ⟨a3, a4, rfl, rfl⟩ := I
      have hj : j < p.2.2.length := (List.getElem?_eq_some_iff.mp hx).1
      walk_at "pv all"
      refine ⟨rcv_lst end_get, ?_⟩
      walk_at "pv all"
      refine wr_mul (m2 x (List.mem_of_getElem? hx)) ?_
      walk_at "pv all"
      refine app_end end_get (by rw [List.length_map, List.length_map, List.length_append, List.length_map, List.length_take]; exact big_sz (by omega)) ?_
      walk_at "pv all"
      rw [end_set]
      refine ⟨_, _, rfl, ?_⟩
      rw [List.take_add_one, hx]
      simp
    · obtain ⟨a3, a4, rfl, rfl⟩ := I
      rw [List.take_length]
      walk_at "pv all"
      exact ⟨_, _, _, _, by rw [e2], by rw [e1]⟩
  · obtain ⟨a1, a2, a3, a4, rfl, rfl⟩ := I
    rw [List.take_length]
    refine thenS_nx ?_
    refine frz_lst rfl end_get ?_
    rw [end_set]
    walk_at "pv all"
    refine form_ok true k _ _ _ (by omega) hla _ ?_
    walk_at "pv all"
    exact q
theorem sum_ok (k : Nat) (mh : List Ob) (parts : List (Int × Fm)) (hm : ∀ p ∈ parts, MOk p) (hl : (prs parts).length < 64) (hl2 : parts.length < 1000) (Q : Val → List Ob → Prop)
    (q : Q (.d (fm (sumF parts))) mh) : W (callP P gl (k + 2) 19 [.d (.list (parts.map partd))]) mh Q := sum_ok2 k mh parts hm (Nat.lt_of_le_of_lt (acc_len _) hl) (by omega) hl2 Q q
theorem acc_sub {ps : List (Str × Int)} {ks : List Str} (h : ∀ p ∈ ps, p.1 ∈ ks) : (accF ps).length ≤ ks.length := by
  have := nodup_le (acc_nd ps) fun x hx => by
    obtain ⟨p, hp, rfl⟩ := List.mem_map.mp ((acc_keys ps x).mp hx)
    exact h p hp
  rw [List.length_map] at this
  exact this
/-- a form over these names, not too large -/
structure Fo (ns : List Str) (F : Fm) : Prop where
  nrm : Nrm F
  mem : ∀ p ∈ F.2, p.1 ∈ ns ∧ p.2.natAbs < 2 ^ 200
  c : F.1.natAbs < 2 ^ 200
  len : F.2.length ≤ 3
theorem Fo.sub {ns ms : List Str} {F : Fm} (h : Fo ns F) (hs : ∀ x ∈ ns, x ∈ ms) : Fo ms F := ⟨h.nrm, fun p hp => ⟨hs _ (h.mem p hp).1, (h.mem p hp).2⟩, h.c, h.len⟩
theorem Fo.put {ns : List Str} {F : Fm} (h : Fo ns F) {c : Int} (hc : c.natAbs < 2 ^ 200) : Fo ns (c, F.2) := ⟨⟨h.nrm.asc, h.nrm.nz⟩, h.mem, hc, h.len⟩
/-- a drawn form -/
def Fd (ns : List Str) (mo : Nat) (F : Fm) : Prop := Nrm F ∧ (∀ p ∈ F.2, p.1 ∈ ns ∧ p.2.natAbs < 2 ^ 80) ∧ F.1.natAbs < 2 ^ 80 ∧ F.2.length ≤ mo
theorem Fd.fo {ns : List Str} {mo : Nat} {F : Fm} (h : Fd ns mo F) (hm : mo ≤ 3) : Fo ns F := ⟨h.1, fun p hp => ⟨(h.2.1 p hp).1, Nat.lt_trans (h.2.1 p hp).2 (by decide)⟩, Nat.lt_trans h.2.2.1 (by decide), Nat.le_trans h.2.2.2 hm⟩
theorem drawn_ok (b : Bool) (k : Nat) (s : Ds) (tl : List Ob) (ns : List Str) (hns : ns.length < 1000) (mo : Nat) (hmo : mo ≤ 3) (Q : Val → List Ob → Prop)
    (q : ∀ F s', Fd ns mo F → Q (.d (fm F)) (St s' :: tl)) : W (callP P gl (k + 3) 20 [.ref 0, .d (nsd b ns), .d (.int (mo : Int))]) (St s :: tl) Q := by
  refine w_def (nm := f20.name) (ps := f20.ps) (N := f20.N) (body := f20.body) (env := [some (.ref 0), some (.d (nsd b ns)), some (.d (.int mo)), none, none, none]) rfl rfl ?_
  unfold f20
  walk_at "pv all"
  have rest : ∀ (s : Ds) (ps : List (Str × Int)) (a4 : Option Val), ps.length ≤ mo → (∀ p ∈ ps, p.1 ∈ ns ∧ p.2.natAbs ≤ 3) →
      WS gl (callP P gl (k + 2)) (.frz 3 (.cons (.set 5 (.call 18 (.cons (.bin .Sub false (.call 15 (.cons (.slot 0) (.cons (.k (.int 11)) .nil))) (.k (.int 5))) (.cons (.slot 3) .nil))))
    (.cons (.iff (.cmp .Eq (.call 15 (.cons (.slot 0) (.cons (.k (.int 15)) .nil))) (.k (.int 0))) (.cons (.ret (.call 19 (.cons (.lst false (.cons (.tup (.cons (.bin .Add false (.bin .Pow false (.k (.int 10)) (.k (.int 20))) (.k (.int 39))) (.cons (.slot 5) .nil))) .nil)) .nil)))
    .nil) .nil)
    (.cons (.ret (.slot 5))
    .nil)))) [some (.ref 0), some (.d (nsd b ns)), some (.d (.int mo)), some (.ref (tl.length + 1)), a4, none] (St s :: (tl ++ [.lst ((ps.map pd).map Val.d)])) fun fl mh' => ∃ x s' os, (fl = .rt (.d x) ∨ ∃ e, fl = .nx e ∧ x = .none) ∧ mh' = St s' :: (tl ++ os) ∧ Q (.d x) (St s' :: tl) := by
    intro s ps a4 hl hp
    refine frz_lst rfl st_get ?_
    rw [st_set]
    walk_at "pv all"
    refine draw_ok 11 _ _ _ (by decide) (by decide) _ fun c s1 c1 => ?_
    walk_at "pv all"
    refine form_ok true (k + 1) _ _ ps (by omega) (Nat.lt_of_le_of_lt (acc_len _) (by omega)) _ ?_
    have hF : ∀ p ∈ (nf ((c : Int) - 5) ps).2, p.1 ∈ ns ∧ p.2.natAbs ≤ 9 := fun p hp' => by
      obtain ⟨h1, h2, _⟩ := nfP_keys hp'
      obtain ⟨r, hr, e⟩ := List.mem_map.mp h1
      refine ⟨by rw [← e]; exact (hp r hr).1, ?_⟩
      rw [h2]
      exact Nat.le_trans (cf_bound fun p h => (hp p h).2) (by omega)
    have hN := nf_nrm ((c : Int) - 5) ps
    have hL : (nf ((c : Int) - 5) ps).2.length ≤ mo := Nat.le_trans (nfP_len ps) hl
    have hC : (nf ((c : Int) - 5) ps).1.natAbs ≤ 11 := by show ((c : Int) - 5).natAbs ≤ 11; omega
    generalize nf ((c : Int) - 5) ps = F at *
    walk_at "pv all"
    refine draw_ok 15 _ _ _ (by decide) (by decide) _ fun c2 s2 c21 => ?_
    walk_at "pv all"
    refine ci_eq (fun h => ?_) (fun h => ?_)
    · walk_at "pv all"
      have e39 : (10 : Int) ^ Int.toNat 20 + 39 = 100000000000000000039 := by decide
      rw [e39]
      have hmo : MOk (100000000000000000039, F) := ⟨.inr (.inl (by show F.1.natAbs < _; omega)), fun x hx => .inr (.inl (by have := (hF x hx).2; show x.2.natAbs < _; omega))⟩
      have hpl : prs [((100000000000000000039 : Int), F)] = F.2.map fun x => (x.1, 100000000000000000039 * x.2) := by simp [prs]
      refine sum_ok k _ [(100000000000000000039, F)] (fun p hp => by rw [List.mem_singleton.mp hp]; exact hmo) (by rw [hpl, List.length_map]; omega) (by simp) _ ?_
      walk_at "pv all"
      refine q _ s2 ⟨nf_nrm _ _, fun p hp => ?_, ?_, ?_⟩
      · obtain ⟨h1, h2, _⟩ := nfP_keys hp
        rw [hpl] at h1 h2
        rw [List.map_map] at h1
        obtain ⟨r, hr, e⟩ := List.mem_map.mp h1
        refine ⟨by rw [← e]; exact (hF r hr).1, ?_⟩
        rw [h2, cf_times, Int.natAbs_mul]
        have := cf_bound (x := p.1) (b := 9) fun p h => (hF p h).2
        have h3 : (cf F.2 p.1).natAbs ≤ 27 := Nat.le_trans this (by omega)
        exact Nat.lt_of_le_of_lt (Nat.mul_le_mul_left _ h3) (by decide)
      · show (csum [((100000000000000000039 : Int), F)]).natAbs < _
        have : csum [((100000000000000000039 : Int), F)] = 100000000000000000039 * F.1 := by simp [csum]
        rw [this, Int.natAbs_mul]
        exact Nat.lt_of_le_of_lt (Nat.mul_le_mul_left _ hC) (by decide)
      · refine Nat.le_trans (nfP_len _) ?_
        rw [hpl, List.length_map]; exact hL
    · walk_at "pv all"
      exact q F s2 ⟨hN, fun p hp => ⟨(hF p hp).1, Nat.lt_of_le_of_lt (hF p hp).2 (by decide)⟩, Nat.lt_of_le_of_lt hC (by decide), hL⟩
  refine wr_lenS ?_
  walk_at "pv all"
  refine ci_gt (fun h => ?_) (fun h => ?_)
  · rw [List.length_map] at h
    walk_at "pv all"
    have hd := draw_ok (mo + 1) (k + 1) s (tl ++ [Ob.lst []]) (by omega) (by omega)
    refine hd _ fun n s1 n1 => ?_
    walk_at "pv all"
    refine rg1 (n := n) rfl (by omega) ?_
    refine wl_invR (fun i e m => ∃ (s' : Ds) (ps : List (Str × Int)) (a4 : Option Val), e = [some (.ref 0), some (.d (nsd b ns)), some (.d (.int mo)), some (.ref (tl.length + 1)), a4, none] ∧ m = St s' :: (tl ++ [.lst ((ps.map pd).map Val.d)]) ∧ ps.length ≤ i ∧ (∀ p ∈ ps, p.1 ∈ ns ∧ p.2.natAbs ≤ 3)) ⟨s1, [], none, rfl, rfl, Nat.le_refl _, fun _ h => nomatch h⟩ (fun i e m hi I => ?_) (fun e m I => ?_)
    · obtain ⟨s', ps, a4, rfl, rfl, h1, h2⟩ := I
      walk_at "pv all"
      refine ⟨rcv_lst st_get, ?_⟩
      walk_at "pv all"
      have hd := draw_ok ns.length (k + 1) s' (tl ++ [.lst ((ps.map pd).map Val.d)]) (by omega) (by omega)
      refine wr_lenS ?_
      walk_at "pv all"
      rw [List.length_map]
      refine hd _ fun j s2 j1 => ?_
      refine ix_S rfl (show (ns.map PyData.str)[j]? = some (.str ns[j]) by rw [List.getElem?_map, List.getElem?_eq_getElem j1]; rfl) ?_
      walk_at "pv all"
      refine draw_ok 7 _ _ _ (by decide) (by decide) _ fun c s3 c1 => ?_
      walk_at "pv all"
      refine app_end st_get (by rw [List.length_map, List.length_map]; exact big_sz (by omega)) ?_
      walk_at "pv all"
      rw [st_set]
      refine ⟨s3, ps ++ [(ns[j], (c : Int) - 3)], _, rfl, ?_, ?_, fun p hp => ?_⟩
      · rw [List.map_append, List.map_append]
        rfl
      · rw [List.length_append]
        exact Nat.succ_le_succ h1
      · rcases List.mem_append.mp hp with hp | hp
        · exact h2 p hp
        · rw [List.mem_singleton.mp hp]
          exact ⟨List.getElem_mem _, by show ((c : Int) - 3).natAbs ≤ 3; omega⟩
    · obtain ⟨s', ps, a4, rfl, rfl, h1, h2⟩ := I
      refine thenS_nx ?_
      exact ws_nil (rest s' ps a4 (by omega) h2)
  · walk_at "pv all"
    exact rest s [] none (Nat.zero_le _) (fun _ h => nomatch h)
end PvK

namespace PvK
open PySem PySem.Spec PyProof.Rows L2 Pv
/-! values, tables, images -/
def varF (x : Str) : Fm := (0, [(x, 1)])
theorem varF_nrm (x : Str) : Nrm (varF x) := ⟨by simp [varF], fun p hp => by rw [List.mem_singleton.mp hp]; show (1 : Int) ≠ 0; decide⟩
def evT (m : List (Str × Int)) (den : Int) (F : Fm) : Int := F.2.foldl (fun t p => t + p.2 * (lkS m p.1).getD 0) (den * F.1)
def keys {α : Type} (m : List (Str × α)) : List Str := m.map fun p => p.1
/-- the small numbers of names -/
def TbOk (m : List (Str × Int)) : Prop := ∀ p ∈ m, p.2.natAbs ≤ 1000
theorem fold_bound {m : List (Str × Int)} (hm : TbOk m) : ∀ (ps : List (Str × Int)) (t : Int), (∀ p ∈ ps, p.2.natAbs < 2 ^ 200) → (ps.foldl (fun t p => t + p.2 * (lkS m p.1).getD 0) t).natAbs ≤ t.natAbs + ps.length * (2 ^ 200 * 1000)
  | [], t, _ => by simp
  | p :: ps, t, h => by
    have h1 := fold_bound hm ps (t + p.2 * (lkS m p.1).getD 0) fun q hq => h q (List.mem_cons_of_mem _ hq)
    have h2 := h p List.mem_cons_self
    have h3 : ((lkS m p.1).getD 0).natAbs ≤ 1000 := by
      cases e : lkS m p.1 with
      | none => exact Nat.zero_le _
      | some v => exact hm _ (lkS_mem e)
    rw [List.foldl_cons, List.length_cons, Nat.succ_mul]
    refine Nat.le_trans h1 ?_
    have h4 : (t + p.2 * (lkS m p.1).getD 0).natAbs ≤ t.natAbs + 2 ^ 200 * 1000 := by
      refine Nat.le_trans (Int.natAbs_add_le _ _) (Nat.add_le_add_left ?_ _)
      rw [Int.natAbs_mul]
      exact Nat.mul_le_mul (Nat.le_of_lt h2) h3
    omega
theorem fold_bound' {m : List (Str × Int)} (hm : TbOk m) : ∀ (ps : List (Str × Int)) (t : Int), (∀ p ∈ ps, p.2.natAbs < 2 ^ 80) → (ps.foldl (fun t p => t + p.2 * (lkS m p.1).getD 0) t).natAbs ≤ t.natAbs + ps.length * (2 ^ 80 * 1000)
  | [], t, _ => by simp
  | p :: ps, t, h => by
    have h1 := fold_bound' hm ps (t + p.2 * (lkS m p.1).getD 0) fun q hq => h q (List.mem_cons_of_mem _ hq)
    have h2 := h p List.mem_cons_self
    have h3 : ((lkS m p.1).getD 0).natAbs ≤ 1000 := by
      cases e : lkS m p.1 with
      | none => exact Nat.zero_le _
      | some v => exact hm _ (lkS_mem e)
    rw [List.foldl_cons, List.length_cons, Nat.succ_mul]
    refine Nat.le_trans h1 ?_
    have h4 : (t + p.2 * (lkS m p.1).getD 0).natAbs ≤ t.natAbs + 2 ^ 80 * 1000 := by
      refine Nat.le_trans (Int.natAbs_add_le _ _) (Nat.add_le_add_left ?_ _)
      rw [Int.natAbs_mul]
      exact Nat.mul_le_mul (Nat.le_of_lt h2) h3
    omega
theorem var_ok (k : Nat) (mh : List Ob) (x : Str) (Q : Val → List Ob → Prop) (q : Q (.d (fm (varF x))) mh) : W (callP P gl (k + 1) 33 [.d (.str x)]) mh Q := by
  refine w_pure (nm := f33.name) (ps := f33.ps) (N := f33.N) (body := f33.body) (env := [some (.d (.str x))]) rfl rfl ?_
  unfold f33
  walk_at "pv all"
  exact q
theorem at_ok (k : Nat) (mh : List Ob) (F : Fm) (den : Int) (tv : Val) (m : List (Str × Int)) (ht : dctOf mh tv = some (mapK .int m)) (hm : TbOk m) (hk : ∀ p ∈ F.2, p.1 ∈ keys m) (hd : den.natAbs < 2 ^ 64) (Q : Val → List Ob → Prop)
    (q : Q (.d (.int (evT m den F))) mh) : W (callP P gl (k + 1) 21 [.d (fm F), .d (.int den), tv]) mh Q := by
  refine w_pure (nm := f21.name) (ps := f21.ps) (N := f21.N) (body := f21.body) (env := [some (.d (fm F)), some (.d (.int den)), some tv, none, none, none]) rfl rfl ?_
  unfold f21
  walk_at "pv all"
  refine ix_tup (j := 0) rfl rfl ?_
  refine wr_mul (mul64' hd) ?_
  walk_at "pv all"
  refine ix_tup (j := 1) rfl rfl ?_
  refine ix_T ?_
  refine wl_invL (fun i e m' => ∃ (a1 a2 : Option Val), e = [some (.d (fm F)), some (.d (.int den)), some tv, some (.d (.int ((F.2.take i).foldl (fun t p => t + p.2 * (lkS m p.1).getD 0) (den * F.1)))), a1, a2] ∧ m' = mh) ⟨none, none, rfl, rfl⟩ (fun i p e m' hp I => ?_) (fun e m' I => ?_)
  · obtain ⟨a1, a2, rfl, rfl⟩ := I
    obtain ⟨v, hv⟩ := lkS_of_mem (hk p (List.mem_of_getElem? hp))
    have hvb := hm _ (lkS_mem hv)
    simp only at hvb
    walk_at "pv all"
    refine ix_t ht hv ?_
    walk_at "pv all"
    refine wr_mul (mul64 (by omega)) ?_
    walk_at "pv all"
    have e : (F.2.take (i + 1)).foldl (fun t p => t + p.2 * (lkS m p.1).getD 0) (den * F.1) = (F.2.take i).foldl (fun t p => t + p.2 * (lkS m p.1).getD 0) (den * F.1) + p.2 * v := by
      rw [List.take_add_one, hp, List.foldl_append]
      show _ + p.2 * (lkS m p.1).getD 0 = _
      rw [hv]; rfl
    exact ⟨_, _, by rw [e]; rfl, rfl⟩
  · obtain ⟨a1, a2, rfl, rfl⟩ := I
    rw [List.take_length]
    walk_at "pv all"
    exact q
theorem true_ok (b : Bool) (k : Nat) (s : Ds) (tl : List Ob) (ns : List Str) (hns : ns.length < 1000) (tv : Val) (m : List (Str × Int)) (ht : ∀ s, dctOf (St s :: tl) tv = some (mapK .int m)) (hm : TbOk m) (hk : ∀ x ∈ ns, x ∈ keys m) (Q : Val → List Ob → Prop)
    (q : ∀ F s', Fo ns F → Q (.d (fm F)) (St s' :: tl)) : W (callP P gl (k + 4) 22 [.ref 0, .d (nsd b ns), tv]) (St s :: tl) Q := by
  refine w_def (nm := f22.name) (ps := f22.ps) (N := f22.N) (body := f22.body) (env := [some (.ref 0), some (.d (nsd b ns)), some tv, none, none]) rfl rfl ?_
  unfold f22
  walk_at "pv all"
  refine drawn_ok b k _ _ ns hns 3 (by decide) _ fun F s1 hF => ?_
  have fo := hF.fo (by decide)
  walk_at "pv all"
  refine at_ok _ _ F 1 tv m (ht _) hm (fun p hp => hk _ (fo.mem p hp).1) (by decide) _ ?_
  walk_at "pv all"
  refine ci_ge (fun h => ?_) (fun h => ?_)
  · walk_at "pv all"
    exact q F _ fo
  · walk_at "pv all"
    refine ix_tup (j := 0) rfl rfl ?_
    walk_at "pv all"
    refine draw_ok 4 _ _ _ (by decide) (by decide) _ fun c s2 c1 => ?_
    walk_at "pv all"
    refine ix_tup (j := 1) rfl rfl ?_
    walk_at "pv all"
    refine q (F.1 - evT m 1 F + (c : Int), F.2) _ (fo.put ?_)
    have hb : (evT m 1 F).natAbs ≤ (1 * F.1).natAbs + F.2.length * (2 ^ 80 * 1000) := by
      exact fold_bound' hm F.2 (1 * F.1) fun p hp => (hF.2.1 p hp).2
    have h1 := hF.2.2.1
    have h2 := hF.2.2.2
    have h3 : F.2.length * (2 ^ 80 * 1000) ≤ 3 * (2 ^ 80 * 1000) := Nat.mul_le_mul_right _ h2
    have h4 : (1 * F.1).natAbs = F.1.natAbs := by rw [Int.one_mul]
    have h5 : (F.1 - evT m 1 F + (c : Int)).natAbs ≤ F.1.natAbs + (evT m 1 F).natAbs + c := by omega
    refine Nat.lt_of_le_of_lt h5 ?_
    omega
theorem numbers_ok (b : Bool) (k : Nat) (s : Ds) (tl : List Ob) (ns : List Str) (hns : ns.length < 1000) (Q : Val → List Ob → Prop)
    (q : ∀ m s', (∀ x, x ∈ keys m ↔ x ∈ ns) → TbOk m → m.length ≤ ns.length → Q (.d (datK .int m)) (St s' :: tl)) : W (callP P gl (k + 2) 17 [.ref 0, .d (sqd b (ns.map .str))]) (St s :: tl) Q := by
  refine w_def (nm := f17.name) (ps := f17.ps) (N := f17.N) (body := f17.body) (env := [some (.ref 0), some (.d (sqd b (ns.map .str))), none, none]) rfl rfl ?_
  unfold f17
  walk_at "pv all"
  have hix : ∀ (mh : List Ob) (R : Ix → Prop), R ⟨ns.map fun x => Val.d (.str x), []⟩ → ∃ ix, ixOf mh (.d (sqd b (ns.map .str))) = some ix ∧ R ix := fun mh R h => by
    cases b
    · exact ix_T h
    · exact ix_L h
  refine hix _ _ ?_
  refine wl_invL (fun i e m => ∃ (s' : Ds) (t : List (Str × Int)) (a1 : Option Val), e = [some (.ref 0), some (.d (sqd b (ns.map .str))), some (.ref (tl.length + 1)), a1] ∧ m = St s' :: (tl ++ [.dct (mapK .int t)]) ∧ (∀ x, x ∈ keys t ↔ x ∈ ns.take i) ∧ TbOk t ∧ t.length ≤ i) ⟨s, [], none, rfl, rfl, fun x => by simp [keys], fun _ h => (nomatch h), Nat.le_refl _⟩ (fun i x e m hx I => ?_) (fun e m I => ?_)
  · obtain ⟨s', t, a1, rfl, rfl, h1, h2, h3⟩ := I
    have hi : i < ns.length := (List.getElem?_eq_some_iff.mp hx).1
    walk_at "pv all"
    refine draw_ok 12 _ _ _ (by decide) (by decide) _ fun c s2 c1 => ?_
    walk_at "pv all"
    refine put_c st_get (by have h2 : sizeLine = 16777216 := rfl; omega) ?_
    walk_at "pv all"
    rw [st_set]
    refine ⟨s2, putS t x ((c : Int) - 3), _, rfl, rfl, fun y => ?_, fun p hp => ?_, Nat.le_trans putS_length (Nat.succ_le_succ h3)⟩
    · rw [show (y ∈ keys (putS t x ((c : Int) - 3))) ↔ _ from putS_keys, List.take_add_one, hx, List.mem_append]
      rw [show y ∈ t.map (·.1) ↔ _ from h1 y]
      simp only [Option.toList_some, List.mem_singleton]
      exact or_comm
    · rcases putS_mem hp with hp | rfl
      · exact h2 p hp
      · show ((c : Int) - 3).natAbs ≤ 1000
        omega
  · obtain ⟨s', t, a1, rfl, rfl, h1, h2, h3⟩ := I
    rw [List.take_length] at h1
    refine thenS_nx ?_
    refine frz_dct rfl st_get (asDKs_mapK _ _) ?_
    rw [st_set]
    show WS _ _ _ [_, _, some (.d (datK .int t)), _] _ _
    walk_at "pv all"
    exact q t _ h1 h2 h3
/-- a form with names put in -/
def pts (m : List (Str × Fm)) (F : Fm) : List (Int × Fm) := (1, (F.1, [])) :: F.2.map fun p => (p.2, (lkS m p.1).getD (varF p.1))
def putF (m : List (Str × Fm)) (F : Fm) : Fm := sumF (pts m F)
theorem put_ok2 (k : Nat) (mh : List Ob) (F : Fm) (tv : Val) (m : List (Str × Fm)) (ht : ∀ os, dctOf (mh ++ os) tv = some (mapK fm m)) (hm : ∀ p ∈ pts m F, MOk p) (hla : (accF (prs (pts m F))).length < 64) (hl : (prs (pts m F)).length < 10000) (hF : F.2.length < 100) (Q : Val → List Ob → Prop)
    (q : Q (.d (fm (putF m F))) mh) : W (callP P gl (k + 3) 34 [.d (fm F), tv]) mh Q := by
  refine w_pure (nm := f34.name) (ps := f34.ps) (N := f34.N) (body := f34.body) (env := [some (.d (fm F)), some tv, none, none, none]) rfl rfl ?_
  unfold f34
  walk_at "pv all"
  refine ix_tup (j := 0) rfl rfl ?_
  walk_at "pv all"
  refine ix_tup (j := 1) rfl rfl ?_
  refine ix_T ?_
  refine wl_invL (fun i e m' => ∃ (a1 a2 : Option Val), e = [some (.d (fm F)), some tv, some (.ref mh.length), a1, a2] ∧ m' = mh ++ [.lst ((((pts m F).take (i + 1)).map partd).map Val.d)]) ⟨none, none, rfl, rfl⟩ (fun i p e m' hp I => ?_) (fun e m' I => ?_)
  · obtain ⟨a1, a2, rfl, rfl⟩ := I
    have hi : i < F.2.length := (List.getElem?_eq_some_iff.mp hp).1
    walk_at "pv all"
    refine ⟨rcv_lst end_get, ?_⟩
    walk_at "pv all"
    have hrc : rcv "dict" tv (mh ++ [.lst ((((pts m F).take (i + 1)).map partd).map Val.d)]) = true := by
      have h := ht [.lst ((((pts m F).take (i + 1)).map partd).map Val.d)]
      unfold dctOf at h
      unfold rcv
      split at h
      · rfl
      · split at h
        · rename_i hh; simp only [hh]; rfl
        · cases h
      · cases h
    refine ⟨hrc, ?_⟩
    walk_at "pv all"
    refine var_ok _ _ _ _ ?_
    walk_at "pv all"
    refine get_t (ht _) ?_
    have e1 : ((lkS m p.1).map fm).getD (fm (varF p.1)) = fm ((lkS m p.1).getD (varF p.1)) := by cases lkS m p.1 <;> rfl
    rw [e1]
    walk_at "pv all"
    refine app_end end_get (by rw [List.length_map, List.length_map, List.length_take]; exact big_sz (by omega)) ?_
    walk_at "pv all"
    rw [end_set]
    refine ⟨_, _, rfl, ?_⟩
    have e2 : (pts m F)[i + 1]? = some (p.2, (lkS m p.1).getD (varF p.1)) := by
      show (F.2.map fun p => (p.2, (lkS m p.1).getD (varF p.1)))[i]? = _
      rw [List.getElem?_map, hp]; rfl
    rw [List.take_add_one (i := i + 1), e2, List.map_append, List.map_append]
    rfl
  · obtain ⟨a1, a2, rfl, rfl⟩ := I
    have e3 : (pts m F).length = F.2.length + 1 := by unfold pts; rw [List.length_cons, List.length_map]
    rw [← e3, List.take_length]
    refine thenS_nx ?_
    refine frz_lst rfl end_get ?_
    rw [end_set]
    walk_at "pv all"
    refine sum_ok2 k _ _ hm hla hl (by omega) _ ?_
    walk_at "pv all"
    exact q
theorem put_ok (k : Nat) (mh : List Ob) (F : Fm) (tv : Val) (m : List (Str × Fm)) (ht : ∀ os, dctOf (mh ++ os) tv = some (mapK fm m)) (hm : ∀ p ∈ pts m F, MOk p) (hl : (prs (pts m F)).length < 64) (hF : F.2.length < 100) (Q : Val → List Ob → Prop)
    (q : Q (.d (fm (putF m F))) mh) : W (callP P gl (k + 3) 34 [.d (fm F), tv]) mh Q := put_ok2 k mh F tv m ht hm (Nat.lt_of_le_of_lt (acc_len _) hl) (by omega) hF Q q
end PvK

namespace PvK
open PySem PySem.Spec PyProof.Rows L2 Pv
/-! a def that changes a cell below the state -/
theorem cutOk_set {n : Nat} {o : Ob} (ho : o.below n = true) : ∀ (tl os : List Ob) (i : Nat), cutOk n tl (tl.set i o ++ os)
  | [], _, _ => trivial
  | p :: tl, os, 0 => ⟨.inr ho, cutOk_app tl os⟩
  | p :: tl, os, i + 1 => ⟨.inl rfl, cutOk_set ho tl os i⟩
theorem below_mapK {α : Type} {em : α → Dt} {m : List (Str × α)} {n : Nat} : (Ob.dct (mapK em m)).below n = true := by
  show (mapK em m).all _ = true
  unfold mapK
  rw [List.all_map, List.all_eq_true]
  intro p _
  rfl
theorem w_defC {k f : Nat} {vs : List Val} {Q : Val → List Ob → Prop} {s : Ds} {tl : List Ob} {nm : Str} {ps N : List Str} {body : Ss} {fn : Bool} {qn : Str} {env : Sl} {i : Nat} (hd : P[f]? = some ⟨nm, ps, N, body, false, fn, qn⟩) (he : vs.map some ++ List.replicate (N.length - vs.length) none = env)
    (h : WS gl (callP P gl k) body env (St s :: tl) fun fl mh' => ∃ x s' os o, (fl = .rt (.d x) ∨ ∃ e, fl = .nx e ∧ x = .none) ∧ mh' = St s' :: (tl.set i o ++ os) ∧ o.below (tl.length + 1) = true ∧ Q (.d x) (St s' :: tl.set i o)) :
    W (callP P gl (k + 1) f vs) (St s :: tl) Q := by
  subst he
  exact w_call hd (w_body (W.mono h fun fl mh' ⟨x, s', os, o, h1, h2, h3, h4⟩ => by
    subst h2
    refine ⟨x, h1, ⟨.inr (st_below _), cutOk_set h3 _ _ _⟩, ?_⟩
    show Q _ (St s' :: List.take tl.length (tl.set i o ++ os))
    rw [List.take_left' (List.length_set ..)]
    exact h4))
/-! made names -/
def qn (i : Nat) : Str := Str.ofString "?" ++ (toString (i : Int) : Str)
theorem qn_len : ((List.range 40).all fun i => decide ((toString (i : Int) : Str).length ≤ 2)) = true := by decide +kernel
theorem qn_wr {mh : List Ob} {Q : Val → List Ob → Prop} {i : Nat} {j : Int} (e : j = (i : Int)) (hi : i < 40) (q : Q (.d (.str (qn i))) mh) :
    WR false (Bi.f .str mh [.d (.int j)]) mh fun y mh2 => WR false (binF .Add mh2 (.d (.str (Str.ofString "?"))) y) mh2 Q := by
  subst e
  have h := of_decide_eq_true (List.all_eq_true.mp qn_len i (List.mem_range.mpr hi))
  refine wr_v (x := .d (.str (toString (i : Int)))) ?_ ?_
  · show (if (i : Int).natAbs < 2 ^ 1900 then some (Rv.v (.d (.str (toString (i : Int))))) else none) = _
    rw [if_pos (by rw [Int.natAbs_natCast]; exact Nat.lt_of_lt_of_le hi (Nat.le_trans (show 40 ≤ 2 ^ 6 by decide) (Nat.pow_le_pow_right (by decide) (by decide))))]
  · refine wr_addS ?_ q
    have h1 : (Str.ofString "?").length = 1 := by decide +kernel
    have h2 : sizeLine = 16777216 := rfl
    omega
theorem qn_so : ((List.range 40).all fun i => PyData.strOk (qn i) && decide ((qn i).length ≤ 10)) = true := by decide +kernel
theorem qn_ok {i : Nat} (hi : i < 40) : SM (qn i) := by
  have := List.all_eq_true.mp qn_so i (List.mem_range.mpr hi)
  rw [Bool.and_eq_true, decide_eq_true_eq] at this
  exact this
theorem get_set {tl : List Ob} {n : Nat} {o o2 : Ob} (h : tl[n]? = some o) : (tl.set n o2)[n]? = some o2 := by rw [List.getElem?_set_self (List.getElem?_eq_some_iff.mp h).1]
theorem set_same {tl : List Ob} {n : Nat} {o : Ob} (h : tl[n]? = some o) : tl.set n o = tl := by
  obtain ⟨h1, h2⟩ := List.getElem?_eq_some_iff.mp h
  subst h2
  exact List.set_getElem_self h1
theorem made_ok (k : Nat) (s : Ds) (tl : List Ob) (ns : List Str) (hns : ns.length < 1000) (n : Nat) (m : List (Str × Int)) (ht : tl[n]? = some (.dct (mapK .int m))) (hm : TbOk m) (hl : m.length < 1000) (Q : Val → List Ob → Prop)
    (q : ∀ (ms : List Str) (m' : List (Str × Int)) s', ms.length ≤ 2 → (∀ x ∈ ms, SM x) → (∀ x, x ∈ keys m' ↔ x ∈ keys m ∨ x ∈ ms) → TbOk m' → m'.length ≤ m.length + 2 → Q (.d (strT (ns ++ ms))) (St s' :: tl.set n (.dct (mapK .int m')))) :
    W (callP P gl (k + 2) 26 [.ref 0, .d (strT ns), .ref (n + 1)]) (St s :: tl) Q := by
  refine w_defC (i := n) (nm := f26.name) (ps := f26.ps) (N := f26.N) (body := f26.body) (env := [some (.ref 0), some (.d (strT ns)), some (.ref (n + 1)), none, none]) rfl rfl ?_
  unfold f26
  walk_at "pv all"
  refine draw_ok 3 _ _ _ (by decide) (by decide) _ fun c s1 c1 => ?_
  walk_at "pv all"
  refine rg1 (n := c) rfl (by omega) ?_
  refine wl_invR (fun i e m' => ∃ (s' : Ds) (ms : List Str) (t : List (Str × Int)) (a3 a4 : Option Val), e = [some (.ref 0), some (.d (strT (ns ++ ms))), some (.ref (n + 1)), a3, a4] ∧ m' = St s' :: tl.set n (.dct (mapK .int t)) ∧ ms.length = i ∧ (∀ x, x ∈ keys t ↔ x ∈ keys m ∨ x ∈ ms) ∧ TbOk t ∧ t.length ≤ m.length + i ∧ ∀ x ∈ ms, SM x)
    ⟨s1, [], m, none, none, by rw [List.append_nil], by rw [set_same ht], rfl, fun x => by simp, hm, Nat.le_refl _, fun _ h => nomatch h⟩ (fun i e m' hi I => ?_) (fun e m' I => ?_)
  · obtain ⟨s', ms, t, a3, a4, rfl, rfl, h1, h2, h3, h4, h5⟩ := I
    walk_at "pv all"
    refine qn_wr (i := i + 1) rfl (by omega) ?_
    walk_at "pv all"
    refine draw_ok 9 _ _ _ (by decide) (by decide) _ fun d s2 d1 => ?_
    walk_at "pv all"
    have hg : (St s2 :: tl.set n (.dct (mapK .int t)))[n + 1]? = some (.dct (mapK .int t)) := by
      rw [List.getElem?_cons_succ]; exact get_set ht
    refine put_c hg (by have h2 : sizeLine = 16777216 := rfl; omega) ?_
    walk_at "pv all"
    have hsl : sizeLine = 16777216 := rfl
    refine wr_addT (by rw [List.length_map, List.length_append]; simp only [List.length_cons, List.length_nil]; omega) ?_
    walk_at "pv all"
    refine ⟨s2, ms ++ [qn (i + 1)], putS t (qn (i + 1)) ((d : Int) - 3), some (.d (.int (i : Int))), some (.d (.str (qn (i + 1)))), ?_, ?_, by rw [List.length_append, h1]; rfl, fun x => ?_, fun p hp => ?_, ?_⟩
    · have e : strT (ns ++ (ms ++ [qn (i + 1)])) = .tuple ((ns ++ ms).map .str ++ [.str (qn (i + 1))]) := by
        rw [← List.append_assoc]
        show PyData.tuple (List.map _ _) = _
        rw [List.map_append]; rfl
      rw [e]; rfl
    · rw [List.set_cons_succ, List.set_set]
    · rw [show (x ∈ keys (putS t (qn (i + 1)) ((d : Int) - 3))) ↔ _ from putS_keys, show x ∈ t.map (·.1) ↔ _ from h2 x, List.mem_append, List.mem_singleton]
      constructor
      · rintro (h | h | h)
        · exact .inr (.inr h)
        · exact .inl h
        · exact .inr (.inl h)
      · rintro (h | h | h)
        · exact .inr (.inl h)
        · exact .inr (.inr h)
        · exact .inl h
    · rcases putS_mem hp with hp | rfl
      · exact h3 p hp
      · show ((d : Int) - 3).natAbs ≤ 1000
        omega
    · refine ⟨Nat.le_trans putS_length (by omega), fun x hx => ?_⟩
      rcases List.mem_append.mp hx with hx | hx
      · exact h5 x hx
      · rw [List.mem_singleton.mp hx]; exact qn_ok (by omega)
  · obtain ⟨s', ms, t, a3, a4, rfl, rfl, h1, h2, h3, h4, h5⟩ := I
    walk_at "pv all"
    exact ⟨_, s', [], _, .inl rfl, by rw [List.append_nil], below_mapK, q ms t s' (by omega) h5 h2 h3 (by omega)⟩
/-! hypotheses at an edge -/
theorem hyps_ok (k : Nat) (s : Ds) (tl : List Ob) (ns : List Str) (hns : ns.length < 1000) (tv : Val) (m : List (Str × Int)) (ht : ∀ s, dctOf (St s :: tl) tv = some (mapK .int m)) (hm : TbOk m) (hk : ∀ x ∈ ns, x ∈ keys m) (sh : Nat) (hsh : sh < 100) (Q : Val → List Ob → Prop)
    (q : ∀ (hs : List Fm) s', hs.length ≤ 4 → (0 < sh → 2 ≤ hs.length) → (∀ F ∈ hs, Fo ns F) → Q (.d (.tuple (hs.map fm))) (St s' :: tl)) : W (callP P gl (k + 5) 27 [.ref 0, .d (strT ns), tv, .d (.int (sh : Int))]) (St s :: tl) Q := by
  refine w_def (nm := f27.name) (ps := f27.ps) (N := f27.N) (body := f27.body) (env := [some (.ref 0), some (.d (strT ns)), some tv, some (.d (.int sh)), none, none, none]) rfl rfl ?_
  unfold f27
  walk_at "pv all"
  refine draw_ok 3 _ _ _ (by decide) (by decide) _ fun c s1 c1 => ?_
  walk_at "pv all"
  refine rg1 (n := c) rfl (by omega) ?_
  refine wc_genR (α := Fm) fm (Fo ns) (fun j s hj => ?_) fun hs s2 h1 h2 => ?_
  · walk_at "pv all"
    refine true_ok false k _ _ ns hns tv m ht hm hk _ fun F s3 hF => ?_
    exact ⟨F, _, rfl, rfl, hF⟩
  refine wr_nl rfl ?_
  walk_at "pv all"
  refine ci_gt (fun h => ?_) (fun h => ?_)
  · walk_at "pv all"
    refine drawn_ok false (k + 1) _ _ ns hns 3 (by decide) _ fun F s3 hF => ?_
    have fo := hF.fo (by decide)
    walk_at "pv all"
    have hm1 : MOk ((-1 : Int), F) := ⟨.inl (show (-1 : Int).natAbs < 2 ^ 64 by decide), fun _ _ => .inl (show (-1 : Int).natAbs < 2 ^ 64 by decide)⟩
    have hm2 : MOk ((1 : Int), ((-(sh : Int)), [])) := ⟨.inl (show (1 : Int).natAbs < 2 ^ 64 by decide), fun _ h => nomatch h⟩
    have hpl : prs [((-1 : Int), F), (1, (-(sh : Int), []))] = F.2.map fun x => (x.1, -1 * x.2) := by simp [prs]
    have hlen := fo.len
    refine sum_ok (k + 2) _ [(-1, F), (1, (-(sh : Int), []))] (fun p hp => by
      rcases List.mem_cons.mp hp with rfl | hp
      · exact hm1
      · rw [List.mem_singleton.mp hp]; exact hm2) (by rw [hpl, List.length_map]; omega) (by simp) _ ?_
    have hG : Fo ns (sumF [(-1, F), (1, (-(sh : Int), []))]) := by
      refine ⟨nf_nrm _ _, fun p hp => ?_, ?_, ?_⟩
      · obtain ⟨e1, e2, _⟩ := nfP_keys hp
        rw [hpl] at e1 e2
        rw [List.map_map] at e1
        obtain ⟨r, hr, e⟩ := List.mem_map.mp e1
        refine ⟨by rw [← e]; exact (fo.mem r hr).1, ?_⟩
        rw [e2, cf_times, Int.natAbs_mul]
        have := cf_bound (x := p.1) (b := 2 ^ 80) fun p h => Nat.le_of_lt (hF.2.1 p h).2
        have h3 : (cf F.2 p.1).natAbs ≤ 3 * 2 ^ 80 := Nat.le_trans this (Nat.mul_le_mul_right _ hlen)
        exact Nat.lt_of_le_of_lt (Nat.mul_le_mul_left _ h3) (by decide)
      · show (csum [((-1 : Int), F), (1, (-(sh : Int), []))]).natAbs < _
        have e : csum [((-1 : Int), F), (1, (-(sh : Int), []))] = -F.1 - sh := by simp [csum]; omega
        rw [e]
        have := hF.2.2.1
        have h6 : (-F.1 - (sh : Int)).natAbs ≤ F.1.natAbs + sh := by omega
        exact Nat.lt_of_le_of_lt h6 (by omega)
      · refine Nat.le_trans (nfP_len _) ?_
        rw [hpl, List.length_map]; exact hlen
    generalize sumF [(-1, F), (1, (-(sh : Int), []))] = G at hG
    walk_at "pv all"
    have hsl : sizeLine = 16777216 := rfl
    refine wr_addL (by rw [List.length_map]; simp only [List.length_cons, List.length_nil]; omega) ?_
    walk_at "pv all"
    have := q (hs ++ [F, G]) s3 (by simp; omega) (fun _ => by simp) fun H hH => by
      rcases List.mem_append.mp hH with hH | hH
      · exact h2 H hH
      · rcases List.mem_cons.mp hH with rfl | hH
        · exact fo
        · rw [List.mem_singleton.mp hH]; exact hG
    rw [List.map_append] at this
    exact this
  · walk_at "pv all"
    exact q hs s2 (by omega) (fun z => absurd (by omega) h) h2
/-! arguments -/
inductive Cal where
  | nm (x : Str) | ix (n : Nat)
def cald : Cal → Dt
  | .nm x => .str x
  | .ix n => .int (n : Int)
structure Ca where
  id : Cal
  ins : List Str
  outs : List Str
  tab : List (Str × Int)
abbrev cad (c : Ca) : Dt := .tuple [cald c.id, strT c.ins, strT c.outs, datK .int c.tab]
structure CaOk (c : Ca) : Prop where
  il : c.ins.length ≤ 8
  ol : c.outs.length ≤ 10
  tb : TbOk c.tab
  ink : ∀ x ∈ c.ins, x ∈ keys c.tab
  onk : ∀ x ∈ c.outs, x ∈ keys c.tab
  so : ∀ x ∈ c.ins ++ c.outs, SM x
  ido : ∀ x, c.id = .nm x → SM x
abbrev argd (p : Str × Fm) : Dt := .tuple [.str p.1, fm p.2]
structure ArOk (c : Ca) (ns : List Str) (as : List (Str × Fm)) : Prop where
  nms : as.map (fun p => p.1) = c.ins
  fo : ∀ p ∈ as, Fo ns p.2 ∧ p.2.2.length ≤ 2
theorem args_ok (k : Nat) (s : Ds) (tl : List Ob) (c : Ca) (hc : CaOk c) (ns : List Str) (hns : ns.length < 1000) (tv : Val) (m : List (Str × Int)) (ht : ∀ s os, dctOf (St s :: (tl ++ os)) tv = some (mapK .int m)) (hm : TbOk m) (hk : ∀ x ∈ ns, x ∈ keys m) (Q : Val → List Ob → Prop)
    (q : ∀ as s', ArOk c ns as → Q (.d (.tuple (as.map argd))) (St s' :: tl)) : W (callP P gl (k + 5) 28 [.ref 0, .d (cad c), .d (strT ns), tv]) (St s :: tl) Q := by
  refine w_def (nm := f28.name) (ps := f28.ps) (N := f28.N) (body := f28.body) (env := [some (.ref 0), some (.d (cad c)), some (.d (strT ns)), some tv, none, none, none]) rfl rfl ?_
  unfold f28
  walk_at "pv all"
  refine ix_tup (j := 1) rfl rfl ?_
  refine ix_T ?_
  refine wl_invL (fun i e m' => ∃ (s' : Ds) (as : List (Str × Fm)) (a5 a6 : Option Val), e = [some (.ref 0), some (.d (cad c)), some (.d (strT ns)), some tv, some (.ref (tl.length + 1)), a5, a6] ∧ m' = St s' :: (tl ++ [.lst ((as.map argd).map Val.d)]) ∧ as.map (fun p => p.1) = c.ins.take i ∧ ∀ p ∈ as, Fo ns p.2 ∧ p.2.2.length ≤ 2)
    ⟨s, [], none, none, rfl, rfl, by simp, fun _ h => nomatch h⟩ (fun i x e m' hx I => ?_) (fun e m' I => ?_)
  · obtain ⟨s', as, a5, a6, rfl, rfl, h1, h2⟩ := I
    have hi : i < c.ins.length := (List.getElem?_eq_some_iff.mp hx).1
    have hal : as.length ≤ 8 := by
      have := congrArg List.length h1
      rw [List.length_map, List.length_take] at this
      have := hc.il
      omega
    obtain ⟨v, hv⟩ := lkS_of_mem (hc.ink x (List.mem_of_getElem? hx))
    have hvb := hc.tb _ (lkS_mem hv)
    simp only at hvb
    walk_at "pv all"
    refine drawn_ok false (k + 1) _ _ ns hns 2 (by decide) _ fun F s3 hF => ?_
    have fo := hF.fo (by decide)
    walk_at "pv all"
    refine ⟨rcv_lst st_get, ?_⟩
    walk_at "pv all"
    refine ix_tup (j := 0) rfl rfl ?_
    walk_at "pv all"
    refine ix_tup (j := 3) rfl rfl ?_
    walk_at "pv all"
    refine ix_t dct_dat hv ?_
    walk_at "pv all"
    refine at_ok _ _ F 1 tv m (ht _ _) hm (fun p hp => hk _ (fo.mem p hp).1) (by decide) _ ?_
    walk_at "pv all"
    refine ix_tup (j := 1) rfl rfl ?_
    walk_at "pv all"
    refine app_end st_get (by rw [List.length_map, List.length_map]; exact big_sz (by omega)) ?_
    walk_at "pv all"
    rw [st_set]
    refine ⟨s3, as ++ [(x, (F.1 + v - evT m 1 F, F.2))], _, _, rfl, ?_, ?_, fun p hp => ?_⟩
    · rw [List.map_append, List.map_append]; rfl
    · rw [List.map_append, h1, List.take_add_one, hx]; rfl
    · rcases List.mem_append.mp hp with hp | hp
      · exact h2 p hp
      · rw [List.mem_singleton.mp hp]
        refine ⟨fo.put ?_, hF.2.2.2⟩
        have hb : (evT m 1 F).natAbs ≤ (1 * F.1).natAbs + F.2.length * (2 ^ 80 * 1000) := fold_bound' hm F.2 (1 * F.1) fun p hp => (hF.2.1 p hp).2
        have h1 := hF.2.2.1
        have h2 := hF.2.2.2
        have h3 : F.2.length * (2 ^ 80 * 1000) ≤ 2 * (2 ^ 80 * 1000) := Nat.mul_le_mul_right _ h2
        have h4 : (1 * F.1).natAbs = F.1.natAbs := by rw [Int.one_mul]
        have h5 : (F.1 + v - evT m 1 F).natAbs ≤ F.1.natAbs + v.natAbs + (evT m 1 F).natAbs := by omega
        exact Nat.lt_of_le_of_lt h5 (by omega)
  · obtain ⟨s', as, a5, a6, rfl, rfl, h1, h2⟩ := I
    rw [List.take_length] at h1
    refine thenS_nx ?_
    refine frz_lst rfl st_get ?_
    rw [st_set]
    walk_at "pv all"
    exact q as s' ⟨h1, h2⟩
end PvK

namespace PvK
open PySem PySem.Spec PyProof.Rows L2 Pv
def dropS : Nat → Ss → Ss
  | 0, b => b
  | n + 1, .cons _ b => dropS n b
  | n + 1, .frz _ b => dropS n b
  | _ + 1, .nil => .nil
structure Rw where
  nm : Str
  ins : List Str
  sts : List Str
  nests : List (List Nat)
  outs : List Str
  needs : List Fm
  first : List Fm
  grounds : List Fm
abbrev fms (fs : List Fm) : Dt := .tuple (fs.map fm)
abbrev nestd (n : List Nat) : Dt := .tuple (n.map fun i : Nat => .int (i : Int))
abbrev rowd (r : Rw) : Dt := .tuple [.str r.nm, strT r.ins, strT r.sts, .tuple (r.nests.map nestd), strT r.outs, fms r.needs, fms r.first, fms r.grounds]
structure RwOk (r : Rw) (t : List (Str × Int)) : Prop where
  il : r.ins.length ≤ 8
  sl : r.sts.length ≤ 12
  ol : r.outs.length ≤ 10
  np : 1 ≤ r.nests.length ∧ r.nests.length ≤ 8
  tb : TbOk t
  ink : ∀ x ∈ r.ins, x ∈ keys t
  snk : ∀ x ∈ r.sts, x ∈ keys t
  onk : ∀ x ∈ r.outs, x ∈ keys t
  need : r.needs.length ≤ 2 ∧ ∀ F ∈ r.needs, Fo r.ins F
  fir : r.first.length ≤ 2 ∧ ∀ F ∈ r.first, Fo r.ins F
  gr : r.grounds.length ≤ 2 ∧ ∀ F ∈ r.grounds, Fo (r.ins ++ r.sts) F
  so : ∀ x ∈ r.ins ++ r.sts ++ r.outs, SM x
abbrev Aft := Cal × List (Str × Fm) × List (Str × Str)
inductive Ed where
  | call (proc pt : Nat) (hs : List Fm) (id : Cal) (as : List (Str × Fm))
  | step (proc pt : Nat) (tg : Int) (wt : Nat) (hs ef : List Fm) (af : Option Aft)
abbrev outd (p : Str × Str) : Dt := .tuple [.str p.1, .str p.2]
def aftd : Option Aft → Dt
  | none => .tuple []
  | some a => .tuple [cald a.1, .tuple (a.2.1.map argd), .tuple (a.2.2.map outd)]
def edd : Ed → Dt
  | .call p pt hs id as => .tuple [.str "call", .int (p : Int), .int (pt : Int), .int ((pt : Int) + 1), .int 1, fms hs, cald id, .tuple (as.map argd)]
  | .step p pt tg wt hs ef af => .tuple [.str "step", .int (p : Int), .int (pt : Int), .int tg, .int (wt : Int), fms hs, fms ef, aftd af]
structure Bt where
  e : Ed
  tab : List (Str × Int)
  sh : Nat
  ns : List Str
abbrev btd (b : Bt) : Dt := .tuple [edd b.e, datK .int b.tab, .int (b.sh : Int)]
def pn (r : Rw) (pt : Nat) : List Str := if pt = 0 then r.ins else r.ins ++ r.sts
def HsOk (ns : List Str) (sh : Nat) (hs : List Fm) : Prop := hs.length ≤ 4 ∧ (0 < sh → 2 ≤ hs.length) ∧ ∀ F ∈ hs, Fo ns F
def EdOk (r : Rw) (cs : List Ca) (k : Nat) (ns : List Str) (sh : Nat) : Ed → Prop
  | .call p pt hs id as => p = k ∧ 0 < pt ∧ pt + 1 < r.nests.length ∧ (∀ x ∈ pn r pt, x ∈ ns) ∧ HsOk ns sh hs ∧ ∃ c ∈ cs, id = c.id ∧ ArOk c ns as
  | .step p pt tg wt hs ef af => p = k ∧ pt < r.nests.length ∧ ((tg = -1 ∧ ef.length = r.outs.length) ∨ (∃ j : Nat, tg = (j : Int) ∧ 0 < j ∧ j < r.nests.length ∧ ef.length = r.sts.length)) ∧ wt < 5 ∧ (∀ x ∈ pn r pt, x ∈ ns) ∧ HsOk ns sh hs ∧ (∀ F ∈ ef, Fo ns F ∧ F.2.length ≤ 2) ∧
    match af with
    | none => True
    | some a => 0 < pt ∧ ∃ c ∈ cs, a.1 = c.id ∧ ArOk c ns a.2.1 ∧ a.2.2.map (fun p => p.1) = c.outs ∧ ∀ p ∈ a.2.2, p.2 ∈ ns
structure BtOk (r : Rw) (cs : List Ca) (k : Nat) (b : Bt) : Prop where
  tb : TbOk b.tab
  tl : b.tab.length ≤ 50
  ks : ∀ x, x ∈ keys b.tab ↔ x ∈ b.ns
  sh : b.sh < 10
  so : ∀ x ∈ b.ns, SM x
  ed : EdOk r cs k b.ns b.sh b.e
/-- a table of some of the values -/
theorem pick_loop {gl : List (Str × Dt)} {c : Nat → List Val → M Val} {a j v : Nat} {env : Sl} {mh : List Ob} {n : Nat} {vals : List (Str × Int)} {Q : Fl → List Ob → Prop} (xs : List Str) (hv : TbOk vals) (hk : ∀ x ∈ xs, x ∈ keys vals) (hl : xs.length < 1000)
    (h1 : ∀ x, (env.set j x).getD a none = some (.ref n)) (h2 : ∀ x, (env.set j x).getD v none = some (.d (datK .int vals))) (h3 : ∀ x, (env.set j (some x)).getD j none = some x) (hm : mh[n]? = some (.dct []))
    (h0 : env.set j (env.getD j none) = env) (q : ∀ t x, (∀ y, y ∈ keys t ↔ y ∈ xs) → TbOk t → t.length ≤ xs.length → Q (.nx (env.set j x)) (mh.set n (.dct (mapK .int t)))) :
    WL gl c (.nm j) (.cons (.asg (.sb (.slot a) (.slot j)) (.ix (.slot v) (.slot j))) .nil) [] (xs.map fun x => Val.d (.str x)) env mh Q := by
  have hg : ∀ o, (mh.set n o)[n]? = some o := fun o => get_set hm
  refine wl_invL (fun i e m => ∃ (t : List (Str × Int)) (x : Option Val), e = env.set j x ∧ m = mh.set n (.dct (mapK .int t)) ∧ (∀ y, y ∈ keys t ↔ y ∈ xs.take i) ∧ TbOk t ∧ t.length ≤ i)
    ⟨[], _, h0.symm, by rw [show mapK PyData.int ([] : List (Str × Int)) = [] from rfl, set_same hm], fun y => by simp [keys], fun _ h => (nomatch h), Nat.le_refl _⟩ (fun i x e m hx I => ?_) (fun e m I => ?_)
  · obtain ⟨t, y, rfl, rfl, k1, k2, k3⟩ := I
    have hi : i < xs.length := (List.getElem?_eq_some_iff.mp hx).1
    obtain ⟨w, hw⟩ := lkS_of_mem (hk x (List.mem_of_getElem? hx))
    have hwb := hv _ (lkS_mem hw)
    refine wg_nm ?_
    rw [List.set_set]
    refine ws_asg (we_ix ?_)
    refine we_slot (h2 _) ?_
    refine we_slot (h3 _) ?_
    refine ix_t dct_dat hw ?_
    refine wg_sb ?_
    refine we_slot (h1 _) ?_
    refine we_slot (h3 _) ?_
    refine put_c (hg _) (by have h2 : sizeLine = 16777216 := rfl; omega) ?_
    refine ws_nil ⟨putS t x w, _, rfl, by rw [List.set_set], fun z => ?_, fun p hp => ?_, Nat.le_trans putS_length (Nat.succ_le_succ k3)⟩
    · rw [show (z ∈ keys (putS t x w)) ↔ _ from putS_keys, List.take_add_one, hx, List.mem_append, show z ∈ t.map (·.1) ↔ _ from k1 z]
      simp only [Option.toList_some, List.mem_singleton]
      exact or_comm
    · rcases putS_mem hp with hp | rfl
      · exact k2 p hp
      · exact hwb
  · obtain ⟨t, y, rfl, rfl, k1, k2, k3⟩ := I
    rw [List.take_length] at k1
    exact q t y k1 k2 k3
theorem sl_two {r : Rw} {t : List (Str × Int)} (ok : RwOk r t) : r.ins.length + r.sts.length ≤ 20 := by have := ok.il; have := ok.sl; omega
theorem call_edge_ok (k : Nat) (s : Ds) (tl : List Ob) (r : Rw) (vals : List (Str × Int)) (ok : RwOk r vals) (p pt : Nat) (hpt : 0 < pt) (hpt2 : pt + 1 < r.nests.length) (cs : List Ca) (c : Ca) (hc : CaOk c) (hcs : c ∈ cs) (sh : Nat) (hsh : sh < 10) (Q : Val → List Ob → Prop)
    (q : ∀ b s', BtOk r cs p b → Q (.d (btd b)) (St s' :: tl)) : W (callP P gl (k + 6) 29 [.ref 0, .d (.int (p : Int)), .d (rowd r), .d (datK .int vals), .d (.int (pt : Int)), .d (cad c), .d (.int (sh : Int))]) (St s :: tl) Q := by
  refine w_def (nm := f29.name) (ps := f29.ps) (N := f29.N) (body := f29.body) (env := [some (.ref 0), some (.d (.int (p : Int))), some (.d (rowd r)), some (.d (datK .int vals)), some (.d (.int (pt : Int))), some (.d (cad c)), some (.d (.int (sh : Int))), none, none, none, none, none]) rfl rfl ?_
  unfold f29
  have hsl : sizeLine = 16777216 := rfl
  have h20 := sl_two ok
  walk_at "pv all"
  refine ix_tup (j := 1) rfl rfl ?_
  walk_at "pv all"
  refine ix_tup (j := 2) rfl rfl ?_
  refine wr_addT (by rw [List.length_map, List.length_map]; omega) ?_
  rw [← List.map_append]
  refine ix_T ?_
  refine pick_loop (n := tl.length + 1) (vals := vals) (r.ins ++ r.sts) ok.tb (fun x hx => (List.mem_append.mp hx).elim (ok.ink x) (ok.snk x)) (by rw [List.length_append]; omega) (fun _ => rfl) (fun _ => rfl) (fun _ => rfl) st_get rfl fun t x t1 t2 t3 => ?_
  rw [show (St s :: tl ++ [Ob.dct []]).set (tl.length + 1) (.dct (mapK .int t)) = St s :: (tl ++ [.dct (mapK .int t)]) from st_set]
  rw [List.length_append] at t3
  walk_at "pv all"
  refine ix_tup (j := 1) rfl rfl ?_
  walk_at "pv all"
  refine ix_tup (j := 2) rfl rfl ?_
  refine wr_addT (by rw [List.length_map, List.length_map]; omega) ?_
  rw [← List.map_append]
  walk_at "pv all"
  refine made_ok (k + 3) _ _ (r.ins ++ r.sts) (by rw [List.length_append]; omega) tl.length t end_get t2 (by omega) _ fun ms t' s1 m1 m5 m2 m3 m4 => ?_
  rw [end_set]
  refine frz_dct rfl st_get (asDKs_mapK _ _) ?_
  rw [show (St s1 :: (tl ++ [Ob.dct (mapK .int t')])).set ((St s :: tl).length) .dead = St s1 :: (tl ++ [.dead]) from st_set]
  show WS _ _ _ [_, _, _, _, _, _, _, some (.d (datK .int t')), _, _, _, _] _ _
  walk_at "pv all"
  have hk : ∀ x ∈ (r.ins ++ r.sts) ++ ms, x ∈ keys t' := fun x hx => by
    rw [m2 x]
    exact (List.mem_append.mp hx).imp (t1 x).mpr id
  have hln : ((r.ins ++ r.sts) ++ ms).length < 1000 := by rw [List.length_append, List.length_append]; omega
  refine hyps_ok k _ _ _ hln (.d (datK .int t')) t' (fun _ => dct_dat) m3 hk sh (by omega) _ fun hs s2 g1 g2 g3 => ?_
  walk_at "pv all"
  refine args_ok k _ _ c hc _ hln (.d (datK .int t')) t' (fun _ _ => dct_dat) m3 hk _ fun as s3 ha => ?_
  walk_at "pv all"
  refine ix_tup (j := 0) rfl rfl ?_
  walk_at "pv all"
  refine q ⟨.call p pt hs c.id as, t', sh, (r.ins ++ r.sts) ++ ms⟩ _ ⟨m3, by show t'.length ≤ 50; omega, fun x => ?_, hsh, fun x hx => ?_, rfl, hpt, hpt2, fun x hx => ?_, ⟨g1, g2, g3⟩, c, hcs, rfl, ha⟩
  · rw [m2 x, List.mem_append]
    exact or_congr (t1 x) Iff.rfl
  · exact (List.mem_append.mp hx).elim (fun h => ok.so x (List.mem_append_left _ h)) (m5 x)
  · unfold pn at hx
    rw [if_neg (by omega)] at hx
    exact List.mem_append_left _ hx

/-- the end of a step edge -/
def stepB : Ss := dropS 6 f30.body
def stepE : Ss := dropS 8 f30.body
theorem step_end (k : Nat) (s : Ds) (tl os : List Ob) (r : Rw) (p pt : Nat) (hpt : pt < r.nests.length) (hr : r.sts.length ≤ 12 ∧ r.outs.length ≤ 10 ∧ r.nests.length ≤ 8) (cs : List Ca) (sh : Nat) (hsh : sh < 10) (ns : List Str) (hns : ns.length < 1000) (hpn : ∀ x ∈ pn r pt, x ∈ ns) (t : List (Str × Int)) (ht : TbOk t) (htl : t.length ≤ 50) (htk : ∀ x, x ∈ keys t ↔ x ∈ ns) (hso : ∀ x ∈ ns, SM x)
    (af : Option Aft) (haf : match af with
      | none => True
      | some a => 0 < pt ∧ ∃ c ∈ cs, a.1 = c.id ∧ ArOk c ns a.2.1 ∧ a.2.2.map (fun p => p.1) = c.outs ∧ ∀ p ∈ a.2.2, p.2 ∈ ns) (v3 v5 a9 a10 a12 a13 a14 a15 : Option Val) (hos : os[0]? = some (.dct (mapK .int t))) (Q : Val → List Ob → Prop)
    (q : ∀ b s', BtOk r cs p b → Q (.d (btd b)) (St s' :: tl)) :
    WS gl (callP P gl (k + 5)) stepE [some (.ref 0), some (.d (.int (p : Int))), some (.d (rowd r)), v3, some (.d (.int (pt : Int))), v5, some (.d (.int (sh : Int))), some (.d (strT ns)), some (.ref (tl.length + 1)), a9, a10, some (.d (aftd af)), a12, a13, a14, a15, none, none, none, none] (St s :: (tl ++ os)) fun fl mh' => ∃ x s' os, (fl = .rt (.d x) ∨ ∃ e, fl = .nx e ∧ x = .none) ∧ mh' = St s' :: (tl ++ os) ∧ Q (.d x) (St s' :: tl) := by
  unfold stepE f30
  simp only [dropS]
  refine frz_dct rfl (os_get hos) (asDKs_mapK _ _) ?_
  rw [show (St s :: (tl ++ os)).set (tl.length + 1) .dead = St s :: (tl ++ os.set 0 .dead) from os_set (j := 0)]
  generalize os.set 0 .dead = os2
  show WS _ _ _ [_, _, _, _, _, _, _, _, some (.d (datK .int t)), _, _, _, _, _, _, _, _, _, _, _] _ _
  walk_at "pv all"
  refine ix_tup (j := 3) rfl rfl ?_
  walk_at "pv all"
  have hd := draw_ok r.nests.length (k + 4) s (tl ++ os2) (by omega) (by omega)
  rw [List.length_map]
  refine hd _ fun g s1 g1 => ?_
  walk_at "pv all"
  refine ix_tup (j := 2) rfl rfl ?_
  walk_at "pv all"
  have rest : ∀ (s : Ds) (tg : Int) (gs : List Str) (hg : (tg = -1 ∧ gs.length = r.outs.length) ∨ (∃ j : Nat, tg = (j : Int) ∧ 0 < j ∧ j < r.nests.length ∧ gs.length = r.sts.length)),
      WS gl (callP P gl (k + 5)) (dropS 12 f30.body) [some (.ref 0), some (.d (.int (p : Int))), some (.d (rowd r)), v3, some (.d (.int (pt : Int))), v5, some (.d (.int (sh : Int))), some (.d (strT ns)), some (.d (datK .int t)), a9, a10, some (.d (aftd af)), a12, a13, a14, a15, some (.d (.int tg)), some (.d (strT gs)), none, none] (St s :: (tl ++ os2)) fun fl mh' => ∃ x s' os, (fl = .rt (.d x) ∨ ∃ e, fl = .nx e ∧ x = .none) ∧ mh' = St s' :: (tl ++ os) ∧ Q (.d x) (St s' :: tl) := by
    intro s tg gs hg
    unfold f30
    simp only [dropS]
    walk_at "pv all"
    refine hyps_ok k _ _ ns hns (.d (datK .int t)) t (fun _ => dct_dat) ht (fun x hx => (htk x).mpr hx) sh (by omega) _ fun hs s2 g1 g2 g3 => ?_
    walk_at "pv all"
    refine ix_T ?_
    refine wc_genL (α := Fm) fm (fun _ F => Fo ns F ∧ F.2.length ≤ 2) (fun x s hx => ?_) fun ef s3 e1 e2 => ?_
    · walk_at "pv all"
      refine drawn_ok false (k + 2) _ _ ns hns 2 (by decide) _ fun F s3 hF => ?_
      exact ⟨F, _, rfl, rfl, hF.fo (by decide), hF.2.2.2⟩
    refine wr_nl rfl ?_
    walk_at "pv all"
    refine draw_ok 5 _ _ _ (by decide) (by decide) _ fun wt s4 w1 => ?_
    walk_at "pv all"
    have he : ∀ F ∈ ef, Fo ns F ∧ F.2.length ≤ 2 := fun F hF => by
      obtain ⟨i, hi, e⟩ := List.getElem_of_mem hF
      exact e2 i gs[i] F (List.getElem?_eq_getElem (by omega)) (by rw [List.getElem?_eq_getElem hi, e])
    refine q ⟨.step p pt tg wt hs ef af, t, sh, ns⟩ _ ⟨ht, htl, htk, hsh, hso, rfl, hpt, ?_, w1, hpn, ⟨g1, g2, g3⟩, he, haf⟩
    rcases hg with ⟨h1, h2⟩ | ⟨j, h1, h2, h3, h4⟩
    · exact .inl ⟨h1, e1.trans h2⟩
    · exact .inr ⟨j, h1, h2, h3, e1.trans h4⟩
  refine ci_eq (fun h => ?_) (fun h => ?_)
  · refine pick_t ?_
    refine ws_set (we_neg (we_ki ?_))
    refine int_ex ?_
    refine ws_set (we_ix ?_)
    walk_at "pv all"
    refine ix_tup (j := 4) rfl rfl ?_
    exact ws_nil (thenS_nx (rest s1 (-1) r.outs (.inl ⟨rfl, rfl⟩)))
  · exact pick_f (ws_nil (thenS_nx (rest s1 g r.sts (.inr ⟨g, rfl, by omega, g1, rfl⟩))))
end PvK

namespace PvK
open PySem PySem.Spec PyProof.Rows L2 Pv
@[reducible] def ocd : Option Ca → Dt
  | none => .none
  | some c => cad c
theorem step_edge_ok (k : Nat) (s : Ds) (tl : List Ob) (r : Rw) (vals : List (Str × Int)) (ok : RwOk r vals) (p pt : Nat) (hpt : pt < r.nests.length) (cs : List Ca) (oc : Option Ca) (hoc : ∀ c, oc = some c → CaOk c ∧ c ∈ cs ∧ 0 < pt) (sh : Nat) (hsh : sh < 10) (Q : Val → List Ob → Prop)
    (q : ∀ b s', BtOk r cs p b → Q (.d (btd b)) (St s' :: tl)) : W (callP P gl (k + 6) 30 [.ref 0, .d (.int (p : Int)), .d (rowd r), .d (datK .int vals), .d (.int (pt : Int)), .d (ocd oc), .d (.int (sh : Int))]) (St s :: tl) Q := by
  refine w_def (nm := f30.name) (ps := f30.ps) (N := f30.N) (body := f30.body) (env := [some (.ref 0), some (.d (.int (p : Int))), some (.d (rowd r)), some (.d (datK .int vals)), some (.d (.int (pt : Int))), some (.d (ocd oc)), some (.d (.int (sh : Int))), none, none, none, none, none, none, none, none, none, none, none, none, none]) rfl rfl ?_
  have hsl : sizeLine = 16777216 := rfl
  have h20 := sl_two ok
  have hrr : r.sts.length ≤ 12 ∧ r.outs.length ≤ 10 ∧ r.nests.length ≤ 8 := ⟨ok.sl, ok.ol, ok.np.2⟩
  have mid : ∀ ns0 : List Str, ns0 = pn r pt → WS gl (callP P gl (k + 5)) (dropS 2 f30.body) [some (.ref 0), some (.d (.int (p : Int))), some (.d (rowd r)), some (.d (datK .int vals)), some (.d (.int (pt : Int))), some (.d (ocd oc)), some (.d (.int (sh : Int))), some (.d (strT ns0)), none, none, none, none, none, none, none, none, none, none, none, none] (St s :: tl) fun fl mh' => ∃ x s' os, (fl = .rt (.d x) ∨ ∃ e, fl = .nx e ∧ x = .none) ∧ mh' = St s' :: (tl ++ os) ∧ Q (.d x) (St s' :: tl) := by
    intro ns0 hns0
    have hsub : ∀ x ∈ ns0, x ∈ keys vals := fun x hx => by
      subst hns0
      unfold pn at hx
      split at hx
      · exact ok.ink x hx
      · exact (List.mem_append.mp hx).elim (ok.ink x) (ok.snk x)
    have hl0 : ns0.length ≤ 20 := by
      subst hns0
      unfold pn
      split
      · omega
      · rw [List.length_append]; omega
    have hpn : ∀ x ∈ pn r pt, x ∈ ns0 := fun x hx => by rw [hns0]; exact hx
    have hpn2 : ∀ x ∈ ns0, x ∈ r.ins ++ r.sts := fun x hx => by
      rw [hns0] at hx
      unfold pn at hx
      split at hx
      · exact List.mem_append_left _ hx
      · exact hx
    clear hns0
    unfold f30
    simp only [dropS]
    walk_at "pv all"
    refine ix_T ?_
    refine pick_loop (n := tl.length + 1) (vals := vals) ns0 ok.tb hsub (by omega) (fun _ => rfl) (fun _ => rfl) (fun _ => rfl) st_get rfl fun t x t1 t2 t3 => ?_
    rw [show (St s :: tl ++ [Ob.dct []]).set (tl.length + 1) (.dct (mapK .int t)) = St s :: (tl ++ [.dct (mapK .int t)]) from st_set]
    walk_at "pv all"
    refine made_ok (k + 3) _ _ ns0 (by omega) tl.length t end_get t2 (by omega) _ fun ms t' s1 m1 m5 m2 m3 m4 => ?_
    rw [end_set]
    have hk : ∀ x, x ∈ keys t' ↔ x ∈ ns0 ++ ms := fun x => by
      rw [m2 x, List.mem_append]
      exact or_congr (t1 x) Iff.rfl
    have hso0 : ∀ x ∈ ns0, SM x := fun x hx => ok.so x (List.mem_append_left _ (hpn2 x hx))
    have hso1 : ∀ x ∈ ns0 ++ ms, SM x := fun x hx => (List.mem_append.mp hx).elim (hso0 x) (m5 x)
    walk_at "pv all"
    cases oc with
    | none =>
      refine cmp_f rfl ?_
      refine pick_f (ws_nil (thenS_nx ?_))
      exact step_end k s1 tl [.dct (mapK .int t')] r p pt hpt hrr cs sh hsh (ns0 ++ ms) (by rw [List.length_append]; omega) (fun x hx => List.mem_append_left _ (hpn x hx)) t' m3 (by omega) hk hso1 none trivial _ _ _ _ _ _ _ _ rfl Q q
    | some c =>
      obtain ⟨hc, hcs, hp0⟩ := hoc c rfl
      have hcell : ∀ (s : Ds) (t : List (Str × Int)) (os : List Ob), (St s :: (tl ++ [.dct (mapK .int t)] ++ os))[tl.length + 1]? = some (.dct (mapK .int t)) := fun s t os => by
        rw [List.append_assoc]
        exact os_get (j := 0) (os := [.dct (mapK .int t)] ++ os) rfl
      refine cmp_t rfl ?_
      walk_at "pv all"
      have h1000 : (ns0 ++ ms).length < 1000 := by rw [List.length_append]; omega
      have harg := args_ok k s1 (tl ++ [.dct (mapK .int t')]) c hc (ns0 ++ ms) h1000 (.ref (tl.length + 1)) t' (fun s os => dct_cell (hcell s t' os)) m3 (fun x hx => (hk x).mpr hx)
      refine harg _ fun as s2 ha => ?_
      walk_at "pv all"
      refine ix_tup (j := 2) rfl rfl ?_
      refine ix_T ?_
      refine wl_invL (fun i e m' => ∃ (s' : Ds) (os : List (Str × Str)) (t : List (Str × Int)) (a14 a15 : Option Val), e = [some (.ref 0), some (.d (.int (p : Int))), some (.d (rowd r)), some (.d (datK .int vals)), some (.d (.int (pt : Int))), some (.d (cad c)), some (.d (.int (sh : Int))), some (.d (strT (ns0 ++ ms ++ os.map fun p => p.2))), some (.ref (tl.length + 1)), x, some (.d (.int ((ns0.map PyData.str).length : Int))), some (.d (.tuple [])), some (.d (.tuple (as.map argd))), some (.ref (tl.length + 2)), a14, a15, none, none, none, none] ∧ m' = St s' :: (tl ++ [.dct (mapK .int t), .lst ((os.map outd).map Val.d)]) ∧ os.map (fun p => p.1) = c.outs.take i ∧ (∀ x, x ∈ keys t ↔ x ∈ ns0 ++ ms ++ os.map fun p => p.2) ∧ TbOk t ∧ t.length ≤ t'.length + i ∧ ∀ p ∈ os, SM p.2)
        ⟨s2, [], t', none, none, by rw [List.map_nil, List.append_nil]; simp, by rw [os_new]; rfl, by simp, fun x => by rw [List.map_nil, List.append_nil]; exact hk x, m3, Nat.le_refl _, fun _ h => nomatch h⟩ (fun i y e m' hy I => ?_) (fun e m' I => ?_)
      · obtain ⟨s', os, t, a14, a15, rfl, rfl, h1, h2, h3, h4, h5⟩ := I
        have hi : i < c.outs.length := (List.getElem?_eq_some_iff.mp hy).1
        have hol := hc.ol
        have hosl : os.length = i := by
          have := congrArg List.length h1
          rw [List.length_map, List.length_take] at this
          omega
        obtain ⟨w, hw⟩ := lkS_of_mem (hc.onk y (List.mem_of_getElem? hy))
        have hwb := hc.tb _ (lkS_mem hw)
        have e0 : (((ns0 ++ ms ++ os.map fun p => p.2).map PyData.str).length : Int) - ((ns0.map PyData.str).length : Int) + 1 = ((ms.length + i + 1 : Nat) : Int) := by
          rw [List.length_map, List.length_map, List.length_append, List.length_append, List.length_map]; omega
        walk_at "pv all"
        refine qn_wr e0 (by omega) ?_
        walk_at "pv all"
        refine ix_tup (j := 3) rfl rfl ?_
        walk_at "pv all"
        refine ix_t dct_dat hw ?_
        walk_at "pv all"
        refine put_c (os_get (j := 0) (os := [Ob.dct (mapK .int t), .lst ((os.map outd).map Val.d)]) rfl) (by omega) ?_
        rw [show (St s' :: (tl ++ [Ob.dct (mapK .int t), .lst ((os.map outd).map Val.d)])).set (tl.length + 1) (.dct (mapK .int (putS t (qn (ms.length + i + 1)) w))) = St s' :: (tl ++ [Ob.dct (mapK .int (putS t (qn (ms.length + i + 1)) w)), .lst ((os.map outd).map Val.d)]) from os_set (j := 0)]
        walk_at "pv all"
        refine wr_addT (by rw [List.length_map, List.length_append, List.length_append, List.length_map]; simp only [List.length_cons, List.length_nil]; omega) ?_
        walk_at "pv all"
        refine ⟨rcv_lst (os_get (j := 1) (os := [Ob.dct (mapK .int (putS t (qn (ms.length + i + 1)) w)), .lst ((os.map outd).map Val.d)]) rfl), ?_⟩
        walk_at "pv all"
        refine app_end (os_get (j := 1) (os := [Ob.dct (mapK .int (putS t (qn (ms.length + i + 1)) w)), .lst ((os.map outd).map Val.d)]) rfl) (by rw [List.length_map, List.length_map]; omega) ?_
        walk_at "pv all"
        refine ⟨s', os ++ [(y, qn (ms.length + i + 1))], putS t (qn (ms.length + i + 1)) w, some (.d (.str y)), some (.d (.str (qn (ms.length + i + 1)))), ?_, ?_, ?_, fun z => ?_, fun p hp => ?_, ?_⟩
        · have e : strT (ns0 ++ ms ++ (os ++ [(y, qn (ms.length + i + 1))]).map fun p => p.2) = .tuple ((ns0 ++ ms ++ os.map fun p => p.2).map .str ++ [.str (qn (ms.length + i + 1))]) := by
            rw [List.map_append, ← List.append_assoc]
            show PyData.tuple (List.map _ _) = _
            rw [List.map_append]; rfl
          rw [e]; rfl
        · rw [show (St s' :: (tl ++ [Ob.dct (mapK .int (putS t (qn (ms.length + i + 1)) w)), .lst ((os.map outd).map Val.d)])).set (tl.length + 2) (.lst ((os.map outd).map Val.d ++ [.d (outd (y, qn (ms.length + i + 1)))])) = St s' :: (tl ++ [Ob.dct (mapK .int (putS t (qn (ms.length + i + 1)) w)), .lst ((os.map outd).map Val.d ++ [.d (outd (y, qn (ms.length + i + 1)))])]) from os_set (j := 1), List.map_append, List.map_append]
          rfl
        · rw [List.map_append, h1, List.take_add_one, hy]; rfl
        · rw [show (z ∈ keys (putS t (qn (ms.length + i + 1)) w)) ↔ _ from putS_keys, show z ∈ t.map (·.1) ↔ _ from h2 z, List.map_append, ← List.append_assoc, List.mem_append (s := ns0 ++ ms ++ _)]
          constructor
          · rintro (h | h)
            · exact .inr (by rw [h]; exact List.mem_cons_self)
            · exact .inl h
          · rintro (h | h)
            · exact .inr h
            · exact .inl (List.mem_singleton.mp h)
        · rcases putS_mem hp with hp | rfl
          · exact h3 p hp
          · exact hwb
        · refine ⟨Nat.le_trans putS_length (by omega), fun p hp => ?_⟩
          rcases List.mem_append.mp hp with hp | hp
          · exact h5 p hp
          · rw [List.mem_singleton.mp hp]; exact qn_ok (by omega)
      · obtain ⟨s', os, t, a14, a15, rfl, rfl, h1, h2, h3, h4, h5⟩ := I
        rw [List.take_length] at h1
        have hol := hc.ol
        have hosl : os.length = c.outs.length := by
          have := congrArg List.length h1
          rw [List.length_map] at this
          exact this
        refine thenS_nx ?_
        refine frz_lst rfl (os_get (j := 1) (os := [Ob.dct (mapK .int t), .lst ((os.map outd).map Val.d)]) rfl) ?_
        rw [show (St s' :: (tl ++ [Ob.dct (mapK .int t), .lst ((os.map outd).map Val.d)])).set (tl.length + 2) .dead = St s' :: (tl ++ [Ob.dct (mapK .int t), .dead]) from os_set (j := 1)]
        refine ws_set (we_tup ?_)
        walk_at "pv all"
        refine ix_tup (j := 0) rfl rfl ?_
        walk_at "pv all"
        refine step_end k s' tl [Ob.dct (mapK .int t), .dead] r p pt hpt hrr cs sh hsh (ns0 ++ ms ++ os.map fun p => p.2) (by rw [List.length_append, List.length_append, List.length_map]; omega) (fun x hx => List.mem_append_left _ (List.mem_append_left _ (hpn x hx))) t h3 (by omega) h2 (fun x hx => (List.mem_append.mp hx).elim (hso1 x) fun h => by obtain ⟨p, hp, rfl⟩ := List.mem_map.mp h; exact h5 p hp) (some (c.id, as, os)) ⟨hp0, c, hcs, rfl, ⟨ha.nms, fun p hp => ⟨(ha.fo p hp).1.sub fun x hx => List.mem_append_left _ hx, (ha.fo p hp).2⟩⟩, h1, fun p hp => List.mem_append_right _ (List.mem_map.mpr ⟨p, hp, rfl⟩)⟩ _ _ _ _ _ _ _ _ rfl Q q
  unfold f30
  walk_at "pv all"
  refine ix_tup (j := 1) rfl rfl ?_
  walk_at "pv all"
  refine ci_gt (fun h => ?_) (fun h => ?_)
  · refine pick_t ?_
    refine ws_set (we_bin ?_)
    walk_at "pv all"
    refine ix_tup (j := 2) rfl rfl ?_
    refine wr_addT (by rw [List.length_map, List.length_map]; omega) ?_
    rw [← List.map_append]
    exact ws_nil (thenS_nx (mid (r.ins ++ r.sts) (by unfold pn; rw [if_neg (by omega)])))
  · exact pick_f (ws_nil (thenS_nx (mid r.ins (by unfold pn; rw [if_pos (by omega)]))))
end PvK

namespace PvK
open PySem PySem.Spec PyProof.Rows L2 Pv
/-! nests, edges of a procedure, facts -/
theorem rg2_ex {R : Ix → Prop} {n : Nat} {j : Int} (e : j = ((n + 1 : Nat) : Int)) (h : n < 1000) (q : R ⟨rgItems 1 n, []⟩) : ∃ ix, rng2 [.d (.int 1), .d (.int j)] = some ix ∧ R ix := by
  subst e
  have hc : (-(2 ^ 62) ≤ (1 : Int) ∧ (1 : Int) < 2 ^ 62 ∧ -(2 ^ 62) ≤ ((n + 1 : Nat) : Int) ∧ ((n + 1 : Nat) : Int) < 2 ^ 62) ∧ ((n + 1 : Nat) : Int) - 1 ≤ 16777216 := by omega
  refine ⟨⟨rgItems 1 n, []⟩, ?_, q⟩
  unfold rng2
  simp only [if_pos hc]
  rw [show (((n + 1 : Nat) : Int) - 1).toNat = n by omega]
theorem wl_invR1 {gl : List (Str × Dt)} {c : Nat → List Val → M Val} {env : Sl} {mh : List Ob} {Q : Fl → List Ob → Prop} {g : G} {x : Ss} {n : Nat} (I : Nat → Sl → List Ob → Prop) (h0 : I 0 env mh)
    (hs : ∀ (i : Nat) e m, i < n → I i e m → WG gl c g (.d (.int ((i + 1 : Nat) : Int))) e m fun e1 m1 => WS gl c x e1 m1 fun f m2 => match f with
      | .nx e2 => I (i + 1) e2 m2 | .ct e2 => I (i + 1) e2 m2 | .bk e2 => Q (.nx e2) m2 | .rt r => Q (.rt r) m2)
    (hq : ∀ e m, I n e m → Q (.nx e) m) : WL gl c g x [] (rgItems 1 n) env mh Q :=
  wl_inv I (fun _ _ _ _ => gnil) h0 (fun i v e m hv hI => by
    unfold rgItems at hv
    rw [List.getElem?_map] at hv
    obtain ⟨j, hj, rfl⟩ := Option.map_eq_some_iff.mp hv
    obtain ⟨h1, h2⟩ := List.getElem?_eq_some_iff.mp hj
    rw [List.length_range] at h1
    rw [List.getElem_range] at h2
    subst h2
    rw [show (1 : Int) + (i : Int) = ((i + 1 : Nat) : Int) by omega]
    exact hs i e m h1 hI) fun e m hI => hq e m (by
      have : (rgItems 1 n).length = n := by unfold rgItems; rw [List.length_map, List.length_range]
      rw [this] at hI; exact hI)
theorem dec_ex {p : Prop} [Decidable p] {P : Bool → Prop} (h1 : p → P true) (h2 : ¬ p → P false) : ∃ c, Val.d (.bool (decide p)) = .d (.bool c) ∧ P c := by
  refine ⟨_, rfl, ?_⟩
  by_cases h : p
  · rw [decide_eq_true h]; exact h1 h
  · rw [decide_eq_false h]; exact h2 h
theorem nests_ok (k : Nat) (s : Ds) (tl : List Ob) (n : Nat) (hn : 1 ≤ n) (hn2 : n ≤ 100) (Q : Val → List Ob → Prop)
    (q : ∀ (ns : List (List Nat)) s', ns.length = n → (∀ x ∈ ns, x.length ≤ n ∧ ∀ v ∈ x, v ≤ n) → Q (.d (.tuple (ns.map nestd))) (St s' :: tl)) : W (callP P gl (k + 2) 24 [.ref 0, .d (.int (n : Int))]) (St s :: tl) Q := by
  refine w_def (nm := f24.name) (ps := f24.ps) (N := f24.N) (body := f24.body) (env := [some (.ref 0), some (.d (.int n)), none, none, none]) rfl rfl ?_
  unfold f24
  have hsl : sizeLine = 16777216 := rfl
  walk_at "pv all"
  refine rg2_ex (n := n - 1) (by omega) (by omega) ?_
  refine wl_invR1 (fun i e m' => ∃ (s' : Ds) (ns : List (List Nat)) (a3 a4 : Option Val), e = [some (.ref 0), some (.d (.int n)), some (.ref (tl.length + 1)), a3, a4] ∧ m' = St s' :: (tl ++ [.lst ((ns.map nestd).map Val.d)]) ∧ ns.length = i + 1 ∧ ∀ x ∈ ns, x.length ≤ i ∧ ∀ v ∈ x, v ≤ i) ⟨s, [[]], none, none, rfl, rfl, rfl, fun x hx => by rw [List.mem_singleton.mp hx]; exact ⟨Nat.le_refl _, fun _ h => nomatch h⟩⟩ (fun i e m' hi I => ?_) (fun e m' I => ?_)
  · obtain ⟨s', ns, a3, a4, rfl, rfl, h1, h2⟩ := I
    walk_at "pv all"
    have hd := draw_ok (i + 1) k s' (tl ++ [.lst ((ns.map nestd).map Val.d)]) (by omega) (by omega)
    refine hd _ fun j s1 j1 => ?_
    have hj : ns[j]? = some ns[j] := List.getElem?_eq_getElem (by omega)
    have hjl := h2 _ (List.mem_of_getElem? hj)
    generalize ns[j] = x at hj hjl
    refine ix_cell st_get rfl (show ((ns.map nestd).map Val.d)[j]? = some (.d (nestd x)) by rw [List.getElem?_map, List.getElem?_map, hj]; rfl) ?_
    walk_at "pv all"
    refine draw_ok 2 _ _ _ (by decide) (by decide) _ fun d s2 d1 => ?_
    walk_at "pv all"
    have fin : ∀ (s : Ds) (y : List Nat), y.length ≤ i + 1 ∧ (∀ v ∈ y, v ≤ i + 1) → WS gl (callP P gl (k + 1)) (.cons (.expr (.meth .append (.slot 2) (.cons (.slot 4) .nil))) .nil) [some (.ref 0), some (.d (.int n)), some (.ref (tl.length + 1)), some (.d (.int ((i + 1 : Nat) : Int))), some (.d (nestd y))] (St s :: (tl ++ [.lst ((ns.map nestd).map Val.d)])) fun f m2 => match f with
        | .nx e2 => ∃ (s' : Ds) (ns : List (List Nat)) (a3 a4 : Option Val), e2 = [some (.ref 0), some (.d (.int n)), some (.ref (tl.length + 1)), a3, a4] ∧ m2 = St s' :: (tl ++ [.lst ((ns.map nestd).map Val.d)]) ∧ ns.length = i + 1 + 1 ∧ ∀ x ∈ ns, x.length ≤ i + 1 ∧ ∀ v ∈ x, v ≤ i + 1
        | _ => False := by
      intro s y hy
      walk_at "pv all"
      refine ⟨rcv_lst st_get, ?_⟩
      walk_at "pv all"
      refine app_end st_get (by rw [List.length_map, List.length_map]; omega) ?_
      walk_at "pv all"
      rw [st_set]
      refine ⟨s, ns ++ [y], _, _, rfl, by rw [List.map_append, List.map_append]; rfl, by rw [List.length_append, h1]; rfl, fun z hz => ?_⟩
      rcases List.mem_append.mp hz with hz | hz
      · exact ⟨Nat.le_succ_of_le (h2 z hz).1, fun v hv => Nat.le_succ_of_le ((h2 z hz).2 v hv)⟩
      · rw [List.mem_singleton.mp hz]; exact hy
    refine ci_eq (fun h => ?_) (fun h => ?_)
    · refine pick_t ?_
      refine ws_set (we_bin ?_)
      walk_at "pv all"
      refine wr_addT (by have := hjl.1; rw [List.length_map]; simp only [List.length_cons, List.length_nil]; omega) ?_
      have e : x.map (fun i : Nat => PyData.int (i : Int)) ++ [.int ((i + 1 : Nat) : Int)] = (x ++ [i + 1]).map fun i : Nat => PyData.int (i : Int) := by rw [List.map_append]; rfl
      rw [e]
      refine ws_nil (thenS_nx ?_)
      refine W.mono (fin s2 (x ++ [i + 1]) ⟨by have := hjl.1; rw [List.length_append]; simp only [List.length_cons, List.length_nil]; omega, fun v hv => (List.mem_append.mp hv).elim (fun h => Nat.le_succ_of_le (hjl.2 v h)) fun h => by rw [List.mem_singleton.mp h]; exact Nat.le_refl _⟩) fun f m2 h => ?_
      cases f with
      | nx e => exact h
      | _ => exact h.elim
    · refine pick_f (ws_nil (thenS_nx ?_))
      refine W.mono (fin s2 x ⟨by have := hjl.1; omega, fun v hv => Nat.le_succ_of_le (hjl.2 v hv)⟩) fun f m2 h => ?_
      cases f with
      | nx e => exact h
      | _ => exact h.elim
  · obtain ⟨s', ns, a3, a4, rfl, rfl, h1, h2⟩ := I
    refine thenS_nx ?_
    refine frz_lst rfl st_get ?_
    rw [st_set]
    walk_at "pv all"
    exact q ns s' (by omega) fun x hx => ⟨by have := (h2 x hx).1; omega, fun v hv => by have := (h2 x hx).2 v hv; omega⟩
/-! a dict by whole numbers -/
theorem find_put {kvs : List (Key × Val)} {k k' : Key} {v : Val} : findK (putV kvs k v) k' = if k' = k then some v else findK kvs k' := by
  unfold findK putV
  by_cases hk : k' = k
  · subst hk
    rw [if_pos rfl]
    split
    · rename_i h
      induction kvs with
      | nil => simp at h
      | cons p m ih =>
        rw [List.map_cons, List.find?_cons]
        by_cases hp : p.1 = k'
        · rw [if_pos hp, decide_eq_true hp]; rfl
        · rw [if_neg hp, decide_eq_false hp]
          refine ih ?_
          rw [List.any_cons, decide_eq_false hp, Bool.false_or] at h
          exact h
    · rename_i h
      rw [List.find?_append]
      have : kvs.find? (fun p => decide (p.1 = k')) = none := by
        rw [List.find?_eq_none]
        intro p hp z
        exact h (List.any_eq_true.mpr ⟨p, hp, z⟩)
      rw [this]
      simp
  · rw [if_neg hk]
    split
    · rename_i hh
      clear hh
      induction kvs with
      | nil => rfl
      | cons p m ih =>
        rw [List.map_cons, List.find?_cons, List.find?_cons]
        by_cases hp : p.1 = k
        · rw [if_pos hp]
          have : decide (p.1 = k') = false := decide_eq_false fun e => hk (e.symm.trans hp)
          simp only [this]
          exact ih
        · rw [if_neg hp]
          cases decide (p.1 = k')
          · exact ih
          · rfl
    · rw [List.find?_append]
      cases kvs.find? fun p => decide (p.1 = k') with
      | some q => rfl
      | none => simp [Ne.symm hk]
theorem put_k {mh : List Ob} {n : Nat} {kvs : List (Key × Val)} {i : Int} {v : Val} {Q : Unit → List Ob → Prop} (h : mh[n]? = some (.dct kvs)) (hl : kvs.length < sizeLine) (q : Q () (mh.set n (.dct (putV kvs (.inl i) v)))) : W (setVl (.ref n) (.d (.int i)) v) mh Q := by
  refine ⟨(), _, ?_, q⟩
  unfold setVl
  simp only [h]
  exact if_pos hl
theorem dct_k {mh : List Ob} {n : Nat} {kvs : List (Key × Val)} (h : mh[n]? = some (.dct kvs)) : dctOf mh (.ref n) = some kvs := by unfold dctOf; simp only [h]
theorem get_k1 {mh : List Ob} {o : Val} {kvs : List (Key × Val)} {i : Int} {Q : Val → List Ob → Prop} (h : dctOf mh o = some kvs) (q : Q ((findK kvs (.inl i)).getD (.d .none)) mh) : W (Mt.f .get o [.d (.int i)]) mh Q := by
  refine ⟨_, mh, ?_, q⟩
  show (match dctOf mh o, keyVl (.d (.int i)) with | some kvs, some k => some ((findK kvs k).getD (.d .none), mh) | _, _ => none) = _
  rw [h]
  rfl
/-- the callees chosen so far -/
def ChOk (kvs : List (Key × Val)) (cs : List Ca) : Prop := ∀ (k : Int) v, findK kvs (.inl k) = some v → 0 < k ∧ ∃ c ∈ cs, v = .d (cad c)
theorem max_sh (a : Nat) : (if (a : Int) - 6 > 0 then (a : Int) - 6 else 0) = ((a - 6 : Nat) : Int) := by split <;> omega
theorem proc_edges_ok (k : Nat) (s : Ds) (tl : List Ob) (r : Rw) (vals : List (Str × Int)) (ok : RwOk r vals) (p : Nat) (cs : List Ca) (hcs : ∀ c ∈ cs, CaOk c) (hcl : 0 < cs.length ∧ cs.length < 100) (Q : Val → List Ob → Prop)
    (q : ∀ (bs : List Bt) s', bs.length ≤ 40 → (∀ b ∈ bs, BtOk r cs p b) → Q (.d (.list (bs.map btd))) (St s' :: tl)) : W (callP P gl (k + 7) 31 [.ref 0, .d (.int (p : Int)), .d (rowd r), .d (datK .int vals), .d (.list (cs.map cad))]) (St s :: tl) Q := by
  refine w_def (nm := f31.name) (ps := f31.ps) (N := f31.N) (body := f31.body) (env := [some (.ref 0), some (.d (.int (p : Int))), some (.d (rowd r)), some (.d (datK .int vals)), some (.d (.list (cs.map cad))), none, none, none, none, none, none]) rfl rfl ?_
  unfold f31
  have hsl : sizeLine = 16777216 := rfl
  have hnp := ok.np
  walk_at "pv all"
  refine ix_tup (j := 3) rfl rfl ?_
  walk_at "pv all"
  refine rg1 (n := r.nests.length) (by rw [List.length_map]) (by omega) ?_
  have hmem : ∀ (s : Ds) (kvs : List (Key × Val)) (bs : List Bt), St s :: (tl ++ [Ob.dct kvs, .lst ((bs.map btd).map Val.d)]) = St s :: (tl ++ [Ob.dct kvs, .lst ((bs.map btd).map Val.d)]) := fun _ _ _ => rfl
  refine wl_invR (fun i e m' => ∃ (s' : Ds) (kvs : List (Key × Val)) (bs : List Bt) (a7 a8 a9 a10 : Option Val), e = [some (.ref 0), some (.d (.int (p : Int))), some (.d (rowd r)), some (.d (datK .int vals)), some (.d (.list (cs.map cad))), some (.ref (tl.length + 1)), some (.ref (tl.length + 2)), a7, a8, a9, a10] ∧ m' = St s' :: (tl ++ [Ob.dct kvs, .lst ((bs.map btd).map Val.d)]) ∧ kvs.length ≤ i ∧ ChOk kvs cs ∧ bs.length ≤ 4 * i ∧ ∀ b ∈ bs, BtOk r cs p b)
    ⟨s, [], [], none, none, none, none, by rw [show (St s :: tl ++ [Ob.dct []]).length = tl.length + 2 by simp]; rfl, by rw [List.cons_append, List.cons_append, List.append_assoc]; rfl, Nat.le_refl _, fun _ _ h => (by cases h), Nat.zero_le _, fun _ h => nomatch h⟩ (fun i e m' hi I => ?_) (fun e m' I => ?_)
  · obtain ⟨s', kvs, bs, a7, a8, a9, a10, rfl, rfl, h1, h2, h3, h4⟩ := I
    refine wg_nm (ws_set ?_)
    refine W.mono (Q := fun v m => m = St s' :: (tl ++ [Ob.dct kvs, .lst ((bs.map btd).map Val.d)]) ∧ ∃ b, v = .d (.bool b) ∧ (b = true → 0 < i ∧ i + 1 < r.nests.length)) ?_ ?_
    · walk_at "pv all"
      refine dec_ex (fun g => ?_) (fun g => ?_)
      · walk_at "pv all"
        refine ix_tup (j := 3) rfl rfl ?_
        walk_at "pv all"
        refine dec_ex (fun g2 => ?_) (fun g2 => ?_)
        · walk_at "pv all"
          rw [List.length_map] at g2
          refine wr_v (x := .d (.bool (!(findK kvs (.inl (i : Int))).isSome))) ?_ ⟨rfl, _, rfl, fun _ => ⟨by omega, by omega⟩⟩
          show bR ((inV2 _ (.d (.int (i : Int))) (.ref (tl.length + 1))).map (!·)) = _
          unfold inV2
          rw [dct_k (os_get (j := 0) (os := [Ob.dct kvs, .lst ((bs.map btd).map Val.d)]) rfl)]
          rfl
        · walk_at "pv all"
          exact ⟨rfl, false, rfl, fun z => by cases z⟩
      · walk_at "pv all"
        exact ⟨rfl, false, rfl, fun z => by cases z⟩
    intro v m ⟨e1, b, e2, hb⟩
    subst e1 e2
    have step : ∀ (s : Ds) (a8 : Option Val), WS gl (callP P gl (k + 6)) (.cons (.for (.nm 10) (.range1 (.cons (.call 15 (.cons (.slot 0) (.cons (.k (.int 4)) .nil))) .nil)) (.cons (.set 9 (.bi .max false (.cons (.k (.int 0)) (.cons (.bin .Sub false (.call 15 (.cons (.slot 0) (.cons (.k (.int 9)) .nil))) (.k (.int 6))) .nil))))
    (.cons (.expr (.meth .append (.slot 6) (.cons (.call 30 (.cons (.slot 0) (.cons (.slot 1) (.cons (.slot 2) (.cons (.slot 3) (.cons (.slot 7) (.cons (.meth .get (.slot 5) (.cons (.slot 7) .nil)) (.cons (.slot 9) .nil)))))))) .nil)))
    .nil)))
    (.cons (.iff (.cmp .Eq (.slot 7) (.k (.int 0))) (.cons (.expr (.meth .append (.slot 6) (.cons (.call 30 (.cons (.slot 0) (.cons (.slot 1) (.cons (.slot 2) (.cons (.slot 3) (.cons (.k (.int 0)) (.cons (.k .non) (.cons (.k (.int 0)) .nil)))))))) .nil)))
    .nil) .nil)
    .nil)) [some (.ref 0), some (.d (.int (p : Int))), some (.d (rowd r)), some (.d (datK .int vals)), some (.d (.list (cs.map cad))), some (.ref (tl.length + 1)), some (.ref (tl.length + 2)), some (.d (.int (i : Int))), a8, a9, a10] (St s :: (tl ++ [Ob.dct kvs, .lst ((bs.map btd).map Val.d)])) fun f m2 => match f with
        | .nx e2 => ∃ (s' : Ds) (kvs : List (Key × Val)) (bs : List Bt) (a7 a8 a9 a10 : Option Val), e2 = [some (.ref 0), some (.d (.int (p : Int))), some (.d (rowd r)), some (.d (datK .int vals)), some (.d (.list (cs.map cad))), some (.ref (tl.length + 1)), some (.ref (tl.length + 2)), a7, a8, a9, a10] ∧ m2 = St s' :: (tl ++ [Ob.dct kvs, .lst ((bs.map btd).map Val.d)]) ∧ kvs.length ≤ i + 1 ∧ ChOk kvs cs ∧ bs.length ≤ 4 * (i + 1) ∧ ∀ b ∈ bs, BtOk r cs p b
        | _ => False := by
      intro s a8
      walk_at "pv all"
      refine draw_ok 4 _ _ _ (by decide) (by decide) _ fun c s1 c1 => ?_
      walk_at "pv all"
      refine rg1 (n := c) rfl (by omega) ?_
      refine wl_invR (fun j e m' => ∃ (s' : Ds) (bs' : List Bt) (a9 a10 : Option Val), e = [some (.ref 0), some (.d (.int (p : Int))), some (.d (rowd r)), some (.d (datK .int vals)), some (.d (.list (cs.map cad))), some (.ref (tl.length + 1)), some (.ref (tl.length + 2)), some (.d (.int (i : Int))), a8, a9, a10] ∧ m' = St s' :: (tl ++ [Ob.dct kvs, .lst ((bs'.map btd).map Val.d)]) ∧ bs'.length ≤ 4 * i + j ∧ ∀ b ∈ bs', BtOk r cs p b) ⟨s1, bs, _, _, rfl, rfl, h3, h4⟩ (fun j e m' hj I => ?_) (fun e m' I => ?_)
      · obtain ⟨s2, bs', a9, a10, rfl, rfl, h5, h6⟩ := I
        walk_at "pv all"
        refine draw_ok 9 _ _ _ (by decide) (by decide) _ fun d s3 d1 => ?_
        walk_at "pv all"
        rw [max_sh]
        refine ⟨rcv_lst (os_get (j := 1) (os := [Ob.dct kvs, .lst ((bs'.map btd).map Val.d)]) rfl), ?_⟩
        walk_at "pv all"
        have hg0 : (St s3 :: (tl ++ [Ob.dct kvs, .lst ((bs'.map btd).map Val.d)]))[tl.length + 1]? = some (.dct kvs) := os_get (j := 0) (os := [Ob.dct kvs, .lst ((bs'.map btd).map Val.d)]) rfl
        refine ⟨by unfold rcv; simp only [hg0]; rfl, ?_⟩
        walk_at "pv all"
        refine get_k1 (dct_k hg0) ?_
        obtain ⟨oc, hv, hoc⟩ : ∃ oc : Option Ca, (findK kvs (.inl (i : Int))).getD (.d .none) = .d (ocd oc) ∧ ∀ c, oc = some c → CaOk c ∧ c ∈ cs ∧ 0 < i := by
          cases hf : findK kvs (.inl (i : Int)) with
          | none => exact ⟨none, rfl, fun _ h => nomatch h⟩
          | some v =>
            obtain ⟨g1, c, g2, g3⟩ := h2 _ _ hf
            exact ⟨some c, by rw [g3]; rfl, fun c' h => by cases h; exact ⟨hcs c g2, g2, by omega⟩⟩
        rw [hv]
        walk_at "pv all"
        have hst := step_edge_ok k s3 (tl ++ [Ob.dct kvs, .lst ((bs'.map btd).map Val.d)]) r vals ok p i hi cs oc hoc (d - 6) (by omega)
        refine hst _ fun b s4 hb => ?_
        walk_at "pv all"
        refine app_end (os_get (j := 1) (os := [Ob.dct kvs, .lst ((bs'.map btd).map Val.d)]) rfl) (by rw [List.length_map, List.length_map]; omega) ?_
        rw [show (St s4 :: (tl ++ [Ob.dct kvs, .lst ((bs'.map btd).map Val.d)])).set (tl.length + 2) (.lst ((bs'.map btd).map Val.d ++ [.d (btd b)])) = St s4 :: (tl ++ [Ob.dct kvs, .lst ((bs'.map btd).map Val.d ++ [.d (btd b)])]) from os_set (j := 1)]
        walk_at "pv all"
        refine ⟨s4, bs' ++ [b], _, _, rfl, by rw [List.map_append, List.map_append]; rfl, by rw [List.length_append]; simp only [List.length_cons, List.length_nil]; omega, fun b' hb' => ?_⟩
        rcases List.mem_append.mp hb' with hb' | hb'
        · exact h6 b' hb'
        · rw [List.mem_singleton.mp hb']; exact hb
      · obtain ⟨s2, bs', a9, a10, rfl, rfl, h5, h6⟩ := I
        walk_at "pv all"
        refine ci_eq (fun h => ?_) (fun h => ?_)
        · walk_at "pv all"
          refine ⟨rcv_lst (os_get (j := 1) (os := [Ob.dct kvs, .lst ((bs'.map btd).map Val.d)]) rfl), ?_⟩
          walk_at "pv all"
          have hst := step_edge_ok k s2 (tl ++ [Ob.dct kvs, .lst ((bs'.map btd).map Val.d)]) r vals ok p 0 (by omega) cs none (fun _ h => nomatch h) 0 (by omega)
          refine hst _ fun b s4 hb => ?_
          walk_at "pv all"
          refine app_end (os_get (j := 1) (os := [Ob.dct kvs, .lst ((bs'.map btd).map Val.d)]) rfl) (by rw [List.length_map, List.length_map]; omega) ?_
          rw [show (St s4 :: (tl ++ [Ob.dct kvs, .lst ((bs'.map btd).map Val.d)])).set (tl.length + 2) (.lst ((bs'.map btd).map Val.d ++ [.d (btd b)])) = St s4 :: (tl ++ [Ob.dct kvs, .lst ((bs'.map btd).map Val.d ++ [.d (btd b)])]) from os_set (j := 1)]
          walk_at "pv all"
          refine ⟨s4, kvs, bs' ++ [b], _, _, _, _, rfl, by rw [List.map_append, List.map_append]; rfl, by omega, h2, by rw [List.length_append]; simp only [List.length_cons, List.length_nil]; omega, fun b' hb' => ?_⟩
          rcases List.mem_append.mp hb' with hb' | hb'
          · exact h6 b' hb'
          · rw [List.mem_singleton.mp hb']; exact hb
        · walk_at "pv all"
          exact ⟨s2, kvs, bs', _, _, _, _, rfl, rfl, by omega, h2, by omega, h6⟩
    have stepQ : ∀ (s : Ds) (R : Fl → List Ob → Prop), (∀ e m, (∃ (s' : Ds) (kvs : List (Key × Val)) (bs : List Bt) (a7 a8 a9 a10 : Option Val), e = [some (.ref 0), some (.d (.int (p : Int))), some (.d (rowd r)), some (.d (datK .int vals)), some (.d (.list (cs.map cad))), some (.ref (tl.length + 1)), some (.ref (tl.length + 2)), a7, a8, a9, a10] ∧ m = St s' :: (tl ++ [Ob.dct kvs, .lst ((bs.map btd).map Val.d)]) ∧ kvs.length ≤ i + 1 ∧ ChOk kvs cs ∧ bs.length ≤ 4 * (i + 1) ∧ ∀ b ∈ bs, BtOk r cs p b) → R (.nx e) m) → W (evSs gl (callP P gl (k + 6)) _ _) (St s :: (tl ++ [Ob.dct kvs, .lst ((bs.map btd).map Val.d)])) R := fun s R hR => W.mono (step s (some (.d (.bool b)))) fun f m2 h => by
      cases f with
      | nx e => exact hR e m2 h
      | _ => exact h.elim
    walk_at "pv all"
    cases b with
    | false =>
      refine pick_f ?_
      refine pick_f ?_
      exact stepQ s' _ fun e m h => by walk_at "pv all"; exact h
    | true =>
      obtain ⟨b1, b2⟩ := hb rfl
      walk_at "pv all"
      refine draw_ok 3 _ _ _ (by decide) (by decide) _ fun d s1 d1 => ?_
      walk_at "pv all"
      refine ci_lt (fun h => ?_) (fun h => ?_)
      · walk_at "pv all"
        have hd := draw_ok cs.length (k + 5) s1 (tl ++ [Ob.dct kvs, .lst ((bs.map btd).map Val.d)]) hcl.1 (by omega)
        rw [List.length_map]
        refine hd _ fun j s2 j1 => ?_
        have hj : cs[j]? = some cs[j] := List.getElem?_eq_getElem j1
        have hjm := List.mem_of_getElem? hj
        generalize cs[j] = c at hj hjm
        refine ix_list rfl (show (cs.map cad)[j]? = some (cad c) by rw [List.getElem?_map, hj]; rfl) ?_
        walk_at "pv all"
        refine put_k (os_get (j := 0) (os := [Ob.dct kvs, .lst ((bs.map btd).map Val.d)]) rfl) (by omega) ?_
        rw [show (St s2 :: (tl ++ [Ob.dct kvs, .lst ((bs.map btd).map Val.d)])).set (tl.length + 1) (.dct (putV kvs (.inl ((i : Int) + 1)) (.d (cad c)))) = St s2 :: (tl ++ [Ob.dct (putV kvs (.inl ((i : Int) + 1)) (.d (cad c))), .lst ((bs.map btd).map Val.d)]) from os_set (j := 0)]
        have hch : ChOk (putV kvs (.inl ((i : Int) + 1)) (.d (cad c))) cs := fun k' v hv => by
          rw [find_put] at hv
          split at hv
          · rename_i e; cases e; cases hv
            exact ⟨by omega, c, hjm, rfl⟩
          · exact h2 k' v hv
        have hkl : (putV kvs (.inl ((i : Int) + 1)) (.d (cad c))).length ≤ i + 1 := Nat.le_trans (putV_length _ _ _) (by omega)
        have hfk : findK (putV kvs (.inl ((i : Int) + 1)) (.d (cad c))) (.inl ((i : Int) + 1)) = some (.d (cad c)) := by rw [find_put, if_pos rfl]
        generalize putV kvs (.inl ((i : Int) + 1)) (.d (cad c)) = kv2 at hch hkl hfk
        walk_at "pv all"
        refine draw_ok 9 _ _ _ (by decide) (by decide) _ fun d s3 d1 => ?_
        walk_at "pv all"
        rw [max_sh]
        refine ⟨rcv_lst (os_get (j := 1) (os := [Ob.dct kv2, .lst ((bs.map btd).map Val.d)]) rfl), ?_⟩
        walk_at "pv all"
        refine ⟨.d (cad c), ?_, ?_⟩
        · unfold ixVl
          rw [dct_k (os_get (j := 0) (os := [Ob.dct kv2, .lst ((bs.map btd).map Val.d)]) rfl)]
          exact hfk
        walk_at "pv all"
        have hst := call_edge_ok k s3 (tl ++ [Ob.dct kv2, .lst ((bs.map btd).map Val.d)]) r vals ok p i b1 b2 cs c (hcs c hjm) hjm (d - 6) (by omega)
        refine hst _ fun b s4 hb => ?_
        walk_at "pv all"
        refine app_end (os_get (j := 1) (os := [Ob.dct kv2, .lst ((bs.map btd).map Val.d)]) rfl) (by rw [List.length_map, List.length_map]; omega) ?_
        rw [show (St s4 :: (tl ++ [Ob.dct kv2, .lst ((bs.map btd).map Val.d)])).set (tl.length + 2) (.lst ((bs.map btd).map Val.d ++ [.d (btd b)])) = St s4 :: (tl ++ [Ob.dct kv2, .lst ((bs.map btd).map Val.d ++ [.d (btd b)])]) from os_set (j := 1)]
        walk_at "pv all"
        refine ⟨s4, kv2, bs ++ [b], _, _, _, _, rfl, by rw [List.map_append, List.map_append]; rfl, hkl, hch, by rw [List.length_append]; simp only [List.length_cons, List.length_nil]; omega, fun b' hb' => ?_⟩
        rcases List.mem_append.mp hb' with hb' | hb'
        · exact h4 b' hb'
        · rw [List.mem_singleton.mp hb']; exact hb
      · refine pick_f ?_
        exact stepQ s1 _ fun e m h => by walk_at "pv all"; exact h
  · obtain ⟨s', kvs, bs, a7, a8, a9, a10, rfl, rfl, h1, h2, h3, h4⟩ := I
    refine thenS_nx ?_
    refine frz_lst rfl (os_get (j := 1) (os := [Ob.dct kvs, .lst ((bs.map btd).map Val.d)]) rfl) ?_
    rw [show (St s' :: (tl ++ [Ob.dct kvs, .lst ((bs.map btd).map Val.d)])).set (tl.length + 2) .dead = St s' :: (tl ++ [Ob.dct kvs, .dead]) from os_set (j := 1)]
    walk_at "pv all"
    exact q bs s' (by omega) h4
end PvK

namespace PvK
open PySem PySem.Spec PyProof.Rows L2 Pv
/-! facts -/
abbrev Fa := List (List Fm) × List Fm
abbrev factd (f : Fa) : Dt := .tuple [.tuple (f.1.map fms), fms f.2]
structure FaOk (r : Rw) (f : Fa) : Prop where
  pl : f.1.length = r.nests.length
  pt : ∀ fs ∈ f.1, fs.length ≤ 2 ∧ ∀ F ∈ fs, Fo (r.ins ++ r.sts) F
  po : f.2.length ≤ 2 ∧ ∀ F ∈ f.2, Fo (r.ins ++ r.outs) F
theorem true_facts_ok (k : Nat) (s : Ds) (tl : List Ob) (r : Rw) (vals : List (Str × Int)) (ok : RwOk r vals) (Q : Val → List Ob → Prop)
    (q : ∀ f s', FaOk r f → Q (.d (factd f)) (St s' :: tl)) : W (callP P gl (k + 5) 32 [.ref 0, .d (rowd r), .d (datK .int vals)]) (St s :: tl) Q := by
  refine w_def (nm := f32.name) (ps := f32.ps) (N := f32.N) (body := f32.body) (env := [some (.ref 0), some (.d (rowd r)), some (.d (datK .int vals)), none, none, none, none]) rfl rfl ?_
  unfold f32
  have hsl : sizeLine = 16777216 := rfl
  have h20 := sl_two ok
  have hol := ok.ol
  have hil := ok.il
  have hnp := ok.np
  walk_at "pv all"
  refine ix_tup (j := 3) rfl rfl ?_
  walk_at "pv all"
  refine rg2_ex (n := r.nests.length - 1) (by rw [List.length_map]; omega) (by omega) ?_
  refine wl_invR1 (fun i e m' => ∃ (s' : Ds) (ps : List (List Fm)) (a4 : Option Val), e = [some (.ref 0), some (.d (rowd r)), some (.d (datK .int vals)), some (.ref (tl.length + 1)), a4, none, none] ∧ m' = St s' :: (tl ++ [.lst ((ps.map fms).map Val.d)]) ∧ ps.length = i + 1 ∧ ∀ fs ∈ ps, fs.length ≤ 2 ∧ ∀ F ∈ fs, Fo (r.ins ++ r.sts) F) ⟨s, [[]], none, rfl, rfl, rfl, fun x hx => by rw [List.mem_singleton.mp hx]; exact ⟨Nat.zero_le _, fun _ h => nomatch h⟩⟩ (fun i e m' hi I => ?_) (fun e m' I => ?_)
  · obtain ⟨s', ps, a4, rfl, rfl, h1, h2⟩ := I
    walk_at "pv all"
    refine ⟨rcv_lst st_get, ?_⟩
    walk_at "pv all"
    refine draw_ok 3 _ _ _ (by decide) (by decide) _ fun c s1 c1 => ?_
    walk_at "pv all"
    refine rg1 (n := c) rfl (by omega) ?_
    refine wc_genR (α := Fm) fm (Fo (r.ins ++ r.sts)) (fun j s hj => ?_) fun fs s2 g1 g2 => ?_
    · walk_at "pv all"
      refine ix_tup (j := 1) rfl rfl ?_
      walk_at "pv all"
      refine ix_tup (j := 2) rfl rfl ?_
      refine wr_addT (by rw [List.length_map, List.length_map]; omega) ?_
      rw [← List.map_append]
      walk_at "pv all"
      have ht := true_ok false k s (tl ++ [.lst ((ps.map fms).map Val.d)]) (r.ins ++ r.sts) (by rw [List.length_append]; omega) (.d (datK .int vals)) vals (fun _ => dct_dat) ok.tb (fun x hx => (List.mem_append.mp hx).elim (ok.ink x) (ok.snk x))
      refine ht _ fun F s3 hF => ?_
      exact ⟨F, _, rfl, rfl, hF⟩
    refine wr_nl rfl ?_
    walk_at "pv all"
    refine app_end st_get (by rw [List.length_map, List.length_map]; omega) ?_
    walk_at "pv all"
    rw [st_set]
    refine ⟨s2, ps ++ [fs], _, rfl, by rw [List.map_append, List.map_append]; rfl, by rw [List.length_append, h1]; rfl, fun x hx => ?_⟩
    rcases List.mem_append.mp hx with hx | hx
    · exact h2 x hx
    · rw [List.mem_singleton.mp hx]; exact ⟨by omega, g2⟩
  · obtain ⟨s', ps, a4, rfl, rfl, h1, h2⟩ := I
    refine thenS_nx ?_
    refine frz_lst rfl st_get ?_
    rw [st_set]
    walk_at "pv all"
    refine draw_ok 3 _ _ _ (by decide) (by decide) _ fun c s1 c1 => ?_
    walk_at "pv all"
    refine rg1 (n := c) rfl (by omega) ?_
    refine wc_genR (α := Fm) fm (Fo (r.ins ++ r.outs)) (fun j s hj => ?_) fun fs s2 g1 g2 => ?_
    · walk_at "pv all"
      refine ix_tup (j := 1) rfl rfl ?_
      walk_at "pv all"
      refine ix_tup (j := 4) rfl rfl ?_
      refine wr_addT (by rw [List.length_map, List.length_map]; omega) ?_
      rw [← List.map_append]
      walk_at "pv all"
      have ht := true_ok false k s (tl ++ [.dead]) (r.ins ++ r.outs) (by rw [List.length_append]; omega) (.d (datK .int vals)) vals (fun _ => dct_dat) ok.tb (fun x hx => (List.mem_append.mp hx).elim (ok.ink x) (ok.onk x))
      refine ht _ fun F s3 hF => ?_
      exact ⟨F, _, rfl, rfl, hF⟩
    refine wr_nl rfl ?_
    walk_at "pv all"
    exact q (ps, fs) s2 ⟨by show ps.length = _; omega, h2, by show fs.length ≤ 2; omega, g2⟩
/-! lower procedures and rows -/
structure Lw where
  nm : Str
  ins : List Str
  outs : List Str
  tab : List (Str × Int)
  w : Nat
  needs : List Fm
  posts : List Fm
abbrev faced (l : Lw) : Dt := .tuple [.str l.nm, .int (l.w : Int), fms l.needs, fms l.posts]
abbrev lowd (l : Lw) : Dt := .tuple [.str l.nm, strT l.ins, strT l.outs, datK .int l.tab, faced l]
structure LwOk (l : Lw) : Prop where
  il : l.ins.length ≤ 8
  ol : l.outs.length ≤ 10
  tb : TbOk l.tab
  ink : ∀ x ∈ l.ins, x ∈ keys l.tab
  onk : ∀ x ∈ l.outs, x ∈ keys l.tab
  need : l.needs.length ≤ 2 ∧ ∀ F ∈ l.needs, Fo l.ins F
  post : l.posts.length ≤ 2 ∧ ∀ F ∈ l.posts, Fo (l.ins ++ l.outs) F
  so : ∀ x ∈ l.ins ++ l.outs, SM x
  nmo : SM l.nm
  wl : l.w < 10
def lca (l : Lw) : Ca := ⟨.nm l.nm, l.ins, l.outs, l.tab⟩
theorem lca_ok {l : Lw} (h : LwOk l) : CaOk (lca l) := ⟨h.il, h.ol, h.tb, h.ink, h.onk, h.so, fun x e => by cases e; exact h.nmo⟩
def pre (b : Nat) : Str := if b = 0 then "" else "#"
theorem pre_ix {mh : List Ob} {b : Nat} {R : Val → Prop} (hb : b < 2) (q : R (.d (.str (pre b)))) : ∃ v, ixVl mh (.d (.list [.str (Str.ofString ""), .str (Str.ofString "#")])) (.d (.int (b : Int))) = some v ∧ R v := by
  refine ix_list (j := b) rfl (v := .str (pre b)) ?_ q
  have : b = 0 ∨ b = 1 := by omega
  rcases this with rfl | rfl <;> rfl
theorem pre_len {b : Nat} : (pre b).length ≤ 1 := by
  unfold pre
  split
  · exact (show (Str.ofString "").length ≤ 1 by decide +kernel)
  · exact (show (Str.ofString "#").length ≤ 1 by decide +kernel)
/-- a name of a variable: a word, perhaps behind a sign -/
def Nm (x : Str) : Prop := ∃ a as, x.cps.toList = a :: as ∧ x.length ≤ 6
theorem nm_pre {b : Nat} {w : Str} (h : Wrd w) : Nm (pre b ++ w) := by
  obtain ⟨h1, a, as, e, h2, h3, h4⟩ := h
  have hl : (pre b ++ w).length ≤ 6 := by rw [len_app]; have := pre_len (b := b); omega
  have he : (pre b ++ w).cps.toList = (pre b).cps.toList ++ (a :: as) := by rw [app_list, e]
  cases e2 : (pre b).cps.toList with
  | nil => rw [e2] at he; exact ⟨a, as, he, hl⟩
  | cons c cs => rw [e2] at he; exact ⟨c, cs ++ a :: as, he, hl⟩
theorem nm_wrd {w : Str} (h : Wrd w) : Nm w := by
  obtain ⟨h1, a, as, e, _⟩ := h
  exact ⟨a, as, e, by omega⟩
theorem pre_so {b : Nat} : SN 1 (pre b) := by
  unfold pre
  split
  · exact (show PyData.strOk (Str.ofString "") = true ∧ (Str.ofString "").length ≤ 1 by decide +kernel)
  · exact (show PyData.strOk (Str.ofString "#") = true ∧ (Str.ofString "#").length ≤ 1 by decide +kernel)
def hsh (x : Str) : Prop := x.cps.toList.head? = some 35
theorem hsh_ix {mh : List Ob} {x : Str} (h : Nm x) {R : Val → Prop} (q : ∀ c, x.cps.toList.head? = some c → R (.d (.str ⟨#[c]⟩))) : ∃ v, ixVl mh (.d (.str x)) (.d (.int 0)) = some v ∧ R v := by
  obtain ⟨a, as, e, hl⟩ := h
  exact ixS_str (j := 0) (by have h2 : sizeLine = 16777216 := rfl; omega) rfl (by rw [e]; rfl) (q a (by rw [e]; rfl))
theorem one_inj {a b : Nat} (h : (⟨#[a]⟩ : Str) = ⟨#[b]⟩) : a = b := by
  have := congrArg (fun z => z.cps.toList) h
  simpa using this
end PvK

namespace PvK
open PySem PySem.Spec PyProof.Rows L2 Pv
/-! the drawn lower procedures -/
def aN (x : Str) : Str := Str.ofString "@" ++ x
theorem aN_len : (Str.ofString "@").length = 1 := by decide +kernel
theorem aN_so {x : Str} (h : SN 9 x) : SM (aN x) := SN.app (n := 1) (show PyData.strOk (Str.ofString "@") = true ∧ (Str.ofString "@").length ≤ 1 by decide +kernel) h
theorem app_str (xs : List Str) (y : Str) : ((xs ++ [y]).map PyData.str).map Val.d = (xs.map PyData.str).map Val.d ++ [.d (.str y)] := by simp
theorem words_at {ws : List Str} {i : Nat} (h : i < ws.length) (hw : ∀ x ∈ ws, Wrd x) : ∃ w, ws[i]? = some w ∧ (ws.map PyData.str)[i]? = some (.str w) ∧ Wrd w := by
  refine ⟨ws[i], List.getElem?_eq_getElem h, ?_, hw _ (List.getElem_mem h)⟩
  rw [List.getElem?_map, List.getElem?_eq_getElem h]; rfl
theorem low_ok (k : Nat) (s : Ds) (tl : List Ob) (nm : Str) (hnmo : SM nm) (Q : Val → List Ob → Prop)
    (q : ∀ l s', LwOk l → l.nm = nm → Q (.d (lowd l)) (St s' :: tl)) : W (callP P gl (k + 5) 23 [.ref 0, .d (.str nm)]) (St s :: tl) Q := by
  refine w_def (nm := f23.name) (ps := f23.ps) (N := f23.N) (body := f23.body) (env := [some (.ref 0), some (.d (.str nm)), none, none, none, none, none, none, none]) rfl rfl ?_
  unfold f23
  have hsl : sizeLine = 16777216 := rfl
  walk_at "pv all"
  refine words_ok 8 _ _ _ (by decide) _ fun ws s1 w1 w2 w3 => ?_
  walk_at "pv all"
  refine draw_ok 4 _ _ _ (by decide) (by decide) _ fun c s2 c1 => ?_
  walk_at "pv all"
  refine rg1 (n := c) rfl (by omega) ?_
  refine wc_genR (α := Str) .str (fun x => SM x) (fun j s hj => ?_) fun ins s3 o1 o2 => ?_
  · obtain ⟨w, h1, h2, h3⟩ := words_at (ws := ws) (i := j) (by omega) w3
    walk_at "pv all"
    refine ix_list rfl h2 ?_
    refine wr_addS (by rw [aN_len]; have := h3.1; omega) ?_
    exact ⟨aN w, _, rfl, rfl, aN_so (h3.ok4.up (by decide))⟩
  refine wr_nl rfl ?_
  walk_at "pv all"
  refine draw_ok 3 _ _ _ (by decide) (by decide) _ fun c2 s4 c21 => ?_
  walk_at "pv all"
  refine rg1 (n := c2) rfl (by omega) ?_
  refine wc_genR (α := Str) .str (fun x => SM x) (fun j s hj => ?_) fun outs s5 p1 p2 => ?_
  · obtain ⟨w, h1, h2, h3⟩ := words_at (ws := ws) (i := 4 + j) (by omega) w3
    walk_at "pv all"
    refine ix_list (j := 4 + j) (by push_cast; rfl) h2 ?_
    exact ⟨w, _, rfl, rfl, h3.ok⟩
  refine wr_nl rfl ?_
  walk_at "pv all"
  refine wr_addT (by rw [List.length_map, List.length_map]; omega) ?_
  rw [← List.map_append]
  walk_at "pv all"
  have hn := numbers_ok false (k + 2) s5 tl (ins ++ outs) (by rw [List.length_append]; omega)
  refine hn _ fun m s6 m1 m2 m3 => ?_
  have mi : ∀ x ∈ ins, x ∈ keys m := fun x hx => (m1 x).mpr (List.mem_append_left _ hx)
  have mo : ∀ x ∈ outs, x ∈ keys m := fun x hx => (m1 x).mpr (List.mem_append_right _ hx)
  walk_at "pv all"
  refine draw_ok 2 _ _ _ (by decide) (by decide) _ fun c s7 c1 => ?_
  walk_at "pv all"
  refine rg1 (n := c) rfl (by omega) ?_
  refine wc_genR (α := Fm) fm (Fo ins) (fun j s hj => ?_) fun nd s8 n1 n2 => ?_
  · walk_at "pv all"
    have hdr := drawn_ok false (k + 1) s tl ins (by omega) 2 (by decide)
    refine hdr _ fun F s9 hF => ?_
    exact ⟨F, _, rfl, rfl, hF.fo (by decide)⟩
  refine wr_nl rfl ?_
  walk_at "pv all"
  refine draw_ok 3 _ _ _ (by decide) (by decide) _ fun c s7 c1 => ?_
  walk_at "pv all"
  refine rg1 (n := c) rfl (by omega) ?_
  refine wc_genR (α := Fm) fm (Fo (ins ++ outs)) (fun j s hj => ?_) fun po s9 q1 q2 => ?_
  · walk_at "pv all"
    refine wr_addT (by rw [List.length_map, List.length_map]; omega) ?_
    rw [← List.map_append]
    walk_at "pv all"
    have ht := true_ok false k s tl (ins ++ outs) (by rw [List.length_append]; omega) (.d (datK .int m)) m (fun _ => dct_dat) m2 (fun x hx => (List.mem_append.mp hx).elim (mi x) (mo x))
    refine ht _ fun F s9 hF => ?_
    exact ⟨F, _, rfl, rfl, hF⟩
  refine wr_nl rfl ?_
  walk_at "pv all"
  refine draw_ok 2 _ _ _ (by decide) (by decide) _ fun c s7 c1 => ?_
  walk_at "pv all"
  exact q ⟨nm, ins, outs, m, c, nd, po⟩ s7 ⟨by show ins.length ≤ 8; omega, by show outs.length ≤ 10; omega, m2, mi, mo, ⟨by show nd.length ≤ 2; omega, n2⟩, ⟨by show po.length ≤ 2; omega, q2⟩, fun x hx => (List.mem_append.mp hx).elim (o2 x) (p2 x), hnmo, by show c < 10; omega⟩ rfl
end PvK

namespace PvK
open PySem PySem.Spec PyProof.Rows L2 Pv
/-! a drawn row -/
structure Rx (r : Rw) : Prop where
  one : 1 ≤ r.outs.length
  nmo : SM r.nm
  nst : ∀ x ∈ r.nests, x.length ≤ r.nests.length ∧ ∀ i ∈ x, i ≤ r.nests.length
theorem cd_ninF {mh : List Ob} {P : Bool → Prop} {x : Str} {ys : List Str} (h1 : x ∉ ys → P true) (h2 : x ∈ ys → P false) : ∃ r, cmpF .NotIn mh (.d (.str x)) (.d (.list (ys.map .str))) = some (.v (.d (.bool r))) ∧ P r := by
  have hf : ∀ y ∈ ys.map PyData.str, plD y = true ∧ flatD y = true := fun y hy => by
    obtain ⟨z, _, rfl⟩ := List.mem_map.mp hy
    exact ⟨rfl, rfl⟩
  refine ⟨!(ys.map PyData.str).any fun y => PyData.eqv y (.str x), ?_, ?_⟩
  · show bR ((inV2 mh (.d (.str x)) (.d (.list (ys.map .str)))).map (!·)) = _
    have e2 : ((seqA mh (.d (.list (ys.map .str)))).bind asDs) = some (ys.map .str) := asDs_map _
    have e3 : inSeq (.str x) (ys.map .str) = some ((ys.map PyData.str).any fun y => PyData.eqv y (.str x)) := if_pos ⟨rfl, List.all_eq_true.mpr fun y h => (hf y h).2⟩
    unfold inV2
    rw [show dctOf mh (.d (.list (ys.map .str))) = none from rfl]
    simp only [e2, e3]
    rfl
  · have := any_eqv (x := .str x) rfl fun y h => (hf y h).1
    have hm : PyData.str x ∈ ys.map PyData.str ↔ x ∈ ys := ⟨fun h => by obtain ⟨z, hz, e⟩ := List.mem_map.mp h; cases e; exact hz, fun h => List.mem_map.mpr ⟨x, h, rfl⟩⟩
    rw [hm] at this
    cases e : ((ys.map PyData.str).any fun y => PyData.eqv y (.str x)) with
    | true => exact h2 (this.mp e)
    | false => exact h1 fun z => by rw [this.mpr z] at e; cases e
def pra (b : Nat) : Str := if b = 0 then "@" else "@#"
theorem pra_so {b : Nat} : SN 2 (pra b) := by
  unfold pra
  split
  · exact (show PyData.strOk (Str.ofString "@") = true ∧ (Str.ofString "@").length ≤ 2 by decide +kernel)
  · exact (show PyData.strOk (Str.ofString "@#") = true ∧ (Str.ofString "@#").length ≤ 2 by decide +kernel)
theorem pra_len {b : Nat} : (pra b).length ≤ 2 := by
  unfold pra
  split
  · exact (show (Str.ofString "@").length ≤ 2 by decide +kernel)
  · exact (show (Str.ofString "@#").length ≤ 2 by decide +kernel)
theorem pra_at {b : Nat} (h : b < 2) : ([PyData.str "@", .str "@#"] : List Dt)[b]? = some (.str (pra b)) := by
  match b, h with
  | 0, _ => rfl
  | 1, _ => rfl
theorem pre_at {b : Nat} (h : b < 2) : ([PyData.str "", .str "#"] : List Dt)[b]? = some (.str (pre b)) := by
  match b, h with
  | 0, _ => rfl
  | 1, _ => rfl
theorem cut_map {xs : List Str} {c : Nat} : ∃ zs : List Str, cutG (xs.map PyData.str) none (some (c : Int)) = zs.map PyData.str ∧ (∀ x ∈ zs, x ∈ xs) ∧ zs.length ≤ xs.length := by
  refine ⟨(xs.drop (HT.sIx xs.length 0 none)).take (HT.sIx xs.length xs.length (some (c : Int)) - HT.sIx xs.length 0 none), ?_, fun x hx => List.mem_of_mem_drop (List.mem_of_mem_take hx), ?_⟩
  · unfold cutG
    rw [List.length_map, ← List.map_drop, ← List.map_take]
  · rw [List.length_take, List.length_drop]; omega
theorem cd_neNil {mh : List Ob} {P : Bool → Prop} {xs : List Str} (hl : xs.length < 1000) (ok : ∀ x ∈ xs, SM x) (h1 : xs ≠ [] → P true) (h2 : xs = [] → P false) : ∃ r, cmpF .NotEq mh (.d (strD xs)) (.d (.list [])) = some (.v (.d (.bool r))) ∧ P r := by
  have hx : ∀ y ∈ xs.map PyData.str, Ps 0 y := fun y hy => by
    obtain ⟨x, hx, rfl⟩ := List.mem_map.mp hy
    exact ps_str (ok x hx).1
  have s1 := (shp_L hx).shaped (by decide)
  have s2 := (shp_L (n := 0) (ys := []) fun y hy => nomatch hy).shaped (by decide)
  have e : eqD (strD xs) (.list []) = some (PyData.eqv (strD xs) (.list [])) := if_pos ⟨s1, s2⟩
  refine ⟨!PyData.eqv (strD xs) (.list []), ?_, ?_⟩
  · show bR ((eqD (strD xs) (.list [])).map (!·)) = _
    rw [e]; rfl
  · cases xs with
    | nil => simpa [PyData.eqv, PyData.eqvAll] using h2 rfl
    | cons x xs => simpa [PyData.eqv, PyData.eqvAll] using h1 (List.cons_ne_nil _ _)
theorem proc_ok (k : Nat) (s : Ds) (tl : List Ob) (nm : Str) (hnm : SM nm) (mo : Nat) (hmo : 1 ≤ mo ∧ mo ≤ 5) (Q : Val → List Ob → Prop)
    (q : ∀ r vals s', RwOk r vals → r.nm = nm → Rx r → Q (.d (.tuple [rowd r, datK .int vals])) (St s' :: tl)) : W (callP P gl (k + 5) 25 [.ref 0, .d (.str nm), .d (.int (mo : Int))]) (St s :: tl) Q := by
  refine w_def (nm := f25.name) (ps := f25.ps) (N := f25.N) (body := f25.body) (env := [some (.ref 0), some (.d (.str nm)), some (.d (.int (mo : Int))), none, none, none, none, none, none, none, none, none, none, none]) rfl rfl ?_
  unfold f25
  have hsl : sizeLine = 16777216 := rfl
  walk_at "pv all"
  refine words_ok 15 _ _ _ (by decide) _ fun ws s1 w1 w2 w3 => ?_
  walk_at "pv all"
  rw [show St s1 :: tl ++ [Ob.lst []] ++ [Ob.lst []] = St s1 :: (tl ++ [Ob.lst [], .lst []]) by rw [show St s1 :: tl ++ [Ob.lst []] = St s1 :: (tl ++ [Ob.lst []]) from rfl, os_new (os := [Ob.lst []])]; rfl]
  have hd0 := draw_ok mo (k + 3) s1 (tl ++ [Ob.lst [], .lst []]) (by omega) (by omega)
  refine hd0 _ fun c s2 c1 => ?_
  walk_at "pv all"
  refine rg1 (n := c) rfl (by omega) ?_
  refine wl_invR (fun i e m' => ∃ (s' : Ds) (ins : List Str) (a6 : Option Val), e = [some (.ref 0), some (.d (.str nm)), some (.d (.int (mo : Int))), some (.d (strD ws)), some (.ref (tl.length + 1)), some (.ref (tl.length + 2)), a6, none, none, none, none, none, none, none] ∧ m' = St s' :: (tl ++ [Ob.lst ((ins.map PyData.str).map Val.d), .lst []]) ∧ ins.length = i ∧ ∀ x ∈ ins, SM x)
    ⟨s2, [], none, by rw [show (St s1 :: tl).length = tl.length + 1 from rfl, show (St s1 :: tl ++ [Ob.lst []]).length = tl.length + 2 by simp]; rfl, rfl, rfl, fun _ h => nomatch h⟩ (fun i e m' hi I => ?_) (fun e m' I => ?_)
  · obtain ⟨s', ins, a6, rfl, rfl, h1, h2⟩ := I
    obtain ⟨w, g1, g2, g3⟩ := words_at (ws := ws) (i := i) (by omega) w3
    walk_at "pv all"
    refine ⟨rcv_lst (os_get (j := 0) (os := [Ob.lst ((ins.map PyData.str).map Val.d), .lst []]) rfl), ?_⟩
    walk_at "pv all"
    refine draw_ok 2 _ _ _ (by decide) (by decide) _ fun b s5 b1 => ?_
    walk_at "pv all"
    refine ix_list rfl (pra_at b1) ?_
    walk_at "pv all"
    refine ix_list rfl g2 ?_
    refine wr_addS (by have := pra_len (b := b); have := g3.1; omega) ?_
    have hyo : SM (pra b ++ w) := (pra_so.app g3.ok4).up (by decide)
    generalize pra b ++ w = y at hyo
    walk_at "pv all"
    refine app_end (os_get (j := 0) (os := [Ob.lst ((ins.map PyData.str).map Val.d), .lst []]) rfl) (by rw [List.length_map, List.length_map]; omega) ?_
    rw [show (St s5 :: (tl ++ [Ob.lst ((ins.map PyData.str).map Val.d), .lst []])).set (tl.length + 1) (.lst ((ins.map PyData.str).map Val.d ++ [.d (.str y)])) = St s5 :: (tl ++ [Ob.lst (((ins ++ [y]).map PyData.str).map Val.d), .lst []]) by rw [app_str ins y]; exact os_set (j := 0)]
    walk_at "pv all"
    exact ⟨s5, ins ++ [y], _, rfl, rfl, by rw [List.length_append, h1]; rfl, fun x hx => (List.mem_append.mp hx).elim (h2 x) fun h => by rw [List.mem_singleton.mp h]; exact hyo⟩
  obtain ⟨s', ins, a6, rfl, rfl, h1, h2⟩ := I
  refine thenS_nx ?_
  refine frz_lst rfl (os_get (j := 0) (os := [Ob.lst ((ins.map PyData.str).map Val.d), .lst []]) rfl) ?_
  rw [show (St s' :: (tl ++ [Ob.lst ((ins.map PyData.str).map Val.d), .lst []])).set (tl.length + 1) .dead = St s' :: (tl ++ [Ob.dead, .lst []]) from os_set (j := 0)]
  walk_at "pv all"
  have hd1 := draw_ok mo (k + 3) s' (tl ++ [Ob.dead, .lst []]) (by omega) (by omega)
  refine hd1 _ fun c2 s3 c21 => ?_
  walk_at "pv all"
  refine rg1 (n := c2) rfl (by omega) ?_
  refine wl_invR (fun i e m' => ∃ (s' : Ds) (sts : List Str) (a6 : Option Val), e = [some (.ref 0), some (.d (.str nm)), some (.d (.int (mo : Int))), some (.d (strD ws)), some (.d (strD ins)), some (.ref (tl.length + 2)), a6, none, none, none, none, none, none, none] ∧ m' = St s' :: (tl ++ [Ob.dead, .lst ((sts.map PyData.str).map Val.d)]) ∧ sts.length = i ∧ ∀ x ∈ sts, SM x)
    ⟨s3, [], a6, rfl, rfl, rfl, fun _ h => nomatch h⟩ (fun i e m' hi I => ?_) (fun e m' I => ?_)
  · obtain ⟨s', sts, a6, rfl, rfl, g1, g2⟩ := I
    obtain ⟨w, k1, k2, k3⟩ := words_at (ws := ws) (i := 6 + i) (by omega) w3
    walk_at "pv all"
    refine ⟨rcv_lst (os_get (j := 1) (os := [Ob.dead, .lst ((sts.map PyData.str).map Val.d)]) rfl), ?_⟩
    walk_at "pv all"
    refine draw_ok 2 _ _ _ (by decide) (by decide) _ fun b s5 b1 => ?_
    walk_at "pv all"
    refine ix_list rfl (pre_at b1) ?_
    walk_at "pv all"
    refine ix_list (j := 6 + i) (by push_cast; rfl) k2 ?_
    refine wr_addS (by have := pre_len (b := b); have := k3.1; omega) ?_
    have hyo : SM (pre b ++ w) := (pre_so.app k3.ok4).up (by decide)
    generalize pre b ++ w = y at hyo
    walk_at "pv all"
    refine app_end (os_get (j := 1) (os := [Ob.dead, .lst ((sts.map PyData.str).map Val.d)]) rfl) (by rw [List.length_map, List.length_map]; omega) ?_
    rw [show (St s5 :: (tl ++ [Ob.dead, .lst ((sts.map PyData.str).map Val.d)])).set (tl.length + 2) (.lst ((sts.map PyData.str).map Val.d ++ [.d (.str y)])) = St s5 :: (tl ++ [Ob.dead, .lst (((sts ++ [y]).map PyData.str).map Val.d)]) by rw [app_str sts y]; exact os_set (j := 1)]
    walk_at "pv all"
    exact ⟨s5, sts ++ [y], _, rfl, rfl, by rw [List.length_append, g1]; rfl, fun x hx => (List.mem_append.mp hx).elim (g2 x) fun h => by rw [List.mem_singleton.mp h]; exact hyo⟩
  obtain ⟨s', sts, a6, rfl, rfl, g1, g2⟩ := I
  refine thenS_nx ?_
  refine frz_lst rfl (os_get (j := 1) (os := [Ob.dead, .lst ((sts.map PyData.str).map Val.d)]) rfl) ?_
  rw [show (St s' :: (tl ++ [Ob.dead, .lst ((sts.map PyData.str).map Val.d)])).set (tl.length + 2) .dead = St s' :: (tl ++ [Ob.dead, .dead]) from os_set (j := 1)]
  walk_at "pv all"
  have hd2 := draw_ok 2 (k + 3) s' (tl ++ [Ob.dead, .dead]) (by omega) (by omega)
  refine hd2 _ fun c3 s4 c31 => ?_
  walk_at "pv all"
  refine rg1 (n := 1 + c3) (by push_cast; rfl) (by omega) ?_
  refine wc_genR (α := Str) .str (fun x => SM x) (fun j s hj => ?_) fun os s5 o1 o2 => ?_
  · obtain ⟨w, k1, k2, k3⟩ := words_at (ws := ws) (i := 12 + j) (by omega) w3
    walk_at "pv all"
    refine ix_list (j := 12 + j) (by push_cast; rfl) k2 ?_
    exact ⟨w, _, rfl, rfl, k3.ok⟩
  refine wr_nl rfl ?_
  walk_at "pv all"
  have rest : ∀ (s : Ds) (outs : List Str), 1 ≤ outs.length ∧ outs.length ≤ 5 → (∀ x ∈ outs, SM x) → WS gl (callP P gl (k + 4)) (dropS 9 f25.body) [some (.ref 0), some (.d (.str nm)), some (.d (.int (mo : Int))), some (.d (strD ws)), some (.d (strD ins)), some (.d (strD sts)), a6, some (.d (strD outs)), none, none, none, none, none, none] (St s :: (tl ++ [Ob.dead, .dead])) fun fl mh' => ∃ x s' os, (fl = .rt (.d x) ∨ ∃ e, fl = .nx e ∧ x = .none) ∧ mh' = St s' :: (tl ++ os) ∧ Q (.d x) (St s' :: tl) := by
    intro s outs ⟨ol1, ol⟩ ok
    unfold f25
    simp only [dropS]
    walk_at "pv all"
    refine wr_addL (by rw [List.length_map, List.length_map]; omega) ?_
    rw [← List.map_append]
    walk_at "pv all"
    refine ix_L ?_
    refine wc_filter (p := fun x => decide (x ∉ sts)) (r := fun x => .d (.str x)) gnil (fun x hx => ?_) ?_
    · walk_at "pv all"
      refine cd_ninF (fun h => ?_) (fun h => ?_)
      · refine ⟨(decide_eq_true h).symm, rfl, fun _ => ?_⟩
        walk_at "pv all"
        exact ⟨rfl, rfl⟩
      · exact ⟨(decide_eq_false fun z => z h).symm, rfl, fun z => by cases z⟩
    have hfl : (outs.filter fun x => decide (x ∉ sts)).length ≤ outs.length := List.length_filter_le _ _
    have hmemo : ∀ x ∈ outs, x ∈ sts ∨ x ∈ outs.filter fun x => decide (x ∉ sts) := fun x hx => by
      by_cases h : x ∈ sts
      · exact .inl h
      · exact .inr (List.mem_filter.mpr ⟨hx, decide_eq_true h⟩)
    generalize (outs.filter fun x => decide (x ∉ sts)) = fo at hfl hmemo
    refine wr_nl (ds := fo.map .str) (by rw [List.map_map]; rfl) ?_
    refine wr_addL (by rw [List.length_map, List.length_append, List.length_map]; omega) ?_
    rw [← List.map_append]
    walk_at "pv all"
    have hn := numbers_ok true (k + 2) s (tl ++ [Ob.dead, .dead]) (ins ++ sts ++ fo) (by rw [List.length_append, List.length_append]; omega)
    refine hn _ fun m s6 m1 m2 m3 => ?_
    have mi : ∀ x ∈ ins, x ∈ keys m := fun x hx => (m1 x).mpr (List.mem_append_left _ (List.mem_append_left _ hx))
    have ms : ∀ x ∈ sts, x ∈ keys m := fun x hx => (m1 x).mpr (List.mem_append_left _ (List.mem_append_right _ hx))
    have mou : ∀ x ∈ outs, x ∈ keys m := fun x hx => (hmemo x hx).elim (ms x) fun h => (m1 x).mpr (List.mem_append_right _ h)
    walk_at "pv all"
    refine draw_ok 2 _ _ _ (by decide) (by decide) _ fun c s7 c1 => ?_
    walk_at "pv all"
    refine rg1 (n := c) rfl (by omega) ?_
    refine wc_genR (α := Fm) fm (Fo ins) (fun j s hj => ?_) fun nd s8 n1 n2 => ?_
    · walk_at "pv all"
      have hdr := drawn_ok true (k + 1) s (tl ++ [Ob.dead, .dead]) ins (by omega) 2 (by decide)
      refine hdr _ fun F s9 hF => ?_
      exact ⟨F, _, rfl, rfl, hF.fo (by decide)⟩
    refine wr_nl rfl ?_
    walk_at "pv all"
    refine draw_ok 3 _ _ _ (by decide) (by decide) _ fun c s7 c1 => ?_
    walk_at "pv all"
    refine rg1 (n := c) rfl (by omega) ?_
    refine wc_genR (α := Fm) fm (Fo ins) (fun j s hj => ?_) fun fi s9 p1 p2 => ?_
    · walk_at "pv all"
      have ht := true_ok true k s (tl ++ [Ob.dead, .dead]) ins (by omega) (.d (datK .int m)) m (fun _ => dct_dat) m2 mi
      refine ht _ fun F s9 hF => ?_
      exact ⟨F, _, rfl, rfl, hF⟩
    refine wr_nl rfl ?_
    walk_at "pv all"
    refine draw_ok 3 _ _ _ (by decide) (by decide) _ fun c s7 c1 => ?_
    walk_at "pv all"
    refine rg1 (n := c) rfl (by omega) ?_
    refine wc_genR (α := Fm) fm (Fo (ins ++ sts)) (fun j s hj => ?_) fun gr s9 r1 r2 => ?_
    · walk_at "pv all"
      refine wr_addL (by rw [List.length_map, List.length_map]; omega) ?_
      rw [← List.map_append]
      walk_at "pv all"
      have ht := true_ok true k s (tl ++ [Ob.dead, .dead]) (ins ++ sts) (by rw [List.length_append]; omega) (.d (datK .int m)) m (fun _ => dct_dat) m2 (fun x hx => (List.mem_append.mp hx).elim (mi x) (ms x))
      refine ht _ fun F s9 hF => ?_
      exact ⟨F, _, rfl, rfl, hF⟩
    refine wr_nl rfl ?_
    walk_at "pv all"
    have hd5 := draw_ok (mo + 1) (k + 3) s9 (tl ++ [Ob.dead, .dead]) (by omega) (by omega)
    refine hd5 _ fun c5 s10 c51 => ?_
    walk_at "pv all"
    have hne := nests_ok (k + 2) s10 (tl ++ [Ob.dead, .dead]) (1 + c5) (by omega) (by omega)
    rw [show (1 : Int) + (c5 : Int) = ((1 + c5 : Nat) : Int) by omega]
    refine hne _ fun ne s11 e1 e2 => ?_
    walk_at "pv all"
    exact q ⟨nm, ins, sts, ne, outs, nd, fi, gr⟩ m _ ⟨by show ins.length ≤ 8; omega, by show sts.length ≤ 12; omega, by show outs.length ≤ 10; omega, by show 1 ≤ ne.length ∧ ne.length ≤ 8; omega, m2, mi, ms, mou, ⟨by show nd.length ≤ 2; omega, n2⟩, ⟨by show fi.length ≤ 2; omega, p2⟩, ⟨by show gr.length ≤ 2; omega, r2⟩, fun x hx => (List.mem_append.mp hx).elim (fun h => (List.mem_append.mp h).elim (h2 x) (g2 x)) (ok x)⟩ rfl ⟨ol1, hnm, by rw [show (⟨nm, ins, sts, ne, outs, nd, fi, gr⟩ : Rw).nests = ne from rfl, e1]; exact e2⟩
  have hd3 := draw_ok 2 (k + 3) s5 (tl ++ [Ob.dead, .dead]) (by omega) (by omega)
  refine hd3 _ fun c4 s6 c41 => ?_
  walk_at "pv all"
  refine ci_eq (fun h => ?_) (fun h => ?_)
  · walk_at "pv all"
    refine cd_neNil (by omega) g2 (fun hne => ?_) (fun hne => ?_)
    · refine pick_t ?_
      refine ws_set (we_sl ?_)
      walk_at "pv all"
      have hd4 := draw_ok 2 (k + 3) s6 (tl ++ [Ob.dead, .dead]) (by omega) (by omega)
      refine hd4 _ fun c5 s7 c51 => ?_
      refine wr_add ?_
      refine int_ex ?_
      refine wr_slL ?_
      rw [show (1 : Int) + (c5 : Int) = ((1 + c5 : Nat) : Int) by omega, cutG_to, ← List.map_take]
      refine ws_nil (thenS_nx ?_)
      have hl1 : 1 ≤ sts.length := by cases sts with | nil => exact absurd rfl hne | cons => simp
      exact rest s7 (sts.take (1 + c5)) (by rw [List.length_take]; omega) fun x hx => g2 x (List.mem_of_mem_take hx)
    · refine pick_f (ws_nil (thenS_nx ?_))
      exact rest s6 os (by omega) o2
  · refine pick_f (pick_f (ws_nil (thenS_nx ?_)))
    exact rest s6 os (by omega) o2
end PvK

namespace PvK
open PySem PySem.Spec PyProof.Rows L2 Pv
/-! the hypotheses at an edge -/
def Ed.kd : Ed → Str
  | .call .. => "call"
  | .step .. => "step"
def Ed.pr : Ed → Nat
  | .call p .. => p
  | .step p .. => p
def Ed.pt : Ed → Nat
  | .call _ pt .. => pt
  | .step _ pt .. => pt
def Ed.hs : Ed → List Fm
  | .call _ _ hs .. => hs
  | .step _ _ _ _ hs .. => hs
def Ed.af : Ed → Option Aft
  | .call .. => none
  | .step _ _ _ _ _ _ af => af
theorem edd_form (e : Ed) : ∃ x3 x4 x6 x7, edd e = .tuple [.str e.kd, .int (e.pr : Int), .int (e.pt : Int), x3, x4, fms e.hs, x6, x7] ∧ ((∃ p pt hs id as, e = .call p pt hs id as) ∨ x7 = aftd e.af) := by
  cases e with
  | call p pt hs id as => exact ⟨_, _, _, _, rfl, .inl ⟨p, pt, hs, id, as, rfl⟩⟩
  | step p pt tg wt hs ef af => exact ⟨_, _, _, _, rfl, .inr rfl⟩
/-- a system -/
structure Sy where
  rows : List Rw
  vals : List (List (Str × Int))
  bts : List Bt
  lws : List Lw
  fas : List Fa
  cs : List Ca
abbrev sysd (S : Sy) : Dt := .tuple [.tuple (S.rows.map rowd), .tuple (S.bts.map fun b => edd b.e)]
abbrev lowrd (S : Sy) : Dt := .tuple (S.lws.map faced)
abbrev facd (S : Sy) : Dt := .tuple (S.fas.map factd)
structure SyOk (S : Sy) : Prop where
  many : 1 ≤ S.rows.length ∧ S.rows.length ≤ 3
  row : ∀ (i : Nat) r, S.rows[i]? = some r → Rx r ∧ ∃ v, S.vals[i]? = some v ∧ RwOk r v
  fal : S.fas.length = S.rows.length
  fa : ∀ (i : Nat) r f, S.rows[i]? = some r → S.fas[i]? = some f → FaOk r f
  lw : ∀ l ∈ S.lws, LwOk l ∧ S.lws.find? (fun x => decide (x.nm = l.nm)) = some l
  ca : ∀ c ∈ S.cs, CaOk c ∧ ((∃ l ∈ S.lws, c = lca l) ∨ ∃ (k : Nat) (r : Rw), ∃ v, S.rows[k]? = some r ∧ S.vals[k]? = some v ∧ c = ⟨.ix k, r.ins, r.outs, v⟩)
  bt : ∀ b ∈ S.bts, ∃ (k : Nat) (r : Rw), S.rows[k]? = some r ∧ BtOk r S.cs k b
  btl : S.bts.length ≤ 120
  lwl : S.lws.length = 2
theorem EdOk.pr {r : Rw} {cs : List Ca} {k sh : Nat} {ns : List Str} {e : Ed} (h : EdOk r cs k ns sh e) : e.pr = k ∧ e.pt < r.nests.length ∧ (∀ x ∈ pn r e.pt, x ∈ ns) ∧ HsOk ns sh e.hs := by
  cases e with
  | call p pt hs id as => obtain ⟨h1, h2, h3, h4, h5, _⟩ := h; exact ⟨h1, show pt < _ by omega, h4, h5⟩
  | step p pt tg wt hs ef af => obtain ⟨h1, h2, h3, h4, h5, h6, _⟩ := h; exact ⟨h1, h2, h5, h6⟩
theorem EdOk.aft {r : Rw} {cs : List Ca} {k sh : Nat} {ns : List Str} {e : Ed} (h : EdOk r cs k ns sh e) {a : Aft} (ha : e.af = some a) : 0 < e.pt ∧ ∃ c ∈ cs, a.1 = c.id ∧ ArOk c ns a.2.1 ∧ a.2.2.map (fun p => p.1) = c.outs ∧ ∀ p ∈ a.2.2, p.2 ∈ ns := by
  cases e with
  | call p pt hs id as => cases ha
  | step p pt tg wt hs ef af =>
    obtain ⟨h1, h2, h3, h4, h5, h6, h7, h8⟩ := h
    have ha : af = some a := ha
    subst ha
    exact h8
def postsOf (S : Sy) : Cal → List Fm
  | .nm x => ((S.lws.find? fun l => decide (l.nm = x)).map (·.posts)).getD []
  | .ix k => ((S.fas[k]?).map (·.2)).getD []
/-- the forms behind a call, by name -/
def tabE (a : Aft) : List (Str × Fm) := tabS (a.2.1 ++ a.2.2.map fun p => (p.1, varF p.2))
def hypsF (S : Sy) (b : Bt) : List Fm := match S.rows[b.e.pr]? with
  | none => []
  | some r => r.first ++ (if b.e.pt = 0 then [] else r.grounds ++ (((S.fas[b.e.pr]?).bind fun f => f.1[b.e.pt]?).getD [])) ++ b.e.hs ++ (match b.e.af with
    | none => []
    | some a => (postsOf S a.1).map (putF (tabE a)))
/-- what is put in is small and over the edge's names -/
structure TeOk (a : Aft) (c : Ca) (ns : List Str) : Prop where
  cov : ∀ x ∈ c.ins ++ c.outs, ∃ F, lkS (tabE a) x = some F
  val : ∀ x F, lkS (tabE a) x = some F → F.2.length ≤ 2 ∧ F.1.natAbs < 2 ^ 200 ∧ ∀ p ∈ F.2, p.1 ∈ ns ∧ p.2.natAbs < 2 ^ 200
theorem te_ok {a : Aft} {c : Ca} {ns : List Str} (h : ArOk c ns a.2.1) (ho : a.2.2.map (fun p => p.1) = c.outs) (hn : ∀ p ∈ a.2.2, p.2 ∈ ns) : TeOk a c ns := by
  have hk : ∀ x, x ∈ (a.2.1 ++ a.2.2.map fun p => (p.1, varF p.2)).map (fun p => p.1) ↔ x ∈ c.ins ++ c.outs := fun x => by
    rw [List.map_append, h.nms, List.map_map, ← ho]
    exact Iff.rfl
  refine ⟨fun x hx => ?_, fun x F hF => ?_⟩
  · exact lkS_of_mem ((tabS_keys _ x).mpr ((hk x).mpr hx))
  · have hm := tabS_mem _ _ (lkS_mem hF)
    rcases List.mem_append.mp hm with hm | hm
    · obtain ⟨h1, h2⟩ := h.fo _ hm
      exact ⟨h2, h1.c, h1.mem⟩
    · obtain ⟨q, hq, e⟩ := List.mem_map.mp hm
      have e : varF q.2 = F := (Prod.mk.inj e).2
      subst e
      refine ⟨Nat.le_succ _, show (0 : Int).natAbs < 2 ^ 200 by decide, fun p hp => ?_⟩
      rw [List.mem_singleton.mp hp]
      exact ⟨hn q hq, by show (1 : Int).natAbs < _; decide⟩
theorem pts_mok {a : Aft} {c : Ca} {ns ms : List Str} (te : TeOk a c ns) {F : Fm} (hF : Fo ms F) (hs : ∀ x ∈ ms, x ∈ c.ins ++ c.outs) : (∀ p ∈ pts (tabE a) F, MOk p) ∧ (prs (pts (tabE a) F)).length ≤ 6 ∧ ∀ x ∈ prs (pts (tabE a) F), x.1 ∈ ns := by
  have hz : ∀ p ∈ F.2, ∃ G, lkS (tabE a) p.1 = some G := fun p hp => te.cov _ (hs _ (hF.mem p hp).1)
  have big : 2 ^ 200 ≤ 2 ^ 9000 := Nat.pow_le_pow_right (by decide) (by decide)
  refine ⟨fun p hp => ?_, ?_, fun x hx => ?_⟩
  · rcases List.mem_cons.mp hp with rfl | hp
    · exact ⟨.inl (show (1 : Int).natAbs < 2 ^ 64 by decide), fun _ h => nomatch h⟩
    · obtain ⟨q, hq, rfl⟩ := List.mem_map.mp hp
      obtain ⟨G, hG⟩ := hz q hq
      have hv := te.val _ _ hG
      have hq2 := (hF.mem q hq).2
      rw [hG]
      exact ⟨.inr (.inr ⟨Nat.lt_of_lt_of_le hq2 big, Nat.lt_of_lt_of_le hv.2.1 big⟩), fun x hx => .inr (.inr ⟨Nat.lt_of_lt_of_le hq2 big, Nat.lt_of_lt_of_le (hv.2.2 x hx).2 big⟩)⟩
  · have : ∀ ps : List (Str × Int), (∀ p ∈ ps, ∃ G, lkS (tabE a) p.1 = some G) → (prs (ps.map fun p => (p.2, (lkS (tabE a) p.1).getD (varF p.1)))).length ≤ 2 * ps.length := by
      intro ps
      induction ps with
      | nil => intro _; exact Nat.le_refl _
      | cons p ps ih =>
        intro h
        obtain ⟨G, hG⟩ := h p List.mem_cons_self
        have h2 := (te.val _ _ hG).1
        have h3 := ih fun q hq => h q (List.mem_cons_of_mem _ hq)
        unfold prs at *
        rw [List.map_cons, List.flatMap_cons, List.length_append, List.length_map, hG, List.length_cons]
        show G.2.length + _ ≤ _
        omega
    have h1 := this F.2 hz
    have h2 := hF.len
    have e : prs (pts (tabE a) F) = prs (F.2.map fun p => (p.2, (lkS (tabE a) p.1).getD (varF p.1))) := by
      unfold prs pts
      rw [List.flatMap_cons]
      rfl
    rw [e]
    omega
  · unfold prs pts at hx
    obtain ⟨p, hp, hx⟩ := List.mem_flatMap.mp hx
    rcases List.mem_cons.mp hp with rfl | hp
    · cases hx
    · obtain ⟨q, hq, rfl⟩ := List.mem_map.mp hp
      obtain ⟨G, hG⟩ := hz q hq
      obtain ⟨y, hy, rfl⟩ := List.mem_map.mp hx
      rw [hG] at hy
      exact ((te.val _ _ hG).2.2 y hy).1
/-- the posts of a callee are over its inputs and outcomes -/
theorem posts_ok {S : Sy} (ok : SyOk S) {c : Ca} (hc : c ∈ S.cs) : (postsOf S c.id).length ≤ 2 ∧ ∀ F ∈ postsOf S c.id, Fo (c.ins ++ c.outs) F := by
  obtain ⟨_, h⟩ := ok.ca c hc
  rcases h with ⟨l, hl, rfl⟩ | ⟨k, r, v, h1, h2, rfl⟩
  · obtain ⟨h1, h2⟩ := ok.lw l hl
    show (((S.lws.find? fun x => decide (x.nm = l.nm)).map (·.posts)).getD []).length ≤ 2 ∧ _
    have e : postsOf S (lca l).id = l.posts := by
      show ((S.lws.find? fun x => decide (x.nm = l.nm)).map (·.posts)).getD [] = _
      rw [h2]; rfl
    rw [e, h2]
    exact h1.post
  · have hk : k < S.fas.length := by rw [ok.fal]; exact (List.getElem?_eq_some_iff.mp h1).1
    have hf : S.fas[k]? = some S.fas[k] := List.getElem?_eq_getElem hk
    have e : postsOf S (.ix k) = (S.fas[k]).2 := by
      show ((S.fas[k]?).map (·.2)).getD [] = _
      rw [hf]; rfl
    show (postsOf S (.ix k)).length ≤ 2 ∧ ∀ F ∈ postsOf S (.ix k), _
    rw [e]
    exact (ok.fa k r _ h1 hf).po
theorem hyps_names {S : Sy} (ok : SyOk S) {b : Bt} (hb : b ∈ S.bts) : (∀ F ∈ hypsF S b, ∀ p ∈ F.2, p.1 ∈ b.ns) ∧ (hypsF S b).length ≤ 20 := by
  obtain ⟨k, r, hr, bo⟩ := ok.bt b hb
  obtain ⟨e1, e2, e3, e4⟩ := bo.ed.pr
  obtain ⟨_, v, hv, ro⟩ := ok.row k r hr
  have hins : ∀ x ∈ r.ins, x ∈ b.ns := fun x hx => e3 x (by unfold pn; split; exact hx; exact List.mem_append_left _ hx)
  unfold hypsF
  rw [e1, hr]
  have g1 : ∀ F ∈ r.first, ∀ p ∈ F.2, p.1 ∈ b.ns := fun F hF p hp => hins _ ((ro.fir.2 F hF).mem p hp).1
  have g3 : ∀ F ∈ b.e.hs, ∀ p ∈ F.2, p.1 ∈ b.ns := fun F hF p hp => ((e4.2.2 F hF).mem p hp).1
  have g2 : (∀ F ∈ (if b.e.pt = 0 then [] else r.grounds ++ (((S.fas[k]?).bind fun f => f.1[b.e.pt]?).getD [])), ∀ p ∈ F.2, p.1 ∈ b.ns) ∧ (if b.e.pt = 0 then [] else r.grounds ++ (((S.fas[k]?).bind fun f => f.1[b.e.pt]?).getD [])).length ≤ 4 := by
    split
    · exact ⟨fun _ h => (nomatch h), Nat.zero_le _⟩
    · rename_i hpt
      have hpn : ∀ x ∈ r.ins ++ r.sts, x ∈ b.ns := fun x hx => e3 x (by unfold pn; rw [if_neg hpt]; exact hx)
      cases hf : S.fas[k]? with
      | none => exact ⟨fun F hF p hp => by
          have hF : F ∈ r.grounds := by simpa using hF
          exact hpn _ ((ro.gr.2 F hF).mem p hp).1, by have := ro.gr.1; simp; omega⟩
      | some f =>
        have fo := ok.fa k r f hr hf
        show (∀ F ∈ r.grounds ++ (f.1[b.e.pt]?).getD [], _) ∧ (r.grounds ++ (f.1[b.e.pt]?).getD []).length ≤ 4
        have hp2 : (∀ F ∈ (f.1[b.e.pt]?).getD [], Fo (r.ins ++ r.sts) F) ∧ ((f.1[b.e.pt]?).getD []).length ≤ 2 := by
          cases hg : f.1[b.e.pt]? with
          | none => exact ⟨fun _ h => (nomatch h), Nat.zero_le _⟩
          | some fs => exact ⟨(fo.pt fs (List.mem_of_getElem? hg)).2, (fo.pt fs (List.mem_of_getElem? hg)).1⟩
        refine ⟨fun F hF p hp => ?_, by rw [List.length_append]; have := ro.gr.1; have := hp2.2; omega⟩
        rcases List.mem_append.mp hF with hF | hF
        · exact hpn _ ((ro.gr.2 F hF).mem p hp).1
        · exact hpn _ ((hp2.1 F hF).mem p hp).1
  have g4 : (∀ F ∈ (match b.e.af with
    | none => []
    | some a => (postsOf S a.1).map (putF (tabE a))), ∀ p ∈ F.2, p.1 ∈ b.ns) ∧ (match b.e.af with
    | none => []
    | some a => (postsOf S a.1).map (putF (tabE a))).length ≤ 2 := by
    cases ha : b.e.af with
    | none => exact ⟨fun _ h => (nomatch h), Nat.zero_le _⟩
    | some a =>
      obtain ⟨_, c, hc, i1, i2, i3, i4⟩ := bo.ed.aft ha
      have te := te_ok i2 i3 i4
      have po := posts_ok ok hc
      rw [← i1] at po
      refine ⟨fun F hF p hp => ?_, by show ((postsOf S a.1).map (putF (tabE a))).length ≤ 2; rw [List.length_map]; exact po.1⟩
      obtain ⟨G, hG, rfl⟩ := List.mem_map.mp hF
      have hm := (nfP_keys hp).1
      obtain ⟨y, hy, e⟩ := List.mem_map.mp hm
      rw [← e]
      exact (pts_mok te (po.2 G hG) fun x hx => hx).2.2 y hy
  refine ⟨fun F hF => ?_, ?_⟩
  · rcases List.mem_append.mp hF with hF | hF
    · rcases List.mem_append.mp hF with hF | hF
      · rcases List.mem_append.mp hF with hF | hF
        · exact g1 F hF
        · exact g2.1 F hF
      · exact g3 F hF
    · exact g4.1 F hF
  · show (r.first ++ _ ++ b.e.hs ++ _).length ≤ 20
    rw [List.length_append, List.length_append, List.length_append]
    have := ro.fir.1
    have := e4.1
    have := g2.2
    have := g4.2
    omega
end PvK

namespace PvK
open PySem PySem.Spec PyProof.Rows L2 Pv
theorem set_l {mh : List Ob} {n j : Nat} {i : Int} {vs : List Val} {v : Val} {Q : Unit → List Ob → Prop} (h : mh[n]? = some (.lst vs)) (e : i = (j : Int)) (hj : j < vs.length) (q : Q () (mh.set n (.lst (vs.set j v)))) : W (setVl (.ref n) (.d (.int i)) v) mh Q := by
  subst e
  refine ⟨(), _, ?_, q⟩
  have e2 : ixN vs.length (j : Int) = some j := by
    unfold ixN
    rw [if_pos (by omega), if_pos (by omega), Int.toNat_natCast]
  unfold setVl
  simp only [h]
  show (ixN vs.length (j : Int)).map _ = _
  rw [e2]; rfl
theorem wr_rep0 {mh : List Ob} {n : Nat} {Q : Val → List Ob → Prop} (hn : n < 1000) (q : Q (.ref mh.length) (mh ++ [.lst ((List.replicate n (PyData.int 0)).map Val.d)])) : WR true (binF .Mult mh (.d (.list [.int 0])) (.d (.int (n : Int)))) mh Q := by
  have hsl : sizeLine = 16777216 := rfl
  refine wr_cell (vs := (List.replicate n (PyData.int 0)).map Val.d) ?_ q
  have hc : 0 ≤ (n : Int) ∧ (n : Int) < 2 ^ 62 ∧ [Val.d (.int 0)].length * (n : Int).toNat ≤ sizeLine := ⟨by omega, by omega, by rw [Int.toNat_natCast]; simp only [List.length_cons, List.length_nil]; omega⟩
  have h1 : seqL mh (.d (.list [.int 0])) = some [Val.d (.int 0)] := rfl
  show mulV mh (.d (.list [.int 0])) (.d (.int (n : Int))) = _
  unfold mulV
  simp only [h1, if_pos hc]
  rw [Int.toNat_natCast]
  have : ∀ m : Nat, (List.replicate m [Val.d (.int 0)]).flatten = (List.replicate m (PyData.int 0)).map Val.d := fun m => by
    induction m with
    | zero => rfl
    | succ m ih => rw [List.replicate_succ, List.flatten_cons, ih, List.replicate_succ]; rfl
  rw [this]
theorem ps_fm {F : Fm} (h : ∀ p ∈ F.2, SM p.1) (hl : F.2.length < 1000) : Ps 3 (fm F) := ps_T (by simp) fun x hx => by
  rcases List.mem_cons.mp hx with rfl | hx
  · exact ps_int _
  · rw [List.mem_singleton.mp hx]
    refine ps_T (by rw [List.length_map]; omega) fun y hy => ?_
    obtain ⟨p, hp, rfl⟩ := List.mem_map.mp hy
    refine ps_T (by simp) fun z hz => ?_
    rcases List.mem_cons.mp hz with rfl | hz
    · exact ps_str (h p hp).1
    · rw [List.mem_singleton.mp hz]; exact ps_int _
theorem ps_cal {c : Cal} (h : ∀ x, c = .nm x → SM x) : Ps 0 (cald c) := by
  cases c with
  | nm x => exact ps_str (h x rfl).1
  | ix n => exact ps_int _
theorem ps_aft {a : Aft} (h1 : ∀ x, a.1 = .nm x → SM x) (h2 : ∀ p ∈ a.2.1, SM p.1 ∧ (∀ q ∈ p.2.2, SM q.1) ∧ p.2.2.length < 1000) (h3 : ∀ p ∈ a.2.2, SM p.1 ∧ SM p.2) (l1 : a.2.1.length < 1000) (l2 : a.2.2.length < 1000) : Ps 60 (aftd (some a)) := by
  refine Ps.mono (n := 6) (ps_T (by simp) fun x hx => ?_) (by decide)
  rcases List.mem_cons.mp hx with rfl | hx
  · exact (ps_cal h1).mono (by decide)
  · rcases List.mem_cons.mp hx with rfl | hx
    · refine ps_T (by rw [List.length_map]; omega) fun y hy => ?_
      obtain ⟨p, hp, rfl⟩ := List.mem_map.mp hy
      refine ps_T (by simp) fun z hz => ?_
      rcases List.mem_cons.mp hz with rfl | hz
      · exact ps_str (h2 p hp).1.1
      · rw [List.mem_singleton.mp hz]; exact ps_fm (h2 p hp).2.1 (h2 p hp).2.2
    · rw [List.mem_singleton.mp hx]
      refine Ps.mono (n := 2) (ps_T (by rw [List.length_map]; omega) fun y hy => ?_) (by decide)
      obtain ⟨p, hp, rfl⟩ := List.mem_map.mp hy
      refine ps_T (by simp) fun z hz => ?_
      rcases List.mem_cons.mp hz with rfl | hz
      · exact ps_str (h3 p hp).1.1
      · rw [List.mem_singleton.mp hz]; exact ps_str (h3 p hp).2.1
theorem ps_nil : Ps 60 (.tuple []) := Ps.mono (n := 1) (ps_T (by simp) fun x hx => by cases hx) (by decide)
section
variable {S : Sy}
theorem bt_ix {b : Bt} {i : Nat} (h : S.bts[i]? = some b) : (S.bts.map fun b => edd b.e)[i]? = some (edd b.e) := by rw [List.getElem?_map, h]; rfl
theorem row_ix {r : Rw} {i : Nat} (h : S.rows[i]? = some r) : (S.rows.map rowd)[i]? = some (rowd r) := by rw [List.getElem?_map, h]; rfl
theorem fa_ix {f : Fa} {i : Nat} (h : S.fas[i]? = some f) : (S.fas.map factd)[i]? = some (factd f) := by rw [List.getElem?_map, h]; rfl
theorem hyps1_ok (ok : SyOk S) (k : Nat) (mh : List Ob) (i : Nat) (b : Bt) (hb : S.bts[i]? = some b) (Q : Val → List Ob → Prop) (q : Q (.d (fms (hypsF S b))) mh) :
    W (callP P gl (k + 4) 35 [.d (sysd S), .d (lowrd S), .d (facd S), .d (.int (i : Int))]) mh Q := by
  refine w_pure (nm := f35.name) (ps := f35.ps) (N := f35.N) (body := f35.body) (env := [some (.d (sysd S)), some (.d (lowrd S)), some (.d (facd S)), some (.d (.int (i : Int))), none, none, none, none, none, none, none, none, none, none]) rfl rfl ?_
  have hsl : sizeLine = 16777216 := rfl
  obtain ⟨kk, r, hr, bo⟩ := ok.bt b (List.mem_of_getElem? hb)
  obtain ⟨e1, e2, e3, e4⟩ := bo.ed.pr
  obtain ⟨_, v, hv, ro⟩ := ok.row kk r hr
  obtain ⟨x3, x4, x6, x7, ef, ex⟩ := edd_form b.e
  have hk : kk < S.fas.length := by rw [ok.fal]; exact (List.getElem?_eq_some_iff.mp hr).1
  have hf : S.fas[kk]? = some S.fas[kk] := List.getElem?_eq_getElem hk
  have fo := ok.fa kk r _ hr hf
  generalize S.fas[kk] = f at hf fo
  have hbi := bt_ix hb
  rw [ef] at hbi
  have hri := row_ix hr
  have hfi := fa_ix hf
  rw [← e1] at hri hfi
  unfold f35
  walk_at "pv all"
  refine ix_tup (j := 1) rfl rfl ?_
  walk_at "pv all"
  refine ix_tup rfl hbi ?_
  walk_at "pv all"
  refine ix_tup (j := 0) rfl rfl ?_
  walk_at "pv all"
  refine ix_tup (j := 1) rfl rfl ?_
  refine ix_tup rfl hri ?_
  walk_at "pv all"
  refine ix_tup (j := 6) rfl rfl ?_
  walk_at "pv all"
  refine ix_tup (j := 2) rfl rfl ?_
  walk_at "pv all"
  /- behind the facts at the point -/
  have rest : ∀ fs : List Fm, fs = r.first ++ (if b.e.pt = 0 then [] else r.grounds ++ (((S.fas[b.e.pr]?).bind fun f => f.1[b.e.pt]?).getD [])) → WS gl (callP P gl (k + 3)) (dropS 4 f35.body) [some (.d (sysd S)), some (.d (lowrd S)), some (.d (facd S)), some (.d (.int (i : Int))), some (.d (.tuple [.str b.e.kd, .int (b.e.pr : Int), .int (b.e.pt : Int), x3, x4, fms b.e.hs, x6, x7])), some (.d (rowd r)), some (.d (.list (fs.map fm))), none, none, none, none, none, none, none] mh fun fl mh' => ∃ x os, (fl = .rt (.d x) ∨ ∃ e, fl = .nx e ∧ x = .none) ∧ mh' = mh ++ os ∧ Q (.d x) mh := by
    intro fs hfs
    have hrr : S.rows[b.e.pr]? = some r := by rw [e1]; exact hr
    have hq : hypsF S b = fs ++ b.e.hs ++ (match b.e.af with
      | none => []
      | some a => (postsOf S a.1).map (putF (tabE a))) := by
      unfold hypsF
      rw [hrr, hfs]
      try rfl
    have hlen := (hyps_names ok (List.mem_of_getElem? hb)).2
    rw [hq, List.length_append, List.length_append] at hlen
    rw [hq] at q
    clear hfs hq
    unfold f35
    simp only [dropS]
    walk_at "pv all"
    refine ix_tup (j := 5) rfl rfl ?_
    walk_at "pv all"
    refine wr_addL (by rw [List.length_map, List.length_map]; omega) ?_
    rw [← List.map_append]
    walk_at "pv all"
    refine ix_tup (j := 0) rfl rfl ?_
    walk_at "pv all"
    cases ha : b.e.af with
    | none =>
      rw [ha, List.append_nil] at q
      have done : ∀ a7 a8 a9 a10 a11 a12 a13, WS gl (callP P gl (k + 3)) (.cons (.ret (.bi .tuple false (.cons (.slot 6) .nil))) .nil) [some (.d (sysd S)), some (.d (lowrd S)), some (.d (facd S)), some (.d (.int (i : Int))), some (.d (.tuple [.str b.e.kd, .int (b.e.pr : Int), .int (b.e.pt : Int), x3, x4, fms b.e.hs, x6, x7])), some (.d (rowd r)), some (.d (.list ((fs ++ b.e.hs).map fm))), a7, a8, a9, a10, a11, a12, a13] mh fun fl mh' => ∃ x os, (fl = .rt (.d x) ∨ ∃ e, fl = .nx e ∧ x = .none) ∧ mh' = mh ++ os ∧ Q (.d x) mh := by
        intro a7 a8 a9 a10 a11 a12 a13
        walk_at "pv all"
        exact q
      refine cs_eq (fun h => ?_) (fun h => ?_)
      · walk_at "pv all"
        refine ix_tup (j := 7) rfl rfl ?_
        walk_at "pv all"
        rcases ex with ⟨p, pt, hs, id, as, ee⟩ | ex
        · rw [ee] at h
          exact absurd h (show ¬ (Str.ofString "call" = Str.ofString "step") by decide +kernel)
        · rw [ha] at ex
          subst ex
          refine cmp_f (by simp [cmpF, eqV2, pureD, eqD, bR, aftd, SeqAt.shaped, PyData.canLay0, PyData.canLayAll0, PyData.depth, PyData.depthAll, PyData.eqv, PyData.eqvAll]) ?_
          refine pick_f (ws_nil (thenS_nx ?_))
          exact done _ _ _ _ _ _ _
      · refine pick_f (pick_f (ws_nil (thenS_nx ?_)))
        exact done _ _ _ _ _ _ _
    | some a =>
      obtain ⟨hp0, c, hc, i1, i2, i3, i4⟩ := bo.ed.aft ha
      have te := te_ok i2 i3 i4
      have po := posts_ok ok hc
      obtain ⟨caok, cal⟩ := ok.ca c hc
      rw [← i1] at po
      have hx7 : x7 = aftd (some a) := by
        rcases ex with ⟨p, pt, hs, id, as, ee⟩ | ex
        · rw [ee] at ha; cases ha
        · rw [ex, ha]
      have hkd : b.e.kd = Str.ofString "step" := by
        cases hbe : b.e with
        | call => rw [hbe] at ha; cases ha
        | step => rfl
      subst hx7
      rw [ha] at q hlen
      refine cs_eq (fun _ => ?_) (fun h => absurd hkd h)
      walk_at "pv all"
      refine ix_tup (j := 7) rfl rfl ?_
      walk_at "pv all"
      obtain ⟨id, as, os⟩ := a
      have hal : as.length ≤ 8 := by
        have := congrArg List.length (show as.map (fun p => p.1) = c.ins from i2.nms)
        rw [List.length_map] at this
        have := caok.il
        omega
      have hol : os.length ≤ 10 := by
        have := congrArg List.length (show os.map (fun p => p.1) = c.outs from i3)
        rw [List.length_map] at this
        have := caok.ol
        omega
      have psa : Ps 60 (aftd (some (id, as, os))) := ps_aft (fun x e => caok.ido x (i1.symm.trans e)) (fun p hp => ⟨caok.so _ (List.mem_append_left _ (by rw [← i2.nms]; exact List.mem_map.mpr ⟨p, hp, rfl⟩)), fun q hq => bo.so _ ((i2.fo p hp).1.mem q hq).1, by have := (i2.fo p hp).2; omega⟩) (fun p hp => ⟨caok.so _ (List.mem_append_right _ (by rw [← i3]; exact List.mem_map.mpr ⟨p, hp, rfl⟩)), bo.so _ (i4 p hp)⟩) (by show as.length < 1000; omega) (by show os.length < 1000; omega)
      refine cd_ne psa ps_nil (fun _ => ?_) (fun h => by cases h)
      walk_at "pv all"
      refine ix_tup (j := 7) rfl rfl ?_
      walk_at "pv all"
      refine ix_tup (j := 1) rfl (show [cald id, .tuple (as.map argd), .tuple (os.map outd)][1]? = some (.tuple (as.map argd)) from rfl) ?_
      refine ix_T ?_
      refine wl_invL (fun j e m => ∃ (a8 a9 : Option Val), e = [some (.d (sysd S)), some (.d (lowrd S)), some (.d (facd S)), some (.d (.int (i : Int))), some (.d (.tuple [.str b.e.kd, .int (b.e.pr : Int), .int (b.e.pt : Int), x3, x4, fms b.e.hs, x6, aftd (some (id, as, os))])), some (.d (rowd r)), some (.d (.list ((fs ++ b.e.hs).map fm))), some (.ref mh.length), a8, a9, none, none, none, none] ∧ m = mh ++ [.dct (mapK fm (tabS (as.take j)))]) ⟨none, none, rfl, rfl⟩ (fun j p e m hp I => ?_) (fun e m I => ?_)
      · obtain ⟨a8, a9, rfl, rfl⟩ := I
        have hj : j < as.length := (List.getElem?_eq_some_iff.mp hp).1
        walk_at "pv all"
        refine put_c end_get (by have := tabS_len (as.take j); rw [List.length_take] at this; omega) ?_
        walk_at "pv all"
        rw [end_set]
        refine ⟨_, _, rfl, ?_⟩
        rw [List.take_add_one, hp]
        show _ = mh ++ [Ob.dct (mapK fm (tabS (as.take j ++ [p])))]
        rw [tabS_snoc]
      obtain ⟨a8, a9, rfl, rfl⟩ := I
      rw [List.take_length]
      walk_at "pv all"
      refine ix_tup (j := 7) rfl rfl ?_
      walk_at "pv all"
      refine ix_tup (j := 2) rfl (show [cald id, .tuple (as.map argd), .tuple (os.map outd)][2]? = some (.tuple (os.map outd)) from rfl) ?_
      refine ix_T ?_
      refine wl_invL (fun j e m => ∃ (a8 a10 : Option Val), e = [some (.d (sysd S)), some (.d (lowrd S)), some (.d (facd S)), some (.d (.int (i : Int))), some (.d (.tuple [.str b.e.kd, .int (b.e.pr : Int), .int (b.e.pt : Int), x3, x4, fms b.e.hs, x6, aftd (some (id, as, os))])), some (.d (rowd r)), some (.d (.list ((fs ++ b.e.hs).map fm))), some (.ref mh.length), a8, a9, a10, none, none, none] ∧ m = mh ++ [.dct (mapK fm (tabS (as ++ (os.take j).map fun p => (p.1, varF p.2))))]) ⟨a8, none, rfl, by rw [List.take_zero, List.map_nil, List.append_nil]⟩ (fun j p e m hp I => ?_) (fun e m I => ?_)
      · obtain ⟨a8, a10, rfl, rfl⟩ := I
        have hj : j < os.length := (List.getElem?_eq_some_iff.mp hp).1
        walk_at "pv all"
        refine var_ok _ _ _ _ ?_
        walk_at "pv all"
        refine put_c end_get (by have := tabS_len (as ++ (os.take j).map fun p => (p.1, varF p.2)); rw [List.length_append, List.length_map, List.length_take] at this; omega) ?_
        walk_at "pv all"
        rw [end_set]
        refine ⟨_, _, rfl, ?_⟩
        rw [List.take_add_one, hp]
        show _ = mh ++ [Ob.dct (mapK fm (tabS (as ++ (os.take j ++ [p]).map fun p => (p.1, varF p.2))))]
        rw [List.map_append, ← List.append_assoc]
        show _ = mh ++ [Ob.dct (mapK fm (tabS ((as ++ (os.take j).map fun p => (p.1, varF p.2)) ++ [(p.1, varF p.2)])))]
        rw [tabS_snoc]
      obtain ⟨a8, a10, rfl, rfl⟩ := I
      rw [List.take_length]
      refine thenS_nx ?_
      refine frz_dct rfl end_get (asDKs_mapK _ _) ?_
      rw [end_set]
      show WS _ _ _ [_, _, _, _, _, _, _, some (.d (datK fm (tabE (id, as, os)))), _, _, _, _, _, _] _ _
      have fin : ∀ (ps : List Fm) (a12 a13 : Option Val), ps = postsOf S id → WS gl (callP P gl (k + 3)) (.cons (.set 6 (.bin .Add false (.slot 6) (.lc false [("post", 12)] (.nm 12) (.val (.slot 11)) .yes (.call 34 (.cons (.slot 12) (.cons (.slot 7) .nil))))))
    .nil) [some (.d (sysd S)), some (.d (lowrd S)), some (.d (facd S)), some (.d (.int (i : Int))), some (.d (.tuple [.str b.e.kd, .int (b.e.pr : Int), .int (b.e.pt : Int), x3, x4, fms b.e.hs, x6, aftd (some (id, as, os))])), some (.d (rowd r)), some (.d (.list ((fs ++ b.e.hs).map fm))), some (.d (datK fm (tabE (id, as, os)))), a8, a9, a10, some (.d (fms ps)), a12, a13] (mh ++ [.dead]) (thenS gl (callP P gl (k + 3)) (.cons (.ret (.bi .tuple false (.cons (.slot 6) .nil))) .nil) fun fl mh' => ∃ x os, (fl = .rt (.d x) ∨ ∃ e, fl = .nx e ∧ x = .none) ∧ mh' = mh ++ os ∧ Q (.d x) mh) := by
        intro ps a12 a13 hps
        subst hps
        walk_at "pv all"
        refine ix_T ?_
        refine wc_map (r := fun F => Val.d (fm (putF (tabE (id, as, os)) F))) gnil (fun F hF => ?_) ?_
        · obtain ⟨p1, p2, p3⟩ := pts_mok te (po.2 F hF) fun x hx => hx
          walk_at "pv all"
          refine put_ok k _ F (.d (datK fm (tabE (id, as, os)))) (tabE (id, as, os)) (fun _ => dct_dat) p1 (by omega) (by have := (po.2 F hF).len; omega) _ ⟨rfl, rfl⟩
        refine wr_nl (ds := ((postsOf S id).map (putF (tabE (id, as, os)))).map fm) (by rw [List.map_map, List.map_map]; rfl) ?_
        have hlen : (fs.length + b.e.hs.length) + ((postsOf S id).map (putF (tabE (id, as, os)))).length ≤ 20 := hlen
        refine wr_addL (by rw [List.length_map, List.length_map, List.length_append]; omega) ?_
        rw [← List.map_append]
        walk_at "pv all"
        exact q
      walk_at "pv all"
      refine ix_tup (j := 7) rfl rfl ?_
      walk_at "pv all"
      refine ix_tup (j := 0) rfl (show [cald id, .tuple (as.map argd), .tuple (os.map outd)][0]? = some (cald id) from rfl) ?_
      cases id with
      | nm x =>
        obtain ⟨l, hl, hcl⟩ : ∃ l ∈ S.lws, c = lca l := by
          rcases cal with h | ⟨kk, r, v, _, _, e⟩
          · exact h
          · rw [e] at i1; cases i1
        have hx : x = l.nm := by rw [hcl] at i1; exact Cal.nm.inj i1
        subst hx
        have hfind := (ok.lw l hl).2
        have hpost : postsOf S (.nm l.nm) = l.posts := by
          show ((S.lws.find? fun x => decide (x.nm = l.nm)).map (·.posts)).getD [] = _
          rw [hfind]; rfl
        refine isi_str ?_
        walk_at "pv all"
        refine ix_T ?_
        refine wc_filter (p := fun y : Lw => decide (y.nm = l.nm)) (r := fun y => Val.d (faced y)) gnil (fun y hy => ?_) ?_
        · walk_at "pv all"
          refine ix_tup (j := 0) rfl rfl ?_
          walk_at "pv all"
          refine ix_tup (j := 7) rfl rfl ?_
          walk_at "pv all"
          refine ix_tup (j := 0) rfl (show [cald (.nm l.nm), .tuple (as.map argd), .tuple (os.map outd)][0]? = some (.str l.nm) from rfl) ?_
          refine cs_eq (fun h => ?_) (fun h => ?_)
          · refine ⟨(decide_eq_true h).symm, rfl, fun _ => ?_⟩
            walk_at "pv all"
            exact ⟨rfl, rfl⟩
          · exact ⟨(decide_eq_false h).symm, rfl, fun z => by cases z⟩
        refine wr_nl (ds := (S.lws.filter fun y : Lw => decide (y.nm = l.nm)).map faced) (by rw [List.map_map]; rfl) ?_
        walk_at "pv all"
        refine list_ix0 (em := faced) (a := l) (by rw [List.head?_filter]; exact hfind) ?_
        walk_at "pv all"
        refine ix_tup (j := 3) rfl rfl ?_
        refine ws_nil (thenS_nx ?_)
        exact fin l.posts _ _ hpost.symm
      | ix n =>
        obtain ⟨k2, r2, v2, q1, q2, hce⟩ : ∃ (k : Nat) (r : Rw), ∃ v, S.rows[k]? = some r ∧ S.vals[k]? = some v ∧ c = ⟨.ix k, r.ins, r.outs, v⟩ := by
          rcases cal with ⟨l, _, e⟩ | h
          · rw [e] at i1; cases i1
          · exact h
        have hn : n = k2 := by rw [hce] at i1; exact Cal.ix.inj i1
        subst hn
        have hk2 : n < S.fas.length := by rw [ok.fal]; exact (List.getElem?_eq_some_iff.mp q1).1
        have hf2 : S.fas[n]? = some S.fas[n] := List.getElem?_eq_getElem hk2
        generalize S.fas[n] = f2 at hf2
        have hpost : postsOf S (.ix n) = f2.2 := by
          show ((S.fas[n]?).map (·.2)).getD [] = _
          rw [hf2]; rfl
        refine isi_int ?_
        walk_at "pv all"
        refine ix_tup (j := 7) rfl rfl ?_
        walk_at "pv all"
        refine ix_tup (j := 0) rfl (show [cald (.ix n), .tuple (as.map argd), .tuple (os.map outd)][0]? = some (.int (n : Int)) from rfl) ?_
        refine ix_tup rfl (fa_ix hf2) ?_
        walk_at "pv all"
        refine ix_tup (j := 1) rfl rfl ?_
        refine ws_nil (thenS_nx ?_)
        exact fin f2.2 _ _ hpost.symm
  refine ci_ne (fun h => ?_) (fun h => ?_)
  · refine pick_t ?_
    refine ws_set (we_bin ?_)
    walk_at "pv all"
    refine ix_tup (j := 7) rfl rfl ?_
    walk_at "pv all"
    refine wr_addL (by rw [List.length_map, List.length_map]; have := ro.fir.1; have := ro.gr.1; omega) ?_
    rw [← List.map_append]
    walk_at "pv all"
    refine ix_tup (j := 1) rfl rfl ?_
    refine ix_tup rfl hfi ?_
    walk_at "pv all"
    refine ix_tup (j := 0) rfl rfl ?_
    walk_at "pv all"
    refine ix_tup (j := 2) rfl rfl ?_
    have hptl : b.e.pt < f.1.length := by rw [fo.pl]; exact e2
    have hpt : f.1[b.e.pt]? = some f.1[b.e.pt] := List.getElem?_eq_getElem hptl
    have hfl := (fo.pt _ (List.mem_of_getElem? hpt)).1
    generalize f.1[b.e.pt] = gs at hpt hfl
    refine ix_tup rfl (show (f.1.map fms)[b.e.pt]? = some (fms gs) by rw [List.getElem?_map, hpt]; rfl) ?_
    walk_at "pv all"
    refine wr_addL (by rw [List.length_map, List.length_append, List.length_map]; have := ro.fir.1; have := ro.gr.1; omega) ?_
    rw [← List.map_append]
    refine ws_nil (thenS_nx ?_)
    refine rest _ ?_
    rw [if_neg (by omega), e1, hf]
    show _ = r.first ++ (r.grounds ++ (f.1[b.e.pt]?).getD [])
    rw [hpt, List.append_assoc]; rfl
  · refine pick_f (ws_nil (thenS_nx ?_))
    refine rest r.first ?_
    rw [if_pos (by omega), List.append_nil]
end
end PvK

namespace PvK
open PySem PySem.Spec PyProof.Rows L2 Pv
theorem wr_sortL {mh : List Ob} {Q : Val → List Ob → Prop} {ws : List Str} (hl : ws.length < 64) (q : Q (.d (strD (sortS ws))) mh) : WR false (Bi.f .sorted mh [.d (strD ws)]) mh Q := by
  refine wr_nl (ds := (sortS ws).map .str) ?_ q
  show sortVl mh [.d (strD ws)] = _
  have h : (seqL mh (.d (strD ws))).bind (allOf asStr) = some ws := by
    have := allOf_map (f := asStr) (g := fun b => Val.d (.str b)) (fun _ => rfl) ws
    show allOf asStr ((ws.map PyData.str).map Val.d) = _
    rw [List.map_map]
    exact this
  have h0 : dctOf mh (.d (strD ws)) = none := rfl
  unfold sortVl
  simp only [h0, h]
  rw [if_pos hl, List.map_map]
  rfl
theorem cd_ninC {mh : List Ob} {P : Bool → Prop} {n : Nat} {x : Str} {ys : List Str} (h : mh[n]? = some (.lst ((ys.map .str).map .d))) (h1 : x ∉ ys → P true) (h2 : x ∈ ys → P false) : ∃ r, cmpF .NotIn mh (.d (.str x)) (.ref n) = some (.v (.d (.bool r))) ∧ P r := by
  have hf : ∀ y ∈ ys.map PyData.str, plD y = true ∧ flatD y = true := fun y hy => by
    obtain ⟨z, _, rfl⟩ := List.mem_map.mp hy
    exact ⟨rfl, rfl⟩
  refine ⟨!(ys.map PyData.str).any fun y => PyData.eqv y (.str x), ?_, ?_⟩
  · show bR ((inV2 mh (.d (.str x)) (.ref n)).map (!·)) = _
    have h0 : dctOf mh (.ref n) = none := by unfold dctOf; simp only [h]
    have e2 : ((seqA mh (.ref n)).bind asDs) = some (ys.map .str) := by
      have : seqA mh (.ref n) = some ((ys.map .str).map .d) := by show cellL mh n = _; unfold cellL; simp only [h]
      rw [this]; exact asDs_map _
    have e3 : inSeq (.str x) (ys.map .str) = some ((ys.map PyData.str).any fun y => PyData.eqv y (.str x)) := if_pos ⟨rfl, List.all_eq_true.mpr fun y h => (hf y h).2⟩
    unfold inV2
    rw [h0]
    simp only [e2, e3]
    rfl
  · have := any_eqv (x := .str x) rfl fun y h => (hf y h).1
    have hm : PyData.str x ∈ ys.map PyData.str ↔ x ∈ ys := ⟨fun h => by obtain ⟨z, hz, e⟩ := List.mem_map.mp h; cases e; exact hz, fun h => List.mem_map.mpr ⟨x, h, rfl⟩⟩
    rw [hm] at this
    cases e : ((ys.map PyData.str).any fun y => PyData.eqv y (.str x)) with
    | true => exact h2 (this.mp e)
    | false => exact h1 fun z => by rw [this.mpr z] at e; cases e
theorem names_ok (k : Nat) (mh : List Ob) (fs : List Fm) (ks : List Str) (hk : ks.length < 60) (hfs : ∀ F ∈ fs, ∀ p ∈ F.2, p.1 ∈ ks) (Q : Val → List Ob → Prop) (q : ∀ xs : List Str, (∀ x ∈ xs, x ∈ ks) → xs.length ≤ ks.length → Q (.d (strD xs)) mh) :
    W (callP P gl (k + 1) 37 [.d (fms fs)]) mh Q := by
  refine w_pure (nm := f37.name) (ps := f37.ps) (N := f37.N) (body := f37.body) (env := [some (.d (fms fs)), none, none, none, none]) rfl rfl ?_
  unfold f37
  have hsl : sizeLine = 16777216 := rfl
  walk_at "pv all"
  refine ix_T ?_
  refine wl_invL (fun i e m => ∃ (xs : List Str) (a2 a3 a4 : Option Val), e = [some (.d (fms fs)), some (.ref mh.length), a2, a3, a4] ∧ m = mh ++ [.lst ((xs.map .str).map .d)] ∧ xs.Nodup ∧ ∀ x ∈ xs, x ∈ ks) ⟨[], none, none, none, rfl, rfl, List.nodup_nil, fun _ h => nomatch h⟩ (fun i F e m hF I => ?_) (fun e m I => ?_)
  · obtain ⟨xs, a2, a3, a4, rfl, rfl, h1, h2⟩ := I
    have hFm := hfs F (List.mem_of_getElem? hF)
    walk_at "pv all"
    refine ix_tup (j := 1) rfl rfl ?_
    refine ix_T ?_
    refine wl_invL (fun j e m => ∃ (xs : List Str) (a3 a4 : Option Val), e = [some (.d (fms fs)), some (.ref mh.length), some (.d (fm F)), a3, a4] ∧ m = mh ++ [.lst ((xs.map .str).map .d)] ∧ xs.Nodup ∧ ∀ x ∈ xs, x ∈ ks) ⟨xs, a3, a4, rfl, rfl, h1, h2⟩ (fun j p e m hp I => ?_) (fun e m I => ?_)
    · obtain ⟨xs, a3, a4, rfl, rfl, h1, h2⟩ := I
      have hpm := hFm p (List.mem_of_getElem? hp)
      have hxl := nodup_le h1 h2
      walk_at "pv all"
      refine cd_ninC end_get (fun h => ?_) (fun h => ?_)
      · walk_at "pv all"
        refine ⟨rcv_lst end_get, ?_⟩
        walk_at "pv all"
        refine app_end end_get (by rw [List.length_map, List.length_map]; omega) ?_
        walk_at "pv all"
        rw [end_set]
        refine ⟨xs ++ [p.1], _, _, rfl, by simp, ?_, fun x hx => ?_⟩
        · exact List.nodup_append.mpr ⟨h1, by simp, fun a ha b hb => by rw [List.mem_singleton.mp hb]; exact fun e => h (e ▸ ha)⟩
        · rcases List.mem_append.mp hx with hx | hx
          · exact h2 x hx
          · rw [List.mem_singleton.mp hx]; exact hpm
      · walk_at "pv all"
        exact ⟨xs, _, _, rfl, rfl, h1, h2⟩
    · obtain ⟨xs, a3, a4, rfl, rfl, h1, h2⟩ := I
      walk_at "pv all"
      exact ⟨xs, _, _, _, rfl, rfl, h1, h2⟩
  · obtain ⟨xs, a2, a3, a4, rfl, rfl, h1, h2⟩ := I
    have hxl := nodup_le h1 h2
    refine thenS_nx ?_
    refine frz_lst rfl end_get ?_
    rw [end_set]
    walk_at "pv all"
    refine wr_sortL (by omega) ?_
    walk_at "pv all"
    exact q _ (fun x hx => h2 x ((sortS_perm xs).mem_iff.mp hx)) (by rw [(sortS_perm xs).length_eq]; exact hxl)
section
variable {S : Sy}
theorem all_hyps_ok (ok : SyOk S) (k : Nat) (mh : List Ob) (Q : Val → List Ob → Prop) (q : Q (.d (.list (S.bts.map fun b => fms (hypsF S b)))) mh) :
    W (callP P gl (k + 5) 36 [.d (sysd S), .d (lowrd S), .d (facd S)]) mh Q := by
  refine w_pure (nm := f36.name) (ps := f36.ps) (N := f36.N) (body := f36.body) (env := [some (.d (sysd S)), some (.d (lowrd S)), some (.d (facd S)), none]) rfl rfl ?_
  unfold f36
  have hbl := ok.btl
  walk_at "pv all"
  refine ix_tup (j := 1) rfl rfl ?_
  walk_at "pv all"
  refine rg1 (n := S.bts.length) (by rw [List.length_map]) (by omega) ?_
  rw [rg_map]
  refine wc_map (r := fun i => Val.d (match S.bts[i]? with | some b => fms (hypsF S b) | none => .none)) gnil (fun i hi => ?_) ?_
  · have hi := List.mem_range.mp hi
    have hb : S.bts[i]? = some S.bts[i] := List.getElem?_eq_getElem hi
    walk_at "pv all"
    refine hyps1_ok ok k _ i _ hb _ ?_
    rw [hb]
    exact ⟨rfl, rfl⟩
  refine wr_nl (ds := S.bts.map fun b => fms (hypsF S b)) ?_ ?_
  · refine congrArg (fun x => some (Rv.nl x)) (List.ext_getElem? fun i => ?_)
    rw [List.getElem?_map, List.map_map, List.getElem?_map]
    by_cases hi : i < S.bts.length
    · rw [List.getElem?_range hi, List.getElem?_eq_getElem hi]
      show some (Val.d (match S.bts[i]? with | some b => fms (hypsF S b) | none => .none)) = _
      rw [List.getElem?_eq_getElem hi]; rfl
    · rw [List.getElem?_eq_none (by rw [List.length_range]; omega), List.getElem?_eq_none (by omega)]; rfl
  walk_at "pv all"
  exact q
/-- alive or shut -/
def lifed (sh : Nat) (x : Dt) : Dt := .tuple [.str (if sh = 0 then "alive" else "shut"), x]
theorem life_ok (ok : SyOk S) (k : Nat) (mh : List Ob) (i : Nat) (b : Bt) (hb : S.bts[i]? = some b) (Q : Val → List Ob → Prop) (q : ∀ x, Sz 700 8 x → Q (.d (lifed b.sh x)) mh) :
    W (callP P gl (k + 2) 38 [.d (sysd S), .d (facd S), .d (fms (hypsF S b)), .d (.int (i : Int)), .d (datK .int b.tab), .d (.int (b.sh : Int))]) mh Q := by
  refine w_pure (nm := f38.name) (ps := f38.ps) (N := f38.N) (body := f38.body) (env := [some (.d (sysd S)), some (.d (facd S)), some (.d (fms (hypsF S b))), some (.d (.int (i : Int))), some (.d (datK .int b.tab)), some (.d (.int (b.sh : Int))), none, none, none, none]) rfl rfl ?_
  have hsl : sizeLine = 16777216 := rfl
  have hbm := List.mem_of_getElem? hb
  obtain ⟨kk, r, hr, bo⟩ := ok.bt b hbm
  obtain ⟨e1, e2, e3, e4⟩ := bo.ed.pr
  obtain ⟨_, v, hv, ro⟩ := ok.row kk r hr
  obtain ⟨hn, hhl⟩ := hyps_names ok hbm
  unfold f38
  walk_at "pv all"
  refine ci_eq (fun h => ?_) (fun h => ?_)
  · have h0 : b.sh = 0 := by omega
    walk_at "pv all"
    refine names_ok k _ (hypsF S b) (keys b.tab) (by unfold keys; rw [List.length_map]; have := bo.tl; omega) (fun F hF p hp => (bo.ks _).mpr (hn F hF p hp)) _ fun xs x1 x2 => ?_
    walk_at "pv all"
    refine ix_L ?_
    refine wc_map (r := fun x => Val.d (.tuple [.str x, .int ((lkS b.tab x).getD 0)])) gnil (fun x hx => ?_) ?_
    · obtain ⟨w, hw⟩ := lkS_of_mem (x1 x hx)
      walk_at "pv all"
      refine ix_t dct_dat hw ?_
      walk_at "pv all"
      exact ⟨by rw [hw]; rfl, rfl⟩
    refine wr_nl (ds := xs.map fun x => .tuple [.str x, .int ((lkS b.tab x).getD 0)]) (by rw [List.map_map]; rfl) ?_
    walk_at "pv all"
    have := q (.tuple [.str "case", .int 1, .tuple (xs.map fun x => .tuple [.str x, .int ((lkS b.tab x).getD 0)])]) (by
      have hx1 : ∀ x ∈ xs, Sz 12 1 (.tuple [.str x, .int ((lkS b.tab x).getD 0)]) := fun x hx => by
        have hb2 : ((lkS b.tab x).getD 0).natAbs < 2 ^ 200 := by
          cases e : lkS b.tab x with
          | none => exact (by decide : (0 : Int).natAbs < 2 ^ 200)
          | some v => have := bo.tb _ (lkS_mem e); exact Nat.lt_of_le_of_lt this (by decide)
        exact sz_tup (sz_cons (sz_nm (bo.so _ ((bo.ks x).mp (x1 x hx)))) (sz_cons (sz_int hb2) sz_nil))
      have hxl : xs.length ≤ 50 := by have := bo.tl; unfold keys at x2; rw [List.length_map] at x2; omega
      exact (sz_tup (sz_cons (sz_str (n := 10) (show PyData.strOk (Str.ofString "case") = true by decide +kernel) (show (Str.ofString "case").length ≤ 10 by decide +kernel)) (sz_cons (sz_int (by decide)) (sz_cons (sz_tup (sz_map hxl hx1)) sz_nil)))).up (by decide) (by decide))
    unfold lifed at this
    rw [if_pos h0] at this
    exact this
  · have h0 : 0 < b.sh := by omega
    obtain ⟨x3, x4, x6, x7, ef, ex⟩ := edd_form b.e
    have hk : kk < S.fas.length := by rw [ok.fal]; exact (List.getElem?_eq_some_iff.mp hr).1
    have hf : S.fas[kk]? = some S.fas[kk] := List.getElem?_eq_getElem hk
    have fo := ok.fa kk r _ hr hf
    generalize S.fas[kk] = f at hf fo
    have hbi := bt_ix hb
    rw [ef] at hbi
    have hri := row_ix hr
    have hfi := fa_ix hf
    rw [← e1] at hri hfi
    have h2 := e4.2.1 h0
    have hcount : ∀ gs, f.1[b.e.pt]? = some gs → r.first.length + (if b.e.pt = 0 then 0 else r.grounds.length + gs.length) + b.e.hs.length ≤ (hypsF S b).length := by
      intro gs hgs
      unfold hypsF
      rw [e1, hr, hf]
      show _ ≤ (r.first ++ (if b.e.pt = 0 then [] else r.grounds ++ (f.1[b.e.pt]?).getD []) ++ b.e.hs ++ _).length
      rw [hgs, List.length_append, List.length_append, List.length_append]
      split
      · simp
      · simp
    have hptl : b.e.pt < f.1.length := by rw [fo.pl]; exact e2
    have hpt : f.1[b.e.pt]? = some f.1[b.e.pt] := List.getElem?_eq_getElem hptl
    have hcount := hcount _ hpt
    generalize f.1[b.e.pt] = gs at hpt hcount
    walk_at "pv all"
    refine ix_tup (j := 1) rfl rfl ?_
    walk_at "pv all"
    refine ix_tup rfl hbi ?_
    walk_at "pv all"
    refine ix_tup (j := 0) rfl rfl ?_
    walk_at "pv all"
    refine ix_tup (j := 1) rfl rfl ?_
    refine ix_tup rfl hri ?_
    walk_at "pv all"
    refine ix_tup (j := 6) rfl rfl ?_
    walk_at "pv all"
    refine ix_tup (j := 5) rfl rfl ?_
    walk_at "pv all"
    refine ix_tup (j := 2) rfl rfl ?_
    walk_at "pv all"
    have fin : ∀ (at_ : Nat), at_ + 1 < (hypsF S b).length → WS gl (callP P gl (k + 1)) (dropS 4 f38.body) [some (.d (sysd S)), some (.d (facd S)), some (.d (fms (hypsF S b))), some (.d (.int (i : Int))), some (.d (datK .int b.tab)), some (.d (.int (b.sh : Int))), some (.d (.tuple [.str b.e.kd, .int (b.e.pr : Int), .int (b.e.pt : Int), x3, x4, fms b.e.hs, x6, x7])), some (.d (.int (at_ : Int))), none, none] mh fun fl mh' => ∃ x os, (fl = .rt (.d x) ∨ ∃ e, fl = .nx e ∧ x = .none) ∧ mh' = mh ++ os ∧ Q (.d x) mh := by
      intro at_ hat
      unfold f38
      simp only [dropS]
      walk_at "pv all"
      rw [List.length_map]
      refine wr_rep0 (by omega) ?_
      walk_at "pv all"
      refine set_l end_get rfl (by rw [List.length_map, List.length_replicate]; omega) ?_
      rw [end_set]
      walk_at "pv all"
      refine set_l end_get (j := at_ + 1) (by push_cast; rfl) (by rw [List.length_set, List.length_map, List.length_replicate]; omega) ?_
      rw [end_set]
      walk_at "pv all"
      have e : (((List.replicate (hypsF S b).length (PyData.int 0)).map Val.d).set at_ (.d (.int 1))).set (at_ + 1) (.d (.int 1)) = (((List.replicate (hypsF S b).length (PyData.int 0)).set at_ (.int 1)).set (at_ + 1) (.int 1)).map Val.d := by rw [List.map_set, List.map_set]
      rw [e]
      refine frz_lst rfl end_get ?_
      rw [end_set]
      walk_at "pv all"
      have := q (.tuple [.str "reason", .int (b.sh : Int), .tuple (((List.replicate (hypsF S b).length (PyData.int 0)).set at_ (.int 1)).set (at_ + 1) (.int 1)), .int 0]) (by
        have hz : SzA (20 * 1) 0 (((List.replicate (hypsF S b).length (PyData.int 0)).set at_ (.int 1)).set (at_ + 1) (.int 1)) := by
          refine (sz_all (n := 0) (m := 0) fun d hd => ?_).up (by rw [List.length_set, List.length_set, List.length_replicate]; omega) (Nat.le_refl _)
          rcases List.mem_or_eq_of_mem_set hd with hd | rfl
          · rcases List.mem_or_eq_of_mem_set hd with hd | rfl
            · rw [(List.mem_replicate.mp hd).2]; exact sz_int (by decide)
            · exact sz_int (by decide)
          · exact sz_int (by decide)
        have hsh := bo.sh
        exact (sz_tup (sz_cons (sz_str (n := 10) (show PyData.strOk (Str.ofString "reason") = true by decide +kernel) (show (Str.ofString "reason").length ≤ 10 by decide +kernel)) (sz_cons (sz_int (show ((b.sh : Nat) : Int).natAbs < 2 ^ 200 by have : b.sh < 2 ^ 200 := Nat.lt_trans hsh (by decide); omega)) (sz_cons (sz_tup hz) (sz_cons (sz_int (by decide)) sz_nil))))).up (by decide) (by decide))
      unfold lifed at this
      rw [if_neg (by omega)] at this
      exact this
    rw [List.length_map, List.length_map]
    refine ci_ne (fun h => ?_) (fun h => ?_)
    · rw [if_neg (by omega)] at hcount
      refine pick_t ?_
      refine ws_set (we_bin ?_)
      walk_at "pv all"
      refine ix_tup (j := 0) rfl rfl ?_
      walk_at "pv all"
      refine ix_tup (j := 1) rfl rfl ?_
      refine ix_tup rfl hri ?_
      walk_at "pv all"
      refine ix_tup (j := 7) rfl rfl ?_
      walk_at "pv all"
      refine ix_tup (j := 1) rfl rfl ?_
      refine ix_tup rfl hfi ?_
      walk_at "pv all"
      refine ix_tup (j := 0) rfl rfl ?_
      walk_at "pv all"
      refine ix_tup (j := 2) rfl rfl ?_
      refine ix_tup rfl (show (f.1.map fms)[b.e.pt]? = some (fms gs) by rw [List.getElem?_map, hpt]; rfl) ?_
      refine wa_nil ?_
      refine wr_lenT ?_
      refine wr_add ?_
      refine ws_nil (thenS_nx ?_)
      rw [List.length_map, List.length_map, show (r.first.length : Int) + (b.e.hs.length : Int) - 2 + (r.grounds.length : Int) + (gs.length : Int) = ((r.first.length + b.e.hs.length - 2 + r.grounds.length + gs.length : Nat) : Int) by omega]
      exact fin _ (by omega)
    · rw [if_pos (by omega)] at hcount
      refine pick_f (ws_nil (thenS_nx ?_))
      rw [show (r.first.length : Int) + (b.e.hs.length : Int) - 2 = ((r.first.length + b.e.hs.length - 2 : Nat) : Int) by omega]
      exact fin _ (by omega)
end
end PvK

namespace PvK
open PySem PySem.Spec PyProof.Rows L2 Pv
/-! the drawn system -/
theorem rca_ok {r : Rw} {v : List (Str × Int)} (h : RwOk r v) (k : Nat) : CaOk ⟨.ix k, r.ins, r.outs, v⟩ :=
  ⟨h.il, h.ol, h.tb, h.ink, h.onk, fun x hx => (List.mem_append.mp hx).elim (fun h' => h.so x (List.mem_append_left _ (List.mem_append_left _ h'))) (fun h' => h.so x (List.mem_append_right _ h')), fun x e => by cases e⟩
/-- what is known of rows and callees after some turns -/
structure PreOk (nms : List Str) (l1 l2 : Lw) (rows : List Rw) (vals : List (List (Str × Int))) (cs : List Ca) : Prop where
  len : vals.length = rows.length
  row : ∀ (i : Nat) r, rows[i]? = some r → Rx r ∧ ∃ v, vals[i]? = some v ∧ RwOk r v
  ca : ∀ c ∈ cs, CaOk c ∧ ((∃ l ∈ [l1, l2], c = lca l) ∨ ∃ (k : Nat) (r : Rw), ∃ v, rows[k]? = some r ∧ vals[k]? = some v ∧ c = ⟨.ix k, r.ins, r.outs, v⟩)
  cl : 2 ≤ cs.length ∧ cs.length ≤ 2 + 2 * rows.length
def LvOk (S : Sy) (lv : List Dt) : Prop := lv.length = S.bts.length ∧ ∀ (i : Nat) b, S.bts[i]? = some b → ∃ x, lv[i]? = some (lifed b.sh x) ∧ Sz 700 8 x
theorem get_snoc {α : Type} {xs : List α} {x y : α} {i : Nat} (h : (xs ++ [x])[i]? = some y) : xs[i]? = some y ∨ (i = xs.length ∧ y = x) := by
  by_cases hl : i < xs.length
  · rw [List.getElem?_append_left hl] at h; exact .inl h
  · have h2 := (List.getElem?_eq_some_iff.mp h).1
    rw [List.length_append] at h2
    simp only [List.length_cons, List.length_nil] at h2
    have : i = xs.length := by omega
    subst this
    rw [List.getElem?_append_right (Nat.le_refl _), Nat.sub_self] at h
    exact .inr ⟨rfl, (Option.some.inj h).symm⟩
theorem get_pre {α : Type} {xs ys : List α} {y : α} {i : Nat} (h : xs[i]? = some y) : (xs ++ ys)[i]? = some y := by
  rw [List.getElem?_append_left (List.getElem?_eq_some_iff.mp h).1]; exact h
theorem system_ok (inn : Bool) (k : Nat) (s : Ds) (tl : List Ob) (many mo : Nat) (hmany : 1 ≤ many ∧ many ≤ 3) (hmo : 1 ≤ mo ∧ mo ≤ 5) (Q : Val → List Ob → Prop)
    (q : ∀ S s' lv, SyOk S → LvOk S lv → Q (.d (.tuple [sysd S, lowrd S, facd S, .tuple lv, .list (S.bts.map fun b => fms (hypsF S b))])) (St s' :: tl)) :
    W (callP P gl (k + 8) 39 [.ref 0, .d (.int (many : Int)), .d (.int (mo : Int)), .d (.bool inn)]) (St s :: tl) Q := by
  refine w_def (nm := f39.name) (ps := f39.ps) (N := f39.N) (body := f39.body) (env := [some (.ref 0), some (.d (.int (many : Int))), some (.d (.int (mo : Int))), some (.d (.bool inn)), none, none, none, none, none, none, none, none, none, none, none, none, none, none, none, none, none, none]) rfl rfl ?_
  unfold f39
  have hsl : sizeLine = 16777216 := rfl
  walk_at "pv all"
  have hw := words_ok (many + 2) (k + 5) s tl (by omega)
  refine hw _ fun ws s1 w1 w2 w3 => ?_
  walk_at "pv all"
  refine wr_sortL (by omega) ?_
  have n1 : (sortS ws).length = many + 2 := by rw [(sortS_perm ws).length_eq]; exact w1
  have n2 : (sortS ws).Nodup := (sortS_perm ws).nodup_iff.mpr w2
  have n3 : ∀ x ∈ sortS ws, Wrd x := fun x hx => w3 x ((sortS_perm ws).mem_iff.mp hx)
  generalize sortS ws = nms at n1 n2 n3
  walk_at "pv all"
  have hd := draw_ok (many + 1) (k + 6) s1 tl (by omega) (by omega)
  refine hd _ fun a s2 a1 => ?_
  obtain ⟨x1, y1, y2, y3⟩ := words_at (ws := nms) (i := a) (by omega) n3
  obtain ⟨x2, z1, z2, z3⟩ := words_at (ws := nms) (i := a + 1) (by omega) n3
  have hne : x1 ≠ x2 := by
    rintro rfl
    obtain ⟨h1, h2⟩ := List.getElem?_eq_some_iff.mp y1
    obtain ⟨h3, h4⟩ := List.getElem?_eq_some_iff.mp z1
    have := (List.getElem_inj n2).mp (h2.trans h4.symm)
    omega
  walk_at "pv all"
  refine ix_list rfl y2 ?_
  walk_at "pv all"
  refine low_ok (k + 2) _ _ x1 y3.ok _ fun l1 s3 lo1 ln1 => ?_
  walk_at "pv all"
  refine ix_list (j := a + 1) (by push_cast; rfl) z2 ?_
  walk_at "pv all"
  refine low_ok (k + 2) _ _ x2 z3.ok _ fun l2 s4 lo2 ln2 => ?_
  walk_at "pv all"
  rw [cutG_to, show (a : Int) + 2 = ((a + 2 : Nat) : Int) by omega, cutG_from, ← List.map_take, ← List.map_drop]
  refine wr_addL (by rw [List.length_map, List.length_map, List.length_take, List.length_drop]; omega) ?_
  rw [← List.map_append]
  have m1 : (nms.take a ++ nms.drop (a + 2)).length = many := by rw [List.length_append, List.length_take, List.length_drop]; omega
  have m3 : ∀ x ∈ nms.take a ++ nms.drop (a + 2), Wrd x := fun x hx => (List.mem_append.mp hx).elim (fun h => n3 x (List.mem_of_mem_take h)) (fun h => n3 x (List.mem_of_mem_drop h))
  generalize nms.take a ++ nms.drop (a + 2) = ns at m1 m3
  walk_at "pv all"
  rw [show St s4 :: tl ++ [Ob.lst []] ++ [Ob.lst []] = St s4 :: (tl ++ [Ob.lst [], .lst []]) from os_new (os := [Ob.lst []])]
  have hlix : ∀ (mh : List Ob) (R : Ix → Prop), R ⟨[l1, l2].map fun l => Val.d (lowd l), []⟩ → ∃ ix, ixOf mh (.d (.list [lowd l1, lowd l2])) = some ix ∧ R ix := fun mh R h => ix_L (xs := [l1, l2]) (em := lowd) h
  refine hlix _ _ ?_
  refine wc_map (r := fun l => Val.d (cad (lca l))) gnil (fun l hl => ?_) ?_
  · walk_at "pv all"
    rw [show (4 : Int) = ((4 : Nat) : Int) from rfl, cutG_to]
    exact ⟨rfl, rfl⟩
  refine wr_nl (ds := [lca l1, lca l2].map cad) rfl ?_
  walk_at "pv all"
  refine rg1 (n := many) rfl (by omega) ?_
  refine wl_invR (fun i e m' => ∃ (s' : Ds) (rows : List Rw) (vals : List (List (Str × Int))) (cs : List Ca) (a10 a11 a12 : Option Val), e = [some (.ref 0), some (.d (.int (many : Int))), some (.d (.int (mo : Int))), some (.d (.bool inn)), some (.d (strD ns)), some (.d (.int (a : Int))), some (.d (.list [lowd l1, lowd l2])), some (.ref (tl.length + 1)), some (.ref (tl.length + 2)), some (.d (.list (cs.map cad))), a10, a11, a12, none, none, none, none, none, none, none, none, none] ∧ m' = St s' :: (tl ++ [Ob.lst ((rows.map rowd).map Val.d), .lst ((vals.map (datK PyData.int)).map Val.d)]) ∧ rows.length = i ∧ PreOk ns l1 l2 rows vals cs)
    ⟨s4, [], [], [lca l1, lca l2], none, none, none, by rw [show (St s4 :: tl ++ [Ob.lst []]).length = tl.length + 2 by simp]; rfl, rfl, rfl, ⟨rfl, fun i r h => by simp at h, fun c hc => by
      rcases List.mem_cons.mp hc with rfl | hc
      · exact ⟨lca_ok lo1, .inl ⟨l1, by simp, rfl⟩⟩
      · rw [List.mem_singleton.mp hc]; exact ⟨lca_ok lo2, .inl ⟨l2, by simp, rfl⟩⟩, ⟨Nat.le_refl _, Nat.le_refl _⟩⟩⟩ (fun i e m' hi I => ?_) (fun e m' I => ?_)
  · obtain ⟨s', rows, vals, cs, a10, a11, a12, rfl, rfl, h1, po⟩ := I
    obtain ⟨x, g1, g2, g3⟩ := words_at (ws := ns) (i := i) (by omega) m3
    have hvl := po.len
    walk_at "pv all"
    refine ix_list rfl g2 ?_
    walk_at "pv all"
    have hp := proc_ok (k + 2) s' (tl ++ [Ob.lst ((rows.map rowd).map Val.d), .lst ((vals.map (datK PyData.int)).map Val.d)]) x g3.ok mo hmo
    refine hp _ fun r v s5 ro rn rx => ?_
    walk_at "pv all"
    refine ⟨rcv_lst (os_get (j := 0) (os := [Ob.lst ((rows.map rowd).map Val.d), .lst ((vals.map (datK PyData.int)).map Val.d)]) rfl), ?_⟩
    walk_at "pv all"
    refine app_end (os_get (j := 0) (os := [Ob.lst ((rows.map rowd).map Val.d), .lst ((vals.map (datK PyData.int)).map Val.d)]) rfl) (by rw [List.length_map, List.length_map]; omega) ?_
    rw [show (St s5 :: (tl ++ [Ob.lst ((rows.map rowd).map Val.d), .lst ((vals.map (datK PyData.int)).map Val.d)])).set (tl.length + 1) (.lst ((rows.map rowd).map Val.d ++ [.d (rowd r)])) = St s5 :: (tl ++ [Ob.lst ((rows.map rowd).map Val.d ++ [.d (rowd r)]), .lst ((vals.map (datK PyData.int)).map Val.d)]) from os_set (j := 0)]
    walk_at "pv all"
    refine ⟨rcv_lst (os_get (j := 1) (os := [Ob.lst ((rows.map rowd).map Val.d ++ [.d (rowd r)]), .lst ((vals.map (datK PyData.int)).map Val.d)]) rfl), ?_⟩
    walk_at "pv all"
    refine app_end (os_get (j := 1) (os := [Ob.lst ((rows.map rowd).map Val.d ++ [.d (rowd r)]), .lst ((vals.map (datK PyData.int)).map Val.d)]) rfl) (by rw [List.length_map, List.length_map]; omega) ?_
    rw [show (St s5 :: (tl ++ [Ob.lst ((rows.map rowd).map Val.d ++ [.d (rowd r)]), .lst ((vals.map (datK PyData.int)).map Val.d)])).set (tl.length + 2) (.lst ((vals.map (datK PyData.int)).map Val.d ++ [.d (datK .int v)])) = St s5 :: (tl ++ [Ob.lst ((rows.map rowd).map Val.d ++ [.d (rowd r)]), .lst ((vals.map (datK PyData.int)).map Val.d ++ [.d (datK .int v)])]) from os_set (j := 1)]
    walk_at "pv all"
    cases inn with
    | true =>
      walk_at "pv all"
      refine ix_tup (j := 1) rfl rfl ?_
      walk_at "pv all"
      refine ix_tup (j := 4) rfl rfl ?_
      walk_at "pv all"
      refine ix_tup (j := 1) rfl rfl ?_
      walk_at "pv all"
      refine ix_tup (j := 4) rfl rfl ?_
      walk_at "pv all"
      refine wr_addL (by rw [List.length_map]; have := po.cl.2; simp only [List.length_cons, List.length_nil]; omega) ?_
      walk_at "pv all"
      refine ⟨s5, rows ++ [r], vals ++ [v], cs ++ [⟨.ix i, r.ins, r.outs, v⟩, ⟨.ix i, r.ins, r.outs, v⟩], some (.d (.int (i : Int))), some (.d (rowd r)), some (.d (datK .int v)), ?_, ?_, by rw [List.length_append, h1]; rfl, ?_⟩
      · rw [List.map_append (f := cad)]; rfl
      · rw [List.map_append, List.map_append, List.map_append, List.map_append]; rfl
      · refine ⟨by rw [List.length_append, List.length_append, po.len]; rfl, fun j r' hj => ?_, fun c hc => ?_, ?_, ?_⟩
        · rcases get_snoc hj with hj | ⟨rfl, rfl⟩
          · obtain ⟨p1, v', p2, p3⟩ := po.row j r' hj
            exact ⟨p1, v', get_pre p2, p3⟩
          · exact ⟨rx, v, by rw [← po.len]; simp, ro⟩
        · rcases List.mem_append.mp hc with hc | hc
          · obtain ⟨p1, p2⟩ := po.ca c hc
            refine ⟨p1, p2.imp id ?_⟩
            rintro ⟨k', r', v', q1, q2, q3⟩
            exact ⟨k', r', v', get_pre q1, get_pre q2, q3⟩
          · have hce : c = ⟨.ix i, r.ins, r.outs, v⟩ := by simpa using hc
            rw [hce]
            exact ⟨rca_ok ro i, .inr ⟨i, r, v, by rw [← h1]; simp, by rw [← h1, ← po.len]; simp, rfl⟩⟩
        · rw [List.length_append]; have := po.cl.1; omega
        · rw [List.length_append, List.length_append]; have := po.cl.2; simp only [List.length_cons, List.length_nil]; omega
    | false =>
      walk_at "pv all"
      refine ⟨s5, rows ++ [r], vals ++ [v], cs, some (.d (.int (i : Int))), some (.d (rowd r)), some (.d (datK .int v)), rfl, ?_, by rw [List.length_append, h1]; rfl, ?_⟩
      · rw [List.map_append, List.map_append, List.map_append, List.map_append]; rfl
      · refine ⟨by rw [List.length_append, List.length_append, po.len]; rfl, fun j r' hj => ?_, fun c hc => ?_, ?_, ?_⟩
        · rcases get_snoc hj with hj | ⟨rfl, rfl⟩
          · obtain ⟨p1, v', p2, p3⟩ := po.row j r' hj
            exact ⟨p1, v', get_pre p2, p3⟩
          · exact ⟨rx, v, by rw [← po.len]; simp, ro⟩
        · obtain ⟨p1, p2⟩ := po.ca c hc
          refine ⟨p1, p2.imp id ?_⟩
          rintro ⟨k', r', v', q1, q2, q3⟩
          exact ⟨k', r', v', get_pre q1, get_pre q2, q3⟩
        · exact po.cl.1
        · rw [List.length_append]; have := po.cl.2; simp only [List.length_cons, List.length_nil]; omega
  obtain ⟨s', rows, vals, cs, a10, a11, a12, rfl, rfl, h1, po⟩ := I
  have hvl := po.len
  have hcl := po.cl
  refine thenS_nx ?_
  refine frz_lst rfl (os_get (j := 1) (os := [Ob.lst ((rows.map rowd).map Val.d), .lst ((vals.map (datK PyData.int)).map Val.d)]) rfl) ?_
  rw [show (St s' :: (tl ++ [Ob.lst ((rows.map rowd).map Val.d), .lst ((vals.map (datK PyData.int)).map Val.d)])).set (tl.length + 2) .dead = St s' :: (tl ++ [Ob.lst ((rows.map rowd).map Val.d), .dead]) from os_set (j := 1)]
  refine frz_lst rfl (os_get (j := 0) (os := [Ob.lst ((rows.map rowd).map Val.d), .dead]) rfl) ?_
  rw [show (St s' :: (tl ++ [Ob.lst ((rows.map rowd).map Val.d), .dead])).set (tl.length + 1) .dead = St s' :: (tl ++ [Ob.dead, .dead]) from os_set (j := 0)]
  walk_at "pv all"
  refine rg1 (n := many) rfl (by omega) ?_
  refine wl_invR (fun i e m' => ∃ (s' : Ds) (bs : List Bt) (a10 : Option Val), e = [some (.ref 0), some (.d (.int (many : Int))), some (.d (.int (mo : Int))), some (.d (.bool inn)), some (.d (strD ns)), some (.d (.int (a : Int))), some (.d (.list [lowd l1, lowd l2])), some (.d (.list (rows.map rowd))), some (.d (.list (vals.map (datK PyData.int)))), some (.d (.list (cs.map cad))), a10, a11, a12, some (.d (.list (bs.map btd))), none, none, none, none, none, none, none, none] ∧ m' = St s' :: (tl ++ [Ob.dead, .dead]) ∧ bs.length ≤ 40 * i ∧ ∀ b ∈ bs, ∃ (k : Nat) (r : Rw), rows[k]? = some r ∧ BtOk r cs k b) ⟨s', [], a10, rfl, rfl, Nat.le_refl _, fun _ h => nomatch h⟩ (fun i e m' hi I => ?_) (fun e m' I => ?_)
  · obtain ⟨s', bs, a10, rfl, rfl, g1, g2⟩ := I
    have hr : rows[i]? = some rows[i] := List.getElem?_eq_getElem (by omega)
    generalize rows[i] = r at hr
    obtain ⟨rx, v, hv, ro⟩ := po.row i r hr
    walk_at "pv all"
    refine ix_list rfl (show (rows.map rowd)[i]? = some (rowd r) by rw [List.getElem?_map, hr]; rfl) ?_
    walk_at "pv all"
    refine ix_list rfl (show (vals.map (datK PyData.int))[i]? = some (datK .int v) by rw [List.getElem?_map, hv]; rfl) ?_
    walk_at "pv all"
    have hp := proc_edges_ok k s' (tl ++ [Ob.dead, .dead]) r v ro i cs (fun c hc => (po.ca c hc).1) (by omega)
    refine hp _ fun b2 s6 b1 b3 => ?_
    walk_at "pv all"
    refine wr_addL (by rw [List.length_map, List.length_map]; omega) ?_
    rw [← List.map_append]
    walk_at "pv all"
    refine ⟨s6, bs ++ b2, _, rfl, rfl, by rw [List.length_append]; omega, fun b hb => ?_⟩
    rcases List.mem_append.mp hb with hb | hb
    · exact g2 b hb
    · exact ⟨i, r, hr, b3 b hb⟩
  obtain ⟨s6, bs, a10, rfl, rfl, g1, g2⟩ := I
  walk_at "pv all"
  refine ix_L ?_
  refine wc_map (r := fun b : Bt => Val.d (edd b.e)) gnil (fun b hb => ?_) ?_
  · walk_at "pv all"
    exact ⟨rfl, rfl⟩
  refine wr_nl (ds := bs.map fun b => edd b.e) (by rw [List.map_map]; rfl) ?_
  walk_at "pv all"
  refine rg1 (n := many) rfl (by omega) ?_
  refine wc_gen (α := Fa) factd (fun i f => ∀ r, rows[i]? = some r → FaOk r f) (fun i v s hv => ?_) fun fas s7 f1 f2 => ?_
  · obtain ⟨hi, rfl⟩ := rg_at hv
    have hr : rows[i]? = some rows[i] := List.getElem?_eq_getElem (by omega)
    generalize rows[i] = r at hr
    obtain ⟨rx, v, hv, ro⟩ := po.row i r hr
    walk_at "pv all"
    refine ix_list rfl (show (rows.map rowd)[i]? = some (rowd r) by rw [List.getElem?_map, hr]; rfl) ?_
    walk_at "pv all"
    refine ix_list rfl (show (vals.map (datK PyData.int))[i]? = some (datK .int v) by rw [List.getElem?_map, hv]; rfl) ?_
    walk_at "pv all"
    have hp := true_facts_ok (k + 2) s (tl ++ [Ob.dead, .dead]) r v ro
    refine hp _ fun f s8 hf => ?_
    exact ⟨f, _, rfl, rfl, fun r' hr' => by rw [hr] at hr'; cases hr'; exact hf⟩
  rw [rg_len] at f1
  refine wr_nl rfl ?_
  walk_at "pv all"
  have hlix2 : ∀ (mh : List Ob) (R : Ix → Prop), R ⟨[l1, l2].map fun l => Val.d (lowd l), []⟩ → ∃ ix, ixOf mh (.d (.list [lowd l1, lowd l2])) = some ix ∧ R ix := fun mh R h => ix_L (xs := [l1, l2]) (em := lowd) h
  refine hlix2 _ _ ?_
  refine wc_map (r := fun l => Val.d (faced l)) gnil (fun l hl => ?_) ?_
  · walk_at "pv all"
    refine ix_tup (j := 4) rfl rfl ?_
    exact ⟨rfl, rfl⟩
  refine wr_nl (ds := [l1, l2].map faced) rfl ?_
  have sy : SyOk ⟨rows, vals, bs, [l1, l2], fas, cs⟩ := by
    refine ⟨by show 1 ≤ rows.length ∧ rows.length ≤ 3; omega, po.row, by show fas.length = rows.length; omega, fun i r f hr hf => f2 i f hf r hr, fun l hl => ?_, po.ca, g2, by show bs.length ≤ 120; omega, rfl⟩
    have hl : l ∈ [l1, l2] := hl
    rcases List.mem_cons.mp hl with rfl | hl
    · exact ⟨lo1, by show List.find? _ [l, l2] = _; rw [List.find?_cons, decide_eq_true rfl]⟩
    · rw [List.mem_singleton.mp hl]
      refine ⟨lo2, ?_⟩
      show List.find? _ [l1, l2] = _
      have : decide (l1.nm = l2.nm) = false := decide_eq_false (by rw [ln1, ln2]; exact hne)
      rw [List.find?_cons, this, List.find?_cons, decide_eq_true rfl]
  walk_at "pv all"
  have hh := all_hyps_ok sy (k + 2) (St s7 :: (tl ++ [Ob.dead, .dead]))
  refine hh _ ?_
  walk_at "pv all"
  rw [show St s7 :: (tl ++ [Ob.dead, .dead]) ++ [Ob.lst []] = St s7 :: (tl ++ [Ob.dead, .dead, .lst []]) from os_new (os := [Ob.dead, .dead])]
  refine rg1 (n := bs.length) (by rw [List.length_map]) (by omega) ?_
  refine wl_invR (fun i e m' => ∃ (lv : List Dt) (a10 : Option Val), e = [some (.ref 0), some (.d (.int (many : Int))), some (.d (.int (mo : Int))), some (.d (.bool inn)), some (.d (strD ns)), some (.d (.int (a : Int))), some (.d (.list [lowd l1, lowd l2])), some (.d (.list (rows.map rowd))), some (.d (.list (vals.map (datK PyData.int)))), some (.d (.list (cs.map cad))), a10, a11, a12, some (.d (.list (bs.map btd))), some (.d (sysd ⟨rows, vals, bs, [l1, l2], fas, cs⟩)), some (.d (facd ⟨rows, vals, bs, [l1, l2], fas, cs⟩)), some (.d (lowrd ⟨rows, vals, bs, [l1, l2], fas, cs⟩)), some (.d (.list (bs.map fun b => fms (hypsF ⟨rows, vals, bs, [l1, l2], fas, cs⟩ b)))), some (.ref (tl.length + 3)), none, none, none] ∧ m' = St s7 :: (tl ++ [Ob.dead, .dead, .lst (lv.map Val.d)]) ∧ lv.length = i ∧ ∀ (j : Nat) b, j < i → bs[j]? = some b → ∃ x, lv[j]? = some (lifed b.sh x) ∧ Sz 700 8 x)
    ⟨[], a10, by rw [show (St s7 :: (tl ++ [Ob.dead, .dead])).length = tl.length + 3 by simp]; rfl, rfl, rfl, fun _ _ h => absurd h (Nat.not_lt_zero _)⟩ (fun i e m' hi I => ?_) (fun e m' I => ?_)
  · obtain ⟨lv, a10, rfl, rfl, k1, k2⟩ := I
    have hb : bs[i]? = some bs[i] := List.getElem?_eq_getElem hi
    generalize bs[i] = b at hb
    have hbt : (bs.map btd)[i]? = some (btd b) := by rw [List.getElem?_map, hb]; rfl
    walk_at "pv all"
    refine ⟨rcv_lst (os_get (j := 2) (os := [Ob.dead, .dead, .lst (lv.map Val.d)]) rfl), ?_⟩
    walk_at "pv all"
    refine ix_list rfl (show (bs.map fun b => fms (hypsF ⟨rows, vals, bs, [l1, l2], fas, cs⟩ b))[i]? = some (fms (hypsF ⟨rows, vals, bs, [l1, l2], fas, cs⟩ b)) by rw [List.getElem?_map, hb]; rfl) ?_
    walk_at "pv all"
    refine ix_list rfl hbt ?_
    walk_at "pv all"
    refine ix_tup (j := 1) rfl rfl ?_
    walk_at "pv all"
    refine ix_list rfl hbt ?_
    walk_at "pv all"
    refine ix_tup (j := 2) rfl rfl ?_
    walk_at "pv all"
    have hlf := life_ok sy (k + 5) (St s7 :: (tl ++ [Ob.dead, .dead, .lst (lv.map Val.d)])) i b hb
    refine hlf _ fun x hxz => ?_
    walk_at "pv all"
    refine app_end (os_get (j := 2) (os := [Ob.dead, .dead, .lst (lv.map Val.d)]) rfl) (by rw [List.length_map]; omega) ?_
    rw [show (St s7 :: (tl ++ [Ob.dead, .dead, .lst (lv.map Val.d)])).set (tl.length + 3) (.lst (lv.map Val.d ++ [.d (lifed b.sh x)])) = St s7 :: (tl ++ [Ob.dead, .dead, .lst (lv.map Val.d ++ [.d (lifed b.sh x)])]) from os_set (j := 2)]
    walk_at "pv all"
    refine ⟨lv ++ [lifed b.sh x], _, rfl, by rw [List.map_append]; rfl, by rw [List.length_append, k1]; rfl, fun j b' hj hb' => ?_⟩
    by_cases hji : j < i
    · obtain ⟨y, hy, hy2⟩ := k2 j b' hji hb'
      exact ⟨y, get_pre hy, hy2⟩
    · have : j = i := by omega
      subst this
      rw [hb] at hb'
      cases hb'
      exact ⟨x, by rw [← k1]; simp, hxz⟩
  obtain ⟨lv, a10, rfl, rfl, k1, k2⟩ := I
  refine thenS_nx ?_
  refine frz_lst rfl (os_get (j := 2) (os := [Ob.dead, .dead, .lst (lv.map Val.d)]) rfl) ?_
  rw [show (St s7 :: (tl ++ [Ob.dead, .dead, .lst (lv.map Val.d)])).set (tl.length + 3) .dead = St s7 :: (tl ++ [Ob.dead, .dead, .dead]) from os_set (j := 2)]
  walk_at "pv all"
  exact q ⟨rows, vals, bs, [l1, l2], fas, cs⟩ s7 lv sy ⟨k1, fun i b hb => k2 i b (List.getElem?_eq_some_iff.mp hb).1 hb⟩
end PvK

namespace PvK
open PySem PySem.Spec PyProof.Rows L2 Pv
/-! how large a system is -/
theorem sz_fm {ns : List Str} {F : Fm} {L : Nat} (h : Fo ns F) (hl : F.2.length ≤ L) (hn : ∀ x ∈ ns, SM x) : Sz (L * 13 + 2) 3 (fm F) := by
  have h1 : ∀ p ∈ F.2, Sz 12 1 (pd p) := fun p hp => sz_tup (sz_cons (sz_nm (hn _ (h.mem p hp).1)) (sz_cons (sz_int (h.mem p hp).2) sz_nil))
  exact (sz_tup (sz_cons (sz_int h.c) (sz_cons (sz_tup (sz_map hl h1)) sz_nil))).up (by omega) (Nat.le_refl _)
theorem sz_fm3 {ns : List Str} {F : Fm} (h : Fo ns F) (hn : ∀ x ∈ ns, SM x) : Sz 41 3 (fm F) := sz_fm h h.len hn
theorem sz_fms {ns : List Str} {fs : List Fm} {L : Nat} (hl : fs.length ≤ L) (h : ∀ F ∈ fs, Fo ns F) (hn : ∀ x ∈ ns, SM x) : Sz (L * 42) 4 (fms fs) :=
  sz_tup (sz_map hl fun F hF => sz_fm3 (h F hF) hn)
theorem sz_strs {xs : List Str} {L m : Nat} (hl : xs.length ≤ L) (h : ∀ x ∈ xs, SM x) : Sz (L * 11) (m + 1) (strT xs) := sz_tup (sz_map hl fun x hx => sz_nm (h x hx))
theorem sz_nat {m n : Nat} (h : n < 2 ^ 200) : Sz 0 m (.int (n : Int)) := sz_int (by rw [Int.natAbs_natCast]; exact h)
theorem sz_natS {m n : Nat} (h : n < 1000) : Sz 0 m (.int (n : Int)) := sz_nat (Nat.lt_trans h (by decide))
theorem sm_of (s : String) (h : (PyData.strOk (Str.ofString s) && decide ((Str.ofString s).length ≤ 10)) = true) : SM (Str.ofString s) := by
  rw [Bool.and_eq_true, decide_eq_true_eq] at h
  exact h
theorem sz_row {r : Rw} {t : List (Str × Int)} (ok : RwOk r t) (rx : Rx r) : Sz 700 8 (rowd r) := by
  have si : ∀ x ∈ r.ins, SM x := fun x hx => ok.so x (List.mem_append_left _ (List.mem_append_left _ hx))
  have ss : ∀ x ∈ r.sts, SM x := fun x hx => ok.so x (List.mem_append_left _ (List.mem_append_right _ hx))
  have so : ∀ x ∈ r.outs, SM x := fun x hx => ok.so x (List.mem_append_right _ hx)
  have sis : ∀ x ∈ r.ins ++ r.sts, SM x := fun x hx => ok.so x (List.mem_append_left _ hx)
  have hnp := ok.np.2
  have hne : ∀ n ∈ r.nests, Sz 8 1 (nestd n) := fun n hn => (sz_tup (sz_map (n := 0) (L := 8) (by have := (rx.nst n hn).1; omega) fun i hi => sz_natS (by have := (rx.nst n hn).2 i hi; omega))).up (by decide) (Nat.le_refl _)
  exact (sz_tup (m := 7) (sz_cons (sz_nm rx.nmo) (sz_cons ((sz_strs (m := 0) ok.il si).up (Nat.le_refl _) (by decide)) (sz_cons ((sz_strs (m := 0) ok.sl ss).up (Nat.le_refl _) (by decide)) (sz_cons ((sz_tup (sz_map hnp hne)).up (Nat.le_refl _) (by decide)) (sz_cons ((sz_strs (m := 0) ok.ol so).up (Nat.le_refl _) (by decide)) (sz_cons ((sz_fms ok.need.1 ok.need.2 si).up (Nat.le_refl _) (by decide)) (sz_cons ((sz_fms ok.fir.1 ok.fir.2 si).up (Nat.le_refl _) (by decide)) (sz_cons ((sz_fms ok.gr.1 ok.gr.2 sis).up (Nat.le_refl _) (by decide)) sz_nil))))))))).up (by decide) (by decide)
theorem sz_cal {c : Ca} (ok : CaOk c) (hn : ∀ n, c.id = .ix n → n < 3) {m : Nat} : Sz 10 m (cald c.id) := by
  cases e : c.id with
  | nm x => exact sz_nm (ok.ido x e)
  | ix n => exact (sz_nat (Nat.lt_trans (hn n e) (by decide))).up (Nat.zero_le _) (Nat.le_refl _)
theorem sz_args {c : Ca} (ok : CaOk c) {ns : List Str} {as : List (Str × Fm)} (h : ArOk c ns as) (hn : ∀ x ∈ ns, SM x) : Sz 328 5 (.tuple (as.map argd)) := by
  have hl : as.length ≤ 8 := by have := congrArg List.length h.nms; rw [List.length_map] at this; have := ok.il; omega
  refine (sz_tup (m := 4) (sz_map (n := 40) hl fun p hp => ?_)).up (by decide) (by decide)
  have hp1 : p.1 ∈ c.ins := by rw [← h.nms]; exact List.mem_map.mpr ⟨p, hp, rfl⟩
  exact (sz_tup (sz_cons (sz_nm (ok.so _ (List.mem_append_left _ hp1))) (sz_cons (sz_fm (h.fo p hp).1 (h.fo p hp).2 hn) sz_nil))).up (by decide) (by decide)
theorem sz_ed {S : Sy} (ok : SyOk S) {b : Bt} (hb : b ∈ S.bts) : Sz 1120 8 (edd b.e) := by
  obtain ⟨k, r, hr, bo⟩ := ok.bt b hb
  obtain ⟨rx, v, hv, ro⟩ := ok.row k r hr
  have hk : k < 3 := by have := (List.getElem?_eq_some_iff.mp hr).1; have := ok.many.2; omega
  have hcal : ∀ c ∈ S.cs, CaOk c ∧ ∀ n, c.id = .ix n → n < 3 := fun c hc => by
    obtain ⟨h1, h2⟩ := ok.ca c hc
    refine ⟨h1, fun n e => ?_⟩
    rcases h2 with ⟨l, _, rfl⟩ | ⟨j, r', v', h3, _, rfl⟩
    · cases e
    · cases e
      have := (List.getElem?_eq_some_iff.mp h3).1; have := ok.many.2; omega
  have so := bo.so
  have ed := bo.ed
  have h200 : (200 : Nat) < 2 ^ 200 := by decide
  have hnp := ro.np.2
  generalize b.ns = ns at so ed
  generalize b.sh = sh at ed
  cases hbe : b.e with
  | call p pt hs id as =>
    rw [hbe] at ed
    obtain ⟨rfl, h2, h3, h4, h5, c, hc, rfl, ha⟩ := ed
    obtain ⟨c1, c2⟩ := hcal c hc
    exact (sz_tup (m := 7) (sz_cons (sz_nm (sm_of "call" (by decide +kernel))) (sz_cons (sz_natS (by omega)) (sz_cons (sz_natS (by omega)) (sz_cons (show Sz 0 7 (.int ((pt : Int) + 1)) from sz_natS (n := pt + 1) (by omega)) (sz_cons (sz_nat (n := 1) (by decide)) (sz_cons ((sz_fms h5.1 h5.2.2 so).up (Nat.le_refl _) (by decide)) (sz_cons (sz_cal c1 c2) (sz_cons ((sz_args c1 ha so).up (Nat.le_refl _) (by decide)) sz_nil))))))))).up (by decide) (by decide)
  | step p pt tg wt hs ef af =>
    rw [hbe] at ed
    obtain ⟨rfl, h2, h3, h4, h5, h6, h7, h8⟩ := ed
    have htg : tg.natAbs < 2 ^ 200 := by
      rcases h3 with ⟨rfl, _⟩ | ⟨j, rfl, _, h, _⟩
      · decide
      · rw [Int.natAbs_natCast]; omega
    have hel : ef.length ≤ 12 := by
      have := ro.sl
      have := ro.ol
      rcases h3 with ⟨_, h⟩ | ⟨_, _, _, _, h⟩ <;> omega
    have hef : Sz 348 4 (fms ef) := (sz_tup (sz_map hel fun F hF => sz_fm (h7 F hF).1 (h7 F hF).2 so)).up (by decide) (by decide)
    have haf : Sz 571 6 (aftd af) := by
      cases af with
      | none => exact (sz_tup (m := 0) sz_nil).up (by decide) (by decide)
      | some a =>
        obtain ⟨_, c, hc, i1, i2, i3, i4⟩ := h8
        obtain ⟨c1, c2⟩ := hcal c hc
        obtain ⟨id, as, os⟩ := a
        have i1 : id = c.id := i1
        subst i1
        have hol : os.length ≤ 10 := by
          have := congrArg List.length (show os.map (fun p => p.1) = c.outs from i3)
          rw [List.length_map] at this
          have := c1.ol
          omega
        have hos : ∀ p ∈ os, Sz 22 1 (outd p) := fun p hp => sz_tup (sz_cons (sz_nm (c1.so _ (List.mem_append_right _ (by rw [← (show os.map (fun p => p.1) = c.outs from i3)]; exact List.mem_map.mpr ⟨p, hp, rfl⟩)))) (sz_cons (sz_nm (so _ (i4 p hp))) sz_nil))
        exact (sz_tup (m := 5) (sz_cons (sz_cal c1 c2) (sz_cons (sz_args c1 i2 so) (sz_cons ((sz_tup (sz_map hol hos)).up (Nat.le_refl _) (by decide)) sz_nil)))).up (by decide) (by decide)
    exact (sz_tup (m := 7) (sz_cons (sz_nm (sm_of "step" (by decide +kernel))) (sz_cons (sz_natS (by omega)) (sz_cons (sz_natS (by omega)) (sz_cons (sz_int htg) (sz_cons (sz_natS (by omega)) (sz_cons ((sz_fms h6.1 h6.2.2 so).up (Nat.le_refl _) (by decide)) (sz_cons (hef.up (Nat.le_refl _) (by decide)) (sz_cons (haf.up (Nat.le_refl _) (by decide)) sz_nil))))))))).up (by decide) (by decide)
theorem sz_sys {S : Sy} (ok : SyOk S) : Sz 136630 10 (sysd S) := by
  have h1 : ∀ r ∈ S.rows, Sz 700 8 (rowd r) := fun r hr => by
    obtain ⟨i, hi⟩ := List.mem_iff_getElem?.mp hr
    obtain ⟨rx, v, _, ro⟩ := ok.row i r hi
    exact sz_row ro rx
  exact (sz_tup (m := 9) (sz_cons (sz_tup (sz_map ok.many.2 h1)) (sz_cons (sz_tup (sz_map ok.btl fun b hb => sz_ed ok hb)) sz_nil))).up (by decide) (by decide)
theorem sz_fac {S : Sy} (ok : SyOk S) : Sz 2400 10 (facd S) := by
  refine (sz_tup (m := 8) (sz_map (n := 766) (L := 3) (by rw [ok.fal]; exact ok.many.2) fun f hf => ?_)).up (by decide) (by decide)
  obtain ⟨i, hi⟩ := List.mem_iff_getElem?.mp hf
  have hil : i < S.rows.length := by rw [← ok.fal]; exact (List.getElem?_eq_some_iff.mp hi).1
  have hr : S.rows[i]? = some S.rows[i] := List.getElem?_eq_getElem hil
  obtain ⟨rx, v, _, ro⟩ := ok.row i _ hr
  have fo := ok.fa i _ f hr hi
  generalize S.rows[i] = r at hr rx ro fo
  have sis : ∀ x ∈ r.ins ++ r.sts, SM x := fun x hx => ro.so x (List.mem_append_left _ hx)
  have sio : ∀ x ∈ r.ins ++ r.outs, SM x := fun x hx => ro.so x ((List.mem_append.mp hx).elim (fun h => List.mem_append_left _ (List.mem_append_left _ h)) fun h => List.mem_append_right _ h)
  exact (sz_tup (m := 7) (sz_cons (sz_tup (m := 6) (sz_map (n := 84) (L := 8) (by rw [fo.pl]; exact ro.np.2) fun fs hfs => (sz_fms (fo.pt fs hfs).1 (fo.pt fs hfs).2 sis).up (by decide) (by decide))) (sz_cons ((sz_fms fo.po.1 fo.po.2 sio).up (Nat.le_refl _) (by decide)) sz_nil))).up (by decide) (by decide)
theorem sz_low {S : Sy} (ok : SyOk S) : Sz 400 10 (lowrd S) := by
  refine (sz_tup (m := 8) (sz_map (n := 182) (Nat.le_of_eq ok.lwl) fun l hl => ?_)).up (by decide) (by decide)
  obtain ⟨lo, _⟩ := ok.lw l hl
  have si : ∀ x ∈ l.ins, SM x := fun x hx => lo.so x (List.mem_append_left _ hx)
  exact (sz_tup (m := 7) (sz_cons (sz_nm lo.nmo) (sz_cons (sz_natS (by have := lo.wl; omega)) (sz_cons ((sz_fms lo.need.1 lo.need.2 si).up (Nat.le_refl _) (by decide)) (sz_cons ((sz_fms lo.post.1 lo.post.2 lo.so).up (Nat.le_refl _) (by decide)) sz_nil))))).up (by decide) (by decide)
theorem sz_lives {S : Sy} (ok : SyOk S) {lv : List Dt} (h : LvOk S lv) : Sz 85320 10 (.tuple lv) := by
  have h1 : ∀ d ∈ lv, Sz 710 9 d := fun d hd => by
    obtain ⟨i, hi⟩ := List.mem_iff_getElem?.mp hd
    have hil : i < S.bts.length := by rw [← h.1]; exact (List.getElem?_eq_some_iff.mp hi).1
    obtain ⟨x, hx, hz⟩ := h.2 i _ (List.getElem?_eq_getElem hil)
    rw [hx] at hi
    cases hi
    have hs : Sz 7 8 (.str (if (S.bts[i]).sh = 0 then "alive" else "shut")) := by
      split
      · exact sz_str (show PyData.strOk (Str.ofString "alive") = true by decide +kernel) (show (Str.ofString "alive").length ≤ 7 by decide +kernel)
      · exact sz_str (show PyData.strOk (Str.ofString "shut") = true by decide +kernel) (show (Str.ofString "shut").length ≤ 7 by decide +kernel)
    exact (sz_tup (m := 8) (sz_cons hs (sz_cons hz sz_nil))).up (by decide) (by decide)
  exact (sz_tup (sz_all h1)).up (by rw [h.1]; have := ok.btl; omega) (by decide)
end PvK

namespace PvK
open PySem PySem.Spec PyProof.Rows L2 Pv
/-! forms of the program -/
theorem pform_ok (b : Bool) (k : Nat) (mh : List Ob) (c : Int) (ps : List (Str × Int)) (hp : ps.length < 100000) (hn : (accF ps).length < 64) (Q : Val → List Ob → Prop)
    (q : Q (.d (fm (nf c ps))) mh) : W (callP P gl (k + 1) 0 [.d (.int c), .d (sqd b (ps.map pd))]) mh Q := by
  refine w_pure (nm := f0.name) (ps := f0.ps) (N := f0.N) (body := f0.body) (env := [some (.d (.int c)), some (.d (sqd b (ps.map pd))), none, none, none]) rfl rfl ?_
  unfold f0
  walk_at "pv all"
  have hix : ∀ (mh : List Ob) (R : Ix → Prop), R ⟨ps.map fun x => Val.d (pd x), []⟩ → ∃ ix, ixOf mh (.d (sqd b (ps.map pd))) = some ix ∧ R ix := fun mh R h => by
    cases b
    · exact ix_T h
    · exact ix_L h
  refine hix _ _ ?_
  refine wl_invL (fun i e m => ∃ (a1 a2 : Option Val), e = [some (.d (.int c)), some (.d (sqd b (ps.map pd))), some (.ref mh.length), a1, a2] ∧ m = mh ++ [.dct (mapK .int (accF (ps.take i)))]) ⟨none, none, rfl, rfl⟩ (fun i p e m hp' I => ?_) (fun e m I => ?_)
  · obtain ⟨a1, a2, rfl, rfl⟩ := I
    have hi : i < ps.length := (List.getElem?_eq_some_iff.mp hp').1
    have hsz : (accF (ps.take i)).length < sizeLine := by have := acc_len (ps.take i); rw [List.length_take] at this; have h2 : sizeLine = 16777216 := rfl; omega
    walk_at "pv all"
    refine ⟨rcv_dct end_get, ?_⟩
    walk_at "pv all"
    refine get_t (dct_cell end_get) ?_
    have e1 : ((lkS (accF (ps.take i)) p.1).map PyData.int).getD (.int 0) = .int ((lkS (accF (ps.take i)) p.1).getD 0) := by cases lkS (accF (ps.take i)) p.1 <;> rfl
    rw [e1]
    walk_at "pv all"
    refine put_c end_get hsz ?_
    walk_at "pv all"
    rw [end_set]
    refine ⟨_, _, rfl, ?_⟩
    rw [List.take_add_one, hp']
    show _ = mh ++ [Ob.dct (mapK .int (accF (ps.take i ++ [p])))]
    rw [accF_snoc]
  · obtain ⟨a1, a2, rfl, rfl⟩ := I
    rw [List.take_length]
    refine thenS_nx ?_
    refine frz_dct rfl end_get (asDKs_mapK _ _) ?_
    rw [end_set]
    show WS _ _ _ [some (.d (.int c)), some (.d (sqd b (ps.map pd))), some (.d (datK .int (accF ps))), a1, a2] _ _
    walk_at "pv all"
    refine wr_sortD hn ?_
    refine ix_L ?_
    refine wc_filter (p := fun x => !decide (cf ps x = 0)) (r := fun x => .d (pd (x, cf ps x))) gnil (fun x hx => ?_) ?_
    · have hx2 : x ∈ (accF ps).map (·.1) := (sortS_perm _).mem_iff.mp hx
      obtain ⟨v, hv⟩ := lkS_of_mem hx2
      have hv2 : v = cf ps x := by rw [← acc_cf, hv]; rfl
      subst hv2
      walk_at "pv all"
      refine ix_t dct_dat hv ?_
      walk_at "pv all"
      refine ⟨!decide (cf ps x = 0), rfl, rfl, rfl, fun _ => ?_⟩
      walk_at "pv all"
      refine ix_t dct_dat hv ?_
      walk_at "pv all"
      exact ⟨rfl, rfl⟩
    · refine wr_nl (ds := (nfP ps).map pd) (by unfold nfP; rw [List.map_map, List.map_map]; rfl) ?_
      walk_at "pv all"
      exact q
theorem pvar_ok (k : Nat) (mh : List Ob) (x : Str) (Q : Val → List Ob → Prop) (q : Q (.d (fm (varF x))) mh) : W (callP P gl (k + 1) 1 [.d (.str x)]) mh Q := by
  refine w_pure (nm := f1.name) (ps := f1.ps) (N := f1.N) (body := f1.body) (env := [some (.d (.str x))]) rfl rfl ?_
  unfold f1
  walk_at "pv all"
  exact q
def plusF (f g : Fm) : Fm := if g.2 = [] then (f.1 + g.1, f.2) else nf (f.1 + g.1) (f.2 ++ g.2)
def timesF (k : Int) (f : Fm) : Fm := if k = 0 then (0, []) else (k * f.1, f.2.map fun p => (p.1, k * p.2))
def minusF (f g : Fm) : Fm := plusF f (timesF (-1) g)
end PvK

namespace PvK
open PySem PySem.Spec PyProof.Rows L2 Pv
/-! images -/
theorem merge_tab {α : Type} {em : α → Dt} : ∀ (ps m : List (Str × α)), mergeV (mapK em m) (mapK em ps) = mapK em (ps.foldl (fun m p => putS m p.1 p.2) m)
  | [], m => rfl
  | p :: ps, m => by
    show mergeV (putV (mapK em m) (.inr p.1) (.d (em p.2))) (mapK em ps) = _
    rw [put_mapK]
    exact merge_tab ps _
theorem wr_dcS {α : Type} {em : α → Dt} {mh : List Ob} {Q : Val → List Ob → Prop} {ps : List (Str × α)} {ys : List (Key × Val)} (e : ys = mapK em ps) (q : Q (.d (datK em (tabS ps))) mh) : WR false (some (.nd (mergeV [] ys))) mh Q := by
  subst e
  have h : mergeV [] (mapK em ps) = mapK em (tabS ps) := merge_tab ps []
  rw [h]
  exact wr_nd rfl (asDKs_mapK em _) q
theorem ext_end {xs ys : List Dt} {n : Nat} {mh : List Ob} {Q : Val → List Ob → Prop} (h : mh[n]? = some (.lst (xs.map Val.d))) (hl : xs.length + ys.length ≤ sizeLine) (q : Q (.d .none) (mh.set n (.lst ((xs ++ ys).map Val.d)))) : W (Mt.f .extend (.ref n) [.d (.list ys)]) mh Q := by
  refine ⟨.d .none, _, ?_, q⟩
  show extVl (.ref n) [.d (.list ys)] mh = _
  have h1 : seqA mh (.d (.list ys)) = some (ys.map Val.d) := rfl
  unfold extVl
  simp only [h, h1]
  rw [List.length_map, List.length_map, if_pos hl, List.map_append]
theorem image_ok (b : Bool) (k : Nat) (mh : List Ob) (F : Fm) (ps : List (Str × Fm)) (hm : ∀ p ∈ pts (tabS ps) F, MOk p) (hla : (accF (prs (pts (tabS ps) F))).length < 64) (hl : (prs (pts (tabS ps) F)).length < 10000) (hF : F.2.length < 64) (hp : ps.length < 100) (Q : Val → List Ob → Prop)
    (q : Q (.d (fm (putF (tabS ps) F))) mh) : W (callP P gl (k + 2) 3 [.d (fm F), .d (sqd b (ps.map argd))]) mh Q := by
  refine w_pure (nm := f3.name) (ps := f3.ps) (N := f3.N) (body := f3.body) (env := [some (.d (fm F)), some (.d (sqd b (ps.map argd))), none, none, none, none, none, none, none, none]) rfl rfl ?_
  unfold f3
  have hsl : sizeLine = 16777216 := rfl
  walk_at "pv all"
  refine ixo_S ?_
  refine wc_map (r := fun p => (Sum.inr p.1, Val.d (fm p.2))) gnil (fun p hp => ?_) ?_
  · walk_at "pv all"
    exact ⟨_, rfl, rfl, rfl⟩
  refine wr_dcS (em := fm) (ps := ps) rfl ?_
  generalize tabS ps = m at *
  walk_at "pv all"
  refine ix_tup (j := 0) rfl rfl ?_
  walk_at "pv all"
  refine ix_tup (j := 1) rfl rfl ?_
  refine ix_T ?_
  have e0 : ∀ i, i ≤ F.2.length → (pts m F).take (i + 1) = (1, (F.1, [])) :: (F.2.take i).map fun p => (p.2, (lkS m p.1).getD (varF p.1)) := fun i _ => by unfold pts; rw [List.take_succ_cons, List.map_take]
  refine wl_invL (fun i e m' => ∃ (a5 a6 a7 : Option Val), e = [some (.d (fm F)), some (.d (sqd b (ps.map argd))), some (.d (datK fm m)), some (.d (.int (csum ((pts m F).take (i + 1))))), some (.ref mh.length), a5, a6, a7, none, none] ∧ m' = mh ++ [.lst (((prs ((pts m F).take (i + 1))).map pd).map Val.d)]) ⟨none, none, none, by rw [show csum ((pts m F).take (0 + 1)) = F.1 from by simp [pts, csum]]; rfl, by rw [show prs ((pts m F).take (0 + 1)) = [] from by simp [pts, prs]]; rfl⟩ (fun i p e m' hp I => ?_) (fun e m' I => ?_)
  · obtain ⟨a5, a6, a7, rfl, rfl⟩ := I
    have hi : i < F.2.length := (List.getElem?_eq_some_iff.mp hp).1
    have e2 : (pts m F)[i + 1]? = some (p.2, (lkS m p.1).getD (varF p.1)) := by
      show (F.2.map fun p => (p.2, (lkS m p.1).getD (varF p.1)))[i]? = _
      rw [List.getElem?_map, hp]; rfl
    have mo := hm _ (List.mem_of_getElem? e2)
    have e3 : (pts m F).take (i + 1 + 1) = (pts m F).take (i + 1) ++ [(p.2, (lkS m p.1).getD (varF p.1))] := by rw [List.take_add_one (i := i + 1), e2]; rfl
    have hlen : (prs ((pts m F).take (i + 1 + 1))).length ≤ (prs (pts m F)).length := by
      have : prs (pts m F) = prs ((pts m F).take (i + 1 + 1)) ++ prs ((pts m F).drop (i + 1 + 1)) := by
        unfold prs
        rw [← List.flatMap_append, List.take_append_drop]
      rw [this, List.length_append]; omega
    rw [e3, prs_snoc, List.length_append, List.length_map] at hlen
    walk_at "pv all"
    refine in_t dct_dat (fun h => ?_) (fun h => ?_)
    · obtain ⟨G, hG⟩ := lkS_of_mem h
      rw [hG] at mo e3 hlen
      have mo : MOk (p.2, G) := mo
      have e3 : (pts m F).take (i + 1 + 1) = (pts m F).take (i + 1) ++ [(p.2, G)] := e3
      have hlen : (prs ((pts m F).take (i + 1))).length + G.2.length ≤ (prs (pts m F)).length := hlen
      walk_at "pv all"
      refine ix_t dct_dat hG ?_
      walk_at "pv all"
      refine ix_tup (j := 0) rfl rfl ?_
      refine wr_mul mo.1 ?_
      walk_at "pv all"
      refine ⟨rcv_lst end_get, ?_⟩
      walk_at "pv all"
      refine ix_tup (j := 1) rfl rfl ?_
      refine ix_T ?_
      refine wc_map (r := fun x => Val.d (pd (x.1, p.2 * x.2))) gnil (fun x hx => ?_) ?_
      · walk_at "pv all"
        refine wr_mul (mo.2 x hx) ?_
        walk_at "pv all"
        exact ⟨rfl, rfl⟩
      refine wr_nl (ds := (G.2.map fun x => (x.1, p.2 * x.2)).map pd) (by rw [List.map_map, List.map_map]; rfl) ?_
      walk_at "pv all"
      refine ext_end end_get (by rw [List.length_map, List.length_map, List.length_map]; omega) ?_
      walk_at "pv all"
      rw [end_set]
      exact ⟨_, _, _, by rw [e3, csum_snoc]; rfl, by rw [e3, prs_snoc, List.map_append (f := pd)]⟩
    · have hn : lkS m p.1 = none := lkS_none h
      rw [hn] at mo e3 hlen
      have e3 : (pts m F).take (i + 1 + 1) = (pts m F).take (i + 1) ++ [(p.2, varF p.1)] := e3
      walk_at "pv all"
      refine ⟨rcv_lst end_get, ?_⟩
      walk_at "pv all"
      refine app_end end_get (by rw [List.length_map, List.length_map]; omega) ?_
      walk_at "pv all"
      rw [end_set]
      refine ⟨_, _, _, by rw [e3, csum_snoc, show p.2 * (varF p.1).1 = 0 from Int.mul_zero _, Int.add_zero]; rfl, ?_⟩
      rw [e3, prs_snoc, List.map_append, List.map_append]
      show _ = mh ++ [Ob.lst (_ ++ [Val.d (pd (p.1, p.2 * 1))])]
      rw [Int.mul_one]
  · obtain ⟨a5, a6, a7, rfl, rfl⟩ := I
    have e3 : (pts m F).length = F.2.length + 1 := by unfold pts; rw [List.length_cons, List.length_map]
    rw [← e3, List.take_length]
    refine thenS_nx ?_
    refine frz_lst rfl end_get ?_
    rw [end_set]
    walk_at "pv all"
    refine pform_ok true k _ _ _ (by omega) hla _ ?_
    walk_at "pv all"
    exact q
end PvK

namespace PvK
open PySem PySem.Spec PyProof.Rows L2 Pv
/-! the program's hypotheses at an edge -/
theorem seq_fms {mh : List Ob} {fs : List Fm} : seqA mh (.d (fms fs)) = some ((fs.map fm).map Val.d) := rfl
theorem ext_fms {fs gs : List Fm} {n : Nat} {mh : List Ob} {Q : Val → List Ob → Prop} (h : mh[n]? = some (.lst ((fs.map fm).map Val.d))) (hl : fs.length + gs.length ≤ sizeLine) (q : Q (.d .none) (mh.set n (.lst (((fs ++ gs).map fm).map Val.d)))) : W (Mt.f .extend (.ref n) [.d (fms gs)]) mh Q := by
  refine ⟨.d .none, _, ?_, q⟩
  show extVl (.ref n) [.d (fms gs)] mh = _
  unfold extVl
  simp only [h, seq_fms]
  rw [List.length_map, List.length_map, List.length_map, List.length_map, if_pos hl, List.map_append, List.map_append]
theorem pface_ok (k : Nat) (mh : List Ob) {S : Sy} {x : Str} {l : Lw} (hf : S.lws.find? (fun y => decide (y.nm = x)) = some l) (Q : Val → List Ob → Prop) (q : Q (.d (faced l)) mh) : W (callP P gl (k + 1) 4 [.d (lowrd S), .d (.str x)]) mh Q := by
  refine w_pure (nm := f4.name) (ps := f4.ps) (N := f4.N) (body := f4.body) (env := [some (.d (lowrd S)), some (.d (.str x)), none]) rfl rfl ?_
  unfold f4
  walk_at "pv all"
  refine ix_T ?_
  refine wc_filter (p := fun y : Lw => decide (y.nm = x)) (r := fun y => Val.d (faced y)) gnil (fun y hy => ?_) ?_
  · walk_at "pv all"
    refine ix_tup (j := 0) rfl rfl ?_
    walk_at "pv all"
    refine cs_eq (fun h => ?_) (fun h => ?_)
    · refine ⟨(decide_eq_true h).symm, rfl, fun _ => ?_⟩
      walk_at "pv all"
      exact ⟨rfl, rfl⟩
    · exact ⟨(decide_eq_false h).symm, rfl, fun z => by cases z⟩
  refine wr_nl (ds := (S.lws.filter fun y : Lw => decide (y.nm = x)).map faced) (by rw [List.map_map]; rfl) ?_
  walk_at "pv all"
  refine list_ix0 (em := faced) (a := l) (by rw [List.head?_filter]; exact hf) ?_
  walk_at "pv all"
  exact q
section
variable {S : Sy}
theorem pposts_ok (ok : SyOk S) (k : Nat) (mh : List Ob) {c : Ca} (hc : c ∈ S.cs) (Q : Val → List Ob → Prop) (q : Q (.d (fms (postsOf S c.id))) mh) : W (callP P gl (k + 2) 5 [.d (lowrd S), .d (facd S), .d (cald c.id)]) mh Q := by
  refine w_pure (nm := f5.name) (ps := f5.ps) (N := f5.N) (body := f5.body) (env := [some (.d (lowrd S)), some (.d (facd S)), some (.d (cald c.id))]) rfl rfl ?_
  unfold f5
  walk_at "pv all"
  obtain ⟨_, cal⟩ := ok.ca c hc
  rcases cal with ⟨l, hl, rfl⟩ | ⟨n, r, v, h1, h2, rfl⟩
  · have hfind := (ok.lw l hl).2
    have hpost : postsOf S (lca l).id = l.posts := by
      show ((S.lws.find? fun x => decide (x.nm = l.nm)).map (·.posts)).getD [] = _
      rw [hfind]; rfl
    rw [hpost] at q
    refine isi_str ?_
    walk_at "pv all"
    refine pface_ok _ _ hfind _ ?_
    walk_at "pv all"
    refine ix_tup (j := 3) rfl rfl ?_
    walk_at "pv all"
    exact q
  · have hk2 : n < S.fas.length := by rw [ok.fal]; exact (List.getElem?_eq_some_iff.mp h1).1
    have hf2 : S.fas[n]? = some S.fas[n] := List.getElem?_eq_getElem hk2
    generalize S.fas[n] = f2 at hf2
    have hpost : postsOf S (.ix n) = f2.2 := by
      show ((S.fas[n]?).map (·.2)).getD [] = _
      rw [hf2]; rfl
    have q : Q (.d (fms (postsOf S (.ix n)))) mh := q
    rw [hpost] at q
    refine isi_int ?_
    walk_at "pv all"
    refine ix_tup rfl (fa_ix hf2) ?_
    walk_at "pv all"
    refine ix_tup (j := 1) rfl rfl ?_
    walk_at "pv all"
    exact q
end
end PvK

namespace PvK
open PySem PySem.Spec PyProof.Rows L2 Pv
section
variable {S : Sy}
theorem phyps_ok (ok : SyOk S) (k : Nat) (mh : List Ob) (i : Nat) (b : Bt) (hb : S.bts[i]? = some b) (Q : Val → List Ob → Prop) (q : Q (.d (fms (hypsF S b))) mh) :
    W (callP P gl (k + 3) 6 [.d (sysd S), .d (lowrd S), .d (facd S), .d (.int (i : Int))]) mh Q := by
  refine w_pure (nm := f6.name) (ps := f6.ps) (N := f6.N) (body := f6.body) (env := [some (.d (sysd S)), some (.d (lowrd S)), some (.d (facd S)), some (.d (.int (i : Int))), none, none, none, none, none, none, none, none, none, none]) rfl rfl ?_
  have hsl : sizeLine = 16777216 := rfl
  obtain ⟨kk, r, hr, bo⟩ := ok.bt b (List.mem_of_getElem? hb)
  obtain ⟨e1, e2, e3, e4⟩ := bo.ed.pr
  obtain ⟨_, v, hv, ro⟩ := ok.row kk r hr
  obtain ⟨x3, x4, x6, x7, ef, ex⟩ := edd_form b.e
  have hk : kk < S.fas.length := by rw [ok.fal]; exact (List.getElem?_eq_some_iff.mp hr).1
  have hf : S.fas[kk]? = some S.fas[kk] := List.getElem?_eq_getElem hk
  have fo := ok.fa kk r _ hr hf
  generalize S.fas[kk] = f at hf fo
  have hbi := bt_ix hb
  rw [ef] at hbi
  have hri := row_ix hr
  have hfi := fa_ix hf
  rw [← e1] at hri hfi
  unfold f6
  walk_at "pv all"
  refine ix_tup (j := 1) rfl rfl ?_
  walk_at "pv all"
  refine ix_tup rfl hbi ?_
  walk_at "pv all"
  refine ix_tup (j := 0) rfl rfl ?_
  walk_at "pv all"
  refine ix_tup (j := 1) rfl rfl ?_
  refine ix_tup rfl hri ?_
  walk_at "pv all"
  refine ix_tup (j := 6) rfl rfl ?_
  walk_at "pv all"
  refine wr_cell (vs := (r.first.map fm).map Val.d) rfl ?_
  walk_at "pv all"
  refine ix_tup (j := 2) rfl rfl ?_
  walk_at "pv all"
  /- behind the facts at the point -/
  have rest : ∀ fs : List Fm, fs = r.first ++ (if b.e.pt = 0 then [] else r.grounds ++ (((S.fas[b.e.pr]?).bind fun f => f.1[b.e.pt]?).getD [])) → WS gl (callP P gl (k + 2)) (dropS 4 f6.body) [some (.d (sysd S)), some (.d (lowrd S)), some (.d (facd S)), some (.d (.int (i : Int))), some (.d (.tuple [.str b.e.kd, .int (b.e.pr : Int), .int (b.e.pt : Int), x3, x4, fms b.e.hs, x6, x7])), some (.d (rowd r)), some (.ref mh.length), none, none, none, none, none, none, none] (mh ++ [Ob.lst ((fs.map fm).map Val.d)]) fun fl mh' => ∃ x os, (fl = .rt (.d x) ∨ ∃ e, fl = .nx e ∧ x = .none) ∧ mh' = mh ++ os ∧ Q (.d x) mh := by
    intro fs hfs
    have hrr : S.rows[b.e.pr]? = some r := by rw [e1]; exact hr
    have hq : hypsF S b = fs ++ b.e.hs ++ (match b.e.af with
      | none => []
      | some a => (postsOf S a.1).map (putF (tabE a))) := by
      unfold hypsF
      rw [hrr, hfs]
      try rfl
    have hlen := (hyps_names ok (List.mem_of_getElem? hb)).2
    rw [hq, List.length_append, List.length_append] at hlen
    clear hfs
    unfold f6
    simp only [dropS]
    walk_at "pv all"
    refine ⟨rcv_lst end_get, ?_⟩
    walk_at "pv all"
    refine ix_tup (j := 5) rfl rfl ?_
    walk_at "pv all"
    refine ext_fms end_get (by omega) ?_
    rw [end_set]
    walk_at "pv all"
    refine ix_tup (j := 0) rfl rfl ?_
    walk_at "pv all"
    have done : ∀ (a7 a8 a9 a10 a11 a12 a13 : Option Val) (gs : List Fm), gs = hypsF S b → WS gl (callP P gl (k + 2)) (.frz 6 (.cons (.ret (.bi .tuple false (.cons (.slot 6) .nil))) .nil)) [some (.d (sysd S)), some (.d (lowrd S)), some (.d (facd S)), some (.d (.int (i : Int))), some (.d (.tuple [.str b.e.kd, .int (b.e.pr : Int), .int (b.e.pt : Int), x3, x4, fms b.e.hs, x6, x7])), some (.d (rowd r)), some (.ref mh.length), a7, a8, a9, a10, a11, a12, a13] (mh ++ [Ob.lst ((gs.map fm).map Val.d)]) fun fl mh' => ∃ x os, (fl = .rt (.d x) ∨ ∃ e, fl = .nx e ∧ x = .none) ∧ mh' = mh ++ os ∧ Q (.d x) mh := by
      intro a7 a8 a9 a10 a11 a12 a13 gs hgs
      refine frz_lst rfl end_get ?_
      rw [end_set]
      walk_at "pv all"
      rw [hgs]
      exact q
    cases ha : b.e.af with
    | none =>
      rw [ha, List.append_nil] at hq
      refine cs_eq (fun h => ?_) (fun h => ?_)
      · walk_at "pv all"
        refine ix_tup (j := 7) rfl rfl ?_
        walk_at "pv all"
        rcases ex with ⟨p, pt, hs, id, as, ee⟩ | ex
        · rw [ee] at h
          exact absurd h (show ¬ (Str.ofString "call" = Str.ofString "step") by decide +kernel)
        · rw [ha] at ex
          subst ex
          refine cmp_f (by simp [cmpF, eqV2, pureD, eqD, bR, aftd, SeqAt.shaped, PyData.canLay0, PyData.canLayAll0, PyData.depth, PyData.depthAll, PyData.eqv, PyData.eqvAll]) ?_
          refine pick_f (ws_nil (thenS_nx ?_))
          exact done _ _ _ _ _ _ _ _ hq.symm
      · refine pick_f (pick_f (ws_nil (thenS_nx ?_)))
        exact done _ _ _ _ _ _ _ _ hq.symm
    | some a =>
      obtain ⟨hp0, c, hc, i1, i2, i3, i4⟩ := bo.ed.aft ha
      have te := te_ok i2 i3 i4
      have po := posts_ok ok hc
      obtain ⟨caok, cal⟩ := ok.ca c hc
      rw [← i1] at po
      have hx7 : x7 = aftd (some a) := by
        rcases ex with ⟨p, pt, hs, id, as, ee⟩ | ex
        · rw [ee] at ha; cases ha
        · rw [ex, ha]
      have hkd : b.e.kd = Str.ofString "step" := by
        cases hbe : b.e with
        | call => rw [hbe] at ha; cases ha
        | step => rfl
      subst hx7
      rw [ha] at hq hlen
      refine cs_eq (fun _ => ?_) (fun h => absurd hkd h)
      walk_at "pv all"
      refine ix_tup (j := 7) rfl rfl ?_
      walk_at "pv all"
      obtain ⟨id, as, os⟩ := a
      have hal : as.length ≤ 8 := by
        have := congrArg List.length (show as.map (fun p => p.1) = c.ins from i2.nms)
        rw [List.length_map] at this
        have := caok.il
        omega
      have hol : os.length ≤ 10 := by
        have := congrArg List.length (show os.map (fun p => p.1) = c.outs from i3)
        rw [List.length_map] at this
        have := caok.ol
        omega
      have psa : Ps 60 (aftd (some (id, as, os))) := ps_aft (fun x e => caok.ido x (i1.symm.trans e)) (fun p hp => ⟨caok.so _ (List.mem_append_left _ (by rw [← i2.nms]; exact List.mem_map.mpr ⟨p, hp, rfl⟩)), fun q hq => bo.so _ ((i2.fo p hp).1.mem q hq).1, by have := (i2.fo p hp).2; omega⟩) (fun p hp => ⟨caok.so _ (List.mem_append_right _ (by rw [← i3]; exact List.mem_map.mpr ⟨p, hp, rfl⟩)), bo.so _ (i4 p hp)⟩) (by show as.length < 1000; omega) (by show os.length < 1000; omega)
      have hpp : ∀ mh Q, Q (.d (fms (postsOf S id))) mh → W (callP P gl (k + 2) 5 [.d (lowrd S), .d (facd S), .d (cald id)]) mh Q := fun mh Q q => by
        have h := pposts_ok ok k mh hc Q
        rw [← i1] at h
        exact h q
      refine cd_ne psa ps_nil (fun _ => ?_) (fun h => by cases h)
      walk_at "pv all"
      refine ix_tup (j := 7) (v := .tuple [cald id, .tuple (as.map argd), .tuple (os.map outd)]) rfl rfl ?_
      walk_at "pv all"
      refine ix_T ?_
      refine wc_map (r := fun p : Str × Str => Val.d (argd (p.1, varF p.2))) gnil (fun p hp => ?_) ?_
      · walk_at "pv all"
        refine pvar_ok _ _ _ _ ?_
        walk_at "pv all"
        exact ⟨rfl, rfl⟩
      refine wr_nl (ds := (os.map fun p : Str × Str => (p.1, varF p.2)).map argd) (by rw [List.map_map, List.map_map]; rfl) ?_
      refine wr_addL (by rw [List.length_map, List.length_map, List.length_map]; omega) ?_
      rw [← List.map_append]
      walk_at "pv all"
      refine ⟨rcv_lst end_get, ?_⟩
      walk_at "pv all"
      refine hpp _ _ ?_
      refine ix_T ?_
      refine wc_map (r := fun F => Val.d (fm (putF (tabE (id, as, os)) F))) gnil (fun F hF => ?_) ?_
      · obtain ⟨p1, p2, p3⟩ := pts_mok te (po.2 F hF) fun x hx => hx
        have hFl := (po.2 F hF).len
        walk_at "pv all"
        have him := fun m => image_ok true k m F (as ++ os.map fun p : Str × Str => (p.1, varF p.2)) p1 (Nat.lt_of_le_of_lt (acc_len _) (by show (prs (pts (tabE (id, as, os)) F)).length < 64; omega)) (by show (prs (pts (tabE (id, as, os)) F)).length < 10000; omega) (by omega) (by rw [List.length_append, List.length_map]; omega)
        refine him _ _ ⟨rfl, rfl⟩
      refine wr_nl (ds := ((postsOf S id).map (putF (tabE (id, as, os)))).map fm) (by rw [List.map_map, List.map_map]; rfl) ?_
      walk_at "pv all"
      have hlen : (fs.length + b.e.hs.length) + ((postsOf S id).map (putF (tabE (id, as, os)))).length ≤ 20 := hlen
      refine ext_end end_get (by rw [List.length_map, List.length_map, List.length_append]; omega) ?_
      rw [end_set, ← List.map_append]
      walk_at "pv all"
      exact done _ _ _ _ _ _ _ _ hq.symm
  refine ci_ne (fun h => ?_) (fun h => ?_)
  · refine pick_t ?_
    walk_at "pv all"
    refine ⟨rcv_lst end_get, ?_⟩
    walk_at "pv all"
    refine ix_tup (j := 7) rfl rfl ?_
    walk_at "pv all"
    refine ext_fms end_get (by have := ro.fir.1; have := ro.gr.1; omega) ?_
    rw [end_set]
    walk_at "pv all"
    refine ⟨rcv_lst end_get, ?_⟩
    walk_at "pv all"
    refine ix_tup (j := 1) rfl rfl ?_
    refine ix_tup rfl hfi ?_
    walk_at "pv all"
    refine ix_tup (j := 0) rfl rfl ?_
    walk_at "pv all"
    refine ix_tup (j := 2) rfl rfl ?_
    have hptl : b.e.pt < f.1.length := by rw [fo.pl]; exact e2
    have hpt : f.1[b.e.pt]? = some f.1[b.e.pt] := List.getElem?_eq_getElem hptl
    have hfl := (fo.pt _ (List.mem_of_getElem? hpt)).1
    generalize f.1[b.e.pt] = gs at hpt hfl
    refine ix_tup rfl (show (f.1.map fms)[b.e.pt]? = some (fms gs) by rw [List.getElem?_map, hpt]; rfl) ?_
    refine wa_nil ?_
    refine ext_fms end_get (by rw [List.length_append]; have := ro.fir.1; have := ro.gr.1; omega) ?_
    rw [end_set]
    refine ws_nil (thenS_nx ?_)
    refine rest _ ?_
    rw [if_neg (by omega), e1, hf]
    show _ = r.first ++ (r.grounds ++ (f.1[b.e.pt]?).getD [])
    rw [hpt, List.append_assoc]; rfl
  · refine pick_f (ws_nil (thenS_nx ?_))
    refine rest r.first ?_
    rw [if_pos (by omega), List.append_nil]
end
end PvK

namespace PvK
open PySem PySem.Spec PyProof.Rows L2 Pv
/-! identities -/
abbrev idF (xs : List Str) : Dt := .tuple (xs.map fun x => fm (varF x))
theorem ident_ok (k : Nat) (mh : List Ob) (xs : List Str) (Q : Val → List Ob → Prop) (q : Q (.d (idF xs)) mh) : W (callP P gl (k + 2) 8 [.d (strT xs)]) mh Q := by
  refine w_pure (nm := f8.name) (ps := f8.ps) (N := f8.N) (body := f8.body) (env := [some (.d (strT xs)), none]) rfl rfl ?_
  unfold f8
  walk_at "pv all"
  refine ix_T ?_
  refine wc_map (r := fun x : Str => Val.d (fm (varF x))) gnil (fun x hx => ?_) ?_
  · walk_at "pv all"
    refine pvar_ok _ _ _ _ ?_
    exact ⟨rfl, rfl⟩
  refine wr_nl (ds := xs.map fun x => fm (varF x)) (by rw [List.map_map]; rfl) ?_
  walk_at "pv all"
  exact q
theorem lident_ok (k : Nat) (mh : List Ob) (xs : List Str) (Q : Val → List Ob → Prop) (q : Q (.d (idF xs)) mh) : W (callP P gl (k + 2) 40 [.d (strT xs)]) mh Q := by
  refine w_pure (nm := f40.name) (ps := f40.ps) (N := f40.N) (body := f40.body) (env := [some (.d (strT xs)), none]) rfl rfl ?_
  unfold f40
  walk_at "pv all"
  refine ix_T ?_
  refine wc_map (r := fun x : Str => Val.d (fm (varF x))) gnil (fun x hx => ?_) ?_
  · walk_at "pv all"
    refine var_ok _ _ _ _ ?_
    exact ⟨rfl, rfl⟩
  refine wr_nl (ds := xs.map fun x => fm (varF x)) (by rw [List.map_map]; rfl) ?_
  walk_at "pv all"
  exact q
end PvK

namespace PvK
open PySem PySem.Spec PyProof.Rows L2 Pv
/-! all hypotheses -/
section
variable {S : Sy}
theorem allhyps_ok (ok : SyOk S) (k : Nat) (mh : List Ob) (Q : Val → List Ob → Prop) (q : Q (.d (.list (S.bts.map fun b => fms (hypsF S b)))) mh) : W (callP P gl (k + 4) 9 [.d (sysd S), .d (lowrd S), .d (facd S)]) mh Q := by
  refine w_pure (nm := f9.name) (ps := f9.ps) (N := f9.N) (body := f9.body) (env := [some (.d (sysd S)), some (.d (lowrd S)), some (.d (facd S)), none]) rfl rfl ?_
  unfold f9
  have hbl := ok.btl
  walk_at "pv all"
  refine ix_tup (j := 1) rfl rfl ?_
  walk_at "pv all"
  refine rg1 (n := S.bts.length) (by rw [List.length_map]) (by omega) ?_
  rw [rg_map]
  have hmap : ((List.range S.bts.length).map fun i => ((S.bts[i]?).map fun b => fms (hypsF S b)).getD .none) = S.bts.map fun b => fms (hypsF S b) := by
    refine List.ext_getElem? fun i => ?_
    rw [List.getElem?_map, List.getElem?_map]
    by_cases h : i < S.bts.length
    · rw [List.getElem?_range h, List.getElem?_eq_getElem h]; show some (((S.bts[i]?).map fun b => fms (hypsF S b)).getD .none) = _; rw [List.getElem?_eq_getElem h]; rfl
    · rw [List.getElem?_eq_none (by rw [List.length_range]; omega), List.getElem?_eq_none (by omega)]; rfl
  refine wc_map (r := fun i => Val.d (((S.bts[i]?).map fun b => fms (hypsF S b)).getD .none)) gnil (fun i hi => ?_) ?_
  · have hi2 : i < S.bts.length := List.mem_range.mp hi
    have hb : S.bts[i]? = some S.bts[i] := List.getElem?_eq_getElem hi2
    generalize S.bts[i] = b at hb
    walk_at "pv all"
    have hg := phyps_ok ok k mh i b hb
    refine hg _ ?_
    refine ⟨?_, rfl⟩
    rw [hb]
    rfl
  refine wr_nl (ds := S.bts.map fun b => fms (hypsF S b)) (by rw [← hmap, List.map_map]; rfl) ?_
  walk_at "pv all"
  exact q
end
end PvK

namespace PvK
open PySem PySem.Spec PyProof.Rows L2 Pv
/-! alive edges -/
def alv (S : Sy) (i : Nat) : Bool := ((S.bts[i]?).map fun b => decide (b.sh = 0)).getD false
def als (S : Sy) : List Nat := (List.range S.bts.length).filter (alv S)
theorem als_mem {S : Sy} {i : Nat} (h : i ∈ als S) : ∃ b, S.bts[i]? = some b ∧ b.sh = 0 := by
  unfold als at h
  obtain ⟨h1, h2⟩ := List.mem_filter.mp h
  unfold alv at h2
  cases e : S.bts[i]? with
  | none => rw [e] at h2; cases h2
  | some b => rw [e] at h2; exact ⟨b, rfl, of_decide_eq_true h2⟩
theorem flat_filter {α β : Type} {p : α → Bool} {f : α → List β} : ∀ xs : List α, (xs.filter p).flatMap f = xs.flatMap fun x => if p x = true then f x else []
  | [] => rfl
  | x :: xs => by
    rw [List.filter_cons, List.flatMap_cons]
    split
    · rw [List.flatMap_cons, flat_filter xs]
    · rw [flat_filter xs]; rfl
theorem flat_le {α β : Type} {f : α → List β} {n : Nat} : ∀ {xs : List α}, (∀ x ∈ xs, (f x).length ≤ n) → (xs.flatMap f).length ≤ n * xs.length
  | [], _ => Nat.zero_le _
  | x :: xs, h => by
    have h1 := h x List.mem_cons_self
    have h2 := flat_le (xs := xs) fun y hy => h y (List.mem_cons_of_mem _ hy)
    rw [List.flatMap_cons, List.length_append, List.length_cons, Nat.mul_succ]; omega
section
variable {S : Sy}
theorem alive_ok (k : Nat) (mh : List Ob) {lv : List Dt} (lo : LvOk S lv) (Q : Val → List Ob → Prop) (q : Q (.d (.list ((als S).map fun (i : Nat) => .int (i : Int)))) mh) : W (callP P gl (k + 1) 10 [.d (.tuple lv)]) mh Q := by
  refine w_pure (nm := f10.name) (ps := f10.ps) (N := f10.N) (body := f10.body) (env := [some (.d (.tuple lv)), none, none]) rfl rfl ?_
  unfold f10
  walk_at "pv all"
  refine ⟨⟨(lv.zipIdx).map fun p => .d (.tuple [.int (p.2 : Nat), p.1]), []⟩, rfl, ?_⟩
  have hm : (lv.zipIdx.filter fun p => alv S p.2).map (fun p => p.2) = als S := by
    have h1 : (lv.zipIdx.filter ((alv S) ∘ Prod.snd)).map Prod.snd = (lv.zipIdx.map Prod.snd).filter (alv S) := (List.filter_map ..).symm
    show (lv.zipIdx.filter ((alv S) ∘ Prod.snd)).map Prod.snd = _
    rw [h1, List.zipIdx_map_snd, lo.1, ← List.range_eq_range']; rfl
  refine wc_filter (p := fun p : Dt × Nat => alv S p.2) (r := fun p => Val.d (.int (p.2 : Int))) gnil (fun p hp => ?_) ?_
  · obtain ⟨d, j⟩ := p
    have hj : lv[j]? = some d := List.mem_zipIdx_iff_getElem?.mp hp
    have hjl : j < S.bts.length := by rw [← lo.1]; exact (List.getElem?_eq_some_iff.mp hj).1
    have hb : S.bts[j]? = some S.bts[j] := List.getElem?_eq_getElem hjl
    generalize S.bts[j] = b at hb
    obtain ⟨x, hx, _⟩ := lo.2 j b hb
    have hd : d = lifed b.sh x := Option.some.inj (hj.symm.trans hx)
    subst hd
    unfold lifed
    have ha : alv S j = decide (b.sh = 0) := by unfold alv; rw [hb]; rfl
    walk_at "pv all"
    refine ix_tup (j := 0) rfl rfl ?_
    walk_at "pv all"
    refine cs_eq (fun h => ?_) (fun h => ?_)
    · refine ⟨?_, rfl, fun _ => ?_⟩
      · rw [show alv S (_, j).2 = decide (b.sh = 0) from ha]
        by_cases h0 : b.sh = 0
        · exact (decide_eq_true h0).symm
        · rw [if_neg h0] at h
          exact absurd h (show ¬ (Str.ofString "shut" = Str.ofString "alive") by decide +kernel)
      · walk_at "pv all"
        exact ⟨rfl, rfl⟩
    · refine ⟨?_, rfl, fun z => by cases z⟩
      rw [show alv S (_, j).2 = decide (b.sh = 0) from ha]
      by_cases h0 : b.sh = 0
      · rw [if_pos h0] at h; exact absurd rfl h
      · exact (decide_eq_false h0).symm
  refine wr_nl (ds := (als S).map fun (i : Nat) => .int (i : Int)) (by rw [← hm, List.map_map, List.map_map]; rfl) ?_
  walk_at "pv all"
  exact q
end
end PvK

namespace PvK
open PySem PySem.Spec PyProof.Rows L2 Pv
/-! cells behind a world -/
section
variable {mh os : List Ob} {o : Ob} {j : Nat}
theorem po_get (h : os[j]? = some o) : (mh ++ os)[mh.length + j]? = some o := by
  rw [List.getElem?_append_right (by omega), show mh.length + j - mh.length = j by omega]
  exact h
theorem po_set : (mh ++ os).set (mh.length + j) o = mh ++ os.set j o := by
  rw [List.set_append_right _ _ (by omega), show mh.length + j - mh.length = j by omega]
theorem po_new : mh ++ os ++ [o] = mh ++ (os ++ [o]) := List.append_assoc ..
end
end PvK

namespace PvK
open PySem PySem.Spec PyProof.Rows L2 Pv
/-! a bound problem -/
abbrev idL (xs : List Str) : List Dt := xs.map fun x => fm (varF x)
def tgI (r : Rw) : Ed → List Dt
  | .call .. => idL r.sts
  | .step _ _ _ _ _ ef _ => ef.map fm
def tgP : Ed → Int
  | .call _ pt _ _ _ => (pt : Int) + 1
  | .step _ _ tg _ _ _ _ => tg
def knF (a : Nat) (sg : Int) : Ed → Fm
  | .step _ _ _ _ _ ef _ => timesF (-sg) (ef.getD a (0, []))
  | _ => (0, [])
abbrev zeroD : Dt := .tuple [.int 0, .tuple []]
def bcond (S : Sy) (r : Rw) (a : Nat) (sg : Int) (b : Bt) : Dt :=
  if 0 ≤ tgP b.e then .tuple [fms (hypsF S b), .tuple [.tuple [.int 1, .int (b.e.pt : Int), idF (pn r b.e.pt)], .tuple [.int (-1), .int (tgP b.e), .tuple (idL r.ins ++ tgI r b.e)]], zeroD, .int 0]
  else .tuple [fms (hypsF S b), .tuple [.tuple [.int 1, .int (b.e.pt : Int), idF (pn r b.e.pt)]], fm (knF a sg b.e), .int 0]
def bcAt (S : Sy) (r : Rw) (p a : Nat) (sg : Int) (i : Nat) : List Dt := match S.bts[i]? with
  | some b => if b.e.pr = p then [bcond S r a sg b] else []
  | none => []
def probB (S : Sy) (r : Rw) (p a : Nat) (sg : Int) : Dt := .tuple [.tuple ((List.range r.nests.length).map fun i => strT (pn r i)), .tuple ((als S).flatMap (bcAt S r p a sg)), .tuple [.tuple [.int 0, .int 1]]]
theorem bcAt_len (S : Sy) (r : Rw) (p a : Nat) (sg : Int) (i : Nat) : (bcAt S r p a sg i).length ≤ 1 := by
  unfold bcAt
  split
  · split <;> simp
  · simp
theorem als_len {S : Sy} (ok : SyOk S) : (als S).length ≤ 120 := by
  have := List.length_filter_le (alv S) (List.range S.bts.length)
  rw [List.length_range] at this
  have := ok.btl
  unfold als
  omega
/-- the eight items of an edge -/
theorem edd_all (e : Ed) : ∃ x4 x6 x7, edd e = .tuple [.str e.kd, .int (e.pr : Int), .int (e.pt : Int), .int (tgP e), x4, fms e.hs, x6, x7] ∧ (e.kd = Str.ofString "step" → ∃ p pt tg wt hs ef af, e = .step p pt tg wt hs ef af ∧ x6 = fms ef ∧ (∀ r, tgI r e = ef.map fm) ∧ ∀ a sg, knF a sg e = timesF (-sg) (ef.getD a (0, []))) ∧ (e.kd ≠ Str.ofString "step" → e.kd = Str.ofString "call" ∧ (∀ r, tgI r e = idL r.sts) ∧ 0 ≤ tgP e) := by
  cases e with
  | call p pt hs id as => exact ⟨_, _, _, rfl, fun h => absurd h (show ¬ (Str.ofString "call" = Str.ofString "step") by decide +kernel), fun _ => ⟨rfl, fun _ => rfl, by show 0 ≤ (pt : Int) + 1; omega⟩⟩
  | step p pt tg wt hs ef af => exact ⟨_, _, _, rfl, fun _ => ⟨p, pt, tg, wt, hs, ef, af, rfl, rfl, fun _ => rfl, fun _ _ => rfl⟩, fun h => absurd rfl h⟩
section
variable {S : Sy}
theorem namesat_ok (k : Nat) (mh : List Ob) {p : Nat} {r : Rw} (hr : S.rows[p]? = some r) (h20 : r.ins.length + r.sts.length ≤ 100) (i : Nat) (Q : Val → List Ob → Prop) (q : Q (.d (strT (pn r i))) mh) : W (callP P gl (k + 1) 7 [.d (sysd S), .d (.int (p : Int)), .d (.int (i : Int))]) mh Q := by
  refine w_pure (nm := f7.name) (ps := f7.ps) (N := f7.N) (body := f7.body) (env := [some (.d (sysd S)), some (.d (.int (p : Int))), some (.d (.int (i : Int))), none]) rfl rfl ?_
  have hsl : sizeLine = 16777216 := rfl
  unfold f7
  unfold pn at q
  walk_at "pv all"
  refine ix_tup (j := 0) rfl rfl ?_
  walk_at "pv all"
  refine ix_tup rfl (row_ix hr) ?_
  walk_at "pv all"
  refine ci_eq (fun h => ?_) (fun h => ?_)
  · walk_at "pv all"
    refine ix_tup (j := 1) rfl rfl ?_
    rw [if_pos (by omega)] at q
    walk_at "pv all"
    exact q
  · walk_at "pv all"
    rw [if_neg (by omega)] at q
    refine ci_lt (fun h => absurd h (by omega)) (fun h => ?_)
    walk_at "pv all"
    refine ix_tup (j := 1) rfl rfl ?_
    walk_at "pv all"
    refine ix_tup (j := 2) rfl rfl ?_
    refine wr_addT (by rw [List.length_map, List.length_map]; omega) ?_
    rw [← List.map_append]
    walk_at "pv all"
    exact q
theorem lnamesat_ok (k : Nat) (mh : List Ob) {p : Nat} {r : Rw} (hr : S.rows[p]? = some r) (h20 : r.ins.length + r.sts.length ≤ 100) (i : Nat) (Q : Val → List Ob → Prop) (q : Q (.d (strT (pn r i))) mh) : W (callP P gl (k + 1) 41 [.d (sysd S), .d (.int (p : Int)), .d (.int (i : Int))]) mh Q := by
  refine w_pure (nm := f41.name) (ps := f41.ps) (N := f41.N) (body := f41.body) (env := [some (.d (sysd S)), some (.d (.int (p : Int))), some (.d (.int (i : Int))), none]) rfl rfl ?_
  have hsl : sizeLine = 16777216 := rfl
  unfold f41
  unfold pn at q
  walk_at "pv all"
  refine ix_tup (j := 0) rfl rfl ?_
  walk_at "pv all"
  refine ix_tup rfl (row_ix hr) ?_
  walk_at "pv all"
  refine ci_eq (fun h => ?_) (fun h => ?_)
  · walk_at "pv all"
    refine ix_tup (j := 1) rfl rfl ?_
    rw [if_pos (by omega)] at q
    walk_at "pv all"
    exact q
  · walk_at "pv all"
    rw [if_neg (by omega)] at q
    refine ci_lt (fun h => absurd h (by omega)) (fun h => ?_)
    walk_at "pv all"
    refine ix_tup (j := 1) rfl rfl ?_
    walk_at "pv all"
    refine ix_tup (j := 2) rfl rfl ?_
    refine wr_addT (by rw [List.length_map, List.length_map]; omega) ?_
    rw [← List.map_append]
    walk_at "pv all"
    exact q
theorem images_ok (ok : SyOk S) (k : Nat) (mh : List Ob) {i : Nat} {b : Bt} (hb : S.bts[i]? = some b) {r : Rw} (hr : S.rows[b.e.pr]? = some r) (Q : Val → List Ob → Prop) (q : Q (.d (.tuple (idL r.ins ++ tgI r b.e))) mh) : W (callP P gl (k + 3) 11 [.d (sysd S), .d (.int (i : Int))]) mh Q := by
  refine w_pure (nm := f11.name) (ps := f11.ps) (N := f11.N) (body := f11.body) (env := [some (.d (sysd S)), some (.d (.int (i : Int))), none, none, none]) rfl rfl ?_
  have hsl : sizeLine = 16777216 := rfl
  obtain ⟨rx, v, hv, ro⟩ := ok.row _ _ hr
  have hil := ro.il
  have hstl := ro.sl
  obtain ⟨x4, x6, x7, ee, hst, hca⟩ := edd_all b.e
  have hbi := bt_ix hb
  rw [ee] at hbi
  have hlen : (tgI r b.e).length ≤ 12 := by
    obtain ⟨kk, r2, hr2, bo⟩ := ok.bt b (List.mem_of_getElem? hb)
    have e1 := bo.ed.pr.1
    rw [e1, hr2] at hr
    cases hr
    have hol := ro.ol
    have ed := bo.ed
    cases hbe : b.e with
    | call => unfold tgI idL; rw [List.length_map]; exact hstl
    | step p pt tg wt hs ef af =>
      rw [hbe] at ed
      have h3 := ed.2.2.1
      show (ef.map fm).length ≤ 12
      rw [List.length_map]
      rcases h3 with ⟨_, h⟩ | ⟨_, _, _, _, h⟩ <;> omega
  unfold f11
  walk_at "pv all"
  refine ix_tup (j := 1) rfl rfl ?_
  walk_at "pv all"
  refine ix_tup rfl hbi ?_
  walk_at "pv all"
  refine ix_tup (j := 0) rfl rfl ?_
  walk_at "pv all"
  refine ix_tup (j := 1) rfl rfl ?_
  refine ix_tup rfl (row_ix hr) ?_
  walk_at "pv all"
  refine ix_tup (j := 0) rfl rfl ?_
  walk_at "pv all"
  have fin : ∀ ys : List Dt, ys = tgI r b.e → WS gl (callP P gl (k + 2)) (dropS 3 f11.body) [some (.d (sysd S)), some (.d (.int (i : Int))), some (.d (.tuple [.str b.e.kd, .int (b.e.pr : Int), .int (b.e.pt : Int), .int (tgP b.e), x4, fms b.e.hs, x6, x7])), some (.d (rowd r)), some (.d (.tuple ys))] mh fun fl mh' => ∃ x os, (fl = .rt (.d x) ∨ ∃ e, fl = .nx e ∧ x = .none) ∧ mh' = mh ++ os ∧ Q (.d x) mh := by
    intro ys hys
    subst hys
    unfold f11
    simp only [dropS]
    walk_at "pv all"
    refine ix_tup (j := 1) rfl rfl ?_
    walk_at "pv all"
    refine ident_ok _ _ _ _ ?_
    walk_at "pv all"
    refine wr_addT (by rw [List.length_map]; omega) ?_
    walk_at "pv all"
    exact q
  refine cs_eq (fun h => ?_) (fun h => ?_)
  · obtain ⟨_, _, _, _, _, ef, _, _, rfl, h1, _⟩ := hst h
    refine pick_t ?_
    refine we_ix ?_
    walk_at "pv all"
    refine ix_tup (j := 6) rfl rfl ?_
    exact fin _ (h1 r).symm
  · obtain ⟨_, h1, _⟩ := hca h
    refine pick_f ?_
    refine we_call ?_
    walk_at "pv all"
    refine ix_tup (j := 2) rfl rfl ?_
    refine wa_nil ?_
    refine ident_ok _ _ _ _ ?_
    exact fin _ (h1 r).symm
end
end PvK

namespace PvK
open PySem PySem.Spec PyProof.Rows L2 Pv
/-! hypotheses are normal and short -/
section
variable {S : Sy}
theorem hyps_nrm (ok : SyOk S) {b : Bt} (hb : b ∈ S.bts) : ∀ F ∈ hypsF S b, Nrm F := by
  obtain ⟨k, r, hr, bo⟩ := ok.bt b hb
  obtain ⟨e1, e2, e3, e4⟩ := bo.ed.pr
  obtain ⟨_, v, hv, ro⟩ := ok.row k r hr
  unfold hypsF
  rw [e1, hr]
  intro F hF
  have hF : F ∈ r.first ++ (if b.e.pt = 0 then [] else r.grounds ++ (((S.fas[k]?).bind fun f => f.1[b.e.pt]?).getD [])) ++ b.e.hs ++ (match b.e.af with
    | none => []
    | some a => (postsOf S a.1).map (putF (tabE a))) := hF
  rcases List.mem_append.mp hF with hF | hF
  · rcases List.mem_append.mp hF with hF | hF
    · rcases List.mem_append.mp hF with hF | hF
      · exact (ro.fir.2 F hF).nrm
      · split at hF
        · cases hF
        · rcases List.mem_append.mp hF with hF | hF
          · exact (ro.gr.2 F hF).nrm
          · cases hf : S.fas[k]? with
            | none => rw [hf] at hF; cases hF
            | some f =>
              have fo := ok.fa k r f hr hf
              rw [hf] at hF
              have hF : F ∈ (f.1[b.e.pt]?).getD [] := hF
              cases hg : f.1[b.e.pt]? with
              | none => rw [hg] at hF; cases hF
              | some fs =>
                rw [hg] at hF
                exact ((fo.pt fs (List.mem_of_getElem? hg)).2 F hF).nrm
    · exact (e4.2.2 F hF).nrm
  · cases ha : b.e.af with
    | none => rw [ha] at hF; cases hF
    | some a =>
      rw [ha] at hF
      obtain ⟨G, hG, rfl⟩ := List.mem_map.mp hF
      exact nf_nrm _ _
theorem hyps_len (ok : SyOk S) {b : Bt} (hb : b ∈ S.bts) : ∀ F ∈ hypsF S b, F.2.length ≤ 50 := fun F hF => by
  obtain ⟨k, r, hr, bo⟩ := ok.bt b hb
  have h1 := hyps_nrm ok hb F hF
  have h2 := (hyps_names ok hb).1 F hF
  have h3 := nodup_le h1.nd (ys := keys b.tab) fun x hx => by
    obtain ⟨p, hp, rfl⟩ := List.mem_map.mp hx
    exact (bo.ks _).mpr (h2 p hp)
  have h4 := bo.tl
  unfold keys at h3
  rw [List.length_map, List.length_map] at h3
  omega
theorem pl_fm {F : Fm} (h : F.2.length ≤ 60) : Pl 3 (fm F) := pl_T (by simp) fun y hy => by
  rcases List.mem_cons.mp hy with rfl | hy
  · exact pl_int _
  · rw [List.mem_singleton.mp hy]
    refine pl_T (by rw [List.length_map]; omega) fun z hz => ?_
    obtain ⟨p, _, rfl⟩ := List.mem_map.mp hz
    refine pl_T (by simp) fun w hw => ?_
    rcases List.mem_cons.mp hw with rfl | hw
    · exact pl_str _
    · rw [List.mem_singleton.mp hw]; exact pl_int _
theorem pl_two {n : Nat} {a b : Dt} (ha : Pl n a) (hb : Pl n b) : Pl (n + 1) (.tuple [a, b]) := pl_T (by simp) fun x hx => by
  rcases List.mem_cons.mp hx with rfl | hx
  · exact ha
  · rw [List.mem_singleton.mp hx]; exact hb
theorem pl_three {n : Nat} {a b c : Dt} (ha : Pl n a) (hb : Pl n b) (hc : Pl n c) : Pl (n + 1) (.tuple [a, b, c]) := pl_T (by simp) fun x hx => by
  rcases List.mem_cons.mp hx with rfl | hx
  · exact ha
  · rcases List.mem_cons.mp hx with rfl | hx
    · exact hb
    · rw [List.mem_singleton.mp hx]; exact hc
end
end PvK

namespace PvK
open PySem PySem.Spec PyProof.Rows L2 Pv
/-! times -/
theorem timesF_c (k : Int) (f : Fm) : (timesF k f).1 = k * f.1 := by
  unfold timesF
  split
  · rename_i h; rw [h]; simp
  · rfl
theorem timesF_cf (k : Int) (f : Fm) (x : Str) : cf (timesF k f).2 x = k * cf f.2 x := by
  unfold timesF
  split
  · rename_i h; rw [h]; show (0 : Int) = _; simp
  · exact cf_times
theorem times_ok (k : Nat) (mh : List Ob) (c : Int) (f : Fm) (hm : MOk (c, f)) (hl : f.2.length < 1000) (Q : Val → List Ob → Prop) (q : Q (.d (fm (timesF c f))) mh) : W (callP P gl (k + 1) 2 [.d (.int c), .d (fm f)]) mh Q := by
  refine w_pure (nm := f2.name) (ps := f2.ps) (N := f2.N) (body := f2.body) (env := [some (.d (.int c)), some (.d (fm f)), none, none]) rfl rfl ?_
  unfold f2
  walk_at "pv all"
  refine ci_eq (fun h => ?_) (fun h => ?_)
  · unfold timesF at q
    rw [if_pos h] at q
    walk_at "pv all"
    exact q
  · unfold timesF at q
    rw [if_neg h] at q
    walk_at "pv all"
    refine ix_tup (j := 0) rfl rfl ?_
    refine wr_mul hm.1 ?_
    walk_at "pv all"
    refine ix_tup (j := 1) rfl rfl ?_
    refine ix_T ?_
    refine wc_map (r := fun p => Val.d (pd (p.1, c * p.2))) gnil (fun p hp => ?_) ?_
    · walk_at "pv all"
      refine wr_mul (hm.2 p hp) ?_
      walk_at "pv all"
      exact ⟨rfl, rfl⟩
    refine wr_nl (ds := (f.2.map fun p => (p.1, c * p.2)).map pd) (by rw [List.map_map, List.map_map]; rfl) ?_
    walk_at "pv all"
    exact q
end PvK

namespace PvK
open PySem PySem.Spec PyProof.Rows L2 Pv
/-! the program's bound problem -/
theorem times_nrm {c : Int} {F : Fm} (hc : c ≠ 0) (h : Nrm F) : Nrm (timesF c F) := by
  unfold timesF
  rw [if_neg hc]
  refine ⟨?_, fun p hp => ?_⟩
  · rw [List.map_map]
    exact h.asc
  · obtain ⟨q, hq, rfl⟩ := List.mem_map.mp hp
    exact Int.mul_ne_zero hc (h.nz q hq)
theorem sum_times {c : Int} {F : Fm} (hc : c ≠ 0) (h : Nrm F) : sumF [(c, F)] = timesF c F := by
  rw [← nf_id (times_nrm hc h)]
  unfold sumF csum prs timesF
  rw [if_neg hc]
  simp
theorem mok_sg {sg : Int} (h : sg = 1 ∨ sg = -1) {F : Fm} : MOk (-sg, F) := by
  have h1 : (-sg).natAbs < 2 ^ 64 := by rcases h with rfl | rfl <;> decide
  exact ⟨.inl h1, fun _ _ => .inl h1⟩
theorem rcv_strT {mh : List Ob} {xs : List Str} (h : xs ≠ []) : rcv "tuple" (.d (strT xs)) mh = true := by
  have h1 : ixT (xs.map PyData.str) = true := by
    unfold ixT
    simp only [Bool.and_eq_true, Bool.not_eq_true', List.isEmpty_eq_false_iff, List.all_eq_true]
    refine ⟨fun z => h (List.map_eq_nil_iff.mp z), fun d hd => ?_⟩
    obtain ⟨x, _, rfl⟩ := List.mem_map.mp hd
    rfl
  show ("tuple" == "tuple" && ixT (xs.map PyData.str)) = true
  rw [h1]; rfl
section
variable {S : Sy}
theorem ef_len (ok : SyOk S) {b : Bt} (hb : b ∈ S.bts) {r : Rw} (hr : S.rows[b.e.pr]? = some r) {ef : List Fm} {p pt : Nat} {tg : Int} {wt : Nat} {hs : List Fm} {af : Option Aft} (he : b.e = .step p pt tg wt hs ef af) :
    (∀ F ∈ ef, Nrm F ∧ F.2.length ≤ 2) ∧ (tg < 0 → ef.length = r.outs.length) ∧ ef.length ≤ 12 := by
  obtain ⟨kk, r2, hr2, bo⟩ := ok.bt b hb
  have e1 := bo.ed.pr.1
  rw [e1, hr2] at hr
  cases hr
  obtain ⟨_, v, _, ro⟩ := ok.row _ _ hr2
  have ed := bo.ed
  rw [he] at ed
  obtain ⟨_, _, h3, _, _, _, h7, _⟩ := ed
  have := ro.sl
  have := ro.ol
  refine ⟨fun F hF => ⟨(h7 F hF).1.nrm, (h7 F hF).2⟩, fun h => ?_, ?_⟩
  · rcases h3 with ⟨_, h⟩ | ⟨j, h1, _⟩
    · exact h
    · omega
  · rcases h3 with ⟨_, h⟩ | ⟨_, _, _, _, h⟩ <;> omega
theorem bc_snoc {r : Rw} {p a : Nat} {sg : Int} {i j : Nat} {b : Bt} (hj : (als S)[i]? = some j) (hb : S.bts[j]? = some b) :
    ((als S).take (i + 1)).flatMap (bcAt S r p a sg) = ((als S).take i).flatMap (bcAt S r p a sg) ++ (if b.e.pr = p then [bcond S r a sg b] else []) := by
  rw [List.take_add_one, hj, List.flatMap_append]
  simp [bcAt, hb]
theorem wr_idx {mh : List Ob} {Q : Val → List Ob → Prop} {xs : List Str} {x : Str} (h : x ∈ xs) (q : Q (.d (.int ((xs.idxOf x : Nat) : Int))) mh) : W (Mt.f .index (.d (strT xs)) [.d (.str x)]) mh Q := by
  refine ⟨_, _, ?_, q⟩
  show idxVl (.d (.tuple (xs.map .str))) [.d (.str x)] mh = _
  unfold idxVl
  have h1 : allOf asStr ((xs.map PyData.str).map Val.d) = some xs := by
    have := allOf_map (f := asStr) (g := fun b => Val.d (.str b)) (fun _ => rfl) xs
    rw [List.map_map]
    exact this
  simp only [h1]
  rw [if_pos (List.idxOf_lt_length_iff.mpr h)]
theorem mbound_ok (ok : SyOk S) {lv : List Dt} (lo : LvOk S lv) (k : Nat) (mh : List Ob) {p : Nat} {r : Rw} (hr : S.rows[p]? = some r) {o : Str} (ho : o ∈ r.outs) {sg : Int} (hsg : sg = 1 ∨ sg = -1) (Q : Val → List Ob → Prop) (q : Q (.d (probB S r p (r.outs.idxOf o) sg)) mh) :
    W (callP P gl (k + 4) 12 [.d (sysd S), .d (.list (S.bts.map fun b => fms (hypsF S b))), .d (.tuple lv), .d (.int (p : Int)), .d (.str o), .d (.int sg)]) mh Q := by
  refine w_pure (nm := f12.name) (ps := f12.ps) (N := f12.N) (body := f12.body) (env := [some (.d (sysd S)), some (.d (.list (S.bts.map fun b => fms (hypsF S b)))), some (.d (.tuple lv)), some (.d (.int (p : Int))), some (.d (.str o)), some (.d (.int sg)), none, none, none, none, none, none, none]) rfl rfl ?_
  have hsl : sizeLine = 16777216 := rfl
  obtain ⟨rx, v, hv, ro⟩ := ok.row _ _ hr
  have hil := ro.il
  have hstl := ro.sl
  have hnp := ro.np
  have hal := als_len ok
  unfold f12
  walk_at "pv all"
  refine alive_ok _ _ lo _ ?_
  refine ix_L ?_
  refine wl_invL (fun i e m => ∃ (a7 a8 a9 a10 : Option Val), e = [some (.d (sysd S)), some (.d (.list (S.bts.map fun b => fms (hypsF S b)))), some (.d (.tuple lv)), some (.d (.int (p : Int))), some (.d (.str o)), some (.d (.int sg)), some (.ref mh.length), a7, a8, a9, a10, none, none] ∧ ∃ os, m = mh ++ (.lst ((((als S).take i).flatMap (bcAt S r p (r.outs.idxOf o) sg)).map Val.d) :: os)) ⟨none, none, none, none, rfl, [], rfl⟩ (fun i j e m hj I => ?_) (fun e m I => ?_)
  · obtain ⟨a7, a8, a9, a10, rfl, os, rfl⟩ := I
    have hi := (List.getElem?_eq_some_iff.mp hj).1
    obtain ⟨b, hb, hb0⟩ := als_mem (List.mem_of_getElem? hj)
    have hcl : (((als S).take i).flatMap (bcAt S r p (r.outs.idxOf o) sg)).length ≤ 120 := by
      have := flat_le (f := bcAt S r p (r.outs.idxOf o) sg) (n := 1) (xs := (als S).take i) fun x _ => bcAt_len S r p _ sg x
      rw [List.length_take] at this
      omega
    rw [bc_snoc hj hb]
    generalize ((als S).take i).flatMap (bcAt S r p (r.outs.idxOf o) sg) = cs at hcl
    have hh : (S.bts.map fun b => fms (hypsF S b))[j]? = some (fms (hypsF S b)) := by rw [List.getElem?_map, hb]; rfl
    obtain ⟨x4, x6, x7, ee, hst, hca⟩ := edd_all b.e
    have hbi := bt_ix hb
    rw [ee] at hbi
    walk_at "pv all"
    refine ix_tup (j := 1) rfl rfl ?_
    walk_at "pv all"
    refine ix_tup rfl hbi ?_
    walk_at "pv all"
    refine ix_tup (j := 1) rfl rfl ?_
    walk_at "pv all"
    refine ci_eq (fun h => ?_) (fun h => ?_)
    · have hpr : b.e.pr = p := by omega
      subst hpr
      rw [if_pos rfl]
      walk_at "pv all"
      refine ix_tup (j := 2) rfl rfl ?_
      walk_at "pv all"
      refine ix_tup (j := 2) rfl rfl ?_
      walk_at "pv all"
      refine namesat_ok _ _ hr (by omega) _ _ ?_
      walk_at "pv all"
      refine ident_ok _ _ _ _ ?_
      walk_at "pv all"
      refine ix_tup (j := 3) rfl rfl ?_
      walk_at "pv all"
      unfold bcond
      refine ci_ge (fun h3 => ?_) (fun h3 => ?_)
      · rw [if_pos h3]
        walk_at "pv all"
        refine ⟨rcv_lst end_get, ?_⟩
        walk_at "pv all"
        refine ix_tup (j := 3) rfl rfl ?_
        walk_at "pv all"
        refine images_ok ok _ _ hb hr _ ?_
        walk_at "pv all"
        refine app_end end_get (by simp only [List.length_cons, List.length_nil]; omega) ?_
        rw [end_set]
        walk_at "pv all"
        refine frz_lst (ds := [.tuple [.int 1, .int (b.e.pt : Int), idF (pn r b.e.pt)], .tuple [.int (-1), .int (tgP b.e), .tuple (idL r.ins ++ tgI r b.e)]]) rfl end_get ?_
        rw [end_set, po_new]
        walk_at "pv all"
        refine ⟨rcv_lst (po_get (j := 0) (os := Ob.lst (cs.map Val.d) :: os ++ [.dead]) rfl), ?_⟩
        walk_at "pv all"
        refine ix_list rfl hh ?_
        walk_at "pv all"
        refine app_end (po_get (j := 0) (os := Ob.lst (cs.map Val.d) :: os ++ [.dead]) rfl) (by rw [List.length_map]; omega) ?_
        walk_at "pv all"
        refine ⟨_, _, _, _, rfl, os ++ [.dead], ?_⟩
        rw [show mh.length = mh.length + 0 from rfl, po_set, List.map_append]
        rfl
      · rw [if_neg h3]
        have hk : b.e.kd = Str.ofString "step" := Classical.byContradiction fun z => h3 (hca z).2.2
        obtain ⟨p1, pt1, tg1, wt1, hs1, ef, af1, he, rfl, g1, g2⟩ := hst hk
        obtain ⟨f1, f2, f3⟩ := ef_len ok (List.mem_of_getElem? hb) hr he
        have f2 := f2 (by rw [he] at h3; exact Int.not_le.mp h3)
        have hix : r.outs.idxOf o < ef.length := by rw [f2]; exact List.idxOf_lt_length_iff.mpr ho
        have hF : ef[r.outs.idxOf o]? = some ef[r.outs.idxOf o] := List.getElem?_eq_getElem hix
        have hg : ef.getD (r.outs.idxOf o) (0, []) = ef[r.outs.idxOf o] := by rw [List.getD_eq_getElem?_getD, hF]; rfl
        have hFl := (f1 _ (List.mem_of_getElem? hF)).2
        rw [g2, hg]
        generalize ef[r.outs.idxOf o] = F at hF hFl
        walk_at "pv all"
        refine ix_tup (j := 6) rfl rfl ?_
        walk_at "pv all"
        refine ix_tup (j := 0) rfl rfl ?_
        walk_at "pv all"
        refine ix_tup rfl (row_ix hr) ?_
        walk_at "pv all"
        refine ix_tup (j := 4) rfl rfl ?_
        refine ⟨rcv_strT (fun z => by rw [z] at ho; cases ho), ?_⟩
        walk_at "pv all"
        refine wr_idx ho ?_
        refine ix_tup rfl (show (ef.map fm)[r.outs.idxOf o]? = some (fm F) by rw [List.getElem?_map, hF]; rfl) ?_
        walk_at "pv all"
        refine times_ok _ _ _ F (mok_sg hsg) (by omega) _ ?_
        walk_at "pv all"
        refine frz_lst (ds := [.tuple [.int 1, .int (b.e.pt : Int), idF (pn r b.e.pt)]]) rfl end_get ?_
        rw [end_set, po_new]
        walk_at "pv all"
        refine ⟨rcv_lst (po_get (j := 0) (os := Ob.lst (cs.map Val.d) :: os ++ [.dead]) rfl), ?_⟩
        walk_at "pv all"
        refine ix_list rfl hh ?_
        walk_at "pv all"
        refine app_end (po_get (j := 0) (os := Ob.lst (cs.map Val.d) :: os ++ [.dead]) rfl) (by rw [List.length_map]; omega) ?_
        walk_at "pv all"
        refine ⟨_, _, _, _, rfl, os ++ [.dead], ?_⟩
        rw [show mh.length = mh.length + 0 from rfl, po_set, List.map_append]
        rfl
    · rw [if_neg (by omega), List.append_nil]
      walk_at "pv all"
      exact ⟨_, _, _, _, rfl, _, rfl⟩
  · obtain ⟨a7, a8, a9, a10, rfl, os, rfl⟩ := I
    rw [List.take_length]
    refine thenS_nx ?_
    refine frz_lst rfl (po_get (j := 0) (os := Ob.lst (((als S).flatMap (bcAt S r p (r.outs.idxOf o) sg)).map Val.d) :: os) rfl) ?_
    rw [show mh.length = mh.length + 0 from rfl, po_set]
    walk_at "pv all"
    refine ix_tup (j := 0) rfl rfl ?_
    walk_at "pv all"
    refine ix_tup rfl (row_ix hr) ?_
    walk_at "pv all"
    refine ix_tup (j := 3) rfl rfl ?_
    walk_at "pv all"
    refine rg1 (n := r.nests.length) (by rw [List.length_map]) (by omega) ?_
    rw [rg_map]
    refine wc_map (r := fun i => Val.d (strT (pn r i))) gnil (fun i hi => ?_) ?_
    · walk_at "pv all"
      refine namesat_ok _ _ hr (by omega) _ _ ?_
      exact ⟨rfl, rfl⟩
    refine wr_nl (ds := (List.range r.nests.length).map fun i => strT (pn r i)) (by rw [List.map_map]; rfl) ?_
    walk_at "pv all"
    exact q
theorem bound_ok (ok : SyOk S) {lv : List Dt} (lo : LvOk S lv) (k : Nat) (mh : List Ob) {p : Nat} {r : Rw} (hr : S.rows[p]? = some r) {o : Str} (ho : o ∈ r.outs) {sg : Int} (hsg : sg = 1 ∨ sg = -1) (Q : Val → List Ob → Prop) (q : Q (.d (probB S r p (r.outs.idxOf o) sg)) mh) :
    W (callP P gl (k + 5) 13 [.d (sysd S), .d (lowrd S), .d (facd S), .d (.tuple lv), .d (.int (p : Int)), .d (.str o), .d (.int sg)]) mh Q := by
  refine w_pure (nm := f13.name) (ps := f13.ps) (N := f13.N) (body := f13.body) (env := [some (.d (sysd S)), some (.d (lowrd S)), some (.d (facd S)), some (.d (.tuple lv)), some (.d (.int (p : Int))), some (.d (.str o)), some (.d (.int sg))]) rfl rfl ?_
  unfold f13
  walk_at "pv all"
  refine allhyps_ok ok _ _ _ ?_
  walk_at "pv all"
  refine mbound_ok ok lo _ _ hr ho hsg _ ?_
  walk_at "pv all"
  exact q
end
end PvK

namespace PvK
open PySem PySem.Spec PyProof.Rows L2 Pv
/-! the law's own bound problem -/
theorem idx_filter {o : Str} : ∀ {xs : List Str}, o ∈ xs → ∃ ys, (List.range xs.length).filter (fun i => decide (xs[i]? = some o)) = xs.idxOf o :: ys
  | x :: xs, h => by
    rw [List.length_cons, List.range_succ_eq_map, List.filter_cons]
    by_cases e : x = o
    · subst e
      exact ⟨_, by rw [if_pos (by simp), List.idxOf_cons_self]⟩
    · have h' : o ∈ xs := (List.mem_cons.mp h).resolve_left fun z => e z.symm
      obtain ⟨ys, hy⟩ := idx_filter h'
      refine ⟨ys.map Nat.succ, ?_⟩
      rw [if_neg (by simpa using e), List.filter_map]
      have h2 : ((fun i => decide ((x :: xs)[i]? = some o)) ∘ Nat.succ) = fun i => decide (xs[i]? = some o) := by
        funext i
        show decide ((x :: xs)[i + 1]? = some o) = _
        rw [List.getElem?_cons_succ]
      have h3 : (x == o) = false := by simpa using e
      rw [h2, hy, List.idxOf_cons, h3]
      rfl
section
variable {S : Sy}
theorem tg_neg (ok : SyOk S) {b : Bt} (hb : b ∈ S.bts) (h : ¬ 0 ≤ tgP b.e) : tgP b.e = -1 := by
  obtain ⟨kk, r2, hr2, bo⟩ := ok.bt b hb
  have ed := bo.ed
  cases hbe : b.e with
  | call p pt hs id as => rw [hbe] at h; exact absurd (show 0 ≤ (pt : Int) + 1 by omega) h
  | step p pt tg wt hs ef af =>
    rw [hbe] at ed h
    have h3 := ed.2.2.1
    rcases h3 with ⟨h1, _⟩ | ⟨j, h1, _⟩
    · exact h1
    · exact absurd (show 0 ≤ tg by omega) h
theorem tgI_len (ok : SyOk S) {b : Bt} (hb : b ∈ S.bts) {r : Rw} (hr : S.rows[b.e.pr]? = some r) : (tgI r b.e).length ≤ 12 := by
  obtain ⟨kk, r2, hr2, bo⟩ := ok.bt b hb
  obtain ⟨rx, v, hv, ro⟩ := ok.row _ _ hr
  have hstl := ro.sl
  have e1 := bo.ed.pr.1
  rw [e1, hr2] at hr
  cases hr
  have hol := ro.ol
  have ed := bo.ed
  cases hbe : b.e with
  | call => unfold tgI idL; rw [List.length_map]; omega
  | step p pt tg wt hs ef af =>
    rw [hbe] at ed
    have h3 := ed.2.2.1
    show (ef.map fm).length ≤ 12
    rw [List.length_map]
    rcases h3 with ⟨_, h⟩ | ⟨_, _, _, _, h⟩ <;> omega
theorem lbound_ok (ok : SyOk S) (k : Nat) (mh : List Ob) {p : Nat} {r : Rw} (hr : S.rows[p]? = some r) {o : Str} (ho : o ∈ r.outs) {sg : Int} (hsg : sg = 1 ∨ sg = -1) (Q : Val → List Ob → Prop) (q : Q (.d (probB S r p (r.outs.idxOf o) sg)) mh) :
    W (callP P gl (k + 3) 44 [.d (sysd S), .d (.list (S.bts.map fun b => fms (hypsF S b))), .d (.list ((als S).map fun (i : Nat) => .int (i : Int))), .d (.int (p : Int)), .d (.str o), .d (.int sg)]) mh Q := by
  refine w_pure (nm := f44.name) (ps := f44.ps) (N := f44.N) (body := f44.body) (env := [some (.d (sysd S)), some (.d (.list (S.bts.map fun b => fms (hypsF S b)))), some (.d (.list ((als S).map fun (i : Nat) => .int (i : Int)))), some (.d (.int (p : Int))), some (.d (.str o)), some (.d (.int sg)), none, none, none, none, none, none, none, none, none]) rfl rfl ?_
  have hsl : sizeLine = 16777216 := rfl
  obtain ⟨rx, v, hv, ro⟩ := ok.row _ _ hr
  have hil := ro.il
  have hstl := ro.sl
  have hol := ro.ol
  have hnp := ro.np
  have hal := als_len ok
  unfold f44
  walk_at "pv all"
  refine ix_tup (j := 0) rfl rfl ?_
  walk_at "pv all"
  refine ix_tup rfl (row_ix hr) ?_
  walk_at "pv all"
  refine ix_tup (j := 4) rfl rfl ?_
  walk_at "pv all"
  refine rg1 (n := r.outs.length) (by rw [List.length_map]) (by omega) ?_
  rw [rg_map]
  refine wc_filter (p := fun i : Nat => decide (r.outs[i]? = some o)) (r := fun i => Val.d (.int (i : Int))) gnil (fun i hi => ?_) ?_
  · have hi2 : i < r.outs.length := List.mem_range.mp hi
    have hx : r.outs[i]? = some r.outs[i] := List.getElem?_eq_getElem hi2
    generalize r.outs[i] = x at hx
    walk_at "pv all"
    refine ix_tup (j := 4) rfl rfl ?_
    walk_at "pv all"
    refine ix_tup rfl (show (r.outs.map PyData.str)[i]? = some (.str x) by rw [List.getElem?_map, hx]; rfl) ?_
    walk_at "pv all"
    refine cs_eq (fun h => ?_) (fun h => ?_)
    · refine ⟨by rw [hx, h]; simp, rfl, fun _ => ?_⟩
      walk_at "pv all"
      exact ⟨rfl, rfl⟩
    · refine ⟨?_, rfl, fun z => nomatch z⟩
      rw [hx]
      exact (decide_eq_false fun z => h (Option.some.inj z)).symm
  obtain ⟨ys, hys⟩ := idx_filter ho
  rw [hys]
  refine wr_nl (ds := (r.outs.idxOf o :: ys).map fun (i : Nat) => .int (i : Int)) (by rw [List.map_map]; rfl) ?_
  walk_at "pv all"
  refine ix_list (j := 0) rfl rfl ?_
  walk_at "pv all"
  refine ix_L ?_
  refine wl_invL (fun i e m => ∃ (a9 a10 a11 a12 : Option Val), e = [some (.d (sysd S)), some (.d (.list (S.bts.map fun b => fms (hypsF S b)))), some (.d (.list ((als S).map fun (i : Nat) => .int (i : Int)))), some (.d (.int (p : Int))), some (.d (.str o)), some (.d (.int sg)), some (.d (rowd r)), some (.d (.int ((r.outs.idxOf o : Nat) : Int))), some (.ref mh.length), a9, a10, a11, a12, none, none] ∧ m = mh ++ [.lst ((((als S).take i).flatMap (bcAt S r p (r.outs.idxOf o) sg)).map Val.d)]) ⟨none, none, none, none, rfl, rfl⟩ (fun i j e m hj I => ?_) (fun e m I => ?_)
  · obtain ⟨a9, a10, a11, a12, rfl, rfl⟩ := I
    have hi := (List.getElem?_eq_some_iff.mp hj).1
    obtain ⟨b, hb, hb0⟩ := als_mem (List.mem_of_getElem? hj)
    have hcl : (((als S).take i).flatMap (bcAt S r p (r.outs.idxOf o) sg)).length ≤ 120 := by
      have := flat_le (f := bcAt S r p (r.outs.idxOf o) sg) (n := 1) (xs := (als S).take i) fun x _ => bcAt_len S r p _ sg x
      rw [List.length_take] at this
      omega
    rw [bc_snoc hj hb]
    generalize ((als S).take i).flatMap (bcAt S r p (r.outs.idxOf o) sg) = cs at hcl
    have hh : (S.bts.map fun b => fms (hypsF S b))[j]? = some (fms (hypsF S b)) := by rw [List.getElem?_map, hb]; rfl
    obtain ⟨x4, x6, x7, ee, hst, hca⟩ := edd_all b.e
    have hbi := bt_ix hb
    rw [ee] at hbi
    walk_at "pv all"
    refine ix_tup (j := 1) rfl rfl ?_
    walk_at "pv all"
    refine ix_tup rfl hbi ?_
    walk_at "pv all"
    refine ix_tup (j := 1) rfl rfl ?_
    walk_at "pv all"
    refine ci_eq (fun h => ?_) (fun h => ?_)
    · have hpr : b.e.pr = p := by omega
      subst hpr
      rw [if_pos rfl]
      have htl := tgI_len ok (List.mem_of_getElem? hb) hr
      walk_at "pv all"
      refine ix_tup (j := 2) rfl rfl ?_
      walk_at "pv all"
      refine ix_tup (j := 2) rfl rfl ?_
      walk_at "pv all"
      refine lnamesat_ok _ _ hr (by omega) _ _ ?_
      walk_at "pv all"
      refine lident_ok _ _ _ _ ?_
      walk_at "pv all"
      refine ix_tup (j := 2) rfl rfl ?_
      walk_at "pv all"
      refine lident_ok _ _ _ _ ?_
      walk_at "pv all"
      refine ix_tup (j := 0) rfl rfl ?_
      walk_at "pv all"
      unfold bcond
      refine cs_eq (fun hk => ?_) (fun hk => ?_)
      · obtain ⟨p1, pt1, tg1, wt1, hs1, ef, af1, he, rfl, g1, g2⟩ := hst hk
        walk_at "pv all"
        refine ix_tup (j := 6) rfl rfl ?_
        walk_at "pv all"
        refine ix_tup (j := 3) rfl rfl ?_
        walk_at "pv all"
        refine ci_eq (fun h3 => ?_) (fun h3 => ?_)
        · have h3n : ¬ 0 ≤ tgP b.e := by omega
          rw [if_neg h3n]
          obtain ⟨f1, f2, f3⟩ := ef_len ok (List.mem_of_getElem? hb) hr he
          have f2 := f2 (by rw [he] at h3n; exact Int.not_le.mp h3n)
          have hix : r.outs.idxOf o < ef.length := by rw [f2]; exact List.idxOf_lt_length_iff.mpr ho
          have hF : ef[r.outs.idxOf o]? = some ef[r.outs.idxOf o] := List.getElem?_eq_getElem hix
          have hg : ef.getD (r.outs.idxOf o) (0, []) = ef[r.outs.idxOf o] := by rw [List.getD_eq_getElem?_getD, hF]; rfl
          have hFl := (f1 _ (List.mem_of_getElem? hF))
          rw [g2, hg]
          generalize ef[r.outs.idxOf o] = F at hF hFl
          have hs0 : -sg ≠ 0 := by rcases hsg with rfl | rfl <;> decide
          walk_at "pv all"
          refine ⟨rcv_lst end_get, ?_⟩
          walk_at "pv all"
          refine ix_list rfl hh ?_
          walk_at "pv all"
          refine ix_tup (j := 6) rfl rfl ?_
          walk_at "pv all"
          refine ix_tup rfl (show (ef.map fm)[r.outs.idxOf o]? = some (fm F) by rw [List.getElem?_map, hF]; rfl) ?_
          walk_at "pv all"
          refine sum_ok _ _ [(-sg, F)] (fun q hq => by rw [List.mem_singleton.mp hq]; exact mok_sg hsg) (by show ((F.2.map _) ++ []).length < 64; rw [List.append_nil, List.length_map]; omega) (by show 1 < 1000; decide) _ ?_
          rw [sum_times hs0 hFl.1]
          walk_at "pv all"
          refine app_end end_get (by rw [List.length_map]; omega) ?_
          rw [end_set]
          walk_at "pv all"
          refine ⟨_, _, _, _, rfl, ?_⟩
          rw [List.map_append]
          rfl
        · have h3p : 0 ≤ tgP b.e := Classical.byContradiction fun z => h3 (tg_neg ok (List.mem_of_getElem? hb) z)
          rw [if_pos h3p]
          rw [g1 r] at htl ⊢
          walk_at "pv all"
          refine ⟨rcv_lst end_get, ?_⟩
          walk_at "pv all"
          refine ix_list rfl hh ?_
          walk_at "pv all"
          refine ix_tup (j := 3) rfl rfl ?_
          walk_at "pv all"
          refine ix_tup (j := 1) rfl rfl ?_
          walk_at "pv all"
          refine lident_ok _ _ _ _ ?_
          walk_at "pv all"
          refine wr_addT (by rw [List.length_map, List.length_map] at *; omega) ?_
          walk_at "pv all"
          refine app_end end_get (by rw [List.length_map]; omega) ?_
          rw [end_set]
          walk_at "pv all"
          refine ⟨_, _, _, _, rfl, ?_⟩
          rw [List.map_append]
          rfl
      · obtain ⟨_, g1, h3p⟩ := hca hk
        rw [if_pos h3p]
        rw [g1 r] at htl ⊢
        walk_at "pv all"
        refine ix_tup (j := 3) rfl rfl ?_
        walk_at "pv all"
        refine ci_eq (fun h3 => absurd h3p (by omega)) (fun h3 => ?_)
        walk_at "pv all"
        refine ⟨rcv_lst end_get, ?_⟩
        walk_at "pv all"
        refine ix_list rfl hh ?_
        walk_at "pv all"
        refine ix_tup (j := 3) rfl rfl ?_
        walk_at "pv all"
        refine ix_tup (j := 1) rfl rfl ?_
        walk_at "pv all"
        refine lident_ok _ _ _ _ ?_
        walk_at "pv all"
        refine wr_addT (by rw [List.length_map, List.length_map]; omega) ?_
        walk_at "pv all"
        refine app_end end_get (by rw [List.length_map]; omega) ?_
        rw [end_set]
        walk_at "pv all"
        refine ⟨_, _, _, _, rfl, ?_⟩
        rw [List.map_append]
        rfl
    · rw [if_neg (by omega), List.append_nil]
      walk_at "pv all"
      exact ⟨_, _, _, _, rfl, rfl⟩
  · obtain ⟨a9, a10, a11, a12, rfl, rfl⟩ := I
    rw [List.take_length]
    refine thenS_nx ?_
    refine frz_lst rfl end_get ?_
    rw [end_set]
    walk_at "pv all"
    refine ix_tup (j := 3) rfl rfl ?_
    walk_at "pv all"
    refine rg1 (n := r.nests.length) (by rw [List.length_map]) (by omega) ?_
    rw [rg_map]
    refine wc_map (r := fun i => Val.d (strT (pn r i))) gnil (fun i hi => ?_) ?_
    · walk_at "pv all"
      refine lnamesat_ok _ _ hr (by omega) _ _ ?_
      exact ⟨rfl, rfl⟩
    refine wr_nl (ds := (List.range r.nests.length).map fun i => strT (pn r i)) (by rw [List.map_map]; rfl) ?_
    walk_at "pv all"
    exact q
end
end PvK

namespace PvK
open PySem PySem.Spec PyProof.Rows L2 Pv
/-! the problem is plain data -/
theorem pl_strT {xs : List Str} (h : xs.length ≤ 100) : Pl 1 (strT xs) := pl_T (by rw [List.length_map]; omega) fun x hx => by
  obtain ⟨y, _, rfl⟩ := List.mem_map.mp hx
  exact pl_str _
theorem pl_idL {xs : List Str} : ∀ x ∈ idL xs, Pl 3 x := fun x hx => by
  obtain ⟨y, _, rfl⟩ := List.mem_map.mp hx
  exact pl_fm (by show 1 ≤ 60; decide)
theorem pl_nil {n : Nat} : Pl (n + 1) (.tuple []) := pl_T (xs := []) (by simp) fun x h => absurd h List.not_mem_nil
theorem pl_one {n : Nat} {a : Dt} (ha : Pl n a) : Pl (n + 1) (.tuple [a]) := pl_T (by simp) fun x hx => by
  rw [List.mem_singleton.mp hx]; exact ha
theorem pl_four {n : Nat} {a b c d : Dt} (ha : Pl n a) (hb : Pl n b) (hc : Pl n c) (hd : Pl n d) : Pl (n + 1) (.tuple [a, b, c, d]) := pl_T (by simp) fun x hx => by
  rcases List.mem_cons.mp hx with rfl | hx
  · exact ha
  · rcases List.mem_cons.mp hx with rfl | hx
    · exact hb
    · rcases List.mem_cons.mp hx with rfl | hx
      · exact hc
      · rw [List.mem_singleton.mp hx]; exact hd
section
variable {S : Sy}
theorem pl_hyp (ok : SyOk S) {b : Bt} (hb : b ∈ S.bts) : Pl 6 (fms (hypsF S b)) := Pl.mono (n := 4) (pl_T (by rw [List.length_map]; have := (hyps_names ok hb).2; omega) fun x hx => by
  obtain ⟨F, hF, rfl⟩ := List.mem_map.mp hx
  exact pl_fm (by have := hyps_len ok hb F hF; omega)) (by decide)
theorem pn_len {r : Rw} {t : List (Str × Int)} (ro : RwOk r t) (i : Nat) : (pn r i).length ≤ 100 := by
  have := ro.il
  have := ro.sl
  unfold pn
  split
  · omega
  · rw [List.length_append]; omega
theorem times_len (c : Int) (F : Fm) : (timesF c F).2.length ≤ F.2.length := by
  unfold timesF
  split
  · exact Nat.zero_le _
  · show (F.2.map _).length ≤ _
    rw [List.length_map]; exact Nat.le_refl _
theorem pl_tgI (ok : SyOk S) {b : Bt} (hb : b ∈ S.bts) {r : Rw} (hr : S.rows[b.e.pr]? = some r) : ∀ x ∈ tgI r b.e, Pl 3 x := by
  cases hbe : b.e with
  | call => exact pl_idL
  | step p pt tg wt hs ef af =>
    intro x hx
    obtain ⟨F, hF, rfl⟩ := List.mem_map.mp (show x ∈ ef.map fm from hx)
    have := ((ef_len ok hb hr hbe).1 F hF).2
    exact pl_fm (by omega)
theorem pl_knF (ok : SyOk S) {b : Bt} (hb : b ∈ S.bts) {r : Rw} (hr : S.rows[b.e.pr]? = some r) (a : Nat) (sg : Int) : Pl 3 (fm (knF a sg b.e)) := by
  refine pl_fm ?_
  cases hbe : b.e with
  | call => show 0 ≤ 60; decide
  | step p pt tg wt hs ef af =>
    refine Nat.le_trans (times_len _ _) ?_
    rw [List.getD_eq_getElem?_getD]
    cases hx : ef[a]? with
    | none => show 0 ≤ 60; decide
    | some F =>
      have := ((ef_len ok hb hr hbe).1 F (List.mem_of_getElem? hx)).2
      show F.2.length ≤ 60
      omega
theorem pl_bcond (ok : SyOk S) {b : Bt} (hb : b ∈ S.bts) {r : Rw} (hr : S.rows[b.e.pr]? = some r) (a : Nat) (sg : Int) : Pl 7 (bcond S r a sg b) := by
  obtain ⟨_, v, hv, ro⟩ := ok.row _ _ hr
  have hil := ro.il
  have htl := tgI_len ok hb hr
  have h1 : Pl 5 (.tuple [.int 1, .int (b.e.pt : Int), idF (pn r b.e.pt)]) := pl_three (pl_int _) (pl_int _) (pl_T (by rw [List.length_map]; have := pn_len ro b.e.pt; omega) pl_idL)
  have hz : Pl 2 zeroD := pl_two (n := 1) (pl_int _) (pl_nil (n := 0))
  unfold bcond
  split
  · refine pl_four (pl_hyp ok hb) (pl_two h1 (pl_three (pl_int _) (pl_int _) (pl_T (by rw [List.length_append, List.length_map]; omega) fun x hx => ?_))) (hz.mono (by decide)) (pl_int _)
    rcases List.mem_append.mp hx with hx | hx
    · exact pl_idL x hx
    · exact pl_tgI ok hb hr x hx
  · exact pl_four (pl_hyp ok hb) ((pl_one h1).mono (by decide)) ((pl_knF ok hb hr a sg).mono (by decide)) (pl_int _)
theorem pl_probB (ok : SyOk S) {p : Nat} {r : Rw} (hr : S.rows[p]? = some r) (a : Nat) (sg : Int) : Pl 9 (probB S r p a sg) := by
  obtain ⟨_, v, hv, ro⟩ := ok.row _ _ hr
  have hnp := ro.np
  have hal := als_len ok
  refine pl_three ?_ ?_ ?_
  · refine Pl.mono (n := 2) (pl_T (by rw [List.length_map, List.length_range]; omega) fun x hx => ?_) (by decide)
    obtain ⟨i, _, rfl⟩ := List.mem_map.mp hx
    exact pl_strT (pn_len ro i)
  · refine pl_T ?_ fun x h0 => ?_
    · have := flat_le (f := bcAt S r p a sg) (n := 1) (xs := als S) fun x _ => bcAt_len S r p _ sg x
      omega
    · obtain ⟨i, hi, h1⟩ := List.mem_flatMap.mp h0
      obtain ⟨b, hb, _⟩ := als_mem hi
      unfold bcAt at h1
      rw [hb] at h1
      have h2 : x ∈ (if b.e.pr = p then [bcond S r a sg b] else []) := h1
      by_cases h : b.e.pr = p
      · rw [if_pos h] at h2
        rw [List.mem_singleton.mp h2]
        exact pl_bcond ok (List.mem_of_getElem? hb) (by rw [h]; exact hr) a sg
      · rw [if_neg h] at h2; cases h2
  · exact Pl.mono (n := 2) (pl_one (pl_two (n := 0) (pl_int _) (pl_int _))) (by decide)
end
end PvK

namespace PvK
open PySem PySem.Spec PyProof.Rows L2 Pv
/-! the law -/
def tlS : Ss → Ss
  | .cons _ s => s
  | s => s
abbrev datR (S : Sy) (lv : List Dt) : Dt := .tuple [sysd S, lowrd S, facd S, .tuple lv]
theorem sz_dat {S : Sy} (ok : SyOk S) {lv : List Dt} (lo : LvOk S lv) : Sz 240000 12 (datR S lv) :=
  (sz_tup (m := 11) (sz_cons ((sz_sys ok).up (Nat.le_refl _) (by decide)) (sz_cons ((sz_low ok).up (Nat.le_refl _) (by decide)) (sz_cons ((sz_fac ok).up (Nat.le_refl _) (by decide)) (sz_cons ((sz_lives ok lo).up (Nat.le_refl _) (by decide)) sz_nil))))).up (by decide) (by decide)
abbrev hyD (S : Sy) : Dt := .list (S.bts.map fun b => fms (hypsF S b))
theorem law_tail (ns : List Int) (mo : Nat) (hmo : 1 ≤ mo ∧ mo ≤ 5) (s1 : Ds) (R : Fl → List Ob → Prop) (hR : ∀ m, R (.rt (.d (.bool true))) m) :
    WS gl (callP P gl 59) (tlS (tlS (tlS f45.body))) [some (.d (.list (ns.map PyData.int))), some (.ref 0), some (.d (.int (mo : Int))), none, none, none, none, none, none, none, none, none, none, none, none, none, none] [St s1] R := by
  have hsl : sizeLine = 16777216 := rfl
  unfold f45 tlS
  walk_at "pv all"
  have hd1 := draw_ok 3 58 s1 [] (by decide) (by decide)
  refine hd1 _ fun c s2 c1 => ?_
  walk_at "pv all"
  have hs := system_ok true 51 s2 [] (1 + c) mo (by omega) hmo
  rw [show (1 : Int) + (c : Int) = ((1 + c : Nat) : Int) by omega]
  refine hs _ fun S s4 lv ok lo => ?_
  have hrl := ok.many
  have hbl := ok.btl
  walk_at "pv all"
  refine rg1 (n := S.bts.length) (by rw [lo.1]) (by omega) ?_
  rw [rg_map]
  refine wc_filter (p := alv S) (r := fun (i : Nat) => Val.d (.int (i : Int))) gnil (fun i hi => ?_) ?_
  · have hil := List.mem_range.mp hi
    have hb : S.bts[i]? = some S.bts[i] := List.getElem?_eq_getElem hil
    generalize S.bts[i] = b at hb
    obtain ⟨x, hx, _⟩ := lo.2 i b hb
    have ha : alv S i = decide (b.sh = 0) := by unfold alv; rw [hb]; rfl
    unfold lifed at hx
    rw [ha]
    walk_at "pv all"
    refine ix_tup rfl hx ?_
    walk_at "pv all"
    refine ix_tup (j := 0) rfl rfl ?_
    walk_at "pv all"
    refine cs_eq (fun h => ?_) (fun h => ?_)
    · refine ⟨?_, rfl, fun _ => ?_⟩
      · by_cases h0 : b.sh = 0
        · exact (decide_eq_true h0).symm
        · rw [if_neg h0] at h
          exact absurd h (show ¬ (Str.ofString "shut" = Str.ofString "alive") by decide +kernel)
      · walk_at "pv all"
        exact ⟨rfl, rfl⟩
    · refine ⟨?_, rfl, fun z => by cases z⟩
      by_cases h0 : b.sh = 0
      · rw [if_pos h0] at h; exact absurd rfl h
      · exact (decide_eq_false h0).symm
  refine wr_nl (ds := (als S).map fun (i : Nat) => .int (i : Int)) (by rw [List.map_map]; rfl) ?_
  walk_at "pv all"
  refine wr_repr (sz_dat ok lo) rfl (by decide) (by decide) ?_
  walk_at "pv all"
  refine rg1 (n := 4) rfl (by decide) ?_
  generalize heb : some (Val.d (.str (PyData.shown (datR S lv)))) = eB
  refine wl_invR (fun i e m => ∃ (s' : Ds) (a10 a11 a12 a13 a14 a15 a16 : Option Val), e = [some (.d (.list (ns.map PyData.int))), some (.ref 0), some (.d (.int (mo : Int))), some (.d (sysd S)), some (.d (lowrd S)), some (.d (facd S)), some (.d (.tuple lv)), some (.d (hyD S)), some (.d (.list ((als S).map fun (i : Nat) => .int (i : Int)))), eB, a10, a11, a12, a13, a14, a15, a16] ∧ m = [St s']) ⟨s4, _, _, _, _, _, _, _, rfl, rfl⟩ (fun i e m hi I => ?_) (fun e m I => ?_)
  · obtain ⟨s6, a10, a11, a12, a13, a14, a15, a16, rfl, rfl⟩ := I
    walk_at "pv all"
    refine ix_tup (j := 0) rfl rfl ?_
    walk_at "pv all"
    have hd3 := draw_ok S.rows.length 58 s6 [] (by omega) (by omega)
    rw [List.length_map]
    refine hd3 _ fun p s7 p1 => ?_
    have hr : S.rows[p]? = some S.rows[p] := List.getElem?_eq_getElem p1
    generalize S.rows[p] = r at hr
    obtain ⟨rx, _, _, ro⟩ := ok.row _ _ hr
    have hol := ro.ol
    have hoe := rx.one
    walk_at "pv all"
    refine ix_tup (j := 0) rfl rfl ?_
    walk_at "pv all"
    refine ix_tup rfl (row_ix hr) ?_
    walk_at "pv all"
    refine ix_tup (j := 4) rfl rfl ?_
    walk_at "pv all"
    have hd4 := draw_ok r.outs.length 58 s7 [] (by omega) (by omega)
    rw [List.length_map]
    refine hd4 _ fun d s8 d1 => ?_
    have hx : r.outs[d]? = some r.outs[d] := List.getElem?_eq_getElem d1
    generalize r.outs[d] = o at hx
    have ho := List.mem_of_getElem? hx
    walk_at "pv all"
    refine ix_tup rfl (show (r.outs.map PyData.str)[d]? = some (.str o) by rw [List.getElem?_map, hx]; rfl) ?_
    walk_at "pv all"
    refine ix_L (xs := [(1 : Int), -1]) (em := fun i : Int => .int i) ?_
    refine wl_invL (fun j e m => ∃ (a14 a15 : Option Val), e = [some (.d (.list (ns.map PyData.int))), some (.ref 0), some (.d (.int (mo : Int))), some (.d (sysd S)), some (.d (lowrd S)), some (.d (facd S)), some (.d (.tuple lv)), some (.d (hyD S)), some (.d (.list ((als S).map fun (i : Nat) => .int (i : Int)))), eB, some (.d (.int (i : Int))), some (.d (.int (p : Int))), some (.d (strT r.outs)), some (.d (.str o)), a14, a15, a16] ∧ m = [St s8]) ⟨_, _, rfl, rfl⟩ (fun j sg e m hj I => ?_) (fun e m I => ?_)
    · obtain ⟨a14, a15, rfl, rfl⟩ := I
      have hsg : sg = 1 ∨ sg = -1 := by
        have := List.mem_of_getElem? hj
        simpa using this
      walk_at "pv all"
      have hlb := lbound_ok ok 56 [St s8] hr ho hsg
      refine hlb _ ?_
      walk_at "pv all"
      have hpb := bound_ok ok lo 54 [St s8] hr ho hsg
      refine hpb _ ?_
      walk_at "pv all"
      refine same_ok 9 _ 48 _ _ (pl_probB ok hr _ _) ?_
      refine ⟨_, rfl, ?_⟩
      refine pick_f ?_
      walk_at "pv all"
      exact ⟨_, _, rfl, rfl⟩
    · obtain ⟨a14, a15, rfl, rfl⟩ := I
      walk_at "pv all"
      exact ⟨s8, _, _, _, _, _, _, _, rfl, rfl⟩
  · obtain ⟨s6, a10, a11, a12, a13, a14, a15, a16, rfl, rfl⟩ := I
    subst heb
    walk_at "pv all"
    refine wr_repr (sz_dat ok lo) rfl (by decide) (by decide) ?_
    walk_at "pv all"
    have := hR [St s6]
    rw [show true = decide ((PyData.tuple [sysd S, lowrd S, facd S, PyData.tuple lv]).shown = PyData.shown (datR S lv)) from (decide_eq_true rfl).symm] at this
    exact this
theorem law_true (ns : List Int) (hns : ns.length ≤ 63) : ∃ mh', callP P gl 60 45 [.d (.list (ns.map PyData.int))] [] = some (.d (.bool true), mh') := by
  suffices h : W (callP P gl 60 45 [.d (.list (ns.map PyData.int))]) [] fun v _ => v = .d (.bool true) by
    obtain ⟨v, mh', e, rfl⟩ := h
    exact ⟨mh', e⟩
  refine w_call (d := f45) rfl (w_body ?_)
  show WS gl (callP P gl 59) f45.body [some (.d (.list (ns.map PyData.int))), none, none, none, none, none, none, none, none, none, none, none, none, none, none, none, none] [] _
  have hsl : sizeLine = 16777216 := rfl
  have ht := law_tail ns
  generalize hf : tlS (tlS (tlS f45.body)) = rest at ht
  have hcut : f45.body = (match f45.body with | .cons a (.cons b (.cons c _)) => .cons a (.cons b (.cons c rest)) | s => s) := by rw [← hf]; rfl
  rw [hcut]
  unfold f45
  simp only
  walk_at "pv all"
  refine start_ok 58 ns _ ?_
  walk_at "pv all"
  have hd0 := draw_ok 8 58 ⟨ns, 0, 0, 0⟩ [] (by decide) (by decide)
  refine hd0 _ fun c s1 c1 => ?_
  walk_at "pv all"
  refine ci_eq (fun h => ?_) (fun h => ?_)
  · walk_at "pv all"
    exact ht 5 (by decide) s1 _ fun m => ⟨_, .inl rfl, trivial, rfl⟩
  · walk_at "pv all"
    exact ht 3 (by decide) s1 _ fun m => ⟨_, .inl rfl, trivial, rfl⟩
end PvK

set_option maxHeartbeats 0
namespace PvK
open PySem PySem.Spec PyProof.Rows L2 Pv
def top (i : Nat) : Stmt := PySem.Challenge.pw_spentwithin_k54_bound_problem.main.body.getD i (.Pass ⟨0, 0, 0, 0⟩)
theorem m0 : mSs (tbOf P bs gl false false cs) f0.N f0.body (defScope (top 2)) (fun _ => true) (defBody (top 2)) = true := by decide +kernel
theorem s0 : FnScope f0.N f0.ps (defScope (top 2)) := ⟨rfl, rfl, rfl, by decide +kernel, rfl, by decide +kernel, by decide +kernel⟩
theorem m1 : mSs (tbOf P bs gl false false cs) f1.N f1.body (defScope (top 3)) (fun _ => true) (defBody (top 3)) = true := by decide +kernel
theorem s1 : FnScope f1.N f1.ps (defScope (top 3)) := ⟨rfl, rfl, rfl, by decide +kernel, rfl, by decide +kernel, by decide +kernel⟩
theorem m2 : mSs (tbOf P bs gl false false cs) f2.N f2.body (defScope (top 4)) (fun _ => true) (defBody (top 4)) = true := by decide +kernel
theorem s2 : FnScope f2.N f2.ps (defScope (top 4)) := ⟨rfl, rfl, rfl, by decide +kernel, rfl, by decide +kernel, by decide +kernel⟩
theorem m3 : mSs (tbOf P bs gl false false cs) f3.N f3.body (defScope (top 5)) (fun _ => true) (defBody (top 5)) = true := by decide +kernel
theorem s3 : FnScope f3.N f3.ps (defScope (top 5)) := ⟨rfl, rfl, rfl, by decide +kernel, rfl, by decide +kernel, by decide +kernel⟩
theorem m4 : mSs (tbOf P bs gl false false cs) f4.N f4.body (defScope (top 7)) (fun _ => true) (defBody (top 7)) = true := by decide +kernel
theorem s4 : FnScope f4.N f4.ps (defScope (top 7)) := ⟨rfl, rfl, rfl, by decide +kernel, rfl, by decide +kernel, by decide +kernel⟩
theorem m5 : mSs (tbOf P bs gl false false cs) f5.N f5.body (defScope (top 8)) (fun _ => true) (defBody (top 8)) = true := by decide +kernel
theorem s5 : FnScope f5.N f5.ps (defScope (top 8)) := ⟨rfl, rfl, rfl, by decide +kernel, rfl, by decide +kernel, by decide +kernel⟩
theorem m6 : mSs (tbOf P bs gl false false cs) f6.N f6.body (defScope (top 9)) (fun _ => true) (defBody (top 9)) = true := by decide +kernel
theorem s6 : FnScope f6.N f6.ps (defScope (top 9)) := ⟨rfl, rfl, rfl, by decide +kernel, rfl, by decide +kernel, by decide +kernel⟩
theorem m7 : mSs (tbOf P bs gl false false cs) f7.N f7.body (defScope (top 10)) (fun _ => true) (defBody (top 10)) = true := by decide +kernel
theorem s7 : FnScope f7.N f7.ps (defScope (top 10)) := ⟨rfl, rfl, rfl, by decide +kernel, rfl, by decide +kernel, by decide +kernel⟩
theorem m8 : mSs (tbOf P bs gl false false cs) f8.N f8.body (defScope (top 12)) (fun _ => true) (defBody (top 12)) = true := by decide +kernel
theorem s8 : FnScope f8.N f8.ps (defScope (top 12)) := ⟨rfl, rfl, rfl, by decide +kernel, rfl, by decide +kernel, by decide +kernel⟩
theorem m9 : mSs (tbOf P bs gl false false cs) f9.N f9.body (defScope (top 13)) (fun _ => true) (defBody (top 13)) = true := by decide +kernel
theorem s9 : FnScope f9.N f9.ps (defScope (top 13)) := ⟨rfl, rfl, rfl, by decide +kernel, rfl, by decide +kernel, by decide +kernel⟩
theorem m10 : mSs (tbOf P bs gl false false cs) f10.N f10.body (defScope (top 15)) (fun _ => true) (defBody (top 15)) = true := by decide +kernel
theorem s10 : FnScope f10.N f10.ps (defScope (top 15)) := ⟨rfl, rfl, rfl, by decide +kernel, rfl, by decide +kernel, by decide +kernel⟩
theorem m11 : mSs (tbOf P bs gl false false cs) f11.N f11.body (defScope (top 17)) (fun _ => true) (defBody (top 17)) = true := by decide +kernel
theorem s11 : FnScope f11.N f11.ps (defScope (top 17)) := ⟨rfl, rfl, rfl, by decide +kernel, rfl, by decide +kernel, by decide +kernel⟩
theorem m12 : mSs (tbOf P bs gl false false cs) f12.N f12.body (defScope (top 18)) (fun _ => true) (defBody (top 18)) = true := by decide +kernel
theorem s12 : FnScope f12.N f12.ps (defScope (top 18)) := ⟨rfl, rfl, rfl, by decide +kernel, rfl, by decide +kernel, by decide +kernel⟩
theorem m13 : mSs (tbOf P bs gl false false cs) f13.N f13.body (defScope (top 19)) (fun _ => true) (defBody (top 19)) = true := by decide +kernel
theorem s13 : FnScope f13.N f13.ps (defScope (top 19)) := ⟨rfl, rfl, rfl, by decide +kernel, rfl, by decide +kernel, by decide +kernel⟩
theorem m14 : mSs (tbOf P bs gl false false cs) f14.N f14.body (defScope (top 21)) (fun _ => true) (defBody (top 21)) = true := by decide +kernel
theorem s14 : FnScope f14.N f14.ps (defScope (top 21)) := ⟨rfl, rfl, rfl, by decide +kernel, rfl, by decide +kernel, by decide +kernel⟩
theorem m15 : mSs (tbOf P bs gl false false cs) f15.N f15.body (defScope (top 22)) (fun _ => true) (defBody (top 22)) = true := by decide +kernel
theorem s15 : FnScope f15.N f15.ps (defScope (top 22)) := ⟨rfl, rfl, rfl, by decide +kernel, rfl, by decide +kernel, by decide +kernel⟩
theorem m16 : mSs (tbOf P bs gl false false cs) f16.N f16.body (defScope (top 23)) (fun _ => true) (defBody (top 23)) = true := by decide +kernel
theorem s16 : FnScope f16.N f16.ps (defScope (top 23)) := ⟨rfl, rfl, rfl, by decide +kernel, rfl, by decide +kernel, by decide +kernel⟩
theorem m17 : mSs (tbOf P bs gl false false cs) f17.N f17.body (defScope (top 24)) (fun _ => true) (defBody (top 24)) = true := by decide +kernel
theorem s17 : FnScope f17.N f17.ps (defScope (top 24)) := ⟨rfl, rfl, rfl, by decide +kernel, rfl, by decide +kernel, by decide +kernel⟩
theorem m18 : mSs (tbOf P bs gl false false cs) f18.N f18.body (defScope (top 25)) (fun _ => true) (defBody (top 25)) = true := by decide +kernel
theorem s18 : FnScope f18.N f18.ps (defScope (top 25)) := ⟨rfl, rfl, rfl, by decide +kernel, rfl, by decide +kernel, by decide +kernel⟩
theorem m19 : mSs (tbOf P bs gl false false cs) f19.N f19.body (defScope (top 26)) (fun _ => true) (defBody (top 26)) = true := by decide +kernel
theorem s19 : FnScope f19.N f19.ps (defScope (top 26)) := ⟨rfl, rfl, rfl, by decide +kernel, rfl, by decide +kernel, by decide +kernel⟩
theorem m20 : mSs (tbOf P bs gl false false cs) f20.N f20.body (defScope (top 27)) (fun _ => true) (defBody (top 27)) = true := by decide +kernel
theorem s20 : FnScope f20.N f20.ps (defScope (top 27)) := ⟨rfl, rfl, rfl, by decide +kernel, rfl, by decide +kernel, by decide +kernel⟩
theorem m21 : mSs (tbOf P bs gl false false cs) f21.N f21.body (defScope (top 28)) (fun _ => true) (defBody (top 28)) = true := by decide +kernel
theorem s21 : FnScope f21.N f21.ps (defScope (top 28)) := ⟨rfl, rfl, rfl, by decide +kernel, rfl, by decide +kernel, by decide +kernel⟩
theorem m22 : mSs (tbOf P bs gl false false cs) f22.N f22.body (defScope (top 29)) (fun _ => true) (defBody (top 29)) = true := by decide +kernel
theorem s22 : FnScope f22.N f22.ps (defScope (top 29)) := ⟨rfl, rfl, rfl, by decide +kernel, rfl, by decide +kernel, by decide +kernel⟩
theorem m23 : mSs (tbOf P bs gl false false cs) f23.N f23.body (defScope (top 30)) (fun _ => true) (defBody (top 30)) = true := by decide +kernel
theorem s23 : FnScope f23.N f23.ps (defScope (top 30)) := ⟨rfl, rfl, rfl, by decide +kernel, rfl, by decide +kernel, by decide +kernel⟩
theorem m24 : mSs (tbOf P bs gl false false cs) f24.N f24.body (defScope (top 31)) (fun _ => true) (defBody (top 31)) = true := by decide +kernel
theorem s24 : FnScope f24.N f24.ps (defScope (top 31)) := ⟨rfl, rfl, rfl, by decide +kernel, rfl, by decide +kernel, by decide +kernel⟩
theorem m25 : mSs (tbOf P bs gl false false cs) f25.N f25.body (defScope (top 32)) (fun _ => true) (defBody (top 32)) = true := by decide +kernel
theorem s25 : FnScope f25.N f25.ps (defScope (top 32)) := ⟨rfl, rfl, rfl, by decide +kernel, rfl, by decide +kernel, by decide +kernel⟩
theorem m26 : mSs (tbOf P bs gl false false cs) f26.N f26.body (defScope (top 33)) (fun _ => true) (defBody (top 33)) = true := by decide +kernel
theorem s26 : FnScope f26.N f26.ps (defScope (top 33)) := ⟨rfl, rfl, rfl, by decide +kernel, rfl, by decide +kernel, by decide +kernel⟩
theorem m27 : mSs (tbOf P bs gl false false cs) f27.N f27.body (defScope (top 34)) (fun _ => true) (defBody (top 34)) = true := by decide +kernel
theorem s27 : FnScope f27.N f27.ps (defScope (top 34)) := ⟨rfl, rfl, rfl, by decide +kernel, rfl, by decide +kernel, by decide +kernel⟩
theorem m28 : mSs (tbOf P bs gl false false cs) f28.N f28.body (defScope (top 35)) (fun _ => true) (defBody (top 35)) = true := by decide +kernel
theorem s28 : FnScope f28.N f28.ps (defScope (top 35)) := ⟨rfl, rfl, rfl, by decide +kernel, rfl, by decide +kernel, by decide +kernel⟩
theorem m29 : mSs (tbOf P bs gl false false cs) f29.N f29.body (defScope (top 36)) (fun _ => true) (defBody (top 36)) = true := by decide +kernel
theorem s29 : FnScope f29.N f29.ps (defScope (top 36)) := ⟨rfl, rfl, rfl, by decide +kernel, rfl, by decide +kernel, by decide +kernel⟩
theorem m30 : mSs (tbOf P bs gl false false cs) f30.N f30.body (defScope (top 37)) (fun _ => true) (defBody (top 37)) = true := by decide +kernel
theorem s30 : FnScope f30.N f30.ps (defScope (top 37)) := ⟨rfl, rfl, rfl, by decide +kernel, rfl, by decide +kernel, by decide +kernel⟩
theorem m31 : mSs (tbOf P bs gl false false cs) f31.N f31.body (defScope (top 38)) (fun _ => true) (defBody (top 38)) = true := by decide +kernel
theorem s31 : FnScope f31.N f31.ps (defScope (top 38)) := ⟨rfl, rfl, rfl, by decide +kernel, rfl, by decide +kernel, by decide +kernel⟩
theorem m32 : mSs (tbOf P bs gl false false cs) f32.N f32.body (defScope (top 39)) (fun _ => true) (defBody (top 39)) = true := by decide +kernel
theorem s32 : FnScope f32.N f32.ps (defScope (top 39)) := ⟨rfl, rfl, rfl, by decide +kernel, rfl, by decide +kernel, by decide +kernel⟩
theorem m33 : mSs (tbOf P bs gl false false cs) f33.N f33.body (defScope (top 40)) (fun _ => true) (defBody (top 40)) = true := by decide +kernel
theorem s33 : FnScope f33.N f33.ps (defScope (top 40)) := ⟨rfl, rfl, rfl, by decide +kernel, rfl, by decide +kernel, by decide +kernel⟩
theorem m34 : mSs (tbOf P bs gl false false cs) f34.N f34.body (defScope (top 41)) (fun _ => true) (defBody (top 41)) = true := by decide +kernel
theorem s34 : FnScope f34.N f34.ps (defScope (top 41)) := ⟨rfl, rfl, rfl, by decide +kernel, rfl, by decide +kernel, by decide +kernel⟩
theorem m35 : mSs (tbOf P bs gl false false cs) f35.N f35.body (defScope (top 42)) (fun _ => true) (defBody (top 42)) = true := by decide +kernel
theorem s35 : FnScope f35.N f35.ps (defScope (top 42)) := ⟨rfl, rfl, rfl, by decide +kernel, rfl, by decide +kernel, by decide +kernel⟩
theorem m36 : mSs (tbOf P bs gl false false cs) f36.N f36.body (defScope (top 43)) (fun _ => true) (defBody (top 43)) = true := by decide +kernel
theorem s36 : FnScope f36.N f36.ps (defScope (top 43)) := ⟨rfl, rfl, rfl, by decide +kernel, rfl, by decide +kernel, by decide +kernel⟩
theorem m37 : mSs (tbOf P bs gl false false cs) f37.N f37.body (defScope (top 44)) (fun _ => true) (defBody (top 44)) = true := by decide +kernel
theorem s37 : FnScope f37.N f37.ps (defScope (top 44)) := ⟨rfl, rfl, rfl, by decide +kernel, rfl, by decide +kernel, by decide +kernel⟩
theorem m38 : mSs (tbOf P bs gl false false cs) f38.N f38.body (defScope (top 45)) (fun _ => true) (defBody (top 45)) = true := by decide +kernel
theorem s38 : FnScope f38.N f38.ps (defScope (top 45)) := ⟨rfl, rfl, rfl, by decide +kernel, rfl, by decide +kernel, by decide +kernel⟩
theorem m39 : mSs (tbOf P bs gl false false cs) f39.N f39.body (defScope (top 46)) (fun _ => true) (defBody (top 46)) = true := by decide +kernel
theorem s39 : FnScope f39.N f39.ps (defScope (top 46)) := ⟨rfl, rfl, rfl, by decide +kernel, rfl, by decide +kernel, by decide +kernel⟩
theorem m40 : mSs (tbOf P bs gl false false cs) f40.N f40.body (defScope (top 47)) (fun _ => true) (defBody (top 47)) = true := by decide +kernel
theorem s40 : FnScope f40.N f40.ps (defScope (top 47)) := ⟨rfl, rfl, rfl, by decide +kernel, rfl, by decide +kernel, by decide +kernel⟩
theorem m41 : mSs (tbOf P bs gl false false cs) f41.N f41.body (defScope (top 48)) (fun _ => true) (defBody (top 48)) = true := by decide +kernel
theorem s41 : FnScope f41.N f41.ps (defScope (top 48)) := ⟨rfl, rfl, rfl, by decide +kernel, rfl, by decide +kernel, by decide +kernel⟩
theorem m42 : mSs (tbOf P bs gl false false cs) f42.N f42.body (defScope (top 49)) (fun _ => true) (defBody (top 49)) = true := by decide +kernel
theorem s42 : FnScope f42.N f42.ps (defScope (top 49)) := ⟨rfl, rfl, rfl, by decide +kernel, rfl, by decide +kernel, by decide +kernel⟩
theorem m43 : mSs (tbOf P bs gl false false cs) f43.N f43.body (defScope (top 50)) (fun _ => true) (defBody (top 50)) = true := by decide +kernel
theorem s43 : FnScope f43.N f43.ps (defScope (top 50)) := ⟨rfl, rfl, rfl, by decide +kernel, rfl, by decide +kernel, by decide +kernel⟩
theorem m44 : mSs (tbOf P bs gl false false cs) f44.N f44.body (defScope (top 51)) (fun _ => true) (defBody (top 51)) = true := by decide +kernel
theorem s44 : FnScope f44.N f44.ps (defScope (top 51)) := ⟨rfl, rfl, rfl, by decide +kernel, rfl, by decide +kernel, by decide +kernel⟩
theorem m45 : mSs (tbOf P bs gl false true cs) f45.N f45.body (defScope (top 52)) (fun _ => true) (defBody (top 52)) = true := by decide +kernel
theorem s45 : FnScope f45.N f45.ps (defScope (top 52)) := ⟨rfl, rfl, rfl, by decide +kernel, rfl, by decide +kernel, by decide +kernel⟩
theorem all_mk {l : PySem.W.OpenLaw} {w : World} {K : PySem.W.Frag} {h : Heap} {mg : Str → Option Value} {fa g0 g1 g2 g3 g4 g5 g6 g7 g8 g9 g10 g11 g12 g13 g14 g15 g16 g17 g18 g19 g20 g21 g22 g23 g24 g25 g26 g27 g28 g29 g30 g31 g32 g33 g34 g35 g36 g37 g38 g39 g40 g41 g42 g43 g44 g45 : Addr} (X : K.In h) (G : h.Ns mainGlobals mg) (hfa : mg "law" = some (.ref fa))
    {od0 an0 od1 an1 od2 an2 od3 an3 od4 an4 od5 an5 od6 an6 od7 an7 od8 an8 od9 an9 od10 an10 od11 an11 od12 an12 od13 an13 od14 an14 od15 an15 od16 an16 od17 an17 od18 an18 od19 an19 od20 an20 od21 an21 od22 an22 od23 an23 od24 an24 od25 an25 od26 an26 od27 an27 od28 an28 od29 an29 od30 an30 od31 an31 od32 an32 od33 an33 od34 an34 od35 an35 od36 an36 od37 an37 od38 an38 od39 an39 od40 an40 od41 an41 od42 an42 od43 an43 od44 an44 od45 an45 : Option Addr} {sl0 sl1 sl2 sl3 sl4 sl5 sl6 sl7 sl8 sl9 sl10 sl11 sl12 sl13 sl14 sl15 sl16 sl17 sl18 sl19 sl20 sl21 sl22 sl23 sl24 sl25 sl26 sl27 sl28 sl29 sl30 sl31 sl32 sl33 sl34 sl35 sl36 sl37 sl38 sl39 sl40 sl41 sl42 sl43 sl44 sl45 : Array (Option Value)} {oc0 kV0 dc0 pm0 cd0 ct0 oc1 kV1 dc1 pm1 cd1 ct1 oc2 kV2 dc2 pm2 cd2 ct2 oc3 kV3 dc3 pm3 cd3 ct3 oc4 kV4 dc4 pm4 cd4 ct4 oc5 kV5 dc5 pm5 cd5 ct5 oc6 kV6 dc6 pm6 cd6 ct6 oc7 kV7 dc7 pm7 cd7 ct7 oc8 kV8 dc8 pm8 cd8 ct8 oc9 kV9 dc9 pm9 cd9 ct9 oc10 kV10 dc10 pm10 cd10 ct10 oc11 kV11 dc11 pm11 cd11 ct11 oc12 kV12 dc12 pm12 cd12 ct12 oc13 kV13 dc13 pm13 cd13 ct13 oc14 kV14 dc14 pm14 cd14 ct14 oc15 kV15 dc15 pm15 cd15 ct15 oc16 kV16 dc16 pm16 cd16 ct16 oc17 kV17 dc17 pm17 cd17 ct17 oc18 kV18 dc18 pm18 cd18 ct18 oc19 kV19 dc19 pm19 cd19 ct19 oc20 kV20 dc20 pm20 cd20 ct20 oc21 kV21 dc21 pm21 cd21 ct21 oc22 kV22 dc22 pm22 cd22 ct22 oc23 kV23 dc23 pm23 cd23 ct23 oc24 kV24 dc24 pm24 cd24 ct24 oc25 kV25 dc25 pm25 cd25 ct25 oc26 kV26 dc26 pm26 cd26 ct26 oc27 kV27 dc27 pm27 cd27 ct27 oc28 kV28 dc28 pm28 cd28 ct28 oc29 kV29 dc29 pm29 cd29 ct29 oc30 kV30 dc30 pm30 cd30 ct30 oc31 kV31 dc31 pm31 cd31 ct31 oc32 kV32 dc32 pm32 cd32 ct32 oc33 kV33 dc33 pm33 cd33 ct33 oc34 kV34 dc34 pm34 cd34 ct34 oc35 kV35 dc35 pm35 cd35 ct35 oc36 kV36 dc36 pm36 cd36 ct36 oc37 kV37 dc37 pm37 cd37 ct37 oc38 kV38 dc38 pm38 cd38 ct38 oc39 kV39 dc39 pm39 cd39 ct39 oc40 kV40 dc40 pm40 cd40 ct40 oc41 kV41 dc41 pm41 cd41 ct41 oc42 kV42 dc42 pm42 cd42 ct42 oc43 kV43 dc43 pm43 cd43 ct43 oc44 kV44 dc44 pm44 cd44 ct44 oc45 kV45 dc45 pm45 cd45 ct45 : Value} {v0 : V} {u0 : Value}
    (a0 : PySem.W.nsIn K mainGlobals "form" = some (some (.ref g0))) (l0 : K.lookup g0 = some ⟨oc0, od0, .func (PySem.W.fnOf "form" "form" (defArgs (top 2)) (defBody (top 2)) (defScope (top 2)) .none kV0 dc0 pm0 an0 cd0 ct0), sl0⟩) (c0 : PySem.W.codeIn K cd0 "form" = true) (k0 : PySem.W.keepIn K (.ref g0) = true)
    (a1 : PySem.W.nsIn K mainGlobals "variable" = some (some (.ref g1))) (l1 : K.lookup g1 = some ⟨oc1, od1, .func (PySem.W.fnOf "variable" "variable" (defArgs (top 3)) (defBody (top 3)) (defScope (top 3)) .none kV1 dc1 pm1 an1 cd1 ct1), sl1⟩) (c1 : PySem.W.codeIn K cd1 "variable" = true) (k1 : PySem.W.keepIn K (.ref g1) = true)
    (a2 : PySem.W.nsIn K mainGlobals "times" = some (some (.ref g2))) (l2 : K.lookup g2 = some ⟨oc2, od2, .func (PySem.W.fnOf "times" "times" (defArgs (top 4)) (defBody (top 4)) (defScope (top 4)) .none kV2 dc2 pm2 an2 cd2 ct2), sl2⟩) (c2 : PySem.W.codeIn K cd2 "times" = true) (k2 : PySem.W.keepIn K (.ref g2) = true)
    (a3 : PySem.W.nsIn K mainGlobals "image" = some (some (.ref g3))) (l3 : K.lookup g3 = some ⟨oc3, od3, .func (PySem.W.fnOf "image" "image" (defArgs (top 5)) (defBody (top 5)) (defScope (top 5)) .none kV3 dc3 pm3 an3 cd3 ct3), sl3⟩) (c3 : PySem.W.codeIn K cd3 "image" = true) (k3 : PySem.W.keepIn K (.ref g3) = true)
    (a4 : PySem.W.nsIn K mainGlobals "face_of" = some (some (.ref g4))) (l4 : K.lookup g4 = some ⟨oc4, od4, .func (PySem.W.fnOf "face_of" "face_of" (defArgs (top 7)) (defBody (top 7)) (defScope (top 7)) .none kV4 dc4 pm4 an4 cd4 ct4), sl4⟩) (c4 : PySem.W.codeIn K cd4 "face_of" = true) (k4 : PySem.W.keepIn K (.ref g4) = true)
    (a5 : PySem.W.nsIn K mainGlobals "posts_of" = some (some (.ref g5))) (l5 : K.lookup g5 = some ⟨oc5, od5, .func (PySem.W.fnOf "posts_of" "posts_of" (defArgs (top 8)) (defBody (top 8)) (defScope (top 8)) .none kV5 dc5 pm5 an5 cd5 ct5), sl5⟩) (c5 : PySem.W.codeIn K cd5 "posts_of" = true) (k5 : PySem.W.keepIn K (.ref g5) = true)
    (a6 : PySem.W.nsIn K mainGlobals "hypotheses" = some (some (.ref g6))) (l6 : K.lookup g6 = some ⟨oc6, od6, .func (PySem.W.fnOf "hypotheses" "hypotheses" (defArgs (top 9)) (defBody (top 9)) (defScope (top 9)) .none kV6 dc6 pm6 an6 cd6 ct6), sl6⟩) (c6 : PySem.W.codeIn K cd6 "hypotheses" = true) (k6 : PySem.W.keepIn K (.ref g6) = true)
    (a7 : PySem.W.nsIn K mainGlobals "names_at" = some (some (.ref g7))) (l7 : K.lookup g7 = some ⟨oc7, od7, .func (PySem.W.fnOf "names_at" "names_at" (defArgs (top 10)) (defBody (top 10)) (defScope (top 10)) .none kV7 dc7 pm7 an7 cd7 ct7), sl7⟩) (c7 : PySem.W.codeIn K cd7 "names_at" = true) (k7 : PySem.W.keepIn K (.ref g7) = true)
    (a8 : PySem.W.nsIn K mainGlobals "identity" = some (some (.ref g8))) (l8 : K.lookup g8 = some ⟨oc8, od8, .func (PySem.W.fnOf "identity" "identity" (defArgs (top 12)) (defBody (top 12)) (defScope (top 12)) .none kV8 dc8 pm8 an8 cd8 ct8), sl8⟩) (c8 : PySem.W.codeIn K cd8 "identity" = true) (k8 : PySem.W.keepIn K (.ref g8) = true)
    (a9 : PySem.W.nsIn K mainGlobals "all_hypotheses" = some (some (.ref g9))) (l9 : K.lookup g9 = some ⟨oc9, od9, .func (PySem.W.fnOf "all_hypotheses" "all_hypotheses" (defArgs (top 13)) (defBody (top 13)) (defScope (top 13)) .none kV9 dc9 pm9 an9 cd9 ct9), sl9⟩) (c9 : PySem.W.codeIn K cd9 "all_hypotheses" = true) (k9 : PySem.W.keepIn K (.ref g9) = true)
    (a10 : PySem.W.nsIn K mainGlobals "alive_edges" = some (some (.ref g10))) (l10 : K.lookup g10 = some ⟨oc10, od10, .func (PySem.W.fnOf "alive_edges" "alive_edges" (defArgs (top 15)) (defBody (top 15)) (defScope (top 15)) .none kV10 dc10 pm10 an10 cd10 ct10), sl10⟩) (c10 : PySem.W.codeIn K cd10 "alive_edges" = true) (k10 : PySem.W.keepIn K (.ref g10) = true)
    (a11 : PySem.W.nsIn K mainGlobals "images_at_target" = some (some (.ref g11))) (l11 : K.lookup g11 = some ⟨oc11, od11, .func (PySem.W.fnOf "images_at_target" "images_at_target" (defArgs (top 17)) (defBody (top 17)) (defScope (top 17)) .none kV11 dc11 pm11 an11 cd11 ct11), sl11⟩) (c11 : PySem.W.codeIn K cd11 "images_at_target" = true) (k11 : PySem.W.keepIn K (.ref g11) = true)
    (a12 : PySem.W.nsIn K mainGlobals "make_bound_problem" = some (some (.ref g12))) (l12 : K.lookup g12 = some ⟨oc12, od12, .func (PySem.W.fnOf "make_bound_problem" "make_bound_problem" (defArgs (top 18)) (defBody (top 18)) (defScope (top 18)) .none kV12 dc12 pm12 an12 cd12 ct12), sl12⟩) (c12 : PySem.W.codeIn K cd12 "make_bound_problem" = true) (k12 : PySem.W.keepIn K (.ref g12) = true)
    (a13 : PySem.W.nsIn K mainGlobals "bound_problem" = some (some (.ref g13))) (l13 : K.lookup g13 = some ⟨oc13, od13, .func (PySem.W.fnOf "bound_problem" "bound_problem" (defArgs (top 19)) (defBody (top 19)) (defScope (top 19)) .none kV13 dc13 pm13 an13 cd13 ct13), sl13⟩) (c13 : PySem.W.codeIn K cd13 "bound_problem" = true) (k13 : PySem.W.keepIn K (.ref g13) = true)
    (a14 : PySem.W.nsIn K mainGlobals "_law_start" = some (some (.ref g14))) (l14 : K.lookup g14 = some ⟨oc14, od14, .func (PySem.W.fnOf "_law_start" "_law_start" (defArgs (top 21)) (defBody (top 21)) (defScope (top 21)) .none kV14 dc14 pm14 an14 cd14 ct14), sl14⟩) (c14 : PySem.W.codeIn K cd14 "_law_start" = true) (k14 : PySem.W.keepIn K (.ref g14) = true)
    (a15 : PySem.W.nsIn K mainGlobals "_law_draw" = some (some (.ref g15))) (l15 : K.lookup g15 = some ⟨oc15, od15, .func (PySem.W.fnOf "_law_draw" "_law_draw" (defArgs (top 22)) (defBody (top 22)) (defScope (top 22)) .none kV15 dc15 pm15 an15 cd15 ct15), sl15⟩) (c15 : PySem.W.codeIn K cd15 "_law_draw" = true) (k15 : PySem.W.keepIn K (.ref g15) = true)
    (a16 : PySem.W.nsIn K mainGlobals "_law_words" = some (some (.ref g16))) (l16 : K.lookup g16 = some ⟨oc16, od16, .func (PySem.W.fnOf "_law_words" "_law_words" (defArgs (top 23)) (defBody (top 23)) (defScope (top 23)) .none kV16 dc16 pm16 an16 cd16 ct16), sl16⟩) (c16 : PySem.W.codeIn K cd16 "_law_words" = true) (k16 : PySem.W.keepIn K (.ref g16) = true)
    (a17 : PySem.W.nsIn K mainGlobals "_law_numbers" = some (some (.ref g17))) (l17 : K.lookup g17 = some ⟨oc17, od17, .func (PySem.W.fnOf "_law_numbers" "_law_numbers" (defArgs (top 24)) (defBody (top 24)) (defScope (top 24)) .none kV17 dc17 pm17 an17 cd17 ct17), sl17⟩) (c17 : PySem.W.codeIn K cd17 "_law_numbers" = true) (k17 : PySem.W.keepIn K (.ref g17) = true)
    (a18 : PySem.W.nsIn K mainGlobals "_law_form" = some (some (.ref g18))) (l18 : K.lookup g18 = some ⟨oc18, od18, .func (PySem.W.fnOf "_law_form" "_law_form" (defArgs (top 25)) (defBody (top 25)) (defScope (top 25)) .none kV18 dc18 pm18 an18 cd18 ct18), sl18⟩) (c18 : PySem.W.codeIn K cd18 "_law_form" = true) (k18 : PySem.W.keepIn K (.ref g18) = true)
    (a19 : PySem.W.nsIn K mainGlobals "_law_sum" = some (some (.ref g19))) (l19 : K.lookup g19 = some ⟨oc19, od19, .func (PySem.W.fnOf "_law_sum" "_law_sum" (defArgs (top 26)) (defBody (top 26)) (defScope (top 26)) .none kV19 dc19 pm19 an19 cd19 ct19), sl19⟩) (c19 : PySem.W.codeIn K cd19 "_law_sum" = true) (k19 : PySem.W.keepIn K (.ref g19) = true)
    (a20 : PySem.W.nsIn K mainGlobals "_law_drawn" = some (some (.ref g20))) (l20 : K.lookup g20 = some ⟨oc20, od20, .func (PySem.W.fnOf "_law_drawn" "_law_drawn" (defArgs (top 27)) (defBody (top 27)) (defScope (top 27)) .none kV20 dc20 pm20 an20 cd20 ct20), sl20⟩) (c20 : PySem.W.codeIn K cd20 "_law_drawn" = true) (k20 : PySem.W.keepIn K (.ref g20) = true)
    (a21 : PySem.W.nsIn K mainGlobals "_law_at" = some (some (.ref g21))) (l21 : K.lookup g21 = some ⟨oc21, od21, .func (PySem.W.fnOf "_law_at" "_law_at" (defArgs (top 28)) (defBody (top 28)) (defScope (top 28)) .none kV21 dc21 pm21 an21 cd21 ct21), sl21⟩) (c21 : PySem.W.codeIn K cd21 "_law_at" = true) (k21 : PySem.W.keepIn K (.ref g21) = true)
    (a22 : PySem.W.nsIn K mainGlobals "_law_true" = some (some (.ref g22))) (l22 : K.lookup g22 = some ⟨oc22, od22, .func (PySem.W.fnOf "_law_true" "_law_true" (defArgs (top 29)) (defBody (top 29)) (defScope (top 29)) .none kV22 dc22 pm22 an22 cd22 ct22), sl22⟩) (c22 : PySem.W.codeIn K cd22 "_law_true" = true) (k22 : PySem.W.keepIn K (.ref g22) = true)
    (a23 : PySem.W.nsIn K mainGlobals "_law_low" = some (some (.ref g23))) (l23 : K.lookup g23 = some ⟨oc23, od23, .func (PySem.W.fnOf "_law_low" "_law_low" (defArgs (top 30)) (defBody (top 30)) (defScope (top 30)) .none kV23 dc23 pm23 an23 cd23 ct23), sl23⟩) (c23 : PySem.W.codeIn K cd23 "_law_low" = true) (k23 : PySem.W.keepIn K (.ref g23) = true)
    (a24 : PySem.W.nsIn K mainGlobals "_law_nests" = some (some (.ref g24))) (l24 : K.lookup g24 = some ⟨oc24, od24, .func (PySem.W.fnOf "_law_nests" "_law_nests" (defArgs (top 31)) (defBody (top 31)) (defScope (top 31)) .none kV24 dc24 pm24 an24 cd24 ct24), sl24⟩) (c24 : PySem.W.codeIn K cd24 "_law_nests" = true) (k24 : PySem.W.keepIn K (.ref g24) = true)
    (a25 : PySem.W.nsIn K mainGlobals "_law_proc" = some (some (.ref g25))) (l25 : K.lookup g25 = some ⟨oc25, od25, .func (PySem.W.fnOf "_law_proc" "_law_proc" (defArgs (top 32)) (defBody (top 32)) (defScope (top 32)) .none kV25 dc25 pm25 an25 cd25 ct25), sl25⟩) (c25 : PySem.W.codeIn K cd25 "_law_proc" = true) (k25 : PySem.W.keepIn K (.ref g25) = true)
    (a26 : PySem.W.nsIn K mainGlobals "_law_made" = some (some (.ref g26))) (l26 : K.lookup g26 = some ⟨oc26, od26, .func (PySem.W.fnOf "_law_made" "_law_made" (defArgs (top 33)) (defBody (top 33)) (defScope (top 33)) .none kV26 dc26 pm26 an26 cd26 ct26), sl26⟩) (c26 : PySem.W.codeIn K cd26 "_law_made" = true) (k26 : PySem.W.keepIn K (.ref g26) = true)
    (a27 : PySem.W.nsIn K mainGlobals "_law_edge_hyps" = some (some (.ref g27))) (l27 : K.lookup g27 = some ⟨oc27, od27, .func (PySem.W.fnOf "_law_edge_hyps" "_law_edge_hyps" (defArgs (top 34)) (defBody (top 34)) (defScope (top 34)) .none kV27 dc27 pm27 an27 cd27 ct27), sl27⟩) (c27 : PySem.W.codeIn K cd27 "_law_edge_hyps" = true) (k27 : PySem.W.keepIn K (.ref g27) = true)
    (a28 : PySem.W.nsIn K mainGlobals "_law_args" = some (some (.ref g28))) (l28 : K.lookup g28 = some ⟨oc28, od28, .func (PySem.W.fnOf "_law_args" "_law_args" (defArgs (top 35)) (defBody (top 35)) (defScope (top 35)) .none kV28 dc28 pm28 an28 cd28 ct28), sl28⟩) (c28 : PySem.W.codeIn K cd28 "_law_args" = true) (k28 : PySem.W.keepIn K (.ref g28) = true)
    (a29 : PySem.W.nsIn K mainGlobals "_law_call_edge" = some (some (.ref g29))) (l29 : K.lookup g29 = some ⟨oc29, od29, .func (PySem.W.fnOf "_law_call_edge" "_law_call_edge" (defArgs (top 36)) (defBody (top 36)) (defScope (top 36)) .none kV29 dc29 pm29 an29 cd29 ct29), sl29⟩) (c29 : PySem.W.codeIn K cd29 "_law_call_edge" = true) (k29 : PySem.W.keepIn K (.ref g29) = true)
    (a30 : PySem.W.nsIn K mainGlobals "_law_step_edge" = some (some (.ref g30))) (l30 : K.lookup g30 = some ⟨oc30, od30, .func (PySem.W.fnOf "_law_step_edge" "_law_step_edge" (defArgs (top 37)) (defBody (top 37)) (defScope (top 37)) .none kV30 dc30 pm30 an30 cd30 ct30), sl30⟩) (c30 : PySem.W.codeIn K cd30 "_law_step_edge" = true) (k30 : PySem.W.keepIn K (.ref g30) = true)
    (a31 : PySem.W.nsIn K mainGlobals "_law_proc_edges" = some (some (.ref g31))) (l31 : K.lookup g31 = some ⟨oc31, od31, .func (PySem.W.fnOf "_law_proc_edges" "_law_proc_edges" (defArgs (top 38)) (defBody (top 38)) (defScope (top 38)) .none kV31 dc31 pm31 an31 cd31 ct31), sl31⟩) (c31 : PySem.W.codeIn K cd31 "_law_proc_edges" = true) (k31 : PySem.W.keepIn K (.ref g31) = true)
    (a32 : PySem.W.nsIn K mainGlobals "_law_true_facts" = some (some (.ref g32))) (l32 : K.lookup g32 = some ⟨oc32, od32, .func (PySem.W.fnOf "_law_true_facts" "_law_true_facts" (defArgs (top 39)) (defBody (top 39)) (defScope (top 39)) .none kV32 dc32 pm32 an32 cd32 ct32), sl32⟩) (c32 : PySem.W.codeIn K cd32 "_law_true_facts" = true) (k32 : PySem.W.keepIn K (.ref g32) = true)
    (a33 : PySem.W.nsIn K mainGlobals "_law_var" = some (some (.ref g33))) (l33 : K.lookup g33 = some ⟨oc33, od33, .func (PySem.W.fnOf "_law_var" "_law_var" (defArgs (top 40)) (defBody (top 40)) (defScope (top 40)) .none kV33 dc33 pm33 an33 cd33 ct33), sl33⟩) (c33 : PySem.W.codeIn K cd33 "_law_var" = true) (k33 : PySem.W.keepIn K (.ref g33) = true)
    (a34 : PySem.W.nsIn K mainGlobals "_law_put" = some (some (.ref g34))) (l34 : K.lookup g34 = some ⟨oc34, od34, .func (PySem.W.fnOf "_law_put" "_law_put" (defArgs (top 41)) (defBody (top 41)) (defScope (top 41)) .none kV34 dc34 pm34 an34 cd34 ct34), sl34⟩) (c34 : PySem.W.codeIn K cd34 "_law_put" = true) (k34 : PySem.W.keepIn K (.ref g34) = true)
    (a35 : PySem.W.nsIn K mainGlobals "_law_hyps" = some (some (.ref g35))) (l35 : K.lookup g35 = some ⟨oc35, od35, .func (PySem.W.fnOf "_law_hyps" "_law_hyps" (defArgs (top 42)) (defBody (top 42)) (defScope (top 42)) .none kV35 dc35 pm35 an35 cd35 ct35), sl35⟩) (c35 : PySem.W.codeIn K cd35 "_law_hyps" = true) (k35 : PySem.W.keepIn K (.ref g35) = true)
    (a36 : PySem.W.nsIn K mainGlobals "_law_all_hyps" = some (some (.ref g36))) (l36 : K.lookup g36 = some ⟨oc36, od36, .func (PySem.W.fnOf "_law_all_hyps" "_law_all_hyps" (defArgs (top 43)) (defBody (top 43)) (defScope (top 43)) .none kV36 dc36 pm36 an36 cd36 ct36), sl36⟩) (c36 : PySem.W.codeIn K cd36 "_law_all_hyps" = true) (k36 : PySem.W.keepIn K (.ref g36) = true)
    (a37 : PySem.W.nsIn K mainGlobals "_law_names" = some (some (.ref g37))) (l37 : K.lookup g37 = some ⟨oc37, od37, .func (PySem.W.fnOf "_law_names" "_law_names" (defArgs (top 44)) (defBody (top 44)) (defScope (top 44)) .none kV37 dc37 pm37 an37 cd37 ct37), sl37⟩) (c37 : PySem.W.codeIn K cd37 "_law_names" = true) (k37 : PySem.W.keepIn K (.ref g37) = true)
    (a38 : PySem.W.nsIn K mainGlobals "_law_known_life" = some (some (.ref g38))) (l38 : K.lookup g38 = some ⟨oc38, od38, .func (PySem.W.fnOf "_law_known_life" "_law_known_life" (defArgs (top 45)) (defBody (top 45)) (defScope (top 45)) .none kV38 dc38 pm38 an38 cd38 ct38), sl38⟩) (c38 : PySem.W.codeIn K cd38 "_law_known_life" = true) (k38 : PySem.W.keepIn K (.ref g38) = true)
    (a39 : PySem.W.nsIn K mainGlobals "_law_system" = some (some (.ref g39))) (l39 : K.lookup g39 = some ⟨oc39, od39, .func (PySem.W.fnOf "_law_system" "_law_system" (defArgs (top 46)) (defBody (top 46)) (defScope (top 46)) .none kV39 dc39 pm39 an39 cd39 ct39), sl39⟩) (c39 : PySem.W.codeIn K cd39 "_law_system" = true) (k39 : PySem.W.keepIn K (.ref g39) = true)
    (a40 : PySem.W.nsIn K mainGlobals "_law_identity" = some (some (.ref g40))) (l40 : K.lookup g40 = some ⟨oc40, od40, .func (PySem.W.fnOf "_law_identity" "_law_identity" (defArgs (top 47)) (defBody (top 47)) (defScope (top 47)) .none kV40 dc40 pm40 an40 cd40 ct40), sl40⟩) (c40 : PySem.W.codeIn K cd40 "_law_identity" = true) (k40 : PySem.W.keepIn K (.ref g40) = true)
    (a41 : PySem.W.nsIn K mainGlobals "_law_names_at" = some (some (.ref g41))) (l41 : K.lookup g41 = some ⟨oc41, od41, .func (PySem.W.fnOf "_law_names_at" "_law_names_at" (defArgs (top 48)) (defBody (top 48)) (defScope (top 48)) .none kV41 dc41 pm41 an41 cd41 ct41), sl41⟩) (c41 : PySem.W.codeIn K cd41 "_law_names_at" = true) (k41 : PySem.W.keepIn K (.ref g41) = true)
    (a42 : PySem.W.nsIn K mainGlobals "_law_is_int" = some (some (.ref g42))) (l42 : K.lookup g42 = some ⟨oc42, od42, .func (PySem.W.fnOf "_law_is_int" "_law_is_int" (defArgs (top 49)) (defBody (top 49)) (defScope (top 49)) .none kV42 dc42 pm42 an42 cd42 ct42), sl42⟩) (c42 : PySem.W.codeIn K cd42 "_law_is_int" = true) (k42 : PySem.W.keepIn K (.ref g42) = true)
    (a43 : PySem.W.nsIn K mainGlobals "_law_same" = some (some (.ref g43))) (l43 : K.lookup g43 = some ⟨oc43, od43, .func (PySem.W.fnOf "_law_same" "_law_same" (defArgs (top 50)) (defBody (top 50)) (defScope (top 50)) .none kV43 dc43 pm43 an43 cd43 ct43), sl43⟩) (c43 : PySem.W.codeIn K cd43 "_law_same" = true) (k43 : PySem.W.keepIn K (.ref g43) = true)
    (a44 : PySem.W.nsIn K mainGlobals "_law_bound_problem" = some (some (.ref g44))) (l44 : K.lookup g44 = some ⟨oc44, od44, .func (PySem.W.fnOf "_law_bound_problem" "_law_bound_problem" (defArgs (top 51)) (defBody (top 51)) (defScope (top 51)) .none kV44 dc44 pm44 an44 cd44 ct44), sl44⟩) (c44 : PySem.W.codeIn K cd44 "_law_bound_problem" = true) (k44 : PySem.W.keepIn K (.ref g44) = true)
    (a45 : PySem.W.nsIn K mainGlobals "law" = some (some (.ref g45))) (l45 : K.lookup g45 = some ⟨oc45, od45, .func (PySem.W.fnOf "law" "law" (defArgs (top 52)) (defBody (top 52)) (defScope (top 52)) .none kV45 dc45 pm45 an45 cd45 ct45), sl45⟩) (c45 : PySem.W.codeIn K cd45 "law" = true) (k45 : PySem.W.keepIn K (.ref g45) = true)
    (z0 : PySem.W.nsIn K mainGlobals "tuple" = some none)
    (z1 : PySem.W.nsIn K mainGlobals "sorted" = some none)
    (z2 : PySem.W.nsIn K mainGlobals "isinstance" = some none)
    (z3 : PySem.W.nsIn K mainGlobals "str" = some none)
    (z4 : PySem.W.nsIn K mainGlobals "list" = some none)
    (z5 : PySem.W.nsIn K mainGlobals "range" = some none)
    (z6 : PySem.W.nsIn K mainGlobals "len" = some none)
    (z7 : PySem.W.nsIn K mainGlobals "enumerate" = some none)
    (z8 : PySem.W.nsIn K mainGlobals "int" = some none)
    (z9 : PySem.W.nsIn K mainGlobals "abs" = some none)
    (z10 : PySem.W.nsIn K mainGlobals "max" = some none)
    (z11 : PySem.W.nsIn K mainGlobals "bool" = some none)
    (z12 : PySem.W.nsIn K mainGlobals "all" = some none)
    (z13 : PySem.W.nsIn K mainGlobals "repr" = some none)
    (y0 : PySem.W.nsIn K mainGlobals "ZERO" = some (some u0)) (r0 : RelV v0 u0) (d0 : ∀ F, Den K F v0 (.tuple [(.int (0)), (.tuple [])]))
    (law : ∀ ns : List Int, ns.length ≤ 63 → ∃ mh', callP P gl 60 45 [.d (.list (ns.map PyData.int))] [] = some (.d (.bool true), mh')) :
    ∃ fd : FuncData, (∀ (s : Shared) (v : Value), BindsTo s fd ⟨[v], []⟩ [("script", v)]) ∧ ∀ base : Heap, K.In base → base.Ns mainGlobals mg → FnOkG l.prog w K mg base CX0 (2 * 60) fa fd ["script"] (spLaw K) := by
  have e := hfa.symm.trans (PySem.W.mg_of X G a45)
  cases e
  have F0 := fun_mk (st := (top 2)) l0 c0 k0
  have F1 := fun_mk (st := (top 3)) l1 c1 k1
  have F2 := fun_mk (st := (top 4)) l2 c2 k2
  have F3 := fun_mk (st := (top 5)) l3 c3 k3
  have F4 := fun_mk (st := (top 7)) l4 c4 k4
  have F5 := fun_mk (st := (top 8)) l5 c5 k5
  have F6 := fun_mk (st := (top 9)) l6 c6 k6
  have F7 := fun_mk (st := (top 10)) l7 c7 k7
  have F8 := fun_mk (st := (top 12)) l8 c8 k8
  have F9 := fun_mk (st := (top 13)) l9 c9 k9
  have F10 := fun_mk (st := (top 15)) l10 c10 k10
  have F11 := fun_mk (st := (top 17)) l11 c11 k11
  have F12 := fun_mk (st := (top 18)) l12 c12 k12
  have F13 := fun_mk (st := (top 19)) l13 c13 k13
  have F14 := fun_mk (st := (top 21)) l14 c14 k14
  have F15 := fun_mk (st := (top 22)) l15 c15 k15
  have F16 := fun_mk (st := (top 23)) l16 c16 k16
  have F17 := fun_mk (st := (top 24)) l17 c17 k17
  have F18 := fun_mk (st := (top 25)) l18 c18 k18
  have F19 := fun_mk (st := (top 26)) l19 c19 k19
  have F20 := fun_mk (st := (top 27)) l20 c20 k20
  have F21 := fun_mk (st := (top 28)) l21 c21 k21
  have F22 := fun_mk (st := (top 29)) l22 c22 k22
  have F23 := fun_mk (st := (top 30)) l23 c23 k23
  have F24 := fun_mk (st := (top 31)) l24 c24 k24
  have F25 := fun_mk (st := (top 32)) l25 c25 k25
  have F26 := fun_mk (st := (top 33)) l26 c26 k26
  have F27 := fun_mk (st := (top 34)) l27 c27 k27
  have F28 := fun_mk (st := (top 35)) l28 c28 k28
  have F29 := fun_mk (st := (top 36)) l29 c29 k29
  have F30 := fun_mk (st := (top 37)) l30 c30 k30
  have F31 := fun_mk (st := (top 38)) l31 c31 k31
  have F32 := fun_mk (st := (top 39)) l32 c32 k32
  have F33 := fun_mk (st := (top 40)) l33 c33 k33
  have F34 := fun_mk (st := (top 41)) l34 c34 k34
  have F35 := fun_mk (st := (top 42)) l35 c35 k35
  have F36 := fun_mk (st := (top 43)) l36 c36 k36
  have F37 := fun_mk (st := (top 44)) l37 c37 k37
  have F38 := fun_mk (st := (top 45)) l38 c38 k38
  have F39 := fun_mk (st := (top 46)) l39 c39 k39
  have F40 := fun_mk (st := (top 47)) l40 c40 k40
  have F41 := fun_mk (st := (top 48)) l41 c41 k41
  have F42 := fun_mk (st := (top 49)) l42 c42 k42
  have F43 := fun_mk (st := (top 50)) l43 c43 k43
  have F44 := fun_mk (st := (top 51)) l44 c44 k44
  have F45 := fun_mk (st := (top 52)) l45 c45 k45
  refine ⟨PySem.W.fnOf "law" "law" (defArgs (top 52)) (defBody (top 52)) (defScope (top 52)) .none kV45 dc45 pm45 an45 cd45 ct45, fun s v => .of_eq rfl, fun base _ _ => law_okG (Y := ⟨l.prog, w, K, mg, base, false⟩) (P := P) (bs := bs) (gl := gl) (gq := false) (cs := cs) (f := 45) (d := f45) ?_ rfl rfl rfl F45 s45 m45 law⟩
  have D0 : DefAt ⟨l.prog, w, K, mg, base, false⟩ (tbOf P bs gl false false cs) f0 (top 2) g0 _ := ⟨F0, F0.binds (ps := ["constant", "pairs"]) (fun _ _ _ _ _ _ us hl => match us, hl with | [_, _], _ => rfl), s0, m0⟩
  have D1 : DefAt ⟨l.prog, w, K, mg, base, false⟩ (tbOf P bs gl false false cs) f1 (top 3) g1 _ := ⟨F1, F1.binds (ps := ["name"]) (fun _ _ _ _ _ _ us hl => match us, hl with | [_], _ => rfl), s1, m1⟩
  have D2 : DefAt ⟨l.prog, w, K, mg, base, false⟩ (tbOf P bs gl false false cs) f2 (top 4) g2 _ := ⟨F2, F2.binds (ps := ["k", "f"]) (fun _ _ _ _ _ _ us hl => match us, hl with | [_, _], _ => rfl), s2, m2⟩
  have D3 : DefAt ⟨l.prog, w, K, mg, base, false⟩ (tbOf P bs gl false false cs) f3 (top 5) g3 _ := ⟨F3, F3.binds (ps := ["f", "pairs"]) (fun _ _ _ _ _ _ us hl => match us, hl with | [_, _], _ => rfl), s3, m3⟩
  have D4 : DefAt ⟨l.prog, w, K, mg, base, false⟩ (tbOf P bs gl false false cs) f4 (top 7) g4 _ := ⟨F4, F4.binds (ps := ["lower", "callee"]) (fun _ _ _ _ _ _ us hl => match us, hl with | [_, _], _ => rfl), s4, m4⟩
  have D5 : DefAt ⟨l.prog, w, K, mg, base, false⟩ (tbOf P bs gl false false cs) f5 (top 8) g5 _ := ⟨F5, F5.binds (ps := ["lower", "facts", "callee"]) (fun _ _ _ _ _ _ us hl => match us, hl with | [_, _, _], _ => rfl), s5, m5⟩
  have D6 : DefAt ⟨l.prog, w, K, mg, base, false⟩ (tbOf P bs gl false false cs) f6 (top 9) g6 _ := ⟨F6, F6.binds (ps := ["system", "lower", "facts", "edge"]) (fun _ _ _ _ _ _ us hl => match us, hl with | [_, _, _, _], _ => rfl), s6, m6⟩
  have D7 : DefAt ⟨l.prog, w, K, mg, base, false⟩ (tbOf P bs gl false false cs) f7 (top 10) g7 _ := ⟨F7, F7.binds (ps := ["system", "proc", "place"]) (fun _ _ _ _ _ _ us hl => match us, hl with | [_, _, _], _ => rfl), s7, m7⟩
  have D8 : DefAt ⟨l.prog, w, K, mg, base, false⟩ (tbOf P bs gl false false cs) f8 (top 12) g8 _ := ⟨F8, F8.binds (ps := ["names"]) (fun _ _ _ _ _ _ us hl => match us, hl with | [_], _ => rfl), s8, m8⟩
  have D9 : DefAt ⟨l.prog, w, K, mg, base, false⟩ (tbOf P bs gl false false cs) f9 (top 13) g9 _ := ⟨F9, F9.binds (ps := ["system", "lower", "facts"]) (fun _ _ _ _ _ _ us hl => match us, hl with | [_, _, _], _ => rfl), s9, m9⟩
  have D10 : DefAt ⟨l.prog, w, K, mg, base, false⟩ (tbOf P bs gl false false cs) f10 (top 15) g10 _ := ⟨F10, F10.binds (ps := ["lives"]) (fun _ _ _ _ _ _ us hl => match us, hl with | [_], _ => rfl), s10, m10⟩
  have D11 : DefAt ⟨l.prog, w, K, mg, base, false⟩ (tbOf P bs gl false false cs) f11 (top 17) g11 _ := ⟨F11, F11.binds (ps := ["system", "edge"]) (fun _ _ _ _ _ _ us hl => match us, hl with | [_, _], _ => rfl), s11, m11⟩
  have D12 : DefAt ⟨l.prog, w, K, mg, base, false⟩ (tbOf P bs gl false false cs) f12 (top 18) g12 _ := ⟨F12, F12.binds (ps := ["system", "hyps", "lives", "proc", "outcome", "sign"]) (fun _ _ _ _ _ _ us hl => match us, hl with | [_, _, _, _, _, _], _ => rfl), s12, m12⟩
  have D13 : DefAt ⟨l.prog, w, K, mg, base, false⟩ (tbOf P bs gl false false cs) f13 (top 19) g13 _ := ⟨F13, F13.binds (ps := ["system", "lower", "facts", "lives", "proc", "outcome", "sign"]) (fun _ _ _ _ _ _ us hl => match us, hl with | [_, _, _, _, _, _, _], _ => rfl), s13, m13⟩
  have D14 : DefAt ⟨l.prog, w, K, mg, base, false⟩ (tbOf P bs gl false false cs) f14 (top 21) g14 _ := ⟨F14, F14.binds (ps := ["script"]) (fun _ _ _ _ _ _ us hl => match us, hl with | [_], _ => rfl), s14, m14⟩
  have D15 : DefAt ⟨l.prog, w, K, mg, base, false⟩ (tbOf P bs gl false false cs) f15 (top 22) g15 _ := ⟨F15, F15.binds (ps := ["state", "most"]) (fun _ _ _ _ _ _ us hl => match us, hl with | [_, _], _ => rfl), s15, m15⟩
  have D16 : DefAt ⟨l.prog, w, K, mg, base, false⟩ (tbOf P bs gl false false cs) f16 (top 23) g16 _ := ⟨F16, F16.binds (ps := ["state", "many"]) (fun _ _ _ _ _ _ us hl => match us, hl with | [_, _], _ => rfl), s16, m16⟩
  have D17 : DefAt ⟨l.prog, w, K, mg, base, false⟩ (tbOf P bs gl false false cs) f17 (top 24) g17 _ := ⟨F17, F17.binds (ps := ["state", "names"]) (fun _ _ _ _ _ _ us hl => match us, hl with | [_, _], _ => rfl), s17, m17⟩
  have D18 : DefAt ⟨l.prog, w, K, mg, base, false⟩ (tbOf P bs gl false false cs) f18 (top 25) g18 _ := ⟨F18, F18.binds (ps := ["constant", "pairs"]) (fun _ _ _ _ _ _ us hl => match us, hl with | [_, _], _ => rfl), s18, m18⟩
  have D19 : DefAt ⟨l.prog, w, K, mg, base, false⟩ (tbOf P bs gl false false cs) f19 (top 26) g19 _ := ⟨F19, F19.binds (ps := ["parts"]) (fun _ _ _ _ _ _ us hl => match us, hl with | [_], _ => rfl), s19, m19⟩
  have D20 : DefAt ⟨l.prog, w, K, mg, base, false⟩ (tbOf P bs gl false false cs) f20 (top 27) g20 _ := ⟨F20, F20.binds (ps := ["state", "names", "most"]) (fun _ _ _ _ _ _ us hl => match us, hl with | [_, _, _], _ => rfl), s20, m20⟩
  have D21 : DefAt ⟨l.prog, w, K, mg, base, false⟩ (tbOf P bs gl false false cs) f21 (top 28) g21 _ := ⟨F21, F21.binds (ps := ["f", "den", "table"]) (fun _ _ _ _ _ _ us hl => match us, hl with | [_, _, _], _ => rfl), s21, m21⟩
  have D22 : DefAt ⟨l.prog, w, K, mg, base, false⟩ (tbOf P bs gl false false cs) f22 (top 29) g22 _ := ⟨F22, F22.binds (ps := ["state", "names", "table"]) (fun _ _ _ _ _ _ us hl => match us, hl with | [_, _, _], _ => rfl), s22, m22⟩
  have D23 : DefAt ⟨l.prog, w, K, mg, base, false⟩ (tbOf P bs gl false false cs) f23 (top 30) g23 _ := ⟨F23, F23.binds (ps := ["state", "name"]) (fun _ _ _ _ _ _ us hl => match us, hl with | [_, _], _ => rfl), s23, m23⟩
  have D24 : DefAt ⟨l.prog, w, K, mg, base, false⟩ (tbOf P bs gl false false cs) f24 (top 31) g24 _ := ⟨F24, F24.binds (ps := ["state", "many"]) (fun _ _ _ _ _ _ us hl => match us, hl with | [_, _], _ => rfl), s24, m24⟩
  have D25 : DefAt ⟨l.prog, w, K, mg, base, false⟩ (tbOf P bs gl false false cs) f25 (top 32) g25 _ := ⟨F25, F25.binds (ps := ["state", "name", "most"]) (fun _ _ _ _ _ _ us hl => match us, hl with | [_, _, _], _ => rfl), s25, m25⟩
  have D26 : DefAt ⟨l.prog, w, K, mg, base, false⟩ (tbOf P bs gl false false cs) f26 (top 33) g26 _ := ⟨F26, F26.binds (ps := ["state", "names", "table"]) (fun _ _ _ _ _ _ us hl => match us, hl with | [_, _, _], _ => rfl), s26, m26⟩
  have D27 : DefAt ⟨l.prog, w, K, mg, base, false⟩ (tbOf P bs gl false false cs) f27 (top 34) g27 _ := ⟨F27, F27.binds (ps := ["state", "names", "table", "shut"]) (fun _ _ _ _ _ _ us hl => match us, hl with | [_, _, _, _], _ => rfl), s27, m27⟩
  have D28 : DefAt ⟨l.prog, w, K, mg, base, false⟩ (tbOf P bs gl false false cs) f28 (top 35) g28 _ := ⟨F28, F28.binds (ps := ["state", "callee", "names", "table"]) (fun _ _ _ _ _ _ us hl => match us, hl with | [_, _, _, _], _ => rfl), s28, m28⟩
  have D29 : DefAt ⟨l.prog, w, K, mg, base, false⟩ (tbOf P bs gl false false cs) f29 (top 36) g29 _ := ⟨F29, F29.binds (ps := ["state", "proc", "row", "values", "point", "callee", "shut"]) (fun _ _ _ _ _ _ us hl => match us, hl with | [_, _, _, _, _, _, _], _ => rfl), s29, m29⟩
  have D30 : DefAt ⟨l.prog, w, K, mg, base, false⟩ (tbOf P bs gl false false cs) f30 (top 37) g30 _ := ⟨F30, F30.binds (ps := ["state", "proc", "row", "values", "point", "callee", "shut"]) (fun _ _ _ _ _ _ us hl => match us, hl with | [_, _, _, _, _, _, _], _ => rfl), s30, m30⟩
  have D31 : DefAt ⟨l.prog, w, K, mg, base, false⟩ (tbOf P bs gl false false cs) f31 (top 38) g31 _ := ⟨F31, F31.binds (ps := ["state", "proc", "row", "values", "callees"]) (fun _ _ _ _ _ _ us hl => match us, hl with | [_, _, _, _, _], _ => rfl), s31, m31⟩
  have D32 : DefAt ⟨l.prog, w, K, mg, base, false⟩ (tbOf P bs gl false false cs) f32 (top 39) g32 _ := ⟨F32, F32.binds (ps := ["state", "row", "table"]) (fun _ _ _ _ _ _ us hl => match us, hl with | [_, _, _], _ => rfl), s32, m32⟩
  have D33 : DefAt ⟨l.prog, w, K, mg, base, false⟩ (tbOf P bs gl false false cs) f33 (top 40) g33 _ := ⟨F33, F33.binds (ps := ["name"]) (fun _ _ _ _ _ _ us hl => match us, hl with | [_], _ => rfl), s33, m33⟩
  have D34 : DefAt ⟨l.prog, w, K, mg, base, false⟩ (tbOf P bs gl false false cs) f34 (top 41) g34 _ := ⟨F34, F34.binds (ps := ["f", "table"]) (fun _ _ _ _ _ _ us hl => match us, hl with | [_, _], _ => rfl), s34, m34⟩
  have D35 : DefAt ⟨l.prog, w, K, mg, base, false⟩ (tbOf P bs gl false false cs) f35 (top 42) g35 _ := ⟨F35, F35.binds (ps := ["system", "lower", "facts", "edge"]) (fun _ _ _ _ _ _ us hl => match us, hl with | [_, _, _, _], _ => rfl), s35, m35⟩
  have D36 : DefAt ⟨l.prog, w, K, mg, base, false⟩ (tbOf P bs gl false false cs) f36 (top 43) g36 _ := ⟨F36, F36.binds (ps := ["system", "lower", "facts"]) (fun _ _ _ _ _ _ us hl => match us, hl with | [_, _, _], _ => rfl), s36, m36⟩
  have D37 : DefAt ⟨l.prog, w, K, mg, base, false⟩ (tbOf P bs gl false false cs) f37 (top 44) g37 _ := ⟨F37, F37.binds (ps := ["forms"]) (fun _ _ _ _ _ _ us hl => match us, hl with | [_], _ => rfl), s37, m37⟩
  have D38 : DefAt ⟨l.prog, w, K, mg, base, false⟩ (tbOf P bs gl false false cs) f38 (top 45) g38 _ := ⟨F38, F38.binds (ps := ["system", "facts", "hyps", "edge", "table", "shut"]) (fun _ _ _ _ _ _ us hl => match us, hl with | [_, _, _, _, _, _], _ => rfl), s38, m38⟩
  have D39 : DefAt ⟨l.prog, w, K, mg, base, false⟩ (tbOf P bs gl false false cs) f39 (top 46) g39 _ := ⟨F39, F39.binds (ps := ["state", "many", "most", "inner"]) (fun _ _ _ _ _ _ us hl => match us, hl with | [_, _, _, _], _ => rfl), s39, m39⟩
  have D40 : DefAt ⟨l.prog, w, K, mg, base, false⟩ (tbOf P bs gl false false cs) f40 (top 47) g40 _ := ⟨F40, F40.binds (ps := ["names"]) (fun _ _ _ _ _ _ us hl => match us, hl with | [_], _ => rfl), s40, m40⟩
  have D41 : DefAt ⟨l.prog, w, K, mg, base, false⟩ (tbOf P bs gl false false cs) f41 (top 48) g41 _ := ⟨F41, F41.binds (ps := ["system", "proc", "point"]) (fun _ _ _ _ _ _ us hl => match us, hl with | [_, _, _], _ => rfl), s41, m41⟩
  have D42 : DefAt ⟨l.prog, w, K, mg, base, false⟩ (tbOf P bs gl false false cs) f42 (top 49) g42 _ := ⟨F42, F42.binds (ps := ["x"]) (fun _ _ _ _ _ _ us hl => match us, hl with | [_], _ => rfl), s42, m42⟩
  have D43 : DefAt ⟨l.prog, w, K, mg, base, false⟩ (tbOf P bs gl false false cs) f43 (top 50) g43 _ := ⟨F43, F43.binds (ps := ["x", "y"]) (fun _ _ _ _ _ _ us hl => match us, hl with | [_, _], _ => rfl), s43, m43⟩
  have D44 : DefAt ⟨l.prog, w, K, mg, base, false⟩ (tbOf P bs gl false false cs) f44 (top 51) g44 _ := ⟨F44, F44.binds (ps := ["system", "hyps", "alive", "proc", "outcome", "sign"]) (fun _ _ _ _ _ _ us hl => match us, hl with | [_, _, _, _, _, _], _ => rfl), s44, m44⟩
  refine ⟨fun f d hd hf => ?_, fun x hx => ?_, fun j x d hj => ?_, fun hgq => (nomatch hgq), fun cd hcd => ?_⟩
  · match f, hd with
    | 0, hd => exact Option.some.inj hd ▸ ⟨_, _, _, D0, PySem.W.mg_of X G a0⟩
    | 1, hd => exact Option.some.inj hd ▸ ⟨_, _, _, D1, PySem.W.mg_of X G a1⟩
    | 2, hd => exact Option.some.inj hd ▸ ⟨_, _, _, D2, PySem.W.mg_of X G a2⟩
    | 3, hd => exact Option.some.inj hd ▸ ⟨_, _, _, D3, PySem.W.mg_of X G a3⟩
    | 4, hd => exact Option.some.inj hd ▸ ⟨_, _, _, D4, PySem.W.mg_of X G a4⟩
    | 5, hd => exact Option.some.inj hd ▸ ⟨_, _, _, D5, PySem.W.mg_of X G a5⟩
    | 6, hd => exact Option.some.inj hd ▸ ⟨_, _, _, D6, PySem.W.mg_of X G a6⟩
    | 7, hd => exact Option.some.inj hd ▸ ⟨_, _, _, D7, PySem.W.mg_of X G a7⟩
    | 8, hd => exact Option.some.inj hd ▸ ⟨_, _, _, D8, PySem.W.mg_of X G a8⟩
    | 9, hd => exact Option.some.inj hd ▸ ⟨_, _, _, D9, PySem.W.mg_of X G a9⟩
    | 10, hd => exact Option.some.inj hd ▸ ⟨_, _, _, D10, PySem.W.mg_of X G a10⟩
    | 11, hd => exact Option.some.inj hd ▸ ⟨_, _, _, D11, PySem.W.mg_of X G a11⟩
    | 12, hd => exact Option.some.inj hd ▸ ⟨_, _, _, D12, PySem.W.mg_of X G a12⟩
    | 13, hd => exact Option.some.inj hd ▸ ⟨_, _, _, D13, PySem.W.mg_of X G a13⟩
    | 14, hd => exact Option.some.inj hd ▸ ⟨_, _, _, D14, PySem.W.mg_of X G a14⟩
    | 15, hd => exact Option.some.inj hd ▸ ⟨_, _, _, D15, PySem.W.mg_of X G a15⟩
    | 16, hd => exact Option.some.inj hd ▸ ⟨_, _, _, D16, PySem.W.mg_of X G a16⟩
    | 17, hd => exact Option.some.inj hd ▸ ⟨_, _, _, D17, PySem.W.mg_of X G a17⟩
    | 18, hd => exact Option.some.inj hd ▸ ⟨_, _, _, D18, PySem.W.mg_of X G a18⟩
    | 19, hd => exact Option.some.inj hd ▸ ⟨_, _, _, D19, PySem.W.mg_of X G a19⟩
    | 20, hd => exact Option.some.inj hd ▸ ⟨_, _, _, D20, PySem.W.mg_of X G a20⟩
    | 21, hd => exact Option.some.inj hd ▸ ⟨_, _, _, D21, PySem.W.mg_of X G a21⟩
    | 22, hd => exact Option.some.inj hd ▸ ⟨_, _, _, D22, PySem.W.mg_of X G a22⟩
    | 23, hd => exact Option.some.inj hd ▸ ⟨_, _, _, D23, PySem.W.mg_of X G a23⟩
    | 24, hd => exact Option.some.inj hd ▸ ⟨_, _, _, D24, PySem.W.mg_of X G a24⟩
    | 25, hd => exact Option.some.inj hd ▸ ⟨_, _, _, D25, PySem.W.mg_of X G a25⟩
    | 26, hd => exact Option.some.inj hd ▸ ⟨_, _, _, D26, PySem.W.mg_of X G a26⟩
    | 27, hd => exact Option.some.inj hd ▸ ⟨_, _, _, D27, PySem.W.mg_of X G a27⟩
    | 28, hd => exact Option.some.inj hd ▸ ⟨_, _, _, D28, PySem.W.mg_of X G a28⟩
    | 29, hd => exact Option.some.inj hd ▸ ⟨_, _, _, D29, PySem.W.mg_of X G a29⟩
    | 30, hd => exact Option.some.inj hd ▸ ⟨_, _, _, D30, PySem.W.mg_of X G a30⟩
    | 31, hd => exact Option.some.inj hd ▸ ⟨_, _, _, D31, PySem.W.mg_of X G a31⟩
    | 32, hd => exact Option.some.inj hd ▸ ⟨_, _, _, D32, PySem.W.mg_of X G a32⟩
    | 33, hd => exact Option.some.inj hd ▸ ⟨_, _, _, D33, PySem.W.mg_of X G a33⟩
    | 34, hd => exact Option.some.inj hd ▸ ⟨_, _, _, D34, PySem.W.mg_of X G a34⟩
    | 35, hd => exact Option.some.inj hd ▸ ⟨_, _, _, D35, PySem.W.mg_of X G a35⟩
    | 36, hd => exact Option.some.inj hd ▸ ⟨_, _, _, D36, PySem.W.mg_of X G a36⟩
    | 37, hd => exact Option.some.inj hd ▸ ⟨_, _, _, D37, PySem.W.mg_of X G a37⟩
    | 38, hd => exact Option.some.inj hd ▸ ⟨_, _, _, D38, PySem.W.mg_of X G a38⟩
    | 39, hd => exact Option.some.inj hd ▸ ⟨_, _, _, D39, PySem.W.mg_of X G a39⟩
    | 40, hd => exact Option.some.inj hd ▸ ⟨_, _, _, D40, PySem.W.mg_of X G a40⟩
    | 41, hd => exact Option.some.inj hd ▸ ⟨_, _, _, D41, PySem.W.mg_of X G a41⟩
    | 42, hd => exact Option.some.inj hd ▸ ⟨_, _, _, D42, PySem.W.mg_of X G a42⟩
    | 43, hd => exact Option.some.inj hd ▸ ⟨_, _, _, D43, PySem.W.mg_of X G a43⟩
    | 44, hd => exact Option.some.inj hd ▸ ⟨_, _, _, D44, PySem.W.mg_of X G a44⟩
    | f + 45, hd => cases hd
  · have hx : x ∈ bs := hx
    simp only [bs, List.mem_cons, List.not_mem_nil, or_false] at hx
    rcases hx with rfl | rfl | rfl | rfl | rfl | rfl | rfl | rfl | rfl | rfl | rfl | rfl | rfl | rfl
    · exact PySem.W.mg_none_of X G z0
    · exact PySem.W.mg_none_of X G z1
    · exact PySem.W.mg_none_of X G z2
    · exact PySem.W.mg_none_of X G z3
    · exact PySem.W.mg_none_of X G z4
    · exact PySem.W.mg_none_of X G z5
    · exact PySem.W.mg_none_of X G z6
    · exact PySem.W.mg_none_of X G z7
    · exact PySem.W.mg_none_of X G z8
    · exact PySem.W.mg_none_of X G z9
    · exact PySem.W.mg_none_of X G z10
    · exact PySem.W.mg_none_of X G z11
    · exact PySem.W.mg_none_of X G z12
    · exact PySem.W.mg_none_of X G z13
  · match j, hj with
    | 0, hj => exact (by cases hj; exact ⟨_, _, PySem.W.mg_of X G y0, r0, d0⟩)
    | j + 1, hj => cases hj
  · cases hcd
end PvK

namespace PvK
open PySem PySem.Spec PyProof.Rows L2 Pv
end PvK
open PySem PySem.W PyProof.Rows
set_option maxHeartbeats 0 in
theorem PySem.Challenge.cw_spentwithin_k54_bound_problem_holds : PySem.Challenge.rw_spentwithin_k54_bound_problem.Holds := by
  w_on; o_law; k_head; (case hw => w_witness2)
  k_fill
  refine Pv.walk_ofG (l := PySem.Challenge.rw_spentwithin_k54_bound_problem) (n := 63) (k := 2 * 60) (x := "script") (CX := fun _ => L2.CX0) (sp := fun w => Pv.spLaw _) rfl (by decide) rfl ⟨rfl, by decide, by decide⟩ (fun w h Y => PySem.W.kIn_of Y) ?F (fun _ _ a ns hl _ hS => ⟨a, ns, rfl, hS, hl, fun _ => rfl⟩) (fun _ _ _ _ _ h => h)
  case F =>
    intro w mg fa h KX G hmg
    refine' PvK.all_mk KX G hmg ?a0 ?l0 ?c0 ?k0 ?a1 ?l1 ?c1 ?k1 ?a2 ?l2 ?c2 ?k2 ?a3 ?l3 ?c3 ?k3 ?a4 ?l4 ?c4 ?k4 ?a5 ?l5 ?c5 ?k5 ?a6 ?l6 ?c6 ?k6 ?a7 ?l7 ?c7 ?k7 ?a8 ?l8 ?c8 ?k8 ?a9 ?l9 ?c9 ?k9 ?a10 ?l10 ?c10 ?k10 ?a11 ?l11 ?c11 ?k11 ?a12 ?l12 ?c12 ?k12 ?a13 ?l13 ?c13 ?k13 ?a14 ?l14 ?c14 ?k14 ?a15 ?l15 ?c15 ?k15 ?a16 ?l16 ?c16 ?k16 ?a17 ?l17 ?c17 ?k17 ?a18 ?l18 ?c18 ?k18 ?a19 ?l19 ?c19 ?k19 ?a20 ?l20 ?c20 ?k20 ?a21 ?l21 ?c21 ?k21 ?a22 ?l22 ?c22 ?k22 ?a23 ?l23 ?c23 ?k23 ?a24 ?l24 ?c24 ?k24 ?a25 ?l25 ?c25 ?k25 ?a26 ?l26 ?c26 ?k26 ?a27 ?l27 ?c27 ?k27 ?a28 ?l28 ?c28 ?k28 ?a29 ?l29 ?c29 ?k29 ?a30 ?l30 ?c30 ?k30 ?a31 ?l31 ?c31 ?k31 ?a32 ?l32 ?c32 ?k32 ?a33 ?l33 ?c33 ?k33 ?a34 ?l34 ?c34 ?k34 ?a35 ?l35 ?c35 ?k35 ?a36 ?l36 ?c36 ?k36 ?a37 ?l37 ?c37 ?k37 ?a38 ?l38 ?c38 ?k38 ?a39 ?l39 ?c39 ?k39 ?a40 ?l40 ?c40 ?k40 ?a41 ?l41 ?c41 ?k41 ?a42 ?l42 ?c42 ?k42 ?a43 ?l43 ?c43 ?k43 ?a44 ?l44 ?c44 ?k44 ?a45 ?l45 ?c45 ?k45 ?z0 ?z1 ?z2 ?z3 ?z4 ?z5 ?z6 ?z7 ?z8 ?z9 ?z10 ?z11 ?z12 ?z13 ?y0 ?r0 ?d0 PvK.law_true
    (case a0 => k_is)
    (case l0 => k_is)
    (case c0 => k_is)
    (case k0 => k_is)
    (case a1 => k_is)
    (case l1 => k_is)
    (case c1 => k_is)
    (case k1 => k_is)
    (case a2 => k_is)
    (case l2 => k_is)
    (case c2 => k_is)
    (case k2 => k_is)
    (case a3 => k_is)
    (case l3 => k_is)
    (case c3 => k_is)
    (case k3 => k_is)
    (case a4 => k_is)
    (case l4 => k_is)
    (case c4 => k_is)
    (case k4 => k_is)
    (case a5 => k_is)
    (case l5 => k_is)
    (case c5 => k_is)
    (case k5 => k_is)
    (case a6 => k_is)
    (case l6 => k_is)
    (case c6 => k_is)
    (case k6 => k_is)
    (case a7 => k_is)
    (case l7 => k_is)
    (case c7 => k_is)
    (case k7 => k_is)
    (case a8 => k_is)
    (case l8 => k_is)
    (case c8 => k_is)
    (case k8 => k_is)
    (case a9 => k_is)
    (case l9 => k_is)
    (case c9 => k_is)
    (case k9 => k_is)
    (case a10 => k_is)
    (case l10 => k_is)
    (case c10 => k_is)
    (case k10 => k_is)
    (case a11 => k_is)
    (case l11 => k_is)
    (case c11 => k_is)
    (case k11 => k_is)
    (case a12 => k_is)
    (case l12 => k_is)
    (case c12 => k_is)
    (case k12 => k_is)
    (case a13 => k_is)
    (case l13 => k_is)
    (case c13 => k_is)
    (case k13 => k_is)
    (case a14 => k_is)
    (case l14 => k_is)
    (case c14 => k_is)
    (case k14 => k_is)
    (case a15 => k_is)
    (case l15 => k_is)
    (case c15 => k_is)
    (case k15 => k_is)
    (case a16 => k_is)
    (case l16 => k_is)
    (case c16 => k_is)
    (case k16 => k_is)
    (case a17 => k_is)
    (case l17 => k_is)
    (case c17 => k_is)
    (case k17 => k_is)
    (case a18 => k_is)
    (case l18 => k_is)
    (case c18 => k_is)
    (case k18 => k_is)
    (case a19 => k_is)
    (case l19 => k_is)
    (case c19 => k_is)
    (case k19 => k_is)
    (case a20 => k_is)
    (case l20 => k_is)
    (case c20 => k_is)
    (case k20 => k_is)
    (case a21 => k_is)
    (case l21 => k_is)
    (case c21 => k_is)
    (case k21 => k_is)
    (case a22 => k_is)
    (case l22 => k_is)
    (case c22 => k_is)
    (case k22 => k_is)
    (case a23 => k_is)
    (case l23 => k_is)
    (case c23 => k_is)
    (case k23 => k_is)
    (case a24 => k_is)
    (case l24 => k_is)
    (case c24 => k_is)
    (case k24 => k_is)
    (case a25 => k_is)
    (case l25 => k_is)
    (case c25 => k_is)
    (case k25 => k_is)
    (case a26 => k_is)
    (case l26 => k_is)
    (case c26 => k_is)
    (case k26 => k_is)
    (case a27 => k_is)
    (case l27 => k_is)
    (case c27 => k_is)
    (case k27 => k_is)
    (case a28 => k_is)
    (case l28 => k_is)
    (case c28 => k_is)
    (case k28 => k_is)
    (case a29 => k_is)
    (case l29 => k_is)
    (case c29 => k_is)
    (case k29 => k_is)
    (case a30 => k_is)
    (case l30 => k_is)
    (case c30 => k_is)
    (case k30 => k_is)
    (case a31 => k_is)
    (case l31 => k_is)
    (case c31 => k_is)
    (case k31 => k_is)
    (case a32 => k_is)
    (case l32 => k_is)
    (case c32 => k_is)
    (case k32 => k_is)
    (case a33 => k_is)
    (case l33 => k_is)
    (case c33 => k_is)
    (case k33 => k_is)
    (case a34 => k_is)
    (case l34 => k_is)
    (case c34 => k_is)
    (case k34 => k_is)
    (case a35 => k_is)
    (case l35 => k_is)
    (case c35 => k_is)
    (case k35 => k_is)
    (case a36 => k_is)
    (case l36 => k_is)
    (case c36 => k_is)
    (case k36 => k_is)
    (case a37 => k_is)
    (case l37 => k_is)
    (case c37 => k_is)
    (case k37 => k_is)
    (case a38 => k_is)
    (case l38 => k_is)
    (case c38 => k_is)
    (case k38 => k_is)
    (case a39 => k_is)
    (case l39 => k_is)
    (case c39 => k_is)
    (case k39 => k_is)
    (case a40 => k_is)
    (case l40 => k_is)
    (case c40 => k_is)
    (case k40 => k_is)
    (case a41 => k_is)
    (case l41 => k_is)
    (case c41 => k_is)
    (case k41 => k_is)
    (case a42 => k_is)
    (case l42 => k_is)
    (case c42 => k_is)
    (case k42 => k_is)
    (case a43 => k_is)
    (case l43 => k_is)
    (case c43 => k_is)
    (case k43 => k_is)
    (case a44 => k_is)
    (case l44 => k_is)
    (case c44 => k_is)
    (case k44 => k_is)
    (case a45 => k_is)
    (case l45 => k_is)
    (case c45 => k_is)
    (case k45 => k_is)
    (case z0 => k_is)
    (case z1 => k_is)
    (case z2 => k_is)
    (case z3 => k_is)
    (case z4 => k_is)
    (case z5 => k_is)
    (case z6 => k_is)
    (case z7 => k_is)
    (case z8 => k_is)
    (case z9 => k_is)
    (case z10 => k_is)
    (case z11 => k_is)
    (case z12 => k_is)
    (case z13 => k_is)
    (case y0 => k_is)
    (case r0 => exact Pv.rel_ref)
    (case d0 =>
      refine' Pv.den_t ?hA1 ?hB1 ?hC1 ?hD1 ?hE1
      (case hA1 => k_is)
      (case hB1 => decide)
      (case hC1 => exact .cons Pv.rel_int (.cons Pv.rel_ref (.nil)))
      (case hD1 => decide)
      (case hE1 =>
        refine Pv.all_cons ?e1_0 (Pv.all_cons ?e1_1 (Pv.all_nil))
        (case e1_0 => exact fun F => .int _)
        (case e1_1 =>
          refine' Pv.den_t ?hA2 ?hB2 ?hC2 ?hD2 ?hE2
          (case hA2 => k_is)
          (case hB2 => decide)
          (case hC2 => exact .nil)
          (case hD2 => decide)
          (case hE2 =>
            refine Pv.all_nil))))

#print axioms PySem.Challenge.cw_spentwithin_k54_bound_problem_holds
