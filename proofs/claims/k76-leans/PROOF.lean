import PyProof.Rows.All
import Wide.All
import OpenK.AllK
import Wide.FinOn
import HandS.ForMost
import HandS.TupAny
import HandS.Deep
import HandS.Wide
import HandS.IsInst
import HandS.Walk
import HandS.More
import HandS.Zip
import HandS.Rev
import HandS.WordsDict
import HandS.DictComp
import HandS.Flow
import KE.GoesZip
import KE.GoesMore
import KE.GoesEnum
import HandS.RevTup
import HandS.Strs
import HandS.Gcd
import HandS.NoneIn
import HandS.Comp
import PySem.Challenge.RW_spentwithin_k76_leans_of_one_procedure
set_option Elab.async false
set_option linter.all false
set_option maxRecDepth 100000
set_option autoImplicit false
/-! P0: frozen data, cells, the world relation -/
namespace Pv
open PySem PySem.Spec PyProof.Rows L2

abbrev Dt := PyData
def kD : Key → Dt
  | .inl i => .int i
  | .inr x => .str x

/-! ### what may be read stays -/
def Rle (F F' : Hp) : Prop := ∀ a u, Rd F a u → Rd F' a u
theorem Rle.refl {F : Hp} : Rle F F := fun _ _ h => h
theorem Rle.trans {F F1 F2 : Hp} (h : Rle F F1) (h' : Rle F1 F2) : Rle F F2 := fun a u r => h' a u (h a u r)
theorem Rle.upd {F : Hp} {p : Addr} {o : HO} (h : F p = none) : Rle F (upd F p o) := fun a u r => by
  have ne : a ≠ p := by
    rintro rfl
    rcases r with r | ⟨_, r⟩ <;> (rw [h] at r; cases r)
  rcases r with r | ⟨ob, r⟩
  · exact .inl (by rw [upd_ne ne]; exact r)
  · exact .inr ⟨ob, by rw [upd_ne ne]; exact r⟩
theorem Rle.sqL {K : PySem.W.Frag} {F F' : Hp} (h : Rle F F') {a : Addr} {xs : List V} (q : SqL K F a xs) : SqL K F' a xs := by
  rcases q with q | q
  · exact .inl (h _ _ q)
  · exact .inr q
theorem Rle.sqT {K : PySem.W.Frag} {F F' : Hp} (h : Rle F F') {a : Addr} {xs : List V} (q : SqT K F a xs) : SqT K F' a xs := by
  rcases q with q | q
  · exact .inl (h _ _ q)
  · exact .inr q
theorem Rle.same {F H : Hp} (h : ∀ a o, F a = some o → H a = some o) : Rle F H := fun a u r => by
  rcases r with r | ⟨ob, r⟩
  · exact .inl (h _ _ r)
  · exact .inr ⟨ob, h _ _ r⟩

/-! ### a value denotes data -/
mutual
inductive Den (K : PySem.W.Frag) (F : Hp) : V → Dt → Prop
  | non : Den K F .non .none
  | bl (b : Bool) : Den K F (.bl b) (.bool b)
  | int (i : Int) : Den K F (.int i) (.int i)
  | str (x : Str) : Den K F (.str x) (.str x)
  | lst {a : Addr} {xs : List V} {ds : List Dt} : SqL K F a xs → ds.length ≤ sizeLine → DenAll K F xs ds → Den K F (.ref a) (.list ds)
  | tup {a : Addr} {xs : List V} {ds : List Dt} : SqT K F a xs → ds.length ≤ sizeLine → DenAll K F xs ds → Den K F (.ref a) (.tuple ds)
  | dct {a : Addr} {kvs : List (Key × V)} {ds : List (Dt × Dt)} : Rd F a (.dK kvs) → ds.length ≤ sizeLine → DenKV K F kvs ds → Den K F (.ref a) (.dict ds)
inductive DenAll (K : PySem.W.Frag) (F : Hp) : List V → List Dt → Prop
  | nil : DenAll K F [] []
  | cons {v : V} {vs : List V} {d : Dt} {ds : List Dt} : Den K F v d → DenAll K F vs ds → DenAll K F (v :: vs) (d :: ds)
inductive DenKV (K : PySem.W.Frag) (F : Hp) : List (Key × V) → List (Dt × Dt) → Prop
  | nil : DenKV K F [] []
  | cons {k : Key} {v : V} {vs : List (Key × V)} {d : Dt} {ds : List (Dt × Dt)} : Den K F v d → DenKV K F vs ds → DenKV K F ((k, v) :: vs) ((kD k, d) :: ds)
end
section
variable {K : PySem.W.Frag} {F F' : Hp}
mutual
theorem Den.mono (h : Rle F F') : ∀ {v : V} {d : Dt}, Den K F v d → Den K F' v d
  | _, _, .non => .non
  | _, _, .bl b => .bl b
  | _, _, .int i => .int i
  | _, _, .str x => .str x
  | _, _, .lst q z r => .lst (h.sqL q) z (DenAll.mono h r)
  | _, _, .tup q z r => .tup (h.sqT q) z (DenAll.mono h r)
  | _, _, .dct q z r => .dct (h _ _ q) z (DenKV.mono h r)
theorem DenAll.mono (h : Rle F F') : ∀ {vs : List V} {ds : List Dt}, DenAll K F vs ds → DenAll K F' vs ds
  | _, _, .nil => .nil
  | _, _, .cons a b => .cons (Den.mono h a) (DenAll.mono h b)
theorem DenKV.mono (h : Rle F F') : ∀ {vs : List (Key × V)} {ds : List (Dt × Dt)}, DenKV K F vs ds → DenKV K F' vs ds
  | _, _, .nil => .nil
  | _, _, .cons a b => .cons (Den.mono h a) (DenKV.mono h b)
end
theorem DenAll.length : ∀ {vs : List V} {ds : List Dt}, DenAll K F vs ds → vs.length = ds.length
  | _, _, .nil => rfl
  | _, _, .cons _ b => by rw [List.length_cons, List.length_cons, DenAll.length b]
theorem DenAll.get : ∀ {vs : List V} {ds : List Dt} {i : Nat} {d : Dt}, DenAll K F vs ds → ds[i]? = some d → ∃ v, vs[i]? = some v ∧ Den K F v d
  | _, _, _, _, .nil, e => by simp at e
  | _, _, 0, _, .cons a _, e => by simp at e; subst e; exact ⟨_, rfl, a⟩
  | _, _, i + 1, _, .cons _ b, e => by
    obtain ⟨v, h1, h2⟩ := DenAll.get (i := i) b (by simpa using e)
    exact ⟨v, by simpa using h1, h2⟩
theorem DenAll.append : ∀ {xs ys : List V} {ds es : List Dt}, DenAll K F xs ds → DenAll K F ys es → DenAll K F (xs ++ ys) (ds ++ es)
  | _, _, _, _, .nil, s => s
  | _, _, _, _, .cons r t, s => .cons r (DenAll.append t s)
theorem DenAll.take : ∀ {xs : List V} {ds : List Dt} (n : Nat), DenAll K F xs ds → DenAll K F (xs.take n) (ds.take n)
  | _, _, 0, _ => .nil
  | _, _, _ + 1, .nil => .nil
  | _, _, n + 1, .cons r t => .cons r (DenAll.take n t)
theorem DenAll.drop : ∀ {xs : List V} {ds : List Dt} (n : Nat), DenAll K F xs ds → DenAll K F (xs.drop n) (ds.drop n)
  | _, _, 0, r => r
  | _, _, _ + 1, .nil => .nil
  | _, _, n + 1, .cons _ t => DenAll.drop n t
end

/-! ### values of the evaluator: data, or a cell (an object that may change) -/
inductive Val where
  | d (x : Dt) | ref (n : Nat)
inductive Ob where
  | lst (vs : List Val) | dct (kvs : List (Key × Val)) | dead | ins (C : Str) (fs : List (Str × Val)) | dtk (kvs : List (List Key × Val))
/-- ρ: where the cells stand -/
def DenV (K : PySem.W.Frag) (F : Hp) (ρ : List Addr) : V → Val → Prop
  | u, .d x => Den K F u x
  | u, .ref n => ∃ a, ρ[n]? = some a ∧ u = .ref a
abbrev DenVs (K : PySem.W.Frag) (F : Hp) (ρ : List Addr) : List V → List Val → Prop := Paired (DenV K F ρ)
abbrev DenVK (K : PySem.W.Frag) (F : Hp) (ρ : List Addr) : List (Key × V) → List (Key × Val) → Prop := Paired fun p q => p.1 = q.1 ∧ DenV K F ρ p.2 q.2
abbrev DenVA (K : PySem.W.Frag) (F : Hp) (ρ : List Addr) {κ : Type} : List (κ × V) → List (κ × Val) → Prop := Paired fun p q => p.1 = q.1 ∧ DenV K F ρ p.2 q.2
section
variable {K : PySem.W.Frag} {F F' : Hp} {ρ ρ' : List Addr}
theorem DenV.mono (h : Rle F F') (hp : ρ <+: ρ') {u : V} {v : Val} (q : DenV K F ρ u v) : DenV K F' ρ' u v := by
  cases v with
  | d x => exact Den.mono h q
  | ref n =>
    obtain ⟨a, e, r⟩ := q
    obtain ⟨t, rfl⟩ := hp
    refine ⟨a, ?_, r⟩
    rw [List.getElem?_append_left (List.getElem?_eq_some_iff.mp e).1]
    exact e
theorem DenVs.mono (h : Rle F F') (hp : ρ <+: ρ') {us : List V} {vs : List Val} (q : DenVs K F ρ us vs) : DenVs K F' ρ' us vs := Paired.mapP q fun _ _ r => r.mono h hp
theorem DenVK.mono (h : Rle F F') (hp : ρ <+: ρ') {us : List (Key × V)} {vs : List (Key × Val)} (q : DenVK K F ρ us vs) : DenVK K F' ρ' us vs := Paired.mapP q fun _ _ r => ⟨r.1, r.2.mono h hp⟩
theorem DenVA.mono {κ : Type} (h : Rle F F') (hp : ρ <+: ρ') {us : List (κ × V)} {vs : List (κ × Val)} (q : DenVA K F ρ us vs) : DenVA K F' ρ' us vs := Paired.mapP q fun _ _ r => ⟨r.1, r.2.mono h hp⟩
theorem DenVs.of_all : ∀ {vs : List V} {ds : List Dt}, DenAll K F vs ds → DenVs K F ρ vs (ds.map Val.d)
  | _, _, .nil => .nil
  | _, _, .cons a b => .cons a (DenVs.of_all b)
/-- all of them data -/
def asD : Val → Option Dt
  | .d x => some x
  | .ref _ => none
def asDs : List Val → Option (List Dt)
  | [] => some []
  | v :: vs => match asD v, asDs vs with
    | some x, some xs => some (x :: xs)
    | _, _ => none
theorem asDs_map : ∀ ds : List Dt, asDs (ds.map Val.d) = some ds
  | [] => rfl
  | d :: ds => by simp only [List.map_cons, asDs, asD, asDs_map ds]
theorem asDs_eq : ∀ {vs : List Val} {ds : List Dt}, asDs vs = some ds → vs = ds.map Val.d
  | [], ds, h => by cases h; rfl
  | v :: vs, ds, h => by
    unfold asDs at h
    cases v with
    | ref n => simp [asD] at h
    | d x =>
      cases e : asDs vs with
      | none => rw [e] at h; simp [asD] at h
      | some xs =>
        rw [e] at h
        simp only [asD, Option.some.injEq] at h
        subst h
        rw [asDs_eq e]; rfl
theorem DenVs.all : ∀ {us : List V} {ds : List Dt}, DenVs K F ρ us (ds.map Val.d) → DenAll K F us ds
  | [], [], _ => .nil
  | _ :: _, _ :: _, .cons a b => .cons a (DenVs.all b)
theorem DenVs.length : ∀ {us : List V} {vs : List Val}, DenVs K F ρ us vs → us.length = vs.length
  | _, _, .nil => rfl
  | _, _, .cons _ b => by rw [List.length_cons, List.length_cons, DenVs.length b]
theorem DenVs.get : ∀ {us : List V} {vs : List Val} {i : Nat} {v : Val}, DenVs K F ρ us vs → vs[i]? = some v → ∃ u, us[i]? = some u ∧ DenV K F ρ u v
  | _, _, _, _, .nil, e => by simp at e
  | _, _, 0, _, .cons a _, e => by simp at e; subst e; exact ⟨_, rfl, a⟩
  | _, _, i + 1, _, .cons _ b, e => by
    obtain ⟨v, h1, h2⟩ := DenVs.get (i := i) b (by simpa using e)
    exact ⟨v, by simpa using h1, h2⟩
theorem DenVs.getU : ∀ {us : List V} {vs : List Val} {i : Nat} {u : V}, DenVs K F ρ us vs → us[i]? = some u → ∃ v, vs[i]? = some v ∧ DenV K F ρ u v
  | _, _, _, _, .nil, e => by simp at e
  | _, _, 0, _, .cons a _, e => by simp at e; subst e; exact ⟨_, rfl, a⟩
  | _, _, i + 1, _, .cons _ b, e => by
    obtain ⟨v, h1, h2⟩ := DenVs.getU (i := i) b (by simpa using e)
    exact ⟨v, by simpa using h1, h2⟩
theorem DenVs.append : ∀ {xs ys : List V} {ds es : List Val}, DenVs K F ρ xs ds → DenVs K F ρ ys es → DenVs K F ρ (xs ++ ys) (ds ++ es)
  | _, _, _, _, .nil, s => s
  | _, _, _, _, .cons r t, s => .cons r (DenVs.append t s)
theorem DenVs.take : ∀ {xs : List V} {ds : List Val} (n : Nat), DenVs K F ρ xs ds → DenVs K F ρ (xs.take n) (ds.take n)
  | _, _, 0, _ => .nil
  | _, _, _ + 1, .nil => .nil
  | _, _, n + 1, .cons r t => .cons r (DenVs.take n t)
theorem DenVs.drop : ∀ {xs : List V} {ds : List Val} (n : Nat), DenVs K F ρ xs ds → DenVs K F ρ (xs.drop n) (ds.drop n)
  | _, _, 0, r => r
  | _, _, _ + 1, .nil => .nil
  | _, _, n + 1, .cons _ t => DenVs.drop n t
theorem DenVs.set {u : V} {v : Val} (r : DenV K F ρ u v) : ∀ {us : List V} {vs : List Val} (i : Nat), DenVs K F ρ us vs → DenVs K F ρ (us.set i u) (vs.set i v)
  | _, _, _, .nil => .nil
  | _, _, 0, .cons _ t => .cons r t
  | _, _, i + 1, .cons q t => .cons q (DenVs.set r i t)
theorem DenVs.dropLast {xs : List V} {ds : List Val} (h : DenVs K F ρ xs ds) : DenVs K F ρ xs.dropLast ds.dropLast := by
  rw [List.dropLast_eq_take, List.dropLast_eq_take, h.length]
  exact h.take _
end

/-! ### the world: the frozen part F, the cells at ρ, the heap H -/
def ObD (K : PySem.W.Frag) (F : Hp) (ρ : List Addr) (H : Hp) (a : Addr) : Ob → Prop
  | .lst vs => vs.length ≤ sizeLine ∧ ∃ xs, H a = some (.lst xs) ∧ DenVs K F ρ xs vs
  | .dct kvs => kvs.length ≤ sizeLine ∧ ∃ ks, H a = some (.dK ks) ∧ DenVK K F ρ ks kvs
  | .dead => H a ≠ none
  | .ins C fs => fs.length ≤ 999 ∧ ∃ Ca dx us, PySem.W.nsIn K mainGlobals C = some (some (.ref Ca)) ∧ H a = some (.ins Ca dx us) ∧ DenVA K F ρ us fs
  | .dtk kvs => kvs.length ≤ sizeLine ∧ ∃ ks, H a = some (.dT ks) ∧ DenVA K F ρ ks kvs
def Ob.live : Ob → Bool
  | .dead => false
  | _ => true
structure Wd (K : PySem.W.Frag) (mh : List Ob) (F : Hp) (ρ : List Addr) (H : Hp) : Prop where
  same : ∀ a o, F a = some o → H a = some o
  len : ρ.length = mh.length
  nd : ρ.Nodup
  off : ∀ (n : Nat) (a : Addr) (o : Ob), ρ[n]? = some a → mh[n]? = some o → o.live = true → F a = none
  cell : ∀ (n : Nat) (a : Addr) (o : Ob), ρ[n]? = some a → mh[n]? = some o → ObD K F ρ H a o
/-- growth: what was readable is, cells stay, what is neither stays as it is -/
structure Gr (F : Hp) (ρ : List Addr) (H : Hp) (F' : Hp) (ρ' : List Addr) (H' : Hp) : Prop where
  rd : Rle F F'
  pre : ρ <+: ρ'
  fr : ∀ a o, H a = some o → F a = none → a ∉ ρ → H' a = some o ∧ F' a = none ∧ a ∉ ρ'
section
variable {K : PySem.W.Frag} {mh mh' : List Ob} {F F' F2 : Hp} {ρ ρ' ρ2 : List Addr} {H H' H2 : Hp}
theorem Gr.refl : Gr F ρ H F ρ H := ⟨.refl, List.prefix_refl _, fun _ _ h1 h2 h3 => ⟨h1, h2, h3⟩⟩
theorem Gr.trans (a : Gr F ρ H F' ρ' H') (b : Gr F' ρ' H' F2 ρ2 H2) : Gr F ρ H F2 ρ2 H2 :=
  ⟨a.rd.trans b.rd, a.pre.trans b.pre, fun x o h1 h2 h3 => let ⟨q1, q2, q3⟩ := a.fr x o h1 h2 h3; b.fr x o q1 q2 q3⟩
theorem ObD.there {a : Addr} {o : Ob} (h : ObD K F ρ H a o) : H a ≠ none := by
  cases o with
  | lst vs => obtain ⟨_, xs, e, _⟩ := h; rw [e]; exact fun z => nomatch z
  | dct vs => obtain ⟨_, xs, e, _⟩ := h; rw [e]; exact fun z => nomatch z
  | dead => exact h
  | ins C fs => obtain ⟨_, Ca, dx, us, _, e, _⟩ := h; rw [e]; exact fun z => nomatch z
  | dtk vs => obtain ⟨_, xs, e, _⟩ := h; rw [e]; exact fun z => nomatch z
theorem Wd.there (w : Wd K mh F ρ H) {a : Addr} (h : a ∈ ρ) : H a ≠ none := by
  obtain ⟨n, hn, e⟩ := List.mem_iff_getElem.mp h
  have h1 : ρ[n]? = some a := by rw [List.getElem?_eq_getElem hn, e]
  have h2 : n < mh.length := by rw [← w.len]; exact hn
  exact (w.cell n a _ h1 (List.getElem?_eq_getElem h2)).there
theorem Wd.freshF (w : Wd K mh F ρ H) {p : Addr} (hp : H p = none) : F p = none := by
  cases e : F p with
  | none => rfl
  | some o => rw [w.same _ _ e] at hp; cases hp
theorem Wd.freshρ (w : Wd K mh F ρ H) {p : Addr} (hp : H p = none) : p ∉ ρ := fun h => w.there h hp
theorem ObD.mono {a : Addr} {o : Ob} (h : ObD K F ρ H a o) (r : Rle F F') (p : ρ <+: ρ') (e : ∀ u, H a = some u → H' a = some u) : ObD K F' ρ' H' a o := by
  cases o with
  | lst vs => obtain ⟨z, xs, q, d⟩ := h; exact ⟨z, xs, e _ q, d.mono r p⟩
  | dct vs => obtain ⟨z, xs, q, d⟩ := h; exact ⟨z, xs, e _ q, d.mono r p⟩
  | dead =>
    have h' : H a ≠ none := h
    show H' a ≠ none
    cases q : H a with
    | none => exact absurd q h'
    | some u => rw [e u q]; exact fun z => nomatch z
  | ins C fs => obtain ⟨z, Ca, dx, us, n, q, d⟩ := h; exact ⟨z, Ca, dx, us, n, e _ q, d.mono r p⟩
  | dtk vs => obtain ⟨z, xs, q, d⟩ := h; exact ⟨z, xs, e _ q, d.mono r p⟩
/-- a new frozen object -/
theorem Wd.newF (w : Wd K mh F ρ H) {p : Addr} {o : HO} (hp : H p = none) : Wd K mh (upd F p o) ρ (upd H p o) ∧ Gr F ρ H (upd F p o) ρ (upd H p o) := by
  have hF := w.freshF hp
  have hρ := w.freshρ hp
  have ne : ∀ {a u}, H a = some u → a ≠ p := fun {a u} e => ne_of_none e hp
  refine ⟨⟨fun a u e => ?_, w.len, w.nd, fun n a ob e1 e2 l => ?_, fun n a ob e1 e2 => ?_⟩, ⟨Rle.upd hF, List.prefix_refl _, fun a u h1 h2 h3 => ⟨?_, ?_, h3⟩⟩⟩
  · by_cases h : a = p
    · subst h; rw [upd_same] at e ⊢; exact e
    · rw [upd_ne h] at e ⊢; exact w.same _ _ e
  · have : a ≠ p := fun z => hρ (z ▸ List.mem_of_getElem? e1)
    rw [upd_ne this]; exact w.off n a ob e1 e2 l
  · refine (w.cell n a ob e1 e2).mono (Rle.upd hF) (List.prefix_refl _) fun u q => ?_
    rw [upd_ne (ne q)]; exact q
  · rw [upd_ne (ne h1)]; exact h1
  · rw [upd_ne (ne h1)]; exact h2
/-- a new cell -/
theorem Wd.newC (w : Wd K mh F ρ H) {p : Addr} {u : HO} {o : Ob} (hp : H p = none) (ho : ObD K F (ρ ++ [p]) (upd H p u) p o) : Wd K (mh ++ [o]) F (ρ ++ [p]) (upd H p u) ∧ Gr F ρ H F (ρ ++ [p]) (upd H p u) := by
  have hF := w.freshF hp
  have hρ := w.freshρ hp
  have ne : ∀ {a u}, H a = some u → a ≠ p := fun {a u} e => ne_of_none e hp
  have pre : ρ <+: ρ ++ [p] := List.prefix_append _ _
  have ix : ∀ {n : Nat} {a : Addr} {ob : Ob}, (ρ ++ [p])[n]? = some a → (mh ++ [o])[n]? = some ob → (ρ[n]? = some a ∧ mh[n]? = some ob) ∨ (a = p ∧ ob = o) := by
    intro n a ob e1 e2
    by_cases h : n < ρ.length
    · have h2 : n < mh.length := by rw [← w.len]; exact h
      rw [List.getElem?_append_left h] at e1
      rw [List.getElem?_append_left h2] at e2
      exact .inl ⟨e1, e2⟩
    · have h1 : ρ.length ≤ n := by omega
      have h2 : mh.length ≤ n := by rw [← w.len]; exact h1
      rw [List.getElem?_append_right h1] at e1
      rw [List.getElem?_append_right h2] at e2
      have hz : n - ρ.length = 0 := by
        cases q : n - ρ.length with
        | zero => rfl
        | succ k => rw [q] at e1; simp at e1
      have hz2 : n - mh.length = 0 := by rw [← w.len]; exact hz
      rw [hz] at e1
      rw [hz2] at e2
      simp at e1 e2
      exact .inr ⟨e1.symm, e2.symm⟩
  refine ⟨⟨fun a u' e => ?_, by rw [List.length_append, List.length_append, w.len]; rfl, ?_, fun n a ob e1 e2 l => ?_, fun n a ob e1 e2 => ?_⟩, ⟨.refl, pre, fun a u' h1 h2 h3 => ⟨?_, h2, ?_⟩⟩⟩
  · have q := w.same _ _ e
    rw [upd_ne (ne q)]; exact q
  · refine List.nodup_append.mpr ⟨w.nd, by simp, fun a ha b hb => ?_⟩
    have : b = p := by simpa using hb
    subst this
    exact fun z => hρ (z ▸ ha)
  · rcases ix e1 e2 with ⟨q1, q2⟩ | ⟨rfl, rfl⟩
    · exact w.off n a ob q1 q2 l
    · exact hF
  · rcases ix e1 e2 with ⟨q1, q2⟩ | ⟨rfl, rfl⟩
    · refine (w.cell n a ob q1 q2).mono .refl pre fun u' q => ?_
      rw [upd_ne (ne q)]; exact q
    · exact ho
  · rw [upd_ne (ne h1)]; exact h1
  · intro z
    rcases List.mem_append.mp z with z | z
    · exact h3 z
    · have : a = p := by simpa using z
      exact ne h1 this
/-- a cell is written -/
theorem Wd.write (w : Wd K mh F ρ H) {n : Nat} {a : Addr} {u : HO} {o0 o : Ob} (e1 : ρ[n]? = some a) (e2 : mh[n]? = some o0) (l : o0.live = true) (ho : ObD K F ρ (upd H a u) a o) : Wd K (mh.set n o) F ρ (upd H a u) ∧ Gr F ρ H F ρ (upd H a u) := by
  have hF := w.off n a o0 e1 e2 l
  have inj : ∀ {m b}, ρ[m]? = some b → b = a → m = n := fun {m b} e z => by
    subst z
    obtain ⟨l1, q1⟩ := List.getElem?_eq_some_iff.mp e
    obtain ⟨l2, q2⟩ := List.getElem?_eq_some_iff.mp e1
    exact (List.getElem_inj w.nd).mp (q1.trans q2.symm)
  have hn : n < mh.length := (List.getElem?_eq_some_iff.mp e2).1
  refine ⟨⟨fun b u' e => ?_, by rw [List.length_set]; exact w.len, w.nd, fun m b ob q1 q2 l' => ?_, fun m b ob q1 q2 => ?_⟩, ⟨.refl, List.prefix_refl _, fun b u' h1 h2 h3 => ⟨?_, h2, h3⟩⟩⟩
  · have : b ≠ a := fun z => by rw [z, hF] at e; cases e
    rw [upd_ne this]; exact w.same _ _ e
  · by_cases h : m = n
    · subst h
      rw [e1] at q1; cases q1
      exact hF
    · rw [List.getElem?_set_ne (Ne.symm h)] at q2
      exact w.off m b ob q1 q2 l'
  · by_cases h : m = n
    · subst h
      rw [e1] at q1; cases q1
      rw [List.getElem?_set_self hn] at q2
      cases q2
      exact ho
    · rw [List.getElem?_set_ne (Ne.symm h)] at q2
      refine (w.cell m b ob q1 q2).mono .refl (List.prefix_refl _) fun u' q => ?_
      rw [upd_ne fun z => h (inj q1 z)]; exact q
  · rw [upd_ne (show b ≠ a from fun z => h3 (by rw [z]; exact List.mem_of_getElem? e1))]; exact h1
/-- a cell is frozen -/
theorem Wd.freeze (w : Wd K mh F ρ H) {n : Nat} {a : Addr} {u : HO} {o0 : Ob} (e1 : ρ[n]? = some a) (e2 : mh[n]? = some o0) (l : o0.live = true) (hu : H a = some u) : Wd K (mh.set n .dead) (upd F a u) ρ H ∧ Gr F ρ H (upd F a u) ρ H := by
  have hF := w.off n a o0 e1 e2 l
  have hn : n < mh.length := (List.getElem?_eq_some_iff.mp e2).1
  have inj : ∀ {m b}, ρ[m]? = some b → b = a → m = n := fun {m b} e z => by
    subst z
    obtain ⟨l1, q1⟩ := List.getElem?_eq_some_iff.mp e
    obtain ⟨l2, q2⟩ := List.getElem?_eq_some_iff.mp e1
    exact (List.getElem_inj w.nd).mp (q1.trans q2.symm)
  refine ⟨⟨fun b u' e => ?_, by rw [List.length_set]; exact w.len, w.nd, fun m b ob q1 q2 l' => ?_, fun m b ob q1 q2 => ?_⟩, ⟨Rle.upd hF, List.prefix_refl _, fun b u' h1 h2 h3 => ⟨h1, ?_, h3⟩⟩⟩
  · by_cases h : b = a
    · subst h; rw [upd_same] at e; cases e; exact hu
    · rw [upd_ne h] at e; exact w.same _ _ e
  · by_cases h : m = n
    · subst h
      rw [List.getElem?_set_self hn] at q2
      cases q2
      cases l'
    · rw [List.getElem?_set_ne (Ne.symm h)] at q2
      rw [upd_ne fun z => h (inj q1 z)]
      exact w.off m b ob q1 q2 l'
  · by_cases h : m = n
    · subst h
      rw [e1] at q1; cases q1
      rw [List.getElem?_set_self hn] at q2
      cases q2
      show H a ≠ none
      rw [hu]; exact fun z => nomatch z
    · rw [List.getElem?_set_ne (Ne.symm h)] at q2
      exact (w.cell m b ob q1 q2).mono (Rle.upd hF) (List.prefix_refl _) fun u' q => q
  · rw [upd_ne (show b ≠ a from fun z => h3 (by rw [z]; exact List.mem_of_getElem? e1))]; exact h2
/-- the newer cells are forgotten -/
theorem Wd.cut (w : Wd K mh F ρ' H) (n : Nat) (ok : ∀ m o, m < n → mh[m]? = some o → ∀ a, ρ'[m]? = some a → ObD K F (ρ'.take n) H a o) : Wd K (mh.take n) F (ρ'.take n) H := by
  refine ⟨w.same, by rw [List.length_take, List.length_take, w.len], w.nd.sublist (List.take_sublist _ _), fun m a o e1 e2 l => ?_, fun m a o e1 e2 => ?_⟩
  · have h : m < n := by
      have := (List.getElem?_eq_some_iff.mp e1).1
      rw [List.length_take] at this; omega
    rw [List.getElem?_take_of_lt h] at e1 e2
    exact w.off m a o e1 e2 l
  · have h : m < n := by
      have := (List.getElem?_eq_some_iff.mp e1).1
      rw [List.length_take] at this; omega
    rw [List.getElem?_take_of_lt h] at e1 e2
    exact ok m o h e2 a e1
end
end Pv

/-! P1: readers of values; operators -/
namespace Pv
open PySem PySem.Spec PyProof.Rows L2

/-! ### reading a value -/
def cellL (mh : List Ob) (n : Nat) : Option (List Val) := match mh[n]? with
  | some (.lst vs) => some vs
  | _ => none
def seqL (mh : List Ob) : Val → Option (List Val)
  | .d (.list xs) => some (xs.map Val.d)
  | .ref n => cellL mh n
  | _ => none
def seqT : Val → Option (List Val)
  | .d (.tuple xs) => some (xs.map Val.d)
  | _ => none
def seqA (mh : List Ob) (v : Val) : Option (List Val) := match v with
  | .d (.tuple xs) => some (xs.map Val.d)
  | v => seqL mh v
section
variable {K : PySem.W.Frag} {mh : List Ob} {F : Hp} {ρ : List Addr} {H : Hp} {u : V} {v : Val} {vs : List Val}
theorem Wd.rle (w : Wd K mh F ρ H) : Rle F H := Rle.same w.same
theorem cellL_ok (w : Wd K mh F ρ H) {n : Nat} {a : Addr} (e : ρ[n]? = some a) (h : cellL mh n = some vs) : mh[n]? = some (.lst vs) ∧ ∃ xs, H a = some (.lst xs) ∧ DenVs K F ρ xs vs ∧ vs.length ≤ sizeLine := by
  unfold cellL at h
  split at h
  · rename_i ws e2
    cases h
    obtain ⟨z, xs, q, d⟩ := w.cell n a _ e e2
    exact ⟨e2, xs, q, d, z⟩
  · cases h
theorem seqL_ok (w : Wd K mh F ρ H) (d : DenV K F ρ u v) (h : seqL mh v = some vs) : ∃ a xs, u = .ref a ∧ SqL K H a xs ∧ DenVs K F ρ xs vs ∧ vs.length ≤ sizeLine := by
  cases v with
  | d x =>
    cases x with
    | list ds =>
      cases d with
      | lst q z r =>
        cases h
        exact ⟨_, _, rfl, w.rle.sqL q, DenVs.of_all r, by rw [List.length_map]; exact z⟩
    | _ => cases h
  | ref n =>
    obtain ⟨a, e, rfl⟩ := d
    obtain ⟨_, xs, q, r, z⟩ := cellL_ok w e h
    exact ⟨a, xs, rfl, SqL.of q, r, z⟩
theorem seqT_ok (w : Wd K mh F ρ H) (d : DenV K F ρ u v) (h : seqT v = some vs) : ∃ a xs, u = .ref a ∧ SqT K H a xs ∧ DenVs K F ρ xs vs ∧ vs.length ≤ sizeLine := by
  cases v with
  | d x =>
    cases x with
    | tuple ds =>
      cases d with
      | tup q z r =>
        cases h
        exact ⟨_, _, rfl, w.rle.sqT q, DenVs.of_all r, by rw [List.length_map]; exact z⟩
    | _ => cases h
  | ref n => cases h
theorem seqA_ok (w : Wd K mh F ρ H) (d : DenV K F ρ u v) (h : seqA mh v = some vs) : ∃ a xs, u = .ref a ∧ (SqL K H a xs ∨ SqT K H a xs) ∧ DenVs K F ρ xs vs ∧ vs.length ≤ sizeLine := by
  unfold seqA at h
  split at h
  · obtain ⟨a, xs, e, q, r⟩ := seqT_ok (vs := vs) w d h
    exact ⟨a, xs, e, .inr q, r⟩
  · obtain ⟨a, xs, e, q, r⟩ := seqL_ok w d h
    exact ⟨a, xs, e, .inl q, r⟩
end

/-! ### results -/
inductive Rv where
  | v (x : Val) | nl (vs : List Val) | nd (kvs : List (Key × Val))
def PostR (K : PySem.W.Frag) (mh : List Ob) (F : Hp) (ρ : List Addr) (H : Hp) (Q : VK) : Rv → Prop
  | .v x => ∀ F' H' u, Wd K mh F' ρ H' → Gr F ρ H F' ρ H' → DenV K F' ρ u x → Q u H'
  | .nl vs => ∀ F' H' xs p, Wd K mh F' ρ H' → Gr F ρ H F' ρ H' → vs.length ≤ sizeLine → DenVs K F' ρ xs vs → H' p = none → Q (.ref p) (upd H' p (.lst xs))
  | .nd kvs => ∀ F' H' ks p, Wd K mh F' ρ H' → Gr F ρ H F' ρ H' → kvs.length ≤ sizeLine → DenVK K F' ρ ks kvs → H' p = none → Q (.ref p) (upd H' p (.dK ks))
section
variable {K : PySem.W.Frag} {mh : List Ob} {F : Hp} {ρ : List Addr} {H : Hp} {Q : VK}
theorem PostR.here {u : V} {x : Val} (h : PostR K mh F ρ H Q (.v x)) (w : Wd K mh F ρ H) (d : DenV K F ρ u x) : Q u H := h F H u w .refl d
theorem PostR.tup {xs : List V} {ds : List Dt} {p : Addr} (h : PostR K mh F ρ H Q (.v (.d (.tuple ds)))) (w : Wd K mh F ρ H) (hp : H p = none) (d : DenAll K F xs ds) (z : ds.length ≤ sizeLine) : Q (.ref p) (upd H p (.tup xs)) := by
  obtain ⟨w', g⟩ := w.newF (o := .tup xs) hp
  exact h _ _ _ w' g (Den.tup (.inl (.inl upd_same)) z (d.mono (Rle.upd (w.freshF hp))))
theorem PostR.list {vs : List Val} {xs : List V} {p : Addr} (h : PostR K mh F ρ H Q (.nl vs)) (w : Wd K mh F ρ H) (hp : H p = none) (d : DenVs K F ρ xs vs) (z : vs.length ≤ sizeLine) : Q (.ref p) (upd H p (.lst xs)) := h F H xs p w .refl z d hp
end

abbrev M := StateT (List Ob) Option
theorem M.bind_some {α β : Type} {x : M α} {f : α → M β} {s : List Ob} {r : β × List Ob} : (x >>= f) s = some r ↔ ∃ a s1, x s = some (a, s1) ∧ f a s1 = some r := by
  show (x s >>= fun p => f p.1 p.2) = some r ↔ _
  cases x s with
  | none => simp
  | some p =>
    obtain ⟨a, t⟩ := p
    constructor
    · intro h; exact ⟨a, t, rfl, h⟩
    · rintro ⟨b, u, e, h⟩
      cases e; exact h
theorem M.pure_some {α : Type} {a : α} {s : List Ob} {r : α × List Ob} : (pure a : M α) s = some r ↔ r = (a, s) := by
  show some (a, s) = some r ↔ _
  constructor
  · intro h; exact (Option.some.inj h).symm
  · rintro rfl; rfl
/-- a reader's value; none: stuck -/
def rdM {α : Type} (f : List Ob → Option α) : M α := fun mh => (f mh).map fun a => (a, mh)
def ofO {α : Type} (o : Option α) : M α := fun mh => o.map fun a => (a, mh)
theorem rdM_some {α : Type} {f : List Ob → Option α} {s : List Ob} {r : α × List Ob} : rdM f s = some r ↔ f s = some r.1 ∧ r.2 = s := by
  unfold rdM
  cases f s with
  | none => simp
  | some a =>
    obtain ⟨b, t⟩ := r
    simp [Prod.ext_iff, eq_comm]
theorem ofO_some {α : Type} {o : Option α} {s : List Ob} {r : α × List Ob} : ofO o s = some r ↔ o = some r.1 ∧ r.2 = s := by
  unfold ofO
  cases o with
  | none => simp
  | some a =>
    obtain ⟨b, t⟩ := r
    simp [Prod.ext_iff, eq_comm]
def alloc (o : Ob) : M Val := fun mh => some (.ref mh.length, mh ++ [o])
def asDKs : List (Key × Val) → Option (List (Dt × Dt))
  | [] => some []
  | kv :: r => match asD kv.2, asDKs r with
    | some x, some xs => some ((kD kv.1, x) :: xs)
    | _, _ => none
def finR (c : Bool) : Rv → M Val
  | .v x => if c then fun _ => none else pure x
  | .nl vs => if c then alloc (.lst vs) else ofO ((asDs vs).map fun ds => .d (.list ds))
  | .nd kvs => if c then alloc (.dct kvs) else ofO ((asDKs kvs).map fun ds => .d (.dict ds))
section
variable {K : PySem.W.Frag} {mh mh' : List Ob} {F : Hp} {ρ : List Addr} {H : Hp} {Q : VK} {v : Val} {rv : Rv} {c : Bool}
theorem DenVK.length {ks : List (Key × V)} {kvs : List (Key × Val)} (h : DenVK K F ρ ks kvs) : ks.length = kvs.length := Paired.length h
theorem DenVK.all : ∀ {ks : List (Key × V)} {kvs : List (Key × Val)} {ds : List (Dt × Dt)}, DenVK K F ρ ks kvs → asDKs kvs = some ds → DenKV K F ks ds ∧ ds.length = kvs.length
  | _, _, _, .nil, h => by cases h; exact ⟨.nil, rfl⟩
  | (k, x) :: _, (k', .ref n) :: r, _, .cons a b, h => by simp [asDKs, asD] at h
  | (k, x) :: _, (k', .d y) :: r, ds, .cons a b, h => by
    unfold asDKs at h
    simp only [asD] at h
    cases e : asDKs r with
    | none => rw [e] at h; cases h
    | some xs =>
      rw [e] at h
      cases h
      obtain ⟨h1, h2⟩ := DenVK.all b e
      obtain ⟨e1, e2⟩ := a
      cases (show k = k' from e1)
      exact ⟨.cons e2 h1, by rw [List.length_cons, List.length_cons, h2]⟩
/-- the last step of an expression that makes something -/
theorem finR_ok (h : finR c rv mh = some (v, mh')) (q : ∀ F' ρ' H' u, Wd K mh' F' ρ' H' → Gr F ρ H F' ρ' H' → DenV K F' ρ' u v → Q u H') : PostR K mh F ρ H Q rv := by
  cases rv with
  | v x =>
    unfold finR at h
    cases c with
    | true => cases h
    | false =>
      cases h
      exact fun F' H' u w g d => q F' ρ H' u w g d
  | nl vs =>
    unfold finR at h
    intro F' H' xs p w g z d hp
    cases c with
    | true =>
      cases h
      obtain ⟨w', g'⟩ := w.newC (u := .lst xs) (o := .lst vs) hp ⟨z, xs, upd_same, d.mono .refl (List.prefix_append _ _)⟩
      exact q _ _ _ _ w' (g.trans g') ⟨p, by rw [← w.len, List.getElem?_append_right (Nat.le_refl _), Nat.sub_self]; rfl, rfl⟩
    | false =>
      obtain ⟨h1, h2⟩ := ofO_some.mp h
      simp only at h1 h2
      subst h2
      cases e : asDs vs with
      | none => rw [e] at h1; cases h1
      | some ds =>
        rw [e] at h1
        cases h1
        have e2 := asDs_eq e
        subst e2
        obtain ⟨w', g'⟩ := w.newF (o := .lst xs) hp
        exact q _ _ _ _ w' (g.trans g') (Den.lst (.inl (.inl upd_same)) (by rw [List.length_map] at z; exact z) (d.all.mono (Rle.upd (w.freshF hp))))
  | nd kvs =>
    unfold finR at h
    intro F' H' ks p w g z d hp
    cases c with
    | true =>
      cases h
      obtain ⟨w', g'⟩ := w.newC (u := .dK ks) (o := .dct kvs) hp ⟨z, ks, upd_same, d.mono .refl (List.prefix_append _ _)⟩
      exact q _ _ _ _ w' (g.trans g') ⟨p, by rw [← w.len, List.getElem?_append_right (Nat.le_refl _), Nat.sub_self]; rfl, rfl⟩
    | false =>
      obtain ⟨h1, h2⟩ := ofO_some.mp h
      simp only at h1 h2
      subst h2
      cases e : asDKs kvs with
      | none => rw [e] at h1; cases h1
      | some ds =>
        rw [e] at h1
        cases h1
        obtain ⟨d1, d2⟩ := d.all e
        obtain ⟨w', g'⟩ := w.newF (o := .dK ks) hp
        exact q _ _ _ _ w' (g.trans g') (Den.dct (.inl upd_same) (by rw [d2]; exact z) (d1.mono (Rle.upd (w.freshF hp))))
end

/-! ### operators by values -/
section
variable (X : Cx)
def OpS (f : Value → Value → Sem Value) (m : List Ob → Val → Val → Option Rv) : Prop :=
  ∃ r, OpR X f r ∧ ∀ {mh : List Ob} {F : Hp} {ρ : List Addr} {H : Hp} {x y : V} {dx dy : Val} {rv : Rv} (Q : VK), Wd X.K mh F ρ H → DenV X.K F ρ x dx → DenV X.K F ρ y dy → m mh dx dy = some rv → PostR X.K mh F ρ H Q rv → r x y H Q
end
section
variable {X : Cx} {f : Value → Value → Sem Value} {m m' : List Ob → Val → Val → Option Rv}
theorem OpS.or (h : OpS X f m) (h' : OpS X f m') : OpS X f (fun mh x y => (m mh x y).orElse fun _ => m' mh x y) := by
  obtain ⟨r, o, k⟩ := h
  obtain ⟨r', o', k'⟩ := h'
  refine ⟨_, o.or o', fun Q w dx dy e q => ?_⟩
  rename_i mh F ρ H x y vx vy rv
  cases e1 : m mh vx vy with
  | none =>
    simp only [e1] at e
    exact .inr (k' Q w dx dy e q)
  | some z =>
    simp only [e1] at e
    cases e
    exact .inl (k Q w dx dy e1 q)
end

def i2 (g : Int → Int → Option Dt) : List Ob → Val → Val → Option Rv
  | _, .d (.int i), .d (.int j) => (g i j).map fun x => .v (.d x)
  | _, _, _ => none
def s2 (g : Str → Str → Option Dt) : List Ob → Val → Val → Option Rv
  | _, .d (.str i), .d (.str j) => (g i j).map fun x => .v (.d x)
  | _, _, _ => none
section
variable {X : Cx} {f : Value → Value → Sem Value} {K : PySem.W.Frag} {F : Hp} {ρ : List Addr}
theorem den_int {u : V} {i : Int} (h : DenV K F ρ u (.d (.int i))) : u = .int i := by cases h; rfl
theorem den_str {u : V} {i : Str} (h : DenV K F ρ u (.d (.str i))) : u = .str i := by cases h; rfl
theorem den_bl {u : V} {i : Bool} (h : DenV K F ρ u (.d (.bool i))) : u = .bl i := by cases h; rfl
theorem den_non {u : V} (h : DenV K F ρ u (.d .none)) : u = .non := by cases h; rfl
/-- of two ints: C what is asked, the rule's answer z i j is the data d i j -/
theorem ops_i2 {C : Int → Int → Prop} {z : Int → Int → V} {g : Int → Int → Option Dt} (o : OpR X f (rI C z)) (h : ∀ i j x, g i j = some x → C i j ∧ ∀ F ρ, DenV X.K F ρ (z i j) (.d x)) : OpS X f (i2 g) := by
  refine ⟨_, o, fun Q w dx dy e q => ?_⟩
  rename_i mh F ρ H x y vx vy rv
  unfold i2 at e
  split at e
  · rename_i i j
    cases e1 : g i j with
    | none => rw [e1] at e; cases e
    | some r =>
      rw [e1] at e; cases e
      obtain ⟨c, d⟩ := h i j r e1
      exact ⟨i, j, den_int dx, den_int dy, c, q.here w (d F ρ)⟩
  · cases e
theorem ops_i20 {z : Int → Int → V} {g : Int → Int → Option Dt} (o : OpR X f (rI0 z)) (h : ∀ i j x, g i j = some x → ∀ F ρ, DenV X.K F ρ (z i j) (.d x)) : OpS X f (i2 g) := by
  refine ⟨_, o, fun Q w dx dy e q => ?_⟩
  rename_i mh F ρ H x y vx vy rv
  unfold i2 at e
  split at e
  · rename_i i j
    cases e1 : g i j with
    | none => rw [e1] at e; cases e
    | some r =>
      rw [e1] at e; cases e
      exact ⟨i, j, den_int dx, den_int dy, q.here w (h i j r e1 F ρ)⟩
  · cases e

/-! #### + -/
theorem op_catL : OpR X (binaryOp .Add) (fun x y H Q => ∃ l b xs zs, x = .ref l ∧ y = .ref b ∧ SqL X.K H l xs ∧ SqL X.K H b zs ∧ xs.length + zs.length ≤ sizeLine ∧ ∀ p, H p = none → Q (.ref p) (upd H p (.lst (xs ++ zs)))) := by
  intro pins s σ H x y v u Q I rx ry h
  obtain ⟨l, b, xs, zs, rfl, rfl, hH, hB, hz, q⟩ := h
  cases rx
  cases ry
  obtain ⟨its, r, pl, hl⟩ := I.list hH
  obtain ⟨its2, r2, pl2, hl2⟩ := I.list hB
  obtain ⟨⟨cls, dd, data, sl⟩, ho, hc, n, hd⟩ := pl.isList
  obtain ⟨⟨cls2, dd2, data2, sl2⟩, ho2, hc2, n2, hd2⟩ := pl2.isList
  simp only at hc hd hc2 hd2
  subst hc hd hc2 hd2
  have e : its.toArray ++ its2.toArray = (its ++ its2).toArray := by simp
  refine concat_meets ⟨_, ho, rfl⟩ ⟨_, ho2, rfl⟩ noFill_list_add seq_list_add PySem.F.slot_list_add PySem.F.entry_list_add (PySem.F.args_list_add_2 _ _) (list_addW l b its.toArray its2.toArray n n2 dd dd2 sl sl2 (by rw [List.size_toArray, List.size_toArray, ← r.length, ← r2.length]; exact hz)) ⟨ho, ho2, ?_⟩
  rw [e]
  exact ⟨.ref _, _, I.lnew (t' := s.toks) (r.append r2) (by rw [List.length_append]; exact hz), rfl, q _ I.fresh⟩
end
end Pv

/-! PM: a list times a whole number -/
namespace Pv
open PySem PySem.Spec PyProof.Rows L2
open AutoSeq1 (wpAny_loadPart')
theorem rmulW (a : Int) (t : Tok) (l : Addr) (items : Array Value) (n : Nat) (dd : Option Addr) (sl : Array (Option Value)) :
    Meets (Builtin.«int.__rmul__» ⟨[.int a t, .ref l], []⟩) (fun _ R s => s.heap.get? l = some { cls := .type "list", dict := dd, data := .seq items n, slots := sl } ∧ R (.ok (.ret Value.notImplemented)) s) :=
  .of_wp fun prog w A R s h => by obtain ⟨hp, g, d, tk, os⟩ := s; obtain ⟨hl, h⟩ := h; wp_walk; exact ⟨_, rfl, h⟩
theorem lmulW (l : Addr) (items : Array Value) (n : Nat) (x : Int) (u : Tok) (dd : Option Addr) (sl : Array (Option Value)) (hc0 : ¬(!Builtin.List.listFitsIndex x) = true) (hc1 : ¬items.size * x.toNat > (2 ^ 63 - 1) / 8) (hc2 : ¬Builtin.List.listTooLong (items.size * x.toNat) = true) :
    Meets (Builtin.«list.__mul__» ⟨[.ref l, .int x u], []⟩) (fun _ R s => s.heap.get? l = some { cls := .type "list", dict := dd, data := .seq items n, slots := sl } ∧ R (.ok (.ret (Value.ref s.heap.objs.size))) { s with heap := s.heap.push { cls := .type "list", data := .seq (List.foldl (fun x1 x2 => x1 ++ x2) #[] (List.replicate (if items.isEmpty = true then 0 else x.toNat) items)) } }) :=
  .of_wp fun prog w A R s h => by
    obtain ⟨hp, g, d, tk, os⟩ := s; obtain ⟨hl, h⟩ := h
    have hsz := AutoListH.joined_fits hc2
    wp_walk; refine wpAny_ite_false (decide_eq_false (Nat.not_lt.mpr hsz)) ?_; wp_walk; exact ⟨_, rfl, h⟩
section
variable {X : Cx}
def rRepS (K : PySem.W.Frag) : R2 := fun x y H Q => ∃ l k xs, x = .ref l ∧ y = .int k ∧ SqL K H l xs ∧ -(2 ^ 63) ≤ k ∧ k < 2 ^ 63 ∧ xs.length * k.toNat ≤ sizeLine ∧
  ∀ p, H p = none → Q (.ref p) (upd H p (.lst (List.replicate k.toNat xs).flatten))
theorem op_repS : OpR X (binaryOp .Mult) (rRepS X.K) := by
  intro pins s σ H x y v u Q I rx ry h
  obtain ⟨l, k, xs, rfl, rfl, hH, h1, h2, hz, q⟩ := h
  cases rx
  obtain ⟨t, rfl⟩ := ry
  obtain ⟨its, r, pl, _⟩ := I.list hH
  obtain ⟨⟨cls, dd, data, sl⟩, ho, hc, n, hd⟩ := pl.isList
  simp only at hc hd
  subst hc hd
  have hl := r.length
  have hlen : its.toArray.size * k.toNat ≤ sizeLine := by rw [List.size_toArray, ← hl]; exact hz
  have hcap : ¬ its.toArray.size * k.toNat > (2 ^ 63 - 1) / 8 := by
    have : (sizeLine : Nat) ≤ (2 ^ 63 - 1) / 8 := by decide
    omega
  have hfit : ¬ (!Builtin.List.listFitsIndex k) = true := by
    rw [fitsIndex_both h1 h2]
    exact Bool.false_ne_true
  have hlong : ¬ Builtin.List.listTooLong (its.toArray.size * k.toNat) = true := by
    rw [notLongL hlen]
    exact Bool.false_ne_true
  have hnew : List.foldl (fun x1 x2 => x1 ++ x2) #[] (List.replicate (if its.toArray.isEmpty = true then 0 else k.toNat) its.toArray) = (List.replicate k.toNat its).flatten.toArray := by
    have f0 : ∀ m : Nat, List.foldl (fun x1 x2 => x1 ++ x2) #[] (List.replicate m its.toArray) = (List.replicate m its).flatten.toArray := fun m => by
      have := foldl_rep its m []
      rw [List.nil_append] at this
      exact this
    rw [f0]
    cases its with
    | nil => simp
    | cons a r' => rw [if_neg (by simp)]
  refine wpAny_binaryOp_repeat_ref (T := "list") (U := "int") (by decide) ⟨_, ho, rfl⟩ (fun s' => typeIs_int s' k t) noFill_list_mul F.fills_int_mul F.slot_int_rmul repeat_list F.slot_int_index.lookup
    (call_meets F.slot_int_rmul (typeIs_int s k t) F.entry_int_rmul (F.args_int_rmul_2 _ _) (rmulW k t l its.toArray n dd sl)
      ⟨ho, rfl, ⟨_, ho, rfl⟩, call_meets F.slot_list_mul ⟨_, ho, rfl⟩ F.entry_list_mul (F.args_list_mul_2 _ _) (lmulW l its.toArray n k t dd sl hfit hcap hlong) ⟨ho, ?_⟩⟩)
  rw [hnew]
  exact ⟨.ref _, _, I.lnew (t' := s.toks) (r.rep k.toNat) (by rw [PyProof.Rows.lm_len_rep_flat, Nat.mul_comm]; exact hz), rfl, q _ I.fresh⟩
end
end Pv

/-! P2: operators, comparisons by values -/
namespace Pv
open PySem PySem.Spec PyProof.Rows L2

section
variable {X : Cx}
/-! ### arithmetic -/
def addV (mh : List Ob) (a b : Val) : Option Rv := match a, b with
  | .d (.int i), .d (.int j) => some (.v (.d (.int (i + j))))
  | .d (.str x), .d (.str y) => if x.length + y.length ≤ sizeLine then some (.v (.d (.str (x ++ y)))) else none
  | .d (.tuple xs), .d (.tuple ys) => if xs.length + ys.length ≤ sizeLine then some (.v (.d (.tuple (xs ++ ys)))) else none
  | a, b => match seqL mh a, seqL mh b with
    | some xs, some ys => if xs.length + ys.length ≤ sizeLine then some (.nl (xs ++ ys)) else none
    | _, _ => none
theorem ops_add : OpS X (binaryOp .Add) addV := by
  refine ⟨_, op_add.or (op_add_str.or (op_catA.or op_catL)), fun Q w dx dy e q => ?_⟩
  rename_i mh F ρ H x y vx vy rv
  unfold addV at e
  split at e
  · cases e
    exact .inl ⟨_, _, den_int dx, den_int dy, q.here w (Den.int _)⟩
  · split at e
    · cases e
      exact .inr (.inl ⟨_, _, den_str dx, den_str dy, ‹_›, q.here w (Den.str _)⟩)
    · cases e
  · rename_i xs ys
    split at e
    · rename_i hz
      cases e
      refine .inr (.inr (.inl ?_))
      cases dx with
      | tup q1 z1 r1 =>
        cases dy with
        | tup q2 z2 r2 =>
          refine ⟨_, _, _, _, rfl, rfl, w.rle.sqT q1, w.rle.sqT q2, by rw [r1.length, r2.length]; exact hz, fun z => ?_, fun z1' z => ?_, fun _ _ p hp => ?_⟩
          · subst z
            cases r1
            exact q.here w (Den.tup q2 z2 r2)
          · subst z
            cases r2
            rw [List.append_nil] at q
            exact q.here w (Den.tup q1 z1 r1)
          · exact q.tup w hp (r1.append r2) (by rw [List.length_append]; exact hz)
    · cases e
  · split at e
    · rename_i _ _ _ _ _ xs ys e1 e2
      split at e
      · rename_i hz
        cases e
        obtain ⟨a, us, rfl, q1, r1, z1⟩ := seqL_ok w dx e1
        obtain ⟨b, ws, rfl, q2, r2, z2⟩ := seqL_ok w dy e2
        exact .inr (.inr (.inr ⟨_, _, _, _, rfl, rfl, q1, q2, by rw [r1.length, r2.length]; exact hz, fun p hp => q.list w hp (r1.append r2) (by rw [List.length_append]; exact hz)⟩))
      · cases e
    · cases e
def subV : List Ob → Val → Val → Option Rv := i2 fun i j => some (.int (i - j))
theorem ops_sub : OpS X (binaryOp .Sub) subV := ops_i20 op_sub fun i j x e _ _ => by cases e; exact Den.int _
def MulOk (i j : Int) : Prop := i.natAbs < 2 ^ 64 ∨ j.natAbs < 2 ^ 64 ∨ (i.natAbs < 2 ^ 9000 ∧ j.natAbs < 2 ^ 9000)
instance (i j : Int) : Decidable (MulOk i j) := by unfold MulOk; infer_instance
def mulV (mh : List Ob) (a b : Val) : Option Rv := match a, b with
  | .d (.int i), .d (.int j) => if MulOk i j then some (.v (.d (.int (i * j)))) else none
  | a, .d (.int k) => match seqL mh a with
    | some xs => if 0 ≤ k ∧ k < 2 ^ 62 ∧ xs.length * k.toNat ≤ sizeLine then some (.nl (List.replicate k.toNat xs).flatten) else none
    | none => none
  | _, _ => none
theorem denVs_rep {K : PySem.W.Frag} {F : Hp} {ρ : List Addr} {us : List V} {vs : List Val} (h : DenVs K F ρ us vs) : ∀ n : Nat, DenVs K F ρ (List.replicate n us).flatten (List.replicate n vs).flatten
  | 0 => .nil
  | n + 1 => by
    rw [List.replicate_succ, List.replicate_succ, List.flatten_cons, List.flatten_cons]
    exact h.append (denVs_rep h n)
theorem MulOk.c {i j : Int} (h : MulOk i j) : CMul i j ∨ CMulW i j := by
  rcases h with h | h | ⟨h1, h2⟩
  · exact .inl (.inl ⟨by omega, by omega⟩)
  · exact .inl (.inr ⟨by omega, by omega⟩)
  · exact .inr (wide_mul h1 h2 (by decide) (by decide) (by decide))
theorem ops_mul : OpS X (binaryOp .Mult) mulV := by
  refine ⟨_, op_mul.or (op_mulW.or op_repS), fun Q w dx dy e q => ?_⟩
  rename_i mh F ρ H x y vx vy rv
  unfold mulV at e
  split at e
  · split at e
    · rename_i hm
      cases e
      rcases hm.c with c | c
      · exact .inl ⟨_, _, den_int dx, den_int dy, c, q.here w (Den.int _)⟩
      · exact .inr (.inl ⟨_, _, den_int dx, den_int dy, c, q.here w (Den.int _)⟩)
    · cases e
  · split at e
    · rename_i _ _ k _ _ xs e1
      split at e
      · rename_i hz
        cases e
        obtain ⟨a, us, rfl, q1, r1, z1⟩ := seqL_ok w dx e1
        exact .inr (.inr ⟨a, k, us, rfl, den_int dy, q1, by omega, by omega, by rw [r1.length]; exact hz.2.2, fun p hp => q.list w hp (denVs_rep r1 _) (by
          have := (denVs_rep r1 k.toNat).length
          rw [← this, PyProof.Rows.lm_len_rep_flat, Nat.mul_comm, r1.length]
          exact hz.2.2)⟩)
      · cases e
    · cases e
  · cases e
def DivOk (j : Int) : Prop := 0 < j ∧ j.natAbs < 2 ^ 9000
instance (j : Int) : Decidable (DivOk j) := by unfold DivOk; infer_instance
def divV : List Ob → Val → Val → Option Rv := i2 fun i j => if DivOk j then some (.int (i / j)) else none
theorem ops_div : OpS X (binaryOp .FloorDiv) divV := ops_i2 op_fdivW fun i j x e => by
  split at e
  · rename_i h
    cases e
    exact ⟨wide_div h.1 h.2 (by decide) (by decide), fun _ _ => Den.int _⟩
  · cases e
def modV : List Ob → Val → Val → Option Rv := i2 fun i j => if 0 < j then some (.int (i % j)) else none
theorem ops_mod : OpS X (binaryOp .Mod) modV := ops_i2 op_mod fun i j x e => by
  split at e
  · cases e; exact ⟨‹_›, fun _ _ => Den.int _⟩
  · cases e
def powV : List Ob → Val → Val → Option Rv := i2 fun i j => if 0 ≤ j ∧ j ≤ 1000000 ∧ i.natAbs < 2 ^ 64 then some (.int (i ^ j.toNat)) else none
theorem ops_pow : OpS X (binaryOp .Pow) powV := ops_i2 op_pow fun i j x e => by
  split at e
  · cases e; exact ⟨‹_›, fun _ _ => Den.int _⟩
  · cases e

/-! ### ordering of ints -/
def ltV : List Ob → Val → Val → Option Rv := i2 fun i j => some (.bool (decide (i < j)))
def leV : List Ob → Val → Val → Option Rv := i2 fun i j => some (.bool (decide (i ≤ j)))
def gtV : List Ob → Val → Val → Option Rv := i2 fun i j => some (.bool (decide (j < i)))
def geV : List Ob → Val → Val → Option Rv := i2 fun i j => some (.bool (decide (j ≤ i)))
theorem ops_lt : OpS X (compareOp .Lt) ltV := ops_i20 op_lt fun i j x e _ _ => by cases e; exact Den.bl _
theorem ops_le : OpS X (compareOp .LtE) leV := ops_i20 op_le fun i j x e _ _ => by cases e; exact Den.bl _
theorem ops_gt : OpS X (compareOp .Gt) gtV := ops_i20 op_gt fun i j x e _ _ => by cases e; exact Den.bl _
theorem ops_ge : OpS X (compareOp .GtE) geV := ops_i20 op_ge fun i j x e _ _ => by cases e; exact Den.bl _
end

/-! ### == -/
/-- the data that a value is (a cell of data counts) -/
def pureD (mh : List Ob) : Val → Option Dt
  | .d x => some x
  | .ref n => ((cellL mh n).bind asDs).map fun ds => .list ds
section
variable {K : PySem.W.Frag} {mh : List Ob} {F : Hp} {ρ : List Addr} {H : Hp} {u : V} {v : Val} {x : Dt}
theorem pureD_ok (w : Wd K mh F ρ H) (d : DenV K F ρ u v) (h : pureD mh v = some x) : Den K H u x := by
  cases v with
  | d y => cases h; exact Den.mono w.rle d
  | ref n =>
    have h : ((cellL mh n).bind asDs).map (fun ds => PyData.list ds) = some x := h
    cases e1 : cellL mh n with
    | none => rw [e1] at h; cases h
    | some vs =>
      rw [e1] at h
      cases e2 : asDs vs with
      | none => simp [e2] at h
      | some ds =>
        simp only [Option.bind_some, e2, Option.map_some, Option.some.injEq] at h
        subst h
        obtain ⟨a, e, rfl⟩ := d
        obtain ⟨_, xs, q, r, z⟩ := cellL_ok w e e1
        have e3 := asDs_eq e2
        subst e3
        exact Den.lst (SqL.of q) (by rw [List.length_map] at z; exact z) (r.all.mono w.rle)
mutual
theorem Den.dp (F : Hp) : ∀ (x : Dt) (u : V), Den K F u x → x.canLay0 = true → Dp K F u x
  | .none, _, h, _ => by cases h; exact .non
  | .bool b, _, h, _ => by cases h; exact .bl b
  | .int i, _, h, _ => by cases h; exact .int i
  | .str y, _, h, _ => by cases h; exact .str y
  | .list ds, _, h, c => by
    cases h with
    | lst q z r => exact .lst q (DenAll.dp F ds _ r (by simpa [PyData.canLay0] using c))
  | .tuple ds, _, h, c => by
    cases h with
    | tup q z r => exact .tup q (DenAll.dp F ds _ r (by simpa [PyData.canLay0] using c))
  | .dict ds, _, h, c => by simp [PyData.canLay0] at c
theorem DenAll.dp (F : Hp) : ∀ (xs : List Dt) (us : List V), DenAll K F us xs → PyData.canLayAll0 xs = true → DpAll K F us xs
  | [], _, h, _ => by cases h; exact .nil
  | x :: xs, _, h, c => by
    cases h with
    | cons a b =>
      simp only [PyData.canLayAll0, Bool.and_eq_true] at c
      exact .cons (Den.dp F x _ a c.1) (DenAll.dp F xs _ b c.2)
end
end
def eqD (x y : Dt) : Option Bool := match x, y with
  | .int i, .int j => some (decide (i = j))
  | .str i, .str j => some (decide (i = j))
  | .bool i, .bool j => some (decide (i = j))
  | .int _, .str _ => some false
  | .str _, .int _ => some false
  | .none, .str _ => some false
  | .none, .int _ => some false
  | .str _, .none => some false
  | .int _, .none => some false
  | x, y => if SeqAt.shaped x = true ∧ SeqAt.shaped y = true then some (PyData.eqv x y) else none
def eqV2 (mh : List Ob) (a b : Val) : Option Bool := match pureD mh a, pureD mh b with
  | some x, some y => eqD x y
  | _, _ => none
def bR (o : Option Bool) : Option Rv := o.map fun b => .v (.d (.bool b))
theorem bR_some {o : Option Bool} {rv : Rv} (h : bR o = some rv) : ∃ b, o = some b ∧ rv = .v (.d (.bool b)) := by
  unfold bR at h
  cases o with
  | none => cases h
  | some b => cases h; exact ⟨b, rfl, rfl⟩
section
variable {X : Cx}
theorem eqD_ok {mh : List Ob} {F : Hp} {ρ : List Addr} {H : Hp} {u v : V} {a c : Val} {b : Bool} (w : Wd X.K mh F ρ H) (du : DenV X.K F ρ u a) (dv : DenV X.K F ρ v c) (h : eqV2 mh a c = some b) :
    (scal u v = true ∧ b = decide (u = v)) ∨ ∃ d e, Dp X.K H u d ∧ Dp X.K H v e ∧ SeqAt.shaped d = true ∧ SeqAt.shaped e = true ∧ b = PyData.eqv d e := by
  unfold eqV2 at h
  split at h
  · rename_i x y ex ey
    have hx := pureD_ok w du ex
    have hy := pureD_ok w dv ey
    unfold eqD at h
    split at h
    · cases h; cases hx; cases hy; exact .inl ⟨rfl, by simp⟩
    · cases h; cases hx; cases hy; exact .inl ⟨rfl, by simp⟩
    · cases h; cases hx; cases hy; exact .inl ⟨rfl, by simp⟩
    · cases h; cases hx; cases hy; exact .inl ⟨rfl, by simp⟩
    · cases h; cases hx; cases hy; exact .inl ⟨rfl, by simp⟩
    · cases h; cases hx; cases hy; exact .inl ⟨rfl, by simp⟩
    · cases h; cases hx; cases hy; exact .inl ⟨rfl, by simp⟩
    · cases h; cases hx; cases hy; exact .inl ⟨rfl, by simp⟩
    · cases h; cases hx; cases hy; exact .inl ⟨rfl, by simp⟩
    · split at h
      · rename_i hs
        cases h
        exact .inr ⟨_, _, Den.dp H _ _ hx (SeqAt.canLay_of_shaped hs.1), Den.dp H _ _ hy (SeqAt.canLay_of_shaped hs.2), hs.1, hs.2, rfl⟩
      · cases h
  · cases h
theorem ops_eq (hu : X.A.units + 64 < cLine) : OpS X (compareOp .Eq) (fun mh a b => bR (eqV2 mh a b)) := by
  refine ⟨_, op_eq.or (op_eqD hu), fun Q w dx dy e q => ?_⟩
  obtain ⟨b, e1, rfl⟩ := bR_some e
  have q' := q.here w (Den.bl b)
  rcases eqD_ok w dx dy e1 with ⟨h1, rfl⟩ | ⟨d, e2, h1, h2, h3, h4, rfl⟩
  · exact .inl ⟨h1, q'⟩
  · exact .inr ⟨d, e2, h1, h2, h3, h4, q'⟩
theorem ops_ne (hu : X.A.units + 64 < cLine) : OpS X (compareOp .NotEq) (fun mh a b => bR ((eqV2 mh a b).map (!·))) := by
  refine ⟨_, op_ne.or (op_neD hu), fun Q w dx dy e q => ?_⟩
  rename_i mh F ρ H x y vx vy rv
  obtain ⟨b, e1, rfl⟩ := bR_some e
  have q' := q.here w (Den.bl b)
  cases e2 : eqV2 mh vx vy with
  | none => rw [e2] at e1; cases e1
  | some c =>
    rw [e2] at e1
    cases e1
    rcases eqD_ok w dx dy e2 with ⟨h1, rfl⟩ | ⟨d, e3, h1, h2, h3, h4, rfl⟩
    · exact .inl ⟨h1, q'⟩
    · exact .inr ⟨d, e3, h1, h2, h3, h4, q'⟩

/-! ### in -/
def flatD : Dt → Bool
  | .none => true
  | .bool _ => true
  | .int _ => true
  | .str _ => true
  | _ => false
def keyD : Dt → Option Key
  | .int i => some (.inl i)
  | .str x => some (.inr x)
  | _ => none
def keyVl : Val → Option Key
  | .d x => keyD x
  | _ => none
/-- a dict: frozen (by data), or a cell -/
def unkey : List (Dt × Dt) → Option (List (Key × Val))
  | [] => some []
  | kv :: r => match keyD kv.1, unkey r with
    | some k, some xs => some ((k, .d kv.2) :: xs)
    | _, _ => none
def dctOf (mh : List Ob) : Val → Option (List (Key × Val))
  | .d (.dict ds) => unkey ds
  | .ref n => match mh[n]? with
    | some (.dct kvs) => some kvs
    | _ => none
  | _ => none
def findK (kvs : List (Key × Val)) (k : Key) : Option Val := (kvs.find? fun kv => decide (kv.1 = k)).map (·.2)
def inSeq (x : Dt) (ys : List Dt) : Option Bool :=
  if flatD x = true ∧ ys.all flatD = true then some (ys.any fun y => PyData.eqv y x) else none
def inV2 (mh : List Ob) (a c : Val) : Option Bool := match dctOf mh c with
  | some kvs => (keyVl a).map fun k => (findK kvs k).isSome
  | none => match a, (seqA mh c).bind asDs with
    | .d x, some ys => (inSeq x ys).orElse fun _ =>
        if (seqL mh c).isNone then none else if SeqAt.shaped x = true ∧ SeqAt.shaped (.list ys) = true then some (ys.any fun y => PyData.eqv y x) else none
    | _, _ => none
theorem key_den {K : PySem.W.Frag} {F : Hp} {ρ : List Addr} {u : V} {v : Val} {k : Key} (d : DenV K F ρ u v) (h : keyVl v = some k) : u = kV k := by
  cases v with
  | ref n => cases h
  | d x =>
    cases x with
    | int i => cases h; cases d; rfl
    | str i => cases h; cases d; rfl
    | _ => cases h
theorem unkey_ok {K : PySem.W.Frag} {F : Hp} {ρ : List Addr} : ∀ {ds : List (Dt × Dt)} {kvs : List (Key × Val)} {ks : List (Key × V)}, unkey ds = some kvs → DenKV K F ks ds → DenVK K F ρ ks kvs
  | [], _, _, h, r => by cases h; cases r; exact .nil
  | p :: r, kvs, _, h, dd => by
    cases dd with
    | @cons k v vs d ds d rr =>
      unfold unkey at h
      have hk : keyD (kD k) = some k := by cases k <;> rfl
      cases e : unkey r with
      | none => simp only [e, hk] at h; cases h
      | some xs =>
        simp only [e, hk, Option.some.injEq] at h
        subst h
        exact .cons ⟨rfl, d⟩ (unkey_ok e rr)
theorem dctOf_ok {K : PySem.W.Frag} {mh : List Ob} {F : Hp} {ρ : List Addr} {H : Hp} {u : V} {v : Val} {kvs : List (Key × Val)} (w : Wd K mh F ρ H) (d : DenV K F ρ u v) (h : dctOf mh v = some kvs) :
    ∃ a ks, u = .ref a ∧ Rd H a (.dK ks) ∧ DenVK K F ρ ks kvs := by
  cases v with
  | d x =>
    cases x with
    | dict ds =>
      cases d with
      | dct q z r => exact ⟨_, _, rfl, w.rle _ _ q, unkey_ok h r⟩
    | _ => cases h
  | ref n =>
    obtain ⟨a, e, rfl⟩ := d
    unfold dctOf at h
    simp only at h
    split at h
    · rename_i kvs' e2
      cases h
      obtain ⟨z, ks, q, r⟩ := w.cell n a _ e e2
      exact ⟨a, ks, rfl, .inl q, r⟩
    · cases h
theorem findK_ok {K : PySem.W.Frag} {F : Hp} {ρ : List Addr} {k : Key} : ∀ {ks : List (Key × V)} {kvs : List (Key × Val)}, DenVK K F ρ ks kvs → (valV ks k = none ∧ findK kvs k = none) ∨ ∃ u v, valV ks k = some u ∧ findK kvs k = some v ∧ DenV K F ρ u v
  | _, _, .nil => .inl ⟨rfl, rfl⟩
  | (k1, u) :: ks, (k2, v) :: kvs, .cons ⟨e, d⟩ r => by
    have e : k1 = k2 := e
    subst e
    by_cases h : k1 = k
    · subst h
      exact .inr ⟨u, v, valV_pos rfl, by simp [findK], d⟩
    · rw [show valV ((k1, u) :: ks) k = valV ks k from valV_neg h, show findK ((k1, v) :: kvs) k = findK kvs k by simp [findK, List.find?_cons, h]]
      exact findK_ok r
theorem flat_den {K : PySem.W.Frag} {F : Hp} {u : V} {x : Dt} (d : Den K F u x) : flatV u = flatD x := by
  cases d <;> rfl
theorem flat_eq {K : PySem.W.Frag} {F : Hp} {u v : V} {x y : Dt} (d : Den K F u x) (e : Den K F v y) (h : flatD x = true) (h' : flatD y = true) : eqV u v = PyData.eqv x y := by
  cases d <;> cases e <;> first | rfl | cases h | cases h'
theorem flat_all {K : PySem.W.Frag} {F : Hp} : ∀ {us : List V} {xs : List Dt}, DenAll K F us xs → us.all flatV = xs.all flatD
  | _, _, .nil => rfl
  | _, _, .cons a b => by rw [List.all_cons, List.all_cons, flat_den a, flat_all b]
theorem flat_any {K : PySem.W.Frag} {F : Hp} {v : V} {y : Dt} (e : Den K F v y) (h' : flatD y = true) : ∀ {us : List V} {xs : List Dt}, DenAll K F us xs → xs.all flatD = true → (us.any fun u => eqV u v) = xs.any fun x => PyData.eqv x y
  | _, _, .nil, _ => rfl
  | _, _, .cons a b, h => by
    rw [List.all_cons, Bool.and_eq_true] at h
    rw [List.any_cons, List.any_cons, flat_eq a e h.1 h', flat_any e h' b h.2]
/-- x in d, by values -/
theorem op_in_dct (hu : X.A.units + 1 < cLine) : OpR X (compareOp .In) (fun y x H Q => ∃ a o, x = .ref a ∧ DGet H a y o ∧ Q (.bl o.isSome) H) := by
  intro pins s σ H y x v u Q I ry rx h
  obtain ⟨a, o, rfl, g, q⟩ := h
  cases rx
  exact d_in hu I g ry fun s3 I3 => ⟨.bl o.isSome, H, I3, rfl, q⟩
theorem op_notin_dct (hu : X.A.units + 1 < cLine) : OpR X (compareOp .NotIn) (fun y x H Q => ∃ a o, x = .ref a ∧ DGet H a y o ∧ Q (.bl (!o.isSome)) H) := by
  intro pins s σ H y x v u Q I ry rx h
  obtain ⟨a, o, rfl, g, q⟩ := h
  cases rx
  exact d_notIn hu I g ry fun s3 I3 => ⟨.bl (!o.isSome), H, I3, rfl, q⟩
theorem inV2_ok {mh : List Ob} {F : Hp} {ρ : List Addr} {H : Hp} {u v : V} {a c : Val} {b : Bool} (w : Wd X.K mh F ρ H) (du : DenV X.K F ρ u a) (dv : DenV X.K F ρ v c) (h : inV2 mh a c = some b) :
    (∃ p o, v = .ref p ∧ DGet H p u o ∧ b = o.isSome) ∨ (∃ p xs, v = .ref p ∧ (SqL X.K H p xs ∨ SqT X.K H p xs) ∧ flatV u = true ∧ xs.all flatV = true ∧ b = inV u xs) ∨
    ∃ d ds, Dp X.K H u d ∧ Dp X.K H v (.list ds) ∧ SeqAt.shaped d = true ∧ SeqAt.shaped (.list ds) = true ∧ b = ds.any fun z => PyData.eqv z d := by
  unfold inV2 at h
  split at h
  · rename_i kvs e1
    cases ek : keyVl a with
    | none => rw [ek] at h; cases h
    | some k =>
      rw [ek] at h
      have h : (findK kvs k).isSome = b := Option.some.inj h
      subst h
      obtain ⟨p, ks, rfl, q, r⟩ := dctOf_ok w dv e1
      have eu := key_den du ek
      refine .inl ⟨p, valV ks k, rfl, .inl ⟨ks, k, q, eu, rfl⟩, ?_⟩
      rcases findK_ok (k := k) r with ⟨q1, q2⟩ | ⟨x, y, q1, q2, _⟩ <;> rw [q1, q2] <;> rfl
  · split at h
    · rename_i x ys e2
      cases e3 : seqA mh c with
      | none => rw [e3] at e2; cases e2
      | some vs =>
        rw [e3] at e2
        have e4 : asDs vs = some ys := e2
        have e5 := asDs_eq e4
        subst e5
        obtain ⟨p, xs, rfl, hq, r, z⟩ := seqA_ok w dv e3
        cases e6 : inSeq x ys with
        | some b' =>
          rw [e6] at h
          cases h
          unfold inSeq at e6
          split at e6
          · rename_i hf
            cases e6
            exact .inr (.inl ⟨p, xs, rfl, hq, (flat_den du).trans hf.1, (flat_all r.all).trans hf.2, (flat_any du hf.1 r.all hf.2).symm⟩)
          · cases e6
        | none =>
          rw [e6] at h
          simp only [Option.orElse_none] at h
          split at h
          · cases h
          · rename_i nt
            split at h
            · rename_i hs
              cases h
              refine .inr (.inr ⟨x, ys, Den.dp H _ _ (Den.mono w.rle du) (SeqAt.canLay_of_shaped hs.1), ?_, hs.1, hs.2, rfl⟩)
              cases c with
              | d y =>
                cases y with
                | list zs =>
                  have : zs = ys := by
                    have e7 : some (zs.map Val.d) = some (ys.map Val.d) := e3
                    have e8 := congrArg asDs (Option.some.inj e7)
                    rw [asDs_map, asDs_map] at e8
                    exact Option.some.inj e8
                  subst this
                  exact Den.dp H _ _ (Den.mono w.rle dv) (SeqAt.canLay_of_shaped hs.2)
                | tuple zs => exact absurd rfl nt
                | _ => cases e3
              | ref n =>
                have e7 : pureD mh (.ref n) = some (.list ys) := by
                  have e8 : cellL mh n = some (ys.map Val.d) := e3
                  show ((cellL mh n).bind asDs).map _ = _
                  rw [e8]
                  show (asDs (ys.map Val.d)).map _ = _
                  rw [asDs_map]
                  rfl
                exact Den.dp H _ _ (pureD_ok w dv e7) (SeqAt.canLay_of_shaped hs.2)
            · cases h
    · cases h
theorem ops_in (hu : X.A.units + 65 < cLine) : OpS X (compareOp .In) (fun mh a b => bR (inV2 mh a b)) := by
  refine ⟨_, (op_in_dct (by omega)).or (op_in_seq.or (op_inD hu)), fun Q w dx dy e q => ?_⟩
  obtain ⟨b, e1, rfl⟩ := bR_some e
  have q' := q.here w (Den.bl b)
  rcases inV2_ok w dx dy e1 with ⟨p, o, rfl, h1, rfl⟩ | ⟨p, xs, rfl, h1, h2, h3, rfl⟩ | ⟨d, ds, h1, h2, h3, h4, rfl⟩
  · exact .inl ⟨p, o, rfl, h1, q'⟩
  · exact .inr (.inl ⟨p, xs, rfl, h1, h2, h3, q'⟩)
  · exact .inr (.inr ⟨d, ds, h1, h2, h3, h4, q'⟩)
theorem ops_notin (hu : X.A.units + 65 < cLine) : OpS X (compareOp .NotIn) (fun mh a b => bR ((inV2 mh a b).map (!·))) := by
  refine ⟨_, (op_notin_dct (by omega)).or (op_notIn_seq.or (op_notInD hu)), fun Q w dx dy e q => ?_⟩
  rename_i mh F ρ H x y vx vy rv
  obtain ⟨b, e1, rfl⟩ := bR_some e
  have q' := q.here w (Den.bl b)
  cases e2 : inV2 mh vx vy with
  | none => rw [e2] at e1; cases e1
  | some c =>
    rw [e2] at e1
    cases e1
    rcases inV2_ok w dx dy e2 with ⟨p, o, rfl, h1, rfl⟩ | ⟨p, xs, rfl, h1, h2, h3, rfl⟩ | ⟨d, ds, h1, h2, h3, h4, rfl⟩
    · exact .inl ⟨p, o, rfl, h1, q'⟩
    · exact .inr (.inl ⟨p, xs, rfl, h1, h2, h3, q'⟩)
    · exact .inr (.inr ⟨d, ds, h1, h2, h3, h4, q'⟩)
/-- is None -/
def isNV (mh : List Ob) (a b : Val) : Option Bool := match a, b with
  | .d .none, .d .none => some true
  | _, .d .none => some false
  | _, _ => none
theorem isNV_ok {mh : List Ob} {F : Hp} {ρ : List Addr} {u v : V} {a c : Val} {b : Bool} (du : DenV X.K F ρ u a) (dv : DenV X.K F ρ v c) (h : isNV mh a c = some b) : v = .non ∧ b = decide (u = .non) := by
  unfold isNV at h
  split at h
  · cases h
    exact ⟨den_non dv, by rw [den_non du]; rfl⟩
  · rename_i x hn
    cases h
    refine ⟨den_non dv, ?_⟩
    cases a with
    | ref n => obtain ⟨p, _, rfl⟩ := du; rfl
    | d y =>
      cases y with
      | none => exact absurd rfl (hn)
      | _ => cases du <;> rfl
  · cases h
theorem ops_is : OpS X (compareOp .Is) (fun mh a b => bR (isNV mh a b)) := by
  refine ⟨_, op_isN, fun Q w dx dy e q => ?_⟩
  obtain ⟨b, e1, rfl⟩ := bR_some e
  have q' := q.here w (Den.bl b)
  obtain ⟨h1, rfl⟩ := isNV_ok dx dy e1
  exact ⟨h1, q'⟩
theorem ops_isnot : OpS X (compareOp .IsNot) (fun mh a b => bR ((isNV mh a b).map (!·))) := by
  refine ⟨_, op_notN, fun Q w dx dy e q => ?_⟩
  rename_i mh F ρ H x y vx vy rv
  obtain ⟨b, e1, rfl⟩ := bR_some e
  have q' := q.here w (Den.bl b)
  cases e2 : isNV mh vx vy with
  | none => rw [e2] at e1; cases e1
  | some c =>
    rw [e2] at e1
    cases e1
    obtain ⟨h1, rfl⟩ := isNV_ok dx dy e2
    exact ⟨h1, q'⟩
end
end Pv

/-! P3: calls of built-ins by values -/
namespace Pv
open PySem PySem.Spec PyProof.Rows L2

section
variable (X : Cx)
def CallS (f : Value) (m : List Ob → List Val → Option Rv) : Prop :=
  ∃ r, CallR X f r ∧ ∀ {mh : List Ob} {F : Hp} {ρ : List Addr} {H : Hp} {xs : List V} {vs : List Val} {rv : Rv} (Q : VK), Wd X.K mh F ρ H → DenVs X.K F ρ xs vs → m mh vs = some rv → PostR X.K mh F ρ H Q rv → r xs H Q
end
theorem CallR.or {X : Cx} {f : Value} {r r' : List V → Hp → VK → Prop} (h : CallR X f r) (h' : CallR X f r') : CallR X f (fun xs H Q => r xs H Q ∨ r' xs H Q) := by
  intro pins s σ H xs us Q I rx q
  rcases q with q | q
  · exact h pins s σ H xs us Q I rx q
  · exact h' pins s σ H xs us Q I rx q

/-! ### lists of one kind -/
def asInt : Val → Option Int
  | .d (.int i) => some i
  | _ => none
def asBl : Val → Option Bool
  | .d (.bool i) => some i
  | _ => none
def asStr : Val → Option Str
  | .d (.str i) => some i
  | _ => none
def allOf {α : Type} (f : Val → Option α) : List Val → Option (List α)
  | [] => some []
  | v :: vs => match f v, allOf f vs with
    | some x, some xs => some (x :: xs)
    | _, _ => none
section
variable {K : PySem.W.Frag} {F : Hp} {ρ : List Addr}
theorem allOf_ok {α : Type} {f : Val → Option α} {g : α → V} (h : ∀ {u : V} {v : Val} {x : α}, DenV K F ρ u v → f v = some x → u = g x) : ∀ {us : List V} {vs : List Val} {xs : List α}, DenVs K F ρ us vs → allOf f vs = some xs → us = xs.map g ∧ vs.length = xs.length
  | _, _, _, .nil, e => by cases e; exact ⟨rfl, rfl⟩
  | _, _, xs, .cons (b := v) (l₂ := vs) a b, e => by
    unfold allOf at e
    cases e1 : f v with
    | none => rw [e1] at e; cases e
    | some x =>
      cases e2 : allOf f vs with
      | none => rw [e1, e2] at e; cases e
      | some ys =>
        rw [e1, e2] at e
        cases e
        obtain ⟨h1, h2⟩ := allOf_ok h b e2
        exact ⟨by rw [h a e1, h1]; rfl, by rw [List.length_cons, List.length_cons, h2]⟩
theorem asInt_ok {u : V} {v : Val} {x : Int} (d : DenV K F ρ u v) (h : asInt v = some x) : u = V.int x := by
  unfold asInt at h
  split at h
  · cases h; exact den_int d
  · cases h
theorem asBl_ok {u : V} {v : Val} {x : Bool} (d : DenV K F ρ u v) (h : asBl v = some x) : u = V.bl x := by
  unfold asBl at h
  split at h
  · cases h; exact den_bl d
  · cases h
theorem asStr_ok {u : V} {v : Val} {x : Str} (d : DenV K F ρ u v) (h : asStr v = some x) : u = V.str x := by
  unfold asStr at h
  split at h
  · cases h; exact den_str d
  · cases h
theorem allOf_map {α : Type} {f : Val → Option α} {g : α → Val} (h : ∀ x, f (g x) = some x) : ∀ xs : List α, allOf f (xs.map g) = some xs
  | [] => rfl
  | x :: xs => by simp only [List.map_cons, allOf, h, allOf_map h xs]
end

/-! ### len, abs, int, str -/
def lenV (mh : List Ob) : List Val → Option Rv
  | [v] => match dctOf mh v with
    | some kvs => some (.v (.d (.int kvs.length)))
    | none => match seqA mh v with
      | some vs => some (.v (.d (.int vs.length)))
      | none => match v with
        | .d (.str x) => if x.length ≤ sizeLine then some (.v (.d (.int x.length))) else none
        | _ => none
  | _ => none
section
variable {X : Cx}
theorem call_lenR : CallR X (.builtin "len") (fun xs H Q => ∃ a kvs, xs = [V.ref a] ∧ Rd H a (.dK kvs) ∧ Q (.int kvs.length) H) := by
  intro pins s σ H xs us Q I r h
  obtain ⟨a, kvs, rfl, ha, q⟩ := h
  obtain ⟨u, rfl, ru⟩ := vals1 r
  cases ru
  exact d_len I ha fun t s' I' => ⟨.int kvs.length, H, I', ⟨t, rfl⟩, q⟩
theorem calls_len : CallS X (.builtin "len") lenV := by
  refine ⟨_, call_lenR.or call_len, fun Q w dv e q => ?_⟩
  rename_i mh F ρ H xs vs rv
  unfold lenV at e
  split at e
  · rename_i v
    cases dv with
    | cons d dn =>
      cases dn
      split at e
      · rename_i kvs e1
        cases e
        obtain ⟨a, ks, rfl, h1, h2⟩ := dctOf_ok w d e1
        refine .inl ⟨a, ks, rfl, h1, ?_⟩
        rw [show ks.length = kvs.length from h2.length]
        exact q.here w (Den.int _)
      · split at e
        · rename_i vs e1
          cases e
          obtain ⟨a, us, rfl, h1, h2, _⟩ := seqA_ok w d e1
          have q' := q.here w (Den.int _)
          rcases h1 with h1 | h1
          · exact .inr ⟨_, _, rfl, .inl ⟨us, h1, h2.length.symm⟩, q'⟩
          · exact .inr ⟨_, _, rfl, .inr ⟨us, h1, h2.length.symm⟩, q'⟩
        · split at e
          · split at e
            · rename_i hz
              cases e
              have := den_str d
              subst this
              exact .inr ⟨_, _, rfl, ⟨hz, rfl⟩, q.here w (Den.int _)⟩
            · cases e
          · cases e
  · cases e
def absVl (mh : List Ob) : List Val → Option Rv
  | [.d (.int i)] => some (.v (.d (.int (if i < 0 then -i else i))))
  | _ => none
theorem calls_abs : CallS X (.builtin "abs") absVl := by
  refine ⟨_, call_abs, fun Q w dv e q => ?_⟩
  unfold absVl at e
  split at e
  · cases dv with
    | cons d dn =>
      cases dn
      cases e
      exact ⟨_, by rw [den_int d], q.here w (Den.int _)⟩
  · cases e
def intVl (mh : List Ob) : List Val → Option Rv
  | [.d (.int i)] => some (.v (.d (.int i)))
  | [.d (.bool k)] => some (.v (.d (.int (if k then 1 else 0))))
  | _ => none
theorem calls_int : CallS X (.type "int") intVl := by
  refine ⟨_, call_int1, fun Q w dv e q => ?_⟩
  unfold intVl at e
  split at e
  · cases dv with
    | cons d dn =>
      cases dn
      cases e
      exact .inl ⟨_, by rw [den_int d], q.here w (Den.int _)⟩
  · cases dv with
    | cons d dn =>
      cases dn
      cases e
      exact .inr ⟨_, by rw [den_bl d], q.here w (Den.int _)⟩
  · cases e
def strVl (mh : List Ob) : List Val → Option Rv
  | [.d (.int i)] => if i.natAbs < 2 ^ 1900 then some (.v (.d (.str (toString i)))) else none
  | _ => none
theorem calls_str : CallS X (.type "str") strVl := by
  refine ⟨_, call_str_int, fun Q w dv e q => ?_⟩
  unfold strVl at e
  split at e
  · split at e
    · rename_i hz
      cases dv with
      | cons d dn =>
        cases dn
        cases e
        exact ⟨_, by rw [den_int d], Nat.lt_of_lt_of_le (PySem.Flt.log2_lt_of (by decide) hz) (by decide), q.here w (Den.str _)⟩
    · cases e
  · cases e

/-! ### max, min, sum, all, any -/
def maxI (ns : List Int) : Option Int := ns.max?
def maxVl (mh : List Ob) : List Val → Option Rv
  | [.d (.int i), .d (.int j)] => some (.v (.d (.int (if j > i then j else i))))
  | [v] => match (seqL mh v).bind (allOf asInt) with
    | some ns => ns.max?.map fun m => .v (.d (.int m))
    | _ => none
  | _ => none
def minVl (mh : List Ob) : List Val → Option Rv
  | [.d (.int i), .d (.int j)] => some (.v (.d (.int (if j < i then j else i))))
  | [v] => match (seqL mh v).bind (allOf asInt) with
    | some ns => ns.min?.map fun m => .v (.d (.int m))
    | _ => none
  | _ => none
theorem seqL_ints {K : PySem.W.Frag} {mh : List Ob} {F : Hp} {ρ : List Addr} {H : Hp} {u : V} {v : Val} {α : Type} {f : Val → Option α} {g : α → V} {ns : List α} (hf : ∀ {u : V} {v : Val} {x : α}, DenV K F ρ u v → f v = some x → u = g x) (w : Wd K mh F ρ H) (d : DenV K F ρ u v) (h : (seqL mh v).bind (allOf f) = some ns) :
    ∃ a, u = .ref a ∧ SqL K H a (ns.map g) ∧ ns.length ≤ sizeLine := by
  cases e1 : seqL mh v with
  | none => rw [e1] at h; cases h
  | some vs =>
    rw [e1] at h
    obtain ⟨a, xs, rfl, h1, h2, h3⟩ := seqL_ok w d e1
    obtain ⟨h4, h5⟩ := allOf_ok hf h2 h
    subst h4
    exact ⟨a, rfl, h1, by rw [← h5]; exact h3⟩
theorem calls_max (hc : X.calm = true) : CallS X (.builtin "max") maxVl := by
  refine ⟨_, (call_max2 hc).or (cr_max hc), fun Q w dv e q => ?_⟩
  unfold maxVl at e
  split at e
  · cases dv with
    | cons d dn =>
      cases dn with
      | cons d2 dn =>
        cases dn
        cases e
        exact .inl ⟨_, _, by rw [den_int d, den_int d2], q.here w (Den.int _)⟩
  · split at e
    · rename_i ns e1
      cases dv with
      | cons d dn =>
        cases dn
        obtain ⟨a, rfl, h1, h2⟩ := seqL_ints asInt_ok w d e1
        cases e2 : ns.max? with
        | none => rw [e2] at e; cases e
        | some m =>
          rw [e2] at e
          cases e
          have hm := List.max?_eq_some_iff.mp e2
          have hne : ns ≠ [] := fun z => by subst z; cases e2
          refine .inr ⟨a, ns, rfl, h1, List.length_pos_iff.mpr hne, fun m' h3 h4 => ?_⟩
          have : m' = m := Int.le_antisymm (hm.2 m' h3) (h4 m hm.1)
          subst this
          exact q.here w (Den.int _)
    · cases e
  · cases e
theorem calls_min (hc : X.calm = true) : CallS X (.builtin "min") minVl := by
  refine ⟨_, (call_min2 hc).or (cr_min hc), fun Q w dv e q => ?_⟩
  unfold minVl at e
  split at e
  · cases dv with
    | cons d dn =>
      cases dn with
      | cons d2 dn =>
        cases dn
        cases e
        exact .inl ⟨_, _, by rw [den_int d, den_int d2], q.here w (Den.int _)⟩
  · split at e
    · rename_i ns e1
      cases dv with
      | cons d dn =>
        cases dn
        obtain ⟨a, rfl, h1, h2⟩ := seqL_ints asInt_ok w d e1
        cases e2 : ns.min? with
        | none => rw [e2] at e; cases e
        | some m =>
          rw [e2] at e
          cases e
          have hm := List.min?_eq_some_iff.mp e2
          have hne : ns ≠ [] := fun z => by subst z; cases e2
          refine .inr ⟨a, ns, rfl, h1, List.length_pos_iff.mpr hne, fun m' h3 h4 => ?_⟩
          have : m' = m := Int.le_antisymm (h4 m hm.1) (hm.2 m' h3)
          subst this
          exact q.here w (Den.int _)
    · cases e
  · cases e
def sumVl (mh : List Ob) : List Val → Option Rv
  | [v] => match (seqL mh v).bind (allOf asInt) with
    | some ns => some (.v (.d (.int ns.sum)))
    | _ => none
  | _ => none
theorem calls_sum (hc : X.calm = true) : CallS X (.builtin "sum") sumVl := by
  refine ⟨_, cr_sum hc, fun Q w dv e q => ?_⟩
  unfold sumVl at e
  split at e
  · split at e
    · rename_i ns e1
      cases dv with
      | cons d dn =>
        cases dn
        cases e
        obtain ⟨a, rfl, h1, h2⟩ := seqL_ints asInt_ok w d e1
        exact ⟨a, ns, rfl, h1, q.here w (Den.int _)⟩
    · cases e
  · cases e
def allVl (mh : List Ob) : List Val → Option Rv
  | [v] => match (seqL mh v).bind (allOf asBl) with
    | some ns => some (.v (.d (.bool (ns.all id))))
    | _ => none
  | _ => none
def anyVl (mh : List Ob) : List Val → Option Rv
  | [v] => match (seqL mh v).bind (allOf asBl) with
    | some ns => some (.v (.d (.bool (ns.any id))))
    | _ => none
  | _ => none
theorem calls_all (hc : X.calm = true) : CallS X (.builtin "all") allVl := by
  refine ⟨_, cr_all hc, fun Q w dv e q => ?_⟩
  unfold allVl at e
  split at e
  · split at e
    · rename_i ns e1
      cases dv with
      | cons d dn =>
        cases dn
        cases e
        obtain ⟨a, rfl, h1, h2⟩ := seqL_ints asBl_ok w d e1
        exact ⟨a, ns, rfl, h1, q.here w (Den.bl _)⟩
    · cases e
  · cases e
theorem calls_any (hc : X.calm = true) : CallS X (.builtin "any") anyVl := by
  refine ⟨_, cr_any hc, fun Q w dv e q => ?_⟩
  unfold anyVl at e
  split at e
  · split at e
    · rename_i ns e1
      cases dv with
      | cons d dn =>
        cases dn
        cases e
        obtain ⟨a, rfl, h1, h2⟩ := seqL_ints asBl_ok w d e1
        exact ⟨a, ns, rfl, h1, q.here w (Den.bl _)⟩
    · cases e
  · cases e

/-! ### list, tuple -/
def listVl (mh : List Ob) : List Val → Option Rv
  | [v] => (seqA mh v).map .nl
  | _ => none
def tupVl (mh : List Ob) : List Val → Option Rv
  | [v] => ((seqA mh v).bind asDs).map fun ds => .v (.d (.tuple ds))
  | _ => none
theorem calls_list : CallS X (.type "list") listVl := by
  refine ⟨_, call_list_of, fun Q w dv e q => ?_⟩
  unfold listVl at e
  split at e
  · rename_i v
    cases dv with
    | cons d dn =>
      cases dn
      cases e1 : seqA _ v with
      | none => rw [e1] at e; cases e
      | some vs =>
        rw [e1] at e
        cases e
        obtain ⟨a, us, rfl, h1, h2, h3⟩ := seqA_ok w d e1
        exact ⟨a, us, rfl, h1, fun p hp => q.list w hp h2 h3⟩
  · cases e
theorem calls_tup : CallS X (.type "tuple") tupVl := by
  refine ⟨_, call_tuple_of, fun Q w dv e q => ?_⟩
  rename_i mh F ρ H xs vs rv
  unfold tupVl at e
  split at e
  · rename_i v
    cases dv with
    | cons d dn =>
      cases dn
      cases e1 : seqA mh v with
      | none => rw [e1] at e; cases e
      | some vs =>
        rw [e1] at e
        cases e2 : asDs vs with
        | none => simp [e2] at e
        | some ds =>
          simp only [Option.bind_some, e2, Option.map_some, Option.some.injEq] at e
          subst e
          have e3 := asDs_eq e2
          subst e3
          obtain ⟨a, us, rfl, h1, h2, h3⟩ := seqA_ok w d e1
          rw [List.length_map] at h3
          rcases h1 with h1 | h1
          · exact ⟨a, us, rfl, .inl ⟨h1, fun p hp => q.tup w hp h2.all h3⟩⟩
          · -- the tuple itself: it denotes in H; the data is v's own
            have hv : v = .d (.tuple ds) ∨ ∃ l, seqL mh v = some l := by
              unfold seqA at e1
              split at e1
              · rename_i xs
                have e4 := congrArg asDs (Option.some.inj e1)
                rw [asDs_map, asDs_map] at e4
                cases e4
                exact .inl rfl
              · exact .inr ⟨_, e1⟩
            rcases hv with rfl | ⟨l, hl⟩
            · exact ⟨a, us, rfl, .inr ⟨h1, q.here w d⟩⟩
            · obtain ⟨a', us', e5, h4, h5, h6⟩ := seqL_ok w d hl
              cases e5
              have e6 : l = ds.map Val.d := by
                have : seqA mh v = some l := by
                  unfold seqA
                  split
                  · cases hl
                  · exact hl
                rw [e1] at this
                exact (Option.some.inj this).symm
              subst e6
              exact ⟨a, us', rfl, .inl ⟨h4, fun p hp => q.tup w hp h5.all h3⟩⟩
  · cases e

/-! ### sorted -/
def leS (a b : Str) : Bool := decide (a.cps.toList ≤ b.cps.toList)
def leI (a b : Int) : Bool := decide (a ≤ b)
def sortS (xs : List Str) : List Str := xs.mergeSort leS
def sortI (xs : List Int) : List Int := xs.mergeSort leI
theorem leS_trans (a b c : Str) (h : leS a b = true) (h' : leS b c = true) : leS a c = true := decide_eq_true (List.le_trans (of_decide_eq_true h) (of_decide_eq_true h'))
theorem leS_total (a b : Str) : (leS a b || leS b a) = true := by
  rw [Bool.or_eq_true]
  rcases List.le_total a.cps.toList b.cps.toList with h | h
  · exact .inl (decide_eq_true h)
  · exact .inr (decide_eq_true h)
theorem leS_antisymm {a b : Str} (h : leS a b = true) (h' : leS b a = true) : a = b := by
  have e : a.cps.toList = b.cps.toList := List.le_antisymm (of_decide_eq_true h) (of_decide_eq_true h')
  obtain ⟨⟨x⟩⟩ := a
  obtain ⟨⟨y⟩⟩ := b
  simp only at e
  rw [e]
theorem sortS_pairwise (xs : List Str) : (sortS xs).Pairwise fun a b => leS a b = true := List.pairwise_mergeSort leS_trans leS_total xs
theorem sortS_perm (xs : List Str) : (sortS xs).Perm xs := List.mergeSort_perm _ _
theorem sortI_pairwise (xs : List Int) : (sortI xs).Pairwise fun a b => a ≤ b := by
  have h := List.pairwise_mergeSort (le := leI) (fun a b c h h' => by simp only [leI, decide_eq_true_eq] at *; omega) (fun a b => by simp only [leI, Bool.or_eq_true, decide_eq_true_eq]; omega) xs
  exact h.imp fun h => of_decide_eq_true h
theorem sortI_perm (xs : List Int) : (sortI xs).Perm xs := List.mergeSort_perm _ _
theorem rising_pw : ∀ (r : List Str) (p : Str), risingS p r = true → (p :: r).Pairwise fun a b => leS a b = true
  | [], p, _ => List.pairwise_singleton _ _
  | x :: r, p, h => by
    unfold risingS at h
    rw [Bool.and_eq_true] at h
    have h1 : leS p x = true := by
      have := h.1
      rw [ltCps_eq] at this
      simp only [Bool.not_eq_true', decide_eq_false_iff_not] at this
      exact decide_eq_true (List.not_lt.mp this)
    have ih := rising_pw r x h.2
    refine List.Pairwise.cons (fun y hy => ?_) ih
    rcases List.mem_cons.mp hy with rfl | hy
    · exact h1
    · exact leS_trans _ _ _ h1 ((List.pairwise_cons.mp ih).1 y hy)
theorem sortedS_pw : ∀ (l : List Str), sortedS l = true → l.Pairwise fun a b => leS a b = true
  | [], _ => .nil
  | x :: r, h => rising_pw r x h
theorem sortS_unique {xs ys : List Str} (p : ys.Perm xs) (h : sortedS ys = true) : ys = sortS xs :=
  List.Perm.eq_of_pairwise (fun _ _ _ _ => leS_antisymm) (sortedS_pw ys h) (sortS_pairwise xs) (p.trans (sortS_perm xs).symm)
theorem sortI_unique {xs ys : List Int} (p : ys.Perm xs) (h : ys.Pairwise (· ≤ ·)) : ys = sortI xs :=
  List.Perm.eq_of_pairwise (fun _ _ _ _ => Int.le_antisymm) h (sortI_pairwise xs) (p.trans (sortI_perm xs).symm)
def keyS : Key → Option Str
  | .inr x => some x
  | _ => none
def keysS : List (Key × Val) → Option (List Str)
  | [] => some []
  | kv :: r => match keyS kv.1, keysS r with
    | some x, some xs => some (x :: xs)
    | _, _ => none
theorem keysS_ok {K : PySem.W.Frag} {F : Hp} {ρ : List Addr} : ∀ {ks : List (Key × V)} {kvs : List (Key × Val)} {xs : List Str}, DenVK K F ρ ks kvs → keysS kvs = some xs → ks.map (·.1) = xs.map Sum.inr
  | _, _, _, .nil, h => by cases h; rfl
  | (k, u) :: _, (k', v) :: r, xs, .cons a b, h => by
    unfold keysS at h
    have e : k = k' := a.1
    subst e
    cases e1 : keyS k with
    | none => simp only [e1] at h; cases h
    | some x =>
      cases e2 : keysS r with
      | none => simp only [e1, e2] at h; cases h
      | some ys =>
        simp only [e1, e2, Option.some.injEq] at h
        subst h
        have e3 : k = .inr x := by
          cases k with
          | inl i => cases e1
          | inr y => cases e1; rfl
        rw [List.map_cons, List.map_cons, keysS_ok b e2, e3]
def sortVl (mh : List Ob) : List Val → Option Rv
  | [v] => match dctOf mh v with
    | some kvs => match keysS kvs with
      | some ks => if ks.length < 64 then some (.nl ((sortS ks).map fun x => .d (.str x))) else none
      | none => none
    | none => match (seqL mh v).bind (allOf asStr) with
      | some xs => if xs.length < 64 then some (.nl ((sortS xs).map fun x => .d (.str x))) else none
      | none => match (seqL mh v).bind (allOf asInt) with
        | some xs => if xs.length < 64 then some (.nl ((sortI xs).map fun x => .d (.int x))) else none
        | none => none
  | _ => none
theorem denVs_strs {K : PySem.W.Frag} {F : Hp} {ρ : List Addr} : ∀ xs : List Str, DenVs K F ρ (xs.map V.str) (xs.map fun x => .d (.str x))
  | [] => .nil
  | x :: xs => .cons (Den.str x) (denVs_strs xs)
theorem denVs_ints {K : PySem.W.Frag} {F : Hp} {ρ : List Addr} : ∀ xs : List Int, DenVs K F ρ (xs.map V.int) (xs.map fun x => .d (.int x))
  | [] => .nil
  | x :: xs => .cons (Den.int x) (denVs_ints xs)
theorem calls_sorted (hc : X.calm = true) : CallS X (.builtin "sorted") sortVl := by
  refine ⟨_, (call_sortedD hc).or (cr_sortedS.or cr_sorted), fun Q w dv e q => ?_⟩
  rename_i mh F ρ H xs vs rv
  unfold sortVl at e
  split at e
  · rename_i v
    cases dv with
    | cons d dn =>
      cases dn
      split at e
      · rename_i kvs e1
        split at e
        · rename_i ks e2
          split at e
          · rename_i hz
            cases e
            obtain ⟨a, ls, rfl, h1, h2⟩ := dctOf_ok w d e1
            refine .inl ⟨a, ls, ks, rfl, h1, keysS_ok h2 e2, hz, fun ys p h3 h4 hp => ?_⟩
            rw [sortS_unique h3 h4]
            exact q.list w hp (denVs_strs _) (by rw [List.length_map, (sortS_perm ks).length_eq]; exact small64 hz)
          · cases e
        · cases e
      · split at e
        · rename_i xs e1
          split at e
          · rename_i hz
            cases e
            obtain ⟨a, rfl, h1, h2⟩ := seqL_ints asStr_ok w d e1
            refine .inr (.inl ⟨a, xs, rfl, h1, hz, fun ys p h3 h4 hp => ?_⟩)
            rw [sortS_unique h3 h4]
            exact q.list w hp (denVs_strs _) (by rw [List.length_map, (sortS_perm xs).length_eq]; exact small64 hz)
          · cases e
        · split at e
          · rename_i xs e1
            split at e
            · rename_i hz
              cases e
              obtain ⟨a, rfl, h1, h2⟩ := seqL_ints asInt_ok w d e1
              refine .inr (.inr ⟨a, xs, rfl, h1, hz, fun ys p h3 h4 hp => ?_⟩)
              rw [sortI_unique h3 h4]
              exact q.list w hp (denVs_ints _) (by rw [List.length_map, (sortI_perm xs).length_eq]; exact small64 hz)
            · cases e
          · cases e
  · cases e

/-! ### isinstance -/
def tyD : Dt → String
  | .none => "NoneType"
  | .bool _ => "bool"
  | .int _ => "int"
  | .str _ => "str"
  | .list _ => "list"
  | .tuple _ => "tuple"
  | .dict _ => "dict"
def tyVal (mh : List Ob) : Val → Option String
  | .d x => some (tyD x)
  | .ref n => match mh[n]? with
    | some (.lst _) => some "list"
    | some (.dct _) => some "dict"
    | _ => none
def isIn (a b : String) : Bool := a == b || (a == "bool" && b == "int")
def isTys : List String := ["bool", "int", "str", "list", "tuple", "dict"]
theorem kit_all : (("NoneType" :: isTys).all fun a => isTys.all fun b => decide (kitB a b = some (isIn a b))) = true := by decide +kernel
theorem kit_is {a b : String} (ha : a ∈ "NoneType" :: isTys) (hb : b ∈ isTys) : kitB a b = some (isIn a b) :=
  of_decide_eq_true (List.all_eq_true.mp (List.all_eq_true.mp kit_all a ha) b hb)
theorem tyD_mem (x : Dt) : tyD x ∈ "NoneType" :: isTys := by cases x <;> simp [tyD, isTys]
theorem ty_den {K : PySem.W.Frag} {H : Hp} {u : V} {x : Dt} (d : Den K H u x) : TyX K H u (.type (tyD x)) := by
  cases d with
  | non => exact .base .non
  | bl b => exact .base (.bl b)
  | int i => exact .base (.int i)
  | str y => exact .base (.str y)
  | lst q z r =>
    rcases q with (q | ⟨o, q⟩) | ⟨o, its, n, h1, h2, h3⟩
    · exact .base (.lst q)
    · exact .base (.frz q)
    · exact .kList h1 h2
  | tup q z r =>
    rcases q with (q | ⟨o, q⟩) | ⟨o, its, n, h1, h2, h3⟩
    · exact .base (.tup q)
    · exact .fTuple q
    · exact .kTuple h1 h2
  | dct q z r =>
    rcases q with q | ⟨o, q⟩
    · exact .base (.dK q)
    · exact .fDict q
theorem tyVal_ok {K : PySem.W.Frag} {mh : List Ob} {F : Hp} {ρ : List Addr} {H : Hp} {u : V} {v : Val} {t : String} (w : Wd K mh F ρ H) (d : DenV K F ρ u v) (h : tyVal mh v = some t) : TyX K H u (.type t) ∧ t ∈ "NoneType" :: isTys := by
  cases v with
  | d x =>
    cases h
    exact ⟨ty_den (Den.mono w.rle d), tyD_mem x⟩
  | ref n =>
    obtain ⟨a, e, rfl⟩ := d
    have h : (match mh[n]? with | some (.lst _) => some "list" | some (.dct _) => some "dict" | _ => none) = some t := h
    split at h
    · rename_i vs e1
      cases h
      obtain ⟨_, xs, q, _⟩ := w.cell n a _ e e1
      exact ⟨.base (.lst q), by simp [isTys]⟩
    · rename_i vs e1
      cases h
      obtain ⟨_, xs, q, _⟩ := w.cell n a _ e e1
      exact ⟨.base (.dK q), by simp [isTys]⟩
    · cases h
theorem isin_ok {mh : List Ob} {F : Hp} {ρ : List Addr} {H : Hp} {u : V} {v : Val} {t c : String} (Q : VK) (w : Wd X.K mh F ρ H) (d : DenV X.K F ρ u v) (h : tyVal mh v = some t) (hc : c ∈ isTys) (q : Q (.bl (isIn t c)) H) : rIsi X.K [u, .ty c] H Q := by
  obtain ⟨h1, h2⟩ := tyVal_ok w d h
  exact ⟨u, .ty c, .type t, .type c, isIn t c, rfl, .ty c, h1, kit_ty (kit_is h2 hc), q⟩
end
end Pv

/-! P4: subscripts, slices, stores, methods by values -/
namespace Pv
open PySem PySem.Spec PyProof.Rows L2

/-! ### a[i] -/
section
variable (X : Cx)
def IxS (m : List Ob → Val → Val → Option Val) : Prop :=
  ∃ r, IxR X r ∧ ∀ {mh : List Ob} {F : Hp} {ρ : List Addr} {H : Hp} {x y : V} {dx dy v : Val} (Q : VK), Wd X.K mh F ρ H → DenV X.K F ρ x dx → DenV X.K F ρ y dy → m mh dx dy = some v → (∀ u, DenV X.K F ρ u v → Q u H) → r x y H Q
end
def ixVl (mh : List Ob) (o i : Val) : Option Val := match dctOf mh o with
  | some kvs => (keyVl i).bind (findK kvs)
  | none => match i with
    | .d (.int k) => match seqA mh o with
      | some vs => atI vs k
      | none => match o with
        | .d (.str z) => if z.length ≤ sizeLine then (atI z.cps.toList k).map fun c => .d (.str ⟨#[c]⟩) else none
        | _ => none
    | _ => none
theorem atI_get {α : Type} {xs : List α} {i : Int} {v : α} (h : atI xs i = some v) : ∃ j, ixN xs.length i = some j ∧ xs[j]? = some v := by
  unfold atI at h
  cases e : ixN xs.length i with
  | none => rw [e] at h; cases h
  | some j => rw [e] at h; exact ⟨j, rfl, h⟩
theorem atI_den {K : PySem.W.Frag} {F : Hp} {ρ : List Addr} {us : List V} {vs : List Val} {i : Int} {v : Val} (d : DenVs K F ρ us vs) (h : atI vs i = some v) : ∃ u, atI us i = some u ∧ DenV K F ρ u v := by
  obtain ⟨j, h1, h2⟩ := atI_get h
  obtain ⟨u, h3, h4⟩ := d.get h2
  refine ⟨u, ?_, h4⟩
  unfold atI
  rw [show us.length = vs.length from d.length, h1]
  exact h3
section
variable {X : Cx}
theorem ix_dct (hu : X.A.units + 1 < cLine) : IxR X (fun x y H Q => ∃ a v, x = .ref a ∧ DGet H a y (some v) ∧ Q v H) := by
  intro value slice pins s σ H x y v u Q I rx ry h hs
  obtain ⟨a, w, rfl, g, q⟩ := h
  cases rx
  have hT := dict_typeIs I g
  have h2 : wpAny (model X.prog X.w) X.A (getItem (.ref a) u) (EP X pins σ Q) X.xe s := d_getItem hu I g ry fun w' s3 I3 rw' => ⟨w, H, I3, rw', q⟩
  unfold subscriptTail
  refine wpAny_bind ?_
  rw [getitemInPython_of_ne hT.not_modules]
  refine wpAny_bind (wpAny_specialOf hT PySem.F.slot_dict_getitem.lookup ?_)
  have fin : wpAny (model X.prog X.w) X.A (subscripted slice false (.ref a) u) (fun r s₃ => wpAny (model X.prog X.w) X.A (letTemporaryGo value (.ref a) r >>= fun _ => pure r) (EP X pins σ Q) X.xe s₃) X.xe s := by
    rw [hs]
    exact wpAny_operating (wpAny_mono h2 (fun r s₃ h₃ => wpAny_bind (wpAny_letTemporaryGo (wpAny_pure h₃))) fun _ _ x => x)
  first
    | exact wpAny_pure (wpAny_bind fin)
    | exact wpAny_bind (wpAny_pure (wpAny_bind fin))
    | exact wpAny_bind fin
theorem ixs_all (hu : X.A.units + 1 < cLine) : IxS X ixVl := by
  refine ⟨_, (ix_dct hu).or ix_seq, fun Q w dx dy e q => ?_⟩
  rename_i mh F ρ H x y vx vy v
  unfold ixVl at e
  split at e
  · rename_i kvs e1
    cases e2 : keyVl vy with
    | none => rw [e2] at e; cases e
    | some k =>
      rw [e2] at e
      have e : findK kvs k = some v := e
      obtain ⟨a, ks, rfl, h1, h2⟩ := dctOf_ok w dx e1
      rcases findK_ok (k := k) h2 with ⟨_, h3⟩ | ⟨u, v', h3, h4, h5⟩
      · rw [h3] at e; cases e
      · rw [h4] at e; cases e
        exact .inl ⟨a, u, rfl, .inl ⟨ks, k, h1, key_den dy e2, h3.symm⟩, q u h5⟩
  · split at e
    · rename_i k
      have := den_int dy
      subst this
      split at e
      · rename_i vs e1
        obtain ⟨a, us, rfl, h1, h2, _⟩ := seqA_ok w dx e1
        obtain ⟨u, h3, h4⟩ := atI_den h2 e
        rcases h1 with h1 | h1
        · exact .inr (.inl ⟨a, us, k, u, rfl, rfl, h1, h3, q u h4⟩)
        · exact .inr (.inr (.inl ⟨a, us, k, u, rfl, rfl, h1, h3, q u h4⟩))
      · split at e
        · rename_i z _ _
          split at e
          · rename_i hz
            cases e1 : atI z.cps.toList k with
            | none => rw [e1] at e; cases e
            | some c =>
              rw [e1] at e
              cases e
              have := den_str dx
              subst this
              exact .inr (.inr (.inr ⟨z, k, c, rfl, rfl, hz, e1, q _ (Den.str _)⟩))
          · cases e
        · cases e
    · cases e

/-! ### a[lo:hi] -/
end
def cutG {α : Type} (xs : List α) (lo hi : Option Int) : List α := (xs.drop (HT.sIx xs.length 0 lo)).take (HT.sIx xs.length xs.length hi - HT.sIx xs.length 0 lo)
theorem cutG_length {α : Type} (xs : List α) (lo hi : Option Int) : (cutG xs lo hi).length ≤ xs.length := by
  unfold cutG
  rw [List.length_take, List.length_drop]
  omega
theorem cutG_den {K : PySem.W.Frag} {F : Hp} {ρ : List Addr} {us : List V} {vs : List Val} {lo hi : Option Int} (d : DenVs K F ρ us vs) : DenVs K F ρ (cutV us lo hi) (cutG vs lo hi) := by
  unfold cutV cutG
  rw [show us.length = vs.length from d.length]
  exact (d.drop _).take _
theorem cutG_all {K : PySem.W.Frag} {F : Hp} {us : List V} {vs : List Dt} {lo hi : Option Int} (d : DenAll K F us vs) : DenAll K F (cutV us lo hi) (cutG vs lo hi) := by
  unfold cutV cutG
  rw [show us.length = vs.length from d.length]
  exact (d.drop _).take _
section
variable (X : Cx)
def SlS (m : List Ob → Val → Option Int → Option Int → Option Rv) : Prop :=
  ∃ r, SlR X r ∧ ∀ {mh : List Ob} {F : Hp} {ρ : List Addr} {H : Hp} {x : V} {dx : Val} {lo hi : Option Int} {rv : Rv} (Q : VK), Wd X.K mh F ρ H → DenV X.K F ρ x dx → m mh dx lo hi = some rv → PostR X.K mh F ρ H Q rv → r x lo hi H Q
end
def slVl (mh : List Ob) (v : Val) (lo hi : Option Int) : Option Rv := match v with
  | .d (.tuple xs) => some (.v (.d (.tuple (cutG xs lo hi))))
  | .d (.str z) => if z.length ≤ sizeLine then some (.v (.d (.str (cutS z lo hi)))) else none
  | v => (seqL mh v).map fun vs => .nl (cutG vs lo hi)
section
variable {X : Cx}
theorem sls_all : SlS X slVl := by
  refine ⟨_, sl_tupA.or (sl_str.or sl_list), fun Q w dx e q => ?_⟩
  rename_i mh F ρ H x vx lo hi rv
  unfold slVl at e
  split at e
  · rename_i ds
    cases e
    cases dx with
    | tup hq z r =>
      rename_i a xs
      have hl := r.length
      refine .inl ⟨a, xs, rfl, w.rle.sqT hq, fun hw => ?_, fun hw p hp => ?_⟩
      · have e1 : cutG ds lo hi = ds := by
          unfold cutG
          rw [← hl, hw.1, hw.2, hl]
          simp
        rw [e1] at q
        exact q.here w (Den.tup hq z r)
      · exact q.tup w hp (cutG_all r) (Nat.le_trans (cutG_length _ _ _) z)
  · split at e
    · rename_i hz
      cases e
      have := den_str dx
      subst this
      exact .inr (.inl ⟨_, rfl, hz, q.here w (Den.str _)⟩)
    · cases e
  · cases e1 : seqL mh vx with
    | none => rw [e1] at e; cases e
    | some vs =>
      rw [e1] at e
      cases e
      obtain ⟨a, us, rfl, h1, h2, h3⟩ := seqL_ok w dx e1
      exact .inr (.inr ⟨a, us, rfl, h1, fun p hp => q.list w hp (cutG_den h2) (Nat.le_trans (cutG_length _ _ _) h3)⟩)
end

/-! ### o[i] = v -/
def putV (kvs : List (Key × Val)) (k : Key) (v : Val) : List (Key × Val) :=
  if (kvs.any fun kv => decide (kv.1 = k)) = true then kvs.map fun kv => if kv.1 = k then (kv.1, v) else kv else kvs ++ [(k, v)]
def setVl (o i v : Val) : M Unit := fun mh => match o with
  | .ref n => match mh[n]? with
    | some (.lst vs) => match i with
      | .d (.int k) => (ixN vs.length k).map fun j => ((), mh.set n (.lst (vs.set j v)))
      | _ => none
    | some (.dct kvs) => match keyVl i with
      | some k => if kvs.length < sizeLine then some ((), mh.set n (.dct (putV kvs k v))) else none
      | none => none
    | _ => none
  | _ => none
section
variable (X : Cx)
def SetS (m : Val → Val → Val → M Unit) : Prop :=
  ∃ r, PSet X r ∧ ∀ {mh mh' : List Ob} {F : Hp} {ρ : List Addr} {H : Hp} {x y z : V} {dx dy dz : Val} (Q : Hp → Prop), Wd X.K mh F ρ H → DenV X.K F ρ x dx → DenV X.K F ρ y dy → DenV X.K F ρ z dz → m dx dy dz mh = some ((), mh') → (∀ H', Wd X.K mh' F ρ H' → Gr F ρ H F ρ H' → Q H') → r x y z H Q
end
section
variable {X : Cx}
theorem set_dct (hu : X.A.units + 1 < cLine) : PSet X (fun o i v H Q => ∃ a H', o = .ref a ∧ DPut H a i v H' ∧ Q H') := by
  intro pins s σ H o i v ov iv u Q I ro ri rv h
  obtain ⟨a, H', rfl, g, q⟩ := h
  cases ro
  exact d_setItem hu I g ri rv fun s4 I4 => ⟨H', I4, q⟩
theorem PSet.or {t t' : TSet} (h : PSet X t) (h' : PSet X t') : PSet X (fun o i v H Q => t o i v H Q ∨ t' o i v H Q) := by
  intro pins s σ H o i v ov iv u Q I ro ri rv q
  rcases q with q | q
  · exact h pins s σ H o i v ov iv u Q I ro ri rv q
  · exact h' pins s σ H o i v ov iv u Q I ro ri rv q
theorem putV_any {K : PySem.W.Frag} {F : Hp} {ρ : List Addr} {k : Key} : ∀ {ks : List (Key × V)} {kvs : List (Key × Val)}, DenVK K F ρ ks kvs → (ks.any fun kv => decide (kv.1 = k)) = kvs.any fun kv => decide (kv.1 = k)
  | _, _, .nil => rfl
  | _, _, .cons a b => by rw [List.any_cons, List.any_cons, putV_any b, a.1]
theorem putV_map {K : PySem.W.Frag} {F : Hp} {ρ : List Addr} {k : Key} {u : V} {v : Val} (d : DenV K F ρ u v) : ∀ {ks : List (Key × V)} {kvs : List (Key × Val)}, DenVK K F ρ ks kvs →
    DenVK K F ρ (ks.map fun kv => if kv.1 = k then (kv.1, u) else kv) (kvs.map fun kv => if kv.1 = k then (kv.1, v) else kv)
  | _, _, .nil => .nil
  | (k1, x) :: _, (k2, y) :: _, .cons a b => by
    have e : k1 = k2 := a.1
    subst e
    refine .cons ?_ (putV_map d b)
    by_cases h : k1 = k
    · simp only [h]; exact ⟨rfl, d⟩
    · show (if k1 = k then (k1, u) else (k1, x)).1 = (if k1 = k then (k1, v) else (k1, y)).1 ∧ DenV K F ρ (if k1 = k then (k1, u) else (k1, x)).2 (if k1 = k then (k1, v) else (k1, y)).2
      rw [if_neg h, if_neg h]; exact ⟨rfl, a.2⟩
theorem putV_snoc {K : PySem.W.Frag} {F : Hp} {ρ : List Addr} {k : Key} {u : V} {v : Val} (d : DenV K F ρ u v) : ∀ {ks : List (Key × V)} {kvs : List (Key × Val)}, DenVK K F ρ ks kvs → DenVK K F ρ (ks ++ [(k, u)]) (kvs ++ [(k, v)])
  | _, _, .nil => .cons ⟨rfl, d⟩ .nil
  | _, _, .cons a b => .cons a (putV_snoc d b)
theorem putV_den {K : PySem.W.Frag} {F : Hp} {ρ : List Addr} {k : Key} {u : V} {v : Val} (d : DenV K F ρ u v) {ks : List (Key × V)} {kvs : List (Key × Val)} (h : DenVK K F ρ ks kvs) : DenVK K F ρ (putK ks k u) (putV kvs k v) := by
  unfold putK putV
  rw [putV_any h]
  split
  · exact putV_map d h
  · exact putV_snoc d h
theorem putV_length (kvs : List (Key × Val)) (k : Key) (v : Val) : (putV kvs k v).length ≤ kvs.length + 1 := by
  unfold putV
  split
  · rw [List.length_map]; omega
  · rw [List.length_append]; exact Nat.le_refl _
theorem sets_all (hu : X.A.units + 1 < cLine) : SetS X setVl := by
  refine ⟨_, PSet.or set_list (set_dct hu), fun Q w dx dy dz e q => ?_⟩
  rename_i mh mh' F ρ H x y z vx vy vz
  unfold setVl at e
  split at e
  · rename_i n
    obtain ⟨a, ea, rfl⟩ := dx
    split at e
    · rename_i vs e1
      split at e
      · rename_i k
        have := den_int dy
        subst this
        cases e2 : ixN vs.length k with
        | none => rw [e2] at e; cases e
        | some j =>
          rw [e2] at e
          cases e
          obtain ⟨hz, us, h1, h2⟩ := w.cell n a _ ea e1
          obtain ⟨w', g⟩ := w.write (u := .lst (us.set j z)) (o := .lst (vs.set j vz)) ea e1 rfl ⟨by rw [List.length_set]; exact hz, _, upd_same, h2.set dz j⟩
          exact .inl ⟨a, us, k, j, rfl, rfl, h1, by rw [show us.length = vs.length from h2.length]; exact e2, q _ w' g⟩
      · cases e
    · rename_i kvs e1
      split at e
      · rename_i k e2
        split at e
        · rename_i hl
          cases e
          obtain ⟨hz, ks, h1, h2⟩ := w.cell n a _ ea e1
          obtain ⟨w', g⟩ := w.write (u := .dK (putK ks k z)) (o := .dct (putV kvs k vz)) ea e1 rfl ⟨Nat.le_trans (putV_length _ _ _) hl, _, upd_same, putV_den dz h2⟩
          exact .inr ⟨a, _, rfl, .inl ⟨ks, k, h1, key_den dy e2, by rw [show ks.length = kvs.length from h2.length]; exact hl, rfl⟩, q _ w' g⟩
        · cases e
      · cases e
    · cases e
  · cases e

/-! ### methods -/
/-- the value is of that built-in type (a dict may be locked) -/
def tyQ (K : PySem.W.Frag) (T : String) (x : V) (H : Hp) : Prop := match x with
  | .str _ => T = "str"
  | .ref p => (T = "list" ∧ ∃ xs, SqL K H p xs) ∨ (T = "dict" ∧ ∃ kvs, Rd H p (.dK kvs))
  | _ => False
theorem tyQ_is {pins : List (Addr × Obj)} {σ : L2.St} {H : Hp} {s : Shared} {T : String} {x : V} {v : Value} (I : Inv X pins σ H s) (r : RelV x v) (ty : tyQ X.K T x H) :
    s.TypeIs v T ∧ ∀ a, v = .ref a → ∃ ob, s.heap.get? a = some ob ∧ ob.dict = none := by
  cases x with
  | str z => exact tyV_is I r (show tyV X.K T (.str z) H from ty)
  | ref p =>
    rcases ty with h | ⟨rfl, kvs, h⟩
    · exact tyV_is I r (show tyV X.K T (.ref p) H from .inl h)
    · cases r
      obtain ⟨t1, t2, _⟩ := isD_at I (.inl ⟨kvs, h⟩)
      exact ⟨t1, t2⟩
  | _ => exact ty.elim
def tBMq (K : PySem.W.Frag) (T : String) (r : V → List V → Hp → VK → Prop) (to : TE) (t : TA) : TE := fun σ H Q => to σ H fun x H1 => tyQ K T x H1 ∧ t σ H1 fun xs H2 => r x xs H2 Q
theorem pe_bmq {o : Expr} {es : List Expr} {to : TE} {t : TA} {name : Str} {apos cpos : Pos} {T id : String} {r : V → List V → Hp → VK → Prop} {e : Expr} (pa : PlainAttrs T) (slot : Slot T name id) (hty : typeOf (.builtin id) = pure (.type "method_descriptor")) (hm : MtR X id r) (ho : PE X o to) (ha : PA X (e :: es) t)
    (hbase : attributeBase o name X.env (eval o X.env) = eval o X.env)
    (hfew : ((backTo cpos (starEach (e :: es) X.env)).all (fun x => !x.1) && (backToKw cpos (keywordEach [] X.env)).all (fun x => x.1.isSome)
      && decide ((e :: es).length + ([] : List Keyword).length + (if ([] : List Keyword).isEmpty then 0 else 1) < 30)) = true)
    (hline : (apos.endLine == cpos.line) = true) (hs : starEach (e :: es) X.env = (false, eval e X.env) :: starEach es X.env) (hplain : (backTo cpos (starEach es X.env)).any (·.1) = false) :
    PE X (.Call (.Attribute o name apos) (e :: es) [] cpos) (tBMq X.K T r to t) := by
  refine ⟨fun pins s σ H Q I h => ?_⟩
  refine wpAny_Call_method_late hbase hfew hline rfl (thn (ho.run pins s σ H _ I h) fun v s1 ⟨x, H1, I1, r1, ty, q1⟩ => ?_)
  obtain ⟨h1, h2⟩ := tyQ_is I1 r1 ty
  refine ⟨T, id, pa, slot, hty, h1, h2, ?_⟩
  have hA := ha.run cpos pins s1 σ H1 _ I1 q1
  rw [hs] at hA ⊢
  refine Calls.callWith_builtin (by show (false || (backTo cpos (starEach es X.env)).any (·.1)) = false; rw [hplain] <;> rfl) (Calls.evalArgs_plain ?_)
  exact thn hA fun us s2 ⟨vs, H2, I2, r2, q2⟩ => hm pins s2 σ H2 x vs v us Q I2 r1 r2 q2
theorem pe_bm0q {o : Expr} {to : TE} {name : Str} {apos cpos : Pos} {T id : String} {r : V → List V → Hp → VK → Prop} (pa : PlainAttrs T) (slot : Slot T name id) (hty : typeOf (.builtin id) = pure (.type "method_descriptor")) (hm : MtR X id r) (ho : PE X o to)
    (hbase : attributeBase o name X.env (eval o X.env) = eval o X.env) (hline : (apos.endLine == cpos.line) = true) : PE X (.Call (.Attribute o name apos) [] [] cpos) (fun σ H Q => to σ H fun x H1 => tyQ X.K T x H1 ∧ r x [] H1 Q) := by
  refine ⟨fun pins s σ H Q I h => ?_⟩
  refine wpAny_Call_method0_late hbase hline (thn (ho.run pins s σ H _ I h) fun v s1 ⟨x, H1, I1, r1, ty, q1⟩ => ?_)
  obtain ⟨h1, h2⟩ := tyQ_is I1 r1 ty
  exact ⟨T, id, pa, slot, hty, h1, h2, Calls.callWith_builtin rfl (PySem.evalArgs_none (hm pins s1 σ H1 x [] v [] Q I1 r1 .nil q1))⟩
end
section
variable (X : Cx)
/-- a method by values: what the receiver must be (ahead of the arguments), what it does; it may write cells, and makes nothing that lasts -/
def MtS (T : String) (id : String) (m : Val → List Val → M Val) : Prop :=
  ∃ r, MtR X id r ∧ ∀ {mh mh' : List Ob} {F : Hp} {ρ : List Addr} {H : Hp} {x : V} {xs : List V} {o v : Val} {vs : List Val} (Q : VK), Wd X.K mh F ρ H → DenV X.K F ρ x o → DenVs X.K F ρ xs vs → m o vs mh = some (v, mh') →
    (∀ F' H' u, Wd X.K mh' F' ρ H' → Gr F ρ H F' ρ H' → DenV X.K F' ρ u v → Q u H') → r x xs H Q
end
/-- the receiver's type, seen ahead of the arguments -/
def rcv (T : String) (o : Val) : List Ob → Bool := fun mh => match o with
  | .d (.str _) => T == "str"
  | .d (.list _) => T == "list"
  | .d (.dict ds) => T == "dict"
  | .ref n => match mh[n]? with
    | some (.lst _) => T == "list"
    | some (.dct _) => T == "dict"
    | _ => false
  | _ => false
section
variable {X : Cx}
theorem rcv_ok {K : PySem.W.Frag} {mh : List Ob} {F : Hp} {ρ : List Addr} {H : Hp} {x : V} {o : Val} {T : String} (w : Wd K mh F ρ H) (d : DenV K F ρ x o) (h : rcv T o mh = true) : tyQ K T x H := by
  unfold rcv at h
  split at h
  · have := den_str d
    subst this
    show T = "str"
    simpa using h
  · cases d with
    | lst q z r => exact .inl ⟨by simpa using h, _, w.rle.sqL q⟩
  · cases d with
    | dct q z r => exact .inr ⟨by simpa using h, _, w.rle _ _ q⟩
  · rename_i n
    obtain ⟨a, e, rfl⟩ := d
    split at h
    · rename_i vs e1
      obtain ⟨_, xs, q, _⟩ := w.cell n a _ e e1
      exact .inl ⟨by simpa using h, xs, SqL.of q⟩
    · rename_i vs e1
      obtain ⟨_, xs, q, _⟩ := w.cell n a _ e e1
      exact .inr ⟨by simpa using h, xs, .inl q⟩
    · cases h
  · cases h
def appVl (o : Val) (as : List Val) : M Val := fun mh => match o, as with
  | .ref n, [v] => match mh[n]? with
    | some (.lst vs) => if vs.length < sizeLine then some (.d .none, mh.set n (.lst (vs ++ [v]))) else none
    | _ => none
  | _, _ => none
theorem mts_append : MtS X "list" "list.append" appVl := by
  refine ⟨_, mt_append, fun Q w dx dv e q => ?_⟩
  rename_i mh mh' F ρ H x xs o v vs
  unfold appVl at e
  split at e
  · rename_i n v0
    obtain ⟨a, ea, rfl⟩ := dx
    cases dv with
    | @cons u _ _ _ d dn =>
      cases dn
      split at e
      · rename_i ws e1
        split at e
        · rename_i hl
          cases e
          obtain ⟨hz, us, h1, h2⟩ := w.cell n a _ ea e1
          obtain ⟨w', g⟩ := w.write (u := .lst (us ++ [u])) (o := .lst (ws ++ [v0])) ea e1 rfl ⟨by rw [List.length_append]; exact hl, _, upd_same, h2.append (.cons d .nil)⟩
          exact ⟨a, us, _, rfl, rfl, h1, by rw [show us.length = ws.length from h2.length]; exact hl, q _ _ _ w' g Den.non⟩
        · cases e
      · cases e
  · cases e
theorem list_extend_tupW (l : Addr) (items : Array Value) (n : Nat) (b : Addr) (items2 : Array Value) (n2 : Nat) (dd2 : Option Addr) (sl2 : Array (Option Value)) (hs0 : ¬(!items.isEmpty && Builtin.List.listTooLong (items.size + items2.size)) = true) (hs1 : items.size ≤ sizeLine) (hs2 : items.size + items2.size ≤ sizeLine + 1) :
    Meets (Builtin.«list.extend» ⟨[.ref l, .ref b], []⟩) (fun _ R s => s.heap.get? l = some { cls := .type "list", dict := none, data := .seq items n, slots := #[] } ∧ s.heap.get? b = some { cls := .type "tuple", dict := dd2, data := .seq items2 n2, slots := sl2 } ∧ R (.ok (.ret Value.none)) { s with heap := s.heap.update l (Obj.mapSeq fun x => x ++ items2), toks := s.toks }) :=
  .of_wp fun prog w A R s h => by
    obtain ⟨hp, g, d, tk, os⟩ := s; obtain ⟨hl, hb, h⟩ := h; have f1 := AutoSeq1.idx_int; have f2 := AutoSeq1.sub_tuple_tuple; have f3 := AutoSeq1.sub_list_list; have f4 := AutoSeq1.sub_tuple_list; have f5 := AutoSeq1.sub_list_tuple;
    have hz' : (items ++ items2).size ≤ sizeLine + 1 := by rw [Array.size_append]; exact hs2
    wp_walk using (PySem.wpAny_updateSeq hl rfl (hz := hs1) (_hz' := hz')), AutoSeq1.wpAny_loadPart' hl, AutoSeq1.wpAny_loadPart' hb; exact ⟨_, rfl, h⟩
theorem list_extend_listW (l : Addr) (items : Array Value) (n : Nat) (b : Addr) (items2 : Array Value) (n2 : Nat) (dd2 : Option Addr) (sl2 : Array (Option Value)) (hs0 : ¬(!items.isEmpty && Builtin.List.listTooLong (items.size + items2.size)) = true) (hs1 : items.size ≤ sizeLine) (hs2 : items.size + items2.size ≤ sizeLine + 1) :
    Meets (Builtin.«list.extend» ⟨[.ref l, .ref b], []⟩) (fun _ R s => s.heap.get? l = some { cls := .type "list", dict := none, data := .seq items n, slots := #[] } ∧ s.heap.get? b = some { cls := .type "list", dict := dd2, data := .seq items2 n2, slots := sl2 } ∧ R (.ok (.ret Value.none)) { s with heap := s.heap.update l (Obj.mapSeq fun x => x ++ items2), toks := s.toks }) :=
  .of_wp fun prog w A R s h => by
    obtain ⟨hp, g, d, tk, os⟩ := s; obtain ⟨hl, hb, h⟩ := h; have f1 := AutoSeq1.idx_int; have f2 := AutoSeq1.sub_tuple_tuple; have f3 := AutoSeq1.sub_list_list; have f4 := AutoSeq1.sub_tuple_list; have f5 := AutoSeq1.sub_list_tuple;
    have hz' : (items ++ items2).size ≤ sizeLine + 1 := by rw [Array.size_append]; exact hs2
    wp_walk using (PySem.wpAny_updateSeq hl rfl (hz := hs1) (_hz' := hz')), AutoSeq1.wpAny_loadPart' hl, AutoSeq1.wpAny_loadPart' hb; exact ⟨_, rfl, h⟩
theorem mt_extA : MtR X "list.extend" (fun x vs H Q => ∃ l b xs zs, x = .ref l ∧ vs = [.ref b] ∧ H l = some (.lst xs) ∧ (SqL X.K H b zs ∨ SqT X.K H b zs) ∧ xs.length + zs.length ≤ sizeLine ∧ Q .non (upd H l (.lst (xs ++ zs)))) := by
  intro pins s σ H x vs v us Q I rx rv h
  obtain ⟨l, b, xs, zs, rfl, rfl, hH, hB, hz, q⟩ := h
  cases rx
  obtain ⟨u, rfl, ru⟩ := rv.one
  cases ru
  obtain ⟨z, its, n, r, hl, e⟩ := I.lstM hH
  have fin : ∀ its2 : List Value, Vals zs its2 → Inv X pins σ (upd H l (.lst (xs ++ zs))) { s with heap := s.heap.update l (Obj.mapSeq fun x => x ++ its2.toArray) } := fun its2 r2 =>
    I.lset (its' := its ++ its2) hH e (by simp) (r.append r2) (by rw [List.length_append]; exact hz)
  have hlong : ∀ its2 : List Value, Vals zs its2 → ¬ (!its.toArray.isEmpty && Builtin.List.listTooLong (its.toArray.size + its2.toArray.size)) = true := fun its2 r2 => by
    rw [notLongL (by rw [List.size_toArray, List.size_toArray, ← r.length, ← r2.length]; exact hz), Bool.and_false]
    exact Bool.false_ne_true
  rcases hB with hB | hB
  · obtain ⟨its2, r2, pl, z2⟩ := I.list hB
    obtain ⟨⟨cls2, dd2, data2, sl2⟩, ho2, hc2, n2, hd2⟩ := pl.isList
    simp only at hc2 hd2
    subst hc2 hd2
    refine call_meets F.slot_list_extend ⟨_, e, rfl⟩ F.entry_list_extend (F.args_list_extend_2 _ _)
      (list_extend_listW l its.toArray n b its2.toArray n2 dd2 sl2 (hlong its2 r2) (by rw [List.size_toArray, ← r.length]; omega) (by rw [List.size_toArray, List.size_toArray, ← r.length, ← r2.length]; omega)) ⟨e, ho2, ?_⟩
    exact ⟨.non, _, fin its2 r2, rfl, q⟩
  · obtain ⟨its2, r2, ⟨⟨cls2, dd2, data2, sl2⟩, ho2, hc2, n2, hd2⟩, z2⟩ := I.tuple hB
    simp only at hc2 hd2
    subst hc2 hd2
    refine call_meets F.slot_list_extend ⟨_, e, rfl⟩ F.entry_list_extend (F.args_list_extend_2 _ _)
      (list_extend_tupW l its.toArray n b its2.toArray n2 dd2 sl2 (hlong its2 r2) (by rw [List.size_toArray, ← r.length]; omega) (by rw [List.size_toArray, List.size_toArray, ← r.length, ← r2.length]; omega)) ⟨e, ho2, ?_⟩
    exact ⟨.non, _, fin its2 r2, rfl, q⟩
def extVl (o : Val) (as : List Val) : M Val := fun mh => match o, as with
  | .ref n, [v] => match mh[n]?, seqA mh v with
    | some (.lst vs), some ws => if vs.length + ws.length ≤ sizeLine then some (.d .none, mh.set n (.lst (vs ++ ws))) else none
    | _, _ => none
  | _, _ => none
theorem mts_extend : MtS X "list" "list.extend" extVl := by
  refine ⟨_, mt_extA, fun Q w dx dv e q => ?_⟩
  rename_i mh mh' F ρ H x xs o v vs
  unfold extVl at e
  split at e
  · rename_i n v0
    obtain ⟨a, ea, rfl⟩ := dx
    cases dv with
    | @cons u _ _ _ d dn =>
      cases dn
      split at e
      · rename_i vs ws e1 e2
        split at e
        · rename_i hl
          cases e
          obtain ⟨hz, us, h1, h2⟩ := w.cell n a _ ea e1
          obtain ⟨b, us2, rfl, h3, h4, h5⟩ := seqA_ok w d e2
          obtain ⟨w', g⟩ := w.write (u := .lst (us ++ us2)) (o := .lst (vs ++ ws)) ea e1 rfl ⟨by rw [List.length_append]; exact hl, _, upd_same, h2.append h4⟩
          exact ⟨a, b, us, us2, rfl, rfl, h1, h3, by rw [show us.length = vs.length from h2.length, show us2.length = ws.length from h4.length]; exact hl, q _ _ _ w' g Den.non⟩
        · cases e
      · cases e
  · cases e
def getVl (o : Val) (as : List Val) : M Val := fun mh => match as with
  | [k] => match dctOf mh o, keyVl k with
    | some kvs, some k => some ((findK kvs k).getD (.d .none), mh)
    | _, _ => none
  | [k, y] => match dctOf mh o, keyVl k with
    | some kvs, some k => some ((findK kvs k).getD y, mh)
    | _, _ => none
  | _ => none
theorem mts_get (hu : X.A.units + 1 < cLine) : MtS X "dict" "dict.get" getVl := by
  refine ⟨fun x vs H Q => (∃ a y o, x = .ref a ∧ vs = [y] ∧ DGet H a y o ∧ Q (o.getD .non) H) ∨ ∃ a y z o, x = .ref a ∧ vs = [y, z] ∧ DGet H a y o ∧ Q (o.getD z) H, ?_, fun Q w dx dv e q => ?_⟩
  · intro pins s σ H x vs v us Q I rx rv h
    rcases h with ⟨a, y, o, rfl, rfl, g, q⟩ | ⟨a, y, z, o, rfl, rfl, g, q⟩
    · cases rx
      obtain ⟨u, rfl, ru⟩ := rv.one
      exact d_get1 hu I g ru fun w' s3 I3 rw' => ⟨_, H, I3, rw', q⟩
    · cases rx
      obtain ⟨u1, u2, rfl, r1, r2⟩ := rv.two
      exact d_get2 hu I g r1 r2 fun w' s3 I3 rw' => ⟨_, H, I3, rw', q⟩
  · rename_i mh mh' F ρ H x xs o v vs
    unfold getVl at e
    split at e
    · rename_i k
      cases dv with
      | @cons u _ _ _ d dn =>
        cases dn
        split at e
        · rename_i kvs k' e1 e2
          cases e
          obtain ⟨a, ks, rfl, h1, h2⟩ := dctOf_ok w dx e1
          refine .inl ⟨a, u, valV ks k', rfl, rfl, .inl ⟨ks, k', h1, key_den d e2, rfl⟩, ?_⟩
          rcases findK_ok (k := k') h2 with ⟨h3, h4⟩ | ⟨u', v', h3, h4, h5⟩
          · rw [h3]; rw [h4] at q; exact q _ _ _ w .refl Den.non
          · rw [h3]; rw [h4] at q; exact q _ _ _ w .refl h5
        · cases e
    · rename_i k y
      cases dv with
      | @cons u _ _ _ d dn =>
        cases dn with
        | @cons u2 _ _ _ d2 dn =>
          cases dn
          split at e
          · rename_i kvs k' e1 e2
            cases e
            obtain ⟨a, ks, rfl, h1, h2⟩ := dctOf_ok w dx e1
            refine .inr ⟨a, u, u2, valV ks k', rfl, rfl, .inl ⟨ks, k', h1, key_den d e2, rfl⟩, ?_⟩
            rcases findK_ok (k := k') h2 with ⟨h3, h4⟩ | ⟨u', v', h3, h4, h5⟩
            · rw [h3]; rw [h4] at q; exact q _ _ _ w .refl d2
            · rw [h3]; rw [h4] at q; exact q _ _ _ w .refl h5
          · cases e
    · cases e
def startsVl (o : Val) (as : List Val) : M Val := fun mh => match o, as with
  | .d (.str a), [.d (.str b)] => some (.d (.bool (Txt.startswith a b)), mh)
  | _, _ => none
theorem mts_starts : MtS X "str" "str.startswith" startsVl := by
  refine ⟨_, mt_startswith, fun Q w dx dv e q => ?_⟩
  unfold startsVl at e
  split at e
  · cases dv with
    | cons d dn =>
      cases dn
      cases e
      have := den_str dx
      subst this
      have := den_str d
      subst this
      exact ⟨_, _, rfl, rfl, q _ _ _ w .refl (Den.bl _)⟩
  · cases e
def insVl (o : Val) (as : List Val) : M Val := fun mh => match o, as with
  | .ref n, [.d (.int i), v] => match mh[n]? with
    | some (.lst vs) => if vs.length < sizeLine ∧ 0 ≤ i ∧ i < 2 ^ 63 then some (.d .none, mh.set n (.lst (vs.take i.toNat ++ [v] ++ vs.drop i.toNat))) else none
    | _ => none
  | _, _ => none
theorem mts_insert : MtS X "list" "list.insert" insVl := by
  refine ⟨_, mt_insert, fun Q w dx dv e q => ?_⟩
  rename_i mh mh' F ρ H x xs o v vs
  unfold insVl at e
  split at e
  · rename_i n i v0
    obtain ⟨a, ea, rfl⟩ := dx
    cases dv with
    | @cons u0 _ _ _ d0 dn =>
      cases dn with
      | @cons u _ _ _ d dn =>
        cases dn
        have := den_int d0
        subst this
        split at e
        · rename_i ws e1
          split at e
          · rename_i hl
            cases e
            obtain ⟨hz, us, h1, h2⟩ := w.cell n a _ ea e1
            have hlen : (ws.take i.toNat ++ [v0] ++ ws.drop i.toNat).length ≤ sizeLine := by
              rw [List.length_append, List.length_append, List.length_take, List.length_drop, List.length_singleton]
              omega
            obtain ⟨w', g⟩ := w.write (u := .lst (us.take i.toNat ++ [u] ++ us.drop i.toNat)) (o := .lst (ws.take i.toNat ++ [v0] ++ ws.drop i.toNat)) ea e1 rfl ⟨hlen, _, upd_same, ((h2.take _).append (.cons d .nil)).append (h2.drop _)⟩
            exact ⟨a, us, i, u, rfl, rfl, h1, by rw [show us.length = ws.length from h2.length]; exact hl.1, hl.2.1, hl.2.2, q _ _ _ w' g Den.non⟩
          · cases e
        · cases e
  · cases e
def popVl (o : Val) (as : List Val) : M Val := fun mh => match o, as with
  | .ref n, [] => match mh[n]? with
    | some (.lst vs) => (vs[vs.length - 1]?).map fun v => (v, mh.set n (.lst vs.dropLast))
    | _ => none
  | _, _ => none
theorem mts_pop : MtS X "list" "list.pop" popVl := by
  refine ⟨_, mt_pop, fun Q w dx dv e q => ?_⟩
  rename_i mh mh' F ρ H x xs o v vs
  unfold popVl at e
  split at e
  · rename_i n
    obtain ⟨a, ea, rfl⟩ := dx
    cases dv
    split at e
    · rename_i ws e1
      cases e2 : ws[ws.length - 1]? with
      | none => rw [e2] at e; cases e
      | some v0 =>
        rw [e2] at e
        cases e
        obtain ⟨hz, us, h1, h2⟩ := w.cell n a _ ea e1
        obtain ⟨u, h3, h4⟩ := h2.get e2
        obtain ⟨w', g⟩ := w.write (u := .lst us.dropLast) (o := .lst ws.dropLast) ea e1 rfl ⟨by rw [List.length_dropLast]; omega, _, upd_same, h2.dropLast⟩
        exact ⟨a, us, u, rfl, rfl, h1, by rw [show us.length = ws.length from h2.length]; exact h3, q _ _ _ w' g h4⟩
    · cases e
  · cases e
end
end Pv

/-! P5: expressions -/
namespace Pv
open PySem PySem.Spec PyProof.Rows L2

/-! ### the state of a body -/
abbrev Sl := List (Option Val)
structure Rl (K : PySem.W.Frag) (env : Sl) (mh : List Ob) (F : Hp) (ρ : List Addr) (σ : L2.St) (H : Hp) : Prop where
  wd : Wd K mh F ρ H
  len : σ.length = env.length
  get : ∀ (i : Nat) (v : Val), env[i]? = some (some v) → ∃ u, σ[i]? = some (some u) ∧ DenV K F ρ u v
section
variable {K : PySem.W.Frag} {env : Sl} {mh mh' : List Ob} {F F' : Hp} {ρ ρ' : List Addr} {σ : L2.St} {H H' : Hp}
theorem Rl.grow (r : Rl K env mh F ρ σ H) (w : Wd K mh' F' ρ' H') (g : Gr F ρ H F' ρ' H') : Rl K env mh' F' ρ' σ H' :=
  ⟨w, r.len, fun i v e => let ⟨u, h1, h2⟩ := r.get i v e; ⟨u, h1, h2.mono g.rd g.pre⟩⟩
theorem DenV.grow {u : V} {v : Val} (d : DenV K F ρ u v) (g : Gr F ρ H F' ρ' H') : DenV K F' ρ' u v := d.mono g.rd g.pre
theorem DenVs.grow {u : List V} {v : List Val} (d : DenVs K F ρ u v) (g : Gr F ρ H F' ρ' H') : DenVs K F' ρ' u v := d.mono g.rd g.pre
theorem Rl.set {u : V} {v : Val} (r : Rl K env mh F ρ σ H) (i : Nat) (d : DenV K F ρ u v) : Rl K (env.set i (some v)) mh F ρ (σ.set i (some u)) H := by
  refine ⟨r.wd, by rw [List.length_set, List.length_set]; exact r.len, fun j w e => ?_⟩
  by_cases h : i = j
  · subst h
    have hi : i < env.length := by
      have := (List.getElem?_eq_some_iff.mp e).1
      rwa [List.length_set] at this
    rw [List.getElem?_set_self hi] at e
    cases e
    exact ⟨u, by rw [List.getElem?_set_self (by rw [r.len]; exact hi)], d⟩
  · rw [List.getElem?_set_ne h] at e ⊢
    exact r.get j w e
theorem Rl.wiped (r : Rl K env mh F ρ σ H) : ∀ vs : List Nat, Rl K (vs.foldr (fun i e => e.set i none) env) mh F ρ (wipe σ vs) H
  | [] => r
  | v :: vs => by
    have ih := Rl.wiped r vs
    refine ⟨r.wd, ?_, fun j w e => ?_⟩
    · show ((wipe σ vs).set v none).length = _
      rw [List.length_set, List.foldr_cons, List.length_set]
      exact ih.len
    · rw [List.foldr_cons] at e
      show ∃ u, ((wipe σ vs).set v none)[j]? = some (some u) ∧ _
      by_cases h : v = j
      · subst h
        by_cases hl : v < (vs.foldr (fun i e => e.set i none) env).length
        · rw [List.getElem?_set_self hl] at e; cases e
        · rw [List.getElem?_eq_none (by rw [List.length_set]; omega)] at e; cases e
      · rw [List.getElem?_set_ne h] at e ⊢
        exact ih.get j w e
end

/-! ### the judgements -/
def tE (K : PySem.W.Frag) (m : Sl → M Val) : TE := fun σ H Q => ∃ env mh F ρ v mh', Rl K env mh F ρ σ H ∧ m env mh = some (v, mh') ∧ ∀ F' ρ' H' u, Wd K mh' F' ρ' H' → Gr F ρ H F' ρ' H' → DenV K F' ρ' u v → Q u H'
def tTs (K : PySem.W.Frag) (m : Sl → M Bool) : TT := fun σ H Q => ∃ env mh F ρ b mh', Rl K env mh F ρ σ H ∧ m env mh = some (b, mh') ∧ ∀ F' ρ' H', Wd K mh' F' ρ' H' → Gr F ρ H F' ρ' H' → Q b H'
def tAs (K : PySem.W.Frag) (m : Sl → M (List Val)) : TA := fun σ H Q => ∃ env mh F ρ vs mh', Rl K env mh F ρ σ H ∧ m env mh = some (vs, mh') ∧ ∀ F' ρ' H' us, Wd K mh' F' ρ' H' → Gr F ρ H F' ρ' H' → DenVs K F' ρ' us vs → Q us H'
def SE (X : Cx) (e : Expr) (m : Sl → M Val) : Prop := PE X e (tE X.K m)
def STs (X : Cx) (e : Expr) (m : Sl → M Bool) : Prop := PT X e (tTs X.K m)
def SA (X : Cx) (es : List Expr) (m : Sl → M (List Val)) : Prop := PA X es (tAs X.K m)

def mSlot (i : Nat) (env : Sl) : M Val := ofO (env.getD i none)
def mArgs : List (Sl → M Val) → Sl → M (List Val)
  | [], _ => pure []
  | m :: ms, env => do
    let v ← m env
    let vs ← mArgs ms env
    pure (v :: vs)
def mBin (f : List Ob → Val → Val → Option Rv) (c : Bool) (a b : Sl → M Val) (env : Sl) : M Val := do
  let x ← a env
  let y ← b env
  let r ← rdM fun mh => f mh x y
  finR c r
def mUn (f : Val → Option Val) (a : Sl → M Val) (env : Sl) : M Val := do
  let x ← a env
  ofO (f x)
section
variable {X : Cx} {a b : Expr} {ma mb : Sl → M Val} {pos : Pos}
theorem SE.mk {e : Expr} {t : TE} {m : Sl → M Val} (h : PE X e t) (k : ∀ {env : Sl} {mh mh' : List Ob} {F : Hp} {ρ : List Addr} {σ : L2.St} {H : Hp} {v : Val} (Q : VK), Rl X.K env mh F ρ σ H → m env mh = some (v, mh') →
    (∀ F' ρ' H' u, Wd X.K mh' F' ρ' H' → Gr F ρ H F' ρ' H' → DenV X.K F' ρ' u v → Q u H') → t σ H Q) : SE X e m := by
  refine ⟨fun pins s σ H Q I h1 => ?_⟩
  obtain ⟨env, mh, F, ρ, v, mh', rl, e1, q⟩ := h1
  exact h.run pins s σ H Q I (k Q rl e1 q)
theorem STs.mk {e : Expr} {t : TT} {m : Sl → M Bool} (h : PT X e t) (k : ∀ {env : Sl} {mh mh' : List Ob} {F : Hp} {ρ : List Addr} {σ : L2.St} {H : Hp} {b : Bool} (Q : Bool → Hp → Prop), Rl X.K env mh F ρ σ H → m env mh = some (b, mh') →
    (∀ F' ρ' H', Wd X.K mh' F' ρ' H' → Gr F ρ H F' ρ' H' → Q b H') → t σ H Q) : STs X e m := by
  refine ⟨fun pins s σ H Q I h1 => ?_⟩
  obtain ⟨env, mh, F, ρ, v, mh', rl, e1, q⟩ := h1
  exact h.run pins s σ H Q I (k Q rl e1 q)
theorem SA.mk {es : List Expr} {t : TA} {m : Sl → M (List Val)} (h : PA X es t) (k : ∀ {env : Sl} {mh mh' : List Ob} {F : Hp} {ρ : List Addr} {σ : L2.St} {H : Hp} {vs : List Val} (Q : List V → Hp → Prop), Rl X.K env mh F ρ σ H → m env mh = some (vs, mh') →
    (∀ F' ρ' H' us, Wd X.K mh' F' ρ' H' → Gr F ρ H F' ρ' H' → DenVs X.K F' ρ' us vs → Q us H') → t σ H Q) : SA X es m := by
  refine ⟨fun pos pins s σ H Q I h1 => ?_⟩
  obtain ⟨env, mh, F, ρ, v, mh', rl, e1, q⟩ := h1
  exact h.run pos pins s σ H Q I (k Q rl e1 q)

/-! ### names, constants -/
theorem se_slot {i : Nat} {x : Str} (hN : X.N[i]? = some x) (hv : Vis X.env.scope x) (hd : (x == ("__debug__" : Str)) = false) (hcd : (x == ("__classdict__" : Str)) = false) : SE X (.Name x pos) (mSlot i) :=
  SE.mk (pe_var hN hv hd hcd) fun Q rl e q => by
    rename_i env mh mh' F ρ σ H v
    obtain ⟨h1, h2⟩ := ofO_some.mp e
    simp only at h1 h2
    subst h2
    have h3 : env[i]? = some (some v) := by
      rw [List.getD_eq_getElem?_getD] at h1
      cases h4 : env[i]? with
      | none => rw [h4] at h1; cases h1
      | some o => rw [h4] at h1; rw [show o = some v from h1]
    obtain ⟨u, h5, h6⟩ := rl.get i v h3
    exact ⟨u, h5, q F ρ H u rl.wd .refl h6⟩
def mC (x : Dt) (_ : Sl) : M Val := pure (.d x)
theorem se_int {i : Int} {j : Nat} : SE X (.Constant (.int i) j pos) (mC (.int i)) := SE.mk pe_int fun Q rl e q => by cases e; exact q _ _ _ _ rl.wd .refl (Den.int i)
theorem se_str {i : Str} {j : Nat} : SE X (.Constant (.str i) j pos) (mC (.str i)) := SE.mk pe_str fun Q rl e q => by cases e; exact q _ _ _ _ rl.wd .refl (Den.str i)
theorem se_bl {i : Bool} {j : Nat} : SE X (.Constant (.bool i) j pos) (mC (.bool i)) := SE.mk pe_bl fun Q rl e q => by cases e; exact q _ _ _ _ rl.wd .refl (Den.bl i)
theorem se_non {j : Nat} : SE X (.Constant .none j pos) (mC .none) := SE.mk pe_non fun Q rl e q => by cases e; exact q _ _ _ _ rl.wd .refl Den.non
/-- a constant of the module: data that stands in the written part -/
theorem se_glob {x : Str} {v : V} {u : Value} {d : Dt} (hg : Gl X x) (hm : X.mg x = some u) (r : RelV v u) (hd : ∀ F, Den X.K F v d) (hdb : (x == ("__debug__" : Str)) = false) : SE X (.Name x pos) (mC d) :=
  SE.mk (pe_glob hg hm r hdb) fun Q rl e q => by cases e; exact q _ _ _ _ rl.wd .refl (hd _)

/-! ### operators -/
theorem se_bin {op : Operator} {f : List Ob → Val → Val → Option Rv} {c : Bool} (o : OpS X (binaryOp op) f) (ha : SE X a ma) (hb : SE X b mb) : SE X (.BinOp a op b pos) (mBin f c ma mb) := by
  obtain ⟨r, o1, o2⟩ := o
  refine SE.mk (pe_op o1 ha hb) fun Q rl e q => ?_
  obtain ⟨x, mh1, e1, e_1⟩ := M.bind_some.mp e
  obtain ⟨y, mh2, e2, e_2⟩ := M.bind_some.mp e_1
  obtain ⟨rv, mh3, e3, e_3⟩ := M.bind_some.mp e_2
  obtain ⟨e3, e4⟩ := rdM_some.mp e3
  simp only at e3 e4
  subst e4
  refine ⟨_, _, _, _, _, _, rl, e1, fun F1 ρ1 H1 u1 w1 g1 d1 => ⟨_, _, _, _, _, _, rl.grow w1 g1, e2, fun F2 ρ2 H2 u2 w2 g2 d2 => ?_⟩⟩
  exact o2 Q w2 (d1.grow g2) d2 e3 (finR_ok e_3 fun F' ρ' H' u w g d => q F' ρ' H' u w ((g1.trans g2).trans g) d)
theorem se_cmp {op : CmpOp} {f : List Ob → Val → Val → Option Rv} (o : OpS X (compareOp op) f) (ha : SE X a ma) (hb : SE X b mb) (hm : behindInMarks op b = false) : SE X (.Compare a [op] [b] pos) (mBin f false ma mb) := by
  obtain ⟨r, o1, o2⟩ := o
  refine SE.mk (pe_cmpR o1 ha hb hm) fun Q rl e q => ?_
  obtain ⟨x, mh1, e1, e_1⟩ := M.bind_some.mp e
  obtain ⟨y, mh2, e2, e_2⟩ := M.bind_some.mp e_1
  obtain ⟨rv, mh3, e3, e_3⟩ := M.bind_some.mp e_2
  obtain ⟨e3, e4⟩ := rdM_some.mp e3
  simp only at e3 e4
  subst e4
  refine ⟨_, _, _, _, _, _, rl, e1, fun F1 ρ1 H1 u1 w1 g1 d1 => ⟨_, _, _, _, _, _, rl.grow w1 g1, e2, fun F2 ρ2 H2 u2 w2 g2 d2 => ?_⟩⟩
  exact o2 Q w2 (d1.grow g2) d2 e3 (finR_ok e_3 fun F' ρ' H' u w g d => q F' ρ' H' u w ((g1.trans g2).trans g) d)
def negVl : Val → Option Val
  | .d (.int i) => some (.d (.int (-i)))
  | _ => none
def notVl : Val → Option Val
  | .d (.bool i) => some (.d (.bool (!i)))
  | _ => none
theorem se_neg (ha : SE X a ma) : SE X (.UnaryOp .USub a pos) (mUn negVl ma) :=
  SE.mk (pe_un un_neg ha) fun Q rl e q => by
    obtain ⟨x, mh1, e1, e_1⟩ := M.bind_some.mp e
    obtain ⟨e2, e3⟩ := ofO_some.mp e_1
    simp only at e2 e3
    subst e3
    refine ⟨_, _, _, _, _, _, rl, e1, fun F1 ρ1 H1 u1 w1 g1 d1 => ?_⟩
    unfold negVl at e2
    split at e2
    · cases e2
      exact ⟨_, den_int d1, q _ _ _ _ w1 g1 (Den.int _)⟩
    · cases e2
theorem se_not (ha : SE X a ma) : SE X (.UnaryOp .Not a pos) (mUn notVl ma) :=
  SE.mk (pe_not ha) fun Q rl e q => by
    obtain ⟨x, mh1, e1, e_1⟩ := M.bind_some.mp e
    obtain ⟨e2, e3⟩ := ofO_some.mp e_1
    simp only at e2 e3
    subst e3
    refine ⟨_, _, _, _, _, _, rl, e1, fun F1 ρ1 H1 u1 w1 g1 d1 => ?_⟩
    unfold notVl at e2
    split at e2
    · cases e2
      exact ⟨_, den_bl d1, q _ _ _ _ w1 g1 (Den.bl _)⟩
    · cases e2
/-- a and b, a or b: the left a bool -/
def mAnd (a b : Sl → M Val) (env : Sl) : M Val := do
  let x ← a env
  match x with
  | .d (.bool true) => b env
  | .d (.bool false) => pure (.d (.bool false))
  | _ => fun _ => none
def mOr (a b : Sl → M Val) (env : Sl) : M Val := do
  let x ← a env
  match x with
  | .d (.bool true) => pure (.d (.bool true))
  | .d (.bool false) => b env
  | _ => fun _ => none
theorem se_one {op : BoolOp} (ha : SE X a ma) : SE X (.BoolOp op [a] pos) ma := pe_one ha
theorem se_and {rest : List Expr} (ha : SE X a ma) (hb : SE X (.BoolOp .And (b :: rest) pos) mb) : SE X (.BoolOp .And (a :: b :: rest) pos) (mAnd ma mb) :=
  SE.mk (pe_and ha hb) fun Q rl e q => by
    obtain ⟨x, mh1, e1, e_1⟩ := M.bind_some.mp e
    refine ⟨_, _, _, _, _, _, rl, e1, fun F1 ρ1 H1 u1 w1 g1 d1 => ?_⟩
    split at e_1
    · exact ⟨true, den_bl d1, _, _, _, _, _, _, rl.grow w1 g1, e_1, fun F' ρ' H' u w g d => q F' ρ' H' u w (g1.trans g) d⟩
    · cases e_1
      exact ⟨false, den_bl d1, q _ _ _ _ w1 g1 (Den.bl _)⟩
    · cases e_1
theorem se_or {rest : List Expr} (ha : SE X a ma) (hb : SE X (.BoolOp .Or (b :: rest) pos) mb) : SE X (.BoolOp .Or (a :: b :: rest) pos) (mOr ma mb) :=
  SE.mk (pe_or ha hb) fun Q rl e q => by
    obtain ⟨x, mh1, e1, e_1⟩ := M.bind_some.mp e
    refine ⟨_, _, _, _, _, _, rl, e1, fun F1 ρ1 H1 u1 w1 g1 d1 => ?_⟩
    split at e_1
    · cases e_1
      exact ⟨true, den_bl d1, q _ _ _ _ w1 g1 (Den.bl _)⟩
    · exact ⟨false, den_bl d1, _, _, _, _, _, _, rl.grow w1 g1, e_1, fun F' ρ' H' u w g d => q F' ρ' H' u w (g1.trans g) d⟩
    · cases e_1

/-! ### tests -/
def truVl (mh : List Ob) : Val → Option Bool
  | .d .none => some false
  | .d (.bool b) => some b
  | .d (.int i) => some (i != 0)
  | .d (.str x) => if x.length ≤ sizeLine then some ((x.length : Int) != 0) else none
  | v => (seqA mh v).map fun vs => !vs.isEmpty
theorem truVl_ok {K : PySem.W.Frag} {mh : List Ob} {F : Hp} {ρ : List Addr} {H : Hp} {u : V} {v : Val} {b : Bool} (w : Wd K mh F ρ H) (d : DenV K F ρ u v) (h : truVl mh v = some b) : TruV K u H b := by
  unfold truVl at h
  split at h
  · cases h; rw [den_non d]; rfl
  · cases h; rw [den_bl d]; rfl
  · cases h; rw [den_int d]; rfl
  · split at h
    · cases h; rw [den_str d]; exact ⟨‹_›, rfl⟩
    · cases h
  · cases e : seqA mh v with
    | none => rw [e] at h; cases h
    | some vs =>
      rw [e] at h
      cases h
      obtain ⟨a, us, rfl, h1, h2, _⟩ := seqA_ok w d e
      have he : (!vs.isEmpty) = !us.isEmpty := by cases h2 <;> rfl
      rcases h1 with h1 | h1
      · exact .inl ⟨us, h1, he⟩
      · exact .inr (.inl ⟨us, h1, he⟩)
def mTru (a : Sl → M Val) (env : Sl) : M Bool := do
  let x ← a env
  rdM fun mh => truVl mh x
theorem st_tru (ha : SE X a ma) (he : ∀ whole, isTrue a X.env whole = (do let v ← whole; standAt a.pos; holding [v] (truthy v))) : STs X a (mTru ma) :=
  STs.mk (pt_truth ha he) fun Q rl e q => by
    obtain ⟨x, mh1, e1, e_1⟩ := M.bind_some.mp e
    obtain ⟨e2, e3⟩ := rdM_some.mp e_1
    simp only at e2 e3
    subst e3
    exact ⟨_, _, _, _, _, _, rl, e1, fun F1 ρ1 H1 u1 w1 g1 d1 => ⟨_, truVl_ok w1 d1 e2, q _ _ _ w1 g1⟩⟩
/-- a comparison as a test -/
def rvB : Rv → Option Bool
  | .v (.d (.bool b)) => some b
  | _ => none
def mCmpT (f : List Ob → Val → Val → Option Rv) (a b : Sl → M Val) (env : Sl) : M Bool := do
  let x ← a env
  let y ← b env
  rdM fun mh => (f mh x y).bind rvB
theorem rvB_some {o : Option Rv} {b : Bool} (h : o.bind rvB = some b) : o = some (.v (.d (.bool b))) := by
  cases o with
  | none => cases h
  | some r =>
    have h : rvB r = some b := h
    unfold rvB at h
    split at h
    · cases h; rfl
    · cases h
theorem st_cmp {op : CmpOp} {f : List Ob → Val → Val → Option Rv} (o : OpS X (compareOp op) f) (ha : SE X a ma) (hb : SE X b mb) (hm : behindInMarks op b = false) : STs X (.Compare a [op] [b] pos) (mCmpT f ma mb) := by
  obtain ⟨r, o1, o2⟩ := o
  refine STs.mk (pt_cmpR o1 ha hb hm) fun Q rl e q => ?_
  obtain ⟨x, mh1, e1, e_1⟩ := M.bind_some.mp e
  obtain ⟨y, mh2, e2, e_2⟩ := M.bind_some.mp e_1
  obtain ⟨e3, e4⟩ := rdM_some.mp e_2
  simp only at e3 e4
  subst e4
  refine ⟨_, _, _, _, _, _, rl, e1, fun F1 ρ1 H1 u1 w1 g1 d1 => ⟨_, _, _, _, _, _, rl.grow w1 g1, e2, fun F2 ρ2 H2 u2 w2 g2 d2 => ?_⟩⟩
  refine o2 _ w2 (d1.grow g2) d2 (rvB_some e3) fun F' H' u w g d => ?_
  exact ⟨_, den_bl d, q _ _ _ w ((g1.trans g2).trans g)⟩
def mNotT (a : Sl → M Bool) (env : Sl) : M Bool := do
  let x ← a env
  pure (!x)
theorem st_not {ta : Sl → M Bool} (ha : STs X a ta) : STs X (.UnaryOp .Not a pos) (mNotT ta) :=
  STs.mk (pt_not ha) fun Q rl e q => by
    obtain ⟨x, mh1, e1, e_1⟩ := M.bind_some.mp e
    cases e_1
    exact ⟨_, _, _, _, _, _, rl, e1, fun F1 ρ1 H1 w1 g1 => q _ _ _ w1 g1⟩
/-- and, or as tests -/
def SW (X : Cx) (e : Expr) (m : Sl → M Bool) : Prop := PW X e (tTs X.K m)
def mAndT (a b : Sl → M Bool) (env : Sl) : M Bool := do
  let x ← a env
  if x then b env else pure false
def mOrT (a b : Sl → M Bool) (env : Sl) : M Bool := do
  let x ← a env
  if x then pure true else b env
theorem SW.mk {e : Expr} {t : TT} {m : Sl → M Bool} (h : PW X e t) (k : ∀ {env : Sl} {mh mh' : List Ob} {F : Hp} {ρ : List Addr} {σ : L2.St} {H : Hp} {b : Bool} (Q : Bool → Hp → Prop), Rl X.K env mh F ρ σ H → m env mh = some (b, mh') →
    (∀ F' ρ' H', Wd X.K mh' F' ρ' H' → Gr F ρ H F' ρ' H' → Q b H') → t σ H Q) : SW X e m := by
  refine ⟨fun wh pins s σ H Q I h1 => ?_⟩
  obtain ⟨env, mh, F, ρ, v, mh', rl, e1, q⟩ := h1
  exact h.run wh pins s σ H Q I (k Q rl e1 q)
theorem SW.st {e : Expr} {m : Sl → M Bool} (h : SW X e m) : STs X e m := PW.pt h
theorem sw_and1 {ta : Sl → M Bool} (ha : STs X a ta) : SW X (.BoolOp .And [a] pos) ta := pw_and1 ha
theorem sw_or1 {ta : Sl → M Bool} (ha : STs X a ta) : SW X (.BoolOp .Or [a] pos) ta := pw_or1 ha
theorem sw_and {rest : List Expr} {ta tb : Sl → M Bool} (ha : STs X a ta) (hb : SW X (.BoolOp .And (b :: rest) pos) tb) : SW X (.BoolOp .And (a :: b :: rest) pos) (mAndT ta tb) :=
  SW.mk (pw_and ha hb) fun Q rl e q => by
    obtain ⟨x, mh1, e1, e_1⟩ := M.bind_some.mp e
    refine ⟨_, _, _, _, _, _, rl, e1, fun F1 ρ1 H1 w1 g1 => ?_⟩
    cases x with
    | true => exact ⟨_, _, _, _, _, _, rl.grow w1 g1, e_1, fun F' ρ' H' w g => q F' ρ' H' w (g1.trans g)⟩
    | false => cases e_1; exact q _ _ _ w1 g1
theorem sw_or {rest : List Expr} {ta tb : Sl → M Bool} (ha : STs X a ta) (hb : SW X (.BoolOp .Or (b :: rest) pos) tb) : SW X (.BoolOp .Or (a :: b :: rest) pos) (mOrT ta tb) :=
  SW.mk (pw_or ha hb) fun Q rl e q => by
    obtain ⟨x, mh1, e1, e_1⟩ := M.bind_some.mp e
    refine ⟨_, _, _, _, _, _, rl, e1, fun F1 ρ1 H1 w1 g1 => ?_⟩
    cases x with
    | false => exact ⟨_, _, _, _, _, _, rl.grow w1 g1, e_1, fun F' ρ' H' w g => q F' ρ' H' w (g1.trans g)⟩
    | true => cases e_1; exact q _ _ _ w1 g1
/-- x if t else y -/
def mIte {α : Type} (t : Sl → M Bool) (a b : Sl → M α) (env : Sl) : M α := do
  let x ← t env
  if x then a env else b env
theorem se_ife {c : Expr} {tc : Sl → M Bool} (hc : STs X c tc) (ha : SE X a ma) (hb : SE X b mb) : SE X (.IfExp c a b pos) (mIte tc ma mb) :=
  SE.mk (pe_ifExp hc ha hb) fun Q rl e q => by
    obtain ⟨x, mh1, e1, e_1⟩ := M.bind_some.mp e
    refine ⟨_, _, _, _, _, _, rl, e1, fun F1 ρ1 H1 w1 g1 => ?_⟩
    cases x with
    | true => exact ⟨_, _, _, _, _, _, rl.grow w1 g1, e_1, fun F' ρ' H' u w g d => q F' ρ' H' u w (g1.trans g) d⟩
    | false => exact ⟨_, _, _, _, _, _, rl.grow w1 g1, e_1, fun F' ρ' H' u w g d => q F' ρ' H' u w (g1.trans g) d⟩

/-! ### argument lists, displays -/
theorem sa_nil : SA X [] (mArgs []) := SA.mk pa_nil fun Q rl e q => by cases e; exact q _ _ _ _ rl.wd .refl .nil
theorem sa_cons {es : List Expr} {ms : List (Sl → M Val)} (ha : SE X a ma) (hr : SA X es (mArgs ms)) (hs : starEach (a :: es) X.env = (false, eval a X.env) :: starEach es X.env) : SA X (a :: es) (mArgs (ma :: ms)) :=
  SA.mk (pa_cons ha hr hs) fun Q rl e q => by
    obtain ⟨x, mh1, e1, e_1⟩ := M.bind_some.mp e
    obtain ⟨xs, mh2, e2, e_2⟩ := M.bind_some.mp e_1
    cases e_2
    exact ⟨_, _, _, _, _, _, rl, e1, fun F1 ρ1 H1 u1 w1 g1 d1 => ⟨_, _, _, _, _, _, rl.grow w1 g1, e2, fun F2 ρ2 H2 us w2 g2 d2 => q _ _ _ _ w2 (g1.trans g2) (.cons (d1.grow g2) d2)⟩⟩
def mTup (as : Sl → M (List Val)) (env : Sl) : M Val := do
  let vs ← as env
  ofO ((asDs vs).bind fun ds => if ds.length ≤ sizeLine then some (.d (.tuple ds)) else none)
def mLst (c : Bool) (as : Sl → M (List Val)) (env : Sl) : M Val := do
  let vs ← as env
  if vs.length ≤ sizeLine then finR c (.nl vs) else fun _ => none
theorem se_tup {es : List Expr} {as : Sl → M (List Val)} {j : Nat} (h : SA X es as) : SE X (.Tuple es j pos) (mTup as) :=
  SE.mk (pe_tup h) fun Q rl e q => by
    obtain ⟨vs, mh1, e1, e_1⟩ := M.bind_some.mp e
    obtain ⟨e2, e3⟩ := ofO_some.mp e_1
    simp only at e2 e3
    subst e3
    refine ⟨_, _, _, _, _, _, rl, e1, fun F1 ρ1 H1 us w1 g1 d1 => ?_⟩
    cases e4 : asDs vs with
    | none => rw [e4] at e2; cases e2
    | some ds =>
      rw [e4] at e2
      simp only [Option.bind_some] at e2
      split at e2
      · rename_i hz
        cases e2
        have e5 := asDs_eq e4
        subst e5
        refine ⟨by rw [d1.length, List.length_map]; exact hz, fun p hp => ?_⟩
        obtain ⟨w', g'⟩ := w1.newF (o := .tup us) hp
        exact q _ _ _ _ w' (g1.trans g') (Den.tup (.inl (.inl upd_same)) hz (d1.all.mono (Rle.upd (w1.freshF hp))))
      · cases e2
theorem se_lst {es : List Expr} {as : Sl → M (List Val)} {c : Bool} (h : SA X es as) : SE X (.List es pos) (mLst c as) :=
  SE.mk (pe_lst h) fun Q rl e q => by
    obtain ⟨vs, mh1, e1, e_1⟩ := M.bind_some.mp e
    split at e_1
    · rename_i hz
      refine ⟨_, _, _, _, _, _, rl, e1, fun F1 ρ1 H1 us w1 g1 d1 => ⟨by rw [d1.length]; exact hz, fun p hp => ?_⟩⟩
      exact PostR.list (finR_ok e_1 fun F' ρ' H' u w g d => q F' ρ' H' u w (g1.trans g) d) w1 hp d1 hz
    · cases e_1
def mDict0 (c : Bool) (_ : Sl) : M Val := finR c (.nd [])
theorem se_dict0 {c : Bool} : SE X (.Dict [] [] pos) (mDict0 c) :=
  SE.mk pe_dnewK fun Q rl e q => by
    intro p hp
    exact (finR_ok (K := X.K) e q : PostR _ _ _ _ _ Q (.nd [])) _ _ [] p rl.wd .refl (Nat.zero_le _) .nil hp

/-! ### subscripts, slices -/
def mIx (a b : Sl → M Val) (env : Sl) : M Val := do
  let x ← a env
  let y ← b env
  rdM fun mh => ixVl mh x y
theorem se_ix (hu : X.A.units + 1 < cLine) (ha : SE X a ma) (hb : SE X b mb) (hs : PlainIx b) : SE X (.Subscript a b pos) (mIx ma mb) := by
  obtain ⟨r, o1, o2⟩ := ixs_all hu
  refine SE.mk (pe_ix o1 ha hb hs) fun Q rl e q => ?_
  obtain ⟨x, mh1, e1, e_1⟩ := M.bind_some.mp e
  obtain ⟨y, mh2, e2, e_2⟩ := M.bind_some.mp e_1
  obtain ⟨e3, e4⟩ := rdM_some.mp e_2
  simp only at e3 e4
  subst e4
  refine ⟨_, _, _, _, _, _, rl, e1, fun F1 ρ1 H1 u1 w1 g1 d1 => ⟨_, _, _, _, _, _, rl.grow w1 g1, e2, fun F2 ρ2 H2 u2 w2 g2 d2 => ?_⟩⟩
  exact o2 Q w2 (d1.grow g2) d2 e3 fun u d => q _ _ _ _ w2 (g1.trans g2) d
/-- a slice's part -/
def SO (X : Cx) (e : Option Expr) (m : Sl → M (Option Int)) : Prop := PO X e (fun σ H Q => ∃ env mh F ρ v mh', Rl X.K env mh F ρ σ H ∧ m env mh = some (v, mh') ∧ ∀ F' ρ' H', Wd X.K mh' F' ρ' H' → Gr F ρ H F' ρ' H' → Q v H')
def mPart (a : Sl → M Val) (env : Sl) : M (Option Int) := do
  let x ← a env
  ofO ((asInt x).map some)
def mNoPart (_ : Sl) : M (Option Int) := pure none
theorem so_none : SO X none mNoPart := ⟨fun pins s σ H Q I h => by
  obtain ⟨env, mh, F, ρ, v, mh', rl, e, q⟩ := h
  cases e
  exact po_none.run pins s σ H Q I (q _ _ _ rl.wd .refl)⟩
theorem so_some (ha : SE X a ma) : SO X (some a) (mPart ma) := ⟨fun pins s σ H Q I h => by
  obtain ⟨env, mh, F, ρ, v, mh', rl, e, q⟩ := h
  obtain ⟨x, mh1, e1, e_1⟩ := M.bind_some.mp e
  obtain ⟨e2, e3⟩ := ofO_some.mp e_1
  simp only at e2 e3
  subst e3
  refine (po_some ha).run pins s σ H Q I ⟨_, _, _, _, _, _, rl, e1, fun F1 ρ1 H1 u1 w1 g1 d1 => ?_⟩
  cases e4 : asInt x with
  | none => rw [e4] at e2; cases e2
  | some i =>
    rw [e4] at e2
    cases e2
    exact ⟨i, asInt_ok d1 e4, q _ _ _ w1 g1⟩⟩
def mSl (c : Bool) (a : Sl → M Val) (lo hi : Sl → M (Option Int)) (env : Sl) : M Val := do
  let x ← a env
  let l ← lo env
  let h ← hi env
  let r ← rdM fun mh => slVl mh x l h
  finR c r
theorem se_sl {lo hi : Option Expr} {ml mhi : Sl → M (Option Int)} {c : Bool} {p2 : Pos} (ha : SE X a ma) (hl : SO X lo ml) (hh : SO X hi mhi) : SE X (.Subscript a (.Slice lo hi none p2) pos) (mSl c ma ml mhi) := by
  obtain ⟨r, o1, o2⟩ := sls_all (X := X)
  refine SE.mk (pe_slice o1 ha hl hh) fun Q rl e q => ?_
  obtain ⟨x, mh1, e1, e_1⟩ := M.bind_some.mp e
  obtain ⟨l, mh2, e2, e_2⟩ := M.bind_some.mp e_1
  obtain ⟨h, mh3, e3, e_3⟩ := M.bind_some.mp e_2
  obtain ⟨rv, mh4, e4, e_4⟩ := M.bind_some.mp e_3
  obtain ⟨e4, e5⟩ := rdM_some.mp e4
  simp only at e4 e5
  subst e5
  refine ⟨_, _, _, _, _, _, rl, e1, fun F1 ρ1 H1 u1 w1 g1 d1 => ⟨_, _, _, _, _, _, rl.grow w1 g1, e2, fun F2 ρ2 H2 w2 g2 => ⟨_, _, _, _, _, _, rl.grow w2 (g1.trans g2), e3, fun F3 ρ3 H3 w3 g3 => ?_⟩⟩⟩
  exact o2 Q w3 (d1.grow (g2.trans g3)) e4 (finR_ok e_4 fun F' ρ' H' u w g d => q F' ρ' H' u w ((g1.trans (g2.trans g3)).trans g) d)

/-! ### calls of built-ins -/
def mBi (f : List Ob → List Val → Option Rv) (c : Bool) (as : Sl → M (List Val)) (env : Sl) : M Val := do
  let vs ← as env
  let r ← rdM fun mh => f mh vs
  finR c r
theorem se_biB {x : Str} {id : String} {f : List Ob → List Val → Option Rv} {c : Bool} {e0 : Expr} {es : List Expr} {as : Sl → M (List Val)} {p : Pos} (o : CallS X (.builtin id) f) (hg : Gl X x) (hm : X.mg x = none) (hv : bootBuiltins x = some (.builtin id)) (h : SA X (e0 :: es) as)
    (hn : x ≠ "__name__") (hdb : (x == ("__debug__" : Str)) = false) (he : starEach (e0 :: es) X.env = (false, eval e0 X.env) :: starEach es X.env) (hpl : (backTo pos (starEach es X.env)).any (·.1) = false) : SE X (.Call (.Name x p) (e0 :: es) [] pos) (mBi f c as) := by
  obtain ⟨r, o1, o2⟩ := o
  refine SE.mk (pe_callB o1 hg hm hv h hn hdb he hpl) fun Q rl e q => ?_
  obtain ⟨vs, mh1, e1, e_1⟩ := M.bind_some.mp e
  obtain ⟨rv, mh2, e2, e_2⟩ := M.bind_some.mp e_1
  obtain ⟨e2, e3⟩ := rdM_some.mp e2
  simp only at e2 e3
  subst e3
  exact ⟨_, _, _, _, _, _, rl, e1, fun F1 ρ1 H1 us w1 g1 d1 => o2 Q w1 d1 e2 (finR_ok e_2 fun F' ρ' H' u w g d => q F' ρ' H' u w (g1.trans g) d)⟩
theorem se_biT {x : Str} {T : String} {f : List Ob → List Val → Option Rv} {c : Bool} {e0 : Expr} {es : List Expr} {as : Sl → M (List Val)} {p : Pos} (o : CallS X (.type T) f) (hg : Gl X x) (hm : X.mg x = none) (hv : bootBuiltins x = some (.type T)) (h : SA X (e0 :: es) as)
    (hn : x ≠ "__name__") (hdb : (x == ("__debug__" : Str)) = false) (he : starEach (e0 :: es) X.env = (false, eval e0 X.env) :: starEach es X.env) (hpl : (backTo pos (starEach es X.env)).any (·.1) = false) : SE X (.Call (.Name x p) (e0 :: es) [] pos) (mBi f c as) := by
  obtain ⟨r, o1, o2⟩ := o
  refine SE.mk (pe_callTy o1 hg hm hv h hn hdb he hpl) fun Q rl e q => ?_
  obtain ⟨vs, mh1, e1, e_1⟩ := M.bind_some.mp e
  obtain ⟨rv, mh2, e2, e_2⟩ := M.bind_some.mp e_1
  obtain ⟨e2, e3⟩ := rdM_some.mp e2
  simp only at e2 e3
  subst e3
  exact ⟨_, _, _, _, _, _, rl, e1, fun F1 ρ1 H1 us w1 g1 d1 => o2 Q w1 d1 e2 (finR_ok e_2 fun F' ρ' H' u w g d => q F' ρ' H' u w (g1.trans g) d)⟩
/-- isinstance(a, T) -/
def mIsin (T : String) (a : Sl → M Val) (env : Sl) : M Val := do
  let x ← a env
  rdM fun mh => (tyVal mh x).map fun t => .d (.bool (isIn t T))
theorem se_isin {x y : Str} {T : String} {p p2 : Pos} (ha : SE X a ma) (hT : T ∈ isTys) (hx : x = "isinstance") (hg : Gl X x) (hm : X.mg x = none) (hg2 : Gl X y) (hm2 : X.mg y = none) (hv2 : bootBuiltins y = some (.type T)) (hn2 : y ≠ "__name__") (hdb2 : (y == ("__debug__" : Str)) = false)
    (he : starEach [a, .Name y p2] X.env = (false, eval a X.env) :: starEach [.Name y p2] X.env) : SE X (.Call (.Name x p) [a, .Name y p2] [] pos) (mIsin T ma) := by
  subst hx
  refine SE.mk (pe_callB call_isi hg hm (by decide +kernel) (pa_cons ha (pa_cons (pe_bltn (v := .ty T) hg2 hm2 hv2 (show L2.RelV (.ty T) (Value.type T) from rfl) hn2 hdb2) pa_nil) he) (by decide) (by decide) he rfl) fun Q rl e q => ?_
  obtain ⟨v, mh1, e1, e_1⟩ := M.bind_some.mp e
  obtain ⟨e2, e3⟩ := rdM_some.mp e_1
  simp only at e2 e3
  subst e3
  refine ⟨_, _, _, _, _, _, rl, e1, fun F1 ρ1 H1 u w1 g1 d1 => ?_⟩
  obtain ⟨t, e4, e5⟩ := Option.map_eq_some_iff.mp e2
  cases e5
  exact isin_ok Q w1 d1 e4 hT (q _ _ _ _ w1 g1 (Den.bl _))

/-! ### methods of built-ins -/
def mMeth (T : String) (m : Val → List Val → M Val) (o : Sl → M Val) (as : Sl → M (List Val)) (env : Sl) : M Val := do
  let x ← o env
  let ok ← rdM fun mh => some (rcv T x mh)
  if ok then do
    let vs ← as env
    m x vs
  else fun _ => none
theorem se_meth {o : Expr} {es : List Expr} {mo : Sl → M Val} {as : Sl → M (List Val)} {name : Str} {apos cpos : Pos} {T id : String} {m : Val → List Val → M Val} {e0 : Expr} (pa : PlainAttrs T) (slot : Slot T name id) (hty : typeOf (.builtin id) = pure (.type "method_descriptor")) (hm : MtS X T id m) (ho : SE X o mo) (ha : SA X (e0 :: es) as)
    (hbase : attributeBase o name X.env (eval o X.env) = eval o X.env)
    (hfew : ((backTo cpos (starEach (e0 :: es) X.env)).all (fun x => !x.1) && (backToKw cpos (keywordEach [] X.env)).all (fun x => x.1.isSome)
      && decide ((e0 :: es).length + ([] : List Keyword).length + (if ([] : List Keyword).isEmpty then 0 else 1) < 30)) = true)
    (hline : (apos.endLine == cpos.line) = true) (hs : starEach (e0 :: es) X.env = (false, eval e0 X.env) :: starEach es X.env) (hplain : (backTo cpos (starEach es X.env)).any (·.1) = false) :
    SE X (.Call (.Attribute o name apos) (e0 :: es) [] cpos) (mMeth T m mo as) := by
  obtain ⟨r, o1, o2⟩ := hm
  refine SE.mk (pe_bmq pa slot hty o1 ho ha hbase hfew hline hs hplain) fun Q rl e q => ?_
  obtain ⟨x, mh1, e1, e_1⟩ := M.bind_some.mp e
  obtain ⟨ok, mh2, e2, e_2⟩ := M.bind_some.mp e_1
  obtain ⟨e2, e3⟩ := rdM_some.mp e2
  simp only at e2 e3
  subst e3
  refine ⟨_, _, _, _, _, _, rl, e1, fun F1 ρ1 H1 u w1 g1 d1 => ?_⟩
  cases ok with
  | false => cases e_2
  | true =>
    obtain ⟨vs, mh3, e3, e_3⟩ := M.bind_some.mp e_2
    refine ⟨rcv_ok w1 d1 (Option.some.inj e2), _, _, _, _, _, _, rl.grow w1 g1, e3, fun F2 ρ2 H2 us w2 g2 d2 => ?_⟩
    exact o2 Q w2 (d1.grow g2) d2 e_3 fun F' H' u' w g d => q F' ρ2 H' u' w ((g1.trans g2).trans g) d
theorem se_meth0 {o : Expr} {mo : Sl → M Val} {name : Str} {apos cpos : Pos} {T id : String} {m : Val → List Val → M Val} (pa : PlainAttrs T) (slot : Slot T name id) (hty : typeOf (.builtin id) = pure (.type "method_descriptor")) (hm : MtS X T id m) (ho : SE X o mo)
    (hbase : attributeBase o name X.env (eval o X.env) = eval o X.env) (hline : (apos.endLine == cpos.line) = true) : SE X (.Call (.Attribute o name apos) [] [] cpos) (mMeth T m mo (mArgs [])) := by
  obtain ⟨r, o1, o2⟩ := hm
  refine SE.mk (pe_bm0q pa slot hty o1 ho hbase hline) fun Q rl e q => ?_
  obtain ⟨x, mh1, e1, e_1⟩ := M.bind_some.mp e
  obtain ⟨ok, mh2, e2, e_2⟩ := M.bind_some.mp e_1
  obtain ⟨e2, e3⟩ := rdM_some.mp e2
  simp only at e2 e3
  subst e3
  refine ⟨_, _, _, _, _, _, rl, e1, fun F1 ρ1 H1 u w1 g1 d1 => ?_⟩
  cases ok with
  | false => cases e_2
  | true =>
    obtain ⟨vs, mh3, e3, e_3⟩ := M.bind_some.mp e_2
    cases e3
    exact ⟨rcv_ok w1 d1 (Option.some.inj e2), o2 Q w1 d1 .nil e_3 fun F' H' u' w g d => q F' ρ1 H' u' w (g1.trans g) d⟩
end
end Pv

/-! PR: list(reversed(x)), x a list -/
namespace Pv
open PySem PySem.Spec PyProof.Rows L2 RZ
section
variable {prog : Program} {w : World} {A : Around} {E : Value → Shared → Prop} {s : Shared}
theorem list_of_rev {it l : Addr} {items : Array Value} {Q : Value → Shared → Prop} (hh : A.handled = none) (hit : s.heap.IsRevIter it l ((items.size : Int) - 1)) (hl : s.heap.IsList l items) (hne : l ≠ it) (hn : items.size ≤ sizeLine)
    (hQ : ∀ (h' : Heap) (tk : Nat) (acc : Array Value) (c' : Nat), (∀ b o, b ≠ it → s.heap.get? b = some o → h'.get? b = some o) → ItemsOf (fun i v => items[items.size - 1 - i]? = some v) acc items.size →
      h'.get? s.heap.objs.size = some { cls := .type "list", dict := none, data := .seq acc c', slots := #[] } → Q (.ref s.heap.objs.size) { s with heap := h', toks := tk }) :
    wpAny (model prog w) A (call (.type "list") [.ref it]) Q E s := by
  obtain ⟨oi, hoi, _⟩ := id hit
  obtain ⟨ol, hol, _⟩ := id hl
  have hSi : s.heap.objs.size ≠ it := Nat.ne_of_gt (Heap.lt_size hoi)
  have hSl : s.heap.objs.size ≠ l := Nat.ne_of_gt (Heap.lt_size hol)
  have hSf : s.heap.objs.size ∉ [it, l] := by simp only [List.mem_cons, List.not_mem_nil, or_false, not_or]; exact ⟨hSi, hSl⟩
  refine callType_codes (Q₁ := fun obj s₁ => obj = .ref s.heap.objs.size ∧ s₁ = { s with heap := s.heap.push { cls := .type "list", data := .seq #[] } }) F.called_list (F.typeCall_list_1 _) F.entry_list_init
    (code_list_new _ ⟨rfl, rfl⟩) fun obj s₁ h₁ => ?_
  obtain ⟨rfl, rfl⟩ := h₁
  have hS : (s.heap.push { cls := .type "list", data := .seq #[] }).get? s.heap.objs.size = some { cls := .type "list", data := .seq #[] } := Heap.get?_push_size _ rfl
  refine ⟨⟨_, hS, rfl⟩, F.args_list_init_2 _ _, ?_⟩
  have W := (Walks.listRev (prog := prog) (w := w) (A := A.in1.in1) hh it l hne items).toS
  show wpAny _ A.in1.in1 (do let old ← Builtin.List.listItems (.ref s.heap.objs.size); Builtin.List.listUpdate (.ref s.heap.objs.size) (fun _ => #[]); letGo old.toList.reverse; Builtin.List.listExtendWith (.ref s.heap.objs.size) (.ref it) .none) _ _ _
  refine wpAny_bind ?_
  unfold Builtin.List.listItems
  refine wpAny_bind (wpAny_seqItems hS rfl (wpAny_pure ?_))
  show wpAny _ A.in1.in1 (updateSeq s.heap.objs.size (fun _ => #[]) >>= fun _ => letGo (#[] : Array Value).toList.reverse >>= fun _ => Builtin.List.listExtendWith (.ref s.heap.objs.size) (.ref it) .none) _ _ _
  refine wpAny_bind (wpAny_updateSeq hS rfl ?_)
  have hS₂ := Heap.get?_update_self (Obj.mapSeq (fun _ => (#[] : Array Value))) hS rfl
  refine wpAny_bind (wpAny_letGo ?_)
  have far : ∀ b o, s.heap.get? b = some o → ((s.heap.push { cls := .type "list", data := .seq #[] }).update s.heap.objs.size (Obj.mapSeq fun _ => (#[] : Array Value))).get? b = some o := fun b o e =>
    (Heap.get?_update_other _ _ (Ne.symm (Nat.ne_of_lt (Heap.lt_size e)))).trans (Heap.get?_push_of_some _ e)
  show wpAny _ A.in1.in1 _ _ _ { s with heap := (s.heap.push { cls := .type "list", data := .seq #[] }).update s.heap.objs.size (Obj.mapSeq fun _ => (#[] : Array Value)) }
  generalize hh2 : (s.heap.push { cls := .type "list", data := .seq #[] }).update s.heap.objs.size (Obj.mapSeq fun _ => (#[] : Array Value)) = h2 at far hS₂
  have hit1 : h2.IsRevIter it l ((items.size : Int) - 1) := hit.at fun o e => far _ o e
  have hl1 : h2.IsList l items := hl.at fun o e => far _ o e
  have hT : ({ s with heap := h2 } : Shared).TypeIs (.ref it) "list_reverseiterator" := Heap.IsRevIter.typeIs (s := { s with heap := h2 }) hit1
  have h1 : Builtin.List.listSameRef (.ref s.heap.objs.size) (.ref it) = false := by simp [Builtin.List.listSameRef, hSi]
  unfold Builtin.List.listExtendWith
  refine wpAny_bind (wpAny_typeOf hT ?_)
  rw [if_neg (by rw [h1]; decide)]
  refine wpAny_bind (wpAny_pyIter_revIter (s := { s with heap := h2 }) hit1 ?_)
  refine wpAny_bind (wpAny_holding ?_)
  unfold Builtin.List.listLengthHint
  refine wpAny_bind (wpAny_specialOf hT RT.nolen_lri ?_)
  show wpAny _ A.in1.in1 (specialOf (Value.ref it) (Str.ofString "__length_hint__") >>= _) _ _ _
  refine wpAny_bind (wpAny_specialOf hT RT.hint_lri ?_)
  generalize hid : ("list_reverseiterator.__length_hint__" : String) = id0
  wp_delta
  rw [show splitId id0 = some ("list_reverseiterator", "__length_hint__") from by subst hid; decide +kernel]
  subst hid
  refine wpAny_bind (wpAny_isInstance (b := true) hT (by rw [isSubtype_type]; kernel_rfl) ?_)
  refine wpAny_pure ?_
  rw [if_neg (by decide)]
  have e0 : ((items.size : Nat) : Int) - 1 - ((0 : Nat) : Int) = (items.size : Int) - 1 := by omega
  refine wpAny_pure ⟨plainId_quiet F.plain_extend_loop _, codeAny_extend_loopS W hn _ hSf _ items.size 0 _ _ _ rfl (Nat.zero_le _) ⟨Nat.zero_le _, by rw [e0]; exact hit1, hl1⟩ hS₂ (ItemsOf.nil _) fun s' acc' c' hm hS' hacc => ?_⟩
  have he := Moved.eq_with hm
  rw [he] at hS' ⊢
  refine ⟨rfl, hQ s'.heap s'.toks acc' c' (fun b o hb e => hm.heap b o (fun hmem => ?_) (far b o e)) hacc hS'⟩
  rcases List.mem_cons.mp hmem with e' | hmem
  · exact absurd (Heap.lt_size e) (by rw [e']; exact Nat.lt_irrefl _)
  · exact hb (List.mem_singleton.mp hmem)
end
def tListRev (K : PySem.W.Frag) (te : TE) : TE := fun σ H Q => te σ H fun v H1 => ∃ (a : Addr) (xs : List V), v = .ref a ∧ SqL K H1 a xs ∧ ∀ q, H1 q = none → Q (.ref q) (upd H1 q (.lst xs.reverse))
section
variable {X : Cx}
theorem pe_listRev {e : Expr} {te : TE} {p p2 pos pos2 : Pos} (hc : X.calm = true) (hg : Gl X "list") (hm : X.mg "list" = none) (hg2 : Gl X "reversed") (hm2 : X.mg "reversed" = none) (he : PE X e te)
    (hs : starEach [e] X.env = (false, eval e X.env) :: starEach [] X.env)
    (hs2 : starEach [.Call (.Name "reversed" p2) [e] [] pos2] X.env = (false, eval (.Call (.Name "reversed" p2) [e] [] pos2) X.env) :: starEach [] X.env) :
    PE X (.Call (.Name "list" p) [.Call (.Name "reversed" p2) [e] [] pos2] [] pos) (tListRev X.K te) := by
  refine ⟨fun pins s σ H Q I h => ?_⟩
  refine Call_ (ld_blt I hg hm (show bootBuiltins (Str.ofString "list") = some (.type "list") by decide +kernel) (PyProof.Rows.callWith_type1 (args_cons (Call_ (ld_blt I hg2 hm2 PyProof.Rows.boot_reversed (PyProof.Rows.callWith_type1 (args_cons (thn (he.run pins s σ H _ I h) fun u s1 ⟨v, H1, I1, r1, q1⟩ => args_nil ?_) hs) hs rfl))) hs2) hs2 rfl))
  obtain ⟨a, xs, ev, hq, q⟩ := q1
  subst ev
  obtain rfl : u = Value.ref a := r1
  obtain ⟨its, rv, p', hz⟩ := I1.list hq
  refine call_reversed_list p'.isList (args_nil ?_)
  have I2 : Inv X pins σ H1 { s1 with heap := s1.heap.push (revObj a ((its.toArray.size : Int) - 1)) } := I1.kept (t' := s1.toks) fun b o e => Heap.get?_push_of_some _ e
  have fp := I1.fpOk (H' := H1) (b := s1.heap.objs.size) (Nat.le_refl _) (I1.hok.fresh (Nat.le_refl _))
  have hl := p'.isList
  obtain ⟨ol, hol, _⟩ := id hl
  have hne : a ≠ s1.heap.objs.size := Nat.ne_of_lt (Heap.lt_size hol)
  have hn : its.toArray.size ≤ sizeLine := by rw [List.size_toArray, ← rv.length]; exact hz
  refine list_of_rev (s := { s1 with heap := s1.heap.push (revObj a ((its.toArray.size : Int) - 1)) }) (I1.ok.hd hc) ⟨_, Heap.get?_push_size _ rfl, rfl, rfl⟩ (hl.push _) hne hn fun h' tk acc c' hk hi hS => ?_
  have new : ObjOk X.prog X.w (upd H1 (s1.heap.push (revObj a ((its.toArray.size : Int) - 1))).objs.size (.lst xs.reverse)) h' (s1.heap.push (revObj a ((its.toArray.size : Int) - 1))).objs.size (.lst xs.reverse) :=
    ⟨by rw [List.length_reverse]; exact hz, acc.toList, c', RT.vals_rev rv hi, by rw [Array.toArray_toList]; exact hS⟩
  have I3 := I2.turnedNew (t' := tk) (ch := [s1.heap.objs.size]) (fun b o hb e => hk b o (fun z => hb (by simp [z])) e) (fun b hb => by rw [List.mem_singleton.mp hb]; exact fp) (Nat.le_refl _) new
  exact ⟨.ref _, _, I3, rfl, q _ (I2.hok.fresh (Nat.le_refl _))⟩
end
theorem paired_app {α β : Type} {R : α → β → Prop} : ∀ {xs xs' : List α} {ys ys' : List β}, Paired R xs ys → Paired R xs' ys' → Paired R (xs ++ xs') (ys ++ ys')
  | _, _, _, _, .nil, h => h
  | _, _, _, _, .cons a b, h => .cons a (paired_app b h)
theorem paired_rev {α β : Type} {R : α → β → Prop} : ∀ {xs : List α} {ys : List β}, Paired R xs ys → Paired R xs.reverse ys.reverse
  | _, _, .nil => .nil
  | _, _, .cons (l₁ := xs) (l₂ := ys) a b => by
    rw [List.reverse_cons, List.reverse_cons]
    exact paired_app (paired_rev b) (.cons a .nil)
/-! list(reversed(a)) in the evaluator -/
def mRev (c : Bool) (a : Sl → M Val) (env : Sl) : M Val := do
  let x ← a env
  let vs ← rdM fun mh => seqL mh x
  finR c (.nl vs.reverse)
section
variable {X : Cx}
theorem se_rev {c : Bool} {e : Expr} {ma : Sl → M Val} {p p2 pos pos2 : Pos} (hc : X.calm = true) (hg : Gl X "list") (hm : X.mg "list" = none) (hg2 : Gl X "reversed") (hm2 : X.mg "reversed" = none) (ha : SE X e ma)
    (hs : starEach [e] X.env = (false, eval e X.env) :: starEach [] X.env)
    (hs2 : starEach [.Call (.Name "reversed" p2) [e] [] pos2] X.env = (false, eval (.Call (.Name "reversed" p2) [e] [] pos2) X.env) :: starEach [] X.env) :
    SE X (.Call (.Name "list" p) [.Call (.Name "reversed" p2) [e] [] pos2] [] pos) (mRev c ma) :=
  SE.mk (pe_listRev hc hg hm hg2 hm2 ha hs hs2) fun Q rl e q => by
    obtain ⟨x, mh1, e1, ea⟩ := M.bind_some.mp e
    obtain ⟨vs, mh2, e2, eb⟩ := M.bind_some.mp ea
    obtain ⟨e3, e4⟩ := rdM_some.mp e2
    simp only at e3 e4
    subst e4
    refine ⟨_, _, _, _, _, _, rl, e1, fun F1 ρ1 H1 u1 w1 g1 d1 => ?_⟩
    obtain ⟨a, us, rfl, hS, hd, hz⟩ := seqL_ok w1 d1 e3
    have post := finR_ok (K := X.K) (F := F1) (ρ := ρ1) (H := H1) eb fun F' ρ' H' u w g d => q F' ρ' H' u w (g1.trans g) d
    exact ⟨a, us, rfl, hS, fun p hp => PostR.list post w1 hp (paired_rev hd) (by rw [List.length_reverse]; exact hz)⟩
end
end Pv

/-! P6: targets, walks, statements, comprehensions, calls -/
namespace Pv
open PySem PySem.Spec PyProof.Rows L2

/-! ### targets -/
def tGt (K : PySem.W.Frag) (sl : List Nat) (m : Val → Sl → M Sl) : TG := fun u σ H Q => ∃ env mh F ρ v env' mh', Rl K env mh F ρ σ H ∧ DenV K F ρ u v ∧ m v env mh = some (env', mh') ∧
  ∀ F' ρ' σ' H', Rl K env' mh' F' ρ' σ' H' → Gr F ρ H F' ρ' H' → (∀ vs : List Nat, (∀ i ∈ sl, i ∈ vs) → wipe σ' vs = wipe σ vs) → Q σ' H'
def SG (X : Cx) (tg : Expr) (sl : List Nat) (m : Val → Sl → M Sl) : Prop := PG X tg (tGt X.K sl m)
def tGsd (K : PySem.W.Frag) (sl : List Nat) (m : List Val → Sl → M Sl) : TGs := fun us σ H Q => ∃ env mh F ρ ds env' mh', Rl K env mh F ρ σ H ∧ DenVs K F ρ us ds ∧ m ds env mh = some (env', mh') ∧
  ∀ F' ρ' σ' H', Rl K env' mh' F' ρ' σ' H' → Gr F ρ H F' ρ' H' → (∀ vs : List Nat, (∀ i ∈ sl, i ∈ vs) → wipe σ' vs = wipe σ vs) → Q σ' H'
def SGs (X : Cx) (ts : List Expr) (sl : List Nat) (m : List Val → Sl → M Sl) : Prop := PGs X ts (tGsd X.K sl m)
theorem wipe_set {σ : L2.St} {i : Nat} {o : Option V} : ∀ {vs : List Nat}, i ∈ vs → wipe (σ.set i o) vs = wipe σ vs
  | [], h => nomatch h
  | v :: vs, h => by
    show (wipe (σ.set i o) vs).set v none = (wipe σ vs).set v none
    by_cases e : i ∈ vs
    · rw [wipe_set e]
    · have e2 : i = v := by
        rcases List.mem_cons.mp h with z | z
        · exact z
        · exact absurd z e
      subst e2
      have : ∀ (ws : List Nat), i ∉ ws → wipe (σ.set i o) ws = (wipe σ ws).set i o := by
        intro ws
        induction ws with
        | nil => intro _; rfl
        | cons w ws ih =>
          intro hn
          have h1 : i ≠ w := fun z => hn (by simp [z])
          have h2 : i ∉ ws := fun z => hn (by simp [z])
          show (wipe (σ.set i o) ws).set w none = ((wipe σ ws).set w none).set i o
          rw [ih h2, List.set_comm _ _ h1]
      rw [this vs e, List.set_set]
def gNm (i : Nat) (v : Val) (env : Sl) : M Sl := pure (env.set i (some v))
section
variable {X : Cx} {pos : Pos}
theorem sg_name {i : Nat} {x : Str} (hN : X.N.Nodup) (hi : X.N[i]? = some x) (hx : Loc X.env.scope x) (hf : X.fn x = true ∨ X.env.scope.names.lookup x = some .local) : SG X (.Name x pos) [i] (gNm i) := by
  refine ⟨fun pins s σ H u w Q I r h => ?_⟩
  obtain ⟨env, mh, F, ρ, v, env', mh', rl, d, e, q⟩ := h
  cases e
  exact (pg_name hN hi hx hf).run pins s σ H u w Q I r (q _ _ _ _ (rl.set i d) .refl fun vs hv => wipe_set (hv i (by simp)))
def gNil : List Val → Sl → M Sl
  | [], env => pure env
  | _ :: _, _ => fun _ => none
def gCons (m : Val → Sl → M Sl) (ms : List Val → Sl → M Sl) : List Val → Sl → M Sl
  | [], _ => fun _ => none
  | d :: ds, env => do
    let env1 ← m d env
    ms ds env1
theorem sgs_nil : SGs X [] [] gNil := by
  refine ⟨fun pins s σ H us ws Q I r h => ?_⟩
  obtain ⟨env, mh, F, ρ, v, env', mh', rl, d, e, q⟩ := h
  cases d with
  | nil =>
    cases e
    exact pgs_nil.run pins s σ H [] ws Q I r ⟨rfl, q _ _ _ _ rl .refl fun _ _ => rfl⟩
  | cons _ _ => cases e
theorem sgs_cons {a : Expr} {es : List Expr} {s1 s2 : List Nat} {m : Val → Sl → M Sl} {ms : List Val → Sl → M Sl} (h1 : SG X a s1 m) (h2 : SGs X es s2 ms)
    (hs : (assignEach (a :: es) X.env).map (·.2) = assign a X.env :: (assignEach es X.env).map (·.2)) : SGs X (a :: es) (s1 ++ s2) (gCons m ms) := by
  refine ⟨fun pins s σ H us ws Q I r h => ?_⟩
  obtain ⟨env, mh, F, ρ, v, env', mh', rl, d, e, q⟩ := h
  cases d with
  | nil => cases e
  | cons d1 d2 =>
    obtain ⟨env1, mh1, e1, e2⟩ := M.bind_some.mp e
    refine (pgs_cons h1 h2 hs).run pins s σ H _ ws Q I r ⟨_, _, rfl, _, _, _, _, _, _, _, rl, d1, e1, fun F1 ρ1 σ1 H1 rl1 g1 w1 => ?_⟩
    exact ⟨_, _, _, _, _, _, _, rl1, DenVs.grow d2 g1, e2, fun F2 ρ2 σ2 H2 rl2 g2 w2 => q _ _ _ _ rl2 (g1.trans g2) fun vs hv => (w2 vs fun i hi => hv i (List.mem_append_right _ hi)).trans (w1 vs fun i hi => hv i (List.mem_append_left _ hi))⟩
def gTp (n : Nat) (ms : List Val → Sl → M Sl) (v : Val) (env : Sl) : M Sl := fun mh => match seqA mh v with
  | some vs => if vs.length = n then ms vs env mh else none
  | none => none
theorem sg_tup {es : List Expr} {j n : Nat} {sl : List Nat} {ms : List Val → Sl → M Sl} (hc : X.calm = true) (h : SGs X es sl ms)
    (hn : (assignEach es X.env).length = n) (hst : (assignEach es X.env).findIdx? (·.1) = none) : SG X (.Tuple es j pos) sl (gTp n ms) := by
  refine ⟨fun pins s σ H u w Q I r hw => ?_⟩
  obtain ⟨env, mh, F, ρ, v, env', mh', rl, d, e, q⟩ := hw
  unfold gTp at e
  split at e
  · rename_i vs hvs
    split at e
    · rename_i hl
      obtain ⟨a, us, rfl, hq, dv, z⟩ := seqA_ok rl.wd d hvs
      have ul : us.length = n := by rw [dv.length]; exact hl
      rcases hq with hq | hq
      · exact (pg_unl hc h hn hst).run pins s σ H _ w Q I r ⟨_, _, rfl, hq, ul, _, _, _, _, _, _, _, rl, dv, e, q⟩
      · exact (pg_tup hc h hn hst).run pins s σ H _ w Q I r ⟨_, _, rfl, hq, ul, _, _, _, _, _, _, _, rl, dv, e, q⟩
    · cases e
  · cases e
/-- o[i] = v -/
def gSb (mo mi : Sl → M Val) (v : Val) (env : Sl) : M Sl := do
  let o ← mo env
  let i ← mi env
  setVl o i v
  pure env
theorem sg_sub {o i : Expr} {mo mi : Sl → M Val} (hu : X.A.units + 1 < cLine) (ho : SE X o mo) (hi : SE X i mi)
    (ha : ∀ v, assign (.Subscript o i pos) X.env v = (do
      let ov ← holding [v] (eval o X.env)
      let iv ← holding [v, ov] (eval i X.env)
      standAt pos
      holding [v, ov, iv] (setItem ov iv v)
      release [v, ov, iv] [])) : SG X (.Subscript o i pos) [] (gSb mo mi) := by
  obtain ⟨t, o1, o2⟩ := sets_all hu
  refine ⟨fun pins s σ H u w Q I r hw => ?_⟩
  obtain ⟨env, mh, F, ρ, v, env', mh', rl, d, e, q⟩ := hw
  obtain ⟨vo, mh1, e1, ea⟩ := M.bind_some.mp e
  obtain ⟨vi, mh2, e2, eb⟩ := M.bind_some.mp ea
  obtain ⟨_, mh3, e3, ec⟩ := M.bind_some.mp eb
  cases ec
  refine (pg_sub ho hi o1 ha).run pins s σ H u w Q I r ⟨_, _, _, _, _, _, rl, e1, fun F1 ρ1 H1 u1 w1 g1 d1 => ⟨_, _, _, _, _, _, rl.grow w1 g1, e2, fun F2 ρ2 H2 u2 w2 g2 d2 => ?_⟩⟩
  exact o2 _ w2 (d1.grow g2) d2 (d.grow (g1.trans g2)) e3 fun H' w3 g3 => q _ _ _ _ (rl.grow w3 ((g1.trans g2).trans g3)) ((g1.trans g2).trans g3) fun _ _ => rfl
end

/-! ### what is walked -/
structure Ix where
  items : List Val
  g : List (Nat × List Val)
def gOk (g : List (Nat × List Val)) (mh : List Ob) : Prop := ∀ p ∈ g, mh[p.1]? = some (.lst p.2)
open Classical in
noncomputable def chkG (g : List (Nat × List Val)) : M Unit := fun mh => if gOk g mh then some ((), mh) else none
theorem chkG_some {g : List (Nat × List Val)} {mh : List Ob} {r : Unit × List Ob} (h : chkG g mh = some r) : gOk g mh ∧ r = ((), mh) := by
  unfold chkG at h
  split at h
  · cases h; exact ⟨‹_›, rfl⟩
  · cases h
structure ItOk (K : PySem.W.Frag) (J : It) (it : Ix) (F : Hp) (ρ : List Addr) : Prop where
  small : it.items.length ≤ sizeLine
  stop : ∀ {mh F' ρ' H'}, Wd K mh F' ρ' H' → Rle F F' → ρ <+: ρ' → gOk it.g mh → J.stop it.items.length H'
  go : ∀ {mh F' ρ' H' i v}, Wd K mh F' ρ' H' → Rle F F' → ρ <+: ρ' → gOk it.g mh → it.items[i]? = some v → J.go i H' ∧ ∀ x H'', J.yld i H' x H'' → ∃ F'', Wd K mh F'' ρ' H'' ∧ Gr F' ρ' H' F'' ρ' H'' ∧ DenV K F'' ρ' x v
def tIt (K : PySem.W.Frag) (m : Sl → M Ix) : TI := fun σ H R => ∃ env mh F ρ it mh', Rl K env mh F ρ σ H ∧ m env mh = some (it, mh') ∧ ∀ J F' ρ' H', Wd K mh' F' ρ' H' → Gr F ρ H F' ρ' H' → ItOk K J it F' ρ' → R J H'
def SI (X : Cx) (tg iter : Expr) (m : Sl → M Ix) : Prop := PI X tg iter (tIt X.K m)
theorem SI.mk {X : Cx} {tg iter : Expr} {t : TI} {m : Sl → M Ix} (h : PI X tg iter t) (k : ∀ {env : Sl} {mh mh' : List Ob} {F : Hp} {ρ : List Addr} {σ : L2.St} {H : Hp} {it : Ix} (R : It → Hp → Prop), Rl X.K env mh F ρ σ H → m env mh = some (it, mh') →
    (∀ J F' ρ' H', Wd X.K mh' F' ρ' H' → Gr F ρ H F' ρ' H' → ItOk X.K J it F' ρ' → R J H') → t σ H R) : SI X tg iter m := by
  refine ⟨fun pins s σ H R I h1 => ?_⟩
  obtain ⟨env, mh, F, ρ, it, mh', rl, e1, q⟩ := h1
  exact h.run pins s σ H R I (k R rl e1 q)
/-- over the cell or the data that a value is -/
def guardOf : Val → List Val → List (Nat × List Val)
  | .ref n, vs => [(n, vs)]
  | _, _ => []
section
variable {X : Cx} {tg : Expr} {pos p : Pos}
theorem seqL_again {K : PySem.W.Frag} {mh mh2 : List Ob} {F F2 : Hp} {ρ ρ2 : List Addr} {H H2 : Hp} {u : V} {v : Val} {vs : List Val} (w : Wd K mh F ρ H) (d : DenV K F ρ u v) (h : seqL mh v = some vs) (w2 : Wd K mh2 F2 ρ2 H2) (r : Rle F F2) (hp : ρ <+: ρ2) (g : gOk (guardOf v vs) mh2) :
    ∃ a us, u = .ref a ∧ SqL K H2 a us ∧ DenVs K F2 ρ2 us vs ∧ vs.length ≤ sizeLine := by
  have h2 : seqL mh2 v = some vs := by
    cases v with
    | d x =>
      cases x with
      | list ds => exact h
      | _ => cases h
    | ref n =>
      have := g (n, vs) (by simp [guardOf])
      show cellL mh2 n = some vs
      unfold cellL
      rw [this]
  exact seqL_ok w2 (d.mono r hp) h2
theorem seqT_again {K : PySem.W.Frag} {mh mh2 : List Ob} {F F2 : Hp} {ρ ρ2 : List Addr} {H H2 : Hp} {u : V} {v : Val} {vs : List Val} (w : Wd K mh F ρ H) (d : DenV K F ρ u v) (h : seqT v = some vs) (w2 : Wd K mh2 F2 ρ2 H2) (r : Rle F F2) (hp : ρ <+: ρ2) :
    ∃ a us, u = .ref a ∧ SqT K H2 a us ∧ DenVs K F2 ρ2 us vs ∧ vs.length ≤ sizeLine := seqT_ok w2 (d.mono r hp) h
theorem itok_list {K : PySem.W.Frag} {mh : List Ob} {F : Hp} {ρ : List Addr} {H : Hp} {a : Addr} {v : Val} {vs : List Val} (w : Wd K mh F ρ H) (d : DenV K F ρ (.ref a) v) (h : seqL mh v = some vs) : ItOk K (Itl K a) ⟨vs, guardOf v vs⟩ F ρ where
  small := let ⟨_, _, _, _, _, z⟩ := seqL_ok w d h; z
  stop := fun {mh2 F2 ρ2 H2} w2 r hp g => by
    obtain ⟨b, us, e, q, dd, z⟩ := seqL_again w d h w2 r hp g
    cases e
    exact ⟨us, q, by rw [dd.length]; exact Nat.le_refl _⟩
  go := fun {mh2 F2 ρ2 H2 i x} w2 r hp g hx => by
    obtain ⟨b, us, e, q, dd, z⟩ := seqL_again w d h w2 r hp g
    cases e
    obtain ⟨u, h1, h2⟩ := dd.get hx
    refine ⟨⟨us, u, q, h1⟩, fun y H'' hy => ?_⟩
    obtain ⟨rfl, hy⟩ := hy
    have : y = u := Option.some.inj ((hy us q).symm.trans h1)
    subst this
    exact ⟨F2, w2, .refl, h2⟩
theorem itok_tup {K : PySem.W.Frag} {mh : List Ob} {F : Hp} {ρ : List Addr} {H : Hp} {a : Addr} {v : Val} {vs : List Val} (w : Wd K mh F ρ H) (d : DenV K F ρ (.ref a) v) (h : seqT v = some vs) : ItOk K (Itt K a) ⟨vs, []⟩ F ρ where
  small := let ⟨_, _, _, _, _, z⟩ := seqT_ok w d h; z
  stop := fun {mh2 F2 ρ2 H2} w2 r hp g => by
    obtain ⟨b, us, e, q, dd, z⟩ := seqT_again w d h w2 r hp
    cases e
    exact ⟨us, q, by rw [dd.length]; exact Nat.le_refl _⟩
  go := fun {mh2 F2 ρ2 H2 i x} w2 r hp g hx => by
    obtain ⟨b, us, e, q, dd, z⟩ := seqT_again w d h w2 r hp
    cases e
    obtain ⟨u, h1, h2⟩ := dd.get hx
    refine ⟨⟨us, u, q, h1⟩, fun y H'' hy => ?_⟩
    obtain ⟨rfl, hy⟩ := hy
    have : y = u := Option.some.inj ((hy us q).symm.trans h1)
    subst this
    exact ⟨F2, w2, .refl, h2⟩
theorem itok_str {K : PySem.W.Frag} {F : Hp} {ρ : List Addr} {z : Str} (hz : z.length ≤ sizeLine) : ItOk K (Its z) ⟨z.cps.toList.map fun c => .d (.str ⟨#[c]⟩), []⟩ F ρ where
  small := by rw [List.length_map]; exact hz
  stop := fun {mh2 F2 ρ2 H2} w2 r hp g => by
    show z.cps.size ≤ _
    rw [List.length_map]
    exact Nat.le_refl _
  go := fun {mh2 F2 ρ2 H2 i x} w2 r hp g hx => by
    rw [List.getElem?_map] at hx
    obtain ⟨c, h1, h2⟩ := Option.map_eq_some_iff.mp hx
    have h3 : z.cps[i]? = some c := by rw [← Array.getElem?_toList]; exact h1
    refine ⟨(Array.getElem?_eq_some_iff.mp h3).1, fun y H'' hy => ?_⟩
    obtain ⟨rfl, c', h4, rfl⟩ := hy
    rw [h3] at h4
    cases h4
    subst h2
    exact ⟨F2, w2, .refl, Den.str _⟩
/-- a value that is walked: a list, a tuple, a text -/
theorem pi_val {l : Expr} {tl : TE} (hl : PE X l tl) : PI X tg l (fun σ H R => tl σ H fun x H1 => (∃ a, x = .ref a ∧ (∃ xs, SqL X.K H1 a xs) ∧ R (Itl X.K a) H1) ∨ (∃ a, x = .ref a ∧ (∃ xs, SqT X.K H1 a xs) ∧ R (Itt X.K a) H1) ∨ ∃ z, x = .str z ∧ R (Its z) H1) := by
  refine ⟨fun pins s σ H R I h => ?_⟩
  refine thn (hl.run pins s σ H _ I h) fun v s1 ⟨x, H1, I1, r1, q1⟩ => ?_
  rcases q1 with ⟨a, e, ⟨xs, hq⟩, q⟩ | ⟨a, e, ⟨xs, hq⟩, q⟩ | ⟨z, e, q⟩
  · subst e
    cases r1
    obtain ⟨its, rv, p, hz⟩ := I1.list hq
    refine wpAny_pyIter_list p.isList ?_
    refine ⟨s1.heap.objs.size, [s1.heap.objs.size], _, _, H1, rfl, I1.kept (t' := s1.toks) fun b o e => Heap.get?_push_of_some _ e, turn_list a _, ⟨_, Heap.get?_push_size _ rfl, rfl, rfl⟩, fun b hb => ?_, q⟩
    have e : b = s1.heap.objs.size := by simpa using hb
    subst e
    exact I1.fpOk (Nat.le_refl _) (I1.hok.fresh (Nat.le_refl _))
  · subst e
    cases r1
    obtain ⟨its, rv, p, hz⟩ := I1.tuple hq
    refine wpAny_pyIter_tuple (show s1.heap.IsTuple a its.toArray from p) ?_
    refine ⟨s1.heap.objs.size, [s1.heap.objs.size], _, _, H1, rfl, I1.kept (t' := s1.toks) fun b o e => Heap.get?_push_of_some _ e, turn_tuple a _, ⟨_, Heap.get?_push_size _ rfl, rfl, rfl⟩, fun b hb => ?_, q⟩
    have e : b = s1.heap.objs.size := by simpa using hb
    subst e
    exact I1.fpOk (Nat.le_refl _) (I1.hok.fresh (Nat.le_refl _))
  · subst e
    obtain ⟨t, rfl⟩ := r1
    cases ha : z.cps.all (· < 128)
    · exact wpAny_pyIter_wide ha (pi_one (tk := s1.toks) I1 _ (turn_str _ z t "str_iterator" (.inr rfl)) ⟨_, Heap.get?_push_size _ rfl, rfl, rfl⟩ q)
    · exact wpAny_pyIter_ascii ha (pi_one (tk := s1.toks) I1 _ (turn_str _ z t "str_ascii_iterator" (.inl rfl)) ⟨_, Heap.get?_push_size _ rfl, rfl, rfl⟩ q)
def ixOf (mh : List Ob) (v : Val) : Option Ix := match v with
  | .d (.tuple ds) => some ⟨ds.map Val.d, []⟩
  | .d (.str z) => if z.length ≤ sizeLine then some ⟨z.cps.toList.map fun c => .d (.str ⟨#[c]⟩), []⟩ else none
  | v => (seqL mh v).map fun vs => ⟨vs, guardOf v vs⟩
def iVal (a : Sl → M Val) (env : Sl) : M Ix := do
  let x ← a env
  rdM fun mh => ixOf mh x
theorem si_val {a : Expr} {ma : Sl → M Val} (ha : SE X a ma) : SI X tg a (iVal ma) :=
  SI.mk (pi_val ha) fun R rl e q => by
    obtain ⟨v, mh1, e1, ea⟩ := M.bind_some.mp e
    obtain ⟨e2, e3⟩ := rdM_some.mp ea
    simp only at e2 e3
    subst e3
    refine ⟨_, _, _, _, _, _, rl, e1, fun F1 ρ1 H1 u w1 g1 d1 => ?_⟩
    unfold ixOf at e2
    split at e2
    · rename_i ds
      cases e2
      obtain ⟨a, us, rfl, hq, dd, z⟩ := seqT_ok w1 d1 (show seqT (.d (.tuple ds)) = some (ds.map Val.d) from rfl)
      exact .inr (.inl ⟨a, rfl, ⟨us, hq⟩, q _ _ _ _ w1 g1 (itok_tup w1 d1 rfl)⟩)
    · split at e2
      · rename_i z hz
        cases e2
        exact .inr (.inr ⟨z, den_str d1, q _ _ _ _ w1 g1 (itok_str hz)⟩)
      · cases e2
    · obtain ⟨vs, e4, e5⟩ := Option.map_eq_some_iff.mp e2
      subst e5
      obtain ⟨a, us, rfl, hq, dd, z⟩ := seqL_ok w1 d1 e4
      exact .inl ⟨a, rfl, ⟨us, hq⟩, q _ _ _ _ w1 g1 (itok_list w1 d1 e4)⟩
/-- range -/
def rgItems (lo : Int) (n : Nat) : List Val := (List.range n).map fun (i : Nat) => .d (.int (lo + i))
theorem itok_range {K : PySem.W.Frag} {F : Hp} {ρ : List Addr} {lo : Int} {n : Nat} (hn : n ≤ sizeLine) : ItOk K (Itr lo n) ⟨rgItems lo n, []⟩ F ρ where
  small := by simp only [rgItems, List.length_map, List.length_range]; exact hn
  stop := fun {mh2 F2 ρ2 H2} w2 r hp g => by
    show n ≤ (rgItems lo n).length
    simp only [rgItems, List.length_map, List.length_range]
    exact Nat.le_refl _
  go := fun {mh2 F2 ρ2 H2 i x} w2 r hp g hx => by
    have hx : ((List.range n).map fun (i : Nat) => Val.d (.int (lo + i)))[i]? = some x := hx
    rw [List.getElem?_map] at hx
    obtain ⟨c, h1, h2⟩ := Option.map_eq_some_iff.mp hx
    obtain ⟨h3, h4⟩ := List.getElem?_eq_some_iff.mp h1
    rw [List.length_range] at h3
    rw [List.getElem_range] at h4
    subst h4 h2
    refine ⟨h3, fun y H'' hy => ?_⟩
    obtain ⟨rfl, rfl⟩ := hy
    exact ⟨F2, w2, .refl, Den.int _⟩
def rng1 : List Val → Option Ix
  | [.d (.int j)] => if -(2 ^ 62) ≤ j ∧ j ≤ 16777216 then some ⟨rgItems 0 j.toNat, []⟩ else none
  | _ => none
def rng2 : List Val → Option Ix
  | [.d (.int i), .d (.int j)] => if (-(2 ^ 62) ≤ i ∧ i < 2 ^ 62 ∧ -(2 ^ 62) ≤ j ∧ j < 2 ^ 62) ∧ j - i ≤ 16777216 then some ⟨rgItems i (j - i).toNat, []⟩ else none
  | _ => none
def iArgs (f : List Val → Option Ix) (as : Sl → M (List Val)) (env : Sl) : M Ix := do
  let vs ← as env
  ofO (f vs)
theorem si_range1 {a : Expr} {as : Sl → M (List Val)} (hg : Gl X "range") (hm : X.mg "range" = none) (h : SA X [a] as) (hs : starEach [a] X.env = [(false, eval a X.env)]) : SI X tg (.Call (.Name "range" p) [a] [] pos) (iArgs rng1 as) :=
  SI.mk (pi_range1 hg hm h hs) fun R rl e q => by
    obtain ⟨vs, mh1, e1, ea⟩ := M.bind_some.mp e
    obtain ⟨e2, e3⟩ := ofO_some.mp ea
    simp only at e2 e3
    subst e3
    refine ⟨_, _, _, _, _, _, rl, e1, fun F1 ρ1 H1 us w1 g1 d1 => ?_⟩
    unfold rng1 at e2
    split at e2
    · split at e2
      · rename_i j hj
        cases e2
        cases d1 with
        | cons d dn =>
          cases dn
          have := den_int d
          subst this
          exact ⟨j, rfl, hj.1, by omega, q _ _ _ _ w1 g1 (itok_range (by rw [sizeLine_eq]; omega))⟩
      · cases e2
    · cases e2
theorem si_range2 {a b : Expr} {as : Sl → M (List Val)} (hg : Gl X "range") (hm : X.mg "range" = none) (h : SA X [a, b] as) (hs : starEach [a, b] X.env = [(false, eval a X.env), (false, eval b X.env)]) (hs2 : starEach [b] X.env = [(false, eval b X.env)]) : SI X tg (.Call (.Name "range" p) [a, b] [] pos) (iArgs rng2 as) :=
  SI.mk (pi_range2 hg hm h hs hs2) fun R rl e q => by
    obtain ⟨vs, mh1, e1, ea⟩ := M.bind_some.mp e
    obtain ⟨e2, e3⟩ := ofO_some.mp ea
    simp only at e2 e3
    subst e3
    refine ⟨_, _, _, _, _, _, rl, e1, fun F1 ρ1 H1 us w1 g1 d1 => ?_⟩
    unfold rng2 at e2
    split at e2
    · split at e2
      · rename_i i j hj
        cases e2
        cases d1 with
        | cons d dn =>
          cases dn with
          | cons d' dn =>
            cases dn
            have := den_int d
            subst this
            have := den_int d'
            subst this
            exact ⟨i, j, rfl, hj.1, q _ _ _ _ w1 g1 (itok_range (by rw [sizeLine_eq]; omega))⟩
      · cases e2
    · cases e2
/-- zip of two lists, of two tuples -/
def zipIt (vs ws : List Val) : Option (List Val) := match asDs vs, asDs ws with
  | some ds, some es => some ((ds.zip es).map fun p => .d (.tuple [p.1, p.2]))
  | _, _ => none
def zip2 (mh : List Ob) : List Val → Option Ix
  | [v, w] => match seqT v, seqT w with
    | some vs, some ws => (zipIt vs ws).map fun l => ⟨l, []⟩
    | _, _ => match seqL mh v, seqL mh w with
      | some vs, some ws => (zipIt vs ws).map fun l => ⟨l, guardOf v vs ++ guardOf w ws⟩
      | _, _ => none
  | _ => none
theorem zipIt_ok {K : PySem.W.Frag} {F : Hp} {ρ : List Addr} {us xs : List V} {vs ws l : List Val} (h : zipIt vs ws = some l) (d1 : DenVs K F ρ us vs) (d2 : DenVs K F ρ xs ws) :
    l.length = min us.length xs.length ∧ ∀ (i : Nat) (v : Val), l[i]? = some v → ∃ (x y : V) (a b : Dt), us[i]? = some x ∧ xs[i]? = some y ∧ Den K F x a ∧ Den K F y b ∧ v = Val.d (.tuple [a, b]) := by
  unfold zipIt at h
  split at h
  · rename_i ds es e1 e2
    cases h
    have e3 := asDs_eq e1
    have e4 := asDs_eq e2
    subst e3 e4
    refine ⟨by rw [List.length_map, List.length_zip, d1.length, d2.length, List.length_map, List.length_map], fun i v hv => ?_⟩
    rw [List.getElem?_map] at hv
    obtain ⟨p, h1, h2⟩ := Option.map_eq_some_iff.mp hv
    obtain ⟨h3, h4⟩ := List.getElem?_zip_eq_some.mp h1
    obtain ⟨x, h5, h6⟩ := d1.all.get h3
    obtain ⟨y, h7, h8⟩ := d2.all.get h4
    exact ⟨x, y, p.1, p.2, h5, h7, h6, h8, h2.symm⟩
  · cases h
theorem itok_zipL {K : PySem.W.Frag} {mh : List Ob} {F : Hp} {ρ : List Addr} {H : Hp} {a b : Addr} {v w : Val} {vs ws l : List Val} (wd : Wd K mh F ρ H) (d1 : DenV K F ρ (.ref a) v) (d2 : DenV K F ρ (.ref b) w) (h1 : seqL mh v = some vs) (h2 : seqL mh w = some ws) (h : zipIt vs ws = some l) :
    ItOk K (Itz K a b) ⟨l, guardOf v vs ++ guardOf w ws⟩ F ρ where
  small := by
    obtain ⟨_, us, e, _, dd, z⟩ := seqL_ok wd d1 h1
    obtain ⟨_, xs, _, _, dd2, _⟩ := seqL_ok wd d2 h2
    have := (zipIt_ok h dd dd2).1
    rw [dd.length] at this
    show l.length ≤ _
    omega
  stop := fun {mh2 F2 ρ2 H2} w2 r hp g => by
    obtain ⟨_, us, e, q, dd, z⟩ := seqL_again wd d1 h1 w2 r hp fun p hp => g p (List.mem_append_left _ hp)
    cases e
    obtain ⟨_, xs, e, q2, dd2, z2⟩ := seqL_again wd d2 h2 w2 r hp fun p hp => g p (List.mem_append_right _ hp)
    cases e
    have := (zipIt_ok h dd dd2).1
    exact ⟨us, xs, q, q2, by show us.length ≤ l.length ∨ xs.length ≤ l.length; omega⟩
  go := fun {mh2 F2 ρ2 H2 i x} w2 r hp g hx => by
    obtain ⟨_, us, e, q, dd, z⟩ := seqL_again wd d1 h1 w2 r hp fun p hp => g p (List.mem_append_left _ hp)
    cases e
    obtain ⟨_, xs, e, q2, dd2, z2⟩ := seqL_again wd d2 h2 w2 r hp fun p hp => g p (List.mem_append_right _ hp)
    cases e
    obtain ⟨x1, y1, a1, b1, f1, f2, f3, f4, f5⟩ := (zipIt_ok h dd dd2).2 i x hx
    refine ⟨⟨us, xs, x1, y1, q, q2, f1, f2⟩, fun y H'' hy => ?_⟩
    obtain ⟨T, z1, z2, rfl, nT, rfl, k1, k2⟩ := hy
    have e1 : z1 = x1 := Option.some.inj ((k1 us q).symm.trans f1)
    have e2 : z2 = y1 := Option.some.inj ((k2 xs q2).symm.trans f2)
    subst e1 e2
    obtain ⟨w', g'⟩ := w2.newF (o := .tup [z1, z2]) nT
    refine ⟨_, w', g', ?_⟩
    subst f5
    exact Den.tup (.inl (.inl upd_same)) (by show 2 ≤ sizeLine; decide) (.cons (f3.mono g'.rd) (.cons (f4.mono g'.rd) .nil))
theorem itok_zipT {K : PySem.W.Frag} {mh : List Ob} {F : Hp} {ρ : List Addr} {H : Hp} {a b : Addr} {v w : Val} {vs ws l : List Val} (wd : Wd K mh F ρ H) (d1 : DenV K F ρ (.ref a) v) (d2 : DenV K F ρ (.ref b) w) (h1 : seqT v = some vs) (h2 : seqT w = some ws) (h : zipIt vs ws = some l) :
    ItOk K (RZ.ItzT K a b) ⟨l, []⟩ F ρ where
  small := by
    obtain ⟨_, us, e, _, dd, z⟩ := seqT_ok wd d1 h1
    obtain ⟨_, xs, _, _, dd2, _⟩ := seqT_ok wd d2 h2
    have := (zipIt_ok h dd dd2).1
    rw [dd.length] at this
    show l.length ≤ _
    omega
  stop := fun {mh2 F2 ρ2 H2} w2 r hp g => by
    obtain ⟨_, us, e, q, dd, z⟩ := seqT_again wd d1 h1 w2 r hp
    cases e
    obtain ⟨_, xs, e, q2, dd2, z2⟩ := seqT_again wd d2 h2 w2 r hp
    cases e
    have := (zipIt_ok h dd dd2).1
    exact ⟨us, xs, q, q2, by show us.length ≤ l.length ∨ xs.length ≤ l.length; omega⟩
  go := fun {mh2 F2 ρ2 H2 i x} w2 r hp g hx => by
    obtain ⟨_, us, e, q, dd, z⟩ := seqT_again wd d1 h1 w2 r hp
    cases e
    obtain ⟨_, xs, e, q2, dd2, z2⟩ := seqT_again wd d2 h2 w2 r hp
    cases e
    obtain ⟨x1, y1, a1, b1, f1, f2, f3, f4, f5⟩ := (zipIt_ok h dd dd2).2 i x hx
    refine ⟨⟨us, xs, x1, y1, q, q2, f1, f2⟩, fun y H'' hy => ?_⟩
    obtain ⟨T, z1, z2, rfl, nT, rfl, k1, k2⟩ := hy
    have e1 : z1 = x1 := Option.some.inj ((k1 us q).symm.trans f1)
    have e2 : z2 = y1 := Option.some.inj ((k2 xs q2).symm.trans f2)
    subst e1 e2
    obtain ⟨w', g'⟩ := w2.newF (o := .tup [z1, z2]) nT
    refine ⟨_, w', g', ?_⟩
    subst f5
    exact Den.tup (.inl (.inl upd_same)) (by show 2 ≤ sizeLine; decide) (.cons (f3.mono g'.rd) (.cons (f4.mono g'.rd) .nil))
def iArgsH (f : List Ob → List Val → Option Ix) (as : Sl → M (List Val)) (env : Sl) : M Ix := do
  let vs ← as env
  rdM fun mh => f mh vs
theorem si_zip {a b : Expr} {as : Sl → M (List Val)} {elts : List Expr} {kk : Nat} {tpos : Pos} (hg : Gl X "zip") (hm : X.mg "zip" = none) (h : SA X [a, b] as) (hs : starEach [a, b] X.env = (false, eval a X.env) :: starEach [b] X.env) (hpl : (backTo pos (starEach [b] X.env)).any (·.1) = false) :
    SI X (.Tuple elts kk tpos) (.Call (.Name "zip" p) [a, b] [] pos) (iArgsH zip2 as) :=
  SI.mk (RZ.pi_zipA hg hm h hs hpl) fun R rl e q => by
    obtain ⟨vs, mh1, e1, ea⟩ := M.bind_some.mp e
    obtain ⟨e2, e3⟩ := rdM_some.mp ea
    simp only at e2 e3
    subst e3
    refine ⟨_, _, _, _, _, _, rl, e1, fun F1 ρ1 H1 us w1 g1 d1 => ?_⟩
    unfold zip2 at e2
    split at e2
    · rename_i v w
      cases d1 with
      | cons dv dn =>
        cases dn with
        | cons dw dn =>
          cases dn
          split at e2
          · rename_i vs ws h1 h2
            obtain ⟨l, h3, h4⟩ := Option.map_eq_some_iff.mp e2
            subst h4
            obtain ⟨a, us, rfl, qa, _, _⟩ := seqT_ok w1 dv h1
            obtain ⟨b, xs, rfl, qb, _, _⟩ := seqT_ok w1 dw h2
            exact ⟨a, b, us, xs, rfl, .inr ⟨qa, qb, q _ _ _ _ w1 g1 (itok_zipT w1 dv dw h1 h2 h3)⟩⟩
          · split at e2
            · rename_i vs ws h1 h2
              obtain ⟨l, h3, h4⟩ := Option.map_eq_some_iff.mp e2
              subst h4
              obtain ⟨a, us, rfl, qa, _, _⟩ := seqL_ok w1 dv h1
              obtain ⟨b, xs, rfl, qb, _, _⟩ := seqL_ok w1 dw h2
              exact ⟨a, b, us, xs, rfl, .inl ⟨qa, qb, q _ _ _ _ w1 g1 (itok_zipL w1 dv dw h1 h2 h3)⟩⟩
            · cases e2
    · cases e2
end
end Pv

/-! PZ: a walk over three tuples at once -/
namespace Pv
open PySem PySem.Spec PyProof.Rows L2

/-- the items of three tuples, in new triples -/
def Itz3 (K : PySem.W.Frag) (a b c : Addr) : It :=
  ⟨fun i H => ∃ (xs ys zs : List V) (x y z : V), SqT K H a xs ∧ SqT K H b ys ∧ SqT K H c zs ∧ xs[i]? = some x ∧ ys[i]? = some y ∧ zs[i]? = some z,
    fun i H v H' => ∃ T x y z, v = .ref T ∧ H T = none ∧ H' = upd H T (.tup [x, y, z]) ∧ (∀ xs, SqT K H a xs → xs[i]? = some x) ∧ (∀ ys, SqT K H b ys → ys[i]? = some y) ∧ ∀ zs, SqT K H c zs → zs[i]? = some z,
    fun i H => ∃ xs ys zs : List V, SqT K H a xs ∧ SqT K H b ys ∧ SqT K H c zs ∧ i ≤ xs.length ∧ i ≤ ys.length ∧ i ≤ zs.length ∧ (i = xs.length ∨ i = ys.length ∨ i = zs.length)⟩
theorem turn_zip3 {P : Program} {w : World} {K : PySem.W.Frag} {elts : List Expr} {kk : Nat} {tpos : Pos} {a b c z TI TO i1 i2 i3 : Addr} (S : ZipSep3 z TI TO i1 i2 i3 [i1, a] [i2, b] [i3, c]) (n1 : a ≠ i1) (n2 : b ≠ i2) (n3 : c ≠ i3) :
    Turn P w K (.Tuple elts kk tpos) (Itz3 K a b c) [z, TI, TO, i1, i2, i3] z (fun i h => IsZip h z TI TO .none ∧ IsTupOf3 h TI (.ref i1) (.ref i2) (.ref i3) ∧ (∃ x y u, IsTupOf3 h TO x y u) ∧ h.IsTupleIter i1 a i ∧ h.IsTupleIter i2 b i ∧ h.IsTupleIter i3 c i) where
  mem := by simp
  obj := fun i h st d hd => by
    obtain ⟨hz, hTI, ⟨x, y, u, hTO⟩, ⟨o1, e1, _, d1⟩, ⟨o2, e2, _, d2⟩, ⟨o3, e3, _, d3⟩⟩ := st
    have e' : d = z ∨ d = TI ∨ d = TO ∨ d = i1 ∨ d = i2 ∨ d = i3 := by simpa using hd
    rcases e' with q | q | q | q | q | q <;> rw [q]
    · exact ⟨_, hz, fun v q => nomatch q⟩
    · exact ⟨_, hTI, fun v q => nomatch q⟩
    · exact ⟨_, hTO, fun v q => nomatch q⟩
    · exact ⟨o1, e1, fun v q => by rw [d1] at q; cases q⟩
    · exact ⟨o2, e2, fun v q => by rw [d2] at q; cases q⟩
    · exact ⟨o3, e3, fun v q => by rw [d3] at q; cases q⟩
  keep := fun i h h' st k => by
    obtain ⟨hz, hTI, ⟨x, y, u, hTO⟩, h1, h2, h3⟩ := st
    exact ⟨k z (by simp) _ hz, k TI (by simp) _ hTI, ⟨x, y, u, k TO (by simp) _ hTO⟩, h1.at fun o q => k i1 (by simp) o q, h2.at fun o q => k i2 (by simp) o q, h3.at fun o q => k i3 (by simp) o q⟩
  item := by
    intro X hP hw hK hc i pins s σ H E I hf st hg
    subst hP hw hK
    obtain ⟨hz, hTI, ⟨x0, y0, u0, hTO⟩, h1, h2, h3⟩ := st
    obtain ⟨xs, ys, zs, x, y, q, hqx, hqy, hqz, hx, hy, hzz⟩ := hg
    obtain ⟨its, rv, p, _⟩ := I.tuple hqx
    obtain ⟨its2, rv2, p2, _⟩ := I.tuple hqy
    obtain ⟨its3, rv3, p3, _⟩ := I.tuple hqz
    obtain ⟨u, hu, ru⟩ := rv.get hx
    obtain ⟨u2, hu2, ru2⟩ := rv2.get hy
    obtain ⟨u3, hu3, ru3⟩ := rv3.get hzz
    have hh := I.ok.hd hc
    have lt1 : i < its.toArray.size := by simpa using (List.getElem?_eq_some_iff.mp hu).1
    have lt2 : i < its2.toArray.size := by simpa using (List.getElem?_eq_some_iff.mp hu2).1
    have lt3 : i < its3.toArray.size := by simpa using (List.getElem?_eq_some_iff.mp hu3).1
    have hzl : z < s.heap.objs.size := Heap.lt_size hz
    refine wpAny_pyNext_zipD3_item S (Draws.tuple (prog := X.prog) (w := X.w) (A := X.A.in1) hh i1 a n1 its.toArray) (Draws.tuple (prog := X.prog) (w := X.w) (A := X.A.in1) hh i2 b n2 its2.toArray) (Draws.tuple (prog := X.prog) (w := X.w) (A := X.A.in1) hh i3 c n3 its3.toArray) hz hTI hTO ⟨h1, p⟩ ⟨h2, p2⟩ ⟨h3, p3⟩ lt1 lt2 lt3 fun v1 v2 v3 h' tk e1 e2 e3 z' TO' s1 s2 s3 hT hsz hk => ?_
    have w1 : v1 = u := Option.some.inj (e1.symm.trans (by simpa using hu))
    have w2 : v2 = u2 := Option.some.inj (e2.symm.trans (by simpa using hu2))
    have w3 : v3 = u3 := Option.some.inj (e3.symm.trans (by simpa using hu3))
    subst w1 w2 w3
    refine ⟨_, rfl, wpAny_letOwnedTupleGo_zip (s := { s with heap := h', toks := tk }) z' fun h'' z'' sb => ?_⟩
    have hT2 : h''.get? s.heap.objs.size = some { cls := .type "tuple", data := .seq #[v1, v2, v3] } := (sb.2 _ (Nat.ne_of_gt hzl)).trans hT
    have new : ObjOk X.prog X.w (upd H s.heap.objs.size (.tup [x, y, q])) h'' s.heap.objs.size (.tup [x, y, q]) :=
      ⟨by show 3 ≤ sizeLine; decide, [v1, v2, v3], .cons ru (.cons ru2 (.cons ru3 .nil)), ⟨_, hT2, rfl, _, rfl⟩⟩
    have far : ∀ d o, d ∉ [z, TI, TO, i1, i2, i3] → s.heap.get? d = some o → h''.get? d = some o := fun d o hb e =>
      (sb.2 d (fun q' => hb (by simp [q']))).trans (hk d o (fun q' => hb (by simp [q'])) (fun q' => hb (by simp [q'])) (fun q' => hb (by simp [q'])) (fun q' => hb (by simp [q'])) (fun q' => hb (by simp [q'])) e)
    have I1 : Inv X pins σ (upd H s.heap.objs.size (.tup [x, y, q])) { s with heap := h'', toks := tk } :=
      I.turnedNew (t' := tk) (ch := [z, TI, TO, i1, i2, i3]) far hf (Nat.le_refl _) new
    refine ⟨.ref s.heap.objs.size, _, I1, rfl, ⟨_, x, y, q, rfl, I.hok.fresh (Nat.le_refl _), rfl, fun l hl => by rw [I.tuple_inj hl hqx]; exact hx, fun l hl => by rw [I.tuple_inj hl hqy]; exact hy, fun l hl => by rw [I.tuple_inj hl hqz]; exact hzz⟩, ⟨z'', ?_, ⟨v1, v2, v3, ?_⟩, ?_, ?_, ?_⟩, fun d hdm => ?_⟩
    · exact (sb.2 _ S.TIz).trans (hk _ _ S.TIz S.TITO S.TIi1 S.TIi2 S.TIi3 hTI)
    · exact (sb.2 _ S.TOz).trans TO'
    · exact s1.1.at fun o e => (sb.2 _ S.zi1.symm).trans e
    · exact s2.1.at fun o e => (sb.2 _ S.zi2.symm).trans e
    · exact s3.1.at fun o e => (sb.2 _ S.zi3.symm).trans e
    · have hlt : d < s.heap.objs.size := by
        have e' : d = z ∨ d = TI ∨ d = TO ∨ d = i1 ∨ d = i2 ∨ d = i3 := by simpa using hdm
        rcases e' with e | e | e | e | e | e <;> rw [e]
        · exact hzl
        · exact Heap.lt_size hTI
        · exact Heap.lt_size hTO
        · obtain ⟨_, e1, _⟩ := h1; exact Heap.lt_size e1
        · obtain ⟨_, e1, _⟩ := h2; exact Heap.lt_size e1
        · obtain ⟨_, e1, _⟩ := h3; exact Heap.lt_size e1
      rw [upd_ne (Nat.ne_of_lt hlt)]
      exact (hf d hdm).1
  done := by
    intro X hP hw hK hc i pins s σ H E I hf st hg
    subst hP hw hK
    obtain ⟨hz, hTI, ⟨x0, y0, u0, hTO⟩, h1, h2, h3⟩ := st
    obtain ⟨xs, ys, zs, hqx, hqy, hqz, l1, l2, l3, hend⟩ := hg
    obtain ⟨its, rv, p, _⟩ := I.tuple hqx
    obtain ⟨its2, rv2, p2, _⟩ := I.tuple hqy
    obtain ⟨its3, rv3, p3, _⟩ := I.tuple hqz
    have m1 : its.toArray.size = xs.length := by have := rv.length; simp; omega
    have m2 : its2.toArray.size = ys.length := by have := rv2.length; simp; omega
    have m3 : its3.toArray.size = zs.length := by have := rv3.length; simp; omega
    have hh := I.ok.hd hc
    exact wpAny_pyNext_zipD3_end S (Draws.tuple (prog := X.prog) (w := X.w) (A := X.A.in1) hh i1 a n1 its.toArray) (Draws.tuple (prog := X.prog) (w := X.w) (A := X.A.in1) hh i2 b n2 its2.toArray) (Draws.tuple (prog := X.prog) (w := X.w) (A := X.A.in1) hh i3 c n3 its3.toArray) hz hTI hTO ⟨h1, p⟩ ⟨h2, p2⟩ ⟨h3, p3⟩ (by omega) (by omega) (by omega) (by omega) fun h' tk hk => ⟨rfl, I.turnedL (t' := tk) (ch := [z, TI, TO, i1, i2, i3]) (fun d o hb q =>
      hk d o (fun q' => hb (by simp [q'])) (fun q' => hb (by simp [q'])) (fun q' => hb (by simp [q'])) (fun q' => hb (by simp [q'])) (fun q' => hb (by simp [q'])) q) hf⟩
  self := fun A i s Q E st h => wpAny_pyIter_zip st.1 h
theorem sep3 (N a b c : Nat) (la : a < N) (lb : b < N) (lc : c < N) : ZipSep3 (N + 5) (N + 3) (N + 4) N (N + 1) (N + 2) [N, a] [N + 1, b] [N + 2, c] := by
  have ne : ∀ {x y : Nat}, x < y ∨ y < x → x ≠ y := fun h => by omega
  have nm : ∀ {x y z : Nat}, (x < y ∨ y < x) → (x < z ∨ z < x) → x ∉ [y, z] := fun h1 h2 e => by
    rcases List.mem_cons.mp e with e | e
    · omega
    · have := List.mem_singleton.mp e
      omega
  exact { TIz := ne (by omega), TOz := ne (by omega), TITO := ne (by omega), TIi1 := ne (by omega), mem1 := List.mem_cons_self, zf1 := nm (by omega) (by omega), Tf1 := nm (by omega) (by omega),
          TIi2 := ne (by omega), mem2 := List.mem_cons_self, zf2 := nm (by omega) (by omega), Tf2 := nm (by omega) (by omega), TIi3 := ne (by omega), mem3 := List.mem_cons_self, zf3 := nm (by omega) (by omega), Tf3 := nm (by omega) (by omega),
          sep1_2 := nm (by omega) (by omega), sep1_3 := nm (by omega) (by omega), sep2_1 := nm (by omega) (by omega), sep2_3 := nm (by omega) (by omega), sep3_1 := nm (by omega) (by omega), sep3_2 := nm (by omega) (by omega) }
def iZip3 (K : PySem.W.Frag) (ta : TA) : TI := fun σ H R => ta σ H fun vs H1 => ∃ a b c xs ys zs, vs = [.ref a, .ref b, .ref c] ∧ SqT K H1 a xs ∧ SqT K H1 b ys ∧ SqT K H1 c zs ∧ R (Itz3 K a b c) H1
theorem pi_zip3 {X : Cx} {e e2 e3 : Expr} {ta : TA} {p pos tpos : Pos} {elts : List Expr} {kk : Nat} (hg : Gl X "zip") (hm : X.mg "zip" = none) (ha : PA X [e, e2, e3] ta)
    (hs : starEach [e, e2, e3] X.env = (false, eval e X.env) :: starEach [e2, e3] X.env) (hpl : (backTo pos (starEach [e2, e3] X.env)).any (·.1) = false) :
    PI X (.Tuple elts kk tpos) (.Call (.Name "zip" p) [e, e2, e3] [] pos) (iZip3 X.K ta) := by
  refine ⟨fun pins s σ H R I h => ?_⟩
  refine Call_ (ld_blt I hg hm PyProof.Rows.boot_zip (PyProof.Rows.callWith_type1 (thn (ha.run pos pins s σ H _ I h) fun us s1 ⟨vs, H1, I1, r1, q1⟩ => ?_) hs hpl))
  obtain ⟨a, b, c, xs, ys, zs, ex, hqx, hqy, hqz, q⟩ := q1
  subst ex
  cases r1 with
  | cons r rr =>
    cases rr with
    | cons r' rr =>
      cases rr with
      | cons r'' rr =>
        cases rr
        cases r
        cases r'
        cases r''
        obtain ⟨its, rv, p1, _⟩ := I1.tuple hqx
        obtain ⟨its2, rv2, p2, _⟩ := I1.tuple hqy
        obtain ⟨its3, rv3, p3, _⟩ := I1.tuple hqz
        have la : a < s1.heap.objs.size := by obtain ⟨o1, ho1, _⟩ := id p1; exact Heap.lt_size ho1
        have lb : b < s1.heap.objs.size := by obtain ⟨o1, ho1, _⟩ := id p2; exact Heap.lt_size ho1
        have lc : c < s1.heap.objs.size := by obtain ⟨o1, ho1, _⟩ := id p3; exact Heap.lt_size ho1
        refine zip_begins3 (begins_tuple a its.toArray) (begins_tuple b its2.toArray) (begins_tuple c its3.toArray) p1 p2 p3 fun h' hz hTI hTO g1 g2 g3 hsz hk => wpAny_pyIter_zip hz ?_
        have I2 : Inv X pins σ H1 { s1 with heap := h' } := I1.kept (t' := s1.toks) hk
        generalize hN : s1.heap.objs.size = N at *
        have S := sep3 N a b c la lb lc
        refine ⟨N + 5, [N + 5, N + 3, N + 4, N, N + 1, N + 2], _, _, H1, rfl, I2, turn_zip3 S (Nat.ne_of_lt la) (Nat.ne_of_lt (Nat.lt_succ_of_lt lb)) (Nat.ne_of_lt (Nat.lt_succ_of_lt (Nat.lt_succ_of_lt lc))), ⟨hz, hTI, ⟨_, _, _, hTO⟩, ⟨_, g1, rfl, rfl⟩, ⟨_, g2, rfl, rfl⟩, ⟨_, g3, rfl, rfl⟩⟩, fun d hdm => ?_, q⟩
        have hle : N ≤ d := by
          have e' : d = N + 5 ∨ d = N + 3 ∨ d = N + 4 ∨ d = N ∨ d = N + 1 ∨ d = N + 2 := by simpa using hdm
          rcases e' with e | e | e | e | e | e <;> rw [e] <;> first | exact Nat.le_refl _ | exact Nat.le_add_right _ _
        have hle2 : s1.heap.objs.size ≤ d := by rw [hN]; exact hle
        exact I1.fpOk hle2 (I1.hok.fresh hle2)
def zip3 : List Val → Option Ix
  | [.d (.tuple xs), .d (.tuple ys), .d (.tuple zs)] => some ⟨(xs.zip (ys.zip zs)).map fun p => .d (.tuple [p.1, p.2.1, p.2.2]), []⟩
  | _ => none
theorem itok_zip3 {K : PySem.W.Frag} {mh : List Ob} {F : Hp} {ρ : List Addr} {H : Hp} {a b c : Addr} {xs ys zs : List Dt} (wd : Wd K mh F ρ H) (d1 : DenV K F ρ (.ref a) (.d (.tuple xs))) (d2 : DenV K F ρ (.ref b) (.d (.tuple ys))) (d3 : DenV K F ρ (.ref c) (.d (.tuple zs))) :
    ItOk K (Itz3 K a b c) ⟨(xs.zip (ys.zip zs)).map fun p => .d (.tuple [p.1, p.2.1, p.2.2]), []⟩ F ρ where
  small := by
    cases d1 with
    | tup q z r =>
      show (List.map _ _).length ≤ _
      rw [List.length_map, List.length_zip]
      omega
  stop := fun {mh2 F2 ρ2 H2} w2 r hp g => by
    cases d1 with
    | tup q z r1 =>
      cases d2 with
      | tup q2 z2 r2 =>
        cases d3 with
        | tup q3 z3 r3 =>
          have e1 := r1.length
          have e2 := r2.length
          have e3 := r3.length
          refine ⟨_, _, _, w2.rle.sqT (r.sqT q), w2.rle.sqT (r.sqT q2), w2.rle.sqT (r.sqT q3), ?_⟩
          show (List.map _ _).length ≤ _ ∧ (List.map _ _).length ≤ _ ∧ (List.map _ _).length ≤ _ ∧ ((List.map _ _).length = _ ∨ (List.map _ _).length = _ ∨ (List.map _ _).length = _)
          rw [List.length_map, List.length_zip, List.length_zip]
          omega
  go := fun {mh2 F2 ρ2 H2 i x} w2 r hp g hx => by
    cases d1 with
    | tup q z r1 =>
      cases d2 with
      | tup q2 z2 r2 =>
        cases d3 with
        | tup q3 z3 r3 =>
          have hx : ((xs.zip (ys.zip zs)).map fun p => Val.d (.tuple [p.1, p.2.1, p.2.2]))[i]? = some x := hx
          rw [List.getElem?_map] at hx
          obtain ⟨p, h1, h2⟩ := Option.map_eq_some_iff.mp hx
          obtain ⟨h3, h4⟩ := List.getElem?_zip_eq_some.mp h1
          obtain ⟨h5, h6⟩ := List.getElem?_zip_eq_some.mp h4
          obtain ⟨x1, k1, l1⟩ := r1.get h3
          obtain ⟨x2, k2, l2⟩ := r2.get h5
          obtain ⟨x3, k3, l3⟩ := r3.get h6
          have s1 := w2.rle.sqT (r.sqT q)
          have s2 := w2.rle.sqT (r.sqT q2)
          have s3 := w2.rle.sqT (r.sqT q3)
          refine ⟨⟨_, _, _, x1, x2, x3, s1, s2, s3, k1, k2, k3⟩, fun y H'' hy => ?_⟩
          obtain ⟨T, y1, y2, y3, rfl, nT, rfl, m1, m2, m3⟩ := hy
          have e1 : y1 = x1 := Option.some.inj ((m1 _ s1).symm.trans k1)
          have e2 : y2 = x2 := Option.some.inj ((m2 _ s2).symm.trans k2)
          have e3 : y3 = x3 := Option.some.inj ((m3 _ s3).symm.trans k3)
          subst e1 e2 e3
          obtain ⟨w', g'⟩ := w2.newF (o := .tup [y1, y2, y3]) nT
          refine ⟨_, w', g', ?_⟩
          subst h2
          exact Den.tup (.inl (.inl upd_same)) (by show 3 ≤ sizeLine; decide) (.cons ((l1.mono r).mono g'.rd) (.cons ((l2.mono r).mono g'.rd) (.cons ((l3.mono r).mono g'.rd) .nil)))
theorem si_zip3 {X : Cx} {a b c : Expr} {as : Sl → M (List Val)} {p pos tpos : Pos} {elts : List Expr} {kk : Nat} (hg : Gl X "zip") (hm : X.mg "zip" = none) (h : SA X [a, b, c] as) (hs : starEach [a, b, c] X.env = (false, eval a X.env) :: starEach [b, c] X.env) (hpl : (backTo pos (starEach [b, c] X.env)).any (·.1) = false) :
    SI X (.Tuple elts kk tpos) (.Call (.Name "zip" p) [a, b, c] [] pos) (iArgs zip3 as) :=
  SI.mk (pi_zip3 hg hm h hs hpl) fun R rl e q => by
    obtain ⟨vs, mh1, e1, ea⟩ := M.bind_some.mp e
    obtain ⟨e2, e3⟩ := ofO_some.mp ea
    simp only at e2 e3
    subst e3
    refine ⟨_, _, _, _, _, _, rl, e1, fun F1 ρ1 H1 us w1 g1 d1 => ?_⟩
    unfold zip3 at e2
    split at e2
    · cases e2
      cases d1 with
      | cons dv dn =>
        cases dn with
        | cons dw dn =>
          cases dn with
          | cons du dn =>
            cases dn
            obtain ⟨a, us, rfl, qa, _, _⟩ := seqT_ok w1 dv rfl
            obtain ⟨b, vs, rfl, qb, _, _⟩ := seqT_ok w1 dw rfl
            obtain ⟨c, ws, rfl, qc, _, _⟩ := seqT_ok w1 du rfl
            exact ⟨a, b, c, _, _, _, rfl, qa, qb, qc, q _ _ _ _ w1 g1 (itok_zip3 w1 dv dw du)⟩
    · cases e2
end Pv

/-! PE: a walk over a tuple with the numbers of its items -/
namespace Pv
open PySem PySem.Spec PyProof.Rows L2
open Sem (wp)

theorem meets_enum_new1 {v : Value} {o : Obj} {H : Heap → Prop} (B : Begins v o H) :
    Meets (Builtin.«enumerate.__new__» ⟨[.type "enumerate", v], []⟩) (fun _ R s => H s.heap ∧
      R (.ok (.ret (.ref (s.heap.push o).objs.size))) { s with heap := (s.heap.push o).push { cls := .type "enumerate", data := .fields #[.none, .bool false, .ref s.heap.objs.size, rawInt 0, .none, .none] } }) :=
  .of_wp fun prog w A R s h => by
    obtain ⟨hp, g, d, tk, os⟩ := s; obtain ⟨h1, h⟩ := h
    have hsub := sub_enumerate
    have q1 : ∀ {A' : Around} {E : Value → Shared → Prop} {Q : Value → Shared → Prop}, Q (.ref hp.objs.size) ⟨hp.push o, g, d, tk, os⟩ → wpAny (model prog w) A' (pyIter v) Q E ⟨hp, g, d, tk, os⟩ :=
      fun q => B.iter prog w _ _ ⟨hp, g, d, tk, os⟩ _ h1 q
    wp_walk using q1
    refine wpAny_stack_any fun st => wpAny_pure ?_
    split
    · rename_i c _ _ _ _ _
      cases (c == Value.type "enumerate")
      · wp_walk using q1
        exact ⟨_, rfl, h⟩
      · wp_walk using q1
        exact ⟨_, rfl, h⟩
    · wp_walk using q1
      exact ⟨_, rfl, h⟩
section
variable {prog : Program} {w : World} {A : Around} {E : Value → Shared → Prop} {s : Shared}
theorem enum_begins1 {v : Value} {o : Obj} {H : Heap → Prop} {Q : Value → Shared → Prop} (B : Begins v o H) (h1 : H s.heap)
    (h : ∀ h', IsEnum h' (s.heap.objs.size + 1) s.heap.objs.size 0 .none → h'.get? s.heap.objs.size = some o → h'.objs.size = s.heap.objs.size + 2 →
      (∀ b o, s.heap.get? b = some o → h'.get? b = some o) → Q (.ref (s.heap.objs.size + 1)) { s with heap := h' }) :
    wpAny (model prog w) A (call (.type "enumerate") [v]) Q E s := by
  refine callType_new F.called_enumerate (by decide) (F.typeCall_enumerate_1 _) (F.newCall_enumerate_1 _) (fun obj => F.args_object_init_2 obj _) F.entry_enumerate_new
    (meets_enum_new1 B) ⟨h1, ?_⟩
  have hz : (s.heap.push o).objs.size = s.heap.objs.size + 1 := Heap.size_push ..
  show _ ∧ _
  rw [hz]
  have he : IsEnum ((s.heap.push o).push { cls := .type "enumerate", data := .fields #[.none, .bool false, .ref s.heap.objs.size, rawInt 0, .none, .none] }) (s.heap.objs.size + 1) s.heap.objs.size 0 .none := by
    have := Heap.get?_push_size (s.heap.push o) (o := { cls := .type "enumerate", data := .fields #[.none, .bool false, .ref s.heap.objs.size, rawInt 0, .none, .none] }) rfl
    rw [hz] at this; exact this
  refine ⟨⟨_, he, rfl⟩, h _ he (Heap.get?_push_of_some _ (Heap.get?_push_size _ B.free)) (by rw [Heap.size_push, hz]) fun b o x => Heap.get?_push_of_some _ (Heap.get?_push_of_some _ x)⟩
end
def IteT (K : PySem.W.Frag) (a : Addr) : It :=
  ⟨fun i H => ∃ (xs : List V) (x : V), SqT K H a xs ∧ xs[i]? = some x, fun i H v H' => ∃ T x, v = .ref T ∧ H T = none ∧ H' = upd H T (.tup [.int (i : Nat), x]) ∧ ∀ xs, SqT K H a xs → xs[i]? = some x, fun i H => ∃ xs : List V, SqT K H a xs ∧ xs.length = i⟩
theorem turn_enumT {P : Program} {w : World} {K : PySem.W.Frag} {elts : List Expr} {kk : Nat} {tpos : Pos} (a e it : Addr) (n1 : a ≠ it) (n2 : e ≠ a) :
    Turn P w K (.Tuple elts kk tpos) (IteT K a) [e, it] e (fun i h => (∃ old, IsEnum h e it ((i : Nat) : Int) old) ∧ h.IsTupleIter it a i ∧ e ≠ it) where
  mem := by simp
  obj := fun i h st b hb => by
    obtain ⟨⟨old, he⟩, ⟨o, ho, hc, hd⟩, _⟩ := st
    have e' : b = e ∨ b = it := by simpa using hb
    rcases e' with z | z
    · rw [z]; exact ⟨_, he, fun v q => nomatch q⟩
    · rw [z]; exact ⟨o, ho, fun v q => by rw [hd] at q; cases q⟩
  keep := fun i h h' st k => let ⟨⟨old, he⟩, hi, hne⟩ := st; ⟨⟨old, k e (by simp) _ he⟩, hi.at fun o q => k it (by simp) o q, hne⟩
  item := by
    intro X hP hw hK hc i pins s σ H E I hf st hg
    subst hP hw hK
    obtain ⟨⟨old, he⟩, hit, hne⟩ := st
    obtain ⟨xs, x, hq, hx⟩ := hg
    obtain ⟨its, rv, p, hz⟩ := I.tuple hq
    obtain ⟨u, hu, ru⟩ := rv.get hx
    have hel : e < s.heap.objs.size := Heap.lt_size he
    have hil : it < s.heap.objs.size := by obtain ⟨_, q, _⟩ := hit; exact Heap.lt_size q
    have lt1 : i < its.toArray.size := by simpa using (List.getElem?_eq_some_iff.mp hu).1
    have hef : e ∉ [it, a] := by
      intro z
      rcases List.mem_cons.mp z with z | z
      · exact hne z
      · exact n2 (List.mem_singleton.mp z)
    refine wpAny_pyNext_enum_itemD (Draws.tuple (prog := X.prog) (w := X.w) (A := X.A.in1) (I.ok.hd hc) it a n1 its.toArray) he ⟨hit, p⟩ lt1 hne hef fun v h' tk hPx ho hst' hT hsz hk => ?_
    obtain ⟨hit', p'⟩ := hst'
    have w1 : v = u := Option.some.inj (hPx.symm.trans (by simpa using hu))
    subst w1
    refine ⟨_, rfl, wpAny_letOwnedTupleGo_enum (s := { s with heap := h', toks := tk + 1 }) ho fun h'' he' sb => ?_⟩
    have hT2 : h''.get? s.heap.objs.size = some { cls := .type "tuple", data := .seq #[.int i tk, v] } := (sb.2 _ (Nat.ne_of_gt hel)).trans hT
    have new : ObjOk X.prog X.w (upd H s.heap.objs.size (.tup [.int (i : Nat), x])) h'' s.heap.objs.size (.tup [.int (i : Nat), x]) :=
      ⟨by show 2 ≤ sizeLine; decide, [.int i tk, v], .cons ⟨_, rfl⟩ (.cons ru .nil), ⟨_, hT2, rfl, _, rfl⟩⟩
    have I1 : Inv X pins σ (upd H s.heap.objs.size (.tup [.int (i : Nat), x])) { s with heap := h'', toks := tk + 1 } :=
      I.turnedNew (ch := [e, it]) (fun b ob hb q => (sb.2 b (fun z => hb (by simp [z]))).trans (hk b ob (fun z => hb (by simp [z])) (fun z => hb (by simp [z])) q)) hf (Nat.le_refl _) new
    refine ⟨.ref s.heap.objs.size, _, I1, rfl, ⟨_, x, rfl, I.hok.fresh (Nat.le_refl _), rfl, fun ys hy => by rw [I.tuple_inj hy hq]; exact hx⟩, ⟨⟨v, ?_⟩, hit'.at fun o q => (sb.2 it (Ne.symm hne)).trans q, hne⟩, fun b hb => ?_⟩
    · have e1 : ((i + 1 : Nat) : Int) = (i : Int) + 1 := by omega
      rw [e1]; exact he'
    · have hb' : b < s.heap.objs.size := by
        have e' : b = e ∨ b = it := by simpa using hb
        rcases e' with z | z
        · rw [z]; exact hel
        · rw [z]; exact hil
      rw [upd_ne (Nat.ne_of_lt hb')]
      exact (hf b hb).1
  done := by
    intro X hP hw hK hc i pins s σ H E I hf st hg
    subst hP hw hK
    obtain ⟨⟨old, he⟩, hit, hne⟩ := st
    obtain ⟨xs, hq, hx⟩ := hg
    obtain ⟨its, rv, p, hz⟩ := I.tuple hq
    obtain ⟨f0, f1, f2, f3, f4, f5⟩ := hf it (by simp)
    have hl := rv.length
    have hit2 : s.heap.IsTupleIter it a its.toArray.size := by
      have : its.toArray.size = i := by simp; omega
      rw [this]; exact hit
    exact wpAny_pyNext_enum_endD (Draws.tuple (prog := X.prog) (w := X.w) (A := X.A.in1) (I.ok.hd hc) it a n1 its.toArray) he ⟨hit2, p⟩ fun h' eb => ⟨rfl, I.turned (t' := s.toks) (fun b o hb q => eb b o hb q) f0 f1 f3 f4 f5⟩
  self := fun A i s Q E st h => let ⟨⟨_, he⟩, _⟩ := st; wpAny_pyIter_enum he h
def iEnumT (K : PySem.W.Frag) (ta : TA) : TI := fun σ H R => ta σ H fun vs H1 => ∃ a, vs = [.ref a] ∧ ((∃ xs, SqT K H1 a xs ∧ R (IteT K a) H1) ∨ ∃ xs, SqL K H1 a xs ∧ R (Ite K a) H1)
theorem pi_enumT {X : Cx} {e : Expr} {ta : TA} {p pos tpos : Pos} {elts : List Expr} {kk : Nat} (hg : Gl X "enumerate") (hm : X.mg "enumerate" = none) (ha : PA X [e] ta) (hs : starEach [e] X.env = (false, eval e X.env) :: starEach [] X.env) :
    PI X (.Tuple elts kk tpos) (.Call (.Name "enumerate" p) [e] [] pos) (iEnumT X.K ta) := by
  refine ⟨fun pins s σ H R I h => ?_⟩
  refine Call_ (ld_blt I hg hm boot_enumerate (PyProof.Rows.callWith_type1 (thn (ha.run pos pins s σ H _ I h) fun us s1 ⟨vs, H1, I1, r1, q1⟩ => ?_) hs rfl))
  obtain ⟨a, ex, q1⟩ := q1
  subst ex
  cases r1 with
  | cons r rr =>
    cases rr
    cases r
    rcases q1 with ⟨xs, hq, q⟩ | ⟨xs, hq, q⟩
    · obtain ⟨its, rv, p', hz⟩ := I1.tuple hq
      have la : a < s1.heap.objs.size := by obtain ⟨o1, ho1, _⟩ := id p'; exact Heap.lt_size ho1
      refine enum_begins1 (begins_tuple a its.toArray) p' fun h' he g1 hsz hk => wpAny_pyIter_enum he ?_
      have I2 : Inv X pins σ H1 { s1 with heap := h' } := I1.kept (t' := s1.toks) hk
      refine ⟨s1.heap.objs.size + 1, [s1.heap.objs.size + 1, s1.heap.objs.size], _, _, H1, rfl, I2, turn_enumT a (s1.heap.objs.size + 1) s1.heap.objs.size (Nat.ne_of_lt la) (Nat.ne_of_gt (Nat.lt_succ_of_lt la)), ⟨⟨.none, he⟩, ⟨_, g1, rfl, rfl⟩, Nat.succ_ne_self _⟩, fun b hb => ?_, q⟩
      have e' : b = s1.heap.objs.size + 1 ∨ b = s1.heap.objs.size := by simpa using hb
      have hle : s1.heap.objs.size ≤ b := by
        rcases e' with z | z
        · rw [z]; exact Nat.le_add_right _ _
        · rw [z]; exact Nat.le_refl _
      exact I1.fpOk hle (I1.hok.fresh hle)
    · obtain ⟨its, rv, p', hz⟩ := I1.list hq
      refine enum_begins1 (begins_list a its.toArray) p'.isList fun h' he g1 hsz hk => wpAny_pyIter_enum he ?_
      have I2 : Inv X pins σ H1 { s1 with heap := h' } := I1.kept (t' := s1.toks) hk
      refine ⟨s1.heap.objs.size + 1, [s1.heap.objs.size + 1, s1.heap.objs.size], _, _, H1, rfl, I2, turn_enum a (s1.heap.objs.size + 1) s1.heap.objs.size, ⟨⟨.none, he⟩, ⟨_, g1, rfl, rfl⟩, Nat.succ_ne_self _⟩, fun b hb => ?_, q⟩
      have e' : b = s1.heap.objs.size + 1 ∨ b = s1.heap.objs.size := by simpa using hb
      have hle : s1.heap.objs.size ≤ b := by
        rcases e' with z | z
        · rw [z]; exact Nat.le_add_right _ _
        · rw [z]; exact Nat.le_refl _
      exact I1.fpOk hle (I1.hok.fresh hle)
def enumV : List Val → Option Ix
  | [.d (.tuple xs)] => some ⟨(xs.zipIdx).map fun p => .d (.tuple [.int (p.2 : Nat), p.1]), []⟩
  | [.d (.list xs)] => some ⟨(xs.zipIdx).map fun p => .d (.tuple [.int (p.2 : Nat), p.1]), []⟩
  | _ => none
theorem itok_enumT {K : PySem.W.Frag} {mh : List Ob} {F : Hp} {ρ : List Addr} {H : Hp} {a : Addr} {xs : List Dt} (wd : Wd K mh F ρ H) (d1 : DenV K F ρ (.ref a) (.d (.tuple xs))) :
    ItOk K (IteT K a) ⟨(xs.zipIdx).map fun p => .d (.tuple [.int (p.2 : Nat), p.1]), []⟩ F ρ where
  small := by
    cases d1 with
    | tup q z r =>
      show (List.map _ _).length ≤ _
      rw [List.length_map, List.length_zipIdx]
      exact z
  stop := fun {mh2 F2 ρ2 H2} w2 r hp g => by
    cases d1 with
    | tup q z r1 =>
      have e1 := r1.length
      refine ⟨_, w2.rle.sqT (r.sqT q), ?_⟩
      show _ = (List.map _ _).length
      rw [List.length_map, List.length_zipIdx]
      exact e1
  go := fun {mh2 F2 ρ2 H2 i x} w2 r hp g hx => by
    cases d1 with
    | tup q z r1 =>
      have hx : ((xs.zipIdx).map fun p => Val.d (.tuple [.int (p.2 : Nat), p.1]))[i]? = some x := hx
      rw [List.getElem?_map, List.getElem?_zipIdx, Option.map_map] at hx
      obtain ⟨d, h1, h2⟩ := Option.map_eq_some_iff.mp hx
      obtain ⟨x1, k1, l1⟩ := r1.get h1
      have s1 := w2.rle.sqT (r.sqT q)
      refine ⟨⟨_, x1, s1, k1⟩, fun y H'' hy => ?_⟩
      obtain ⟨T, y1, rfl, nT, rfl, m1⟩ := hy
      have e1 : y1 = x1 := Option.some.inj ((m1 _ s1).symm.trans k1)
      subst e1
      obtain ⟨w', g'⟩ := w2.newF (o := .tup [.int (i : Nat), y1]) nT
      refine ⟨_, w', g', ?_⟩
      subst h2
      have e3 : ((0 + i : Nat) : Int) = (i : Int) := by omega
      show DenV _ _ _ _ (.d (.tuple [.int ((0 + i : Nat) : Int), d]))
      rw [e3]
      exact Den.tup (.inl (.inl upd_same)) (by show 2 ≤ sizeLine; decide) (.cons (.int _) (.cons ((l1.mono r).mono g'.rd) .nil))
theorem itok_enumL {K : PySem.W.Frag} {mh : List Ob} {F : Hp} {ρ : List Addr} {H : Hp} {a : Addr} {xs : List Dt} (wd : Wd K mh F ρ H) (d1 : DenV K F ρ (.ref a) (.d (.list xs))) :
    ItOk K (Ite K a) ⟨(xs.zipIdx).map fun p => .d (.tuple [.int (p.2 : Nat), p.1]), []⟩ F ρ where
  small := by
    cases d1 with
    | lst q z r =>
      show (List.map _ _).length ≤ _
      rw [List.length_map, List.length_zipIdx]
      exact z
  stop := fun {mh2 F2 ρ2 H2} w2 r hp g => by
    cases d1 with
    | lst q z r1 =>
      have e1 := r1.length
      refine ⟨_, w2.rle.sqL (r.sqL q), ?_⟩
      show _ ≤ (List.map _ _).length
      rw [List.length_map, List.length_zipIdx]
      exact Nat.le_of_eq e1
  go := fun {mh2 F2 ρ2 H2 i x} w2 r hp g hx => by
    cases d1 with
    | lst q z r1 =>
      have hx : ((xs.zipIdx).map fun p => Val.d (.tuple [.int (p.2 : Nat), p.1]))[i]? = some x := hx
      rw [List.getElem?_map, List.getElem?_zipIdx, Option.map_map] at hx
      obtain ⟨d, h1, h2⟩ := Option.map_eq_some_iff.mp hx
      obtain ⟨x1, k1, l1⟩ := r1.get h1
      have s1 := w2.rle.sqL (r.sqL q)
      refine ⟨⟨_, x1, s1, k1⟩, fun y H'' hy => ?_⟩
      obtain ⟨T, y1, rfl, nT, rfl, m1⟩ := hy
      have e1 : y1 = x1 := Option.some.inj ((m1 _ s1).symm.trans k1)
      subst e1
      obtain ⟨w', g'⟩ := w2.newF (o := .tup [.int (i : Nat), y1]) nT
      refine ⟨_, w', g', ?_⟩
      subst h2
      have e3 : ((0 + i : Nat) : Int) = (i : Int) := by omega
      show DenV _ _ _ _ (.d (.tuple [.int ((0 + i : Nat) : Int), d]))
      rw [e3]
      exact Den.tup (.inl (.inl upd_same)) (by show 2 ≤ sizeLine; decide) (.cons (.int _) (.cons ((l1.mono r).mono g'.rd) .nil))
theorem si_enumT {X : Cx} {a : Expr} {as : Sl → M (List Val)} {p pos tpos : Pos} {elts : List Expr} {kk : Nat} (hg : Gl X "enumerate") (hm : X.mg "enumerate" = none) (h : SA X [a] as) (hs : starEach [a] X.env = (false, eval a X.env) :: starEach [] X.env) :
    SI X (.Tuple elts kk tpos) (.Call (.Name "enumerate" p) [a] [] pos) (iArgs enumV as) :=
  SI.mk (pi_enumT hg hm h hs) fun R rl e q => by
    obtain ⟨vs, mh1, e1, ea⟩ := M.bind_some.mp e
    obtain ⟨e2, e3⟩ := ofO_some.mp ea
    simp only at e2 e3
    subst e3
    refine ⟨_, _, _, _, _, _, rl, e1, fun F1 ρ1 H1 us w1 g1 d1 => ?_⟩
    unfold enumV at e2
    split at e2
    · cases e2
      cases d1 with
      | cons dv dn =>
        cases dn
        obtain ⟨a, us, rfl, qa, _, _⟩ := seqT_ok w1 dv rfl
        exact ⟨a, rfl, .inl ⟨_, qa, q _ _ _ _ w1 g1 (itok_enumT w1 dv)⟩⟩
    · cases e2
      cases d1 with
      | cons dv dn =>
        cases dn
        obtain ⟨a, us, rfl, qa, _, _⟩ := seqL_ok w1 dv rfl
        exact ⟨a, rfl, .inr ⟨_, qa, q _ _ _ _ w1 g1 (itok_enumL w1 dv)⟩⟩
    · cases e2
end Pv

/-! PI: t.index(x), t a tuple of texts -/
namespace Pv
open PySem PySem.Spec PyProof.Rows L2
section
variable {X : Cx}
def idxVl (o : Val) (as : List Val) : M Val := fun mh => match o, as with
  | .d (.tuple xs), [.d (.str z)] => match allOf asStr (xs.map Val.d) with
    | some ys => if ys.idxOf z < ys.length then some (.d (.int (ys.idxOf z : Nat)), mh) else none
    | none => none
  | _, _ => none
theorem mts_index : MtS X "tuple" "tuple.index" idxVl := by
  refine ⟨_, mt_tup_index, fun Q w dx dv e q => ?_⟩
  unfold idxVl at e
  split at e
  · rename_i xs z
    cases e1 : allOf asStr (xs.map Val.d) with
    | none => rw [e1] at e; cases e
    | some ys =>
      rw [e1] at e
      simp only at e
      split at e
      · rename_i hlt
        cases dv with
        | cons d dn =>
          cases dn
          cases e
          have hz := den_str d
          subst hz
          cases dx with
          | tup q1 z1 r1 =>
            have hu := (allOf_ok (g := V.str) (fun d h => asStr_ok d h) (DenVs.of_all (ρ := []) r1) e1).1
            subst hu
            refine ⟨_, ys, z, ys.idxOf z, rfl, rfl, w.rle.sqT q1, ?_, fun m hm e2 => ?_, q _ _ _ w .refl (Den.int _)⟩
            · rw [List.getElem?_eq_getElem hlt, List.getElem_idxOf hlt]
            · obtain ⟨h1, h2⟩ := List.getElem?_eq_some_iff.mp e2
              have h3 := List.idxOf_lt_length_iff.mp hlt
              have := List.not_of_lt_findIdx (p := (· == z)) hm
              rw [h2] at this
              simp at this
      · cases e
  · cases e
end
end Pv

/-! P7: statements, loops, comprehensions, calls -/
namespace Pv
open PySem PySem.Spec PyProof.Rows L2

inductive Fl where
  | nx (e : Sl) | rt (v : Val) | bk (e : Sl) | ct (e : Sl)
def Post (K : PySem.W.Frag) (D : Ends) (mh : List Ob) (F : Hp) (ρ : List Addr) (H : Hp) : Fl → Prop
  | .nx e => ∀ F' ρ' σ' H', Rl K e mh F' ρ' σ' H' → Gr F ρ H F' ρ' H' → D.nx σ' H'
  | .rt v => ∀ F' ρ' H' u, Wd K mh F' ρ' H' → Gr F ρ H F' ρ' H' → DenV K F' ρ' u v → D.rt u H'
  | .bk e => ∀ F' ρ' σ' H', Rl K e mh F' ρ' σ' H' → Gr F ρ H F' ρ' H' → D.bk σ' H'
  | .ct e => ∀ F' ρ' σ' H', Rl K e mh F' ρ' σ' H' → Gr F ρ H F' ρ' H' → D.ct σ' H'
def tSt (K : PySem.W.Frag) (m : Sl → M Fl) : TS := fun D σ H => ∃ env mh F ρ fl mh', Rl K env mh F ρ σ H ∧ m env mh = some (fl, mh') ∧ Post K D mh' F ρ H fl
def SS (X : Cx) (st : Stmt) (m : Sl → M Fl) : Prop := PS X st (tSt X.K m)
def SSs (X : Cx) (st : List Stmt) (m : Sl → M Fl) : Prop := PSs X st (tSt X.K m)
theorem Post.grow {K : PySem.W.Frag} {D : Ends} {mh : List Ob} {F F1 : Hp} {ρ ρ1 : List Addr} {H H1 : Hp} {fl : Fl} (p : Post K D mh F ρ H fl) (g : Gr F ρ H F1 ρ1 H1) : Post K D mh F1 ρ1 H1 fl := by
  cases fl with
  | nx e => exact fun F' ρ' σ' H' r g' => p F' ρ' σ' H' r (g.trans g')
  | bk e => exact fun F' ρ' σ' H' r g' => p F' ρ' σ' H' r (g.trans g')
  | ct e => exact fun F' ρ' σ' H' r g' => p F' ρ' σ' H' r (g.trans g')
  | rt v => exact fun F' ρ' H' u w g' d => p F' ρ' H' u w (g.trans g') d
section
variable {X : Cx} {pos : Pos}
theorem SS.mk {st : Stmt} {t : TS} {m : Sl → M Fl} (h : PS X st t) (k : ∀ {env : Sl} {mh mh' : List Ob} {F : Hp} {ρ : List Addr} {σ : L2.St} {H : Hp} {fl : Fl} (D : Ends), Rl X.K env mh F ρ σ H → m env mh = some (fl, mh') →
    Post X.K D mh' F ρ H fl → t D σ H) : SS X st m := by
  refine ⟨fun pins s σ H D I h1 => ?_⟩
  obtain ⟨env, mh, F, ρ, fl, mh', rl, e1, q⟩ := h1
  exact h.run pins s σ H D I (k D rl e1 q)
theorem SSs.mk {st : List Stmt} {t : TS} {m : Sl → M Fl} (h : PSs X st t) (k : ∀ {env : Sl} {mh mh' : List Ob} {F : Hp} {ρ : List Addr} {σ : L2.St} {H : Hp} {fl : Fl} (D : Ends), Rl X.K env mh F ρ σ H → m env mh = some (fl, mh') →
    Post X.K D mh' F ρ H fl → t D σ H) : SSs X st m := by
  refine ⟨fun pins s σ H D I h1 => ?_⟩
  obtain ⟨env, mh, F, ρ, fl, mh', rl, e1, q⟩ := h1
  exact h.run pins s σ H D I (k D rl e1 q)

/-! ### blocks -/
def mNil (env : Sl) : M Fl := pure (.nx env)
def mSeq (a b : Sl → M Fl) (env : Sl) : M Fl := do
  let f ← a env
  match f with
  | .nx e => b e
  | .rt v => pure (.rt v)
  | .bk e => pure (.bk e)
  | .ct e => pure (.ct e)
theorem sss_nil : SSs X [] mNil := SSs.mk pss_nil fun D rl e q => by cases e; exact q _ _ _ _ rl .refl
theorem sss_cons {st : Stmt} {rest : List Stmt} {a b : Sl → M Fl} (h1 : SS X st a) (h2 : SSs X rest b) : SSs X (st :: rest) (mSeq a b) :=
  SSs.mk (pss_cons h1 h2) fun D rl e q => by
    obtain ⟨f, mh1, e1, ea⟩ := M.bind_some.mp e
    refine ⟨_, _, _, _, _, _, rl, e1, ?_⟩
    cases f with
    | nx e2 => exact fun F1 ρ1 σ1 H1 r1 g1 => ⟨_, _, _, _, _, _, r1, ea, q.grow g1⟩
    | rt v => cases ea; exact q
    | bk e2 => cases ea; exact q
    | ct e2 => cases ea; exact q
/-- a ghost: the cell in slot i is frozen -/
def mFrz (i : Nat) (env : Sl) : M Fl := fun mh => match env.getD i none with
  | some (.ref n) => match mh[n]? with
    | some (.lst vs) => (asDs vs).map fun ds => (.nx (env.set i (some (.d (.list ds)))), mh.set n .dead)
    | some (.dct kvs) => (asDKs kvs).map fun ds => (.nx (env.set i (some (.d (.dict ds)))), mh.set n .dead)
    | _ => none
  | _ => none
theorem Rl.setGhost {K : PySem.W.Frag} {env : Sl} {mh : List Ob} {F : Hp} {ρ : List Addr} {σ : L2.St} {H : Hp} {u : V} {v : Val} {i : Nat} (r : Rl K env mh F ρ σ H) (hu : σ[i]? = some (some u)) (d : DenV K F ρ u v) : Rl K (env.set i (some v)) mh F ρ σ H := by
  have h := r.set i d
  have e : σ.set i (some u) = σ := by
    obtain ⟨h1, h2⟩ := List.getElem?_eq_some_iff.mp hu
    rw [← h2]
    exact List.set_getElem_self h1
  rw [e] at h
  exact h
theorem mFrz_ok {K : PySem.W.Frag} {env : Sl} {mh mh' : List Ob} {F : Hp} {ρ : List Addr} {σ : L2.St} {H : Hp} {fl : Fl} {i : Nat} (r : Rl K env mh F ρ σ H) (h : mFrz i env mh = some (fl, mh')) : ∃ env' F', fl = .nx env' ∧ Rl K env' mh' F' ρ σ H ∧ Gr F ρ H F' ρ H := by
  unfold mFrz at h
  split at h
  · rename_i n e0
    have e1 : env[i]? = some (some (.ref n)) := by
      rw [List.getD_eq_getElem?_getD] at e0
      cases h4 : env[i]? with
      | none => rw [h4] at e0; cases e0
      | some o => rw [h4] at e0; rw [show o = some (.ref n) from e0]
    obtain ⟨u, hu, a, ea, rfl⟩ := r.get i _ e1
    split at h
    · rename_i vs e2
      obtain ⟨ds, e3, e4⟩ := Option.map_eq_some_iff.mp h
      cases e4
      obtain ⟨z, us, q1, q2⟩ := r.wd.cell n a _ ea e2
      obtain ⟨w', g'⟩ := r.wd.freeze ea e2 rfl q1
      have e5 := asDs_eq e3
      subst e5
      exact ⟨_, _, rfl, (r.grow w' g').setGhost hu (Den.lst (.inl (.inl upd_same)) (by rw [List.length_map] at z; exact z) (q2.all.mono g'.rd)), g'⟩
    · rename_i kvs e2
      obtain ⟨ds, e3, e4⟩ := Option.map_eq_some_iff.mp h
      cases e4
      obtain ⟨z, us, q1, q2⟩ := r.wd.cell n a _ ea e2
      obtain ⟨w', g'⟩ := r.wd.freeze ea e2 rfl q1
      obtain ⟨d1, d2⟩ := q2.all e3
      exact ⟨_, _, rfl, (r.grow w' g').setGhost hu (Den.dct (.inl upd_same) (by rw [d2]; exact z) (d1.mono g'.rd)), g'⟩
    · cases h
  · cases h
theorem sss_frz {i : Nat} {rest : List Stmt} {b : Sl → M Fl} (h2 : SSs X rest b) : SSs X rest (mSeq (mFrz i) b) := by
  refine ⟨fun pins s σ H D I h1 => ?_⟩
  obtain ⟨env, mh, F, ρ, fl, mh', rl, e1, q⟩ := h1
  obtain ⟨f, mh1, e2, ea⟩ := M.bind_some.mp e1
  obtain ⟨env', F', rfl, r', g'⟩ := mFrz_ok rl e2
  exact h2.run pins s σ H D I ⟨_, _, _, _, _, _, r', ea, q.grow g'⟩

/-! ### small statements -/
def mPass (env : Sl) : M Fl := pure (.nx env)
def mBrk (env : Sl) : M Fl := pure (.bk env)
def mCnt (env : Sl) : M Fl := pure (.ct env)
theorem ss_pass : SS X (.Pass pos) mPass := SS.mk ps_pass fun D rl e q => by cases e; exact q _ _ _ _ rl .refl
theorem ss_brk : SS X (.Break pos) mBrk := SS.mk ps_break fun D rl e q => by cases e; exact q _ _ _ _ rl .refl
theorem ss_cnt : SS X (.Continue pos) mCnt := SS.mk ps_continue fun D rl e q => by cases e; exact q _ _ _ _ rl .refl
def mExpr (a : Sl → M Val) (env : Sl) : M Fl := do
  let _ ← a env
  pure (.nx env)
theorem ss_expr {a : Expr} {ma : Sl → M Val} (ha : SE X a ma) (hs : swapsWith a none pos.line X.env = pure false) : SS X (.Expr a pos) (mExpr ma) :=
  SS.mk (ps_expr ha hs) fun D rl e q => by
    obtain ⟨v, mh1, e1, ea⟩ := M.bind_some.mp e
    cases ea
    exact ⟨_, _, _, _, _, _, rl, e1, fun F1 ρ1 H1 u w1 g1 d1 => q _ _ _ _ (rl.grow w1 g1) g1⟩
def mRet (a : Sl → M Val) (env : Sl) : M Fl := do
  let v ← a env
  pure (.rt v)
theorem ss_ret {a : Expr} {ma : Sl → M Val} (ha : SE X a ma) : SS X (.Return (some a) pos) (mRet ma) :=
  SS.mk (ps_ret ha) fun D rl e q => by
    obtain ⟨v, mh1, e1, ea⟩ := M.bind_some.mp e
    cases ea
    exact ⟨_, _, _, _, _, _, rl, e1, fun F1 ρ1 H1 u w1 g1 d1 => q _ _ _ _ w1 g1 d1⟩
theorem ss_retN : SS X (.Return none pos) (mRet (mC .none)) :=
  SS.mk ps_retN fun D rl e q => by
    cases e
    exact q _ _ _ _ rl.wd .refl Den.non
def mAsg (a : Sl → M Val) (g : Val → Sl → M Sl) (env : Sl) : M Fl := do
  let v ← a env
  let e ← g v env
  pure (.nx e)
theorem ss_asg {tg a : Expr} {ma : Sl → M Val} {sl : List Nat} {g : Val → Sl → M Sl} (ha : SE X a ma) (hg : SG X tg sl g) (hs : swapsWithSole [tg] a pos.line X.env = pure false) (hw : swappedStores [tg] a X.env = pure none)
    (h1 : (assignEach [tg] X.env).map (·.2) = [assign tg X.env]) : SS X (.Assign [tg] a pos) (mAsg ma g) :=
  SS.mk (ps_asg ha hg hs hw h1) fun D rl e q => by
    obtain ⟨v, mh1, e1, ea⟩ := M.bind_some.mp e
    obtain ⟨env', mh2, e2, eb⟩ := M.bind_some.mp ea
    cases eb
    exact ⟨_, _, _, _, _, _, rl, e1, fun F1 ρ1 H1 u w1 g1 d1 => ⟨_, _, _, _, _, _, _, rl.grow w1 g1, d1, e2, fun F2 ρ2 σ2 H2 r2 g2 _ => q _ _ _ _ r2 (g1.trans g2)⟩⟩
theorem ss_set {i : Nat} {x : Str} {a : Expr} {ma : Sl → M Val} {pos' : Pos} (hN : X.N.Nodup) (hi : X.N[i]? = some x) (hx : Loc X.env.scope x) (ha : SE X a ma) (hs : swapsWith a (some (.Name x pos')) pos.line X.env = pure false) (hf : X.fn x = true ∨ X.env.scope.names.lookup x = some .local) :
    SS X (.Assign [.Name x pos'] a pos) (mAsg ma (gNm i)) :=
  SS.mk (ps_set hN hi hx ha hs hf) fun D rl e q => by
    obtain ⟨v, mh1, e1, ea⟩ := M.bind_some.mp e
    obtain ⟨env', mh2, e2, eb⟩ := M.bind_some.mp ea
    cases eb
    cases e2
    exact ⟨_, _, _, _, _, _, rl, e1, fun F1 ρ1 H1 u w1 g1 d1 => q _ _ _ _ ((rl.grow w1 g1).set i d1) g1⟩
/-- a, b = x, y -/
def mPar (i j : Nat) (as : Sl → M (List Val)) (env : Sl) : M Fl := do
  let vs ← as env
  match vs with
  | [v, w] => pure (.nx ((env.set i (some v)).set j (some w)))
  | _ => fun _ => none
theorem ss_par {i j : Nat} {x y : Str} {a b : Expr} {as : Sl → M (List Val)} {px py pt : Pos} {kt k2 : Nat} {pt2 : Pos} (hc : X.calm = true) (hN : X.N.Nodup) (hi : X.N[i]? = some x) (hj : X.N[j]? = some y) (hij : i ≠ j)
    (hx : X.env.scope.names.lookup x = some .local) (hy : X.env.scope.names.lookup y = some .local) (ha : SA X [a, b] as)
    (hw : swappedStores [.Tuple [.Name x px, .Name y py] kt pt] (.Tuple [a, b] k2 pt2) X.env = pure (some [x, y]))
    (hs : swapsWithSole [.Tuple [.Name x px, .Name y py] kt pt] (.Tuple [a, b] k2 pt2) pos.line X.env = pure false) :
    SS X (.Assign [.Tuple [.Name x px, .Name y py] kt pt] (.Tuple [a, b] k2 pt2) pos) (mPar i j as) :=
  SS.mk (ps_par hc hN hi hj hij hx hy ha hw hs) fun D rl e q => by
    obtain ⟨vs, mh1, e1, ea⟩ := M.bind_some.mp e
    refine ⟨_, _, _, _, _, _, rl, e1, fun F1 ρ1 H1 us w1 g1 d1 => ?_⟩
    split at ea
    · rename_i v w
      cases ea
      cases d1 with
      | cons dv dn =>
        cases dn with
        | cons dw dn =>
          cases dn
          exact ⟨_, _, rfl, q _ _ _ _ (((rl.grow w1 g1).set i dv).set j dw) g1⟩
    · cases ea
/-- name op= e (ints) -/
def mAug (i : Nat) (f : Int → Int → Int) (a : Sl → M Val) (env : Sl) : M Fl := do
  let x ← mSlot i env
  let y ← a env
  match x, y with
  | .d (.int p), .d (.int q) => pure (.nx (env.set i (some (.d (.int (f p q))))))
  | _, _ => fun _ => none
theorem ss_aug {i : Nat} {x : Str} {a : Expr} {ma : Sl → M Val} {op : Operator} {f : Int → Int → Int} {pos' : Pos} (hN : X.N.Nodup) (hi : X.N[i]? = some x) (hx : Loc X.env.scope x) (ha : SE X a ma) (ho : PIp X op (ipI f)) (hf : X.fn x = true ∨ X.env.scope.names.lookup x = some .local) :
    SS X (.AugAssign (.Name x pos') op a pos) (mAug i f ma) :=
  SS.mk (ps_aug hN hi hx ha ho hf) fun D rl e q => by
    rename_i env mh mh' F ρ σ H fl
    obtain ⟨v, mh1, e1, ea⟩ := M.bind_some.mp e
    obtain ⟨w, mh2, e2, eb⟩ := M.bind_some.mp ea
    obtain ⟨h1, h2⟩ := ofO_some.mp e1
    simp only at h1 h2
    subst h2
    have h3 : env[i]? = some (some v) := by
      rw [List.getD_eq_getElem?_getD] at h1
      cases h4 : env[i]? with
      | none => rw [h4] at h1; cases h1
      | some o => rw [h4] at h1; rw [show o = some v from h1]
    obtain ⟨u, h5, h6⟩ := rl.get i v h3
    refine ⟨u, h5, _, _, _, _, _, _, rl, e2, fun F1 ρ1 H1 u1 w1 g1 d1 => ?_⟩
    split at eb
    · cases eb
      exact ⟨_, _, den_int h6, den_int d1, q _ _ _ _ ((rl.grow w1 g1).set i (Den.int _)) g1⟩
    · cases eb
def mIf (t : Sl → M Bool) (a b : Sl → M Fl) (env : Sl) : M Fl := mIte t a b env
theorem ss_if {c : Expr} {a b : List Stmt} {tc : Sl → M Bool} {ma mb : Sl → M Fl} (hc : STs X c tc) (ha : SSs X a ma) (hb : SSs X b mb) : SS X (.If c a b pos) (mIf tc ma mb) :=
  SS.mk (ps_if hc ha hb) fun D rl e q => by
    obtain ⟨x, mh1, e1, ea⟩ := M.bind_some.mp e
    refine ⟨_, _, _, _, _, _, rl, e1, fun F1 ρ1 H1 w1 g1 => ?_⟩
    cases x with
    | true => exact ⟨_, _, _, _, _, _, rl.grow w1 g1, ea, q.grow g1⟩
    | false => exact ⟨_, _, _, _, _, _, rl.grow w1 g1, ea, q.grow g1⟩

/-! ### for -/
noncomputable def loopF (gd : List (Nat × List Val)) (g : Val → Sl → M Sl) (body : Sl → M Fl) : List Val → Sl → M Fl
  | [], env => do
    chkG gd
    pure (.nx env)
  | v :: vs, env => do
    chkG gd
    let e1 ← g v env
    let f ← body e1
    match f with
    | .nx e => loopF gd g body vs e
    | .ct e => loopF gd g body vs e
    | .bk e => pure (.nx e)
    | .rt r => pure (.rt r)
noncomputable def mFor (it : Sl → M Ix) (g : Val → Sl → M Sl) (body : Sl → M Fl) (env : Sl) : M Fl := do
  let ix ← it env
  loopF ix.g g body ix.items env
theorem ss_for {tg iter : Expr} {body : List Stmt} {mi : Sl → M Ix} {sl : List Nat} {g : Val → Sl → M Sl} {mb : Sl → M Fl} (hxe : X.xe = fun _ _ => False) (hc : X.calm = true) (hi : SI X tg iter mi) (hg : SG X tg sl g) (hb : SSs X body mb)
    (hs : ∀ x, foldedSetIterable iter X.env x = pure x) : SS X (.For tg iter body [] pos) (mFor mi g mb) :=
  SS.mk (ps_for (by rw [hxe]; exact PassesOwn.never) hc hi hg hb hs) fun D rl e q => by
    rename_i env mh mh' F ρ σ H fl
    obtain ⟨ix, mh1, e1, ea⟩ := M.bind_some.mp e
    refine ⟨_, _, _, _, _, _, rl, e1, fun J F1 ρ1 H1 w1 g1 ok => ?_⟩
    refine ⟨fun i m σ2 H2 => m = ix.items.length - i ∧ i ≤ ix.items.length ∧ ∃ env2 mh2 F2 ρ2, Rl X.K env2 mh2 F2 ρ2 σ2 H2 ∧ Gr F1 ρ1 H1 F2 ρ2 H2 ∧ loopF ix.g g mb (ix.items.drop i) env2 mh2 = some (fl, mh'), ⟨ix.items.length, rfl, Nat.zero_le _, _, _, _, _, rl.grow w1 g1, .refl, ea⟩, ?_⟩
    rintro i m σ2 H2 ⟨rfl, hi2, env2, mh2, F2, ρ2, r2, g2, e2⟩
    by_cases hlt : i < ix.items.length
    · rw [List.drop_eq_getElem_cons hlt] at e2
      obtain ⟨_, mh3, e3, e4⟩ := M.bind_some.mp e2
      obtain ⟨k1, k2⟩ := chkG_some e3
      cases k2
      obtain ⟨env4, mh4, e5, e6⟩ := M.bind_some.mp e4
      obtain ⟨f, mh5, e7, e8⟩ := M.bind_some.mp e6
      obtain ⟨go, yl⟩ := ok.go r2.wd g2.rd g2.pre k1 (List.getElem?_eq_getElem hlt)
      refine .inr ⟨go, fun σ' H' => ∃ env' mh' F' ρ', Rl X.K env' mh' F' ρ' σ' H' ∧ Gr F1 ρ1 H1 F' ρ' H' ∧ loopF ix.g g mb (ix.items.drop (i + 1)) env' mh' = some (fl, _), fun σ' H' ⟨env', mhx, F', ρ', a1, a2, a3⟩ => ⟨ix.items.length - (i + 1), by omega, rfl, hlt, env', mhx, F', ρ', a1, a2, a3⟩, fun x H3 hy => ?_⟩
      obtain ⟨F3, w3, g3, d3⟩ := yl x H3 hy
      refine ⟨_, _, _, _, _, _, _, r2.grow w3 g3, d3, e5, fun F4 ρ4 σ4 H4 r4 g4 _ => ⟨_, _, _, _, _, _, r4, e7, ?_⟩⟩
      have g24 := (g2.trans g3).trans g4
      cases f with
      | nx e9 => exact fun F' ρ' σ' H' r' g' => ⟨_, _, _, _, r', g24.trans g', e8⟩
      | ct e9 => exact fun F' ρ' σ' H' r' g' => ⟨_, _, _, _, r', g24.trans g', e8⟩
      | bk e9 => cases e8; exact fun F' ρ' σ' H' r' g' => q _ _ _ _ r' (g1.trans (g24.trans g'))
      | rt v => cases e8; exact fun F' ρ' H' u w' g' d' => q _ _ _ _ w' (g1.trans (g24.trans g')) d'
    · have hie : i = ix.items.length := by omega
      subst hie
      rw [List.drop_length] at e2
      obtain ⟨_, mh3, e3, e4⟩ := M.bind_some.mp e2
      obtain ⟨k1, k2⟩ := chkG_some e3
      cases k2
      cases e4
      exact .inl ⟨ok.stop r2.wd g2.rd g2.pre k1, q _ _ _ _ r2 (g1.trans g2)⟩

/-! ### while: n turns at most -/
def loopW (t : Sl → M Bool) (body : Sl → M Fl) : Nat → Sl → M Fl
  | 0, _ => fun _ => none
  | n + 1, env => do
    let b ← t env
    if b then do
      let f ← body env
      match f with
      | .nx e => loopW t body n e
      | .ct e => loopW t body n e
      | .bk e => pure (.nx e)
      | .rt r => pure (.rt r)
    else pure (.nx env)
theorem ss_while {c : Expr} {body : List Stmt} {tc : Sl → M Bool} {mb : Sl → M Fl} {n : Nat} (hxe : X.xe = fun _ _ => False) (hc : STs X c tc) (hb : SSs X body mb) : SS X (.While c body [] pos) (loopW tc mb n) :=
  SS.mk (ps_while (by rw [hxe]; exact PassesOwn.never) hc hb) fun D rl e q => by
    rename_i env mh mh' F ρ σ H fl
    refine ⟨fun m σ2 H2 => ∃ env2 mh2 F2 ρ2, Rl X.K env2 mh2 F2 ρ2 σ2 H2 ∧ Gr F ρ H F2 ρ2 H2 ∧ loopW tc mb m env2 mh2 = some (fl, mh'), ⟨n, _, _, _, _, rl, .refl, e⟩, ?_⟩
    rintro m σ2 H2 ⟨env2, mh2, F2, ρ2, r2, g2, e2⟩
    cases m with
    | zero => cases e2
    | succ m =>
      obtain ⟨b, mh3, e3, e4⟩ := M.bind_some.mp e2
      refine ⟨_, _, _, _, _, _, r2, e3, fun F3 ρ3 H3 w3 g3 => ?_⟩
      cases b with
      | true =>
        obtain ⟨f, mh5, e7, e8⟩ := M.bind_some.mp e4
        refine ⟨fun σ' H' => ∃ env' mh' F' ρ', Rl X.K env' mh' F' ρ' σ' H' ∧ Gr F ρ H F' ρ' H' ∧ loopW tc mb m env' mh' = some (fl, _), fun σ' H' h => ⟨m, Nat.lt_succ_self m, h⟩, _, _, _, _, _, _, r2.grow w3 g3, e7, ?_⟩
        cases f with
        | nx e9 => exact fun F' ρ' σ' H' r' g' => ⟨_, _, _, _, r', (g2.trans g3).trans g', e8⟩
        | ct e9 => exact fun F' ρ' σ' H' r' g' => ⟨_, _, _, _, r', (g2.trans g3).trans g', e8⟩
        | bk e9 => cases e8; exact fun F' ρ' σ' H' r' g' => q _ _ _ _ r' ((g2.trans g3).trans g')
        | rt v => cases e8; exact fun F' ρ' H' u w' g' d' => q _ _ _ _ w' ((g2.trans g3).trans g') d'
      | false =>
        cases e4
        exact q _ _ _ _ (r2.grow w3 g3) (g2.trans g3)
end
end Pv

/-! P8: comprehensions, calls of defs -/
namespace Pv
open PySem PySem.Spec PyProof.Rows L2

/-! ### an object beside the world -/
def del (H : Hp) (D : Addr) : Hp := fun b => if b = D then none else H b
theorem del_same {H : Hp} {D : Addr} : del H D D = none := if_pos rfl
theorem del_ne {H : Hp} {D a : Addr} (h : a ≠ D) : del H D a = H a := if_neg h
theorem upd_del {H : Hp} {D : Addr} {o : HO} (h : H D = some o) : upd (del H D) D o = H := by
  funext b
  by_cases e : b = D
  · subst e; rw [upd_same, h]
  · rw [upd_ne e, del_ne e]
section
variable {K : PySem.W.Frag} {mh : List Ob} {F : Hp} {ρ : List Addr} {H : Hp} {D : Addr}
theorem Wd.turn {H' : Hp} (w : Wd K mh F ρ H) (e : ∀ a, a ≠ D → H' a = H a) (hF : F D = none) (hρ : D ∉ ρ) : Wd K mh F ρ H' := by
  refine ⟨fun a o h => ?_, w.len, w.nd, w.off, fun n a o h1 h2 => ?_⟩
  · have : a ≠ D := fun z => by rw [z, hF] at h; cases h
    rw [e a this]; exact w.same a o h
  · have : a ≠ D := fun z => hρ (z ▸ List.mem_of_getElem? h1)
    exact (w.cell n a o h1 h2).mono .refl (List.prefix_refl _) fun u q => by rw [e a this]; exact q
theorem Wd.del (w : Wd K mh F ρ H) (hF : F D = none) (hρ : D ∉ ρ) : Wd K mh F ρ (del H D) := w.turn (fun a h => del_ne h) hF hρ
theorem Wd.updO {o : HO} (w : Wd K mh F ρ H) (hF : F D = none) (hρ : D ∉ ρ) : Wd K mh F ρ (upd H D o) := w.turn (fun a h => upd_ne h) hF hρ
/-- growth, beside D (which is not there at first) -/
structure GrD (D : Addr) (F : Hp) (ρ : List Addr) (H : Hp) (F' : Hp) (ρ' : List Addr) (H' : Hp) : Prop where
  rd : Rle F F'
  pre : ρ <+: ρ'
  fr : ∀ a o, a ≠ D → H a = some o → F a = none → a ∉ ρ → H' a = some o ∧ F' a = none ∧ a ∉ ρ'
theorem GrD.next {F0 F' : Hp} {ρ0 ρ' : List Addr} {H0 H' : Hp} (g : GrD D F0 ρ0 H0 F ρ H) (g' : Gr F ρ H F' ρ' H') : GrD D F0 ρ0 H0 F' ρ' H' :=
  ⟨g.rd.trans g'.rd, g.pre.trans g'.pre, fun a o n h1 h2 h3 => let ⟨a1, a2, a3⟩ := g.fr a o n h1 h2 h3; g'.fr a o a1 a2 a3⟩
theorem GrD.upd {F0 : Hp} {ρ0 : List Addr} {H0 : Hp} {o : HO} (g : GrD D F0 ρ0 H0 F ρ H) : GrD D F0 ρ0 H0 F ρ (upd H D o) :=
  ⟨g.rd, g.pre, fun a u n h1 h2 h3 => by rw [upd_ne n]; exact g.fr a u n h1 h2 h3⟩
theorem GrD.gr {F0 : Hp} {ρ0 : List Addr} {H0 : Hp} (g : GrD D F0 ρ0 H0 F ρ H) (h0 : H0 D = none) : Gr F0 ρ0 H0 F ρ (Pv.del H D) :=
  ⟨g.rd, g.pre, fun a u h1 h2 h3 => by
    have n : a ≠ D := fun z => by rw [z, h0] at h1; cases h1
    rw [del_ne n]; exact g.fr a u n h1 h2 h3⟩
theorem GrD.of {F0 : Hp} {ρ0 : List Addr} {H0 : Hp} {o : HO} : GrD D F0 ρ0 H0 F0 ρ0 (L2.upd H0 D o) := ⟨.refl, List.prefix_refl _, fun a u n h1 h2 h3 => ⟨by rw [upd_ne n]; exact h1, h2, h3⟩⟩
end

/-! ### list comprehensions -/
def wipeE (env : Sl) (vs : List Nat) : Sl := vs.foldr (fun i e => e.set i none) env
theorem wipe_twice {σ : L2.St} {vs : List Nat} : ∀ ws : List Nat, (∀ i ∈ ws, i ∈ vs) → wipe (wipe σ ws) vs = wipe σ vs
  | [], _ => rfl
  | w :: ws, h => by
    show wipe ((wipe σ ws).set w none) vs = _
    rw [wipe_set (h w (by simp))]
    exact wipe_twice ws fun i hi => h i (by simp [hi])
def SPs (X : Cx) (ifs : List Expr) (m : Sl → M Bool) : Prop := PTs X ifs (tTs X.K m)
def mYes (_ : Sl) : M Bool := pure true
theorem sps_nil {X : Cx} : SPs X [] mYes := ⟨fun pins s σ H Q I h => by
  obtain ⟨env, mh, F, ρ, b, mh', rl, e, q⟩ := h
  cases e
  exact pts_nil.run pins s σ H Q I (q _ _ _ rl.wd .refl)⟩
theorem sps_one {X : Cx} {c : Expr} {m : Sl → M Bool} (h : STs X c m) : SPs X [c] m := pts_one h
noncomputable def loopC {α : Type} (gd : List (Nat × List Val)) (g : Val → Sl → M Sl) (t : Sl → M Bool) (el : Sl → M α) (env : Sl) : List Val → M (List α)
  | [] => do
    chkG gd
    pure []
  | v :: vs => do
    chkG gd
    let e1 ← g v env
    let b ← t e1
    if b then do
      let y ← el e1
      let ys ← loopC gd g t el env vs
      pure (y :: ys)
    else loopC gd g t el env vs
noncomputable def mLc (c : Bool) (mi : Sl → M Ix) (vs : List Nat) (g : Val → Sl → M Sl) (t : Sl → M Bool) (el : Sl → M Val) (env : Sl) : M Val := do
  let ix ← mi env
  let ys ← loopC ix.g g t el (wipeE env vs) ix.items
  finR c (.nl ys)
theorem lc_sem {K : PySem.W.Frag} {c : Bool} {mi : Sl → M Ix} {vs sl : List Nat} {g : Val → Sl → M Sl} {t : Sl → M Bool} {el : Sl → M Val} {env : Sl} {mh mh' : List Ob} {F : Hp} {ρ : List Addr} {σ : L2.St} {H : Hp} {v : Val} (Q : VK) (hsl : ∀ i ∈ sl, i ∈ vs)
    (rl : Rl K env mh F ρ σ H) (e : mLc c mi vs g t el env mh = some (v, mh')) (q : ∀ F' ρ' H' u, Wd K mh' F' ρ' H' → Gr F ρ H F' ρ' H' → DenV K F' ρ' u v → Q u H') :
    tLc (tIt K mi) (tGt K sl g) (tTs K t) (tE K el) vs σ H Q := by
  obtain ⟨ix, mh1, e1, ea⟩ := M.bind_some.mp e
  obtain ⟨ys, mh2, e2, eb⟩ := M.bind_some.mp ea
  refine ⟨_, _, _, _, _, _, rl, e1, fun J F1 ρ1 H1 w1 g1 ok D hD => ?_⟩
  have hFD := w1.freshF hD
  have hρD := w1.freshρ hD
  refine ⟨fun i m H2 => m = ix.items.length - i ∧ i ≤ ix.items.length ∧ ∃ mhx F2 ρ2 acc us rest, Wd K mhx F2 ρ2 H2 ∧ GrD D F1 ρ1 H1 F2 ρ2 H2 ∧ H2 D = some (.lst us) ∧ F2 D = none ∧ D ∉ ρ2 ∧ DenVs K F2 ρ2 us acc ∧ acc.length ≤ i ∧ acc ++ rest = ys ∧
    loopC ix.g g t el (wipeE env vs) (ix.items.drop i) mhx = some (rest, mh2), ⟨ix.items.length, rfl, Nat.zero_le _, mh1, F1, ρ1, [], [], ys, w1.updO hFD hρD, .of, upd_same, hFD, hρD, .nil, Nat.le_refl _, rfl, e2⟩, ?_⟩
  rintro i m H2 ⟨rfl, hi2, mhx, F2, ρ2, acc, us, rest, w2, g2, hD2, hF2, hρ2, d2, hl, ey, e3⟩
  have rl2 : Rl K (wipeE env vs) mhx F2 ρ2 (wipe σ vs) H2 := by
    refine ⟨w2, (rl.wiped vs).len, fun j x hx => ?_⟩
    obtain ⟨u, a1, a2⟩ := (rl.wiped vs).get j x hx
    exact ⟨u, a1, a2.mono (g1.rd.trans g2.rd) (g1.pre.trans g2.pre)⟩
  by_cases hlt : i < ix.items.length
  · rw [List.drop_eq_getElem_cons hlt] at e3
    obtain ⟨_, mh3, f3, e4⟩ := M.bind_some.mp e3
    obtain ⟨k1, k2⟩ := chkG_some f3
    cases k2
    obtain ⟨env4, mh4, f4, e5⟩ := M.bind_some.mp e4
    obtain ⟨b, mh5, f5, e6⟩ := M.bind_some.mp e5
    obtain ⟨go, yl⟩ := ok.go w2 g2.rd g2.pre k1 (List.getElem?_eq_getElem hlt)
    refine .inr ⟨go, fun H' => ∃ mhx F2 ρ2 acc us rest, Wd K mhx F2 ρ2 H' ∧ GrD D F1 ρ1 H1 F2 ρ2 H' ∧ H' D = some (.lst us) ∧ F2 D = none ∧ D ∉ ρ2 ∧ DenVs K F2 ρ2 us acc ∧ acc.length ≤ i + 1 ∧ acc ++ rest = ys ∧
      loopC ix.g g t el (wipeE env vs) (ix.items.drop (i + 1)) mhx = some (rest, mh2), fun H' h => ⟨ix.items.length - (i + 1), by omega, rfl, hlt, h⟩, fun x H3 hy => ?_⟩
    obtain ⟨F3, w3, g3, d3⟩ := yl x H3 hy
    refine ⟨_, _, _, _, _, _, _, rl2.grow w3 g3, d3, f4, fun F4 ρ4 σ4 H4 r4 g4 wp => ⟨(wp vs hsl).trans (wipe_twice vs fun _ h => h), _, _, _, _, _, _, r4, f5, fun F5 ρ5 H5 w5 g5 => ?_⟩⟩
    have g25 : Gr F2 ρ2 H2 F5 ρ5 H5 := (g3.trans g4).trans g5
    cases b with
    | true =>
      obtain ⟨y, mh6, f6, e7⟩ := M.bind_some.mp e6
      obtain ⟨zs, mh7, f7, e8⟩ := M.bind_some.mp e7
      cases e8
      refine ⟨_, _, _, _, _, _, r4.grow w5 g5, f6, fun F6 ρ6 H6 u6 w6 g6 d6 => ?_⟩
      have g26 := g25.trans g6
      obtain ⟨a1, a2, a3⟩ := g26.fr D _ hD2 hF2 hρ2
      have hsm := ok.small
      refine ⟨us, a1, by rw [d2.length]; omega, mh6, F6, ρ6, acc ++ [y], us ++ [u6], zs, w6.updO a2 a3, (g2.next g26).upd, upd_same, a2, a3, (d2.grow g26).append (.cons d6 .nil), by rw [List.length_append, List.length_singleton]; omega, by rw [← ey]; simp, f7⟩
    | false =>
      obtain ⟨a1, a2, a3⟩ := g25.fr D _ hD2 hF2 hρ2
      exact ⟨mh5, F5, ρ5, acc, us, rest, w5, g2.next g25, a1, a2, a3, d2.grow g25, by omega, ey, e6⟩
  · have hie : i = ix.items.length := by omega
    subst hie
    rw [List.drop_length] at e3
    obtain ⟨_, mh3, f3, e4⟩ := M.bind_some.mp e3
    obtain ⟨k1, k2⟩ := chkG_some f3
    cases k2
    cases e4
    refine .inl ⟨ok.stop w2 g2.rd g2.pre k1, ?_⟩
    rw [List.append_nil] at ey
    subst ey
    have p : PostR K mh2 F2 ρ2 (del H2 D) Q (.nl acc) := finR_ok eb fun F' ρ' H' u w' g' d' => q F' ρ' H' u w' (g1.trans ((g2.gr hD).trans g')) d'
    have fin := p.list (w2.del hF2 hρ2) del_same d2 (Nat.le_trans hl ok.small)
    rw [upd_del hD2] at fin
    exact fin
section
variable {X : Cx} {pos : Pos}
theorem se_lc {c : Bool} {elt tg iter : Expr} {ifs : List Expr} {scope : Scope} {own : List (Str × Nat)} {sl : List Nat} {mi : Sl → M Ix} {g : Val → Sl → M Sl} {t : Sl → M Bool} {el : Sl → M Val} (hc : X.calm = true) (hN : X.N.Nodup) (hi : SI X tg iter mi) (ok : BlkOk X.N X.env.scope scope own) (hsl : ∀ i ∈ sl, i ∈ own.map (·.2))
    (hg : ∀ (s : Shared) (H : Hp) (C : Addr) (cl : List (Str × Addr)) (fp : List Addr), SG (X.blk s H scope (compEnvC scope cl C X.env) fp) tg sl g) (ht : ∀ (s : Shared) (H : Hp) (C : Addr) (cl : List (Str × Addr)) (fp : List Addr), SPs (X.blk s H scope (compEnvC scope cl C X.env) fp) ifs t)
    (he : ∀ (s : Shared) (H : Hp) (C : Addr) (cl : List (Str × Addr)) (fp : List Addr), SE (X.blk s H scope (compEnvC scope cl C X.env) fp) elt el) (hs : ∀ x, foldedSetIterable iter X.env x = pure x) :
    SE X (.ListComp elt [⟨tg, iter, ifs, 0⟩] scope pos) (mLc c mi (own.map (·.2)) g t el) :=
  SE.mk (pe_lc (g := tGt X.K sl g) (tt := tTs X.K t) (te := tE X.K el) hc hN hi ok hg ht he hs) fun Q rl e q => lc_sem Q hsl rl e q
theorem ss_setLc {c : Bool} {i : Nat} {y : Str} {py spos : Pos} {elt tg iter : Expr} {ifs : List Expr} {scope : Scope} {own : List (Str × Nat)} {sl : List Nat} {mi : Sl → M Ix} {g : Val → Sl → M Sl} {t : Sl → M Bool} {el : Sl → M Val} (hc : X.calm = true) (hN : X.N.Nodup) (hy : X.N[i]? = some y) (hyl : X.env.scope.names.lookup y = some .local)
    (hsw : swapsWith (.ListComp elt [⟨tg, iter, ifs, 0⟩] scope pos) (some (.Name y py)) spos.line X.env = pure true) (hi : SI X tg iter mi) (ok : BlkOk X.N X.env.scope scope own) (hsl : ∀ i ∈ sl, i ∈ own.map (·.2))
    (hg : ∀ (s : Shared) (H : Hp) (C : Addr) (cl : List (Str × Addr)) (fp : List Addr), SG (X.blk s H scope (compEnvC scope cl C X.env) fp) tg sl g) (ht : ∀ (s : Shared) (H : Hp) (C : Addr) (cl : List (Str × Addr)) (fp : List Addr), SPs (X.blk s H scope (compEnvC scope cl C X.env) fp) ifs t)
    (he : ∀ (s : Shared) (H : Hp) (C : Addr) (cl : List (Str × Addr)) (fp : List Addr), SE (X.blk s H scope (compEnvC scope cl C X.env) fp) elt el) (hs : ∀ x, foldedSetIterable iter X.env x = pure x) :
    SS X (.Assign [.Name y py] (.ListComp elt [⟨tg, iter, ifs, 0⟩] scope pos) spos) (mAsg (mLc c mi (own.map (·.2)) g t el) (gNm i)) :=
  SS.mk (ps_setLc (g := tGt X.K sl g) (tt := tTs X.K t) (te := tE X.K el) hc hN hy hyl hsw hi ok hg ht he hs) fun D rl e q => by
    obtain ⟨v, mh1, e1, ea⟩ := M.bind_some.mp e
    obtain ⟨env', mh2, e2, eb⟩ := M.bind_some.mp ea
    cases eb
    cases e2
    exact lc_sem _ hsl rl e1 fun F1 ρ1 H1 u w1 g1 d1 => q _ _ _ _ ((rl.grow w1 g1).set i d1) g1
end

/-! ### dict comprehensions -/
def mergeV (kvs more : List (Key × Val)) : List (Key × Val) := more.foldl (fun acc kv => putV acc kv.1 kv.2) kvs
theorem mergeV_length : ∀ (more kvs : List (Key × Val)), (mergeV kvs more).length ≤ kvs.length + more.length
  | [], kvs => Nat.le_refl _
  | p :: more, kvs => by
    have := mergeV_length more (putV kvs p.1 p.2)
    have := putV_length kvs p.1 p.2
    show (mergeV (putV kvs p.1 p.2) more).length ≤ _
    rw [List.length_cons]
    omega
def mKv (mk mv : Sl → M Val) (env : Sl) : M (Key × Val) := do
  let y ← mk env
  let z ← mv env
  let k ← ofO (keyVl y)
  pure (k, z)
noncomputable def mDc (c : Bool) (mi : Sl → M Ix) (vs : List Nat) (g : Val → Sl → M Sl) (t : Sl → M Bool) (mk mv : Sl → M Val) (env : Sl) : M Val := do
  let ix ← mi env
  let ys ← loopC ix.g g t (mKv mk mv) (wipeE env vs) ix.items
  finR c (.nd (mergeV [] ys))
theorem dc_sem {K : PySem.W.Frag} {c : Bool} {mi : Sl → M Ix} {vs sl : List Nat} {g : Val → Sl → M Sl} {t : Sl → M Bool} {mk mv : Sl → M Val} {env : Sl} {mh mh' : List Ob} {F : Hp} {ρ : List Addr} {σ : L2.St} {H : Hp} {v : Val} (Q : VK) (hsl : ∀ i ∈ sl, i ∈ vs)
    (rl : Rl K env mh F ρ σ H) (e : mDc c mi vs g t mk mv env mh = some (v, mh')) (q : ∀ F' ρ' H' u, Wd K mh' F' ρ' H' → Gr F ρ H F' ρ' H' → DenV K F' ρ' u v → Q u H') :
    tDc (tIt K mi) (tGt K sl g) (tTs K t) (tE K mk) (tE K mv) vs σ H Q := by
  obtain ⟨ix, mh1, e1, ea⟩ := M.bind_some.mp e
  obtain ⟨ys, mh2, e2, eb⟩ := M.bind_some.mp ea
  refine ⟨_, _, _, _, _, _, rl, e1, fun J F1 ρ1 H1 w1 g1 ok D hD => ?_⟩
  have hFD := w1.freshF hD
  have hρD := w1.freshρ hD
  refine ⟨fun i m H2 => m = ix.items.length - i ∧ i ≤ ix.items.length ∧ ∃ mhx F2 ρ2 acc us rest, Wd K mhx F2 ρ2 H2 ∧ GrD D F1 ρ1 H1 F2 ρ2 H2 ∧ H2 D = some (.dK us) ∧ F2 D = none ∧ D ∉ ρ2 ∧ DenVK K F2 ρ2 us acc ∧ acc.length ≤ i ∧ mergeV acc rest = mergeV [] ys ∧
    loopC ix.g g t (mKv mk mv) (wipeE env vs) (ix.items.drop i) mhx = some (rest, mh2), ⟨ix.items.length, rfl, Nat.zero_le _, mh1, F1, ρ1, [], [], ys, w1.updO hFD hρD, .of, upd_same, hFD, hρD, .nil, Nat.le_refl _, rfl, e2⟩, ?_⟩
  rintro i m H2 ⟨rfl, hi2, mhx, F2, ρ2, acc, us, rest, w2, g2, hD2, hF2, hρ2, d2, hl, ey, e3⟩
  have rl2 : Rl K (wipeE env vs) mhx F2 ρ2 (wipe σ vs) H2 := by
    refine ⟨w2, (rl.wiped vs).len, fun j x hx => ?_⟩
    obtain ⟨u, a1, a2⟩ := (rl.wiped vs).get j x hx
    exact ⟨u, a1, a2.mono (g1.rd.trans g2.rd) (g1.pre.trans g2.pre)⟩
  by_cases hlt : i < ix.items.length
  · rw [List.drop_eq_getElem_cons hlt] at e3
    obtain ⟨_, mh3, f3, e4⟩ := M.bind_some.mp e3
    obtain ⟨k1, k2⟩ := chkG_some f3
    cases k2
    obtain ⟨env4, mh4, f4, e5⟩ := M.bind_some.mp e4
    obtain ⟨b, mh5, f5, e6⟩ := M.bind_some.mp e5
    obtain ⟨go, yl⟩ := ok.go w2 g2.rd g2.pre k1 (List.getElem?_eq_getElem hlt)
    refine .inr ⟨go, fun H' => ∃ mhx F2 ρ2 acc us rest, Wd K mhx F2 ρ2 H' ∧ GrD D F1 ρ1 H1 F2 ρ2 H' ∧ H' D = some (.dK us) ∧ F2 D = none ∧ D ∉ ρ2 ∧ DenVK K F2 ρ2 us acc ∧ acc.length ≤ i + 1 ∧ mergeV acc rest = mergeV [] ys ∧
      loopC ix.g g t (mKv mk mv) (wipeE env vs) (ix.items.drop (i + 1)) mhx = some (rest, mh2), fun H' h => ⟨ix.items.length - (i + 1), by omega, rfl, hlt, h⟩, fun x H3 hy => ?_⟩
    obtain ⟨F3, w3, g3, d3⟩ := yl x H3 hy
    refine ⟨_, _, _, _, _, _, _, rl2.grow w3 g3, d3, f4, fun F4 ρ4 σ4 H4 r4 g4 wp => ⟨(wp vs hsl).trans (wipe_twice vs fun _ h => h), _, _, _, _, _, _, r4, f5, fun F5 ρ5 H5 w5 g5 => ?_⟩⟩
    have g25 : Gr F2 ρ2 H2 F5 ρ5 H5 := (g3.trans g4).trans g5
    cases b with
    | true =>
      obtain ⟨y, mh6, f6, e7⟩ := M.bind_some.mp e6
      obtain ⟨zs, mh7, f7, e8⟩ := M.bind_some.mp e7
      cases e8
      obtain ⟨vk, mh8, f8, e9⟩ := M.bind_some.mp f6
      obtain ⟨vz, mh9, f9, e10⟩ := M.bind_some.mp e9
      obtain ⟨k, mh10, f10, e11⟩ := M.bind_some.mp e10
      obtain ⟨h1, h2⟩ := ofO_some.mp f10
      simp only at h1 h2
      subst h2
      cases e11
      refine ⟨_, _, _, _, _, _, r4.grow w5 g5, f8, fun F6 ρ6 H6 u6 w6 g6 d6 => ⟨_, _, _, _, _, _, (r4.grow w5 g5).grow w6 g6, f9, fun F7 ρ7 H7 u7 w7 g7 d7 => ?_⟩⟩
      have g26 := (g25.trans g6).trans g7
      obtain ⟨a1, a2, a3⟩ := g26.fr D _ hD2 hF2 hρ2
      have hsm := ok.small
      refine ⟨us, k, key_den d6 h1, a1, by rw [show us.length = acc.length from d2.length]; omega, _, F7, ρ7, putV acc k vz, putK us k u7, zs, w7.updO a2 a3, (g2.next g26).upd, upd_same, a2, a3, putV_den d7 (d2.mono g26.rd g26.pre), Nat.le_trans (putV_length _ _ _) (by omega), ey, f7⟩
    | false =>
      obtain ⟨a1, a2, a3⟩ := g25.fr D _ hD2 hF2 hρ2
      exact ⟨mh5, F5, ρ5, acc, us, rest, w5, g2.next g25, a1, a2, a3, d2.mono g25.rd g25.pre, by omega, ey, e6⟩
  · have hie : i = ix.items.length := by omega
    subst hie
    rw [List.drop_length] at e3
    obtain ⟨_, mh3, f3, e4⟩ := M.bind_some.mp e3
    obtain ⟨k1, k2⟩ := chkG_some f3
    cases k2
    cases e4
    refine .inl ⟨ok.stop w2 g2.rd g2.pre k1, ?_⟩
    have ey : acc = mergeV [] ys := ey
    subst ey
    have p : PostR K mh2 F2 ρ2 (del H2 D) Q (.nd (mergeV [] ys)) := finR_ok eb fun F' ρ' H' u w' g' d' => q F' ρ' H' u w' (g1.trans ((g2.gr hD).trans g')) d'
    have fin := p _ _ us D (w2.del hF2 hρ2) .refl (Nat.le_trans hl ok.small) d2 del_same
    rw [upd_del hD2] at fin
    exact fin
section
variable {X : Cx} {pos : Pos}
theorem se_dc {c : Bool} {kx vx tg iter : Expr} {ifs : List Expr} {scope : Scope} {own : List (Str × Nat)} {sl : List Nat} {mi : Sl → M Ix} {g : Val → Sl → M Sl} {t : Sl → M Bool} {mk mv : Sl → M Val} (hc : X.calm = true) (hN : X.N.Nodup) (hi : SI X tg iter mi) (ok : BlkOk X.N X.env.scope scope own) (hsl : ∀ i ∈ sl, i ∈ own.map (·.2))
    (hg : ∀ (s : Shared) (H : Hp) (C : Addr) (cl : List (Str × Addr)) (fp : List Addr), SG (X.blk s H scope (compEnvC scope cl C X.env) fp) tg sl g) (ht : ∀ (s : Shared) (H : Hp) (C : Addr) (cl : List (Str × Addr)) (fp : List Addr), SPs (X.blk s H scope (compEnvC scope cl C X.env) fp) ifs t)
    (hk : ∀ (s : Shared) (H : Hp) (C : Addr) (cl : List (Str × Addr)) (fp : List Addr), SE (X.blk s H scope (compEnvC scope cl C X.env) fp) kx mk)
    (he : ∀ (s : Shared) (H : Hp) (C : Addr) (cl : List (Str × Addr)) (fp : List Addr), SE (X.blk s H scope (compEnvC scope cl C X.env) fp) vx mv) (hs : ∀ x, foldedSetIterable iter X.env x = pure x) :
    SE X (.DictComp kx vx [⟨tg, iter, ifs, 0⟩] scope pos) (mDc c mi (own.map (·.2)) g t mk mv) :=
  SE.mk (pe_dc (g := tGt X.K sl g) (tt := tTs X.K t) (tk := tE X.K mk) (tv := tE X.K mv) hc hN hi ok hg ht hk he hs) fun Q rl e q => dc_sem Q hsl rl e q
/-- name = {..} on one line, the name a local -/
theorem ps_setDc {i : Nat} {y : Str} {py : Pos} {kx vx tg iter : Expr} {ifs : List Expr} {scope : Scope} {own : List (Str × Nat)} {spos : Pos} {wi : TI} {g : TG} {tt : TT} {tk tv : TE} (hc : X.calm = true) (hN : X.N.Nodup) (hy : X.N[i]? = some y) (hyl : X.env.scope.names.lookup y = some .local)
    (hsw : swapsWith (.DictComp kx vx [⟨tg, iter, ifs, 0⟩] scope pos) (some (.Name y py)) spos.line X.env = pure true) (hi : PI X tg iter wi) (ok : BlkOk X.N X.env.scope scope own)
    (hg : ∀ (s : Shared) (H : Hp) (C : Addr) (cl : List (Str × Addr)) (fp : List Addr), PG (X.blk s H scope (compEnvC scope cl C X.env) fp) tg g) (ht : ∀ (s : Shared) (H : Hp) (C : Addr) (cl : List (Str × Addr)) (fp : List Addr), PTs (X.blk s H scope (compEnvC scope cl C X.env) fp) ifs tt)
    (hk : ∀ (s : Shared) (H : Hp) (C : Addr) (cl : List (Str × Addr)) (fp : List Addr), PE (X.blk s H scope (compEnvC scope cl C X.env) fp) kx tk)
    (he : ∀ (s : Shared) (H : Hp) (C : Addr) (cl : List (Str × Addr)) (fp : List Addr), PE (X.blk s H scope (compEnvC scope cl C X.env) fp) vx tv) (hs : ∀ x, foldedSetIterable iter X.env x = pure x) :
    PS X (.Assign [.Name y py] (.DictComp kx vx [⟨tg, iter, ifs, 0⟩] scope pos) spos) (tAsg (tDc wi g tt tk tv (own.map (·.2))) (gName i)) := by
  refine ⟨fun pins s σ H D I h => ?_⟩
  rw [exec_Assign_Name_used _ _ _ _ hsw]
  refine wpAny_bind (wpAny_standAt (wpAny_bind ?_))
  show wpAny _ X.A (do let _ ← comprehension (.DictComp kx vx [⟨tg, iter, ifs, 0⟩] scope pos) scope X.env (firstIterPos [⟨tg, iter, ifs, 0⟩] pos) newDict false (eval iter X.env) (some (assign (.Name y py) X.env))) _ _ s
  have h : tDc wi g tt tk tv (own.map (·.2)) σ H (fun x H1 => gName i x σ H1 D.nx) := h
  refine wpAny_bind (thn (dc_core (Qf := fun _ s' => SP X pins D .next s') hc hN I hi ok hg ht hk he hs h fun L C s' m H' I' q hn f => ?_) fun _ s' hq => wpAny_pure (wpAny_pure hq))
  show wpAny _ _ (assign (.Name y py) X.env (.ref L)) _ _ _
  refine wpAny_assign_Name (store_ok2 (v := V.ref L) I' hN hy (.inl hyl) rfl (fun s2 I2 ⟨a, sb, ha⟩ => ?_) (.inr hyl))
  obtain ⟨f0, f1, f2, f3, f4, f5⟩ := f
  have haC : C ≠ a := by
    rcases ha with z | z
    · rw [z]; exact f1
    · exact fun e => f4 y a z e.symm
  refine ⟨m, hn.sameBut sb haC, fun h3 sb3 => ?_⟩
  exact ⟨_, H', I2.turned (t' := s2.toks) (fun b o hb e => (sb3.2 b hb).trans e) f0 f1 f3 f4 f5, q⟩
theorem ss_setDc {c : Bool} {i : Nat} {y : Str} {py spos : Pos} {kx vx tg iter : Expr} {ifs : List Expr} {scope : Scope} {own : List (Str × Nat)} {sl : List Nat} {mi : Sl → M Ix} {g : Val → Sl → M Sl} {t : Sl → M Bool} {mk mv : Sl → M Val} (hc : X.calm = true) (hN : X.N.Nodup) (hy : X.N[i]? = some y) (hyl : X.env.scope.names.lookup y = some .local)
    (hsw : swapsWith (.DictComp kx vx [⟨tg, iter, ifs, 0⟩] scope pos) (some (.Name y py)) spos.line X.env = pure true) (hi : SI X tg iter mi) (ok : BlkOk X.N X.env.scope scope own) (hsl : ∀ i ∈ sl, i ∈ own.map (·.2))
    (hg : ∀ (s : Shared) (H : Hp) (C : Addr) (cl : List (Str × Addr)) (fp : List Addr), SG (X.blk s H scope (compEnvC scope cl C X.env) fp) tg sl g) (ht : ∀ (s : Shared) (H : Hp) (C : Addr) (cl : List (Str × Addr)) (fp : List Addr), SPs (X.blk s H scope (compEnvC scope cl C X.env) fp) ifs t)
    (hk : ∀ (s : Shared) (H : Hp) (C : Addr) (cl : List (Str × Addr)) (fp : List Addr), SE (X.blk s H scope (compEnvC scope cl C X.env) fp) kx mk)
    (he : ∀ (s : Shared) (H : Hp) (C : Addr) (cl : List (Str × Addr)) (fp : List Addr), SE (X.blk s H scope (compEnvC scope cl C X.env) fp) vx mv) (hs : ∀ x, foldedSetIterable iter X.env x = pure x) :
    SS X (.Assign [.Name y py] (.DictComp kx vx [⟨tg, iter, ifs, 0⟩] scope pos) spos) (mAsg (mDc c mi (own.map (·.2)) g t mk mv) (gNm i)) :=
  SS.mk (ps_setDc (g := tGt X.K sl g) (tt := tTs X.K t) (tk := tE X.K mk) (tv := tE X.K mv) hc hN hy hyl hsw hi ok hg ht hk he hs) fun D rl e q => by
    obtain ⟨v, mh1, e1, ea⟩ := M.bind_some.mp e
    obtain ⟨env', mh2, e2, eb⟩ := M.bind_some.mp ea
    cases eb
    cases e2
    exact dc_sem _ hsl rl e1 fun F1 ρ1 H1 u w1 g1 d1 => q _ _ _ _ ((rl.grow w1 g1).set i d1) g1

/-! ### calls of defs -/
def spF (K : PySem.W.Frag) (n : Nat) (m : List Val → M Val) : Sp := fun us H Q _ => us.length = n ∧ ∃ mh F ρ vs v mh', Wd K mh F ρ H ∧ DenVs K F ρ us vs ∧ m vs mh = some (v, mh') ∧ ∀ F' ρ' H' u, Wd K mh' F' ρ' H' → Gr F ρ H F' ρ' H' → DenV K F' ρ' u v → Q u H'
def mCall (f : List Val → M Val) (as : Sl → M (List Val)) (env : Sl) : M Val := do
  let vs ← as env
  f vs
theorem se_call {f : Addr} {fd : FuncData} {ps : List Str} {k : Nat} {m : List Val → M Val} {x : Str} {p : Pos} {e0 : Expr} {es : List Expr} {as : Sl → M (List Val)} (F : FnOk X.prog X.w X.K X.mg X.base L2.CX0 k f fd ps (spF X.K ps.length m)) (hr : Room k X.A) (hg : Gl X x) (hm : X.mg x = some (.ref f)) (hk : PySem.W.keepIn X.K (.ref f) = true) (hb : Binds X.K fd ps [])
    (ha : SA X (e0 :: es) as) (hl : (e0 :: es).length = ps.length) (hdb : (x == ("__debug__" : Str)) = false) (he : starEach (e0 :: es) X.env = (false, eval e0 X.env) :: starEach es X.env) (hpl : (backTo pos (starEach es X.env)).any (·.1) = false)
    (hal : ∀ {env : Sl} {mh mh' : List Ob} {vs : List Val}, as env mh = some (vs, mh') → vs.length = (e0 :: es).length) :
    SE X (.Call (.Name x p) (e0 :: es) [] pos) (mCall m as) :=
  SE.mk (pe_call F hr hg hm hk hb .nil L2.pass0 ha hdb he hpl) fun Q rl e q => by
    obtain ⟨vs, mh1, e1, ea⟩ := M.bind_some.mp e
    refine ⟨_, _, _, _, _, _, rl, e1, fun F1 ρ1 H1 us w1 g1 d1 => ?_⟩
    show spF X.K ps.length m (us ++ []) H1 Q L2.E0
    rw [List.append_nil]
    exact ⟨by rw [d1.length, hal e1, hl], _, _, _, _, _, _, w1, d1, ea, fun F' ρ' H' u w g d => q F' ρ' H' u w (g1.trans g) d⟩
theorem se_call0 {f : Addr} {fd : FuncData} {k : Nat} {m : List Val → M Val} {x : Str} {p : Pos} (F : FnOk X.prog X.w X.K X.mg X.base L2.CX0 k f fd [] (spF X.K 0 m)) (hr : Room k X.A) (hg : Gl X x) (hm : X.mg x = some (.ref f)) (hk : PySem.W.keepIn X.K (.ref f) = true) (hb : Binds X.K fd [] [])
    (hdb : (x == ("__debug__" : Str)) = false) : SE X (.Call (.Name x p) [] [] pos) (mCall m (mArgs [])) :=
  SE.mk (pe_call0 F hr hg hm hk hb .nil L2.pass0 hdb) fun Q rl e q => by
    obtain ⟨vs, mh1, e1, ea⟩ := M.bind_some.mp e
    cases e1
    exact ⟨rfl, _, _, _, _, _, _, rl.wd, .nil, ea, fun F' ρ' H' u w g d => q F' ρ' H' u w g d⟩
end

/-! ### a def's frame: the cells that it made are dropped -/
def Val.below (n : Nat) : Val → Bool
  | .d _ => true
  | .ref m => decide (m < n)
def Ob.below (n : Nat) : Ob → Bool
  | .lst vs => vs.all (·.below n)
  | .dct kvs => kvs.all fun kv => kv.2.below n
  | .dead => true
  | .ins _ fs => fs.all fun kv => kv.2.below n
  | .dtk kvs => kvs.all fun kv => kv.2.below n
/-- the elder cells hold no younger ones -/
def cutOk (n : Nat) : List Ob → List Ob → Prop
  | o :: os, o' :: os' => (o' = o ∨ o'.below n = true) ∧ cutOk n os os'
  | [], _ => True
  | _ :: _, [] => False
/-- how many cells stay behind a def: those that were, and the one handed back with what was made ahead of it -/
def keepN (n : Nat) : Val → Nat
  | .d _ => n
  | .ref m => if m < n then n else m + 1
open Classical in
noncomputable def frame (f : List Val → M Val) (vs : List Val) : M Val := fun mh => match f vs mh with
  | some (v, mh') => if cutOk (keepN mh.length v) mh mh' ∧ ((mh'.take (keepN mh.length v)).drop mh.length).all (·.below (keepN mh.length v)) = true then some (v, mh'.take (keepN mh.length v)) else none
  | none => none
end Pv

/-! PX: repr (where no code is guarded around), math.gcd -/
namespace Pv
open PySem PySem.Spec PyProof.Rows L2

def isSq : Dt → Bool
  | .tuple _ => true
  | .list _ => true
  | _ => false
def repOk (d : Dt) : Bool := isSq d && d.showable && !d.hasDict && decide (d.shown.length ≤ sizeLine) && decide (d.depth ≤ 60)
def reprV (_ : List Ob) : List Val → Option Rv
  | [.d d] => if repOk d then some (.v (.d (.str d.shown))) else none
  | _ => none
section
variable {X : Cx} {F : Hp} {H : Hp} {s : Shared} {pins : List (Addr × Obj)} {σ : L2.St}
mutual
theorem den_reads (I : L2.Inv X pins σ H s) (r : Rle F H) : ∀ {v : V} {d : Dt} {u : Value}, Den X.K F v d → d.hasDict = false → RelV v u → ∃ as, Reads s.heap u d as
  | _, _, u, .non, _, rv => by cases (show u = Value.none from rv); exact ⟨_, .none⟩
  | _, _, u, .bl b, _, rv => by cases (show u = Value.bool b from rv); exact ⟨_, .bool b⟩
  | _, _, u, .int i, _, rv => by obtain ⟨t, rfl⟩ := rv; exact ⟨_, .int i t⟩
  | _, _, u, .str x, _, rv => by obtain ⟨t, rfl⟩ := rv; exact ⟨_, .str x t⟩
  | _, _, u, .lst (a := a) (xs := xs) (ds := ds) q z h, hd, rv => by
    cases (show u = Value.ref a from rv)
    obtain ⟨its, rr, pl, hl⟩ := I.list (r.sqL q)
    obtain ⟨o, n, ho, hc, _, hdt⟩ := pl
    have hd : PyData.hasDictAll ds = false := by unfold PyData.hasDict at hd; exact hd
    obtain ⟨as, ra⟩ := dens_reads I r h hd rr
    exact ⟨_, .list ho hc hdt (by rw [List.toList_toArray]; exact ra)⟩
  | _, _, u, .tup (a := a) (xs := xs) (ds := ds) q z h, hd, rv => by
    cases (show u = Value.ref a from rv)
    obtain ⟨its, rr, pl, hl⟩ := I.tuple (r.sqT q)
    obtain ⟨o, ho, hc, n, hdt⟩ := pl
    have hd : PyData.hasDictAll ds = false := by unfold PyData.hasDict at hd; exact hd
    obtain ⟨as, ra⟩ := dens_reads I r h hd rr
    exact ⟨_, .tuple ho hc hdt (by rw [List.toList_toArray]; exact ra)⟩
  | _, _, u, .dct q z h, hd, rv => by unfold PyData.hasDict at hd; cases hd
theorem dens_reads (I : L2.Inv X pins σ H s) (r : Rle F H) : ∀ {vs : List V} {ds : List Dt} {us : List Value}, DenAll X.K F vs ds → PyData.hasDictAll ds = false → Vals vs us → ∃ as, ReadsAll s.heap us ds as
  | _, _, _, .nil, _, .nil => ⟨_, .nil⟩
  | _, _, _, .cons a b, hd, .cons p q => by
    unfold PyData.hasDictAll at hd
    rw [Bool.or_eq_false_iff] at hd
    obtain ⟨as, h1⟩ := den_reads I r a hd.1 p
    obtain ⟨bs, h2⟩ := dens_reads I r b hd.2 q
    exact ⟨_, .cons h1 h2⟩
end
end
theorem calls_repr {X : Cx} (hg : X.A.guards = some []) (hu : X.A.units + 65 < cLine) : CallS X (.builtin "repr") reprV := by
  refine ⟨fun xs H Q => ∃ (a : Addr) (F : Hp) (d : Dt), xs = [.ref a] ∧ Den X.K F (.ref a) d ∧ Rle F H ∧ repOk d = true ∧ Q (.str d.shown) H, ?_, ?_⟩
  · intro pins s σ H xs us Q I rx h
    obtain ⟨a, F, d, rfl, hD, hr, hok, q⟩ := h
    obtain ⟨u, us', e, ru, rn⟩ : ∃ u us', us = u :: us' ∧ RelV (.ref a) u ∧ Vals [] us' := by
      cases rx with
      | cons p q => exact ⟨_, _, rfl, p, q⟩
    cases rn
    cases (show u = Value.ref a from ru)
    subst e
    unfold repOk at hok
    simp only [Bool.and_eq_true, decide_eq_true_eq, Bool.not_eq_true'] at hok
    obtain ⟨⟨⟨⟨h1, h2⟩, h3⟩, h4⟩, h5⟩ := hok
    obtain ⟨as, rd⟩ := den_reads I hr hD h3 rfl
    refine repr_of_reads' rd h2 (fun z => by rw [h3] at z; cases z) hg (by omega) (fun b o e => e) (fun h' u tk hk => ?_) h4
    exact ⟨.str d.shown, H, I.turnedL (t' := tk) (ch := []) (fun b o _ e => hk b o e) (fun b hb => nomatch hb), ⟨u, rfl⟩, q⟩
  · intro mh F ρ H xs vs rv Q w dd e q
    unfold reprV at e
    split at e
    · rename_i d
      split at e
      · rename_i hok
        cases e
        cases dd with
        | cons p pn =>
          cases pn
          have p : Den X.K F _ d := p
          have hs : isSq d = true := by
            unfold repOk at hok
            simp only [Bool.and_eq_true] at hok
            exact hok.1.1.1.1
          cases p with
          | lst a b c => exact ⟨_, F, _, rfl, .lst a b c, w.rle, hok, q.here w (Den.str _)⟩
          | tup a b c => exact ⟨_, F, _, rfl, .tup a b c, w.rle, hok, q.here w (Den.str _)⟩
          | non => cases hs
          | bl b => cases hs
          | int b => cases hs
          | str b => cases hs
          | dct a b c => cases hs
      · cases e
    · cases e
def gcdV (_ : List Ob) : List Val → Option Rv
  | [.d (.int a), .d (.int b)] => some (.v (.d (.int ((Nat.gcd a.natAbs b.natAbs : Nat) : Int))))
  | _ => none
theorem calls_gcd {X : Cx} : CallS X (.builtin "math.gcd") gcdV := by
  refine ⟨rGcd, cr_gcd, ?_⟩
  intro mh F ρ H xs vs rv Q w dd e q
  unfold gcdV at e
  split at e
  · cases e
    cases dd with
    | cons p pn =>
      cases pn with
      | cons p2 pn2 =>
        cases pn2
        cases den_int p
        cases den_int p2
        exact ⟨_, _, rfl, q.here w (Den.int _)⟩
  · cases e
section
variable {X : Cx} {pos : Pos}
theorem se_biG {x : Str} {id : String} {f : List Ob → List Val → Option Rv} {c : Bool} {e0 : Expr} {es : List Expr} {as : Sl → M (List Val)} {p : Pos} (o : CallS X (.builtin id) f) (hg : Gl X x) (hm : X.mg x = some (.builtin id)) (h : SA X (e0 :: es) as)
    (hdb : (x == ("__debug__" : Str)) = false) (he : starEach (e0 :: es) X.env = (false, eval e0 X.env) :: starEach es X.env) (hpl : (backTo pos (starEach es X.env)).any (·.1) = false) : SE X (.Call (.Name x p) (e0 :: es) [] pos) (mBi f c as) := by
  obtain ⟨r, o1, o2⟩ := o
  refine SE.mk (pe_callBfun o1 hg hm h hdb he hpl) fun Q rl e q => ?_
  obtain ⟨vs, mh1, e1, e_1⟩ := M.bind_some.mp e
  obtain ⟨rv, mh2, e2, e_2⟩ := M.bind_some.mp e_1
  obtain ⟨e2, e3⟩ := rdM_some.mp e2
  simp only at e2 e3
  subst e3
  exact ⟨_, _, _, _, _, _, rl, e1, fun F1 ρ1 H1 us w1 g1 d1 => o2 Q w1 d1 e2 (finR_ok e_2 fun F' ρ' H' u w g d => q F' ρ' H' u w (g1.trans g) d)⟩
end
end Pv

/-! PC: instances, dicts by tuples, comprehensions of two clauses -/
namespace Pv
open PySem PySem.Spec PyProof.Rows L2

/-! ### fields -/
def putFV (f : Str) (v : Val) : List (Str × Val) → List (Str × Val)
  | [] => [(f, v)]
  | (g, x) :: r => if g = f then (g, v) :: r else (g, x) :: putFV f v r
theorem putFV_length (f : Str) (v : Val) : ∀ fs : List (Str × Val), (putFV f v fs).length ≤ fs.length + 1
  | [] => Nat.le_refl _
  | (g, x) :: r => by
    have := putFV_length f v r
    unfold putFV
    split
    · exact Nat.le_succ _
    · rw [List.length_cons, List.length_cons]; omega
section
variable {K : PySem.W.Frag} {mh : List Ob} {F : Hp} {ρ : List Addr} {H : Hp}
theorem DenVA.length {κ : Type} {us : List (κ × V)} {vs : List (κ × Val)} (h : DenVA K F ρ us vs) : us.length = vs.length := Paired.length h
theorem fld_some {f : Str} : ∀ {us : List (Str × V)} {fs : List (Str × Val)} {v : Val}, DenVA K F ρ us fs → fs.lookup f = some v → ∃ u, us.lookup f = some u ∧ DenV K F ρ u v
  | _, _, _, .nil, e => by cases e
  | (g, x) :: us, (g', y) :: fs, v, .cons a b, e => by
    have e1 : g = g' := a.1
    subst e1
    by_cases h : f = g
    · have hb : (f == g) = true := beq_iff_eq.mpr h
      simp only [List.lookup, hb] at e ⊢
      cases e
      exact ⟨x, rfl, a.2⟩
    · have hb : (f == g) = false := beq_eq_false_iff_ne.mpr h
      simp only [List.lookup, hb] at e ⊢
      exact fld_some b e
theorem fld_none {f : Str} : ∀ {us : List (Str × V)} {fs : List (Str × Val)}, DenVA K F ρ us fs → fs.lookup f = none → us.lookup f = none
  | _, _, .nil, e => rfl
  | (g, x) :: us, (g', y) :: fs, .cons a b, e => by
    have e1 : g = g' := a.1
    subst e1
    by_cases h : f = g
    · have hb : (f == g) = true := beq_iff_eq.mpr h
      simp only [List.lookup, hb] at e
      cases e
    · have hb : (f == g) = false := beq_eq_false_iff_ne.mpr h
      simp only [List.lookup, hb] at e ⊢
      exact fld_none b e
theorem putF_den {f : Str} {u : V} {v : Val} (d : DenV K F ρ u v) : ∀ {us : List (Str × V)} {fs : List (Str × Val)}, DenVA K F ρ us fs → DenVA K F ρ (L2.putF f u us) (putFV f v fs)
  | _, _, .nil => .cons ⟨rfl, d⟩ .nil
  | (g, x) :: us, (g', y) :: fs, .cons a b => by
    have e1 : g = g' := a.1
    subst e1
    by_cases h : g = f
    · show DenVA K F ρ (if g = f then (g, u) :: us else (g, x) :: L2.putF f u us) (if g = f then (g, v) :: fs else (g, y) :: putFV f v fs)
      rw [if_pos h, if_pos h]
      exact .cons ⟨rfl, d⟩ b
    · show DenVA K F ρ (if g = f then (g, u) :: us else (g, x) :: L2.putF f u us) (if g = f then (g, v) :: fs else (g, y) :: putFV f v fs)
      rw [if_neg h, if_neg h]
      exact .cons a (putF_den d b)
end
/-- the class of the name C stands at Ca -/
abbrev ClAt (K : PySem.W.Frag) (C : Str) (Ca : Addr) : Prop := PySem.W.nsIn K mainGlobals C = some (some (.ref Ca))
/-- the object that a value is: its cell, its class, its attributes -/
def insOf (mh : List Ob) : Val → Option (Str × List (Str × Val))
  | .ref n => match mh[n]? with
    | some (.ins C fs) => some (C, fs)
    | _ => none
  | _ => none
theorem insOf_ok {K : PySem.W.Frag} {mh : List Ob} {F : Hp} {ρ : List Addr} {H : Hp} {u : V} {v : Val} {C : Str} {fs : List (Str × Val)} (w : Wd K mh F ρ H) (d : DenV K F ρ u v) (h : insOf mh v = some (C, fs)) :
    ∃ (n : Nat) (a Ca dx : Addr) (us : List (Str × V)), v = .ref n ∧ mh[n]? = some (.ins C fs) ∧ ρ[n]? = some a ∧ u = .ref a ∧ ClAt K C Ca ∧ H a = some (.ins Ca dx us) ∧ DenVA K F ρ us fs ∧ fs.length ≤ 999 := by
  unfold insOf at h
  split at h
  · rename_i n
    split at h
    · rename_i C' fs' e
      cases h
      obtain ⟨a, ea, rfl⟩ := d
      obtain ⟨z, Ca, dx, us, h1, h2, h3⟩ := w.cell n a _ ea e
      exact ⟨n, a, Ca, dx, us, rfl, e, ea, rfl, h1, h2, h3, z⟩
    · cases h
  · cases h
/-! o.f -/
def mFld (Cs : List Str) (f : Str) (o : Sl → M Val) (env : Sl) : M Val := do
  let x ← o env
  rdM fun mh => (insOf mh x).bind fun p => if Cs.contains p.1 then p.2.lookup f else none
section
variable {X : Cx} {pos pos' : Pos} {o a value : Expr} {mo ma : Sl → M Val}
theorem se_fld {Cs : List Str} {f : Str} (hC : ∀ C ∈ Cs, ∀ Ca, ClAt X.K C Ca → Cls X.K Ca ∧ NoAttr X.K Ca f) (ho : SE X o mo) (hb : attributeBase o f X.env (eval o X.env) = eval o X.env) : SE X (.Attribute o f pos) (mFld Cs f mo) :=
  SE.mk (pe_fld ho hb) fun Q rl e q => by
    obtain ⟨x, mh1, e1, ea⟩ := M.bind_some.mp e
    obtain ⟨e2, e3⟩ := rdM_some.mp ea
    simp only at e2 e3
    subst e3
    refine ⟨_, _, _, _, _, _, rl, e1, fun F1 ρ1 H1 u w1 g1 d1 => ?_⟩
    obtain ⟨p, e4, e5⟩ := Option.bind_eq_some_iff.mp e2
    obtain ⟨C, fs⟩ := p
    have e5 : (if Cs.contains C then fs.lookup f else none) = some _ := e5
    by_cases hc : Cs.contains C = true
    · rw [if_pos hc] at e5
      obtain ⟨n, a, Ca, dx, us, rfl, h1, h2, rfl, h3, h4, h5, _⟩ := insOf_ok w1 d1 e4
      obtain ⟨c1, c2⟩ := hC C (List.contains_iff_mem.mp hc) Ca h3
      obtain ⟨z, h6, h7⟩ := fld_some h5 e5
      exact ⟨a, Ca, dx, us, z, rfl, h4, c1, c2, h6, q _ _ _ _ w1 g1 h7⟩
    · rw [if_neg hc] at e5; cases e5
/-! o.f = e -/
def setF (Cs : List Str) (f : Str) (x v : Val) : M Unit := fun mh => match x with
  | .ref n => match mh[n]? with
    | some (.ins C fs) => if Cs.contains C ∧ fs.length < 999 then some ((), mh.set n (.ins C (putFV f v fs))) else none
    | _ => none
  | _ => none
theorem setF_ok {K : PySem.W.Frag} {mh mh' : List Ob} {F : Hp} {ρ : List Addr} {H : Hp} {u uv : V} {x v : Val} {Cs : List Str} {f : Str} (w : Wd K mh F ρ H) (d : DenV K F ρ u x) (dv : DenV K F ρ uv v) (h : setF Cs f x v mh = some ((), mh')) :
    ∃ (a Ca dx : Addr) (us : List (Str × V)) (C : Str), C ∈ Cs ∧ ClAt K C Ca ∧ u = .ref a ∧ H a = some (.ins Ca dx us) ∧ us.length < 999 ∧ Wd K mh' F ρ (upd H a (.ins Ca dx (L2.putF f uv us))) ∧ Gr F ρ H F ρ (upd H a (.ins Ca dx (L2.putF f uv us))) := by
  unfold setF at h
  split at h
  · rename_i n
    split at h
    · rename_i C fs e
      split at h
      · rename_i hc
        cases h
        obtain ⟨a, ea, rfl⟩ := d
        obtain ⟨z, Ca, dx, us, h1, h2, h3⟩ := w.cell n a _ ea e
        obtain ⟨w', g'⟩ := w.write (u := .ins Ca dx (L2.putF f uv us)) (o := .ins C (putFV f v fs)) ea e rfl ⟨Nat.le_trans (putFV_length _ _ _) hc.2, Ca, dx, _, h1, upd_same, putF_den dv h3⟩
        exact ⟨a, Ca, dx, us, C, List.contains_iff_mem.mp hc.1, h1, rfl, h2, by rw [h3.length]; exact hc.2, w', g'⟩
      · cases h
    · cases h
  · cases h
def mSetF (Cs : List Str) (f : Str) (o a : Sl → M Val) (env : Sl) : M Fl := do
  let v ← a env
  let x ← o env
  setF Cs f x v
  pure (.nx env)
theorem ss_fld {Cs : List Str} {f : Str} (hC : ∀ C ∈ Cs, ∀ Ca, ClAt X.K C Ca → Cls X.K Ca ∧ NoAttr X.K Ca f) (ho : SE X o mo) (ha : SE X value ma) (hs : swapsWith value (some (.Attribute o f pos')) pos.line X.env = pure false) :
    SS X (.Assign [.Attribute o f pos'] value pos) (mSetF Cs f mo ma) :=
  SS.mk (ps_fld ho ha hs) fun D rl e q => by
    obtain ⟨v, mh1, e1, ea⟩ := M.bind_some.mp e
    obtain ⟨x, mh2, e2, eb⟩ := M.bind_some.mp ea
    obtain ⟨_, mh3, e3, ec⟩ := M.bind_some.mp eb
    cases ec
    refine ⟨_, _, _, _, _, _, rl, e1, fun F1 ρ1 H1 u1 w1 g1 d1 => ⟨_, _, _, _, _, _, rl.grow w1 g1, e2, fun F2 ρ2 H2 u2 w2 g2 d2 => ?_⟩⟩
    obtain ⟨a, Ca, dx, us, C, hm, h1, rfl, h2, h3, w3, g3⟩ := setF_ok w2 d2 (d1.grow g2) e3
    obtain ⟨c1, c2⟩ := hC C hm Ca h1
    exact ⟨a, Ca, dx, us, rfl, h2, c1, c2, by omega, q _ _ _ _ (rl.grow w3 ((g1.trans g2).trans g3)) ((g1.trans g2).trans g3)⟩
/-! C(..) -/
def mMk (C : Str) (f : List Val → M Val) (as : Sl → M (List Val)) (env : Sl) : M Val := do
  let vs ← as env
  fun mh => match f (.ref mh.length :: vs) (mh ++ [.ins C []]) with
    | some (.d .none, mh') => some (.ref mh.length, mh')
    | _ => none
theorem mk_sem {K : PySem.W.Frag} {mh mh' : List Ob} {F : Hp} {ρ : List Addr} {H : Hp} {C : Str} {Ca : Addr} {f : List Val → M Val} {us : List V} {vs : List Val} {v : Val} {n : Nat} {E : XK} (Q : VK) (hC : ClAt K C Ca) (hn : us.length + 1 = n) (w : Wd K mh F ρ H) (d : DenVs K F ρ us vs)
    (e : (match f (.ref mh.length :: vs) (mh ++ [.ins C []]) with | some (.d .none, mh') => some (.ref mh.length, mh') | _ => none) = some (v, mh')) (q : ∀ F' ρ' H' u, Wd K mh' F' ρ' H' → Gr F ρ H F' ρ' H' → DenV K F' ρ' u v → Q u H') :
    ∀ x dx, H x = none → H dx = none → dx ≠ x → spF K n f (.ref x :: (us ++ [])) (upd (upd H dx (.own x)) x (.ins Ca dx [])) (fun v H2 => v = .non ∧ Q (.ref x) H2) E := by
  intro x dx hx hdx ne
  split at e
  · rename_i mh1 e1
    cases e
    have hFx := w.freshF hdx
    have hρx := w.freshρ hdx
    have w0 : Wd K mh F ρ (upd H dx (.own x)) := w.updO hFx hρx
    have g0 : Gr F ρ H F ρ (upd H dx (.own x)) := ⟨.refl, List.prefix_refl _, fun a o h1 h2 h3 => ⟨by rw [upd_ne (ne_of_none h1 hdx)]; exact h1, h2, h3⟩⟩
    have hx2 : upd H dx (.own x) x = none := by rw [upd_ne (Ne.symm ne)]; exact hx
    obtain ⟨w1, g1⟩ := w0.newC (u := .ins Ca dx []) (o := .ins C []) hx2 ⟨Nat.zero_le _, Ca, dx, [], hC, upd_same, .nil⟩
    have g01 := g0.trans g1
    have hl : (ρ ++ [x])[mh.length]? = some x := by rw [← w.len, List.getElem?_append_right (Nat.le_refl _), Nat.sub_self]; rfl
    refine ⟨by rw [List.append_nil, List.length_cons]; exact hn, _, _, _, _, _, _, w1, ?_, e1, fun F' ρ' H' u w' g' d' => ⟨den_non d', q _ _ _ _ w' (g01.trans g') ?_⟩⟩
    · rw [List.append_nil]
      exact .cons ⟨x, hl, rfl⟩ (d.grow g01)
    · obtain ⟨t, et⟩ := g'.pre
      exact ⟨x, by rw [← et, List.getElem?_append_left (List.getElem?_eq_some_iff.mp hl).1]; exact hl, rfl⟩
  · cases e
theorem se_mk {C : Str} {Ca f : Addr} {fd : FuncData} {ps : List Str} {k : Nat} {m : List Val → M Val} {x : Str} {p : Pos} {e0 : Expr} {es : List Expr} {as : Sl → M (List Val)} (hC : ClAt X.K C Ca) (Mq : Mk X.K Ca f) (F : FnOk X.prog X.w X.K X.mg X.base L2.CX0 k f fd ps (spF X.K ps.length m)) (hr : Room (k + 1) X.A) (hg : Gl X x) (hm : X.mg x = some (.ref Ca)) (hb : Binds X.K fd ps [])
    (ha : SA X (e0 :: es) as) (hl : (e0 :: es).length + 1 = ps.length) (hdb : (x == ("__debug__" : Str)) = false) (he : starEach (e0 :: es) X.env = (false, eval e0 X.env) :: starEach es X.env) (hpl : (backTo pos (starEach es X.env)).any (·.1) = false)
    (hal : ∀ {env : Sl} {mh mh' : List Ob} {vs : List Val}, as env mh = some (vs, mh') → vs.length = (e0 :: es).length) :
    SE X (.Call (.Name x p) (e0 :: es) [] pos) (mMk C m as) :=
  SE.mk (pe_make Mq F hr hg hm hb .nil L2.pass0 ha hdb he hpl) fun Q rl e q => by
    obtain ⟨vs, mh1, e1, ea⟩ := M.bind_some.mp e
    refine ⟨_, _, _, _, _, _, rl, e1, fun F1 ρ1 H1 us w1 g1 d1 => ?_⟩
    exact mk_sem Q hC (by rw [d1.length, hal e1, hl]) w1 d1 ea fun F' ρ' H' u w g d => q F' ρ' H' u w (g1.trans g) d
theorem se_mk0 {C : Str} {Ca f : Addr} {fd : FuncData} {ps : List Str} {k : Nat} {m : List Val → M Val} {x : Str} {p : Pos} (hC : ClAt X.K C Ca) (Mq : Mk X.K Ca f) (F : FnOk X.prog X.w X.K X.mg X.base L2.CX0 k f fd ps (spF X.K ps.length m)) (hr : Room (k + 1) X.A) (hg : Gl X x) (hm : X.mg x = some (.ref Ca)) (hb : Binds X.K fd ps [])
    (hl : 1 = ps.length) (hdb : (x == ("__debug__" : Str)) = false) : SE X (.Call (.Name x p) [] [] pos) (mMk C m (mArgs [])) :=
  SE.mk (pe_make0 Mq F hr hg hm hb .nil L2.pass0 hdb) fun Q rl e q => by
    obtain ⟨vs, mh1, e1, ea⟩ := M.bind_some.mp e
    cases e1
    exact mk_sem Q hC hl rl.wd .nil ea q
end
end Pv

/-! PD: methods of instances; dicts by tuples -/
namespace Pv
open PySem PySem.Spec PyProof.Rows L2

/-! ### o.m(..): the kit's pe_meth for any o -/
section
variable {X : Cx} {CX : CXT} {k : Nat} {f C : Addr} {fd : FuncData} {ps : List Str} {sp : Sp} {E : XK} {m : Str} {pos apos : Pos} {e o : Expr} {es : List Expr} {ta : TE} {t : TA}
theorem pv_meth (he : PE X o ta) (c : Cls X.K C) (hm : Meth X.K C m f) (F : FnOk X.prog X.w X.K X.mg X.base CX k f fd ps sp) (hr : Room k X.A) (hb : Binds X.K fd ps []) (hx : Passes CX X E) (ha : PA X (e :: es) t)
    (hbase : attributeBase o m X.env (eval o X.env) = eval o X.env)
    (hfew : ((backTo pos (starEach (e :: es) X.env)).all (fun x => !x.1) && (backToKw pos (keywordEach [] X.env)).all (fun x => x.1.isSome)
      && decide ((e :: es).length + ([] : List Keyword).length + (if ([] : List Keyword).isEmpty then 0 else 1) < 30)) = true)
    (hline : (apos.endLine == pos.line) = true)
    (hst : starEach (e :: es) X.env = (false, eval e X.env) :: starEach es X.env) (hpl : (backTo pos (starEach es X.env)).any (·.1) = false) :
    PE X (.Call (.Attribute o m apos) (e :: es) [] pos) (tMeth C m sp [] E ta t) := by
  refine ⟨fun pins s σ H Q I h => ?_⟩
  rw [arm_eval_Call, hbase]
  refine wpAny_bind (wpAny_mono (he.run pins s σ H _ I h) (fun u s1 ⟨x, H1, I1, rx, a, dx, fs, ex, ea, l, q⟩ => ?_) fun _ _ z => z)
  subst ex
  obtain rfl : u = Value.ref a := rx
  refine wpAny_bind (wpAny_standAt ?_)
  have hform : methodCallForm ((e :: es).length + ([] : List Keyword).length) (backTo pos (starEach (e :: es) X.env)) (backToKw pos (keywordEach [] X.env)) = true := hfew
  have hpos : methodCallPos true o X.env apos pos = pure pos := by unfold methodCallPos; simp [hline]
  unfold methodCall
  rw [hform]
  refine wpAny_bind (wpAny_holding ?_)
  refine getmeth_ok I1 ea c hm l ?_
  refine wpAny_bind (wpAny_of_eq hpos ?_)
  refine PySem.W.callWith_K (first := [.ref a]) (h₀ := X.base) I.ok.mod.kin hm.kp (thn (ha.run pos pins s1 σ H1 _ I1 q) fun us s2 ⟨vs, H2, I2, r, q2⟩ => ⟨I2.kIn, ?_⟩) hst hpl
  exact run_fn (us := .ref a :: us) (vs := .ref a :: vs) F hr hb .nil hx I2 (.cons rfl r) q2
theorem pv_meth0 (he : PE X o ta) (c : Cls X.K C) (hm : Meth X.K C m f) (F : FnOk X.prog X.w X.K X.mg X.base CX k f fd ps sp) (hr : Room k X.A) (hb : Binds X.K fd ps []) (hx : Passes CX X E)
    (hbase : attributeBase o m X.env (eval o X.env) = eval o X.env) (hline : (apos.endLine == pos.line) = true) :
    PE X (.Call (.Attribute o m apos) [] [] pos) (tMeth C m sp [] E ta tNil) := by
  refine ⟨fun pins s σ H Q I h => ?_⟩
  rw [arm_eval_Call, hbase]
  refine wpAny_bind (wpAny_mono (he.run pins s σ H _ I h) (fun u s1 ⟨x, H1, I1, rx, a, dx, fs, ex, ea, l, q⟩ => ?_) fun _ _ z => z)
  subst ex
  obtain rfl : u = Value.ref a := rx
  refine wpAny_bind (wpAny_standAt ?_)
  have hform : methodCallForm (([] : List Expr).length + ([] : List Keyword).length) (backTo pos (starEach [] X.env)) (backToKw pos (keywordEach [] X.env)) = true := rfl
  have hpos : methodCallPos true o X.env apos pos = pure pos := by unfold methodCallPos; simp [hline]
  unfold methodCall
  rw [hform]
  refine wpAny_bind (wpAny_holding ?_)
  refine getmeth_ok I1 ea c hm l ?_
  refine wpAny_bind (wpAny_of_eq hpos ?_)
  exact PySem.W.callWith_K0 (first := [.ref a]) I1.kIn hm.kp (run_fn (us := [.ref a]) (vs := [.ref a]) F hr hb .nil hx I1 (.cons rfl .nil) q)
end
/-- o.m(..): by the class that o is of -/
def mMc (alts : List (Str × (List Val → M Val))) (m : Str) (o : Sl → M Val) (as : Sl → M (List Val)) (env : Sl) : M Val := do
  let x ← o env
  let p ← rdM fun mh => insOf mh x
  match alts.lookup p.1, p.2.lookup m with
  | some f, none => do
    let vs ← as env
    f (x :: vs)
  | _, _ => fun _ => none
section
variable {X : Cx} {pos apos : Pos} {o e0 : Expr} {es : List Expr} {mo : Sl → M Val} {as : Sl → M (List Val)} {m : Str} {k : Nat} {alts : List (Str × (List Val → M Val))}
theorem se_mcall (hA : ∀ C f, alts.lookup C = some f → ∃ Ca, ClAt X.K C Ca ∧ Cls X.K Ca ∧ ∃ (addr : Addr) (fd : FuncData) (ps : List Str), Meth X.K Ca m addr ∧ FnOk X.prog X.w X.K X.mg X.base L2.CX0 k addr fd ps (spF X.K ps.length f) ∧ Binds X.K fd ps [] ∧ ps.length = (e0 :: es).length + 1)
    (hr : Room k X.A) (ho : SE X o mo) (ha : SA X (e0 :: es) as) (hbase : attributeBase o m X.env (eval o X.env) = eval o X.env)
    (hfew : ((backTo pos (starEach (e0 :: es) X.env)).all (fun x => !x.1) && (backToKw pos (keywordEach [] X.env)).all (fun x => x.1.isSome)
      && decide ((e0 :: es).length + ([] : List Keyword).length + (if ([] : List Keyword).isEmpty then 0 else 1) < 30)) = true)
    (hline : (apos.endLine == pos.line) = true) (hst : starEach (e0 :: es) X.env = (false, eval e0 X.env) :: starEach es X.env) (hpl : (backTo pos (starEach es X.env)).any (·.1) = false)
    (hal : ∀ {env : Sl} {mh mh' : List Ob} {vs : List Val}, as env mh = some (vs, mh') → vs.length = (e0 :: es).length) : SE X (.Call (.Attribute o m apos) (e0 :: es) [] pos) (mMc alts m mo as) := by
  refine ⟨fun pins s σ H Q I h1 => ?_⟩
  obtain ⟨env, mh, F, ρ, v, mh', rl, e, q⟩ := h1
  obtain ⟨x, mh1, e1, ea⟩ := M.bind_some.mp e
  obtain ⟨p, mh2, e2, eb⟩ := M.bind_some.mp ea
  obtain ⟨e2, e3⟩ := rdM_some.mp e2
  simp only at e2 e3
  subst e3
  obtain ⟨C, fs⟩ := p
  have eb : (match alts.lookup C, fs.lookup m with | some f, none => (do let vs ← as env; f (x :: vs) : M Val) | _, _ => fun _ => none) _ = some (v, mh') := eb
  cases hf : alts.lookup C with
  | none => rw [hf] at eb; cases eb
  | some f =>
    cases hn : fs.lookup m with
    | some z => rw [hf, hn] at eb; cases eb
    | none =>
      rw [hf, hn] at eb
      obtain ⟨vs, mh3, e4, ec⟩ := M.bind_some.mp eb
      obtain ⟨Ca, hCa, c1, addr, fd, ps, c2, c3, c4, c5⟩ := hA C f hf
      refine (pv_meth (E := L2.E0) ho c1 c2 c3 hr c4 L2.pass0 ha hbase hfew hline hst hpl).run pins s σ H Q I ⟨_, _, _, _, _, _, rl, e1, fun F1 ρ1 H1 u w1 g1 d1 => ?_⟩
      obtain ⟨n, a, Ca', dx, us, rfl, h1, h2, rfl, h3, h4, h5, _⟩ := insOf_ok w1 d1 e2
      have ec2 : Ca' = Ca := by
        have := h3.symm.trans hCa
        cases this; rfl
      subst ec2
      refine ⟨a, dx, us, rfl, h4, fld_none h5 hn, _, _, _, _, _, _, rl.grow w1 g1, e4, fun F2 ρ2 H2 us2 w2 g2 d2 => ?_⟩
      refine ⟨by rw [List.append_nil, List.length_cons, d2.length, hal e4, c5], _, _, _, _, _, _, w2, ?_, ec, fun F' ρ' H' u w g d => q F' ρ' H' u w ((g1.trans g2).trans g) d⟩
      rw [List.append_nil]
      exact .cons (d1.grow g2) d2
theorem se_mcall0 (hA : ∀ C f, alts.lookup C = some f → ∃ Ca, ClAt X.K C Ca ∧ Cls X.K Ca ∧ ∃ (addr : Addr) (fd : FuncData) (ps : List Str), Meth X.K Ca m addr ∧ FnOk X.prog X.w X.K X.mg X.base L2.CX0 k addr fd ps (spF X.K ps.length f) ∧ Binds X.K fd ps [] ∧ ps.length = 1)
    (hr : Room k X.A) (ho : SE X o mo) (hbase : attributeBase o m X.env (eval o X.env) = eval o X.env) (hline : (apos.endLine == pos.line) = true) : SE X (.Call (.Attribute o m apos) [] [] pos) (mMc alts m mo (mArgs [])) := by
  refine ⟨fun pins s σ H Q I h1 => ?_⟩
  obtain ⟨env, mh, F, ρ, v, mh', rl, e, q⟩ := h1
  obtain ⟨x, mh1, e1, ea⟩ := M.bind_some.mp e
  obtain ⟨p, mh2, e2, eb⟩ := M.bind_some.mp ea
  obtain ⟨e2, e3⟩ := rdM_some.mp e2
  simp only at e2 e3
  subst e3
  obtain ⟨C, fs⟩ := p
  have eb : (match alts.lookup C, fs.lookup m with | some f, none => (do let vs ← mArgs [] env; f (x :: vs) : M Val) | _, _ => fun _ => none) _ = some (v, mh') := eb
  cases hf : alts.lookup C with
  | none => rw [hf] at eb; cases eb
  | some f =>
    cases hn : fs.lookup m with
    | some z => rw [hf, hn] at eb; cases eb
    | none =>
      rw [hf, hn] at eb
      obtain ⟨vs, mh3, e4, ec⟩ := M.bind_some.mp eb
      cases e4
      obtain ⟨Ca, hCa, c1, addr, fd, ps, c2, c3, c4, c5⟩ := hA C f hf
      refine (pv_meth0 (E := L2.E0) ho c1 c2 c3 hr c4 L2.pass0 hbase hline).run pins s σ H Q I ⟨_, _, _, _, _, _, rl, e1, fun F1 ρ1 H1 u w1 g1 d1 => ?_⟩
      obtain ⟨n, a, Ca', dx, us, rfl, h1, h2, rfl, h3, h4, h5, _⟩ := insOf_ok w1 d1 e2
      have ec2 : Ca' = Ca := by
        have := h3.symm.trans hCa
        cases this; rfl
      subst ec2
      refine ⟨a, dx, us, rfl, h4, fld_none h5 hn, ?_⟩
      exact ⟨c5.symm, _, _, _, _, _, _, w1, .cons d1 .nil, ec, fun F' ρ' H' u w g d => q F' ρ' H' u w (g1.trans g) d⟩
end
end Pv

/-! PT: dicts by tuples -/
namespace Pv
open PySem PySem.Spec PyProof.Rows L2
def keysL : List Val → Option (List Key)
  | [] => some []
  | v :: vs => match keyVl v, keysL vs with
    | some k, some ks => some (k :: ks)
    | _, _ => none
def findG {κ : Type} [DecidableEq κ] (kvs : List (κ × Val)) (k : κ) : Option Val := (kvs.find? fun kv => decide (kv.1 = k)).map (·.2)
def putG {κ : Type} [DecidableEq κ] (kvs : List (κ × Val)) (k : κ) (v : Val) : List (κ × Val) :=
  if (kvs.any fun kv => decide (kv.1 = k)) = true then kvs.map fun kv => if kv.1 = k then (kv.1, v) else kv else kvs ++ [(k, v)]
section
variable {K : PySem.W.Frag} {F : Hp} {ρ : List Addr} {κ : Type} [DecidableEq κ]
theorem keysL_den : ∀ {us : List V} {vs : List Val} {ks : List Key}, DenVs K F ρ us vs → keysL vs = some ks → us = ks.map kV
  | _, _, _, .nil, e => by cases e; rfl
  | _, v :: vs, ks, .cons a b, e => by
    unfold keysL at e
    cases h1 : keyVl v with
    | none => rw [h1] at e; cases e
    | some k =>
      cases h2 : keysL vs with
      | none => rw [h1, h2] at e; cases e
      | some ks' =>
        rw [h1, h2] at e
        cases e
        rw [key_den a h1, keysL_den b h2]; rfl
theorem findG_ok {k : κ} : ∀ {ks : List (κ × V)} {kvs : List (κ × Val)} {v : Val}, DenVA K F ρ ks kvs → findG kvs k = some v → ∃ u, valV ks k = some u ∧ DenV K F ρ u v
  | _, _, _, .nil, e => by cases e
  | (k1, u) :: ks, (k2, v) :: kvs, w, .cons ⟨e, d⟩ r, h => by
    have e : k1 = k2 := e
    subst e
    by_cases hk : k1 = k
    · subst hk
      have h2 : findG ((k1, v) :: kvs) k1 = some v := by simp [findG]
      rw [h2] at h
      cases h
      exact ⟨u, valV_pos rfl, d⟩
    · rw [show findG ((k1, v) :: kvs) k = findG kvs k by simp [findG, List.find?_cons, hk]] at h
      rw [show valV ((k1, u) :: ks) k = valV ks k from valV_neg hk]
      exact findG_ok r h
theorem putG_any {k : κ} : ∀ {ks : List (κ × V)} {kvs : List (κ × Val)}, DenVA K F ρ ks kvs → (ks.any fun kv => decide (kv.1 = k)) = kvs.any fun kv => decide (kv.1 = k)
  | _, _, .nil => rfl
  | _, _, .cons a b => by rw [List.any_cons, List.any_cons, putG_any b, a.1]
theorem putG_map {k : κ} {u : V} {v : Val} (d : DenV K F ρ u v) : ∀ {ks : List (κ × V)} {kvs : List (κ × Val)}, DenVA K F ρ ks kvs →
    DenVA K F ρ (ks.map fun kv => if kv.1 = k then (kv.1, u) else kv) (kvs.map fun kv => if kv.1 = k then (kv.1, v) else kv)
  | _, _, .nil => .nil
  | (k1, x) :: _, (k2, y) :: _, .cons a b => by
    have e : k1 = k2 := a.1
    subst e
    refine .cons ?_ (putG_map d b)
    by_cases h : k1 = k
    · simp only [h]; exact ⟨rfl, d⟩
    · show (if k1 = k then (k1, u) else (k1, x)).1 = (if k1 = k then (k1, v) else (k1, y)).1 ∧ DenV K F ρ (if k1 = k then (k1, u) else (k1, x)).2 (if k1 = k then (k1, v) else (k1, y)).2
      rw [if_neg h, if_neg h]; exact ⟨rfl, a.2⟩
theorem putG_snoc {k : κ} {u : V} {v : Val} (d : DenV K F ρ u v) : ∀ {ks : List (κ × V)} {kvs : List (κ × Val)}, DenVA K F ρ ks kvs → DenVA K F ρ (ks ++ [(k, u)]) (kvs ++ [(k, v)])
  | _, _, .nil => .cons ⟨rfl, d⟩ .nil
  | _, _, .cons a b => .cons a (putG_snoc d b)
theorem putG_den {k : κ} {u : V} {v : Val} (d : DenV K F ρ u v) {ks : List (κ × V)} {kvs : List (κ × Val)} (h : DenVA K F ρ ks kvs) : DenVA K F ρ (putK ks k u) (putG kvs k v) := by
  unfold putK putG
  rw [putG_any h]
  split
  · exact putG_map d h
  · exact putG_snoc d h
theorem putG_length (kvs : List (κ × Val)) (k : κ) (v : Val) : (putG kvs k v).length ≤ kvs.length + 1 := by
  unfold putG
  split
  · rw [List.length_map]; omega
  · rw [List.length_append]; exact Nat.le_refl _
end
/-- the key that a tuple display is -/
def keyT (vs : List Val) : Option (List Key) := if vs.length ≤ sizeLine then keysL vs else none
theorem keyT_some {vs : List Val} {k : List Key} (h : keyT vs = some k) : vs.length ≤ sizeLine ∧ keysL vs = some k := by
  unfold keyT at h
  split at h
  · exact ⟨‹_›, h⟩
  · cases h
def getT (mh : List Ob) (x : Val) (k : List Key) : Option Val := match x with
  | .ref n => match mh[n]? with
    | some (.dtk kvs) => findG kvs k
    | _ => none
  | _ => none
def mIxT (o : Sl → M Val) (as : Sl → M (List Val)) (env : Sl) : M Val := do
  let x ← o env
  let vs ← as env
  let k ← ofO (keyT vs)
  rdM fun mh => getT mh x k
def setT (x : Val) (k : List Key) (v : Val) : M Unit := fun mh => match x with
  | .ref n => match mh[n]? with
    | some (.dtk kvs) => if kvs.length < sizeLine then some ((), mh.set n (.dtk (putG kvs k v))) else none
    | _ => none
  | _ => none
def gSbT (mo : Sl → M Val) (as : Sl → M (List Val)) (v : Val) (env : Sl) : M Sl := do
  let x ← mo env
  let vs ← as env
  let k ← ofO (keyT vs)
  setT x k v
  pure env
def mDictT0 (_ : Sl) : M Val := alloc (.dtk [])
section
variable {X : Cx} {pos p2 : Pos} {o : Expr} {es : List Expr} {mo : Sl → M Val} {as : Sl → M (List Val)} {j : Nat}
theorem se_ixT (hu : X.A.units + 1 < cLine) (ho : SE X o mo) (ha : SA X es as) : SE X (.Subscript o (.Tuple es j p2) pos) (mIxT mo as) :=
  SE.mk (pe_dget hu ho (pe_tup ha) (fun _ _ => rfl)) fun Q rl e q => by
    obtain ⟨x, mh1, e1, ea⟩ := M.bind_some.mp e
    obtain ⟨vs, mh2, e2, eb⟩ := M.bind_some.mp ea
    obtain ⟨k, mh3, e3, ec⟩ := M.bind_some.mp eb
    obtain ⟨h1, h2⟩ := ofO_some.mp e3
    simp only at h1 h2
    subst h2
    obtain ⟨h3, h4⟩ := rdM_some.mp ec
    simp only at h3 h4
    subst h4
    obtain ⟨hl, hk⟩ := keyT_some h1
    refine ⟨_, _, _, _, _, _, rl, e1, fun F1 ρ1 H1 u w1 g1 d1 => ⟨_, _, _, _, _, _, rl.grow w1 g1, e2, fun F2 ρ2 H2 us w2 g2 d2 => ⟨by rw [d2.length]; exact hl, fun p hp => ?_⟩⟩⟩
    obtain ⟨w3, g3⟩ := w2.newF (o := .tup us) hp
    have d1' := d1.grow (g2.trans g3)
    unfold getT at h3
    split at h3
    · rename_i n
      split at h3
      · rename_i kvs e4
        obtain ⟨a, ea, rfl⟩ := d1'
        obtain ⟨z, ks, h5, h6⟩ := w3.cell n a _ ea e4
        obtain ⟨y, h7, h8⟩ := findG_ok h6 h3
        refine ⟨a, y, rfl, ?_, q _ _ _ _ w3 ((g1.trans g2).trans g3) h8⟩
        rw [← h7]
        exact DGet.t h5 (by rw [upd_same, keysL_den d2 hk])
      · cases h3
    · cases h3
theorem sg_subT (hu : X.A.units + 1 < cLine) (ho : SE X o mo) (ha : SA X es as)
    (hq : ∀ v, assign (.Subscript o (.Tuple es j p2) pos) X.env v = (do
      let ov ← holding [v] (eval o X.env)
      let iv ← holding [v, ov] (eval (.Tuple es j p2) X.env)
      standAt pos
      holding [v, ov, iv] (setItem ov iv v)
      release [v, ov, iv] [])) : SG X (.Subscript o (.Tuple es j p2) pos) [] (gSbT mo as) := by
  refine ⟨fun pins s σ H u w Q I r hw => ?_⟩
  obtain ⟨env, mh, F, ρ, v, env', mh', rl, d, e, q⟩ := hw
  obtain ⟨x, mh1, e1, ea⟩ := M.bind_some.mp e
  obtain ⟨vs, mh2, e2, eb⟩ := M.bind_some.mp ea
  obtain ⟨k, mh3, e3, ec⟩ := M.bind_some.mp eb
  obtain ⟨_, mh4, e4, ed⟩ := M.bind_some.mp ec
  cases ed
  obtain ⟨h1, h2⟩ := ofO_some.mp e3
  simp only at h1 h2
  subst h2
  obtain ⟨hl, hk⟩ := keyT_some h1
  refine (pg_sub ho (pe_tup ha) (set_dct hu) hq).run pins s σ H u w Q I r ⟨_, _, _, _, _, _, rl, e1, fun F1 ρ1 H1 u1 w1 g1 d1 => ⟨_, _, _, _, _, _, rl.grow w1 g1, e2, fun F2 ρ2 H2 us w2 g2 d2 => ⟨by rw [d2.length]; exact hl, fun p hp => ?_⟩⟩⟩
  obtain ⟨w3, g3⟩ := w2.newF (o := .tup us) hp
  have d1' := d1.grow (g2.trans g3)
  have dv := d.grow ((g1.trans g2).trans g3)
  unfold setT at e4
  split at e4
  · rename_i n
    split at e4
    · rename_i kvs e5
      split at e4
      · rename_i hz
        cases e4
        obtain ⟨a, ea, rfl⟩ := d1'
        obtain ⟨z, ks, h5, h6⟩ := w3.cell n a _ ea e5
        obtain ⟨w4, g4⟩ := w3.write (u := .dT (putK ks k u)) (o := .dtk (putG kvs k v)) ea e5 rfl ⟨Nat.le_trans (putG_length _ _ _) hz, _, upd_same, putG_den dv h6⟩
        exact ⟨a, _, rfl, DPut.t h5 (by rw [upd_same, keysL_den d2 hk]) (by rw [h6.length]; exact hz), q _ _ _ _ (rl.grow w4 (((g1.trans g2).trans g3).trans g4)) (((g1.trans g2).trans g3).trans g4) fun _ _ => rfl⟩
      · cases e4
    · cases e4
  · cases e4
theorem se_dictT0 : SE X (.Dict [] [] pos) mDictT0 :=
  SE.mk pe_dnewT fun Q rl e q => by
    cases e
    intro p hp
    obtain ⟨w', g'⟩ := rl.wd.newC (u := .dT []) (o := .dtk []) hp ⟨Nat.zero_le _, [], upd_same, .nil⟩
    exact q _ _ _ _ w' g' ⟨p, by rw [← rl.wd.len, List.getElem?_append_right (Nat.le_refl _), Nat.sub_self]; rfl, rfl⟩
end
/-- {k: v}: the dict stands before its entry -/
def putD (n : Nat) (k : Key) (v : Val) : M Val := fun mh => match mh[n]? with
  | some (.dct []) => some (.ref n, mh.set n (.dct [(k, v)]))
  | _ => none
def mDk (a b : Sl → M Val) (env : Sl) : M Val := fun mh => (do
  let _ ← alloc (.dct [])
  let y ← a env
  let z ← b env
  let k ← ofO (keyVl y)
  putD mh.length k z) mh
theorem se_dk {X : Cx} {pos : Pos} {a b : Expr} {ma mb : Sl → M Val} (ha : SE X a ma) (hb : SE X b mb) : SE X (.Dict [some a] [b] pos) (mDk ma mb) :=
  SE.mk (pe_disp (pps_cons ha hb pps_nil) rfl rfl (fun z => by cases z) (show 1 ≤ 15 by decide)) fun {env mh mh' F ρ σ H v} Q rl e q => by
    intro p hp
    obtain ⟨w0, g0⟩ := rl.wd.newC (u := .dK []) (o := .dct []) hp ⟨Nat.zero_le _, [], upd_same, .nil⟩
    obtain ⟨x0, mh0, e0, ea⟩ := M.bind_some.mp e
    cases e0
    obtain ⟨y, mh1, e1, eb⟩ := M.bind_some.mp ea
    obtain ⟨z, mh2, e2, ec⟩ := M.bind_some.mp eb
    obtain ⟨k, mh3, e3, ed⟩ := M.bind_some.mp ec
    obtain ⟨h1, h2⟩ := ofO_some.mp e3
    simp only at h1 h2
    subst h2
    have rl0 := rl.grow w0 g0
    show tE X.K ma σ _ _
    refine ⟨_, _, _, _, _, _, rl0, e1, fun F1 ρ1 H1 u w1 g1 d1 => ⟨_, _, _, _, _, _, rl0.grow w1 g1, e2, fun F2 ρ2 H2 u2 w2 g2 d2 => ?_⟩⟩
    unfold putD at ed
    split at ed
    · rename_i hn
      cases ed
      have hρ : (ρ ++ [p])[mh.length]? = some p := by rw [← rl.wd.len, List.getElem?_append_right (Nat.le_refl _), Nat.sub_self]; rfl
      have hpre : ρ ++ [p] <+: ρ2 := (g1.trans g2).pre
      have hρ2 : ρ2[mh.length]? = some p := by
        obtain ⟨t, ht⟩ := hpre
        rw [← ht, List.getElem?_append_left (List.getElem?_eq_some_iff.mp hρ).1]; exact hρ
      obtain ⟨_, ks, h5, h6⟩ := w2.cell _ p _ hρ2 hn
      cases h6
      have dk := key_den (d1.grow g2) h1
      refine ⟨h5, [(k, u2)], by rw [dk]; rfl, by show 1 ≤ 15; decide, ?_⟩
      obtain ⟨w4, g4⟩ := w2.write (u := .dK [(k, u2)]) (o := .dct [(k, z)]) hρ2 hn rfl ⟨by show 1 ≤ sizeLine; decide, _, upd_same, .cons ⟨rfl, d2⟩ .nil⟩
      exact q _ _ _ _ w4 (((g0.trans g1).trans g2).trans g4) ⟨p, hρ2, rfl⟩
    · cases ed
end Pv

/-! PL: list comprehensions of two clauses -/
namespace Pv
open PySem PySem.Spec PyProof.Rows L2
noncomputable def mIn {α : Type} (mi1 : Sl → M Ix) (vs1 : List Nat) (g1 : Val → Sl → M Sl) (t1 : Sl → M Bool) (el : Sl → M α) (env : Sl) : M (List α) := do
  let ix ← mi1 env
  loopC ix.g g1 t1 el (wipeE env vs1) ix.items
noncomputable def mLc2 (c : Bool) (mi : Sl → M Ix) (vs : List Nat) (g : Val → Sl → M Sl) (t : Sl → M Bool) (mi1 : Sl → M Ix) (vs1 : List Nat) (g1 : Val → Sl → M Sl) (t1 : Sl → M Bool) (el : Sl → M Val) (env : Sl) : M Val := do
  let ix ← mi env
  let ys ← loopC ix.g g t (mIn mi1 vs1 g1 t1 el) (wipeE env vs) ix.items
  if ys.flatten.length ≤ sizeLine then finR c (.nl ys.flatten) else fun _ => none
theorem lc2_sem {K : PySem.W.Frag} {c : Bool} {mi mi1 : Sl → M Ix} {vs vs1 sl sl1 : List Nat} {g g1 : Val → Sl → M Sl} {t t1 : Sl → M Bool} {el : Sl → M Val} {env : Sl} {mh mh' : List Ob} {F : Hp} {ρ : List Addr} {σ : L2.St} {H : Hp} {v : Val} (Q : VK) (hsl : ∀ i ∈ sl, i ∈ vs) (hsl1 : ∀ i ∈ sl1, i ∈ vs1)
    (rl : Rl K env mh F ρ σ H) (e : mLc2 c mi vs g t mi1 vs1 g1 t1 el env mh = some (v, mh')) (q : ∀ F' ρ' H' u, Wd K mh' F' ρ' H' → Gr F ρ H F' ρ' H' → DenV K F' ρ' u v → Q u H') :
    tLc2 (tIt K mi) (tGt K sl g) (tTs K t) (tIt K mi1) (tGt K sl1 g1) (tTs K t1) (tE K el) vs vs1 σ H Q := by
  obtain ⟨ix, mh1, e1, ea⟩ := M.bind_some.mp e
  obtain ⟨yss, mh2, e2, eb⟩ := M.bind_some.mp ea
  by_cases hys : yss.flatten.length ≤ sizeLine
  case neg => rw [if_neg hys] at eb; cases eb
  rw [if_pos hys] at eb
  generalize hfl : yss.flatten = ys at hys eb
  refine ⟨_, _, _, _, _, _, rl, e1, fun J F1 ρ1 H1 w1 g1' ok D hD => ?_⟩
  have hFD := w1.freshF hD
  have hρD := w1.freshρ hD
  refine ⟨fun i m H2 => m = ix.items.length - i ∧ i ≤ ix.items.length ∧ ∃ mhx F2 ρ2 acc us rest, Wd K mhx F2 ρ2 H2 ∧ GrD D F1 ρ1 H1 F2 ρ2 H2 ∧ H2 D = some (.lst us) ∧ F2 D = none ∧ D ∉ ρ2 ∧ DenVs K F2 ρ2 us acc ∧ acc ++ rest.flatten = ys ∧
    loopC ix.g g t (mIn mi1 vs1 g1 t1 el) (wipeE env vs) (ix.items.drop i) mhx = some (rest, mh2), ⟨ix.items.length, rfl, Nat.zero_le _, mh1, F1, ρ1, [], [], yss, w1.updO hFD hρD, .of, upd_same, hFD, hρD, .nil, by rw [← hfl]; rfl, e2⟩, ?_⟩
  rintro i m H2 ⟨rfl, hi2, mhx, F2, ρ2, acc, us, rest, w2, g2, hD2, hF2, hρ2, d2, ey, e3⟩
  have rl2 : Rl K (wipeE env vs) mhx F2 ρ2 (wipe σ vs) H2 := by
    refine ⟨w2, (rl.wiped vs).len, fun j x hx => ?_⟩
    obtain ⟨u, a1, a2⟩ := (rl.wiped vs).get j x hx
    exact ⟨u, a1, a2.mono (g1'.rd.trans g2.rd) (g1'.pre.trans g2.pre)⟩
  by_cases hlt : i < ix.items.length
  · rw [List.drop_eq_getElem_cons hlt] at e3
    obtain ⟨_, mh3, f3, e4⟩ := M.bind_some.mp e3
    obtain ⟨k1, k2⟩ := chkG_some f3
    cases k2
    obtain ⟨env4, mh4, f4, e5⟩ := M.bind_some.mp e4
    obtain ⟨b, mh5, f5, e6⟩ := M.bind_some.mp e5
    obtain ⟨go, yl⟩ := ok.go w2 g2.rd g2.pre k1 (List.getElem?_eq_getElem hlt)
    refine .inr ⟨go, fun H' => ∃ mhx F2 ρ2 acc us rest, Wd K mhx F2 ρ2 H' ∧ GrD D F1 ρ1 H1 F2 ρ2 H' ∧ H' D = some (.lst us) ∧ F2 D = none ∧ D ∉ ρ2 ∧ DenVs K F2 ρ2 us acc ∧ acc ++ rest.flatten = ys ∧
      loopC ix.g g t (mIn mi1 vs1 g1 t1 el) (wipeE env vs) (ix.items.drop (i + 1)) mhx = some (rest, mh2), fun H' h => ⟨ix.items.length - (i + 1), by omega, rfl, hlt, h⟩, fun x H3 hy => ?_⟩
    obtain ⟨F3, w3, g3, d3⟩ := yl x H3 hy
    refine ⟨_, _, _, _, _, _, _, rl2.grow w3 g3, d3, f4, fun F4 ρ4 σ4 H4 r4 g4 wp => ⟨(wp vs hsl).trans (wipe_twice vs fun _ h => h), _, _, _, _, _, _, r4, f5, fun F5 ρ5 H5 w5 g5 => ?_⟩⟩
    have g25 : Gr F2 ρ2 H2 F5 ρ5 H5 := (g3.trans g4).trans g5
    cases b with
    | false =>
      obtain ⟨a1, a2, a3⟩ := g25.fr D _ hD2 hF2 hρ2
      exact ⟨mh5, F5, ρ5, acc, us, rest, w5, g2.next g25, a1, a2, a3, d2.grow g25, ey, e6⟩
    | true =>
      obtain ⟨zs, mh6, f6, e7⟩ := M.bind_some.mp e6
      obtain ⟨rest', mh7, f7, e8⟩ := M.bind_some.mp e7
      cases e8
      obtain ⟨ix1, mh8, f8, e9⟩ := M.bind_some.mp f6
      rw [List.flatten_cons] at ey
      refine ⟨_, _, _, _, _, _, r4.grow w5 g5, f8, fun J1 F6 ρ6 H6 w6 g6 ok1 => ?_⟩
      have g26 := g25.trans g6
      obtain ⟨a1, a2, a3⟩ := g26.fr D _ hD2 hF2 hρ2
      refine ⟨fun j m H7 => m = ix1.items.length - j ∧ j ≤ ix1.items.length ∧ ∃ mhy F7 ρ7 acc us rest1, Wd K mhy F7 ρ7 H7 ∧ GrD D F1 ρ1 H1 F7 ρ7 H7 ∧ Rle F6 F7 ∧ ρ6 <+: ρ7 ∧ H7 D = some (.lst us) ∧ F7 D = none ∧ D ∉ ρ7 ∧ DenVs K F7 ρ7 us acc ∧ acc ++ (rest1 ++ rest'.flatten) = ys ∧
        loopC ix1.g g1 t1 el (wipeE env4 vs1) (ix1.items.drop j) mhy = some (rest1, mh6), ⟨ix1.items.length, rfl, Nat.zero_le _, mh8, F6, ρ6, acc, us, zs, w6, g2.next g26, .refl, List.prefix_refl _, a1, a2, a3, d2.grow g26, ey, e9⟩, ?_⟩
      rintro j m H7 ⟨rfl, hj2, mhy, F7, ρ7, acc, us, rest1, w7, g7, r67, p67, hD7, hF7, hρ7, d7, ey, e10⟩
      have rl7 : Rl K (wipeE env4 vs1) mhy F7 ρ7 (wipe σ4 vs1) H7 := by
        refine ⟨w7, (r4.wiped vs1).len, fun j x hx => ?_⟩
        obtain ⟨u, b1, b2⟩ := (r4.wiped vs1).get j x hx
        exact ⟨u, b1, b2.mono ((g5.rd.trans g6.rd).trans r67) ((g5.pre.trans g6.pre).trans p67)⟩
      by_cases hjt : j < ix1.items.length
      · rw [List.drop_eq_getElem_cons hjt] at e10
        obtain ⟨_, mh9, f9, e11⟩ := M.bind_some.mp e10
        obtain ⟨k3, k4⟩ := chkG_some f9
        cases k4
        obtain ⟨env10, mh10, f10, e12⟩ := M.bind_some.mp e11
        obtain ⟨b, mh11, f11, e13⟩ := M.bind_some.mp e12
        obtain ⟨go1, yl1⟩ := ok1.go w7 r67 p67 k3 (List.getElem?_eq_getElem hjt)
        refine .inr ⟨go1, fun H7 => ∃ mhy F7 ρ7 acc us rest1, Wd K mhy F7 ρ7 H7 ∧ GrD D F1 ρ1 H1 F7 ρ7 H7 ∧ Rle F6 F7 ∧ ρ6 <+: ρ7 ∧ H7 D = some (.lst us) ∧ F7 D = none ∧ D ∉ ρ7 ∧ DenVs K F7 ρ7 us acc ∧ acc ++ (rest1 ++ rest'.flatten) = ys ∧
          loopC ix1.g g1 t1 el (wipeE env4 vs1) (ix1.items.drop (j + 1)) mhy = some (rest1, mh6), fun H' h => ⟨ix1.items.length - (j + 1), by omega, rfl, hjt, h⟩, fun x H8 hy => ?_⟩
        obtain ⟨F8, w8, g8, d8⟩ := yl1 x H8 hy
        refine ⟨_, _, _, _, _, _, _, rl7.grow w8 g8, d8, f10, fun F9 ρ9 σ9 H9 r9 g9 wp9 => ⟨(wp9 vs1 hsl1).trans (wipe_twice vs1 fun _ h => h), _, _, _, _, _, _, r9, f11, fun F10 ρ10 H10 w10 g10 => ?_⟩⟩
        have g710 : Gr F7 ρ7 H7 F10 ρ10 H10 := (g8.trans g9).trans g10
        cases b with
        | false =>
          obtain ⟨b1, b2, b3⟩ := g710.fr D _ hD7 hF7 hρ7
          exact ⟨mh11, F10, ρ10, acc, us, rest1, w10, g7.next g710, r67.trans g710.rd, p67.trans g710.pre, b1, b2, b3, d7.grow g710, ey, e13⟩
        | true =>
          obtain ⟨y, mh12, f12, e14⟩ := M.bind_some.mp e13
          obtain ⟨rs, mh13, f13, e15⟩ := M.bind_some.mp e14
          cases e15
          refine ⟨_, _, _, _, _, _, r9.grow w10 g10, f12, fun F11 ρ11 H11 u11 w11 g11 d11 => ?_⟩
          have g711 := g710.trans g11
          obtain ⟨b1, b2, b3⟩ := g711.fr D _ hD7 hF7 hρ7
          have hlen : acc.length < sizeLine := by
            have := congrArg List.length ey
            rw [List.length_append, List.length_append, List.length_cons] at this
            omega
          exact ⟨us, b1, by rw [d7.length]; exact hlen, mh12, F11, ρ11, acc ++ [y], us ++ [u11], rs, w11.updO b2 b3, (g7.next g711).upd, r67.trans g711.rd, p67.trans g711.pre, upd_same, b2, b3, (d7.grow g711).append (.cons d11 .nil), by rw [← ey]; simp, f13⟩
      · have hje : j = ix1.items.length := by omega
        subst hje
        rw [List.drop_length] at e10
        obtain ⟨_, mh9, f9, e11⟩ := M.bind_some.mp e10
        obtain ⟨k3, k4⟩ := chkG_some f9
        cases k4
        cases e11
        exact .inl ⟨ok1.stop w7 r67 p67 k3, mh6, F7, ρ7, acc, us, rest', w7, g7, hD7, hF7, hρ7, d7, by rw [← ey]; rfl, f7⟩
  · have hie : i = ix.items.length := by omega
    subst hie
    rw [List.drop_length] at e3
    obtain ⟨_, mh3, f3, e4⟩ := M.bind_some.mp e3
    obtain ⟨k1, k2⟩ := chkG_some f3
    cases k2
    cases e4
    refine .inl ⟨ok.stop w2 g2.rd g2.pre k1, ?_⟩
    rw [List.flatten_nil, List.append_nil] at ey
    subst ey
    have p : PostR K mh2 F2 ρ2 (del H2 D) Q (.nl acc) := finR_ok eb fun F' ρ' H' u w' g' d' => q F' ρ' H' u w' (g1'.trans ((g2.gr hD).trans g')) d'
    have fin := p.list (w2.del hF2 hρ2) del_same d2 hys
    rw [upd_del hD2] at fin
    exact fin
section
variable {X : Cx} {pos : Pos}
theorem se_lc2 {c : Bool} {elt tg iter tg1 iter1 : Expr} {ifs ifs1 : List Expr} {scope : Scope} {own : List (Str × Nat)} {sl sl1 vs1 : List Nat} {mi mi1 : Sl → M Ix} {g g1 : Val → Sl → M Sl} {t t1 : Sl → M Bool} {el : Sl → M Val} (hc : X.calm = true) (hN : X.N.Nodup) (hi : SI X tg iter mi) (ok : BlkOk X.N X.env.scope scope own) (hsl : ∀ i ∈ sl, i ∈ own.map (·.2)) (hsl1 : ∀ i ∈ sl1, i ∈ vs1) (hv : ∀ i ∈ vs1, i ∈ own.map (·.2))
    (hg : ∀ (s : Shared) (H : Hp) (C : Addr) (cl : List (Str × Addr)) (fp : List Addr), SG (X.blk s H scope (compEnvC scope cl C X.env) fp) tg sl g) (ht : ∀ (s : Shared) (H : Hp) (C : Addr) (cl : List (Str × Addr)) (fp : List Addr), SPs (X.blk s H scope (compEnvC scope cl C X.env) fp) ifs t)
    (hi1 : ∀ (s : Shared) (H : Hp) (C : Addr) (cl : List (Str × Addr)) (fp : List Addr), SI (X.blk s H scope (compEnvC scope cl C X.env) fp) tg1 iter1 mi1)
    (hg1 : ∀ (s : Shared) (H : Hp) (C : Addr) (cl : List (Str × Addr)) (fp : List Addr), SG (X.blk s H scope (compEnvC scope cl C X.env) fp) tg1 sl1 g1) (ht1 : ∀ (s : Shared) (H : Hp) (C : Addr) (cl : List (Str × Addr)) (fp : List Addr), SPs (X.blk s H scope (compEnvC scope cl C X.env) fp) ifs1 t1)
    (he : ∀ (s : Shared) (H : Hp) (C : Addr) (cl : List (Str × Addr)) (fp : List Addr), SE (X.blk s H scope (compEnvC scope cl C X.env) fp) elt el) (hs : ∀ x, foldedSetIterable iter X.env x = pure x) (hs1 : ∀ env x, foldedSetIterable iter1 env x = pure x) :
    SE X (.ListComp elt [⟨tg, iter, ifs, 0⟩, ⟨tg1, iter1, ifs1, 0⟩] scope pos) (mLc2 c mi (own.map (·.2)) g t mi1 vs1 g1 t1 el) :=
  SE.mk (pe_lc2 (wi1 := tIt X.K mi1) (g := tGt X.K sl g) (tt := tTs X.K t) (g1 := tGt X.K sl1 g1) (tt1 := tTs X.K t1) (te := tE X.K el) hc hN hi ok hv hg ht hi1 hg1 ht1 he hs hs1) fun Q rl e q => lc2_sem Q hsl hsl1 rl e q
theorem ss_setLc2 {c : Bool} {i : Nat} {y : Str} {py spos : Pos} {elt tg iter tg1 iter1 : Expr} {ifs ifs1 : List Expr} {scope : Scope} {own : List (Str × Nat)} {sl sl1 vs1 : List Nat} {mi mi1 : Sl → M Ix} {g g1 : Val → Sl → M Sl} {t t1 : Sl → M Bool} {el : Sl → M Val} (hc : X.calm = true) (hN : X.N.Nodup) (hy : X.N[i]? = some y) (hyl : X.env.scope.names.lookup y = some .local)
    (hsw : swapsWith (.ListComp elt [⟨tg, iter, ifs, 0⟩, ⟨tg1, iter1, ifs1, 0⟩] scope pos) (some (.Name y py)) spos.line X.env = pure true) (hi : SI X tg iter mi) (ok : BlkOk X.N X.env.scope scope own) (hsl : ∀ i ∈ sl, i ∈ own.map (·.2)) (hsl1 : ∀ i ∈ sl1, i ∈ vs1) (hv : ∀ i ∈ vs1, i ∈ own.map (·.2))
    (hg : ∀ (s : Shared) (H : Hp) (C : Addr) (cl : List (Str × Addr)) (fp : List Addr), SG (X.blk s H scope (compEnvC scope cl C X.env) fp) tg sl g) (ht : ∀ (s : Shared) (H : Hp) (C : Addr) (cl : List (Str × Addr)) (fp : List Addr), SPs (X.blk s H scope (compEnvC scope cl C X.env) fp) ifs t)
    (hi1 : ∀ (s : Shared) (H : Hp) (C : Addr) (cl : List (Str × Addr)) (fp : List Addr), SI (X.blk s H scope (compEnvC scope cl C X.env) fp) tg1 iter1 mi1)
    (hg1 : ∀ (s : Shared) (H : Hp) (C : Addr) (cl : List (Str × Addr)) (fp : List Addr), SG (X.blk s H scope (compEnvC scope cl C X.env) fp) tg1 sl1 g1) (ht1 : ∀ (s : Shared) (H : Hp) (C : Addr) (cl : List (Str × Addr)) (fp : List Addr), SPs (X.blk s H scope (compEnvC scope cl C X.env) fp) ifs1 t1)
    (he : ∀ (s : Shared) (H : Hp) (C : Addr) (cl : List (Str × Addr)) (fp : List Addr), SE (X.blk s H scope (compEnvC scope cl C X.env) fp) elt el) (hs : ∀ x, foldedSetIterable iter X.env x = pure x) (hs1 : ∀ env x, foldedSetIterable iter1 env x = pure x) :
    SS X (.Assign [.Name y py] (.ListComp elt [⟨tg, iter, ifs, 0⟩, ⟨tg1, iter1, ifs1, 0⟩] scope pos) spos) (mAsg (mLc2 c mi (own.map (·.2)) g t mi1 vs1 g1 t1 el) (gNm i)) :=
  SS.mk (ps_setLc2 (wi1 := tIt X.K mi1) (g := tGt X.K sl g) (tt := tTs X.K t) (g1 := tGt X.K sl1 g1) (tt1 := tTs X.K t1) (te := tE X.K el) hc hN hy hyl hsw hi ok hv hg ht hi1 hg1 ht1 he hs hs1) fun D rl e q => by
    obtain ⟨v, mh1, e1, ea⟩ := M.bind_some.mp e
    obtain ⟨env', mh2, e2, eb⟩ := M.bind_some.mp ea
    cases eb
    cases e2
    exact lc2_sem _ hsl hsl1 rl e1 fun F1 ρ1 H1 u w1 g1 d1 => q _ _ _ _ ((rl.grow w1 g1).set i d1) g1
end
end Pv

/-! P9: a small language, what it does, which text it is -/
namespace Pv
open PySem PySem.Spec PyProof.Rows L2

inductive Bi where
  | len | abs | int | str | max | min | sum | all | any | tuple | list | sorted | repr | gcd
  deriving DecidableEq
def Bi.name : Bi → Str
  | .len => "len" | .abs => "abs" | .int => "int" | .str => "str" | .max => "max" | .min => "min" | .sum => "sum" | .all => "all" | .any => "any" | .tuple => "tuple" | .list => "list" | .sorted => "sorted" | .repr => "repr" | .gcd => "gcd"
def Bi.f : Bi → List Ob → List Val → Option Rv
  | .len => lenV | .abs => absVl | .int => intVl | .str => strVl | .max => maxVl | .min => minVl | .sum => sumVl | .all => allVl | .any => anyVl | .tuple => tupVl | .list => listVl | .sorted => sortVl | .repr => reprV | .gcd => gcdV
inductive Mt where
  | append | extend | get | starts | insert | pop | index
  deriving DecidableEq
def Mt.name : Mt → Str
  | .append => "append" | .extend => "extend" | .get => "get" | .starts => "startswith" | .insert => "insert" | .pop => "pop" | .index => "index"
def Mt.ty : Mt → String
  | .append => "list" | .extend => "list" | .get => "dict" | .starts => "str" | .insert => "list" | .pop => "list" | .index => "tuple"
def Mt.f : Mt → Val → List Val → M Val
  | .append => appVl | .extend => extVl | .get => getVl | .starts => startsVl | .insert => insVl | .pop => popVl | .index => idxVl
def binF : Operator → List Ob → Val → Val → Option Rv
  | .Add => addV | .Sub => subV | .Mult => mulV | .FloorDiv => divV | .Mod => modV | .Pow => powV
  | _ => fun _ _ _ => none
def cmpF : CmpOp → List Ob → Val → Val → Option Rv
  | .Eq => fun mh a b => bR (eqV2 mh a b)
  | .NotEq => fun mh a b => bR ((eqV2 mh a b).map (!·))
  | .Lt => ltV | .LtE => leV | .Gt => gtV | .GtE => geV
  | .Is => fun mh a b => bR (isNV mh a b)
  | .IsNot => fun mh a b => bR ((isNV mh a b).map (!·))
  | .In => fun mh a b => bR (inV2 mh a b)
  | .NotIn => fun mh a b => bR ((inV2 mh a b).map (!·))
def augF : Operator → Int → Int → Int
  | .Sub => fun i j => i - j
  | _ => fun i j => i + j
inductive Kc where
  | int (i : Int) | str (x : Str) | bl (b : Bool) | non
def Kc.d : Kc → Dt
  | .int i => .int i | .str x => .str x | .bl b => .bool b | .non => .none

mutual
inductive E where
  | slot (i : Nat) | k (c : Kc) | glob (j : Nat) | absent
  | neg (a : E) | nt (a : E)
  | bin (op : Operator) (c : Bool) (a b : E)
  | cmp (op : CmpOp) (a b : E)
  | and2 (a b : E) | or2 (a b : E) | one (a : E)
  | ife (t : T) (a b : E)
  | tup (as : As) | lst (c : Bool) (as : As) | dict0 (c : Bool)
  | ix (a b : E) | sl (c : Bool) (a lo hi : E)
  | call (f : Nat) (as : As)
  | bi (b : Bi) (c : Bool) (as : As)
  | isin (T : String) (a : E)
  | rev (c : Bool) (a : E)
  | meth (m : Mt) (o : E) (as : As)
  | lc (c : Bool) (own : List (Str × Nat)) (g : G) (it : I) (t : T) (el : E)
  | dc (c : Bool) (own : List (Str × Nat)) (g : G) (it : I) (t : T) (kx vx : E)
  | fld (Cs : List Str) (f : Str) (o : E) | mk (C : Str) (i : Nat) (as : As) | mcall (alts : List (Str × Nat)) (m : Str) (o : E) (as : As)
  | ixT (o : E) (as : As) | dictT0 | dk (a b : E)
  | lc2 (c : Bool) (own : List (Str × Nat)) (g : G) (it : I) (t : T) (vs1 : List Nat) (g1 : G) (it1 : I) (t1 : T) (el : E)
inductive As where
  | nil | cons (a : E) (as : As)
inductive T where
  | yes
  | cmp (op : CmpOp) (a b : E) | tru (a : E) | nt (t : T) | and2 (a b : T) | or2 (a b : T) | one (a : T)
inductive I where
  | val (a : E) | range1 (as : As) | range2 (as : As) | zip (as : As) | zip3 (as : As) | enumT (as : As)
inductive G where
  | nm (i : Nat) | tp (n : Nat) (gs : Gs) | sb (o i : E) | sbT (o : E) (as : As)
inductive Gs where
  | nil | cons (g : G) (gs : Gs)
inductive S where
  | asg (g : G) (a : E) | set (i : Nat) (a : E) | swp (i : Nat) (a : E) | par (i j : Nat) (as : As) | aug (i : Nat) (op : Operator) (a : E)
  | expr (a : E) | ret (a : E) | retN | iff (t : T) (a b : Ss) | for (g : G) (it : I) (b : Ss) | while (n : Nat) (t : T) (b : Ss)
  | pass | brk | cnt | doc
  | fset (Cs : List Str) (f : Str) (o a : E)
inductive Ss where
  | nil | cons (s : S) (b : Ss) | frz (i : Nat) (b : Ss)
end

def E.isAbs : E → Bool
  | .absent => true
  | _ => false
def mOpt (b : Bool) (m : Sl → M Val) : Sl → M (Option Int) := match b with
  | true => mNoPart
  | false => mPart m
def mGlob (gl : List (Str × Dt)) (j : Nat) (_ : Sl) : M Val := ofO ((gl[j]?).map fun p => .d p.2)
mutual
noncomputable def evE (gl : List (Str × Dt)) (c : Nat → List Val → M Val) : E → Sl → M Val
  | .slot i => mSlot i
  | .k x => mC x.d
  | .glob j => mGlob gl j
  | .absent => fun _ _ => none
  | .neg a => mUn negVl (evE gl c a)
  | .nt a => mUn notVl (evE gl c a)
  | .bin op k a b => mBin (binF op) k (evE gl c a) (evE gl c b)
  | .cmp op a b => mBin (cmpF op) false (evE gl c a) (evE gl c b)
  | .and2 a b => mAnd (evE gl c a) (evE gl c b)
  | .or2 a b => mOr (evE gl c a) (evE gl c b)
  | .one a => evE gl c a
  | .ife t a b => mIte (evT gl c t) (evE gl c a) (evE gl c b)
  | .tup as => mTup (mArgs (evAs gl c as))
  | .lst k as => mLst k (mArgs (evAs gl c as))
  | .dict0 k => mDict0 k
  | .ix a b => mIx (evE gl c a) (evE gl c b)
  | .sl k a lo hi => mSl k (evE gl c a) (mOpt lo.isAbs (evE gl c lo)) (mOpt hi.isAbs (evE gl c hi))
  | .call f as => mCall (c f) (mArgs (evAs gl c as))
  | .bi b k as => mBi b.f k (mArgs (evAs gl c as))
  | .isin t a => mIsin t (evE gl c a)
  | .rev k a => mRev k (evE gl c a)
  | .meth m o as => mMeth m.ty m.f (evE gl c o) (mArgs (evAs gl c as))
  | .lc k own g it t el => mLc k (evI gl c it) (own.map (·.2)) (evG gl c g) (evT gl c t) (evE gl c el)
  | .dc k own g it t kx vx => mDc k (evI gl c it) (own.map (·.2)) (evG gl c g) (evT gl c t) (evE gl c kx) (evE gl c vx)
  | .fld Cs f o => mFld Cs f (evE gl c o)
  | .mk C i as => mMk C (c i) (mArgs (evAs gl c as))
  | .mcall alts m o as => mMc (alts.map fun p => (p.1, c p.2)) m (evE gl c o) (mArgs (evAs gl c as))
  | .ixT o as => mIxT (evE gl c o) (mArgs (evAs gl c as))
  | .dictT0 => mDictT0
  | .dk a b => mDk (evE gl c a) (evE gl c b)
  | .lc2 k own g it t vs1 g1 it1 t1 el => mLc2 k (evI gl c it) (own.map (·.2)) (evG gl c g) (evT gl c t) (evI gl c it1) vs1 (evG gl c g1) (evT gl c t1) (evE gl c el)
termination_by structural e => e
noncomputable def evAs (gl : List (Str × Dt)) (c : Nat → List Val → M Val) : As → List (Sl → M Val)
  | .nil => []
  | .cons a as => evE gl c a :: evAs gl c as
termination_by structural e => e
noncomputable def evT (gl : List (Str × Dt)) (c : Nat → List Val → M Val) : T → Sl → M Bool
  | .yes => mYes
  | .cmp op a b => mCmpT (cmpF op) (evE gl c a) (evE gl c b)
  | .tru a => mTru (evE gl c a)
  | .nt t => mNotT (evT gl c t)
  | .and2 a b => mAndT (evT gl c a) (evT gl c b)
  | .or2 a b => mOrT (evT gl c a) (evT gl c b)
  | .one a => evT gl c a
termination_by structural e => e
noncomputable def evI (gl : List (Str × Dt)) (c : Nat → List Val → M Val) : I → Sl → M Ix
  | .val a => iVal (evE gl c a)
  | .range1 as => iArgs rng1 (mArgs (evAs gl c as))
  | .range2 as => iArgs rng2 (mArgs (evAs gl c as))
  | .zip as => iArgsH zip2 (mArgs (evAs gl c as))
  | .zip3 as => iArgs zip3 (mArgs (evAs gl c as))
  | .enumT as => iArgs enumV (mArgs (evAs gl c as))
termination_by structural e => e
noncomputable def evG (gl : List (Str × Dt)) (c : Nat → List Val → M Val) : G → Val → Sl → M Sl
  | .nm i => gNm i
  | .tp n gs => gTp n (evGs gl c gs)
  | .sb o i => gSb (evE gl c o) (evE gl c i)
  | .sbT o as => gSbT (evE gl c o) (mArgs (evAs gl c as))
termination_by structural e => e
noncomputable def evGs (gl : List (Str × Dt)) (c : Nat → List Val → M Val) : Gs → List Val → Sl → M Sl
  | .nil => gNil
  | .cons g gs => gCons (evG gl c g) (evGs gl c gs)
termination_by structural e => e
noncomputable def evS (gl : List (Str × Dt)) (c : Nat → List Val → M Val) : S → Sl → M Fl
  | .asg g a => mAsg (evE gl c a) (evG gl c g)
  | .set i a => mAsg (evE gl c a) (gNm i)
  | .swp i a => mAsg (evE gl c a) (gNm i)
  | .par i j as => mPar i j (mArgs (evAs gl c as))
  | .aug i op a => mAug i (augF op) (evE gl c a)
  | .expr a => mExpr (evE gl c a)
  | .ret a => mRet (evE gl c a)
  | .retN => mRet (mC .none)
  | .iff t a b => mIf (evT gl c t) (evSs gl c a) (evSs gl c b)
  | .for g it b => mFor (evI gl c it) (evG gl c g) (evSs gl c b)
  | .while n t b => loopW (evT gl c t) (evSs gl c b) n
  | .pass => mPass
  | .brk => mBrk
  | .cnt => mCnt
  | .doc => mPass
  | .fset Cs f o a => mSetF Cs f (evE gl c o) (evE gl c a)
termination_by structural e => e
noncomputable def evSs (gl : List (Str × Dt)) (c : Nat → List Val → M Val) : Ss → Sl → M Fl
  | .nil => mNil
  | .cons s b => mSeq (evS gl c s) (evSs gl c b)
  | .frz i b => mSeq (mFrz i) (evSs gl c b)
termination_by structural e => e
end

/-! ### looks at a text -/
def notStar : Expr → Bool
  | .Starred .. => false
  | _ => true
def notSlice : Expr → Bool
  | .Slice .. => false
  | _ => true
def notComp : Expr → Bool
  | .ListComp .. => false | .SetComp .. => false | .DictComp .. => false
  | _ => true
def plainT : Expr → Bool
  | .UnaryOp .. => false | .BoolOp .. => false | .IfExp .. => false | .Compare .. => false
  | _ => true
def notSet : Expr → Bool
  | .Set .. => false
  | _ => true
def notCall : Expr → Bool
  | .Call .. => false
  | _ => true
def notSup : Expr → Bool
  | .Call (.Name _ _) [] [] _ => false
  | _ => true
def notNm : Expr → Bool
  | .Name .. => false
  | _ => true
def notTup : Expr → Bool
  | .Tuple .. => false
  | _ => true
def notTL : Expr → Bool
  | .Tuple .. => false | .List .. => false
  | _ => true
def isTup : Expr → Bool
  | .Tuple .. => true
  | _ => false
section
variable {env : Env} {pos : Pos}
theorem star_cons {e : Expr} {es : List Expr} (h : notStar e = true) : starEach (e :: es) env = (false, eval e env) :: starEach es env := by
  cases e <;> first | rfl | cases h
theorem star_any : ∀ {es : List Expr}, es.all notStar = true → (backTo pos (starEach es env)).any (·.1) = false
  | [], _ => rfl
  | e :: es, h => by
    rw [List.all_cons, Bool.and_eq_true] at h
    rw [star_cons h.1]
    show (false || (backTo pos (starEach es env)).any (·.1)) = false
    rw [Bool.false_or]
    exact star_any h.2
theorem star_all : ∀ {es : List Expr}, es.all notStar = true → (backTo pos (starEach es env)).all (fun x => !x.1) = true
  | [], _ => rfl
  | e :: es, h => by
    rw [List.all_cons, Bool.and_eq_true] at h
    rw [star_cons h.1]
    show (true && (backTo pos (starEach es env)).all (fun x => !x.1)) = true
    rw [Bool.true_and]
    exact star_all h.2
theorem asg_cons {e : Expr} {es : List Expr} (h : notStar e = true) : (assignEach (e :: es) env).map (·.2) = assign e env :: (assignEach es env).map (·.2) := by
  cases e <;> first | rfl | cases h
theorem asg_cons' {e : Expr} {es : List Expr} (h : notStar e = true) : assignEach (e :: es) env = (false, assign e env) :: assignEach es env := by
  cases e <;> first | rfl | cases h
theorem asg_len : ∀ {es : List Expr}, es.all notStar = true → (assignEach es env).length = es.length
  | [], _ => rfl
  | e :: es, h => by
    rw [List.all_cons, Bool.and_eq_true] at h
    rw [asg_cons' h.1, List.length_cons, List.length_cons, asg_len h.2]
theorem asg_find : ∀ {es : List Expr}, es.all notStar = true → (assignEach es env).findIdx? (·.1) = none
  | [], _ => rfl
  | e :: es, h => by
    rw [List.all_cons, Bool.and_eq_true] at h
    rw [asg_cons' h.1, List.findIdx?_cons, asg_find h.2]
    rfl
theorem slice_ix {e : Expr} (h : notSlice e = true) : PlainIx e := by
  intro o i
  cases e <;> first | rfl | cases h
theorem comp_swaps {e : Expr} {t : Option Expr} {l : Nat} (h : notComp e = true) : swapsWith e t l env = pure false := by
  cases e <;> first | rfl | cases h
theorem nm_swaps {e t : Expr} {l : Nat} (h : notNm t = true) : swapsWith e (some t) l env = pure false := by
  cases t with
  | Name _ _ => cases h
  | _ => cases e <;> rfl
theorem test_plain {e : Expr} (h : plainT e = true) : ∀ whole, isTrue e env whole = (do let v ← whole; standAt e.pos; holding [v] (truthy v)) := by
  intro whole
  cases e <;> first | rfl | cases h
theorem set_marks {e : Expr} {op : CmpOp} (h : notSet e = true) : behindInMarks op e = false := by
  cases e <;> first | rfl | cases h
theorem set_fold {e : Expr} (h : notSet e = true) : ∀ x, foldedSetIterable e env x = pure x := by
  intro x
  cases e <;> first | rfl | cases h
theorem call_base {o : Expr} {name : Str} (h : notCall o = true) : attributeBase o name env (eval o env) = eval o env := by
  cases o <;> first | rfl | cases h
theorem sup_base {o : Expr} {name : Str} (h : notSup o = true) : attributeBase o name env (eval o env) = eval o env := by
  cases o with
  | Call f as kws p =>
    cases f with
    | Name x q =>
      cases as with
      | nil =>
        cases kws with
        | nil => cases h
        | cons _ _ => rfl
      | cons _ _ => rfl
    | _ => rfl
  | _ => rfl
theorem tup_swap {t a : Expr} (h : notTL t = true ∨ notTup a = true) : swappedStores [t] a env = pure none := by
  unfold swappedStores
  cases t <;> first | rfl | (cases a <;> first | rfl | (rcases h with h | h <;> cases h))
end
def visB (sc : Scope) (x : Str) : Bool := match sc.names.lookup x with
  | some .local => true | some .cell => true | some .free => true
  | _ => false
def locB (sc : Scope) (cl : Str → Bool) (x : Str) : Bool := match sc.names.lookup x with
  | some .local => true
  | some .cell => cl x
  | _ => false
def glB (sc : Scope) (x : Str) : Bool := match sc.names.lookup x with
  | some .globalImplicit => true
  | _ => false
def okN (x : Str) : Bool := !(x == ("__debug__" : Str)) && !(x == ("__classdict__" : Str)) && !(x == ("__name__" : Str))
theorem visB_ok {sc : Scope} {x : Str} (h : visB sc x = true) : Vis sc x := by
  unfold visB at h
  unfold Vis
  split at h <;> first | (rename_i e; rw [e]; simp) | cases h
theorem locB_ok {sc : Scope} {cl : Str → Bool} {x : Str} (h : locB sc cl x = true) : L2.Loc sc x ∧ (cl x = true ∨ sc.names.lookup x = some .local) := by
  unfold locB at h
  unfold L2.Loc
  split at h
  · rename_i e; rw [e]; simp
  · rename_i e; rw [e]; exact ⟨.inr rfl, .inl h⟩
  · cases h
theorem glB_ok {sc : Scope} {x : Str} (h : glB sc x = true) : sc.names.lookup x = some .globalImplicit := by
  unfold glB at h
  split at h
  · assumption
  · cases h
theorem okN_ok {x : Str} (h : okN x = true) : (x == ("__debug__" : Str)) = false ∧ (x == ("__classdict__" : Str)) = false ∧ x ≠ "__name__" := by
  unfold okN at h
  simp only [Bool.and_eq_true, Bool.not_eq_true'] at h
  exact ⟨h.1.1, h.1.2, fun z => by have := h.2; rw [z] at this; simp at this⟩
end Pv

/-! P10: which text a term is -/
namespace Pv
open PySem PySem.Spec PyProof.Rows L2

/-- a class: its name, attributes, methods (name, def, number of parameters), what makes it (def, number of parameters) -/
structure Cd where
  nm : Str
  flds : List Str
  ms : List (Str × Nat × Nat)
  init : Option (Nat × Nat)
/-- what is known of the program: the defs (name, number of parameters), the free built-ins' names, the constants' names -/
structure Tb where
  fs : List (Str × Nat)
  bs : List Str
  gs : List Str
  rq : Bool := false
  gq : Bool := false
  cs : List Cd := []
def biOk (tb : Tb) : Bi → Bool
  | .repr => tb.rq && tb.bs.contains "repr"
  | .gcd => tb.gq
  | b => tb.bs.contains b.name
def As.len : As → Nat
  | .nil => 0
  | .cons _ as => as.len + 1
def T.isYes : T → Bool
  | .yes => true
  | _ => false
def Gs.len : Gs → Nat
  | .nil => 0
  | .cons _ as => as.len + 1
mutual
def gSl : G → List Nat
  | .nm i => [i]
  | .tp _ gs => gsSl gs
  | .sb _ _ => []
  | .sbT _ _ => []
termination_by structural g => g
def gsSl : Gs → List Nat
  | .nil => []
  | .cons g gs => gSl g ++ gsSl gs
termination_by structural g => g
end
def optB (m : Expr → Bool) (ab : Bool) : Option Expr → Bool
  | none => ab
  | some e => !ab && m e
def ifsB (m : Expr → Bool) (y : Bool) : List Expr → Bool
  | [] => y
  | [c] => m c
  | _ => false
def clOf (scope : Scope) (x : Str) : Bool := scope.names.lookup x == some .cell
def Kc.is : Kc → Const → Bool
  | .int i, .int j => i == j
  | .str x, .str y => x == y
  | .bl b, .bool d => b == d
  | .non, .none => true
  | _, _ => false
/-! #### one sign each -/
section
variable (tb : Tb) (N : List Str) (sc : Scope) (cl : Str → Bool)
def kSlot (i : Nat) : Expr → Bool
  | .Name x _ => decide (N[i]? = some x) && visB sc x && okN x
  | _ => false
def kK (c : Kc) : Expr → Bool
  | .Constant d _ _ => c.is d
  | _ => false
def kGlob (j : Nat) : Expr → Bool
  | .Name x _ => decide (tb.gs[j]? = some x) && glB sc x && okN x
  | _ => false
def kNeg (a : Expr → Bool) : Expr → Bool
  | .UnaryOp .USub e _ => a e
  | _ => false
def kNt (a : Expr → Bool) : Expr → Bool
  | .UnaryOp .Not e _ => a e
  | _ => false
def kBin (op : Operator) (a b : Expr → Bool) : Expr → Bool
  | .BinOp ea eop eb _ => decide (op = eop) && a ea && b eb
  | _ => false
def kCmp (op : CmpOp) (a b : Expr → Bool) : Expr → Bool
  | .Compare ea [eop] [eb] _ => decide (op = eop) && a ea && b eb && notSet eb
  | _ => false
def kOne (a : Expr → Bool) : Expr → Bool
  | .BoolOp _ [e] _ => a e
  | _ => false
def kAnd (a b : Expr → Bool) : Expr → Bool
  | .BoolOp .And (e :: e2 :: es) p => a e && b (.BoolOp .And (e2 :: es) p)
  | _ => false
def kOr (a b : Expr → Bool) : Expr → Bool
  | .BoolOp .Or (e :: e2 :: es) p => a e && b (.BoolOp .Or (e2 :: es) p)
  | _ => false
def kIfe (t a b : Expr → Bool) : Expr → Bool
  | .IfExp et ea eb _ => t et && a ea && b eb
  | _ => false
def kTup (as : List Expr → Bool) : Expr → Bool
  | .Tuple es _ _ => as es
  | _ => false
def kLst (as : List Expr → Bool) : Expr → Bool
  | .List es _ => as es
  | _ => false
def kDict0 : Expr → Bool
  | .Dict [] [] _ => true
  | _ => false
def kIx (a b : Expr → Bool) : Expr → Bool
  | .Subscript ea eb _ => a ea && b eb && notSlice eb
  | _ => false
def kSl (a : Expr → Bool) (lo hi : Option Expr → Bool) : Expr → Bool
  | .Subscript ea (.Slice elo ehi none _) _ => a ea && lo elo && hi ehi
  | _ => false
def kCall (f n : Nat) (as : List Expr → Bool) : Expr → Bool
  | .Call (.Name x _) es [] _ => decide (tb.fs[f]? = some (x, n)) && glB sc x && okN x && as es
  | _ => false
def kBi (b : Bi) (n : Nat) (as : List Expr → Bool) : Expr → Bool
  | .Call (.Name x _) es [] _ => decide (x = b.name) && biOk tb b && glB sc x && as es && decide (0 < n)
  | _ => false
def kIsin (t : String) (a : Expr → Bool) : Expr → Bool
  | .Call (.Name x _) [e, .Name y _] [] _ => decide (x = "isinstance") && tb.bs.contains x && glB sc x && tb.bs.contains y && glB sc y && decide (y = Str.ofString t) && isTys.contains t && a e && notStar e
  | _ => false
def kMeth (m : Mt) (n : Nat) (o : Expr → Bool) (as : List Expr → Bool) : Expr → Bool
  | .Call (.Attribute eo name ap) es [] cp => decide (name = m.name) && o eo && as es && decide (n < 30) && notCall eo && (ap.endLine == cp.line)
  | _ => false
def kLc (own : List (Str × Nat)) (sl : List Nat) (it : Expr → Expr → Bool) (g : Scope → (Str → Bool) → Expr → Bool) (ty : Bool) (t el : Scope → (Str → Bool) → Expr → Bool) : Expr → Bool
  | .ListComp ex [⟨tg, iter, ifs, ia⟩] scope _ => decide (ia = 0) && blkC N sc scope own && sl.all (fun i => (own.map (·.2)).contains i) && it tg iter && notSet iter && g (relS scope sc) (clOf scope) tg && ifsB (t (relS scope sc) (clOf scope)) ty ifs && el (relS scope sc) (clOf scope) ex
  | _ => false
def kDc (own : List (Str × Nat)) (sl : List Nat) (it : Expr → Expr → Bool) (g : Scope → (Str → Bool) → Expr → Bool) (ty : Bool) (t kx vx : Scope → (Str → Bool) → Expr → Bool) : Expr → Bool
  | .DictComp ek ev [⟨tg, iter, ifs, ia⟩] scope _ => decide (ia = 0) && blkC N sc scope own && sl.all (fun i => (own.map (·.2)).contains i) && it tg iter && notSet iter && g (relS scope sc) (clOf scope) tg && ifsB (t (relS scope sc) (clOf scope)) ty ifs && kx (relS scope sc) (clOf scope) ek && vx (relS scope sc) (clOf scope) ev
  | _ => false
def fldB (Cs : List Str) (f : Str) : Bool := Cs.all fun C => tb.cs.any fun cd => cd.nm == C && cd.flds.contains f
def altB (alts : List (Str × Nat)) (m : Str) (n : Nat) : Bool := alts.all fun p => tb.cs.any fun cd => cd.nm == p.1 && cd.ms.contains (m, p.2, n)
def kFld (Cs : List Str) (f : Str) (o : Expr → Bool) : Expr → Bool
  | .Attribute eo x _ => decide (x = f) && o eo && notSup eo && fldB tb Cs f
  | _ => false
def kMk (C : Str) (i n : Nat) (as : List Expr → Bool) : Expr → Bool
  | .Call (.Name x _) es [] _ => decide (x = C) && (tb.cs.any fun cd => cd.nm == C && cd.init == some (i, n + 1)) && glB sc x && okN x && as es
  | _ => false
def kMcall (alts : List (Str × Nat)) (m : Str) (n : Nat) (o : Expr → Bool) (as : List Expr → Bool) : Expr → Bool
  | .Call (.Attribute eo name ap) es [] cp => decide (name = m) && o eo && as es && decide (n < 29) && notSup eo && (ap.endLine == cp.line) && altB tb alts m (n + 1)
  | _ => false
def kDk (a b : Expr → Bool) : Expr → Bool
  | .Dict [some x] [y] _ => a x && b y
  | _ => false
def kIxT (o : Expr → Bool) (as : List Expr → Bool) : Expr → Bool
  | .Subscript eo (.Tuple es _ _) _ => o eo && as es
  | _ => false
def kLc2 (own : List (Str × Nat)) (sl : List Nat) (it : Expr → Expr → Bool) (g : Scope → (Str → Bool) → Expr → Bool) (ty : Bool) (t : Scope → (Str → Bool) → Expr → Bool) (vs1 sl1 : List Nat) (it1 : Scope → (Str → Bool) → Expr → Expr → Bool) (g1 : Scope → (Str → Bool) → Expr → Bool) (ty1 : Bool) (t1 el : Scope → (Str → Bool) → Expr → Bool) : Expr → Bool
  | .ListComp ex [⟨tg, iter, ifs, ia⟩, ⟨tg1, iter1, ifs1, ia1⟩] scope _ => decide (ia = 0) && blkC N sc scope own && sl.all (fun i => (own.map (·.2)).contains i) && it tg iter && notSet iter && g (relS scope sc) (clOf scope) tg && ifsB (t (relS scope sc) (clOf scope)) ty ifs && (decide (ia1 = 0) && sl1.all (fun i => vs1.contains i) && vs1.all (fun i => (own.map (·.2)).contains i) && notSet iter1 && it1 (relS scope sc) (clOf scope) tg1 iter1 && g1 (relS scope sc) (clOf scope) tg1 && ifsB (t1 (relS scope sc) (clOf scope)) ty1 ifs1 && el (relS scope sc) (clOf scope) ex)
  | _ => false
def kRev (a : Expr → Bool) : Expr → Bool
  | .Call (.Name x _) [.Call (.Name y _) [e] [] _] [] _ => decide (x = "list") && tb.bs.contains x && glB sc x && decide (y = "reversed") && tb.bs.contains y && glB sc y && a e && notStar e
  | _ => false
def kNil {α : Type} : List α → Bool
  | [] => true
  | _ => false
def kCons (a : Expr → Bool) (as : List Expr → Bool) : List Expr → Bool
  | e :: es => a e && as es && notStar e
  | _ => false
def kTru (a : Expr → Bool) (e : Expr) : Bool := a e && plainT e
def kRng1 (as : List Expr → Bool) : Expr → Bool
  | .Call (.Name x _) [e] [] _ => decide (x = "range") && tb.bs.contains x && glB sc x && as [e]
  | _ => false
def kRng2 (as : List Expr → Bool) : Expr → Bool
  | .Call (.Name x _) [e, e2] [] _ => decide (x = "range") && tb.bs.contains x && glB sc x && as [e, e2]
  | _ => false
def kZip (as : List Expr → Bool) (tg : Expr) : Expr → Bool
  | .Call (.Name x _) [e, e2] [] _ => decide (x = "zip") && tb.bs.contains x && glB sc x && as [e, e2] && isTup tg
  | _ => false
def kZip3 (as : List Expr → Bool) (tg : Expr) : Expr → Bool
  | .Call (.Name x _) [e, e2, e3] [] _ => decide (x = "zip") && tb.bs.contains x && glB sc x && as [e, e2, e3] && isTup tg
  | _ => false
def kEnumT (as : List Expr → Bool) (tg : Expr) : Expr → Bool
  | .Call (.Name x _) [e] [] _ => decide (x = "enumerate") && tb.bs.contains x && glB sc x && as [e] && isTup tg
  | _ => false
def kNm (i : Nat) : Expr → Bool
  | .Name x _ => decide (N[i]? = some x) && locB sc cl x
  | _ => false
def kTp (n : Nat) (gs : List Expr → Bool) : Expr → Bool
  | .Tuple es _ _ => gs es && decide (es.length = n)
  | _ => false
def kSb (o i : Expr → Bool) : Expr → Bool
  | .Subscript eo ei _ => o eo && i ei && notSlice ei
  | _ => false
def kSbT (o : Expr → Bool) (as : List Expr → Bool) : Expr → Bool
  | .Subscript eo (.Tuple es _ _) _ => o eo && as es
  | _ => false
def notCompN : Expr → Bool
  | .SetComp .. => false
  | _ => true
def kFset (Cs : List Str) (f : Str) (o a : Expr → Bool) : Stmt → Bool
  | .Assign [.Attribute eo x _] e _ => decide (x = f) && o eo && a e && fldB tb Cs f
  | _ => false
def kAsg (g a : Expr → Bool) : Stmt → Bool
  | .Assign [tg] e _ => g tg && a e && (notComp e || notNm tg) && (notTL tg || notTup e) && notStar tg
  | _ => false
def kSet (i : Nat) (a : Expr → Bool) : Stmt → Bool
  | .Assign [.Name x _] e _ => decide (N[i]? = some x) && locB sc cl x && a e && (notComp e || decide (sc.names.lookup x = some .cell))
  | _ => false
def compS : Expr → Option (Scope × Pos)
  | .ListComp _ _ s p => some (s, p)
  | .DictComp _ _ _ s p => some (s, p)
  | _ => none
def swpB (y : Str) (py : Pos) : Option (Scope × Pos) → Bool
  | some (scope, cp) => (py.line == cp.line) && !(scope.names.any fun (n, k) => n == y && (k == .local || k == .cell))
  | none => false
def kSwp (i : Nat) (a : Expr → Bool) : Stmt → Bool
  | .Assign [.Name y py] e sp => decide (N[i]? = some y) && decide (sc.names.lookup y = some .local) && a e && swpB y py (compS e)
  | _ => false
def kAug (i : Nat) (op : Operator) (a : Expr → Bool) : Stmt → Bool
  | .AugAssign (.Name x _) eop e _ => decide (op = eop) && (decide (op = .Add) || decide (op = .Sub)) && decide (N[i]? = some x) && locB sc cl x && a e
  | _ => false
def kExpr (a : Expr → Bool) : Stmt → Bool
  | .Expr e _ => a e && notComp e
  | _ => false
def kDoc : Stmt → Bool
  | .Expr (.Constant (.str _) _ _) _ => true
  | _ => false
def kRet (a : Expr → Bool) : Stmt → Bool
  | .Return (some e) _ => a e
  | _ => false
def kRetN : Stmt → Bool
  | .Return none _ => true
  | _ => false
def kIf (t : Expr → Bool) (a b : List Stmt → Bool) : Stmt → Bool
  | .If et ea eb _ => t et && a ea && b eb
  | _ => false
def kFor (g : Expr → Bool) (it : Expr → Expr → Bool) (b : List Stmt → Bool) : Stmt → Bool
  | .For tg iter body [] _ => g tg && it tg iter && b body && notSet iter
  | _ => false
def kWhile (t : Expr → Bool) (b : List Stmt → Bool) : Stmt → Bool
  | .While et body [] _ => t et && b body
  | _ => false
def kPass : Stmt → Bool
  | .Pass _ => true
  | _ => false
def kBrk : Stmt → Bool
  | .Break _ => true
  | _ => false
def kCnt : Stmt → Bool
  | .Continue _ => true
  | _ => false
def kConsS (s : Stmt → Bool) (b : List Stmt → Bool) : List Stmt → Bool
  | e :: es => s e && b es
  | _ => false
end
mutual
def mE (tb : Tb) (N : List Str) : E → Scope → (Str → Bool) → Expr → Bool
  | .slot i, sc, _ => kSlot N sc i
  | .k c, _, _ => kK c
  | .glob j, sc, _ => kGlob tb sc j
  | .absent, _, _ => fun _ => false
  | .neg a, sc, cl => kNeg (mE tb N a sc cl)
  | .nt a, sc, cl => kNt (mE tb N a sc cl)
  | .bin op _ a b, sc, cl => kBin op (mE tb N a sc cl) (mE tb N b sc cl)
  | .cmp op a b, sc, cl => kCmp op (mE tb N a sc cl) (mE tb N b sc cl)
  | .one a, sc, cl => kOne (mE tb N a sc cl)
  | .and2 a b, sc, cl => kAnd (mE tb N a sc cl) (mE tb N b sc cl)
  | .or2 a b, sc, cl => kOr (mE tb N a sc cl) (mE tb N b sc cl)
  | .ife t a b, sc, cl => kIfe (mT tb N t sc cl) (mE tb N a sc cl) (mE tb N b sc cl)
  | .tup as, sc, cl => kTup (mAs tb N as sc cl)
  | .lst _ as, sc, cl => kLst (mAs tb N as sc cl)
  | .dict0 _, _, _ => kDict0
  | .ix a b, sc, cl => kIx (mE tb N a sc cl) (mE tb N b sc cl)
  | .sl _ a lo hi, sc, cl => kSl (mE tb N a sc cl) (optB (mE tb N lo sc cl) lo.isAbs) (optB (mE tb N hi sc cl) hi.isAbs)
  | .call f as, sc, cl => kCall tb sc f as.len (mAs tb N as sc cl)
  | .bi b _ as, sc, cl => kBi tb sc b as.len (mAs tb N as sc cl)
  | .isin t a, sc, cl => kIsin tb sc t (mE tb N a sc cl)
  | .rev _ a, sc, cl => kRev tb sc (mE tb N a sc cl)
  | .meth m o as, sc, cl => kMeth m as.len (mE tb N o sc cl) (mAs tb N as sc cl)
  | .lc _ own g it t el, sc, cl => kLc N sc own (gSl g) (mI tb N it sc cl) (mG tb N g) t.isYes (mT tb N t) (mE tb N el)
  | .dc _ own g it t kx vx, sc, cl => kDc N sc own (gSl g) (mI tb N it sc cl) (mG tb N g) t.isYes (mT tb N t) (mE tb N kx) (mE tb N vx)
  | .fld Cs f o, sc, cl => kFld tb Cs f (mE tb N o sc cl)
  | .mk C i as, sc, cl => kMk tb sc C i as.len (mAs tb N as sc cl)
  | .mcall alts m o as, sc, cl => kMcall tb alts m as.len (mE tb N o sc cl) (mAs tb N as sc cl)
  | .ixT o as, sc, cl => kIxT (mE tb N o sc cl) (mAs tb N as sc cl)
  | .dictT0, _, _ => kDict0
  | .dk a b, sc, cl => kDk (mE tb N a sc cl) (mE tb N b sc cl)
  | .lc2 _ own g it t vs1 g1 it1 t1 el, sc, cl => kLc2 N sc own (gSl g) (mI tb N it sc cl) (mG tb N g) t.isYes (mT tb N t) vs1 (gSl g1) (mI tb N it1) (mG tb N g1) t1.isYes (mT tb N t1) (mE tb N el)
termination_by structural e => e
def mAs (tb : Tb) (N : List Str) : As → Scope → (Str → Bool) → List Expr → Bool
  | .nil, _, _ => kNil
  | .cons a as, sc, cl => kCons (mE tb N a sc cl) (mAs tb N as sc cl)
termination_by structural e => e
def mT (tb : Tb) (N : List Str) : T → Scope → (Str → Bool) → Expr → Bool
  | .yes, _, _ => fun _ => false
  | .cmp op a b, sc, cl => kCmp op (mE tb N a sc cl) (mE tb N b sc cl)
  | .tru a, sc, cl => kTru (mE tb N a sc cl)
  | .nt t, sc, cl => kNt (mT tb N t sc cl)
  | .one a, sc, cl => kOne (mT tb N a sc cl)
  | .and2 a b, sc, cl => kAnd (mT tb N a sc cl) (mW tb N b sc cl)
  | .or2 a b, sc, cl => kOr (mT tb N a sc cl) (mW tb N b sc cl)
termination_by structural e => e
def mW (tb : Tb) (N : List Str) : T → Scope → (Str → Bool) → Expr → Bool
  | .one a, sc, cl => kOne (mT tb N a sc cl)
  | .and2 a b, sc, cl => kAnd (mT tb N a sc cl) (mW tb N b sc cl)
  | .or2 a b, sc, cl => kOr (mT tb N a sc cl) (mW tb N b sc cl)
  | _, _, _ => fun _ => false
termination_by structural e => e
def mI (tb : Tb) (N : List Str) : I → Scope → (Str → Bool) → Expr → Expr → Bool
  | .val a, sc, cl => fun _ e => mE tb N a sc cl e
  | .range1 as, sc, cl => fun _ => kRng1 tb sc (mAs tb N as sc cl)
  | .range2 as, sc, cl => fun _ => kRng2 tb sc (mAs tb N as sc cl)
  | .zip as, sc, cl => kZip tb sc (mAs tb N as sc cl)
  | .zip3 as, sc, cl => kZip3 tb sc (mAs tb N as sc cl)
  | .enumT as, sc, cl => kEnumT tb sc (mAs tb N as sc cl)
termination_by structural e => e
def mG (tb : Tb) (N : List Str) : G → Scope → (Str → Bool) → Expr → Bool
  | .nm i, sc, cl => kNm N sc cl i
  | .tp n gs, sc, cl => kTp n (mGs tb N gs sc cl)
  | .sb o i, sc, cl => kSb (mE tb N o sc cl) (mE tb N i sc cl)
  | .sbT o as, sc, cl => kSbT (mE tb N o sc cl) (mAs tb N as sc cl)
termination_by structural e => e
def mGs (tb : Tb) (N : List Str) : Gs → Scope → (Str → Bool) → List Expr → Bool
  | .nil, _, _ => kNil
  | .cons g gs, sc, cl => kCons (mG tb N g sc cl) (mGs tb N gs sc cl)
termination_by structural e => e
end
mutual
def mS (tb : Tb) (N : List Str) : S → Scope → (Str → Bool) → Stmt → Bool
  | .asg g a, sc, cl => kAsg (mG tb N g sc cl) (mE tb N a sc cl)
  | .set i a, sc, cl => kSet N sc cl i (mE tb N a sc cl)
  | .swp i a, sc, cl => kSwp N sc i (mE tb N a sc cl)
  | .par _ _ _, _, _ => fun _ => false
  | .aug i op a, sc, cl => kAug N sc cl i op (mE tb N a sc cl)
  | .expr a, sc, cl => kExpr (mE tb N a sc cl)
  | .doc, _, _ => kDoc
  | .ret a, sc, cl => kRet (mE tb N a sc cl)
  | .retN, _, _ => kRetN
  | .iff t a b, sc, cl => kIf (mT tb N t sc cl) (mSs tb N a sc cl) (mSs tb N b sc cl)
  | .for g it b, sc, cl => kFor (mG tb N g sc cl) (mI tb N it sc cl) (mSs tb N b sc cl)
  | .while _ t b, sc, cl => kWhile (mT tb N t sc cl) (mSs tb N b sc cl)
  | .pass, _, _ => kPass
  | .brk, _, _ => kBrk
  | .cnt, _, _ => kCnt
  | .fset Cs f o a, sc, cl => kFset tb Cs f (mE tb N o sc cl) (mE tb N a sc cl)
termination_by structural s => s
def mSs (tb : Tb) (N : List Str) : Ss → Scope → (Str → Bool) → List Stmt → Bool
  | .nil, _, _ => kNil
  | .cons s b, sc, cl => kConsS (mS tb N s sc cl) (mSs tb N b sc cl)
  | .frz _ b, sc, cl => mSs tb N b sc cl
termination_by structural s => s
end

/-! ### the context of a piece of text -/
structure Wx where
  P : Program
  w : World
  K : PySem.W.Frag
  mg : Str → Option Value
  base : Heap
  gd : Bool := false
structure Gd (Y : Wx) (N : List Str) (k : Nat) (X : Cx) (sc : Scope) (cl : Str → Bool) : Prop where
  hP : X.prog = Y.P
  hw : X.w = Y.w
  hK : X.K = Y.K
  hmg : X.mg = Y.mg
  hb : X.base = Y.base
  hN : X.N = N
  nd : N.Nodup
  calm : X.calm = true
  room : Room (k + 1) X.A
  hsc : X.env.scope = sc
  kind : sc.kind = .function
  fn : ∀ x, cl x = true → X.fn x = true
  xe : X.xe = fun _ _ => False
  grd : Y.gd = true → X.A.guards = some []
structure Calls (Y : Wx) (k : Nat) (tb : Tb) (gl : List (Str × Dt)) (c : Nat → List Val → M Val) : Prop where
  fn : ∀ (f : Nat) (x : Str) (n : Nat), tb.fs[f]? = some (x, n) → okN x = true → ∃ (addr : Addr) (fd : FuncData) (ps : List Str), ps.length = n ∧ FnOk Y.P Y.w Y.K Y.mg Y.base L2.CX0 k addr fd ps (spF Y.K n (c f)) ∧ Y.mg x = some (.ref addr) ∧ PySem.W.keepIn Y.K (.ref addr) = true ∧ Binds Y.K fd ps []
  bi : ∀ x ∈ tb.bs, Y.mg x = none
  gl : ∀ (j : Nat) (x : Str), tb.gs[j]? = some x → ∃ (d : Dt) (v : V) (u : Value), gl[j]? = some (x, d) ∧ Y.mg x = some u ∧ RelV v u ∧ ∀ F, Den Y.K F v d
  rq : tb.rq = true → Y.gd = true
  gq : tb.gq = true → Y.mg "gcd" = some (.builtin "math.gcd")
  cl : ∀ cd ∈ tb.cs, ∃ Ca : Addr, ClAt Y.K cd.nm Ca ∧ Y.mg cd.nm = some (.ref Ca) ∧ Cls Y.K Ca ∧ (∀ f ∈ cd.flds, NoAttr Y.K Ca f) ∧
    (∀ p ∈ cd.ms, ∃ (addr : Addr) (fd : FuncData) (ps : List Str), Meth Y.K Ca p.1 addr ∧ FnOk Y.P Y.w Y.K Y.mg Y.base L2.CX0 k addr fd ps (spF Y.K ps.length (c p.2.1)) ∧ Binds Y.K fd ps [] ∧ ps.length = p.2.2) ∧
    (∀ p, cd.init = some p → ∃ (addr : Addr) (fd : FuncData) (ps : List Str), Mk Y.K Ca addr ∧ FnOk Y.P Y.w Y.K Y.mg Y.base L2.CX0 k addr fd ps (spF Y.K ps.length (c p.1)) ∧ Binds Y.K fd ps [] ∧ ps.length = p.2)
section
variable {Y : Wx} {N : List Str} {k : Nat} {X : Cx} {sc : Scope} {cl : Str → Bool} {tb : Tb} {gl : List (Str × Dt)} {c : Nat → List Val → M Val}
theorem Gd.blk (g : Gd Y N k X sc cl) {scope : Scope} (hk : scope.kind = .function) (s : Shared) (H : Hp) (C : Addr) (cs : List (Str × Addr)) (fp : List Addr) : Gd Y N k (X.blk s H scope (compEnvC scope cs C X.env) fp) (relS scope sc) (clOf scope) := by
  refine ⟨g.hP, g.hw, g.hK, g.hmg, g.hb, g.hN, g.nd, g.calm, g.room, ?_, hk, fun x h => h, rfl, g.grd⟩
  show relabel scope X.env = relS scope sc
  rw [← g.hsc]
  rfl
theorem Gd.un (g : Gd Y N k X sc cl) : X.A.units + 65 < cLine := by have := g.room.un; omega
theorem Gd.vis (g : Gd Y N k X sc cl) {x : Str} (h : visB sc x = true) : Vis X.env.scope x := by rw [g.hsc]; exact visB_ok h
theorem Gd.loc (g : Gd Y N k X sc cl) {x : Str} (h : locB sc cl x = true) : L2.Loc X.env.scope x ∧ (X.fn x = true ∨ X.env.scope.names.lookup x = some .local) := by
  obtain ⟨h1, h2⟩ := locB_ok h
  rw [g.hsc]
  exact ⟨h1, h2.imp (g.fn x) id⟩
theorem Gd.glo (g : Gd Y N k X sc cl) {x : Str} (h : glB sc x = true) : Gl X x := by
  show X.env.scope.names.lookup x = _
  rw [g.hsc]
  exact glB_ok h
theorem Gd.at (g : Gd Y N k X sc cl) {i : Nat} {x : Str} (h : N[i]? = some x) : X.N[i]? = some x := by rw [g.hN]; exact h
theorem Gd.ndX (g : Gd Y N k X sc cl) : X.N.Nodup := by rw [g.hN]; exact g.nd
theorem Gd.free (g : Gd Y N k X sc cl) (C : Calls Y k tb gl c) {x : Str} (h : tb.bs.contains x = true) : X.mg x = none := by
  rw [g.hmg]
  exact C.bi x (List.contains_iff_mem.mp h)
theorem mArgs_len : ∀ {ms : List (Sl → M Val)} {env : Sl} {mh mh' : List Ob} {vs : List Val}, mArgs ms env mh = some (vs, mh') → vs.length = ms.length
  | [], _, _, _, _, e => by cases e; rfl
  | m :: ms, _, _, _, _, e => by
    obtain ⟨x, mh1, e1, ea⟩ := M.bind_some.mp e
    obtain ⟨xs, mh2, e2, eb⟩ := M.bind_some.mp ea
    cases eb
    rw [List.length_cons, List.length_cons, mArgs_len e2]
theorem evAs_len : ∀ as : As, (evAs gl c as).length = as.len
  | .nil => rfl
  | .cons a as => by
    show (evE gl c a :: evAs gl c as).length = as.len + 1
    rw [List.length_cons, evAs_len as]
theorem mAs_len : ∀ {as : As} {es : List Expr}, mAs tb N as sc cl es = true → es.length = as.len ∧ es.all notStar = true
  | .nil, [], _ => ⟨rfl, rfl⟩
  | .nil, _ :: _, h => by cases h
  | .cons a as, [], h => by cases h
  | .cons a as, e :: es, h => by
    have h : (mE tb N a sc cl e && mAs tb N as sc cl es && notStar e) = true := h
    rw [Bool.and_eq_true, Bool.and_eq_true] at h
    obtain ⟨h1, h2⟩ := mAs_len h.1.2
    exact ⟨by rw [List.length_cons, h1]; rfl, by rw [List.all_cons, h.2, h2]; rfl⟩
theorem mGs_len : ∀ {gs : Gs} {es : List Expr}, mGs tb N gs sc cl es = true → es.all notStar = true
  | .nil, [], _ => rfl
  | .nil, _ :: _, h => by cases h
  | .cons a as, [], h => by cases h
  | .cons a as, e :: es, h => by
    have h : (mG tb N a sc cl e && mGs tb N as sc cl es && notStar e) = true := h
    rw [Bool.and_eq_true, Bool.and_eq_true] at h
    rw [List.all_cons, h.2, mGs_len h.1.2]; rfl
/-! ### operators by their sign -/
theorem bin_ok (op : Operator) : OpS X (binaryOp op) (binF op) := by
  cases op
  case Add => exact ops_add
  case Sub => exact ops_sub
  case Mult => exact ops_mul
  case FloorDiv => exact ops_div
  case Mod => exact ops_mod
  case Pow => exact ops_pow
  all_goals exact ⟨fun _ _ _ _ => False, fun _ _ _ _ _ _ _ _ _ _ _ _ h => h.elim, fun Q w d1 d2 e q => by cases e⟩
theorem cmp_ok (hu : X.A.units + 65 < cLine) (op : CmpOp) : OpS X (compareOp op) (cmpF op) := by
  cases op
  case Eq => exact ops_eq (by omega)
  case NotEq => exact ops_ne (by omega)
  case Lt => exact ops_lt
  case LtE => exact ops_le
  case Gt => exact ops_gt
  case GtE => exact ops_ge
  case Is => exact ops_is
  case IsNot => exact ops_isnot
  case In => exact ops_in hu
  case NotIn => exact ops_notin hu
theorem bi_name (b : Bi) : okN b.name = true := by cases b <;> decide +kernel
theorem bi_se (hc : X.calm = true) (hu : X.A.units + 65 < cLine) {b : Bi} {k : Bool} {e0 : Expr} {es : List Expr} {as : Sl → M (List Val)} {p pos : Pos} (hg : Gl X b.name) (hm : b ≠ .gcd → X.mg b.name = none) (hmg : b = .gcd → X.mg "gcd" = some (.builtin "math.gcd")) (hrq : b = .repr → X.A.guards = some []) (h : SA X (e0 :: es) as)
    (he : starEach (e0 :: es) X.env = (false, eval e0 X.env) :: starEach es X.env) (hpl : (backTo pos (starEach es X.env)).any (·.1) = false) : SE X (.Call (.Name b.name p) (e0 :: es) [] pos) (mBi b.f k as) := by
  obtain ⟨n1, n2, n3⟩ := okN_ok (bi_name b)
  cases b
  case len => exact se_biB calls_len hg (hm (by decide)) (by decide +kernel) h n3 n1 he hpl
  case abs => exact se_biB calls_abs hg (hm (by decide)) (by decide +kernel) h n3 n1 he hpl
  case int => exact se_biT calls_int hg (hm (by decide)) (by decide +kernel) h n3 n1 he hpl
  case str => exact se_biT calls_str hg (hm (by decide)) (by decide +kernel) h n3 n1 he hpl
  case max => exact se_biB (calls_max hc) hg (hm (by decide)) (by decide +kernel) h n3 n1 he hpl
  case min => exact se_biB (calls_min hc) hg (hm (by decide)) (by decide +kernel) h n3 n1 he hpl
  case sum => exact se_biB (calls_sum hc) hg (hm (by decide)) (by decide +kernel) h n3 n1 he hpl
  case all => exact se_biB (calls_all hc) hg (hm (by decide)) (by decide +kernel) h n3 n1 he hpl
  case any => exact se_biB (calls_any hc) hg (hm (by decide)) (by decide +kernel) h n3 n1 he hpl
  case tuple => exact se_biT calls_tup hg (hm (by decide)) (by decide +kernel) h n3 n1 he hpl
  case list => exact se_biT calls_list hg (hm (by decide)) (by decide +kernel) h n3 n1 he hpl
  case sorted => exact se_biB (calls_sorted hc) hg (hm (by decide)) (by decide +kernel) h n3 n1 he hpl
  case repr => exact se_biB (calls_repr (hrq rfl) hu) hg (hm (by decide)) (by decide +kernel) h n3 n1 he hpl
  case gcd => exact se_biG calls_gcd hg (hmg rfl) h n1 he hpl
theorem ty_boot : (isTys.all fun t => decide (bootBuiltins (Str.ofString t) = some (.type t)) && okN (Str.ofString t)) = true := by decide +kernel
end
end Pv

/-! P11: a term that is the text does what the text does -/
namespace Pv
open PySem PySem.Spec PyProof.Rows L2
section
variable {Y : Wx} {N : List Str} {k : Nat} {tb : Tb} {gl : List (Str × Dt)} {c : Nat → List Val → M Val}

theorem kc_se {X : Cx} {x : Kc} {d : Const} {j : Nat} {pos : Pos} (h : x.is d = true) : SE X (.Constant d j pos) (mC x.d) := by
  cases x <;> cases d <;> first | cases h | skip
  · have := of_decide_eq_true h; subst this; exact se_int
  · have := eq_of_beq h; subst this; exact se_str
  · have := eq_of_beq h; subst this; exact se_bl
  · exact se_non
theorem glob_se {X : Cx} {sc : Scope} {cl : Str → Bool} (C : Calls Y k tb gl c) (g : Gd Y N k X sc cl) {j : Nat} {x : Str} {pos : Pos} (h : tb.gs[j]? = some x) (hg : glB sc x = true) (hn : okN x = true) : SE X (.Name x pos) (mGlob gl j) := by
  obtain ⟨d, v, u, h1, h2, h3, h4⟩ := C.gl j x h
  have := se_glob (X := X) (pos := pos) (g.glo hg) (by rw [g.hmg]; exact h2) h3 (fun F => by rw [g.hK]; exact h4 F) (okN_ok hn).1
  have e : mGlob gl j = mC d := by
    funext env mh
    unfold mGlob mC ofO
    rw [h1]
    rfl
  rw [e]; exact this
theorem isin_se {X : Cx} {sc : Scope} {cl : Str → Bool} (C : Calls Y k tb gl c) (g : Gd Y N k X sc cl) {t : String} {x y : Str} {a : Expr} {ma : Sl → M Val} {p p2 pos : Pos} (ha : SE X a ma) (hx : x = "isinstance") (bx : tb.bs.contains x = true) (gx : glB sc x = true) (by' : tb.bs.contains y = true) (gy : glB sc y = true) (hy : y = Str.ofString t) (ht : isTys.contains t = true) (hs : notStar a = true) :
    SE X (.Call (.Name x p) [a, .Name y p2] [] pos) (mIsin t ma) := by
  have ht' := List.contains_iff_mem.mp ht
  have hb := List.all_eq_true.mp ty_boot t ht'
  rw [Bool.and_eq_true] at hb
  obtain ⟨n1, n2, n3⟩ := okN_ok hb.2
  subst hy
  exact se_isin ha ht' hx (g.glo gx) (g.free C bx) (g.glo gy) (g.free C by') (of_decide_eq_true hb.1) n3 n1 (star_cons hs)
theorem meth_se {X : Cx} (hu : X.A.units + 65 < cLine) {m : Mt} {o : Expr} {es : List Expr} {mo : Sl → M Val} {ms : List (Sl → M Val)} {ap cp : Pos} (ho : SE X o mo) (ha : SA X es (mArgs ms)) (hz : es = [] → ms = []) (hs : es.all notStar = true) (hl : es.length < 30) (hb : notCall o = true) (hline : (ap.endLine == cp.line) = true) :
    SE X (.Call (.Attribute o m.name ap) es [] cp) (mMeth m.ty m.f mo (mArgs ms)) := by
  cases es with
  | nil =>
    have := hz rfl
    subst this
    cases m
    case append => exact se_meth0 PySem.F.plainAttrs_list PySem.F.slot_list_append PySem.F.type_list_append mts_append ho (call_base hb) hline
    case extend => exact se_meth0 PySem.F.plainAttrs_list PySem.F.slot_list_extend PySem.F.type_list_extend mts_extend ho (call_base hb) hline
    case get => exact se_meth0 PySem.F.plainAttrs_dict PySem.F.slot_dict_get PySem.F.type_dict_get (mts_get (by omega)) ho (call_base hb) hline
    case starts => exact se_meth0 PySem.F.plainAttrs_str PySem.F.slot_str_startswith PySem.F.type_str_startswith mts_starts ho (call_base hb) hline
    case insert => exact se_meth0 PySem.F.plainAttrs_list PySem.F.slot_list_insert PySem.F.type_list_insert mts_insert ho (call_base hb) hline
    case pop => exact se_meth0 PySem.F.plainAttrs_list PySem.F.slot_list_pop PySem.F.type_list_pop mts_pop ho (call_base hb) hline
    case index => exact se_meth0 PySem.F.plainAttrs_tuple PySem.F.slot_tuple_index PySem.F.type_tuple_index mts_index ho (call_base hb) hline
  | cons e0 es =>
    rw [List.all_cons, Bool.and_eq_true] at hs
    have hfew : ((backTo cp (starEach (e0 :: es) X.env)).all (fun x => !x.1) && (backToKw cp (keywordEach [] X.env)).all (fun x => x.1.isSome)
      && decide ((e0 :: es).length + ([] : List Keyword).length + (if ([] : List Keyword).isEmpty then 0 else 1) < 30)) = true := by
      rw [star_all (by rw [List.all_cons, hs.1, hs.2]; rfl)]
      have : decide ((e0 :: es).length + ([] : List Keyword).length + (if ([] : List Keyword).isEmpty then 0 else 1) < 30) = true := decide_eq_true (by simpa using hl)
      rw [this]
      rfl
    cases m
    case append => exact se_meth PySem.F.plainAttrs_list PySem.F.slot_list_append PySem.F.type_list_append mts_append ho ha (call_base hb) hfew hline (star_cons hs.1) (star_any hs.2)
    case extend => exact se_meth PySem.F.plainAttrs_list PySem.F.slot_list_extend PySem.F.type_list_extend mts_extend ho ha (call_base hb) hfew hline (star_cons hs.1) (star_any hs.2)
    case get => exact se_meth PySem.F.plainAttrs_dict PySem.F.slot_dict_get PySem.F.type_dict_get (mts_get (by omega)) ho ha (call_base hb) hfew hline (star_cons hs.1) (star_any hs.2)
    case starts => exact se_meth PySem.F.plainAttrs_str PySem.F.slot_str_startswith PySem.F.type_str_startswith mts_starts ho ha (call_base hb) hfew hline (star_cons hs.1) (star_any hs.2)
    case insert => exact se_meth PySem.F.plainAttrs_list PySem.F.slot_list_insert PySem.F.type_list_insert mts_insert ho ha (call_base hb) hfew hline (star_cons hs.1) (star_any hs.2)
    case pop => exact se_meth PySem.F.plainAttrs_list PySem.F.slot_list_pop PySem.F.type_list_pop mts_pop ho ha (call_base hb) hfew hline (star_cons hs.1) (star_any hs.2)
    case index => exact se_meth PySem.F.plainAttrs_tuple PySem.F.slot_tuple_index PySem.F.type_tuple_index mts_index ho ha (call_base hb) hfew hline (star_cons hs.1) (star_any hs.2)
theorem bi_se' {X : Cx} {sc : Scope} {cl : Str → Bool} (C : Calls Y k tb gl c) (g : Gd Y N k X sc cl) {b : Bi} {q : Bool} {x : Str} {es : List Expr} {as : Sl → M (List Val)} {p pos : Pos} (hx : x = b.name) (bx : biOk tb b = true) (gx : glB sc x = true) (h : SA X es as) (hs : es.all notStar = true) (hl : 0 < es.length) :
    SE X (.Call (.Name x p) es [] pos) (mBi b.f q as) := by
  subst hx
  cases es with
  | nil => cases hl
  | cons e0 es =>
    rw [List.all_cons, Bool.and_eq_true] at hs
    refine bi_se g.calm g.un (g.glo gx) (fun hb => ?_) (fun hb => ?_) (fun hb => ?_) h (star_cons hs.1) (star_any hs.2)
    · cases b
      case gcd => exact absurd rfl hb
      case repr =>
        have bx : (tb.rq && tb.bs.contains "repr") = true := bx
        rw [Bool.and_eq_true] at bx
        exact g.free C bx.2
      all_goals exact g.free C bx
    · subst hb
      rw [g.hmg]
      exact C.gq bx
    · subst hb
      have bx : (tb.rq && tb.bs.contains "repr") = true := bx
      rw [Bool.and_eq_true] at bx
      exact g.grd (C.rq bx.1)
theorem call_se' {X : Cx} {sc : Scope} {cl : Str → Bool} (C : Calls Y k tb gl c) (g : Gd Y N k X sc cl) {f n : Nat} {x : Str} {es : List Expr} {ms : List (Sl → M Val)} {p pos : Pos} (hf : tb.fs[f]? = some (x, n)) (gx : glB sc x = true) (hn : okN x = true) (h : SA X es (mArgs ms)) (hs : es.all notStar = true) (hl : es.length = n) (hl2 : ms.length = n) :
    SE X (.Call (.Name x p) es [] pos) (mCall (c f) (mArgs ms)) := by
  obtain ⟨addr, fd, ps, h1, h2, h3, h4, h5⟩ := C.fn f x n hf hn
  rw [← g.hP, ← g.hw, ← g.hK, ← g.hmg, ← g.hb] at h2
  rw [← g.hmg] at h3
  rw [← g.hK] at h4 h5
  cases es with
  | nil =>
    have hn0 : n = 0 := hl.symm
    subst hn0
    have hps : ps = [] := List.eq_nil_of_length_eq_zero h1
    subst hps
    have hms : ms = [] := List.eq_nil_of_length_eq_zero hl2
    subst hms
    exact se_call0 h2 (g.room.mono (Nat.le_succ _)) (g.glo gx) h3 h4 h5 (okN_ok hn).1
  | cons e0 es =>
    rw [List.all_cons, Bool.and_eq_true] at hs
    rw [← h1] at h2
    exact se_call h2 (g.room.mono (Nat.le_succ _)) (g.glo gx) h3 h4 h5 h (hl.trans h1.symm) (okN_ok hn).1 (star_cons hs.1) (star_any hs.2) fun {env mh mh' vs} e => (mArgs_len e).trans (hl2.trans hl.symm)
theorem ifs_ok {X : Cx} {ifs : List Expr} {t : T} {m : Expr → Bool} (ih : ∀ x, m x = true → STs X x (evT gl c t)) (h : ifsB m t.isYes ifs = true) : SPs X ifs (evT gl c t) := by
  match ifs, h with
  | [], h => cases t <;> first | exact sps_nil | cases h
  | [_], h => exact sps_one (ih _ h)
  | _ :: _ :: _, h => cases h
theorem opt_ok {X : Cx} {o : Option Expr} {e : E} {m : Expr → Bool} (ih : ∀ x, m x = true → SE X x (evE gl c e)) (h : optB m e.isAbs o = true) : SO X o (mOpt e.isAbs (evE gl c e)) := by
  match o, h with
  | none, h => rw [show e.isAbs = true from h]; exact so_none
  | some x, h =>
    have h : (!e.isAbs && m x) = true := h
    rw [Bool.and_eq_true, Bool.not_eq_true'] at h
    rw [h.1]; exact so_some (ih x h.2)
section
variable {X : Cx} {sc : Scope} {cl : Str → Bool} {fa fb : Sl → M Val} {a b : Expr → Bool}
theorem k_slot (g : Gd Y N k X sc cl) {i : Nat} : ∀ x, kSlot N sc i x = true → SE X x (mSlot i)
  | .Name x _, h => by
    have h : (decide (N[i]? = some x) && visB sc x && okN x) = true := h
    simp only [Bool.and_eq_true, decide_eq_true_eq] at h
    obtain ⟨n1, n2, n3⟩ := okN_ok h.2
    exact se_slot (g.at h.1.1) (g.vis h.1.2) n1 n2
theorem k_k {q : Kc} : ∀ x, kK q x = true → SE X x (mC q.d)
  | .Constant d _ _, h => kc_se h
theorem k_glob (C : Calls Y k tb gl c) (g : Gd Y N k X sc cl) {j : Nat} : ∀ x, kGlob tb sc j x = true → SE X x (mGlob gl j)
  | .Name x _, h => by
    have h : (decide (tb.gs[j]? = some x) && glB sc x && okN x) = true := h
    simp only [Bool.and_eq_true, decide_eq_true_eq] at h
    exact glob_se C g h.1.1 h.1.2 h.2
theorem k_neg (ih : ∀ x, a x = true → SE X x fa) : ∀ x, kNeg a x = true → SE X x (mUn negVl fa)
  | .UnaryOp .USub e _, h => se_neg (ih e h)
theorem k_nt (ih : ∀ x, a x = true → SE X x fa) : ∀ x, kNt a x = true → SE X x (mUn notVl fa)
  | .UnaryOp .Not e _, h => se_not (ih e h)
theorem k_bin {op : Operator} {q : Bool} (ih : ∀ x, a x = true → SE X x fa) (ih2 : ∀ x, b x = true → SE X x fb) : ∀ x, kBin op a b x = true → SE X x (mBin (binF op) q fa fb)
  | .BinOp ea eop eb _, h => by
    have h : (decide (op = eop) && a ea && b eb) = true := h
    simp only [Bool.and_eq_true, decide_eq_true_eq] at h
    obtain ⟨⟨rfl, h1⟩, h2⟩ := h
    exact se_bin (bin_ok op) (ih ea h1) (ih2 eb h2)
theorem k_cmp (hu : X.A.units + 65 < cLine) {op : CmpOp} (ih : ∀ x, a x = true → SE X x fa) (ih2 : ∀ x, b x = true → SE X x fb) : ∀ x, kCmp op a b x = true → SE X x (mBin (cmpF op) false fa fb)
  | .Compare ea [eop] [eb] _, h => by
    have h : (decide (op = eop) && a ea && b eb && notSet eb) = true := h
    simp only [Bool.and_eq_true, decide_eq_true_eq] at h
    obtain ⟨⟨⟨rfl, h1⟩, h2⟩, h3⟩ := h
    exact se_cmp (cmp_ok hu op) (ih ea h1) (ih2 eb h2) (set_marks h3)
theorem k_cmpT (hu : X.A.units + 65 < cLine) {op : CmpOp} (ih : ∀ x, a x = true → SE X x fa) (ih2 : ∀ x, b x = true → SE X x fb) : ∀ x, kCmp op a b x = true → STs X x (mCmpT (cmpF op) fa fb)
  | .Compare ea [eop] [eb] _, h => by
    have h : (decide (op = eop) && a ea && b eb && notSet eb) = true := h
    simp only [Bool.and_eq_true, decide_eq_true_eq] at h
    obtain ⟨⟨⟨rfl, h1⟩, h2⟩, h3⟩ := h
    exact st_cmp (cmp_ok hu op) (ih ea h1) (ih2 eb h2) (set_marks h3)
theorem k_one (ih : ∀ x, a x = true → SE X x fa) : ∀ x, kOne a x = true → SE X x fa
  | .BoolOp _ [e] _, h => se_one (ih e h)
theorem k_and (ih : ∀ x, a x = true → SE X x fa) (ih2 : ∀ x, b x = true → SE X x fb) : ∀ x, kAnd a b x = true → SE X x (mAnd fa fb)
  | .BoolOp .And (e :: e2 :: es) p, h => by
    have h : (a e && b (.BoolOp .And (e2 :: es) p)) = true := h
    rw [Bool.and_eq_true] at h
    exact se_and (ih e h.1) (ih2 _ h.2)
theorem k_or (ih : ∀ x, a x = true → SE X x fa) (ih2 : ∀ x, b x = true → SE X x fb) : ∀ x, kOr a b x = true → SE X x (mOr fa fb)
  | .BoolOp .Or (e :: e2 :: es) p, h => by
    have h : (a e && b (.BoolOp .Or (e2 :: es) p)) = true := h
    rw [Bool.and_eq_true] at h
    exact se_or (ih e h.1) (ih2 _ h.2)
theorem k_ife {t : Expr → Bool} {ft : Sl → M Bool} (iht : ∀ x, t x = true → STs X x ft) (ih : ∀ x, a x = true → SE X x fa) (ih2 : ∀ x, b x = true → SE X x fb) : ∀ x, kIfe t a b x = true → SE X x (mIte ft fa fb)
  | .IfExp et ea eb _, h => by
    have h : (t et && a ea && b eb) = true := h
    simp only [Bool.and_eq_true] at h
    exact se_ife (iht et h.1.1) (ih ea h.1.2) (ih2 eb h.2)
theorem k_tup {as : List Expr → Bool} {fs : Sl → M (List Val)} (ih : ∀ x, as x = true → SA X x fs) : ∀ x, kTup as x = true → SE X x (mTup fs)
  | .Tuple es _ _, h => se_tup (ih es h)
theorem k_lst {as : List Expr → Bool} {fs : Sl → M (List Val)} {q : Bool} (ih : ∀ x, as x = true → SA X x fs) : ∀ x, kLst as x = true → SE X x (mLst q fs)
  | .List es _, h => se_lst (ih es h)
theorem k_dict0 {q : Bool} : ∀ x, kDict0 x = true → SE X x (mDict0 q)
  | .Dict [] [] _, h => se_dict0
theorem k_ix (hu : X.A.units + 65 < cLine) (ih : ∀ x, a x = true → SE X x fa) (ih2 : ∀ x, b x = true → SE X x fb) : ∀ x, kIx a b x = true → SE X x (mIx fa fb)
  | .Subscript ea eb _, h => by
    have h : (a ea && b eb && notSlice eb) = true := h
    simp only [Bool.and_eq_true] at h
    exact se_ix (by omega) (ih ea h.1.1) (ih2 eb h.1.2) (slice_ix h.2)
theorem k_sl {q : Bool} {lo hi : Option Expr → Bool} {fl fh : Sl → M (Option Int)} (ih : ∀ x, a x = true → SE X x fa) (ihl : ∀ x, lo x = true → SO X x fl) (ihh : ∀ x, hi x = true → SO X x fh) : ∀ x, kSl a lo hi x = true → SE X x (mSl q fa fl fh)
  | .Subscript ea (.Slice elo ehi none _) _, h => by
    have h : (a ea && lo elo && hi ehi) = true := h
    simp only [Bool.and_eq_true] at h
    exact se_sl (ih ea h.1.1) (ihl elo h.1.2) (ihh ehi h.2)
theorem k_call (C : Calls Y k tb gl c) (g : Gd Y N k X sc cl) {f : Nat} {as : As} (ih : ∀ x, mAs tb N as sc cl x = true → SA X x (mArgs (evAs gl c as))) : ∀ x, kCall tb sc f as.len (mAs tb N as sc cl) x = true → SE X x (mCall (c f) (mArgs (evAs gl c as)))
  | .Call (.Name x _) es [] _, h => by
    have h : (decide (tb.fs[f]? = some (x, as.len)) && glB sc x && okN x && mAs tb N as sc cl es) = true := h
    simp only [Bool.and_eq_true, decide_eq_true_eq] at h
    obtain ⟨⟨⟨h1, h2⟩, h3⟩, h4⟩ := h
    obtain ⟨h5, h6⟩ := mAs_len h4
    exact call_se' C g h1 h2 h3 (ih es h4) h6 h5 (evAs_len as)
theorem k_bi (C : Calls Y k tb gl c) (g : Gd Y N k X sc cl) {bb : Bi} {q : Bool} {as : As} (ih : ∀ x, mAs tb N as sc cl x = true → SA X x (mArgs (evAs gl c as))) : ∀ x, kBi tb sc bb as.len (mAs tb N as sc cl) x = true → SE X x (mBi bb.f q (mArgs (evAs gl c as)))
  | .Call (.Name x _) es [] _, h => by
    have h : (decide (x = bb.name) && biOk tb bb && glB sc x && mAs tb N as sc cl es && decide (0 < as.len)) = true := h
    simp only [Bool.and_eq_true, decide_eq_true_eq] at h
    obtain ⟨⟨⟨⟨h1, h2⟩, h3⟩, h4⟩, h7⟩ := h
    obtain ⟨h5, h6⟩ := mAs_len h4
    exact bi_se' C g h1 h2 h3 (ih es h4) h6 (by rw [h5]; exact h7)
theorem k_isin (C : Calls Y k tb gl c) (g : Gd Y N k X sc cl) {t : String} (ih : ∀ x, a x = true → SE X x fa) : ∀ x, kIsin tb sc t a x = true → SE X x (mIsin t fa)
  | .Call (.Name x _) [e, .Name y _] [] _, h => by
    have h : (decide (x = "isinstance") && tb.bs.contains x && glB sc x && tb.bs.contains y && glB sc y && decide (y = Str.ofString t) && isTys.contains t && a e && notStar e) = true := h
    simp only [Bool.and_eq_true, decide_eq_true_eq] at h
    obtain ⟨⟨⟨⟨⟨⟨⟨⟨h1, h2⟩, h3⟩, h4⟩, h5⟩, h6⟩, h7⟩, h8⟩, h9⟩ := h
    exact isin_se C g (ih e h8) h1 h2 h3 h4 h5 h6 h7 h9
theorem k_meth (g : Gd Y N k X sc cl) {m : Mt} {as : As} (iho : ∀ x, a x = true → SE X x fa) (ih : ∀ x, mAs tb N as sc cl x = true → SA X x (mArgs (evAs gl c as))) : ∀ x, kMeth m as.len a (mAs tb N as sc cl) x = true → SE X x (mMeth m.ty m.f fa (mArgs (evAs gl c as)))
  | .Call (.Attribute eo name ap) es [] cp, h => by
    have h : (decide (name = m.name) && a eo && mAs tb N as sc cl es && decide (as.len < 30) && notCall eo && (ap.endLine == cp.line)) = true := h
    simp only [Bool.and_eq_true, decide_eq_true_eq] at h
    obtain ⟨⟨⟨⟨⟨rfl, h2⟩, h3⟩, h4⟩, h5⟩, h6⟩ := h
    obtain ⟨h7, h8⟩ := mAs_len h3
    exact meth_se g.un (iho eo h2) (ih es h3) (fun z => by
      have h9 := evAs_len (gl := gl) (c := c) as
      rw [← h7, z] at h9
      exact List.eq_nil_of_length_eq_zero h9) h8 (by rw [h7]; exact h4) h5 h6
/-- what a comprehension's block asks -/
structure LcP (Y : Wx) (N : List Str) (k : Nat) (X : Cx) (sc : Scope) (own : List (Str × Nat)) (scope : Scope) (tg iter : Expr) (ifs : List Expr) (sl : List Nat) (mi : Sl → M Ix) (fg : Val → Sl → M Sl) (ft : Sl → M Bool) : Prop where
  hi : SI X tg iter mi
  bk : BlkOk X.N X.env.scope scope own
  sub : ∀ i ∈ sl, i ∈ own.map (·.2)
  hg : ∀ (s : Shared) (H : Hp) (C : Addr) (cl : List (Str × Addr)) (fp : List Addr), SG (X.blk s H scope (compEnvC scope cl C X.env) fp) tg sl fg
  ht : ∀ (s : Shared) (H : Hp) (C : Addr) (cl : List (Str × Addr)) (fp : List Addr), SPs (X.blk s H scope (compEnvC scope cl C X.env) fp) ifs ft
  hs : ∀ x, foldedSetIterable iter X.env x = pure x
  gd : ∀ (s : Shared) (H : Hp) (C : Addr) (cl : List (Str × Addr)) (fp : List Addr), Gd Y N k (X.blk s H scope (compEnvC scope cl C X.env) fp) (relS scope sc) (clOf scope)
theorem lcP (g : Gd Y N k X sc cl) {own : List (Str × Nat)} {sl : List Nat} {it : Expr → Expr → Bool} {gg : Scope → (Str → Bool) → Expr → Bool} {t : T} {tt : Scope → (Str → Bool) → Expr → Bool} {mi : Sl → M Ix} {fg : Val → Sl → M Sl}
    {scope : Scope} {tg iter : Expr} {ifs : List Expr} (iI : ∀ tg x, it tg x = true → SI X tg x mi) (iG : ∀ sc cl x, gg sc cl x = true → ∀ X, Gd Y N k X sc cl → SG X x sl fg) (iT : ∀ sc cl x, tt sc cl x = true → ∀ X, Gd Y N k X sc cl → STs X x (evT gl c t))
    (h1 : blkC N sc scope own = true) (h2 : sl.all (fun i => (own.map (·.2)).contains i) = true) (h3 : it tg iter = true) (h4 : notSet iter = true) (h5 : gg (relS scope sc) (clOf scope) tg = true) (h6 : ifsB (tt (relS scope sc) (clOf scope)) t.isYes ifs = true) :
    LcP Y N k X sc own scope tg iter ifs sl mi fg (evT gl c t) := by
  have bk := blkOk_by h1
  refine ⟨iI _ _ h3, by rw [g.hN, g.hsc]; exact bk, fun i hi => List.contains_iff_mem.mp (List.all_eq_true.mp h2 i hi), fun s H a b f => iG _ _ _ h5 _ (g.blk bk.kind s H a b f), fun s H a b f => ?_, set_fold h4, fun s H a b f => g.blk bk.kind s H a b f⟩
  exact ifs_ok (fun x hx => iT _ _ x hx _ (g.blk bk.kind s H a b f)) h6
theorem k_lc (g : Gd Y N k X sc cl) {q : Bool} {own : List (Str × Nat)} {sl : List Nat} {it : Expr → Expr → Bool} {gg : Scope → (Str → Bool) → Expr → Bool} {t : T} {tt ee : Scope → (Str → Bool) → Expr → Bool} {mi : Sl → M Ix} {fg : Val → Sl → M Sl} {fe : Sl → M Val}
    (iI : ∀ tg x, it tg x = true → SI X tg x mi) (iG : ∀ sc cl x, gg sc cl x = true → ∀ X, Gd Y N k X sc cl → SG X x sl fg) (iT : ∀ sc cl x, tt sc cl x = true → ∀ X, Gd Y N k X sc cl → STs X x (evT gl c t)) (iE : ∀ sc cl x, ee sc cl x = true → ∀ X, Gd Y N k X sc cl → SE X x fe) :
    ∀ x, kLc N sc own sl it gg t.isYes tt ee x = true → SE X x (mLc q mi (own.map (·.2)) fg (evT gl c t) fe)
  | .ListComp ex [⟨tg, iter, ifs, ia⟩] scope _, h => by
    have h : (decide (ia = 0) && blkC N sc scope own && sl.all (fun i => (own.map (·.2)).contains i) && it tg iter && notSet iter && gg (relS scope sc) (clOf scope) tg && ifsB (tt (relS scope sc) (clOf scope)) t.isYes ifs && ee (relS scope sc) (clOf scope) ex) = true := h
    simp only [Bool.and_eq_true, decide_eq_true_eq] at h
    obtain ⟨⟨⟨⟨⟨⟨⟨rfl, h1⟩, h2⟩, h3⟩, h4⟩, h5⟩, h6⟩, h7⟩ := h
    have P := lcP g iI iG iT h1 h2 h3 h4 h5 h6
    exact se_lc g.calm g.ndX P.hi P.bk P.sub P.hg P.ht (fun s H a b f => iE _ _ _ h7 _ (P.gd s H a b f)) P.hs
theorem k_dc (g : Gd Y N k X sc cl) {q : Bool} {own : List (Str × Nat)} {sl : List Nat} {it : Expr → Expr → Bool} {gg : Scope → (Str → Bool) → Expr → Bool} {t : T} {tt ee ev : Scope → (Str → Bool) → Expr → Bool} {mi : Sl → M Ix} {fg : Val → Sl → M Sl} {fe fv : Sl → M Val}
    (iI : ∀ tg x, it tg x = true → SI X tg x mi) (iG : ∀ sc cl x, gg sc cl x = true → ∀ X, Gd Y N k X sc cl → SG X x sl fg) (iT : ∀ sc cl x, tt sc cl x = true → ∀ X, Gd Y N k X sc cl → STs X x (evT gl c t)) (iE : ∀ sc cl x, ee sc cl x = true → ∀ X, Gd Y N k X sc cl → SE X x fe) (iV : ∀ sc cl x, ev sc cl x = true → ∀ X, Gd Y N k X sc cl → SE X x fv) :
    ∀ x, kDc N sc own sl it gg t.isYes tt ee ev x = true → SE X x (mDc q mi (own.map (·.2)) fg (evT gl c t) fe fv)
  | .DictComp ek ex [⟨tg, iter, ifs, ia⟩] scope _, h => by
    have h : (decide (ia = 0) && blkC N sc scope own && sl.all (fun i => (own.map (·.2)).contains i) && it tg iter && notSet iter && gg (relS scope sc) (clOf scope) tg && ifsB (tt (relS scope sc) (clOf scope)) t.isYes ifs && ee (relS scope sc) (clOf scope) ek && ev (relS scope sc) (clOf scope) ex) = true := h
    simp only [Bool.and_eq_true, decide_eq_true_eq] at h
    obtain ⟨⟨⟨⟨⟨⟨⟨⟨rfl, h1⟩, h2⟩, h3⟩, h4⟩, h5⟩, h6⟩, h7⟩, h8⟩ := h
    have P := lcP g iI iG iT h1 h2 h3 h4 h5 h6
    exact se_dc g.calm g.ndX P.hi P.bk P.sub P.hg P.ht (fun s H a b f => iE _ _ _ h7 _ (P.gd s H a b f)) (fun s H a b f => iV _ _ _ h8 _ (P.gd s H a b f)) P.hs
theorem k_nil : ∀ x, kNil x = true → SA X x (mArgs [])
  | [], h => sa_nil
theorem k_cons {as : List Expr → Bool} {ms : List (Sl → M Val)} (ih : ∀ x, a x = true → SE X x fa) (ih2 : ∀ x, as x = true → SA X x (mArgs ms)) : ∀ x, kCons a as x = true → SA X x (mArgs (fa :: ms))
  | e :: es, h => by
    have h : (a e && as es && notStar e) = true := h
    simp only [Bool.and_eq_true] at h
    exact sa_cons (ih e h.1.1) (ih2 es h.1.2) (star_cons h.2)
theorem k_tru (ih : ∀ x, a x = true → SE X x fa) (x : Expr) (h : kTru a x = true) : STs X x (mTru fa) := by
  unfold kTru at h
  rw [Bool.and_eq_true] at h
  exact st_tru (ih x h.1) (test_plain h.2)
theorem k_ntT {fa : Sl → M Bool} (ih : ∀ x, a x = true → STs X x fa) : ∀ x, kNt a x = true → STs X x (mNotT fa)
  | .UnaryOp .Not e _, h => st_not (ih e h)
theorem k_oneW {fa : Sl → M Bool} (ih : ∀ x, a x = true → STs X x fa) : ∀ x, kOne a x = true → SW X x fa
  | .BoolOp .And [e] _, h => sw_and1 (ih e h)
  | .BoolOp .Or [e] _, h => sw_or1 (ih e h)
theorem k_andW {fa fb : Sl → M Bool} (ih : ∀ x, a x = true → STs X x fa) (ih2 : ∀ x, b x = true → SW X x fb) : ∀ x, kAnd a b x = true → SW X x (mAndT fa fb)
  | .BoolOp .And (e :: e2 :: es) p, h => by
    have h : (a e && b (.BoolOp .And (e2 :: es) p)) = true := h
    rw [Bool.and_eq_true] at h
    exact sw_and (ih e h.1) (ih2 _ h.2)
theorem k_orW {fa fb : Sl → M Bool} (ih : ∀ x, a x = true → STs X x fa) (ih2 : ∀ x, b x = true → SW X x fb) : ∀ x, kOr a b x = true → SW X x (mOrT fa fb)
  | .BoolOp .Or (e :: e2 :: es) p, h => by
    have h : (a e && b (.BoolOp .Or (e2 :: es) p)) = true := h
    rw [Bool.and_eq_true] at h
    exact sw_or (ih e h.1) (ih2 _ h.2)
theorem k_rng1 (C : Calls Y k tb gl c) (g : Gd Y N k X sc cl) {as : As} {tg : Expr} (ih : ∀ x, mAs tb N as sc cl x = true → SA X x (mArgs (evAs gl c as))) : ∀ x, kRng1 tb sc (mAs tb N as sc cl) x = true → SI X tg x (iArgs rng1 (mArgs (evAs gl c as)))
  | .Call (.Name x _) [e] [] _, h => by
    have h : (decide (x = "range") && tb.bs.contains x && glB sc x && mAs tb N as sc cl [e]) = true := h
    simp only [Bool.and_eq_true, decide_eq_true_eq] at h
    obtain ⟨⟨⟨rfl, h1⟩, h2⟩, h3⟩ := h
    have hs := (mAs_len h3).2
    exact si_range1 (g.glo h2) (g.free C h1) (ih [e] h3) (star_cons (by rw [List.all_cons, Bool.and_eq_true] at hs; exact hs.1))
theorem k_rng2 (C : Calls Y k tb gl c) (g : Gd Y N k X sc cl) {as : As} {tg : Expr} (ih : ∀ x, mAs tb N as sc cl x = true → SA X x (mArgs (evAs gl c as))) : ∀ x, kRng2 tb sc (mAs tb N as sc cl) x = true → SI X tg x (iArgs rng2 (mArgs (evAs gl c as)))
  | .Call (.Name x _) [e, e2] [] _, h => by
    have h : (decide (x = "range") && tb.bs.contains x && glB sc x && mAs tb N as sc cl [e, e2]) = true := h
    simp only [Bool.and_eq_true, decide_eq_true_eq] at h
    obtain ⟨⟨⟨rfl, h1⟩, h2⟩, h3⟩ := h
    have hs := (mAs_len h3).2
    rw [List.all_cons, List.all_cons, Bool.and_eq_true, Bool.and_eq_true] at hs
    exact si_range2 (g.glo h2) (g.free C h1) (ih [e, e2] h3) (by rw [star_cons hs.1, star_cons hs.2.1]; rfl) (star_cons hs.2.1)
theorem k_rev (C : Calls Y k tb gl c) (g : Gd Y N k X sc cl) {q : Bool} (ih : ∀ x, a x = true → SE X x fa) : ∀ x, kRev tb sc a x = true → SE X x (mRev q fa)
  | .Call (.Name x _) [.Call (.Name y _) [e] [] _] [] _, h => by
    have h : (decide (x = "list") && tb.bs.contains x && glB sc x && decide (y = "reversed") && tb.bs.contains y && glB sc y && a e && notStar e) = true := h
    simp only [Bool.and_eq_true, decide_eq_true_eq] at h
    obtain ⟨⟨⟨⟨⟨⟨⟨rfl, h1⟩, h2⟩, rfl⟩, h3⟩, h4⟩, h5⟩, h6⟩ := h
    exact se_rev g.calm (g.glo h2) (g.free C h1) (g.glo h4) (g.free C h3) (ih e h5) (star_cons h6) (star_cons rfl)
theorem k_enumT (C : Calls Y k tb gl c) (g : Gd Y N k X sc cl) {as : As} (ih : ∀ x, mAs tb N as sc cl x = true → SA X x (mArgs (evAs gl c as))) : ∀ tg x, kEnumT tb sc (mAs tb N as sc cl) tg x = true → SI X tg x (iArgs enumV (mArgs (evAs gl c as)))
  | tg, .Call (.Name x _) [e] [] _, h => by
    have h : (decide (x = "enumerate") && tb.bs.contains x && glB sc x && mAs tb N as sc cl [e] && isTup tg) = true := h
    simp only [Bool.and_eq_true, decide_eq_true_eq] at h
    obtain ⟨⟨⟨⟨rfl, h1⟩, h2⟩, h3⟩, h4⟩ := h
    have hs := (mAs_len h3).2
    rw [List.all_cons, Bool.and_eq_true] at hs
    cases tg with
    | Tuple elts kk tpos => exact si_enumT (g.glo h2) (g.free C h1) (ih [e] h3) (star_cons hs.1)
    | _ => cases h4
theorem k_zip (C : Calls Y k tb gl c) (g : Gd Y N k X sc cl) {as : As} (ih : ∀ x, mAs tb N as sc cl x = true → SA X x (mArgs (evAs gl c as))) : ∀ tg x, kZip tb sc (mAs tb N as sc cl) tg x = true → SI X tg x (iArgsH zip2 (mArgs (evAs gl c as)))
  | tg, .Call (.Name x _) [e, e2] [] _, h => by
    have h : (decide (x = "zip") && tb.bs.contains x && glB sc x && mAs tb N as sc cl [e, e2] && isTup tg) = true := h
    simp only [Bool.and_eq_true, decide_eq_true_eq] at h
    obtain ⟨⟨⟨⟨rfl, h1⟩, h2⟩, h3⟩, h4⟩ := h
    have hs := (mAs_len h3).2
    rw [List.all_cons, Bool.and_eq_true] at hs
    cases tg with
    | Tuple elts kk tpos => exact si_zip (g.glo h2) (g.free C h1) (ih [e, e2] h3) (star_cons hs.1) (star_any hs.2)
    | _ => cases h4
theorem k_zip3 (C : Calls Y k tb gl c) (g : Gd Y N k X sc cl) {as : As} (ih : ∀ x, mAs tb N as sc cl x = true → SA X x (mArgs (evAs gl c as))) : ∀ tg x, kZip3 tb sc (mAs tb N as sc cl) tg x = true → SI X tg x (iArgs zip3 (mArgs (evAs gl c as)))
  | tg, .Call (.Name x _) [e, e2, e3] [] _, h => by
    have h : (decide (x = "zip") && tb.bs.contains x && glB sc x && mAs tb N as sc cl [e, e2, e3] && isTup tg) = true := h
    simp only [Bool.and_eq_true, decide_eq_true_eq] at h
    obtain ⟨⟨⟨⟨rfl, h1⟩, h2⟩, h3⟩, h4⟩ := h
    have hs := (mAs_len h3).2
    rw [List.all_cons, Bool.and_eq_true] at hs
    cases tg with
    | Tuple elts kk tpos => exact si_zip3 (g.glo h2) (g.free C h1) (ih [e, e2, e3] h3) (star_cons hs.1) (star_any hs.2)
    | _ => cases h4
theorem k_nm (g : Gd Y N k X sc cl) {i : Nat} : ∀ x, kNm N sc cl i x = true → SG X x [i] (gNm i)
  | .Name x _, h => by
    have h : (decide (N[i]? = some x) && locB sc cl x) = true := h
    simp only [Bool.and_eq_true, decide_eq_true_eq] at h
    obtain ⟨h1, h2⟩ := g.loc h.2
    exact sg_name g.ndX (g.at h.1) h1 h2
theorem k_tp (g : Gd Y N k X sc cl) {n : Nat} {gs : Gs} {sl : List Nat} {ms : List Val → Sl → M Sl} (ih : ∀ x, mGs tb N gs sc cl x = true → SGs X x sl ms) : ∀ x, kTp n (mGs tb N gs sc cl) x = true → SG X x sl (gTp n ms)
  | .Tuple es _ _, h => by
    have h : (mGs tb N gs sc cl es && decide (es.length = n)) = true := h
    simp only [Bool.and_eq_true, decide_eq_true_eq] at h
    have hs := mGs_len h.1
    exact sg_tup g.calm (ih es h.1) (by rw [asg_len hs]; exact h.2) (asg_find hs)
theorem k_sb (hu : X.A.units + 65 < cLine) (ih : ∀ x, a x = true → SE X x fa) (ih2 : ∀ x, b x = true → SE X x fb) : ∀ x, kSb a b x = true → SG X x [] (gSb fa fb)
  | .Subscript eo ei _, h => by
    have h : (a eo && b ei && notSlice ei) = true := h
    simp only [Bool.and_eq_true] at h
    refine sg_sub (by omega) (ih eo h.1.1) (ih2 ei h.1.2) fun v => ?_
    have h3 := h.2
    cases ei <;> first | rfl | cases h3
theorem k_gnil : ∀ x, kNil x = true → SGs X x [] gNil
  | [], h => sgs_nil
theorem k_gcons {as : List Expr → Bool} {s1 s2 : List Nat} {m : Val → Sl → M Sl} {ms : List Val → Sl → M Sl} (ih : ∀ x, a x = true → SG X x s1 m) (ih2 : ∀ x, as x = true → SGs X x s2 ms) : ∀ x, kCons a as x = true → SGs X x (s1 ++ s2) (gCons m ms)
  | e :: es, h => by
    have h : (a e && as es && notStar e) = true := h
    simp only [Bool.and_eq_true] at h
    exact sgs_cons (ih e h.1.1) (ih2 es h.1.2) (asg_cons h.2)
end

theorem fld_ok {X : Cx} {sc : Scope} {cl : Str → Bool} (C : Calls Y k tb gl c) (g : Gd Y N k X sc cl) {Cs : List Str} {f : Str} (h : fldB tb Cs f = true) : ∀ D ∈ Cs, ∀ Ca, ClAt X.K D Ca → Cls X.K Ca ∧ NoAttr X.K Ca f := by
  intro D hD Ca hCa
  rw [g.hK] at hCa ⊢
  have h1 := List.all_eq_true.mp h D hD
  obtain ⟨cd, hcd, h2⟩ := List.any_eq_true.mp h1
  rw [Bool.and_eq_true] at h2
  obtain ⟨Cb, a1, a2, a3, a4, _⟩ := C.cl cd hcd
  have e : cd.nm = D := eq_of_beq h2.1
  rw [e] at a1
  have e2 : Ca = Cb := by
    have := hCa.symm.trans a1
    cases this; rfl
  subst e2
  exact ⟨a3, a4 f (List.contains_iff_mem.mp h2.2)⟩
theorem alt_ok {X : Cx} {sc : Scope} {cl : Str → Bool} (C : Calls Y k tb gl c) (g : Gd Y N k X sc cl) {alts : List (Str × Nat)} {m : Str} {n : Nat} (h : altB tb alts m n = true) : ∀ D f, (alts.map fun p => (p.1, c p.2)).lookup D = some f →
    ∃ Ca, ClAt X.K D Ca ∧ Cls X.K Ca ∧ ∃ (addr : Addr) (fd : FuncData) (ps : List Str), Meth X.K Ca m addr ∧ FnOk X.prog X.w X.K X.mg X.base L2.CX0 k addr fd ps (spF X.K ps.length f) ∧ Binds X.K fd ps [] ∧ ps.length = n := by
  intro D f hf
  rw [g.hP, g.hw, g.hK, g.hmg, g.hb]
  have : ∃ i, (D, i) ∈ alts ∧ f = c i := by
    clear h
    induction alts with
    | nil => cases hf
    | cons p ps ih =>
      by_cases hd : D = p.1
      · have hb : (D == p.1) = true := beq_iff_eq.mpr hd
        simp only [List.map_cons, List.lookup, hb] at hf
        cases hf
        exact ⟨p.2, by rw [hd]; exact List.mem_cons_self, rfl⟩
      · have hb : (D == p.1) = false := beq_eq_false_iff_ne.mpr hd
        simp only [List.map_cons, List.lookup, hb] at hf
        obtain ⟨i, h1, h2⟩ := ih hf
        exact ⟨i, List.mem_cons_of_mem _ h1, h2⟩
  obtain ⟨i, h1, rfl⟩ := this
  obtain ⟨cd, hcd, h2⟩ := List.any_eq_true.mp (List.all_eq_true.mp h _ h1)
  rw [Bool.and_eq_true] at h2
  obtain ⟨Cb, a1, a2, a3, a4, a5, _⟩ := C.cl cd hcd
  have e : cd.nm = D := eq_of_beq h2.1
  rw [e] at a1
  obtain ⟨addr, fd, ps, b1, b2, b3, b4⟩ := a5 _ (List.contains_iff_mem.mp h2.2)
  exact ⟨Cb, a1, a3, addr, fd, ps, b1, b2, b3, b4⟩
theorem few_ok {X : Cx} {e0 : Expr} {es : List Expr} {cp : Pos} (hs : (e0 :: es).all notStar = true) (hl : (e0 :: es).length < 30) : ((backTo cp (starEach (e0 :: es) X.env)).all (fun x => !x.1) && (backToKw cp (keywordEach [] X.env)).all (fun x => x.1.isSome)
      && decide ((e0 :: es).length + ([] : List Keyword).length + (if ([] : List Keyword).isEmpty then 0 else 1) < 30)) = true := by
  rw [star_all hs]
  have : decide ((e0 :: es).length + ([] : List Keyword).length + (if ([] : List Keyword).isEmpty then 0 else 1) < 30) = true := decide_eq_true (by simpa using hl)
  rw [this]
  rfl
section
variable {X : Cx} {sc : Scope} {cl : Str → Bool} {fa fb : Sl → M Val} {a b : Expr → Bool}
theorem k_fld (C : Calls Y k tb gl c) (g : Gd Y N k X sc cl) {Cs : List Str} {f : Str} (ih : ∀ x, a x = true → SE X x fa) : ∀ x, kFld tb Cs f a x = true → SE X x (mFld Cs f fa)
  | .Attribute eo x _, h => by
    have h : (decide (x = f) && a eo && notSup eo && fldB tb Cs f) = true := h
    simp only [Bool.and_eq_true, decide_eq_true_eq] at h
    obtain ⟨⟨⟨rfl, h2⟩, h3⟩, h4⟩ := h
    exact se_fld (fld_ok C g h4) (ih eo h2) (sup_base h3)
theorem k_mk (C : Calls Y k tb gl c) (g : Gd Y N k X sc cl) {D : Str} {i : Nat} {as : As} (ih : ∀ x, mAs tb N as sc cl x = true → SA X x (mArgs (evAs gl c as))) : ∀ x, kMk tb sc D i as.len (mAs tb N as sc cl) x = true → SE X x (mMk D (c i) (mArgs (evAs gl c as)))
  | .Call (.Name x _) es [] _, h => by
    have h : (decide (x = D) && (tb.cs.any fun cd => cd.nm == D && cd.init == some (i, as.len + 1)) && glB sc x && okN x && mAs tb N as sc cl es) = true := h
    simp only [Bool.and_eq_true, decide_eq_true_eq] at h
    obtain ⟨⟨⟨⟨rfl, h2⟩, h3⟩, h4⟩, h5⟩ := h
    obtain ⟨cd, hcd, h6⟩ := List.any_eq_true.mp h2
    rw [Bool.and_eq_true] at h6
    obtain ⟨Ca, a1, a2, a3, a4, a5, a6⟩ := C.cl cd hcd
    obtain ⟨addr, fd, ps, b1, b2, b3, b4⟩ := a6 _ (eq_of_beq h6.2)
    have e : cd.nm = x := eq_of_beq h6.1
    rw [e] at a1 a2
    obtain ⟨l1, l2⟩ := mAs_len h5
    have ih5 := ih es h5
    rw [← g.hP, ← g.hw, ← g.hK, ← g.hmg, ← g.hb] at b2
    rw [← g.hK] at a1 b1 b3
    rw [← g.hmg] at a2
    have b4 : ps.length = as.len + 1 := b4
    have hal : ∀ {env : Sl} {mh mh' : List Ob} {vs : List Val}, mArgs (evAs gl c as) env mh = some (vs, mh') → vs.length = es.length := fun {env mh mh' vs} e => (mArgs_len e).trans ((evAs_len as).trans l1.symm)
    cases es with
    | nil =>
      have hz : as = .nil := by
        cases as with
        | nil => rfl
        | cons _ _ => cases l1
      subst hz
      exact se_mk0 a1 b1 b2 g.room (g.glo h3) a2 b3 b4.symm (okN_ok h4).1
    | cons e0 es =>
      rw [List.all_cons, Bool.and_eq_true] at l2
      exact se_mk a1 b1 b2 g.room (g.glo h3) a2 b3 ih5 (by rw [b4, l1]) (okN_ok h4).1 (star_cons l2.1) (star_any l2.2) hal
theorem k_mcall (C : Calls Y k tb gl c) (g : Gd Y N k X sc cl) {alts : List (Str × Nat)} {m : Str} {as : As} (iho : ∀ x, a x = true → SE X x fa) (ih : ∀ x, mAs tb N as sc cl x = true → SA X x (mArgs (evAs gl c as))) : ∀ x, kMcall tb alts m as.len a (mAs tb N as sc cl) x = true → SE X x (mMc (alts.map fun p => (p.1, c p.2)) m fa (mArgs (evAs gl c as)))
  | .Call (.Attribute eo name ap) es [] cp, h => by
    have h : (decide (name = m) && a eo && mAs tb N as sc cl es && decide (as.len < 29) && notSup eo && (ap.endLine == cp.line) && altB tb alts m (as.len + 1)) = true := h
    simp only [Bool.and_eq_true, decide_eq_true_eq] at h
    obtain ⟨⟨⟨⟨⟨⟨rfl, h2⟩, h3⟩, h4⟩, h5⟩, h6⟩, h7⟩ := h
    obtain ⟨l1, l2⟩ := mAs_len h3
    have ih3 := ih es h3
    have hal : ∀ {env : Sl} {mh mh' : List Ob} {vs : List Val}, mArgs (evAs gl c as) env mh = some (vs, mh') → vs.length = es.length := fun {env mh mh' vs} e => (mArgs_len e).trans ((evAs_len as).trans l1.symm)
    have A := alt_ok C g h7
    cases es with
    | nil =>
      have hz : as = .nil := by
        cases as with
        | nil => rfl
        | cons _ _ => cases l1
      subst hz
      exact se_mcall0 A (g.room.mono (Nat.le_succ _)) (iho eo h2) (sup_base h5) h6
    | cons e0 es =>
      rw [← l1] at A
      have hs := l2
      rw [List.all_cons, Bool.and_eq_true] at l2
      exact se_mcall A (g.room.mono (Nat.le_succ _)) (iho eo h2) ih3 (sup_base h5) (few_ok hs (by rw [l1]; omega)) h6 (star_cons l2.1) (star_any l2.2) hal
theorem k_ixT (hu : X.A.units + 65 < cLine) {as : List Expr → Bool} {fs : Sl → M (List Val)} (iho : ∀ x, a x = true → SE X x fa) (ih : ∀ x, as x = true → SA X x fs) : ∀ x, kIxT a as x = true → SE X x (mIxT fa fs)
  | .Subscript eo (.Tuple es _ _) _, h => by
    have h : (a eo && as es) = true := h
    rw [Bool.and_eq_true] at h
    exact se_ixT (by omega) (iho eo h.1) (ih es h.2)
theorem k_dk {a b : Expr → Bool} {fa fb : Sl → M Val} (iha : ∀ x, a x = true → SE X x fa) (ihb : ∀ x, b x = true → SE X x fb) : ∀ x, kDk a b x = true → SE X x (mDk fa fb)
  | .Dict [some x] [y] _, h => by
    have h : (a x && b y) = true := h
    rw [Bool.and_eq_true] at h
    exact se_dk (iha x h.1) (ihb y h.2)
theorem k_dictT0 : ∀ x, kDict0 x = true → SE X x mDictT0
  | .Dict [] [] _, h => se_dictT0
theorem k_sbT (hu : X.A.units + 65 < cLine) {as : List Expr → Bool} {fs : Sl → M (List Val)} (iho : ∀ x, a x = true → SE X x fa) (ih : ∀ x, as x = true → SA X x fs) : ∀ x, kSbT a as x = true → SG X x [] (gSbT fa fs)
  | .Subscript eo (.Tuple es _ _) _, h => by
    have h : (a eo && as es) = true := h
    rw [Bool.and_eq_true] at h
    exact sg_subT (by omega) (iho eo h.1) (ih es h.2) fun v => rfl
theorem k_lc2 (g : Gd Y N k X sc cl) {q : Bool} {own : List (Str × Nat)} {sl sl1 vs1 : List Nat} {it : Expr → Expr → Bool} {it1 : Scope → (Str → Bool) → Expr → Expr → Bool} {gg gg1 : Scope → (Str → Bool) → Expr → Bool} {t t1 : T} {tt tt1 ee : Scope → (Str → Bool) → Expr → Bool} {mi mi1 : Sl → M Ix} {fg fg1 : Val → Sl → M Sl} {fe : Sl → M Val}
    (iI : ∀ tg x, it tg x = true → SI X tg x mi) (iG : ∀ sc cl x, gg sc cl x = true → ∀ X, Gd Y N k X sc cl → SG X x sl fg) (iT : ∀ sc cl x, tt sc cl x = true → ∀ X, Gd Y N k X sc cl → STs X x (evT gl c t))
    (iI1 : ∀ sc cl tg x, it1 sc cl tg x = true → ∀ X, Gd Y N k X sc cl → SI X tg x mi1) (iG1 : ∀ sc cl x, gg1 sc cl x = true → ∀ X, Gd Y N k X sc cl → SG X x sl1 fg1) (iT1 : ∀ sc cl x, tt1 sc cl x = true → ∀ X, Gd Y N k X sc cl → STs X x (evT gl c t1))
    (iE : ∀ sc cl x, ee sc cl x = true → ∀ X, Gd Y N k X sc cl → SE X x fe) :
    ∀ x, kLc2 N sc own sl it gg t.isYes tt vs1 sl1 it1 gg1 t1.isYes tt1 ee x = true → SE X x (mLc2 q mi (own.map (·.2)) fg (evT gl c t) mi1 vs1 fg1 (evT gl c t1) fe)
  | .ListComp ex [⟨tg, iter, ifs, ia⟩, ⟨tg1, iter1, ifs1, ia1⟩] scope _, h => by
    have h : (decide (ia = 0) && blkC N sc scope own && sl.all (fun i => (own.map (·.2)).contains i) && it tg iter && notSet iter && gg (relS scope sc) (clOf scope) tg && ifsB (tt (relS scope sc) (clOf scope)) t.isYes ifs && (decide (ia1 = 0) && sl1.all (fun i => vs1.contains i) && vs1.all (fun i => (own.map (·.2)).contains i) && notSet iter1 && it1 (relS scope sc) (clOf scope) tg1 iter1 && gg1 (relS scope sc) (clOf scope) tg1 && ifsB (tt1 (relS scope sc) (clOf scope)) t1.isYes ifs1 && ee (relS scope sc) (clOf scope) ex)) = true := h
    simp only [Bool.and_eq_true, decide_eq_true_eq] at h
    obtain ⟨⟨⟨⟨⟨⟨⟨rfl, h1⟩, h2⟩, h3⟩, h4⟩, h5⟩, h6⟩, ⟨⟨⟨⟨⟨⟨⟨rfl, h7⟩, h8⟩, h9⟩, h10⟩, h11⟩, h12⟩, h13⟩⟩ := h
    have P := lcP g iI iG iT h1 h2 h3 h4 h5 h6
    exact se_lc2 g.calm g.ndX P.hi P.bk P.sub (fun i hi => List.contains_iff_mem.mp (List.all_eq_true.mp h7 i hi)) (fun i hi => List.contains_iff_mem.mp (List.all_eq_true.mp h8 i hi)) P.hg P.ht (fun s H a b f => iI1 _ _ _ _ h10 _ (P.gd s H a b f)) (fun s H a b f => iG1 _ _ _ h11 _ (P.gd s H a b f))
      (fun s H a b f => ifs_ok (fun x hx => iT1 _ _ x hx _ (P.gd s H a b f)) h12) (fun s H a b f => iE _ _ _ h13 _ (P.gd s H a b f)) P.hs (fun env x => set_fold h9 x)
end

mutual
theorem sndE (C : Calls Y k tb gl c) : ∀ (e : E) (sc : Scope) (cl : Str → Bool) (x : Expr), mE tb N e sc cl x = true → ∀ X, Gd Y N k X sc cl → SE X x (evE gl c e)
  | .slot i, sc, cl, x, h, X, g => k_slot g x h
  | .k q, sc, cl, x, h, X, g => k_k x h
  | .glob j, sc, cl, x, h, X, g => k_glob C g x h
  | .absent, sc, cl, x, h, X, g => nomatch h
  | .neg a, sc, cl, x, h, X, g => k_neg (fun x hx => sndE C a sc cl x hx X g) x h
  | .nt a, sc, cl, x, h, X, g => k_nt (fun x hx => sndE C a sc cl x hx X g) x h
  | .bin op q a b, sc, cl, x, h, X, g => k_bin (fun x hx => sndE C a sc cl x hx X g) (fun x hx => sndE C b sc cl x hx X g) x h
  | .cmp op a b, sc, cl, x, h, X, g => k_cmp g.un (fun x hx => sndE C a sc cl x hx X g) (fun x hx => sndE C b sc cl x hx X g) x h
  | .one a, sc, cl, x, h, X, g => k_one (fun x hx => sndE C a sc cl x hx X g) x h
  | .and2 a b, sc, cl, x, h, X, g => k_and (fun x hx => sndE C a sc cl x hx X g) (fun x hx => sndE C b sc cl x hx X g) x h
  | .or2 a b, sc, cl, x, h, X, g => k_or (fun x hx => sndE C a sc cl x hx X g) (fun x hx => sndE C b sc cl x hx X g) x h
  | .ife t a b, sc, cl, x, h, X, g => k_ife (fun x hx => sndT C t sc cl x hx X g) (fun x hx => sndE C a sc cl x hx X g) (fun x hx => sndE C b sc cl x hx X g) x h
  | .tup as, sc, cl, x, h, X, g => k_tup (fun x hx => sndAs C as sc cl x hx X g) x h
  | .lst q as, sc, cl, x, h, X, g => k_lst (fun x hx => sndAs C as sc cl x hx X g) x h
  | .dict0 q, sc, cl, x, h, X, g => k_dict0 x h
  | .ix a b, sc, cl, x, h, X, g => k_ix g.un (fun x hx => sndE C a sc cl x hx X g) (fun x hx => sndE C b sc cl x hx X g) x h
  | .sl q a lo hi, sc, cl, x, h, X, g => k_sl (fun x hx => sndE C a sc cl x hx X g) (fun _ ho => opt_ok (fun x hx => sndE C lo sc cl x hx X g) ho) (fun _ ho => opt_ok (fun x hx => sndE C hi sc cl x hx X g) ho) x h
  | .call f as, sc, cl, x, h, X, g => k_call C g (fun x hx => sndAs C as sc cl x hx X g) x h
  | .bi b q as, sc, cl, x, h, X, g => k_bi C g (fun x hx => sndAs C as sc cl x hx X g) x h
  | .isin t a, sc, cl, x, h, X, g => k_isin C g (fun x hx => sndE C a sc cl x hx X g) x h
  | .rev _ a, sc, cl, x, h, X, g => k_rev C g (fun x hx => sndE C a sc cl x hx X g) x h
  | .meth m o as, sc, cl, x, h, X, g => k_meth g (fun x hx => sndE C o sc cl x hx X g) (fun x hx => sndAs C as sc cl x hx X g) x h
  | .lc q own tg it t el, sc, cl, x, h, X, g => k_lc g (fun tg x hx => sndI C it sc cl tg x hx X g) (fun sc cl x hx X g => sndG C tg sc cl x hx X g) (fun sc cl x hx X g => sndT C t sc cl x hx X g) (fun sc cl x hx X g => sndE C el sc cl x hx X g) x h
  | .dc q own tg it t kx vx, sc, cl, x, h, X, g => k_dc g (fun tg x hx => sndI C it sc cl tg x hx X g) (fun sc cl x hx X g => sndG C tg sc cl x hx X g) (fun sc cl x hx X g => sndT C t sc cl x hx X g) (fun sc cl x hx X g => sndE C kx sc cl x hx X g) (fun sc cl x hx X g => sndE C vx sc cl x hx X g) x h
  | .fld Cs f o, sc, cl, x, h, X, g => k_fld C g (fun x hx => sndE C o sc cl x hx X g) x h
  | .mk D i as, sc, cl, x, h, X, g => k_mk C g (fun x hx => sndAs C as sc cl x hx X g) x h
  | .mcall alts m o as, sc, cl, x, h, X, g => k_mcall C g (fun x hx => sndE C o sc cl x hx X g) (fun x hx => sndAs C as sc cl x hx X g) x h
  | .ixT o as, sc, cl, x, h, X, g => k_ixT g.un (fun x hx => sndE C o sc cl x hx X g) (fun x hx => sndAs C as sc cl x hx X g) x h
  | .dictT0, sc, cl, x, h, X, g => k_dictT0 x h
  | .dk a b, sc, cl, x, h, X, g => k_dk (fun x hx => sndE C a sc cl x hx X g) (fun x hx => sndE C b sc cl x hx X g) x h
  | .lc2 q own tg it t vs1 tg1 it1 t1 el, sc, cl, x, h, X, g => k_lc2 g (fun tg x hx => sndI C it sc cl tg x hx X g) (fun sc cl x hx X g => sndG C tg sc cl x hx X g) (fun sc cl x hx X g => sndT C t sc cl x hx X g) (fun sc cl tg x hx X g => sndI C it1 sc cl tg x hx X g) (fun sc cl x hx X g => sndG C tg1 sc cl x hx X g) (fun sc cl x hx X g => sndT C t1 sc cl x hx X g) (fun sc cl x hx X g => sndE C el sc cl x hx X g) x h
termination_by structural e => e
theorem sndAs (C : Calls Y k tb gl c) : ∀ (as : As) (sc : Scope) (cl : Str → Bool) (es : List Expr), mAs tb N as sc cl es = true → ∀ X, Gd Y N k X sc cl → SA X es (mArgs (evAs gl c as))
  | .nil, sc, cl, x, h, X, g => k_nil x h
  | .cons a as, sc, cl, x, h, X, g => k_cons (fun x hx => sndE C a sc cl x hx X g) (fun x hx => sndAs C as sc cl x hx X g) x h
termination_by structural e => e
theorem sndT (C : Calls Y k tb gl c) : ∀ (t : T) (sc : Scope) (cl : Str → Bool) (x : Expr), mT tb N t sc cl x = true → ∀ X, Gd Y N k X sc cl → STs X x (evT gl c t)
  | .yes, sc, cl, x, h, X, g => nomatch h
  | .cmp op a b, sc, cl, x, h, X, g => k_cmpT g.un (fun x hx => sndE C a sc cl x hx X g) (fun x hx => sndE C b sc cl x hx X g) x h
  | .tru a, sc, cl, x, h, X, g => k_tru (fun x hx => sndE C a sc cl x hx X g) x h
  | .nt t, sc, cl, x, h, X, g => k_ntT (fun x hx => sndT C t sc cl x hx X g) x h
  | .one a, sc, cl, x, h, X, g => (k_oneW (fun x hx => sndT C a sc cl x hx X g) x h).st
  | .and2 a b, sc, cl, x, h, X, g => (k_andW (fun x hx => sndT C a sc cl x hx X g) (fun x hx => sndW C b sc cl x hx X g) x h).st
  | .or2 a b, sc, cl, x, h, X, g => (k_orW (fun x hx => sndT C a sc cl x hx X g) (fun x hx => sndW C b sc cl x hx X g) x h).st
termination_by structural e => e
theorem sndW (C : Calls Y k tb gl c) : ∀ (t : T) (sc : Scope) (cl : Str → Bool) (x : Expr), mW tb N t sc cl x = true → ∀ X, Gd Y N k X sc cl → SW X x (evT gl c t)
  | .one a, sc, cl, x, h, X, g => k_oneW (fun x hx => sndT C a sc cl x hx X g) x h
  | .and2 a b, sc, cl, x, h, X, g => k_andW (fun x hx => sndT C a sc cl x hx X g) (fun x hx => sndW C b sc cl x hx X g) x h
  | .or2 a b, sc, cl, x, h, X, g => k_orW (fun x hx => sndT C a sc cl x hx X g) (fun x hx => sndW C b sc cl x hx X g) x h
  | .yes, sc, cl, x, h, X, g => nomatch h
  | .cmp _ _ _, sc, cl, x, h, X, g => nomatch h
  | .tru _, sc, cl, x, h, X, g => nomatch h
  | .nt _, sc, cl, x, h, X, g => nomatch h
termination_by structural e => e
theorem sndI (C : Calls Y k tb gl c) : ∀ (i : I) (sc : Scope) (cl : Str → Bool) (tg x : Expr), mI tb N i sc cl tg x = true → ∀ X, Gd Y N k X sc cl → SI X tg x (evI gl c i)
  | .val a, sc, cl, tg, x, h, X, g => si_val (sndE C a sc cl x h X g)
  | .range1 as, sc, cl, tg, x, h, X, g => k_rng1 C g (fun x hx => sndAs C as sc cl x hx X g) x h
  | .range2 as, sc, cl, tg, x, h, X, g => k_rng2 C g (fun x hx => sndAs C as sc cl x hx X g) x h
  | .zip as, sc, cl, tg, x, h, X, g => k_zip C g (fun x hx => sndAs C as sc cl x hx X g) tg x h
  | .zip3 as, sc, cl, tg, x, h, X, g => k_zip3 C g (fun x hx => sndAs C as sc cl x hx X g) tg x h
  | .enumT as, sc, cl, tg, x, h, X, g => k_enumT C g (fun x hx => sndAs C as sc cl x hx X g) tg x h
termination_by structural e => e
theorem sndG (C : Calls Y k tb gl c) : ∀ (t : G) (sc : Scope) (cl : Str → Bool) (x : Expr), mG tb N t sc cl x = true → ∀ X, Gd Y N k X sc cl → SG X x (gSl t) (evG gl c t)
  | .nm i, sc, cl, x, h, X, g => k_nm g x h
  | .tp n gs, sc, cl, x, h, X, g => k_tp g (fun x hx => sndGs C gs sc cl x hx X g) x h
  | .sb o i, sc, cl, x, h, X, g => k_sb g.un (fun x hx => sndE C o sc cl x hx X g) (fun x hx => sndE C i sc cl x hx X g) x h
  | .sbT o as, sc, cl, x, h, X, g => k_sbT g.un (fun x hx => sndE C o sc cl x hx X g) (fun x hx => sndAs C as sc cl x hx X g) x h
termination_by structural e => e
theorem sndGs (C : Calls Y k tb gl c) : ∀ (t : Gs) (sc : Scope) (cl : Str → Bool) (es : List Expr), mGs tb N t sc cl es = true → ∀ X, Gd Y N k X sc cl → SGs X es (gsSl t) (evGs gl c t)
  | .nil, sc, cl, x, h, X, g => k_gnil x h
  | .cons t ts, sc, cl, x, h, X, g => k_gcons (fun x hx => sndG C t sc cl x hx X g) (fun x hx => sndGs C ts sc cl x hx X g) x h
termination_by structural e => e
end
end
end Pv

/-! P12: statements, defs, programs -/
namespace Pv
open PySem PySem.Spec PyProof.Rows L2
section
variable {Y : Wx} {N : List Str} {k : Nat} {tb : Tb} {gl : List (Str × Dt)} {c : Nat → List Val → M Val}
theorem swaps_cell {X : Cx} {e : Expr} {x : Str} {p : Pos} {l : Nat} (h : X.env.scope.names.lookup x = some .cell) : swapsWith e (some (.Name x p)) l X.env = pure false := by
  have hk : (X.env.kindOf x == some NameKind.local) = false := by
    show (X.env.scope.names.lookup x == some NameKind.local) = false
    rw [h]; rfl
  unfold swapsWith
  cases e <;> first | rfl | simp only [hk, Bool.and_false, Bool.false_and]
theorem swaps_on {X : Cx} {e : Expr} {scope : Scope} {x : Str} {p : Pos} {l : Nat} (he : (∃ a b c, e = .ListComp a b scope c) ∨ ∃ a d b c, e = .DictComp a d b scope c) (hk : X.env.scope.kind = .function) (h : X.env.scope.names.lookup x = some .local) (hl : (p.line == e.pos.line) = true)
    (ha : (scope.names.any fun (n, k) => n == x && (k == .local || k == .cell)) = false) : swapsWith e (some (.Name x p)) l X.env = pure true := by
  have hk2 : (X.env.kindOf x == some NameKind.local) = true := by
    show (X.env.scope.names.lookup x == some NameKind.local) = true
    rw [h]; rfl
  have hb : (X.env.blockKind == ScopeKind.function) = true := by
    unfold Env.blockKind
    rw [hk]; rfl
  unfold swapsWith
  rcases he with ⟨a, b, d, rfl⟩ | ⟨a, d', b, d, rfl⟩ <;> (simp only [hk2, hb, hl, ha, Bool.not_false, Bool.and_true, Bool.and_self]; done)
theorem aug_ok {X : Cx} {op : Operator} (h : op = .Add ∨ op = .Sub) : PIp X op (ipI (augF op)) := by
  rcases h with rfl | rfl
  · exact ip_add
  · exact ip_sub
theorem swpB_on {X : Cx} {sc : Scope} {cl : Str → Bool} (g : Gd Y N k X sc cl) {y : Str} {py : Pos} {l : Nat} {e : Expr} (h2 : sc.names.lookup y = some .local) (h : swpB y py (compS e) = true) : swapsWith e (some (.Name y py)) l X.env = pure true := by
  have h2 : X.env.scope.names.lookup y = some .local := by rw [g.hsc]; exact h2
  have hk : X.env.scope.kind = .function := by rw [g.hsc]; exact g.kind
  cases e with
  | ListComp a b s p =>
    have h : ((py.line == p.line) && !(s.names.any fun (n, k) => n == y && (k == .local || k == .cell))) = true := h
    rw [Bool.and_eq_true] at h
    exact swaps_on (.inl ⟨_, _, _, rfl⟩) hk h2 h.1 ((Bool.not_eq_true' _).mp h.2)
  | DictComp a d b s p =>
    have h : ((py.line == p.line) && !(s.names.any fun (n, k) => n == y && (k == .local || k == .cell))) = true := h
    rw [Bool.and_eq_true] at h
    exact swaps_on (.inr ⟨_, _, _, _, rfl⟩) hk h2 h.1 ((Bool.not_eq_true' _).mp h.2)
  | _ => cases h
section
variable {X : Cx} {sc : Scope} {cl : Str → Bool} {fa : Sl → M Val} {a b : Expr → Bool}
theorem k_asg {t : Expr → Bool} {sl : List Nat} {fg : Val → Sl → M Sl} (ihg : ∀ x, t x = true → SG X x sl fg) (ih : ∀ x, a x = true → SE X x fa) : ∀ x, kAsg t a x = true → SS X x (mAsg fa fg) := by
  intro x h
  cases x with
  | Assign ts e pp =>
    cases ts with
    | cons tg ts =>
      cases ts with
      | nil =>
        have h : (t tg && a e && (notComp e || notNm tg) && (notTL tg || notTup e) && notStar tg) = true := h
        simp only [Bool.and_eq_true, Bool.or_eq_true] at h
        obtain ⟨⟨⟨⟨h1, h2⟩, h3⟩, h4⟩, h5⟩ := h
        exact ss_asg (ih e h2) (ihg tg h1) (h3.elim comp_swaps nm_swaps) (tup_swap h4) (by rw [asg_cons h5]; rfl)
      | _ => cases h
    | _ => cases h
  | _ => cases h
theorem k_set (g : Gd Y N k X sc cl) {i : Nat} (ih : ∀ x, a x = true → SE X x fa) : ∀ x, kSet N sc cl i a x = true → SS X x (mAsg fa (gNm i)) := by
  intro x h
  cases x with
  | Assign ts e pp =>
    cases ts with
    | cons tg ts =>
      cases ts with
      | nil =>
        cases tg with
        | Name x p0 =>
          have h : (decide (N[i]? = some x) && locB sc cl x && a e && (notComp e || decide (sc.names.lookup x = some .cell))) = true := h
          simp only [Bool.and_eq_true, Bool.or_eq_true, decide_eq_true_eq] at h
          obtain ⟨⟨⟨h1, h2⟩, h3⟩, h4⟩ := h
          obtain ⟨l1, l2⟩ := g.loc h2
          refine ss_set g.ndX (g.at h1) l1 (ih e h3) ?_ l2
          rcases h4 with h4 | h4
          · exact comp_swaps h4
          · exact swaps_cell (by rw [g.hsc]; exact h4)
        | _ => cases h
      | _ => cases tg <;> cases h
    | _ => cases h
  | _ => cases h
theorem k_swpL (g : Gd Y N k X sc cl) {i : Nat} {q : Bool} {own : List (Str × Nat)} {sl : List Nat} {it : Expr → Expr → Bool} {gg : Scope → (Str → Bool) → Expr → Bool} {t : T} {tt ee : Scope → (Str → Bool) → Expr → Bool} {mi : Sl → M Ix} {fg : Val → Sl → M Sl} {fe : Sl → M Val}
    (iI : ∀ tg x, it tg x = true → SI X tg x mi) (iG : ∀ sc cl x, gg sc cl x = true → ∀ X, Gd Y N k X sc cl → SG X x sl fg) (iT : ∀ sc cl x, tt sc cl x = true → ∀ X, Gd Y N k X sc cl → STs X x (evT gl c t)) (iE : ∀ sc cl x, ee sc cl x = true → ∀ X, Gd Y N k X sc cl → SE X x fe) :
    ∀ x, kSwp N sc i (kLc N sc own sl it gg t.isYes tt ee) x = true → SS X x (mAsg (mLc q mi (own.map (·.2)) fg (evT gl c t) fe) (gNm i)) := by
  intro x h
  cases x with
  | Assign ts e sp =>
    cases ts with
    | cons tg ts =>
      cases ts with
      | nil =>
        cases tg with
        | Name y py =>
          have h : (decide (N[i]? = some y) && decide (sc.names.lookup y = some .local) && kLc N sc own sl it gg t.isYes tt ee e && swpB y py (compS e)) = true := h
          simp only [Bool.and_eq_true, decide_eq_true_eq] at h
          obtain ⟨⟨⟨h1, h2⟩, h3⟩, h4⟩ := h
          have hsw := swpB_on (l := sp.line) g h2 h4
          match e, h3, hsw with
          | .ListComp ex [⟨tg, iter, ifs, ia⟩] scope _, h, hsw =>
            have h : (decide (ia = 0) && blkC N sc scope own && sl.all (fun i => (own.map (·.2)).contains i) && it tg iter && notSet iter && gg (relS scope sc) (clOf scope) tg && ifsB (tt (relS scope sc) (clOf scope)) t.isYes ifs && ee (relS scope sc) (clOf scope) ex) = true := h
            simp only [Bool.and_eq_true, decide_eq_true_eq] at h
            obtain ⟨⟨⟨⟨⟨⟨⟨rfl, e1⟩, e2⟩, e3⟩, e4⟩, e5⟩, e6⟩, e7⟩ := h
            have P := lcP g iI iG iT e1 e2 e3 e4 e5 e6
            exact ss_setLc g.calm g.ndX (g.at h1) (by rw [g.hsc]; exact h2) hsw P.hi P.bk P.sub P.hg P.ht (fun s H a b f => iE _ _ _ e7 _ (P.gd s H a b f)) P.hs
        | _ => cases h
      | _ => cases tg <;> cases h
    | _ => cases h
  | _ => cases h
theorem k_swpD (g : Gd Y N k X sc cl) {i : Nat} {q : Bool} {own : List (Str × Nat)} {sl : List Nat} {it : Expr → Expr → Bool} {gg : Scope → (Str → Bool) → Expr → Bool} {t : T} {tt ee ev : Scope → (Str → Bool) → Expr → Bool} {mi : Sl → M Ix} {fg : Val → Sl → M Sl} {fe fv : Sl → M Val}
    (iI : ∀ tg x, it tg x = true → SI X tg x mi) (iG : ∀ sc cl x, gg sc cl x = true → ∀ X, Gd Y N k X sc cl → SG X x sl fg) (iT : ∀ sc cl x, tt sc cl x = true → ∀ X, Gd Y N k X sc cl → STs X x (evT gl c t)) (iE : ∀ sc cl x, ee sc cl x = true → ∀ X, Gd Y N k X sc cl → SE X x fe) (iV : ∀ sc cl x, ev sc cl x = true → ∀ X, Gd Y N k X sc cl → SE X x fv) :
    ∀ x, kSwp N sc i (kDc N sc own sl it gg t.isYes tt ee ev) x = true → SS X x (mAsg (mDc q mi (own.map (·.2)) fg (evT gl c t) fe fv) (gNm i)) := by
  intro x h
  cases x with
  | Assign ts e sp =>
    cases ts with
    | cons tg ts =>
      cases ts with
      | nil =>
        cases tg with
        | Name y py =>
          have h : (decide (N[i]? = some y) && decide (sc.names.lookup y = some .local) && kDc N sc own sl it gg t.isYes tt ee ev e && swpB y py (compS e)) = true := h
          simp only [Bool.and_eq_true, decide_eq_true_eq] at h
          obtain ⟨⟨⟨h1, h2⟩, h3⟩, h4⟩ := h
          have hsw := swpB_on (l := sp.line) g h2 h4
          match e, h3, hsw with
          | .DictComp ek ex [⟨tg, iter, ifs, ia⟩] scope _, h, hsw =>
            have h : (decide (ia = 0) && blkC N sc scope own && sl.all (fun i => (own.map (·.2)).contains i) && it tg iter && notSet iter && gg (relS scope sc) (clOf scope) tg && ifsB (tt (relS scope sc) (clOf scope)) t.isYes ifs && ee (relS scope sc) (clOf scope) ek && ev (relS scope sc) (clOf scope) ex) = true := h
            simp only [Bool.and_eq_true, decide_eq_true_eq] at h
            obtain ⟨⟨⟨⟨⟨⟨⟨⟨rfl, e1⟩, e2⟩, e3⟩, e4⟩, e5⟩, e6⟩, e7⟩, e8⟩ := h
            have P := lcP g iI iG iT e1 e2 e3 e4 e5 e6
            exact ss_setDc g.calm g.ndX (g.at h1) (by rw [g.hsc]; exact h2) hsw P.hi P.bk P.sub P.hg P.ht (fun s H a b f => iE _ _ _ e7 _ (P.gd s H a b f)) (fun s H a b f => iV _ _ _ e8 _ (P.gd s H a b f)) P.hs
        | _ => cases h
      | _ => cases tg <;> cases h
    | _ => cases h
  | _ => cases h
theorem k_swpL2 (g : Gd Y N k X sc cl) {i : Nat} {q : Bool} {own : List (Str × Nat)} {sl sl1 vs1 : List Nat} {it : Expr → Expr → Bool} {it1 : Scope → (Str → Bool) → Expr → Expr → Bool} {gg gg1 : Scope → (Str → Bool) → Expr → Bool} {t t1 : T} {tt tt1 ee : Scope → (Str → Bool) → Expr → Bool} {mi mi1 : Sl → M Ix} {fg fg1 : Val → Sl → M Sl} {fe : Sl → M Val}
    (iI : ∀ tg x, it tg x = true → SI X tg x mi) (iG : ∀ sc cl x, gg sc cl x = true → ∀ X, Gd Y N k X sc cl → SG X x sl fg) (iT : ∀ sc cl x, tt sc cl x = true → ∀ X, Gd Y N k X sc cl → STs X x (evT gl c t))
    (iI1 : ∀ sc cl tg x, it1 sc cl tg x = true → ∀ X, Gd Y N k X sc cl → SI X tg x mi1) (iG1 : ∀ sc cl x, gg1 sc cl x = true → ∀ X, Gd Y N k X sc cl → SG X x sl1 fg1) (iT1 : ∀ sc cl x, tt1 sc cl x = true → ∀ X, Gd Y N k X sc cl → STs X x (evT gl c t1))
    (iE : ∀ sc cl x, ee sc cl x = true → ∀ X, Gd Y N k X sc cl → SE X x fe) :
    ∀ x, kSwp N sc i (kLc2 N sc own sl it gg t.isYes tt vs1 sl1 it1 gg1 t1.isYes tt1 ee) x = true → SS X x (mAsg (mLc2 q mi (own.map (·.2)) fg (evT gl c t) mi1 vs1 fg1 (evT gl c t1) fe) (gNm i)) := by
  intro x h
  cases x with
  | Assign ts e sp =>
    cases ts with
    | cons tg ts =>
      cases ts with
      | nil =>
        cases tg with
        | Name y py =>
          have h : (decide (N[i]? = some y) && decide (sc.names.lookup y = some .local) && kLc2 N sc own sl it gg t.isYes tt vs1 sl1 it1 gg1 t1.isYes tt1 ee e && swpB y py (compS e)) = true := h
          simp only [Bool.and_eq_true, decide_eq_true_eq] at h
          obtain ⟨⟨⟨h1, h2⟩, h3⟩, h4⟩ := h
          have hsw := swpB_on (l := sp.line) g h2 h4
          match e, h3, hsw with
          | .ListComp ex [⟨tg, iter, ifs, ia⟩, ⟨tg1, iter1, ifs1, ia1⟩] scope _, h, hsw =>
            have h : (decide (ia = 0) && blkC N sc scope own && sl.all (fun i => (own.map (·.2)).contains i) && it tg iter && notSet iter && gg (relS scope sc) (clOf scope) tg && ifsB (tt (relS scope sc) (clOf scope)) t.isYes ifs && (decide (ia1 = 0) && sl1.all (fun i => vs1.contains i) && vs1.all (fun i => (own.map (·.2)).contains i) && notSet iter1 && it1 (relS scope sc) (clOf scope) tg1 iter1 && gg1 (relS scope sc) (clOf scope) tg1 && ifsB (tt1 (relS scope sc) (clOf scope)) t1.isYes ifs1 && ee (relS scope sc) (clOf scope) ex)) = true := h
            simp only [Bool.and_eq_true, decide_eq_true_eq] at h
            obtain ⟨⟨⟨⟨⟨⟨⟨rfl, e1⟩, e2⟩, e3⟩, e4⟩, e5⟩, e6⟩, ⟨⟨⟨⟨⟨⟨⟨rfl, e7⟩, e8⟩, e9⟩, e10⟩, e11⟩, e12⟩, e13⟩⟩ := h
            have P := lcP g iI iG iT e1 e2 e3 e4 e5 e6
            exact ss_setLc2 g.calm g.ndX (g.at h1) (by rw [g.hsc]; exact h2) hsw P.hi P.bk P.sub (fun i hi => List.contains_iff_mem.mp (List.all_eq_true.mp e7 i hi)) (fun i hi => List.contains_iff_mem.mp (List.all_eq_true.mp e8 i hi)) P.hg P.ht (fun s H a b f => iI1 _ _ _ _ e10 _ (P.gd s H a b f)) (fun s H a b f => iG1 _ _ _ e11 _ (P.gd s H a b f))
              (fun s H a b f => ifs_ok (fun x hx => iT1 _ _ x hx _ (P.gd s H a b f)) e12) (fun s H a b f => iE _ _ _ e13 _ (P.gd s H a b f)) P.hs (fun env x => set_fold e9 x)
        | _ => cases h
      | _ => cases tg <;> cases h
    | _ => cases h
  | _ => cases h
theorem swaps_at {X : Cx} {e o : Expr} {f : Str} {p : Pos} {l : Nat} : swapsWith e (some (.Attribute o f p)) l X.env = pure false := by
  cases e <;> rfl
theorem k_fset (C : Calls Y k tb gl c) (g : Gd Y N k X sc cl) {Cs : List Str} {f : Str} {fb : Sl → M Val} (iho : ∀ x, a x = true → SE X x fa) (ih : ∀ x, b x = true → SE X x fb) : ∀ x, kFset tb Cs f a b x = true → SS X x (mSetF Cs f fa fb) := by
  intro x h
  cases x with
  | Assign ts e sp =>
    cases ts with
    | cons tg ts =>
      cases ts with
      | nil =>
        cases tg with
        | Attribute eo y py =>
          have h : (decide (y = f) && a eo && b e && fldB tb Cs f) = true := h
          simp only [Bool.and_eq_true, decide_eq_true_eq] at h
          obtain ⟨⟨⟨rfl, h2⟩, h3⟩, h4⟩ := h
          exact ss_fld (fld_ok C g h4) (iho eo h2) (ih e h3) swaps_at
        | _ => cases h
      | _ => cases tg <;> cases h
    | _ => cases h
  | _ => cases h
theorem kSwp_no {i : Nat} (ha : ∀ e, compS e ≠ none → a e = false) : ∀ x, kSwp N sc i a x = true → False := by
  intro x h
  cases x with
  | Assign ts e sp =>
    cases ts with
    | cons tg ts =>
      cases ts with
      | nil =>
        cases tg with
        | Name y py =>
          have h : (decide (N[i]? = some y) && decide (sc.names.lookup y = some .local) && a e && swpB y py (compS e)) = true := h
          simp only [Bool.and_eq_true] at h
          cases q : compS e with
          | none => rw [q] at h; cases h.2
          | some r =>
            have := ha e (by rw [q]; exact fun z => nomatch z)
            rw [this] at h
            cases h.1.2
        | _ => cases h
      | _ => cases tg <;> cases h
    | _ => cases h
  | _ => cases h
theorem k_aug (g : Gd Y N k X sc cl) {i : Nat} {op : Operator} (ih : ∀ x, a x = true → SE X x fa) : ∀ x, kAug N sc cl i op a x = true → SS X x (mAug i (augF op) fa) := by
  intro x h
  cases x with
  | AugAssign tg eop e p0 =>
    cases tg with
    | Name x p1 =>
      have h : (decide (op = eop) && (decide (op = .Add) || decide (op = .Sub)) && decide (N[i]? = some x) && locB sc cl x && a e) = true := h
      simp only [Bool.and_eq_true, Bool.or_eq_true, decide_eq_true_eq] at h
      obtain ⟨⟨⟨⟨rfl, h2⟩, h3⟩, h4⟩, h5⟩ := h
      obtain ⟨l1, l2⟩ := g.loc h4
      exact ss_aug g.ndX (g.at h3) l1 (ih e h5) (aug_ok h2) l2
    | _ => cases h
  | _ => cases h
theorem k_expr (ih : ∀ x, a x = true → SE X x fa) : ∀ x, kExpr a x = true → SS X x (mExpr fa) := by
  intro x h
  cases x with
  | Expr e p0 =>
    have h : (a e && notComp e) = true := h
    rw [Bool.and_eq_true] at h
    exact ss_expr (ih e h.1) (comp_swaps h.2)
  | _ => cases h
theorem k_doc : ∀ x, kDoc x = true → SS X x mPass := by
  intro x h
  cases x with
  | Expr e p0 =>
    cases e with
    | Constant d j p1 =>
      cases d with
      | str d =>
        exact SS.mk ps_doc fun D rl e q => by cases e; exact q _ _ _ _ rl .refl
      | _ => cases h
    | _ => cases h
  | _ => cases h
theorem k_ret (ih : ∀ x, a x = true → SE X x fa) : ∀ x, kRet a x = true → SS X x (mRet fa) := by
  intro x h
  cases x with
  | Return o p0 =>
    cases o with
    | some e =>
      exact ss_ret (ih e h)
    | _ => cases h
  | _ => cases h
theorem k_retN : ∀ x, kRetN x = true → SS X x (mRet (mC .none)) := by
  intro x h
  cases x with
  | Return o p0 =>
    cases o with
    | none =>
      exact ss_retN
    | _ => cases h
  | _ => cases h
theorem k_if {t : Expr → Bool} {p q : List Stmt → Bool} {ft : Sl → M Bool} {fp fq : Sl → M Fl} (iht : ∀ x, t x = true → STs X x ft) (ihp : ∀ x, p x = true → SSs X x fp) (ihq : ∀ x, q x = true → SSs X x fq) : ∀ x, kIf t p q x = true → SS X x (mIf ft fp fq) := by
  intro x h
  cases x with
  | If et ea eb p0 =>
    have h : (t et && p ea && q eb) = true := h
    rw [Bool.and_eq_true, Bool.and_eq_true] at h
    exact ss_if (iht et h.1.1) (ihp ea h.1.2) (ihq eb h.2)
  | _ => cases h
theorem k_for (g : Gd Y N k X sc cl) {t : Expr → Bool} {it : Expr → Expr → Bool} {p : List Stmt → Bool} {sl : List Nat} {mi : Sl → M Ix} {fg : Val → Sl → M Sl} {fp : Sl → M Fl} (ihg : ∀ x, t x = true → SG X x sl fg) (ihi : ∀ tg x, it tg x = true → SI X tg x mi) (ihp : ∀ x, p x = true → SSs X x fp) : ∀ x, kFor t it p x = true → SS X x (mFor mi fg fp) := by
  intro x h
  cases x with
  | For tg iter body els p0 =>
    cases els with
    | nil =>
      have h : (t tg && it tg iter && p body && notSet iter) = true := h
      rw [Bool.and_eq_true, Bool.and_eq_true, Bool.and_eq_true] at h
      exact ss_for g.xe g.calm (ihi tg iter h.1.1.2) (ihg tg h.1.1.1) (ihp body h.1.2) (set_fold h.2)
    | _ => cases h
  | _ => cases h
theorem k_while (g : Gd Y N k X sc cl) {n : Nat} {t : Expr → Bool} {p : List Stmt → Bool} {ft : Sl → M Bool} {fp : Sl → M Fl} (iht : ∀ x, t x = true → STs X x ft) (ihp : ∀ x, p x = true → SSs X x fp) : ∀ x, kWhile t p x = true → SS X x (loopW ft fp n) := by
  intro x h
  cases x with
  | While et body els p0 =>
    cases els with
    | nil =>
      have h : (t et && p body) = true := h
      rw [Bool.and_eq_true] at h
      exact ss_while g.xe (iht et h.1) (ihp body h.2)
    | _ => cases h
  | _ => cases h
theorem k_pass : ∀ x, kPass x = true → SS X x mPass := by
  intro x h
  cases x with
  | Pass p0 =>
    exact ss_pass
  | _ => cases h
theorem k_brk : ∀ x, kBrk x = true → SS X x mBrk := by
  intro x h
  cases x with
  | Break p0 =>
    exact ss_brk
  | _ => cases h
theorem k_cnt : ∀ x, kCnt x = true → SS X x mCnt := by
  intro x h
  cases x with
  | Continue p0 =>
    exact ss_cnt
  | _ => cases h
theorem k_snil : ∀ x, kNil x = true → SSs X x mNil
  | [], h => sss_nil
theorem k_scons {s : Stmt → Bool} {b : List Stmt → Bool} {fs fb : Sl → M Fl} (ih : ∀ x, s x = true → SS X x fs) (ih2 : ∀ x, b x = true → SSs X x fb) : ∀ x, kConsS s b x = true → SSs X x (mSeq fs fb)
  | e :: es, h => by
    have h : (s e && b es) = true := h
    rw [Bool.and_eq_true] at h
    exact sss_cons (ih e h.1) (ih2 es h.2)
end
/-- what stands on the right of a swapped store -/
theorem sndSwp (C : Calls Y k tb gl c) (i : Nat) (a : E) (sc : Scope) (cl : Str → Bool) (x : Stmt) (h : kSwp N sc i (mE tb N a sc cl) x = true) (X : Cx) (g : Gd Y N k X sc cl) : SS X x (mAsg (evE gl c a) (gNm i)) := by
  cases a with
  | lc q own tg it t el => exact k_swpL g (fun tg x hx => sndI C it sc cl tg x hx X g) (fun sc cl x hx X g => sndG C tg sc cl x hx X g) (fun sc cl x hx X g => sndT C t sc cl x hx X g) (fun sc cl x hx X g => sndE C el sc cl x hx X g) x h
  | dc q own tg it t kx vx => exact k_swpD g (fun tg x hx => sndI C it sc cl tg x hx X g) (fun sc cl x hx X g => sndG C tg sc cl x hx X g) (fun sc cl x hx X g => sndT C t sc cl x hx X g) (fun sc cl x hx X g => sndE C kx sc cl x hx X g) (fun sc cl x hx X g => sndE C vx sc cl x hx X g) x h
  | lc2 q own tg it t vs1 tg1 it1 t1 el => exact k_swpL2 g (fun tg x hx => sndI C it sc cl tg x hx X g) (fun sc cl x hx X g => sndG C tg sc cl x hx X g) (fun sc cl x hx X g => sndT C t sc cl x hx X g) (fun sc cl tg x hx X g => sndI C it1 sc cl tg x hx X g) (fun sc cl x hx X g => sndG C tg1 sc cl x hx X g) (fun sc cl x hx X g => sndT C t1 sc cl x hx X g) (fun sc cl x hx X g => sndE C el sc cl x hx X g) x h
  | _ => exact (kSwp_no (fun e he => by cases e <;> first | rfl | exact absurd rfl he) x h).elim
mutual
theorem sndS (C : Calls Y k tb gl c) : ∀ (s : S) (sc : Scope) (cl : Str → Bool) (x : Stmt), mS tb N s sc cl x = true → ∀ X, Gd Y N k X sc cl → SS X x (evS gl c s)
  | .asg t a, sc, cl, x, h, X, g => k_asg (fun x hx => sndG C t sc cl x hx X g) (fun x hx => sndE C a sc cl x hx X g) x h
  | .set i a, sc, cl, x, h, X, g => k_set g (fun x hx => sndE C a sc cl x hx X g) x h
  | .swp i a, sc, cl, x, h, X, g => sndSwp C i a sc cl x h X g
  | .par _ _ _, sc, cl, x, h, X, g => nomatch h
  | .aug i op a, sc, cl, x, h, X, g => k_aug g (fun x hx => sndE C a sc cl x hx X g) x h
  | .expr a, sc, cl, x, h, X, g => k_expr (fun x hx => sndE C a sc cl x hx X g) x h
  | .doc, sc, cl, x, h, X, g => k_doc x h
  | .ret a, sc, cl, x, h, X, g => k_ret (fun x hx => sndE C a sc cl x hx X g) x h
  | .retN, sc, cl, x, h, X, g => k_retN x h
  | .iff t a b, sc, cl, x, h, X, g => k_if (fun x hx => sndT C t sc cl x hx X g) (fun x hx => sndSs C a sc cl x hx X g) (fun x hx => sndSs C b sc cl x hx X g) x h
  | .for t it b, sc, cl, x, h, X, g => k_for g (fun x hx => sndG C t sc cl x hx X g) (fun tg x hx => sndI C it sc cl tg x hx X g) (fun x hx => sndSs C b sc cl x hx X g) x h
  | .while n t b, sc, cl, x, h, X, g => k_while g (fun x hx => sndT C t sc cl x hx X g) (fun x hx => sndSs C b sc cl x hx X g) x h
  | .pass, sc, cl, x, h, X, g => k_pass x h
  | .brk, sc, cl, x, h, X, g => k_brk x h
  | .cnt, sc, cl, x, h, X, g => k_cnt x h
  | .fset Cs f o a, sc, cl, x, h, X, g => k_fset C g (fun x hx => sndE C o sc cl x hx X g) (fun x hx => sndE C a sc cl x hx X g) x h
termination_by structural s => s
theorem sndSs (C : Calls Y k tb gl c) : ∀ (s : Ss) (sc : Scope) (cl : Str → Bool) (x : List Stmt), mSs tb N s sc cl x = true → ∀ X, Gd Y N k X sc cl → SSs X x (evSs gl c s)
  | .nil, sc, cl, x, h, X, g => k_snil x h
  | .cons s b, sc, cl, x, h, X, g => k_scons (fun x hx => sndS C s sc cl x hx X g) (fun x hx => sndSs C b sc cl x hx X g) x h
  | .frz i b, sc, cl, x, h, X, g => sss_frz (sndSs C b sc cl x h X g)
termination_by structural s => s
end

/-! ### a def's frame -/
def mBody (n : Nat) (m : Sl → M Fl) (vs : List Val) : M Val := do
  let f ← m (vs.map some ++ List.replicate (n - vs.length) none)
  match f with
  | .rt v => pure v
  | .nx _ => pure (.d .none)
  | _ => fun _ => none
section
variable {K : PySem.W.Frag} {mh mh' : List Ob} {F F' : Hp} {ρ ρ' : List Addr} {H H' : Hp}
theorem below_den {u : V} {v : Val} {n : Nat} (h : DenV K F ρ' u v) (b : v.below n = true) : DenV K F (ρ'.take n) u v := by
  cases v with
  | d x => exact h
  | ref m =>
    obtain ⟨a, e, r⟩ := h
    exact ⟨a, by rw [List.getElem?_take_of_lt (of_decide_eq_true b)]; exact e, r⟩
theorem below_dens {n : Nat} : ∀ {us : List V} {vs : List Val}, DenVs K F ρ' us vs → vs.all (·.below n) = true → DenVs K F (ρ'.take n) us vs
  | _, _, .nil, _ => .nil
  | _, _, .cons a b, h => by
    rw [List.all_cons, Bool.and_eq_true] at h
    exact .cons (below_den a h.1) (below_dens b h.2)
theorem below_denk {κ : Type} {n : Nat} : ∀ {us : List (κ × V)} {vs : List (κ × Val)}, DenVA K F ρ' us vs → (vs.all fun kv => kv.2.below n) = true → DenVA K F (ρ'.take n) us vs
  | _, _, .nil, _ => .nil
  | _, _, .cons a b, h => by
    rw [List.all_cons, Bool.and_eq_true] at h
    exact .cons ⟨a.1, below_den a.2 h.1⟩ (below_denk b h.2)
theorem den_below {u : V} {v : Val} (h : DenV K F ρ u v) : v.below ρ.length = true := by
  cases v with
  | d x => rfl
  | ref m =>
    obtain ⟨a, e, r⟩ := h
    exact decide_eq_true (List.getElem?_eq_some_iff.mp e).1
theorem dens_below : ∀ {us : List V} {vs : List Val}, DenVs K F ρ us vs → vs.all (·.below ρ.length) = true
  | _, _, .nil => rfl
  | _, _, .cons a b => by rw [List.all_cons, den_below a, dens_below b]; rfl
theorem denk_below {κ : Type} : ∀ {us : List (κ × V)} {vs : List (κ × Val)}, DenVA K F ρ us vs → (vs.all fun kv => kv.2.below ρ.length) = true
  | _, _, .nil => rfl
  | _, _, .cons a b => by rw [List.all_cons, den_below a.2, denk_below b]; rfl
theorem ObD.below {a : Addr} {o : Ob} (h : ObD K F ρ H a o) : o.below ρ.length = true := by
  cases o with
  | lst vs => obtain ⟨_, xs, _, d⟩ := h; exact dens_below d
  | dct vs => obtain ⟨_, xs, _, d⟩ := h; exact denk_below d
  | dead => rfl
  | ins C fs => obtain ⟨_, Ca, dx, us, _, _, d⟩ := h; exact denk_below d
  | dtk vs => obtain ⟨_, xs, _, d⟩ := h; exact denk_below d
theorem ObD.cut {a : Addr} {o : Ob} {n : Nat} (h : ObD K F ρ' H a o) (b : o.below n = true) : ObD K F (ρ'.take n) H a o := by
  cases o with
  | lst vs => obtain ⟨z, xs, e, d⟩ := h; exact ⟨z, xs, e, below_dens d b⟩
  | dct vs => obtain ⟨z, xs, e, d⟩ := h; exact ⟨z, xs, e, below_denk d b⟩
  | dead => exact h
  | ins C fs => obtain ⟨z, Ca, dx, us, n', e, d⟩ := h; exact ⟨z, Ca, dx, us, n', e, below_denk d b⟩
  | dtk vs => obtain ⟨z, xs, e, d⟩ := h; exact ⟨z, xs, e, below_denk d b⟩
theorem vbelow_mono {n m : Nat} (h : n ≤ m) {v : Val} (b : v.below n = true) : v.below m = true := by
  cases v with
  | d x => rfl
  | ref k =>
    have : k < n := of_decide_eq_true b
    exact decide_eq_true (by omega)
theorem below_mono {n m : Nat} (h : n ≤ m) {o : Ob} (b : o.below n = true) : o.below m = true := by
  cases o with
  | lst vs =>
    have b : vs.all (·.below n) = true := b
    show vs.all (·.below m) = true
    rw [List.all_eq_true] at b ⊢
    exact fun v hv => vbelow_mono h (b v hv)
  | dct vs =>
    have b : (vs.all fun kv => kv.2.below n) = true := b
    show (vs.all fun kv => kv.2.below m) = true
    rw [List.all_eq_true] at b ⊢
    exact fun v hv => vbelow_mono h (b v hv)
  | dead => rfl
  | ins C vs =>
    have b : (vs.all fun kv => kv.2.below n) = true := b
    show (vs.all fun kv => kv.2.below m) = true
    rw [List.all_eq_true] at b ⊢
    exact fun v hv => vbelow_mono h (b v hv)
  | dtk vs =>
    have b : (vs.all fun kv => kv.2.below n) = true := b
    show (vs.all fun kv => kv.2.below m) = true
    rw [List.all_eq_true] at b ⊢
    exact fun v hv => vbelow_mono h (b v hv)
theorem cutOk_get : ∀ {n : Nat} {os os' : List Ob} {m : Nat} {o o' : Ob}, cutOk n os os' → os[m]? = some o → os'[m]? = some o' → o' = o ∨ o'.below n = true
  | _, [], _, _, _, _, _, e, _ => by simp at e
  | _, _ :: _, [], _, _, _, h, _, _ => h.elim
  | _, o :: os, o' :: os', 0, _, _, h, e1, e2 => by
    simp at e1 e2
    subst e1 e2
    exact h.1
  | _, o :: os, o' :: os', m + 1, _, _, h, e1, e2 => cutOk_get (m := m) h.2 (by simpa using e1) (by simpa using e2)
theorem keepN_le (n : Nat) (v : Val) : n ≤ keepN n v := by
  cases v with
  | d x => exact Nat.le_refl _
  | ref m => show n ≤ (if m < n then n else m + 1); split <;> omega
theorem keepN_below (n : Nat) (v : Val) : v.below (keepN n v) = true := by
  cases v with
  | d x => rfl
  | ref m =>
    refine decide_eq_true ?_
    show m < (if m < n then n else m + 1)
    split <;> omega
theorem Wd.back (w : Wd K mh F ρ H) (w' : Wd K mh' F' ρ' H') (g : Gr F ρ H F' ρ' H') {n : Nat} (hn : mh.length ≤ n) (h : cutOk n mh mh') (h2 : ((mh'.take n).drop mh.length).all (·.below n) = true) : Wd K (mh'.take n) F' (ρ'.take n) H' ∧ Gr F ρ H F' (ρ'.take n) H' := by
  have pre : ρ <+: ρ'.take n := by
    obtain ⟨t, rfl⟩ := g.pre
    rw [List.take_append, List.take_of_length_le (by rw [w.len]; exact hn)]
    exact List.prefix_append _ _
  refine ⟨w'.cut n fun m o hm e1 a e2 => (w'.cell m a o e2 e1).cut ?_, ⟨g.rd, pre, fun a o q1 q2 q3 => let ⟨a1, a2, a3⟩ := g.fr a o q1 q2 q3; ⟨a1, a2, fun z => a3 (List.mem_of_mem_take z)⟩⟩⟩
  by_cases h1 : m < mh.length
  · rcases cutOk_get h (List.getElem?_eq_getElem h1) e1 with q | q
    · rw [q]
      have hmρ : m < ρ.length := by rw [w.len]; exact h1
      have b := (w.cell m _ _ (List.getElem?_eq_getElem hmρ) (List.getElem?_eq_getElem h1)).below
      rw [w.len] at b
      exact below_mono hn b
    · exact q
  · have hmem : o ∈ (mh'.take n).drop mh.length := by
      refine List.mem_iff_getElem?.mpr ⟨m - mh.length, ?_⟩
      rw [List.getElem?_drop, show mh.length + (m - mh.length) = m by omega, List.getElem?_take_of_lt hm]
      exact e1
    exact List.all_eq_true.mp h2 o hmem
end
/-- a def's frame; or none: all that it made stays -/
noncomputable def frameK (kp : Bool) (f : List Val → M Val) : List Val → M Val := match kp with
  | true => f
  | false => frame f
theorem frameK_some {kp : Bool} {f : List Val → M Val} {vs : List Val} {mh mh' : List Ob} {v : Val} (h : frameK kp f vs mh = some (v, mh')) : ∃ mh1, f vs mh = some (v, mh1) ∧ ((kp = true ∧ mh' = mh1) ∨ (mh' = mh1.take (keepN mh.length v) ∧ cutOk (keepN mh.length v) mh mh1 ∧ ((mh1.take (keepN mh.length v)).drop mh.length).all (·.below (keepN mh.length v)) = true)) := by
  cases kp with
  | true => exact ⟨mh', h, .inl ⟨rfl, rfl⟩⟩
  | false =>
    have h : frame f vs mh = some (v, mh') := h
    unfold frame at h
    cases e1 : f vs mh with
    | none => rw [e1] at h; cases h
    | some r =>
      obtain ⟨v1, mh1⟩ := r
      rw [e1] at h
      simp only at h
      split at h
      · rename_i hb
        have ev : v1 = v ∧ mh1.take (keepN mh.length v1) = mh' := by simpa using h
        obtain ⟨rfl, rfl⟩ := ev
        exact ⟨mh1, rfl, .inr ⟨rfl, hb.1, hb.2⟩⟩
      · cases h
/-- a def of the text, by its body -/
theorem def_ok {x qual : Str} {st : Stmt} {addr : Addr} {fd : FuncData} {ps : List Str} {b : Ss} {kp : Bool} (hgd : Y.gd = false) (C : Calls Y k tb gl c) (F : Fun Y.K x qual st addr fd) (S : FnScope N ps (defScope st)) (h : mSs tb N b (defScope st) (fun _ => true) (defBody st) = true) :
    FnOk Y.P Y.w Y.K Y.mg Y.base L2.CX0 (k + 2) addr fd ps (spF Y.K ps.length (frameK kp (mBody N.length (evSs gl c b)))) := by
  refine F.ok S (fun vs H Q E h => h.1) (fun cdv A outer s H us Q E hr hq => ?_)
  obtain ⟨hl, mh, Fz, ρ, vs, v, mh', w, d, e, q⟩ := hq
  obtain ⟨mh1, e1, hk⟩ := frameK_some e
  obtain ⟨f, mh2, e2, e3⟩ := M.bind_some.mp e1
  have G : Gd Y N k (cxOf L2.CX0 Y.P Y.w Y.K Y.mg Y.base N qual (defScope st) addr cdv A outer s H E).nox (defScope st) (fun _ => true) :=
    ⟨rfl, rfl, rfl, rfl, rfl, rfl, S.nd, rfl, hr, rfl, S.kind, fun _ _ => rfl, rfl, fun z => by rw [hgd] at z; cases z⟩
  refine ⟨_, sndSs C b _ _ _ h _ G, vs.map some ++ List.replicate (N.length - vs.length) none, mh, Fz, ρ, f, mh2, ?_, e2, ?_⟩
  · refine ⟨w, ?_, fun i v hv => ?_⟩
    · unfold L2.start
      rw [List.length_append, List.length_append, List.length_map, List.length_map, List.length_replicate, List.length_replicate, d.length]
    · unfold L2.start
      by_cases hi : i < vs.length
      · rw [List.getElem?_append_left (by rw [List.length_map]; exact hi), List.getElem?_map] at hv
        obtain ⟨v', h1, h2⟩ := Option.map_eq_some_iff.mp hv
        cases h2
        obtain ⟨u, h3, h4⟩ := d.get h1
        refine ⟨u, ?_, h4⟩
        rw [List.getElem?_append_left (by rw [List.length_map, d.length]; exact hi), List.getElem?_map, h3]
        rfl
      · rw [List.getElem?_append_right (by rw [List.length_map]; omega)] at hv
        have := List.mem_of_getElem? hv
        rw [List.mem_replicate] at this
        cases this.2
  · have fin : ∀ F' ρ' H' u, Wd Y.K mh1 F' ρ' H' → Gr Fz ρ H F' ρ' H' → DenV Y.K F' ρ' u v → Q u H' := fun F' ρ' H' u w' g' d' => by
      rcases hk with ⟨_, rfl⟩ | ⟨rfl, hb1, hb2⟩
      · exact q F' _ H' u w' g' d'
      · obtain ⟨w2, g2⟩ := w.back w' g' (keepN_le _ _) hb1 hb2
        exact q F' _ H' u w2 g2 (below_den d' (keepN_below _ _))
    cases f with
    | rt v => cases e3; exact fin
    | nx env' => cases e3; exact fun F' ρ' σ' H' r g' => fin F' ρ' H' _ r.wd g' Den.non
    | bk _ => cases e3
    | ct _ => cases e3
end
end Pv

/-! PQ: the law's own def, walked with no code guarded around it (for repr) -/
namespace Pv
open PySem PySem.Spec PyProof.Rows L2
structure FnOkG (P : Program) (w : World) (K : PySem.W.Frag) (mg : Str → Option Value) (base : Heap) (CX : CXT) (k : Nat) (f : Addr) (fd : FuncData) (ps : List Str) (sp : Sp) : Prop where
  run : ∀ (A : Around) (outer : List Env) (s : Shared) (H : Hp) (args : Args) (us : List Value) (vs : List V) (Q : VK) (E : XK), Room k A → A.guards = some [] → Env0 P w K mg base A outer s H →
    BindsTo s fd args (ps.zip us) → Vals vs us → sp vs H Q E → codeAny (model P w) A (.call (.ref f) args) (CR CX outer P w H s Q E) s
theorem law_callG {P : Program} {w : World} {K : PySem.W.Frag} {mg mb : Str → Option Value} {CX : CXT} {k : Nat} {fa a : Addr} {fd : FuncData} {x : Str} {sp : Sp} {s₁ : Shared} {vs : List Value} {ns : List Int}
    (KX : K.In s₁.heap) (hns : s₁.heap.Ns mainGlobals mg) (hb : s₁.heap.Ns builtinsNs mb) (hbb : ∀ x : Str, x ≠ Str.ofString "__name__" → mb x = bootBuiltins x) (hlim : s₁.heap.NoLimit) (hg : s₁.gens = #[])
    (ha : s₁.heap.get? a = some { cls := .type "list", data := .seq vs.toArray }) (hi : IntsAre vs ns) (hl : ns.length ≤ sizeLine) (hr : Room k callerA)
    (F : ∀ base : Heap, K.In base → base.Ns mainGlobals mg → FnOkG P w K mg base CX k fa fd [x] sp) (hbind : ∀ (s : Shared) (u : Value), BindsTo s fd { pos := [u] } [(x, u)])
    (hsp : ∀ H : Hp, Only H → SqL K H a (ns.map V.int) → sp [V.ref a] H (fun v _ => v = .bl true) fun _ _ _ => False)
    (hCX : ∀ (H : Hp) (e : Value) (s' : Shared), CX [] H s₁ (fun _ _ _ => False) e s' → False) :
    codeAny (model P w) callerA (.call (.ref fa) { pos := [.ref a] }) (fun r s' => r = .ok (.ret (.bool true)) ∧ OldK s₁.heap s'.heap ∧ s'.os = s₁.os ∧ AllBare s'.gens) s₁ := by
  have rv := vals_ints hi
  have lenV := IntsAre.length hi
  have core : ∀ H : Hp, Only H → SqL K H a (ns.map V.int) → HOk P w H s₁.heap → (∀ b, H b ≠ none → b = a) → (H a ≠ none → List.lookup a K = none) →
      codeAny (model P w) callerA (.call (.ref fa) { pos := [.ref a] }) (fun r s' => r = .ok (.ret (.bool true)) ∧ OldK s₁.heap s'.heap ∧ s'.os = s₁.os ∧ AllBare s'.gens) s₁ := by
    intro H hO hS hok hA hK
    have base_of : ∀ {b o}, s₁.heap.get? b = some o → H b = none → (hidT s₁.heap H).get? b = some o := fun e n => hidT_get e n
    have noA : ∀ {b o es ep}, s₁.heap.get? b = some o → o.data = .dict es ep → H b = none := by
      intro b o es ep e d
      cases q : H b with
      | none => rfl
      | some u =>
        have e' := hA b (by rw [q]; simp)
        subst e'
        rw [ha] at e
        cases e
        cases d
    have nsK : ∀ {b m}, s₁.heap.Ns b m → (hidT s₁.heap H).Ns b m := fun x => by
      obtain ⟨o, es, ep, e, d, r⟩ := x
      exact ⟨o, es, ep, base_of e (noA e d), d, r⟩
    have hKb : K.In (hidT s₁.heap H) := fun b o e => base_of (KX b o e) (by
      cases q : H b with
      | none => rfl
      | some u =>
        have e' := hA b (by rw [q]; simp)
        subst e'
        have h2 := hK (by rw [q]; simp)
        have e : List.lookup b K = some o := e
        rw [h2] at e
        cases e)
    have hM : Mod K mg (hidT s₁.heap H) := ⟨hKb, nsK hns, ⟨mb, nsK hb, hbb⟩, by obtain ⟨mc, h1, h2⟩ := hlim; exact ⟨mc, nsK h1, h2⟩⟩
    have e0 : Env0 P w K mg (hidT s₁.heap H) callerA [] s₁ H := ⟨rfl, hM, fun b o e => of_hidT e, Nat.le_of_eq (hidT_size s₁.heap H), trivial, fun b hb => absurd hb List.not_mem_nil, hok, AllBare.of_eq hg⟩
    refine codeAny_mono ((F _ hKb (nsK hns)).run callerA [] s₁ H _ [.ref a] [.ref a] (fun v _ => v = .bl true) (fun _ _ _ => False) hr rfl e0 (hbind s₁ (.ref a)) (.cons rfl .nil) (hsp H hO hS)) ?_
    intro r s' h
    cases r with
    | error e => exact (hCX H e s' h).elim
    | ok fl =>
      cases fl with
      | ret u =>
        obtain ⟨v, H', os, bare, un, hok', r', q⟩ := h
        have q : v = .bl true := q
        subst q
        have r' : u = .bool true := r'
        subst r'
        refine ⟨rfl, OldK.of_keep fun b o e => ?_, os, bare⟩
        cases q : H b with
        | none => exact un.keep b o e q List.not_mem_nil List.not_mem_nil
        | some u =>
          rcases hO b with z | ⟨ob, xs, z⟩
          · rw [q] at z; cases z
          · have z2 := un.frzs b ob (.lst xs) z
            obtain ⟨e1, _⟩ := hok b _ z
            obtain ⟨e2, _⟩ := hok' b _ z2
            rw [e] at e1; cases e1
            exact e2
      | _ => exact h.elim
  cases hk : List.lookup a K with
  | none =>
    refine core (fun b => if b = a then some (.frz { cls := .type "list", data := .seq vs.toArray } (.lst (ns.map V.int))) else none) (fun b => ?_) (.inl (.inr ⟨_, if_pos rfl⟩)) (fun b u z => ?_) (fun b z => ?_) fun _ => hk
    · by_cases hb : b = a
      · exact .inr ⟨_, _, if_pos hb⟩
      · exact .inl (if_neg hb)
    · by_cases hb : b = a
      · subst hb
        have z' := (if_pos rfl).symm.trans z
        cases z'
        exact ⟨ha, by rw [List.length_map]; exact hl, vs, 0, rv, ha⟩
      · have z' := (if_neg hb).symm.trans z
        cases z'
    · by_cases hb : b = a
      · exact hb
      · exact absurd (if_neg hb) z
  | some o =>
    have e := KX a o hk
    rw [ha] at e
    cases e
    exact core (fun _ => none) (fun _ => .inl rfl) (.inr ⟨_, vs.toArray, 0, hk, rfl, rfl, rfl, by rw [List.size_toArray, lenV]; exact hl, rv⟩) (fun b u z => by cases z) (fun b z => absurd rfl z) fun z => absurd rfl z
theorem walk_ofG {l : PySem.W.OpenLaw} {n k : Nat} {q : Program} {loose : List Str} {XP : (Str → Option Value) → Heap → Prop} {YP : World → Heap → Prop} {d : DefRec} {K : Params → PySem.W.Frag} {CX : World → CXT} {sp : World → Sp} {x : Str}
    (hn : l.most = some n) (hn2 : n ≤ sizeLine) (hdf : d.params.defaults = []) (hr : Room k callerA) (hY : ∀ (w : World) (h : Heap), YP w h → (K w.params).In h)
    (F : ∀ (w : World) (mg : Str → Option Value) (fa : Addr) (h : Heap), (K w.params).In h → h.Ns mainGlobals mg → mg d.name = some (.ref fa) →
      ∃ fd, (∀ (s : Shared) (u : Value), BindsTo s fd { pos := [u] } [(x, u)]) ∧ ∀ base : Heap, (K w.params).In base → base.Ns mainGlobals mg → FnOkG l.prog w (K w.params) mg base (CX w) k fa fd [x] (sp w))
    (hsp : ∀ (w : World) (H : Hp) (a : Addr) (ns : List Int), ns.length ≤ n → Only H → SqL (K w.params) H a (ns.map V.int) → sp w [V.ref a] H (fun v _ => v = .bl true) fun _ _ _ => False)
    (hCX : ∀ (w : World) (H : Hp) (s : Shared) (e : Value) (s' : Shared), CX w [] H s (fun _ _ _ => False) e s' → False) :
    PySem.W.WalkO q loose XP YP l.row.toRowW d [] fun f vs => call f vs :=
  Att.attach_call hn hdf fun w s₀ s₁ mg mb fa o pm cd doc a vs ns G Y ho hd hcd hmg hobj hints hlen hg => by
    have KX := hY w s₁.heap Y
    obtain ⟨fd, hb, hF⟩ := F w mg fa s₁.heap KX G.T.g hmg
    exact law_callG KX G.T.g G.T.b G.T.builtins G.T.nolimit hg hobj hints (Nat.le_trans hlen hn2) hr hF hb (fun H hO hS => hsp w H a ns hlen hO hS) fun H e s' => hCX w H s₁ e s'
/-- one run of a written def (as the kit's fn_of, for one place only) -/
theorem fn_run {CX : CXT} {P : Program} {w : World} {K : PySem.W.Frag} {mg : Str → Option Value} {base : Heap} {k : Nat} {f : Addr} {name qual : Str} {params : Arguments} {body : List Stmt} {scope : Scope} {dV kV doc pm cdv ct oc : Value}
    {an od : Option Addr} {osl : Array (Option Value)} {N ps : List Str} {A : Around} {outer : List Env} {s : Shared} {H : Hp} {args : Args} {us : List Value} {vs : List V} {Q : VK} {E : XK}
    (lk : List.lookup f K = some { cls := oc, dict := od, data := .func (PySem.W.fnOf name qual params body scope dV kV doc pm an cdv ct), slots := osl }) (hcd : PySem.W.codeIn K cdv qual = true) (S : FnScope N ps scope) (hl : vs.length = ps.length)
    (hr : Room (k + 1) A) (e0 : Env0 P w K mg base A outer s H) (hb : BindsTo s (PySem.W.fnOf name qual params body scope dV kV doc pm an cdv ct) args (ps.zip us)) (r : Vals vs us)
    (hbody : Room k (A.deeper (envOfC qual scope s.heap.objs.size f cdv)) → ∃ t, PSs (cxOf CX P w K mg base N qual scope f cdv A outer s H E) body t ∧ t { nx := fun _ H' => Q V.non H', rt := Q } (L2.start N vs) H) :
    codeAny (model P w) A (.call (.ref f) args) (CR CX outer P w H s Q E) s := by
  have KX := PySem.W.Frag.In.keeps e0.mod.kin fun b o e => (e0.bs b o e).1
  have lim := Heap.NoLimit.keeps e0.mod.nolimit fun b o e => (e0.bs b o e).1
  refine codeAny_call_function (Room.depth hr) (KX f _ lk) rfl S.co S.gen rfl (PySem.W.codeRec_of KX hcd) (hb (model P w) A.in1 (fun e s' => CR CX outer P w H s Q E (.error e) s') _ ?_)
  refine wpAny_newFunctionEnv_cells S.kind (fun p hy => (S.par p.1 (List.of_mem_zip hy).1).elim (fun q => Or.inl q) fun q => Or.inr ⟨q, PySem.W.cellsFrom_some scope.names (s.heap.objs.size + 1) [] (Or.inl q)⟩) fun env he s1 x => ?_
  subst he
  refine ⟨Heap.NoLimit.keeps lim x.toInCall.keep, codeAny_func ?_⟩
  obtain ⟨t, ht, hq⟩ := hbody (Room.deeper hr (envOfC qual scope s.heap.objs.size f cdv))
  have I := inv_start (CX := CX) (E := E) S hr.hd e0 hl r x
  refine wpAny_mono (ht.run [] s1 (L2.start N vs) H { nx := fun _ H' => Q V.non H', rt := Q } I hq) (fun fl s' hs => ?_) fun e s' hs => hs
  cases fl with
  | ret u =>
    obtain ⟨v, σ', H', J, rv, q⟩ := hs
    exact ⟨v, H', J.os, J.bare, J.base, J.hok, rv, q⟩
  | next =>
    obtain ⟨σ', H', J, q⟩ := hs
    exact ⟨V.non, H', J.os, J.bare, J.base, J.hok, rfl, q⟩
  | _ =>
    obtain ⟨_, _, _, q⟩ := hs
    exact q.elim
end Pv

/-! P13: a program of defs; the last of them is the law's own -/
namespace Pv
open PySem PySem.Spec PyProof.Rows L2

/-- a def: of the module (fn), or a method (qn: the name with the class); kp: what it makes stays -/
structure Df where
  name : Str
  ps : List Str
  N : List Str
  body : Ss
  kp : Bool := false
  fn : Bool := true
  qn : Str := name
abbrev Pg := List Df
noncomputable def callP (P : Pg) (gl : List (Str × Dt)) : Nat → Nat → List Val → M Val
  | 0, _, _ => fun _ => none
  | k + 1, f, vs => match P[f]? with
    | some d => frameK d.kp (mBody d.N.length (evSs gl (callP P gl k) d.body)) vs
    | none => fun _ => none
def Df.cn (d : Df) : Str := match d.fn with
  | true => d.name
  | false => "__debug__"
def tbOf (P : Pg) (bs : List Str) (gl : List (Str × Dt)) (gq rq : Bool) (cs : List Cd) : Tb := ⟨P.dropLast.map fun d => (d.cn, d.ps.length), bs, gl.map (·.1), rq, gq, cs⟩
/-- the def d stands in the written part, with the text st -/
structure DefAt (Y : Wx) (tb : Tb) (d : Df) (st : Stmt) (addr : Addr) (fd : FuncData) : Prop where
  at_ : Fun Y.K d.name d.qn st addr fd
  bn : Binds Y.K fd d.ps []
  sc : FnScope d.N d.ps (defScope st)
  txt : mSs tb d.N d.body (defScope st) (fun _ => true) (defBody st) = true
structure ProgOk (Y : Wx) (P : Pg) (bs : List Str) (gl : List (Str × Dt)) (gq : Bool) (cs : List Cd) : Prop where
  df : ∀ (f : Nat) (d : Df), P.dropLast[f]? = some d → d.fn = true → ∃ st addr fd, DefAt Y (tbOf P bs gl gq false cs) d st addr fd ∧ Y.mg d.name = some (.ref addr)
  bi : ∀ x ∈ bs, Y.mg x = none
  gls : ∀ (j : Nat) (x : Str) (d : Dt), gl[j]? = some (x, d) → ∃ (v : V) (u : Value), Y.mg x = some u ∧ RelV v u ∧ ∀ F, Den Y.K F v d
  gqs : gq = true → Y.mg "gcd" = some (.builtin "math.gcd")
  cl : ∀ cd ∈ cs, ∃ Ca : Addr, ClAt Y.K cd.nm Ca ∧ Y.mg cd.nm = some (.ref Ca) ∧ Cls Y.K Ca ∧ (∀ f ∈ cd.flds, NoAttr Y.K Ca f) ∧
    (∀ p ∈ cd.ms, ∃ d st addr fd, P.dropLast[p.2.1]? = some d ∧ DefAt Y (tbOf P bs gl gq false cs) d st addr fd ∧ Meth Y.K Ca p.1 addr ∧ d.ps.length = p.2.2) ∧
    (∀ p, cd.init = some p → ∃ d st addr fd, P.dropLast[p.1]? = some d ∧ DefAt Y (tbOf P bs gl gq false cs) d st addr fd ∧ Mk Y.K Ca addr ∧ d.ps.length = p.2)
section
variable {Y : Wx} {P : Pg} {bs : List Str} {gl : List (Str × Dt)} {gq : Bool} {cs : List Cd}
theorem drop_get {f : Nat} {d : Df} (h : P.dropLast[f]? = some d) : P[f]? = some d := by
  rw [List.dropLast_eq_take] at h
  have h1 := (List.getElem?_eq_some_iff.mp h).1
  rw [List.length_take] at h1
  rwa [List.getElem?_take_of_lt (by omega)] at h
theorem calls_mk {Y : Wx} (O : ProgOk Y P bs gl gq cs) {k : Nat} {rq : Bool} (hr : rq = true → Y.gd = true) {K : Nat} (ih : ∀ (f : Nat) (d : Df), P.dropLast[f]? = some d → ∀ (st : Stmt) (addr : Addr) (fd : FuncData), DefAt Y (tbOf P bs gl gq false cs) d st addr fd →
    FnOk Y.P Y.w Y.K Y.mg Y.base L2.CX0 K addr fd d.ps (spF Y.K d.ps.length (callP P gl k f))) : Calls Y K (tbOf P bs gl gq rq cs) gl (callP P gl k) := by
  refine ⟨fun f' x n hf hn => ?_, O.bi, fun j x hx => ?_, hr, O.gqs, fun cd hcd => ?_⟩
  · have hf : (P.dropLast.map fun d => (d.cn, d.ps.length))[f']? = some (x, n) := hf
    rw [List.getElem?_map] at hf
    obtain ⟨d', h1, h2⟩ := Option.map_eq_some_iff.mp hf
    cases h2
    cases hfn : d'.fn with
    | false =>
      have : d'.cn = "__debug__" := by unfold Df.cn; rw [hfn]
      rw [this] at hn
      exact absurd hn (by decide +kernel)
    | true =>
      have : d'.cn = d'.name := by unfold Df.cn; rw [hfn]
      rw [this]
      obtain ⟨st', addr', fd', D', hm'⟩ := O.df f' d' h1 hfn
      exact ⟨addr', fd', d'.ps, rfl, ih f' d' h1 st' addr' fd' D', hm', D'.at_.kp, D'.bn⟩
  · have hx : (gl.map (·.1))[j]? = some x := hx
    rw [List.getElem?_map] at hx
    obtain ⟨p, h1, h2⟩ := Option.map_eq_some_iff.mp hx
    subst h2
    obtain ⟨v, u, h3, h4, h5⟩ := O.gls j p.1 p.2 h1
    exact ⟨p.2, v, u, h1, h3, h4, h5⟩
  · obtain ⟨Ca, a1, a2, a3, a4, a5, a6⟩ := O.cl cd hcd
    refine ⟨Ca, a1, a2, a3, a4, fun p hp => ?_, fun p hp => ?_⟩
    · obtain ⟨d, st, addr, fd, b1, b2, b3, b4⟩ := a5 p hp
      exact ⟨addr, fd, d.ps, b3, ih _ d b1 st addr fd b2, b2.bn, b4⟩
    · obtain ⟨d, st, addr, fd, b1, b2, b3, b4⟩ := a6 p hp
      exact ⟨addr, fd, d.ps, b3, ih _ d b1 st addr fd b2, b2.bn, b4⟩
theorem callP_ok (O : ProgOk Y P bs gl gq cs) (hgd : Y.gd = false) : ∀ (k f : Nat) (d : Df), P.dropLast[f]? = some d → ∀ (st : Stmt) (addr : Addr) (fd : FuncData), DefAt Y (tbOf P bs gl gq false cs) d st addr fd →
    FnOk Y.P Y.w Y.K Y.mg Y.base L2.CX0 (2 * k) addr fd d.ps (spF Y.K d.ps.length (callP P gl k f))
  | 0, f, d, hd, st, addr, fd, D => by
    refine ⟨fun vs H Q E h => h.1, fun A outer s H args us vs Q E hr he hb hv hs => ?_⟩
    obtain ⟨_, mh, Fz, ρ, vs', v, mh', w, dd, e, q⟩ := hs
    cases e
  | k + 1, f, d, hd, st, addr, fd, D => by
    have C : Calls Y (2 * k) (tbOf P bs gl gq false cs) gl (callP P gl k) := calls_mk (rq := false) O (fun z => nomatch z) fun f' d' h1 st' addr' fd' D' => callP_ok O hgd k f' d' h1 st' addr' fd' D'
    have := def_ok (kp := d.kp) hgd C D.at_ D.sc D.txt
    refine FnOk.imp this fun vs H Q E h => ?_
    obtain ⟨hl, mh, Fz, ρ, vs', v, mh', w, dd, e, q⟩ := h
    refine ⟨hl, mh, Fz, ρ, vs', v, mh', w, dd, ?_, q⟩
    have e : (match P[f]? with
      | some d => frameK d.kp (mBody d.N.length (evSs gl (callP P gl k) d.body)) vs'
      | none => fun _ => none : M Val) mh = some (v, mh') := e
    rw [drop_get hd] at e
    exact e
/-- the law's promise -/
def spLaw (K : PySem.W.Frag) : Sp := fun vs H Q _ => ∃ (a : Addr) (ns : List Int), vs = [.ref a] ∧ SqL K H a (ns.map V.int) ∧ ns.length ≤ 63 ∧ ∀ H', Q (.bl true) H'
theorem den_ints {K : PySem.W.Frag} {F : Hp} : ∀ ns : List Int, DenAll K F (ns.map V.int) (ns.map PyData.int)
  | [] => .nil
  | n :: ns => .cons (.int n) (den_ints ns)
theorem law_okG (O : ProgOk Y P bs gl gq cs) (hgd : Y.gd = false) {k f : Nat} {d : Df} (hd : P[f]? = some d) {addr : Addr} {fd : FuncData} {st : Stmt} (hps : d.ps = ([Str.ofString "script"] : List Str)) (F : Fun Y.K d.name d.qn st addr fd) (S : FnScope d.N d.ps (defScope st)) (m : mSs (tbOf P bs gl gq true cs) d.N d.body (defScope st) (fun _ => true) (defBody st) = true)
    (law : ∀ ns : List Int, ns.length ≤ 63 → ∃ mh', callP P gl (k + 1) f [.d (.list (ns.map PyData.int))] [] = some (.d (.bool true), mh')) :
    FnOkG Y.P Y.w Y.K Y.mg Y.base L2.CX0 (2 * (k + 1)) addr fd ([Str.ofString "script"] : List Str) (spLaw Y.K) := by
  refine ⟨fun A outer s H args us vs Q E hr hg e0 hb hv hs => ?_⟩
  obtain ⟨a, ns, rfl, hS, hl, q⟩ := hs
  obtain ⟨mh', e⟩ := law ns hl
  obtain ⟨oc, od, kV, doc, pm, an, cdv, ct, osl, rfl, lk, hcd⟩ := F.ex
  have hbx : Env0 Y.P Y.w Y.K Y.mg Y.base A outer s H := e0
  refine fn_run (k := 2 * k + 1) lk hcd S (by rw [hps]; rfl) (by rw [show 2 * k + 1 + 1 = 2 * (k + 1) by omega]; exact hr) e0 (by rw [hps]; exact hb) hv fun hr2 => ?_
  have e : (match P[f]? with
    | some d => frameK d.kp (mBody d.N.length (evSs gl (callP P gl k) d.body)) [.d (.list (ns.map PyData.int))]
    | none => fun _ => none : M Val) [] = some (.d (.bool true), mh') := e
  rw [hd] at e
  simp only at e
  let Y' : Wx := ⟨Y.P, Y.w, Y.K, Y.mg, Y.base, true⟩
  have cv : ∀ {d st addr fd}, DefAt Y (tbOf P bs gl gq false cs) d st addr fd → DefAt Y' (tbOf P bs gl gq false cs) d st addr fd := fun h => ⟨h.1, h.2, h.3, h.4⟩
  have vc : ∀ {d st addr fd}, DefAt Y' (tbOf P bs gl gq false cs) d st addr fd → DefAt Y (tbOf P bs gl gq false cs) d st addr fd := fun h => ⟨h.1, h.2, h.3, h.4⟩
  have O' : ProgOk Y' P bs gl gq cs := ⟨fun f d h hf => let ⟨st, addr, fd, h1, h2⟩ := O.df f d h hf; ⟨st, addr, fd, cv h1, h2⟩, O.bi, O.gls, O.gqs, fun cd hcd => by
    obtain ⟨Ca, a1, a2, a3, a4, a5, a6⟩ := O.cl cd hcd
    refine ⟨Ca, a1, a2, a3, a4, fun p hp => ?_, fun p hp => ?_⟩
    · obtain ⟨d, st, addr, fd, b1, b2, b3, b4⟩ := a5 p hp
      exact ⟨d, st, addr, fd, b1, cv b2, b3, b4⟩
    · obtain ⟨d, st, addr, fd, b1, b2, b3, b4⟩ := a6 p hp
      exact ⟨d, st, addr, fd, b1, cv b2, b3, b4⟩⟩
  have C : Calls Y' (2 * k) (tbOf P bs gl gq true cs) gl (callP P gl k) := calls_mk O' (fun _ => rfl) fun f' d' h1 st' addr' fd' D' => callP_ok O hgd k f' d' h1 st' addr' fd' (vc D')
  obtain ⟨mh1, e1, _⟩ := frameK_some e
  obtain ⟨fl, mh2, e2, e3⟩ := M.bind_some.mp e1
  have G : Gd Y' d.N (2 * k) (cxOf L2.CX0 Y.P Y.w Y.K Y.mg Y.base d.N d.qn (defScope st) addr cdv A outer s H E).nox (defScope st) (fun _ => true) :=
    ⟨rfl, rfl, rfl, rfl, rfl, rfl, S.nd, rfl, hr2, rfl, S.kind, fun _ _ => rfl, rfl, fun _ => hg⟩
  have w : Wd Y.K [] H [] H := ⟨fun _ _ h => h, rfl, List.nodup_nil, fun n a o h => by simp at h, fun n a o h => by simp at h⟩
  have dv : DenVs Y.K H [] [V.ref a] [.d (.list (ns.map PyData.int))] := .cons (show DenV Y.K H [] (V.ref a) (.d (.list (ns.map PyData.int))) from Den.lst hS (by rw [List.length_map]; exact Nat.le_trans hl (by decide)) (den_ints ns)) .nil
  refine ⟨_, PSs.nox (sndSs C d.body _ _ _ m _ G), [some (.d (.list (ns.map PyData.int)))] ++ List.replicate (d.N.length - 1) none, [], H, [], fl, mh2, ?_, e2, ?_⟩
  · refine ⟨w, ?_, fun i v hv => ?_⟩
    · unfold L2.start
      simp
    · unfold L2.start
      by_cases hi : i < 1
      · have : i = 0 := by omega
        subst this
        simp at hv
        subst hv
        exact ⟨V.ref a, rfl, (dv.get (i := 0) rfl).elim fun u hu => by obtain ⟨h1, h2⟩ := hu; cases h1; exact h2⟩
      · rw [List.getElem?_append_right (by simp; omega)] at hv
        have := List.mem_of_getElem? hv
        rw [List.mem_replicate] at this
        cases this.2
  · have fin : ∀ F' ρ' H' u, Wd Y.K mh1 F' ρ' H' → Gr H [] H F' ρ' H' → DenV Y.K F' ρ' u (.d (.bool true)) → Q u H' := fun F' ρ' H' u w' g' d' => by
      rw [den_bl d']
      exact q H'
    cases fl with
    | rt v => cases e3; exact fin
    | nx env' => cases e3
    | bk _ => cases e3
    | ct _ => cases e3
end
end Pv

/-! P14: what the evaluator does, read backwards from what is wanted -/
namespace Pv
open PySem PySem.Spec PyProof.Rows L2
/-- what is left of a goal by its rule -/
class Wp (G : Prop) (P : outParam Prop) : Prop where
  prf : P → G

open PySem PySem.Spec PyProof.Rows L2

def W {α : Type} (m : M α) (mh : List Ob) (Q : α → List Ob → Prop) : Prop := ∃ a mh', m mh = some (a, mh') ∧ Q a mh'
theorem W.mono {α : Type} {m : M α} {mh : List Ob} {Q R : α → List Ob → Prop} (h : W m mh Q) (k : ∀ a mh', Q a mh' → R a mh') : W m mh R := by
  obtain ⟨a, mh', e, q⟩ := h
  exact ⟨a, mh', e, k _ _ q⟩
theorem W.bind {α β : Type} {x : M α} {f : α → M β} {mh : List Ob} {Q : β → List Ob → Prop} (h : W x mh fun a mh1 => W (f a) mh1 Q) : W (x >>= f) mh Q := by
  obtain ⟨a, mh1, e1, b, mh2, e2, q⟩ := h
  exact ⟨b, mh2, M.bind_some.mpr ⟨a, mh1, e1, e2⟩, q⟩
theorem W.pure {α : Type} {a : α} {mh : List Ob} {Q : α → List Ob → Prop} (h : Q a mh) : W (pure a : M α) mh Q := ⟨a, mh, rfl, h⟩
theorem W.rd {α : Type} {f : List Ob → Option α} {mh : List Ob} {Q : α → List Ob → Prop} (h : ∃ a, f mh = some a ∧ Q a mh) : W (rdM f) mh Q := by
  obtain ⟨a, e, q⟩ := h
  exact ⟨a, mh, rdM_some.mpr ⟨e, rfl⟩, q⟩
theorem W.ofO {α : Type} {o : Option α} {mh : List Ob} {Q : α → List Ob → Prop} (h : ∃ a, o = some a ∧ Q a mh) : W (Pv.ofO o) mh Q := by
  obtain ⟨a, e, q⟩ := h
  exact ⟨a, mh, ofO_some.mpr ⟨e, rfl⟩, q⟩
/-- a result that is to be made -/
def WR (k : Bool) (o : Option Rv) (mh : List Ob) (Q : Val → List Ob → Prop) : Prop := ∃ r, o = some r ∧ W (finR k r) mh Q
section
variable {k : Bool} {o : Option Rv} {mh : List Ob} {Q : Val → List Ob → Prop}
theorem wr_v {x : Val} (e : o = some (.v x)) (h : Q x mh) : WR false o mh Q := ⟨_, e, W.pure h⟩
theorem wr_nl {ds : List Dt} (e : o = some (.nl (ds.map Val.d))) (h : Q (.d (.list ds)) mh) : WR false o mh Q :=
  ⟨_, e, W.ofO ⟨_, by rw [asDs_map]; rfl, h⟩⟩
theorem wr_cell {vs : List Val} (e : o = some (.nl vs)) (h : Q (.ref mh.length) (mh ++ [.lst vs])) : WR true o mh Q := ⟨_, e, ⟨_, _, rfl, h⟩⟩
theorem wr_dcell {kvs : List (Key × Val)} (e : o = some (.nd kvs)) (h : Q (.ref mh.length) (mh ++ [.dct kvs])) : WR true o mh Q := ⟨_, e, ⟨_, _, rfl, h⟩⟩
theorem wr_nd {kvs : List (Key × Val)} {ds : List (Dt × Dt)} (e : o = some (.nd kvs)) (e2 : asDKs kvs = some ds) (h : Q (.d (.dict ds)) mh) : WR false o mh Q :=
  ⟨_, e, W.ofO ⟨_, by rw [e2]; rfl, h⟩⟩
end
section
variable {gl : List (Str × Dt)} {c : Nat → List Val → M Val} {env : Sl} {mh : List Ob} {Q : Val → List Ob → Prop}
theorem we_slot {i : Nat} {v : Val} (h : env.getD i none = some v) (q : Q v mh) : W (evE gl c (.slot i) env) mh Q := W.ofO ⟨_, h, q⟩
theorem we_k {x : Kc} (q : Q (.d x.d) mh) : W (evE gl c (.k x) env) mh Q := W.pure q
theorem we_glob {j : Nat} {x : Str} {d : Dt} (h : gl[j]? = some (x, d)) (q : Q (.d d) mh) : W (evE gl c (.glob j) env) mh Q := W.ofO ⟨.d d, by rw [h]; rfl, q⟩
theorem we_neg {a : E} (h : W (evE gl c a env) mh fun v mh1 => ∃ i, v = .d (.int i) ∧ Q (.d (.int (-i))) mh1) : W (evE gl c (.neg a) env) mh Q :=
  W.bind (h.mono fun v mh1 ⟨i, e, q⟩ => by subst e; exact W.ofO ⟨_, rfl, q⟩)
instance i_we_neg {a : E} : Wp (W (evE gl c (.neg a) env) mh Q) (W (evE gl c a env) mh fun v mh1 => ∃ i, v = .d (.int i) ∧ Q (.d (.int (-i))) mh1) := ⟨fun h => we_neg h⟩
theorem we_nt {a : E} (h : W (evE gl c a env) mh fun v mh1 => ∃ b, v = .d (.bool b) ∧ Q (.d (.bool (!b))) mh1) : W (evE gl c (.nt a) env) mh Q :=
  W.bind (h.mono fun v mh1 ⟨i, e, q⟩ => by subst e; exact W.ofO ⟨_, rfl, q⟩)
instance i_we_nt {a : E} : Wp (W (evE gl c (.nt a) env) mh Q) (W (evE gl c a env) mh fun v mh1 => ∃ b, v = .d (.bool b) ∧ Q (.d (.bool (!b))) mh1) := ⟨fun h => we_nt h⟩
theorem we_bin {op : Operator} {k : Bool} {a b : E} (h : W (evE gl c a env) mh fun x mh1 => W (evE gl c b env) mh1 fun y mh2 => WR k (binF op mh2 x y) mh2 Q) : W (evE gl c (.bin op k a b) env) mh Q :=
  W.bind (h.mono fun x mh1 h1 => W.bind (h1.mono fun y mh2 ⟨r, e, w⟩ => W.bind (W.rd ⟨r, e, w⟩)))
instance i_we_bin {op : Operator} {k : Bool} {a b : E} : Wp (W (evE gl c (.bin op k a b) env) mh Q) (W (evE gl c a env) mh fun x mh1 => W (evE gl c b env) mh1 fun y mh2 => WR k (binF op mh2 x y) mh2 Q) := ⟨fun h => we_bin h⟩
theorem we_cmp {op : CmpOp} {a b : E} (h : W (evE gl c a env) mh fun x mh1 => W (evE gl c b env) mh1 fun y mh2 => WR false (cmpF op mh2 x y) mh2 Q) : W (evE gl c (.cmp op a b) env) mh Q :=
  W.bind (h.mono fun x mh1 h1 => W.bind (h1.mono fun y mh2 ⟨r, e, w⟩ => W.bind (W.rd ⟨r, e, w⟩)))
instance i_we_cmp {op : CmpOp} {a b : E} : Wp (W (evE gl c (.cmp op a b) env) mh Q) (W (evE gl c a env) mh fun x mh1 => W (evE gl c b env) mh1 fun y mh2 => WR false (cmpF op mh2 x y) mh2 Q) := ⟨fun h => we_cmp h⟩
theorem we_one {a : E} (h : W (evE gl c a env) mh Q) : W (evE gl c (.one a) env) mh Q := h
instance i_we_one {a : E} : Wp (W (evE gl c (.one a) env) mh Q) (W (evE gl c a env) mh Q) := ⟨fun h => we_one h⟩
theorem we_and {a b : E} (h : W (evE gl c a env) mh fun x mh1 => ∃ p, x = .d (.bool p) ∧ (p = true → W (evE gl c b env) mh1 Q) ∧ (p = false → Q (.d (.bool false)) mh1)) : W (evE gl c (.and2 a b) env) mh Q :=
  W.bind (h.mono fun x mh1 ⟨p, e, q1, q2⟩ => by subst e; cases p; exact W.pure (q2 rfl); exact q1 rfl)
instance i_we_and {a b : E} : Wp (W (evE gl c (.and2 a b) env) mh Q) (W (evE gl c a env) mh fun x mh1 => ∃ p, x = .d (.bool p) ∧ (p = true → W (evE gl c b env) mh1 Q) ∧ (p = false → Q (.d (.bool false)) mh1)) := ⟨fun h => we_and h⟩
theorem we_or {a b : E} (h : W (evE gl c a env) mh fun x mh1 => ∃ p, x = .d (.bool p) ∧ (p = false → W (evE gl c b env) mh1 Q) ∧ (p = true → Q (.d (.bool true)) mh1)) : W (evE gl c (.or2 a b) env) mh Q :=
  W.bind (h.mono fun x mh1 ⟨p, e, q1, q2⟩ => by subst e; cases p; exact q1 rfl; exact W.pure (q2 rfl))
instance i_we_or {a b : E} : Wp (W (evE gl c (.or2 a b) env) mh Q) (W (evE gl c a env) mh fun x mh1 => ∃ p, x = .d (.bool p) ∧ (p = false → W (evE gl c b env) mh1 Q) ∧ (p = true → Q (.d (.bool true)) mh1)) := ⟨fun h => we_or h⟩
theorem we_ife {t : T} {a b : E} (h : W (evT gl c t env) mh fun x mh1 => (x = true → W (evE gl c a env) mh1 Q) ∧ (x = false → W (evE gl c b env) mh1 Q)) : W (evE gl c (.ife t a b) env) mh Q :=
  W.bind (h.mono fun x mh1 ⟨q1, q2⟩ => by cases x; exact q2 rfl; exact q1 rfl)
/-- arguments -/
def WA (gl : List (Str × Dt)) (c : Nat → List Val → M Val) (as : As) (env : Sl) (mh : List Ob) (Q : List Val → List Ob → Prop) : Prop := W (mArgs (evAs gl c as) env) mh Q
theorem wa_nil {Q : List Val → List Ob → Prop} (q : Q [] mh) : WA gl c .nil env mh Q := W.pure q
instance i_wa_nil {Q : List Val → List Ob → Prop} : Wp (WA gl c .nil env mh Q) (Q [] mh) := ⟨fun h => wa_nil h⟩
theorem wa_cons {a : E} {as : As} {Q : List Val → List Ob → Prop} (h : W (evE gl c a env) mh fun v mh1 => WA gl c as env mh1 fun vs mh2 => Q (v :: vs) mh2) : WA gl c (.cons a as) env mh Q :=
  W.bind (h.mono fun v mh1 h1 => W.bind (W.mono h1 fun vs mh2 q => W.pure q))
instance i_wa_cons {a : E} {as : As} {Q : List Val → List Ob → Prop} : Wp (WA gl c (.cons a as) env mh Q) (W (evE gl c a env) mh fun v mh1 => WA gl c as env mh1 fun vs mh2 => Q (v :: vs) mh2) := ⟨fun h => wa_cons h⟩
theorem we_tup {as : As} (h : WA gl c as env mh fun vs mh1 => ∃ ds, asDs vs = some ds ∧ ds.length ≤ sizeLine ∧ Q (.d (.tuple ds)) mh1) : W (evE gl c (.tup as) env) mh Q :=
  W.bind (W.mono h fun vs mh1 ⟨ds, e, hl, q⟩ => W.ofO ⟨_, by rw [e]; exact if_pos hl, q⟩)
instance i_we_tup {as : As} : Wp (W (evE gl c (.tup as) env) mh Q) (WA gl c as env mh fun vs mh1 => ∃ ds, asDs vs = some ds ∧ ds.length ≤ sizeLine ∧ Q (.d (.tuple ds)) mh1) := ⟨fun h => we_tup h⟩
theorem we_lst {k : Bool} {as : As} (h : WA gl c as env mh fun vs mh1 => vs.length ≤ sizeLine ∧ WR k (some (.nl vs)) mh1 Q) : W (evE gl c (.lst k as) env) mh Q :=
  W.bind (W.mono h fun vs mh1 ⟨hl, r, e, w⟩ => by cases e; rw [if_pos hl]; exact w)
instance i_we_lst {k : Bool} {as : As} : Wp (W (evE gl c (.lst k as) env) mh Q) (WA gl c as env mh fun vs mh1 => vs.length ≤ sizeLine ∧ WR k (some (.nl vs)) mh1 Q) := ⟨fun h => we_lst h⟩
theorem we_dict0 {k : Bool} (h : WR k (some (.nd [])) mh Q) : W (evE gl c (.dict0 k) env) mh Q := by
  obtain ⟨r, e, w⟩ := h
  cases e
  exact w
instance i_we_dict0 {k : Bool} : Wp (W (evE gl c (.dict0 k) env) mh Q) (WR k (some (.nd [])) mh Q) := ⟨fun h => we_dict0 h⟩
theorem we_ix {a b : E} (h : W (evE gl c a env) mh fun x mh1 => W (evE gl c b env) mh1 fun y mh2 => ∃ v, ixVl mh2 x y = some v ∧ Q v mh2) : W (evE gl c (.ix a b) env) mh Q :=
  W.bind (h.mono fun x mh1 h1 => W.bind (h1.mono fun y mh2 h2 => W.rd h2))
instance i_we_ix {a b : E} : Wp (W (evE gl c (.ix a b) env) mh Q) (W (evE gl c a env) mh fun x mh1 => W (evE gl c b env) mh1 fun y mh2 => ∃ v, ixVl mh2 x y = some v ∧ Q v mh2) := ⟨fun h => we_ix h⟩
/-- a bound of a slice -/
def WO (gl : List (Str × Dt)) (c : Nat → List Val → M Val) (e : E) (env : Sl) (mh : List Ob) (Q : Option Int → List Ob → Prop) : Prop := W (mOpt e.isAbs (evE gl c e) env) mh Q
theorem wo_none {Q : Option Int → List Ob → Prop} (q : Q none mh) : WO gl c .absent env mh Q := W.pure q
instance i_wo_none {Q : Option Int → List Ob → Prop} : Wp (WO gl c .absent env mh Q) (Q none mh) := ⟨fun h => wo_none h⟩
theorem wo_some {e : E} {Q : Option Int → List Ob → Prop} (ha : e.isAbs = false) (h : W (evE gl c e env) mh fun v mh1 => ∃ i, v = .d (.int i) ∧ Q (some i) mh1) : WO gl c e env mh Q := by
  unfold WO
  rw [ha]
  exact W.bind (h.mono fun v mh1 ⟨i, e, q⟩ => by subst e; exact W.ofO ⟨_, rfl, q⟩)
theorem we_sl {k : Bool} {a lo hi : E} (h : W (evE gl c a env) mh fun x mh1 => WO gl c lo env mh1 fun l mh2 => WO gl c hi env mh2 fun r mh3 => WR k (slVl mh3 x l r) mh3 Q) : W (evE gl c (.sl k a lo hi) env) mh Q :=
  W.bind (h.mono fun x mh1 h1 => W.bind (W.mono h1 fun l mh2 h2 => W.bind (W.mono h2 fun u mh3 ⟨r, e, w⟩ => W.bind (W.rd ⟨r, e, w⟩))))
instance i_we_sl {k : Bool} {a lo hi : E} : Wp (W (evE gl c (.sl k a lo hi) env) mh Q) (W (evE gl c a env) mh fun x mh1 => WO gl c lo env mh1 fun l mh2 => WO gl c hi env mh2 fun r mh3 => WR k (slVl mh3 x l r) mh3 Q) := ⟨fun h => we_sl h⟩
theorem we_call {f : Nat} {as : As} (h : WA gl c as env mh fun vs mh1 => W (c f vs) mh1 Q) : W (evE gl c (.call f as) env) mh Q := W.bind h
instance i_we_call {f : Nat} {as : As} : Wp (W (evE gl c (.call f as) env) mh Q) (WA gl c as env mh fun vs mh1 => W (c f vs) mh1 Q) := ⟨fun h => we_call h⟩
theorem we_bi {b : Bi} {k : Bool} {as : As} (h : WA gl c as env mh fun vs mh1 => WR k (b.f mh1 vs) mh1 Q) : W (evE gl c (.bi b k as) env) mh Q :=
  W.bind (W.mono h fun vs mh1 ⟨r, e, w⟩ => W.bind (W.rd ⟨r, e, w⟩))
instance i_we_bi {b : Bi} {k : Bool} {as : As} : Wp (W (evE gl c (.bi b k as) env) mh Q) (WA gl c as env mh fun vs mh1 => WR k (b.f mh1 vs) mh1 Q) := ⟨fun h => we_bi h⟩
theorem we_isin {t : String} {a : E} (h : W (evE gl c a env) mh fun x mh1 => ∃ ty, tyVal mh1 x = some ty ∧ Q (.d (.bool (isIn ty t))) mh1) : W (evE gl c (.isin t a) env) mh Q :=
  W.bind (h.mono fun x mh1 ⟨ty, e, q⟩ => W.rd ⟨_, by rw [e]; rfl, q⟩)
instance i_we_isin {t : String} {a : E} : Wp (W (evE gl c (.isin t a) env) mh Q) (W (evE gl c a env) mh fun x mh1 => ∃ ty, tyVal mh1 x = some ty ∧ Q (.d (.bool (isIn ty t))) mh1) := ⟨fun h => we_isin h⟩
theorem we_rev {k : Bool} {a : E} (h : W (evE gl c a env) mh fun x mh1 => ∃ vs, seqL mh1 x = some vs ∧ WR k (some (.nl vs.reverse)) mh1 Q) : W (evE gl c (.rev k a) env) mh Q :=
  W.bind (h.mono fun x mh1 ⟨vs, e, r, e2, w⟩ => W.bind (W.rd ⟨vs, e, by cases e2; exact w⟩))
instance i_we_rev {k : Bool} {a : E} : Wp (W (evE gl c (.rev k a) env) mh Q) (W (evE gl c a env) mh fun x mh1 => ∃ vs, seqL mh1 x = some vs ∧ WR k (some (.nl vs.reverse)) mh1 Q) := ⟨fun h => we_rev h⟩
theorem we_meth {m : Mt} {o : E} {as : As} (h : W (evE gl c o env) mh fun x mh1 => rcv m.ty x mh1 = true ∧ WA gl c as env mh1 fun vs mh2 => W (m.f x vs) mh2 Q) : W (evE gl c (.meth m o as) env) mh Q :=
  W.bind (h.mono fun x mh1 ⟨h1, h2⟩ => W.bind (W.rd ⟨_, rfl, by rw [h1]; exact W.bind h2⟩))
instance i_we_meth {m : Mt} {o : E} {as : As} : Wp (W (evE gl c (.meth m o as) env) mh Q) (W (evE gl c o env) mh fun x mh1 => rcv m.ty x mh1 = true ∧ WA gl c as env mh1 fun vs mh2 => W (m.f x vs) mh2 Q) := ⟨fun h => we_meth h⟩
/-- a walk over things -/
def WI (gl : List (Str × Dt)) (c : Nat → List Val → M Val) (it : I) (env : Sl) (mh : List Ob) (Q : Ix → List Ob → Prop) : Prop := W (evI gl c it env) mh Q
theorem wi_val {a : E} {Q : Ix → List Ob → Prop} (h : W (evE gl c a env) mh fun v mh1 => ∃ ix, ixOf mh1 v = some ix ∧ Q ix mh1) : WI gl c (.val a) env mh Q :=
  W.bind (h.mono fun v mh1 h1 => W.rd h1)
instance i_wi_val {a : E} {Q : Ix → List Ob → Prop} : Wp (WI gl c (.val a) env mh Q) (W (evE gl c a env) mh fun v mh1 => ∃ ix, ixOf mh1 v = some ix ∧ Q ix mh1) := ⟨fun h => wi_val h⟩
theorem wi_range1 {as : As} {Q : Ix → List Ob → Prop} (h : WA gl c as env mh fun vs mh1 => ∃ ix, rng1 vs = some ix ∧ Q ix mh1) : WI gl c (.range1 as) env mh Q :=
  W.bind (W.mono h fun v mh1 h1 => W.ofO h1)
instance i_wi_range1 {as : As} {Q : Ix → List Ob → Prop} : Wp (WI gl c (.range1 as) env mh Q) (WA gl c as env mh fun vs mh1 => ∃ ix, rng1 vs = some ix ∧ Q ix mh1) := ⟨fun h => wi_range1 h⟩
theorem wi_range2 {as : As} {Q : Ix → List Ob → Prop} (h : WA gl c as env mh fun vs mh1 => ∃ ix, rng2 vs = some ix ∧ Q ix mh1) : WI gl c (.range2 as) env mh Q :=
  W.bind (W.mono h fun v mh1 h1 => W.ofO h1)
instance i_wi_range2 {as : As} {Q : Ix → List Ob → Prop} : Wp (WI gl c (.range2 as) env mh Q) (WA gl c as env mh fun vs mh1 => ∃ ix, rng2 vs = some ix ∧ Q ix mh1) := ⟨fun h => wi_range2 h⟩
theorem wi_zip {as : As} {Q : Ix → List Ob → Prop} (h : WA gl c as env mh fun vs mh1 => ∃ ix, zip2 mh1 vs = some ix ∧ Q ix mh1) : WI gl c (.zip as) env mh Q :=
  W.bind (W.mono h fun v mh1 h1 => W.rd h1)
instance i_wi_zip {as : As} {Q : Ix → List Ob → Prop} : Wp (WI gl c (.zip as) env mh Q) (WA gl c as env mh fun vs mh1 => ∃ ix, zip2 mh1 vs = some ix ∧ Q ix mh1) := ⟨fun h => wi_zip h⟩
theorem wi_zip3 {as : As} {Q : Ix → List Ob → Prop} (h : WA gl c as env mh fun vs mh1 => ∃ ix, zip3 vs = some ix ∧ Q ix mh1) : WI gl c (.zip3 as) env mh Q :=
  W.bind (W.mono h fun v mh1 h1 => W.ofO h1)
instance i_wi_zip3 {as : As} {Q : Ix → List Ob → Prop} : Wp (WI gl c (.zip3 as) env mh Q) (WA gl c as env mh fun vs mh1 => ∃ ix, zip3 vs = some ix ∧ Q ix mh1) := ⟨fun h => wi_zip3 h⟩
theorem wi_enumT {as : As} {Q : Ix → List Ob → Prop} (h : WA gl c as env mh fun vs mh1 => ∃ ix, enumV vs = some ix ∧ Q ix mh1) : WI gl c (.enumT as) env mh Q :=
  W.bind (W.mono h fun v mh1 h1 => W.ofO h1)
instance i_wi_enumT {as : As} {Q : Ix → List Ob → Prop} : Wp (WI gl c (.enumT as) env mh Q) (WA gl c as env mh fun vs mh1 => ∃ ix, enumV vs = some ix ∧ Q ix mh1) := ⟨fun h => wi_enumT h⟩
/-- a comprehension's turns -/
def WC {α : Type} (gl : List (Str × Dt)) (c : Nat → List Val → M Val) (g : G) (t : T) (el : Sl → M α) (env : Sl) (ix : Ix) (mh : List Ob) (Q : List α → List Ob → Prop) : Prop :=
  W (loopC ix.g (evG gl c g) (evT gl c t) el env ix.items) mh Q
theorem we_lc {k : Bool} {own : List (Str × Nat)} {g : G} {it : I} {t : T} {el : E} (h : WI gl c it env mh fun ix mh1 => WC gl c g t (evE gl c el) (wipeE env (own.map (·.2))) ix mh1 fun ys mh2 => WR k (some (.nl ys)) mh2 Q) : W (evE gl c (.lc k own g it t el) env) mh Q :=
  W.bind (W.mono h fun ix mh1 h1 => W.bind (W.mono h1 fun ys mh2 ⟨r, e, w⟩ => by cases e; exact w))
instance i_we_lc {k : Bool} {own : List (Str × Nat)} {g : G} {it : I} {t : T} {el : E} : Wp (W (evE gl c (.lc k own g it t el) env) mh Q) (WI gl c it env mh fun ix mh1 => WC gl c g t (evE gl c el) (wipeE env (own.map (·.2))) ix mh1 fun ys mh2 => WR k (some (.nl ys)) mh2 Q) := ⟨fun h => we_lc h⟩
theorem we_dc {k : Bool} {own : List (Str × Nat)} {g : G} {it : I} {t : T} {kx vx : E} (h : WI gl c it env mh fun ix mh1 => WC gl c g t (mKv (evE gl c kx) (evE gl c vx)) (wipeE env (own.map (·.2))) ix mh1 fun ys mh2 => WR k (some (.nd (mergeV [] ys))) mh2 Q) : W (evE gl c (.dc k own g it t kx vx) env) mh Q :=
  W.bind (W.mono h fun ix mh1 h1 => W.bind (W.mono h1 fun ys mh2 ⟨r, e, w⟩ => by cases e; exact w))
instance i_we_dc {k : Bool} {own : List (Str × Nat)} {g : G} {it : I} {t : T} {kx vx : E} : Wp (W (evE gl c (.dc k own g it t kx vx) env) mh Q) (WI gl c it env mh fun ix mh1 => WC gl c g t (mKv (evE gl c kx) (evE gl c vx)) (wipeE env (own.map (·.2))) ix mh1 fun ys mh2 => WR k (some (.nd (mergeV [] ys))) mh2 Q) := ⟨fun h => we_dc h⟩
theorem w_kv {kx vx : E} {Q : Key × Val → List Ob → Prop} (h : W (evE gl c kx env) mh fun y mh1 => W (evE gl c vx env) mh1 fun z mh2 => ∃ k, keyVl y = some k ∧ Q (k, z) mh2) : W (mKv (evE gl c kx) (evE gl c vx) env) mh Q :=
  W.bind (h.mono fun y mh1 h1 => W.bind (h1.mono fun z mh2 ⟨k, e, q⟩ => W.bind (W.ofO ⟨k, e, W.pure q⟩)))
instance i_w_kv {kx vx : E} {Q : Key × Val → List Ob → Prop} : Wp (W (mKv (evE gl c kx) (evE gl c vx) env) mh Q) (W (evE gl c kx env) mh fun y mh1 => W (evE gl c vx env) mh1 fun z mh2 => ∃ k, keyVl y = some k ∧ Q (k, z) mh2) := ⟨fun h => w_kv h⟩
/-! tests -/
def WT (gl : List (Str × Dt)) (c : Nat → List Val → M Val) (t : T) (env : Sl) (mh : List Ob) (Q : Bool → List Ob → Prop) : Prop := W (evT gl c t env) mh Q
theorem wt_yes {Q : Bool → List Ob → Prop} (q : Q true mh) : WT gl c .yes env mh Q := W.pure q
instance i_wt_yes {Q : Bool → List Ob → Prop} : Wp (WT gl c .yes env mh Q) (Q true mh) := ⟨fun h => wt_yes h⟩
theorem wt_cmp {op : CmpOp} {a b : E} {Q : Bool → List Ob → Prop} (h : W (evE gl c a env) mh fun x mh1 => W (evE gl c b env) mh1 fun y mh2 => ∃ r, cmpF op mh2 x y = some (.v (.d (.bool r))) ∧ Q r mh2) : WT gl c (.cmp op a b) env mh Q :=
  W.bind (h.mono fun x mh1 h1 => W.bind (h1.mono fun y mh2 ⟨r, e, q⟩ => W.rd ⟨r, by rw [e]; rfl, q⟩))
instance i_wt_cmp {op : CmpOp} {a b : E} {Q : Bool → List Ob → Prop} : Wp (WT gl c (.cmp op a b) env mh Q) (W (evE gl c a env) mh fun x mh1 => W (evE gl c b env) mh1 fun y mh2 => ∃ r, cmpF op mh2 x y = some (.v (.d (.bool r))) ∧ Q r mh2) := ⟨fun h => wt_cmp h⟩
theorem wt_tru {a : E} {Q : Bool → List Ob → Prop} (h : W (evE gl c a env) mh fun x mh1 => ∃ r, truVl mh1 x = some r ∧ Q r mh1) : WT gl c (.tru a) env mh Q :=
  W.bind (h.mono fun x mh1 h1 => W.rd h1)
instance i_wt_tru {a : E} {Q : Bool → List Ob → Prop} : Wp (WT gl c (.tru a) env mh Q) (W (evE gl c a env) mh fun x mh1 => ∃ r, truVl mh1 x = some r ∧ Q r mh1) := ⟨fun h => wt_tru h⟩
theorem wt_nt {t : T} {Q : Bool → List Ob → Prop} (h : WT gl c t env mh fun r mh1 => Q (!r) mh1) : WT gl c (.nt t) env mh Q :=
  W.bind (W.mono h fun x mh1 h1 => W.pure h1)
instance i_wt_nt {t : T} {Q : Bool → List Ob → Prop} : Wp (WT gl c (.nt t) env mh Q) (WT gl c t env mh fun r mh1 => Q (!r) mh1) := ⟨fun h => wt_nt h⟩
theorem wt_one {t : T} {Q : Bool → List Ob → Prop} (h : WT gl c t env mh Q) : WT gl c (.one t) env mh Q := h
instance i_wt_one {t : T} {Q : Bool → List Ob → Prop} : Wp (WT gl c (.one t) env mh Q) (WT gl c t env mh Q) := ⟨fun h => wt_one h⟩
theorem wt_and {a b : T} {Q : Bool → List Ob → Prop} (h : WT gl c a env mh fun x mh1 => (x = true → WT gl c b env mh1 Q) ∧ (x = false → Q false mh1)) : WT gl c (.and2 a b) env mh Q :=
  W.bind (W.mono h fun x mh1 ⟨q1, q2⟩ => by cases x; exact W.pure (q2 rfl); exact q1 rfl)
instance i_wt_and {a b : T} {Q : Bool → List Ob → Prop} : Wp (WT gl c (.and2 a b) env mh Q) (WT gl c a env mh fun x mh1 => (x = true → WT gl c b env mh1 Q) ∧ (x = false → Q false mh1)) := ⟨fun h => wt_and h⟩
theorem wt_or {a b : T} {Q : Bool → List Ob → Prop} (h : WT gl c a env mh fun x mh1 => (x = false → WT gl c b env mh1 Q) ∧ (x = true → Q true mh1)) : WT gl c (.or2 a b) env mh Q :=
  W.bind (W.mono h fun x mh1 ⟨q1, q2⟩ => by cases x; exact q1 rfl; exact W.pure (q2 rfl))
instance i_wt_or {a b : T} {Q : Bool → List Ob → Prop} : Wp (WT gl c (.or2 a b) env mh Q) (WT gl c a env mh fun x mh1 => (x = false → WT gl c b env mh1 Q) ∧ (x = true → Q true mh1)) := ⟨fun h => wt_or h⟩
theorem we_ifeT {t : T} {a b : E} (h : WT gl c t env mh fun x mh1 => (x = true → W (evE gl c a env) mh1 Q) ∧ (x = false → W (evE gl c b env) mh1 Q)) : W (evE gl c (.ife t a b) env) mh Q := we_ife h
instance i_we_ifeT {t : T} {a b : E} : Wp (W (evE gl c (.ife t a b) env) mh Q) (WT gl c t env mh fun x mh1 => (x = true → W (evE gl c a env) mh1 Q) ∧ (x = false → W (evE gl c b env) mh1 Q)) := ⟨fun h => we_ifeT h⟩
/-! targets -/
def WG (gl : List (Str × Dt)) (c : Nat → List Val → M Val) (g : G) (v : Val) (env : Sl) (mh : List Ob) (Q : Sl → List Ob → Prop) : Prop := W (evG gl c g v env) mh Q
def WGs (gl : List (Str × Dt)) (c : Nat → List Val → M Val) (g : Gs) (ds : List Val) (env : Sl) (mh : List Ob) (Q : Sl → List Ob → Prop) : Prop := W (evGs gl c g ds env) mh Q
theorem wg_nm {i : Nat} {v : Val} {Q : Sl → List Ob → Prop} (q : Q (env.set i (some v)) mh) : WG gl c (.nm i) v env mh Q := W.pure q
instance i_wg_nm {i : Nat} {v : Val} {Q : Sl → List Ob → Prop} : Wp (WG gl c (.nm i) v env mh Q) (Q (env.set i (some v)) mh) := ⟨fun h => wg_nm h⟩
theorem wg_seq {n : Nat} {gs : Gs} {v : Val} {vs : List Val} {Q : Sl → List Ob → Prop} (hs : seqA mh v = some vs) (hn : vs.length = n) (q : WGs gl c gs vs env mh Q) : WG gl c (.tp n gs) v env mh Q := by
  obtain ⟨e, mh', h1, h2⟩ := q
  refine ⟨e, mh', ?_, h2⟩
  show (match seqA mh v with | some vs => if vs.length = n then evGs gl c gs vs env mh else none | none => none) = _
  rw [hs]
  simp only
  rw [if_pos hn]
  exact h1
theorem wg_tp {n : Nat} {gs : Gs} {ds : List Dt} {Q : Sl → List Ob → Prop} (hn : ds.length = n) (q : WGs gl c gs (ds.map Val.d) env mh Q) : WG gl c (.tp n gs) (.d (.tuple ds)) env mh Q :=
  wg_seq rfl (by rw [List.length_map]; exact hn) q
theorem wg_tl {n : Nat} {gs : Gs} {ds : List Dt} {Q : Sl → List Ob → Prop} (hn : ds.length = n) (q : WGs gl c gs (ds.map Val.d) env mh Q) : WG gl c (.tp n gs) (.d (.list ds)) env mh Q :=
  wg_seq rfl (by rw [List.length_map]; exact hn) q
theorem wg_tc {n a : Nat} {gs : Gs} {vs : List Val} {Q : Sl → List Ob → Prop} (he : mh[a]? = some (.lst vs)) (hn : vs.length = n) (q : WGs gl c gs vs env mh Q) : WG gl c (.tp n gs) (.ref a) env mh Q :=
  wg_seq (by show cellL mh a = _; unfold cellL; rw [he]) hn q
theorem wgs_nilD {Q : Sl → List Ob → Prop} (q : Q env mh) : WGs gl c .nil (([] : List Dt).map Val.d) env mh Q := W.pure q
instance i_wgs_nilD {Q : Sl → List Ob → Prop} : Wp (WGs gl c .nil (([] : List Dt).map Val.d) env mh Q) (Q env mh) := ⟨fun h => wgs_nilD h⟩
theorem wgs_consD {g : G} {gs : Gs} {d : Dt} {ds : List Dt} {Q : Sl → List Ob → Prop} (q : WG gl c g (.d d) env mh fun e mh1 => WGs gl c gs (ds.map Val.d) e mh1 Q) : WGs gl c (.cons g gs) ((d :: ds).map Val.d) env mh Q := W.bind q
instance i_wgs_consD {g : G} {gs : Gs} {d : Dt} {ds : List Dt} {Q : Sl → List Ob → Prop} : Wp (WGs gl c (.cons g gs) ((d :: ds).map Val.d) env mh Q) (WG gl c g (.d d) env mh fun e mh1 => WGs gl c gs (ds.map Val.d) e mh1 Q) := ⟨fun h => wgs_consD h⟩
theorem wgs_nil {Q : Sl → List Ob → Prop} (q : Q env mh) : WGs gl c .nil [] env mh Q := W.pure q
instance i_wgs_nil {Q : Sl → List Ob → Prop} : Wp (WGs gl c .nil [] env mh Q) (Q env mh) := ⟨fun h => wgs_nil h⟩
theorem wgs_cons {g : G} {gs : Gs} {v : Val} {vs : List Val} {Q : Sl → List Ob → Prop} (q : WG gl c g v env mh fun e mh1 => WGs gl c gs vs e mh1 Q) : WGs gl c (.cons g gs) (v :: vs) env mh Q := W.bind q
instance i_wgs_cons {g : G} {gs : Gs} {v : Val} {vs : List Val} {Q : Sl → List Ob → Prop} : Wp (WGs gl c (.cons g gs) (v :: vs) env mh Q) (WG gl c g v env mh fun e mh1 => WGs gl c gs vs e mh1 Q) := ⟨fun h => wgs_cons h⟩
theorem wg_sb {o i : E} {v : Val} {Q : Sl → List Ob → Prop} (h : W (evE gl c o env) mh fun x mh1 => W (evE gl c i env) mh1 fun y mh2 => W (setVl x y v) mh2 fun _ mh3 => Q env mh3) : WG gl c (.sb o i) v env mh Q :=
  W.bind (h.mono fun x mh1 h1 => W.bind (h1.mono fun y mh2 h2 => W.bind (h2.mono fun _ mh3 q => W.pure q)))
instance i_wg_sb {o i : E} {v : Val} {Q : Sl → List Ob → Prop} : Wp (WG gl c (.sb o i) v env mh Q) (W (evE gl c o env) mh fun x mh1 => W (evE gl c i env) mh1 fun y mh2 => W (setVl x y v) mh2 fun _ mh3 => Q env mh3) := ⟨fun h => wg_sb h⟩
/-! statements -/
def WS (gl : List (Str × Dt)) (c : Nat → List Val → M Val) (b : Ss) (env : Sl) (mh : List Ob) (Q : Fl → List Ob → Prop) : Prop := W (evSs gl c b env) mh Q
def thenS (gl : List (Str × Dt)) (c : Nat → List Val → M Val) (b : Ss) (Q : Fl → List Ob → Prop) : Fl → List Ob → Prop := fun f mh => match f with
  | .nx e => WS gl c b e mh Q
  | f => Q f mh
end
section
variable {gl : List (Str × Dt)} {c : Nat → List Val → M Val} {env : Sl} {mh : List Ob} {Q : Fl → List Ob → Prop} {b : Ss}
theorem thenS_nx {e : Sl} (h : WS gl c b e mh Q) : thenS gl c b Q (.nx e) mh := h
instance i_thenS_nx {e : Sl} : Wp (thenS gl c b Q (.nx e) mh) (WS gl c b e mh Q) := ⟨fun h => thenS_nx h⟩
theorem thenS_rt {v : Val} (h : Q (.rt v) mh) : thenS gl c b Q (.rt v) mh := h
instance i_thenS_rt {v : Val} : Wp (thenS gl c b Q (.rt v) mh) (Q (.rt v) mh) := ⟨fun h => thenS_rt h⟩
theorem thenS_bk {e : Sl} (h : Q (.bk e) mh) : thenS gl c b Q (.bk e) mh := h
instance i_thenS_bk {e : Sl} : Wp (thenS gl c b Q (.bk e) mh) (Q (.bk e) mh) := ⟨fun h => thenS_bk h⟩
theorem thenS_ct {e : Sl} (h : Q (.ct e) mh) : thenS gl c b Q (.ct e) mh := h
instance i_thenS_ct {e : Sl} : Wp (thenS gl c b Q (.ct e) mh) (Q (.ct e) mh) := ⟨fun h => thenS_ct h⟩
theorem ws_seq {s : S} (h : W (evS gl c s env) mh (thenS gl c b Q)) : WS gl c (.cons s b) env mh Q :=
  W.bind (h.mono fun f mh1 h1 => by
    cases f with
    | nx e => exact h1
    | rt v => exact W.pure h1
    | bk e => exact W.pure h1
    | ct e => exact W.pure h1)
theorem ws_nil (q : Q (.nx env) mh) : WS gl c .nil env mh Q := W.pure q
instance i_ws_nil  : Wp (WS gl c .nil env mh Q) (Q (.nx env) mh) := ⟨fun h => ws_nil h⟩
theorem ws_set {i : Nat} {a : E} (h : W (evE gl c a env) mh fun v mh1 => WS gl c b (env.set i (some v)) mh1 Q) : WS gl c (.cons (.set i a) b) env mh Q :=
  ws_seq (W.bind (h.mono fun v mh1 h1 => W.bind (W.pure (W.pure h1))))
instance i_ws_set {i : Nat} {a : E} : Wp (WS gl c (.cons (.set i a) b) env mh Q) (W (evE gl c a env) mh fun v mh1 => WS gl c b (env.set i (some v)) mh1 Q) := ⟨fun h => ws_set h⟩
theorem ws_swp {i : Nat} {a : E} (h : W (evE gl c a env) mh fun v mh1 => WS gl c b (env.set i (some v)) mh1 Q) : WS gl c (.cons (.swp i a) b) env mh Q :=
  ws_seq (W.bind (h.mono fun v mh1 h1 => W.bind (W.pure (W.pure h1))))
instance i_ws_swp {i : Nat} {a : E} : Wp (WS gl c (.cons (.swp i a) b) env mh Q) (W (evE gl c a env) mh fun v mh1 => WS gl c b (env.set i (some v)) mh1 Q) := ⟨fun h => ws_swp h⟩
theorem ws_asg {g : G} {a : E} (h : W (evE gl c a env) mh fun v mh1 => WG gl c g v env mh1 fun e mh2 => WS gl c b e mh2 Q) : WS gl c (.cons (.asg g a) b) env mh Q :=
  ws_seq (W.bind (h.mono fun v mh1 h1 => W.bind (W.mono h1 fun e mh2 h2 => W.pure h2)))
instance i_ws_asg {g : G} {a : E} : Wp (WS gl c (.cons (.asg g a) b) env mh Q) (W (evE gl c a env) mh fun v mh1 => WG gl c g v env mh1 fun e mh2 => WS gl c b e mh2 Q) := ⟨fun h => ws_asg h⟩
theorem ws_aug {i : Nat} {op : Operator} {a : E} {p : Int} (h0 : env.getD i none = some (.d (.int p))) (h : W (evE gl c a env) mh fun v mh1 => ∃ q, v = .d (.int q) ∧ WS gl c b (env.set i (some (.d (.int (augF op p q))))) mh1 Q) : WS gl c (.cons (.aug i op a) b) env mh Q :=
  ws_seq (W.bind (W.ofO ⟨_, h0, W.bind (h.mono fun v mh1 ⟨q, e, h1⟩ => by subst e; exact W.pure h1)⟩))
theorem ws_expr {a : E} (h : W (evE gl c a env) mh fun v mh1 => WS gl c b env mh1 Q) : WS gl c (.cons (.expr a) b) env mh Q :=
  ws_seq (W.bind (h.mono fun v mh1 h1 => W.pure h1))
instance i_ws_expr {a : E} : Wp (WS gl c (.cons (.expr a) b) env mh Q) (W (evE gl c a env) mh fun v mh1 => WS gl c b env mh1 Q) := ⟨fun h => ws_expr h⟩
theorem ws_ret {a : E} (h : W (evE gl c a env) mh fun v mh1 => Q (.rt v) mh1) : WS gl c (.cons (.ret a) b) env mh Q :=
  ws_seq (W.bind (h.mono fun v mh1 h1 => W.pure h1))
instance i_ws_ret {a : E} : Wp (WS gl c (.cons (.ret a) b) env mh Q) (W (evE gl c a env) mh fun v mh1 => Q (.rt v) mh1) := ⟨fun h => ws_ret h⟩
theorem ws_retN (h : Q (.rt (.d .none)) mh) : WS gl c (.cons .retN b) env mh Q := ws_seq (W.bind (W.pure (W.pure h)))
instance i_ws_retN  : Wp (WS gl c (.cons .retN b) env mh Q) (Q (.rt (.d .none)) mh) := ⟨fun h => ws_retN h⟩
theorem ws_if {t : T} {x y : Ss} (h : WT gl c t env mh fun r mh1 => (r = true → WS gl c x env mh1 (thenS gl c b Q)) ∧ (r = false → WS gl c y env mh1 (thenS gl c b Q))) : WS gl c (.cons (.iff t x y) b) env mh Q :=
  ws_seq (W.bind (W.mono h fun r mh1 ⟨q1, q2⟩ => by cases r; exact q2 rfl; exact q1 rfl))
instance i_ws_if {t : T} {x y : Ss} : Wp (WS gl c (.cons (.iff t x y) b) env mh Q) (WT gl c t env mh fun r mh1 => (r = true → WS gl c x env mh1 (thenS gl c b Q)) ∧ (r = false → WS gl c y env mh1 (thenS gl c b Q))) := ⟨fun h => ws_if h⟩
theorem ws_pass (h : WS gl c b env mh Q) : WS gl c (.cons .pass b) env mh Q := ws_seq (W.pure h)
instance i_ws_pass  : Wp (WS gl c (.cons .pass b) env mh Q) (WS gl c b env mh Q) := ⟨fun h => ws_pass h⟩
theorem ws_doc (h : WS gl c b env mh Q) : WS gl c (.cons .doc b) env mh Q := ws_seq (W.pure h)
instance i_ws_doc  : Wp (WS gl c (.cons .doc b) env mh Q) (WS gl c b env mh Q) := ⟨fun h => ws_doc h⟩
theorem ws_brk (h : Q (.bk env) mh) : WS gl c (.cons .brk b) env mh Q := ws_seq (W.pure h)
instance i_ws_brk  : Wp (WS gl c (.cons .brk b) env mh Q) (Q (.bk env) mh) := ⟨fun h => ws_brk h⟩
theorem ws_cnt (h : Q (.ct env) mh) : WS gl c (.cons .cnt b) env mh Q := ws_seq (W.pure h)
instance i_ws_cnt  : Wp (WS gl c (.cons .cnt b) env mh Q) (Q (.ct env) mh) := ⟨fun h => ws_cnt h⟩
/-- the turns of a for -/
def WL (gl : List (Str × Dt)) (c : Nat → List Val → M Val) (g : G) (x : Ss) (gd : List (Nat × List Val)) (items : List Val) (env : Sl) (mh : List Ob) (Q : Fl → List Ob → Prop) : Prop := W (loopF gd (evG gl c g) (evSs gl c x) items env) mh Q
theorem ws_for {g : G} {it : I} {x : Ss} (h : WI gl c it env mh fun ix mh1 => WL gl c g x ix.g ix.items env mh1 (thenS gl c b Q)) : WS gl c (.cons (.for g it x) b) env mh Q :=
  ws_seq (W.bind h)
instance i_ws_for {g : G} {it : I} {x : Ss} : Wp (WS gl c (.cons (.for g it x) b) env mh Q) (WI gl c it env mh fun ix mh1 => WL gl c g x ix.g ix.items env mh1 (thenS gl c b Q)) := ⟨fun h => ws_for h⟩
theorem chk_yes {gd : List (Nat × List Val)} (h : gOk gd mh) {R : Unit → List Ob → Prop} (q : R () mh) : W (chkG gd) mh R := ⟨(), mh, by unfold chkG; exact if_pos h, q⟩
theorem wl_nil {g : G} {x : Ss} {gd : List (Nat × List Val)} (hg : gOk gd mh) (q : Q (.nx env) mh) : WL gl c g x gd [] env mh Q := W.bind (chk_yes hg (W.pure q))
def stepL (gl : List (Str × Dt)) (c : Nat → List Val → M Val) (g : G) (x : Ss) (gd : List (Nat × List Val)) (items : List Val) (Q : Fl → List Ob → Prop) : Fl → List Ob → Prop := fun f mh => match f with
  | .nx e => WL gl c g x gd items e mh Q
  | .ct e => WL gl c g x gd items e mh Q
  | .bk e => Q (.nx e) mh
  | .rt r => Q (.rt r) mh
theorem wl_cons {g : G} {x : Ss} {gd : List (Nat × List Val)} {v : Val} {items : List Val} (hg : gOk gd mh) (h : WG gl c g v env mh fun e mh1 => WS gl c x e mh1 (stepL gl c g x gd items Q)) : WL gl c g x gd (v :: items) env mh Q :=
  W.bind (chk_yes hg (W.bind (W.mono h fun e mh1 h1 => W.bind (W.mono h1 fun f mh2 h2 => by
    cases f with
    | nx e => exact h2
    | ct e => exact h2
    | bk e => exact W.pure h2
    | rt r => exact W.pure h2))))
/-- an invariant of a for -/
theorem wl_inv {g : G} {x : Ss} {gd : List (Nat × List Val)} {items : List Val} (I : Nat → Sl → List Ob → Prop) (hg : ∀ i e m, I i e m → gOk gd m) (h0 : I 0 env mh)
    (hs : ∀ i v e m, items[i]? = some v → I i e m → WG gl c g v e m fun e1 m1 => WS gl c x e1 m1 fun f m2 => match f with
      | .nx e2 => I (i + 1) e2 m2 | .ct e2 => I (i + 1) e2 m2 | .bk e2 => Q (.nx e2) m2 | .rt r => Q (.rt r) m2)
    (hq : ∀ e m, I items.length e m → Q (.nx e) m) : WL gl c g x gd items env mh Q := by
  suffices h : ∀ n i e m, items.length - i = n → i ≤ items.length → I i e m → WL gl c g x gd (items.drop i) e m Q from h _ 0 env mh rfl (Nat.zero_le _) h0
  intro n
  induction n with
  | zero =>
    intro i e m hn hi hI
    have : i = items.length := by omega
    subst this
    rw [List.drop_length]
    exact wl_nil (hg _ _ _ hI) (hq _ _ hI)
  | succ n ih =>
    intro i e m hn hi hI
    have hlt : i < items.length := by omega
    rw [List.drop_eq_getElem_cons hlt]
    refine wl_cons (hg _ _ _ hI) ((hs i _ e m (List.getElem?_eq_getElem hlt) hI).mono fun e1 m1 h1 => W.mono h1 fun f m2 h2 => ?_)
    cases f with
    | nx e2 => exact ih (i + 1) e2 m2 (by omega) hlt h2
    | ct e2 => exact ih (i + 1) e2 m2 (by omega) hlt h2
    | bk e2 => exact h2
    | rt r => exact h2
end
section
variable {gl : List (Str × Dt)} {c : Nat → List Val → M Val} {env : Sl} {mh : List Ob} {α : Type} {g : G} {t : T} {el : Sl → M α}
theorem wc_inv {ix : Ix} {Q : List α → List Ob → Prop} (I : Nat → List α → List Ob → Prop) (hg : ∀ i a m, I i a m → gOk ix.g m) (h0 : I 0 [] mh)
    (hs : ∀ i v acc m, ix.items[i]? = some v → I i acc m → WG gl c g v env m fun e1 m1 => WT gl c t e1 m1 fun r m2 => (r = true → W (el e1) m2 fun y m3 => I (i + 1) (acc ++ [y]) m3) ∧ (r = false → I (i + 1) acc m2))
    (hq : ∀ acc m, I ix.items.length acc m → Q acc m) : WC gl c g t el env ix mh Q := by
  obtain ⟨items, gd⟩ := ix
  suffices h : ∀ n i acc m, items.length - i = n → i ≤ items.length → I i acc m → W (loopC gd (evG gl c g) (evT gl c t) el env (items.drop i)) m fun ys m2 => Q (acc ++ ys) m2 from h _ 0 [] mh rfl (Nat.zero_le _) h0
  intro n
  induction n with
  | zero =>
    intro i acc m hn hi hI
    have : i = items.length := by omega
    subst this
    rw [List.drop_length]
    exact W.bind (chk_yes (hg _ _ _ hI) (W.pure (by rw [List.append_nil]; exact hq _ _ hI)))
  | succ n ih =>
    intro i acc m hn hi hI
    have hlt : i < items.length := by omega
    rw [List.drop_eq_getElem_cons hlt]
    refine W.bind (chk_yes (hg _ _ _ hI) (W.bind (W.mono (hs i _ acc m (List.getElem?_eq_getElem hlt) hI) fun e1 m1 h1 => W.bind (W.mono h1 fun r m2 ⟨q1, q2⟩ => ?_))))
    cases r with
    | true => exact W.bind ((q1 rfl).mono fun y m3 h3 => W.bind ((ih (i + 1) (acc ++ [y]) m3 (by omega) hlt h3).mono fun ys m4 h4 => W.pure (by rw [List.append_assoc] at h4; exact h4)))
    | false => exact ih (i + 1) acc m2 (by omega) hlt (q2 rfl)
/-- turns that change nothing and leave nothing out -/
theorem wc_map {β : Type} {gd : List (Nat × List Val)} {xs : List β} {emb : β → Val} {r : β → α} {Q : List α → List Ob → Prop} (hg : gOk gd mh)
    (hs : ∀ x ∈ xs, WG gl c g (emb x) env mh fun e1 m1 => WT gl c t e1 m1 fun b m2 => b = true ∧ W (el e1) m2 fun y m3 => y = r x ∧ m3 = mh) (hq : Q (xs.map r) mh) : WC gl c g t el env ⟨xs.map emb, gd⟩ mh Q := by
  refine wc_inv (ix := ⟨xs.map emb, gd⟩) (fun i acc m => m = mh ∧ acc = (xs.take i).map r) (fun _ _ _ h => by rw [h.1]; exact hg) ⟨rfl, rfl⟩ (fun i v acc m hv ⟨e1, e2⟩ => ?_) (fun acc m h => ?_)
  · have hv : (xs.map emb)[i]? = some v := hv
    rw [List.getElem?_map] at hv
    obtain ⟨x, h1, rfl⟩ := Option.map_eq_some_iff.mp hv
    subst e1
    refine W.mono (hs x (List.mem_of_getElem? h1)) fun e1 m1 h2 => W.mono h2 fun b m2 ⟨hb, h3⟩ => ⟨fun _ => h3.mono fun y m3 ⟨a1, a2⟩ => ⟨a2, ?_⟩, fun z => by rw [z] at hb; cases hb⟩
    rw [e2, a1, List.take_add_one, h1, List.map_append]
    rfl
  · have h : m = mh ∧ acc = (xs.take (xs.map emb).length).map r := h
    rw [List.length_map, List.take_length] at h
    rw [h.1, h.2]
    exact hq
theorem wc_filter {β : Type} {gd : List (Nat × List Val)} {xs : List β} {emb : β → Val} {p : β → Bool} {r : β → α} {Q : List α → List Ob → Prop} (hg : gOk gd mh)
    (hs : ∀ x ∈ xs, WG gl c g (emb x) env mh fun e1 m1 => WT gl c t e1 m1 fun b m2 => b = p x ∧ m2 = mh ∧ (b = true → W (el e1) m2 fun y m3 => y = r x ∧ m3 = mh)) (hq : Q ((xs.filter p).map r) mh) : WC gl c g t el env ⟨xs.map emb, gd⟩ mh Q := by
  refine wc_inv (ix := ⟨xs.map emb, gd⟩) (fun i acc m => m = mh ∧ acc = ((xs.take i).filter p).map r) (fun _ _ _ h => by rw [h.1]; exact hg) ⟨rfl, rfl⟩ (fun i v acc m hv ⟨e1, e2⟩ => ?_) (fun acc m h => ?_)
  · have hv : (xs.map emb)[i]? = some v := hv
    rw [List.getElem?_map] at hv
    obtain ⟨x, h1, rfl⟩ := Option.map_eq_some_iff.mp hv
    subst e1
    refine W.mono (hs x (List.mem_of_getElem? h1)) fun e1 m1 h2 => W.mono h2 fun b m2 ⟨hb, hm, h3⟩ => ⟨fun z => (h3 z).mono fun y m3 ⟨a1, a2⟩ => ⟨a2, ?_⟩, fun z => ⟨hm, ?_⟩⟩
    · rw [e2, a1, List.take_add_one, h1, List.filter_append, List.map_append]
      rw [z] at hb
      simp [← hb]
    · rw [e2, List.take_add_one, h1, List.filter_append, List.map_append]
      rw [z] at hb
      simp [← hb]
  · have h : m = mh ∧ acc = ((xs.take (xs.map emb).length).filter p).map r := h
    rw [List.length_map, List.take_length] at h
    rw [h.1, h.2]
    exact hq
end
/-! instances, dicts by tuples, two clauses -/
section
variable {gl : List (Str × Dt)} {c : Nat → List Val → M Val} {env : Sl} {mh : List Ob} {Q : Val → List Ob → Prop}
theorem we_fld {Cs : List Str} {f : Str} {o : E} (h : W (evE gl c o env) mh fun x mh1 => ∃ v, ((insOf mh1 x).bind fun p => if Cs.contains p.1 then p.2.lookup f else none) = some v ∧ Q v mh1) : W (evE gl c (.fld Cs f o) env) mh Q :=
  W.bind (h.mono fun x mh1 ⟨v, e, q⟩ => W.rd ⟨v, e, q⟩)
instance i_we_fld {Cs : List Str} {f : Str} {o : E} : Wp (W (evE gl c (.fld Cs f o) env) mh Q) (W (evE gl c o env) mh fun x mh1 => ∃ v, ((insOf mh1 x).bind fun p => if Cs.contains p.1 then p.2.lookup f else none) = some v ∧ Q v mh1) := ⟨fun h => we_fld h⟩
theorem fld_ex {Cs : List Str} {f C : Str} {n : Nat} {fs : List (Str × Val)} {v : Val} {R : Val → Prop} (h : mh[n]? = some (.ins C fs)) (hc : Cs.contains C = true) (hv : fs.lookup f = some v) (q : R v) : ∃ v, ((insOf mh (.ref n)).bind fun p => if Cs.contains p.1 then p.2.lookup f else none) = some v ∧ R v := by
  refine ⟨v, ?_, q⟩
  unfold insOf
  simp only [h]
  show (if Cs.contains C then fs.lookup f else none) = _
  rw [if_pos hc]; exact hv
theorem we_mk {C : Str} {i : Nat} {as : As} (h : WA gl c as env mh fun vs mh1 => W (c i (.ref mh1.length :: vs)) (mh1 ++ [.ins C []]) fun v mh2 => v = .d .none ∧ Q (.ref mh1.length) mh2) : W (evE gl c (.mk C i as) env) mh Q :=
  W.bind (W.mono h fun vs mh1 ⟨v, mh2, e, e2, q⟩ => by
    subst e2
    refine ⟨.ref mh1.length, mh2, ?_, q⟩
    show (match c i (.ref mh1.length :: vs) (mh1 ++ [.ins C []]) with | some (.d .none, mh') => some (Val.ref mh1.length, mh') | _ => none) = _
    rw [e])
instance i_we_mk {C : Str} {i : Nat} {as : As} : Wp (W (evE gl c (.mk C i as) env) mh Q) (WA gl c as env mh fun vs mh1 => W (c i (.ref mh1.length :: vs)) (mh1 ++ [.ins C []]) fun v mh2 => v = .d .none ∧ Q (.ref mh1.length) mh2) := ⟨fun h => we_mk h⟩
theorem alts_lk {C : Str} {i : Nat} : ∀ {alts : List (Str × Nat)}, alts.lookup C = some i → (alts.map fun p => (p.1, c p.2)).lookup C = some (c i)
  | [], h => by cases h
  | p :: ps, h => by
    by_cases hd : C = p.1
    · have hb : (C == p.1) = true := beq_iff_eq.mpr hd
      simp only [List.map_cons, List.lookup, hb] at h ⊢
      cases h; rfl
    · have hb : (C == p.1) = false := beq_eq_false_iff_ne.mpr hd
      simp only [List.map_cons, List.lookup, hb] at h ⊢
      exact alts_lk h
theorem we_mcall {alts : List (Str × Nat)} {m : Str} {o : E} {as : As} (h : W (evE gl c o env) mh fun x mh1 => ∃ C fs i, insOf mh1 x = some (C, fs) ∧ alts.lookup C = some i ∧ fs.lookup m = none ∧ WA gl c as env mh1 fun vs mh2 => W (c i (x :: vs)) mh2 Q) : W (evE gl c (.mcall alts m o as) env) mh Q :=
  W.bind (h.mono fun x mh1 ⟨C, fs, i, e1, e2, e3, k⟩ => W.bind (W.rd ⟨(C, fs), e1, by
    show W ((match (alts.map fun p => (p.1, c p.2)).lookup C, fs.lookup m with | some f, none => (do let vs ← mArgs (evAs gl c as) env; f (x :: vs) : M Val) | _, _ => fun _ => none)) mh1 Q
    rw [alts_lk e2, e3]
    exact W.bind k⟩))
instance i_we_mcall {alts : List (Str × Nat)} {m : Str} {o : E} {as : As} : Wp (W (evE gl c (.mcall alts m o as) env) mh Q) (W (evE gl c o env) mh fun x mh1 => ∃ C fs i, insOf mh1 x = some (C, fs) ∧ alts.lookup C = some i ∧ fs.lookup m = none ∧ WA gl c as env mh1 fun vs mh2 => W (c i (x :: vs)) mh2 Q) := ⟨fun h => we_mcall h⟩
theorem mcall_ex {alts : List (Str × Nat)} {m C : Str} {n i : Nat} {fs : List (Str × Val)} (h : mh[n]? = some (.ins C fs)) (ha : alts.lookup C = some i) (hm : fs.lookup m = none) {K : Prop} (k : K) : ∃ C fs i, insOf mh (.ref n) = some (C, fs) ∧ alts.lookup C = some i ∧ fs.lookup m = none ∧ K :=
  ⟨C, fs, i, by unfold insOf; simp only [h], ha, hm, k⟩
theorem we_ixT {o : E} {as : As} (h : W (evE gl c o env) mh fun x mh1 => WA gl c as env mh1 fun vs mh2 => ∃ k, keyT vs = some k ∧ ∃ v, getT mh2 x k = some v ∧ Q v mh2) : W (evE gl c (.ixT o as) env) mh Q :=
  W.bind (h.mono fun x mh1 h1 => W.bind (W.mono h1 fun vs mh2 ⟨k, e1, v, e2, q⟩ => W.bind (W.ofO ⟨k, e1, W.rd ⟨v, e2, q⟩⟩)))
instance i_we_ixT {o : E} {as : As} : Wp (W (evE gl c (.ixT o as) env) mh Q) (W (evE gl c o env) mh fun x mh1 => WA gl c as env mh1 fun vs mh2 => ∃ k, keyT vs = some k ∧ ∃ v, getT mh2 x k = some v ∧ Q v mh2) := ⟨fun h => we_ixT h⟩
theorem getT_ex {n : Nat} {kvs : List (List Key × Val)} {k : List Key} {v : Val} {R : Val → Prop} (h : mh[n]? = some (.dtk kvs)) (hv : findG kvs k = some v) (q : R v) : ∃ v, getT mh (.ref n) k = some v ∧ R v :=
  ⟨v, by unfold getT; simp only [h]; exact hv, q⟩
theorem we_dictT0 (q : Q (.ref mh.length) (mh ++ [.dtk []])) : W (evE gl c .dictT0 env) mh Q := ⟨_, _, rfl, q⟩
instance i_we_dictT0  : Wp (W (evE gl c .dictT0 env) mh Q) (Q (.ref mh.length) (mh ++ [.dtk []])) := ⟨fun h => we_dictT0 h⟩
theorem we_dk {a b : E} (h : W (evE gl c a env) (mh ++ [.dct []]) fun y mh1 => W (evE gl c b env) mh1 fun z mh2 => ∃ k, keyVl y = some k ∧ W (putD mh.length k z) mh2 Q) : W (evE gl c (.dk a b) env) mh Q := by
  have hb : W (do
    let _ ← alloc (.dct [])
    let y ← evE gl c a env
    let z ← evE gl c b env
    let k ← ofO (keyVl y)
    putD mh.length k z) mh Q :=
    W.bind (⟨_, _, rfl, W.bind (W.mono h fun y mh1 h1 => W.bind (W.mono h1 fun z mh2 ⟨k, hk, h2⟩ => W.bind (W.ofO ⟨k, hk, h2⟩)))⟩)
  exact hb
instance i_we_dk {a b : E} : Wp (W (evE gl c (.dk a b) env) mh Q) (W (evE gl c a env) (mh ++ [.dct []]) fun y mh1 => W (evE gl c b env) mh1 fun z mh2 => ∃ k, keyVl y = some k ∧ W (putD mh.length k z) mh2 Q) := ⟨fun h => we_dk h⟩
theorem putD_ex {n : Nat} {k : Key} {v : Val} {mh : List Ob} {Q : Val → List Ob → Prop} (h : mh[n]? = some (.dct [])) (q : Q (.ref n) (mh.set n (.dct [(k, v)]))) : W (putD n k v) mh Q := by
  refine ⟨.ref n, _, ?_, q⟩
  unfold putD
  rw [h]
theorem we_lc2 {k : Bool} {own : List (Str × Nat)} {g g1 : G} {it it1 : I} {t t1 : T} {vs1 : List Nat} {el : E} (h : WI gl c it env mh fun ix mh1 => WC gl c g t (mIn (evI gl c it1) vs1 (evG gl c g1) (evT gl c t1) (evE gl c el)) (wipeE env (own.map (·.2))) ix mh1 fun ys mh2 => ys.flatten.length ≤ sizeLine ∧ WR k (some (.nl ys.flatten)) mh2 Q) :
    W (evE gl c (.lc2 k own g it t vs1 g1 it1 t1 el) env) mh Q :=
  W.bind (W.mono h fun ix mh1 h1 => W.bind (W.mono h1 fun ys mh2 ⟨hl, r, e, w⟩ => by
    show W (if ys.flatten.length ≤ sizeLine then finR k (.nl ys.flatten) else fun _ => none) mh2 Q
    rw [if_pos hl]
    cases e; exact w))
instance i_we_lc2 {k : Bool} {own : List (Str × Nat)} {g g1 : G} {it it1 : I} {t t1 : T} {vs1 : List Nat} {el : E} : Wp (W (evE gl c (.lc2 k own g it t vs1 g1 it1 t1 el) env) mh Q) (WI gl c it env mh fun ix mh1 => WC gl c g t (mIn (evI gl c it1) vs1 (evG gl c g1) (evT gl c t1) (evE gl c el)) (wipeE env (own.map (·.2))) ix mh1 fun ys mh2 => ys.flatten.length ≤ sizeLine ∧ WR k (some (.nl ys.flatten)) mh2 Q) := ⟨fun h => we_lc2 h⟩
theorem w_in {g1 : G} {it1 : I} {t1 : T} {vs1 : List Nat} {el : E} {Q : List Val → List Ob → Prop} (h : WI gl c it1 env mh fun ix mh1 => WC gl c g1 t1 (evE gl c el) (wipeE env vs1) ix mh1 Q) : W (mIn (evI gl c it1) vs1 (evG gl c g1) (evT gl c t1) (evE gl c el) env) mh Q :=
  W.bind (W.mono h fun ix mh1 h1 => h1)
instance i_w_in {g1 : G} {it1 : I} {t1 : T} {vs1 : List Nat} {el : E} {Q : List Val → List Ob → Prop} : Wp (W (mIn (evI gl c it1) vs1 (evG gl c g1) (evT gl c t1) (evE gl c el) env) mh Q) (WI gl c it1 env mh fun ix mh1 => WC gl c g1 t1 (evE gl c el) (wipeE env vs1) ix mh1 Q) := ⟨fun h => w_in h⟩
theorem wg_sbT {o : E} {as : As} {v : Val} {Q : Sl → List Ob → Prop} (h : W (evE gl c o env) mh fun x mh1 => WA gl c as env mh1 fun vs mh2 => ∃ k, keyT vs = some k ∧ W (setT x k v) mh2 fun _ mh3 => Q env mh3) : WG gl c (.sbT o as) v env mh Q :=
  W.bind (h.mono fun x mh1 h1 => W.bind (W.mono h1 fun vs mh2 ⟨k, e1, h2⟩ => W.bind (W.ofO ⟨k, e1, W.bind (h2.mono fun _ mh3 q => W.pure q)⟩)))
instance i_wg_sbT {o : E} {as : As} {v : Val} {Q : Sl → List Ob → Prop} : Wp (WG gl c (.sbT o as) v env mh Q) (W (evE gl c o env) mh fun x mh1 => WA gl c as env mh1 fun vs mh2 => ∃ k, keyT vs = some k ∧ W (setT x k v) mh2 fun _ mh3 => Q env mh3) := ⟨fun h => wg_sbT h⟩
theorem setT_w {n : Nat} {kvs : List (List Key × Val)} {k : List Key} {v : Val} {Q : Unit → List Ob → Prop} (h : mh[n]? = some (.dtk kvs)) (hl : kvs.length < sizeLine) (q : Q () (mh.set n (.dtk (putG kvs k v)))) : W (setT (.ref n) k v) mh Q :=
  ⟨(), _, by unfold setT; simp only [h]; exact if_pos hl, q⟩
theorem setF_w {Cs : List Str} {f C : Str} {n : Nat} {fs : List (Str × Val)} {v : Val} {Q : Unit → List Ob → Prop} (h : mh[n]? = some (.ins C fs)) (hc : Cs.contains C = true) (hl : fs.length < 999) (q : Q () (mh.set n (.ins C (putFV f v fs)))) : W (setF Cs f (.ref n) v) mh Q :=
  ⟨(), _, by unfold setF; simp only [h]; exact if_pos ⟨hc, hl⟩, q⟩
theorem ws_fset {Cs : List Str} {f : Str} {o a : E} {b : Ss} {Q : Fl → List Ob → Prop} (h : W (evE gl c a env) mh fun v mh1 => W (evE gl c o env) mh1 fun x mh2 => W (setF Cs f x v) mh2 fun _ mh3 => WS gl c b env mh3 Q) : WS gl c (.cons (.fset Cs f o a) b) env mh Q :=
  ws_seq (W.bind (h.mono fun v mh1 h1 => W.bind (h1.mono fun x mh2 h2 => W.bind (h2.mono fun _ mh3 h3 => W.pure h3))))
instance i_ws_fset {Cs : List Str} {f : Str} {o a : E} {b : Ss} {Q : Fl → List Ob → Prop} : Wp (WS gl c (.cons (.fset Cs f o a) b) env mh Q) (W (evE gl c a env) mh fun v mh1 => W (evE gl c o env) mh1 fun x mh2 => W (setF Cs f x v) mh2 fun _ mh3 => WS gl c b env mh3 Q) := ⟨fun h => ws_fset h⟩
end
end Pv

/-! P15: the draws' state; a def's call; a tactic -/
namespace Pv
open PySem PySem.Spec PyProof.Rows L2

structure Ds where
  sc : List Int
  pos : Int
  acc : Int
  cnt : Int
def St (d : Ds) : Ob := .lst [.d (.list (d.sc.map PyData.int)), .d (.int d.pos), .d (.int d.acc), .d (.int d.cnt)]
theorem cutOk_app {n : Nat} : ∀ (tl os : List Ob), cutOk n tl (tl ++ os)
  | [], _ => trivial
  | o :: tl, os => ⟨.inl rfl, cutOk_app tl os⟩
theorem st_below {n : Nat} (d : Ds) : (St d).below n = true := rfl
section
variable {P : Pg} {gl : List (Str × Dt)} {k f : Nat} {vs : List Val} {d : Df} {Q : Val → List Ob → Prop}
open Classical in
theorem w_body {mh : List Ob} {c : Nat → List Val → M Val} (h : WS gl c d.body (vs.map some ++ List.replicate (d.N.length - vs.length) none) mh fun fl mh' => ∃ x, (fl = .rt (.d x) ∨ ∃ e, fl = .nx e ∧ x = .none) ∧ cutOk mh.length mh mh' ∧ Q (.d x) (mh'.take mh.length)) :
    W (frame (mBody d.N.length (evSs gl c d.body)) vs) mh Q := by
  obtain ⟨fl, mh', e, x, hx, hc, q⟩ := h
  refine ⟨.d x, mh'.take mh.length, ?_, q⟩
  have e2 : mBody d.N.length (evSs gl c d.body) vs mh = some (.d x, mh') := by
    refine M.bind_some.mpr ⟨fl, mh', e, ?_⟩
    rcases hx with rfl | ⟨e, rfl, rfl⟩ <;> rfl
  unfold frame
  rw [e2]
  exact if_pos ⟨hc, by
    show ((mh'.take mh.length).drop mh.length).all _ = true
    rw [List.drop_eq_nil_of_le (by rw [List.length_take]; exact Nat.min_le_left _ _)]; rfl⟩
theorem w_call {mh : List Ob} (hd : P[f]? = some d) (h : W (frame (mBody d.N.length (evSs gl (callP P gl k) d.body)) vs) mh Q) (hk : d.kp = false := by rfl) : W (callP P gl (k + 1) f vs) mh Q := by
  have e : callP P gl (k + 1) f vs = frame (mBody d.N.length (evSs gl (callP P gl k) d.body)) vs := by
    show (match P[f]? with | some d => frameK d.kp (mBody d.N.length (evSs gl (callP P gl k) d.body)) vs | none => fun _ => none) = _
    rw [hd]
    show frameK d.kp _ vs = _
    rw [hk]; rfl
  rw [e]
  exact h
/-- a def whose cells all stay -/
theorem w_callK {mh : List Ob} (hd : P[f]? = some d) (hk : d.kp = true) (h : W (mBody d.N.length (evSs gl (callP P gl k) d.body) vs) mh Q) : W (callP P gl (k + 1) f vs) mh Q := by
  have e : callP P gl (k + 1) f vs = mBody d.N.length (evSs gl (callP P gl k) d.body) vs := by
    show (match P[f]? with | some d => frameK d.kp (mBody d.N.length (evSs gl (callP P gl k) d.body)) vs | none => fun _ => none) = _
    rw [hd]
    show frameK d.kp _ vs = _
    rw [hk]; rfl
  rw [e]
  exact h
theorem w_keep {mh : List Ob} {nm : Str} {ps N : List Str} {body : Ss} {fn : Bool} {qn : Str} {env : Sl} (hd : P[f]? = some ⟨nm, ps, N, body, true, fn, qn⟩) (he : vs.map some ++ List.replicate (N.length - vs.length) none = env) (h : WS gl (callP P gl k) body env mh fun fl mh' => match fl with
    | .rt v => Q v mh' | .nx _ => Q (.d .none) mh' | .bk _ => False | .ct _ => False) : W (callP P gl (k + 1) f vs) mh Q := by
  subst he
  obtain ⟨fl, mh', e, q⟩ := h
  refine w_callK hd rfl ?_
  cases fl with
  | rt v => exact ⟨v, mh', M.bind_some.mpr ⟨_, _, e, rfl⟩, q⟩
  | nx e2 => exact ⟨.d .none, mh', M.bind_some.mpr ⟨_, _, e, rfl⟩, q⟩
  | bk e2 => exact q.elim
  | ct e2 => exact q.elim
/-- a def that hands data back; of the cells that were there only the state changes -/
theorem w_def {s : Ds} {tl : List Ob} {nm : Str} {ps N : List Str} {body : Ss} {fn : Bool} {qn : Str} {env : Sl} (hd : P[f]? = some ⟨nm, ps, N, body, false, fn, qn⟩) (he : vs.map some ++ List.replicate (N.length - vs.length) none = env) (h : WS gl (callP P gl k) body env (St s :: tl) fun fl mh' => ∃ x s' os, (fl = .rt (.d x) ∨ ∃ e, fl = .nx e ∧ x = .none) ∧ mh' = St s' :: (tl ++ os) ∧ Q (.d x) (St s' :: tl)) :
    W (callP P gl (k + 1) f vs) (St s :: tl) Q := by
  subst he
  exact w_call hd (w_body (W.mono h fun fl mh' ⟨x, s', os, h1, h2, h3⟩ => by
    subst h2
    refine ⟨x, h1, ⟨.inr (st_below _), cutOk_app _ _⟩, ?_⟩
    show Q _ (St s' :: List.take tl.length (tl ++ os))
    rw [List.take_left]
    exact h3))
theorem fin_rt {s' : Ds} {tl os mh' : List Ob} {x : Dt} (h1 : mh' = St s' :: (tl ++ os)) (h : Q (.d x) (St s' :: tl)) :
    ∃ y t os, (Fl.rt (.d x) = .rt (.d y) ∨ ∃ e, Fl.rt (.d x) = .nx e ∧ y = .none) ∧ mh' = St t :: (tl ++ os) ∧ Q (.d y) (St t :: tl) := ⟨x, s', os, .inl rfl, h1, h⟩
/-- a def that changes nothing -/
theorem w_pure {mh : List Ob} {nm : Str} {ps N : List Str} {body : Ss} {fn : Bool} {qn : Str} {env : Sl} (hd : P[f]? = some ⟨nm, ps, N, body, false, fn, qn⟩) (he : vs.map some ++ List.replicate (N.length - vs.length) none = env) (h : WS gl (callP P gl k) body env mh fun fl mh' => ∃ x os, (fl = .rt (.d x) ∨ ∃ e, fl = .nx e ∧ x = .none) ∧ mh' = mh ++ os ∧ Q (.d x) mh) :
    W (callP P gl (k + 1) f vs) mh Q := by
  subst he
  exact w_call hd (w_body (W.mono h fun fl mh' ⟨x, os, h1, h2, h3⟩ => by
    subst h2
    refine ⟨x, h1, cutOk_app _ _, ?_⟩
    rw [List.take_left]
    exact h3))
theorem fin_pure {mh : List Ob} {x : Dt} (h : Q (.d x) mh) : ∃ y os, (Fl.rt (.d x) = .rt (.d y) ∨ ∃ e, Fl.rt (.d x) = .nx e ∧ y = .none) ∧ mh = mh ++ os ∧ Q (.d y) mh := ⟨x, [], .inl rfl, (List.append_nil _).symm, h⟩
theorem fin_pure' {mh os : List Ob} {x : Dt} (h : Q (.d x) mh) : ∃ y os', (Fl.rt (.d x) = .rt (.d y) ∨ ∃ e, Fl.rt (.d x) = .nx e ∧ y = .none) ∧ mh ++ os = mh ++ os' ∧ Q (.d y) mh := ⟨x, os, .inl rfl, rfl, h⟩
end
section
variable {gl : List (Str × Dt)} {c : Nat → List Val → M Val} {env : Sl} {mh : List Ob} {Q : Val → List Ob → Prop}
theorem we_ki {i : Int} (q : Q (.d (.int i)) mh) : W (evE gl c (.k (.int i)) env) mh Q := W.pure q
instance i_we_ki {i : Int} : Wp (W (evE gl c (.k (.int i)) env) mh Q) (Q (.d (.int i)) mh) := ⟨fun h => we_ki h⟩
theorem we_ks {i : Str} (q : Q (.d (.str i)) mh) : W (evE gl c (.k (.str i)) env) mh Q := W.pure q
instance i_we_ks {i : Str} : Wp (W (evE gl c (.k (.str i)) env) mh Q) (Q (.d (.str i)) mh) := ⟨fun h => we_ks h⟩
theorem we_kb {i : Bool} (q : Q (.d (.bool i)) mh) : W (evE gl c (.k (.bl i)) env) mh Q := W.pure q
instance i_we_kb {i : Bool} : Wp (W (evE gl c (.k (.bl i)) env) mh Q) (Q (.d (.bool i)) mh) := ⟨fun h => we_kb h⟩
theorem we_kn (q : Q (.d .none) mh) : W (evE gl c (.k .non) env) mh Q := W.pure q
instance i_we_kn  : Wp (W (evE gl c (.k .non) env) mh Q) (Q (.d .none) mh) := ⟨fun h => we_kn h⟩
end
section
variable {s : Ds} {tl : List Ob} {i : Int} {Q : Unit → List Ob → Prop}
theorem set_pos (q : Q () (St { s with pos := i } :: tl)) : W (setVl (.ref 0) (.d (.int 1)) (.d (.int i))) (St s :: tl) Q := ⟨(), _, rfl, q⟩
instance i_set_pos  : Wp (W (setVl (.ref 0) (.d (.int 1)) (.d (.int i))) (St s :: tl) Q) (Q () (St { s with pos := i } :: tl)) := ⟨fun h => set_pos h⟩
theorem set_acc (q : Q () (St { s with acc := i } :: tl)) : W (setVl (.ref 0) (.d (.int 2)) (.d (.int i))) (St s :: tl) Q := ⟨(), _, rfl, q⟩
instance i_set_acc  : Wp (W (setVl (.ref 0) (.d (.int 2)) (.d (.int i))) (St s :: tl) Q) (Q () (St { s with acc := i } :: tl)) := ⟨fun h => set_acc h⟩
theorem set_cnt (q : Q () (St { s with cnt := i } :: tl)) : W (setVl (.ref 0) (.d (.int 3)) (.d (.int i))) (St s :: tl) Q := ⟨(), _, rfl, q⟩
instance i_set_cnt  : Wp (W (setVl (.ref 0) (.d (.int 3)) (.d (.int i))) (St s :: tl) Q) (Q () (St { s with cnt := i } :: tl)) := ⟨fun h => set_cnt h⟩
theorem at_sc {R : Val → Prop} (q : R (.d (.list (s.sc.map PyData.int)))) : ∃ v, ixVl (St s :: tl) (.ref 0) (.d (.int 0)) = some v ∧ R v := ⟨_, rfl, q⟩
instance i_at_sc {R : Val → Prop} : Wp (∃ v, ixVl (St s :: tl) (.ref 0) (.d (.int 0)) = some v ∧ R v) (R (.d (.list (s.sc.map PyData.int)))) := ⟨fun h => at_sc h⟩
theorem at_pos {R : Val → Prop} (q : R (.d (.int s.pos))) : ∃ v, ixVl (St s :: tl) (.ref 0) (.d (.int 1)) = some v ∧ R v := ⟨_, rfl, q⟩
instance i_at_pos {R : Val → Prop} : Wp (∃ v, ixVl (St s :: tl) (.ref 0) (.d (.int 1)) = some v ∧ R v) (R (.d (.int s.pos))) := ⟨fun h => at_pos h⟩
theorem at_acc {R : Val → Prop} (q : R (.d (.int s.acc))) : ∃ v, ixVl (St s :: tl) (.ref 0) (.d (.int 2)) = some v ∧ R v := ⟨_, rfl, q⟩
instance i_at_acc {R : Val → Prop} : Wp (∃ v, ixVl (St s :: tl) (.ref 0) (.d (.int 2)) = some v ∧ R v) (R (.d (.int s.acc))) := ⟨fun h => at_acc h⟩
theorem at_cnt {R : Val → Prop} (q : R (.d (.int s.cnt))) : ∃ v, ixVl (St s :: tl) (.ref 0) (.d (.int 3)) = some v ∧ R v := ⟨_, rfl, q⟩
instance i_at_cnt {R : Val → Prop} : Wp (∃ v, ixVl (St s :: tl) (.ref 0) (.d (.int 3)) = some v ∧ R v) (R (.d (.int s.cnt))) := ⟨fun h => at_cnt h⟩
end
section
variable {mh : List Ob} {Q : Val → List Ob → Prop}
theorem wr_mul {i j : Int} (h : MulOk i j) (q : Q (.d (.int (i * j))) mh) : WR false (binF .Mult mh (.d (.int i)) (.d (.int j))) mh Q :=
  wr_v (show (if MulOk i j then some (Rv.v (.d (.int (i * j)))) else none) = _ from if_pos h) q
theorem wr_div {i j : Int} (h : 0 < j) (h2 : j.natAbs < 2 ^ 9000) (q : Q (.d (.int (i / j))) mh) : WR false (binF .FloorDiv mh (.d (.int i)) (.d (.int j))) mh Q := by
  have h : DivOk j := ⟨h, h2⟩
  refine wr_v (x := .d (.int (i / j))) ?_ q
  show ((if DivOk j then some (PyData.int (i / j)) else none).map _) = _
  rw [if_pos h]
  rfl
theorem wr_mod {i j : Int} (h : 0 < j) (q : Q (.d (.int (i % j))) mh) : WR false (binF .Mod mh (.d (.int i)) (.d (.int j))) mh Q := by
  refine wr_v (x := .d (.int (i % j))) ?_ q
  show ((if 0 < j then some (PyData.int (i % j)) else none).map _) = _
  rw [if_pos h]
  rfl
theorem wr_pow {i j : Int} (h : 0 ≤ j ∧ j ≤ 1000000 ∧ i.natAbs < 2 ^ 64) (q : Q (.d (.int (i ^ j.toNat))) mh) : WR false (binF .Pow mh (.d (.int i)) (.d (.int j))) mh Q := by
  refine wr_v (x := .d (.int (i ^ j.toNat))) ?_ q
  show ((if 0 ≤ j ∧ j ≤ 1000000 ∧ i.natAbs < 2 ^ 64 then some (PyData.int (i ^ j.toNat)) else none).map _) = _
  rw [if_pos h]
  rfl
theorem mul64 {i j : Int} (h : j.natAbs < 2 ^ 64) : MulOk i j := .inr (.inl h)
theorem mul64' {i j : Int} (h : i.natAbs < 2 ^ 64) : MulOk i j := .inl h
theorem div64 {j : Int} (h : j.natAbs < 2 ^ 64) : j.natAbs < 2 ^ 9000 := Nat.lt_of_lt_of_le h (Nat.pow_le_pow_right (by decide) (by decide))
end
section
variable {mh : List Ob} {A B : Prop} {a b : Int}
theorem br_by {p : Prop} [Decidable p] {f : Option Rv} (e : f = some (.v (.d (.bool (decide p))))) (h1 : p → A) (h2 : ¬ p → B) : ∃ r, f = some (.v (.d (.bool r))) ∧ (r = true → A) ∧ (r = false → B) :=
  ⟨_, e, fun h => h1 (of_decide_eq_true h), fun h => h2 (of_decide_eq_false h)⟩
theorem br_byN {p : Prop} [Decidable p] {f : Option Rv} (e : f = some (.v (.d (.bool (decide p))))) (h1 : p → B) (h2 : ¬ p → A) : ∃ r, f = some (.v (.d (.bool r))) ∧ ((!r) = true → A) ∧ ((!r) = false → B) :=
  ⟨_, e, fun h => h2 (of_decide_eq_false (by simpa using h)), fun h => h1 (of_decide_eq_true (by simpa using h))⟩
theorem br_gt (h1 : b < a → A) (h2 : ¬ b < a → B) : ∃ r, cmpF .Gt mh (.d (.int a)) (.d (.int b)) = some (.v (.d (.bool r))) ∧ (r = true → A) ∧ (r = false → B) := br_by rfl h1 h2
theorem br_lt (h1 : a < b → A) (h2 : ¬ a < b → B) : ∃ r, cmpF .Lt mh (.d (.int a)) (.d (.int b)) = some (.v (.d (.bool r))) ∧ (r = true → A) ∧ (r = false → B) := br_by rfl h1 h2
theorem br_le (h1 : a ≤ b → A) (h2 : ¬ a ≤ b → B) : ∃ r, cmpF .LtE mh (.d (.int a)) (.d (.int b)) = some (.v (.d (.bool r))) ∧ (r = true → A) ∧ (r = false → B) := br_by rfl h1 h2
theorem br_ge (h1 : b ≤ a → A) (h2 : ¬ b ≤ a → B) : ∃ r, cmpF .GtE mh (.d (.int a)) (.d (.int b)) = some (.v (.d (.bool r))) ∧ (r = true → A) ∧ (r = false → B) := br_by rfl h1 h2
theorem br_eq (h1 : a = b → A) (h2 : ¬ a = b → B) : ∃ r, cmpF .Eq mh (.d (.int a)) (.d (.int b)) = some (.v (.d (.bool r))) ∧ (r = true → A) ∧ (r = false → B) := br_by rfl h1 h2
theorem br_ne (h1 : ¬ a = b → A) (h2 : a = b → B) : ∃ r, cmpF .NotEq mh (.d (.int a)) (.d (.int b)) = some (.v (.d (.bool r))) ∧ (r = true → A) ∧ (r = false → B) :=
  ⟨!decide (a = b), rfl, fun h => h1 (of_decide_eq_false (by simpa using h)), fun h => h2 (of_decide_eq_true (by simpa using h))⟩
theorem br_eqS {x y : Str} (h1 : x = y → A) (h2 : ¬ x = y → B) : ∃ r, cmpF .Eq mh (.d (.str x)) (.d (.str y)) = some (.v (.d (.bool r))) ∧ (r = true → A) ∧ (r = false → B) := br_by rfl h1 h2
theorem br_neS {x y : Str} (h1 : ¬ x = y → A) (h2 : x = y → B) : ∃ r, cmpF .NotEq mh (.d (.str x)) (.d (.str y)) = some (.v (.d (.bool r))) ∧ (r = true → A) ∧ (r = false → B) :=
  ⟨!decide (x = y), rfl, fun h => h1 (of_decide_eq_false (by simpa using h)), fun h => h2 (of_decide_eq_true (by simpa using h))⟩
theorem pick_f (h : B) : (false = true → A) ∧ (false = false → B) := ⟨(nomatch ·), fun _ => h⟩
instance i_pick_f  : Wp ((false = true → A) ∧ (false = false → B)) (B) := ⟨fun h => pick_f h⟩
theorem pick_t (h : A) : (true = true → A) ∧ (true = false → B) := ⟨fun _ => h, (nomatch ·)⟩
instance i_pick_t  : Wp ((true = true → A) ∧ (true = false → B)) (A) := ⟨fun h => pick_t h⟩
/-! arithmetic -/
variable {Q : Val → List Ob → Prop}
theorem wr_add (q : Q (.d (.int (a + b))) mh) : WR false (binF .Add mh (.d (.int a)) (.d (.int b))) mh Q := wr_v rfl q
instance i_wr_add  : Wp (WR false (binF .Add mh (.d (.int a)) (.d (.int b))) mh Q) (Q (.d (.int (a + b))) mh) := ⟨fun h => wr_add h⟩
theorem wr_sub (q : Q (.d (.int (a - b))) mh) : WR false (binF .Sub mh (.d (.int a)) (.d (.int b))) mh Q := wr_v rfl q
instance i_wr_sub  : Wp (WR false (binF .Sub mh (.d (.int a)) (.d (.int b))) mh Q) (Q (.d (.int (a - b))) mh) := ⟨fun h => wr_sub h⟩
theorem wr_int (q : Q (.d (.int a)) mh) : WR false (Bi.f .int mh [.d (.int a)]) mh Q := wr_v rfl q
instance i_wr_int  : Wp (WR false (Bi.f .int mh [.d (.int a)]) mh Q) (Q (.d (.int a)) mh) := ⟨fun h => wr_int h⟩
theorem wr_abs (q : Q (.d (.int (if a < 0 then -a else a))) mh) : WR false (Bi.f .abs mh [.d (.int a)]) mh Q := wr_v rfl q
instance i_wr_abs  : Wp (WR false (Bi.f .abs mh [.d (.int a)]) mh Q) (Q (.d (.int (if a < 0 then -a else a))) mh) := ⟨fun h => wr_abs h⟩
theorem wr_len {xs : List Dt} (q : Q (.d (.int xs.length)) mh) : WR false (Bi.f .len mh [.d (.list xs)]) mh Q := by
  refine wr_v (x := .d (.int (xs.map Val.d).length)) rfl ?_
  rw [List.length_map]
  exact q
instance i_wr_len {xs : List Dt} : Wp (WR false (Bi.f .len mh [.d (.list xs)]) mh Q) (Q (.d (.int xs.length)) mh) := ⟨fun h => wr_len h⟩
theorem wr_lenT {xs : List Dt} (q : Q (.d (.int xs.length)) mh) : WR false (Bi.f .len mh [.d (.tuple xs)]) mh Q := by
  refine wr_v (x := .d (.int (xs.map Val.d).length)) rfl ?_
  rw [List.length_map]
  exact q
instance i_wr_lenT {xs : List Dt} : Wp (WR false (Bi.f .len mh [.d (.tuple xs)]) mh Q) (Q (.d (.int xs.length)) mh) := ⟨fun h => wr_lenT h⟩
theorem wr_max (q : Q (.d (.int (if b > a then b else a))) mh) : WR false (Bi.f .max mh [.d (.int a), .d (.int b)]) mh Q := wr_v rfl q
instance i_wr_max  : Wp (WR false (Bi.f .max mh [.d (.int a), .d (.int b)]) mh Q) (Q (.d (.int (if b > a then b else a))) mh) := ⟨fun h => wr_max h⟩
theorem atI_nat' {α : Type} {xs : List α} {j : Nat} {v : α} (h : xs[j]? = some v) : atI xs (j : Int) = some v := atI_nat h
theorem ix_list {R : Val → Prop} {xs : List Dt} {j : Nat} {i : Int} {v : Dt} (e : i = (j : Int)) (h : xs[j]? = some v) (q : R (.d v)) : ∃ v, ixVl mh (.d (.list xs)) (.d (.int i)) = some v ∧ R v := by
  subst e
  refine ⟨.d v, ?_, q⟩
  show atI (xs.map Val.d) (j : Int) = _
  exact atI_nat' (by rw [List.getElem?_map, h]; rfl)
theorem ix_tup {R : Val → Prop} {xs : List Dt} {j : Nat} {i : Int} {v : Dt} (e : i = (j : Int)) (h : xs[j]? = some v) (q : R (.d v)) : ∃ v, ixVl mh (.d (.tuple xs)) (.d (.int i)) = some v ∧ R v := by
  subst e
  refine ⟨.d v, ?_, q⟩
  show atI (xs.map Val.d) (j : Int) = _
  exact atI_nat' (by rw [List.getElem?_map, h]; rfl)
end
section
variable {mh : List Ob} {Q : Val → List Ob → Prop}
theorem tup_by {vs : List Val} {ds : List Dt} {R : List Dt → Prop} (h : asDs vs = some ds) (h2 : Nat.ble ds.length sizeLine = true) (q : R ds) : ∃ ds, asDs vs = some ds ∧ ds.length ≤ sizeLine ∧ R ds := ⟨ds, h, Nat.le_of_ble_eq_true h2, q⟩
theorem lst_by {vs : List Val} {A : Prop} (h : Nat.ble vs.length sizeLine = true) (q : A) : vs.length ≤ sizeLine ∧ A := ⟨Nat.le_of_ble_eq_true h, q⟩
theorem wr_nls {vs : List Val} {ds : List Dt} (h : asDs vs = some ds) (q : Q (.d (.list ds)) mh) : WR false (some (.nl vs)) mh Q := ⟨_, rfl, W.ofO ⟨_, by rw [h]; rfl, q⟩⟩
theorem wr_new {vs : List Val} (q : Q (.ref mh.length) (mh ++ [.lst vs])) : WR true (some (.nl vs)) mh Q := wr_cell rfl q
instance i_wr_new {vs : List Val} : Wp (WR true (some (.nl vs)) mh Q) (Q (.ref mh.length) (mh ++ [.lst vs])) := ⟨fun h => wr_new h⟩
theorem wr_newD {kvs : List (Key × Val)} (q : Q (.ref mh.length) (mh ++ [.dct kvs])) : WR true (some (.nd kvs)) mh Q := wr_dcell rfl q
instance i_wr_newD {kvs : List (Key × Val)} : Wp (WR true (some (.nd kvs)) mh Q) (Q (.ref mh.length) (mh ++ [.dct kvs])) := ⟨fun h => wr_newD h⟩
theorem wr_tup {ds : List Dt} (q : Q (.d (.tuple ds)) mh) : WR false (Bi.f .tuple mh [.d (.list ds)]) mh Q := by
  refine wr_v (x := .d (.tuple ds)) ?_ q
  show ((asDs (ds.map Val.d)).map fun ds => Rv.v (.d (.tuple ds))) = _
  rw [asDs_map]
  rfl
instance i_wr_tup {ds : List Dt} : Wp (WR false (Bi.f .tuple mh [.d (.list ds)]) mh Q) (Q (.d (.tuple ds)) mh) := ⟨fun h => wr_tup h⟩
theorem wr_tupT {ds : List Dt} (q : Q (.d (.tuple ds)) mh) : WR false (Bi.f .tuple mh [.d (.tuple ds)]) mh Q := by
  refine wr_v (x := .d (.tuple ds)) ?_ q
  show ((asDs (ds.map Val.d)).map fun ds => Rv.v (.d (.tuple ds))) = _
  rw [asDs_map]
  rfl
instance i_wr_tupT {ds : List Dt} : Wp (WR false (Bi.f .tuple mh [.d (.tuple ds)]) mh Q) (Q (.d (.tuple ds)) mh) := ⟨fun h => wr_tupT h⟩
end
end Pv

/-! P16: cells that are frozen; dicts by texts; words -/
namespace Pv
open PySem PySem.Spec PyProof.Rows L2

section
variable {gl : List (Str × Dt)} {c : Nat → List Val → M Val} {env : Sl} {mh : List Ob} {Q : Fl → List Ob → Prop} {b : Ss}
theorem ws_frz {i n : Nat} {v : Dt} (h0 : env.getD i none = some (.ref n)) (h : mFrz i env mh = some (.nx (env.set i (some (.d v))), mh.set n .dead)) (q : WS gl c b (env.set i (some (.d v))) (mh.set n .dead) Q) : WS gl c (.frz i b) env mh Q :=
  W.bind ⟨_, _, h, q⟩
theorem frz_lst {i n : Nat} {ds : List Dt} (h0 : env.getD i none = some (.ref n)) (h : mh[n]? = some (.lst (ds.map Val.d))) (q : WS gl c b (env.set i (some (.d (.list ds)))) (mh.set n .dead) Q) : WS gl c (.frz i b) env mh Q := by
  refine ws_frz h0 ?_ q
  unfold mFrz
  rw [h0]
  show (match mh[n]? with | some (.lst vs) => _ | some (.dct kvs) => _ | _ => none : Option (Fl × List Ob)) = _
  rw [h]
  show (asDs (ds.map Val.d)).map _ = _
  rw [asDs_map]
  rfl
theorem frz_dct {i n : Nat} {kvs : List (Key × Val)} {ds : List (Dt × Dt)} (h0 : env.getD i none = some (.ref n)) (h : mh[n]? = some (.dct kvs)) (hd : asDKs kvs = some ds) (q : WS gl c b (env.set i (some (.d (.dict ds)))) (mh.set n .dead) Q) : WS gl c (.frz i b) env mh Q := by
  refine ws_frz h0 ?_ q
  unfold mFrz
  rw [h0]
  show (match mh[n]? with | some (.lst vs) => _ | some (.dct kvs) => _ | _ => none : Option (Fl × List Ob)) = _
  rw [h]
  show (asDKs kvs).map _ = _
  rw [hd]
  rfl
end
/-! a cell at the end of the cells -/
section
variable {mh : List Ob} {o o2 : Ob}
theorem end_get : (mh ++ [o])[mh.length]? = some o := by simp
theorem end_set : (mh ++ [o]).set mh.length o2 = mh ++ [o2] := by simp [List.set_append]
theorem st_get {s : Ds} {tl : List Ob} : (St s :: (tl ++ [o]))[tl.length + 1]? = some o := by simp
theorem st_set {s : Ds} {tl : List Ob} : (St s :: (tl ++ [o])).set (tl.length + 1) o2 = St s :: (tl ++ [o2]) := by simp [List.set_append]
theorem app_end {vs : List Val} {n : Nat} {v : Val} {mh : List Ob} {Q : Val → List Ob → Prop} (h : mh[n]? = some (.lst vs)) (hl : vs.length < sizeLine) (q : Q (.d .none) (mh.set n (.lst (vs ++ [v])))) : W (Mt.f .append (.ref n) [v]) mh Q := by
  refine ⟨.d .none, _, ?_, q⟩
  show (match mh[n]? with | some (.lst vs) => if vs.length < sizeLine then some (Val.d .none, mh.set n (.lst (vs ++ [v]))) else none | _ => none) = _
  rw [h]
  exact if_pos hl
theorem rcv_lst {vs : List Val} {n : Nat} {mh : List Ob} (h : mh[n]? = some (.lst vs)) : rcv "list" (.ref n) mh = true := by
  unfold rcv
  simp only [h]
  rfl
theorem rcv_dct {vs : List (Key × Val)} {n : Nat} {mh : List Ob} (h : mh[n]? = some (.dct vs)) : rcv "dict" (.ref n) mh = true := by
  unfold rcv
  simp only [h]
  rfl
end
/-! ### dicts from texts to whole numbers, as the evaluator holds them -/
section
variable {α : Type} (em : α → Dt)
def mapK (m : List (Str × α)) : List (Key × Val) := m.map fun p => (Sum.inr p.1, .d (em p.2))
def datK (m : List (Str × α)) : Dt := .dict (m.map fun p => (.str p.1, em p.2))
def lkS {α : Type} (m : List (Str × α)) (x : Str) : Option α := (m.find? fun p => decide (p.1 = x)).map (·.2)
def putS {α : Type} (m : List (Str × α)) (x : Str) (v : α) : List (Str × α) := if (m.any fun p => decide (p.1 = x)) = true then m.map fun p => if p.1 = x then (p.1, v) else p else m ++ [(x, v)]
theorem find_mapK (m : List (Str × α)) (x : Str) : findK (mapK em m) (.inr x) = (lkS m x).map fun a => .d (em a) := by
  induction m with
  | nil => rfl
  | cons p m ih =>
    unfold findK lkS mapK at *
    rw [List.map_cons, List.find?_cons, List.find?_cons]
    by_cases h : p.1 = x
    · rw [show decide ((Sum.inr p.1 : Key) = Sum.inr x) = true by rw [h]; simp, show decide (p.1 = x) = true from decide_eq_true h]
      rfl
    · rw [show decide ((Sum.inr p.1 : Key) = Sum.inr x) = false by simp [h], show decide (p.1 = x) = false from decide_eq_false h]
      exact ih
theorem put_mapK (m : List (Str × α)) (x : Str) (v : α) : putV (mapK em m) (.inr x) (.d (em v)) = mapK em (putS m x v) := by
  unfold putV putS mapK
  rw [List.any_map]
  have e : ((fun kv : Key × Val => decide (kv.1 = Sum.inr x)) ∘ fun p : Str × α => (Sum.inr p.1, Val.d (em p.2))) = fun p => decide (p.1 = x) := by
    funext p
    show decide ((Sum.inr p.1 : Key) = Sum.inr x) = decide (p.1 = x)
    by_cases h : p.1 = x <;> simp [h]
  rw [e]
  split
  · rw [List.map_map, List.map_map]
    refine List.map_congr_left fun p _ => ?_
    show (if (Sum.inr p.1 : Key) = Sum.inr x then _ else _) = _
    by_cases h : p.1 = x
    · simp [h]
    · simp [h]
  · rw [List.map_append]
    rfl
theorem unkey_datK (m : List (Str × α)) : unkey (m.map fun p => (.str p.1, em p.2)) = some (mapK em m) := by
  induction m with
  | nil => rfl
  | cons p m ih =>
    show (match keyD (.str p.1), unkey (m.map fun p => (PyData.str p.1, em p.2)) with | some k, some xs => some ((k, Val.d (em p.2)) :: xs) | _, _ => none) = _
    rw [ih]
    rfl
theorem asDKs_mapK (m : List (Str × α)) : asDKs (mapK em m) = some (m.map fun p => (.str p.1, em p.2)) := by
  induction m with
  | nil => rfl
  | cons p m ih =>
    show (match asD (Val.d (em p.2)), asDKs (mapK em m) with | some x, some xs => some ((kD (Sum.inr p.1), x) :: xs) | _, _ => none) = _
    rw [ih]
    rfl
theorem keysS_mapK (m : List (Str × α)) : keysS (mapK em m) = some (m.map (·.1)) := by
  induction m with
  | nil => rfl
  | cons p m ih =>
    show (match keyS (Sum.inr p.1), keysS (mapK em m) with | some k, some xs => some (k :: xs) | _, _ => none) = _
    rw [ih]
    rfl
end
section
variable {α : Type} {m : List (Str × α)} {x y : Str} {v w : α}
theorem lkS_mem (h : lkS m x = some v) : (x, v) ∈ m := by
  unfold lkS at h
  obtain ⟨p, h1, rfl⟩ := Option.map_eq_some_iff.mp h
  have h2 := List.find?_some h1
  have h3 : p.1 = x := of_decide_eq_true h2
  subst h3
  exact List.mem_of_find?_eq_some h1
theorem lkS_of_mem (h : x ∈ m.map (·.1)) : ∃ v, lkS m x = some v := by
  obtain ⟨p, hp, rfl⟩ := List.mem_map.mp h
  unfold lkS
  cases e : m.find? fun q => decide (q.1 = p.1) with
  | some q => exact ⟨q.2, rfl⟩
  | none => exact absurd (show decide (p.1 = p.1) = true from decide_eq_true rfl) (List.find?_eq_none.mp e p hp)
theorem putS_mem {p : Str × α} (h : p ∈ putS m x v) : p ∈ m ∨ p = (x, v) := by
  unfold putS at h
  split at h
  · obtain ⟨q, hq, rfl⟩ := List.mem_map.mp h
    split
    · rename_i e; subst e; exact .inr rfl
    · exact .inl hq
  · rcases List.mem_append.mp h with h | h
    · exact .inl h
    · exact .inr (List.mem_singleton.mp h)
theorem putS_length : (putS m x v).length ≤ m.length + 1 := by
  unfold putS
  split
  · rw [List.length_map]; omega
  · rw [List.length_append]; exact Nat.le_refl _
theorem lkS_put_same : lkS (putS m x v) x = some v := by
  unfold putS
  split
  · rename_i h
    unfold lkS
    induction m with
    | nil => simp at h
    | cons p m ih =>
      rw [List.map_cons, List.find?_cons]
      by_cases hp : p.1 = x
      · rw [if_pos hp, show decide (p.1 = x) = true from decide_eq_true hp]
        rfl
      · rw [if_neg hp, show decide (p.1 = x) = false from decide_eq_false hp]
        refine ih ?_
        rw [List.any_cons, show decide (p.1 = x) = false from decide_eq_false hp, Bool.false_or] at h
        exact h
  · rename_i h
    unfold lkS
    rw [List.find?_append]
    have : m.find? (fun p => decide (p.1 = x)) = none := by
      rw [List.find?_eq_none]
      intro p hp z
      exact h (List.any_eq_true.mpr ⟨p, hp, z⟩)
    rw [this]
    simp
theorem lkS_put_ne (hxy : y ≠ x) : lkS (putS m x v) y = lkS m y := by
  unfold putS
  split
  · unfold lkS
    rename_i hh
    clear hh
    induction m with
    | nil => rfl
    | cons p m ih =>
      rw [List.map_cons, List.find?_cons, List.find?_cons]
      by_cases hp : p.1 = x
      · rw [if_pos hp]
        have : decide (p.1 = y) = false := decide_eq_false fun e => hxy (e.symm.trans hp)
        simp only [this]
        exact ih
      · rw [if_neg hp]
        cases decide (p.1 = y)
        · exact ih
        · rfl
  · unfold lkS
    rw [List.find?_append]
    cases m.find? fun p => decide (p.1 = y) with
    | some q => rfl
    | none => simp [Ne.symm hxy]
end
/-! ### words -/
def Wo (x : Str) : Prop := PySem.PyData.strOk x = true ∧ x.length ≤ 64
theorem wo_app {x y : Str} (hx : PySem.PyData.strOk x = true) (hy : PySem.PyData.strOk y = true) : PySem.PyData.strOk (x ++ y) = true := by
  unfold PySem.PyData.strOk at *
  show ((x.cps ++ y.cps).all _) = true
  rw [Array.all_append, hx, hy]
  rfl
theorem len_app (x y : Str) : (x ++ y).length = x.length + y.length := by
  show (x.cps ++ y.cps).size = _
  rw [Array.size_append]
  rfl
section
variable {mh : List Ob} {Q : Val → List Ob → Prop}
theorem wr_addS {x y : Str} (h : x.length + y.length ≤ sizeLine) (q : Q (.d (.str (x ++ y))) mh) : WR false (binF .Add mh (.d (.str x)) (.d (.str y))) mh Q :=
  wr_v (show (if x.length + y.length ≤ sizeLine then some (Rv.v (.d (.str (x ++ y)))) else none) = _ from if_pos h) q
theorem ixS_str {R : Val → Prop} {z : Str} {j : Nat} {i : Int} {n : Nat} (hl : z.length ≤ sizeLine) (e : i = (j : Int)) (h : z.cps.toList[j]? = some n) (q : R (.d (.str ⟨#[n]⟩))) : ∃ v, ixVl mh (.d (.str z)) (.d (.int i)) = some v ∧ R v := by
  subst e
  refine ⟨_, ?_, q⟩
  show (if z.length ≤ sizeLine then (atI z.cps.toList (j : Int)).map fun c => Val.d (.str ⟨#[c]⟩) else none) = _
  rw [if_pos hl, atI_nat' h]
  rfl
theorem wr_slS {z : Str} {lo hi : Option Int} (h : z.length ≤ sizeLine) (q : Q (.d (.str (cutS z lo hi))) mh) : WR false (slVl mh (.d (.str z)) lo hi) mh Q :=
  wr_v (show (if z.length ≤ sizeLine then some (Rv.v (.d (.str (cutS z lo hi)))) else none) = _ from if_pos h) q
theorem wr_slT {xs : List Dt} {lo hi : Option Int} (q : Q (.d (.tuple (cutG xs lo hi))) mh) : WR false (slVl mh (.d (.tuple xs)) lo hi) mh Q := wr_v rfl q
instance i_wr_slT {xs : List Dt} {lo hi : Option Int} : Wp (WR false (slVl mh (.d (.tuple xs)) lo hi) mh Q) (Q (.d (.tuple (cutG xs lo hi))) mh) := ⟨fun h => wr_slT h⟩
theorem wr_slL {xs : List Dt} {lo hi : Option Int} (q : Q (.d (.list (cutG xs lo hi))) mh) : WR false (slVl mh (.d (.list xs)) lo hi) mh Q := by
  refine wr_nl ?_ q
  show some (Rv.nl (cutG (xs.map Val.d) lo hi)) = _
  unfold cutG
  rw [List.map_take, List.map_drop, List.length_map]
instance i_wr_slL {xs : List Dt} {lo hi : Option Int} : Wp (WR false (slVl mh (.d (.list xs)) lo hi) mh Q) (Q (.d (.list (cutG xs lo hi))) mh) := ⟨fun h => wr_slL h⟩
theorem ix_dct' {α : Type} {em : α → Dt} {R : Val → Prop} {m : List (Str × α)} {x : Str} {a : α} (h : lkS m x = some a) (q : R (.d (em a))) : ∃ v, ixVl mh (.d (datK em m)) (.d (.str x)) = some v ∧ R v := by
  refine ⟨_, ?_, q⟩
  show (match unkey (m.map fun p => (PyData.str p.1, em p.2)) with | some kvs => (keyVl (.d (.str x))).bind (findK kvs) | none => _) = _
  rw [unkey_datK]
  show findK (mapK em m) (.inr x) = _
  rw [find_mapK, h]
  rfl
end
/-! ### data that may be compared -/
def Shp (n : Nat) (d : Dt) : Prop := d.canLay0 = true ∧ d.depth ≤ n
theorem shp_int {n : Nat} (i : Int) : Shp n (.int i) := ⟨by simp only [PyData.canLay0], by simp only [PyData.depth]; exact Nat.zero_le _⟩
theorem shp_str {n : Nat} {x : Str} (h : PyData.strOk x = true) : Shp n (.str x) := ⟨by simp only [PyData.canLay0]; exact h, by simp only [PyData.depth]; exact Nat.zero_le _⟩
theorem shp_all {n : Nat} : ∀ {xs : List Dt}, (∀ x ∈ xs, Shp n x) → PyData.canLayAll0 xs = true ∧ PyData.depthAll xs ≤ n
  | [], _ => ⟨by simp only [PyData.canLayAll0], by simp only [PyData.depthAll]; exact Nat.zero_le _⟩
  | x :: xs, h => by
    obtain ⟨h1, h2⟩ := shp_all fun y hy => h y (List.mem_cons_of_mem _ hy)
    obtain ⟨h3, h4⟩ := h x List.mem_cons_self
    exact ⟨by simp only [PyData.canLayAll0, h1, h3, Bool.and_self], by simp only [PyData.depthAll]; exact Nat.max_le.mpr ⟨h4, h2⟩⟩
theorem shp_tup {n : Nat} {xs : List Dt} (h : ∀ x ∈ xs, Shp n x) : Shp (n + 1) (.tuple xs) := by
  obtain ⟨h1, h2⟩ := shp_all h
  exact ⟨by simp only [PyData.canLay0]; exact h1, by simp only [PyData.depth]; exact Nat.succ_le_succ h2⟩
theorem shp_lst {n : Nat} {xs : List Dt} (h : ∀ x ∈ xs, Shp n x) : Shp (n + 1) (.list xs) := by
  obtain ⟨h1, h2⟩ := shp_all h
  exact ⟨by simp only [PyData.canLay0]; exact h1, by simp only [PyData.depth]; exact Nat.succ_le_succ h2⟩
theorem Shp.mono {n m : Nat} {d : Dt} (h : Shp n d) (hm : n ≤ m) : Shp m d := ⟨h.1, Nat.le_trans h.2 hm⟩
theorem Shp.shaped {n : Nat} {d : Dt} (h : Shp n d) (hn : n ≤ 64) : SeqAt.shaped d = true := by
  show (d.canLay0 && decide (d.depth ≤ 64)) = true
  rw [h.1, decide_eq_true (Nat.le_trans h.2 hn)]
  rfl
section
variable {mh : List Ob}
/-- two tuples -/
theorem eqD_tup {xs ys : List Dt} (h1 : SeqAt.shaped (.tuple xs) = true) (h2 : SeqAt.shaped (.tuple ys) = true) : eqD (.tuple xs) (.tuple ys) = some (PyData.eqv (.tuple xs) (.tuple ys)) := by
  show (if SeqAt.shaped (.tuple xs) = true ∧ SeqAt.shaped (.tuple ys) = true then some (PyData.eqv (.tuple xs) (.tuple ys)) else none) = _
  rw [if_pos ⟨h1, h2⟩]
theorem ne_tup {xs ys : List Dt} (h1 : SeqAt.shaped (.tuple xs) = true) (h2 : SeqAt.shaped (.tuple ys) = true) : cmpF .NotEq mh (.d (.tuple xs)) (.d (.tuple ys)) = some (.v (.d (.bool (!PyData.eqv (.tuple xs) (.tuple ys))))) := by
  show bR ((eqD (.tuple xs) (.tuple ys)).map (!·)) = _
  rw [eqD_tup h1 h2]
  rfl
/-- in a list that is a cell -/
theorem in_cell {n : Nat} {x : Dt} {ys : List Dt} (h : mh[n]? = some (.lst (ys.map Val.d))) (hx : SeqAt.shaped x = true) (hy : SeqAt.shaped (.list ys) = true) (hf : flatD x = false) : inV2 mh (.d x) (.ref n) = some (ys.any fun y => PyData.eqv y x) := by
  have h1 : dctOf mh (.ref n) = none := by unfold dctOf; simp only [h]
  have h2 : seqL mh (.ref n) = some (ys.map Val.d) := by show cellL mh n = _; unfold cellL; simp only [h]
  have h3 : seqA mh (.ref n) = some (ys.map Val.d) := h2
  unfold inV2
  rw [h1]
  simp only
  rw [h3]
  rw [show (some (ys.map Val.d)).bind asDs = some ys from asDs_map ys]
  show ((inSeq x ys).orElse fun _ => if (seqL mh (.ref n)).isNone then none else if SeqAt.shaped x = true ∧ SeqAt.shaped (.list ys) = true then some (ys.any fun y => PyData.eqv y x) else none) = _
  have h4 : inSeq x ys = none := by unfold inSeq; rw [hf]; simp
  rw [h4, h2]
  show (if SeqAt.shaped x = true ∧ SeqAt.shaped (.list ys) = true then some (ys.any fun y => PyData.eqv y x) else none) = _
  rw [if_pos ⟨hx, hy⟩]
theorem notin_cell {n : Nat} {x : Dt} {ys : List Dt} (h : mh[n]? = some (.lst (ys.map Val.d))) (hx : SeqAt.shaped x = true) (hy : SeqAt.shaped (.list ys) = true) (hf : flatD x = false) : cmpF .NotIn mh (.d x) (.ref n) = some (.v (.d (.bool (!ys.any fun y => PyData.eqv y x)))) := by
  show bR ((inV2 mh (.d x) (.ref n)).map (!·)) = _
  rw [in_cell h hx hy hf]
  rfl
theorem len_cell {n : Nat} {ys : List Val} {Q : Val → List Ob → Prop} (h : mh[n]? = some (.lst ys)) (q : Q (.d (.int ys.length)) mh) : WR false (Bi.f .len mh [.ref n]) mh Q := by
  refine wr_v (x := .d (.int ys.length)) ?_ q
  have h1 : dctOf mh (.ref n) = none := by unfold dctOf; simp only [h]
  have h2 : seqA mh (.ref n) = some ys := by show cellL mh n = _; unfold cellL; simp only [h]
  show (match dctOf mh (.ref n) with | some kvs => _ | none => match seqA mh (.ref n) with | some vs => some (Rv.v (.d (.int vs.length))) | none => _) = _
  rw [h1]
  simp only [h2]
theorem ix_cell {n j : Nat} {i : Int} {ys : List Val} {v : Val} {R : Val → Prop} (h : mh[n]? = some (.lst ys)) (e : i = (j : Int)) (hv : ys[j]? = some v) (q : R v) : ∃ v, ixVl mh (.ref n) (.d (.int i)) = some v ∧ R v := by
  subst e
  refine ⟨v, ?_, q⟩
  have h1 : dctOf mh (.ref n) = none := by unfold dctOf; simp only [h]
  have h2 : seqA mh (.ref n) = some ys := by show cellL mh n = _; unfold cellL; simp only [h]
  unfold ixVl
  rw [h1]
  simp only [h2]
  exact atI_nat' hv
theorem cutG_to {α : Type} (xs : List α) (k : Nat) : cutG xs none (some (k : Int)) = xs.take k := by
  unfold cutG
  rw [show HT.sIx xs.length 0 none = 0 from rfl, HT.sIx_nat, List.drop_zero, Nat.sub_zero]
  rcases Nat.le_total k xs.length with h | h
  · rw [Nat.min_eq_left h]
  · rw [Nat.min_eq_right h, List.take_length, List.take_of_length_le h]
theorem cutG_from {α : Type} (xs : List α) (k : Nat) : cutG xs (some (k : Int)) none = xs.drop k := by
  unfold cutG
  rw [show HT.sIx xs.length xs.length none = xs.length from rfl, HT.sIx_nat]
  rcases Nat.le_total k xs.length with h | h
  · rw [Nat.min_eq_left h, List.take_of_length_le (by rw [List.length_drop]; exact Nat.le_refl _)]
  · rw [Nat.min_eq_right h, List.drop_length, List.drop_of_length_le h, List.take_nil]
end
end Pv

/-! P17: rules for draws in comprehensions and loops; ends of defs; words -/
namespace Pv
open PySem PySem.Spec PyProof.Rows L2

theorem big_sz {n : Nat} (h : n < 100000) : n < sizeLine := by have : sizeLine = 16777216 := rfl; omega
theorem items_map {α : Type} (xs : List α) (g : α → Dt) : ((xs.map g).map Val.d) = xs.map fun x => Val.d (g x) := by rw [List.map_map]; rfl
theorem rg_items (n : Nat) : rgItems 0 n = (List.range n).map fun (i : Nat) => Val.d (.int (0 + (i : Int))) := rfl
theorem rg_at {n i : Nat} {v : Val} (h : (rgItems 0 n)[i]? = some v) : i < n ∧ v = .d (.int (i : Int)) := by
  rw [rg_items, List.getElem?_map] at h
  obtain ⟨j, hj, rfl⟩ := Option.map_eq_some_iff.mp h
  obtain ⟨h1, h2⟩ := List.getElem?_eq_some_iff.mp hj
  rw [List.length_range] at h1
  rw [List.getElem_range] at h2
  subst h2
  rw [Int.zero_add]
  exact ⟨h1, rfl⟩
theorem rg_len {n : Nat} : (rgItems 0 n).length = n := by rw [rg_items, List.length_map, List.length_range]
theorem rg_map (n : Nat) : rgItems 0 n = (List.range n).map fun (i : Nat) => Val.d (.int (i : Int)) := by
  rw [rg_items]
  refine List.map_congr_left fun i _ => ?_
  rw [Int.zero_add]
section
variable {R : Ix → Prop} {mh : List Ob}
theorem rg1 {n : Nat} {i : Int} (e : i = (n : Int)) (h : n ≤ 16777216) (q : R ⟨rgItems 0 n, []⟩) : ∃ ix, rng1 [.d (.int i)] = some ix ∧ R ix := by
  subst e
  refine ⟨_, ?_, q⟩
  show (if -(2 ^ 62) ≤ (n : Int) ∧ (n : Int) ≤ 16777216 then some (Ix.mk (rgItems 0 (n : Int).toNat) []) else none) = _
  rw [if_pos (by omega), Int.toNat_natCast]
theorem ix_L {α : Type} {xs : List α} {em : α → Dt} (q : R ⟨xs.map fun x => Val.d (em x), []⟩) : ∃ ix, ixOf mh (.d (.list (xs.map em))) = some ix ∧ R ix := ⟨⟨(xs.map em).map Val.d, []⟩, rfl, by rw [items_map]; exact q⟩
theorem ix_T {α : Type} {xs : List α} {em : α → Dt} (q : R ⟨xs.map fun x => Val.d (em x), []⟩) : ∃ ix, ixOf mh (.d (.tuple (xs.map em))) = some ix ∧ R ix := ⟨⟨(xs.map em).map Val.d, []⟩, rfl, by rw [items_map]; exact q⟩
end
theorem gnil {mh : List Ob} : gOk [] mh := fun _ h => nomatch h
section
variable {gl : List (Str × Dt)} {c : Nat → List Val → M Val} {env : Sl} {α : Type} {g : G} {t : T} {el : Sl → M Val} {s : Ds} {tl : List Ob}
/-- a comprehension whose turns draw -/
theorem wc_gen {items : List Val} {Q : List Val → List Ob → Prop} (emb : α → Dt) (R : Nat → α → Prop)
    (hs : ∀ i v s, items[i]? = some v → WG gl c g v env (St s :: tl) fun e1 m1 => WT gl c t e1 m1 fun b m2 => b = true ∧ W (el e1) m2 fun y m3 => ∃ a s', y = .d (emb a) ∧ m3 = St s' :: tl ∧ R i a)
    (hq : ∀ (as : List α) s', as.length = items.length → (∀ i a, as[i]? = some a → R i a) → Q ((as.map emb).map .d) (St s' :: tl)) : WC gl c g t el env ⟨items, []⟩ (St s :: tl) Q := by
  refine wc_inv (ix := ⟨items, []⟩) (fun i acc m => ∃ (as : List α) (s' : Ds), acc = (as.map emb).map .d ∧ m = St s' :: tl ∧ as.length = i ∧ ∀ j a, as[j]? = some a → R j a) (fun _ _ _ _ => gnil) ⟨[], s, rfl, rfl, rfl, fun j a h => by simp at h⟩ (fun i v acc m hv I => ?_) (fun acc m I => ?_)
  · obtain ⟨as, s', rfl, rfl, h1, h2⟩ := I
    refine W.mono (hs i v s' hv) fun e1 m1 h3 => W.mono h3 fun b m2 ⟨hb, h4⟩ => ⟨fun _ => h4.mono fun y m3 ⟨a, s2, e1, e2, h5⟩ => ?_, fun z => by rw [hb] at z; cases z⟩
    subst e1 e2
    refine ⟨as ++ [a], s2, by rw [List.map_append, List.map_append]; rfl, rfl, by rw [List.length_append, h1]; rfl, fun j b hj => ?_⟩
    by_cases hlt : j < as.length
    · rw [List.getElem?_append_left hlt] at hj
      exact h2 j b hj
    · rw [List.getElem?_append_right (by omega)] at hj
      have : j - as.length = 0 := by
        obtain ⟨hh, _⟩ := List.getElem?_eq_some_iff.mp hj
        simp at hh; omega
      rw [this] at hj
      have : j = i := by omega
      subst this
      cases hj
      exact h5
  · obtain ⟨as, s', rfl, rfl, h1, h2⟩ := I
    exact hq as s' h1 h2
theorem wc_genR {n : Nat} {Q : List Val → List Ob → Prop} (emb : α → Dt) (R : α → Prop)
    (hs : ∀ (i : Nat) s, i < n → WG gl c g (.d (.int (i : Int))) env (St s :: tl) fun e1 m1 => WT gl c t e1 m1 fun b m2 => b = true ∧ W (el e1) m2 fun y m3 => ∃ a s', y = .d (emb a) ∧ m3 = St s' :: tl ∧ R a)
    (hq : ∀ (as : List α) s', as.length = n → (∀ a ∈ as, R a) → Q ((as.map emb).map .d) (St s' :: tl)) : WC gl c g t el env ⟨rgItems 0 n, []⟩ (St s :: tl) Q :=
  wc_gen emb (fun _ => R) (fun i v s hv => by
    obtain ⟨h1, rfl⟩ := rg_at hv
    exact hs i s h1) fun as s' h1 h2 => hq as s' (h1.trans rg_len) fun a ha => by
      obtain ⟨j, hj, e⟩ := List.getElem_of_mem ha
      exact h2 j a (by rw [List.getElem?_eq_getElem hj, e])
theorem wc_genL {β : Type} {xs : List β} {em : β → Val} {Q : List Val → List Ob → Prop} (emb : α → Dt) (R : β → α → Prop)
    (hs : ∀ x s, x ∈ xs → WG gl c g (em x) env (St s :: tl) fun e1 m1 => WT gl c t e1 m1 fun b m2 => b = true ∧ W (el e1) m2 fun y m3 => ∃ a s', y = .d (emb a) ∧ m3 = St s' :: tl ∧ R x a)
    (hq : ∀ (as : List α) s', as.length = xs.length → (∀ (i : Nat) x a, xs[i]? = some x → as[i]? = some a → R x a) → Q ((as.map emb).map .d) (St s' :: tl)) : WC gl c g t el env ⟨xs.map em, []⟩ (St s :: tl) Q :=
  wc_gen emb (fun i a => ∀ x, xs[i]? = some x → R x a) (fun i v s hv => by
    rw [List.getElem?_map] at hv
    obtain ⟨x, h1, rfl⟩ := Option.map_eq_some_iff.mp hv
    refine W.mono (hs x s (List.mem_of_getElem? h1)) fun e1 m1 h3 => W.mono h3 fun b m2 ⟨hb, h4⟩ => ⟨hb, h4.mono fun y m3 ⟨a, s2, e1, e2, h5⟩ => ⟨a, s2, e1, e2, fun y hy => ?_⟩⟩
    rw [h1] at hy
    cases hy
    exact h5) fun as s' h1 h2 => hq as s' (h1.trans (List.length_map _)) fun i x a h3 h4 => h2 i a h4 x h3
/-- the same, some left out -/
theorem wc_genF {β : Type} {xs : List β} {em : β → Val} {Q : List Val → List Ob → Prop} (emb : α → Dt) (R : α → Prop)
    (hs : ∀ x s, x ∈ xs → WG gl c g (em x) env (St s :: tl) fun e1 m1 => WT gl c t e1 m1 fun b m2 => (b = true → W (el e1) m2 fun y m3 => ∃ a s', y = .d (emb a) ∧ m3 = St s' :: tl ∧ R a) ∧ (b = false → ∃ s', m2 = St s' :: tl))
    (hq : ∀ (as : List α) s', as.length ≤ xs.length → (∀ a ∈ as, R a) → Q ((as.map emb).map .d) (St s' :: tl)) : WC gl c g t el env ⟨xs.map em, []⟩ (St s :: tl) Q := by
  refine wc_inv (ix := ⟨xs.map em, []⟩) (fun i acc m => ∃ (as : List α) (s' : Ds), acc = (as.map emb).map .d ∧ m = St s' :: tl ∧ as.length ≤ i ∧ ∀ a ∈ as, R a) (fun _ _ _ _ => gnil) ⟨[], s, rfl, rfl, Nat.le_refl _, fun _ h => nomatch h⟩ (fun i v acc m hv I => ?_) (fun acc m I => ?_)
  · obtain ⟨as, s', rfl, rfl, h1, h2⟩ := I
    have hv : (xs.map em)[i]? = some v := hv
    rw [List.getElem?_map] at hv
    obtain ⟨x, h0, rfl⟩ := Option.map_eq_some_iff.mp hv
    refine W.mono (hs x s' (List.mem_of_getElem? h0)) fun e1 m1 h3 => W.mono h3 fun b m2 ⟨h4, h5⟩ => ⟨fun z => (h4 z).mono fun y m3 ⟨a, s2, e1, e2, h6⟩ => ?_, fun z => ?_⟩
    · subst e1 e2
      refine ⟨as ++ [a], s2, by rw [List.map_append, List.map_append]; rfl, rfl, by rw [List.length_append]; exact Nat.succ_le_succ h1, fun b hb => ?_⟩
      rcases List.mem_append.mp hb with hb | hb
      · exact h2 b hb
      · rw [List.mem_singleton.mp hb]; exact h6
    · obtain ⟨s2, e⟩ := h5 z
      exact ⟨as, s2, rfl, e, Nat.le_succ_of_le h1, h2⟩
  · obtain ⟨as, s', rfl, rfl, h1, h2⟩ := I
    have h1 : as.length ≤ (xs.map em).length := h1
    rw [List.length_map] at h1
    exact hq as s' h1 h2
end
section
variable {gl : List (Str × Dt)} {c : Nat → List Val → M Val} {env : Sl} {mh : List Ob} {Q : Fl → List Ob → Prop} {g : G} {x : Ss}
theorem wl_invR {n : Nat} (I : Nat → Sl → List Ob → Prop) (h0 : I 0 env mh)
    (hs : ∀ (i : Nat) e m, i < n → I i e m → WG gl c g (.d (.int (i : Int))) e m fun e1 m1 => WS gl c x e1 m1 fun f m2 => match f with
      | .nx e2 => I (i + 1) e2 m2 | .ct e2 => I (i + 1) e2 m2 | .bk e2 => Q (.nx e2) m2 | .rt r => Q (.rt r) m2)
    (hq : ∀ e m, I n e m → Q (.nx e) m) : WL gl c g x [] (rgItems 0 n) env mh Q :=
  wl_inv I (fun _ _ _ _ => gnil) h0 (fun i v e m hv hI => by
    obtain ⟨h1, rfl⟩ := rg_at hv
    exact hs i e m h1 hI) fun e m hI => hq e m (by rw [rg_len] at hI; exact hI)
theorem wl_invL {β : Type} {xs : List β} {em : β → Val} (I : Nat → Sl → List Ob → Prop) (h0 : I 0 env mh)
    (hs : ∀ (i : Nat) y e m, xs[i]? = some y → I i e m → WG gl c g (em y) e m fun e1 m1 => WS gl c x e1 m1 fun f m2 => match f with
      | .nx e2 => I (i + 1) e2 m2 | .ct e2 => I (i + 1) e2 m2 | .bk e2 => Q (.nx e2) m2 | .rt r => Q (.rt r) m2)
    (hq : ∀ e m, I xs.length e m → Q (.nx e) m) : WL gl c g x [] (xs.map em) env mh Q :=
  wl_inv I (fun _ _ _ _ => gnil) h0 (fun i v e m hv hI => by
    rw [List.getElem?_map] at hv
    obtain ⟨y, h1, rfl⟩ := Option.map_eq_some_iff.mp hv
    exact hs i y e m h1 hI) fun e m hI => hq e m (by rw [List.length_map] at hI; exact hI)
end
/-! ends of defs -/
section
variable {s' : Ds} {tl os os2 mh : List Ob} {x : Dt} {Q : Val → List Ob → Prop}
theorem fin0 (h : Q (.d x) (St s' :: tl)) : ∃ y t os, (Fl.rt (.d x) = .rt (.d y) ∨ ∃ e, Fl.rt (.d x) = .nx e ∧ y = .none) ∧ St s' :: tl = St t :: (tl ++ os) ∧ Q (.d y) (St t :: tl) := fin_rt (os := []) (by rw [List.append_nil]) h
instance i_fin0  : Wp (∃ y t os, (Fl.rt (.d x) = .rt (.d y) ∨ ∃ e, Fl.rt (.d x) = .nx e ∧ y = .none) ∧ St s' :: tl = St t :: (tl ++ os) ∧ Q (.d y) (St t :: tl)) (Q (.d x) (St s' :: tl)) := ⟨fun h => fin0 h⟩
theorem fin1 (h : Q (.d x) (St s' :: tl)) : ∃ y t os, (Fl.rt (.d x) = .rt (.d y) ∨ ∃ e, Fl.rt (.d x) = .nx e ∧ y = .none) ∧ St s' :: (tl ++ os2) = St t :: (tl ++ os) ∧ Q (.d y) (St t :: tl) := fin_rt rfl h
instance i_fin1  : Wp (∃ y t os, (Fl.rt (.d x) = .rt (.d y) ∨ ∃ e, Fl.rt (.d x) = .nx e ∧ y = .none) ∧ St s' :: (tl ++ os2) = St t :: (tl ++ os) ∧ Q (.d y) (St t :: tl)) (Q (.d x) (St s' :: tl)) := ⟨fun h => fin1 h⟩
theorem fin2 {a b : List Ob} (h : Q (.d x) (St s' :: tl)) : ∃ y t os, (Fl.rt (.d x) = .rt (.d y) ∨ ∃ e, Fl.rt (.d x) = .nx e ∧ y = .none) ∧ St s' :: (tl ++ a ++ b) = St t :: (tl ++ os) ∧ Q (.d y) (St t :: tl) := fin_rt (by rw [List.append_assoc]) h
instance i_fin2 {a b : List Ob} : Wp (∃ y t os, (Fl.rt (.d x) = .rt (.d y) ∨ ∃ e, Fl.rt (.d x) = .nx e ∧ y = .none) ∧ St s' :: (tl ++ a ++ b) = St t :: (tl ++ os) ∧ Q (.d y) (St t :: tl)) (Q (.d x) (St s' :: tl)) := ⟨fun h => fin2 h⟩
theorem fin3 {a b d : List Ob} (h : Q (.d x) (St s' :: tl)) : ∃ y t os, (Fl.rt (.d x) = .rt (.d y) ∨ ∃ e, Fl.rt (.d x) = .nx e ∧ y = .none) ∧ St s' :: (tl ++ a ++ b ++ d) = St t :: (tl ++ os) ∧ Q (.d y) (St t :: tl) := fin_rt (by rw [List.append_assoc, List.append_assoc]) h
instance i_fin3 {a b d : List Ob} : Wp (∃ y t os, (Fl.rt (.d x) = .rt (.d y) ∨ ∃ e, Fl.rt (.d x) = .nx e ∧ y = .none) ∧ St s' :: (tl ++ a ++ b ++ d) = St t :: (tl ++ os) ∧ Q (.d y) (St t :: tl)) (Q (.d x) (St s' :: tl)) := ⟨fun h => fin3 h⟩
theorem pin0 (h : Q (.d x) mh) : ∃ y os, (Fl.rt (.d x) = .rt (.d y) ∨ ∃ e, Fl.rt (.d x) = .nx e ∧ y = .none) ∧ mh = mh ++ os ∧ Q (.d y) mh := fin_pure h
instance i_pin0  : Wp (∃ y os, (Fl.rt (.d x) = .rt (.d y) ∨ ∃ e, Fl.rt (.d x) = .nx e ∧ y = .none) ∧ mh = mh ++ os ∧ Q (.d y) mh) (Q (.d x) mh) := ⟨fun h => pin0 h⟩
theorem pin1 (h : Q (.d x) mh) : ∃ y os, (Fl.rt (.d x) = .rt (.d y) ∨ ∃ e, Fl.rt (.d x) = .nx e ∧ y = .none) ∧ mh ++ os2 = mh ++ os ∧ Q (.d y) mh := fin_pure' h
instance i_pin1  : Wp (∃ y os, (Fl.rt (.d x) = .rt (.d y) ∨ ∃ e, Fl.rt (.d x) = .nx e ∧ y = .none) ∧ mh ++ os2 = mh ++ os ∧ Q (.d y) mh) (Q (.d x) mh) := ⟨fun h => pin1 h⟩
theorem pin2 {a b : List Ob} (h : Q (.d x) mh) : ∃ y os, (Fl.rt (.d x) = .rt (.d y) ∨ ∃ e, Fl.rt (.d x) = .nx e ∧ y = .none) ∧ mh ++ a ++ b = mh ++ os ∧ Q (.d y) mh := ⟨x, a ++ b, .inl rfl, by rw [List.append_assoc], h⟩
theorem wr_listL {Q : Val → List Ob → Prop} {ds : List Dt} (q : Q (.d (.list ds)) mh) : WR false (Bi.f .list mh [.d (.list ds)]) mh Q := wr_nl (ds := ds) rfl q
instance i_wr_listL {Q : Val → List Ob → Prop} {ds : List Dt} : Wp (WR false (Bi.f .list mh [.d (.list ds)]) mh Q) (Q (.d (.list ds)) mh) := ⟨fun h => wr_listL h⟩
theorem wr_listT {Q : Val → List Ob → Prop} {ds : List Dt} (q : Q (.d (.list ds)) mh) : WR false (Bi.f .list mh [.d (.tuple ds)]) mh Q := wr_nl (ds := ds) rfl q
instance i_wr_listT {Q : Val → List Ob → Prop} {ds : List Dt} : Wp (WR false (Bi.f .list mh [.d (.tuple ds)]) mh Q) (Q (.d (.list ds)) mh) := ⟨fun h => wr_listT h⟩
theorem yes_and {A : Prop} (h : A) : true = true ∧ A := ⟨rfl, h⟩
instance i_yes_and {A : Prop} : Wp (true = true ∧ A) (A) := ⟨fun h => yes_and h⟩
theorem isi {A : Prop} {R : Val → List Ob → Prop} {t c : String} (e : tyVal mh (.d x) = some t) (h : R (.d (.bool (isIn t c))) mh) : ∃ ty, tyVal mh (.d x) = some ty ∧ R (.d (.bool (isIn ty c))) mh := ⟨t, e, h⟩
end
section
variable {mh : List Ob} {R : Val → List Ob → Prop} {A B : Prop} {RB : Bool → List Ob → Prop}
theorem isi_int {P : String → Prop} {i : Int} (h : P "int") : ∃ ty, tyVal mh (.d (.int i)) = some ty ∧ P ty := ⟨"int", rfl, h⟩
instance i_isi_int {P : String → Prop} {i : Int} : Wp (∃ ty, tyVal mh (.d (.int i)) = some ty ∧ P ty) (P "int") := ⟨fun h => isi_int h⟩
theorem isi_str {P : String → Prop} {i : Str} (h : P "str") : ∃ ty, tyVal mh (.d (.str i)) = some ty ∧ P ty := ⟨"str", rfl, h⟩
instance i_isi_str {P : String → Prop} {i : Str} : Wp (∃ ty, tyVal mh (.d (.str i)) = some ty ∧ P ty) (P "str") := ⟨fun h => isi_str h⟩
theorem isi_bool {P : String → Prop} {i : Bool} (h : P "bool") : ∃ ty, tyVal mh (.d (.bool i)) = some ty ∧ P ty := ⟨"bool", rfl, h⟩
instance i_isi_bool {P : String → Prop} {i : Bool} : Wp (∃ ty, tyVal mh (.d (.bool i)) = some ty ∧ P ty) (P "bool") := ⟨fun h => isi_bool h⟩
theorem isi_tup {P : String → Prop} {xs : List Dt} (h : P "tuple") : ∃ ty, tyVal mh (.d (.tuple xs)) = some ty ∧ P ty := ⟨"tuple", rfl, h⟩
instance i_isi_tup {P : String → Prop} {xs : List Dt} : Wp (∃ ty, tyVal mh (.d (.tuple xs)) = some ty ∧ P ty) (P "tuple") := ⟨fun h => isi_tup h⟩
theorem isi_lst {P : String → Prop} {xs : List Dt} (h : P "list") : ∃ ty, tyVal mh (.d (.list xs)) = some ty ∧ P ty := ⟨"list", rfl, h⟩
instance i_isi_lst {P : String → Prop} {xs : List Dt} : Wp (∃ ty, tyVal mh (.d (.list xs)) = some ty ∧ P ty) (P "list") := ⟨fun h => isi_lst h⟩
variable {b : Bool} {PB : Bool → Prop}
theorem int_ex {P : Int → Prop} {i : Int} (h : P i) : ∃ j, Val.d (.int i) = .d (.int j) ∧ P j := ⟨i, rfl, h⟩
instance i_int_ex {P : Int → Prop} {i : Int} : Wp (∃ j, Val.d (.int i) = .d (.int j) ∧ P j) (P i) := ⟨fun h => int_ex h⟩
theorem and_t (e : b = true) (h : A) : ∃ p, Val.d (.bool b) = .d (.bool p) ∧ (p = true → A) ∧ (p = false → B) := ⟨true, by rw [e], fun _ => h, (nomatch ·)⟩
theorem and_f (e : b = false) (h : B) : ∃ p, Val.d (.bool b) = .d (.bool p) ∧ (p = true → A) ∧ (p = false → B) := ⟨false, by rw [e], (nomatch ·), fun _ => h⟩
theorem or_t (e : b = true) (h : B) : ∃ p, Val.d (.bool b) = .d (.bool p) ∧ (p = false → A) ∧ (p = true → B) := ⟨true, by rw [e], (nomatch ·), fun _ => h⟩
theorem or_f (e : b = false) (h : A) : ∃ p, Val.d (.bool b) = .d (.bool p) ∧ (p = false → A) ∧ (p = true → B) := ⟨false, by rw [e], fun _ => h, (nomatch ·)⟩
theorem tru_b (h : PB b) : ∃ r, truVl mh (.d (.bool b)) = some r ∧ PB r := ⟨b, rfl, h⟩
instance i_tru_b  : Wp (∃ r, truVl mh (.d (.bool b)) = some r ∧ PB r) (PB b) := ⟨fun h => tru_b h⟩
theorem nt_t (e : b = true) (h : PB true) : ∃ c, Val.d (.bool b) = .d (.bool c) ∧ PB c := ⟨true, by rw [e], h⟩
theorem nt_f (e : b = false) (h : PB false) : ∃ c, Val.d (.bool b) = .d (.bool c) ∧ PB c := ⟨false, by rw [e], h⟩
theorem pick_a (e : b = true) (h : A) : (b = true → A) ∧ (b = false → B) := ⟨fun _ => h, fun z => (by rw [e] at z; cases z)⟩
theorem pick_b (e : b = false) (h : B) : (b = true → A) ∧ (b = false → B) := ⟨fun z => (by rw [e] at z; cases z), fun _ => h⟩
theorem pick_c (e : b = true) (h : B) : (b = false → A) ∧ (b = true → B) := ⟨fun z => (by rw [e] at z; cases z), fun _ => h⟩
theorem pick_d (e : b = false) (h : A) : (b = false → A) ∧ (b = true → B) := ⟨fun _ => h, fun z => (by rw [e] at z; cases z)⟩
/-- a test that is known -/
theorem cmp_t {f : Option Rv} (e : f = some (.v (.d (.bool true)))) (h : PB true) : ∃ r, f = some (.v (.d (.bool r))) ∧ PB r := ⟨_, e, h⟩
theorem cmp_f {f : Option Rv} (e : f = some (.v (.d (.bool false)))) (h : PB false) : ∃ r, f = some (.v (.d (.bool r))) ∧ PB r := ⟨_, e, h⟩
end
section
variable {mh : List Ob} {P : Bool → Prop} {a b : Int}
theorem c_by {p : Prop} [Decidable p] {f : Option Rv} (e : f = some (.v (.d (.bool (decide p))))) (h1 : p → P true) (h2 : ¬ p → P false) : ∃ r, f = some (.v (.d (.bool r))) ∧ P r := by
  refine ⟨_, e, ?_⟩
  by_cases h : p
  · rw [decide_eq_true h]; exact h1 h
  · rw [decide_eq_false h]; exact h2 h
theorem c_byN {p : Prop} [Decidable p] {f : Option Rv} (e : f = some (.v (.d (.bool (!decide p))))) (h1 : ¬ p → P true) (h2 : p → P false) : ∃ r, f = some (.v (.d (.bool r))) ∧ P r := by
  refine ⟨_, e, ?_⟩
  by_cases h : p
  · rw [decide_eq_true h]; exact h2 h
  · rw [decide_eq_false h]; exact h1 h
theorem ci_gt (h1 : b < a → P true) (h2 : ¬ b < a → P false) : ∃ r, cmpF .Gt mh (.d (.int a)) (.d (.int b)) = some (.v (.d (.bool r))) ∧ P r := c_by rfl h1 h2
theorem ci_lt (h1 : a < b → P true) (h2 : ¬ a < b → P false) : ∃ r, cmpF .Lt mh (.d (.int a)) (.d (.int b)) = some (.v (.d (.bool r))) ∧ P r := c_by rfl h1 h2
theorem ci_le (h1 : a ≤ b → P true) (h2 : ¬ a ≤ b → P false) : ∃ r, cmpF .LtE mh (.d (.int a)) (.d (.int b)) = some (.v (.d (.bool r))) ∧ P r := c_by rfl h1 h2
theorem ci_ge (h1 : b ≤ a → P true) (h2 : ¬ b ≤ a → P false) : ∃ r, cmpF .GtE mh (.d (.int a)) (.d (.int b)) = some (.v (.d (.bool r))) ∧ P r := c_by rfl h1 h2
theorem ci_eq (h1 : a = b → P true) (h2 : ¬ a = b → P false) : ∃ r, cmpF .Eq mh (.d (.int a)) (.d (.int b)) = some (.v (.d (.bool r))) ∧ P r := c_by rfl h1 h2
theorem ci_ne (h1 : ¬ a = b → P true) (h2 : a = b → P false) : ∃ r, cmpF .NotEq mh (.d (.int a)) (.d (.int b)) = some (.v (.d (.bool r))) ∧ P r := c_byN rfl h1 h2
theorem cs_eq {x y : Str} (h1 : x = y → P true) (h2 : ¬ x = y → P false) : ∃ r, cmpF .Eq mh (.d (.str x)) (.d (.str y)) = some (.v (.d (.bool r))) ∧ P r := c_by rfl h1 h2
theorem cs_ne {x y : Str} (h1 : ¬ x = y → P true) (h2 : x = y → P false) : ∃ r, cmpF .NotEq mh (.d (.str x)) (.d (.str y)) = some (.v (.d (.bool r))) ∧ P r := c_byN rfl h1 h2
end
theorem wr_addT {mh : List Ob} {Q : Val → List Ob → Prop} {xs ys : List Dt} (h : xs.length + ys.length ≤ sizeLine) (q : Q (.d (.tuple (xs ++ ys))) mh) : WR false (binF .Add mh (.d (.tuple xs)) (.d (.tuple ys))) mh Q :=
  wr_v (show (if xs.length + ys.length ≤ sizeLine then some (Rv.v (.d (.tuple (xs ++ ys)))) else none) = _ from if_pos h) q
theorem wr_addL {mh : List Ob} {Q : Val → List Ob → Prop} {xs ys : List Dt} (h : xs.length + ys.length ≤ sizeLine) (q : Q (.d (.list (xs ++ ys))) mh) : WR false (binF .Add mh (.d (.list xs)) (.d (.list ys))) mh Q := by
  refine wr_nl (ds := xs ++ ys) ?_ q
  show (if (xs.map Val.d).length + (ys.map Val.d).length ≤ sizeLine then some (Rv.nl (xs.map Val.d ++ ys.map Val.d)) else none) = _
  rw [List.length_map, List.length_map, if_pos h, List.map_append]
/-- a list in a cell and a list, in a new cell -/
theorem wr_catC {mh : List Ob} {Q : Val → List Ob → Prop} {n : Nat} {xs ys : List Dt} (h : mh[n]? = some (.lst (xs.map Val.d))) (hl : xs.length + ys.length ≤ sizeLine) (q : Q (.ref mh.length) (mh ++ [.lst ((xs ++ ys).map Val.d)])) : WR true (binF .Add mh (.ref n) (.d (.list ys))) mh Q := by
  refine wr_cell (vs := (xs ++ ys).map Val.d) ?_ q
  have h1 : seqL mh (.ref n) = some (xs.map Val.d) := by show cellL mh n = _; unfold cellL; simp only [h]
  show (match seqL mh (.ref n), seqL mh (.d (.list ys)) with | some xs, some ys => if xs.length + ys.length ≤ sizeLine then some (Rv.nl (xs ++ ys)) else none | _, _ => none) = _
  rw [h1]
  show (if (xs.map Val.d).length + (ys.map Val.d).length ≤ sizeLine then some (Rv.nl (xs.map Val.d ++ ys.map Val.d)) else none) = _
  rw [List.length_map, List.length_map, if_pos hl, List.map_append]
/-! lists with a cell at the end, behind frozen ones -/
section
variable {o o2 : Ob} {s : Ds} {tl : List Ob} {a : List Ob}
theorem st_get2 : (St s :: (tl ++ a ++ [o]))[(tl ++ a).length + 1]? = some o := st_get
theorem cons_get {o : Ob} {tl os : List Ob} {m : Nat} {r : Ob} (h : tl[m]? = some r) : (o :: (tl ++ os))[m + 1]? = some r := by
  show (tl ++ os)[m]? = _
  rw [List.getElem?_append_left (List.getElem?_eq_some_iff.mp h).1]
  exact h
end
section
variable {o : Ob} {s : Ds} {tl os : List Ob} {j : Nat}
theorem os_get (h : os[j]? = some o) : (St s :: (tl ++ os))[tl.length + 1 + j]? = some o := by
  rw [show tl.length + 1 + j = (tl.length + j) + 1 by omega, List.getElem?_cons_succ, List.getElem?_append_right (by omega), show tl.length + j - tl.length = j by omega]
  exact h
theorem os_set : (St s :: (tl ++ os)).set (tl.length + 1 + j) o = St s :: (tl ++ os.set j o) := by
  rw [show tl.length + 1 + j = (tl.length + j) + 1 by omega, List.set_cons_succ, List.set_append_right _ _ (by omega), show tl.length + j - tl.length = j by omega]
theorem os_len : (St s :: (tl ++ os)).length = tl.length + 1 + os.length := by rw [List.length_cons, List.length_append]; omega
theorem os_new : St s :: (tl ++ os) ++ [o] = St s :: (tl ++ (os ++ [o])) := by rw [List.cons_append, List.append_assoc]
theorem os_end : (os ++ [o])[os.length]? = some o := by simp
end
theorem nodup_map {α β : Type} {f : α → β} : ∀ {xs : List α}, (∀ a ∈ xs, ∀ b ∈ xs, f a = f b → a = b) → xs.Nodup → (xs.map f).Nodup
  | [], _, _ => List.nodup_nil
  | x :: xs, h, n => by
    rw [List.nodup_cons] at n
    rw [List.map_cons, List.nodup_cons]
    refine ⟨fun hm => ?_, nodup_map (fun a ha b hb => h a (List.mem_cons_of_mem _ ha) b (List.mem_cons_of_mem _ hb)) n.2⟩
    obtain ⟨y, hy, e⟩ := List.mem_map.mp hm
    have := h y (List.mem_cons_of_mem _ hy) x (List.mem_cons_self) e
    subst this
    exact n.1 hy
abbrev strD (ws : List Str) : Dt := .list (ws.map .str)
abbrev strT (ws : List Str) : Dt := .tuple (ws.map .str)
/-! ### plain data: whole numbers, texts and tuples of such -/
mutual
def plD : Dt → Bool
  | .int _ => true
  | .str _ => true
  | .tuple xs => decide (xs.length < 1000000) && plAll xs
  | _ => false
def plAll : List Dt → Bool
  | [] => true
  | x :: xs => plD x && plAll xs
end
theorem plAll_iff : ∀ {xs : List Dt}, plAll xs = true ↔ ∀ x ∈ xs, plD x = true
  | [] => by simp [plAll]
  | x :: xs => by simp [plAll, plAll_iff (xs := xs)]
theorem pl_tup {xs : List Dt} (h : xs.length < 1000000) (h2 : ∀ x ∈ xs, plD x = true) : plD (.tuple xs) = true := by
  simp only [plD, Bool.and_eq_true, decide_eq_true_eq]
  exact ⟨h, plAll_iff.mpr h2⟩
theorem depth_tup {n : Nat} : ∀ {xs : List Dt}, (∀ x ∈ xs, x.depth ≤ n) → PyData.depthAll xs ≤ n
  | [], _ => by simp [PyData.depthAll]
  | x :: xs, h => by
    simp only [PyData.depthAll]
    exact Nat.max_le.mpr ⟨h x List.mem_cons_self, depth_tup fun y hy => h y (List.mem_cons_of_mem _ hy)⟩
theorem le_depthAll : ∀ {xs : List Dt} {x : Dt}, x ∈ xs → x.depth ≤ PyData.depthAll xs
  | y :: ys, x, h => by
    simp only [PyData.depthAll]
    rcases List.mem_cons.mp h with rfl | h
    · exact Nat.le_max_left _ _
    · exact Nat.le_trans (le_depthAll h) (Nat.le_max_right _ _)
/-- plain data of a depth -/
def Pl (n : Nat) (d : Dt) : Prop := plD d = true ∧ d.depth ≤ n
theorem pl_int {n : Nat} (i : Int) : Pl n (.int i) := ⟨rfl, by simp [PyData.depth]⟩
theorem pl_str {n : Nat} (x : Str) : Pl n (.str x) := ⟨rfl, by simp [PyData.depth]⟩
theorem pl_T {n : Nat} {xs : List Dt} (h : xs.length < 1000000) (h2 : ∀ x ∈ xs, Pl n x) : Pl (n + 1) (.tuple xs) :=
  ⟨pl_tup h fun x hx => (h2 x hx).1, by simp only [PyData.depth]; exact Nat.succ_le_succ (depth_tup fun x hx => (h2 x hx).2)⟩
theorem Pl.mono {n m : Nat} {d : Dt} (h : Pl n d) (hm : n ≤ m) : Pl m d := ⟨h.1, Nat.le_trans h.2 hm⟩
end Pv
local macro_rules | `(tactic| walk_at "pv one") => `(tactic| first
  | with_reducible refine Pv.Wp.prf ?_
  | ((with_reducible refine Pv.we_slot (v := ?v) ?h ?_); (case h => rfl))
  | ((with_reducible refine Pv.tup_by (ds := ?ds) ?h ?h2 ?_); (case h => rfl); (case h2 => rfl))
  | ((with_reducible refine Pv.lst_by ?h ?_); (case h => rfl))
  | ((with_reducible refine Pv.wr_nls (ds := ?ds) ?h ?_); (case h => rfl))
  | ((with_reducible refine Pv.and_t ?h ?_); (case h => decide))
  | ((with_reducible refine Pv.and_f ?h ?_); (case h => decide))
  | ((with_reducible refine Pv.or_t ?h ?_); (case h => decide))
  | ((with_reducible refine Pv.or_f ?h ?_); (case h => decide))
  | ((with_reducible refine Pv.nt_t ?h ?_); (case h => decide))
  | ((with_reducible refine Pv.nt_f ?h ?_); (case h => decide))
  | ((with_reducible refine Pv.pick_a ?h ?_); (case h => decide))
  | ((with_reducible refine Pv.pick_b ?h ?_); (case h => decide))
  | ((with_reducible refine Pv.pick_c ?h ?_); (case h => decide))
  | ((with_reducible refine Pv.pick_d ?h ?_); (case h => decide))
  | ((with_reducible refine Pv.we_glob (x := ?x) (d := ?d) ?h ?_); (case h => rfl))
  | ((with_reducible refine Pv.wo_some ?h ?_); (case h => rfl))
  | ((with_reducible refine Pv.wg_tp ?h ?_); (case h => rfl))
  | ((with_reducible refine Pv.wg_tl ?h ?_); (case h => rfl))
  | ((with_reducible refine Pv.ws_aug (p := ?p) ?h ?_); (case h => rfl))
  | ((with_reducible refine Pv.wr_mul ?h ?_); (case h => exact Pv.mul64 (by decide)))
  | ((with_reducible refine Pv.wr_div ?h ?h2 ?_); (case h => first | assumption | decide); (case h2 => exact Pv.div64 (by first | assumption | decide)))
  | ((with_reducible refine Pv.wr_mod ?h ?_); (case h => first | assumption | decide))
  | ((with_reducible refine Pv.wr_pow ?h ?_); (case h => decide))
  | ((with_reducible refine Pv.wr_v (x := ?x) ?h ?_); (case h => rfl)))
local macro_rules | `(tactic| walk_at "pv all") => `(tactic| repeat walk_at "pv one")
local macro_rules | `(tactic| walk_at "pv eq") => `(tactic| ((refine ⟨?w, ?h, ?_⟩); (case h => rfl)))

/-! P18: what is equal, what is in: plain data -/
namespace Pv
open PySem PySem.Spec PyProof.Rows L2
mutual
theorem eqv_pl : ∀ (x y : Dt), plD x = true → plD y = true → (PyData.eqv x y = true ↔ x = y)
  | .int i, .int j, _, _ => by simp [PyData.eqv]
  | .str i, .str j, _, _ => by simp [PyData.eqv]
  | .tuple xs, .tuple ys, hx, hy => by
    simp only [plD, Bool.and_eq_true, decide_eq_true_eq] at hx hy
    simp only [PyData.eqv, PyData.tuple.injEq]
    exact eqvAll_pl xs ys hx.2 hy.2
  | .int i, .str j, _, _ => by simp [PyData.eqv]
  | .int i, .tuple j, _, _ => by simp [PyData.eqv]
  | .str i, .int j, _, _ => by simp [PyData.eqv]
  | .str i, .tuple j, _, _ => by simp [PyData.eqv]
  | .tuple i, .int j, _, _ => by simp [PyData.eqv]
  | .tuple i, .str j, _, _ => by simp [PyData.eqv]
  | .none, _, h, _ => by simp [plD] at h
  | .bool _, _, h, _ => by simp [plD] at h
  | .list _, _, h, _ => by simp [plD] at h
  | .dict _, _, h, _ => by simp [plD] at h
  | _, .none, _, h => by simp [plD] at h
  | _, .bool _, _, h => by simp [plD] at h
  | _, .list _, _, h => by simp [plD] at h
  | _, .dict _, _, h => by simp [plD] at h
theorem eqvAll_pl : ∀ (xs ys : List Dt), plAll xs = true → plAll ys = true → (PyData.eqvAll xs ys = true ↔ xs = ys)
  | [], [], _, _ => by simp [PyData.eqvAll]
  | [], y :: ys, _, _ => by simp [PyData.eqvAll]
  | x :: xs, [], _, _ => by simp [PyData.eqvAll]
  | x :: xs, y :: ys, hx, hy => by
    simp only [plAll, Bool.and_eq_true] at hx hy
    simp only [PyData.eqvAll, Bool.and_eq_true, List.cons.injEq, eqv_pl x y hx.1 hy.1, eqvAll_pl xs ys hx.2 hy.2]
end
/-- plain data whose texts are texts, of a depth -/
def Ps (n : Nat) (d : Dt) : Prop := plD d = true ∧ d.canLay0 = true ∧ d.depth ≤ n
theorem ps_int {n : Nat} (i : Int) : Ps n (.int i) := ⟨rfl, (shp_int (n := n) i).1, (shp_int i).2⟩
theorem ps_str {n : Nat} {x : Str} (h : PyData.strOk x = true) : Ps n (.str x) := ⟨rfl, (shp_str (n := n) h).1, (shp_str h).2⟩
theorem ps_T {n : Nat} {xs : List Dt} (h : xs.length < 1000000) (h2 : ∀ x ∈ xs, Ps n x) : Ps (n + 1) (.tuple xs) :=
  ⟨pl_tup h fun x hx => (h2 x hx).1, (shp_tup (n := n) fun x hx => ⟨(h2 x hx).2.1, (h2 x hx).2.2⟩).1, (shp_tup fun x hx => ⟨(h2 x hx).2.1, (h2 x hx).2.2⟩).2⟩
theorem ps_ints {n : Nat} {xs : List Int} (h : xs.length < 1000000) : Ps (n + 1) (.tuple (xs.map .int)) := ps_T (by rw [List.length_map]; exact h) fun x hx => by
  obtain ⟨i, _, rfl⟩ := List.mem_map.mp hx
  exact ps_int i
theorem Ps.mono {n m : Nat} {d : Dt} (h : Ps n d) (hm : n ≤ m) : Ps m d := ⟨h.1, h.2.1, Nat.le_trans h.2.2 hm⟩
theorem Ps.pl {n : Nat} {d : Dt} (h : Ps n d) : Pl n d := ⟨h.1, h.2.2⟩
theorem Ps.shp {n : Nat} {d : Dt} (h : Ps n d) : Shp n d := ⟨h.2.1, h.2.2⟩
theorem Ps.shaped {n : Nat} {d : Dt} (h : Ps n d) (hn : n ≤ 64) : SeqAt.shaped d = true := h.shp.shaped hn
section
variable {mh : List Ob} {P : Bool → Prop} {x y : Dt} {n : Nat}
theorem eqD_pl (hx : Ps 60 x) (hy : Ps 60 y) : eqD x y = some (PyData.eqv x y) := by
  have sx := hx.shaped (by decide)
  have sy := hy.shaped (by decide)
  have e : (if SeqAt.shaped x = true ∧ SeqAt.shaped y = true then some (PyData.eqv x y) else none) = some (PyData.eqv x y) := if_pos ⟨sx, sy⟩
  cases x <;> cases y <;> first | exact e | (simp [eqD, PyData.eqv]; done) | (rename_i a b; by_cases h : a = b <;> simp [eqD, PyData.eqv, h]; done) | exact absurd hx.1 (by simp [plD]) | exact absurd hy.1 (by simp [plD])
theorem cd_eq (hx : Ps 60 x) (hy : Ps 60 y) (h1 : x = y → P true) (h2 : x ≠ y → P false) : ∃ r, cmpF .Eq mh (.d x) (.d y) = some (.v (.d (.bool r))) ∧ P r := by
  refine ⟨PyData.eqv x y, ?_, ?_⟩
  · show bR (eqD x y) = _
    rw [eqD_pl hx hy]; rfl
  · have := eqv_pl x y hx.1 hy.1
    cases e : PyData.eqv x y with
    | true => exact h1 (this.mp e)
    | false => exact h2 fun z => by rw [this.mpr z] at e; cases e
theorem cd_ne (hx : Ps 60 x) (hy : Ps 60 y) (h1 : x ≠ y → P true) (h2 : x = y → P false) : ∃ r, cmpF .NotEq mh (.d x) (.d y) = some (.v (.d (.bool r))) ∧ P r := by
  refine ⟨!PyData.eqv x y, ?_, ?_⟩
  · show bR ((eqD x y).map (!·)) = _
    rw [eqD_pl hx hy]; rfl
  · have := eqv_pl x y hx.1 hy.1
    cases e : PyData.eqv x y with
    | true => exact h2 (this.mp e)
    | false => exact h1 fun z => by rw [this.mpr z] at e; cases e
theorem any_eqv {ys : List Dt} (hx : plD x = true) (hy : ∀ y ∈ ys, plD y = true) : (ys.any fun y => PyData.eqv y x) = true ↔ x ∈ ys := by
  rw [List.any_eq_true]
  constructor
  · rintro ⟨y, h1, h2⟩
    rw [← (eqv_pl y x (hy y h1) hx).mp h2]; exact h1
  · intro h
    exact ⟨x, h, (eqv_pl x x hx hx).mpr rfl⟩
theorem inV2_T {ys : List Dt} (hx : plD x = true) (fx : flatD x = true) (fy : ∀ y ∈ ys, flatD y = true) : inV2 mh (.d x) (.d (.tuple ys)) = some (ys.any fun y => PyData.eqv y x) := by
  have h2 : ((seqA mh (.d (.tuple ys))).bind asDs) = some ys := asDs_map ys
  unfold inV2
  rw [show dctOf mh (.d (.tuple ys)) = none from rfl]
  simp only [h2]
  have : inSeq x ys = some (ys.any fun y => PyData.eqv y x) := if_pos ⟨fx, List.all_eq_true.mpr fy⟩
  simp only [this]
  rfl
theorem inV2_L {ys : List Dt} (hx : plD x = true) (sx : SeqAt.shaped x = true) (sy : SeqAt.shaped (.list ys) = true) : inV2 mh (.d x) (.d (.list ys)) = some (ys.any fun y => PyData.eqv y x) := by
  have h2 : ((seqA mh (.d (.list ys))).bind asDs) = some ys := asDs_map ys
  unfold inV2
  rw [show dctOf mh (.d (.list ys)) = none from rfl]
  simp only [h2]
  by_cases h : flatD x = true ∧ ys.all flatD = true
  · have e : inSeq x ys = some (ys.any fun y => PyData.eqv y x) := if_pos h
    rw [e]; rfl
  · have e : inSeq x ys = none := if_neg h
    rw [e]
    show (if (some (ys.map Val.d)).isNone = true then none else if SeqAt.shaped x = true ∧ SeqAt.shaped (.list ys) = true then some (ys.any fun y => PyData.eqv y x) else none) = _
    have e2 : (some (ys.map Val.d)).isNone = false := rfl
    rw [e2, if_neg (by decide), if_pos ⟨sx, sy⟩]
/-- in a tuple of texts and whole numbers -/
theorem cd_inT {ys : List Dt} (hx : plD x = true) (fx : flatD x = true) (hy : ∀ y ∈ ys, plD y = true ∧ flatD y = true) (h1 : x ∈ ys → P true) (h2 : x ∉ ys → P false) : ∃ r, cmpF .In mh (.d x) (.d (.tuple ys)) = some (.v (.d (.bool r))) ∧ P r := by
  refine ⟨ys.any fun y => PyData.eqv y x, ?_, ?_⟩
  · show bR (inV2 mh (.d x) (.d (.tuple ys))) = _
    rw [inV2_T hx fx fun y h => (hy y h).2]; rfl
  · have := any_eqv (x := x) hx fun y h => (hy y h).1
    cases e : (ys.any fun y => PyData.eqv y x) with
    | true => exact h1 (this.mp e)
    | false => exact h2 fun z => by rw [this.mpr z] at e; cases e
theorem cd_ninT {ys : List Dt} (hx : plD x = true) (fx : flatD x = true) (hy : ∀ y ∈ ys, plD y = true ∧ flatD y = true) (h1 : x ∉ ys → P true) (h2 : x ∈ ys → P false) : ∃ r, cmpF .NotIn mh (.d x) (.d (.tuple ys)) = some (.v (.d (.bool r))) ∧ P r := by
  refine ⟨!ys.any fun y => PyData.eqv y x, ?_, ?_⟩
  · show bR ((inV2 mh (.d x) (.d (.tuple ys))).map (!·)) = _
    rw [inV2_T hx fx fun y h => (hy y h).2]; rfl
  · have := any_eqv (x := x) hx fun y h => (hy y h).1
    cases e : (ys.any fun y => PyData.eqv y x) with
    | true => exact h2 (this.mp e)
    | false => exact h1 fun z => by rw [this.mpr z] at e; cases e
theorem shp_L {ys : List Dt} (h : ∀ y ∈ ys, Ps n y) : Shp (n + 1) (.list ys) := shp_lst fun y hy => (h y hy).shp
theorem cd_inL {ys : List Dt} (hx : Ps 60 x) (hy : ∀ y ∈ ys, Ps 60 y) (h1 : x ∈ ys → P true) (h2 : x ∉ ys → P false) : ∃ r, cmpF .In mh (.d x) (.d (.list ys)) = some (.v (.d (.bool r))) ∧ P r := by
  refine ⟨ys.any fun y => PyData.eqv y x, ?_, ?_⟩
  · show bR (inV2 mh (.d x) (.d (.list ys))) = _
    rw [inV2_L hx.1 (hx.shaped (by decide)) ((shp_L hy).shaped (by decide))]; rfl
  · have := any_eqv (x := x) hx.1 fun y h => (hy y h).1
    cases e : (ys.any fun y => PyData.eqv y x) with
    | true => exact h1 (this.mp e)
    | false => exact h2 fun z => by rw [this.mpr z] at e; cases e
theorem cd_ninL {ys : List Dt} (hx : Ps 60 x) (hy : ∀ y ∈ ys, Ps 60 y) (h1 : x ∉ ys → P true) (h2 : x ∈ ys → P false) : ∃ r, cmpF .NotIn mh (.d x) (.d (.list ys)) = some (.v (.d (.bool r))) ∧ P r := by
  refine ⟨!ys.any fun y => PyData.eqv y x, ?_, ?_⟩
  · show bR ((inV2 mh (.d x) (.d (.list ys))).map (!·)) = _
    rw [inV2_L hx.1 (hx.shaped (by decide)) ((shp_L hy).shaped (by decide))]; rfl
  · have := any_eqv (x := x) hx.1 fun y h => (hy y h).1
    cases e : (ys.any fun y => PyData.eqv y x) with
    | true => exact h2 (this.mp e)
    | false => exact h1 fun z => by rw [this.mpr z] at e; cases e
end
theorem wr_of {mh : List Ob} {Q : Val → List Ob → Prop} {f : Option Rv} (h : ∃ r, f = some (.v (.d (.bool r))) ∧ Q (.d (.bool r)) mh) : WR false f mh Q := by
  obtain ⟨r, e, q⟩ := h
  exact wr_v e q
theorem ints_inj {xs ys : List Int} : (PyData.tuple (xs.map .int) = .tuple (ys.map .int)) ↔ xs = ys := by
  constructor
  · intro h
    have h := PyData.tuple.inj h
    exact (List.map_inj_right (f := PyData.int) fun _ _ e => PyData.int.inj e).mp h
  · rintro rfl; rfl
/-! all, any over a list of truths -/
section
variable {mh : List Ob} {Q : Val → List Ob → Prop}
theorem asBl_map (bs : List Bool) : (seqL mh (.d (.list (bs.map .bool)))).bind (allOf asBl) = some bs := by
  have := allOf_map (f := asBl) (g := fun b => Val.d (.bool b)) (fun _ => rfl) bs
  show allOf asBl ((bs.map PyData.bool).map Val.d) = _
  rw [List.map_map]
  exact this
theorem wr_all {bs : List Bool} (q : Q (.d (.bool (bs.all id))) mh) : WR false (Bi.f .all mh [.d (.list (bs.map .bool))]) mh Q := by
  refine wr_v (x := .d (.bool (bs.all id))) ?_ q
  show allVl mh [.d (.list (bs.map .bool))] = _
  unfold allVl
  simp only [asBl_map]
theorem wr_any {bs : List Bool} (q : Q (.d (.bool (bs.any id))) mh) : WR false (Bi.f .any mh [.d (.list (bs.map .bool))]) mh Q := by
  refine wr_v (x := .d (.bool (bs.any id))) ?_ q
  show anyVl mh [.d (.list (bs.map .bool))] = _
  unfold anyVl
  simp only [asBl_map]
/-- a comprehension of truths under all -/
theorem wr_allL {α : Type} {xs : List α} {f : α → Bool} {ds : List Dt} (e : ds = (xs.map f).map .bool) (q : Q (.d (.bool (xs.all f))) mh) : WR false (Bi.f .all mh [.d (.list ds)]) mh Q := by
  subst e
  refine wr_all ?_
  rw [List.all_map]
  exact q
theorem list_ix0 {α : Type} {xs : List α} {em : α → Dt} {a : α} {R : Val → Prop} (h : xs.head? = some a) (q : R (.d (em a))) : ∃ v, ixVl mh (.d (.list (xs.map em))) (.d (.int 0)) = some v ∧ R v := by
  refine ix_list (j := 0) rfl ?_ q
  rw [List.getElem?_map, ← List.head?_eq_getElem?, h]
  rfl
end
end Pv

/-! P19: linear forms in their plain shape -/
namespace Pv
open PySem PySem.Spec PyProof.Rows L2
abbrev Fm := Int × List (Str × Int)
abbrev pd (p : Str × Int) : Dt := .tuple [.str p.1, .int p.2]
abbrev fm (F : Fm) : Dt := .tuple [.int F.1, .tuple (F.2.map pd)]
/-- the sum of the numbers of a name -/
def cf : List (Str × Int) → Str → Int
  | [], _ => 0
  | p :: ps, x => (if p.1 = x then p.2 else 0) + cf ps x
section
variable {ps qs : List (Str × Int)} {x : Str}
theorem cf_append : ∀ {ps qs : List (Str × Int)} {x : Str}, cf (ps ++ qs) x = cf ps x + cf qs x
  | [], qs, x => by rw [List.nil_append]; show _ = 0 + _; omega
  | p :: ps, qs, x => by
    show _ + cf (ps ++ qs) x = (_ + cf ps x) + cf qs x
    rw [cf_append]; omega
theorem cf_none : ∀ {ps : List (Str × Int)} {x : Str}, x ∉ ps.map (·.1) → cf ps x = 0
  | [], _, _ => rfl
  | p :: ps, x, h => by
    rw [List.map_cons, List.mem_cons, not_or] at h
    show (if p.1 = x then p.2 else 0) + cf ps x = 0
    rw [if_neg fun e => h.1 e.symm, cf_none h.2]; rfl
theorem cf_times {k : Int} : ∀ {ps : List (Str × Int)} {x : Str}, cf (ps.map fun p => (p.1, k * p.2)) x = k * cf ps x
  | [], x => by show (0 : Int) = k * 0; rw [Int.mul_zero]
  | p :: ps, x => by
    show (if p.1 = x then k * p.2 else 0) + cf (ps.map fun p => (p.1, k * p.2)) x = k * ((if p.1 = x then p.2 else 0) + cf ps x)
    rw [cf_times, Int.mul_add]
    split
    · rfl
    · rw [Int.mul_zero]
end
/-! the table of sums -/
def accF (ps : List (Str × Int)) : List (Str × Int) := ps.foldl (fun m p => putS m p.1 ((lkS m p.1).getD 0 + p.2)) []
theorem accF_snoc (ps : List (Str × Int)) (p : Str × Int) : accF (ps ++ [p]) = putS (accF ps) p.1 ((lkS (accF ps) p.1).getD 0 + p.2) := by
  unfold accF
  rw [List.foldl_append]; rfl
theorem lkS_none {α : Type} {m : List (Str × α)} {x : Str} (h : x ∉ m.map (·.1)) : lkS m x = none := by
  cases e : lkS m x with
  | none => rfl
  | some v => exact absurd (List.mem_map.mpr ⟨_, lkS_mem e, rfl⟩) h
theorem putS_keys {α : Type} {m : List (Str × α)} {x y : Str} {v : α} : y ∈ (putS m x v).map (·.1) ↔ y = x ∨ y ∈ m.map (·.1) := by
  unfold putS
  split
  · rename_i h
    obtain ⟨q, hq, e⟩ := List.any_eq_true.mp h
    have e := of_decide_eq_true e
    rw [List.map_map]
    have : (m.map ((fun p : Str × α => p.1) ∘ fun p => if p.1 = x then (p.1, v) else p)) = m.map (·.1) := List.map_congr_left fun p _ => by
      show (if p.1 = x then (p.1, v) else p).1 = p.1
      split <;> rfl
    rw [this]
    constructor
    · exact .inr
    · rintro (rfl | h)
      · exact List.mem_map.mpr ⟨q, hq, e⟩
      · exact h
  · rw [List.map_append, List.mem_append]
    simp only [List.map_cons, List.map_nil, List.mem_singleton]
    exact or_comm
theorem putS_nd {α : Type} {m : List (Str × α)} {x : Str} {v : α} (h : (m.map (·.1)).Nodup) : ((putS m x v).map (·.1)).Nodup := by
  unfold putS
  split
  · have : ((m.map fun p : Str × α => if p.1 = x then (p.1, v) else p).map (·.1)) = m.map (·.1) := by
      rw [List.map_map]
      exact List.map_congr_left fun p _ => by
        show (if p.1 = x then (p.1, v) else p).1 = p.1
        split <;> rfl
    rw [this]; exact h
  · rename_i hn
    rw [List.map_append]
    refine List.nodup_append.mpr ⟨h, by simp, fun a ha b hb => ?_⟩
    have : b = x := by simpa using hb
    subst this
    rintro rfl
    obtain ⟨q, hq, e⟩ := List.mem_map.mp ha
    exact hn (List.any_eq_true.mpr ⟨q, hq, decide_eq_true e⟩)
theorem snoc_ind {α : Type} {P : List α → Prop} (h0 : P []) (hs : ∀ xs x, P xs → P (xs ++ [x])) (xs : List α) : P xs := by
  have : ∀ n, ∀ xs : List α, xs.length = n → P xs := by
    intro n
    induction n with
    | zero => intro xs h; rw [List.eq_nil_of_length_eq_zero h]; exact h0
    | succ n ih =>
      intro xs h
      have hne : xs ≠ [] := fun e => by rw [e] at h; cases h
      rw [← List.dropLast_concat_getLast hne]
      exact hs _ _ (ih _ (by rw [List.length_dropLast]; omega))
  exact this _ xs rfl
theorem acc_cf (ps : List (Str × Int)) : ∀ x, (lkS (accF ps) x).getD 0 = cf ps x := by
  refine snoc_ind (P := fun ps => ∀ x, (lkS (accF ps) x).getD 0 = cf ps x) (fun x => rfl) (fun ps p ih x => ?_) ps
  rw [accF_snoc, cf_append]
  by_cases h : x = p.1
  · subst h
    rw [lkS_put_same, ih]
    show cf ps p.1 + p.2 = cf ps p.1 + ((if p.1 = p.1 then p.2 else 0) + 0)
    rw [if_pos rfl]; omega
  · rw [lkS_put_ne h, ih]
    show cf ps x = cf ps x + ((if p.1 = x then p.2 else 0) + 0)
    rw [if_neg fun e => h e.symm]; omega
theorem acc_keys (ps : List (Str × Int)) : ∀ x, x ∈ (accF ps).map (·.1) ↔ x ∈ ps.map (·.1) := by
  refine snoc_ind (P := fun ps => ∀ x, x ∈ (accF ps).map (·.1) ↔ x ∈ ps.map (·.1)) (fun x => Iff.rfl) (fun ps p ih x => ?_) ps
  rw [accF_snoc, putS_keys, ih, List.map_append, List.mem_append]
  simp only [List.map_cons, List.map_nil, List.mem_singleton]
  exact or_comm
theorem acc_nd (ps : List (Str × Int)) : ((accF ps).map (·.1)).Nodup := by
  refine snoc_ind (P := fun ps => ((accF ps).map (·.1)).Nodup) List.nodup_nil (fun ps p ih => ?_) ps
  rw [accF_snoc]
  exact putS_nd ih
theorem acc_len (ps : List (Str × Int)) : (accF ps).length ≤ ps.length := by
  refine snoc_ind (P := fun ps => (accF ps).length ≤ ps.length) (Nat.le_refl _) (fun ps p ih => ?_) ps
  rw [accF_snoc, List.length_append]
  exact Nat.le_trans putS_length (Nat.succ_le_succ ih)
/-! the plain shape -/
def nfP (ps : List (Str × Int)) : List (Str × Int) := ((sortS ((accF ps).map (·.1))).filter fun x => !decide (cf ps x = 0)).map fun x => (x, cf ps x)
def nf (c : Int) (ps : List (Str × Int)) : Fm := (c, nfP ps)
def ltS (a b : Str) : Prop := leS a b = true ∧ a ≠ b
/-- strictly ascending names, no number 0 -/
structure Nrm (F : Fm) : Prop where
  asc : (F.2.map (·.1)).Pairwise ltS
  nz : ∀ p ∈ F.2, p.2 ≠ 0
theorem nfP_keys {ps : List (Str × Int)} {p : Str × Int} (h : p ∈ nfP ps) : p.1 ∈ ps.map (·.1) ∧ p.2 = cf ps p.1 ∧ p.2 ≠ 0 := by
  obtain ⟨x, hx, rfl⟩ := List.mem_map.mp h
  obtain ⟨h1, h2⟩ := List.mem_filter.mp hx
  exact ⟨(acc_keys ps x).mp ((sortS_perm _).mem_iff.mp h1), rfl, fun e => by rw [show cf ps x = 0 from e] at h2; simp at h2⟩
theorem nf_nrm (c : Int) (ps : List (Str × Int)) : Nrm (nf c ps) := by
  refine ⟨?_, fun p hp => (nfP_keys hp).2.2⟩
  show ((nfP ps).map (·.1)).Pairwise ltS
  have e : (nfP ps).map (·.1) = (sortS ((accF ps).map (·.1))).filter fun x => !decide (cf ps x = 0) := by
    unfold nfP
    rw [List.map_map]
    exact List.map_id'' (fun _ => rfl) _
  rw [e]
  refine List.Pairwise.sublist List.filter_sublist ?_
  have h1 := sortS_pairwise ((accF ps).map (·.1))
  have h2 : (sortS ((accF ps).map (·.1))).Nodup := (sortS_perm _).nodup_iff.mpr (acc_nd ps)
  exact List.Pairwise.and h1 h2
theorem cf_nodup : ∀ {ps : List (Str × Int)} {p : Str × Int}, (ps.map (·.1)).Nodup → p ∈ ps → cf ps p.1 = p.2
  | [], _, _, h => by cases h
  | q :: ps, p, nd, h => by
    rw [List.map_cons, List.nodup_cons] at nd
    show (if q.1 = p.1 then q.2 else 0) + cf ps p.1 = p.2
    rcases List.mem_cons.mp h with rfl | h
    · rw [if_pos rfl, cf_none nd.1]; omega
    · rw [if_neg (fun e : q.1 = p.1 => nd.1 (by rw [e]; exact List.mem_map.mpr ⟨p, h, rfl⟩)), cf_nodup nd.2 h]; omega
theorem Nrm.nd {F : Fm} (h : Nrm F) : (F.2.map (·.1)).Nodup := h.asc.imp fun h => h.2
theorem cf_nf (c : Int) (ps : List (Str × Int)) (x : Str) : cf (nf c ps).2 x = cf ps x := by
  by_cases h : x ∈ ((nf c ps).2).map (·.1)
  · obtain ⟨p, hp, rfl⟩ := List.mem_map.mp h
    rw [cf_nodup (nf_nrm c ps).nd hp, (nfP_keys hp).2.1]
  · rw [cf_none h]
    by_cases h2 : cf ps x = 0
    · exact h2.symm
    · refine absurd ?_ h
      have hk : x ∈ ps.map (·.1) := by
        by_cases z : x ∈ ps.map (·.1)
        · exact z
        · exact absurd (cf_none z) h2
      exact List.mem_map.mpr ⟨(x, cf ps x), List.mem_map.mpr ⟨x, List.mem_filter.mpr ⟨(sortS_perm _).mem_iff.mpr ((acc_keys ps x).mpr hk), by simp [h2]⟩, rfl⟩, rfl⟩
theorem nfP_len (ps : List (Str × Int)) : (nfP ps).length ≤ ps.length := by
  unfold nfP
  rw [List.length_map]
  refine Nat.le_trans (List.length_filter_le _ _) ?_
  rw [(sortS_perm _).length_eq, List.length_map]
  exact acc_len ps
theorem ltS_irr {a : Str} : ¬ ltS a a := fun h => h.2 rfl
theorem ltS_tri (a b : Str) : ltS a b ∨ a = b ∨ ltS b a := by
  by_cases h : a = b
  · exact .inr (.inl h)
  · have := leS_total a b
    rw [Bool.or_eq_true] at this
    rcases this with h1 | h1
    · exact .inl ⟨h1, h⟩
    · exact .inr (.inr ⟨h1, Ne.symm h⟩)
theorem ltS_trans {a b c : Str} (h : ltS a b) (h' : ltS b c) : ltS a c :=
  ⟨leS_trans _ _ _ h.1 h'.1, fun e => by subst e; exact h.2 (leS_antisymm h.1 h'.1)⟩
theorem asc_ext : ∀ {ps qs : List (Str × Int)}, (ps.map (·.1)).Pairwise ltS → (qs.map (·.1)).Pairwise ltS → (∀ p ∈ ps, p.2 ≠ 0) → (∀ p ∈ qs, p.2 ≠ 0) → (∀ x, cf ps x = cf qs x) → ps = qs
  | [], [], _, _, _, _, _ => rfl
  | [], q :: qs, _, h2, _, z2, e => by
    have h3 := cf_nodup (ps := q :: qs) (h2.imp fun h => h.2) List.mem_cons_self
    rw [← e] at h3
    exact absurd h3.symm (z2 q List.mem_cons_self)
  | p :: ps, [], h1, _, z1, _, e => by
    have h3 := cf_nodup (ps := p :: ps) (h1.imp fun h => h.2) List.mem_cons_self
    rw [e] at h3
    exact absurd h3.symm (z1 p List.mem_cons_self)
  | p :: ps, q :: qs, h1, h2, z1, z2, e => by
    rw [List.map_cons, List.pairwise_cons] at h1 h2
    have k1 : p.1 = q.1 := by
      rcases ltS_tri p.1 q.1 with h | h | h
      · have h3 : cf (q :: qs) p.1 = 0 := cf_none fun hm => by
          rw [List.map_cons, List.mem_cons] at hm
          rcases hm with hm | hm
          · exact h.2 hm
          · have := h2.1 _ hm
            exact ltS_irr (ltS_trans h this)
        have h4 := cf_nodup (ps := p :: ps) (p := p) (by rw [List.map_cons, List.nodup_cons]; exact ⟨fun hm => ltS_irr (h1.1 _ hm), h1.2.imp fun h => h.2⟩) List.mem_cons_self
        rw [e, h3] at h4
        exact absurd h4.symm (z1 p List.mem_cons_self)
      · exact h
      · have h3 : cf (p :: ps) q.1 = 0 := cf_none fun hm => by
          rw [List.map_cons, List.mem_cons] at hm
          rcases hm with hm | hm
          · exact h.2 hm
          · have := h1.1 _ hm
            exact ltS_irr (ltS_trans h this)
        have h4 := cf_nodup (ps := q :: qs) (p := q) (by rw [List.map_cons, List.nodup_cons]; exact ⟨fun hm => ltS_irr (h2.1 _ hm), h2.2.imp fun h => h.2⟩) List.mem_cons_self
        rw [← e, h3] at h4
        exact absurd h4.symm (z2 q List.mem_cons_self)
    have n1 : p.1 ∉ ps.map (·.1) := fun hm => ltS_irr (h1.1 _ hm)
    have n2 : q.1 ∉ qs.map (·.1) := fun hm => ltS_irr (h2.1 _ hm)
    have k2 : p.2 = q.2 := by
      have := e p.1
      have a1 : cf (p :: ps) p.1 = p.2 := by show (if p.1 = p.1 then p.2 else 0) + cf ps p.1 = _; rw [if_pos rfl, cf_none n1]; omega
      have a2 : cf (q :: qs) p.1 = q.2 := by show (if q.1 = p.1 then q.2 else 0) + cf qs p.1 = _; rw [if_pos k1.symm, k1, cf_none n2]; omega
      rw [a1, a2] at this
      exact this
    have k3 : p = q := Prod.ext k1 k2
    subst k3
    rw [asc_ext h1.2 h2.2 (fun r hr => z1 r (List.mem_cons_of_mem _ hr)) (fun r hr => z2 r (List.mem_cons_of_mem _ hr)) fun x => by
      have := e x
      have a1 : cf (p :: ps) x = (if p.1 = x then p.2 else 0) + cf ps x := rfl
      have a2 : cf (p :: qs) x = (if p.1 = x then p.2 else 0) + cf qs x := rfl
      omega]
theorem nrm_ext {F G : Fm} (h : Nrm F) (g : Nrm G) (e1 : F.1 = G.1) (e : ∀ x, cf F.2 x = cf G.2 x) : F = G :=
  Prod.ext e1 (asc_ext h.asc g.asc h.nz g.nz e)
theorem nf_id {F : Fm} (h : Nrm F) : nf F.1 F.2 = F := nrm_ext (nf_nrm _ _) h rfl fun x => cf_nf _ _ x
/-! bounds -/
theorem cf_bound {b : Nat} : ∀ {ps : List (Str × Int)} {x : Str}, (∀ p ∈ ps, p.2.natAbs ≤ b) → (cf ps x).natAbs ≤ ps.length * b
  | [], _, _ => by show (0 : Int).natAbs ≤ _; omega
  | p :: ps, x, h => by
    have h1 := cf_bound (x := x) fun q hq => h q (List.mem_cons_of_mem _ hq)
    have h2 := h p List.mem_cons_self
    show ((if p.1 = x then p.2 else 0) + cf ps x).natAbs ≤ (ps.length + 1) * b
    rw [Nat.succ_mul]
    refine Nat.le_trans (Int.natAbs_add_le _ _) ?_
    split
    · omega
    · simp; omega
end Pv

/-! P20: dicts by texts -/
namespace Pv
open PySem PySem.Spec PyProof.Rows L2
section
variable {α : Type} {em : α → Dt} {m : List (Str × α)} {n : Nat} {mh : List Ob} {x : Str} {v : α}
theorem dct_cell (h : mh[n]? = some (.dct (mapK em m))) : dctOf mh (.ref n) = some (mapK em m) := by unfold dctOf; simp only [h]
theorem dct_dat : dctOf mh (.d (datK em m)) = some (mapK em m) := unkey_datK em m
theorem put_c {Q : Unit → List Ob → Prop} (h : mh[n]? = some (.dct (mapK em m))) (hl : m.length < sizeLine) (q : Q () (mh.set n (.dct (mapK em (putS m x v))))) : W (setVl (.ref n) (.d (.str x)) (.d (em v))) mh Q := by
  refine ⟨(), _, ?_, q⟩
  unfold setVl
  simp only [h]
  show (if (mapK em m).length < sizeLine then some ((), mh.set n (.dct (putV (mapK em m) (.inr x) (.d (em v))))) else none) = _
  rw [if_pos (by unfold mapK; rw [List.length_map]; exact hl), put_mapK]
theorem get_t {o : Val} {Q : Val → List Ob → Prop} {y : Dt} (h : dctOf mh o = some (mapK em m)) (q : Q (.d (((lkS m x).map em).getD y)) mh) : W (Mt.f .get o [.d (.str x), .d y]) mh Q := by
  refine ⟨_, mh, ?_, q⟩
  show (match dctOf mh o, keyVl (.d (.str x)) with | some kvs, some k => some ((findK kvs k).getD (.d y), mh) | _, _ => none) = _
  rw [h]
  show some ((findK (mapK em m) (.inr x)).getD _, mh) = _
  rw [find_mapK]
  cases lkS m x <;> rfl
theorem get_n {o : Val} {Q : Val → List Ob → Prop} (h : dctOf mh o = some (mapK em m)) (q : Q (.d (((lkS m x).map em).getD .none)) mh) : W (Mt.f .get o [.d (.str x)]) mh Q := by
  refine ⟨_, mh, ?_, q⟩
  show (match dctOf mh o, keyVl (.d (.str x)) with | some kvs, some k => some ((findK kvs k).getD (.d .none), mh) | _, _ => none) = _
  rw [h]
  show some ((findK (mapK em m) (.inr x)).getD _, mh) = _
  rw [find_mapK]
  cases lkS m x <;> rfl
theorem ix_t {o : Val} {a : α} {R : Val → Prop} (h : dctOf mh o = some (mapK em m)) (hx : lkS m x = some a) (q : R (.d (em a))) : ∃ v, ixVl mh o (.d (.str x)) = some v ∧ R v := by
  refine ⟨_, ?_, q⟩
  unfold ixVl
  rw [h]
  show findK (mapK em m) (.inr x) = _
  rw [find_mapK, hx]
  rfl
/-- is a name in a dict -/
theorem in_t {o : Val} {P : Bool → Prop} (h : dctOf mh o = some (mapK em m)) (h1 : x ∈ m.map (·.1) → P true) (h2 : x ∉ m.map (·.1) → P false) : ∃ r, cmpF .In mh (.d (.str x)) o = some (.v (.d (.bool r))) ∧ P r := by
  refine ⟨(findK (mapK em m) (.inr x)).isSome, ?_, ?_⟩
  · show bR (inV2 mh (.d (.str x)) o) = _
    unfold inV2
    rw [h]
    rfl
  · rw [find_mapK]
    cases e : lkS m x with
    | some a => exact h1 (List.mem_map.mpr ⟨_, lkS_mem e, rfl⟩)
    | none => exact h2 fun hm => by obtain ⟨v, hv⟩ := lkS_of_mem hm; rw [e] at hv; cases hv
theorem rcv_dat {kvs : List (Dt × Dt)} : rcv "dict" (.d (.dict kvs)) mh = true := rfl
end
/-! the keys of a table that is made name by name -/
def tabS {α : Type} (ps : List (Str × α)) : List (Str × α) := ps.foldl (fun m p => putS m p.1 p.2) []
theorem tabS_snoc {α : Type} (ps : List (Str × α)) (p : Str × α) : tabS (ps ++ [p]) = putS (tabS ps) p.1 p.2 := by
  unfold tabS
  rw [List.foldl_append]; rfl
theorem tabS_len {α : Type} (ps : List (Str × α)) : (tabS ps).length ≤ ps.length := by
  refine snoc_ind (P := fun ps => (tabS ps).length ≤ ps.length) (Nat.le_refl _) (fun ps p ih => ?_) ps
  rw [tabS_snoc, List.length_append]
  exact Nat.le_trans putS_length (Nat.succ_le_succ ih)
theorem tabS_keys {α : Type} (ps : List (Str × α)) : ∀ x, x ∈ (tabS ps).map (·.1) ↔ x ∈ ps.map (·.1) := by
  refine snoc_ind (P := fun ps => ∀ x, x ∈ (tabS ps).map (·.1) ↔ x ∈ ps.map (·.1)) (fun x => Iff.rfl) (fun ps p ih x => ?_) ps
  rw [tabS_snoc, putS_keys, ih, List.map_append, List.mem_append]
  simp only [List.map_cons, List.map_nil, List.mem_singleton]
  exact or_comm
theorem tabS_mem {α : Type} (ps : List (Str × α)) : ∀ p, p ∈ tabS ps → p ∈ ps := by
  refine snoc_ind (P := fun ps => ∀ p, p ∈ tabS ps → p ∈ ps) (fun p h => h) (fun ps p ih q hq => ?_) ps
  rw [tabS_snoc] at hq
  rcases putS_mem hq with h | rfl
  · exact List.mem_append_left _ (ih q h)
  · exact List.mem_append_right _ List.mem_cons_self
theorem tabS_nd {α : Type} (ps : List (Str × α)) : ((tabS ps).map (·.1)).Nodup := by
  refine snoc_ind (P := fun ps => ((tabS ps).map (·.1)).Nodup) List.nodup_nil (fun ps p ih => ?_) ps
  rw [tabS_snoc]
  exact putS_nd ih
/-- distinct things among others are not more -/
theorem nodup_le {α : Type} : ∀ {xs ys : List α}, xs.Nodup → (∀ x ∈ xs, x ∈ ys) → xs.length ≤ ys.length
  | [], _, _, _ => Nat.zero_le _
  | x :: xs, ys, nd, h => by
    rw [List.nodup_cons] at nd
    obtain ⟨a, b, rfl⟩ := List.append_of_mem (h x List.mem_cons_self)
    have := nodup_le (xs := xs) (ys := a ++ b) nd.2 fun y hy => by
      have := h y (List.mem_cons_of_mem _ hy)
      rw [List.mem_append, List.mem_cons] at this
      rcases this with h1 | h1 | h1
      · exact List.mem_append_left _ h1
      · subst h1; exact absurd hy nd.1
      · exact List.mem_append_right _ h1
    rw [List.length_append] at this
    rw [List.length_append, List.length_cons, List.length_cons]
    omega
end Pv

/-! P21: how large data is, so that it may be shown -/
namespace Pv
open PySem PySem.Spec PyProof.Rows L2
mutual
def szB : Dt → Bool
  | .none => true
  | .bool _ => true
  | .int i => decide (i.natAbs < 2 ^ 200)
  | .str x => PyData.strOk x
  | .list xs => szBs xs
  | .tuple xs => szBs xs
  | .dict _ => false
def szBs : List Dt → Bool
  | [] => true
  | x :: xs => szB x && szBs xs
end
theorem toString_le {i : Int} (h : i.natAbs < 2 ^ 200) : (PyData.int i).shown.length ≤ 64 := by
  rw [PyData.shown_int]
  have hb : 2 ^ 200 < 10 ^ 61 := by decide
  by_cases h0 : 0 ≤ i
  · have := PyProof.Rows.toString_length_le h0 (k := 61) (by decide) (by omega)
    omega
  · have h1 := PyProof.Rows.toString_length_le (v := 0 - i) (by omega) (k := 61) (by decide) (by omega)
    rw [PyProof.Rows.toString_neg (by omega), PySem.ofString_length, String.length_append]
    rw [PySem.ofString_length] at h1
    have : ("-" : String).length = 1 := by decide +kernel
    omega
theorem strOk_16 {x : Str} (h : PyData.strOk x = true) : (x.cps.toList.all fun c => decide (c < 16 ^ 8)) = true := by
  unfold PyData.strOk at h
  rw [List.all_eq_true]
  rw [← Array.all_toList, List.all_eq_true] at h
  intro c hc
  have := h c hc
  simp only [Bool.and_eq_true, Bool.or_eq_true, decide_eq_true_eq] at this ⊢
  omega
mutual
theorem szB_show : ∀ {d : Dt}, szB d = true → d.showable = true ∧ d.hasDict = false ∧ PyData.leavesShort 64 d = true
  | .none, _ => ⟨by unfold PyData.showable; rfl, by unfold PyData.hasDict; rfl, by unfold PyData.leavesShort; rfl⟩
  | .bool b, _ => ⟨by unfold PyData.showable; rfl, by unfold PyData.hasDict; rfl, by unfold PyData.leavesShort; rfl⟩
  | .int i, h => by
    unfold szB at h
    have h := of_decide_eq_true h
    refine ⟨by
      unfold PyData.showable
      refine decide_eq_true ?_
      by_cases h0 : i.natAbs = 0
      · rw [h0]; decide
      · have := (Nat.log2_lt h0).mpr h
        omega, by unfold PyData.hasDict; rfl, by unfold PyData.leavesShort; exact decide_eq_true (toString_le h)⟩
  | .str x, h => by
    unfold szB at h
    exact ⟨by unfold PyData.showable; rfl, by unfold PyData.hasDict; rfl, by unfold PyData.leavesShort; exact strOk_16 h⟩
  | .list xs, h => by
    unfold szB at h
    obtain ⟨h1, h2, h3⟩ := szBs_show h
    exact ⟨by unfold PyData.showable; exact h1, by unfold PyData.hasDict; exact h2, by unfold PyData.leavesShort; exact h3⟩
  | .tuple xs, h => by
    unfold szB at h
    obtain ⟨h1, h2, h3⟩ := szBs_show h
    exact ⟨by unfold PyData.showable; exact h1, by unfold PyData.hasDict; exact h2, by unfold PyData.leavesShort; exact h3⟩
  | .dict _, h => by unfold szB at h; cases h
theorem szBs_show : ∀ {ds : List Dt}, szBs ds = true → PyData.showableAll ds = true ∧ PyData.hasDictAll ds = false ∧ PyData.leavesShortAll 64 ds = true
  | [], _ => ⟨by unfold PyData.showableAll; rfl, by unfold PyData.hasDictAll; rfl, by unfold PyData.leavesShortAll; rfl⟩
  | d :: ds, h => by
    unfold szBs at h
    rw [Bool.and_eq_true] at h
    obtain ⟨a1, a2, a3⟩ := szB_show h.1
    obtain ⟨b1, b2, b3⟩ := szBs_show h.2
    exact ⟨by unfold PyData.showableAll; rw [a1, b1]; rfl, by unfold PyData.hasDictAll; rw [a2, b2]; rfl, by unfold PyData.leavesShortAll; rw [a3, b3]; rfl⟩
end
/-- data of at most this bulk and depth -/
structure Sz (n m : Nat) (d : Dt) : Prop where
  b : szB d = true
  n : d.bulk ≤ n
  m : d.depth ≤ m
structure SzA (n m : Nat) (ds : List Dt) : Prop where
  b : szBs ds = true
  n : PyData.bulkAll ds ≤ n
  m : PyData.depthAll ds ≤ m
theorem Sz.up {n m n' m' : Nat} {d : Dt} (h : Sz n m d) (hn : n ≤ n') (hm : m ≤ m') : Sz n' m' d := ⟨h.b, Nat.le_trans h.n hn, Nat.le_trans h.m hm⟩
theorem SzA.up {n m n' m' : Nat} {d : List Dt} (h : SzA n m d) (hn : n ≤ n') (hm : m ≤ m') : SzA n' m' d := ⟨h.b, Nat.le_trans h.n hn, Nat.le_trans h.m hm⟩
theorem sz_int {m : Nat} {i : Int} (h : i.natAbs < 2 ^ 200) : Sz 0 m (.int i) := ⟨by unfold szB; exact decide_eq_true h, by unfold PyData.bulk; exact Nat.le_refl _, by unfold PyData.depth; exact Nat.zero_le _⟩
theorem sz_str {n m : Nat} {x : Str} (h : PyData.strOk x = true) (hl : x.length ≤ n) : Sz n m (.str x) := ⟨by unfold szB; exact h, by unfold PyData.bulk; exact hl, by unfold PyData.depth; exact Nat.zero_le _⟩
theorem sz_bool {m : Nat} {b : Bool} : Sz 0 m (.bool b) := ⟨by unfold szB; rfl, by unfold PyData.bulk; exact Nat.le_refl _, by unfold PyData.depth; exact Nat.zero_le _⟩
theorem sz_none {m : Nat} : Sz 0 m .none := ⟨by unfold szB; rfl, by unfold PyData.bulk; exact Nat.le_refl _, by unfold PyData.depth; exact Nat.zero_le _⟩
theorem sz_nil {m : Nat} : SzA 0 m [] := ⟨by unfold szBs; rfl, by unfold PyData.bulkAll; exact Nat.le_refl _, by unfold PyData.depthAll; exact Nat.zero_le _⟩
theorem sz_cons {n N m : Nat} {d : Dt} {ds : List Dt} (h : Sz n m d) (h2 : SzA N m ds) : SzA (n + 1 + N) m (d :: ds) :=
  ⟨by unfold szBs; rw [h.b, h2.b]; rfl, by unfold PyData.bulkAll; have := h.n; have := h2.n; omega, by unfold PyData.depthAll; exact Nat.max_le.mpr ⟨h.m, h2.m⟩⟩
theorem sz_tup {N m : Nat} {ds : List Dt} (h : SzA N m ds) : Sz N (m + 1) (.tuple ds) :=
  ⟨by unfold szB; exact h.b, by unfold PyData.bulk; exact h.n, by unfold PyData.depth; exact Nat.succ_le_succ h.m⟩
theorem sz_lst {N m : Nat} {ds : List Dt} (h : SzA N m ds) : Sz N (m + 1) (.list ds) :=
  ⟨by unfold szB; exact h.b, by unfold PyData.bulk; exact h.n, by unfold PyData.depth; exact Nat.succ_le_succ h.m⟩
theorem sz_all {n m : Nat} : ∀ {ds : List Dt}, (∀ d ∈ ds, Sz n m d) → SzA (ds.length * (n + 1)) m ds
  | [], _ => by rw [List.length_nil, Nat.zero_mul]; exact sz_nil
  | d :: ds, h => by
    have := sz_cons (h d List.mem_cons_self) (sz_all fun x hx => h x (List.mem_cons_of_mem _ hx))
    refine this.up ?_ (Nat.le_refl _)
    rw [List.length_cons, Nat.succ_mul]; omega
theorem sz_map {α : Type} {f : α → Dt} {xs : List α} {n m L : Nat} (hl : xs.length ≤ L) (h : ∀ x ∈ xs, Sz n m (f x)) : SzA (L * (n + 1)) m (xs.map f) := by
  refine (sz_all (n := n) (ds := xs.map f) fun d hd => ?_).up ?_ (Nat.le_refl _)
  · obtain ⟨x, hx, rfl⟩ := List.mem_map.mp hd
    exact h x hx
  · rw [List.length_map]; exact Nat.mul_le_mul_right _ hl
theorem rep_ok {n m : Nat} {d : Dt} (h : Sz n m d) (hs : isSq d = true) (hn : n ≤ 250000) (hm : m ≤ 60) : repOk d = true := by
  obtain ⟨h1, h2, h3⟩ := szB_show h.b
  have h4 := PyData.shown_le_bulk 64 (by decide) d h3
  have h5 : d.shown.length ≤ sizeLine := by
    have e : sizeLine = 16777216 := rfl
    have := h.n
    omega
  have h6 : d.depth ≤ 60 := Nat.le_trans h.m hm
  unfold repOk
  rw [hs, h1, h2, decide_eq_true h5, decide_eq_true h6]
  rfl
theorem wr_repr {mh : List Ob} {Q : Val → List Ob → Prop} {d : Dt} {n m : Nat} (h : Sz n m d) (hs : isSq d = true) (hn : n ≤ 250000) (hm : m ≤ 60) (q : Q (.d (.str d.shown)) mh) : WR false (Bi.f .repr mh [.d d]) mh Q := by
  refine wr_v ?_ q
  show (if repOk d = true then some (Rv.v (.d (.str d.shown))) else none) = _
  rw [if_pos (rep_ok h hs hn hm)]
/-! names -/
/-- a name that may be shown, of at most ten signs -/
def SN (n : Nat) (x : Str) : Prop := PyData.strOk x = true ∧ x.length ≤ n
abbrev SM (x : Str) : Prop := SN 10 x
theorem SN.up {n m : Nat} {x : Str} (h : SN n x) (hn : n ≤ m) : SN m x := ⟨h.1, Nat.le_trans h.2 hn⟩
theorem SN.app {n m : Nat} {x y : Str} (h : SN n x) (h2 : SN m y) : SN (n + m) (x ++ y) := ⟨wo_app h.1 h2.1, by rw [len_app]; have := h.2; have := h2.2; omega⟩
theorem sz_nm {m : Nat} {x : Str} (h : SM x) : Sz 10 m (.str x) := sz_str h.1 h.2
end Pv

/-! a global constant that is a tuple -/
namespace Pv
open PySem PySem.Spec PyProof.Rows L2
theorem den_t {K : PySem.W.Frag} {a : Addr} {od : Option Addr} {its : Array Value} {n : Nat} {sl : Array (Option Value)} {xs : List V} {ds : List Dt} (h : K.lookup a = some ⟨.type "tuple", od, .seq its n, sl⟩) (h1 : its.size ≤ sizeLine) (hv : L2.Vals xs its.toList) (hl : ds.length ≤ sizeLine) (hd : ∀ F, DenAll K F xs ds) : ∀ F, Den K F (.ref a) (.tuple ds) :=
  fun F => .tup (.inr ⟨_, its, n, h, rfl, rfl, h1, hv⟩) hl (hd F)
theorem all_nil {K : PySem.W.Frag} : ∀ F, DenAll K F [] [] := fun _ => .nil
theorem all_cons {K : PySem.W.Frag} {v : V} {vs : List V} {d : Dt} {ds : List Dt} (h1 : ∀ F, Den K F v d) (h2 : ∀ F, DenAll K F vs ds) : ∀ F, DenAll K F (v :: vs) (d :: ds) := fun F => .cons (h1 F) (h2 F)
theorem rel_ref {a : Addr} : L2.RelV (.ref a) (Value.ref a) := rfl
theorem rel_int {i : Int} {t} : L2.RelV (.int i) (Value.int i t) := ⟨t, rfl⟩
theorem rel_str {x : Str} {t} : L2.RelV (.str x) (Value.str x t) := ⟨t, rfl⟩
end Pv

namespace PvK
open PySem PySem.Spec PyProof.Rows L2 Pv
/-! the defs of the law, as terms -/
def f0 : Df where
  name := "statements_in"
  ps := ["body"]
  N := ["body", "found", "statement", "block"]
  body :=
    (.cons (.set 1 (.lst true .nil))
    (.cons (.for (.nm 2) (.val (.slot 0)) (.cons (.expr (.meth .append (.slot 1) (.cons (.slot 2) .nil)))
    (.cons (.iff (.cmp .In (.ix (.slot 2) (.k (.int 0))) (.tup (.cons (.k (.str "if")) (.cons (.k (.str "while")) .nil)))) (.cons (.for (.nm 3) (.val (.sl false (.slot 2) (.k (.int 2)) .absent)) (.cons (.expr (.meth .extend (.slot 1) (.cons (.call 0 (.cons (.slot 3) .nil)) .nil)))
    .nil))
    .nil) .nil)
    .nil)))
    (.frz 1 (.cons (.ret (.slot 1))
    .nil))))
def f1 : Df where
  name := "atoms_of_proc"
  ps := ["proc"]
  N := ["proc", "found", "kind", "x"]
  body :=
    (.cons (.set 1 (.lst true .nil))
    (.cons (.for (.tp 2 (.cons (.nm 2) (.cons (.nm 3) .nil))) (.val (.ix (.slot 0) (.k (.int 1)))) (.cons (.iff (.cmp .Eq (.slot 2) (.k (.str "array"))) (.cons (.expr (.meth .append (.slot 1) (.cons (.bin .Add false (.k (.str "@#")) (.slot 3)) .nil)))
    .nil) .nil)
    (.cons (.expr (.meth .append (.slot 1) (.cons (.bin .Add false (.k (.str "@")) (.slot 3)) .nil)))
    .nil)))
    (.frz 1 (.cons (.ret (.bi .tuple false (.cons (.slot 1) .nil)))
    .nil))))
def f2 : Df where
  name := "comparisons_in"
  ps := ["condition"]
  N := ["condition", "found", "part"]
  body :=
    (.cons (.iff (.cmp .In (.ix (.slot 0) (.k (.int 0))) (.tup (.cons (.k (.str "less")) (.cons (.k (.str "same")) .nil)))) (.cons (.ret (.lst false (.cons (.slot 0) .nil)))
    .nil) .nil)
    (.cons (.set 1 (.lst true .nil))
    (.cons (.for (.nm 2) (.val (.sl false (.slot 0) (.k (.int 1)) .absent)) (.cons (.expr (.meth .extend (.slot 1) (.cons (.call 2 (.cons (.slot 2) .nil)) .nil)))
    .nil))
    (.frz 1 (.cons (.ret (.slot 1))
    .nil)))))
def f3 : Df where
  name := "keys_in"
  ps := ["expression"]
  N := ["expression", "kind"]
  body :=
    (.cons (.set 1 (.ix (.slot 0) (.k (.int 0))))
    (.cons (.iff (.cmp .Eq (.slot 1) (.k (.str "name"))) (.cons (.ret (.lst false (.cons (.ix (.slot 0) (.k (.int 1))) .nil)))
    .nil) .nil)
    (.cons (.iff (.cmp .Eq (.slot 1) (.k (.str "length"))) (.cons (.ret (.lst false (.cons (.bin .Add false (.k (.str "#")) (.ix (.slot 0) (.k (.int 1)))) .nil)))
    .nil) .nil)
    (.cons (.iff (.cmp .Eq (.slot 1) (.k (.str "item"))) (.cons (.ret (.bin .Add false (.lst false (.cons (.bin .Add false (.k (.str "#")) (.ix (.slot 0) (.k (.int 1)))) (.cons (.bin .Add false (.ix (.slot 0) (.k (.int 1))) (.k (.str "[]"))) .nil))) (.call 3 (.cons (.ix (.slot 0) (.k (.int 2))) .nil))))
    .nil) .nil)
    (.cons (.iff (.cmp .Eq (.slot 1) (.k (.str "scale"))) (.cons (.ret (.call 3 (.cons (.ix (.slot 0) (.k (.int 2))) .nil)))
    .nil) .nil)
    (.cons (.iff (.or2 (.cmp .Eq (.slot 1) (.k (.str "plus"))) (.one (.cmp .Eq (.slot 1) (.k (.str "minus"))))) (.cons (.ret (.bin .Add false (.call 3 (.cons (.ix (.slot 0) (.k (.int 1))) .nil)) (.call 3 (.cons (.ix (.slot 0) (.k (.int 2))) .nil))))
    .nil) .nil)
    (.cons (.iff (.or2 (.cmp .Eq (.slot 1) (.k (.str "quotient"))) (.one (.cmp .Eq (.slot 1) (.k (.str "remainder"))))) (.cons (.ret (.call 3 (.cons (.ix (.slot 0) (.k (.int 1))) .nil)))
    .nil) .nil)
    (.cons (.ret (.lst false .nil))
    .nil))))))))
def f4 : Df where
  name := "__init__"
  ps := ["self", "core"]
  N := ["self", "core", "proc"]
  body :=
    (.cons (.fset ["Marks"] "core" (.slot 0) (.slot 1))
    (.cons (.fset ["Marks"] "procs" (.slot 0) (.dc false [("proc", 2)] (.nm 2) (.val (.slot 1)) .yes (.ix (.slot 2) (.k (.int 0))) (.slot 2)))
    (.cons (.fset ["Marks"] "table" (.slot 0) (.dict0 true))
    (.cons (.fset ["Marks"] "growing" (.slot 0) (.k (.bl false)))
    (.cons (.for (.nm 2) (.val (.slot 1)) (.cons (.expr (.mcall [("Marks", 5)] "begin" (.slot 0) (.cons (.slot 2) .nil)))
    .nil))
    .nil)))))
  kp := true
  fn := false
  qn := "Marks.__init__"
def f5 : Df where
  name := "begin"
  ps := ["self", "proc"]
  N := ["self", "proc", "own", "kind", "x", "result"]
  body :=
    (.cons (.set 2 (.dk (.glob 0) (.lst true .nil)))
    (.cons (.for (.tp 2 (.cons (.nm 3) (.cons (.nm 4) .nil))) (.val (.bin .Add false (.ix (.slot 1) (.k (.int 1))) (.ix (.slot 1) (.k (.int 3))))) (.cons (.iff (.cmp .Eq (.slot 3) (.k (.str "array"))) (.cons (.asg (.sb (.slot 2) (.bin .Add false (.k (.str "#")) (.slot 4))) (.lst true .nil))
    (.cons (.asg (.sb (.slot 2) (.bin .Add false (.slot 4) (.k (.str "[]")))) (.lst true .nil))
    .nil)) (.cons (.asg (.sb (.slot 2) (.slot 4)) (.lst true .nil))
    .nil))
    .nil))
    (.cons (.for (.tp 2 (.cons (.nm 3) (.cons (.nm 4) .nil))) (.val (.ix (.slot 1) (.k (.int 1)))) (.cons (.iff (.cmp .Eq (.slot 3) (.k (.str "array"))) (.cons (.expr (.meth .append (.ix (.slot 2) (.bin .Add false (.k (.str "#")) (.slot 4))) (.cons (.bin .Add false (.k (.str "@#")) (.slot 4)) .nil)))
    (.cons (.expr (.meth .append (.ix (.slot 2) (.bin .Add false (.slot 4) (.k (.str "[]")))) (.cons (.bin .Add false (.k (.str "@")) (.slot 4)) .nil)))
    .nil)) (.cons (.expr (.meth .append (.ix (.slot 2) (.slot 4)) (.cons (.bin .Add false (.k (.str "@")) (.slot 4)) .nil)))
    .nil))
    .nil))
    (.cons (.for (.nm 5) (.val (.ix (.slot 1) (.k (.int 2)))) (.cons (.asg (.sb (.slot 2) (.bin .Add false (.k (.str "give ")) (.slot 5))) (.lst true .nil))
    .nil))
    (.cons (.asg (.sb (.fld ["Marks"] "table" (.slot 0)) (.ix (.slot 1) (.k (.int 0)))) (.slot 2))
    .nil)))))
  kp := true
  fn := false
  qn := "Marks.begin"
def f6 : Df where
  name := "add"
  ps := ["self", "name", "key", "atoms"]
  N := ["self", "name", "key", "atoms", "mark", "atom"]
  body :=
    (.cons (.set 4 (.ix (.ix (.fld ["Marks"] "table" (.slot 0)) (.slot 1)) (.slot 2)))
    (.cons (.for (.nm 5) (.val (.slot 3)) (.cons (.iff (.cmp .NotIn (.slot 5) (.slot 4)) (.cons (.expr (.meth .append (.slot 4) (.cons (.slot 5) .nil)))
    (.cons (.fset ["Marks"] "growing" (.slot 0) (.k (.bl true)))
    .nil)) .nil)
    .nil))
    .nil))
  kp := true
  fn := false
  qn := "Marks.add"
def f7 : Df where
  name := "gathered"
  ps := ["self", "name", "keys"]
  N := ["self", "name", "keys", "found", "key", "atom"]
  body :=
    (.cons (.set 3 (.lst true .nil))
    (.cons (.for (.nm 4) (.val (.slot 2)) (.cons (.expr (.meth .extend (.slot 3) (.cons (.lc false [("atom", 5)] (.nm 5) (.val (.ix (.ix (.fld ["Marks"] "table" (.slot 0)) (.slot 1)) (.slot 4))) (.cmp .NotIn (.slot 5) (.slot 3)) (.slot 5)) .nil)))
    .nil))
    (.frz 3 (.cons (.ret (.slot 3))
    .nil))))
  kp := false
  fn := false
  qn := "Marks.gathered"
def f8 : Df where
  name := "flow"
  ps := ["self", "name", "key", "keys"]
  N := ["self", "name", "key", "keys"]
  body :=
    (.cons (.expr (.mcall [("Marks", 6)] "add" (.slot 0) (.cons (.slot 1) (.cons (.slot 2) (.cons (.mcall [("Marks", 7)] "gathered" (.slot 0) (.cons (.slot 1) (.cons (.slot 3) .nil))) .nil)))))
    .nil)
  kp := true
  fn := false
  qn := "Marks.flow"
def f9 : Df where
  name := "condition"
  ps := ["self", "name", "condition"]
  N := ["self", "name", "condition", "comparison"]
  body :=
    (.cons (.for (.nm 3) (.val (.call 2 (.cons (.slot 2) .nil))) (.cons (.expr (.mcall [("Marks", 8)] "flow" (.slot 0) (.cons (.slot 1) (.cons (.glob 0) (.cons (.bin .Add false (.call 3 (.cons (.ix (.slot 3) (.k (.int 1))) .nil)) (.call 3 (.cons (.ix (.slot 3) (.k (.int 2))) .nil))) .nil)))))
    .nil))
    .nil)
  kp := true
  fn := false
  qn := "Marks.condition"
def f10 : Df where
  name := "stands_for"
  ps := ["self", "name", "statement"]
  N := ["self", "name", "statement", "found", "item", "argument"]
  body :=
    (.cons (.set 3 (.dict0 true))
    (.cons (.for (.tp 2 (.cons (.nm 4) (.cons (.nm 5) .nil))) (.zip (.cons (.ix (.ix (.fld ["Marks"] "procs" (.slot 0)) (.ix (.slot 2) (.k (.int 1)))) (.k (.int 1))) (.cons (.ix (.slot 2) (.k (.int 2))) .nil))) (.cons (.iff (.cmp .Eq (.ix (.slot 4) (.k (.int 0))) (.k (.str "array"))) (.cons (.asg (.sb (.slot 3) (.bin .Add false (.k (.str "@#")) (.ix (.slot 4) (.k (.int 1))))) (.lst false (.cons (.bin .Add false (.k (.str "#")) (.ix (.slot 5) (.k (.int 1)))) .nil)))
    (.cons (.asg (.sb (.slot 3) (.bin .Add false (.k (.str "@")) (.ix (.slot 4) (.k (.int 1))))) (.lst false (.cons (.bin .Add false (.ix (.slot 5) (.k (.int 1))) (.k (.str "[]"))) .nil)))
    .nil)) (.cons (.asg (.sb (.slot 3) (.bin .Add false (.k (.str "@")) (.ix (.slot 4) (.k (.int 1))))) (.call 3 (.cons (.slot 5) .nil)))
    .nil))
    .nil))
    (.frz 3 (.cons (.ret (.slot 3))
    .nil))))
  kp := false
  fn := false
  qn := "Marks.stands_for"
def f11 : Df where
  name := "hand_on"
  ps := ["self", "name", "key", "callee", "callee_key", "table"]
  N := ["self", "name", "key", "callee", "callee_key", "table", "atom"]
  body :=
    (.cons (.for (.nm 6) (.val (.bi .list false (.cons (.ix (.ix (.fld ["Marks"] "table" (.slot 0)) (.slot 3)) (.slot 4)) .nil))) (.cons (.expr (.mcall [("Marks", 8)] "flow" (.slot 0) (.cons (.slot 1) (.cons (.slot 2) (.cons (.ix (.slot 5) (.slot 6)) .nil)))))
    .nil))
    .nil)
  kp := true
  fn := false
  qn := "Marks.hand_on"
def f12 : Df where
  name := "call"
  ps := ["self", "name", "statement"]
  N := ["self", "name", "statement", "kind", "callee", "arguments", "targets", "proc", "table", "target", "result", "item", "argument"]
  body :=
    (.cons (.asg (.tp 4 (.cons (.nm 3) (.cons (.nm 4) (.cons (.nm 5) (.cons (.nm 6) .nil))))) (.slot 2))
    (.cons (.set 7 (.ix (.fld ["Marks"] "procs" (.slot 0)) (.slot 4)))
    (.cons (.set 8 (.mcall [("Marks", 10)] "stands_for" (.slot 0) (.cons (.slot 1) (.cons (.slot 2) .nil))))
    (.cons (.expr (.mcall [("Marks", 11)] "hand_on" (.slot 0) (.cons (.slot 1) (.cons (.glob 0) (.cons (.slot 4) (.cons (.glob 0) (.cons (.slot 8) .nil)))))))
    (.cons (.for (.tp 2 (.cons (.nm 9) (.cons (.nm 10) .nil))) (.zip (.cons (.slot 6) (.cons (.ix (.slot 7) (.k (.int 2))) .nil))) (.cons (.expr (.mcall [("Marks", 11)] "hand_on" (.slot 0) (.cons (.slot 1) (.cons (.slot 9) (.cons (.slot 4) (.cons (.bin .Add false (.k (.str "give ")) (.slot 10)) (.cons (.slot 8) .nil)))))))
    .nil))
    (.cons (.for (.tp 2 (.cons (.nm 11) (.cons (.nm 12) .nil))) (.zip (.cons (.ix (.slot 7) (.k (.int 1))) (.cons (.slot 5) .nil))) (.cons (.iff (.cmp .Eq (.ix (.slot 11) (.k (.int 0))) (.k (.str "array"))) (.cons (.expr (.mcall [("Marks", 11)] "hand_on" (.slot 0) (.cons (.slot 1) (.cons (.bin .Add false (.k (.str "#")) (.ix (.slot 12) (.k (.int 1)))) (.cons (.slot 4) (.cons (.bin .Add false (.k (.str "#")) (.ix (.slot 11) (.k (.int 1)))) (.cons (.slot 8) .nil)))))))
    (.cons (.expr (.mcall [("Marks", 11)] "hand_on" (.slot 0) (.cons (.slot 1) (.cons (.bin .Add false (.ix (.slot 12) (.k (.int 1))) (.k (.str "[]"))) (.cons (.slot 4) (.cons (.bin .Add false (.ix (.slot 11) (.k (.int 1))) (.k (.str "[]"))) (.cons (.slot 8) .nil)))))))
    .nil)) .nil)
    .nil))
    .nil))))))
  kp := true
  fn := false
  qn := "Marks.call"
def f13 : Df where
  name := "follow"
  ps := ["self", "name", "statement"]
  N := ["self", "name", "statement", "kind", "x", "expression", "keys", "result"]
  body :=
    (.cons (.set 3 (.ix (.slot 2) (.k (.int 0))))
    (.cons (.iff (.cmp .Eq (.slot 3) (.k (.str "set"))) (.cons (.for (.tp 2 (.cons (.nm 4) (.cons (.nm 5) .nil))) (.val (.ix (.slot 2) (.k (.int 1)))) (.cons (.expr (.mcall [("Marks", 8)] "flow" (.slot 0) (.cons (.slot 1) (.cons (.slot 4) (.cons (.call 3 (.cons (.slot 5) .nil)) .nil)))))
    .nil))
    .nil) (.cons (.iff (.cmp .Eq (.slot 3) (.k (.str "store"))) (.cons (.set 6 (.bin .Add false (.bin .Add false (.call 3 (.cons (.ix (.slot 2) (.k (.int 2))) .nil)) (.call 3 (.cons (.ix (.slot 2) (.k (.int 3))) .nil))) (.lst false (.cons (.bin .Add false (.k (.str "#")) (.ix (.slot 2) (.k (.int 1)))) .nil))))
    (.cons (.expr (.mcall [("Marks", 8)] "flow" (.slot 0) (.cons (.slot 1) (.cons (.bin .Add false (.ix (.slot 2) (.k (.int 1))) (.k (.str "[]"))) (.cons (.slot 6) .nil)))))
    .nil)) (.cons (.iff (.cmp .Eq (.slot 3) (.k (.str "push"))) (.cons (.expr (.mcall [("Marks", 8)] "flow" (.slot 0) (.cons (.slot 1) (.cons (.bin .Add false (.ix (.slot 2) (.k (.int 2))) (.k (.str "[]"))) (.cons (.bin .Add false (.call 3 (.cons (.ix (.slot 2) (.k (.int 1))) .nil)) (.lst false (.cons (.bin .Add false (.k (.str "#")) (.ix (.slot 2) (.k (.int 2)))) .nil))) .nil)))))
    .nil) (.cons (.iff (.cmp .Eq (.slot 3) (.k (.str "pop"))) (.cons (.expr (.mcall [("Marks", 8)] "flow" (.slot 0) (.cons (.slot 1) (.cons (.ix (.slot 2) (.k (.int 1))) (.cons (.lst false (.cons (.bin .Add false (.k (.str "#")) (.ix (.slot 2) (.k (.int 2)))) (.cons (.bin .Add false (.ix (.slot 2) (.k (.int 2))) (.k (.str "[]"))) .nil))) .nil)))))
    .nil) (.cons (.iff (.cmp .Eq (.slot 3) (.k (.str "give"))) (.cons (.for (.tp 2 (.cons (.nm 7) (.cons (.nm 5) .nil))) (.zip (.cons (.ix (.ix (.fld ["Marks"] "procs" (.slot 0)) (.slot 1)) (.k (.int 2))) (.cons (.ix (.slot 2) (.k (.int 1))) .nil))) (.cons (.expr (.mcall [("Marks", 8)] "flow" (.slot 0) (.cons (.slot 1) (.cons (.bin .Add false (.k (.str "give ")) (.slot 7)) (.cons (.call 3 (.cons (.slot 5) .nil)) .nil)))))
    .nil))
    .nil) (.cons (.iff (.cmp .Eq (.slot 3) (.k (.str "call"))) (.cons (.expr (.mcall [("Marks", 12)] "call" (.slot 0) (.cons (.slot 1) (.cons (.slot 2) .nil))))
    .nil) (.cons (.iff (.cmp .In (.slot 3) (.tup (.cons (.k (.str "if")) (.cons (.k (.str "while")) .nil)))) (.cons (.expr (.mcall [("Marks", 9)] "condition" (.slot 0) (.cons (.slot 1) (.cons (.ix (.slot 2) (.k (.int 1))) .nil))))
    .nil) .nil)
    .nil))
    .nil))
    .nil))
    .nil))
    .nil))
    .nil))
    .nil))
  kp := true
  fn := false
  qn := "Marks.follow"
def f14 : Df where
  name := "settle"
  ps := ["self"]
  N := ["self", "statements", "name", "statement", "proc"]
  body :=
    (.cons (.swp 1 (.lc2 false [("proc", 4), ("statement", 3)] (.nm 4) (.val (.fld ["Marks"] "core" (.slot 0))) .yes [3] (.nm 3) (.val (.call 0 (.cons (.ix (.slot 4) (.k (.int 8))) .nil))) .yes (.tup (.cons (.ix (.slot 4) (.k (.int 0))) (.cons (.slot 3) .nil)))))
    (.cons (.fset ["Marks"] "growing" (.slot 0) (.k (.bl true)))
    (.cons (.while 1000000 (.tru (.fld ["Marks"] "growing" (.slot 0))) (.cons (.fset ["Marks"] "growing" (.slot 0) (.k (.bl false)))
    (.cons (.for (.tp 2 (.cons (.nm 2) (.cons (.nm 3) .nil))) (.val (.slot 1)) (.cons (.expr (.mcall [("Marks", 13)] "follow" (.slot 0) (.cons (.slot 2) (.cons (.slot 3) .nil))))
    .nil))
    .nil)))
    .nil)))
  kp := true
  fn := false
  qn := "Marks.settle"
def f15 : Df where
  name := "mark"
  ps := ["self", "proc", "key"]
  N := ["self", "proc", "key", "held", "atom"]
  body :=
    (.cons (.set 3 (.ix (.ix (.fld ["Marks"] "table" (.slot 0)) (.ix (.slot 1) (.k (.int 0)))) (.slot 2)))
    (.cons (.ret (.bi .tuple false (.cons (.lc false [("atom", 4)] (.nm 4) (.val (.call 1 (.cons (.slot 1) .nil))) (.cmp .In (.slot 4) (.slot 3)) (.slot 4)) .nil)))
    .nil))
  kp := false
  fn := false
  qn := "Marks.mark"
def f16 : Df where
  name := "row"
  ps := ["self", "proc"]
  N := ["self", "proc", "results", "arrays", "result", "kind", "x"]
  body :=
    (.cons (.set 2 (.bi .tuple false (.cons (.lc false [("result", 4)] (.nm 4) (.val (.ix (.slot 1) (.k (.int 2)))) .yes (.mcall [("Marks", 15)] "mark" (.slot 0) (.cons (.slot 1) (.cons (.bin .Add false (.k (.str "give ")) (.slot 4)) .nil)))) .nil)))
    (.cons (.swp 3 (.lc false [("kind", 5), ("x", 6)] (.tp 2 (.cons (.nm 5) (.cons (.nm 6) .nil))) (.val (.ix (.slot 1) (.k (.int 1)))) (.cmp .Eq (.slot 5) (.k (.str "array"))) (.tup (.cons (.mcall [("Marks", 15)] "mark" (.slot 0) (.cons (.slot 1) (.cons (.bin .Add false (.k (.str "#")) (.slot 6)) .nil))) (.cons (.mcall [("Marks", 15)] "mark" (.slot 0) (.cons (.slot 1) (.cons (.bin .Add false (.slot 6) (.k (.str "[]"))) .nil))) .nil)))))
    (.cons (.ret (.tup (.cons (.ix (.slot 1) (.k (.int 0))) (.cons (.mcall [("Marks", 15)] "mark" (.slot 0) (.cons (.slot 1) (.cons (.glob 0) .nil))) (.cons (.slot 2) (.cons (.bi .tuple false (.cons (.slot 3) .nil)) .nil))))))
    .nil)))
  kp := false
  fn := false
  qn := "Marks.row"
def f17 : Df where
  name := "leans_of"
  ps := ["core"]
  N := ["core", "marks", "proc"]
  body :=
    (.cons (.set 1 (.mk "Marks" 4 (.cons (.slot 0) .nil)))
    (.cons (.expr (.mcall [("Marks", 14)] "settle" (.slot 1) .nil))
    (.cons (.ret (.bi .tuple false (.cons (.lc false [("proc", 2)] (.nm 2) (.val (.slot 0)) .yes (.mcall [("Marks", 16)] "row" (.slot 1) (.cons (.slot 2) .nil))) .nil)))
    .nil)))
def f18 : Df where
  name := "_law_start"
  ps := ["script"]
  N := ["script"]
  body :=
    (.cons (.ret (.lst true (.cons (.bi .list false (.cons (.slot 0) .nil)) (.cons (.k (.int 0)) (.cons (.k (.int 0)) (.cons (.k (.int 0)) .nil))))))
    .nil)
def f19 : Df where
  name := "_law_draw"
  ps := ["state", "most"]
  N := ["state", "most", "found", "cell", "mixed"]
  body :=
    (.cons (.asg (.sb (.slot 0) (.k (.int 3))) (.bin .Add false (.ix (.slot 0) (.k (.int 3))) (.k (.int 1))))
    (.cons (.iff (.cmp .Gt (.ix (.slot 0) (.k (.int 2))) (.k (.int 0))) (.cons (.set 2 (.bin .Mod false (.bi .int false (.cons (.ix (.slot 0) (.k (.int 2))) .nil)) (.slot 1)))
    (.cons (.asg (.sb (.slot 0) (.k (.int 2))) (.bin .FloorDiv false (.ix (.slot 0) (.k (.int 2))) (.slot 1)))
    (.cons (.ret (.slot 2))
    .nil))) .nil)
    (.cons (.set 3 (.k (.int 0)))
    (.cons (.iff (.cmp .Gt (.bi .len false (.cons (.ix (.slot 0) (.k (.int 0))) .nil)) (.k (.int 0))) (.cons (.set 3 (.bi .abs false (.cons (.ix (.ix (.slot 0) (.k (.int 0))) (.bin .Mod false (.bi .int false (.cons (.ix (.slot 0) (.k (.int 1))) .nil)) (.bi .len false (.cons (.ix (.slot 0) (.k (.int 0))) .nil)))) .nil)))
    .nil) .nil)
    (.cons (.asg (.sb (.slot 0) (.k (.int 1))) (.bin .Add false (.ix (.slot 0) (.k (.int 1))) (.k (.int 1))))
    (.cons (.iff (.cmp .GtE (.slot 3) (.bin .Pow false (.k (.int 10)) (.k (.int 18)))) (.cons (.asg (.sb (.slot 0) (.k (.int 2))) (.bin .FloorDiv false (.slot 3) (.slot 1)))
    (.cons (.ret (.bin .Mod false (.bi .int false (.cons (.slot 3) .nil)) (.slot 1)))
    .nil)) .nil)
    (.cons (.set 4 (.bin .Mod false (.bi .int false (.cons (.bin .Add false (.bin .Mult false (.bin .Add false (.slot 3) (.k (.int 1))) (.k (.int 48271))) (.bin .Mult false (.ix (.slot 0) (.k (.int 3))) (.k (.int 69621)))) .nil)) (.k (.int 2147483647))))
    (.cons (.set 4 (.bin .Mod false (.bi .int false (.cons (.bin .Add false (.bin .Add false (.bin .Mult false (.slot 4) (.k (.int 16807))) (.bin .FloorDiv false (.slot 3) (.k (.int 97)))) (.ix (.slot 0) (.k (.int 3)))) .nil)) (.k (.int 2147483629))))
    (.cons (.ret (.bin .Mod false (.bin .FloorDiv false (.slot 4) (.k (.int 11))) (.slot 1)))
    .nil)))))))))
def f20 : Df where
  name := "_law_words"
  ps := ["state", "many"]
  N := ["state", "many", "letters", "start", "step", "shared", "k"]
  body :=
    (.cons (.set 2 (.k (.str "abcdefghijklmnopqrstuvwxyz")))
    (.cons (.set 3 (.call 19 (.cons (.slot 0) (.cons (.k (.int 26)) .nil))))
    (.cons (.set 4 (.bin .Add false (.k (.int 1)) (.bin .Mult false (.k (.int 2)) (.call 19 (.cons (.slot 0) (.cons (.k (.int 6)) .nil))))))
    (.cons (.set 5 (.sl false (.k (.str "qxz")) .absent (.call 19 (.cons (.slot 0) (.cons (.k (.int 4)) .nil)))))
    (.cons (.iff (.cmp .Eq (.call 19 (.cons (.slot 0) (.cons (.k (.int 2)) .nil))) (.k (.int 0))) (.cons (.ret (.lc false [("k", 6)] (.nm 6) (.range1 (.cons (.slot 1) .nil)) .yes (.bin .Add false (.slot 5) (.ix (.slot 2) (.bin .Mod false (.bi .int false (.cons (.bin .Add false (.slot 3) (.bin .Mult false (.slot 6) (.slot 4))) .nil)) (.k (.int 26)))))))
    .nil) .nil)
    (.cons (.ret (.lc false [("k", 6)] (.nm 6) (.range1 (.cons (.slot 1) .nil)) .yes (.bin .Add false (.ix (.slot 2) (.bin .Mod false (.bi .int false (.cons (.bin .Add false (.slot 3) (.bin .Mult false (.slot 6) (.slot 4))) .nil)) (.k (.int 26)))) (.slot 5))))
    .nil))))))
def f21 : Df where
  name := "_law_is_int"
  ps := ["x"]
  N := ["x"]
  body :=
    (.cons (.ret (.and2 (.isin "int" (.slot 0)) (.one (.nt (.isin "bool" (.slot 0))))))
    .nil)
def f22 : Df where
  name := "_law_same"
  ps := ["x", "y"]
  N := ["x", "y", "k"]
  body :=
    (.cons (.iff (.tru (.isin "tuple" (.slot 1))) (.cons (.iff (.or2 (.nt (.tru (.isin "tuple" (.slot 0)))) (.one (.cmp .NotEq (.bi .len false (.cons (.slot 0) .nil)) (.bi .len false (.cons (.slot 1) .nil))))) (.cons (.ret (.k (.bl false)))
    .nil) .nil)
    (.cons (.ret (.bi .all false (.cons (.lc false [("k", 2)] (.nm 2) (.range1 (.cons (.bi .len false (.cons (.slot 1) .nil)) .nil)) .yes (.call 22 (.cons (.ix (.slot 0) (.slot 2)) (.cons (.ix (.slot 1) (.slot 2)) .nil)))) .nil)))
    .nil)) .nil)
    (.cons (.iff (.tru (.isin "str" (.slot 1))) (.cons (.ret (.and2 (.isin "str" (.slot 0)) (.one (.cmp .Eq (.slot 0) (.slot 1)))))
    .nil) .nil)
    (.cons (.ret (.and2 (.call 21 (.cons (.slot 0) .nil)) (.one (.cmp .Eq (.slot 0) (.slot 1)))))
    .nil)))
def f23 : Df where
  name := "_law_statements"
  ps := ["body"]
  N := ["body", "found", "s"]
  body :=
    (.cons (.set 1 (.lst true .nil))
    (.cons (.for (.nm 2) (.val (.slot 0)) (.cons (.expr (.meth .append (.slot 1) (.cons (.slot 2) .nil)))
    (.cons (.iff (.cmp .Eq (.ix (.slot 2) (.k (.int 0))) (.k (.str "while"))) (.cons (.set 1 (.bin .Add true (.slot 1) (.call 23 (.cons (.ix (.slot 2) (.k (.int 2))) .nil))))
    .nil) (.cons (.iff (.cmp .Eq (.ix (.slot 2) (.k (.int 0))) (.k (.str "if"))) (.cons (.set 1 (.bin .Add true (.bin .Add false (.slot 1) (.call 23 (.cons (.ix (.slot 2) (.k (.int 2))) .nil))) (.call 23 (.cons (.ix (.slot 2) (.k (.int 3))) .nil))))
    .nil) .nil)
    .nil))
    .nil)))
    (.frz 1 (.cons (.ret (.slot 1))
    .nil))))
def f24 : Df where
  name := "_law_head"
  ps := ["state", "name"]
  N := ["state", "name", "words", "parts", "at", "parameters", "part", "places", "w", "results", "kind", "x"]
  body :=
    (.cons (.set 2 (.call 20 (.cons (.slot 0) (.cons (.k (.int 10)) .nil))))
    (.cons (.set 3 (.lst true (.cons (.lst false (.cons (.tup (.cons (.k (.str "int")) (.cons (.ix (.slot 2) (.k (.int 0))) .nil))) .nil)) (.cons (.lst false (.cons (.tup (.cons (.k (.str "int")) (.cons (.ix (.slot 2) (.k (.int 1))) .nil))) .nil)) (.cons (.lst false (.cons (.tup (.cons (.k (.str "array")) (.cons (.ix (.slot 2) (.k (.int 2))) .nil))) .nil)) (.cons (.lst false (.cons (.tup (.cons (.k (.str "array")) (.cons (.ix (.slot 2) (.k (.int 3))) .nil))) .nil)) .nil))))))
    (.cons (.expr (.meth .append (.slot 3) (.cons (.lst false (.cons (.tup (.cons (.k (.str "int")) (.cons (.bin .Add false (.ix (.slot 2) (.k (.int 4))) (.k (.str ".s"))) .nil))) (.cons (.tup (.cons (.k (.str "int")) (.cons (.bin .Add false (.ix (.slot 2) (.k (.int 4))) (.k (.str ".t"))) .nil))) .nil))) .nil)))
    (.frz 3 (.cons (.set 4 (.call 19 (.cons (.slot 0) (.cons (.k (.int 5)) .nil))))
    (.cons (.set 5 (.lst false .nil))
    (.cons (.for (.nm 6) (.val (.bin .Add false (.sl false (.slot 3) (.slot 4) .absent) (.sl false (.slot 3) .absent (.slot 4)))) (.cons (.iff (.cmp .Gt (.call 19 (.cons (.slot 0) (.cons (.k (.int 4)) .nil))) (.k (.int 0))) (.cons (.set 5 (.bin .Add false (.slot 5) (.slot 6)))
    .nil) .nil)
    .nil))
    (.cons (.set 7 (.lst false (.cons (.tup (.cons (.k (.str "array")) (.cons (.ix (.slot 2) (.k (.int 7))) .nil))) (.cons (.tup (.cons (.k (.str "int")) (.cons (.ix (.slot 2) (.k (.int 5))) .nil))) (.cons (.tup (.cons (.k (.str "int")) (.cons (.bin .Add false (.ix (.slot 2) (.k (.int 8))) (.k (.str ".s"))) .nil))) (.cons (.tup (.cons (.k (.str "int")) (.cons (.bin .Add false (.ix (.slot 2) (.k (.int 8))) (.k (.str ".t"))) .nil))) .nil))))))
    (.cons (.set 7 (.bin .Add false (.slot 7) (.lst false (.cons (.tup (.cons (.k (.str "int")) (.cons (.ix (.slot 2) (.k (.int 6))) .nil))) (.cons (.tup (.cons (.k (.str "array")) (.cons (.ix (.slot 2) (.k (.int 9))) .nil))) .nil)))))
    (.cons (.set 8 (.dk (.k (.str "ints")) (.lc false [("kind", 10), ("x", 11)] (.tp 2 (.cons (.nm 10) (.cons (.nm 11) .nil))) (.val (.bin .Add false (.slot 5) (.slot 7))) (.cmp .Eq (.slot 10) (.k (.str "int"))) (.slot 11))))
    (.cons (.asg (.sb (.slot 8) (.k (.str "arrays"))) (.lc false [("kind", 10), ("x", 11)] (.tp 2 (.cons (.nm 10) (.cons (.nm 11) .nil))) (.val (.bin .Add false (.slot 5) (.slot 7))) (.cmp .Eq (.slot 10) (.k (.str "array"))) (.slot 11)))
    (.cons (.asg (.sb (.slot 8) (.k (.str "records"))) (.lc false [("x", 11)] (.nm 11) (.val (.ix (.slot 8) (.k (.str "ints")))) (.cmp .Eq (.sl false (.slot 11) (.neg (.k (.int 2))) .absent) (.k (.str ".s"))) (.sl false (.slot 11) .absent (.neg (.k (.int 2))))))
    (.cons (.set 9 (.ix (.lst false (.cons (.tup .nil) (.cons (.tup (.cons (.k (.str "result")) .nil)) (.cons (.tup (.cons (.k (.str "result.s")) (.cons (.k (.str "result.t")) .nil))) .nil)))) (.call 19 (.cons (.slot 0) (.cons (.k (.int 3)) .nil)))))
    (.cons (.asg (.sb (.slot 8) (.k (.str "head"))) (.tup (.cons (.slot 1) (.cons (.bi .tuple false (.cons (.slot 5) .nil)) (.cons (.slot 9) (.cons (.bi .tuple false (.cons (.slot 7) .nil)) .nil))))))
    (.frz 8 (.cons (.ret (.slot 8))
    .nil))))))))))))))))
def f25 : Df where
  name := "_law_sum_of"
  ps := ["state", "w", "depth"]
  N := ["state", "w", "depth", "pick", "a", "inner"]
  body :=
    (.cons (.set 3 (.call 19 (.cons (.slot 0) (.cons (.k (.int 11)) .nil))))
    (.cons (.iff (.or2 (.cmp .Eq (.slot 2) (.k (.int 0))) (.one (.cmp .Lt (.slot 3) (.k (.int 3))))) (.cons (.iff (.cmp .Eq (.call 19 (.cons (.slot 0) (.cons (.k (.int 4)) .nil))) (.k (.int 0))) (.cons (.ret (.tup (.cons (.k (.str "number")) (.cons (.ix (.lst false (.cons (.k (.int 0)) (.cons (.k (.int 1)) (.cons (.k (.int 7)) (.cons (.k (.int 999999)) .nil))))) (.call 19 (.cons (.slot 0) (.cons (.k (.int 4)) .nil)))) .nil))))
    .nil) .nil)
    (.cons (.ret (.tup (.cons (.k (.str "name")) (.cons (.ix (.ix (.slot 1) (.k (.str "ints"))) (.call 19 (.cons (.slot 0) (.cons (.bi .len false (.cons (.ix (.slot 1) (.k (.str "ints"))) .nil)) .nil)))) .nil))))
    .nil)) .nil)
    (.cons (.set 4 (.ix (.ix (.slot 1) (.k (.str "arrays"))) (.call 19 (.cons (.slot 0) (.cons (.bi .len false (.cons (.ix (.slot 1) (.k (.str "arrays"))) .nil)) .nil)))))
    (.cons (.iff (.cmp .Eq (.slot 3) (.k (.int 3))) (.cons (.ret (.tup (.cons (.k (.str "length")) (.cons (.slot 4) .nil))))
    .nil) .nil)
    (.cons (.set 5 (.call 25 (.cons (.slot 0) (.cons (.slot 1) (.cons (.bin .Sub false (.slot 2) (.k (.int 1))) .nil)))))
    (.cons (.iff (.cmp .Lt (.slot 3) (.k (.int 6))) (.cons (.ret (.tup (.cons (.k (.str "item")) (.cons (.slot 4) (.cons (.slot 5) .nil)))))
    .nil) .nil)
    (.cons (.iff (.cmp .Eq (.slot 3) (.k (.int 6))) (.cons (.ret (.tup (.cons (.k (.str "scale")) (.cons (.ix (.lst false (.cons (.k (.int 0)) (.cons (.k (.int 1)) (.cons (.k (.int 3)) (.cons (.neg (.k (.int 1))) .nil))))) (.call 19 (.cons (.slot 0) (.cons (.k (.int 4)) .nil)))) (.cons (.slot 5) .nil)))))
    .nil) .nil)
    (.cons (.iff (.cmp .Eq (.slot 3) (.k (.int 7))) (.cons (.ret (.tup (.cons (.k (.str "quotient")) (.cons (.slot 5) (.cons (.bin .Add false (.k (.int 1)) (.call 19 (.cons (.slot 0) (.cons (.k (.int 4)) .nil)))) .nil)))))
    .nil) .nil)
    (.cons (.iff (.cmp .Eq (.slot 3) (.k (.int 8))) (.cons (.ret (.tup (.cons (.k (.str "remainder")) (.cons (.slot 5) (.cons (.bin .Add false (.k (.int 1)) (.call 19 (.cons (.slot 0) (.cons (.k (.int 4)) .nil)))) .nil)))))
    .nil) .nil)
    (.cons (.ret (.tup (.cons (.ix (.lst false (.cons (.k (.str "plus")) (.cons (.k (.str "minus")) .nil))) (.bin .Sub false (.slot 3) (.k (.int 9)))) (.cons (.slot 5) (.cons (.call 25 (.cons (.slot 0) (.cons (.slot 1) (.cons (.bin .Sub false (.slot 2) (.k (.int 1))) .nil)))) .nil)))))
    .nil))))))))))
def f26 : Df where
  name := "_law_test"
  ps := ["state", "w", "depth"]
  N := ["state", "w", "depth", "pick", "left"]
  body :=
    (.cons (.set 3 (.call 19 (.cons (.slot 0) (.cons (.k (.int 8)) .nil))))
    (.cons (.iff (.and2 (.cmp .Gt (.slot 2) (.k (.int 0))) (.one (.cmp .Lt (.slot 3) (.k (.int 4))))) (.cons (.set 4 (.call 26 (.cons (.slot 0) (.cons (.slot 1) (.cons (.bin .Sub false (.slot 2) (.k (.int 1))) .nil)))))
    (.cons (.iff (.cmp .Eq (.slot 3) (.k (.int 0))) (.cons (.ret (.tup (.cons (.k (.str "not")) (.cons (.slot 4) .nil))))
    .nil) .nil)
    (.cons (.ret (.tup (.cons (.ix (.lst false (.cons (.k (.str "and")) (.cons (.k (.str "or")) .nil))) (.call 19 (.cons (.slot 0) (.cons (.k (.int 2)) .nil)))) (.cons (.slot 4) (.cons (.call 26 (.cons (.slot 0) (.cons (.slot 1) (.cons (.bin .Sub false (.slot 2) (.k (.int 1))) .nil)))) .nil)))))
    .nil))) .nil)
    (.cons (.ret (.tup (.cons (.ix (.lst false (.cons (.k (.str "less")) (.cons (.k (.str "same")) .nil))) (.call 19 (.cons (.slot 0) (.cons (.k (.int 2)) .nil)))) (.cons (.call 25 (.cons (.slot 0) (.cons (.slot 1) (.cons (.k (.int 1)) .nil)))) (.cons (.call 25 (.cons (.slot 0) (.cons (.slot 1) (.cons (.k (.int 1)) .nil)))) .nil)))))
    .nil)))
def f27 : Df where
  name := "_law_give"
  ps := ["state", "w"]
  N := ["state", "w", "results", "r"]
  body :=
    (.cons (.set 2 (.ix (.ix (.slot 1) (.k (.str "head"))) (.k (.int 2))))
    (.cons (.iff (.cmp .Eq (.bi .len false (.cons (.slot 2) .nil)) (.k (.int 2))) (.cons (.set 3 (.ix (.ix (.slot 1) (.k (.str "records"))) (.call 19 (.cons (.slot 0) (.cons (.bi .len false (.cons (.ix (.slot 1) (.k (.str "records"))) .nil)) .nil)))))
    (.cons (.ret (.tup (.cons (.k (.str "give")) (.cons (.tup (.cons (.tup (.cons (.k (.str "name")) (.cons (.bin .Add false (.slot 3) (.k (.str ".s"))) .nil))) (.cons (.tup (.cons (.k (.str "name")) (.cons (.bin .Add false (.slot 3) (.k (.str ".t"))) .nil))) .nil))) .nil))))
    .nil)) .nil)
    (.cons (.ret (.tup (.cons (.k (.str "give")) (.cons (.bi .tuple false (.cons (.lc false [("r", 3)] (.nm 3) (.val (.slot 2)) .yes (.call 25 (.cons (.slot 0) (.cons (.slot 1) (.cons (.k (.int 2)) .nil))))) .nil)) .nil))))
    .nil)))
def f28 : Df where
  name := "_law_simple"
  ps := ["state", "w"]
  N := ["state", "w", "pick", "x", "a", "one", "two"]
  body :=
    (.cons (.set 2 (.call 19 (.cons (.slot 0) (.cons (.k (.int 9)) .nil))))
    (.cons (.set 3 (.ix (.ix (.slot 1) (.k (.str "ints"))) (.call 19 (.cons (.slot 0) (.cons (.bi .len false (.cons (.ix (.slot 1) (.k (.str "ints"))) .nil)) .nil)))))
    (.cons (.set 4 (.ix (.ix (.slot 1) (.k (.str "arrays"))) (.call 19 (.cons (.slot 0) (.cons (.bi .len false (.cons (.ix (.slot 1) (.k (.str "arrays"))) .nil)) .nil)))))
    (.cons (.iff (.cmp .Lt (.slot 2) (.k (.int 3))) (.cons (.ret (.tup (.cons (.k (.str "set")) (.cons (.tup (.cons (.tup (.cons (.slot 3) (.cons (.call 25 (.cons (.slot 0) (.cons (.slot 1) (.cons (.k (.int 2)) .nil)))) .nil))) .nil)) .nil))))
    .nil) .nil)
    (.cons (.iff (.cmp .Eq (.slot 2) (.k (.int 3))) (.cons (.ret (.tup (.cons (.k (.str "store")) (.cons (.slot 4) (.cons (.call 25 (.cons (.slot 0) (.cons (.slot 1) (.cons (.k (.int 1)) .nil)))) (.cons (.call 25 (.cons (.slot 0) (.cons (.slot 1) (.cons (.k (.int 1)) .nil)))) .nil))))))
    .nil) .nil)
    (.cons (.iff (.cmp .Lt (.slot 2) (.k (.int 6))) (.cons (.ret (.tup (.cons (.k (.str "push")) (.cons (.call 25 (.cons (.slot 0) (.cons (.slot 1) (.cons (.k (.int 1)) .nil)))) (.cons (.slot 4) .nil)))))
    .nil) .nil)
    (.cons (.iff (.cmp .Eq (.slot 2) (.k (.int 6))) (.cons (.ret (.tup (.cons (.k (.str "pop")) (.cons (.slot 3) (.cons (.slot 4) .nil)))))
    .nil) .nil)
    (.cons (.iff (.cmp .Eq (.slot 2) (.k (.int 7))) (.cons (.set 5 (.ix (.ix (.slot 1) (.k (.str "records"))) (.call 19 (.cons (.slot 0) (.cons (.bi .len false (.cons (.ix (.slot 1) (.k (.str "records"))) .nil)) .nil)))))
    (.cons (.set 6 (.ix (.ix (.slot 1) (.k (.str "records"))) (.call 19 (.cons (.slot 0) (.cons (.bi .len false (.cons (.ix (.slot 1) (.k (.str "records"))) .nil)) .nil)))))
    (.cons (.ret (.tup (.cons (.k (.str "set")) (.cons (.tup (.cons (.tup (.cons (.bin .Add false (.slot 5) (.k (.str ".s"))) (.cons (.tup (.cons (.k (.str "name")) (.cons (.bin .Add false (.slot 6) (.k (.str ".s"))) .nil))) .nil))) (.cons (.tup (.cons (.bin .Add false (.slot 5) (.k (.str ".t"))) (.cons (.tup (.cons (.k (.str "name")) (.cons (.bin .Add false (.slot 6) (.k (.str ".t"))) .nil))) .nil))) .nil))) .nil))))
    .nil))) .nil)
    (.cons (.ret (.tup (.cons (.k (.str "pause")) .nil)))
    .nil)))))))))
def f29 : Df where
  name := "_law_block"
  ps := ["state", "w", "depth", "many"]
  N := ["state", "w", "depth", "many", "body", "k", "pick", "test", "left"]
  body :=
    (.cons (.set 4 (.lst true .nil))
    (.cons (.for (.nm 5) (.range1 (.cons (.slot 3) .nil)) (.cons (.set 6 (.call 19 (.cons (.slot 0) (.cons (.k (.int 7)) .nil))))
    (.cons (.iff (.and2 (.cmp .Gt (.slot 2) (.k (.int 0))) (.one (.cmp .Eq (.slot 6) (.k (.int 0))))) (.cons (.expr (.meth .append (.slot 4) (.cons (.tup (.cons (.k (.str "while")) (.cons (.call 26 (.cons (.slot 0) (.cons (.slot 1) (.cons (.k (.int 1)) .nil)))) (.cons (.call 29 (.cons (.slot 0) (.cons (.slot 1) (.cons (.bin .Sub false (.slot 2) (.k (.int 1))) (.cons (.bin .Add false (.k (.int 1)) (.call 19 (.cons (.slot 0) (.cons (.k (.int 2)) .nil)))) .nil))))) .nil)))) .nil)))
    .nil) (.cons (.iff (.and2 (.cmp .Gt (.slot 2) (.k (.int 0))) (.one (.cmp .Lt (.slot 6) (.k (.int 3))))) (.cons (.set 7 (.call 26 (.cons (.slot 0) (.cons (.slot 1) (.cons (.k (.int 2)) .nil)))))
    (.cons (.set 8 (.call 29 (.cons (.slot 0) (.cons (.slot 1) (.cons (.bin .Sub false (.slot 2) (.k (.int 1))) (.cons (.bin .Add false (.k (.int 1)) (.call 19 (.cons (.slot 0) (.cons (.k (.int 2)) .nil)))) .nil))))))
    (.cons (.expr (.meth .append (.slot 4) (.cons (.tup (.cons (.k (.str "if")) (.cons (.slot 7) (.cons (.slot 8) (.cons (.call 29 (.cons (.slot 0) (.cons (.slot 1) (.cons (.bin .Sub false (.slot 2) (.k (.int 1))) (.cons (.call 19 (.cons (.slot 0) (.cons (.k (.int 3)) .nil))) .nil))))) .nil))))) .nil)))
    .nil))) (.cons (.expr (.meth .append (.slot 4) (.cons (.call 28 (.cons (.slot 0) (.cons (.slot 1) .nil))) .nil)))
    .nil))
    .nil))
    .nil)))
    (.cons (.iff (.and2 (.cmp .Gt (.slot 3) (.k (.int 0))) (.one (.cmp .Eq (.call 19 (.cons (.slot 0) (.cons (.k (.int 3)) .nil))) (.k (.int 0))))) (.cons (.expr (.meth .append (.slot 4) (.cons (.call 27 (.cons (.slot 0) (.cons (.slot 1) .nil))) .nil)))
    .nil) .nil)
    (.frz 4 (.cons (.ret (.bi .tuple false (.cons (.slot 4) .nil)))
    .nil)))))
def f30 : Df where
  name := "_law_chain"
  ps := ["state", "w"]
  N := ["state", "w", "at", "row", "k"]
  body :=
    (.cons (.set 2 (.call 19 (.cons (.slot 0) (.cons (.bi .len false (.cons (.ix (.slot 1) (.k (.str "ints"))) .nil)) .nil))))
    (.cons (.set 3 (.sl false (.bin .Add false (.sl false (.ix (.slot 1) (.k (.str "ints"))) (.slot 2) .absent) (.sl false (.ix (.slot 1) (.k (.str "ints"))) .absent (.slot 2))) .absent (.bin .Add false (.k (.int 2)) (.call 19 (.cons (.slot 0) (.cons (.k (.int 4)) .nil))))))
    (.cons (.ret (.lc false [("k", 4)] (.nm 4) (.range1 (.cons (.bin .Sub false (.bi .len false (.cons (.slot 3) .nil)) (.k (.int 1))) .nil)) .yes (.tup (.cons (.k (.str "set")) (.cons (.tup (.cons (.tup (.cons (.ix (.slot 3) (.slot 4)) (.cons (.tup (.cons (.k (.str "name")) (.cons (.ix (.slot 3) (.bin .Add false (.slot 4) (.k (.int 1)))) .nil))) .nil))) .nil)) .nil)))))
    .nil)))
def f31 : Df where
  name := "_law_keys"
  ps := ["e"]
  N := ["e"]
  body :=
    (.cons (.iff (.cmp .Eq (.ix (.slot 0) (.k (.int 0))) (.k (.str "number"))) (.cons (.ret (.lst false .nil))
    .nil) .nil)
    (.cons (.iff (.cmp .Eq (.ix (.slot 0) (.k (.int 0))) (.k (.str "name"))) (.cons (.ret (.lst false (.cons (.ix (.slot 0) (.k (.int 1))) .nil)))
    .nil) .nil)
    (.cons (.iff (.cmp .Eq (.ix (.slot 0) (.k (.int 0))) (.k (.str "length"))) (.cons (.ret (.lst false (.cons (.bin .Add false (.k (.str "#")) (.ix (.slot 0) (.k (.int 1)))) .nil)))
    .nil) .nil)
    (.cons (.iff (.cmp .Eq (.ix (.slot 0) (.k (.int 0))) (.k (.str "item"))) (.cons (.ret (.bin .Add false (.lst false (.cons (.bin .Add false (.k (.str "#")) (.ix (.slot 0) (.k (.int 1)))) (.cons (.bin .Add false (.ix (.slot 0) (.k (.int 1))) (.k (.str "[]"))) .nil))) (.call 31 (.cons (.ix (.slot 0) (.k (.int 2))) .nil))))
    .nil) .nil)
    (.cons (.iff (.cmp .Eq (.ix (.slot 0) (.k (.int 0))) (.k (.str "scale"))) (.cons (.ret (.call 31 (.cons (.ix (.slot 0) (.k (.int 2))) .nil)))
    .nil) .nil)
    (.cons (.iff (.or2 (.cmp .Eq (.ix (.slot 0) (.k (.int 0))) (.k (.str "plus"))) (.one (.cmp .Eq (.ix (.slot 0) (.k (.int 0))) (.k (.str "minus"))))) (.cons (.ret (.bin .Add false (.call 31 (.cons (.ix (.slot 0) (.k (.int 1))) .nil)) (.call 31 (.cons (.ix (.slot 0) (.k (.int 2))) .nil))))
    .nil) .nil)
    (.cons (.ret (.call 31 (.cons (.ix (.slot 0) (.k (.int 1))) .nil)))
    .nil)))))))
def f32 : Df where
  name := "_law_test_keys"
  ps := ["c"]
  N := ["c"]
  body :=
    (.cons (.iff (.or2 (.cmp .Eq (.ix (.slot 0) (.k (.int 0))) (.k (.str "less"))) (.one (.cmp .Eq (.ix (.slot 0) (.k (.int 0))) (.k (.str "same"))))) (.cons (.ret (.bin .Add false (.call 31 (.cons (.ix (.slot 0) (.k (.int 1))) .nil)) (.call 31 (.cons (.ix (.slot 0) (.k (.int 2))) .nil))))
    .nil) .nil)
    (.cons (.iff (.cmp .Eq (.ix (.slot 0) (.k (.int 0))) (.k (.str "not"))) (.cons (.ret (.call 32 (.cons (.ix (.slot 0) (.k (.int 1))) .nil)))
    .nil) .nil)
    (.cons (.ret (.bin .Add false (.call 32 (.cons (.ix (.slot 0) (.k (.int 1))) .nil)) (.call 32 (.cons (.ix (.slot 0) (.k (.int 2))) .nil))))
    .nil)))
def f33 : Df where
  name := "_law_flows"
  ps := ["p", "s"]
  N := ["p", "s", "x", "e", "k"]
  body :=
    (.cons (.iff (.cmp .Eq (.ix (.slot 1) (.k (.int 0))) (.k (.str "set"))) (.cons (.ret (.lc false [("x", 2), ("e", 3)] (.tp 2 (.cons (.nm 2) (.cons (.nm 3) .nil))) (.val (.ix (.slot 1) (.k (.int 1)))) .yes (.tup (.cons (.slot 2) (.cons (.call 31 (.cons (.slot 3) .nil)) .nil)))))
    .nil) .nil)
    (.cons (.iff (.cmp .Eq (.ix (.slot 1) (.k (.int 0))) (.k (.str "store"))) (.cons (.ret (.lst false (.cons (.tup (.cons (.bin .Add false (.ix (.slot 1) (.k (.int 1))) (.k (.str "[]"))) (.cons (.bin .Add false (.bin .Add false (.call 31 (.cons (.ix (.slot 1) (.k (.int 2))) .nil)) (.call 31 (.cons (.ix (.slot 1) (.k (.int 3))) .nil))) (.lst false (.cons (.bin .Add false (.k (.str "#")) (.ix (.slot 1) (.k (.int 1)))) .nil))) .nil))) .nil)))
    .nil) .nil)
    (.cons (.iff (.cmp .Eq (.ix (.slot 1) (.k (.int 0))) (.k (.str "push"))) (.cons (.ret (.lst false (.cons (.tup (.cons (.bin .Add false (.ix (.slot 1) (.k (.int 2))) (.k (.str "[]"))) (.cons (.bin .Add false (.call 31 (.cons (.ix (.slot 1) (.k (.int 1))) .nil)) (.lst false (.cons (.bin .Add false (.k (.str "#")) (.ix (.slot 1) (.k (.int 2)))) .nil))) .nil))) .nil)))
    .nil) .nil)
    (.cons (.iff (.cmp .Eq (.ix (.slot 1) (.k (.int 0))) (.k (.str "pop"))) (.cons (.ret (.lst false (.cons (.tup (.cons (.ix (.slot 1) (.k (.int 1))) (.cons (.lst false (.cons (.bin .Add false (.k (.str "#")) (.ix (.slot 1) (.k (.int 2)))) (.cons (.bin .Add false (.ix (.slot 1) (.k (.int 2))) (.k (.str "[]"))) .nil))) .nil))) .nil)))
    .nil) .nil)
    (.cons (.iff (.cmp .Eq (.ix (.slot 1) (.k (.int 0))) (.k (.str "give"))) (.cons (.ret (.lc false [("k", 4)] (.nm 4) (.range1 (.cons (.bi .len false (.cons (.ix (.slot 1) (.k (.int 1))) .nil)) .nil)) .yes (.tup (.cons (.bin .Add false (.k (.str "give ")) (.ix (.ix (.slot 0) (.k (.int 2))) (.slot 4))) (.cons (.call 31 (.cons (.ix (.ix (.slot 1) (.k (.int 1))) (.slot 4)) .nil)) .nil)))))
    .nil) .nil)
    (.cons (.iff (.or2 (.cmp .Eq (.ix (.slot 1) (.k (.int 0))) (.k (.str "if"))) (.one (.cmp .Eq (.ix (.slot 1) (.k (.int 0))) (.k (.str "while"))))) (.cons (.ret (.lst false (.cons (.tup (.cons (.k (.str "!")) (.cons (.call 32 (.cons (.ix (.slot 1) (.k (.int 1))) .nil)) .nil))) .nil)))
    .nil) .nil)
    (.cons (.ret (.lst false .nil))
    .nil)))))))
def f34 : Df where
  name := "_law_reached"
  ps := ["flows", "key"]
  N := ["flows", "key", "found", "turn", "start", "keys", "other"]
  body :=
    (.cons (.set 2 (.lst true (.cons (.slot 1) .nil)))
    (.cons (.for (.nm 3) (.range1 (.cons (.k (.int 60)) .nil)) (.cons (.iff (.cmp .Lt (.slot 3) (.bi .len false (.cons (.slot 2) .nil))) (.cons (.for (.tp 2 (.cons (.nm 4) (.cons (.nm 5) .nil))) (.val (.slot 0)) (.cons (.iff (.cmp .Eq (.slot 4) (.ix (.slot 2) (.slot 3))) (.cons (.for (.nm 6) (.val (.slot 5)) (.cons (.iff (.cmp .NotIn (.slot 6) (.slot 2)) (.cons (.expr (.meth .append (.slot 2) (.cons (.slot 6) .nil)))
    .nil) .nil)
    .nil))
    .nil) .nil)
    .nil))
    .nil) .nil)
    .nil))
    (.frz 2 (.cons (.ret (.slot 2))
    .nil))))
def f35 : Df where
  name := "_law_atom_rows"
  ps := ["p"]
  N := ["p", "rows", "kind", "x"]
  body :=
    (.cons (.set 1 (.lst true .nil))
    (.cons (.for (.tp 2 (.cons (.nm 2) (.cons (.nm 3) .nil))) (.val (.ix (.slot 0) (.k (.int 1)))) (.cons (.iff (.cmp .Eq (.slot 2) (.k (.str "array"))) (.cons (.set 1 (.bin .Add true (.slot 1) (.lst false (.cons (.tup (.cons (.bin .Add false (.k (.str "#")) (.slot 3)) (.cons (.bin .Add false (.k (.str "@#")) (.slot 3)) .nil))) (.cons (.tup (.cons (.bin .Add false (.slot 3) (.k (.str "[]"))) (.cons (.bin .Add false (.k (.str "@")) (.slot 3)) .nil))) .nil)))))
    .nil) (.cons (.expr (.meth .append (.slot 1) (.cons (.tup (.cons (.slot 3) (.cons (.bin .Add false (.k (.str "@")) (.slot 3)) .nil))) .nil)))
    .nil))
    .nil))
    (.frz 1 (.cons (.ret (.slot 1))
    .nil))))
def f36 : Df where
  name := "_law_mark"
  ps := ["p", "flows", "key"]
  N := ["p", "flows", "key", "reached", "own", "atom"]
  body :=
    (.cons (.set 3 (.call 34 (.cons (.slot 1) (.cons (.slot 2) .nil))))
    (.cons (.ret (.bi .tuple false (.cons (.lc false [("own", 4), ("atom", 5)] (.tp 2 (.cons (.nm 4) (.cons (.nm 5) .nil))) (.val (.call 35 (.cons (.slot 0) .nil))) (.cmp .In (.slot 4) (.slot 3)) (.slot 5)) .nil)))
    .nil))
def f37 : Df where
  name := "_law_row"
  ps := ["p"]
  N := ["p", "flows", "s", "results", "arrays", "marks", "r", "kind", "x"]
  body :=
    (.cons (.set 1 (.lst false .nil))
    (.cons (.for (.nm 2) (.val (.call 23 (.cons (.ix (.slot 0) (.k (.int 8))) .nil))) (.cons (.set 1 (.bin .Add false (.slot 1) (.call 33 (.cons (.slot 0) (.cons (.slot 2) .nil)))))
    .nil))
    (.cons (.set 3 (.bi .tuple false (.cons (.lc false [("r", 6)] (.nm 6) (.val (.ix (.slot 0) (.k (.int 2)))) .yes (.call 36 (.cons (.slot 0) (.cons (.slot 1) (.cons (.bin .Add false (.k (.str "give ")) (.slot 6)) .nil))))) .nil)))
    (.cons (.swp 4 (.lc false [("kind", 7), ("x", 8)] (.tp 2 (.cons (.nm 7) (.cons (.nm 8) .nil))) (.val (.ix (.slot 0) (.k (.int 1)))) (.cmp .Eq (.slot 7) (.k (.str "array"))) (.slot 8)))
    (.cons (.set 5 (.bi .tuple false (.cons (.lc false [("x", 8)] (.nm 8) (.val (.slot 4)) .yes (.tup (.cons (.call 36 (.cons (.slot 0) (.cons (.slot 1) (.cons (.bin .Add false (.k (.str "#")) (.slot 8)) .nil)))) (.cons (.call 36 (.cons (.slot 0) (.cons (.slot 1) (.cons (.bin .Add false (.slot 8) (.k (.str "[]"))) .nil)))) .nil)))) .nil)))
    (.cons (.ret (.tup (.cons (.ix (.slot 0) (.k (.int 0))) (.cons (.call 36 (.cons (.slot 0) (.cons (.slot 1) (.cons (.k (.str "!")) .nil)))) (.cons (.slot 3) (.cons (.slot 5) .nil))))))
    .nil))))))
def f38 : Df where
  name := "law"
  ps := ["script"]
  N := ["script", "state", "names", "core", "name", "w", "body", "p"]
  body :=
    (.cons (.set 1 (.call 18 (.cons (.slot 0) .nil)))
    (.cons (.set 2 (.sl false (.bi .sorted false (.cons (.call 20 (.cons (.slot 1) (.cons (.k (.int 2)) .nil))) .nil)) (.call 19 (.cons (.slot 1) (.cons (.k (.int 2)) .nil))) .absent))
    (.cons (.set 3 (.lst true .nil))
    (.cons (.for (.nm 4) (.val (.slot 2)) (.cons (.set 5 (.call 24 (.cons (.slot 1) (.cons (.slot 4) .nil))))
    (.cons (.set 6 (.tup .nil))
    (.cons (.iff (.cmp .Eq (.call 19 (.cons (.slot 1) (.cons (.k (.int 2)) .nil))) (.k (.int 0))) (.cons (.set 6 (.bi .tuple false (.cons (.call 30 (.cons (.slot 1) (.cons (.slot 5) .nil))) .nil)))
    .nil) .nil)
    (.cons (.set 6 (.bin .Add false (.slot 6) (.call 29 (.cons (.slot 1) (.cons (.slot 5) (.cons (.k (.int 2)) (.cons (.bin .Add false (.k (.int 3)) (.call 19 (.cons (.slot 1) (.cons (.k (.int 4)) .nil)))) .nil)))))))
    (.cons (.expr (.meth .append (.slot 3) (.cons (.bin .Add false (.ix (.slot 5) (.k (.str "head"))) (.tup (.cons (.tup .nil) (.cons (.tup .nil) (.cons (.tup .nil) (.cons (.tup .nil) (.cons (.slot 6) .nil))))))) .nil)))
    .nil))))))
    (.frz 3 (.cons (.ret (.call 22 (.cons (.call 17 (.cons (.bi .tuple false (.cons (.slot 3) .nil)) .nil)) (.cons (.bi .tuple false (.cons (.lc false [("p", 7)] (.nm 7) (.val (.slot 3)) .yes (.call 37 (.cons (.slot 7) .nil))) .nil)) .nil))))
    .nil))))))
def P : Pg := [f0, f1, f2, f3, f4, f5, f6, f7, f8, f9, f10, f11, f12, f13, f14, f15, f16, f17, f18, f19, f20, f21, f22, f23, f24, f25, f26, f27, f28, f29, f30, f31, f32, f33, f34, f35, f36, f37, f38]
def bs : List Str := ["tuple", "zip", "list", "int", "len", "abs", "range", "isinstance", "bool", "all", "str", "sorted"]
def gl : List (Str × Dt) := [("STEERS", (.str "!"))]
def cs : List Cd := [⟨"Marks", ["core", "procs", "table", "growing"], [("begin", 5, 2), ("add", 6, 4), ("gathered", 7, 3), ("flow", 8, 4), ("condition", 9, 3), ("stands_for", 10, 3), ("hand_on", 11, 6), ("call", 12, 3), ("follow", 13, 3), ("settle", 14, 1), ("mark", 15, 3), ("row", 16, 2)], some (4, 2)⟩]
end PvK

namespace PvK
open PySem PySem.Spec PyProof.Rows L2 Pv
/-! draws, words, what is the same -/
theorem draw_ok (m : Nat) (k : Nat) (s : Ds) (tl : List Ob) (hm : 0 < m) (hm2 : m < 2 ^ 64) (Q : Val → List Ob → Prop)
    (q : ∀ (r : Nat) s', r < m → Q (.d (.int (r : Int))) (St s' :: tl)) : W (callP P gl (k + 1) 19 [.ref 0, .d (.int (m : Int))]) (St s :: tl) Q := by
  have q : ∀ (r : Int) s', 0 ≤ r → r < (m : Int) → Q (.d (.int r)) (St s' :: tl) := fun r s' h0 h1 => by
    obtain ⟨r, rfl⟩ := Int.eq_ofNat_of_zero_le h0
    exact q r s' (by omega)
  have hm : (0 : Int) < (m : Int) := by omega
  have hm2 : (m : Int).natAbs < 2 ^ 64 := by rw [Int.natAbs_natCast]; exact hm2
  generalize (m : Int) = m at *
  refine w_def (nm := f19.name) (ps := f19.ps) (N := f19.N) (body := f19.body) (env := [some (.ref 0), some (.d (.int m)), none, none, none]) rfl rfl ?_
  unfold f19
  walk_at "pv all"
  refine ci_gt (fun h => ?_) (fun h => ?_)
  · walk_at "pv all"
    exact q _ _ (Int.emod_nonneg _ (by omega)) (Int.emod_lt_of_pos _ hm)
  · walk_at "pv all"
    refine ci_gt (fun h => ?_) (fun h => ?_)
    · walk_at "pv all"
      obtain ⟨j, hj⟩ := Int.eq_ofNat_of_zero_le (Int.emod_nonneg s.pos (show ((s.sc.map PyData.int).length : Int) ≠ 0 by have h : (0 : Int) < (s.sc.map PyData.int).length := h; omega))
      have hl : j < (s.sc.map PyData.int).length := by
        have h : (0 : Int) < (s.sc.map PyData.int).length := h
        have := Int.emod_lt_of_pos s.pos h
        omega
      have hx : (s.sc.map PyData.int)[j]? = some (.int (s.sc[j]'(by rwa [List.length_map] at hl))) := by
        rw [List.getElem?_map, List.getElem?_eq_getElem (by rwa [List.length_map] at hl)]
        rfl
      refine ix_list hj hx ?_
      walk_at "pv all"
      refine ci_ge (fun h => ?_) (fun h => ?_)
      · walk_at "pv all"
        exact q _ _ (Int.emod_nonneg _ (by omega)) (Int.emod_lt_of_pos _ hm)
      · walk_at "pv all"
        exact q _ _ (Int.emod_nonneg _ (by omega)) (Int.emod_lt_of_pos _ hm)
    · walk_at "pv all"
      refine ci_ge (fun h => ?_) (fun h => ?_)
      · walk_at "pv all"
        exact q _ _ (Int.emod_nonneg _ (by omega)) (Int.emod_lt_of_pos _ hm)
      · walk_at "pv all"
        exact q _ _ (Int.emod_nonneg _ (by omega)) (Int.emod_lt_of_pos _ hm)
theorem start_ok (k : Nat) (ns : List Int) (Q : Val → List Ob → Prop) (q : Q (.ref 0) [St ⟨ns, 0, 0, 0⟩]) : W (callP P gl (k + 1) 18 [.d (.list (ns.map PyData.int))]) [] Q := by
  refine w_call (d := f18) rfl ⟨.ref 0, [St ⟨ns, 0, 0, 0⟩], ?_, q⟩
  have e : mBody f18.N.length (evSs gl (callP P gl k) f18.body) [.d (.list (ns.map PyData.int))] [] = some (.ref 0, [St ⟨ns, 0, 0, 0⟩]) := by
    have e2 : W (evSs gl (callP P gl k) f18.body [some (.d (.list (ns.map PyData.int)))]) [] fun fl mh' => fl = .rt (.ref 0) ∧ mh' = [St ⟨ns, 0, 0, 0⟩] := by
      show WS gl (callP P gl k) f18.body _ _ _
      unfold f18
      walk_at "pv all"
      exact ⟨rfl, rfl⟩
    obtain ⟨fl, mh', e3, rfl, rfl⟩ := e2
    exact M.bind_some.mpr ⟨_, _, e3, rfl⟩
  unfold frame
  rw [e]
  exact if_pos ⟨trivial, rfl⟩
def ltr (s r k : Nat) : Nat := 97 + (s + k * (1 + 2 * r)) % 26
theorem ltr_inj {s r a b : Nat} (hr : r < 6) (ha : a < 26) (hb : b < 26) (h : ltr s r a = ltr s r b) : a = b := by
  unfold ltr at h
  have : r = 0 ∨ r = 1 ∨ r = 2 ∨ r = 3 ∨ r = 4 ∨ r = 5 := by omega
  rcases this with rfl | rfl | rfl | rfl | rfl | rfl <;> omega
theorem abc_at : ((List.range 26).all fun j => decide ((Str.ofString "abcdefghijklmnopqrstuvwxyz").cps.toList[j]? = some (97 + j))) = true := by decide +kernel
theorem abc_get {j : Nat} (h : j < 26) : (Str.ofString "abcdefghijklmnopqrstuvwxyz").cps.toList[j]? = some (97 + j) :=
  of_decide_eq_true (List.all_eq_true.mp abc_at j (List.mem_range.mpr h))
theorem abc_len : (Str.ofString "abcdefghijklmnopqrstuvwxyz").length ≤ sizeLine := by decide +kernel
/-- a word: one to four small letters -/
def Wrd (x : Str) : Prop := x.length ≤ 4 ∧ ∃ a as, x.cps.toList = a :: as ∧ 97 ≤ a ∧ a ≤ 122 ∧ ∀ b ∈ as, 97 ≤ b ∧ b ≤ 122
def wrdB (x : Str) : Bool := decide (x.length ≤ 3) && x.cps.toList.all fun b => decide (97 ≤ b) && decide (b ≤ 122)
theorem qxz_dec : ((List.range 4).all fun r => wrdB (cutS (Str.ofString "qxz") none (some (r : Int)))) = true := by decide +kernel
theorem wrdB_ok {x : Str} (h : wrdB x = true) : x.length ≤ 3 ∧ ∀ b ∈ x.cps.toList, 97 ≤ b ∧ b ≤ 122 := by
  unfold wrdB at h
  rw [Bool.and_eq_true, decide_eq_true_eq] at h
  refine ⟨h.1, fun b hb => ?_⟩
  have := List.all_eq_true.mp h.2 b hb
  rw [Bool.and_eq_true, decide_eq_true_eq, decide_eq_true_eq] at this
  exact this
theorem app_list (x y : Str) : (x ++ y).cps.toList = x.cps.toList ++ y.cps.toList := by
  show (x.cps ++ y.cps).toList = _
  simp
theorem ltr_le (s r k : Nat) : 97 ≤ ltr s r k ∧ ltr s r k ≤ 122 := by unfold ltr; omega
theorem wrd_pre {z : Str} {n : Nat} (h : wrdB z = true) (h1 : 97 ≤ n ∧ n ≤ 122) : Wrd (z ++ ⟨#[n]⟩) := by
  obtain ⟨a, b⟩ := wrdB_ok h
  refine ⟨by rw [len_app]; have : (⟨#[n]⟩ : Str).length = 1 := rfl; omega, ?_⟩
  rw [app_list]
  cases e : z.cps.toList with
  | nil => exact ⟨n, [], rfl, h1.1, h1.2, fun _ h => nomatch h⟩
  | cons c cs =>
    rw [e] at b
    refine ⟨c, cs ++ [n], rfl, (b c List.mem_cons_self).1, (b c List.mem_cons_self).2, fun d hd => ?_⟩
    rcases List.mem_append.mp hd with hd | hd
    · exact b d (List.mem_cons_of_mem _ hd)
    · rw [List.mem_singleton.mp hd]; exact h1
theorem wrd_suf {z : Str} {n : Nat} (h : wrdB z = true) (h1 : 97 ≤ n ∧ n ≤ 122) : Wrd (⟨#[n]⟩ ++ z) := by
  obtain ⟨a, b⟩ := wrdB_ok h
  refine ⟨by rw [len_app]; have : (⟨#[n]⟩ : Str).length = 1 := rfl; omega, ?_⟩
  rw [app_list]
  exact ⟨n, z.cps.toList, rfl, h1.1, h1.2, b⟩
theorem Wrd.so {x : Str} (h : Wrd x) : PyData.strOk x = true := by
  obtain ⟨_, a, as, e, h1, h2, h3⟩ := h
  unfold PyData.strOk
  rw [← Array.all_toList, e, List.all_eq_true]
  intro b hb
  rcases List.mem_cons.mp hb with rfl | hb
  · exact decide_eq_true (by omega)
  · have := h3 b hb
    exact decide_eq_true (by omega)
theorem Wrd.ok4 {x : Str} (h : Wrd x) : SN 4 x := ⟨h.so, h.1⟩
theorem Wrd.ok {x : Str} (h : Wrd x) : SM x := h.ok4.up (by decide)
theorem pre_inj {x : Str} {a b : Nat} (h : x ++ (⟨#[a]⟩ : Str) = x ++ ⟨#[b]⟩) : a = b := by
  have h2 := congrArg (fun z => z.cps.toList) h
  simp only [app_list] at h2
  have := List.append_cancel_left h2
  simpa using this
theorem suf_inj {x : Str} {a b : Nat} (h : (⟨#[a]⟩ : Str) ++ x = ⟨#[b]⟩ ++ x) : a = b := by
  have h2 := congrArg (fun z => z.cps.toList) h
  simp only [app_list] at h2
  have := List.append_cancel_right h2
  simpa using this
theorem words_ok (n : Nat) (k : Nat) (s : Ds) (tl : List Ob) (hn : n ≤ 26) (Q : Val → List Ob → Prop)
    (q : ∀ ws s', ws.length = n → ws.Nodup → (∀ x ∈ ws, Wrd x) → Q (.d (strD ws)) (St s' :: tl)) : W (callP P gl (k + 2) 20 [.ref 0, .d (.int (n : Int))]) (St s :: tl) Q := by
  refine w_def (nm := f20.name) (ps := f20.ps) (N := f20.N) (body := f20.body) (env := [some (.ref 0), some (.d (.int n)), none, none, none, none, none]) rfl rfl ?_
  unfold f20
  walk_at "pv all"
  refine draw_ok 26 _ _ _ (by decide) (by decide) _ fun a s1 a1 => ?_
  walk_at "pv all"
  refine draw_ok 6 _ _ _ (by decide) (by decide) _ fun r s2 r1 => ?_
  walk_at "pv all"
  refine draw_ok 4 _ _ _ (by decide) (by decide) _ fun c s3 c1 => ?_
  have hq := List.all_eq_true.mp qxz_dec c (List.mem_range.mpr c1)
  walk_at "pv eq"
  refine wr_slS (by decide +kernel) ?_
  generalize cutS (Str.ofString "qxz") none (some (c : Int)) = z at *
  have hz := (wrdB_ok hq).1
  walk_at "pv all"
  refine draw_ok 2 _ _ _ (by decide) (by decide) _ fun e s4 e1 => ?_
  walk_at "pv all"
  have hidx : ∀ i : Nat, ((a : Int) + (i : Int) * (1 + 2 * (r : Int))) % 26 = (((a + i * (1 + 2 * r)) % 26 : Nat) : Int) := by
    intro i
    push_cast
    rfl
  have hsz : ∀ i, z.length + (⟨#[ltr a r i]⟩ : Str).length ≤ sizeLine := fun i => by
    have : (⟨#[ltr a r i]⟩ : Str).length = 1 := rfl
    have h2 : sizeLine = 16777216 := rfl
    omega
  have hsz' : ∀ i, (⟨#[ltr a r i]⟩ : Str).length + z.length ≤ sizeLine := fun i => by
    have := hsz i
    omega
  refine ci_eq (fun h => ?_) (fun h => ?_)
  · walk_at "pv all"
    refine rg1 rfl (by omega) ?_
    rw [rg_map]
    refine wc_map (r := fun i => Val.d (.str (z ++ ⟨#[ltr a r i]⟩))) gnil (fun i hi => ?_) ?_
    · walk_at "pv all"
      refine wr_mul (mul64 (by omega)) ?_
      walk_at "pv all"
      refine ixS_str abc_len (hidx i) (abc_get (Nat.mod_lt _ (by decide))) ?_
      refine wr_addS (hsz i) ⟨rfl, rfl⟩
    · refine wr_nl (ds := (List.range n).map fun i => .str (z ++ ⟨#[ltr a r i]⟩)) (by rw [List.map_map]; rfl) ?_
      refine fin0 ?_
      have := q ((List.range n).map fun i => z ++ ⟨#[ltr a r i]⟩) s4 (by simp) (nodup_map (fun x hx y hy e => ltr_inj r1 (by have := List.mem_range.mp hx; omega) (by have := List.mem_range.mp hy; omega) (pre_inj e)) List.nodup_range) fun x hx => by
        obtain ⟨i, hi, rfl⟩ := List.mem_map.mp hx
        exact wrd_pre hq (ltr_le _ _ _)
      unfold strD at this
      rw [List.map_map] at this
      exact this
  · walk_at "pv all"
    refine rg1 rfl (by omega) ?_
    rw [rg_map]
    refine wc_map (r := fun i => Val.d (.str (⟨#[ltr a r i]⟩ ++ z))) gnil (fun i hi => ?_) ?_
    · walk_at "pv all"
      refine wr_mul (mul64 (by omega)) ?_
      walk_at "pv all"
      refine ixS_str abc_len (hidx i) (abc_get (Nat.mod_lt _ (by decide))) ?_
      walk_at "pv all"
      refine wr_addS (hsz' i) ⟨rfl, rfl⟩
    · refine wr_nl (ds := (List.range n).map fun i => .str (⟨#[ltr a r i]⟩ ++ z)) (by rw [List.map_map]; rfl) ?_
      refine fin0 ?_
      have := q ((List.range n).map fun i => ⟨#[ltr a r i]⟩ ++ z) s4 (by simp) (nodup_map (fun x hx y hy e => ltr_inj r1 (by have := List.mem_range.mp hx; omega) (by have := List.mem_range.mp hy; omega) (suf_inj e)) List.nodup_range) fun x hx => by
        obtain ⟨i, hi, rfl⟩ := List.mem_map.mp hx
        exact wrd_suf hq (ltr_le _ _ _)
      unfold strD at this
      rw [List.map_map] at this
      exact this
theorem isint_ok (k : Nat) (mh : List Ob) (r : Int) (Q : Val → List Ob → Prop) (q : Q (.d (.bool true)) mh) : W (callP P gl (k + 1) 21 [.d (.int r)]) mh Q := by
  refine w_pure (nm := f21.name) (ps := f21.ps) (N := f21.N) (body := f21.body) (env := [some (.d (.int r))]) rfl rfl ?_
  unfold f21
  walk_at "pv all"
  exact q
/-! the same -/
theorem all_true {mh : List Ob} {n : Nat} : Bi.f .all mh [.d (.list (List.replicate n (.bool true)))] = some (.v (.d (.bool true))) := by
  have h : (seqL mh (.d (.list (List.replicate n (.bool true))))).bind (allOf asBl) = some (List.replicate n true) := by
    have := allOf_map (f := asBl) (g := fun b => Val.d (.bool b)) (fun _ => rfl) (List.replicate n true)
    rw [List.map_replicate] at this
    show allOf asBl ((List.replicate n (PyData.bool true)).map Val.d) = _
    rw [List.map_replicate]
    exact this
  show allVl mh [.d (.list (List.replicate n (.bool true)))] = _
  unfold allVl
  simp only [h]
  simp
theorem same_ok : ∀ (n : Nat) (x : Dt) (k : Nat) (mh : List Ob) (Q : Val → List Ob → Prop), Pl n x → Q (.d (.bool true)) mh → W (callP P gl (k + n + 2) 22 [.d x, .d x]) mh Q := by
  intro n
  induction n with
  | zero =>
    intro x k mh Q hx q
    refine w_pure (nm := f22.name) (ps := f22.ps) (N := f22.N) (body := f22.body) (env := [some (.d x), some (.d x), none]) rfl rfl ?_
    unfold f22
    cases x with
    | int i =>
      walk_at "pv all"
      refine isint_ok _ _ _ _ ?_
      walk_at "pv all"
      simpa using q
    | str i =>
      walk_at "pv all"
      simpa using q
    | tuple xs => exact absurd hx.2 (by simp [PyData.depth])
    | _ => exact absurd hx.1 (by simp [plD])
  | succ n ih =>
    intro x k mh Q hx q
    cases x with
    | int i => 
      have := ih (.int i) (k + 1) mh Q (pl_int _) q
      rw [show k + 1 + n + 2 = k + (n + 1) + 2 by omega] at this
      exact this
    | str i => 
      have := ih (.str i) (k + 1) mh Q (pl_str _) q
      rw [show k + 1 + n + 2 = k + (n + 1) + 2 by omega] at this
      exact this
    | tuple xs =>
      have hl : xs.length < 1000000 ∧ plAll xs = true := by
        have := hx.1
        simp only [plD, Bool.and_eq_true, decide_eq_true_eq] at this
        exact this
      have hd : PyData.depthAll xs ≤ n := by
        have := hx.2
        simp only [PyData.depth] at this
        omega
      refine w_pure (k := k + n + 2) (nm := f22.name) (ps := f22.ps) (N := f22.N) (body := f22.body) (env := [some (.d (.tuple xs)), some (.d (.tuple xs)), none]) rfl rfl ?_
      unfold f22
      walk_at "pv all"
      refine cmp_f (by simp [cmpF, eqV2, pureD, eqD, bR]) ?_
      walk_at "pv all"
      refine rg1 rfl (by omega) ?_
      rw [rg_map]
      refine wc_map (r := fun _ => Val.d (.bool true)) gnil (fun i hi => ?_) ?_
      · have hi := List.mem_range.mp hi
        walk_at "pv all"
        refine ix_tup rfl (List.getElem?_eq_getElem hi) ?_
        walk_at "pv all"
        refine ix_tup rfl (List.getElem?_eq_getElem hi) ?_
        walk_at "pv all"
        refine ih xs[i] k mh _ ⟨plAll_iff.mp hl.2 _ (List.getElem_mem hi), Nat.le_trans (le_depthAll (List.getElem_mem hi)) hd⟩ ⟨rfl, rfl⟩
      · refine wr_nl (ds := List.replicate xs.length (.bool true)) (by rw [List.map_replicate, List.map_const', List.length_range]) ?_
        walk_at "pv all"
        refine wr_v all_true ?_
        walk_at "pv all"
        exact q
    | _ => exact absurd hx.1 (by simp [plD])
end PvK

namespace PvK
open PySem PySem.Spec PyProof.Rows L2 Pv
/-! cells behind a world -/
section
variable {mh os : List Ob} {o : Ob} {j : Nat}
theorem po_get (h : os[j]? = some o) : (mh ++ os)[mh.length + j]? = some o := by
  rw [List.getElem?_append_right (by omega), show mh.length + j - mh.length = j by omega]
  exact h
theorem po_set : (mh ++ os).set (mh.length + j) o = mh ++ os.set j o := by
  rw [List.set_append_right _ _ (by omega), show mh.length + j - mh.length = j by omega]
theorem po_new : mh ++ os ++ [o] = mh ++ (os ++ [o]) := List.append_assoc ..
end
end PvK

namespace PvK
open PySem PySem.Spec PyProof.Rows L2 Pv
/-! helps -/
theorem cd_inF {mh : List Ob} {P : Bool → Prop} {x : Str} {ys : List Str} (h1 : x ∈ ys → P true) (h2 : x ∉ ys → P false) : ∃ r, cmpF .In mh (.d (.str x)) (.d (.list (ys.map .str))) = some (.v (.d (.bool r))) ∧ P r := by
  have hf : ∀ y ∈ ys.map PyData.str, plD y = true ∧ flatD y = true := fun y hy => by
    obtain ⟨z, _, rfl⟩ := List.mem_map.mp hy
    exact ⟨rfl, rfl⟩
  refine ⟨(ys.map PyData.str).any fun y => PyData.eqv y (.str x), ?_, ?_⟩
  · show bR (inV2 mh (.d (.str x)) (.d (.list (ys.map .str)))) = _
    have e2 : ((seqA mh (.d (.list (ys.map .str)))).bind asDs) = some (ys.map .str) := asDs_map _
    have e3 : inSeq (.str x) (ys.map .str) = some ((ys.map PyData.str).any fun y => PyData.eqv y (.str x)) := if_pos ⟨rfl, List.all_eq_true.mpr fun y h => (hf y h).2⟩
    have h0 : dctOf mh (.d (.list (ys.map .str))) = none := rfl
    unfold inV2
    rw [h0]
    simp only [e2, e3]
    rfl
  · have := any_eqv (x := .str x) rfl fun y h => (hf y h).1
    have hm : PyData.str x ∈ ys.map PyData.str ↔ x ∈ ys := ⟨fun h => by obtain ⟨z, hz, e⟩ := List.mem_map.mp h; cases e; exact hz, fun h => List.mem_map.mpr ⟨x, h, rfl⟩⟩
    rw [hm] at this
    cases e : ((ys.map PyData.str).any fun y => PyData.eqv y (.str x)) with
    | true => exact h1 (this.mp e)
    | false => exact h2 fun z => by rw [this.mpr z] at e; cases e
theorem cd_inU {mh : List Ob} {P : Bool → Prop} {x : Str} {ys : List Str} (h1 : x ∈ ys → P true) (h2 : x ∉ ys → P false) : ∃ r, cmpF .In mh (.d (.str x)) (.d (strT ys)) = some (.v (.d (.bool r))) ∧ P r := by
  have hm : PyData.str x ∈ ys.map PyData.str ↔ x ∈ ys := ⟨fun h => by obtain ⟨z, hz, e⟩ := List.mem_map.mp h; cases e; exact hz, fun h => List.mem_map.mpr ⟨x, h, rfl⟩⟩
  refine cd_inT rfl rfl (fun y hy => ?_) (fun h => h1 (hm.mp h)) (fun h => h2 fun z => h (hm.mpr z))
  obtain ⟨z, _, rfl⟩ := List.mem_map.mp hy
  exact ⟨rfl, rfl⟩
theorem cd_ninC {mh : List Ob} {P : Bool → Prop} {n : Nat} {x : Str} {ys : List Str} (h : mh[n]? = some (.lst ((ys.map .str).map .d))) (h1 : x ∉ ys → P true) (h2 : x ∈ ys → P false) : ∃ r, cmpF .NotIn mh (.d (.str x)) (.ref n) = some (.v (.d (.bool r))) ∧ P r := by
  have hf : ∀ y ∈ ys.map PyData.str, plD y = true ∧ flatD y = true := fun y hy => by
    obtain ⟨z, _, rfl⟩ := List.mem_map.mp hy
    exact ⟨rfl, rfl⟩
  refine ⟨!(ys.map PyData.str).any fun y => PyData.eqv y (.str x), ?_, ?_⟩
  · show bR ((inV2 mh (.d (.str x)) (.ref n)).map (!·)) = _
    have h0 : dctOf mh (.ref n) = none := by unfold dctOf; simp only [h]
    have e2 : ((seqA mh (.ref n)).bind asDs) = some (ys.map .str) := by
      have : seqA mh (.ref n) = some ((ys.map .str).map .d) := by show cellL mh n = _; unfold cellL; simp only [h]
      rw [this]; exact asDs_map _
    have e3 : inSeq (.str x) (ys.map .str) = some ((ys.map PyData.str).any fun y => PyData.eqv y (.str x)) := if_pos ⟨rfl, List.all_eq_true.mpr fun y h => (hf y h).2⟩
    unfold inV2
    rw [h0]
    simp only [e2, e3]
    rfl
  · have := any_eqv (x := .str x) rfl fun y h => (hf y h).1
    have hm : PyData.str x ∈ ys.map PyData.str ↔ x ∈ ys := ⟨fun h => by obtain ⟨z, hz, e⟩ := List.mem_map.mp h; cases e; exact hz, fun h => List.mem_map.mpr ⟨x, h, rfl⟩⟩
    rw [hm] at this
    cases e : ((ys.map PyData.str).any fun y => PyData.eqv y (.str x)) with
    | true => exact h2 (this.mp e)
    | false => exact h1 fun z => by rw [this.mpr z] at e; cases e
theorem ext_end {xs ys : List Dt} {n : Nat} {mh : List Ob} {Q : Val → List Ob → Prop} (h : mh[n]? = some (.lst (xs.map Val.d))) (hl : xs.length + ys.length ≤ sizeLine) (q : Q (.d .none) (mh.set n (.lst ((xs ++ ys).map Val.d)))) : W (Mt.f .extend (.ref n) [.d (.list ys)]) mh Q := by
  refine ⟨.d .none, _, ?_, q⟩
  show extVl (.ref n) [.d (.list ys)] mh = _
  have h1 : seqA mh (.d (.list ys)) = some (ys.map Val.d) := rfl
  unfold extVl
  simp only [h, h1]
  rw [List.length_map, List.length_map, if_pos hl, List.map_append]
theorem cd_inC {mh : List Ob} {P : Bool → Prop} {n : Nat} {x : Str} {ys : List Str} (h : mh[n]? = some (.lst ((ys.map .str).map .d))) (h1 : x ∈ ys → P true) (h2 : x ∉ ys → P false) : ∃ r, cmpF .In mh (.d (.str x)) (.ref n) = some (.v (.d (.bool r))) ∧ P r := by
  have hf : ∀ y ∈ ys.map PyData.str, plD y = true ∧ flatD y = true := fun y hy => by
    obtain ⟨z, _, rfl⟩ := List.mem_map.mp hy
    exact ⟨rfl, rfl⟩
  refine ⟨(ys.map PyData.str).any fun y => PyData.eqv y (.str x), ?_, ?_⟩
  · show bR (inV2 mh (.d (.str x)) (.ref n)) = _
    have h0 : dctOf mh (.ref n) = none := by unfold dctOf; simp only [h]
    have e2 : ((seqA mh (.ref n)).bind asDs) = some (ys.map .str) := by
      have : seqA mh (.ref n) = some ((ys.map .str).map .d) := by show cellL mh n = _; unfold cellL; simp only [h]
      rw [this]; exact asDs_map _
    have e3 : inSeq (.str x) (ys.map .str) = some ((ys.map PyData.str).any fun y => PyData.eqv y (.str x)) := if_pos ⟨rfl, List.all_eq_true.mpr fun y h => (hf y h).2⟩
    unfold inV2
    rw [h0]
    simp only [e2, e3]
    rfl
  · have := any_eqv (x := .str x) rfl fun y h => (hf y h).1
    have hm : PyData.str x ∈ ys.map PyData.str ↔ x ∈ ys := ⟨fun h => by obtain ⟨z, hz, e⟩ := List.mem_map.mp h; cases e; exact hz, fun h => List.mem_map.mpr ⟨x, h, rfl⟩⟩
    rw [hm] at this
    cases e : ((ys.map PyData.str).any fun y => PyData.eqv y (.str x)) with
    | true => exact h1 (this.mp e)
    | false => exact h2 fun z => by rw [this.mpr z] at e; cases e
theorem wr_addLc {mh : List Ob} {Q : Val → List Ob → Prop} {xs ys : List Dt} (h : xs.length + ys.length ≤ sizeLine) (q : Q (.ref mh.length) (mh ++ [.lst ((xs ++ ys).map Val.d)])) : WR true (binF .Add mh (.d (.list xs)) (.d (.list ys))) mh Q := by
  refine wr_cell (vs := (xs ++ ys).map Val.d) ?_ q
  show (if (xs.map Val.d).length + (ys.map Val.d).length ≤ sizeLine then some (Rv.nl (xs.map Val.d ++ ys.map Val.d)) else none) = _
  rw [List.length_map, List.length_map, if_pos h, List.map_append]
theorem wr_addR {mh : List Ob} {Q : Val → List Ob → Prop} {n : Nat} {xs ys : List Dt} (h : mh[n]? = some (.lst (xs.map Val.d))) (hl : xs.length + ys.length ≤ sizeLine) (q : Q (.d (.list (xs ++ ys))) mh) : WR false (binF .Add mh (.ref n) (.d (.list ys))) mh Q := by
  refine wr_nl (ds := xs ++ ys) ?_ q
  have h1 : seqL mh (.ref n) = some (xs.map Val.d) := by show cellL mh n = _; unfold cellL; simp only [h]
  show (match seqL mh (.ref n), seqL mh (.d (.list ys)) with | some xs, some ys => if xs.length + ys.length ≤ sizeLine then some (Rv.nl (xs ++ ys)) else none | _, _ => none) = _
  rw [h1]
  show (if (xs.map Val.d).length + (ys.map Val.d).length ≤ sizeLine then some (Rv.nl (xs.map Val.d ++ ys.map Val.d)) else none) = _
  rw [List.length_map, List.length_map, if_pos hl, List.map_append]
theorem wr_lenC {mh : List Ob} {n : Nat} {vs : List Val} {Q : Val → List Ob → Prop} (h : mh[n]? = some (.lst vs)) (q : Q (.d (.int (vs.length : Int))) mh) : WR false (Bi.f .len mh [.ref n]) mh Q := by
  refine wr_v ?_ q
  show lenV mh [.ref n] = _
  have h0 : dctOf mh (.ref n) = none := by unfold dctOf; simp only [h]
  have h1 : seqA mh (.ref n) = some vs := by show cellL mh n = _; unfold cellL; simp only [h]
  have e : lenV mh [.ref n] = (match dctOf mh (.ref n) with | some kvs => some (Rv.v (.d (.int kvs.length))) | none => match seqA mh (.ref n) with | some vs => some (Rv.v (.d (.int vs.length))) | none => none) := rfl
  rw [e, h0]
  simp only [h1]
theorem flat_le {α β : Type} {f : α → List β} {n : Nat} : ∀ {xs : List α}, (∀ x ∈ xs, (f x).length ≤ n) → (xs.flatMap f).length ≤ n * xs.length
  | [], _ => Nat.zero_le _
  | x :: xs, h => by
    have h1 := h x List.mem_cons_self
    have h2 := flat_le (xs := xs) fun y hy => h y (List.mem_cons_of_mem _ hy)
    rw [List.flatMap_cons, List.length_append, List.length_cons, Nat.mul_succ]; omega
theorem get_app {α : Type} {xs ys : List α} {i : Nat} {x : α} (h : xs[i]? = some x) : (xs ++ ys)[i]? = some x := by
  rw [List.getElem?_append_left (List.getElem?_eq_some_iff.mp h).1]; exact h
theorem ix_zipT {α β : Type} {f : α → Dt} {g : β → Dt} {xs : List α} {ys : List β} {mh : List Ob} {R : Ix → Prop} (q : R ⟨(xs.zip ys).map fun p => Val.d (.tuple [f p.1, g p.2]), []⟩) : ∃ ix, zip2 mh [.d (.tuple (xs.map f)), .d (.tuple (ys.map g))] = some ix ∧ R ix := by
  refine ⟨_, ?_, q⟩
  have h1 : zipIt ((xs.map f).map Val.d) ((ys.map g).map Val.d) = some ((xs.zip ys).map fun p => Val.d (.tuple [f p.1, g p.2])) := by
    unfold zipIt
    rw [asDs_map, asDs_map]
    show some (((xs.map f).zip (ys.map g)).map _) = _
    rw [List.zip_map, List.map_map]
    rfl
  have h2 : zip2 mh [.d (.tuple (xs.map f)), .d (.tuple (ys.map g))] = (zipIt ((xs.map f).map Val.d) ((ys.map g).map Val.d)).map fun l => ⟨l, []⟩ := rfl
  rw [h2, h1]
  rfl
end PvK

namespace PvK
open PySem PySem.Spec PyProof.Rows L2 Pv
/-! marks: atoms by key -/
abbrev Tm := Str → List Str
abbrev Tn := Str → Tm
abbrev Flw := Str × List Str
abbrev Fln := Str × Flw
def addA (m as : List Str) : List Str := as.foldl (fun m a => if a ∈ m then m else m ++ [a]) m
def gathT (T : Tm) (keys : List Str) : List Str := keys.foldl (fun f k => f ++ (T k).filter fun a => decide (a ∉ f)) []
def updN (T : Tn) (n k : Str) (v : List Str) : Tn := fun x y => if x = n ∧ y = k then v else T x y
def newV (T : Tn) (p : Fln) : List Str := addA (T p.1 p.2.1) (gathT (T p.1) p.2.2)
def stepT (T : Tn) (p : Fln) : Tn := updN T p.1 p.2.1 (newV T p)
def grewB (T : Tn) (p : Fln) : Bool := decide (newV T p ≠ T p.1 p.2.1)
theorem addA_mem : ∀ (as m : List Str) (x : Str), x ∈ addA m as ↔ x ∈ m ∨ x ∈ as
  | [], m, x => by simp [addA]
  | a :: as, m, x => by
    show x ∈ addA (if a ∈ m then m else m ++ [a]) as ↔ _
    rw [addA_mem as]
    by_cases h : a ∈ m
    · rw [if_pos h, List.mem_cons]
      constructor
      · rintro (h1 | h1)
        · exact .inl h1
        · exact .inr (.inr h1)
      · rintro (h1 | rfl | h1)
        · exact .inl h1
        · exact .inl h
        · exact .inr h1
    · rw [if_neg h, List.mem_append, List.mem_singleton, List.mem_cons, or_assoc]
theorem addA_pre : ∀ (as m : List Str), ∃ t, addA m as = m ++ t
  | [], m => ⟨[], by rw [List.append_nil]; rfl⟩
  | a :: as, m => by
    show ∃ t, addA (if a ∈ m then m else m ++ [a]) as = m ++ t
    obtain ⟨t, ht⟩ := addA_pre as (if a ∈ m then m else m ++ [a])
    rw [ht]
    by_cases h : a ∈ m
    · rw [if_pos h]; exact ⟨t, rfl⟩
    · rw [if_neg h]; exact ⟨[a] ++ t, by rw [List.append_assoc]⟩
theorem addA_nd : ∀ (as m : List Str), m.Nodup → (addA m as).Nodup
  | [], m, h => h
  | a :: as, m, h => by
    show (addA (if a ∈ m then m else m ++ [a]) as).Nodup
    refine addA_nd as _ ?_
    by_cases h1 : a ∈ m
    · rw [if_pos h1]; exact h
    · rw [if_neg h1]
      exact List.nodup_append.mpr ⟨h, by simp, fun x hx y hy => by rw [List.mem_singleton.mp hy]; exact fun e => h1 (e ▸ hx)⟩
theorem gath_mem (T : Tm) (keys : List Str) (x : Str) : x ∈ gathT T keys ↔ ∃ k ∈ keys, x ∈ T k := by
  have h : ∀ (keys : List Str) (f : List Str), x ∈ keys.foldl (fun f k => f ++ (T k).filter fun a => decide (a ∉ f)) f ↔ x ∈ f ∨ ∃ k ∈ keys, x ∈ T k := by
    intro keys
    induction keys with
    | nil => intro f; simp
    | cons k keys ih =>
      intro f
      rw [List.foldl_cons, ih, List.mem_append, List.mem_filter]
      constructor
      · rintro ((h | ⟨h, _⟩) | ⟨k', h1, h2⟩)
        · exact .inl h
        · exact .inr ⟨k, List.mem_cons_self, h⟩
        · exact .inr ⟨k', List.mem_cons_of_mem _ h1, h2⟩
      · rintro (h | ⟨k', h1, h2⟩)
        · exact .inl (.inl h)
        · rcases List.mem_cons.mp h1 with rfl | h1
          · by_cases hf : x ∈ f
            · exact .inl (.inl hf)
            · exact .inl (.inr ⟨h2, decide_eq_true hf⟩)
          · exact .inr ⟨k', h1, h2⟩
  unfold gathT
  rw [h]
  simp
/-- which keys are reached -/
inductive Rch (fl : List Flw) : Str → Str → Prop
  | refl (k : Str) : Rch fl k k
  | step {k k' o : Str} {ks : List Str} : (k, ks) ∈ fl → k' ∈ ks → Rch fl k' o → Rch fl k o
theorem Rch.tr {fl : List Flw} {a b c : Str} (h : Rch fl a b) (h2 : Rch fl b c) : Rch fl a c := by
  induction h with
  | refl => exact h2
  | step h1 h3 _ ih => exact .step h1 h3 (ih h2)
/-- what is known of the marks at any time -/
structure TOk (rows : Str → List (Str × Str)) (fl : List Fln) (T : Tn) : Prop where
  ini : ∀ n, ∀ p ∈ rows n, p.2 ∈ T n p.1
  snd : ∀ n k a, a ∈ T n k → ∃ o, (o, a) ∈ rows n ∧ Rch ((fl.filter fun p => decide (p.1 = n)).map (·.2)) k o
  nd : ∀ n k, (T n k).Nodup
theorem updN_self (T : Tn) (n k : Str) (v : List Str) : updN T n k v n k = v := if_pos ⟨rfl, rfl⟩
theorem fl_mem {fl : List Fln} {p : Fln} (h : p ∈ fl) : p.2 ∈ (fl.filter fun q => decide (q.1 = p.1)).map (·.2) := List.mem_map.mpr ⟨p, List.mem_filter.mpr ⟨h, decide_eq_true rfl⟩, rfl⟩
theorem step_ok {rows : Str → List (Str × Str)} {fl : List Fln} {T : Tn} (ok : TOk rows fl T) {p : Fln} (hp : p ∈ fl) : TOk rows fl (stepT T p) := by
  refine ⟨fun n q hq => ?_, fun n k a ha => ?_, fun n k => ?_⟩
  · have h := ok.ini n q hq
    unfold stepT updN
    split
    · rename_i e
      obtain ⟨rfl, e2⟩ := e
      unfold newV
      rw [addA_mem, ← e2]
      exact .inl h
    · exact h
  · unfold stepT updN at ha
    split at ha
    · rename_i e
      obtain ⟨rfl, rfl⟩ := e
      unfold newV at ha
      rw [addA_mem, gath_mem] at ha
      rcases ha with ha | ⟨k', h1, h2⟩
      · exact ok.snd _ _ _ ha
      · obtain ⟨o, h3, h4⟩ := ok.snd _ _ _ h2
        exact ⟨o, h3, .step (ks := p.2.2) (fl_mem hp) h1 h4⟩
    · exact ok.snd _ _ _ ha
  · unfold stepT updN
    split
    · exact addA_nd _ _ (ok.nd _ _)
    · exact ok.nd _ _
theorem not_grew {T : Tn} {p : Fln} (h : grewB T p = false) : stepT T p = T ∧ ∀ k ∈ p.2.2, ∀ a ∈ T p.1 k, a ∈ T p.1 p.2.1 := by
  have e : newV T p = T p.1 p.2.1 := Classical.byContradiction fun z => by unfold grewB at h; exact absurd z (of_decide_eq_false h)
  refine ⟨?_, fun k hk a ha => ?_⟩
  · funext n k
    unfold stepT updN
    split
    · rename_i e2
      rw [e, e2.1, e2.2]
    · rfl
  · rw [← e]
    unfold newV
    rw [addA_mem, gath_mem]
    exact .inr ⟨k, hk, ha⟩
/-- a round: the marks, and whether they have grown -/
def rndT (fl : List Fln) (s : Tn × Bool) : Tn × Bool := fl.foldl (fun s p => (stepT s.1 p, s.2 || grewB s.1 p)) s
theorem rnd_cons (p : Fln) (fl : List Fln) (s : Tn × Bool) : rndT (p :: fl) s = rndT fl (stepT s.1 p, s.2 || grewB s.1 p) := rfl
theorem rnd_app (f g : List Fln) (s : Tn × Bool) : rndT (f ++ g) s = rndT g (rndT f s) := List.foldl_append
theorem rnd_mono : ∀ (fl : List Fln) (s : Tn × Bool), s.2 = true → (rndT fl s).2 = true
  | [], _, h => h
  | p :: fl, s, h => by rw [rnd_cons]; exact rnd_mono fl _ (by show (s.2 || _) = true; rw [h]; rfl)
theorem rnd_ok {rows : Str → List (Str × Str)} {fa : List Fln} : ∀ (fl : List Fln) (s : Tn × Bool), (∀ p ∈ fl, p ∈ fa) → TOk rows fa s.1 → TOk rows fa (rndT fl s).1
  | [], _, _, h => h
  | p :: fl, s, hf, h => by
    rw [rnd_cons]
    exact rnd_ok fl _ (fun q hq => hf q (List.mem_cons_of_mem _ hq)) (step_ok h (hf p List.mem_cons_self))
theorem rnd_still : ∀ (fl : List Fln) (T : Tn), (rndT fl (T, false)).2 = false → (rndT fl (T, false)).1 = T ∧ ∀ p ∈ fl, ∀ k ∈ p.2.2, ∀ a ∈ T p.1 k, a ∈ T p.1 p.2.1
  | [], _, _ => ⟨rfl, fun _ h => nomatch h⟩
  | p :: fl, T, h => by
    rw [rnd_cons] at h ⊢
    rcases Bool.eq_false_or_eq_true (grewB T p) with hg | hg
    · skip
      rw [show ((T, false).2 || grewB (T, false).1 p) = true by show (false || grewB T p) = true; rw [hg]; rfl, rnd_mono fl _ rfl] at h
      cases h
    · obtain ⟨h1, h2⟩ := not_grew hg
      have e : (stepT (T, false).1 p, (T, false).2 || grewB (T, false).1 p) = (T, false) := by
        show (stepT T p, false || grewB T p) = _
        rw [h1, hg]; rfl
      rw [e] at h ⊢
      obtain ⟨h3, h4⟩ := rnd_still fl T h
      refine ⟨h3, fun q hq => ?_⟩
      rcases List.mem_cons.mp hq with rfl | hq
      · exact h2
      · exact h4 q hq
/-- how much is marked -/
def szT (U : List (Str × Str)) (T : Tn) : Nat := (U.map fun u => (T u.1 u.2).length).sum
theorem sz_le : ∀ (U : List (Str × Str)) {T T' : Tn}, (∀ n k, (T n k).length ≤ (T' n k).length) → szT U T ≤ szT U T'
  | [], _, _, _ => Nat.le_refl _
  | u :: U, T, T', h => by
    have h1 := sz_le U h
    have h2 := h u.1 u.2
    unfold szT at *
    rw [List.map_cons, List.map_cons, List.sum_cons, List.sum_cons]; omega
theorem sz_lt : ∀ (U : List (Str × Str)) {T T' : Tn}, (∀ n k, (T n k).length ≤ (T' n k).length) → ∀ u ∈ U, (T u.1 u.2).length < (T' u.1 u.2).length → szT U T < szT U T'
  | v :: U, T, T', h, u, hu, hl => by
    have h1 := sz_le U h
    have h2 := h v.1 v.2
    unfold szT at *
    rw [List.map_cons, List.map_cons, List.sum_cons, List.sum_cons]
    rcases List.mem_cons.mp hu with rfl | hu
    · omega
    · have := sz_lt U h u hu hl
      unfold szT at this
      omega
theorem sz_bound {A : Nat} : ∀ (U : List (Str × Str)) {T : Tn}, (∀ u ∈ U, (T u.1 u.2).length ≤ A) → szT U T ≤ U.length * A
  | [], _, _ => Nat.zero_le _
  | u :: U, T, h => by
    have h1 := sz_bound U fun v hv => h v (List.mem_cons_of_mem _ hv)
    have h2 := h u List.mem_cons_self
    unfold szT at *
    rw [List.map_cons, List.sum_cons, List.length_cons, Nat.succ_mul]; omega
theorem step_len (T : Tn) (p : Fln) : ∀ n k, (T n k).length ≤ (stepT T p n k).length := fun n k => by
  unfold stepT updN
  split
  · rename_i e
    obtain ⟨t, ht⟩ := addA_pre (gathT (T p.1) p.2.2) (T p.1 p.2.1)
    unfold newV
    rw [ht, e.1, e.2, List.length_append]; omega
  · exact Nat.le_refl _
theorem grew_len {T : Tn} {p : Fln} (h : grewB T p = true) : (T p.1 p.2.1).length < (stepT T p p.1 p.2.1).length := by
  unfold stepT
  rw [updN_self]
  obtain ⟨t, ht⟩ := addA_pre (gathT (T p.1) p.2.2) (T p.1 p.2.1)
  have hne : newV T p ≠ T p.1 p.2.1 := of_decide_eq_true h
  unfold newV at hne ⊢
  rw [ht] at hne ⊢
  rw [List.length_append]
  cases t with
  | nil => exact absurd (List.append_nil _) hne
  | cons a t => rw [List.length_cons]; omega
theorem rnd_len : ∀ (fl : List Fln) (s : Tn × Bool), ∀ n k, (s.1 n k).length ≤ ((rndT fl s).1 n k).length
  | [], _, _, _ => Nat.le_refl _
  | p :: fl, s, n, k => by rw [rnd_cons]; exact Nat.le_trans (step_len s.1 p n k) (rnd_len fl (stepT s.1 p, s.2 || grewB s.1 p) n k)
theorem rnd_grew {U : List (Str × Str)} : ∀ (fl : List Fln) (T : Tn), (∀ p ∈ fl, (p.1, p.2.1) ∈ U) → (rndT fl (T, false)).2 = true → szT U T < szT U (rndT fl (T, false)).1
  | [], _, _, h => by cases h
  | p :: fl, T, hu, h => by
    rw [rnd_cons] at h ⊢
    rcases Bool.eq_false_or_eq_true (grewB T p) with hg | hg
    · skip
      refine Nat.lt_of_lt_of_le (sz_lt U (step_len T p) (p.1, p.2.1) (hu p List.mem_cons_self) (grew_len hg)) ?_
      exact sz_le U fun n k => rnd_len fl (stepT T p, _) n k
    · obtain ⟨h1, _⟩ := not_grew hg
      have e : (stepT (T, false).1 p, (T, false).2 || grewB (T, false).1 p) = (T, false) := by
        show (stepT T p, false || grewB T p) = _
        rw [h1, hg]; rfl
      rw [e] at h ⊢
      exact rnd_grew fl T (fun q hq => hu q (List.mem_cons_of_mem _ hq)) h
/-- at the end just the atoms of the keys that are reached stand -/
theorem closed_all {fl : List Fln} {T : Tn} (h : ∀ p ∈ fl, ∀ k ∈ p.2.2, ∀ a ∈ T p.1 k, a ∈ T p.1 p.2.1) {n k o a : Str} (hr : Rch ((fl.filter fun p => decide (p.1 = n)).map (·.2)) k o) (ha : a ∈ T n o) : a ∈ T n k := by
  induction hr with
  | refl => exact ha
  | step h1 h2 _ ih =>
    obtain ⟨p, hp, e⟩ := List.mem_map.mp h1
    obtain ⟨hp1, hp2⟩ := List.mem_filter.mp hp
    have hn : p.1 = n := of_decide_eq_true hp2
    subst hn
    have := h p hp1
    rw [e] at this
    exact this _ h2 _ (ih ha)
end PvK

namespace PvK
open PySem PySem.Spec PyProof.Rows L2 Pv
/-! expressions and tests, their keys -/
inductive Ex where
  | num (n : Int) | nm (x : Str) | len (a : Str) | item (a : Str) (e : Ex) | scale (k : Int) (e : Ex) | quo (e : Ex) (n : Int) | rem (e : Ex) (n : Int) | plus (e f : Ex) | minus (e f : Ex)
def exd : Ex → Dt
  | .num n => .tuple [.str "number", .int n]
  | .nm x => .tuple [.str "name", .str x]
  | .len a => .tuple [.str "length", .str a]
  | .item a e => .tuple [.str "item", .str a, exd e]
  | .scale k e => .tuple [.str "scale", .int k, exd e]
  | .quo e n => .tuple [.str "quotient", exd e, .int n]
  | .rem e n => .tuple [.str "remainder", exd e, .int n]
  | .plus e f => .tuple [.str "plus", exd e, exd f]
  | .minus e f => .tuple [.str "minus", exd e, exd f]
def Ex.dp : Ex → Nat
  | .num _ => 0 | .nm _ => 0 | .len _ => 0 | .item _ e => e.dp + 1 | .scale _ e => e.dp + 1 | .quo e _ => e.dp + 1 | .rem e _ => e.dp + 1
  | .plus e f => max e.dp f.dp + 1
  | .minus e f => max e.dp f.dp + 1
abbrev hk (a : Str) : Str := Str.ofString "#" ++ a
abbrev bk (a : Str) : Str := a ++ Str.ofString "[]"
abbrev gk (a : Str) : Str := Str.ofString "give " ++ a
def keysE : Ex → List Str
  | .num _ => []
  | .nm x => [x]
  | .len a => [hk a]
  | .item a e => [hk a, bk a] ++ keysE e
  | .scale _ e => keysE e
  | .quo e _ => keysE e
  | .rem e _ => keysE e
  | .plus e f => keysE e ++ keysE f
  | .minus e f => keysE e ++ keysE f
/-- of the names of a head -/
def exOk (I A : List Str) : Ex → Prop
  | .num _ => True
  | .nm x => x ∈ I
  | .len a => a ∈ A
  | .item a e => a ∈ A ∧ exOk I A e
  | .scale _ e => exOk I A e
  | .quo e _ => exOk I A e
  | .rem e _ => exOk I A e
  | .plus e f => exOk I A e ∧ exOk I A f
  | .minus e f => exOk I A e ∧ exOk I A f
def ksz : Ex → Nat
  | .num _ => 0 | .nm _ => 1 | .len _ => 1 | .item _ e => 2 + ksz e | .scale _ e => ksz e | .quo e _ => ksz e | .rem e _ => ksz e
  | .plus e f => ksz e + ksz f
  | .minus e f => ksz e + ksz f
theorem keys_len : ∀ e : Ex, (keysE e).length = ksz e
  | .num _ => rfl | .nm _ => rfl | .len _ => rfl
  | .item a e => by show (_ ++ keysE e).length = 2 + _; rw [List.length_append, keys_len e]; rfl
  | .scale _ e => keys_len e | .quo e _ => keys_len e | .rem e _ => keys_len e
  | .plus e f => by show (keysE e ++ keysE f).length = _; rw [List.length_append, keys_len e, keys_len f]; rfl
  | .minus e f => by show (keysE e ++ keysE f).length = _; rw [List.length_append, keys_len e, keys_len f]; rfl
theorem ksz_le : ∀ e : Ex, ksz e ≤ 3 ^ (e.dp + 1)
  | .num _ => Nat.zero_le _ | .nm _ => (by decide : 1 ≤ 3 ^ 1) | .len _ => (by decide : 1 ≤ 3 ^ 1)
  | .item a e => by have := ksz_le e; have h : 0 < 3 ^ (e.dp + 1) := Nat.pow_pos (by decide); show 2 + ksz e ≤ 3 ^ (e.dp + 1 + 1); rw [Nat.pow_succ 3 (e.dp + 1)]; omega
  | .scale _ e => Nat.le_trans (ksz_le e) (Nat.pow_le_pow_right (by decide) (Nat.le_succ _)) | .quo e _ => Nat.le_trans (ksz_le e) (Nat.pow_le_pow_right (by decide) (Nat.le_succ _)) | .rem e _ => Nat.le_trans (ksz_le e) (Nat.pow_le_pow_right (by decide) (Nat.le_succ _))
  | .plus e f => by
    have h1 := Nat.le_trans (ksz_le e) (Nat.pow_le_pow_right (n := 3) (by decide) (show e.dp + 1 ≤ max e.dp f.dp + 1 by omega))
    have h2 := Nat.le_trans (ksz_le f) (Nat.pow_le_pow_right (n := 3) (by decide) (show f.dp + 1 ≤ max e.dp f.dp + 1 by omega))
    show ksz e + ksz f ≤ 3 ^ (max e.dp f.dp + 1 + 1)
    rw [Nat.pow_succ 3 (max e.dp f.dp + 1)]; omega
  | .minus e f => by
    have h1 := Nat.le_trans (ksz_le e) (Nat.pow_le_pow_right (n := 3) (by decide) (show e.dp + 1 ≤ max e.dp f.dp + 1 by omega))
    have h2 := Nat.le_trans (ksz_le f) (Nat.pow_le_pow_right (n := 3) (by decide) (show f.dp + 1 ≤ max e.dp f.dp + 1 by omega))
    show ksz e + ksz f ≤ 3 ^ (max e.dp f.dp + 1 + 1)
    rw [Nat.pow_succ 3 (max e.dp f.dp + 1)]; omega
structure NmOk (I A : List Str) : Prop where
  i : ∀ x ∈ I, SM x
  a : ∀ x ∈ A, SM x
theorem hk_sz {a : Str} (h : SM a) : (Str.ofString "#").length + a.length ≤ sizeLine := by
  have h1 : (Str.ofString "#").length ≤ 2 := by decide +kernel
  have := h.2
  have hs : sizeLine = 16777216 := rfl
  omega
theorem bk_sz {a : Str} (h : SM a) : a.length + (Str.ofString "[]").length ≤ sizeLine := by
  have h1 : (Str.ofString "[]").length ≤ 2 := by decide +kernel
  have := h.2
  have hs : sizeLine = 16777216 := rfl
  omega
theorem gk_sz {a : Str} (h : SM a) : (Str.ofString "give ").length + a.length ≤ sizeLine := by
  have h1 : (Str.ofString "give ").length ≤ 9 := by decide +kernel
  have := h.2
  have hs : sizeLine = 16777216 := rfl
  omega
section
variable {I A : List Str} (no : NmOk I A)
include no
theorem keysin_ok : ∀ (e : Ex) (l : Nat) (mh : List Ob) (Q : Val → List Ob → Prop), exOk I A e → e.dp < l → ksz e ≤ 10000 → Q (.d (strD (keysE e))) mh → W (callP P gl l 3 [.d (exd e)]) mh Q
  | .num n, l, mh, Q, ok, hd, hs, q => by
    have hsl : sizeLine = 16777216 := rfl
    obtain ⟨l, rfl⟩ : ∃ l2, l = l2 + 1 := ⟨l - 1, by omega⟩
    refine w_pure (nm := f3.name) (ps := f3.ps) (N := f3.N) (body := f3.body) (env := [some (.d (exd (.num n))), none]) rfl rfl ?_
    unfold f3
    simp only [exd]
    simp only [keysE] at q
    walk_at "pv all"
    refine ix_tup (j := 0) rfl rfl ?_
    walk_at "pv all"
    refine cs_eq (fun h => absurd h (by decide +kernel)) (fun _ => ?_)
    walk_at "pv all"
    refine cs_eq (fun h => absurd h (by decide +kernel)) (fun _ => ?_)
    walk_at "pv all"
    refine cs_eq (fun h => absurd h (by decide +kernel)) (fun _ => ?_)
    walk_at "pv all"
    refine cs_eq (fun h => absurd h (by decide +kernel)) (fun _ => ?_)
    walk_at "pv all"
    refine cs_eq (fun h => absurd h (by decide +kernel)) (fun _ => ?_)
    walk_at "pv all"
    refine cs_eq (fun h => absurd h (by decide +kernel)) (fun _ => ?_)
    walk_at "pv all"
    refine cs_eq (fun h => absurd h (by decide +kernel)) (fun _ => ?_)
    walk_at "pv all"
    refine cs_eq (fun h => absurd h (by decide +kernel)) (fun _ => ?_)
    walk_at "pv all"
    exact q
  | .nm x, l, mh, Q, ok, hd, hs, q => by
    have hsl : sizeLine = 16777216 := rfl
    obtain ⟨l, rfl⟩ : ∃ l2, l = l2 + 1 := ⟨l - 1, by omega⟩
    refine w_pure (nm := f3.name) (ps := f3.ps) (N := f3.N) (body := f3.body) (env := [some (.d (exd (.nm x))), none]) rfl rfl ?_
    unfold f3
    simp only [exd]
    simp only [keysE] at q
    walk_at "pv all"
    refine ix_tup (j := 0) rfl rfl ?_
    walk_at "pv all"
    refine cs_eq (fun _ => ?_) (fun h => absurd rfl h)
    walk_at "pv all"
    refine ix_tup (j := 1) rfl rfl ?_
    walk_at "pv all"
    exact q
  | .len a, l, mh, Q, ok, hd, hs, q => by
    have hsl : sizeLine = 16777216 := rfl
    obtain ⟨l, rfl⟩ : ∃ l2, l = l2 + 1 := ⟨l - 1, by omega⟩
    refine w_pure (nm := f3.name) (ps := f3.ps) (N := f3.N) (body := f3.body) (env := [some (.d (exd (.len a))), none]) rfl rfl ?_
    unfold f3
    simp only [exd]
    simp only [keysE] at q
    walk_at "pv all"
    refine ix_tup (j := 0) rfl rfl ?_
    walk_at "pv all"
    refine cs_eq (fun h => absurd h (by decide +kernel)) (fun _ => ?_)
    walk_at "pv all"
    refine cs_eq (fun _ => ?_) (fun h => absurd rfl h)
    walk_at "pv all"
    refine ix_tup (j := 1) rfl rfl ?_
    refine wr_addS (hk_sz (no.a _ ok)) ?_
    walk_at "pv all"
    exact q
  | .item a e, l, mh, Q, ok, hd, hs, q => by
    have hsl : sizeLine = 16777216 := rfl
    have hd : e.dp + 1 < l := hd
    have hs : 2 + ksz e ≤ 10000 := hs
    obtain ⟨l, rfl⟩ : ∃ l2, l = l2 + 1 := ⟨l - 1, by omega⟩
    refine w_pure (nm := f3.name) (ps := f3.ps) (N := f3.N) (body := f3.body) (env := [some (.d (exd (.item a e))), none]) rfl rfl ?_
    unfold f3
    simp only [exd]
    simp only [keysE] at q
    walk_at "pv all"
    refine ix_tup (j := 0) rfl rfl ?_
    walk_at "pv all"
    refine cs_eq (fun h => absurd h (by decide +kernel)) (fun _ => ?_)
    walk_at "pv all"
    refine cs_eq (fun h => absurd h (by decide +kernel)) (fun _ => ?_)
    walk_at "pv all"
    refine cs_eq (fun _ => ?_) (fun h => absurd rfl h)
    walk_at "pv all"
    refine ix_tup (j := 1) rfl rfl ?_
    refine wr_addS (hk_sz (no.a _ ok.1)) ?_
    walk_at "pv all"
    refine ix_tup (j := 1) rfl rfl ?_
    walk_at "pv all"
    refine wr_addS (bk_sz (no.a _ ok.1)) ?_
    walk_at "pv all"
    refine ix_tup (j := 2) rfl rfl ?_
    walk_at "pv all"
    refine keysin_ok e l mh _ ok.2 (by omega) (by omega) ?_
    refine wr_addL (xs := [.str (hk a), .str (bk a)]) (by rw [List.length_map, keys_len]; show 2 + _ ≤ _; omega) ?_
    walk_at "pv all"
    unfold strD at q
    rw [List.map_append] at q
    exact q
  | .scale k e, l, mh, Q, ok, hd, hs, q => by
    have hsl : sizeLine = 16777216 := rfl
    have hd : e.dp + 1 < l := hd
    have hs : ksz e ≤ 10000 := hs
    obtain ⟨l, rfl⟩ : ∃ l2, l = l2 + 1 := ⟨l - 1, by omega⟩
    refine w_pure (nm := f3.name) (ps := f3.ps) (N := f3.N) (body := f3.body) (env := [some (.d (exd (.scale k e))), none]) rfl rfl ?_
    unfold f3
    simp only [exd]
    simp only [keysE] at q
    walk_at "pv all"
    refine ix_tup (j := 0) rfl rfl ?_
    walk_at "pv all"
    refine cs_eq (fun h => absurd h (by decide +kernel)) (fun _ => ?_)
    walk_at "pv all"
    refine cs_eq (fun h => absurd h (by decide +kernel)) (fun _ => ?_)
    walk_at "pv all"
    refine cs_eq (fun h => absurd h (by decide +kernel)) (fun _ => ?_)
    walk_at "pv all"
    refine cs_eq (fun _ => ?_) (fun h => absurd rfl h)
    walk_at "pv all"
    refine ix_tup (j := 2) rfl rfl ?_
    walk_at "pv all"
    refine keysin_ok e l mh _ ok (by omega) (by omega) ?_
    walk_at "pv all"
    exact q
  | .quo e n, l, mh, Q, ok, hd, hs, q => by
    have hsl : sizeLine = 16777216 := rfl
    have hd : e.dp + 1 < l := hd
    have hs : ksz e ≤ 10000 := hs
    obtain ⟨l, rfl⟩ : ∃ l2, l = l2 + 1 := ⟨l - 1, by omega⟩
    refine w_pure (nm := f3.name) (ps := f3.ps) (N := f3.N) (body := f3.body) (env := [some (.d (exd (.quo e n))), none]) rfl rfl ?_
    unfold f3
    simp only [exd]
    simp only [keysE] at q
    walk_at "pv all"
    refine ix_tup (j := 0) rfl rfl ?_
    walk_at "pv all"
    refine cs_eq (fun h => absurd h (by decide +kernel)) (fun _ => ?_)
    walk_at "pv all"
    refine cs_eq (fun h => absurd h (by decide +kernel)) (fun _ => ?_)
    walk_at "pv all"
    refine cs_eq (fun h => absurd h (by decide +kernel)) (fun _ => ?_)
    walk_at "pv all"
    refine cs_eq (fun h => absurd h (by decide +kernel)) (fun _ => ?_)
    walk_at "pv all"
    refine cs_eq (fun h => absurd h (by decide +kernel)) (fun _ => ?_)
    walk_at "pv all"
    refine cs_eq (fun h => absurd h (by decide +kernel)) (fun _ => ?_)
    walk_at "pv all"
    refine cs_eq (fun _ => ?_) (fun h => absurd rfl h)
    walk_at "pv all"
    refine ix_tup (j := 1) rfl rfl ?_
    walk_at "pv all"
    refine keysin_ok e l mh _ ok (by omega) (by omega) ?_
    walk_at "pv all"
    exact q
  | .rem e n, l, mh, Q, ok, hd, hs, q => by
    have hsl : sizeLine = 16777216 := rfl
    have hd : e.dp + 1 < l := hd
    have hs : ksz e ≤ 10000 := hs
    obtain ⟨l, rfl⟩ : ∃ l2, l = l2 + 1 := ⟨l - 1, by omega⟩
    refine w_pure (nm := f3.name) (ps := f3.ps) (N := f3.N) (body := f3.body) (env := [some (.d (exd (.rem e n))), none]) rfl rfl ?_
    unfold f3
    simp only [exd]
    simp only [keysE] at q
    walk_at "pv all"
    refine ix_tup (j := 0) rfl rfl ?_
    walk_at "pv all"
    refine cs_eq (fun h => absurd h (by decide +kernel)) (fun _ => ?_)
    walk_at "pv all"
    refine cs_eq (fun h => absurd h (by decide +kernel)) (fun _ => ?_)
    walk_at "pv all"
    refine cs_eq (fun h => absurd h (by decide +kernel)) (fun _ => ?_)
    walk_at "pv all"
    refine cs_eq (fun h => absurd h (by decide +kernel)) (fun _ => ?_)
    walk_at "pv all"
    refine cs_eq (fun h => absurd h (by decide +kernel)) (fun _ => ?_)
    walk_at "pv all"
    refine cs_eq (fun h => absurd h (by decide +kernel)) (fun _ => ?_)
    walk_at "pv all"
    refine cs_eq (fun h => absurd h (by decide +kernel)) (fun _ => ?_)
    walk_at "pv all"
    refine cs_eq (fun _ => ?_) (fun h => absurd rfl h)
    walk_at "pv all"
    refine ix_tup (j := 1) rfl rfl ?_
    walk_at "pv all"
    refine keysin_ok e l mh _ ok (by omega) (by omega) ?_
    walk_at "pv all"
    exact q
  | .plus e f, l, mh, Q, ok, hd, hs, q => by
    have hsl : sizeLine = 16777216 := rfl
    have hd : max e.dp f.dp + 1 < l := hd
    have hs : ksz e + ksz f ≤ 10000 := hs
    obtain ⟨l, rfl⟩ : ∃ l2, l = l2 + 1 := ⟨l - 1, by omega⟩
    refine w_pure (nm := f3.name) (ps := f3.ps) (N := f3.N) (body := f3.body) (env := [some (.d (exd (.plus e f))), none]) rfl rfl ?_
    unfold f3
    simp only [exd]
    simp only [keysE] at q
    walk_at "pv all"
    refine ix_tup (j := 0) rfl rfl ?_
    walk_at "pv all"
    refine cs_eq (fun h => absurd h (by decide +kernel)) (fun _ => ?_)
    walk_at "pv all"
    refine cs_eq (fun h => absurd h (by decide +kernel)) (fun _ => ?_)
    walk_at "pv all"
    refine cs_eq (fun h => absurd h (by decide +kernel)) (fun _ => ?_)
    walk_at "pv all"
    refine cs_eq (fun h => absurd h (by decide +kernel)) (fun _ => ?_)
    walk_at "pv all"
    refine cs_eq (fun _ => ?_) (fun h => absurd rfl h)
    walk_at "pv all"
    refine ix_tup (j := 1) rfl rfl ?_
    walk_at "pv all"
    refine keysin_ok e l mh _ ok.1 (by omega) (by omega) ?_
    walk_at "pv all"
    refine ix_tup (j := 2) rfl rfl ?_
    walk_at "pv all"
    refine keysin_ok f l mh _ ok.2 (by omega) (by omega) ?_
    refine wr_addL (by rw [List.length_map, List.length_map, keys_len, keys_len]; omega) ?_
    walk_at "pv all"
    unfold strD at q
    rw [List.map_append] at q
    exact q
  | .minus e f, l, mh, Q, ok, hd, hs, q => by
    have hsl : sizeLine = 16777216 := rfl
    have hd : max e.dp f.dp + 1 < l := hd
    have hs : ksz e + ksz f ≤ 10000 := hs
    obtain ⟨l, rfl⟩ : ∃ l2, l = l2 + 1 := ⟨l - 1, by omega⟩
    refine w_pure (nm := f3.name) (ps := f3.ps) (N := f3.N) (body := f3.body) (env := [some (.d (exd (.minus e f))), none]) rfl rfl ?_
    unfold f3
    simp only [exd]
    simp only [keysE] at q
    walk_at "pv all"
    refine ix_tup (j := 0) rfl rfl ?_
    walk_at "pv all"
    refine cs_eq (fun h => absurd h (by decide +kernel)) (fun _ => ?_)
    walk_at "pv all"
    refine cs_eq (fun h => absurd h (by decide +kernel)) (fun _ => ?_)
    walk_at "pv all"
    refine cs_eq (fun h => absurd h (by decide +kernel)) (fun _ => ?_)
    walk_at "pv all"
    refine cs_eq (fun h => absurd h (by decide +kernel)) (fun _ => ?_)
    walk_at "pv all"
    refine cs_eq (fun h => absurd h (by decide +kernel)) (fun _ => ?_)
    walk_at "pv all"
    refine cs_eq (fun _ => ?_) (fun h => absurd rfl h)
    walk_at "pv all"
    refine ix_tup (j := 1) rfl rfl ?_
    walk_at "pv all"
    refine keysin_ok e l mh _ ok.1 (by omega) (by omega) ?_
    walk_at "pv all"
    refine ix_tup (j := 2) rfl rfl ?_
    walk_at "pv all"
    refine keysin_ok f l mh _ ok.2 (by omega) (by omega) ?_
    refine wr_addL (by rw [List.length_map, List.length_map, keys_len, keys_len]; omega) ?_
    walk_at "pv all"
    unfold strD at q
    rw [List.map_append] at q
    exact q
theorem lkeys_ok : ∀ (e : Ex) (l : Nat) (mh : List Ob) (Q : Val → List Ob → Prop), exOk I A e → e.dp < l → ksz e ≤ 10000 → Q (.d (strD (keysE e))) mh → W (callP P gl l 31 [.d (exd e)]) mh Q
  | .num n, l, mh, Q, ok, hd, hs, q => by
    have hsl : sizeLine = 16777216 := rfl
    obtain ⟨l, rfl⟩ : ∃ l2, l = l2 + 1 := ⟨l - 1, by omega⟩
    refine w_pure (nm := f31.name) (ps := f31.ps) (N := f31.N) (body := f31.body) (env := [some (.d (exd (.num n)))]) rfl rfl ?_
    unfold f31
    simp only [exd]
    simp only [keysE] at q
    walk_at "pv all"
    refine ix_tup (j := 0) rfl rfl ?_
    walk_at "pv all"
    refine cs_eq (fun _ => ?_) (fun h => absurd rfl h)
    walk_at "pv all"
    exact q
  | .nm x, l, mh, Q, ok, hd, hs, q => by
    have hsl : sizeLine = 16777216 := rfl
    obtain ⟨l, rfl⟩ : ∃ l2, l = l2 + 1 := ⟨l - 1, by omega⟩
    refine w_pure (nm := f31.name) (ps := f31.ps) (N := f31.N) (body := f31.body) (env := [some (.d (exd (.nm x)))]) rfl rfl ?_
    unfold f31
    simp only [exd]
    simp only [keysE] at q
    walk_at "pv all"
    refine ix_tup (j := 0) rfl rfl ?_
    walk_at "pv all"
    refine cs_eq (fun h => absurd h (by decide +kernel)) (fun _ => ?_)
    walk_at "pv all"
    refine ix_tup (j := 0) rfl rfl ?_
    walk_at "pv all"
    refine cs_eq (fun _ => ?_) (fun h => absurd rfl h)
    walk_at "pv all"
    refine ix_tup (j := 1) rfl rfl ?_
    walk_at "pv all"
    exact q
  | .len a, l, mh, Q, ok, hd, hs, q => by
    have hsl : sizeLine = 16777216 := rfl
    obtain ⟨l, rfl⟩ : ∃ l2, l = l2 + 1 := ⟨l - 1, by omega⟩
    refine w_pure (nm := f31.name) (ps := f31.ps) (N := f31.N) (body := f31.body) (env := [some (.d (exd (.len a)))]) rfl rfl ?_
    unfold f31
    simp only [exd]
    simp only [keysE] at q
    walk_at "pv all"
    refine ix_tup (j := 0) rfl rfl ?_
    walk_at "pv all"
    refine cs_eq (fun h => absurd h (by decide +kernel)) (fun _ => ?_)
    walk_at "pv all"
    refine ix_tup (j := 0) rfl rfl ?_
    walk_at "pv all"
    refine cs_eq (fun h => absurd h (by decide +kernel)) (fun _ => ?_)
    walk_at "pv all"
    refine ix_tup (j := 0) rfl rfl ?_
    walk_at "pv all"
    refine cs_eq (fun _ => ?_) (fun h => absurd rfl h)
    walk_at "pv all"
    refine ix_tup (j := 1) rfl rfl ?_
    refine wr_addS (hk_sz (no.a _ ok)) ?_
    walk_at "pv all"
    exact q
  | .item a e, l, mh, Q, ok, hd, hs, q => by
    have hsl : sizeLine = 16777216 := rfl
    have hd : e.dp + 1 < l := hd
    have hs : 2 + ksz e ≤ 10000 := hs
    obtain ⟨l, rfl⟩ : ∃ l2, l = l2 + 1 := ⟨l - 1, by omega⟩
    refine w_pure (nm := f31.name) (ps := f31.ps) (N := f31.N) (body := f31.body) (env := [some (.d (exd (.item a e)))]) rfl rfl ?_
    unfold f31
    simp only [exd]
    simp only [keysE] at q
    walk_at "pv all"
    refine ix_tup (j := 0) rfl rfl ?_
    walk_at "pv all"
    refine cs_eq (fun h => absurd h (by decide +kernel)) (fun _ => ?_)
    walk_at "pv all"
    refine ix_tup (j := 0) rfl rfl ?_
    walk_at "pv all"
    refine cs_eq (fun h => absurd h (by decide +kernel)) (fun _ => ?_)
    walk_at "pv all"
    refine ix_tup (j := 0) rfl rfl ?_
    walk_at "pv all"
    refine cs_eq (fun h => absurd h (by decide +kernel)) (fun _ => ?_)
    walk_at "pv all"
    refine ix_tup (j := 0) rfl rfl ?_
    walk_at "pv all"
    refine cs_eq (fun _ => ?_) (fun h => absurd rfl h)
    walk_at "pv all"
    refine ix_tup (j := 1) rfl rfl ?_
    refine wr_addS (hk_sz (no.a _ ok.1)) ?_
    walk_at "pv all"
    refine ix_tup (j := 1) rfl rfl ?_
    walk_at "pv all"
    refine wr_addS (bk_sz (no.a _ ok.1)) ?_
    walk_at "pv all"
    refine ix_tup (j := 2) rfl rfl ?_
    walk_at "pv all"
    refine lkeys_ok e l mh _ ok.2 (by omega) (by omega) ?_
    refine wr_addL (xs := [.str (hk a), .str (bk a)]) (by rw [List.length_map, keys_len]; show 2 + _ ≤ _; omega) ?_
    walk_at "pv all"
    unfold strD at q
    rw [List.map_append] at q
    exact q
  | .scale k e, l, mh, Q, ok, hd, hs, q => by
    have hsl : sizeLine = 16777216 := rfl
    have hd : e.dp + 1 < l := hd
    have hs : ksz e ≤ 10000 := hs
    obtain ⟨l, rfl⟩ : ∃ l2, l = l2 + 1 := ⟨l - 1, by omega⟩
    refine w_pure (nm := f31.name) (ps := f31.ps) (N := f31.N) (body := f31.body) (env := [some (.d (exd (.scale k e)))]) rfl rfl ?_
    unfold f31
    simp only [exd]
    simp only [keysE] at q
    walk_at "pv all"
    refine ix_tup (j := 0) rfl rfl ?_
    walk_at "pv all"
    refine cs_eq (fun h => absurd h (by decide +kernel)) (fun _ => ?_)
    walk_at "pv all"
    refine ix_tup (j := 0) rfl rfl ?_
    walk_at "pv all"
    refine cs_eq (fun h => absurd h (by decide +kernel)) (fun _ => ?_)
    walk_at "pv all"
    refine ix_tup (j := 0) rfl rfl ?_
    walk_at "pv all"
    refine cs_eq (fun h => absurd h (by decide +kernel)) (fun _ => ?_)
    walk_at "pv all"
    refine ix_tup (j := 0) rfl rfl ?_
    walk_at "pv all"
    refine cs_eq (fun h => absurd h (by decide +kernel)) (fun _ => ?_)
    walk_at "pv all"
    refine ix_tup (j := 0) rfl rfl ?_
    walk_at "pv all"
    refine cs_eq (fun _ => ?_) (fun h => absurd rfl h)
    walk_at "pv all"
    refine ix_tup (j := 2) rfl rfl ?_
    walk_at "pv all"
    refine lkeys_ok e l mh _ ok (by omega) (by omega) ?_
    walk_at "pv all"
    exact q
  | .quo e n, l, mh, Q, ok, hd, hs, q => by
    have hsl : sizeLine = 16777216 := rfl
    have hd : e.dp + 1 < l := hd
    have hs : ksz e ≤ 10000 := hs
    obtain ⟨l, rfl⟩ : ∃ l2, l = l2 + 1 := ⟨l - 1, by omega⟩
    refine w_pure (nm := f31.name) (ps := f31.ps) (N := f31.N) (body := f31.body) (env := [some (.d (exd (.quo e n)))]) rfl rfl ?_
    unfold f31
    simp only [exd]
    simp only [keysE] at q
    walk_at "pv all"
    refine ix_tup (j := 0) rfl rfl ?_
    walk_at "pv all"
    refine cs_eq (fun h => absurd h (by decide +kernel)) (fun _ => ?_)
    walk_at "pv all"
    refine ix_tup (j := 0) rfl rfl ?_
    walk_at "pv all"
    refine cs_eq (fun h => absurd h (by decide +kernel)) (fun _ => ?_)
    walk_at "pv all"
    refine ix_tup (j := 0) rfl rfl ?_
    walk_at "pv all"
    refine cs_eq (fun h => absurd h (by decide +kernel)) (fun _ => ?_)
    walk_at "pv all"
    refine ix_tup (j := 0) rfl rfl ?_
    walk_at "pv all"
    refine cs_eq (fun h => absurd h (by decide +kernel)) (fun _ => ?_)
    walk_at "pv all"
    refine ix_tup (j := 0) rfl rfl ?_
    walk_at "pv all"
    refine cs_eq (fun h => absurd h (by decide +kernel)) (fun _ => ?_)
    walk_at "pv all"
    refine ix_tup (j := 0) rfl rfl ?_
    walk_at "pv all"
    refine cs_eq (fun h => absurd h (by decide +kernel)) (fun _ => ?_)
    walk_at "pv all"
    refine ix_tup (j := 0) rfl rfl ?_
    walk_at "pv all"
    refine cs_eq (fun h => absurd h (by decide +kernel)) (fun _ => ?_)
    walk_at "pv all"
    refine ix_tup (j := 1) rfl rfl ?_
    walk_at "pv all"
    refine lkeys_ok e l mh _ ok (by omega) (by omega) ?_
    walk_at "pv all"
    exact q
  | .rem e n, l, mh, Q, ok, hd, hs, q => by
    have hsl : sizeLine = 16777216 := rfl
    have hd : e.dp + 1 < l := hd
    have hs : ksz e ≤ 10000 := hs
    obtain ⟨l, rfl⟩ : ∃ l2, l = l2 + 1 := ⟨l - 1, by omega⟩
    refine w_pure (nm := f31.name) (ps := f31.ps) (N := f31.N) (body := f31.body) (env := [some (.d (exd (.rem e n)))]) rfl rfl ?_
    unfold f31
    simp only [exd]
    simp only [keysE] at q
    walk_at "pv all"
    refine ix_tup (j := 0) rfl rfl ?_
    walk_at "pv all"
    refine cs_eq (fun h => absurd h (by decide +kernel)) (fun _ => ?_)
    walk_at "pv all"
    refine ix_tup (j := 0) rfl rfl ?_
    walk_at "pv all"
    refine cs_eq (fun h => absurd h (by decide +kernel)) (fun _ => ?_)
    walk_at "pv all"
    refine ix_tup (j := 0) rfl rfl ?_
    walk_at "pv all"
    refine cs_eq (fun h => absurd h (by decide +kernel)) (fun _ => ?_)
    walk_at "pv all"
    refine ix_tup (j := 0) rfl rfl ?_
    walk_at "pv all"
    refine cs_eq (fun h => absurd h (by decide +kernel)) (fun _ => ?_)
    walk_at "pv all"
    refine ix_tup (j := 0) rfl rfl ?_
    walk_at "pv all"
    refine cs_eq (fun h => absurd h (by decide +kernel)) (fun _ => ?_)
    walk_at "pv all"
    refine ix_tup (j := 0) rfl rfl ?_
    walk_at "pv all"
    refine cs_eq (fun h => absurd h (by decide +kernel)) (fun _ => ?_)
    walk_at "pv all"
    refine ix_tup (j := 0) rfl rfl ?_
    walk_at "pv all"
    refine cs_eq (fun h => absurd h (by decide +kernel)) (fun _ => ?_)
    walk_at "pv all"
    refine ix_tup (j := 1) rfl rfl ?_
    walk_at "pv all"
    refine lkeys_ok e l mh _ ok (by omega) (by omega) ?_
    walk_at "pv all"
    exact q
  | .plus e f, l, mh, Q, ok, hd, hs, q => by
    have hsl : sizeLine = 16777216 := rfl
    have hd : max e.dp f.dp + 1 < l := hd
    have hs : ksz e + ksz f ≤ 10000 := hs
    obtain ⟨l, rfl⟩ : ∃ l2, l = l2 + 1 := ⟨l - 1, by omega⟩
    refine w_pure (nm := f31.name) (ps := f31.ps) (N := f31.N) (body := f31.body) (env := [some (.d (exd (.plus e f)))]) rfl rfl ?_
    unfold f31
    simp only [exd]
    simp only [keysE] at q
    walk_at "pv all"
    refine ix_tup (j := 0) rfl rfl ?_
    walk_at "pv all"
    refine cs_eq (fun h => absurd h (by decide +kernel)) (fun _ => ?_)
    walk_at "pv all"
    refine ix_tup (j := 0) rfl rfl ?_
    walk_at "pv all"
    refine cs_eq (fun h => absurd h (by decide +kernel)) (fun _ => ?_)
    walk_at "pv all"
    refine ix_tup (j := 0) rfl rfl ?_
    walk_at "pv all"
    refine cs_eq (fun h => absurd h (by decide +kernel)) (fun _ => ?_)
    walk_at "pv all"
    refine ix_tup (j := 0) rfl rfl ?_
    walk_at "pv all"
    refine cs_eq (fun h => absurd h (by decide +kernel)) (fun _ => ?_)
    walk_at "pv all"
    refine ix_tup (j := 0) rfl rfl ?_
    walk_at "pv all"
    refine cs_eq (fun h => absurd h (by decide +kernel)) (fun _ => ?_)
    walk_at "pv all"
    refine ix_tup (j := 0) rfl rfl ?_
    walk_at "pv all"
    refine cs_eq (fun _ => ?_) (fun h => absurd rfl h)
    walk_at "pv all"
    refine ix_tup (j := 1) rfl rfl ?_
    walk_at "pv all"
    refine lkeys_ok e l mh _ ok.1 (by omega) (by omega) ?_
    walk_at "pv all"
    refine ix_tup (j := 2) rfl rfl ?_
    walk_at "pv all"
    refine lkeys_ok f l mh _ ok.2 (by omega) (by omega) ?_
    refine wr_addL (by rw [List.length_map, List.length_map, keys_len, keys_len]; omega) ?_
    walk_at "pv all"
    unfold strD at q
    rw [List.map_append] at q
    exact q
  | .minus e f, l, mh, Q, ok, hd, hs, q => by
    have hsl : sizeLine = 16777216 := rfl
    have hd : max e.dp f.dp + 1 < l := hd
    have hs : ksz e + ksz f ≤ 10000 := hs
    obtain ⟨l, rfl⟩ : ∃ l2, l = l2 + 1 := ⟨l - 1, by omega⟩
    refine w_pure (nm := f31.name) (ps := f31.ps) (N := f31.N) (body := f31.body) (env := [some (.d (exd (.minus e f)))]) rfl rfl ?_
    unfold f31
    simp only [exd]
    simp only [keysE] at q
    walk_at "pv all"
    refine ix_tup (j := 0) rfl rfl ?_
    walk_at "pv all"
    refine cs_eq (fun h => absurd h (by decide +kernel)) (fun _ => ?_)
    walk_at "pv all"
    refine ix_tup (j := 0) rfl rfl ?_
    walk_at "pv all"
    refine cs_eq (fun h => absurd h (by decide +kernel)) (fun _ => ?_)
    walk_at "pv all"
    refine ix_tup (j := 0) rfl rfl ?_
    walk_at "pv all"
    refine cs_eq (fun h => absurd h (by decide +kernel)) (fun _ => ?_)
    walk_at "pv all"
    refine ix_tup (j := 0) rfl rfl ?_
    walk_at "pv all"
    refine cs_eq (fun h => absurd h (by decide +kernel)) (fun _ => ?_)
    walk_at "pv all"
    refine ix_tup (j := 0) rfl rfl ?_
    walk_at "pv all"
    refine cs_eq (fun h => absurd h (by decide +kernel)) (fun _ => ?_)
    walk_at "pv all"
    refine ix_tup (j := 0) rfl rfl ?_
    walk_at "pv all"
    refine cs_eq (fun h => absurd h (by decide +kernel)) (fun _ => ?_)
    walk_at "pv all"
    refine ix_tup (j := 0) rfl rfl ?_
    walk_at "pv all"
    refine cs_eq (fun _ => ?_) (fun h => absurd rfl h)
    walk_at "pv all"
    refine ix_tup (j := 1) rfl rfl ?_
    walk_at "pv all"
    refine lkeys_ok e l mh _ ok.1 (by omega) (by omega) ?_
    walk_at "pv all"
    refine ix_tup (j := 2) rfl rfl ?_
    walk_at "pv all"
    refine lkeys_ok f l mh _ ok.2 (by omega) (by omega) ?_
    refine wr_addL (by rw [List.length_map, List.length_map, keys_len, keys_len]; omega) ?_
    walk_at "pv all"
    unfold strD at q
    rw [List.map_append] at q
    exact q
end
end PvK

namespace PvK
open PySem PySem.Spec PyProof.Rows L2 Pv
/-! tests and statements -/
inductive Ts where
  | cmp (b : Bool) (e f : Ex) | nt (t : Ts) | two (b : Bool) (l r : Ts)
def cmpS (b : Bool) : Str := if b then Str.ofString "less" else Str.ofString "same"
def twoS (b : Bool) : Str := if b then Str.ofString "and" else Str.ofString "or"
def tsd : Ts → Dt
  | .cmp b e f => .tuple [.str (cmpS b), exd e, exd f]
  | .nt t => .tuple [.str "not", tsd t]
  | .two b l r => .tuple [.str (twoS b), tsd l, tsd r]
def Ts.dp : Ts → Nat
  | .cmp _ _ _ => 0 | .nt t => t.dp + 1 | .two _ l r => max l.dp r.dp + 1
abbrev Cmp := Bool × Ex × Ex
abbrev cmpd (c : Cmp) : Dt := .tuple [.str (cmpS c.1), exd c.2.1, exd c.2.2]
def cmps : Ts → List Cmp
  | .cmp b e f => [(b, e, f)]
  | .nt t => cmps t
  | .two _ l r => cmps l ++ cmps r
def keysT : Ts → List Str
  | .cmp _ e f => keysE e ++ keysE f
  | .nt t => keysT t
  | .two _ l r => keysT l ++ keysT r
theorem keysT_cmps : ∀ t : Ts, keysT t = (cmps t).flatMap fun c => keysE c.2.1 ++ keysE c.2.2
  | .cmp _ _ _ => by simp [keysT, cmps]
  | .nt t => keysT_cmps t
  | .two _ l r => by show keysT l ++ keysT r = (cmps l ++ cmps r).flatMap _; rw [keysT_cmps l, keysT_cmps r, List.flatMap_append]
def tsOk (I A : List Str) : Ts → Prop
  | .cmp _ e f => exOk I A e ∧ exOk I A f ∧ e.dp ≤ 3 ∧ f.dp ≤ 3
  | .nt t => tsOk I A t
  | .two _ l r => tsOk I A l ∧ tsOk I A r
theorem cmps_ok {I A : List Str} : ∀ {t : Ts}, tsOk I A t → ∀ c ∈ cmps t, exOk I A c.2.1 ∧ exOk I A c.2.2 ∧ c.2.1.dp ≤ 3 ∧ c.2.2.dp ≤ 3
  | .cmp _ _ _, h, c, hc => by rw [List.mem_singleton.mp hc]; exact h
  | .nt t, h, c, hc => cmps_ok (t := t) h c hc
  | .two _ l r, h, c, hc => (List.mem_append.mp hc).elim (cmps_ok (t := l) h.1 c) (cmps_ok (t := r) h.2 c)
theorem ksz_3 {e : Ex} (h : e.dp ≤ 3) : ksz e ≤ 81 := Nat.le_trans (ksz_le e) (Nat.pow_le_pow_right (n := 3) (by decide) (Nat.succ_le_succ h))
theorem cmpS_in (b : Bool) : cmpS b ∈ [Str.ofString "less", Str.ofString "same"] := by cases b <;> simp [cmpS]
theorem cmps_len : ∀ t : Ts, (cmps t).length ≤ 2 ^ t.dp
  | .cmp _ _ _ => Nat.le_refl _
  | .nt t => Nat.le_trans (cmps_len t) (Nat.pow_le_pow_right (by decide) (Nat.le_succ _))
  | .two _ l r => by
    have h1 := Nat.le_trans (cmps_len l) (Nat.pow_le_pow_right (n := 2) (by decide) (show l.dp ≤ max l.dp r.dp by omega))
    have h2 := Nat.le_trans (cmps_len r) (Nat.pow_le_pow_right (n := 2) (by decide) (show r.dp ≤ max l.dp r.dp by omega))
    show (cmps l ++ cmps r).length ≤ 2 ^ (max l.dp r.dp + 1)
    rw [List.length_append, Nat.pow_succ]; omega
theorem subs_loop {l : Nat} (ih : ∀ (t : Ts) (mh : List Ob) (Q : Val → List Ob → Prop), t.dp < l → t.dp ≤ 5 → Q (.d (.list ((cmps t).map cmpd))) mh → W (callP P gl l 2 [.d (tsd t)]) mh Q) (ts : List Ts) (hl : ts.length ≤ 2) (hd : ∀ t ∈ ts, t.dp < l ∧ t.dp ≤ 5) (mh : List Ob) (x0 a2 : Option Val) (Q : Fl → List Ob → Prop)
    (q : ∀ a2, Q (.nx [x0, some (.ref mh.length), a2]) (mh ++ [.lst (((ts.flatMap cmps).map cmpd).map Val.d)])) :
    WL gl (callP P gl l) (.nm 2) (.cons (.expr (.meth .extend (.slot 1) (.cons (.call 2 (.cons (.slot 2) .nil)) .nil))) .nil) [] (ts.map fun t => Val.d (tsd t)) [x0, some (.ref mh.length), a2] (mh ++ [.lst []]) Q := by
  have hsl : sizeLine = 16777216 := rfl
  refine wl_invL (fun i e m => ∃ (a2 : Option Val), e = [x0, some (.ref mh.length), a2] ∧ m = mh ++ [.lst ((((ts.take i).flatMap cmps).map cmpd).map Val.d)]) ⟨_, rfl, rfl⟩ (fun i t e m ht I => ?_) (fun e m I => ?_)
  · obtain ⟨a2, rfl, rfl⟩ := I
    obtain ⟨h1, h2⟩ := hd t (List.mem_of_getElem? ht)
    have hi : i < ts.length := (List.getElem?_eq_some_iff.mp ht).1
    have hc := Nat.le_trans (cmps_len t) (Nat.pow_le_pow_right (n := 2) (by decide) h2)
    have hb : ((ts.take i).flatMap cmps).length ≤ 32 * 2 := by
      have : ∀ xs : List Ts, (∀ t ∈ xs, t.dp ≤ 5) → (xs.flatMap cmps).length ≤ 32 * xs.length := by
        intro xs
        induction xs with
        | nil => intro _; exact Nat.le_refl _
        | cons x xs ih =>
          intro h
          have h1 := Nat.le_trans (cmps_len x) (Nat.pow_le_pow_right (n := 2) (by decide) (h x List.mem_cons_self))
          have h2 := ih fun y hy => h y (List.mem_cons_of_mem _ hy)
          rw [List.flatMap_cons, List.length_append, List.length_cons, Nat.mul_succ]
          have : 2 ^ 5 = 32 := rfl
          omega
      have h3 := this (ts.take i) fun t ht => (hd t (List.mem_of_mem_take ht)).2
      rw [List.length_take] at h3
      omega
    have e1 : (ts.take (i + 1)).flatMap cmps = (ts.take i).flatMap cmps ++ cmps t := by rw [List.take_add_one, ht, List.flatMap_append]; simp
    rw [e1]
    generalize (ts.take i).flatMap cmps = acc at hb
    walk_at "pv all"
    refine ⟨rcv_lst end_get, ?_⟩
    walk_at "pv all"
    refine ih t _ _ h1 h2 ?_
    walk_at "pv all"
    refine ext_end (ys := (cmps t).map cmpd) end_get (by rw [List.length_map, List.length_map]; have : 2 ^ 5 = 32 := rfl; omega) ?_
    rw [end_set, ← List.map_append]
    walk_at "pv all"
    exact ⟨_, rfl, rfl⟩
  · obtain ⟨a2, rfl, rfl⟩ := I
    rw [List.take_length]
    exact q a2
theorem compsin_ok : ∀ (l : Nat) (t : Ts) (mh : List Ob) (Q : Val → List Ob → Prop), t.dp < l → t.dp ≤ 5 → Q (.d (.list ((cmps t).map cmpd))) mh → W (callP P gl l 2 [.d (tsd t)]) mh Q
  | 0, _, _, _, h, _, _ => absurd h (Nat.not_lt_zero _)
  | l + 1, t, mh, Q, hd, h5, q => by
    refine w_pure (nm := f2.name) (ps := f2.ps) (N := f2.N) (body := f2.body) (env := [some (.d (tsd t)), none, none]) rfl rfl ?_
    have ih := compsin_ok l
    unfold f2
    cases t with
    | cmp b e f =>
      simp only [tsd, cmps] at q ⊢
      walk_at "pv all"
      refine ix_tup (j := 0) rfl rfl ?_
      walk_at "pv all"
      refine cd_inU (ys := [Str.ofString "less", Str.ofString "same"]) (fun _ => ?_) (fun h => absurd (cmpS_in b) h)
      walk_at "pv all"
      exact q
    | nt t =>
      simp only [tsd, cmps] at q ⊢
      have hd : t.dp + 1 < l + 1 := hd
      have h5 : t.dp + 1 ≤ 5 := h5
      walk_at "pv all"
      refine ix_tup (j := 0) rfl rfl ?_
      walk_at "pv all"
      refine cd_inU (ys := [Str.ofString "less", Str.ofString "same"]) (fun h => absurd h (by decide +kernel)) (fun _ => ?_)
      walk_at "pv all"
      refine ix_T (xs := [t]) (em := tsd) ?_
      refine subs_loop ih [t] (show 1 ≤ 2 by decide) (fun x hx => by rw [List.mem_singleton.mp hx]; exact ⟨by omega, by omega⟩) mh _ _ _ fun a2 => ?_
      refine thenS_nx ?_
      refine frz_lst rfl end_get ?_
      rw [end_set]
      walk_at "pv all"
      rw [show [t].flatMap cmps = cmps t by simp]
      exact q
    | two b l' r =>
      simp only [tsd, cmps] at q ⊢
      have hd : max l'.dp r.dp + 1 < l + 1 := hd
      have h5 : max l'.dp r.dp + 1 ≤ 5 := h5
      walk_at "pv all"
      refine ix_tup (j := 0) rfl rfl ?_
      walk_at "pv all"
      refine cd_inU (ys := [Str.ofString "less", Str.ofString "same"]) (fun h => absurd h (by cases b <;> decide +kernel)) (fun _ => ?_)
      walk_at "pv all"
      refine ix_T (xs := [l', r]) (em := tsd) ?_
      refine subs_loop ih [l', r] (show 2 ≤ 2 by decide) (fun x hx => by
        rcases List.mem_cons.mp hx with rfl | hx
        · exact ⟨by omega, by omega⟩
        · rw [List.mem_singleton.mp hx]; exact ⟨by omega, by omega⟩) mh _ _ _ fun a2 => ?_
      refine thenS_nx ?_
      refine frz_lst rfl end_get ?_
      rw [end_set]
      walk_at "pv all"
      rw [show [l', r].flatMap cmps = cmps l' ++ cmps r by simp]
      exact q
end PvK

namespace PvK
open PySem PySem.Spec PyProof.Rows L2 Pv
/-! statements -/
mutual
inductive Sm where
  | set (xs : List (Str × Ex)) | store (a : Str) (e f : Ex) | push (e : Ex) (a : Str) | pop (x a : Str) | give (es : List Ex) | pause
  | whl (t : Ts) (b : Sms) | iff (t : Ts) (l r : Sms)
inductive Sms where
  | nil | cons (s : Sm) (b : Sms)
end
abbrev sxd (p : Str × Ex) : Dt := .tuple [.str p.1, exd p.2]
mutual
def smd : Sm → Dt
  | .set xs => .tuple [.str "set", .tuple (xs.map sxd)]
  | .store a e f => .tuple [.str "store", .str a, exd e, exd f]
  | .push e a => .tuple [.str "push", exd e, .str a]
  | .pop x a => .tuple [.str "pop", .str x, .str a]
  | .give es => .tuple [.str "give", .tuple (es.map exd)]
  | .pause => .tuple [.str "pause"]
  | .whl t b => .tuple [.str "while", tsd t, .tuple (smsd b)]
  | .iff t l r => .tuple [.str "if", tsd t, .tuple (smsd l), .tuple (smsd r)]
def smsd : Sms → List Dt
  | .nil => []
  | .cons s b => smd s :: smsd b
end
def Sms.toL : Sms → List Sm
  | .nil => []
  | .cons s b => s :: b.toL
theorem smsd_map : ∀ b : Sms, smsd b = b.toL.map smd
  | .nil => rfl
  | .cons s b => by rw [Sms.toL, List.map_cons, ← smsd_map b, smsd]
mutual
/-- a statement, and those in its blocks -/
def stm : Sm → List Sm
  | .whl t b => .whl t b :: stms b
  | .iff t l r => .iff t l r :: (stms l ++ stms r)
  | s => [s]
def stms : Sms → List Sm
  | .nil => []
  | .cons s b => stm s ++ stms b
end
theorem stms_flat : ∀ b : Sms, stms b = b.toL.flatMap stm
  | .nil => rfl
  | .cons s b => by rw [Sms.toL, List.flatMap_cons, ← stms_flat b, stms]
mutual
def Sm.dp : Sm → Nat
  | .whl _ b => b.dp + 1
  | .iff _ l r => max l.dp r.dp + 1
  | _ => 0
def Sms.dp : Sms → Nat
  | .nil => 0
  | .cons s b => max s.dp b.dp
end
theorem dp_le : ∀ {b : Sms} {s : Sm}, s ∈ b.toL → s.dp ≤ b.dp
  | .cons s b, s', h => by
    rw [Sms.toL] at h
    rcases List.mem_cons.mp h with rfl | h
    · rw [Sms.dp]; exact Nat.le_max_left _ _
    · rw [Sms.dp]; exact Nat.le_trans (dp_le h) (Nat.le_max_right _ _)
def Sm.blk : Sm → List Sms
  | .whl _ b => [b]
  | .iff _ l r => [l, r]
  | _ => []
theorem stm_blk : ∀ s : Sm, stm s = s :: s.blk.flatMap stms
  | .whl t b => by simp [stm, Sm.blk]
  | .iff t l r => by simp [stm, Sm.blk]
  | .set _ => by simp [stm, Sm.blk] | .store _ _ _ => by simp [stm, Sm.blk] | .push _ _ => by simp [stm, Sm.blk] | .pop _ _ => by simp [stm, Sm.blk] | .give _ => by simp [stm, Sm.blk] | .pause => by simp [stm, Sm.blk]
theorem blk_dp {s : Sm} : ∀ b ∈ s.blk, b.dp < s.dp := by
  intro b hb
  cases s with
  | whl t b' => rw [List.mem_singleton.mp hb, Sm.dp]; omega
  | iff t l r =>
    rw [Sm.dp]
    rcases List.mem_cons.mp hb with rfl | hb
    · omega
    · rw [List.mem_singleton.mp hb]; omega
  | _ => cases hb
theorem flat_mem_len {α β : Type} {f : α → List β} : ∀ {xs : List α} {x : α}, x ∈ xs → (f x).length ≤ (xs.flatMap f).length
  | y :: ys, x, h => by
    rw [List.flatMap_cons, List.length_append]
    rcases List.mem_cons.mp h with rfl | h
    · omega
    · have := flat_mem_len (f := f) h; omega
theorem flat_take_len {α β : Type} {f : α → List β} (xs : List α) (i : Nat) : ((xs.take i).flatMap f).length ≤ (xs.flatMap f).length := by
  have h := List.take_append_drop i xs
  have h2 : (xs.flatMap f) = (xs.take i).flatMap f ++ (xs.drop i).flatMap f := by rw [← List.flatMap_append, h]
  rw [h2, List.length_append]; omega
theorem flat_snoc {α β : Type} {f : α → List β} {xs : List α} {i : Nat} {x : α} (h : xs[i]? = some x) : (xs.take (i + 1)).flatMap f = (xs.take i).flatMap f ++ f x := by
  rw [List.take_add_one, h, List.flatMap_append]; simp
theorem blks_loop {l : Nat} (ih : ∀ (b : Sms) (mh : List Ob) (Q : Val → List Ob → Prop), b.dp < l → (stms b).length ≤ 10000 → Q (.d (.list ((stms b).map smd))) mh → W (callP P gl l 0 [.d (.tuple (smsd b))]) mh Q) (bs : List Sms) (hd : ∀ b ∈ bs, b.dp < l) (acc : List Sm) (hs : acc.length + (bs.flatMap stms).length ≤ 10000) (mh : List Ob) (x0 x2 a3 : Option Val) (Q : Fl → List Ob → Prop)
    (q : ∀ a3, Q (.nx [x0, some (.ref mh.length), x2, a3]) (mh ++ [.lst (((acc ++ bs.flatMap stms).map smd).map Val.d)])) :
    WL gl (callP P gl l) (.nm 3) (.cons (.expr (.meth .extend (.slot 1) (.cons (.call 0 (.cons (.slot 3) .nil)) .nil))) .nil) [] (bs.map fun b => Val.d (.tuple (smsd b))) [x0, some (.ref mh.length), x2, a3] (mh ++ [.lst ((acc.map smd).map Val.d)]) Q := by
  have hsl : sizeLine = 16777216 := rfl
  refine wl_invL (fun i e m => ∃ (a3 : Option Val), e = [x0, some (.ref mh.length), x2, a3] ∧ m = mh ++ [.lst (((acc ++ (bs.take i).flatMap stms).map smd).map Val.d)]) ⟨_, rfl, by simp⟩ (fun i b e m hb I => ?_) (fun e m I => ?_)
  · obtain ⟨a3, rfl, rfl⟩ := I
    have h1 := hd b (List.mem_of_getElem? hb)
    have h2 := flat_mem_len (f := stms) (List.mem_of_getElem? hb)
    have h3 : ((bs.take (i + 1)).flatMap stms).length ≤ (bs.flatMap stms).length := flat_take_len bs (i + 1)
    rw [flat_snoc hb] at h3 ⊢
    rw [List.length_append] at h3
    generalize (bs.take i).flatMap stms = acc2 at h3
    walk_at "pv all"
    refine ⟨rcv_lst end_get, ?_⟩
    walk_at "pv all"
    refine ih b _ _ h1 (by omega) ?_
    walk_at "pv all"
    refine ext_end (ys := (stms b).map smd) end_get (by rw [List.length_map, List.length_map, List.length_append]; omega) ?_
    rw [end_set, ← List.map_append, List.append_assoc]
    walk_at "pv all"
    exact ⟨_, rfl, rfl⟩
  · obtain ⟨a3, rfl, rfl⟩ := I
    rw [List.take_length]
    exact q a3
theorem stin_ok : ∀ (l : Nat) (b : Sms) (mh : List Ob) (Q : Val → List Ob → Prop), b.dp < l → (stms b).length ≤ 10000 → Q (.d (.list ((stms b).map smd))) mh → W (callP P gl l 0 [.d (.tuple (smsd b))]) mh Q
  | 0, _, _, _, h, _, _ => absurd h (Nat.not_lt_zero _)
  | l + 1, b, mh, Q, hd, hs, q => by
    refine w_pure (nm := f0.name) (ps := f0.ps) (N := f0.N) (body := f0.body) (env := [some (.d (.tuple (smsd b))), none, none, none]) rfl rfl ?_
    have ih := stin_ok l
    have hsl : sizeLine = 16777216 := rfl
    have hbl := fun bs hd acc hs mh x0 x2 a3 Q q => blks_loop ih bs hd acc hs mh x0 x2 a3 Q q
    unfold f0
    rw [stms_flat] at hs q
    walk_at "pv all"
    rw [smsd_map]
    refine ix_T ?_
    refine wl_invL (fun i e m => ∃ (a2 a3 : Option Val), e = [some (.d (.tuple (b.toL.map smd))), some (.ref mh.length), a2, a3] ∧ m = mh ++ [.lst ((((b.toL.take i).flatMap stm).map smd).map Val.d)]) ⟨_, _, rfl, rfl⟩ (fun i s e m hb I => ?_) (fun e m I => ?_)
    · obtain ⟨a2, a3, rfl, rfl⟩ := I
      have hsm := List.mem_of_getElem? hb
      have hsd := dp_le hsm
      have h3 : ((b.toL.take (i + 1)).flatMap stm).length ≤ (b.toL.flatMap stm).length := flat_take_len b.toL (i + 1)
      have fin : ∀ (R : Fl → List Ob → Prop), (∀ e2 m2, (∃ (a2 a3 : Option Val), e2 = [some (.d (.tuple (b.toL.map smd))), some (.ref mh.length), a2, a3] ∧ m2 = mh ++ [.lst ((((b.toL.take (i + 1)).flatMap stm).map smd).map Val.d)]) → R (.nx e2) m2) → True := fun _ _ => trivial
      rw [flat_snoc hb] at h3 ⊢
      rw [List.length_append] at h3
      generalize (b.toL.take i).flatMap stm = acc at h3 fin
      walk_at "pv all"
      refine ⟨rcv_lst end_get, ?_⟩
      walk_at "pv all"
      refine app_end end_get (by rw [List.length_map, List.length_map]; omega) ?_
      rw [end_set, show (acc.map smd).map Val.d ++ [Val.d (smd s)] = ((acc ++ [s]).map smd).map Val.d by simp]
      have hlen := congrArg List.length (stm_blk s)
      rw [List.length_cons] at hlen
      have hb2 := blk_dp (s := s)
      rw [stm_blk]
      have neg : ∀ (x : Dt) (rest : List Dt), smd s = .tuple (x :: rest) → s.blk = [] → x = .str "set" ∨ True := fun _ _ _ _ => .inr trivial
      cases s with
      | whl t b' =>
        simp only [smd]
        walk_at "pv all"
        refine ix_tup (j := 0) rfl rfl ?_
        walk_at "pv all"
        refine cd_inU (ys := [Str.ofString "if", Str.ofString "while"]) (fun _ => ?_) (fun h => absurd (show Str.ofString "while" ∈ [Str.ofString "if", Str.ofString "while"] by simp) h)
        walk_at "pv all"
        refine ix_T (xs := [b']) (em := fun b => .tuple (smsd b)) ?_
        refine hbl [b'] (fun x hx => by have := hb2 x hx; omega) (acc ++ [Sm.whl t b']) (by rw [List.length_append]; show _ + 1 + _ ≤ _; have e : (Sm.whl t b').blk = [b'] := rfl; rw [e] at hlen; omega) mh _ _ _ _ fun a3 => ?_
        refine thenS_nx (ws_nil ?_)
        exact thenS_nx (ws_nil ⟨_, a3, rfl, by rw [List.append_assoc]; rfl⟩)
      | iff t b1 b2 =>
        simp only [smd]
        walk_at "pv all"
        refine ix_tup (j := 0) rfl rfl ?_
        walk_at "pv all"
        refine cd_inU (ys := [Str.ofString "if", Str.ofString "while"]) (fun _ => ?_) (fun h => absurd (show Str.ofString "if" ∈ [Str.ofString "if", Str.ofString "while"] by simp) h)
        walk_at "pv all"
        refine ix_T (xs := [b1, b2]) (em := fun b => .tuple (smsd b)) ?_
        refine hbl [b1, b2] (fun x hx => by have := hb2 x hx; omega) (acc ++ [Sm.iff t b1 b2]) (by rw [List.length_append]; show _ + 1 + _ ≤ _; have e : (Sm.iff t b1 b2).blk = [b1, b2] := rfl; rw [e] at hlen; omega) mh _ _ _ _ fun a3 => ?_
        refine thenS_nx (ws_nil ?_)
        exact thenS_nx (ws_nil ⟨_, a3, rfl, by rw [List.append_assoc]; rfl⟩)
      | set xs =>
        simp only [smd]
        walk_at "pv all"
        refine ix_tup (j := 0) rfl rfl ?_
        walk_at "pv all"
        refine cd_inU (ys := [Str.ofString "if", Str.ofString "while"]) (fun h => absurd h (by decide +kernel)) (fun _ => ?_)
        walk_at "pv all"
        exact ⟨_, _, rfl, rfl⟩
      | store a e f =>
        simp only [smd]
        walk_at "pv all"
        refine ix_tup (j := 0) rfl rfl ?_
        walk_at "pv all"
        refine cd_inU (ys := [Str.ofString "if", Str.ofString "while"]) (fun h => absurd h (by decide +kernel)) (fun _ => ?_)
        walk_at "pv all"
        exact ⟨_, _, rfl, rfl⟩
      | push e a =>
        simp only [smd]
        walk_at "pv all"
        refine ix_tup (j := 0) rfl rfl ?_
        walk_at "pv all"
        refine cd_inU (ys := [Str.ofString "if", Str.ofString "while"]) (fun h => absurd h (by decide +kernel)) (fun _ => ?_)
        walk_at "pv all"
        exact ⟨_, _, rfl, rfl⟩
      | pop x a =>
        simp only [smd]
        walk_at "pv all"
        refine ix_tup (j := 0) rfl rfl ?_
        walk_at "pv all"
        refine cd_inU (ys := [Str.ofString "if", Str.ofString "while"]) (fun h => absurd h (by decide +kernel)) (fun _ => ?_)
        walk_at "pv all"
        exact ⟨_, _, rfl, rfl⟩
      | give es =>
        simp only [smd]
        walk_at "pv all"
        refine ix_tup (j := 0) rfl rfl ?_
        walk_at "pv all"
        refine cd_inU (ys := [Str.ofString "if", Str.ofString "while"]) (fun h => absurd h (by decide +kernel)) (fun _ => ?_)
        walk_at "pv all"
        exact ⟨_, _, rfl, rfl⟩
      | pause =>
        simp only [smd]
        walk_at "pv all"
        refine ix_tup (j := 0) rfl rfl ?_
        walk_at "pv all"
        refine cd_inU (ys := [Str.ofString "if", Str.ofString "while"]) (fun h => absurd h (by decide +kernel)) (fun _ => ?_)
        walk_at "pv all"
        exact ⟨_, _, rfl, rfl⟩
    · obtain ⟨a2, a3, rfl, rfl⟩ := I
      rw [List.take_length]
      refine thenS_nx ?_
      refine frz_lst rfl end_get ?_
      rw [end_set]
      walk_at "pv all"
      exact q
end PvK

namespace PvK
open PySem PySem.Spec PyProof.Rows L2 Pv
/-! the law's statements, keys of tests, flows -/
theorem kt_len {I A : List Str} : ∀ {t : Ts}, tsOk I A t → (keysT t).length ≤ 162 * 2 ^ t.dp
  | .cmp _ e f, h => by
    have h1 := ksz_3 h.2.2.1
    have h2 := ksz_3 h.2.2.2
    show (keysE e ++ keysE f).length ≤ 162 * 1
    rw [List.length_append, keys_len, keys_len]; omega
  | .nt t, h => Nat.le_trans (kt_len (t := t) h) (Nat.mul_le_mul_left _ (Nat.pow_le_pow_right (by decide) (Nat.le_succ _)))
  | .two _ l r, h => by
    have h1 := Nat.le_trans (kt_len (t := l) h.1) (Nat.mul_le_mul_left 162 (Nat.pow_le_pow_right (n := 2) (by decide) (show l.dp ≤ max l.dp r.dp by omega)))
    have h2 := Nat.le_trans (kt_len (t := r) h.2) (Nat.mul_le_mul_left 162 (Nat.pow_le_pow_right (n := 2) (by decide) (show r.dp ≤ max l.dp r.dp by omega)))
    show (keysT l ++ keysT r).length ≤ 162 * 2 ^ (max l.dp r.dp + 1)
    rw [List.length_append, Nat.pow_succ]; omega
section
variable {I A : List Str} (no : NmOk I A)
include no
theorem ltestkeys_ok : ∀ (t : Ts) (l : Nat) (mh : List Ob) (Q : Val → List Ob → Prop), tsOk I A t → t.dp + 4 < l → t.dp ≤ 5 → Q (.d (strD (keysT t))) mh → W (callP P gl l 32 [.d (tsd t)]) mh Q
  | .cmp b e f, l, mh, Q, ok, hd, h5, q => by
    have hsl : sizeLine = 16777216 := rfl
    have hd : 0 + 4 < l := hd
    have k1 := ksz_3 ok.2.2.1
    have k2 := ksz_3 ok.2.2.2
    have d1 := ok.2.2.1
    have d2 := ok.2.2.2
    obtain ⟨l, rfl⟩ : ∃ l2, l = l2 + 1 := ⟨l - 1, by omega⟩
    refine w_pure (nm := f32.name) (ps := f32.ps) (N := f32.N) (body := f32.body) (env := [some (.d (tsd (.cmp b e f)))]) rfl rfl ?_
    unfold f32
    simp only [tsd]
    simp only [keysT] at q
    have fin : ∀ (R : Fl → List Ob → Prop), R (.rt (.d (strD (keysE e ++ keysE f)))) mh → WS gl (callP P gl l) (.cons (.ret (.bin .Add false (.call 31 (.cons (.ix (.slot 0) (.k (.int 1))) .nil)) (.call 31 (.cons (.ix (.slot 0) (.k (.int 2))) .nil)))) .nil) [some (.d (.tuple [.str (cmpS b), exd e, exd f]))] mh R := by
      intro R hR
      walk_at "pv all"
      refine ix_tup (j := 1) rfl rfl ?_
      walk_at "pv all"
      refine lkeys_ok no e l mh _ ok.1 (by omega) (by omega) ?_
      walk_at "pv all"
      refine ix_tup (j := 2) rfl rfl ?_
      walk_at "pv all"
      refine lkeys_ok no f l mh _ ok.2.1 (by omega) (by omega) ?_
      refine wr_addL (by rw [List.length_map, List.length_map, keys_len, keys_len]; omega) ?_
      walk_at "pv all"
      unfold strD at hR
      rw [List.map_append] at hR
      exact hR
    walk_at "pv all"
    refine ix_tup (j := 0) rfl rfl ?_
    walk_at "pv all"
    cases b with
    | true =>
      refine cs_eq (fun _ => ?_) (fun h => absurd rfl h)
      refine pick_c rfl ?_
      refine pick_t ?_
      exact fin _ ⟨_, [], .inl rfl, (List.append_nil _).symm, q⟩
    | false =>
      refine cs_eq (fun h => absurd h (by decide +kernel)) (fun _ => ?_)
      walk_at "pv all"
      refine ix_tup (j := 0) rfl rfl ?_
      walk_at "pv all"
      refine cs_eq (fun _ => ?_) (fun h => absurd rfl h)
      refine pick_t ?_
      exact fin _ ⟨_, [], .inl rfl, (List.append_nil _).symm, q⟩
  | .nt t, l, mh, Q, ok, hd, h5, q => by
    have hd : t.dp + 1 + 4 < l := hd
    have h5 : t.dp + 1 ≤ 5 := h5
    obtain ⟨l, rfl⟩ : ∃ l2, l = l2 + 1 := ⟨l - 1, by omega⟩
    refine w_pure (nm := f32.name) (ps := f32.ps) (N := f32.N) (body := f32.body) (env := [some (.d (tsd (.nt t)))]) rfl rfl ?_
    unfold f32
    simp only [tsd]
    simp only [keysT] at q
    walk_at "pv all"
    refine ix_tup (j := 0) rfl rfl ?_
    walk_at "pv all"
    refine cs_eq (fun h => absurd h (by decide +kernel)) (fun _ => ?_)
    walk_at "pv all"
    refine ix_tup (j := 0) rfl rfl ?_
    walk_at "pv all"
    refine cs_eq (fun h => absurd h (by decide +kernel)) (fun _ => ?_)
    walk_at "pv all"
    refine ix_tup (j := 0) rfl rfl ?_
    walk_at "pv all"
    refine cs_eq (fun _ => ?_) (fun h => absurd rfl h)
    walk_at "pv all"
    refine ix_tup (j := 1) rfl rfl ?_
    walk_at "pv all"
    refine ltestkeys_ok t l mh _ ok (by omega) (by omega) ?_
    walk_at "pv all"
    exact q
  | .two b t r, l, mh, Q, ok, hd, h5, q => by
    have hsl : sizeLine = 16777216 := rfl
    have hd : max t.dp r.dp + 1 + 4 < l := hd
    have h5 : max t.dp r.dp + 1 ≤ 5 := h5
    have k1 := Nat.le_trans (kt_len ok.1) (Nat.mul_le_mul_left 162 (Nat.pow_le_pow_right (n := 2) (by decide) (show t.dp ≤ 5 by omega)))
    have k2 := Nat.le_trans (kt_len ok.2) (Nat.mul_le_mul_left 162 (Nat.pow_le_pow_right (n := 2) (by decide) (show r.dp ≤ 5 by omega)))
    have e5 : 2 ^ 5 = 32 := rfl
    obtain ⟨l, rfl⟩ : ∃ l2, l = l2 + 1 := ⟨l - 1, by omega⟩
    refine w_pure (nm := f32.name) (ps := f32.ps) (N := f32.N) (body := f32.body) (env := [some (.d (tsd (.two b t r)))]) rfl rfl ?_
    unfold f32
    simp only [tsd]
    simp only [keysT] at q
    have n1 : ¬ twoS b = Str.ofString "less" := by cases b <;> decide +kernel
    have n2 : ¬ twoS b = Str.ofString "same" := by cases b <;> decide +kernel
    have n3 : ¬ twoS b = Str.ofString "not" := by cases b <;> decide +kernel
    walk_at "pv all"
    refine ix_tup (j := 0) rfl rfl ?_
    walk_at "pv all"
    refine cs_eq (fun h => absurd h n1) (fun _ => ?_)
    walk_at "pv all"
    refine ix_tup (j := 0) rfl rfl ?_
    walk_at "pv all"
    refine cs_eq (fun h => absurd h n2) (fun _ => ?_)
    walk_at "pv all"
    refine ix_tup (j := 0) rfl rfl ?_
    walk_at "pv all"
    refine cs_eq (fun h => absurd h n3) (fun _ => ?_)
    walk_at "pv all"
    refine ix_tup (j := 1) rfl rfl ?_
    walk_at "pv all"
    refine ltestkeys_ok t l mh _ ok.1 (by omega) (by omega) ?_
    walk_at "pv all"
    refine ix_tup (j := 2) rfl rfl ?_
    walk_at "pv all"
    refine ltestkeys_ok r l mh _ ok.2 (by omega) (by omega) ?_
    refine wr_addL (by rw [List.length_map, List.length_map]; omega) ?_
    walk_at "pv all"
    unfold strD at q
    rw [List.map_append] at q
    exact q
end
theorem lstm_ok : ∀ (l : Nat) (b : Sms) (mh : List Ob) (Q : Val → List Ob → Prop), b.dp < l → (stms b).length ≤ 10000 → Q (.d (.list ((stms b).map smd))) mh → W (callP P gl l 23 [.d (.tuple (smsd b))]) mh Q
  | 0, _, _, _, h, _, _ => absurd h (Nat.not_lt_zero _)
  | l + 1, b, mh, Q, hd, hs, q => by
    refine w_pure (nm := f23.name) (ps := f23.ps) (N := f23.N) (body := f23.body) (env := [some (.d (.tuple (smsd b))), none, none]) rfl rfl ?_
    have ih := lstm_ok l
    have hsl : sizeLine = 16777216 := rfl
    unfold f23
    rw [stms_flat] at hs q
    walk_at "pv all"
    rw [smsd_map]
    refine ix_T ?_
    refine wl_invL (fun i e m => ∃ (os : List Ob) (n : Nat) (a2 : Option Val), e = [some (.d (.tuple (b.toL.map smd))), some (.ref (mh.length + n)), a2] ∧ m = mh ++ os ∧ os[n]? = some (.lst ((((b.toL.take i).flatMap stm).map smd).map Val.d))) ⟨[.lst []], 0, _, rfl, rfl, rfl⟩ (fun i s e m hb I => ?_) (fun e m I => ?_)
    · obtain ⟨os, n, a2, rfl, rfl, ho⟩ := I
      have hsm := List.mem_of_getElem? hb
      have hsd := dp_le hsm
      have h3 : ((b.toL.take (i + 1)).flatMap stm).length ≤ (b.toL.flatMap stm).length := flat_take_len b.toL (i + 1)
      rw [flat_snoc hb] at h3 ⊢
      rw [List.length_append] at h3
      generalize (b.toL.take i).flatMap stm = acc at h3 ho
      have hb2 := blk_dp (s := s)
      have hlen := congrArg List.length (stm_blk s)
      rw [List.length_cons] at hlen
      walk_at "pv all"
      refine ⟨rcv_lst (po_get ho), ?_⟩
      walk_at "pv all"
      refine app_end (po_get ho) (by rw [List.length_map, List.length_map]; omega) ?_
      rw [po_set, show (acc.map smd).map Val.d ++ [Val.d (smd s)] = ((acc ++ [s]).map smd).map Val.d by simp]
      have ho2 : (os.set n (.lst (((acc ++ [s]).map smd).map Val.d)))[n]? = some (.lst (((acc ++ [s]).map smd).map Val.d)) := by
        rw [List.getElem?_set_self (List.getElem?_eq_some_iff.mp ho).1]
      generalize os.set n (.lst (((acc ++ [s]).map smd).map Val.d)) = os2 at ho2
      rw [stm_blk]
      cases s with
      | whl t b' =>
        have hd1 := hb2 b' (List.mem_singleton.mpr rfl)
        have e : (Sm.whl t b').blk = [b'] := rfl
        rw [e] at hlen ⊢
        rw [List.flatMap_cons, List.flatMap_nil, List.append_nil] at hlen ⊢
        simp only [smd]
        walk_at "pv all"
        refine ix_tup (j := 0) rfl rfl ?_
        walk_at "pv all"
        refine cs_eq (fun _ => ?_) (fun h => absurd rfl h)
        walk_at "pv all"
        refine ix_tup (j := 2) rfl rfl ?_
        walk_at "pv all"
        refine ih b' _ _ (by omega) (by omega) ?_
        refine wr_catC (xs := (acc ++ [Sm.whl t b']).map smd) (ys := (stms b').map smd) (po_get ho2) (by rw [List.length_map, List.length_map, List.length_append]; show _ + 1 + _ ≤ _; omega) ?_
        rw [List.append_assoc, List.length_append]
        walk_at "pv all"
        exact ⟨_, os2.length, _, rfl, rfl, by rw [List.getElem?_append_right (Nat.le_refl _), Nat.sub_self, ← List.map_append, List.append_assoc]; rfl⟩
      | iff t b1 b2 =>
        have hd1 := hb2 b1 List.mem_cons_self
        have hd2 := hb2 b2 (List.mem_cons_of_mem _ (List.mem_singleton.mpr rfl))
        have e : (Sm.iff t b1 b2).blk = [b1, b2] := rfl
        rw [e] at hlen ⊢
        rw [List.flatMap_cons, List.flatMap_cons, List.flatMap_nil, List.append_nil] at hlen ⊢
        rw [List.length_append] at hlen
        simp only [smd]
        walk_at "pv all"
        refine ix_tup (j := 0) rfl rfl ?_
        walk_at "pv all"
        refine cs_eq (fun h => absurd h (by decide +kernel)) (fun _ => ?_)
        walk_at "pv all"
        refine ix_tup (j := 0) rfl rfl ?_
        walk_at "pv all"
        refine cs_eq (fun _ => ?_) (fun h => absurd rfl h)
        walk_at "pv all"
        refine ix_tup (j := 2) rfl rfl ?_
        walk_at "pv all"
        refine ih b1 _ _ (by omega) (by omega) ?_
        refine wr_addR (xs := (acc ++ [Sm.iff t b1 b2]).map smd) (ys := (stms b1).map smd) (po_get ho2) (by rw [List.length_map, List.length_map, List.length_append]; show _ + 1 + _ ≤ _; omega) ?_
        walk_at "pv all"
        refine ix_tup (j := 3) rfl rfl ?_
        walk_at "pv all"
        refine ih b2 _ _ (by omega) (by omega) ?_
        refine wr_addLc (by rw [List.length_append, List.length_map, List.length_map, List.length_map, List.length_append]; show _ + 1 + _ + _ ≤ _; omega) ?_
        rw [List.append_assoc, List.length_append]
        walk_at "pv all"
        exact ⟨_, os2.length, _, rfl, rfl, by rw [List.getElem?_append_right (Nat.le_refl _), Nat.sub_self, ← List.map_append, ← List.map_append, List.append_assoc, List.append_assoc]; rfl⟩
      | set xs =>
        simp only [smd]
        walk_at "pv all"
        refine ix_tup (j := 0) rfl rfl ?_
        walk_at "pv all"
        refine cs_eq (fun h => absurd h (by decide +kernel)) (fun _ => ?_)
        walk_at "pv all"
        refine ix_tup (j := 0) rfl rfl ?_
        walk_at "pv all"
        refine cs_eq (fun h => absurd h (by decide +kernel)) (fun _ => ?_)
        walk_at "pv all"
        exact ⟨_, _, _, rfl, rfl, ho2⟩
      | store a e f =>
        simp only [smd]
        walk_at "pv all"
        refine ix_tup (j := 0) rfl rfl ?_
        walk_at "pv all"
        refine cs_eq (fun h => absurd h (by decide +kernel)) (fun _ => ?_)
        walk_at "pv all"
        refine ix_tup (j := 0) rfl rfl ?_
        walk_at "pv all"
        refine cs_eq (fun h => absurd h (by decide +kernel)) (fun _ => ?_)
        walk_at "pv all"
        exact ⟨_, _, _, rfl, rfl, ho2⟩
      | push e a =>
        simp only [smd]
        walk_at "pv all"
        refine ix_tup (j := 0) rfl rfl ?_
        walk_at "pv all"
        refine cs_eq (fun h => absurd h (by decide +kernel)) (fun _ => ?_)
        walk_at "pv all"
        refine ix_tup (j := 0) rfl rfl ?_
        walk_at "pv all"
        refine cs_eq (fun h => absurd h (by decide +kernel)) (fun _ => ?_)
        walk_at "pv all"
        exact ⟨_, _, _, rfl, rfl, ho2⟩
      | pop x a =>
        simp only [smd]
        walk_at "pv all"
        refine ix_tup (j := 0) rfl rfl ?_
        walk_at "pv all"
        refine cs_eq (fun h => absurd h (by decide +kernel)) (fun _ => ?_)
        walk_at "pv all"
        refine ix_tup (j := 0) rfl rfl ?_
        walk_at "pv all"
        refine cs_eq (fun h => absurd h (by decide +kernel)) (fun _ => ?_)
        walk_at "pv all"
        exact ⟨_, _, _, rfl, rfl, ho2⟩
      | give es =>
        simp only [smd]
        walk_at "pv all"
        refine ix_tup (j := 0) rfl rfl ?_
        walk_at "pv all"
        refine cs_eq (fun h => absurd h (by decide +kernel)) (fun _ => ?_)
        walk_at "pv all"
        refine ix_tup (j := 0) rfl rfl ?_
        walk_at "pv all"
        refine cs_eq (fun h => absurd h (by decide +kernel)) (fun _ => ?_)
        walk_at "pv all"
        exact ⟨_, _, _, rfl, rfl, ho2⟩
      | pause =>
        simp only [smd]
        walk_at "pv all"
        refine ix_tup (j := 0) rfl rfl ?_
        walk_at "pv all"
        refine cs_eq (fun h => absurd h (by decide +kernel)) (fun _ => ?_)
        walk_at "pv all"
        refine ix_tup (j := 0) rfl rfl ?_
        walk_at "pv all"
        refine cs_eq (fun h => absurd h (by decide +kernel)) (fun _ => ?_)
        walk_at "pv all"
        exact ⟨_, _, _, rfl, rfl, ho2⟩
    · obtain ⟨os, n, a2, rfl, rfl, ho⟩ := I
      rw [List.take_length] at ho
      refine thenS_nx ?_
      refine frz_lst rfl (po_get ho) ?_
      rw [po_set]
      walk_at "pv all"
      exact q
end PvK

namespace PvK
open PySem PySem.Spec PyProof.Rows L2 Pv
/-! flows -/
abbrev flw (f : Flw) : Dt := .tuple [.str f.1, strD f.2]
abbrev bang : Str := Str.ofString "!"
def flowsL (R : List Str) : Sm → List Flw
  | .set xs => xs.map fun p => (p.1, keysE p.2)
  | .store a e f => [(bk a, keysE e ++ keysE f ++ [hk a])]
  | .push e a => [(bk a, keysE e ++ [hk a])]
  | .pop x a => [(x, [hk a, bk a])]
  | .give es => (R.zip es).map fun p => (gk p.1, keysE p.2)
  | .pause => []
  | .whl t _ => [(bang, keysT t)]
  | .iff t _ _ => [(bang, keysT t)]
def smOk (I A R : List Str) : Sm → Prop
  | .set xs => (∀ p ∈ xs, p.1 ∈ I ∧ exOk I A p.2 ∧ p.2.dp ≤ 3) ∧ xs.length ≤ 2
  | .store a e f => a ∈ A ∧ (exOk I A e ∧ e.dp ≤ 3) ∧ exOk I A f ∧ f.dp ≤ 3
  | .push e a => a ∈ A ∧ exOk I A e ∧ e.dp ≤ 3
  | .pop x a => x ∈ I ∧ a ∈ A
  | .give es => es.length = R.length ∧ ∀ e ∈ es, exOk I A e ∧ e.dp ≤ 3
  | .pause => True
  | .whl t _ => tsOk I A t ∧ t.dp ≤ 5
  | .iff t _ _ => tsOk I A t ∧ t.dp ≤ 5
/-- a drawn procedure -/
structure Pc where
  nm : Str
  ps : List (Bool × Str)
  R : List Str
  lc : List (Bool × Str)
  b : Sms
def kindS (b : Bool) : Str := if b then Str.ofString "array" else Str.ofString "int"
abbrev pard (p : Bool × Str) : Dt := .tuple [.str (kindS p.1), .str p.2]
abbrev pcd (p : Pc) : Dt := .tuple [.str p.nm, .tuple (p.ps.map pard), strT p.R, .tuple (p.lc.map pard), .tuple [], .tuple [], .tuple [], .tuple [], .tuple (smsd p.b)]
section
variable {I A : List Str} (no : NmOk I A)
include no
theorem lflows_ok (l : Nat) (hl : 10 < l) (mh : List Ob) (p : Pc) (hR : ∀ r ∈ p.R, SM r) (hRl : p.R.length ≤ 2) (s : Sm) (ok : smOk I A p.R s) (Q : Val → List Ob → Prop) (q : Q (.d (.list ((flowsL p.R s).map flw))) mh) : W (callP P gl l 33 [.d (pcd p), .d (smd s)]) mh Q := by
  obtain ⟨l, rfl⟩ : ∃ l2, l = l2 + 1 := ⟨l - 1, by omega⟩
  refine w_pure (nm := f33.name) (ps := f33.ps) (N := f33.N) (body := f33.body) (env := [some (.d (pcd p)), some (.d (smd s)), none, none, none]) rfl rfl ?_
  have hsl : sizeLine = 16777216 := rfl
  unfold f33
  cases s with
  | set xs =>
    simp only [smd, flowsL] at q ⊢
    walk_at "pv all"
    refine ix_tup (j := 0) rfl rfl ?_
    walk_at "pv all"
    refine cs_eq (fun _ => ?_) (fun h => absurd rfl h)
    walk_at "pv all"
    refine ix_tup (j := 1) rfl rfl ?_
    refine ix_T ?_
    refine wc_map (r := fun p : Str × Ex => Val.d (flw (p.1, keysE p.2))) gnil (fun x hx => ?_) ?_
    · obtain ⟨h1, h2, h3⟩ := ok.1 x hx
      have hk := ksz_3 h3
      walk_at "pv all"
      refine lkeys_ok no x.2 l mh _ h2 (by omega) (by omega) ?_
      walk_at "pv all"
      exact ⟨rfl, rfl⟩
    refine wr_nl (ds := (xs.map fun p => (p.1, keysE p.2)).map flw) (by rw [List.map_map, List.map_map]; rfl) ?_
    walk_at "pv all"
    exact q
  | store a e f =>
    simp only [smd, flowsL] at q ⊢
    obtain ⟨h1, ⟨h2, h3⟩, h4, h5⟩ := ok
    have k1 := ksz_3 h3
    have k2 := ksz_3 h5
    walk_at "pv all"
    refine ix_tup (j := 0) rfl rfl ?_
    walk_at "pv all"
    refine cs_eq (fun h => absurd h (by decide +kernel)) (fun _ => ?_)
    walk_at "pv all"
    refine ix_tup (j := 0) rfl rfl ?_
    walk_at "pv all"
    refine cs_eq (fun _ => ?_) (fun h => absurd rfl h)
    walk_at "pv all"
    refine ix_tup (j := 1) rfl rfl ?_
    walk_at "pv all"
    refine wr_addS (bk_sz (no.a _ h1)) ?_
    walk_at "pv all"
    refine ix_tup (j := 2) rfl rfl ?_
    walk_at "pv all"
    refine lkeys_ok no e l mh _ h2 (by omega) (by omega) ?_
    walk_at "pv all"
    refine ix_tup (j := 3) rfl rfl ?_
    walk_at "pv all"
    refine lkeys_ok no f l mh _ h4 (by omega) (by omega) ?_
    refine wr_addL (by rw [List.length_map, List.length_map, keys_len, keys_len]; omega) ?_
    walk_at "pv all"
    refine ix_tup (j := 1) rfl rfl ?_
    refine wr_addS (hk_sz (no.a _ h1)) ?_
    walk_at "pv all"
    refine wr_addL (ys := [.str (hk a)]) (by rw [List.length_append, List.length_map, List.length_map, keys_len, keys_len]; show _ + 1 ≤ _; omega) ?_
    walk_at "pv all"
    unfold flw strD at q
    rw [List.map_cons, List.map_nil, List.map_append, List.map_append] at q
    exact q
  | push e a =>
    simp only [smd, flowsL] at q ⊢
    obtain ⟨h1, h2, h3⟩ := ok
    have k1 := ksz_3 h3
    walk_at "pv all"
    refine ix_tup (j := 0) rfl rfl ?_
    walk_at "pv all"
    refine cs_eq (fun h => absurd h (by decide +kernel)) (fun _ => ?_)
    walk_at "pv all"
    refine ix_tup (j := 0) rfl rfl ?_
    walk_at "pv all"
    refine cs_eq (fun h => absurd h (by decide +kernel)) (fun _ => ?_)
    walk_at "pv all"
    refine ix_tup (j := 0) rfl rfl ?_
    walk_at "pv all"
    refine cs_eq (fun _ => ?_) (fun h => absurd rfl h)
    walk_at "pv all"
    refine ix_tup (j := 2) rfl rfl ?_
    walk_at "pv all"
    refine wr_addS (bk_sz (no.a _ h1)) ?_
    walk_at "pv all"
    refine ix_tup (j := 1) rfl rfl ?_
    walk_at "pv all"
    refine lkeys_ok no e l mh _ h2 (by omega) (by omega) ?_
    walk_at "pv all"
    refine ix_tup (j := 2) rfl rfl ?_
    refine wr_addS (hk_sz (no.a _ h1)) ?_
    walk_at "pv all"
    refine wr_addL (ys := [.str (hk a)]) (by rw [List.length_map, keys_len]; show _ + 1 ≤ _; omega) ?_
    walk_at "pv all"
    unfold flw strD at q
    rw [List.map_cons, List.map_nil, List.map_append] at q
    exact q
  | pop x a =>
    simp only [smd, flowsL] at q ⊢
    obtain ⟨h1, h2⟩ := ok
    walk_at "pv all"
    refine ix_tup (j := 0) rfl rfl ?_
    walk_at "pv all"
    refine cs_eq (fun h => absurd h (by decide +kernel)) (fun _ => ?_)
    walk_at "pv all"
    refine ix_tup (j := 0) rfl rfl ?_
    walk_at "pv all"
    refine cs_eq (fun h => absurd h (by decide +kernel)) (fun _ => ?_)
    walk_at "pv all"
    refine ix_tup (j := 0) rfl rfl ?_
    walk_at "pv all"
    refine cs_eq (fun h => absurd h (by decide +kernel)) (fun _ => ?_)
    walk_at "pv all"
    refine ix_tup (j := 0) rfl rfl ?_
    walk_at "pv all"
    refine cs_eq (fun _ => ?_) (fun h => absurd rfl h)
    walk_at "pv all"
    refine ix_tup (j := 1) rfl rfl ?_
    walk_at "pv all"
    refine ix_tup (j := 2) rfl rfl ?_
    refine wr_addS (hk_sz (no.a _ h2)) ?_
    walk_at "pv all"
    refine ix_tup (j := 2) rfl rfl ?_
    walk_at "pv all"
    refine wr_addS (bk_sz (no.a _ h2)) ?_
    walk_at "pv all"
    exact q
  | give es =>
    simp only [smd, flowsL] at q ⊢
    obtain ⟨h1, h2⟩ := ok
    walk_at "pv all"
    refine ix_tup (j := 0) rfl rfl ?_
    walk_at "pv all"
    refine cs_eq (fun h => absurd h (by decide +kernel)) (fun _ => ?_)
    walk_at "pv all"
    refine ix_tup (j := 0) rfl rfl ?_
    walk_at "pv all"
    refine cs_eq (fun h => absurd h (by decide +kernel)) (fun _ => ?_)
    walk_at "pv all"
    refine ix_tup (j := 0) rfl rfl ?_
    walk_at "pv all"
    refine cs_eq (fun h => absurd h (by decide +kernel)) (fun _ => ?_)
    walk_at "pv all"
    refine ix_tup (j := 0) rfl rfl ?_
    walk_at "pv all"
    refine cs_eq (fun h => absurd h (by decide +kernel)) (fun _ => ?_)
    walk_at "pv all"
    refine ix_tup (j := 0) rfl rfl ?_
    walk_at "pv all"
    refine cs_eq (fun _ => ?_) (fun h => absurd rfl h)
    walk_at "pv all"
    refine ix_tup (j := 1) rfl rfl ?_
    walk_at "pv all"
    refine rg1 (n := es.length) (by rw [List.length_map]) (by omega) ?_
    rw [rg_map]
    refine wc_map (r := fun i : Nat => Val.d (flw (gk (p.R.getD i ""), keysE (es.getD i (.num 0))))) gnil (fun i hi => ?_) ?_
    · have hi := List.mem_range.mp hi
      have he : es[i]? = some es[i] := List.getElem?_eq_getElem hi
      have hr : p.R[i]? = some p.R[i] := List.getElem?_eq_getElem (by omega)
      have hx := h2 _ (List.getElem_mem hi)
      have hs := hR _ (List.mem_of_getElem? hr)
      rw [List.getD_eq_getElem?_getD, List.getD_eq_getElem?_getD, he, hr]
      generalize es[i] = e at he hx
      generalize p.R[i] = r at hr hs
      have hk := ksz_3 hx.2
      walk_at "pv all"
      refine ix_tup (j := 2) rfl rfl ?_
      walk_at "pv all"
      refine ix_tup (j := i) (v := .str r) rfl (by rw [List.getElem?_map, hr]; rfl) ?_
      refine wr_addS (gk_sz hs) ?_
      walk_at "pv all"
      refine ix_tup (j := 1) rfl rfl ?_
      walk_at "pv all"
      refine ix_tup (j := i) (v := exd e) rfl (by rw [List.getElem?_map, he]; rfl) ?_
      walk_at "pv all"
      refine lkeys_ok no e l mh _ hx.1 (by omega) (by omega) ?_
      walk_at "pv all"
      exact ⟨rfl, rfl⟩
    refine wr_nl (ds := ((p.R.zip es).map fun p => (gk p.1, keysE p.2)).map flw) ?_ ?_
    · refine congrArg (fun x => some (Rv.nl x)) (List.ext_getElem? fun i => ?_)
      rw [List.getElem?_map, List.getElem?_map, List.getElem?_map, List.getElem?_map]
      by_cases hi : i < es.length
      · have he : es[i]? = some es[i] := List.getElem?_eq_getElem hi
        have hr : p.R[i]? = some p.R[i] := List.getElem?_eq_getElem (by omega)
        have hz : (p.R.zip es)[i]? = some (p.R[i], es[i]) := by
          rw [List.getElem?_zip_eq_some]; exact ⟨hr, he⟩
        rw [List.getElem?_range hi, hz]
        show some (Val.d (flw (gk (p.R.getD i ""), keysE (es.getD i (.num 0))))) = _
        rw [List.getD_eq_getElem?_getD, List.getD_eq_getElem?_getD, he, hr]; rfl
      · rw [List.getElem?_eq_none (by rw [List.length_range]; omega), List.getElem?_eq_none (by rw [List.length_zip]; omega)]; rfl
    walk_at "pv all"
    exact q
  | pause =>
    simp only [smd, flowsL] at q ⊢
    walk_at "pv all"
    refine ix_tup (j := 0) rfl rfl ?_
    walk_at "pv all"
    refine cs_eq (fun h => absurd h (by decide +kernel)) (fun _ => ?_)
    walk_at "pv all"
    refine ix_tup (j := 0) rfl rfl ?_
    walk_at "pv all"
    refine cs_eq (fun h => absurd h (by decide +kernel)) (fun _ => ?_)
    walk_at "pv all"
    refine ix_tup (j := 0) rfl rfl ?_
    walk_at "pv all"
    refine cs_eq (fun h => absurd h (by decide +kernel)) (fun _ => ?_)
    walk_at "pv all"
    refine ix_tup (j := 0) rfl rfl ?_
    walk_at "pv all"
    refine cs_eq (fun h => absurd h (by decide +kernel)) (fun _ => ?_)
    walk_at "pv all"
    refine ix_tup (j := 0) rfl rfl ?_
    walk_at "pv all"
    refine cs_eq (fun h => absurd h (by decide +kernel)) (fun _ => ?_)
    walk_at "pv all"
    refine ix_tup (j := 0) rfl rfl ?_
    walk_at "pv all"
    refine cs_eq (fun h => absurd h (by decide +kernel)) (fun _ => ?_)
    walk_at "pv all"
    refine ix_tup (j := 0) rfl rfl ?_
    walk_at "pv all"
    refine cs_eq (fun h => absurd h (by decide +kernel)) (fun _ => ?_)
    walk_at "pv all"
    exact q
  | whl t b =>
    simp only [smd, flowsL] at q ⊢
    obtain ⟨h1, h2⟩ := ok
    walk_at "pv all"
    refine ix_tup (j := 0) rfl rfl ?_
    walk_at "pv all"
    refine cs_eq (fun h => absurd h (by decide +kernel)) (fun _ => ?_)
    walk_at "pv all"
    refine ix_tup (j := 0) rfl rfl ?_
    walk_at "pv all"
    refine cs_eq (fun h => absurd h (by decide +kernel)) (fun _ => ?_)
    walk_at "pv all"
    refine ix_tup (j := 0) rfl rfl ?_
    walk_at "pv all"
    refine cs_eq (fun h => absurd h (by decide +kernel)) (fun _ => ?_)
    walk_at "pv all"
    refine ix_tup (j := 0) rfl rfl ?_
    walk_at "pv all"
    refine cs_eq (fun h => absurd h (by decide +kernel)) (fun _ => ?_)
    walk_at "pv all"
    refine ix_tup (j := 0) rfl rfl ?_
    walk_at "pv all"
    refine cs_eq (fun h => absurd h (by decide +kernel)) (fun _ => ?_)
    walk_at "pv all"
    refine ix_tup (j := 0) rfl rfl ?_
    walk_at "pv all"
    refine cs_eq (fun h => absurd h (by decide +kernel)) (fun _ => ?_)
    walk_at "pv all"
    refine ix_tup (j := 0) rfl rfl ?_
    walk_at "pv all"
    refine cs_eq (fun _ => ?_) (fun h => absurd rfl h)
    walk_at "pv all"
    refine ix_tup (j := 1) rfl rfl ?_
    walk_at "pv all"
    refine ltestkeys_ok no t l mh _ h1 (by omega) h2 ?_
    walk_at "pv all"
    exact q
  | iff t b1 b2 =>
    simp only [smd, flowsL] at q ⊢
    obtain ⟨h1, h2⟩ := ok
    walk_at "pv all"
    refine ix_tup (j := 0) rfl rfl ?_
    walk_at "pv all"
    refine cs_eq (fun h => absurd h (by decide +kernel)) (fun _ => ?_)
    walk_at "pv all"
    refine ix_tup (j := 0) rfl rfl ?_
    walk_at "pv all"
    refine cs_eq (fun h => absurd h (by decide +kernel)) (fun _ => ?_)
    walk_at "pv all"
    refine ix_tup (j := 0) rfl rfl ?_
    walk_at "pv all"
    refine cs_eq (fun h => absurd h (by decide +kernel)) (fun _ => ?_)
    walk_at "pv all"
    refine ix_tup (j := 0) rfl rfl ?_
    walk_at "pv all"
    refine cs_eq (fun h => absurd h (by decide +kernel)) (fun _ => ?_)
    walk_at "pv all"
    refine ix_tup (j := 0) rfl rfl ?_
    walk_at "pv all"
    refine cs_eq (fun h => absurd h (by decide +kernel)) (fun _ => ?_)
    walk_at "pv all"
    refine ix_tup (j := 0) rfl rfl ?_
    walk_at "pv all"
    refine cs_eq (fun _ => ?_) (fun h => absurd rfl h)
    walk_at "pv all"
    refine ix_tup (j := 1) rfl rfl ?_
    walk_at "pv all"
    refine ltestkeys_ok no t l mh _ h1 (by omega) h2 ?_
    walk_at "pv all"
    exact q
end
end PvK

namespace PvK
open PySem PySem.Spec PyProof.Rows L2 Pv
/-! which keys the law reaches -/
def bfsF (fl : List Flw) (f : List Str) (x : Str) : List Str := fl.foldl (fun f p => if p.1 = x then addA f p.2 else f) f
def bfsS (fl : List Flw) (f : List Str) (t : Nat) : List Str := match f[t]? with
  | none => f
  | some x => bfsF fl f x
theorem bfsF_pre : ∀ (fl : List Flw) (f : List Str) (x : Str), ∃ t, bfsF fl f x = f ++ t
  | [], f, _ => ⟨[], by rw [List.append_nil]; rfl⟩
  | p :: fl, f, x => by
    show ∃ t, bfsF fl (if p.1 = x then addA f p.2 else f) x = f ++ t
    obtain ⟨t, ht⟩ := bfsF_pre fl (if p.1 = x then addA f p.2 else f) x
    rw [ht]
    split
    · obtain ⟨t2, ht2⟩ := addA_pre p.2 f
      exact ⟨t2 ++ t, by rw [ht2, List.append_assoc]⟩
    · exact ⟨t, rfl⟩
theorem bfsF_nd : ∀ (fl : List Flw) (f : List Str) (x : Str), f.Nodup → (bfsF fl f x).Nodup
  | [], _, _, h => h
  | p :: fl, f, x, h => by
    show (bfsF fl (if p.1 = x then addA f p.2 else f) x).Nodup
    refine bfsF_nd fl _ x ?_
    split
    · exact addA_nd _ _ h
    · exact h
theorem bfsF_mem : ∀ (fl : List Flw) (f : List Str) (x y : Str), y ∈ bfsF fl f x ↔ y ∈ f ∨ ∃ p ∈ fl, p.1 = x ∧ y ∈ p.2
  | [], f, x, y => by simp [bfsF]
  | p :: fl, f, x, y => by
    show y ∈ bfsF fl (if p.1 = x then addA f p.2 else f) x ↔ _
    rw [bfsF_mem fl]
    by_cases h : p.1 = x
    · rw [if_pos h, addA_mem]
      constructor
      · rintro ((h1 | h1) | ⟨q, h1, h2⟩)
        · exact .inl h1
        · exact .inr ⟨p, List.mem_cons_self, h, h1⟩
        · exact .inr ⟨q, List.mem_cons_of_mem _ h1, h2⟩
      · rintro (h1 | ⟨q, h1, h2⟩)
        · exact .inl (.inl h1)
        · rcases List.mem_cons.mp h1 with rfl | h1
          · exact .inl (.inr h2.2)
          · exact .inr ⟨q, h1, h2⟩
    · rw [if_neg h]
      constructor
      · rintro (h1 | ⟨q, h1, h2⟩)
        · exact .inl h1
        · exact .inr ⟨q, List.mem_cons_of_mem _ h1, h2⟩
      · rintro (h1 | ⟨q, h1, h2⟩)
        · exact .inl h1
        · rcases List.mem_cons.mp h1 with rfl | h1
          · exact absurd h2.1 h
          · exact .inr ⟨q, h1, h2⟩
structure BfOk (fl : List Flw) (U : List Str) (key : Str) (n : Nat) (f : List Str) : Prop where
  nd : f.Nodup
  u : ∀ y ∈ f, y ∈ U
  r : ∀ y ∈ f, Rch fl key y
  k : key ∈ f
  c : ∀ j x, j < n → f[j]? = some x → ∀ p ∈ fl, p.1 = x → ∀ y ∈ p.2, y ∈ f
theorem Rch.snoc {fl : List Flw} {a b c : Str} {ks : List Str} (h : Rch fl a b) (h1 : (b, ks) ∈ fl) (h2 : c ∈ ks) : Rch fl a c := h.tr (.step h1 h2 (.refl c))
theorem bfs_step {fl : List Flw} {U : List Str} {key : Str} (hu : ∀ p ∈ fl, ∀ k ∈ p.2, k ∈ U) {n : Nat} {f : List Str} (ok : BfOk fl U key n f) : BfOk fl U key (n + 1) (bfsS fl f n) := by
  unfold bfsS
  cases hx : f[n]? with
  | none =>
    have hn : f.length ≤ n := List.getElem?_eq_none_iff.mp hx
    show BfOk fl U key (n + 1) f
    refine ⟨ok.nd, ok.u, ok.r, ok.k, fun j x hj h => ?_⟩
    have := (List.getElem?_eq_some_iff.mp h).1
    exact ok.c j x (by omega) h
  | some x =>
    show BfOk fl U key (n + 1) (bfsF fl f x)
    have hm := fun y => bfsF_mem fl f x y
    have hxm := List.mem_of_getElem? hx
    refine ⟨bfsF_nd fl f x ok.nd, fun y hy => ?_, fun y hy => ?_, (hm key).mpr (.inl ok.k), fun j z hj h p hp hpz y hy => ?_⟩
    · rcases (hm y).mp hy with h | ⟨p, hp, _, h⟩
      · exact ok.u y h
      · exact hu p hp y h
    · rcases (hm y).mp hy with h | ⟨p, hp, hpx, h⟩
      · exact ok.r y h
      · exact (ok.r x hxm).snoc (ks := p.2) (by rw [← hpx]; exact hp) h
    · obtain ⟨t, ht⟩ := bfsF_pre fl f x
      have hnl := (List.getElem?_eq_some_iff.mp hx).1
      rw [ht, List.getElem?_append_left (by omega)] at h
      by_cases hjn : j = n
      · subst hjn
        rw [hx] at h
        cases h
        exact (hm y).mpr (.inr ⟨p, hp, hpz, hy⟩)
      · exact (hm y).mpr (.inl (ok.c j z (by omega) h p hp hpz y hy))
theorem bfs_all {fl : List Flw} {U : List Str} {key : Str} {n : Nat} {f : List Str} (ok : BfOk fl U key n f) (hn : U.length ≤ n) : ∀ x, x ∈ f ↔ Rch fl key x := by
  have hl := nodup_le ok.nd ok.u
  have cl : ∀ x y, Rch fl x y → x ∈ f → y ∈ f := by
    intro x y h
    induction h with
    | refl => exact id
    | step h1 h2 _ ih =>
      intro hx
      obtain ⟨j, hj⟩ := List.mem_iff_getElem?.mp hx
      have := (List.getElem?_eq_some_iff.mp hj).1
      exact ih (ok.c j _ (by omega) hj _ h1 rfl _ h2)
  exact fun x => ⟨ok.r x, fun h => cl key x h ok.k⟩
theorem ix_cel {mh : List Ob} {n j : Nat} {R : Val → Prop} {xs : List Str} {x : Str} (h : mh[n]? = some (.lst ((xs.map .str).map .d))) (hx : xs[j]? = some x) (q : R (.d (.str x))) : ∃ v, ixVl mh (.ref n) (.d (.int (j : Int))) = some v ∧ R v :=
  ix_cell h rfl (by rw [List.getElem?_map, List.getElem?_map, hx]; rfl) q
theorem bfsF_le {fl : List Flw} {U : List Str} (hu : ∀ p ∈ fl, ∀ k ∈ p.2, k ∈ U) {f : List Str} (nd : f.Nodup) (h : ∀ y ∈ f, y ∈ U) (x : Str) (i : Nat) : (bfsF (fl.take i) f x).Nodup ∧ ∀ y ∈ bfsF (fl.take i) f x, y ∈ U :=
  ⟨bfsF_nd _ _ _ nd, fun y hy => by
    rcases (bfsF_mem _ _ _ _).mp hy with h1 | ⟨p, hp, _, h2⟩
    · exact h y h1
    · exact hu p (List.mem_of_mem_take hp) y h2⟩
theorem reached_ok (k : Nat) (mh : List Ob) (fl : List Flw) (U : List Str) (key : Str) (hk : key ∈ U) (hu : ∀ p ∈ fl, ∀ k ∈ p.2, k ∈ U) (hU : U.length ≤ 60) (Q : Val → List Ob → Prop) (q : ∀ f, (∀ x, x ∈ f ↔ Rch fl key x) → f.length ≤ 60 → Q (.d (strD f)) mh) :
    W (callP P gl (k + 1) 34 [.d (.list (fl.map flw)), .d (.str key)]) mh Q := by
  refine w_pure (nm := f34.name) (ps := f34.ps) (N := f34.N) (body := f34.body) (env := [some (.d (.list (fl.map flw))), some (.d (.str key)), none, none, none, none, none]) rfl rfl ?_
  have hsl : sizeLine = 16777216 := rfl
  unfold f34
  walk_at "pv all"
  refine rg1 (n := 60) rfl (by decide) ?_
  refine wl_invR (fun i e m => ∃ (f : List Str) (a3 a4 a5 a6 : Option Val), e = [some (.d (.list (fl.map flw))), some (.d (.str key)), some (.ref mh.length), a3, a4, a5, a6] ∧ m = mh ++ [.lst ((f.map .str).map .d)] ∧ BfOk fl U key i f) ⟨[key], _, _, _, _, rfl, rfl, ⟨by simp, fun y hy => by rw [List.mem_singleton.mp hy]; exact hk, fun y hy => by rw [List.mem_singleton.mp hy]; exact .refl _, List.mem_singleton.mpr rfl, fun j x hj => absurd hj (Nat.not_lt_zero _)⟩⟩ (fun i e m hi I => ?_) (fun e m I => ?_)
  · obtain ⟨f, a3, a4, a5, a6, rfl, rfl, ok⟩ := I
    have okn := bfs_step hu ok
    have hfl := nodup_le ok.nd ok.u
    walk_at "pv all"
    refine wr_lenC end_get ?_
    rw [List.length_map, List.length_map]
    walk_at "pv all"
    refine ci_lt (fun h => ?_) (fun h => ?_)
    · have hx : f[i]? = some f[i] := List.getElem?_eq_getElem (by omega)
      generalize f[i] = x at hx
      have e1 : bfsS fl f i = bfsF fl f x := by unfold bfsS; rw [hx]
      rw [e1] at okn
      walk_at "pv all"
      refine ix_L ?_
      refine wl_invL (fun j e m => ∃ (a4 a5 a6 : Option Val), e = [some (.d (.list (fl.map flw))), some (.d (.str key)), some (.ref mh.length), some (.d (.int (i : Int))), a4, a5, a6] ∧ m = mh ++ [.lst (((bfsF (fl.take j) f x).map .str).map .d)]) ⟨_, _, _, rfl, rfl⟩ (fun j p e m hp I => ?_) (fun e m I => ?_)
      · obtain ⟨a4, a5, a6, rfl, rfl⟩ := I
        obtain ⟨g1, g2⟩ := bfsF_le hu ok.nd ok.u x j
        have g3 := nodup_le g1 g2
        obtain ⟨g1', g2'⟩ := bfsF_le hu ok.nd ok.u x (j + 1)
        have g3' := nodup_le g1' g2'
        obtain ⟨t, ht⟩ := bfsF_pre (fl.take j) f x
        have e2 : bfsF (fl.take (j + 1)) f x = if p.1 = x then addA (bfsF (fl.take j) f x) p.2 else bfsF (fl.take j) f x := by
          unfold bfsF
          rw [List.take_add_one, hp, List.foldl_append]; rfl
        have hx2 : (bfsF (fl.take j) f x)[i]? = some x := by
          rw [ht, List.getElem?_append_left (List.getElem?_eq_some_iff.mp hx).1]; exact hx
        have hp2 := hu p (List.mem_of_getElem? hp)
        rw [e2] at g1' g2' g3' ⊢
        generalize bfsF (fl.take j) f x = acc at g1 g2 g3 g1' g2' g3' hx2
        walk_at "pv all"
        refine ix_cel end_get hx2 ?_
        walk_at "pv all"
        refine cs_eq (fun hpx => ?_) (fun hpx => ?_)
        · rw [if_pos hpx]
          walk_at "pv all"
          refine ix_L ?_
          refine wl_invL (fun n e m => ∃ (a6 : Option Val), e = [some (.d (.list (fl.map flw))), some (.d (.str key)), some (.ref mh.length), some (.d (.int (i : Int))), some (.d (.str p.1)), some (.d (strD p.2)), a6] ∧ m = mh ++ [.lst (((addA acc (p.2.take n)).map .str).map .d)]) ⟨_, rfl, rfl⟩ (fun n y e m hy I => ?_) (fun e m I => ?_)
          · obtain ⟨a6, rfl, rfl⟩ := I
            have hd1 : (addA acc (p.2.take n)).Nodup := addA_nd _ _ g1
            have hd2 : ∀ z ∈ addA acc (p.2.take n), z ∈ U := fun z hz => by
              rcases (addA_mem _ _ _).mp hz with h1 | h1
              · exact g2 z h1
              · exact hp2 z (List.mem_of_mem_take h1)
            have hd3 := nodup_le hd1 hd2
            have e3 : addA acc (p.2.take (n + 1)) = if y ∈ addA acc (p.2.take n) then addA acc (p.2.take n) else addA acc (p.2.take n) ++ [y] := by
              unfold addA
              rw [List.take_add_one, hy, List.foldl_append]; rfl
            rw [e3]
            generalize addA acc (p.2.take n) = ac2 at hd3
            walk_at "pv all"
            refine cd_ninC end_get (fun h => ?_) (fun h => ?_)
            · rw [if_neg h]
              walk_at "pv all"
              refine ⟨rcv_lst end_get, ?_⟩
              walk_at "pv all"
              refine app_end end_get (by rw [List.length_map, List.length_map]; omega) ?_
              rw [end_set]
              walk_at "pv all"
              exact ⟨_, rfl, by rw [List.map_append, List.map_append]; rfl⟩
            · rw [if_pos h]
              walk_at "pv all"
              exact ⟨_, rfl, rfl⟩
          · obtain ⟨a6, rfl, rfl⟩ := I
            rw [List.take_length]
            walk_at "pv all"
            exact ⟨_, _, _, rfl, rfl⟩
        · rw [if_neg hpx]
          walk_at "pv all"
          exact ⟨_, _, _, rfl, rfl⟩
      · obtain ⟨a4, a5, a6, rfl, rfl⟩ := I
        rw [List.take_length]
        walk_at "pv all"
        exact ⟨_, _, _, _, _, rfl, rfl, okn⟩
    · have e1 : bfsS fl f i = f := by unfold bfsS; rw [List.getElem?_eq_none (by omega)]
      rw [e1] at okn
      walk_at "pv all"
      exact ⟨f, _, _, _, _, rfl, rfl, okn⟩
  · obtain ⟨f, a3, a4, a5, a6, rfl, rfl, ok⟩ := I
    have hfl := nodup_le ok.nd ok.u
    refine thenS_nx ?_
    refine frz_lst rfl end_get ?_
    rw [end_set]
    walk_at "pv all"
    exact q f (bfs_all ok hU) (by omega)
end PvK

namespace PvK
open PySem PySem.Spec PyProof.Rows L2 Pv
/-! the law's marks and rows -/
abbrev ak (a : Str) : Str := Str.ofString "@" ++ a
abbrev ahk (a : Str) : Str := Str.ofString "@#" ++ a
theorem ak_sz {a : Str} (h : SM a) : (Str.ofString "@").length + a.length ≤ sizeLine := by
  have h1 : (Str.ofString "@").length ≤ 2 := by decide +kernel
  have := h.2
  have hs : sizeLine = 16777216 := rfl
  omega
theorem ahk_sz {a : Str} (h : SM a) : (Str.ofString "@#").length + a.length ≤ sizeLine := by
  have h1 : (Str.ofString "@#").length ≤ 2 := by decide +kernel
  have := h.2
  have hs : sizeLine = 16777216 := rfl
  omega
def rowsA (p : Bool × Str) : List (Str × Str) := if p.1 then [(hk p.2, ahk p.2), (bk p.2, ak p.2)] else [(p.2, ak p.2)]
def rowsP (ps : List (Bool × Str)) : List (Str × Str) := ps.flatMap rowsA
abbrev p2d (p : Str × Str) : Dt := .tuple [.str p.1, .str p.2]
def keysU (I A R : List Str) : List Str := bang :: (R.map gk ++ (I ++ (A.map hk ++ A.map bk)))
structure PcOk (p : Pc) (I A : List Str) : Prop where
  no : NmOk I A
  R : ∀ r ∈ p.R, SM r
  Rl : p.R.length ≤ 2
  il : I.length ≤ 12
  al : A.length ≤ 12
  ps : ∀ q ∈ p.ps, SM q.2 ∧ (q.1 = true → q.2 ∈ A) ∧ (q.1 = false → q.2 ∈ I)
  lc : ∀ q ∈ p.lc, SM q.2 ∧ (q.1 = true → q.2 ∈ A) ∧ (q.1 = false → q.2 ∈ I)
  psl : p.ps.length ≤ 10
  lcl : p.lc.length ≤ 10
  sl : (stms p.b).length ≤ 10000
  dp : p.b.dp ≤ 5
  sm : ∀ s ∈ stms p.b, smOk I A p.R s
theorem keysE_u {I A R : List Str} : ∀ {e : Ex}, exOk I A e → ∀ k ∈ keysE e, k ∈ keysU I A R
  | .num _, _, _, h => nomatch h
  | .nm x, ok, k, h => by rw [List.mem_singleton.mp h]; exact List.mem_cons_of_mem _ (List.mem_append_right _ (List.mem_append_left _ ok))
  | .len a, ok, k, h => by rw [List.mem_singleton.mp h]; exact List.mem_cons_of_mem _ (List.mem_append_right _ (List.mem_append_right _ (List.mem_append_left _ (List.mem_map.mpr ⟨a, ok, rfl⟩))))
  | .item a e, ok, k, h => by
    rcases List.mem_append.mp h with h | h
    · rcases List.mem_cons.mp h with rfl | h
      · exact List.mem_cons_of_mem _ (List.mem_append_right _ (List.mem_append_right _ (List.mem_append_left _ (List.mem_map.mpr ⟨a, ok.1, rfl⟩))))
      · rw [List.mem_singleton.mp h]; exact List.mem_cons_of_mem _ (List.mem_append_right _ (List.mem_append_right _ (List.mem_append_right _ (List.mem_map.mpr ⟨a, ok.1, rfl⟩))))
    · exact keysE_u (e := e) ok.2 k h
  | .scale _ e, ok, k, h => keysE_u (e := e) ok k h
  | .quo e _, ok, k, h => keysE_u (e := e) ok k h
  | .rem e _, ok, k, h => keysE_u (e := e) ok k h
  | .plus e f, ok, k, h => (List.mem_append.mp h).elim (keysE_u (e := e) ok.1 k) (keysE_u (e := f) ok.2 k)
  | .minus e f, ok, k, h => (List.mem_append.mp h).elim (keysE_u (e := e) ok.1 k) (keysE_u (e := f) ok.2 k)
theorem hk_u {I A R : List Str} {a : Str} (h : a ∈ A) : hk a ∈ keysU I A R := List.mem_cons_of_mem _ (List.mem_append_right _ (List.mem_append_right _ (List.mem_append_left _ (List.mem_map.mpr ⟨a, h, rfl⟩))))
theorem bk_u {I A R : List Str} {a : Str} (h : a ∈ A) : bk a ∈ keysU I A R := List.mem_cons_of_mem _ (List.mem_append_right _ (List.mem_append_right _ (List.mem_append_right _ (List.mem_map.mpr ⟨a, h, rfl⟩))))
theorem gk_u {I A R : List Str} {r : Str} (h : r ∈ R) : gk r ∈ keysU I A R := List.mem_cons_of_mem _ (List.mem_append_left _ (List.mem_map.mpr ⟨r, h, rfl⟩))
theorem i_u {I A R : List Str} {x : Str} (h : x ∈ I) : x ∈ keysU I A R := List.mem_cons_of_mem _ (List.mem_append_right _ (List.mem_append_left _ h))
theorem keysT_u {I A R : List Str} {t : Ts} (ok : tsOk I A t) : ∀ k ∈ keysT t, k ∈ keysU I A R := fun k hk => by
  rw [keysT_cmps] at hk
  obtain ⟨c, hc, h⟩ := List.mem_flatMap.mp hk
  obtain ⟨h1, h2, _⟩ := cmps_ok ok c hc
  exact (List.mem_append.mp h).elim (keysE_u h1 k) (keysE_u h2 k)
theorem flows_u {I A R : List Str} {s : Sm} (ok : smOk I A R s) : ∀ p ∈ flowsL R s, p.1 ∈ keysU I A R ∧ ∀ k ∈ p.2, k ∈ keysU I A R := by
  intro p hp
  cases s with
  | set xs =>
    obtain ⟨q, hq, rfl⟩ := List.mem_map.mp hp
    obtain ⟨h1, h2, _⟩ := ok.1 q hq
    exact ⟨i_u h1, keysE_u h2⟩
  | store a e f =>
    rw [List.mem_singleton.mp hp]
    obtain ⟨h1, ⟨h2, _⟩, h4, _⟩ := ok
    refine ⟨bk_u h1, fun k hk => ?_⟩
    rcases List.mem_append.mp hk with hk | hk
    · exact (List.mem_append.mp hk).elim (keysE_u h2 k) (keysE_u h4 k)
    · rw [List.mem_singleton.mp hk]; exact hk_u h1
  | push e a =>
    rw [List.mem_singleton.mp hp]
    obtain ⟨h1, h2, _⟩ := ok
    refine ⟨bk_u h1, fun k hk => ?_⟩
    rcases List.mem_append.mp hk with hk | hk
    · exact keysE_u h2 k hk
    · rw [List.mem_singleton.mp hk]; exact hk_u h1
  | pop x a =>
    rw [List.mem_singleton.mp hp]
    obtain ⟨h1, h2⟩ := ok
    refine ⟨i_u h1, fun k hk => ?_⟩
    rcases List.mem_cons.mp hk with rfl | hk
    · exact hk_u h2
    · rw [List.mem_singleton.mp hk]; exact bk_u h2
  | give es =>
    obtain ⟨q, hq, rfl⟩ := List.mem_map.mp hp
    obtain ⟨h1, h2⟩ := List.of_mem_zip hq
    exact ⟨gk_u h1, keysE_u (ok.2 _ h2).1⟩
  | pause => cases hp
  | whl t b => rw [List.mem_singleton.mp hp]; exact ⟨List.mem_cons_self, keysT_u ok.1⟩
  | iff t l r => rw [List.mem_singleton.mp hp]; exact ⟨List.mem_cons_self, keysT_u ok.1⟩
def flowsB (p : Pc) : List Flw := (stms p.b).flatMap (flowsL p.R)
open Classical in
noncomputable def markR (p : Pc) (key : Str) : List Str := ((rowsP p.ps).filter fun r => decide (Rch (flowsB p) key r.1)).map (·.2)
def rowMk (p : Pc) (mk : Str → List Str) : Dt := .tuple [.str p.nm, strT (mk bang), .tuple (p.R.map fun r => strT (mk (gk r))), .tuple ((p.ps.filter (·.1)).map fun q => .tuple [strT (mk (hk q.2)), strT (mk (bk q.2))])]
section
variable {p : Pc} {I A : List Str} (ok : PcOk p I A)
include ok
theorem u_len : (keysU I A p.R).length ≤ 60 := by
  unfold keysU
  rw [List.length_cons, List.length_append, List.length_append, List.length_append, List.length_map, List.length_map, List.length_map]
  have := ok.Rl
  have := ok.il
  have := ok.al
  omega
theorem flowsB_u : ∀ f ∈ flowsB p, f.1 ∈ keysU I A p.R ∧ ∀ k ∈ f.2, k ∈ keysU I A p.R := fun f hf => by
  obtain ⟨s, hs, h⟩ := List.mem_flatMap.mp hf
  exact flows_u (ok.sm s hs) f h
theorem latoms_ok (k : Nat) (mh : List Ob) (Q : Val → List Ob → Prop) (q : Q (.d (.list ((rowsP p.ps).map p2d))) mh) : W (callP P gl (k + 1) 35 [.d (pcd p)]) mh Q := by
  refine w_pure (nm := f35.name) (ps := f35.ps) (N := f35.N) (body := f35.body) (env := [some (.d (pcd p)), none, none, none]) rfl rfl ?_
  have hsl : sizeLine = 16777216 := rfl
  have hpl := ok.psl
  unfold f35
  walk_at "pv all"
  refine ix_tup (j := 1) rfl rfl ?_
  refine ix_T ?_
  refine wl_invL (fun i e m => ∃ (os : List Ob) (n : Nat) (a2 a3 : Option Val), e = [some (.d (pcd p)), some (.ref (mh.length + n)), a2, a3] ∧ m = mh ++ os ∧ os[n]? = some (.lst (((rowsP (p.ps.take i)).map p2d).map Val.d))) ⟨[.lst []], 0, _, _, rfl, rfl, rfl⟩ (fun i x e m hx I => ?_) (fun e m I => ?_)
  · obtain ⟨os, n, a2, a3, rfl, rfl, ho⟩ := I
    obtain ⟨hs, _⟩ := ok.ps x (List.mem_of_getElem? hx)
    have hi : i < p.ps.length := (List.getElem?_eq_some_iff.mp hx).1
    have e1 : rowsP (p.ps.take (i + 1)) = rowsP (p.ps.take i) ++ rowsA x := by unfold rowsP; rw [List.take_add_one, hx, List.flatMap_append]; simp
    have hb : (rowsP (p.ps.take i)).length ≤ 2 * i := by
      have : ∀ xs : List (Bool × Str), (rowsP xs).length ≤ 2 * xs.length := by
        intro xs
        induction xs with
        | nil => exact Nat.le_refl _
        | cons y ys ih =>
          unfold rowsP at *
          rw [List.flatMap_cons, List.length_append, List.length_cons]
          have : (rowsA y).length ≤ 2 := by unfold rowsA; split <;> simp
          omega
      have h := this (p.ps.take i)
      rw [List.length_take] at h
      omega
    rw [e1]
    generalize rowsP (p.ps.take i) = acc at ho hb
    obtain ⟨b, x⟩ := x
    cases b with
    | true =>
      walk_at "pv all"
      refine cs_eq (fun _ => ?_) (fun h => absurd rfl h)
      walk_at "pv all"
      refine wr_addS (hk_sz hs) ?_
      walk_at "pv all"
      refine wr_addS (ahk_sz hs) ?_
      walk_at "pv all"
      refine wr_addS (bk_sz hs) ?_
      walk_at "pv all"
      refine wr_addS (ak_sz hs) ?_
      walk_at "pv all"
      refine wr_catC (xs := acc.map p2d) (ys := [p2d (hk x, ahk x), p2d (bk x, ak x)]) (po_get ho) (by rw [List.length_map]; show _ + 2 ≤ _; omega) ?_
      rw [List.append_assoc, List.length_append]
      walk_at "pv all"
      exact ⟨_, os.length, _, _, rfl, rfl, by rw [List.getElem?_append_right (Nat.le_refl _), Nat.sub_self, List.map_append (f := p2d)]; rfl⟩
    | false =>
      walk_at "pv all"
      refine cs_eq (fun h => absurd h (show ¬ (Str.ofString "int" = Str.ofString "array") by decide +kernel)) (fun _ => ?_)
      walk_at "pv all"
      refine ⟨rcv_lst (po_get ho), ?_⟩
      walk_at "pv all"
      refine wr_addS (ak_sz hs) ?_
      walk_at "pv all"
      refine app_end (po_get ho) (by rw [List.length_map, List.length_map]; omega) ?_
      rw [po_set]
      walk_at "pv all"
      refine ⟨_, n, _, _, rfl, rfl, ?_⟩
      rw [List.getElem?_set_self (List.getElem?_eq_some_iff.mp ho).1, List.map_append, List.map_append]; rfl
  · obtain ⟨os, n, a2, a3, rfl, rfl, ho⟩ := I
    rw [List.take_length] at ho
    refine thenS_nx ?_
    refine frz_lst rfl (po_get ho) ?_
    rw [po_set]
    walk_at "pv all"
    exact q
open Classical in
theorem lmark_ok (k : Nat) (mh : List Ob) (key : Str) (hk : key ∈ keysU I A p.R) (Q : Val → List Ob → Prop) (q : Q (.d (strT (markR p key))) mh) : W (callP P gl (k + 2) 36 [.d (pcd p), .d (.list ((flowsB p).map flw)), .d (.str key)]) mh Q := by
  refine w_pure (nm := f36.name) (ps := f36.ps) (N := f36.N) (body := f36.body) (env := [some (.d (pcd p)), some (.d (.list ((flowsB p).map flw))), some (.d (.str key)), none, none, none]) rfl rfl ?_
  have hsl : sizeLine = 16777216 := rfl
  unfold f36
  walk_at "pv all"
  refine reached_ok k mh (flowsB p) (keysU I A p.R) key hk (fun f hf => (flowsB_u ok f hf).2) (u_len ok) _ fun f hf hfl => ?_
  walk_at "pv all"
  refine latoms_ok ok k mh _ ?_
  refine ix_L ?_
  refine wc_filter (p := fun r : Str × Str => decide (r.1 ∈ f)) (r := fun r => Val.d (.str r.2)) gnil (fun r hr => ?_) ?_
  · walk_at "pv all"
    refine cd_inF (fun h => ?_) (fun h => ?_)
    · refine ⟨(decide_eq_true h).symm, rfl, fun _ => ?_⟩
      walk_at "pv all"
      exact ⟨rfl, rfl⟩
    · exact ⟨(decide_eq_false h).symm, rfl, fun z => by cases z⟩
  have e1 : (rowsP p.ps).filter (fun r => decide (r.1 ∈ f)) = (rowsP p.ps).filter fun r => @decide (Rch (flowsB p) key r.1) (Classical.propDecidable _) := by
    refine List.filter_congr fun r _ => ?_
    by_cases h : r.1 ∈ f
    · rw [decide_eq_true h, decide_eq_true ((hf r.1).mp h)]
    · rw [decide_eq_false h, decide_eq_false fun z => h ((hf r.1).mpr z)]
  rw [e1]
  refine wr_nl (ds := (markR p key).map .str) (by unfold markR; rw [List.map_map, List.map_map]; rfl) ?_
  walk_at "pv all"
  exact q
theorem lrow_ok (l : Nat) (hl : 12 < l) (mh : List Ob) (Q : Val → List Ob → Prop) (q : Q (.d (rowMk p (markR p))) mh) : W (callP P gl l 37 [.d (pcd p)]) mh Q := by
  obtain ⟨l, rfl⟩ : ∃ l2, l = l2 + 3 := ⟨l - 3, by omega⟩
  refine w_pure (nm := f37.name) (ps := f37.ps) (N := f37.N) (body := f37.body) (env := [some (.d (pcd p)), none, none, none, none, none, none, none, none]) rfl rfl ?_
  have hsl : sizeLine = 16777216 := rfl
  have hpl := ok.psl
  have hdp := ok.dp
  have hRl := ok.Rl
  unfold f37
  walk_at "pv all"
  refine ix_tup (j := 8) rfl rfl ?_
  walk_at "pv all"
  refine lstm_ok (l + 2) p.b mh _ (by omega) ok.sl ?_
  refine ix_L ?_
  refine wl_invL (fun i e m => ∃ (a2 : Option Val), e = [some (.d (pcd p)), some (.d (.list ((((stms p.b).take i).flatMap (flowsL p.R)).map flw))), a2, none, none, none, none, none, none] ∧ mh = m) ⟨_, rfl, rfl⟩ (fun i s e m hs I => ?_) (fun e m I => ?_)
  · obtain ⟨a2, rfl, rfl⟩ := I
    have hsm := ok.sm s (List.mem_of_getElem? hs)
    have hil : i < (stms p.b).length := (List.getElem?_eq_some_iff.mp hs).1
    have hsl2 := ok.sl
    have hfs : ∀ s : Sm, smOk I A p.R s → (flowsL p.R s).length ≤ 2 := by
      intro s h
      cases s with
      | set xs => show (List.map _ _).length ≤ 2; rw [List.length_map]; exact h.2
      | give es => show (List.map _ _).length ≤ 2; rw [List.length_map, List.length_zip]; omega
      | pause => exact Nat.zero_le _
      | _ => exact (by decide : 1 ≤ 2)
    have h1 := hfs s hsm
    have h2 := flat_le (f := flowsL p.R) (n := 2) (xs := (stms p.b).take i) fun x hx => hfs x (ok.sm x (List.mem_of_mem_take hx))
    rw [List.length_take] at h2
    rw [flat_snoc hs]
    generalize ((stms p.b).take i).flatMap (flowsL p.R) = acc at h2
    walk_at "pv all"
    refine lflows_ok ok.no (l + 2) (by omega) mh p ok.R ok.Rl s hsm _ ?_
    refine wr_addL (by rw [List.length_map, List.length_map]; omega) ?_
    rw [← List.map_append]
    walk_at "pv all"
    exact ⟨_, rfl, rfl⟩
  · obtain ⟨a2, rfl, rfl⟩ := I
    rw [List.take_length]
    walk_at "pv all"
    refine ix_tup (j := 2) rfl rfl ?_
    refine ix_T ?_
    refine wc_map (r := fun r => Val.d (strT (markR p (gk r)))) gnil (fun r hr => ?_) ?_
    · walk_at "pv all"
      refine wr_addS (gk_sz (ok.R r hr)) ?_
      walk_at "pv all"
      refine lmark_ok ok l mh _ (gk_u hr) _ ?_
      exact ⟨rfl, rfl⟩
    refine wr_nl (ds := p.R.map fun r => strT (markR p (gk r))) (by rw [List.map_map]; rfl) ?_
    walk_at "pv all"
    refine ix_tup (j := 1) rfl rfl ?_
    refine ix_T ?_
    refine wc_filter (p := fun q : Bool × Str => q.1) (r := fun q => Val.d (.str q.2)) gnil (fun q hq => ?_) ?_
    · obtain ⟨b, x⟩ := q
      walk_at "pv all"
      cases b with
      | true =>
        refine cs_eq (fun _ => ?_) (fun h => absurd rfl h)
        refine ⟨rfl, rfl, fun _ => ?_⟩
        walk_at "pv all"
        exact ⟨rfl, rfl⟩
      | false =>
        refine cs_eq (fun h => absurd h (show ¬ (Str.ofString "int" = Str.ofString "array") by decide +kernel)) (fun _ => ?_)
        exact ⟨rfl, rfl, fun z => by cases z⟩
    refine wr_nl (ds := (p.ps.filter (·.1)).map fun q => .str q.2) (by rw [List.map_map]; rfl) ?_
    walk_at "pv all"
    refine ix_L ?_
    refine wc_map (r := fun q : Bool × Str => Val.d (.tuple [strT (markR p (hk q.2)), strT (markR p (bk q.2))])) gnil (fun q hq => ?_) ?_
    · obtain ⟨h1, h2⟩ := List.mem_filter.mp hq
      obtain ⟨h3, h4, _⟩ := ok.ps q h1
      walk_at "pv all"
      refine wr_addS (hk_sz h3) ?_
      walk_at "pv all"
      refine lmark_ok ok l mh _ (hk_u (h4 h2)) _ ?_
      walk_at "pv all"
      refine wr_addS (bk_sz h3) ?_
      walk_at "pv all"
      refine lmark_ok ok l mh _ (bk_u (h4 h2)) _ ?_
      walk_at "pv all"
      exact ⟨rfl, rfl⟩
    refine wr_nl (ds := (p.ps.filter (·.1)).map fun q => .tuple [strT (markR p (hk q.2)), strT (markR p (bk q.2))]) (by rw [List.map_map]; rfl) ?_
    walk_at "pv all"
    refine ix_tup (j := 0) rfl rfl ?_
    walk_at "pv all"
    refine lmark_ok ok l mh _ List.mem_cons_self _ ?_
    walk_at "pv all"
    exact q
end
end PvK

namespace PvK
open PySem PySem.Spec PyProof.Rows L2 Pv
/-! Marks in the heap -/
theorem mcall_ex2 {alts : List (Str × Nat)} {m C : Str} {mh : List Ob} {n i : Nat} {fs : List (Str × Val)} (h : mh[n]? = some (.ins C fs)) (ha : alts.lookup C = some i) (hm : fs.lookup m = none) {K : Nat → Prop} (k : K i) : ∃ C fs i, insOf mh (.ref n) = some (C, fs) ∧ alts.lookup C = some i ∧ fs.lookup m = none ∧ K i :=
  ⟨C, fs, i, by unfold insOf; simp only [h], ha, hm, k⟩
abbrev MK : Str := Str.ofString "Marks"
abbrev mkFs (b : Nat) (core procs : Dt) (g : Bool) : List (Str × Val) := [("core", .d core), ("procs", .d procs), ("table", .ref (b + 1)), ("growing", .d (.bool g))]
structure Pt where
  nm : Str
  at_ : Nat
  ks : List (Str × Nat)
abbrev strsO (xs : List Str) : Ob := .lst ((xs.map .str).map .d)
structure MkL (b : Nat) (L : List Ob) (core procs : Dt) (ts : List Pt) (T : Tn) (g : Bool) : Prop where
  o : L[0]? = some (.ins MK (mkFs b core procs g))
  t : L[1]? = some (.dct (ts.map fun p => (.inr p.nm, .ref (b + p.at_))))
  d : ∀ p ∈ ts, L[p.at_]? = some (.dct (p.ks.map fun q => (.inr q.1, .ref (b + q.2))))
  c : ∀ p ∈ ts, ∀ q ∈ p.ks, L[q.2]? = some (strsO (T p.nm q.1))
  s1 : ∀ p ∈ ts, ∀ q ∈ p.ks, ∀ p' ∈ ts, q.2 ≠ p'.at_
  s2 : ∀ p ∈ ts, ∀ q ∈ p.ks, ∀ p' ∈ ts, ∀ q' ∈ p'.ks, (q.2 = q'.2 ↔ p.nm = p'.nm ∧ q.1 = q'.1)
  ge : ∀ p ∈ ts, 2 ≤ p.at_ ∧ ∀ q ∈ p.ks, 2 ≤ q.2
  nd : (ts.map (·.nm)).Nodup
  kd : ∀ p ∈ ts, (p.ks.map (·.1)).Nodup
  tn : ∀ n k, (T n k).Nodup
theorem find_nd2 {α : Type} {f : α → Str} {g : α → Val} : ∀ {xs : List α}, (xs.map f).Nodup → ∀ x ∈ xs, findK (xs.map fun x => (.inr (f x), g x)) (.inr (f x)) = some (g x)
  | [], _, _, h => absurd h List.not_mem_nil
  | y :: ys, nd, x, h => by
    rw [List.map_cons, List.nodup_cons] at nd
    unfold findK
    rw [List.map_cons, List.find?_cons]
    rcases List.mem_cons.mp h with rfl | h
    · rw [decide_eq_true rfl]; rfl
    · have hne : ¬ ((Sum.inr (f y) : Key) = .inr (f x)) := fun e => nd.1 (by rw [Sum.inr.inj e]; exact List.mem_map.mpr ⟨x, h, rfl⟩)
      rw [decide_eq_false hne]
      exact find_nd2 nd.2 x h
theorem ix_dk {mh : List Ob} {n : Nat} {x : Str} {v : Val} {kvs : List (Key × Val)} {R : Val → Prop} (h : mh[n]? = some (.dct kvs)) (hv : findK kvs (.inr x) = some v) (q : R v) : ∃ v, ixVl mh (.ref n) (.d (.str x)) = some v ∧ R v := by
  refine ⟨v, ?_, q⟩
  have h0 : dctOf mh (.ref n) = some kvs := by unfold dctOf; simp only [h]
  unfold ixVl
  simp only [h0]
  exact hv
theorem ix_cells {α : Type} {em : α → Val} {mh : List Ob} {n : Nat} {xs : List α} {R : Ix → Prop} (h : mh[n]? = some (.lst (xs.map em))) (q : R ⟨xs.map em, [(n, xs.map em)]⟩) : ∃ ix, ixOf mh (.ref n) = some ix ∧ R ix := by
  refine ⟨_, ?_, q⟩
  have h1 : seqL mh (.ref n) = some (xs.map em) := by show cellL mh n = _; unfold cellL; simp only [h]
  show (seqL mh (.ref n)).map (fun vs => (⟨vs, guardOf (.ref n) vs⟩ : Ix)) = _
  rw [h1]; rfl
section
variable {b : Nat} {L : List Ob} {core procs : Dt} {ts : List Pt} {T : Tn} {g : Bool}
theorem MkL.set (h : MkL b L core procs ts T g) {p : Pt} (hp : p ∈ ts) {q : Str × Nat} (hq : q ∈ p.ks) {v : List Str} (hv : v.Nodup) : MkL b (L.set q.2 (strsO v)) core procs ts (updN T p.nm q.1 v) g := by
  have hge := (h.ge p hp).2 q hq
  have hlt := (List.getElem?_eq_some_iff.mp (h.c p hp q hq)).1
  refine ⟨by rw [List.getElem?_set_ne (by omega)]; exact h.o, by rw [List.getElem?_set_ne (by omega)]; exact h.t, fun p' hp' => ?_, fun p' hp' q' hq' => ?_, h.s1, h.s2, h.ge, h.nd, h.kd, fun n k => ?_⟩
  · rw [List.getElem?_set_ne (h.s1 p hp q hq p' hp')]; exact h.d p' hp'
  · by_cases e : q.2 = q'.2
    · obtain ⟨e1, e2⟩ := (h.s2 p hp q hq p' hp' q' hq').mp e
      rw [← e, List.getElem?_set_self hlt, ← e1, ← e2, updN_self]
    · rw [List.getElem?_set_ne e]
      have : updN T p.nm q.1 v p'.nm q'.1 = T p'.nm q'.1 := if_neg fun z => e ((h.s2 p hp q hq p' hp' q' hq').mpr ⟨z.1.symm, z.2.symm⟩)
      rw [this]
      exact h.c p' hp' q' hq'
  · unfold updN
    split
    · exact hv
    · exact h.tn n k
theorem MkL.grow (h : MkL b L core procs ts T g) (g' : Bool) : MkL b (L.set 0 (.ins MK (mkFs b core procs g'))) core procs ts T g' := by
  have hlt := (List.getElem?_eq_some_iff.mp h.o).1
  refine ⟨by rw [List.getElem?_set_self hlt], by rw [List.getElem?_set_ne (by decide)]; exact h.t, fun p hp => ?_, fun p hp q hq => ?_, h.s1, h.s2, h.ge, h.nd, h.kd, h.tn⟩
  · rw [List.getElem?_set_ne (by have := (h.ge p hp).1; omega)]; exact h.d p hp
  · rw [List.getElem?_set_ne (by have := (h.ge p hp).2 q hq; omega)]; exact h.c p hp q hq
theorem MkL.ext (h : MkL b L core procs ts T g) {T' : Tn} (e : ∀ p ∈ ts, ∀ q ∈ p.ks, T' p.nm q.1 = T p.nm q.1) (tn : ∀ n k, (T' n k).Nodup) : MkL b L core procs ts T' g :=
  ⟨h.o, h.t, h.d, fun p hp q hq => by rw [e p hp q hq]; exact h.c p hp q hq, h.s1, h.s2, h.ge, h.nd, h.kd, tn⟩
/-- reading a mark -/
theorem MkL.get (h : MkL b L core procs ts T g) {base : List Ob} (hb : base.length = b) {p : Pt} (hp : p ∈ ts) {q : Str × Nat} (hq : q ∈ p.ks) (os : List Ob) :
    (base ++ L ++ os)[b]? = some (.ins MK (mkFs b core procs g)) ∧ (base ++ L ++ os)[b + 1]? = some (.dct (ts.map fun p => (.inr p.nm, .ref (b + p.at_)))) ∧
    (base ++ L ++ os)[b + p.at_]? = some (.dct (p.ks.map fun q => (.inr q.1, .ref (b + q.2)))) ∧ (base ++ L ++ os)[b + q.2]? = some (strsO (T p.nm q.1)) := by
  subst hb
  refine ⟨?_, ?_, ?_, ?_⟩
  · exact get_app (po_get (j := 0) h.o)
  · exact get_app (po_get h.t)
  · exact get_app (po_get (h.d p hp))
  · exact get_app (po_get (h.c p hp q hq))
end
theorem gath_take (T : Tm) (keys : List Str) {i : Nat} {k : Str} (h : keys[i]? = some k) : gathT T (keys.take (i + 1)) = gathT T (keys.take i) ++ (T k).filter fun a => decide (a ∉ gathT T (keys.take i)) := by
  unfold gathT
  rw [List.take_add_one, h, List.foldl_append]; rfl
theorem gath_len {T : Tm} {N : Nat} (hN : ∀ k, (T k).length ≤ N) : ∀ keys : List Str, (gathT T keys).length ≤ N * keys.length := by
  intro keys
  have h : ∀ (keys f : List Str), (keys.foldl (fun f k => f ++ (T k).filter fun a => decide (a ∉ f)) f).length ≤ f.length + N * keys.length := by
    intro keys
    induction keys with
    | nil => intro f; exact Nat.le_refl _
    | cons k keys ih =>
      intro f
      have h1 := ih (f ++ (T k).filter fun a => decide (a ∉ f))
      have h2 := List.length_filter_le (fun a => decide (a ∉ f)) (T k)
      have h3 := hN k
      rw [List.length_append] at h1
      rw [List.foldl_cons, List.length_cons, Nat.mul_succ]; omega
  have := h keys []
  rw [List.length_nil] at this
  unfold gathT
  omega
section
variable {L : List Ob} {core procs : Dt} {ts : List Pt} {T : Tn} {g : Bool}
theorem gathered_ok (k : Nat) (base : List Ob) (h : MkL base.length L core procs ts T g) {p : Pt} (hp : p ∈ ts) (keys : List Str) (hk : ∀ x ∈ keys, x ∈ p.ks.map (·.1)) {N : Nat} (hN : ∀ k, (T p.nm k).length ≤ N) (hl : N * keys.length ≤ 1000000) (Q : Val → List Ob → Prop) (q : Q (.d (strD (gathT (T p.nm) keys))) (base ++ L)) :
    W (callP P gl (k + 1) 7 [.ref base.length, .d (.str p.nm), .d (strD keys)]) (base ++ L) Q := by
  refine w_pure (nm := f7.name) (ps := f7.ps) (N := f7.N) (body := f7.body) (env := [some (.ref base.length), some (.d (.str p.nm)), some (.d (strD keys)), none, none, none]) rfl rfl ?_
  have hsl : sizeLine = 16777216 := rfl
  unfold f7
  walk_at "pv all"
  refine ix_L ?_
  refine wl_invL (fun i e m => ∃ (a4 : Option Val), e = [some (.ref base.length), some (.d (.str p.nm)), some (.d (strD keys)), some (.ref (base ++ L).length), a4, none] ∧ m = base ++ L ++ [strsO (gathT (T p.nm) (keys.take i))]) ⟨_, rfl, rfl⟩ (fun i x e m hx I => ?_) (fun e m I => ?_)
  · obtain ⟨a4, rfl, rfl⟩ := I
    obtain ⟨y, hy, rfl⟩ := List.mem_map.mp (hk x (List.mem_of_getElem? hx))
    have hil : i < keys.length := (List.getElem?_eq_some_iff.mp hx).1
    have hgl := gath_len hN (keys.take i)
    rw [List.length_take] at hgl
    have hgl2 : (gathT (T p.nm) (keys.take i)).length ≤ N * keys.length := Nat.le_trans hgl (Nat.mul_le_mul_left _ (by omega))
    have hnl := hN y.1
    have hN1 : N ≤ N * keys.length := by
      have := Nat.mul_le_mul_left N (show 1 ≤ keys.length by omega)
      omega
    rw [gath_take (T p.nm) keys hx]
    obtain ⟨g1, g2, g3, g4⟩ := h.get rfl hp hy [strsO (gathT (T p.nm) (keys.take i))]
    generalize gathT (T p.nm) (keys.take i) = acc at hgl2 g1 g2 g3 g4
    walk_at "pv all"
    refine ⟨rcv_lst end_get, ?_⟩
    walk_at "pv all"
    refine fld_ex g1 rfl rfl ?_
    walk_at "pv all"
    refine ix_dk g2 (find_nd2 (f := fun p : Pt => p.nm) h.nd p hp) ?_
    walk_at "pv all"
    refine ix_dk g3 (find_nd2 (f := fun q : Str × Nat => q.1) (h.kd p hp) y hy) ?_
    refine ix_cells (em := fun x : Str => Val.d (.str x)) (xs := T p.nm y.1) (by rw [g4]; unfold strsO; rw [List.map_map]; rfl) ?_
    refine wc_filter (p := fun a : Str => decide (a ∉ acc)) (r := fun a => Val.d (.str a)) (fun z hz => by rw [List.mem_singleton.mp hz]; show _ = _; rw [g4]; unfold strsO; rw [List.map_map]; rfl) (fun a ha => ?_) ?_
    · walk_at "pv all"
      refine cd_ninC end_get (fun h => ?_) (fun h => ?_)
      · refine ⟨(decide_eq_true h).symm, rfl, fun _ => ?_⟩
        walk_at "pv all"
        exact ⟨rfl, rfl⟩
      · exact ⟨(decide_eq_false fun z => z h).symm, rfl, fun z => by cases z⟩
    refine wr_nl (ds := ((T p.nm y.1).filter fun a => decide (a ∉ acc)).map .str) (by rw [List.map_map]; rfl) ?_
    have hfl := List.length_filter_le (fun a => decide (a ∉ acc)) (T p.nm y.1)
    walk_at "pv all"
    refine ext_end (xs := acc.map .str) (ys := ((T p.nm y.1).filter fun a => decide (a ∉ acc)).map .str) end_get (by rw [List.length_map, List.length_map]; omega) ?_
    rw [end_set, ← List.map_append]
    walk_at "pv all"
    exact ⟨_, rfl, rfl⟩
  · obtain ⟨a4, rfl, rfl⟩ := I
    rw [List.take_length]
    refine thenS_nx ?_
    refine frz_lst rfl end_get ?_
    rw [end_set]
    walk_at "pv all"
    exact q
end
end PvK

namespace PvK
open PySem PySem.Spec PyProof.Rows L2 Pv
/-! add, flow -/
theorem put_grow (b : Nat) (core procs : Dt) (g g' : Bool) : putFV (Str.ofString "growing") (.d (.bool g')) (mkFs b core procs g) = mkFs b core procs g' := by
  have h1 : ¬ (Str.ofString "core" = Str.ofString "growing") := by decide +kernel
  have h2 : ¬ (Str.ofString "procs" = Str.ofString "growing") := by decide +kernel
  have h3 : ¬ (Str.ofString "table" = Str.ofString "growing") := by decide +kernel
  unfold mkFs
  simp only [putFV, h1, h2, h3, if_false, if_true]
theorem updN_same (T : Tn) (n k : Str) : updN T n k (T n k) = T := by
  funext x y
  unfold updN
  split
  · rename_i e; rw [e.1, e.2]
  · rfl
theorem updN_two (T : Tn) (n k : Str) (v w : List Str) : updN (updN T n k v) n k w = updN T n k w := by
  funext x y
  unfold updN
  split
  · rfl
  · rfl
section
variable {L : List Ob} {core procs : Dt} {ts : List Pt} {T : Tn} {g : Bool}
theorem add_ok (k : Nat) (base : List Ob) (h : MkL base.length L core procs ts T g) {p : Pt} (hp : p ∈ ts) {q : Str × Nat} (hq : q ∈ p.ks) (atoms : List Str) (hl : (T p.nm q.1).length + atoms.length ≤ 10000000) (Q : Val → List Ob → Prop)
    (hQ : ∀ L', MkL base.length L' core procs ts (updN T p.nm q.1 (addA (T p.nm q.1) atoms)) (g || decide (addA (T p.nm q.1) atoms ≠ T p.nm q.1)) → Q (.d .none) (base ++ L')) :
    W (callP P gl (k + 1) 6 [.ref base.length, .d (.str p.nm), .d (.str q.1), .d (strD atoms)]) (base ++ L) Q := by
  refine w_keep (nm := f6.name) (ps := f6.ps) (N := f6.N) (body := f6.body) (env := [some (.ref base.length), some (.d (.str p.nm)), some (.d (.str q.1)), some (.d (strD atoms)), none, none]) rfl rfl ?_
  have hsl : sizeLine = 16777216 := rfl
  obtain ⟨g1, g2, g3, g4⟩ := h.get rfl hp hq []
  rw [List.append_nil] at g1 g2 g3 g4
  unfold f6
  walk_at "pv all"
  refine fld_ex g1 rfl rfl ?_
  walk_at "pv all"
  refine ix_dk g2 (find_nd2 (f := fun p : Pt => p.nm) h.nd p hp) ?_
  walk_at "pv all"
  refine ix_dk g3 (find_nd2 (f := fun q : Str × Nat => q.1) (h.kd p hp) q hq) ?_
  walk_at "pv all"
  refine ix_L ?_
  refine wl_invL (fun i e m => ∃ (L' : List Ob) (a5 : Option Val), e = [some (.ref base.length), some (.d (.str p.nm)), some (.d (.str q.1)), some (.d (strD atoms)), some (.ref (base.length + q.2)), a5] ∧ m = base ++ L' ∧ MkL base.length L' core procs ts (updN T p.nm q.1 (addA (T p.nm q.1) (atoms.take i))) (g || decide (addA (T p.nm q.1) (atoms.take i) ≠ T p.nm q.1))) ⟨L, none, rfl, rfl, ?_⟩ (fun i x e m hx I => ?_) (fun e m I => ?_)
  · have e1 : addA (T p.nm q.1) (atoms.take 0) = T p.nm q.1 := rfl
    rw [e1, updN_same, show (g || decide (T p.nm q.1 ≠ T p.nm q.1)) = g by rw [decide_eq_false fun z => z rfl, Bool.or_false]]
    exact h
  · obtain ⟨L', a5, rfl, rfl, hm⟩ := I
    obtain ⟨k1, k2, k3, k4⟩ := hm.get rfl hp hq []
    rw [List.append_nil, updN_self] at k4
    rw [List.append_nil] at k1
    have hil : i < atoms.length := (List.getElem?_eq_some_iff.mp hx).1
    obtain ⟨t, ht⟩ := addA_pre (atoms.take i) (T p.nm q.1)
    have hcl : ∀ (as m : List Str), (addA m as).length ≤ m.length + as.length := by
      intro as
      induction as with
      | nil => intro m; exact Nat.le_refl _
      | cons a as ih =>
        intro m
        have := ih (if a ∈ m then m else m ++ [a])
        show (addA (if a ∈ m then m else m ++ [a]) as).length ≤ _
        have h2 : (if a ∈ m then m else m ++ [a]).length ≤ m.length + 1 := by split <;> simp
        rw [List.length_cons]; omega
    have hcl := hcl (atoms.take i) (T p.nm q.1)
    rw [List.length_take] at hcl
    have e3 : addA (T p.nm q.1) (atoms.take (i + 1)) = if x ∈ addA (T p.nm q.1) (atoms.take i) then addA (T p.nm q.1) (atoms.take i) else addA (T p.nm q.1) (atoms.take i) ++ [x] := by
      unfold addA
      rw [List.take_add_one, hx, List.foldl_append]; rfl
    have hnd := hm.tn p.nm q.1
    rw [updN_self] at hnd
    rw [e3]
    generalize addA (T p.nm q.1) (atoms.take i) = cur at hm k4 ht hcl hnd
    walk_at "pv all"
    refine cd_ninC k4 (fun hn => ?_) (fun hn => ?_)
    · rw [if_neg hn]
      walk_at "pv all"
      refine ⟨rcv_lst k4, ?_⟩
      walk_at "pv all"
      refine app_end k4 (by rw [List.length_map, List.length_map]; omega) ?_
      rw [po_set]
      have hv : (cur ++ [x]).Nodup := List.nodup_append.mpr ⟨hnd, by simp, fun a ha b hb => by rw [List.mem_singleton.mp hb]; exact fun e => hn (e ▸ ha)⟩
      have hm2 := hm.set hp hq hv
      rw [updN_two] at hm2
      have es : (Ob.lst ((cur.map PyData.str).map Val.d ++ [.d (.str x)])) = strsO (cur ++ [x]) := by unfold strsO; rw [List.map_append, List.map_append]; rfl
      rw [es]
      walk_at "pv all"
      refine setF_w (po_get (j := 0) hm2.o) rfl (show 4 < 999 by decide) ?_
      have hset : ∀ o : Ob, (base ++ L'.set q.2 (strsO (cur ++ [x]))).set base.length o = base ++ (L'.set q.2 (strsO (cur ++ [x]))).set 0 o := fun o => po_set (j := 0)
      rw [hset, put_grow]
      have hm3 := hm2.grow true
      have hg : (g || decide (cur ++ [x] ≠ T p.nm q.1)) = true := by
        have hne : cur ++ [x] ≠ T p.nm q.1 := fun e => by
          have := congrArg List.length e
          rw [ht, List.length_append, List.length_append, List.length_singleton] at this
          omega
        rw [decide_eq_true hne, Bool.or_true]
      rw [hg]
      walk_at "pv all"
      exact ⟨_, _, rfl, rfl, hm3⟩
    · rw [if_pos hn]
      walk_at "pv all"
      exact ⟨L', _, rfl, rfl, hm⟩
  · obtain ⟨L', a5, rfl, rfl, hm⟩ := I
    rw [List.take_length] at hm
    walk_at "pv all"
    exact hQ L' hm
theorem flow_ok (k : Nat) (base : List Ob) (h : MkL base.length L core procs ts T g) {p : Pt} (hp : p ∈ ts) (key : Str) (keys : List Str) (hkey : key ∈ p.ks.map (·.1)) (hk : ∀ x ∈ keys, x ∈ p.ks.map (·.1)) {N : Nat} (hN : ∀ k, (T p.nm k).length ≤ N) (hN2 : N ≤ 1000) (hl : keys.length ≤ 1000) (Q : Val → List Ob → Prop)
    (hQ : ∀ L', MkL base.length L' core procs ts (stepT T (p.nm, key, keys)) (g || grewB T (p.nm, key, keys)) → Q (.d .none) (base ++ L')) :
    W (callP P gl (k + 2) 8 [.ref base.length, .d (.str p.nm), .d (.str key), .d (strD keys)]) (base ++ L) Q := by
  refine w_keep (nm := f8.name) (ps := f8.ps) (N := f8.N) (body := f8.body) (env := [some (.ref base.length), some (.d (.str p.nm)), some (.d (.str key)), some (.d (strD keys))]) rfl rfl ?_
  obtain ⟨q, hq, rfl⟩ := List.mem_map.mp hkey
  have hgl := gath_len hN keys
  have hNk : N * keys.length ≤ 1000 * 1000 := Nat.mul_le_mul hN2 hl
  have hb : (base ++ L)[base.length]? = some (.ins MK (mkFs base.length core procs g)) := po_get (j := 0) h.o
  have hN1 := hN q.1
  unfold f8
  walk_at "pv all"
  refine mcall_ex2 hb rfl rfl ?_
  walk_at "pv all"
  refine mcall_ex2 hb rfl rfl ?_
  walk_at "pv all"
  refine gathered_ok k base h hp keys hk hN (by omega) _ ?_
  walk_at "pv all"
  refine add_ok k base h hp hq (gathT (T p.nm) keys) (by omega) _ fun L' hL => ?_
  walk_at "pv all"
  exact hQ L' hL
end
end PvK

namespace PvK
open PySem PySem.Spec PyProof.Rows L2 Pv
/-! condition, follow -/
def flowC (c : Cmp) : Flw := (bang, keysE c.2.1 ++ keysE c.2.2)
def flowsPr (R : List Str) : Sm → List Flw
  | .whl t _ => (cmps t).map flowC
  | .iff t _ _ => (cmps t).map flowC
  | s => flowsL R s
theorem T_len {rows : Str → List (Str × Str)} {fa : List Fln} {T : Tn} (h : TOk rows fa T) (n k : Str) : (T n k).length ≤ (rows n).length := by
  have := nodup_le (h.nd n k) (ys := (rows n).map (·.2)) fun a ha => by
    obtain ⟨o, h1, _⟩ := h.snd n k a ha
    exact List.mem_map.mpr ⟨_, h1, rfl⟩
  rw [List.length_map] at this
  exact this
theorem rnd_snoc (xs : List Fln) {i : Nat} {x : Fln} (h : xs[i]? = some x) (s : Tn × Bool) : rndT (xs.take (i + 1)) s = (stepT (rndT (xs.take i) s).1 x, (rndT (xs.take i) s).2 || grewB (rndT (xs.take i) s).1 x) := by
  rw [List.take_add_one, h, rnd_app]; rfl
structure MkS (base L : List Ob) (core procs : Dt) (ts : List Pt) (rows : Str → List (Str × Str)) (fa : List Fln) (s : Tn × Bool) : Prop where
  m : MkL base.length L core procs ts s.1 s.2
  t : TOk rows fa s.1
section
variable {L : List Ob} {core procs : Dt} {ts : List Pt} {rows : Str → List (Str × Str)} {fa : List Fln} {s : Tn × Bool}
theorem flowS_ok (k : Nat) (base : List Ob) (h : MkS base L core procs ts rows fa s) {p : Pt} (hp : p ∈ ts) (hr : ∀ n, (rows n).length ≤ 1000) (f : Flw) (hf : (p.nm, f) ∈ fa) (hkey : f.1 ∈ p.ks.map (·.1)) (hk : ∀ x ∈ f.2, x ∈ p.ks.map (·.1)) (hl : f.2.length ≤ 1000) (Q : Val → List Ob → Prop)
    (hQ : ∀ L', MkS base L' core procs ts rows fa (stepT s.1 (p.nm, f), s.2 || grewB s.1 (p.nm, f)) → Q (.d .none) (base ++ L')) :
    W (callP P gl (k + 2) 8 [.ref base.length, .d (.str p.nm), .d (.str f.1), .d (strD f.2)]) (base ++ L) Q :=
  flow_ok k base h.m hp f.1 f.2 hkey hk (N := 1000) (fun x => Nat.le_trans (T_len h.t p.nm x) (hr p.nm)) (Nat.le_refl _) hl Q fun L' hL => hQ L' ⟨hL, step_ok h.t hf⟩
theorem cond_ok {I A : List Str} (no : NmOk I A) (l : Nat) (base : List Ob) (h : MkS base L core procs ts rows fa s) {p : Pt} (hp : p ∈ ts) (hr : ∀ n, (rows n).length ≤ 1000) {R : List Str} (hU : ∀ x ∈ keysU I A R, x ∈ p.ks.map (·.1)) (t : Ts) (ok : tsOk I A t) (h5 : t.dp ≤ 5) (hf : ∀ f ∈ (cmps t).map flowC, (p.nm, f) ∈ fa) (Q : Val → List Ob → Prop)
    (hQ : ∀ L', MkS base L' core procs ts rows fa (rndT (((cmps t).map flowC).map fun f => (p.nm, f)) s) → Q (.d .none) (base ++ L')) :
    W (callP P gl (l + 8) 9 [.ref base.length, .d (.str p.nm), .d (tsd t)]) (base ++ L) Q := by
  refine w_keep (nm := f9.name) (ps := f9.ps) (N := f9.N) (body := f9.body) (env := [some (.ref base.length), some (.d (.str p.nm)), some (.d (tsd t)), none]) rfl rfl ?_
  have hsl : sizeLine = 16777216 := rfl
  unfold f9
  walk_at "pv all"
  refine compsin_ok (l + 7) t _ _ (by omega) h5 ?_
  refine ix_L ?_
  have hmm : (((cmps t).map flowC).map fun f => (p.nm, f)) = (cmps t).map fun c => (p.nm, flowC c) := by rw [List.map_map]; rfl
  rw [hmm] at hQ
  refine wl_invL (fun i e m => ∃ (L' : List Ob) (a3 : Option Val), e = [some (.ref base.length), some (.d (.str p.nm)), some (.d (tsd t)), a3] ∧ m = base ++ L' ∧ MkS base L' core procs ts rows fa (rndT (((cmps t).map fun c => (p.nm, flowC c)).take i) s)) ⟨L, _, rfl, rfl, h⟩ (fun i c e m hc I => ?_) (fun e m I => ?_)
  · obtain ⟨L', a3, rfl, rfl, hm⟩ := I
    have hcm := List.mem_of_getElem? hc
    obtain ⟨o1, o2, o3, o4⟩ := cmps_ok ok c hcm
    have k1 := ksz_3 o3
    have k2 := ksz_3 o4
    have hci : ((cmps t).map fun c => (p.nm, flowC c))[i]? = some (p.nm, flowC c) := by rw [List.getElem?_map, hc]; rfl
    rw [rnd_snoc _ hci]
    have hb : (base ++ L')[base.length]? = some (.ins MK (mkFs base.length core procs _)) := po_get (j := 0) hm.m.o
    walk_at "pv all"
    refine mcall_ex2 hb rfl rfl ?_
    walk_at "pv all"
    refine ix_tup (j := 1) rfl rfl ?_
    walk_at "pv all"
    refine keysin_ok no c.2.1 (l + 7) _ _ o1 (by omega) (by omega) ?_
    walk_at "pv all"
    refine ix_tup (j := 2) rfl rfl ?_
    walk_at "pv all"
    refine keysin_ok no c.2.2 (l + 7) _ _ o2 (by omega) (by omega) ?_
    refine wr_addL (by rw [List.length_map, List.length_map, keys_len, keys_len]; omega) ?_
    rw [← List.map_append]
    walk_at "pv all"
    refine flowS_ok (l + 5) base hm hp hr (flowC c) (hf _ (List.mem_map.mpr ⟨c, hcm, rfl⟩)) (hU _ List.mem_cons_self) (fun x hx => hU x ((List.mem_append.mp hx).elim (keysE_u o1 x) (keysE_u o2 x))) (by show (keysE c.2.1 ++ keysE c.2.2).length ≤ 1000; rw [List.length_append, keys_len, keys_len]; omega) _ fun L2 hL2 => ?_
    walk_at "pv all"
    exact ⟨L2, _, rfl, rfl, hL2⟩
  · obtain ⟨L', a3, rfl, rfl, hm⟩ := I
    rw [show (cmps t).length = ((cmps t).map fun c => (p.nm, flowC c)).length by rw [List.length_map], List.take_length] at hm
    walk_at "pv all"
    exact hQ L' hm
end
section
variable {L : List Ob} {core : Dt} {ts : List Pt} {rows : Str → List (Str × Str)} {fa : List Fln} {s : Tn × Bool} {m : List (Str × Pc)}
theorem follow_ok {I A : List Str} (no : NmOk I A) (l : Nat) (base : List Ob) (h : MkS base L core (datK pcd m) ts rows fa s) {p : Pt} (hp : p ∈ ts) (hr : ∀ n, (rows n).length ≤ 1000) {pc : Pc} (hm : lkS m p.nm = some pc) (hRl : pc.R.length ≤ 2) (hRs : ∀ r ∈ pc.R, SM r) (hU : ∀ x ∈ keysU I A pc.R, x ∈ p.ks.map (·.1)) (st : Sm) (ok : smOk I A pc.R st) (hf : ∀ f ∈ flowsPr pc.R st, (p.nm, f) ∈ fa) (Q : Val → List Ob → Prop)
    (hQ : ∀ L', MkS base L' core (datK pcd m) ts rows fa (rndT ((flowsPr pc.R st).map fun f => (p.nm, f)) s) → Q (.d .none) (base ++ L')) :
    W (callP P gl (l + 9) 13 [.ref base.length, .d (.str p.nm), .d (smd st)]) (base ++ L) Q := by
  refine w_keep (nm := f13.name) (ps := f13.ps) (N := f13.N) (body := f13.body) (env := [some (.ref base.length), some (.d (.str p.nm)), some (.d (smd st)), none, none, none, none, none]) rfl rfl ?_
  have hsl : sizeLine = 16777216 := rfl
  have hb0 : (base ++ L)[base.length]? = some (.ins MK (mkFs base.length core (datK pcd m) s.2)) := po_get (j := 0) h.m.o
  unfold f13
  cases st with
  | set xs =>
    simp only [smd, flowsPr, flowsL] at hf hQ ⊢
    walk_at "pv all"
    refine ix_tup (j := 0) rfl rfl ?_
    walk_at "pv all"
    refine cs_eq (fun _ => ?_) (fun h => absurd rfl h)
    walk_at "pv all"
    refine ix_tup (j := 1) rfl rfl ?_
    refine ix_T ?_
    refine wl_invL (fun i e m' => ∃ (L' : List Ob) (a4 a5 : Option Val), e = [some (.ref base.length), some (.d (.str p.nm)), some (.d (.tuple [.str "set", .tuple (xs.map sxd)])), some (.d (.str "set")), a4, a5, none, none] ∧ m' = base ++ L' ∧ MkS base L' core (datK pcd m) ts rows fa (rndT ((((xs.map fun p => (p.1, keysE p.2)).map fun f => (p.nm, f))).take i) s)) ⟨L, _, _, rfl, rfl, h⟩ (fun i x e m' hx I => ?_) (fun e m' I => ?_)
    · obtain ⟨L', a4, a5, rfl, rfl, hm'⟩ := I
      have hxm := List.mem_of_getElem? hx
      obtain ⟨o1, o2, o3⟩ := ok.1 x hxm
      have k1 := ksz_3 o3
      have hci : ((xs.map fun p => (p.1, keysE p.2)).map fun f => (p.nm, f))[i]? = some (p.nm, x.1, keysE x.2) := by rw [List.getElem?_map, List.getElem?_map, hx]; rfl
      rw [rnd_snoc _ hci]
      have hb : (base ++ L')[base.length]? = some (.ins MK (mkFs base.length core (datK pcd m) _)) := po_get (j := 0) hm'.m.o
      walk_at "pv all"
      refine mcall_ex2 hb rfl rfl ?_
      walk_at "pv all"
      refine keysin_ok no x.2 (l + 8) _ _ o2 (by omega) (by omega) ?_
      walk_at "pv all"
      refine flowS_ok (l + 6) base hm' hp hr (x.1, keysE x.2) (hf _ (List.mem_map.mpr ⟨x, hxm, rfl⟩)) (hU _ (i_u o1)) (fun y hy => hU y (keysE_u o2 y hy)) (by show (keysE x.2).length ≤ 1000; rw [keys_len]; omega) _ fun L2 hL2 => ?_
      walk_at "pv all"
      exact ⟨L2, _, _, rfl, rfl, hL2⟩
    · obtain ⟨L', a4, a5, rfl, rfl, hm'⟩ := I
      rw [show xs.length = ((xs.map fun p => (p.1, keysE p.2)).map fun f => (p.nm, f)).length by rw [List.length_map, List.length_map], List.take_length] at hm'
      walk_at "pv all"
      exact hQ L' hm'
  | store a e f =>
    simp only [smd, flowsPr, flowsL] at hf hQ ⊢
    walk_at "pv all"
    refine ix_tup (j := 0) rfl rfl ?_
    walk_at "pv all"
    obtain ⟨h1, ⟨h2, h3⟩, h4, h5⟩ := ok
    have k1 := ksz_3 h3
    have k2 := ksz_3 h5
    refine cs_eq (fun h => absurd h (by decide +kernel)) (fun _ => ?_)
    walk_at "pv all"
    refine cs_eq (fun _ => ?_) (fun h => absurd rfl h)
    walk_at "pv all"
    refine ix_tup (j := 2) rfl rfl ?_
    walk_at "pv all"
    refine keysin_ok no e (l + 8) _ _ h2 (by omega) (by omega) ?_
    walk_at "pv all"
    refine ix_tup (j := 3) rfl rfl ?_
    walk_at "pv all"
    refine keysin_ok no f (l + 8) _ _ h4 (by omega) (by omega) ?_
    refine wr_addL (by rw [List.length_map, List.length_map, keys_len, keys_len]; omega) ?_
    walk_at "pv all"
    refine ix_tup (j := 1) rfl rfl ?_
    refine wr_addS (hk_sz (no.a _ h1)) ?_
    walk_at "pv all"
    refine wr_addL (ys := [.str (hk a)]) (by rw [List.length_append, List.length_map, List.length_map, keys_len, keys_len]; show _ + 1 ≤ _; omega) ?_
    have es : (keysE e).map PyData.str ++ (keysE f).map PyData.str ++ [PyData.str (hk a)] = (keysE e ++ keysE f ++ [hk a]).map .str := by rw [List.map_append, List.map_append]; rfl
    rw [es]
    walk_at "pv all"
    refine mcall_ex2 hb0 rfl rfl ?_
    walk_at "pv all"
    refine ix_tup (j := 1) rfl rfl ?_
    walk_at "pv all"
    refine wr_addS (bk_sz (no.a _ h1)) ?_
    walk_at "pv all"
    refine flowS_ok (l + 6) base h hp hr (bk a, keysE e ++ keysE f ++ [hk a]) (hf _ (List.mem_singleton.mpr rfl)) (hU _ (bk_u h1)) (fun y hy => hU y ((List.mem_append.mp hy).elim (fun hy => (List.mem_append.mp hy).elim (keysE_u h2 y) (keysE_u h4 y)) fun hy => by rw [List.mem_singleton.mp hy]; exact hk_u h1)) (by show (keysE e ++ keysE f ++ [hk a]).length ≤ 1000; rw [List.length_append, List.length_append, keys_len, keys_len]; show _ + 1 ≤ _; omega) _ fun L2 hL2 => ?_
    walk_at "pv all"
    exact hQ L2 hL2
  | push e a =>
    simp only [smd, flowsPr, flowsL] at hf hQ ⊢
    walk_at "pv all"
    refine ix_tup (j := 0) rfl rfl ?_
    walk_at "pv all"
    obtain ⟨h1, h2, h3⟩ := ok
    have k1 := ksz_3 h3
    refine cs_eq (fun h => absurd h (by decide +kernel)) (fun _ => ?_)
    walk_at "pv all"
    refine cs_eq (fun h => absurd h (by decide +kernel)) (fun _ => ?_)
    walk_at "pv all"
    refine cs_eq (fun _ => ?_) (fun h => absurd rfl h)
    walk_at "pv all"
    refine mcall_ex2 hb0 rfl rfl ?_
    walk_at "pv all"
    refine ix_tup (j := 2) rfl rfl ?_
    walk_at "pv all"
    refine wr_addS (bk_sz (no.a _ h1)) ?_
    walk_at "pv all"
    refine ix_tup (j := 1) rfl rfl ?_
    walk_at "pv all"
    refine keysin_ok no e (l + 8) _ _ h2 (by omega) (by omega) ?_
    walk_at "pv all"
    refine ix_tup (j := 2) rfl rfl ?_
    refine wr_addS (hk_sz (no.a _ h1)) ?_
    walk_at "pv all"
    refine wr_addL (ys := [.str (hk a)]) (by rw [List.length_map, keys_len]; show _ + 1 ≤ _; omega) ?_
    have es : (keysE e).map PyData.str ++ [PyData.str (hk a)] = (keysE e ++ [hk a]).map .str := by rw [List.map_append]; rfl
    rw [es]
    walk_at "pv all"
    refine flowS_ok (l + 6) base h hp hr (bk a, keysE e ++ [hk a]) (hf _ (List.mem_singleton.mpr rfl)) (hU _ (bk_u h1)) (fun y hy => hU y ((List.mem_append.mp hy).elim (keysE_u h2 y) fun hy => by rw [List.mem_singleton.mp hy]; exact hk_u h1)) (by show (keysE e ++ [hk a]).length ≤ 1000; rw [List.length_append, keys_len]; show _ + 1 ≤ _; omega) _ fun L2 hL2 => ?_
    walk_at "pv all"
    exact hQ L2 hL2
  | pop x a =>
    simp only [smd, flowsPr, flowsL] at hf hQ ⊢
    walk_at "pv all"
    refine ix_tup (j := 0) rfl rfl ?_
    walk_at "pv all"
    obtain ⟨h1, h2⟩ := ok
    refine cs_eq (fun h => absurd h (by decide +kernel)) (fun _ => ?_)
    walk_at "pv all"
    refine cs_eq (fun h => absurd h (by decide +kernel)) (fun _ => ?_)
    walk_at "pv all"
    refine cs_eq (fun h => absurd h (by decide +kernel)) (fun _ => ?_)
    walk_at "pv all"
    refine cs_eq (fun _ => ?_) (fun h => absurd rfl h)
    walk_at "pv all"
    refine mcall_ex2 hb0 rfl rfl ?_
    walk_at "pv all"
    refine ix_tup (j := 1) rfl rfl ?_
    walk_at "pv all"
    refine ix_tup (j := 2) rfl rfl ?_
    refine wr_addS (hk_sz (no.a _ h2)) ?_
    walk_at "pv all"
    refine ix_tup (j := 2) rfl rfl ?_
    walk_at "pv all"
    refine wr_addS (bk_sz (no.a _ h2)) ?_
    walk_at "pv all"
    refine flowS_ok (l + 6) base h hp hr (x, [hk a, bk a]) (hf _ (List.mem_singleton.mpr rfl)) (hU _ (i_u h1)) (fun y hy => hU y ((List.mem_cons.mp hy).elim (fun e => by rw [e]; exact hk_u h2) fun hy => by rw [List.mem_singleton.mp hy]; exact bk_u h2)) (show 2 ≤ 1000 by decide) _ fun L2 hL2 => ?_
    walk_at "pv all"
    exact hQ L2 hL2
  | give es =>
    simp only [smd, flowsPr, flowsL] at hf hQ ⊢
    walk_at "pv all"
    refine ix_tup (j := 0) rfl rfl ?_
    walk_at "pv all"
    obtain ⟨h1, h2⟩ := ok
    refine cs_eq (fun h => absurd h (by decide +kernel)) (fun _ => ?_)
    walk_at "pv all"
    refine cs_eq (fun h => absurd h (by decide +kernel)) (fun _ => ?_)
    walk_at "pv all"
    refine cs_eq (fun h => absurd h (by decide +kernel)) (fun _ => ?_)
    walk_at "pv all"
    refine cs_eq (fun h => absurd h (by decide +kernel)) (fun _ => ?_)
    walk_at "pv all"
    refine cs_eq (fun _ => ?_) (fun h => absurd rfl h)
    walk_at "pv all"
    refine fld_ex hb0 rfl rfl ?_
    walk_at "pv all"
    refine ix_t dct_dat hm ?_
    walk_at "pv all"
    refine ix_tup (j := 2) rfl rfl ?_
    walk_at "pv all"
    refine ix_tup (j := 1) rfl rfl ?_
    walk_at "pv all"
    refine ix_zipT (f := PyData.str) (g := exd) ?_
    refine wl_invL (fun i e m' => ∃ (L' : List Ob) (a5 a7 : Option Val), e = [some (.ref base.length), some (.d (.str p.nm)), some (.d (.tuple [.str "give", .tuple (es.map exd)])), some (.d (.str "give")), none, a5, none, a7] ∧ m' = base ++ L' ∧ MkS base L' core (datK pcd m) ts rows fa (rndT (((((pc.R.zip es).map fun p => (gk p.1, keysE p.2)).map fun f => (p.nm, f))).take i) s)) ⟨L, _, _, rfl, rfl, h⟩ (fun i x e m' hx I => ?_) (fun e m' I => ?_)
    · obtain ⟨L', a5, a7, rfl, rfl, hm'⟩ := I
      have hxm := List.mem_of_getElem? hx
      obtain ⟨z1, z2⟩ := List.of_mem_zip hxm
      obtain ⟨o2, o3⟩ := h2 x.2 z2
      have k1 := ksz_3 o3
      have hci : (((pc.R.zip es).map fun p => (gk p.1, keysE p.2)).map fun f => (p.nm, f))[i]? = some (p.nm, gk x.1, keysE x.2) := by rw [List.getElem?_map, List.getElem?_map, hx]; rfl
      rw [rnd_snoc _ hci]
      have hb : (base ++ L')[base.length]? = some (.ins MK (mkFs base.length core (datK pcd m) _)) := po_get (j := 0) hm'.m.o
      walk_at "pv all"
      refine mcall_ex2 hb rfl rfl ?_
      walk_at "pv all"
      refine wr_addS (gk_sz (hRs _ z1)) ?_
      walk_at "pv all"
      refine keysin_ok no x.2 (l + 8) _ _ o2 (by omega) (by omega) ?_
      walk_at "pv all"
      refine flowS_ok (l + 6) base hm' hp hr (gk x.1, keysE x.2) (hf _ (List.mem_map.mpr ⟨x, hxm, rfl⟩)) (hU _ (gk_u z1)) (fun y hy => hU y (keysE_u o2 y hy)) (by show (keysE x.2).length ≤ 1000; rw [keys_len]; omega) _ fun L2 hL2 => ?_
      walk_at "pv all"
      exact ⟨L2, _, _, rfl, rfl, hL2⟩
    · obtain ⟨L', a5, a7, rfl, rfl, hm'⟩ := I
      rw [show (pc.R.zip es).length = (((pc.R.zip es).map fun p => (gk p.1, keysE p.2)).map fun f => (p.nm, f)).length by rw [List.length_map, List.length_map], List.take_length] at hm'
      walk_at "pv all"
      exact hQ L' hm'
  | pause =>
    simp only [smd, flowsPr, flowsL] at hf hQ ⊢
    walk_at "pv all"
    refine ix_tup (j := 0) rfl rfl ?_
    walk_at "pv all"
    refine cs_eq (fun h => absurd h (by decide +kernel)) (fun _ => ?_)
    walk_at "pv all"
    refine cs_eq (fun h => absurd h (by decide +kernel)) (fun _ => ?_)
    walk_at "pv all"
    refine cs_eq (fun h => absurd h (by decide +kernel)) (fun _ => ?_)
    walk_at "pv all"
    refine cs_eq (fun h => absurd h (by decide +kernel)) (fun _ => ?_)
    walk_at "pv all"
    refine cs_eq (fun h => absurd h (by decide +kernel)) (fun _ => ?_)
    walk_at "pv all"
    refine cs_eq (fun h => absurd h (by decide +kernel)) (fun _ => ?_)
    walk_at "pv all"
    refine cd_inU (ys := [Str.ofString "if", Str.ofString "while"]) (fun h => absurd h (by decide +kernel)) (fun _ => ?_)
    walk_at "pv all"
    exact hQ L h
  | whl t b =>
    simp only [smd, flowsPr, flowsL] at hf hQ ⊢
    walk_at "pv all"
    refine ix_tup (j := 0) rfl rfl ?_
    walk_at "pv all"
    refine cs_eq (fun h => absurd h (by decide +kernel)) (fun _ => ?_)
    walk_at "pv all"
    refine cs_eq (fun h => absurd h (by decide +kernel)) (fun _ => ?_)
    walk_at "pv all"
    refine cs_eq (fun h => absurd h (by decide +kernel)) (fun _ => ?_)
    walk_at "pv all"
    refine cs_eq (fun h => absurd h (by decide +kernel)) (fun _ => ?_)
    walk_at "pv all"
    refine cs_eq (fun h => absurd h (by decide +kernel)) (fun _ => ?_)
    walk_at "pv all"
    refine cs_eq (fun h => absurd h (by decide +kernel)) (fun _ => ?_)
    walk_at "pv all"
    refine cd_inU (ys := [Str.ofString "if", Str.ofString "while"]) (fun _ => ?_) (fun h => absurd (show Str.ofString "while" ∈ [Str.ofString "if", Str.ofString "while"] by simp) h)
    walk_at "pv all"
    refine mcall_ex2 hb0 rfl rfl ?_
    walk_at "pv all"
    refine ix_tup (j := 1) rfl rfl ?_
    walk_at "pv all"
    refine cond_ok no l base h hp hr hU t ok.1 ok.2 hf _ fun L2 hL2 => ?_
    walk_at "pv all"
    exact hQ L2 hL2
  | iff t b1 b2 =>
    simp only [smd, flowsPr, flowsL] at hf hQ ⊢
    walk_at "pv all"
    refine ix_tup (j := 0) rfl rfl ?_
    walk_at "pv all"
    refine cs_eq (fun h => absurd h (by decide +kernel)) (fun _ => ?_)
    walk_at "pv all"
    refine cs_eq (fun h => absurd h (by decide +kernel)) (fun _ => ?_)
    walk_at "pv all"
    refine cs_eq (fun h => absurd h (by decide +kernel)) (fun _ => ?_)
    walk_at "pv all"
    refine cs_eq (fun h => absurd h (by decide +kernel)) (fun _ => ?_)
    walk_at "pv all"
    refine cs_eq (fun h => absurd h (by decide +kernel)) (fun _ => ?_)
    walk_at "pv all"
    refine cs_eq (fun h => absurd h (by decide +kernel)) (fun _ => ?_)
    walk_at "pv all"
    refine cd_inU (ys := [Str.ofString "if", Str.ofString "while"]) (fun _ => ?_) (fun h => absurd (show Str.ofString "if" ∈ [Str.ofString "if", Str.ofString "while"] by simp) h)
    walk_at "pv all"
    refine mcall_ex2 hb0 rfl rfl ?_
    walk_at "pv all"
    refine ix_tup (j := 1) rfl rfl ?_
    walk_at "pv all"
    refine cond_ok no l base h hp hr hU t ok.1 ok.2 hf _ fun L2 hL2 => ?_
    walk_at "pv all"
    exact hQ L2 hL2
end
end PvK

namespace PvK
open PySem PySem.Spec PyProof.Rows L2 Pv
/-! settle, mark, row -/
theorem ws_while {gl : List (Str × Dt)} {c : Nat → List Val → M Val} {t : T} {x b : Ss} {Q : Fl → List Ob → Prop} (I : Nat → Sl → List Ob → Prop)
    (hs : ∀ m e mh, I m e mh → WT gl c t e mh fun r m1 => (r = true → WS gl c x e m1 fun f m2 => match f with | .nx e2 => ∃ m', m' < m ∧ 0 < m' ∧ I m' e2 m2 | _ => False) ∧ (r = false → WS gl c b e m1 Q)) :
    ∀ (n m : Nat) (env : Sl) (mh : List Ob), I m env mh → 0 < m → m ≤ n → WS gl c (.cons (.while n t x) b) env mh Q := by
  have h : ∀ (n m : Nat) (env : Sl) (mh : List Ob), I m env mh → 0 < m → m ≤ n → W (loopW (Pv.evT gl c t) (evSs gl c x) n env) mh (thenS gl c b Q) := by
    intro n
    induction n with
    | zero => intro m env mh _ h1 h2; omega
    | succ n ih =>
      intro m env mh hI h1 h2
      refine W.bind (W.mono (hs m env mh hI) fun r m1 ⟨ht, hf⟩ => ?_)
      cases r with
      | false => exact W.pure (thenS_nx (hf rfl))
      | true =>
        refine W.bind (W.mono (ht rfl) fun f m2 hm => ?_)
        cases f with
        | nx e2 =>
          obtain ⟨m', h3, h4, h5⟩ := hm
          exact ih m' e2 m2 h5 h4 (by omega)
        | _ => exact hm.elim
  intro n m env mh hI h1 h2
  exact ws_seq (h n m env mh hI h1 h2)
theorem flat_foldl {α β γ : Type} (f : γ → β → γ) (g : α → List β) : ∀ (xs : List α) (s : γ), (xs.flatMap g).foldl f s = xs.foldl (fun s x => (g x).foldl f s) s
  | [], _ => rfl
  | x :: xs, s => by rw [List.flatMap_cons, List.foldl_append, List.foldl_cons, flat_foldl f g xs]
abbrev Stt := Pc × Sm
def flowsQ (q : Stt) : List Fln := (flowsPr q.1.R q.2).map fun f => (q.1.nm, f)
def allSt (cs : List Pc) : List Stt := cs.flatMap fun pc => (stms pc.b).map fun s => (pc, s)
def allFl (cs : List Pc) : List Fln := (allSt cs).flatMap flowsQ
abbrev std (q : Stt) : Dt := .tuple [.str q.1.nm, smd q.2]
structure CsOk (cs : List Pc) (ts : List Pt) (m : List (Str × Pc)) (rows : Str → List (Str × Str)) : Prop where
  l : cs.length ≤ 2
  c : ∀ pc ∈ cs, ∃ I A, PcOk pc I A ∧ (∃ p ∈ ts, p.nm = pc.nm ∧ ∀ x ∈ keysU I A pc.R, x ∈ p.ks.map (·.1)) ∧ lkS m pc.nm = some pc ∧ rows pc.nm = rowsP pc.ps
  r : ∀ n, (rows n).length ≤ 1000
section
variable {L : List Ob} {ts : List Pt} {rows : Str → List (Str × Str)} {cs : List Pc} {m : List (Str × Pc)}
theorem settle_ok (l : Nat) (base : List Ob) {s : Tn × Bool} (h : MkS base L (.tuple (cs.map pcd)) (datK pcd m) ts rows (allFl cs) s) (ok : CsOk cs ts m rows) (U : List (Str × Str)) (hU1 : ∀ p ∈ allFl cs, (p.1, p.2.1) ∈ U) (hU2 : U.length ≤ 200) (Q : Val → List Ob → Prop)
    (hQ : ∀ L' T, MkS base L' (.tuple (cs.map pcd)) (datK pcd m) ts rows (allFl cs) (T, false) → (∀ p ∈ allFl cs, ∀ k ∈ p.2.2, ∀ a ∈ T p.1 k, a ∈ T p.1 p.2.1) → Q (.d .none) (base ++ L')) :
    W (callP P gl (l + 10) 14 [.ref base.length]) (base ++ L) Q := by
  refine w_keep (nm := f14.name) (ps := f14.ps) (N := f14.N) (body := f14.body) (env := [some (.ref base.length), none, none, none, none]) rfl rfl ?_
  have hsl : sizeLine = 16777216 := rfl
  have hb0 : (base ++ L)[base.length]? = some (.ins MK (mkFs base.length (.tuple (cs.map pcd)) (datK pcd m) s.2)) := po_get (j := 0) h.m.o
  have hcl := ok.l
  unfold f14
  walk_at "pv all"
  refine fld_ex hb0 rfl rfl ?_
  refine ix_T ?_
  refine wc_map (r := fun pc : Pc => (stms pc.b).map fun s => Val.d (std (pc, s))) gnil (fun pc hpc => ?_) ?_
  · obtain ⟨I, A, po, _⟩ := ok.c pc hpc
    have hdp := po.dp
    walk_at "pv all"
    refine ix_tup (j := 8) rfl rfl ?_
    walk_at "pv all"
    refine stin_ok (l + 9) pc.b _ _ (by omega) po.sl ?_
    refine ix_L ?_
    refine wc_map (r := fun s : Sm => Val.d (std (pc, s))) gnil (fun s hs => ?_) ?_
    · walk_at "pv all"
      refine ix_tup (j := 0) rfl rfl ?_
      walk_at "pv all"
      exact ⟨rfl, rfl⟩
    exact ⟨rfl, rfl⟩
  have hfl : (cs.map fun pc : Pc => (stms pc.b).map fun s => Val.d (std (pc, s))).flatten = ((allSt cs).map std).map Val.d := by
    unfold allSt
    rw [← List.flatMap_def, List.map_flatMap, List.map_flatMap]
    congr 1
    funext pc
    rw [List.map_map, List.map_map]; rfl
  have hal : (allSt cs).length ≤ 10000 * 2 := by
    have h1 := flat_le (f := fun pc : Pc => (stms pc.b).map fun s => (pc, s)) (n := 10000) (xs := cs) fun pc hpc => by
      obtain ⟨I, A, po, _⟩ := ok.c pc hpc
      rw [List.length_map]; exact po.sl
    unfold allSt
    omega
  rw [hfl]
  refine ⟨by rw [List.length_map, List.length_map]; omega, ?_⟩
  refine wr_nl (ds := (allSt cs).map std) rfl ?_
  walk_at "pv all"
  refine setF_w hb0 rfl (show 4 < 999 by decide) ?_
  have hset : ∀ (L : List Ob) (o : Ob), (base ++ L).set base.length o = base ++ L.set 0 o := fun L o => po_set (j := 0)
  rw [hset, put_grow]
  have hS1 : MkS base (L.set 0 (.ins MK (mkFs base.length (.tuple (cs.map pcd)) (datK pcd m) true))) (.tuple (cs.map pcd)) (datK pcd m) ts rows (allFl cs) (s.1, true) := ⟨h.m.grow true, h.t⟩
  generalize L.set 0 (.ins MK (mkFs base.length (.tuple (cs.map pcd)) (datK pcd m) true)) = L1 at hS1
  have hBd : ∀ {T : Tn}, TOk rows (allFl cs) T → szT U T ≤ U.length * 1000 := fun ht => sz_bound U fun u _ => Nat.le_trans (T_len ht u.1 u.2) (ok.r u.1)
  refine ws_while (fun k e mh => ∃ (L' : List Ob) (T : Tn) (g : Bool) (a2 a3 : Option Val), e = [some (.ref base.length), some (.d (.list ((allSt cs).map std))), a2, a3, none] ∧ mh = base ++ L' ∧ MkS base L' (.tuple (cs.map pcd)) (datK pcd m) ts rows (allFl cs) (T, g) ∧ (g = true → U.length * 1000 + 2 ≤ k + szT U T) ∧ (g = false → ∀ p ∈ allFl cs, ∀ x ∈ p.2.2, ∀ a ∈ T p.1 x, a ∈ T p.1 p.2.1)) (fun k e mh I => ?_) 1000000 (U.length * 1000 + 2) _ _ ⟨L1, s.1, true, none, none, rfl, rfl, hS1, fun _ => by omega, fun z => by cases z⟩ (by omega) (by omega)
  obtain ⟨L', T, g, a2, a3, rfl, rfl, hm, hk1, hk2⟩ := I
  have hb : (base ++ L')[base.length]? = some (.ins MK (mkFs base.length (.tuple (cs.map pcd)) (datK pcd m) g)) := po_get (j := 0) hm.m.o
  walk_at "pv all"
  refine fld_ex hb rfl rfl ?_
  walk_at "pv all"
  cases g with
  | false =>
    refine pick_f ?_
    walk_at "pv all"
    exact hQ L' T hm (hk2 rfl)
  | true =>
    refine pick_t ?_
    have hk1 := hk1 rfl
    walk_at "pv all"
    refine setF_w hb rfl (show 4 < 999 by decide) ?_
    rw [hset, put_grow]
    have hS2 : MkS base (L'.set 0 (.ins MK (mkFs base.length (.tuple (cs.map pcd)) (datK pcd m) false))) (.tuple (cs.map pcd)) (datK pcd m) ts rows (allFl cs) (T, false) := ⟨hm.m.grow false, hm.t⟩
    generalize L'.set 0 (.ins MK (mkFs base.length (.tuple (cs.map pcd)) (datK pcd m) false)) = L2 at hS2
    have hrt := hBd hm.t
    walk_at "pv all"
    refine ix_L ?_
    refine wl_invL (fun i e mh => ∃ (L' : List Ob) (a2 a3 : Option Val), e = [some (.ref base.length), some (.d (.list ((allSt cs).map std))), a2, a3, none] ∧ mh = base ++ L' ∧ MkS base L' (.tuple (cs.map pcd)) (datK pcd m) ts rows (allFl cs) (rndT (((allSt cs).take i).flatMap flowsQ) (T, false))) ⟨L2, _, _, rfl, rfl, hS2⟩ (fun i q e mh hq I => ?_) (fun e mh I => ?_)
    · obtain ⟨L3, a2, a3, rfl, rfl, hm3⟩ := I
      have hqm := List.mem_of_getElem? hq
      obtain ⟨pc, hpc, hq2⟩ := List.mem_flatMap.mp hqm
      obtain ⟨st, hst, rfl⟩ := List.mem_map.mp hq2
      obtain ⟨I, A, po, ⟨p, hp, hpn, hpu⟩, hlk, hrw⟩ := ok.c pc hpc
      rw [flat_snoc hq, rnd_app]
      have hb3 : (base ++ L3)[base.length]? = some (.ins MK (mkFs base.length (.tuple (cs.map pcd)) (datK pcd m) _)) := po_get (j := 0) hm3.m.o
      walk_at "pv all"
      refine mcall_ex2 hb3 rfl rfl ?_
      walk_at "pv all"
      show W (callP P gl (l + 9) 13 [.ref base.length, .d (.str pc.nm), .d (smd st)]) _ _
      rw [← hpn]
      refine follow_ok po.no l base hm3 hp ok.r (by rw [hpn]; exact hlk) po.Rl po.R hpu st (po.sm st hst) (fun f hf => List.mem_flatMap.mpr ⟨(pc, st), hqm, List.mem_map.mpr ⟨f, hf, by rw [hpn]⟩⟩) _ fun L4 hL4 => ?_
      walk_at "pv all"
      refine ⟨L4, _, _, rfl, rfl, ?_⟩
      unfold flowsQ
      rw [← hpn]
      exact hL4
    · obtain ⟨L3, a2, a3, rfl, rfl, hm3⟩ := I
      rw [List.take_length] at hm3
      have hfe : (allSt cs).flatMap flowsQ = allFl cs := rfl
      rw [hfe] at hm3
      walk_at "pv all"
      have hg := rnd_grew (U := U) (allFl cs) T hU1
      have hst := rnd_still (allFl cs) T
      have hrt2 := hBd hm3.t
      generalize rndT (allFl cs) (T, false) = s2 at hm3 hg hst hrt2
      obtain ⟨T2, g2⟩ := s2
      cases g2 with
      | true =>
        have hg := hg rfl
        refine ⟨k - 1, by omega, by omega, L3, T2, true, _, _, rfl, rfl, hm3, fun _ => by show _ ≤ k - 1 + szT U T2; have hg : szT U T < szT U T2 := hg; omega, fun z => by cases z⟩
      | false =>
        obtain ⟨h1, h2⟩ := hst rfl
        have h1 : T2 = T := h1
        have hrt2 : szT U T2 ≤ U.length * 1000 := hrt2
        subst h1
        exact ⟨k - 1, by omega, by omega, L3, T2, false, _, _, rfl, rfl, hm3, (fun z => by cases z), fun _ => h2⟩
end
end PvK

namespace PvK
open PySem PySem.Spec PyProof.Rows L2 Pv
/-! mark, row -/
theorem patoms_ok {pc : Pc} {I A : List Str} (ok : PcOk pc I A) (k : Nat) (mh : List Ob) (Q : Val → List Ob → Prop) (q : Q (.d (strT ((rowsP pc.ps).map (·.2)))) mh) : W (callP P gl (k + 1) 1 [.d (pcd pc)]) mh Q := by
  refine w_pure (nm := f1.name) (ps := f1.ps) (N := f1.N) (body := f1.body) (env := [some (.d (pcd pc)), none, none, none]) rfl rfl ?_
  have hsl : sizeLine = 16777216 := rfl
  have hpl := ok.psl
  unfold f1
  walk_at "pv all"
  refine ix_tup (j := 1) rfl rfl ?_
  refine ix_T ?_
  refine wl_invL (fun i e m => ∃ (a2 a3 : Option Val), e = [some (.d (pcd pc)), some (.ref mh.length), a2, a3] ∧ m = mh ++ [strsO ((rowsP (pc.ps.take i)).map (·.2))]) ⟨_, _, rfl, rfl⟩ (fun i x e m hx I => ?_) (fun e m I => ?_)
  · obtain ⟨a2, a3, rfl, rfl⟩ := I
    obtain ⟨hs, _⟩ := ok.ps x (List.mem_of_getElem? hx)
    have hi : i < pc.ps.length := (List.getElem?_eq_some_iff.mp hx).1
    have e1 : rowsP (pc.ps.take (i + 1)) = rowsP (pc.ps.take i) ++ rowsA x := by unfold rowsP; rw [List.take_add_one, hx, List.flatMap_append]; simp
    have hb : (rowsP (pc.ps.take i)).length ≤ 2 * i := by
      have h := flat_le (f := rowsA) (n := 2) (xs := pc.ps.take i) fun y _ => by unfold rowsA; split <;> simp
      rw [List.length_take] at h
      unfold rowsP
      omega
    rw [e1]
    generalize rowsP (pc.ps.take i) = acc at hb
    obtain ⟨b, x⟩ := x
    cases b with
    | true =>
      walk_at "pv all"
      refine cs_eq (fun _ => ?_) (fun h => absurd rfl h)
      walk_at "pv all"
      refine ⟨rcv_lst end_get, ?_⟩
      walk_at "pv all"
      refine wr_addS (ahk_sz hs) ?_
      walk_at "pv all"
      refine app_end end_get (by rw [List.length_map, List.length_map, List.length_map]; omega) ?_
      rw [end_set]
      walk_at "pv all"
      refine ⟨rcv_lst end_get, ?_⟩
      walk_at "pv all"
      refine wr_addS (ak_sz hs) ?_
      walk_at "pv all"
      refine app_end end_get (by rw [List.length_append, List.length_map, List.length_map, List.length_map]; show _ + 1 < _; omega) ?_
      rw [end_set]
      walk_at "pv all"
      exact ⟨_, _, rfl, by rw [List.map_append (f := Prod.snd)]; unfold strsO; rw [List.map_append, List.map_append, List.append_assoc]; rfl⟩
    | false =>
      walk_at "pv all"
      refine cs_eq (fun h => absurd h (show ¬ (Str.ofString "int" = Str.ofString "array") by decide +kernel)) (fun _ => ?_)
      walk_at "pv all"
      refine ⟨rcv_lst end_get, ?_⟩
      walk_at "pv all"
      refine wr_addS (ak_sz hs) ?_
      walk_at "pv all"
      refine app_end end_get (by rw [List.length_map, List.length_map, List.length_map]; omega) ?_
      rw [end_set]
      walk_at "pv all"
      exact ⟨_, _, rfl, by rw [List.map_append (f := Prod.snd)]; unfold strsO; rw [List.map_append, List.map_append]; rfl⟩
  · obtain ⟨a2, a3, rfl, rfl⟩ := I
    rw [List.take_length]
    refine thenS_nx ?_
    refine frz_lst rfl end_get ?_
    rw [end_set]
    walk_at "pv all"
    exact q
def mkT (T : Tn) (pc : Pc) (key : Str) : List Str := ((rowsP pc.ps).map (·.2)).filter fun a => decide (a ∈ T pc.nm key)
section
variable {L : List Ob} {core procs : Dt} {ts : List Pt} {T : Tn} {g : Bool} {pc : Pc} {I A : List Str}
theorem mark_ok (k : Nat) (base : List Ob) (h : MkL base.length L core procs ts T g) (ok : PcOk pc I A) {p : Pt} (hp : p ∈ ts) (hn : p.nm = pc.nm) (key : Str) (hk : key ∈ p.ks.map (·.1)) (Q : Val → List Ob → Prop) (q : Q (.d (strT (mkT T pc key))) (base ++ L)) :
    W (callP P gl (k + 2) 15 [.ref base.length, .d (pcd pc), .d (.str key)]) (base ++ L) Q := by
  refine w_pure (nm := f15.name) (ps := f15.ps) (N := f15.N) (body := f15.body) (env := [some (.ref base.length), some (.d (pcd pc)), some (.d (.str key)), none, none]) rfl rfl ?_
  obtain ⟨y, hy, rfl⟩ := List.mem_map.mp hk
  obtain ⟨g1, g2, g3, g4⟩ := h.get rfl hp hy []
  rw [List.append_nil] at g1 g2 g3 g4
  unfold f15
  walk_at "pv all"
  refine fld_ex g1 rfl rfl ?_
  walk_at "pv all"
  refine ix_tup (j := 0) rfl rfl ?_
  rw [← hn]
  refine ix_dk g2 (find_nd2 (f := fun p : Pt => p.nm) h.nd p hp) ?_
  walk_at "pv all"
  refine ix_dk g3 (find_nd2 (f := fun q : Str × Nat => q.1) (h.kd p hp) y hy) ?_
  walk_at "pv all"
  have hpa := patoms_ok ok k (base ++ L)
  refine hpa _ ?_
  refine ix_T ?_
  refine wc_filter (p := fun a : Str => decide (a ∈ T p.nm y.1)) (r := fun a => Val.d (.str a)) gnil (fun a ha => ?_) ?_
  · walk_at "pv all"
    refine cd_inC g4 (fun h => ?_) (fun h => ?_)
    · refine ⟨(decide_eq_true h).symm, rfl, fun _ => ?_⟩
      walk_at "pv all"
      exact ⟨rfl, rfl⟩
    · exact ⟨(decide_eq_false h).symm, rfl, fun z => by cases z⟩
  unfold mkT at q
  rw [← hn] at q
  refine wr_nl (ds := (((rowsP pc.ps).map (·.2)).filter fun a => decide (a ∈ T p.nm y.1)).map .str) (by rw [List.map_map]; rfl) ?_
  walk_at "pv all"
  exact q
theorem row_ok (k : Nat) (base : List Ob) (h : MkL base.length L core procs ts T g) (ok : PcOk pc I A) {p : Pt} (hp : p ∈ ts) (hn : p.nm = pc.nm) (hU : ∀ x ∈ keysU I A pc.R, x ∈ p.ks.map (·.1)) (Q : Val → List Ob → Prop) (q : Q (.d (rowMk pc (mkT T pc))) (base ++ L)) :
    W (callP P gl (k + 3) 16 [.ref base.length, .d (pcd pc)]) (base ++ L) Q := by
  refine w_pure (nm := f16.name) (ps := f16.ps) (N := f16.N) (body := f16.body) (env := [some (.ref base.length), some (.d (pcd pc)), none, none, none, none, none]) rfl rfl ?_
  have hb : (base ++ L)[base.length]? = some (.ins MK (mkFs base.length core procs g)) := po_get (j := 0) h.o
  unfold f16
  walk_at "pv all"
  refine ix_tup (j := 2) rfl rfl ?_
  refine ix_T ?_
  refine wc_map (r := fun r => Val.d (strT (mkT T pc (gk r)))) gnil (fun r hr => ?_) ?_
  · walk_at "pv all"
    refine mcall_ex2 hb rfl rfl ?_
    walk_at "pv all"
    refine wr_addS (gk_sz (ok.R r hr)) ?_
    walk_at "pv all"
    refine mark_ok k base h ok hp hn _ (hU _ (gk_u hr)) _ ?_
    exact ⟨rfl, rfl⟩
  refine wr_nl (ds := pc.R.map fun r => strT (mkT T pc (gk r))) (by rw [List.map_map]; rfl) ?_
  walk_at "pv all"
  refine ix_tup (j := 1) rfl rfl ?_
  refine ix_T ?_
  refine wc_filter (p := fun q : Bool × Str => q.1) (r := fun q => Val.d (.tuple [strT (mkT T pc (hk q.2)), strT (mkT T pc (bk q.2))])) gnil (fun q hq => ?_) ?_
  · obtain ⟨b, x⟩ := q
    obtain ⟨h3, h4, _⟩ := ok.ps _ hq
    walk_at "pv all"
    cases b with
    | true =>
      refine cs_eq (fun _ => ?_) (fun h => absurd rfl h)
      refine ⟨rfl, rfl, fun _ => ?_⟩
      walk_at "pv all"
      refine mcall_ex2 hb rfl rfl ?_
      walk_at "pv all"
      refine wr_addS (hk_sz h3) ?_
      walk_at "pv all"
      refine mark_ok k base h ok hp hn _ (hU _ (hk_u (h4 rfl))) _ ?_
      walk_at "pv all"
      refine mcall_ex2 hb rfl rfl ?_
      walk_at "pv all"
      refine wr_addS (bk_sz h3) ?_
      walk_at "pv all"
      refine mark_ok k base h ok hp hn _ (hU _ (bk_u (h4 rfl))) _ ?_
      walk_at "pv all"
      exact ⟨rfl, rfl⟩
    | false =>
      refine cs_eq (fun h => absurd h (show ¬ (Str.ofString "int" = Str.ofString "array") by decide +kernel)) (fun _ => ?_)
      exact ⟨rfl, rfl, fun z => by cases z⟩
  refine wr_nl (ds := (pc.ps.filter (·.1)).map fun q => .tuple [strT (mkT T pc (hk q.2)), strT (mkT T pc (bk q.2))]) (by rw [List.map_map]; rfl) ?_
  walk_at "pv all"
  refine ix_tup (j := 0) rfl rfl ?_
  walk_at "pv all"
  refine mcall_ex2 hb rfl rfl ?_
  walk_at "pv all"
  refine mark_ok k base h ok hp hn _ (hU _ List.mem_cons_self) _ ?_
  walk_at "pv all"
  exact q
end
/-! the marks are what the law reaches -/
theorem Rch.sub {F G : List Flw} (h : ∀ k ks k', (k, ks) ∈ F → k' ∈ ks → ∃ ks', (k, ks') ∈ G ∧ k' ∈ ks') {a b : Str} (r : Rch F a b) : Rch G a b := by
  induction r with
  | refl => exact .refl _
  | step h1 h2 _ ih =>
    obtain ⟨ks', h3, h4⟩ := h _ _ _ h1 h2
    exact .step h3 h4 ih
theorem flow_edges (R : List Str) (s : Sm) (k k' : Str) : (∃ ks, (k, ks) ∈ flowsPr R s ∧ k' ∈ ks) ↔ ∃ ks, (k, ks) ∈ flowsL R s ∧ k' ∈ ks := by
  have ht : ∀ t : Ts, (∃ ks, (k, ks) ∈ (cmps t).map flowC ∧ k' ∈ ks) ↔ ∃ ks, (k, ks) ∈ [(bang, keysT t)] ∧ k' ∈ ks := by
    intro t
    constructor
    · rintro ⟨ks, h1, h2⟩
      obtain ⟨c, hc, e⟩ := List.mem_map.mp h1
      obtain ⟨rfl, rfl⟩ := Prod.mk.inj e
      exact ⟨keysT t, List.mem_singleton.mpr rfl, by rw [keysT_cmps]; exact List.mem_flatMap.mpr ⟨c, hc, h2⟩⟩
    · rintro ⟨ks, h1, h2⟩
      obtain ⟨rfl, rfl⟩ := Prod.mk.inj (List.mem_singleton.mp h1)
      rw [keysT_cmps] at h2
      obtain ⟨c, hc, h3⟩ := List.mem_flatMap.mp h2
      exact ⟨_, List.mem_map.mpr ⟨c, hc, rfl⟩, h3⟩
  cases s with
  | whl t b => exact ht t
  | iff t l r => exact ht t
  | _ => exact Iff.rfl
theorem rch_same {cs : List Pc} (nd : (cs.map (·.nm)).Nodup) {pc : Pc} (hpc : pc ∈ cs) (a b : Str) : Rch (((allFl cs).filter fun p => decide (p.1 = pc.nm)).map (·.2)) a b ↔ Rch (flowsB pc) a b := by
  have huniq : ∀ pc' ∈ cs, pc'.nm = pc.nm → pc' = pc := fun pc' h e => by
    obtain ⟨i, hi⟩ := List.mem_iff_getElem?.mp h
    obtain ⟨j, hj⟩ := List.mem_iff_getElem?.mp hpc
    have e1 : (cs.map (·.nm))[i]? = some pc.nm := by rw [List.getElem?_map, hi, ← e]; rfl
    have e2 : (cs.map (·.nm))[j]? = some pc.nm := by rw [List.getElem?_map, hj]; rfl
    obtain ⟨i1, i2⟩ := List.getElem?_eq_some_iff.mp e1
    obtain ⟨j1, j2⟩ := List.getElem?_eq_some_iff.mp e2
    have : i = j := (List.getElem_inj nd).mp (i2.trans j2.symm)
    subst this
    rw [hi] at hj
    exact Option.some.inj hj
  constructor
  · refine Rch.sub fun k ks k' h1 h2 => ?_
    obtain ⟨p, hp, e⟩ := List.mem_map.mp h1
    obtain ⟨hp1, hp2⟩ := List.mem_filter.mp hp
    have hn : p.1 = pc.nm := of_decide_eq_true hp2
    obtain ⟨q, hq, hf⟩ := List.mem_flatMap.mp hp1
    obtain ⟨f, hf2, rfl⟩ := List.mem_map.mp hf
    obtain ⟨pc', hpc', hq2⟩ := List.mem_flatMap.mp hq
    obtain ⟨st, hst, rfl⟩ := List.mem_map.mp hq2
    have := huniq pc' hpc' hn
    subst this
    have e : f = (k, ks) := e
    subst e
    obtain ⟨ks', h3, h4⟩ := (flow_edges pc'.R st k k').mp ⟨ks, hf2, h2⟩
    exact ⟨ks', List.mem_flatMap.mpr ⟨st, hst, h3⟩, h4⟩
  · refine Rch.sub fun k ks k' h1 h2 => ?_
    obtain ⟨st, hst, h3⟩ := List.mem_flatMap.mp h1
    obtain ⟨ks', h4, h5⟩ := (flow_edges pc.R st k k').mpr ⟨ks, h3, h2⟩
    refine ⟨ks', List.mem_map.mpr ⟨(pc.nm, k, ks'), List.mem_filter.mpr ⟨?_, decide_eq_true rfl⟩, rfl⟩, h5⟩
    exact List.mem_flatMap.mpr ⟨(pc, st), List.mem_flatMap.mpr ⟨pc, hpc, List.mem_map.mpr ⟨st, hst, rfl⟩⟩, List.mem_map.mpr ⟨(k, ks'), h4, rfl⟩⟩
theorem filter_map' {α β : Type} {f : α → β} {p : β → Bool} : ∀ xs : List α, (xs.map f).filter p = (xs.filter fun x => p (f x)).map f
  | [] => rfl
  | x :: xs => by
    rw [List.map_cons, List.filter_cons, List.filter_cons, filter_map' xs]
    split <;> rfl
theorem mk_same {cs : List Pc} {rows : Str → List (Str × Str)} (nd : (cs.map (·.nm)).Nodup) {pc : Pc} (hpc : pc ∈ cs) (hrw : rows pc.nm = rowsP pc.ps) (hat : ((rowsP pc.ps).map (·.2)).Nodup) {T : Tn} (ht : TOk rows (allFl cs) T) (hc : ∀ p ∈ allFl cs, ∀ k ∈ p.2.2, ∀ a ∈ T p.1 k, a ∈ T p.1 p.2.1) (key : Str) : mkT T pc key = markR pc key := by
  unfold mkT markR
  rw [filter_map']
  congr 1
  refine List.filter_congr fun w hw => ?_
  refine decide_eq_decide.mpr ⟨fun h => ?_, fun h => ?_⟩
  · obtain ⟨o, h1, h2⟩ := ht.snd _ _ _ h
    rw [hrw] at h1
    have e : (o, w.2) = w := by
      obtain ⟨i, hi⟩ := List.mem_iff_getElem?.mp h1
      obtain ⟨j, hj⟩ := List.mem_iff_getElem?.mp hw
      have e1 : ((rowsP pc.ps).map (·.2))[i]? = some w.2 := by rw [List.getElem?_map, hi]; rfl
      have e2 : ((rowsP pc.ps).map (·.2))[j]? = some w.2 := by rw [List.getElem?_map, hj]; rfl
      obtain ⟨i1, i2⟩ := List.getElem?_eq_some_iff.mp e1
      obtain ⟨j1, j2⟩ := List.getElem?_eq_some_iff.mp e2
      have : i = j := (List.getElem_inj hat).mp (i2.trans j2.symm)
      subst this
      rw [hi] at hj
      exact Option.some.inj hj
    rw [← e]
    exact (rch_same nd hpc key o).mp h2
  · have h2 := (rch_same nd hpc key w.1).mpr h
    refine closed_all hc h2 ?_
    exact ht.ini pc.nm w (by rw [hrw]; exact hw)
end PvK

namespace PvK
open PySem PySem.Spec PyProof.Rows L2 Pv
/-! begin -/
def mapR (B : Nat) (ks : List (Str × Nat)) : List (Key × Val) := ks.map fun q => (.inr q.1, .ref (B + q.2))
theorem put_mapR (B : Nat) (m : List (Str × Nat)) (x : Str) (v : Nat) : putV (mapR B m) (.inr x) (.ref (B + v)) = mapR B (putS m x v) := by
  unfold putV putS mapR
  rw [List.any_map]
  have e : ((fun kv : Key × Val => decide (kv.1 = Sum.inr x)) ∘ fun p : Str × Nat => ((Sum.inr p.1 : Key), Val.ref (B + p.2))) = fun p => decide (p.1 = x) := by
    funext p
    show decide ((Sum.inr p.1 : Key) = Sum.inr x) = decide (p.1 = x)
    by_cases h : p.1 = x <;> simp [h]
  rw [e]
  split
  · rw [List.map_map, List.map_map]
    refine List.map_congr_left fun p _ => ?_
    show (if (Sum.inr p.1 : Key) = Sum.inr x then _ else _) = _
    by_cases h : p.1 = x
    · simp [h]
    · simp [h]
  · rw [List.map_append]; rfl
theorem put_r {mh : List Ob} {n : Nat} {kvs : List (Key × Val)} {x : Str} {v : Val} {Q : Unit → List Ob → Prop} (h : mh[n]? = some (.dct kvs)) (hl : kvs.length < sizeLine) (q : Q () (mh.set n (.dct (putV kvs (.inr x) v)))) : W (setVl (.ref n) (.d (.str x)) v) mh Q := by
  refine ⟨(), _, ?_, q⟩
  unfold setVl
  simp only [h]
  show (if kvs.length < sizeLine then some ((), mh.set n (.dct (putV kvs (.inr x) v))) else none) = _
  rw [if_pos hl]
structure OwnI (B n0 : Nat) (W : List Ob) (ks : List (Str × Nat)) (V : Str → List Str) : Prop where
  d : W[0]? = some (.dct (mapR B ks))
  c : ∀ q ∈ ks, ∃ j, q.2 = n0 + j ∧ 1 ≤ j ∧ W[j]? = some (strsO (V q.1))
  i : ∀ q ∈ ks, ∀ q' ∈ ks, q.2 = q'.2 → q.1 = q'.1
  nd : (ks.map (·.1)).Nodup
  l : ks.length ≤ W.length
section
variable {B n0 : Nat} {W : List Ob} {ks : List (Str × Nat)} {V : Str → List Str}
theorem OwnI.new (h : OwnI B n0 W ks V) {key : Str} (hv : V key = []) : OwnI B n0 ((W ++ [strsO []]).set 0 (.dct (mapR B (putS ks key (n0 + W.length))))) (putS ks key (n0 + W.length)) V := by
  have h0 := (List.getElem?_eq_some_iff.mp h.d).1
  refine ⟨by rw [List.getElem?_set_self (by rw [List.length_append]; omega)], fun q hq => ?_, fun q hq q' hq' e => ?_, putS_nd h.nd, ?_⟩
  · rcases putS_mem hq with hq | rfl
    · obtain ⟨j, h1, h2, h3⟩ := h.c q hq
      exact ⟨j, h1, h2, by rw [List.getElem?_set_ne (by omega)]; exact get_app h3⟩
    · refine ⟨W.length, rfl, by omega, ?_⟩
      rw [List.getElem?_set_ne (by omega), List.getElem?_append_right (Nat.le_refl _), Nat.sub_self, hv]; rfl
  · rcases putS_mem hq with hq | rfl
    · rcases putS_mem hq' with hq' | rfl
      · exact h.i q hq q' hq' e
      · obtain ⟨j, h1, h2, h3⟩ := h.c q hq
        have := (List.getElem?_eq_some_iff.mp h3).1
        have e : q.2 = n0 + W.length := e
        omega
    · rcases putS_mem hq' with hq' | rfl
      · obtain ⟨j, h1, h2, h3⟩ := h.c q' hq'
        have := (List.getElem?_eq_some_iff.mp h3).1
        have e : n0 + W.length = q'.2 := e
        omega
      · rfl
  · rw [List.length_set, List.length_append]
    exact Nat.le_trans putS_length (Nat.succ_le_succ h.l)
theorem OwnI.app (h : OwnI B n0 W ks V) {q : Str × Nat} (hq : q ∈ ks) (a : Str) : ∃ j, q.2 = n0 + j ∧ W[j]? = some (strsO (V q.1)) ∧ OwnI B n0 (W.set j (strsO (V q.1 ++ [a]))) ks (fun k => if k = q.1 then V q.1 ++ [a] else V k) := by
  obtain ⟨j, h1, h2, h3⟩ := h.c q hq
  have hj := (List.getElem?_eq_some_iff.mp h3).1
  refine ⟨j, h1, h3, by rw [List.getElem?_set_ne (by omega)]; exact h.d, fun q' hq' => ?_, h.i, h.nd, by rw [List.length_set]; exact h.l⟩
  obtain ⟨j', k1, k2, k3⟩ := h.c q' hq'
  refine ⟨j', k1, k2, ?_⟩
  by_cases e : j = j'
  · subst e
    have e2 := h.i q' hq' q hq (by omega)
    rw [List.getElem?_set_self hj, e2, if_pos rfl]
  · have hne : q'.1 ≠ q.1 := fun e2 => by
      have e3 : q' = q := by
        obtain ⟨i1, hi1⟩ := List.mem_iff_getElem?.mp hq'
        obtain ⟨i2, hi2⟩ := List.mem_iff_getElem?.mp hq
        have g1 : (ks.map (·.1))[i1]? = some q.1 := by rw [List.getElem?_map, hi1, ← e2]; rfl
        have g2 : (ks.map (·.1))[i2]? = some q.1 := by rw [List.getElem?_map, hi2]; rfl
        obtain ⟨x1, y1⟩ := List.getElem?_eq_some_iff.mp g1
        obtain ⟨x2, y2⟩ := List.getElem?_eq_some_iff.mp g2
        have := (List.getElem_inj h.nd).mp (y1.trans y2.symm)
        subst this
        rw [hi1] at hi2
        exact Option.some.inj hi2
      rw [e3] at k1
      omega
    rw [List.getElem?_set_ne e, if_neg hne]; exact k3
end
def keyA (q : Bool × Str) : List Str := if q.1 then [hk q.2, bk q.2] else [q.2]
def iniT (pc : Pc) (k : Str) : List Str := ((rowsP pc.ps).filter fun w => decide (w.1 = k)).map (·.2)
def iniR (rs : List (Str × Str)) (k : Str) : List Str := (rs.filter fun w => decide (w.1 = k)).map (·.2)
theorem iniR_app (rs : List (Str × Str)) (w : Str × Str) : iniR (rs ++ [w]) = fun k => if k = w.1 then iniR rs w.1 ++ [w.2] else iniR rs k := by
  funext k
  unfold iniR
  rw [List.filter_append, List.map_append]
  by_cases h : k = w.1
  · rw [if_pos h, ← h, List.filter_cons, decide_eq_true h.symm]; rfl
  · rw [if_neg h, List.filter_cons, decide_eq_false fun e => h e.symm]
    show _ ++ [] = _
    rw [List.append_nil]
structure PcIn (pc : Pc) : Prop where
  at_ : ((rowsP pc.ps).map (·.2)).Nodup
  gv : ∀ r ∈ pc.R, ∀ w ∈ rowsP pc.ps, w.1 ≠ gk r
section
variable {base L : List Ob}
theorem ref_get {W : List Ob} {j : Nat} {o : Ob} (h : W[j]? = some o) : (base ++ L ++ W)[base.length + (L.length + j)]? = some o := by
  rw [show base.length + (L.length + j) = (base ++ L).length + j by rw [List.length_append]; omega]
  exact po_get h
theorem ref_set {W : List Ob} {j : Nat} {o : Ob} : (base ++ L ++ W).set (base.length + (L.length + j)) o = base ++ L ++ W.set j o := by
  rw [show base.length + (L.length + j) = (base ++ L).length + j by rw [List.length_append]; omega]
  exact po_set
theorem ref_new {W : List Ob} {o : Ob} : base ++ L ++ W ++ [o] = base ++ L ++ (W ++ [o]) := List.append_assoc ..
theorem ref_len {W : List Ob} : (base ++ L ++ W).length = base.length + (L.length + W.length) := by rw [List.length_append, List.length_append]; omega
/-- own[key] = [] -/
theorem own_new {gl : List (Str × Dt)} {c : Nat → List Val → M Val} {e : E} {b : Ss} {x0 x1 x3 x4 x5 : Option Val} {W : List Ob} {ks : List (Str × Nat)} {V : Str → List Str} (h : OwnI base.length L.length W ks V) (hl : ks.length ≤ 1000) (key : Str) (hv : V key = []) (Q : Fl → List Ob → Prop)
    (he : ∀ (M : List Ob) (Q : Val → List Ob → Prop), Q (.d (.str key)) M → Pv.W (evE gl c e [x0, x1, some (.ref (base.length + (L.length + 0))), x3, x4, x5]) M Q)
    (q : ∀ W' ks', OwnI base.length L.length W' ks' V → (∀ k, k ∈ ks'.map (·.1) ↔ k = key ∨ k ∈ ks.map (·.1)) → ks'.length ≤ ks.length + 1 → WS gl c b [x0, x1, some (.ref (base.length + (L.length + 0))), x3, x4, x5] (base ++ L ++ W') Q) :
    WS gl c (.cons (.asg (.sb (.slot 2) e) (.lst true .nil)) b) [x0, x1, some (.ref (base.length + (L.length + 0))), x3, x4, x5] (base ++ L ++ W) Q := by
  have hsl : sizeLine = 16777216 := rfl
  walk_at "pv all"
  rw [ref_new, ref_len]
  refine he _ _ ?_
  have hd : (W ++ [strsO []])[0]? = some (.dct (mapR base.length ks)) := get_app h.d
  refine put_r (ref_get hd) (by unfold mapR; rw [List.length_map]; omega) ?_
  rw [put_mapR, ref_set]
  exact q _ _ (h.new hv) (fun k => putS_keys) putS_length
end
end PvK

namespace PvK
open PySem PySem.Spec PyProof.Rows L2 Pv
/-! begin: the whole -/
section
variable {base L : List Ob}
/-- own[key].append(atom) -/
theorem own_app {gl : List (Str × Dt)} {c : Nat → List Val → M Val} {ke ae : E} {b : Ss} {x0 x1 x3 x4 x5 : Option Val} {W : List Ob} {ks : List (Str × Nat)} {V : Str → List Str} (h : OwnI base.length L.length W ks V) (key : Str) (hk : key ∈ ks.map (·.1)) (a : Str) (hl : (V key).length < 1000) (Q : Fl → List Ob → Prop)
    (hke : ∀ (M : List Ob) (Q : Val → List Ob → Prop), Q (.d (.str key)) M → Pv.W (evE gl c ke [x0, x1, some (.ref (base.length + (L.length + 0))), x3, x4, x5]) M Q)
    (hae : ∀ (M : List Ob) (Q : Val → List Ob → Prop), Q (.d (.str a)) M → Pv.W (evE gl c ae [x0, x1, some (.ref (base.length + (L.length + 0))), x3, x4, x5]) M Q)
    (q : ∀ W', OwnI base.length L.length W' ks (fun k => if k = key then V key ++ [a] else V k) → WS gl c b [x0, x1, some (.ref (base.length + (L.length + 0))), x3, x4, x5] (base ++ L ++ W') Q) :
    WS gl c (.cons (.expr (.meth .append (.ix (.slot 2) ke) (.cons ae .nil))) b) [x0, x1, some (.ref (base.length + (L.length + 0))), x3, x4, x5] (base ++ L ++ W) Q := by
  have hsl : sizeLine = 16777216 := rfl
  obtain ⟨y, hy, rfl⟩ := List.mem_map.mp hk
  obtain ⟨j, h1, h2, h3⟩ := h.app hy a
  walk_at "pv all"
  refine hke _ _ ?_
  refine ix_dk (ref_get h.d) (find_nd2 (f := fun q : Str × Nat => q.1) h.nd y hy) ?_
  rw [h1]
  refine ⟨rcv_lst (ref_get h2), ?_⟩
  refine wa_cons (hae _ _ ?_)
  refine wa_nil ?_
  refine app_end (ref_get h2) (by rw [List.length_map, List.length_map]; omega) ?_
  rw [ref_set]
  have e : Ob.lst (((V y.1).map PyData.str).map Val.d ++ [.d (.str a)]) = strsO (V y.1 ++ [a]) := by unfold strsO; rw [List.map_append, List.map_append]; rfl
  rw [e]
  exact q _ h3
theorem putS_new {α : Type} {m : List (Str × α)} {x : Str} {v : α} (h : x ∉ m.map (·.1)) : putS m x v = m ++ [(x, v)] := by
  unfold putS
  rw [if_neg]
  intro z
  obtain ⟨p, hp, e⟩ := List.any_eq_true.mp z
  exact h (List.mem_map.mpr ⟨p, hp, of_decide_eq_true e⟩)
theorem begin_ok {core procs : Dt} {ts : List Pt} {T : Tn} {g : Bool} {pc : Pc} {I A : List Str} (k : Nat) (h : MkL base.length L core procs ts T g) (ok : PcOk pc I A) (inn : PcIn pc) (hn : pc.nm ∉ ts.map (·.nm)) (htl : ts.length ≤ 100) (hI : ∀ x ∈ I, (false, x) ∈ pc.ps ++ pc.lc) (hA : ∀ x ∈ A, (true, x) ∈ pc.ps ++ pc.lc) (Q : Val → List Ob → Prop)
    (hQ : ∀ L' pt, pt.nm = pc.nm → (∀ x ∈ keysU I A pc.R, x ∈ pt.ks.map (·.1)) → MkL base.length L' core procs (ts ++ [pt]) (fun n => if n = pc.nm then iniR (rowsP pc.ps) else T n) g → Q (.d .none) (base ++ L')) :
    W (callP P gl (k + 1) 5 [.ref base.length, .d (pcd pc)]) (base ++ L) Q := by
  refine w_keep (nm := f5.name) (ps := f5.ps) (N := f5.N) (body := f5.body) (env := [some (.ref base.length), some (.d (pcd pc)), none, none, none, none]) rfl rfl ?_
  have hsl : sizeLine = 16777216 := rfl
  have hpl := ok.psl
  have hll := ok.lcl
  have hRl := ok.Rl
  have hall : ∀ q ∈ pc.ps ++ pc.lc, SM q.2 := fun q hq => (List.mem_append.mp hq).elim (fun h => (ok.ps q h).1) fun h => (ok.lc q h).1
  unfold f5
  walk_at "pv all"
  refine ⟨_, rfl, ?_⟩
  refine putD_ex (show (base ++ L ++ [Ob.dct []] ++ [Ob.lst []])[(base ++ L).length]? = some (.dct []) from get_app end_get) ?_
  have e0 : (base ++ L ++ [Ob.dct []] ++ [Ob.lst []]).set (base ++ L).length (.dct [(.inr bang, .ref (base ++ L ++ [Ob.dct []]).length)]) = base ++ L ++ [.dct (mapR base.length [(bang, L.length + 1)]), strsO []] := by
    rw [List.append_assoc, show (base ++ L).length = (base ++ L).length + 0 from rfl, po_set]
    have : (base ++ L ++ [Ob.dct []]).length = base.length + (L.length + 1) := by rw [List.length_append, List.length_append]; show _ + 1 = _; omega
    rw [this]; rfl
  rw [e0]
  have o0 : OwnI base.length L.length [.dct (mapR base.length [(bang, L.length + 1)]), strsO []] [(bang, L.length + 1)] (iniR []) :=
    ⟨rfl, fun q hq => ⟨1, by rw [List.mem_singleton.mp hq], Nat.le_refl _, rfl⟩, fun q hq q' hq' _ => by rw [List.mem_singleton.mp hq, List.mem_singleton.mp hq'], by simp, by show 1 ≤ 2; decide⟩
  have e1 : (base ++ L).length = base.length + (L.length + 0) := by rw [List.length_append]; rfl
  rw [e1]
  generalize ([Ob.dct (mapR base.length [(bang, L.length + 1)]), strsO []] : List Ob) = W0 at o0
  walk_at "pv all"
  refine ix_tup (j := 1) rfl rfl ?_
  walk_at "pv all"
  refine ix_tup (j := 3) rfl rfl ?_
  refine wr_addT (by rw [List.length_map, List.length_map]; omega) ?_
  rw [← List.map_append]
  refine ix_T ?_
  refine wl_invL (fun i e m => ∃ (W : List Ob) (ks : List (Str × Nat)) (a3 a4 : Option Val), e = [some (.ref base.length), some (.d (pcd pc)), some (.ref (base.length + (L.length + 0))), a3, a4, none] ∧ m = base ++ L ++ W ∧ OwnI base.length L.length W ks (iniR []) ∧ bang ∈ ks.map (·.1) ∧ (∀ q ∈ (pc.ps ++ pc.lc).take i, ∀ x ∈ keyA q, x ∈ ks.map (·.1)) ∧ ks.length ≤ 1 + 2 * i) ⟨W0, _, _, _, rfl, rfl, o0, by simp, fun _ h => (nomatch h), Nat.le_refl _⟩ (fun i x e m hx I => ?_) (fun e m I => ?_)
  · obtain ⟨W, ks, a3, a4, rfl, rfl, ho, k1, k2, k3⟩ := I
    have hs := hall x (List.mem_of_getElem? hx)
    have hi := (List.getElem?_eq_some_iff.mp hx).1
    rw [List.length_append] at hi
    have ht : (pc.ps ++ pc.lc).take (i + 1) = (pc.ps ++ pc.lc).take i ++ [x] := by rw [List.take_add_one, hx]; rfl
    rw [ht]
    obtain ⟨b, x⟩ := x
    cases b with
    | true =>
      walk_at "pv all"
      refine cs_eq (fun _ => ?_) (fun h => absurd rfl h)
      refine pick_t ?_
      refine own_new ho (by omega) (hk x) rfl _ (fun M Q q => by walk_at "pv all"; refine wr_addS (hk_sz hs) ?_; exact q) fun W1 ks1 o1 m1 l1 => ?_
      refine own_new o1 (by omega) (bk x) rfl _ (fun M Q q => by walk_at "pv all"; refine wr_addS (bk_sz hs) ?_; exact q) fun W2 ks2 o2 m2 l2 => ?_
      walk_at "pv all"
      refine ⟨W2, ks2, _, _, rfl, rfl, o2, (m2 _).mpr (.inr ((m1 _).mpr (.inr k1))), fun q hq y hy => ?_, by omega⟩
      rcases List.mem_append.mp hq with hq | hq
      · exact (m2 _).mpr (.inr ((m1 _).mpr (.inr (k2 q hq y hy))))
      · rw [List.mem_singleton.mp hq] at hy
        have hy : y ∈ [hk x, bk x] := hy
        rcases List.mem_cons.mp hy with rfl | hy
        · exact (m2 _).mpr (.inr ((m1 _).mpr (.inl rfl)))
        · rw [List.mem_singleton.mp hy]; exact (m2 _).mpr (.inl rfl)
    | false =>
      walk_at "pv all"
      refine cs_eq (fun h => absurd h (show ¬ (Str.ofString "int" = Str.ofString "array") by decide +kernel)) (fun _ => ?_)
      refine pick_f ?_
      refine own_new ho (by omega) x rfl _ (fun M Q q => by walk_at "pv all"; exact q) fun W1 ks1 o1 m1 l1 => ?_
      walk_at "pv all"
      refine ⟨W1, ks1, _, _, rfl, rfl, o1, (m1 _).mpr (.inr k1), fun q hq y hy => ?_, by omega⟩
      rcases List.mem_append.mp hq with hq | hq
      · exact (m1 _).mpr (.inr (k2 q hq y hy))
      · rw [List.mem_singleton.mp hq] at hy
        have hy : y ∈ [x] := hy
        rw [List.mem_singleton.mp hy]; exact (m1 _).mpr (.inl rfl)
  obtain ⟨W1, ks, a3, a4, rfl, rfl, ho, k1, k2, k3⟩ := I
  rw [List.take_length] at k2
  rw [List.length_append] at k3
  walk_at "pv all"
  refine ix_tup (j := 1) rfl rfl ?_
  refine ix_T ?_
  refine wl_invL (fun i e m => ∃ (W : List Ob) (a3 a4 : Option Val), e = [some (.ref base.length), some (.d (pcd pc)), some (.ref (base.length + (L.length + 0))), a3, a4, none] ∧ m = base ++ L ++ W ∧ OwnI base.length L.length W ks (iniR (rowsP (pc.ps.take i)))) ⟨W1, _, _, rfl, rfl, ho⟩ (fun i x e m hx I => ?_) (fun e m I => ?_)
  · obtain ⟨W, a3, a4, rfl, rfl, ho⟩ := I
    have hxm := List.mem_of_getElem? hx
    have hs := (ok.ps x hxm).1
    have hi := (List.getElem?_eq_some_iff.mp hx).1
    have hke := k2 x (List.mem_append_left _ hxm)
    have e2 : rowsP (pc.ps.take (i + 1)) = rowsP (pc.ps.take i) ++ rowsA x := by unfold rowsP; rw [List.take_add_one, hx, List.flatMap_append]; simp
    have hb : (rowsP (pc.ps.take i)).length ≤ 2 * i := by
      have h := flat_le (f := rowsA) (n := 2) (xs := pc.ps.take i) fun y _ => by unfold rowsA; split <;> simp
      rw [List.length_take] at h
      unfold rowsP
      omega
    have hvl : ∀ (rs : List (Str × Str)) k, (iniR rs k).length ≤ rs.length := fun rs k => by unfold iniR; rw [List.length_map]; exact List.length_filter_le _ _
    rw [e2]
    generalize rowsP (pc.ps.take i) = acc at ho hb
    obtain ⟨b, x⟩ := x
    cases b with
    | true =>
      have hv1 := hvl acc (hk x)
      have hv2 := hvl (acc ++ [(hk x, ahk x)]) (bk x)
      rw [List.length_append, List.length_singleton] at hv2
      walk_at "pv all"
      refine cs_eq (fun _ => ?_) (fun h => absurd rfl h)
      refine pick_t ?_
      refine own_app ho (hk x) (hke _ List.mem_cons_self) (ahk x) (by omega) _ (fun M Q q => by walk_at "pv all"; refine wr_addS (hk_sz hs) ?_; exact q) (fun M Q q => by walk_at "pv all"; refine wr_addS (ahk_sz hs) ?_; exact q) fun W2 o2 => ?_
      rw [← iniR_app acc (hk x, ahk x)] at o2
      refine own_app o2 (bk x) (hke _ (List.mem_cons_of_mem _ (List.mem_singleton.mpr rfl))) (ak x) (by omega) _ (fun M Q q => by walk_at "pv all"; refine wr_addS (bk_sz hs) ?_; exact q) (fun M Q q => by walk_at "pv all"; refine wr_addS (ak_sz hs) ?_; exact q) fun W3 o3 => ?_
      rw [← iniR_app (acc ++ [(hk x, ahk x)]) (bk x, ak x)] at o3
      walk_at "pv all"
      exact ⟨W3, _, _, rfl, rfl, by rw [List.append_assoc] at o3; exact o3⟩
    | false =>
      have hv1 := hvl acc x
      walk_at "pv all"
      refine cs_eq (fun h => absurd h (show ¬ (Str.ofString "int" = Str.ofString "array") by decide +kernel)) (fun _ => ?_)
      refine pick_f ?_
      refine own_app ho x (hke _ (List.mem_singleton.mpr rfl)) (ak x) (by omega) _ (fun M Q q => by walk_at "pv all"; exact q) (fun M Q q => by walk_at "pv all"; refine wr_addS (ak_sz hs) ?_; exact q) fun W2 o2 => ?_
      rw [← iniR_app acc (x, ak x)] at o2
      walk_at "pv all"
      exact ⟨W2, _, _, rfl, rfl, o2⟩
  obtain ⟨W2, a3, a4, rfl, rfl, ho⟩ := I
  rw [List.take_length] at ho
  have hgv : ∀ r ∈ pc.R, iniR (rowsP pc.ps) (gk r) = [] := fun r hr => by
    unfold iniR
    rw [List.map_eq_nil_iff, List.filter_eq_nil_iff]
    exact fun w hw e => inn.gv r hr w hw (of_decide_eq_true e)
  walk_at "pv all"
  refine ix_tup (j := 2) rfl rfl ?_
  refine ix_T ?_
  refine wl_invL (fun i e m => ∃ (W : List Ob) (ks' : List (Str × Nat)) (a5 : Option Val), e = [some (.ref base.length), some (.d (pcd pc)), some (.ref (base.length + (L.length + 0))), a3, a4, a5] ∧ m = base ++ L ++ W ∧ OwnI base.length L.length W ks' (iniR (rowsP pc.ps)) ∧ (∀ x ∈ ks.map (·.1), x ∈ ks'.map (·.1)) ∧ (∀ r ∈ pc.R.take i, gk r ∈ ks'.map (·.1)) ∧ ks'.length ≤ ks.length + i) ⟨W2, ks, _, rfl, rfl, ho, fun _ h => h, fun _ h => (nomatch h), Nat.le_refl _⟩ (fun i r e m hr I => ?_) (fun e m I => ?_)
  · obtain ⟨W, ks', a5, rfl, rfl, ho, j1, j2, j3⟩ := I
    have hrm := List.mem_of_getElem? hr
    have hi := (List.getElem?_eq_some_iff.mp hr).1
    refine wg_nm ?_
    refine own_new ho (by omega) (gk r) (hgv r hrm) _ (fun M Q q => by walk_at "pv all"; refine wr_addS (gk_sz (ok.R r hrm)) ?_; exact q) fun W3 ks3 o3 m3 l3 => ?_
    walk_at "pv all"
    refine ⟨W3, ks3, _, rfl, rfl, o3, fun x hx => (m3 _).mpr (.inr (j1 x hx)), fun r' hr' => ?_, by omega⟩
    rw [List.take_add_one, hr] at hr'
    rcases List.mem_append.mp hr' with hr' | hr'
    · exact (m3 _).mpr (.inr (j2 r' hr'))
    · rw [List.mem_singleton.mp hr']; exact (m3 _).mpr (.inl rfl)
  obtain ⟨W, ks', a5, rfl, rfl, ho, j1, j2, j3⟩ := I
  rw [List.take_length] at j2
  have hb : (base ++ L ++ W)[base.length]? = some (.ins MK (mkFs base.length core procs g)) := get_app (po_get (j := 0) h.o)
  have ht : (base ++ L ++ W)[base.length + 1]? = some (.dct (ts.map fun p => (.inr p.nm, .ref (base.length + p.at_)))) := get_app (po_get h.t)
  have h1l := (List.getElem?_eq_some_iff.mp h.t).1
  have hal : ∀ p ∈ ts, p.at_ < L.length := fun p hp => (List.getElem?_eq_some_iff.mp (h.d p hp)).1
  have hcl : ∀ p ∈ ts, ∀ q ∈ p.ks, q.2 < L.length := fun p hp q hq => (List.getElem?_eq_some_iff.mp (h.c p hp q hq)).1
  have hnm : ∀ p ∈ ts, p.nm ≠ pc.nm := fun p hp e => hn (by rw [← e]; exact List.mem_map.mpr ⟨p, hp, rfl⟩)
  walk_at "pv all"
  refine fld_ex hb rfl rfl ?_
  walk_at "pv all"
  refine ix_tup (j := 0) rfl rfl ?_
  refine put_r ht (by rw [List.length_map]; omega) ?_
  have hpt : putV (ts.map fun p => ((.inr p.nm : Key), Val.ref (base.length + p.at_))) (.inr pc.nm) (.ref (base.length + (L.length + 0))) = (ts ++ [(⟨pc.nm, L.length, ks'⟩ : Pt)]).map fun p : Pt => ((.inr p.nm : Key), Val.ref (base.length + p.at_)) := by
    have e2 : (ts.map fun p => ((.inr p.nm : Key), Val.ref (base.length + p.at_))) = mapR base.length (ts.map fun p => (p.nm, p.at_)) := by unfold mapR; rw [List.map_map]; rfl
    rw [e2, put_mapR, putS_new (by rw [List.map_map]; exact hn)]
    unfold mapR
    rw [List.map_append, List.map_append, List.map_map]; rfl
  rw [hpt]
  have hset : ∀ o : Ob, (base ++ L ++ W).set (base.length + 1) o = base ++ (L.set 1 o ++ W) := fun o => by
    rw [List.append_assoc, po_set, List.set_append_left _ _ h1l]
  rw [hset]
  walk_at "pv all"
  have hnew : ∀ {j : Nat} {o o1 : Ob}, W[j]? = some o → (L.set 1 o1 ++ W)[L.length + j]? = some o := fun {j o o1} hj => by
    rw [List.getElem?_append_right (by rw [List.length_set]; omega), List.length_set, Nat.add_sub_cancel_left]; exact hj
  have hold : ∀ {j : Nat} {o o1 : Ob}, j ≠ 1 → L[j]? = some o → (L.set 1 o1 ++ W)[j]? = some o := fun {j o o1} hj ho => by
    rw [List.getElem?_append_left (by rw [List.length_set]; exact (List.getElem?_eq_some_iff.mp ho).1), List.getElem?_set_ne (fun e => hj e.symm)]; exact ho
  have hks : ∀ q ∈ ks', ∃ j, q.2 = L.length + j ∧ 1 ≤ j ∧ W[j]? = some (strsO (iniR (rowsP pc.ps) q.1)) := ho.c
  refine hQ (L.set 1 (.dct ((ts ++ [(⟨pc.nm, L.length, ks'⟩ : Pt)]).map fun p : Pt => ((.inr p.nm : Key), Val.ref (base.length + p.at_)))) ++ W) (⟨pc.nm, L.length, ks'⟩ : Pt) rfl (fun x hx => ?_) ⟨hold (by decide) h.o, by rw [List.getElem?_append_left (by rw [List.length_set]; exact h1l), List.getElem?_set_self h1l], fun p hp => ?_, fun p hp q hq => ?_, fun p hp q hq p' hp' => ?_, fun p hp q hq p' hp' q' hq' => ?_, fun p hp => ?_, ?_, fun p hp => ?_, fun n k => ?_⟩
  · show x ∈ ks'.map (·.1)
    unfold keysU at hx
    rcases List.mem_cons.mp hx with rfl | hx
    · exact j1 _ k1
    · rcases List.mem_append.mp hx with hx | hx
      · obtain ⟨r, hr, rfl⟩ := List.mem_map.mp hx
        exact j2 r hr
      · rcases List.mem_append.mp hx with hx | hx
        · exact j1 _ (k2 _ (hI x hx) x (List.mem_singleton.mpr rfl))
        · rcases List.mem_append.mp hx with hx | hx
          · obtain ⟨a, ha, rfl⟩ := List.mem_map.mp hx
            exact j1 _ (k2 _ (hA a ha) _ List.mem_cons_self)
          · obtain ⟨a, ha, rfl⟩ := List.mem_map.mp hx
            exact j1 _ (k2 _ (hA a ha) _ (List.mem_cons_of_mem _ (List.mem_singleton.mpr rfl)))
  · rcases List.mem_append.mp hp with hp | hp
    · exact hold (by have := (h.ge p hp).1; omega) (h.d p hp)
    · rw [List.mem_singleton.mp hp]; exact hnew (j := 0) ho.d
  · rcases List.mem_append.mp hp with hp | hp
    · show _ = some (strsO ((if p.nm = pc.nm then iniR (rowsP pc.ps) else T p.nm) q.1))
      rw [if_neg (hnm p hp)]
      exact hold (by have := (h.ge p hp).2 q hq; omega) (h.c p hp q hq)
    · rw [List.mem_singleton.mp hp] at hq ⊢
      obtain ⟨j, e1, _, e2⟩ := hks q hq
      show _ = some (strsO ((if pc.nm = pc.nm then iniR (rowsP pc.ps) else T pc.nm) q.1))
      rw [if_pos rfl, e1]
      exact hnew e2
  · rcases List.mem_append.mp hp with hp | hp
    · rcases List.mem_append.mp hp' with hp' | hp'
      · exact h.s1 p hp q hq p' hp'
      · rw [List.mem_singleton.mp hp']
        have := hcl p hp q hq
        show q.2 ≠ L.length
        omega
    · rw [List.mem_singleton.mp hp] at hq
      obtain ⟨j, e1, e2, _⟩ := hks q hq
      rcases List.mem_append.mp hp' with hp' | hp'
      · have := hal p' hp'; omega
      · rw [List.mem_singleton.mp hp']; show q.2 ≠ L.length; omega
  · rcases List.mem_append.mp hp with hp | hp
    · rcases List.mem_append.mp hp' with hp' | hp'
      · exact h.s2 p hp q hq p' hp' q' hq'
      · rw [List.mem_singleton.mp hp'] at hq' ⊢
        obtain ⟨j, e1, e2, _⟩ := hks q' hq'
        have := hcl p hp q hq
        exact ⟨fun e => by omega, fun e => absurd e.1 (hnm p hp)⟩
    · rw [List.mem_singleton.mp hp] at hq ⊢
      obtain ⟨j, e1, e2, _⟩ := hks q hq
      rcases List.mem_append.mp hp' with hp' | hp'
      · have := hcl p' hp' q' hq'
        exact ⟨fun e => by omega, fun e => absurd e.1.symm (hnm p' hp')⟩
      · rw [List.mem_singleton.mp hp'] at hq' ⊢
        refine ⟨fun e => ⟨rfl, ho.i q hq q' hq' e⟩, fun e => ?_⟩
        obtain ⟨i1, hi1⟩ := List.mem_iff_getElem?.mp hq
        obtain ⟨i2, hi2⟩ := List.mem_iff_getElem?.mp hq'
        have g1 : (ks'.map (·.1))[i1]? = some q.1 := by rw [List.getElem?_map, hi1]; rfl
        have g2 : (ks'.map (·.1))[i2]? = some q.1 := by rw [List.getElem?_map, hi2, e.2]; rfl
        obtain ⟨x1, y1⟩ := List.getElem?_eq_some_iff.mp g1
        obtain ⟨x2, y2⟩ := List.getElem?_eq_some_iff.mp g2
        have := (List.getElem_inj ho.nd).mp (y1.trans y2.symm)
        subst this
        rw [hi1] at hi2
        rw [Option.some.inj hi2]
  · rcases List.mem_append.mp hp with hp | hp
    · exact h.ge p hp
    · rw [List.mem_singleton.mp hp]
      refine ⟨by show 2 ≤ L.length; omega, fun q hq => ?_⟩
      obtain ⟨j, e1, _, _⟩ := hks q hq
      omega
  · rw [List.map_append]
    exact List.nodup_append.mpr ⟨h.nd, by simp, fun a ha b hb => by rw [List.mem_singleton.mp hb]; exact fun e => hn (show pc.nm ∈ ts.map (·.nm) from (show a = pc.nm from e) ▸ ha)⟩
  · rcases List.mem_append.mp hp with hp | hp
    · exact h.kd p hp
    · rw [List.mem_singleton.mp hp]; exact ho.nd
  · show (if n = pc.nm then iniR (rowsP pc.ps) else T n) k |>.Nodup
    split
    · unfold iniR
      exact inn.at_.sublist (List.Sublist.map _ List.filter_sublist)
    · exact h.tn n k
end
end PvK

namespace PvK
open PySem PySem.Spec PyProof.Rows L2 Pv
theorem merge_tab {α : Type} {em : α → Dt} : ∀ (ps m : List (Str × α)), mergeV (mapK em m) (mapK em ps) = mapK em (ps.foldl (fun m p => putS m p.1 p.2) m)
  | [], m => rfl
  | p :: ps, m => by
    show mergeV (putV (mapK em m) (.inr p.1) (.d (em p.2))) (mapK em ps) = _
    rw [put_mapK]
    exact merge_tab ps _
theorem wr_dcS {α : Type} {em : α → Dt} {mh : List Ob} {Q : Val → List Ob → Prop} {ps : List (Str × α)} {ys : List (Key × Val)} (e : ys = mapK em ps) (q : Q (.d (datK em (tabS ps))) mh) : WR false (some (.nd (mergeV [] ys))) mh Q := by
  subst e
  have h : mergeV [] (mapK em ps) = mapK em (tabS ps) := merge_tab ps []
  rw [h]
  exact wr_nd rfl (asDKs_mapK em _) q
end PvK

namespace PvK
open PySem PySem.Spec PyProof.Rows L2 Pv
/-! Marks.__init__ and leans_of -/
def rowsTs (cs : List Pc) : Str → List (Str × Str) := cs.foldl (fun R pc n => if n = pc.nm then rowsP pc.ps else R n) (fun _ => [])
def iniTs (cs : List Pc) : Tn := cs.foldl (fun T pc n => if n = pc.nm then iniR (rowsP pc.ps) else T n) (fun _ _ => [])
theorem rowsTs_snoc (cs : List Pc) (pc : Pc) : rowsTs (cs ++ [pc]) = fun n => if n = pc.nm then rowsP pc.ps else rowsTs cs n := by
  unfold rowsTs; rw [List.foldl_append]; rfl
theorem iniTs_snoc (cs : List Pc) (pc : Pc) : iniTs (cs ++ [pc]) = fun n => if n = pc.nm then iniR (rowsP pc.ps) else iniTs cs n := by
  unfold iniTs; rw [List.foldl_append]; rfl
theorem iniTs_eq (cs : List Pc) : ∀ n k, iniTs cs n k = iniR (rowsTs cs n) k := by
  refine snoc_ind (P := fun cs => ∀ n k, iniTs cs n k = iniR (rowsTs cs n) k) (fun n k => rfl) (fun cs pc ih n k => ?_) cs
  rw [iniTs_snoc, rowsTs_snoc]
  show (if n = pc.nm then iniR (rowsP pc.ps) else iniTs cs n) k = iniR (if n = pc.nm then rowsP pc.ps else rowsTs cs n) k
  by_cases h : n = pc.nm
  · rw [if_pos h, if_pos h]
  · rw [if_neg h, if_neg h]; exact ih n k
theorem rowsTs_or (cs : List Pc) : ∀ n, rowsTs cs n = [] ∨ ∃ pc ∈ cs, rowsTs cs n = rowsP pc.ps := by
  refine snoc_ind (P := fun cs => ∀ n, rowsTs cs n = [] ∨ ∃ pc ∈ cs, rowsTs cs n = rowsP pc.ps) (fun n => .inl rfl) (fun cs pc ih n => ?_) cs
  rw [rowsTs_snoc]
  show (if n = pc.nm then rowsP pc.ps else rowsTs cs n) = [] ∨ ∃ p ∈ cs ++ [pc], (if n = pc.nm then rowsP pc.ps else rowsTs cs n) = rowsP p.ps
  by_cases h : n = pc.nm
  · rw [if_pos h]; exact .inr ⟨pc, List.mem_append_right _ (List.mem_singleton.mpr rfl), rfl⟩
  · rw [if_neg h]
    rcases ih n with h1 | ⟨p, h1, h2⟩
    · exact .inl h1
    · exact .inr ⟨p, List.mem_append_left _ h1, h2⟩
theorem rowsTs_at (cs : List Pc) : (cs.map (·.nm)).Nodup → ∀ pc ∈ cs, rowsTs cs pc.nm = rowsP pc.ps := by
  refine snoc_ind (P := fun cs => (cs.map (·.nm)).Nodup → ∀ pc ∈ cs, rowsTs cs pc.nm = rowsP pc.ps) (fun _ _ h => (nomatch h)) (fun cs p ih nd pc h => ?_) cs
  rw [rowsTs_snoc]
  show (if pc.nm = p.nm then rowsP p.ps else rowsTs cs pc.nm) = rowsP pc.ps
  rw [List.map_append] at nd
  obtain ⟨n1, _, n2⟩ := List.nodup_append.mp nd
  rcases List.mem_append.mp h with h | h
  · rw [if_neg (n2 _ (List.mem_map.mpr ⟨pc, h, rfl⟩) _ (List.mem_singleton.mpr rfl))]; exact ih n1 pc h
  · rw [List.mem_singleton.mp h, if_pos rfl]
theorem lk_tab {α : Type} {f : α → Str} (cs : List α) : (cs.map f).Nodup → ∀ x ∈ cs, lkS (tabS (cs.map fun p => (f p, p))) (f x) = some x := by
  refine snoc_ind (P := fun cs => (cs.map f).Nodup → ∀ x ∈ cs, lkS (tabS (cs.map fun p => (f p, p))) (f x) = some x) (fun _ _ h => (nomatch h)) (fun cs p ih nd x h => ?_) cs
  rw [List.map_append] at nd
  obtain ⟨n1, _, n2⟩ := List.nodup_append.mp nd
  have e : (cs ++ [p]).map (fun p => (f p, p)) = cs.map (fun p => (f p, p)) ++ [(f p, p)] := by rw [List.map_append]; rfl
  rw [e, tabS_snoc]
  rcases List.mem_append.mp h with h | h
  · rw [lkS_put_ne (n2 _ (List.mem_map.mpr ⟨x, h, rfl⟩) _ (List.mem_singleton.mpr rfl))]; exact ih n1 x h
  · rw [List.mem_singleton.mp h]; exact lkS_put_same
structure PcAll (pc : Pc) (I A : List Str) : Prop where
  ok : PcOk pc I A
  inn : PcIn pc
  i : ∀ x ∈ I, (false, x) ∈ pc.ps ++ pc.lc
  a : ∀ x ∈ A, (true, x) ∈ pc.ps ++ pc.lc
theorem rowsP_len {pc : Pc} {I A : List Str} (ok : PcOk pc I A) : (rowsP pc.ps).length ≤ 20 := by
  have h := flat_le (f := rowsA) (n := 2) (xs := pc.ps) fun y _ => by unfold rowsA; split <;> simp
  have := ok.psl
  unfold rowsP; omega
section
variable {cs : List Pc}
theorem tok0 (ok : ∀ pc ∈ cs, ∃ I A, PcAll pc I A) : TOk (rowsTs cs) (allFl cs) (iniTs cs) := by
  refine ⟨fun n p hp => ?_, fun n k a ha => ?_, fun n k => ?_⟩
  · rw [iniTs_eq]
    exact List.mem_map.mpr ⟨p, List.mem_filter.mpr ⟨hp, decide_eq_true rfl⟩, rfl⟩
  · rw [iniTs_eq] at ha
    obtain ⟨w, hw, rfl⟩ := List.mem_map.mp ha
    obtain ⟨h1, h2⟩ := List.mem_filter.mp hw
    have h2 : w.1 = k := of_decide_eq_true h2
    exact ⟨k, h2 ▸ h1, .refl _⟩
  · rw [iniTs_eq]
    rcases rowsTs_or cs n with h | ⟨pc, h1, h⟩
    · rw [h]; exact List.nodup_nil
    · rw [h]
      obtain ⟨I, A, pa⟩ := ok pc h1
      unfold iniR
      exact pa.inn.at_.sublist (List.Sublist.map _ List.filter_sublist)
theorem rows_le (ok : ∀ pc ∈ cs, ∃ I A, PcAll pc I A) (n : Str) : (rowsTs cs n).length ≤ 1000 := by
  rcases rowsTs_or cs n with h | ⟨pc, h1, h⟩
  · rw [h]; exact Nat.zero_le _
  · rw [h]
    obtain ⟨I, A, pa⟩ := ok pc h1
    have := rowsP_len pa.ok
    omega
theorem u_ex : ∀ cs : List Pc, cs.length ≤ 2 → (∀ pc ∈ cs, ∃ I A, PcAll pc I A) → ∃ U : List (Str × Str), (∀ p ∈ allFl cs, (p.1, p.2.1) ∈ U) ∧ U.length ≤ 200 := by
  have h : ∀ cs : List Pc, (∀ pc ∈ cs, ∃ I A, PcAll pc I A) → ∃ U : List (Str × Str), (∀ pc ∈ cs, ∀ st ∈ stms pc.b, ∀ f ∈ flowsQ (pc, st), (f.1, f.2.1) ∈ U) ∧ U.length ≤ 100 * cs.length := by
    intro cs
    induction cs with
    | nil => exact fun _ => ⟨[], fun _ h => (nomatch h), Nat.zero_le _⟩
    | cons pc cs ih =>
      intro ok
      obtain ⟨U, h1, h2⟩ := ih fun p hp => ok p (List.mem_cons_of_mem _ hp)
      obtain ⟨I, A, pa⟩ := ok pc List.mem_cons_self
      refine ⟨(keysU I A pc.R).map (fun k => (pc.nm, k)) ++ U, fun p hp st hst f hf => ?_, ?_⟩
      · rcases List.mem_cons.mp hp with rfl | hp
        · obtain ⟨g, hg, rfl⟩ := List.mem_map.mp hf
          refine List.mem_append_left _ (List.mem_map.mpr ⟨g.1, ?_, rfl⟩)
          have hcm : ∀ t : Ts, g ∈ (cmps t).map flowC → g.1 ∈ keysU I A p.R := fun t hg => by
            obtain ⟨c, _, rfl⟩ := List.mem_map.mp hg
            exact List.mem_cons_self
          have hs := pa.ok.sm st hst
          have hfu := flows_u hs
          cases st with
          | whl t b => exact hcm t hg
          | iff t l r => exact hcm t hg
          | _ => exact (hfu g hg).1
        · exact List.mem_append_right _ (h1 p hp st hst f hf)
      · have := pa.ok.Rl
        have := pa.ok.il
        have := pa.ok.al
        have e : (keysU I A pc.R).length = 1 + (pc.R.length + (I.length + (A.length + A.length))) := by
          unfold keysU
          rw [List.length_cons, List.length_append, List.length_append, List.length_append, List.length_map, List.length_map, List.length_map]; omega
        rw [List.length_append, List.length_map, List.length_cons, e]
        omega
  intro cs hc ok
  obtain ⟨U, h1, h2⟩ := h cs ok
  refine ⟨U, fun p hp => ?_, by omega⟩
  obtain ⟨q, hq, hf⟩ := List.mem_flatMap.mp hp
  obtain ⟨pc, hpc, hq2⟩ := List.mem_flatMap.mp hq
  obtain ⟨st, hst, rfl⟩ := List.mem_map.mp hq2
  exact h1 pc hpc st hst p hf
abbrev mTab (cs : List Pc) : List (Str × Pc) := tabS (cs.map fun p => (p.nm, p))
theorem minit_ok (k : Nat) (base : List Ob) (hc : cs.length ≤ 2) (nd : (cs.map (·.nm)).Nodup) (ok : ∀ pc ∈ cs, ∃ I A, PcAll pc I A) (Q : Val → List Ob → Prop)
    (hQ : ∀ L' ts, MkL base.length L' (.tuple (cs.map pcd)) (datK pcd (mTab cs)) ts (iniTs cs) false → (∀ pc ∈ cs, ∃ I A, PcAll pc I A ∧ ∃ p ∈ ts, p.nm = pc.nm ∧ ∀ x ∈ keysU I A pc.R, x ∈ p.ks.map (·.1)) → Q (.d .none) (base ++ L')) :
    W (callP P gl (k + 2) 4 [.ref base.length, .d (.tuple (cs.map pcd))]) (base ++ [.ins MK []]) Q := by
  refine w_keep (nm := f4.name) (ps := f4.ps) (N := f4.N) (body := f4.body) (env := [some (.ref base.length), some (.d (.tuple (cs.map pcd))), none]) rfl rfl ?_
  have hsl : sizeLine = 16777216 := rfl
  have s0 : ∀ (L : List Ob) (o : Ob), (base ++ L).set base.length o = base ++ L.set 0 o := fun L o => po_set (j := 0)
  have g0 : ∀ (os : List Ob) (fs : List (Str × Val)), (base ++ (Ob.ins MK fs :: os))[base.length]? = some (.ins MK fs) := fun os fs => po_get (j := 0) rfl
  unfold f4
  walk_at "pv all"
  refine setF_w (g0 _ _) rfl (Nat.le_of_ble_eq_true rfl) ?_
  rw [s0]
  walk_at "pv all"
  refine ix_T ?_
  refine wc_map (r := fun p : Pc => ((Sum.inr p.nm : Key), Val.d (pcd p))) gnil (fun p hp => ?_) ?_
  · walk_at "pv all"
    refine ix_tup (j := 0) rfl rfl ?_
    walk_at "pv all"
    exact ⟨_, rfl, rfl, rfl⟩
  refine wr_dcS (em := pcd) (ps := cs.map fun p => (p.nm, p)) (by unfold mapK; rw [List.map_map]; rfl) ?_
  walk_at "pv all"
  refine setF_w (g0 _ _) rfl (Nat.le_of_ble_eq_true rfl) ?_
  rw [s0]
  walk_at "pv all"
  have e1 : ∀ X : Ob, (base ++ [X]).length = base.length + 1 := fun X => by rw [List.length_append]; rfl
  have e2 : ∀ X : Ob, base ++ [X] ++ [Ob.dct []] = base ++ [X, .dct []] := fun X => List.append_assoc _ _ _
  show W (setF _ _ _ (.ref (base ++ [Ob.ins MK [("core", .d (.tuple (cs.map pcd))), ("procs", .d (datK pcd (mTab cs)))]]).length)) (base ++ [Ob.ins MK [("core", .d (.tuple (cs.map pcd))), ("procs", .d (datK pcd (mTab cs)))]] ++ [Ob.dct []]) _
  rw [e1, e2]
  refine setF_w (g0 _ _) rfl (Nat.le_of_ble_eq_true rfl) ?_
  rw [s0]
  walk_at "pv all"
  refine setF_w (g0 _ _) rfl (Nat.le_of_ble_eq_true rfl) ?_
  rw [s0]
  have m0 : MkL base.length [.ins MK (mkFs base.length (.tuple (cs.map pcd)) (datK pcd (mTab cs)) false), .dct []] (.tuple (cs.map pcd)) (datK pcd (mTab cs)) [] (iniTs []) false :=
    ⟨rfl, rfl, fun _ h => (nomatch h), fun _ h => (nomatch h), fun _ h => (nomatch h), fun _ h => (nomatch h), fun _ h => (nomatch h), List.nodup_nil, fun _ h => (nomatch h), fun _ _ => List.nodup_nil⟩
  show WS _ _ _ _ (base ++ [.ins MK (mkFs base.length (.tuple (cs.map pcd)) (datK pcd (mTab cs)) false), .dct []]) _
  generalize ([.ins MK (mkFs base.length (.tuple (cs.map pcd)) (datK pcd (mTab cs)) false), .dct []] : List Ob) = L0 at m0
  walk_at "pv all"
  refine ix_T ?_
  refine wl_invL (fun i e m => ∃ (L : List Ob) (ts : List Pt) (a2 : Option Val), e = [some (.ref base.length), some (.d (.tuple (cs.map pcd))), a2] ∧ m = base ++ L ∧ MkL base.length L (.tuple (cs.map pcd)) (datK pcd (mTab cs)) ts (iniTs (cs.take i)) false ∧ ts.map (·.nm) = (cs.take i).map (·.nm) ∧ ∀ pc ∈ cs.take i, ∃ I A, PcAll pc I A ∧ ∃ p ∈ ts, p.nm = pc.nm ∧ ∀ x ∈ keysU I A pc.R, x ∈ p.ks.map (·.1)) ⟨L0, [], _, rfl, rfl, m0, rfl, fun _ h => (nomatch h)⟩ (fun i pc e m hp I => ?_) (fun e m I => ?_)
  · obtain ⟨L, ts, a2, rfl, rfl, hm, hn, hk⟩ := I
    obtain ⟨I, A, pa⟩ := ok pc (List.mem_of_getElem? hp)
    have ht : cs.take (i + 1) = cs.take i ++ [pc] := by rw [List.take_add_one, hp]; rfl
    have hb : (base ++ L)[base.length]? = some (.ins MK (mkFs base.length (.tuple (cs.map pcd)) (datK pcd (mTab cs)) false)) := po_get (j := 0) hm.o
    have hl : ts.length ≤ 100 := by
      have := congrArg List.length hn
      rw [List.length_map, List.length_map, List.length_take] at this
      omega
    have hnn : pc.nm ∉ ts.map (·.nm) := by
      rw [hn]
      intro h
      obtain ⟨j, hj⟩ := List.mem_iff_getElem?.mp h
      rw [List.getElem?_map, List.getElem?_take] at hj
      split at hj
      · have e1 : (cs.map (·.nm))[j]? = some pc.nm := by rw [List.getElem?_map]; exact hj
        have e2 : (cs.map (·.nm))[i]? = some pc.nm := by rw [List.getElem?_map, hp]; rfl
        obtain ⟨x1, y1⟩ := List.getElem?_eq_some_iff.mp e1
        obtain ⟨x2, y2⟩ := List.getElem?_eq_some_iff.mp e2
        have := (List.getElem_inj nd).mp (y1.trans y2.symm)
        omega
      · cases hj
    rw [ht]
    walk_at "pv all"
    refine mcall_ex2 hb rfl rfl ?_
    walk_at "pv all"
    refine begin_ok k hm pa.ok pa.inn hnn hl pa.i pa.a _ fun L' pt h1 h2 h3 => ?_
    walk_at "pv all"
    refine ⟨L', ts ++ [pt], _, rfl, rfl, by rw [iniTs_snoc]; exact h3, by rw [List.map_append, List.map_append, hn, List.map_singleton, List.map_singleton, h1], fun p' hp' => ?_⟩
    rcases List.mem_append.mp hp' with hp' | hp'
    · obtain ⟨I', A', z1, p, z2, z3⟩ := hk p' hp'
      exact ⟨I', A', z1, p, List.mem_append_left _ z2, z3⟩
    · rw [List.mem_singleton.mp hp']
      exact ⟨I, A, pa, pt, List.mem_append_right _ (List.mem_singleton.mpr rfl), h1, h2⟩
  · obtain ⟨L, ts, a2, rfl, rfl, hm, hn, hk⟩ := I
    rw [List.take_length] at hm hk
    walk_at "pv all"
    exact hQ L ts hm hk
theorem leans_ok (l : Nat) (mh : List Ob) (hc : cs.length ≤ 2) (nd : (cs.map (·.nm)).Nodup) (ok : ∀ pc ∈ cs, ∃ I A, PcAll pc I A) (Q : Val → List Ob → Prop) (q : Q (.d (.tuple (cs.map fun pc => rowMk pc (markR pc)))) mh) :
    W (callP P gl (l + 11) 17 [.d (.tuple (cs.map pcd))]) mh Q := by
  refine w_pure (nm := f17.name) (ps := f17.ps) (N := f17.N) (body := f17.body) (env := [some (.d (.tuple (cs.map pcd))), none, none]) rfl rfl ?_
  have hsl : sizeLine = 16777216 := rfl
  unfold f17
  walk_at "pv all"
  refine minit_ok (l + 8) mh hc nd ok _ fun L ts hm hk => ?_
  refine ⟨rfl, ?_⟩
  have hb : (mh ++ L)[mh.length]? = some (.ins MK (mkFs mh.length (.tuple (cs.map pcd)) (datK pcd (mTab cs)) false)) := po_get (j := 0) hm.o
  have hlk := lk_tab (f := fun p : Pc => p.nm) cs nd
  have hrw := rowsTs_at cs nd
  have hcs : CsOk cs ts (mTab cs) (rowsTs cs) := ⟨hc, fun pc hpc => by
    obtain ⟨I, A, h1, h2⟩ := hk pc hpc
    exact ⟨I, A, h1.ok, h2, hlk pc hpc, hrw pc hpc⟩, rows_le ok⟩
  walk_at "pv all"
  refine mcall_ex2 hb rfl rfl ?_
  walk_at "pv all"
  obtain ⟨U, hU1, hU2⟩ := u_ex cs hc ok
  refine settle_ok (l) mh (s := (iniTs cs, false)) ⟨hm, tok0 ok⟩ hcs U hU1 hU2 _ fun L' T hS hcl => ?_
  walk_at "pv all"
  refine ix_T ?_
  refine wc_map (r := fun pc : Pc => Val.d (rowMk pc (markR pc))) gnil (fun pc hpc => ?_) ?_
  · obtain ⟨I, A, h1, p, h2, h3, h4⟩ := hk pc hpc
    have hb2 : (mh ++ L')[mh.length]? = some (.ins MK (mkFs mh.length (.tuple (cs.map pcd)) (datK pcd (mTab cs)) false)) := po_get (j := 0) hS.m.o
    walk_at "pv all"
    refine mcall_ex2 hb2 rfl rfl ?_
    walk_at "pv all"
    refine row_ok (l + 7) mh hS.m h1.ok h2 h3 h4 _ ?_
    have e : mkT T pc = markR pc := funext fun key => mk_same nd hpc (hrw pc hpc) h1.inn.at_ hS.t hcl key
    rw [e]
    exact ⟨rfl, rfl⟩
  refine wr_nl (ds := cs.map fun pc => rowMk pc (markR pc)) (by rw [List.map_map]; rfl) ?_
  walk_at "pv all"
  exact q
end
end PvK

namespace PvK
open PySem PySem.Spec PyProof.Rows L2 Pv
/-! drawn sums, tests, statements -/
structure Wd where
  nm : Str
  I : List Str
  A : List Str
  C : List Str
  R : List Str
  ps : List (Bool × Str)
  lc : List (Bool × Str)
def hdd (w : Wd) : List Dt := [.str w.nm, .tuple (w.ps.map pard), strT w.R, .tuple (w.lc.map pard)]
def wm (w : Wd) : List (Str × Dt) := [("ints", strD w.I), ("arrays", strD w.A), ("records", strD w.C), ("head", .tuple (hdd w))]
def wdd (w : Wd) : Dt := datK (fun d : Dt => d) (wm w)
theorem lkS_hd {α : Type} {x : Str} {v : α} {m : List (Str × α)} : lkS ((x, v) :: m) x = some v := by
  unfold lkS; rw [List.find?_cons, decide_eq_true rfl]; rfl
theorem lkS_tl {α : Type} {x y : Str} {v : α} {m : List (Str × α)} (h : y ≠ x) : lkS ((y, v) :: m) x = lkS m x := by
  unfold lkS; rw [List.find?_cons, decide_eq_false h]
theorem wI (w : Wd) : lkS (wm w) "ints" = some (strD w.I) := lkS_hd
theorem wA (w : Wd) : lkS (wm w) "arrays" = some (strD w.A) := by unfold wm; rw [lkS_tl (by decide +kernel)]; exact lkS_hd
theorem wC (w : Wd) : lkS (wm w) "records" = some (strD w.C) := by unfold wm; rw [lkS_tl (by decide +kernel), lkS_tl (by decide +kernel)]; exact lkS_hd
theorem wH (w : Wd) : lkS (wm w) "head" = some (.tuple (hdd w)) := by unfold wm; rw [lkS_tl (by decide +kernel), lkS_tl (by decide +kernel), lkS_tl (by decide +kernel)]; exact lkS_hd
structure WdOk (w : Wd) : Prop where
  no : NmOk w.I w.A
  pI : 0 < w.I.length
  lI : w.I.length < 1000
  pA : 0 < w.A.length
  lA : w.A.length < 1000
  pC : 0 < w.C.length
  lC : w.C.length < 1000
  c : ∀ r ∈ w.C, r.length ≤ 10 ∧ r ++ Str.ofString ".s" ∈ w.I ∧ r ++ Str.ofString ".t" ∈ w.I
  rl : w.R.length ≤ 2
section
variable {w : Wd}
theorem sum_ok (ok : WdOk w) : ∀ (n l : Nat) (s : Ds) (tl : List Ob) (Q : Val → List Ob → Prop), n ≤ 10 → n + 2 ≤ l → (∀ e s', exOk w.I w.A e → e.dp ≤ n → Q (.d (exd e)) (St s' :: tl)) →
    W (callP P gl l 25 [.ref 0, .d (wdd w), .d (.int (n : Int))]) (St s :: tl) Q := by
  intro n
  induction n with
  | zero =>
    intro l s tl Q _ hl q
    obtain ⟨l, rfl⟩ : ∃ l2, l = l2 + 2 := ⟨l - 2, by omega⟩
    refine w_def (nm := f25.name) (ps := f25.ps) (N := f25.N) (body := f25.body) (env := [some (.ref 0), some (.d (wdd w)), some (.d (.int (0 : Nat))), none, none, none]) rfl rfl ?_
    unfold f25
    walk_at "pv all"
    refine draw_ok 11 _ _ _ (by decide) (by decide) _ fun p s1 p1 => ?_
    walk_at "pv all"
    refine ci_eq (fun _ => ?_) (fun h => absurd rfl h)
    walk_at "pv all"
    refine draw_ok 4 _ _ _ (by decide) (by decide) _ fun p2 s2 p3 => ?_
    walk_at "pv all"
    refine ci_eq (fun _ => ?_) (fun _ => ?_)
    · walk_at "pv all"
      refine draw_ok 4 _ _ _ (by decide) (by decide) _ fun rn sn hn => ?_
      walk_at "pv all"
      obtain ⟨n, xn⟩ : ∃ y : Int, ([0, 1, 7, 999999] : List Int)[rn]? = some y := ⟨_, List.getElem?_eq_getElem hn⟩
      refine ix_list rfl (v := .int n) (show (([0, 1, 7, 999999] : List Int).map PyData.int)[rn]? = some (.int n) by rw [List.getElem?_map, xn]; rfl) ?_
      walk_at "pv all"
      exact q (.num n) _ trivial (Nat.zero_le _)
    · walk_at "pv all"
      refine ix_dct' (em := fun d : Dt => d) (m := wm w) (wI w) ?_
      walk_at "pv all"
      refine ix_dct' (em := fun d : Dt => d) (m := wm w) (wI w) ?_
      walk_at "pv all"
      refine draw_ok _ _ _ _ (by rw [List.length_map]; exact ok.pI) (by rw [List.length_map]; have := ok.lI; omega) _ fun rx sx hx => ?_
      rw [List.length_map] at hx
      walk_at "pv all"
      obtain ⟨x, xx⟩ : ∃ y, (w.I)[rx]? = some y := ⟨_, List.getElem?_eq_getElem hx⟩
      have mx := List.mem_of_getElem? xx
      refine ix_list rfl (v := .str x) (by rw [List.getElem?_map, xx]; rfl) ?_
      walk_at "pv all"
      exact q (.nm x) _ mx (Nat.zero_le _)
  | succ n ih =>
    intro l s tl Q hn hl q
    obtain ⟨l, rfl⟩ : ∃ l2, l = l2 + 2 := ⟨l - 2, by omega⟩
    refine w_def (nm := f25.name) (ps := f25.ps) (N := f25.N) (body := f25.body) (env := [some (.ref 0), some (.d (wdd w)), some (.d (.int ((n + 1 : Nat) : Int))), none, none, none]) rfl rfl ?_
    unfold f25
    walk_at "pv all"
    refine draw_ok 11 _ _ _ (by decide) (by decide) _ fun p s1 p1 => ?_
    walk_at "pv all"
    have hsub : (((n + 1 : Nat) : Int) - 1) = (n : Int) := by omega
    refine ci_eq (fun h => absurd h (by omega)) (fun _ => ?_)
    walk_at "pv all"
    refine ci_lt (fun _ => ?_) (fun g1 => ?_)
    · walk_at "pv all"
      refine draw_ok 4 _ _ _ (by decide) (by decide) _ fun p2 s2 p3 => ?_
      walk_at "pv all"
      refine ci_eq (fun _ => ?_) (fun _ => ?_)
      · walk_at "pv all"
        refine draw_ok 4 _ _ _ (by decide) (by decide) _ fun rn sn hn => ?_
        walk_at "pv all"
        obtain ⟨n, xn⟩ : ∃ y : Int, ([0, 1, 7, 999999] : List Int)[rn]? = some y := ⟨_, List.getElem?_eq_getElem hn⟩
        refine ix_list rfl (v := .int n) (show (([0, 1, 7, 999999] : List Int).map PyData.int)[rn]? = some (.int n) by rw [List.getElem?_map, xn]; rfl) ?_
        walk_at "pv all"
        exact q (.num n) _ trivial (Nat.zero_le _)
      · walk_at "pv all"
        refine ix_dct' (em := fun d : Dt => d) (m := wm w) (wI w) ?_
        walk_at "pv all"
        refine ix_dct' (em := fun d : Dt => d) (m := wm w) (wI w) ?_
        walk_at "pv all"
        refine draw_ok _ _ _ _ (by rw [List.length_map]; exact ok.pI) (by rw [List.length_map]; have := ok.lI; omega) _ fun rx sx hx => ?_
        rw [List.length_map] at hx
        walk_at "pv all"
        obtain ⟨x, xx⟩ : ∃ y, (w.I)[rx]? = some y := ⟨_, List.getElem?_eq_getElem hx⟩
        have mx := List.mem_of_getElem? xx
        refine ix_list rfl (v := .str x) (by rw [List.getElem?_map, xx]; rfl) ?_
        walk_at "pv all"
        exact q (.nm x) _ mx (Nat.zero_le _)
    walk_at "pv all"
    refine ix_dct' (em := fun d : Dt => d) (m := wm w) (wA w) ?_
    walk_at "pv all"
    refine ix_dct' (em := fun d : Dt => d) (m := wm w) (wA w) ?_
    walk_at "pv all"
    refine draw_ok _ _ _ _ (by rw [List.length_map]; exact ok.pA) (by rw [List.length_map]; have := ok.lA; omega) _ fun ra sa ha => ?_
    rw [List.length_map] at ha
    walk_at "pv all"
    obtain ⟨a, xa⟩ : ∃ y, (w.A)[ra]? = some y := ⟨_, List.getElem?_eq_getElem ha⟩
    have ma := List.mem_of_getElem? xa
    refine ix_list rfl (v := .str a) (by rw [List.getElem?_map, xa]; rfl) ?_
    walk_at "pv all"
    refine ci_eq (fun _ => ?_) (fun g2 => ?_)
    · walk_at "pv all"
      exact q (.len a) _ ma (Nat.zero_le _)
    walk_at "pv all"
    rw [hsub]
    refine ih (l + 1) _ _ _ (by omega) (by omega) fun e s3 o1 o2 => ?_
    walk_at "pv all"
    refine ci_lt (fun _ => ?_) (fun g3 => ?_)
    · walk_at "pv all"
      exact q (.item a e) _ ⟨ma, o1⟩ (Nat.succ_le_succ o2)
    walk_at "pv all"
    refine ci_eq (fun _ => ?_) (fun g4 => ?_)
    · walk_at "pv all"
      refine draw_ok 4 _ _ _ (by decide) (by decide) _ fun rn sn hn => ?_
      walk_at "pv all"
      obtain ⟨n, xn⟩ : ∃ y : Int, ([0, 1, 3, -1] : List Int)[rn]? = some y := ⟨_, List.getElem?_eq_getElem hn⟩
      refine ix_list rfl (v := .int n) (show (([0, 1, 3, -1] : List Int).map PyData.int)[rn]? = some (.int n) by rw [List.getElem?_map, xn]; rfl) ?_
      walk_at "pv all"
      exact q (.scale n e) _ o1 (Nat.succ_le_succ o2)
    walk_at "pv all"
    refine ci_eq (fun _ => ?_) (fun g5 => ?_)
    · walk_at "pv all"
      refine draw_ok 4 _ _ _ (by decide) (by decide) _ fun p2 s2 p3 => ?_
      walk_at "pv all"
      exact q (.quo e (1 + (p2 : Int))) _ o1 (Nat.succ_le_succ o2)
    walk_at "pv all"
    refine ci_eq (fun _ => ?_) (fun g6 => ?_)
    · walk_at "pv all"
      refine draw_ok 4 _ _ _ (by decide) (by decide) _ fun p2 s2 p3 => ?_
      walk_at "pv all"
      exact q (.rem e (1 + (p2 : Int))) _ o1 (Nat.succ_le_succ o2)
    walk_at "pv all"
    have hp : p = 9 ∨ p = 10 := by omega
    rcases hp with rfl | rfl
    · refine ix_list (j := 0) (by decide) rfl ?_
      walk_at "pv all"
      rw [hsub]
      refine ih (l + 1) _ _ _ (by omega) (by omega) fun f s4 o3 o4 => ?_
      walk_at "pv all"
      exact q (.plus e f) _ ⟨o1, o3⟩ (Nat.succ_le_succ (Nat.max_le.mpr ⟨o2, o4⟩))
    · refine ix_list (j := 1) (by decide) rfl ?_
      walk_at "pv all"
      rw [hsub]
      refine ih (l + 1) _ _ _ (by omega) (by omega) fun f s4 o3 o4 => ?_
      walk_at "pv all"
      exact q (.minus e f) _ ⟨o1, o3⟩ (Nat.succ_le_succ (Nat.max_le.mpr ⟨o2, o4⟩))
theorem test_ok (ok : WdOk w) : ∀ (n l : Nat) (s : Ds) (tl : List Ob) (Q : Val → List Ob → Prop), n ≤ 10 → n + 4 ≤ l → (∀ t s', tsOk w.I w.A t → t.dp ≤ n → Q (.d (tsd t)) (St s' :: tl)) →
    W (callP P gl l 26 [.ref 0, .d (wdd w), .d (.int (n : Int))]) (St s :: tl) Q := by
  intro n
  induction n with
  | zero =>
    intro l s tl Q _ hl q
    obtain ⟨l, rfl⟩ : ∃ l2, l = l2 + 4 := ⟨l - 4, by omega⟩
    refine w_def (nm := f26.name) (ps := f26.ps) (N := f26.N) (body := f26.body) (env := [some (.ref 0), some (.d (wdd w)), some (.d (.int (0 : Nat))), none, none]) rfl rfl ?_
    unfold f26
    walk_at "pv all"
    refine draw_ok 8 _ _ _ (by decide) (by decide) _ fun p s1 p1 => ?_
    walk_at "pv all"
    refine ci_gt (fun h => absurd h (by omega)) (fun _ => ?_)
    walk_at "pv all"
    refine draw_ok 2 _ _ _ (by decide) (by decide) _ fun p2 s2 p3 => ?_
    walk_at "pv all"
    have hp2 : p2 = 0 ∨ p2 = 1 := by omega
    rcases hp2 with rfl | rfl
    · refine ix_list (j := 0) rfl rfl ?_
      walk_at "pv all"
      refine sum_ok ok 1 _ _ _ _ (by decide) (by omega) fun e s3 o1 o2 => ?_
      walk_at "pv all"
      refine sum_ok ok 1 _ _ _ _ (by decide) (by omega) fun f s4 o3 o4 => ?_
      walk_at "pv all"
      exact q (.cmp true e f) _ ⟨o1, o3, by omega, by omega⟩ (Nat.zero_le _)
    · refine ix_list (j := 1) rfl rfl ?_
      walk_at "pv all"
      refine sum_ok ok 1 _ _ _ _ (by decide) (by omega) fun e s3 o1 o2 => ?_
      walk_at "pv all"
      refine sum_ok ok 1 _ _ _ _ (by decide) (by omega) fun f s4 o3 o4 => ?_
      walk_at "pv all"
      exact q (.cmp false e f) _ ⟨o1, o3, by omega, by omega⟩ (Nat.zero_le _)
  | succ n ih =>
    intro l s tl Q hn hl q
    obtain ⟨l, rfl⟩ : ∃ l2, l = l2 + 4 := ⟨l - 4, by omega⟩
    refine w_def (nm := f26.name) (ps := f26.ps) (N := f26.N) (body := f26.body) (env := [some (.ref 0), some (.d (wdd w)), some (.d (.int ((n + 1 : Nat) : Int))), none, none]) rfl rfl ?_
    unfold f26
    walk_at "pv all"
    refine draw_ok 8 _ _ _ (by decide) (by decide) _ fun p s1 p1 => ?_
    walk_at "pv all"
    have hsub : (((n + 1 : Nat) : Int) - 1) = (n : Int) := by omega
    refine ci_gt (fun _ => ?_) (fun h => absurd (show (0 : Int) < ((n + 1 : Nat) : Int) by omega) h)
    walk_at "pv all"
    refine ci_lt (fun _ => ?_) (fun _ => ?_)
    · walk_at "pv all"
      rw [hsub]
      refine ih (l + 3) _ _ _ (by omega) (by omega) fun t s2 o1 o2 => ?_
      walk_at "pv all"
      refine ci_eq (fun _ => ?_) (fun _ => ?_)
      · walk_at "pv all"
        exact q (.nt t) _ o1 (Nat.succ_le_succ o2)
      · walk_at "pv all"
        refine draw_ok 2 _ _ _ (by decide) (by decide) _ fun p2 s2 p3 => ?_
        walk_at "pv all"
        have hp2 : p2 = 0 ∨ p2 = 1 := by omega
        rcases hp2 with rfl | rfl
        · refine ix_list (j := 0) rfl rfl ?_
          walk_at "pv all"
          rw [hsub]
          refine ih (l + 3) _ _ _ (by omega) (by omega) fun t' s2 o3 o4 => ?_
          walk_at "pv all"
          exact q (.two true t t') _ ⟨o1, o3⟩ (Nat.succ_le_succ (Nat.max_le.mpr ⟨o2, o4⟩))
        · refine ix_list (j := 1) rfl rfl ?_
          walk_at "pv all"
          rw [hsub]
          refine ih (l + 3) _ _ _ (by omega) (by omega) fun t' s2 o3 o4 => ?_
          walk_at "pv all"
          exact q (.two false t t') _ ⟨o1, o3⟩ (Nat.succ_le_succ (Nat.max_le.mpr ⟨o2, o4⟩))
    · have q : ∀ t s', tsOk w.I w.A t → t.dp ≤ 0 → Q (.d (tsd t)) (St s' :: tl) := fun t s' h1 h2 => q t s' h1 (by omega)
      walk_at "pv all"
      refine draw_ok 2 _ _ _ (by decide) (by decide) _ fun p2 s2 p3 => ?_
      walk_at "pv all"
      have hp2 : p2 = 0 ∨ p2 = 1 := by omega
      rcases hp2 with rfl | rfl
      · refine ix_list (j := 0) rfl rfl ?_
        walk_at "pv all"
        refine sum_ok ok 1 _ _ _ _ (by decide) (by omega) fun e s3 o1 o2 => ?_
        walk_at "pv all"
        refine sum_ok ok 1 _ _ _ _ (by decide) (by omega) fun f s4 o3 o4 => ?_
        walk_at "pv all"
        exact q (.cmp true e f) _ ⟨o1, o3, by omega, by omega⟩ (Nat.zero_le _)
      · refine ix_list (j := 1) rfl rfl ?_
        walk_at "pv all"
        refine sum_ok ok 1 _ _ _ _ (by decide) (by omega) fun e s3 o1 o2 => ?_
        walk_at "pv all"
        refine sum_ok ok 1 _ _ _ _ (by decide) (by omega) fun f s4 o3 o4 => ?_
        walk_at "pv all"
        exact q (.cmp false e f) _ ⟨o1, o3, by omega, by omega⟩ (Nat.zero_le _)
end
end PvK

namespace PvK
open PySem PySem.Spec PyProof.Rows L2 Pv
/-! drawn statements and bodies -/
theorem rs_sz {r : Str} (h : r.length ≤ 10) : r.length + (Str.ofString ".s").length ≤ sizeLine := by
  have h1 : (Str.ofString ".s").length ≤ 2 := by decide +kernel
  have hs : sizeLine = 16777216 := rfl
  omega
theorem rt_sz {r : Str} (h : r.length ≤ 10) : r.length + (Str.ofString ".t").length ≤ sizeLine := by
  have h1 : (Str.ofString ".t").length ≤ 2 := by decide +kernel
  have hs : sizeLine = 16777216 := rfl
  omega
section
variable {w : Wd}
def GvOk (w : Wd) (es : List Ex) : Prop := es.length = w.R.length ∧ ∀ e ∈ es, exOk w.I w.A e ∧ e.dp ≤ 3
theorem give_ok (ok : WdOk w) (l : Nat) (s : Ds) (tl : List Ob) (Q : Val → List Ob → Prop) (hl : 5 ≤ l) (q : ∀ es s', GvOk w es → Q (.d (smd (.give es))) (St s' :: tl)) : W (callP P gl l 27 [.ref 0, .d (wdd w)]) (St s :: tl) Q := by
  obtain ⟨l, rfl⟩ : ∃ l2, l = l2 + 5 := ⟨l - 5, by omega⟩
  refine w_def (nm := f27.name) (ps := f27.ps) (N := f27.N) (body := f27.body) (env := [some (.ref 0), some (.d (wdd w)), none, none]) rfl rfl ?_
  unfold f27
  walk_at "pv all"
  refine ix_dct' (em := fun d : Dt => d) (m := wm w) (wH w) ?_
  walk_at "pv all"
  refine ix_tup (j := 2) rfl rfl ?_
  walk_at "pv all"
  refine ci_eq (fun g => ?_) (fun _ => ?_)
  · rw [List.length_map] at g
    walk_at "pv all"
    refine ix_dct' (em := fun d : Dt => d) (m := wm w) (wC w) ?_
    walk_at "pv all"
    refine ix_dct' (em := fun d : Dt => d) (m := wm w) (wC w) ?_
    walk_at "pv all"
    refine draw_ok _ _ _ _ (by rw [List.length_map]; exact ok.pC) (by rw [List.length_map]; have := ok.lC; omega) _ fun rr sr hr => ?_
    rw [List.length_map] at hr
    walk_at "pv all"
    obtain ⟨r, xr⟩ : ∃ y, (w.C)[rr]? = some y := ⟨_, List.getElem?_eq_getElem hr⟩
    have mr := List.mem_of_getElem? xr
    refine ix_list rfl (v := .str r) (by rw [List.getElem?_map, xr]; rfl) ?_
    walk_at "pv all"
    obtain ⟨c1, c2, c3⟩ := ok.c r mr
    refine wr_addS (rs_sz c1) ?_
    walk_at "pv all"
    refine wr_addS (rt_sz c1) ?_
    walk_at "pv all"
    refine q [.nm (r ++ Str.ofString ".s"), .nm (r ++ Str.ofString ".t")] _ ⟨by show 2 = _; omega, fun e he => ?_⟩
    rcases List.mem_cons.mp he with rfl | he
    · exact ⟨c2, by show 0 ≤ 3; decide⟩
    · rw [List.mem_singleton.mp he]; exact ⟨c3, by show 0 ≤ 3; decide⟩
  · walk_at "pv all"
    refine ix_T ?_
    refine wc_genL (α := Ex) exd (fun _ e => exOk w.I w.A e ∧ e.dp ≤ 3) (fun r s2 hr => ?_) fun es s2 h1 h2 => ?_
    · walk_at "pv all"
      refine sum_ok ok 2 _ _ _ _ (by decide) (by omega) fun e s3 e1 e2 => ?_
      exact ⟨e, _, rfl, rfl, e1, by omega⟩
    refine wr_nl rfl ?_
    walk_at "pv all"
    refine q es _ ⟨h1, fun e he => ?_⟩
    obtain ⟨j, hj⟩ := List.mem_iff_getElem?.mp he
    have hjl : j < w.R.length := by have := (List.getElem?_eq_some_iff.mp hj).1; omega
    exact h2 j _ _ (List.getElem?_eq_getElem hjl) hj
def cB : Nat → Nat
  | 0 => 1
  | n + 1 => 1 + 6 * cB n
structure SmD (w : Wd) (n : Nat) (s : Sm) : Prop where
  l : (stm s).length ≤ cB n
  ok : ∀ s' ∈ stm s, smOk w.I w.A w.R s'
  d : s.dp ≤ n
theorem smd0 {s : Sm} (n : Nat) (h : stm s = [s]) (ok : smOk w.I w.A w.R s) (hd : s.dp = 0) : SmD w n s := by
  refine ⟨by rw [h]; show 1 ≤ _; cases n with | zero => exact Nat.le_refl _ | succ n => exact Nat.le_add_right _ _, fun s' hs => ?_, by omega⟩
  rw [h] at hs
  rw [List.mem_singleton.mp hs]; exact ok
theorem simple_ok (ok : WdOk w) (n l : Nat) (s : Ds) (tl : List Ob) (Q : Val → List Ob → Prop) (hl : 5 ≤ l) (q : ∀ st s', SmD w n st → Q (.d (smd st)) (St s' :: tl)) : W (callP P gl l 28 [.ref 0, .d (wdd w)]) (St s :: tl) Q := by
  obtain ⟨l, rfl⟩ : ∃ l2, l = l2 + 5 := ⟨l - 5, by omega⟩
  refine w_def (nm := f28.name) (ps := f28.ps) (N := f28.N) (body := f28.body) (env := [some (.ref 0), some (.d (wdd w)), none, none, none, none, none]) rfl rfl ?_
  unfold f28
  walk_at "pv all"
  refine draw_ok 9 _ _ _ (by decide) (by decide) _ fun p s1 p1 => ?_
  walk_at "pv all"
  refine ix_dct' (em := fun d : Dt => d) (m := wm w) (wI w) ?_
  walk_at "pv all"
  refine ix_dct' (em := fun d : Dt => d) (m := wm w) (wI w) ?_
  walk_at "pv all"
  refine draw_ok _ _ _ _ (by rw [List.length_map]; exact ok.pI) (by rw [List.length_map]; have := ok.lI; omega) _ fun rx sx hx => ?_
  rw [List.length_map] at hx
  walk_at "pv all"
  obtain ⟨x, xx⟩ : ∃ y, (w.I)[rx]? = some y := ⟨_, List.getElem?_eq_getElem hx⟩
  have mx := List.mem_of_getElem? xx
  refine ix_list rfl (v := .str x) (by rw [List.getElem?_map, xx]; rfl) ?_
  walk_at "pv all"
  refine ix_dct' (em := fun d : Dt => d) (m := wm w) (wA w) ?_
  walk_at "pv all"
  refine ix_dct' (em := fun d : Dt => d) (m := wm w) (wA w) ?_
  walk_at "pv all"
  refine draw_ok _ _ _ _ (by rw [List.length_map]; exact ok.pA) (by rw [List.length_map]; have := ok.lA; omega) _ fun ra sa ha => ?_
  rw [List.length_map] at ha
  walk_at "pv all"
  obtain ⟨a, xa⟩ : ∃ y, (w.A)[ra]? = some y := ⟨_, List.getElem?_eq_getElem ha⟩
  have ma := List.mem_of_getElem? xa
  refine ix_list rfl (v := .str a) (by rw [List.getElem?_map, xa]; rfl) ?_
  walk_at "pv all"
  refine ci_lt (fun _ => ?_) (fun _ => ?_)
  · walk_at "pv all"
    refine sum_ok ok 2 _ _ _ _ (by decide) (by omega) fun e se e1 e2 => ?_
    walk_at "pv all"
    refine q (.set [(x, e)]) _ (smd0 n rfl ⟨fun p hp => ?_, by show 1 ≤ 2; decide⟩ rfl)
    rw [List.mem_singleton.mp hp]
    exact ⟨mx, e1, by show e.dp ≤ 3; omega⟩
  walk_at "pv all"
  refine ci_eq (fun _ => ?_) (fun _ => ?_)
  · walk_at "pv all"
    refine sum_ok ok 1 _ _ _ _ (by decide) (by omega) fun e se e1 e2 => ?_
    walk_at "pv all"
    refine sum_ok ok 1 _ _ _ _ (by decide) (by omega) fun f sf f1 f2 => ?_
    walk_at "pv all"
    exact q (.store a e f) _ (smd0 n rfl ⟨ma, ⟨e1, by omega⟩, f1, by omega⟩ rfl)
  walk_at "pv all"
  refine ci_lt (fun _ => ?_) (fun _ => ?_)
  · walk_at "pv all"
    refine sum_ok ok 1 _ _ _ _ (by decide) (by omega) fun e se e1 e2 => ?_
    walk_at "pv all"
    exact q (.push e a) _ (smd0 n rfl ⟨ma, e1, by omega⟩ rfl)
  walk_at "pv all"
  refine ci_eq (fun _ => ?_) (fun _ => ?_)
  · walk_at "pv all"
    exact q (.pop x a) _ (smd0 n rfl ⟨mx, ma⟩ rfl)
  walk_at "pv all"
  refine ci_eq (fun _ => ?_) (fun _ => ?_)
  · walk_at "pv all"
    refine ix_dct' (em := fun d : Dt => d) (m := wm w) (wC w) ?_
    walk_at "pv all"
    refine ix_dct' (em := fun d : Dt => d) (m := wm w) (wC w) ?_
    walk_at "pv all"
    refine draw_ok _ _ _ _ (by rw [List.length_map]; exact ok.pC) (by rw [List.length_map]; have := ok.lC; omega) _ fun ry sy hy => ?_
    rw [List.length_map] at hy
    walk_at "pv all"
    obtain ⟨y, xy⟩ : ∃ y, (w.C)[ry]? = some y := ⟨_, List.getElem?_eq_getElem hy⟩
    have my := List.mem_of_getElem? xy
    refine ix_list rfl (v := .str y) (by rw [List.getElem?_map, xy]; rfl) ?_
    walk_at "pv all"
    refine ix_dct' (em := fun d : Dt => d) (m := wm w) (wC w) ?_
    walk_at "pv all"
    refine ix_dct' (em := fun d : Dt => d) (m := wm w) (wC w) ?_
    walk_at "pv all"
    refine draw_ok _ _ _ _ (by rw [List.length_map]; exact ok.pC) (by rw [List.length_map]; have := ok.lC; omega) _ fun rz sz hz => ?_
    rw [List.length_map] at hz
    walk_at "pv all"
    obtain ⟨z, xz⟩ : ∃ y, (w.C)[rz]? = some y := ⟨_, List.getElem?_eq_getElem hz⟩
    have mz := List.mem_of_getElem? xz
    refine ix_list rfl (v := .str z) (by rw [List.getElem?_map, xz]; rfl) ?_
    walk_at "pv all"
    obtain ⟨c1, c2, c3⟩ := ok.c y my
    obtain ⟨d1, d2, d3⟩ := ok.c z mz
    refine wr_addS (rs_sz c1) ?_
    walk_at "pv all"
    refine wr_addS (rs_sz d1) ?_
    walk_at "pv all"
    refine wr_addS (rt_sz c1) ?_
    walk_at "pv all"
    refine wr_addS (rt_sz d1) ?_
    walk_at "pv all"
    refine q (.set [(y ++ Str.ofString ".s", .nm (z ++ Str.ofString ".s")), (y ++ Str.ofString ".t", .nm (z ++ Str.ofString ".t"))]) _ (smd0 n rfl ⟨fun p hp => ?_, by show 2 ≤ 2; decide⟩ rfl)
    rcases List.mem_cons.mp hp with rfl | hp
    · exact ⟨c2, d2, by show 0 ≤ 3; decide⟩
    · rw [List.mem_singleton.mp hp]; exact ⟨c3, d3, by show 0 ≤ 3; decide⟩
  · walk_at "pv all"
    exact q .pause _ (smd0 n rfl trivial rfl)
def ofL : List Sm → Sms
  | [] => .nil
  | s :: xs => .cons s (ofL xs)
theorem ofL_d : ∀ xs : List Sm, smsd (ofL xs) = xs.map smd
  | [] => by rw [ofL, smsd]; rfl
  | s :: xs => by rw [ofL, smsd, ofL_d xs, List.map_cons]
theorem ofL_s : ∀ xs : List Sm, stms (ofL xs) = xs.flatMap stm
  | [] => by rw [ofL, stms]; rfl
  | s :: xs => by rw [ofL, stms, ofL_s xs, List.flatMap_cons]
theorem ofL_dp {n : Nat} : ∀ {xs : List Sm}, (∀ s ∈ xs, s.dp ≤ n) → (ofL xs).dp ≤ n
  | [], _ => by rw [ofL, Sms.dp]; exact Nat.zero_le _
  | s :: xs, h => by
    rw [ofL, Sms.dp]
    exact Nat.max_le.mpr ⟨h s List.mem_cons_self, ofL_dp fun s hs => h s (List.mem_cons_of_mem _ hs)⟩
def BlD (w : Wd) (n m : Nat) (xs : List Sm) : Prop := xs.length ≤ m + 1 ∧ ∀ s ∈ xs, SmD w n s
theorem bl_len {n m : Nat} {xs : List Sm} (h : BlD w n m xs) : (stms (ofL xs)).length ≤ cB n * (m + 1) := by
  rw [ofL_s]
  exact Nat.le_trans (flat_le fun s hs => (h.2 s hs).l) (Nat.mul_le_mul_left _ h.1)
theorem bl_ok {n m : Nat} {xs : List Sm} (h : BlD w n m xs) : ∀ s ∈ stms (ofL xs), smOk w.I w.A w.R s := by
  rw [ofL_s]
  intro s hs
  obtain ⟨s', h1, h2⟩ := List.mem_flatMap.mp hs
  exact (h.2 s' h1).ok s h2
theorem whl_d {n m : Nat} {t : Ts} {xs : List Sm} (h : BlD w n m xs) (hm : m ≤ 2) (ht : tsOk w.I w.A t) (hd : t.dp ≤ 5) : SmD w (n + 1) (.whl t (ofL xs)) := by
  have hl := Nat.le_trans (bl_len h) (Nat.mul_le_mul_left (cB n) (Nat.succ_le_succ hm))
  refine ⟨?_, fun s hs => ?_, ?_⟩
  · rw [stm, List.length_cons]; show _ ≤ 1 + 6 * cB n; omega
  · rw [stm] at hs
    rcases List.mem_cons.mp hs with rfl | hs
    · exact ⟨ht, hd⟩
    · exact bl_ok h s hs
  · rw [Sm.dp]; exact Nat.succ_le_succ (ofL_dp fun s hs => (h.2 s hs).d)
theorem iff_d {n m m2 : Nat} {t : Ts} {xs ys : List Sm} (h : BlD w n m xs) (hm : m ≤ 2) (h2 : BlD w n m2 ys) (hm2 : m2 ≤ 2) (ht : tsOk w.I w.A t) (hd : t.dp ≤ 5) : SmD w (n + 1) (.iff t (ofL xs) (ofL ys)) := by
  have hl := Nat.le_trans (bl_len h) (Nat.mul_le_mul_left (cB n) (Nat.succ_le_succ hm))
  have hl2 := Nat.le_trans (bl_len h2) (Nat.mul_le_mul_left (cB n) (Nat.succ_le_succ hm2))
  refine ⟨?_, fun s hs => ?_, ?_⟩
  · rw [stm, List.length_cons, List.length_append]; show _ ≤ 1 + 6 * cB n; omega
  · rw [stm] at hs
    rcases List.mem_cons.mp hs with rfl | hs
    · exact ⟨ht, hd⟩
    · rcases List.mem_append.mp hs with hs | hs
      · exact bl_ok h s hs
      · exact bl_ok h2 s hs
  · rw [Sm.dp]
    exact Nat.succ_le_succ (Nat.max_le.mpr ⟨ofL_dp fun s hs => (h.2 s hs).d, ofL_dp fun s hs => (h2.2 s hs).d⟩)
abbrev smO (xs : List Sm) : Ob := .lst ((xs.map smd).map .d)
theorem block_ok (ok : WdOk w) : ∀ (n m l : Nat) (s : Ds) (tl : List Ob) (Q : Val → List Ob → Prop), n ≤ 5 → m ≤ 10 → n + 8 ≤ l → (∀ xs s', BlD w n m xs → Q (.d (.tuple (xs.map smd))) (St s' :: tl)) →
    W (callP P gl l 29 [.ref 0, .d (wdd w), .d (.int (n : Int)), .d (.int (m : Int))]) (St s :: tl) Q := by
  intro n
  induction n using Nat.strongRecOn with
  | _ n ih =>
  intro m l s tl Q hn hm hl q
  obtain ⟨l, rfl⟩ : ∃ l2, l = l2 + 8 := ⟨l - 8, by omega⟩
  refine w_def (nm := f29.name) (ps := f29.ps) (N := f29.N) (body := f29.body) (env := [some (.ref 0), some (.d (wdd w)), some (.d (.int (n : Int))), some (.d (.int (m : Int))), none, none, none, none, none]) rfl rfl ?_
  have hsl : sizeLine = 16777216 := rfl
  unfold f29
  walk_at "pv all"
  have app : ∀ (xs : List Sm) (st : Sm) (s' : Ds) (R : Val → List Ob → Prop), xs.length ≤ 20 → R (.d .none) (St s' :: (tl ++ [smO (xs ++ [st])])) → W (Mt.f .append (.ref (tl.length + 1 + 0)) [.d (smd st)]) (St s' :: (tl ++ [smO xs])) R := fun xs st s' R h1 h2 => by
    refine app_end (os_get (j := 0) rfl) (by rw [List.length_map, List.length_map]; omega) ?_
    rw [os_set]
    have e : Ob.lst ((xs.map smd).map Val.d ++ [.d (smd st)]) = smO (xs ++ [st]) := by unfold smO; rw [List.map_append, List.map_append]; rfl
    rw [e]; exact h2
  have rcv : ∀ (xs : List Sm) (s' : Ds), rcv "list" (.ref (tl.length + 1 + 0)) (St s' :: (tl ++ [smO xs])) = true := fun xs s' => rcv_lst (os_get (j := 0) rfl)
  refine rg1 (n := m) rfl (by omega) ?_
  refine wl_invR (fun i e mm => ∃ (s' : Ds) (xs : List Sm) (a5 a6 a7 a8 : Option Val), e = [some (.ref 0), some (.d (wdd w)), some (.d (.int (n : Int))), some (.d (.int (m : Int))), some (.ref (tl.length + 1 + 0)), a5, a6, a7, a8] ∧ mm = St s' :: (tl ++ [smO xs]) ∧ xs.length ≤ i ∧ ∀ st ∈ xs, SmD w n st) ⟨s, [], _, _, _, _, rfl, rfl, Nat.le_refl _, fun _ h => (nomatch h)⟩ (fun i e mm hi I => ?_) (fun e mm I => ?_)
  · obtain ⟨s', xs, a5, a6, a7, a8, rfl, rfl, h1, h2⟩ := I
    have fin : ∀ (st : Sm) (s2 : Ds) (b5 b6 b7 b8 : Option Val), SmD w n st → ∃ (s' : Ds) (xs' : List Sm) (a5 a6 a7 a8 : Option Val), ([some (.ref 0), some (.d (wdd w)), some (.d (.int (n : Int))), some (.d (.int (m : Int))), some (.ref (tl.length + 1 + 0)), b5, b6, b7, b8] : Sl) = [some (.ref 0), some (.d (wdd w)), some (.d (.int (n : Int))), some (.d (.int (m : Int))), some (.ref (tl.length + 1 + 0)), a5, a6, a7, a8] ∧ St s2 :: (tl ++ [smO (xs ++ [st])]) = St s' :: (tl ++ [smO xs']) ∧ xs'.length ≤ i + 1 ∧ ∀ st ∈ xs', SmD w n st := fun st s2 b5 b6 b7 b8 hs =>
      ⟨s2, xs ++ [st], b5, b6, b7, b8, rfl, rfl, by rw [List.length_append]; exact Nat.succ_le_succ h1, fun s3 h3 => (List.mem_append.mp h3).elim (h2 s3) fun h3 => by rw [List.mem_singleton.mp h3]; exact hs⟩
    walk_at "pv all"
    refine draw_ok 7 _ _ _ (by decide) (by decide) _ fun p s1 p1 => ?_
    walk_at "pv all"
    by_cases hz : n = 0
    · subst hz
      refine ci_gt (fun h => absurd h (by decide)) (fun _ => ?_)
      walk_at "pv all"
      refine ci_gt (fun h => absurd h (by decide)) (fun _ => ?_)
      walk_at "pv all"
      refine ⟨rcv _ _, ?_⟩
      walk_at "pv all"
      refine simple_ok ok 0 _ _ _ _ (by omega) fun st s2 hst => ?_
      walk_at "pv all"
      refine app xs st _ _ (by omega) ?_
      walk_at "pv all"
      exact fin st _ _ _ _ _ hst
    obtain ⟨n, rfl⟩ : ∃ n2, n = n2 + 1 := ⟨n - 1, by omega⟩
    have hsub : (((n + 1 : Nat) : Int) - 1) = (n : Int) := by omega
    have hpos : (0 : Int) < ((n + 1 : Nat) : Int) := by omega
    have ih := ih n (by omega)
    refine ci_gt (fun _ => ?_) (fun h => absurd hpos h)
    walk_at "pv all"
    refine ci_eq (fun _ => ?_) (fun _ => ?_)
    · walk_at "pv all"
      refine ⟨rcv _ _, ?_⟩
      walk_at "pv all"
      refine test_ok ok 1 _ _ _ _ (by decide) (by omega) fun t s2 t1 t2 => ?_
      walk_at "pv all"
      rw [hsub]
      refine draw_ok 2 _ _ _ (by decide) (by decide) _ fun p2 s3 p3 => ?_
      walk_at "pv all"
      rw [show (1 : Int) + (p2 : Int) = ((1 + p2 : Nat) : Int) by omega]
      refine ih (1 + p2) _ _ _ _ (by omega) (by omega) (by omega) fun ys s4 hys => ?_
      walk_at "pv all"
      have e : smd (.whl t (ofL ys)) = .tuple [.str "while", tsd t, .tuple (ys.map smd)] := by rw [smd, ofL_d]
      rw [← e]
      refine app xs _ _ _ (by omega) ?_
      walk_at "pv all"
      exact fin _ _ _ _ _ _ (whl_d hys (by omega) t1 (by omega))
    walk_at "pv all"
    refine ci_gt (fun _ => ?_) (fun h => absurd hpos h)
    walk_at "pv all"
    refine ci_lt (fun _ => ?_) (fun _ => ?_)
    · walk_at "pv all"
      refine test_ok ok 2 _ _ _ _ (by decide) (by omega) fun t s2 t1 t2 => ?_
      walk_at "pv all"
      rw [hsub]
      refine draw_ok 2 _ _ _ (by decide) (by decide) _ fun p2 s3 p3 => ?_
      walk_at "pv all"
      rw [show (1 : Int) + (p2 : Int) = ((1 + p2 : Nat) : Int) by omega]
      refine ih (1 + p2) _ _ _ _ (by omega) (by omega) (by omega) fun ys s4 hys => ?_
      walk_at "pv all"
      refine ⟨rcv _ _, ?_⟩
      walk_at "pv all"
      rw [hsub]
      refine draw_ok 3 _ _ _ (by decide) (by decide) _ fun p4 s5 p5 => ?_
      walk_at "pv all"
      refine ih p4 _ _ _ _ (by omega) (by omega) (by omega) fun zs s6 hzs => ?_
      walk_at "pv all"
      have e : smd (.iff t (ofL ys) (ofL zs)) = .tuple [.str "if", tsd t, .tuple (ys.map smd), .tuple (zs.map smd)] := by rw [smd, ofL_d, ofL_d]
      rw [← e]
      refine app xs _ _ _ (by omega) ?_
      walk_at "pv all"
      exact fin _ _ _ _ _ _ (iff_d hys (by omega) hzs (by omega) t1 (by omega))
    · walk_at "pv all"
      refine ⟨rcv _ _, ?_⟩
      walk_at "pv all"
      refine simple_ok ok (n + 1) _ _ _ _ (by omega) fun st s2 hst => ?_
      walk_at "pv all"
      refine app xs st _ _ (by omega) ?_
      walk_at "pv all"
      exact fin st _ _ _ _ _ hst
  · obtain ⟨s', xs, a5, a6, a7, a8, rfl, rfl, h1, h2⟩ := I
    have tail : ∀ (xs : List Sm) (s' : Ds), BlD w n m xs → WS gl (callP P gl (l + 7)) (.frz 4 (.cons (.ret (.bi .tuple false (.cons (.slot 4) .nil))) .nil)) [some (.ref 0), some (.d (wdd w)), some (.d (.int (n : Int))), some (.d (.int (m : Int))), some (.ref (tl.length + 1 + 0)), a5, a6, a7, a8] (St s' :: (tl ++ [smO xs])) fun fl mh' => ∃ x s' os, (fl = .rt (.d x) ∨ ∃ e, fl = .nx e ∧ x = .none) ∧ mh' = St s' :: (tl ++ os) ∧ Q (.d x) (St s' :: tl) := fun xs s' h => by
      refine frz_lst rfl (os_get (j := 0) rfl) ?_
      rw [os_set]
      walk_at "pv all"
      exact q xs s' h
    walk_at "pv all"
    refine ci_gt (fun _ => ?_) (fun _ => ?_)
    · walk_at "pv all"
      refine draw_ok 3 _ _ _ (by decide) (by decide) _ fun p s1 p1 => ?_
      walk_at "pv all"
      refine ci_eq (fun _ => ?_) (fun _ => ?_)
      · walk_at "pv all"
        refine ⟨rcv _ _, ?_⟩
        walk_at "pv all"
        refine give_ok ok _ _ _ _ (by omega) fun es s2 hes => ?_
        walk_at "pv all"
        refine app xs (.give es) _ _ (by omega) ?_
        walk_at "pv all"
        refine tail _ _ ⟨by rw [List.length_append]; exact Nat.succ_le_succ h1, fun st hst => ?_⟩
        rcases List.mem_append.mp hst with hst | hst
        · exact h2 st hst
        · rw [List.mem_singleton.mp hst]; exact smd0 n rfl hes rfl
      · walk_at "pv all"
        exact tail _ _ ⟨by omega, h2⟩
    · walk_at "pv all"
      exact tail _ _ ⟨by omega, h2⟩
end
end PvK

namespace PvK
open PySem PySem.Spec PyProof.Rows L2 Pv
/-! the head of a drawn procedure -/
theorem str_ex {x y : Str} (h : x.cps.toList = y.cps.toList) : x = y := by
  cases x; cases y
  exact congrArg Str.mk (Array.toList_inj.mp h)
theorem len_l (x : Str) : x.length = x.cps.toList.length := by simp [Str.length]
abbrev dS : Str := Str.ofString ".s"
abbrev dT : Str := Str.ofString ".t"
theorem dS_l : dS.cps.toList = [46, 115] := by decide +kernel
theorem dT_l : dT.cps.toList = [46, 116] := by decide +kernel
theorem cut_end (x : Str) : cutS x (some (-2)) none = ⟨(x.cps.toList.drop (x.length - 2)).toArray⟩ := by
  unfold cutS
  have h : HT.sIx x.length 0 (some (-2)) = x.length - 2 := by
    show (if (-2 : Int) < 0 then ((-2 : Int) + (x.length : Int)).toNat else min (-2 : Int).toNat x.length) = _
    rw [if_pos (by decide)]; omega
  rw [show HT.sIx x.length x.length none = x.length from rfl, h, List.take_of_length_le (by rw [List.length_drop, ← len_l]; omega)]
theorem cut_beg (x : Str) : cutS x none (some (-2)) = ⟨(x.cps.toList.take (x.length - 2)).toArray⟩ := by
  unfold cutS
  have h : HT.sIx x.length x.length (some (-2)) = x.length - 2 := by
    show (if (-2 : Int) < 0 then ((-2 : Int) + (x.length : Int)).toNat else min (-2 : Int).toNat x.length) = _
    rw [if_pos (by decide)]; omega
  rw [show HT.sIx x.length 0 none = 0 from rfl, h, List.drop_zero, Nat.sub_zero]
theorem app_len2 {v z : Str} (hz : z.cps.toList.length = 2) : (v ++ z).length - 2 = v.cps.toList.length := by
  rw [len_l, app_list, List.length_append, hz]; omega
theorem cut_e {v z : Str} (hz : z.cps.toList.length = 2) : cutS (v ++ z) (some (-2)) none = z := by
  rw [cut_end, app_len2 hz, app_list, List.drop_left]
theorem cut_b {v z : Str} (hz : z.cps.toList.length = 2) : cutS (v ++ z) none (some (-2)) = v := by
  rw [cut_beg, app_len2 hz, app_list, List.take_left]
theorem no_dot {w : Str} (h : Wrd w) : (46 : Nat) ∉ w.cps.toList := by
  obtain ⟨_, a, as, e, h1, h2, h3⟩ := h
  rw [e]
  intro hc
  rcases List.mem_cons.mp hc with rfl | hc
  · omega
  · have := h3 46 hc; omega
theorem cut_w {w : Str} (h : Wrd w) : cutS w (some (-2)) none ≠ dS := by
  rw [cut_end]
  intro e
  have e2 := congrArg (fun z => z.cps.toList) e
  have e3 : w.cps.toList.drop (w.length - 2) = [46, 115] := e2.trans dS_l
  exact no_dot h (List.mem_of_mem_drop (by rw [e3]; exact List.mem_cons_self))
theorem st_ne : dS ≠ dT := by decide +kernel
theorem w_ne {w v z : Str} (h : Wrd w) (hz : (46 : Nat) ∈ z.cps.toList) : w ≠ v ++ z := by
  rintro rfl
  exact no_dot h (by rw [app_list]; exact List.mem_append_right _ hz)
theorem dS_m : (46 : Nat) ∈ dS.cps.toList := by rw [dS_l]; exact List.mem_cons_self
theorem dT_m : (46 : Nat) ∈ dT.cps.toList := by rw [dT_l]; exact List.mem_cons_self
theorem v_st {v u : Str} : v ++ dS ≠ u ++ dT := fun e => by
  have := congrArg (fun z => cutS z (some (-2)) none) e
  simp only [cut_e (z := dS) (by rw [dS_l]; rfl), cut_e (z := dT) (by rw [dT_l]; rfl)] at this
  exact st_ne this
/-- what a name is -/
def Cl (I : List Str) (x : Str) : Prop := Wrd x ∨ (∃ v, Wrd v ∧ x = v ++ dS ∧ v ++ dT ∈ I) ∨ ∃ v, Wrd v ∧ x = v ++ dT
theorem cl_up {I J : List Str} {x : Str} (h : Cl I x) (hi : ∀ y ∈ I, y ∈ J) : Cl J x := by
  rcases h with h | ⟨v, h1, h2, h3⟩ | h
  · exact .inl h
  · exact .inr (.inl ⟨v, h1, h2, hi _ h3⟩)
  · exact .inr (.inr h)
def recs (I : List Str) : List Str := (I.filter fun x => decide (cutS x (some (-2)) none = dS)).map fun x => cutS x none (some (-2))
theorem recs_ok {I : List Str} (h : ∀ x ∈ I, Cl I x) : ∀ r ∈ recs I, Wrd r ∧ r ++ dS ∈ I ∧ r ++ dT ∈ I := by
  intro r hr
  obtain ⟨x, hx, rfl⟩ := List.mem_map.mp hr
  obtain ⟨h1, h2⟩ := List.mem_filter.mp hx
  have h2 : cutS x (some (-2)) none = dS := of_decide_eq_true h2
  rcases h x h1 with h3 | ⟨v, h3, rfl, h4⟩ | ⟨v, h3, rfl⟩
  · exact absurd h2 (cut_w h3)
  · rw [cut_b (by rw [dS_l]; rfl)]
    exact ⟨h3, h1, h4⟩
  · rw [cut_e (by rw [dT_l]; rfl)] at h2
    exact absurd h2.symm st_ne
theorem recs_in {I : List Str} {v : Str} (h : v ++ dS ∈ I) : v ∈ recs I :=
  List.mem_map.mpr ⟨_, List.mem_filter.mpr ⟨h, decide_eq_true (cut_e (by rw [dS_l]; rfl))⟩, cut_b (by rw [dS_l]; rfl)⟩
theorem dS_sm : SN 2 dS := show PyData.strOk dS = true ∧ dS.length ≤ 2 by decide +kernel
theorem dT_sm : SN 2 dT := show PyData.strOk dT = true ∧ dT.length ≤ 2 by decide +kernel
theorem cl_6 {I : List Str} {x : Str} (h : Cl I x) : SN 6 x := by
  rcases h with h | ⟨v, h1, rfl, _⟩ | ⟨v, h1, rfl⟩
  · exact h.ok4.up (by decide)
  · exact SN.app h1.ok4 dS_sm
  · exact SN.app h1.ok4 dT_sm
theorem cl_h {I : List Str} {x : Str} (h : Cl I x) : ∃ a as, x.cps.toList = a :: as ∧ 97 ≤ a := by
  have h1 : ∀ {v z : Str}, Wrd v → ∃ a as, (v ++ z).cps.toList = a :: as ∧ 97 ≤ a := fun {v z} hv => by
    obtain ⟨_, a, as, e, h1, h2, h3⟩ := hv
    exact ⟨a, as ++ z.cps.toList, by rw [app_list, e]; rfl, h1⟩
  rcases h with h | ⟨v, hv, rfl, _⟩ | ⟨v, hv, rfl⟩
  · obtain ⟨_, a, as, e, h1, h2, h3⟩ := h
    exact ⟨a, as, e, h1⟩
  · exact h1 hv
  · exact h1 hv
abbrev Prm := Bool × Str
def prtO (ws : List Str) : List (List Prm) := match ws with
  | [a, b, c, d, e, _, _, _, _, _] => [[(false, a)], [(false, b)], [(true, c)], [(true, d)], [(false, e ++ dS), (false, e ++ dT)]]
  | _ => []
def plcO (ws : List Str) : List Prm := match ws with
  | [_, _, _, _, _, f, g, h, i, j] => [(true, h), (false, f), (false, i ++ dS), (false, i ++ dT), (false, g), (true, j)]
  | _ => []
theorem ex10 {ws : List Str} (h : ws.length = 10) : ∃ a b c d e f g i j k, ws = [a, b, c, d, e, f, g, i, j, k] := by
  have h1 : ∀ {n : Nat} {xs : List Str}, xs.length = n + 1 → ∃ a t, xs = a :: t ∧ t.length = n := fun {n xs} h => by
    cases xs with
    | nil => cases h
    | cons a t => exact ⟨a, t, rfl, Nat.succ.inj h⟩
  obtain ⟨a, t0, e0, k0⟩ := h1 h
  obtain ⟨b, t1, e1, k1⟩ := h1 k0
  obtain ⟨c, t2, e2, k2⟩ := h1 k1
  obtain ⟨d, t3, e3, k3⟩ := h1 k2
  obtain ⟨e, t4, e4, k4⟩ := h1 k3
  obtain ⟨f, t5, e5, k5⟩ := h1 k4
  obtain ⟨g, t6, e6, k6⟩ := h1 k5
  obtain ⟨i, t7, e7, k7⟩ := h1 k6
  obtain ⟨j, t8, e8, k8⟩ := h1 k7
  obtain ⟨k, t9, e9, k9⟩ := h1 k8
  rw [List.length_eq_zero_iff] at k9
  rw [e0, e1, e2, e3, e4, e5, e6, e7, e8, e9, k9]
  exact ⟨_, _, _, _, _, _, _, _, _, _, rfl⟩
theorem flat_sub {α : Type} {xs ys : List (List α)} (h : xs.Sublist ys) : xs.flatten.Sublist ys.flatten := by
  induction h with
  | slnil => exact List.Sublist.refl _
  | cons a _ ih => rw [List.flatten_cons]; exact List.Sublist.trans ih (List.sublist_append_right _ _)
  | cons_cons a _ ih => rw [List.flatten_cons, List.flatten_cons]; exact (List.append_sublist_append_left _).mpr ih
theorem rot_nd {α β : Type} {f : α → β} {xs : List (List α)} (h : (xs.flatten.map f).Nodup) (at_ : Nat) {sel : List (List α)} (hs : sel.Sublist (xs.drop at_ ++ xs.take at_)) : (sel.flatten.map f).Nodup := by
  refine List.Nodup.sublist ((flat_sub hs).map f) ?_
  rw [List.flatten_append, List.map_append]
  rw [← List.take_append_drop at_ xs, List.flatten_append, List.map_append] at h
  exact (List.perm_append_comm.nodup_iff).mp h
/-- the facts of a head -/
structure HdF (w : Wd) : Prop where
  ok : WdOk w
  R : ∀ r ∈ w.R, SM r
  rg : ∀ r ∈ w.R, 6 ≤ r.length
  nm : ∀ q ∈ w.ps ++ w.lc, SN 6 q.2
  hd : ∀ q ∈ w.ps, ∃ a as, q.2.cps.toList = a :: as ∧ 97 ≤ a
  nd : (w.ps.map (·.2)).Nodup
  I : w.I = ((w.ps ++ w.lc).filter fun q => !q.1).map (·.2)
  A : w.A = ((w.ps ++ w.lc).filter fun q => q.1).map (·.2)
  l : w.ps.length ≤ 6
  ll : w.lc.length = 6
section
variable {ws : List Str} (hl : ws.length = 10) (hnd : ws.Nodup) (hw : ∀ x ∈ ws, Wrd x) {at_ : Nat} {sel : List (List Prm)} (hs : sel.Sublist ((prtO ws).drop at_ ++ (prtO ws).take at_))
include hl hnd hw hs
theorem rot_in {p : Prm} (hp : p ∈ sel.flatten) : ∃ part ∈ prtO ws, p ∈ part ∧ ∀ q ∈ part, q ∈ sel.flatten := by
  obtain ⟨part, h1, h2⟩ := List.mem_flatten.mp hp
  refine ⟨part, ?_, h2, fun q hq => List.mem_flatten.mpr ⟨part, h1, hq⟩⟩
  rcases List.mem_append.mp (hs.subset h1) with h | h
  · exact List.mem_of_mem_drop h
  · exact List.mem_of_mem_take h
theorem sel_nd : (sel.flatten.map (·.2)).Nodup := by
  refine rot_nd ?_ at_ hs
  obtain ⟨a, b, c, d, e, f, g, i, j, k, rfl⟩ := ex10 hl
  have ha := hw a (by simp)
  have hb := hw b (by simp)
  have hc := hw c (by simp)
  have hd := hw d (by simp)
  show [a, b, c, d, e ++ dS, e ++ dT].Nodup
  simp only [List.nodup_cons, List.mem_cons, not_or, List.not_mem_nil, not_false_eq_true, and_true] at hnd ⊢
  exact ⟨⟨hnd.1.1, hnd.1.2.1, hnd.1.2.2.1, w_ne ha dS_m, w_ne ha dT_m⟩, ⟨hnd.2.1.1, hnd.2.1.2.1, w_ne hb dS_m, w_ne hb dT_m⟩, ⟨hnd.2.2.1.1, w_ne hc dS_m, w_ne hc dT_m⟩, ⟨w_ne hd dS_m, w_ne hd dT_m⟩, v_st, trivial, List.nodup_nil⟩
theorem sel_len : sel.flatten.length ≤ 6 := by
  refine Nat.le_trans (flat_sub hs).length_le ?_
  rw [List.flatten_append, List.length_append, Nat.add_comm, ← List.length_append, ← List.flatten_append, List.take_append_drop]
  obtain ⟨a, b, c, d, e, f, g, i, j, k, rfl⟩ := ex10 hl
  exact Nat.le_refl _
/-- of the parameters and the places: the integers -/
theorem all_cl {q : Prm} (hq : q ∈ sel.flatten ++ plcO ws) : Cl (((sel.flatten ++ plcO ws).filter fun q => !q.1).map (·.2)) q.2 := by
  have inI : ∀ {x : Str}, (false, x) ∈ sel.flatten ++ plcO ws → x ∈ ((sel.flatten ++ plcO ws).filter fun q => !q.1).map (·.2) := fun {x} h => List.mem_map.mpr ⟨(false, x), List.mem_filter.mpr ⟨h, rfl⟩, rfl⟩
  generalize ((sel.flatten ++ plcO ws).filter fun q => !q.1).map (·.2) = I at inI
  rcases List.mem_append.mp hq with h | h
  · obtain ⟨part, h1, h2, h3⟩ := rot_in hl hnd hw hs h
    have h3 : ∀ q ∈ part, q ∈ sel.flatten ++ plcO ws := fun q hq => List.mem_append_left _ (h3 q hq)
    obtain ⟨a, b, c, d, e, f, g, i, j, k, rfl⟩ := ex10 hl
    have h1 : part ∈ [[(false, a)], [(false, b)], [(true, c)], [(true, d)], [(false, e ++ dS), (false, e ++ dT)]] := h1
    simp only [List.mem_cons, List.not_mem_nil, or_false] at h1
    rcases h1 with rfl | rfl | rfl | rfl | rfl
    · rw [List.mem_singleton.mp h2]; exact .inl (hw _ (by simp))
    · rw [List.mem_singleton.mp h2]; exact .inl (hw _ (by simp))
    · rw [List.mem_singleton.mp h2]; exact .inl (hw _ (by simp))
    · rw [List.mem_singleton.mp h2]; exact .inl (hw _ (by simp))
    · have he := hw e (by simp)
      rcases List.mem_cons.mp h2 with rfl | h2
      · exact .inr (.inl ⟨e, he, rfl, inI (h3 _ (by simp))⟩)
      · rw [List.mem_singleton.mp h2]; exact .inr (.inr ⟨e, he, rfl⟩)
  · have h3 : ∀ q ∈ plcO ws, q ∈ sel.flatten ++ plcO ws := fun q hq => List.mem_append_right _ hq
    obtain ⟨a, b, c, d, e, f, g, i, j, k, rfl⟩ := ex10 hl
    have h : q ∈ [(true, i), (false, f), (false, j ++ dS), (false, j ++ dT), (false, g), (true, k)] := h
    have h3 : ∀ q ∈ [(true, i), (false, f), (false, j ++ dS), (false, j ++ dT), (false, g), (true, k)], q ∈ sel.flatten ++ plcO [a, b, c, d, e, f, g, i, j, k] := h3
    have hj := hw j (by simp)
    simp only [List.mem_cons, List.not_mem_nil, or_false] at h
    rcases h with rfl | rfl | rfl | rfl | rfl | rfl
    · exact .inl (hw _ (by simp))
    · exact .inl (hw _ (by simp))
    · exact .inr (.inl ⟨j, hj, rfl, inI (h3 _ (by simp))⟩)
    · exact .inr (.inr ⟨j, hj, rfl⟩)
    · exact .inl (hw _ (by simp))
    · exact .inl (hw _ (by simp))
theorem hd_fact (nm : Str) (R : List Str) (hR : R ∈ [[], [Str.ofString "result"], [Str.ofString "result.s", Str.ofString "result.t"]]) (w : Wd) (hwe : w = ⟨nm, ((sel.flatten ++ plcO ws).filter fun q => !q.1).map (·.2), ((sel.flatten ++ plcO ws).filter fun q => q.1).map (·.2), recs (((sel.flatten ++ plcO ws).filter fun q => !q.1).map (·.2)), R, sel.flatten, plcO ws⟩) : HdF w := by
  have hcl := fun q hq => all_cl hl hnd hw hs (q := q) hq
  have hlen := sel_len hl hnd hw hs
  have hll : (plcO ws).length = 6 := by
    obtain ⟨a, b, c, d, e, f, g, i, j, k, rfl⟩ := ex10 hl
    rfl
  have hin : ∃ f i h, (false, f) ∈ plcO ws ∧ (false, i ++ dS) ∈ plcO ws ∧ (true, h) ∈ plcO ws := by
    obtain ⟨a, b, c, d, e, f, g, i, j, k, rfl⟩ := ex10 hl
    exact ⟨f, j, i, List.mem_cons_of_mem _ List.mem_cons_self, List.mem_cons_of_mem _ (List.mem_cons_of_mem _ List.mem_cons_self), List.mem_cons_self⟩
  obtain ⟨f, i, h, hf, hi, hh⟩ := hin
  have inI : ∀ {x : Str}, (false, x) ∈ sel.flatten ++ plcO ws → x ∈ ((sel.flatten ++ plcO ws).filter fun q => !q.1).map (·.2) := fun {x} h => List.mem_map.mpr ⟨(false, x), List.mem_filter.mpr ⟨h, rfl⟩, rfl⟩
  have inA : ∀ {x : Str}, (true, x) ∈ sel.flatten ++ plcO ws → x ∈ ((sel.flatten ++ plcO ws).filter fun q => q.1).map (·.2) := fun {x} h => List.mem_map.mpr ⟨(true, x), List.mem_filter.mpr ⟨h, rfl⟩, rfl⟩
  have lI : (((sel.flatten ++ plcO ws).filter fun q => !q.1).map (·.2)).length ≤ 12 := by
    rw [List.length_map]
    have := List.length_filter_le (fun q : Prm => !q.1) (sel.flatten ++ plcO ws)
    rw [List.length_append] at this
    omega
  have lA : (((sel.flatten ++ plcO ws).filter fun q => q.1).map (·.2)).length ≤ 12 := by
    rw [List.length_map]
    have := List.length_filter_le (fun q : Prm => q.1) (sel.flatten ++ plcO ws)
    rw [List.length_append] at this
    omega
  have hclI : ∀ x ∈ ((sel.flatten ++ plcO ws).filter fun q => !q.1).map (·.2), Cl (((sel.flatten ++ plcO ws).filter fun q => !q.1).map (·.2)) x := fun x hx => by
    obtain ⟨q, hq, rfl⟩ := List.mem_map.mp hx
    exact hcl q (List.mem_filter.mp hq).1
  have hr := recs_ok hclI
  have hrl : (recs (((sel.flatten ++ plcO ws).filter fun q => !q.1).map (·.2))).length ≤ 12 := by
    unfold recs
    rw [List.length_map]
    exact Nat.le_trans (List.length_filter_le _ _) lI
  have hR3 : ∀ r ∈ R, SM r ∧ 6 ≤ r.length := by
    simp only [List.mem_cons, List.not_mem_nil, or_false] at hR
    rcases hR with rfl | rfl | rfl
    · exact fun _ h => (nomatch h)
    · intro r hr
      rw [List.mem_singleton.mp hr]
      exact show (PyData.strOk (Str.ofString "result") = true ∧ (Str.ofString "result").length ≤ 10) ∧ 6 ≤ (Str.ofString "result").length by decide +kernel
    · intro r hr
      rcases List.mem_cons.mp hr with rfl | hr
      · exact show (PyData.strOk (Str.ofString "result.s") = true ∧ (Str.ofString "result.s").length ≤ 10) ∧ 6 ≤ (Str.ofString "result.s").length by decide +kernel
      · rw [List.mem_singleton.mp hr]
        exact show (PyData.strOk (Str.ofString "result.t") = true ∧ (Str.ofString "result.t").length ≤ 10) ∧ 6 ≤ (Str.ofString "result.t").length by decide +kernel
  have hR2 : R.length ≤ 2 := by
    simp only [List.mem_cons, List.not_mem_nil, or_false] at hR
    rcases hR with rfl | rfl | rfl
    · exact Nat.zero_le _
    · exact Nat.le_succ _
    · exact Nat.le_refl _
  subst hwe
  refine ⟨⟨⟨fun x hx => ?_, fun x hx => ?_⟩, List.length_pos_of_mem (inI (List.mem_append_right _ hf)), Nat.lt_of_le_of_lt lI (by decide), List.length_pos_of_mem (inA (List.mem_append_right _ hh)), Nat.lt_of_le_of_lt lA (by decide), List.length_pos_of_mem (recs_in (inI (List.mem_append_right _ hi))), Nat.lt_of_le_of_lt hrl (by decide), fun r h => ⟨Nat.le_trans (hr r h).1.1 (by decide), (hr r h).2⟩, hR2⟩, fun r h => (hR3 r h).1, fun r h => (hR3 r h).2, fun q hq => cl_6 (hcl q hq), fun q hq => cl_h (hcl q (List.mem_append_left _ hq)), sel_nd hl hnd hw hs, rfl, rfl, hlen, hll⟩
  · exact (cl_6 (hclI x hx)).up (by decide)
  · obtain ⟨q, hq, rfl⟩ := List.mem_map.mp hx
    exact (cl_6 (hcl q (List.mem_filter.mp hq).1)).up (by decide)
end
end PvK

namespace PvK
open PySem PySem.Spec PyProof.Rows L2 Pv
/-! _law_head -/
abbrev prd (p : List Prm) : Dt := .list (p.map pard)
theorem put_w (m : List (Str × Dt)) (x : Str) (v : Dt) (h : x ∉ m.map (·.1)) : putV (mapK (fun d : Dt => d) m) (.inr x) (.d v) = mapK (fun d : Dt => d) (m ++ [(x, v)]) := by
  have e := put_mapK (fun d : Dt => d) m x v
  rw [putS_new h] at e
  exact e
theorem put_cell {mh : List Ob} {n : Nat} {m : List (Str × Dt)} {x : Str} {v : Dt} {Q : Unit → List Ob → Prop} (h : mh[n]? = some (.dct (mapK (fun d : Dt => d) m))) (hx : x ∉ m.map (·.1)) (hl : m.length < 1000) (q : Q () (mh.set n (.dct (mapK (fun d : Dt => d) (m ++ [(x, v)]))))) : W (setVl (.ref n) (.d (.str x)) (.d v)) mh Q := by
  have hsl : sizeLine = 16777216 := rfl
  refine put_r h (by unfold mapK; rw [List.length_map]; omega) ?_
  rw [put_w m x v hx]; exact q
theorem dct_of {mh : List Ob} {n : Nat} {kvs : List (Key × Val)} (h : mh[n]? = some (.dct kvs)) : dctOf mh (.ref n) = some kvs := by unfold dctOf; simp only [h]
theorem head_ok (k : Nat) (s : Ds) (tl : List Ob) (nm : Str) (Q : Val → List Ob → Prop) (q : ∀ w s', w.nm = nm → HdF w → Q (.d (wdd w)) (St s' :: tl)) : W (callP P gl (k + 3) 24 [.ref 0, .d (.str nm)]) (St s :: tl) Q := by
  refine w_def (nm := f24.name) (ps := f24.ps) (N := f24.N) (body := f24.body) (env := [some (.ref 0), some (.d (.str nm)), none, none, none, none, none, none, none, none, none, none]) rfl rfl ?_
  have hsl : sizeLine = 16777216 := rfl
  have l1 : dS.length = 2 := by decide +kernel
  have l2 : dT.length = 2 := by decide +kernel
  unfold f24
  walk_at "pv all"
  refine words_ok 10 k s tl (by decide) _ fun ws s1 hl hnd hw => ?_
  have hfin := fun (at_ : Nat) (sel : List (List Prm)) (hs : sel.Sublist ((prtO ws).drop at_ ++ (prtO ws).take at_)) (R : List Str) hR => hd_fact hl hnd hw hs nm R hR _ rfl
  have hpl : (prtO ws).length = 5 := by
    obtain ⟨a, b, c, d, e, f, g, i, j, k, rfl⟩ := ex10 hl
    rfl
  have hsell := fun (at_ : Nat) (sel : List (List Prm)) (hs : sel.Sublist ((prtO ws).drop at_ ++ (prtO ws).take at_)) => sel_len hl hnd hw hs
  have hwl : ∀ x ∈ ws, x.length ≤ 4 := fun x hx => (hw x hx).1
  obtain ⟨a, b, c, d, e, f, g, i, j, k2, rfl⟩ := ex10 hl
  have he : e.length ≤ 4 := hwl e (by simp)
  have hj : j.length ≤ 4 := hwl j (by simp)
  walk_at "pv all"
  refine ix_list (j := 0) rfl rfl ?_
  walk_at "pv all"
  refine ix_list (j := 1) rfl rfl ?_
  walk_at "pv all"
  refine ix_list (j := 2) rfl rfl ?_
  walk_at "pv all"
  refine ix_list (j := 3) rfl rfl ?_
  walk_at "pv all"
  rw [show (St s1 :: tl).length = tl.length + 1 + 0 from rfl, List.cons_append]
  refine ⟨rcv_lst (os_get (j := 0) rfl), ?_⟩
  walk_at "pv all"
  refine ix_list (j := 4) rfl rfl ?_
  walk_at "pv all"
  refine wr_addS (by show e.length + dS.length ≤ _; omega) ?_
  walk_at "pv all"
  refine ix_list (j := 4) rfl rfl ?_
  walk_at "pv all"
  refine wr_addS (by show e.length + dT.length ≤ _; omega) ?_
  walk_at "pv all"
  refine app_end (os_get (j := 0) rfl) (by show 4 < sizeLine; omega) ?_
  rw [os_set]
  refine frz_lst (ds := (prtO [a, b, c, d, e, f, g, i, j, k2]).map prd) rfl (os_get (j := 0) rfl) ?_
  rw [os_set]
  show WS _ _ _ _ (St s1 :: (tl ++ [.dead])) _
  walk_at "pv all"
  refine draw_ok 5 _ _ _ (by decide) (by decide) _ fun at_ s2 _ => ?_
  walk_at "pv all"
  rw [cutG_from, cutG_to, ← List.map_drop, ← List.map_take]
  have hfin := hfin at_
  have hsell := hsell at_
  generalize hPR : prtO [a, b, c, d, e, f, g, i, j, k2] = PR at hfin hsell hpl ⊢
  generalize hPL : plcO [a, b, c, d, e, f, g, i, j, k2] = PL at hfin
  refine wr_addL (by rw [List.length_map, List.length_map, List.length_drop, List.length_take]; omega) ?_
  rw [← List.map_append]
  walk_at "pv all"
  refine ix_L ?_
  refine wl_invL (fun n ev m => ∃ (s' : Ds) (sel : List (List Prm)) (a6 : Option Val), ev = [some (.ref 0), some (.d (.str nm)), some (.d (strD [a, b, c, d, e, f, g, i, j, k2])), some (.d (.list (PR.map prd))), some (.d (.int (at_ : Int))), some (.d (.list (sel.flatten.map pard))), a6, none, none, none, none, none] ∧ m = St s' :: (tl ++ [.dead]) ∧ sel.Sublist ((PR.drop at_ ++ PR.take at_).take n)) ⟨s2, [], _, rfl, rfl, List.Sublist.refl _⟩ (fun n part ev m hp I => ?_) (fun ev m I => ?_)
  · obtain ⟨s', sel, a6, rfl, rfl, hs⟩ := I
    have ht : (PR.drop at_ ++ PR.take at_).take (n + 1) = (PR.drop at_ ++ PR.take at_).take n ++ [part] := by rw [List.take_add_one, hp]; rfl
    have hs1 : sel.Sublist ((PR.drop at_ ++ PR.take at_).take (n + 1)) := by rw [ht]; exact List.Sublist.trans hs (List.sublist_append_left _ _)
    have hs2 : (sel ++ [part]).Sublist ((PR.drop at_ ++ PR.take at_).take (n + 1)) := by rw [ht]; exact List.Sublist.append hs (List.Sublist.refl _)
    have h6 := hsell _ (List.Sublist.trans hs2 (List.take_sublist _ _))
    have e1 : (sel ++ [part]).flatten = sel.flatten ++ part := by rw [List.flatten_append]; simp
    rw [e1, List.length_append] at h6
    walk_at "pv all"
    refine draw_ok 4 _ _ _ (by decide) (by decide) _ fun p s3 p1 => ?_
    walk_at "pv all"
    refine ci_gt (fun _ => ?_) (fun _ => ?_)
    · walk_at "pv all"
      refine wr_addL (by rw [List.length_map, List.length_map]; omega) ?_
      rw [← List.map_append, ← e1]
      walk_at "pv all"
      exact ⟨s3, sel ++ [part], _, rfl, rfl, hs2⟩
    · walk_at "pv all"
      exact ⟨s3, sel, _, rfl, rfl, hs1⟩
  obtain ⟨s', sel, a6, rfl, rfl, hs⟩ := I
  rw [List.take_length] at hs
  have hfin := hfin sel hs
  have h6 := hsell sel hs
  generalize sel.flatten = ps at hfin h6
  walk_at "pv all"
  refine ix_list (j := 7) rfl rfl ?_
  walk_at "pv all"
  refine ix_list (j := 5) rfl rfl ?_
  walk_at "pv all"
  refine ix_list (j := 8) rfl rfl ?_
  walk_at "pv all"
  refine wr_addS (by show j.length + dS.length ≤ _; omega) ?_
  walk_at "pv all"
  refine ix_list (j := 8) rfl rfl ?_
  walk_at "pv all"
  refine wr_addS (by show j.length + dT.length ≤ _; omega) ?_
  walk_at "pv all"
  refine ix_list (j := 6) rfl rfl ?_
  walk_at "pv all"
  refine ix_list (j := 9) rfl rfl ?_
  walk_at "pv all"
  refine wr_addL (by show 4 + 2 ≤ sizeLine; omega) ?_
  have hpc : ([.tuple [.str (Str.ofString "array"), .str i], .tuple [.str (Str.ofString "int"), .str f], .tuple [.str (Str.ofString "int"), .str (j ++ dS)], .tuple [.str (Str.ofString "int"), .str (j ++ dT)]] ++ [.tuple [.str (Str.ofString "int"), .str g], .tuple [.str (Str.ofString "array"), .str k2]] : List Dt) = PL.map pard := by
    rw [← hPL]; rfl
  have hpl6 : PL.length = 6 := by rw [← hPL]; rfl
  rw [hpc]
  walk_at "pv all"
  have hps : (ps.map pard).length + (PL.map pard).length ≤ sizeLine := by rw [List.length_map, List.length_map]; omega
  rw [show (St s' :: (tl ++ [Ob.dead])).length = tl.length + 1 + 1 from by rw [List.length_cons, List.length_append]; rfl, List.cons_append, List.append_assoc]
  refine wr_addL hps ?_
  rw [← List.map_append]
  refine ix_L ?_
  refine wc_filter (p := fun q : Prm => !q.1) (r := fun q : Prm => Val.d (.str q.2)) gnil (fun q hq => ?_) ?_
  · obtain ⟨bb, x⟩ := q
    walk_at "pv all"
    cases bb with
    | true =>
      refine cs_eq (fun h => absurd h (show ¬ (Str.ofString "array" = Str.ofString "int") by decide +kernel)) (fun _ => ?_)
      exact ⟨rfl, rfl, fun z => by cases z⟩
    | false =>
      refine cs_eq (fun _ => ?_) (fun h => absurd rfl h)
      refine ⟨rfl, rfl, fun _ => ?_⟩
      walk_at "pv all"
      exact ⟨rfl, rfl⟩
  refine wr_nl (ds := (((ps ++ PL).filter fun q => !q.1).map (·.2)).map PyData.str) (by rw [List.map_map, List.map_map]; rfl) ?_
  have hIl : (((ps ++ PL).filter fun q => !q.1).map (·.2)).length ≤ 12 := by
    rw [List.length_map]
    have := List.length_filter_le (fun q : Prm => !q.1) (ps ++ PL)
    rw [List.length_append] at this
    omega
  refine ⟨_, rfl, ?_⟩
  refine putD_ex (os_get (j := 1) rfl) ?_
  rw [os_set]
  have hIs : ∀ (R : List Str), R ∈ [[], [Str.ofString "result"], [Str.ofString "result.s", Str.ofString "result.t"]] → ∀ x ∈ ((ps ++ PL).filter fun q => !q.1).map (·.2), x.length ≤ 10 := fun R hR x hx => ((hfin R hR).ok.no.i x hx).2
  have hIs := hIs [] (by simp)
  generalize hI : ((ps ++ PL).filter fun q => !q.1).map (·.2) = I at hfin hIl hIs
  show WS _ _ _ _ (St s' :: (tl ++ [.dead, .dct (mapK (fun d : Dt => d) [(Str.ofString "ints", strD I)])])) _
  walk_at "pv all"
  refine wr_addL hps ?_
  rw [← List.map_append]
  refine ix_L ?_
  refine wc_filter (p := fun q : Prm => q.1) (r := fun q : Prm => Val.d (.str q.2)) gnil (fun q hq => ?_) ?_
  · obtain ⟨bb, x⟩ := q
    walk_at "pv all"
    cases bb with
    | true =>
      refine cs_eq (fun _ => ?_) (fun h => absurd rfl h)
      refine ⟨rfl, rfl, fun _ => ?_⟩
      walk_at "pv all"
      exact ⟨rfl, rfl⟩
    | false =>
      refine cs_eq (fun h => absurd h (show ¬ (Str.ofString "int" = Str.ofString "array") by decide +kernel)) (fun _ => ?_)
      exact ⟨rfl, rfl, fun z => by cases z⟩
  refine wr_nl (ds := (((ps ++ PL).filter fun q => q.1).map (·.2)).map PyData.str) (by rw [List.map_map, List.map_map]; rfl) ?_
  generalize hA : ((ps ++ PL).filter fun q => q.1).map (·.2) = A at hfin
  walk_at "pv all"
  refine put_cell (v := strD A) (os_get (j := 1) rfl) (show Str.ofString "arrays" ∉ [Str.ofString "ints"] by decide +kernel) (by show 1 < 1000; decide) ?_
  rw [os_set]
  show WS _ _ _ _ (St s' :: (tl ++ [.dead, .dct (mapK (fun d : Dt => d) [(Str.ofString "ints", strD I), (Str.ofString "arrays", strD A)])])) _
  walk_at "pv all"
  refine ix_t (em := fun d : Dt => d) (dct_of (os_get (j := 1) rfl)) lkS_hd ?_
  refine ix_L ?_
  refine wc_filter (p := fun x : Str => decide (cutS x (some (-2)) none = dS)) (r := fun x : Str => Val.d (.str (cutS x none (some (-2))))) gnil (fun x hx => ?_) ?_
  · have hxl : x.length ≤ sizeLine := by have := hIs x hx; omega
    walk_at "pv all"
    refine wr_slS hxl ?_
    walk_at "pv all"
    refine cs_eq (fun h => ?_) (fun h => ?_)
    · refine ⟨(decide_eq_true h).symm, rfl, fun _ => ?_⟩
      walk_at "pv all"
      refine wr_slS hxl ?_
      exact ⟨rfl, rfl⟩
    · exact ⟨(decide_eq_false h).symm, rfl, fun z => by cases z⟩
  refine wr_nl (ds := (recs I).map PyData.str) (by unfold recs; rw [List.map_map, List.map_map]; rfl) ?_
  walk_at "pv all"
  refine put_cell (v := strD (recs I)) (os_get (j := 1) rfl) (show Str.ofString "records" ∉ [Str.ofString "ints", Str.ofString "arrays"] by decide +kernel) (by show 2 < 1000; decide) ?_
  rw [os_set]
  show WS _ _ _ _ (St s' :: (tl ++ [.dead, .dct (mapK (fun d : Dt => d) [(Str.ofString "ints", strD I), (Str.ofString "arrays", strD A), (Str.ofString "records", strD (recs I))])])) _
  walk_at "pv all"
  refine draw_ok 3 _ _ _ (by decide) (by decide) _ fun r s4 r3 => ?_
  walk_at "pv all"
  obtain ⟨R, hR1, hR⟩ : ∃ R : List Str, ([strT [], strT [Str.ofString "result"], strT [Str.ofString "result.s", Str.ofString "result.t"]] : List Dt)[r]? = some (strT R) ∧ R ∈ [[], [Str.ofString "result"], [Str.ofString "result.s", Str.ofString "result.t"]] := by
    have : r = 0 ∨ r = 1 ∨ r = 2 := by omega
    rcases this with rfl | rfl | rfl
    · exact ⟨[], rfl, by simp⟩
    · exact ⟨[Str.ofString "result"], rfl, by simp⟩
    · exact ⟨[Str.ofString "result.s", Str.ofString "result.t"], rfl, by simp⟩
  refine ix_list rfl hR1 ?_
  walk_at "pv all"
  refine put_cell (v := .tuple [.str nm, .tuple (ps.map pard), strT R, .tuple (PL.map pard)]) (os_get (j := 1) rfl) (show Str.ofString "head" ∉ [Str.ofString "ints", Str.ofString "arrays", Str.ofString "records"] by decide +kernel) (by show 3 < 1000; decide) ?_
  rw [os_set]
  refine frz_dct rfl (os_get (j := 1) rfl) (asDKs_mapK (fun d : Dt => d) _) ?_
  rw [os_set]
  walk_at "pv all"
  exact q _ _ rfl (hfin R hR)
end PvK

namespace PvK
open PySem PySem.Spec PyProof.Rows L2 Pv
/-! _law_chain, and the procedure that is drawn -/
section
variable {w : Wd}
def chS (ys : List Str) (k : Nat) : Sm := .set [(ys[k]?.getD bang, .nm (ys[k + 1]?.getD bang))]
theorem chain_ok (ok : WdOk w) (n k : Nat) (s : Ds) (tl : List Ob) (Q : Val → List Ob → Prop) (q : ∀ (xs : List Sm) s', xs.length ≤ 10 → (∀ st ∈ xs, SmD w n st) → Q (.d (.list (xs.map smd))) (St s' :: tl)) : W (callP P gl (k + 2) 30 [.ref 0, .d (wdd w)]) (St s :: tl) Q := by
  refine w_def (nm := f30.name) (ps := f30.ps) (N := f30.N) (body := f30.body) (env := [some (.ref 0), some (.d (wdd w)), none, none, none]) rfl rfl ?_
  have hsl : sizeLine = 16777216 := rfl
  unfold f30
  walk_at "pv all"
  refine ix_dct' (em := fun d : Dt => d) (m := wm w) (wI w) ?_
  walk_at "pv all"
  refine draw_ok _ _ _ _ (by rw [List.length_map]; exact ok.pI) (by rw [List.length_map]; have := ok.lI; omega) _ fun at_ s1 hat => ?_
  rw [List.length_map] at hat
  walk_at "pv all"
  refine ix_dct' (em := fun d : Dt => d) (m := wm w) (wI w) ?_
  walk_at "pv all"
  refine ix_dct' (em := fun d : Dt => d) (m := wm w) (wI w) ?_
  walk_at "pv all"
  rw [cutG_from, cutG_to, ← List.map_drop, ← List.map_take]
  have hlI := ok.lI
  have hpI := ok.pI
  refine wr_addL (by rw [List.length_map, List.length_map, List.length_drop, List.length_take]; omega) ?_
  rw [← List.map_append]
  walk_at "pv all"
  refine draw_ok 4 _ _ _ (by decide) (by decide) _ fun p s2 hp => ?_
  walk_at "pv all"
  rw [show (2 : Int) + (p : Int) = ((2 + p : Nat) : Int) by omega, cutG_to, ← List.map_take]
  have hy1 : ((w.I.drop at_ ++ w.I.take at_).take (2 + p)).length ≤ 5 := by rw [List.length_take]; omega
  have hy2 : 1 ≤ ((w.I.drop at_ ++ w.I.take at_).take (2 + p)).length := by rw [List.length_take, List.length_append, List.length_drop, List.length_take]; omega
  have hy3 : ∀ x ∈ (w.I.drop at_ ++ w.I.take at_).take (2 + p), x ∈ w.I := fun x hx => (List.mem_append.mp (List.mem_of_mem_take hx)).elim List.mem_of_mem_drop List.mem_of_mem_take
  generalize (w.I.drop at_ ++ w.I.take at_).take (2 + p) = ys at hy1 hy2 hy3
  walk_at "pv all"
  refine rg1 (n := ys.length - 1) (by rw [List.length_map]; omega) (by omega) ?_
  rw [rg_map]
  refine wc_map (r := fun i : Nat => Val.d (smd (chS ys i))) gnil (fun i hi => ?_) ?_
  · have hi := List.mem_range.mp hi
    have g1 : ys[i]? = some ys[i] := List.getElem?_eq_getElem (by omega)
    have g2 : ys[i + 1]? = some ys[i + 1] := List.getElem?_eq_getElem (by omega)
    have e : chS ys i = .set [(ys[i], .nm ys[i + 1])] := by unfold chS; rw [g1, g2]; rfl
    rw [e]
    walk_at "pv all"
    refine ix_list rfl (v := .str ys[i]) (by rw [List.getElem?_map, g1]; rfl) ?_
    walk_at "pv all"
    refine ix_list (j := i + 1) (by push_cast; rfl) (v := .str ys[i + 1]) (by rw [List.getElem?_map, g2]; rfl) ?_
    walk_at "pv all"
    exact ⟨rfl, rfl⟩
  refine wr_nl (ds := ((List.range (ys.length - 1)).map (chS ys)).map smd) (by rw [List.map_map, List.map_map]; rfl) ?_
  walk_at "pv all"
  refine q _ _ (by rw [List.length_map, List.length_range]; omega) fun st hst => ?_
  obtain ⟨i, hi, rfl⟩ := List.mem_map.mp hst
  have hi := List.mem_range.mp hi
  have g1 : ys[i]? = some ys[i] := List.getElem?_eq_getElem (by omega)
  have g2 : ys[i + 1]? = some ys[i + 1] := List.getElem?_eq_getElem (by omega)
  have e : chS ys i = .set [(ys[i], .nm ys[i + 1])] := by unfold chS; rw [g1, g2]; rfl
  rw [e]
  refine smd0 n rfl ⟨fun p hp => ?_, by show 1 ≤ 2; decide⟩ rfl
  rw [List.mem_singleton.mp hp]
  exact ⟨hy3 _ (List.getElem_mem _), hy3 _ (List.getElem_mem _), by show 0 ≤ 3; decide⟩
theorem fl_len {p : Prm → Bool} (h : HdF w) : (((w.ps ++ w.lc).filter p).map (·.2)).length ≤ 12 := by
  rw [List.length_map]
  have := List.length_filter_le p (w.ps ++ w.lc)
  have := h.l
  have := h.ll
  rw [List.length_append] at *
  omega
theorem hd_l {x : Str} {h : ∃ a as, x.cps.toList = a :: as ∧ 97 ≤ a} {y : Str} : ahk y ≠ ak x := fun e => by
  obtain ⟨a, as, h1, h2⟩ := h
  have e2 := congrArg (fun z => z.cps.toList) e
  have g1 : (Str.ofString "@#").cps.toList = [64, 35] := by decide +kernel
  have g2 : (Str.ofString "@").cps.toList = [64] := by decide +kernel
  simp only [app_list, g1, g2, h1, List.cons_append, List.nil_append, List.cons.injEq, true_and] at e2
  omega
theorem ak_inj {x y : Str} (e : ak x = ak y) : x = y := by
  have e2 := congrArg (fun z => z.cps.toList) e
  simp only [app_list] at e2
  exact str_ex (List.append_cancel_left e2)
theorem ahk_inj {x y : Str} (e : ahk x = ahk y) : x = y := by
  have e2 := congrArg (fun z => z.cps.toList) e
  simp only [app_list] at e2
  exact str_ex (List.append_cancel_left e2)
theorem at_mem {ps : List Prm} {a : Str} (h : a ∈ (rowsP ps).map (·.2)) : ∃ q ∈ ps, a = ak q.2 ∨ a = ahk q.2 := by
  obtain ⟨r, hr, rfl⟩ := List.mem_map.mp h
  obtain ⟨q, hq, h2⟩ := List.mem_flatMap.mp hr
  refine ⟨q, hq, ?_⟩
  unfold rowsA at h2
  split at h2
  · rcases List.mem_cons.mp h2 with rfl | h2
    · exact .inr rfl
    · rw [List.mem_singleton.mp h2]; exact .inl rfl
  · rw [List.mem_singleton.mp h2]; exact .inl rfl
theorem at_nd : ∀ {ps : List Prm}, (ps.map (·.2)).Nodup → (∀ q ∈ ps, ∃ a as, q.2.cps.toList = a :: as ∧ 97 ≤ a) → ((rowsP ps).map (·.2)).Nodup
  | [], _, _ => List.nodup_nil
  | q :: ps, nd, hh => by
    rw [List.map_cons, List.nodup_cons] at nd
    have ih := at_nd nd.2 fun q hq => hh q (List.mem_cons_of_mem _ hq)
    have e : rowsP (q :: ps) = rowsA q ++ rowsP ps := rfl
    rw [e, List.map_append]
    have hq := hh q List.mem_cons_self
    have n1 : ak q.2 ∉ (rowsP ps).map (·.2) := fun h => by
      obtain ⟨z, hz, h | h⟩ := at_mem h
      · exact nd.1 (List.mem_map.mpr ⟨z, hz, (ak_inj h).symm⟩)
      · exact hd_l (h := hq) h.symm
    have n2 : ahk q.2 ∉ (rowsP ps).map (·.2) := fun h => by
      obtain ⟨z, hz, h | h⟩ := at_mem h
      · exact hd_l (h := hh z (List.mem_cons_of_mem _ hz)) h
      · exact nd.1 (List.mem_map.mpr ⟨z, hz, (ahk_inj h).symm⟩)
    unfold rowsA
    split
    · show (ahk q.2 :: ak q.2 :: (rowsP ps).map (·.2)).Nodup
      refine List.nodup_cons.mpr ⟨fun h => ?_, List.nodup_cons.mpr ⟨n1, ih⟩⟩
      rcases List.mem_cons.mp h with h | h
      · exact hd_l (h := hq) h
      · exact n2 h
    · exact List.nodup_cons.mpr ⟨n1, ih⟩
theorem pc_all (h : HdF w) {xs : List Sm} (hx : ∀ st ∈ xs, SmD w 2 st) (hl : xs.length ≤ 100) : PcAll ⟨w.nm, w.ps, w.R, w.lc, ofL xs⟩ w.I w.A := by
  have nm := h.nm
  have inI : ∀ {x : Str}, (false, x) ∈ w.ps ++ w.lc → x ∈ w.I := fun {x} g => by rw [h.I]; exact List.mem_map.mpr ⟨(false, x), List.mem_filter.mpr ⟨g, rfl⟩, rfl⟩
  have inA : ∀ {x : Str}, (true, x) ∈ w.ps ++ w.lc → x ∈ w.A := fun {x} g => by rw [h.A]; exact List.mem_map.mpr ⟨(true, x), List.mem_filter.mpr ⟨g, rfl⟩, rfl⟩
  have hall : ∀ q ∈ w.ps ++ w.lc, SM q.2 ∧ (q.1 = true → q.2 ∈ w.A) ∧ (q.1 = false → q.2 ∈ w.I) := fun q hq => by
    obtain ⟨b, x⟩ := q
    refine ⟨(nm _ hq).up (by decide), fun e => ?_, fun e => ?_⟩
    · cases e; exact inA hq
    · cases e; exact inI hq
  refine ⟨⟨h.ok.no, h.R, h.ok.rl, by rw [h.I]; exact fl_len h, by rw [h.A]; exact fl_len h, fun q hq => hall q (List.mem_append_left _ hq), fun q hq => hall q (List.mem_append_right _ hq), by have := h.l; show w.ps.length ≤ 10; omega, by have := h.ll; show w.lc.length ≤ 10; omega, ?_, ?_, ?_⟩, ⟨at_nd h.nd h.hd, fun r hr v hv e => ?_⟩, fun x hx => ?_, fun x hx => ?_⟩
  · show (stms (ofL xs)).length ≤ 10000
    rw [ofL_s]
    exact Nat.le_trans (flat_le fun st hs => (hx st hs).l) (Nat.le_trans (Nat.mul_le_mul_left (cB 2) hl) (by decide))
  · exact Nat.le_trans (ofL_dp fun st hs => (hx st hs).d) (by decide)
  · show ∀ st ∈ stms (ofL xs), smOk w.I w.A w.R st
    rw [ofL_s]
    intro st hs
    obtain ⟨z, h1, h2⟩ := List.mem_flatMap.mp hs
    exact (hx z h1).ok st h2
  · have g1 : v.1.length ≤ 8 := by
      obtain ⟨q, hq, h2⟩ := List.mem_flatMap.mp hv
      have hq6 := (nm q (List.mem_append_left _ hq)).2
      have k1 : (Str.ofString "#").length = 1 := by decide +kernel
      have k2 : (Str.ofString "[]").length = 2 := by decide +kernel
      unfold rowsA at h2
      split at h2
      · rcases List.mem_cons.mp h2 with rfl | h2
        · show (Str.ofString "#" ++ q.2).length ≤ 8
          rw [len_app]; omega
        · rw [List.mem_singleton.mp h2]
          show (q.2 ++ Str.ofString "[]").length ≤ 8
          rw [len_app]; omega
      · rw [List.mem_singleton.mp h2]
        show q.2.length ≤ 8
        omega
    have g2 : 11 ≤ (gk r).length := by
      have k1 : (Str.ofString "give ").length = 5 := by decide +kernel
      have := h.rg r hr
      show 11 ≤ (Str.ofString "give " ++ r).length
      rw [len_app]; omega
    rw [e] at g1
    omega
  · rw [h.I] at hx
    obtain ⟨q, hq, rfl⟩ := List.mem_map.mp hx
    obtain ⟨h1, h2⟩ := List.mem_filter.mp hq
    obtain ⟨b, x⟩ := q
    cases b with
    | true => cases h2
    | false => exact h1
  · rw [h.A] at hx
    obtain ⟨q, hq, rfl⟩ := List.mem_map.mp hx
    obtain ⟨h1, h2⟩ := List.mem_filter.mp hq
    obtain ⟨b, x⟩ := q
    cases b with
    | true => exact h1
    | false => cases h2
end
end PvK

namespace PvK
open PySem PySem.Spec PyProof.Rows L2 Pv
/-! the law -/
theorem wr_sortS {mh : List Ob} {Q : Val → List Ob → Prop} {ws : List Str} (hl : ws.length < 64) (q : Q (.d (strD (sortS ws))) mh) : WR false (Bi.f .sorted mh [.d (strD ws)]) mh Q := by
  refine wr_nl (ds := (sortS ws).map .str) ?_ q
  show sortVl mh [.d (strD ws)] = _
  have h : (seqL mh (.d (strD ws))).bind (allOf asStr) = some ws := by
    have := allOf_map (f := asStr) (g := fun b => Val.d (.str b)) (fun _ => rfl) ws
    show allOf asStr ((ws.map PyData.str).map Val.d) = _
    rw [List.map_map]
    exact this
  have h0 : dctOf mh (.d (strD ws)) = none := rfl
  unfold sortVl
  simp only [h0, h]
  rw [if_pos hl, List.map_map]
  rfl
theorem pl_strT {xs : List Str} (h : xs.length ≤ 100) : Pl 1 (strT xs) := pl_T (by rw [List.length_map]; omega) fun x hx => by
  obtain ⟨y, _, rfl⟩ := List.mem_map.mp hx
  exact pl_str _
theorem markR_len {pc : Pc} {I A : List Str} (ok : PcOk pc I A) (key : Str) : (markR pc key).length ≤ 100 := by
  have h := rowsP_len ok
  unfold markR
  rw [List.length_map]
  exact Nat.le_trans (List.length_filter_le _ _) (by omega)
theorem pl_row {pc : Pc} {I A : List Str} (ok : PcOk pc I A) : Pl 4 (rowMk pc (markR pc)) := by
  have hm := markR_len ok
  have h1 : Pl 3 (.str pc.nm) := pl_str _
  have h2 : Pl 3 (strT (markR pc bang)) := Pl.mono (pl_strT (hm _)) (by decide)
  have h3 : Pl 3 (.tuple (pc.R.map fun r => strT (markR pc (gk r)))) := Pl.mono (n := 2) (pl_T (by rw [List.length_map]; have := ok.Rl; omega) fun x hx => by
    obtain ⟨y, _, rfl⟩ := List.mem_map.mp hx
    exact pl_strT (hm _)) (by decide)
  have h4 : Pl 3 (.tuple ((pc.ps.filter (·.1)).map fun q => .tuple [strT (markR pc (hk q.2)), strT (markR pc (bk q.2))])) := pl_T (by rw [List.length_map]; exact Nat.lt_of_le_of_lt (List.length_filter_le _ _) (by have := ok.psl; omega)) fun x hx => by
    obtain ⟨y, _, rfl⟩ := List.mem_map.mp hx
    refine pl_T (by show 2 < _; decide) fun z hz => ?_
    rcases List.mem_cons.mp hz with rfl | hz
    · exact pl_strT (hm _)
    · rw [List.mem_singleton.mp hz]; exact pl_strT (hm _)
  refine pl_T (by show 4 < _; decide) fun z hz => ?_
  rcases List.mem_cons.mp hz with rfl | hz
  · exact h1
  rcases List.mem_cons.mp hz with rfl | hz
  · exact h2
  rcases List.mem_cons.mp hz with rfl | hz
  · exact h3
  · rw [List.mem_singleton.mp hz]; exact h4
theorem law_true (ns : List Int) (hns : ns.length ≤ 63) : ∃ mh', callP P gl 60 38 [.d (.list (ns.map PyData.int))] [] = some (.d (.bool true), mh') := by
  suffices h : W (callP P gl 60 38 [.d (.list (ns.map PyData.int))]) [] fun v _ => v = .d (.bool true) by
    obtain ⟨v, mh', e, rfl⟩ := h
    exact ⟨mh', e⟩
  refine w_call (d := f38) rfl (w_body ?_)
  show WS gl (callP P gl 59) f38.body [some (.d (.list (ns.map PyData.int))), none, none, none, none, none, none, none] [] _
  have hsl : sizeLine = 16777216 := rfl
  have fin : ∀ mh' : List Ob, ∃ x, (Fl.rt (.d (.bool true)) = .rt (.d x) ∨ ∃ e, Fl.rt (.d (.bool true)) = .nx e ∧ x = .none) ∧ cutOk (List.length ([] : List Ob)) [] mh' ∧ Val.d x = .d (.bool true) := fun mh' => ⟨_, .inl rfl, trivial, rfl⟩
  unfold f38
  walk_at "pv all"
  refine start_ok 58 ns _ ?_
  walk_at "pv all"
  refine words_ok 2 57 ⟨ns, 0, 0, 0⟩ [] (by decide) _ fun nms s1 n1 n2 n3 => ?_
  walk_at "pv all"
  refine wr_sortS (by omega) ?_
  walk_at "pv all"
  have m1 : (sortS nms).length = 2 := by rw [(sortS_perm nms).length_eq]; exact n1
  have m2 : (sortS nms).Nodup := (sortS_perm nms).nodup_iff.mpr n2
  generalize sortS nms = nms2 at m1 m2
  have hd2 := draw_ok 2 58 s1 [] (by decide) (by decide)
  refine hd2 _ fun d s2 d1 => ?_
  walk_at "pv all"
  rw [cutG_from, ← List.map_drop]
  have o1 : (nms2.drop d).length ≤ 2 := by rw [List.length_drop]; omega
  have o2 : (nms2.drop d).Nodup := m2.sublist (List.drop_sublist _ _)
  generalize nms2.drop d = nm at o1 o2
  walk_at "pv all"
  refine ix_L ?_
  refine wl_invL (fun i e m => ∃ (s' : Ds) (cs : List Pc) (a4 a5 a6 : Option Val), e = [some (.d (.list (ns.map PyData.int))), some (.ref 0), some (.d (strD nm)), some (.ref 1), a4, a5, a6, none] ∧ m = [St s', .lst ((cs.map pcd).map Val.d)] ∧ cs.map (·.nm) = nm.take i ∧ ∀ pc ∈ cs, ∃ I A, PcAll pc I A) ⟨s2, [], _, _, _, rfl, rfl, rfl, fun _ h => (nomatch h)⟩ (fun i x e m hx I => ?_) (fun e m I => ?_)
  · obtain ⟨s', cs, a4, a5, a6, rfl, rfl, h1, h2⟩ := I
    have hi := (List.getElem?_eq_some_iff.mp hx).1
    have hcl : cs.length ≤ i := by
      have := congrArg List.length h1
      rw [List.length_map, List.length_take] at this
      omega
    have stp : ∀ (w : Wd) (s3 : Ds) (xs : List Sm) (a4 a5 a6 : Option Val), w.nm = x → HdF w → (∀ st ∈ xs, SmD w 2 st) → xs.length ≤ 100 → ∃ (s' : Ds) (cs' : List Pc) (b4 b5 b6 : Option Val), ([some (.d (.list (ns.map PyData.int))), some (.ref 0), some (.d (strD nm)), some (.ref 1), a4, a5, a6, none] : Sl) = [some (.d (.list (ns.map PyData.int))), some (.ref 0), some (.d (strD nm)), some (.ref 1), b4, b5, b6, none] ∧ [St s3, Ob.lst ((cs.map pcd).map Val.d ++ [.d (pcd ⟨w.nm, w.ps, w.R, w.lc, ofL xs⟩)])] = [St s', .lst ((cs'.map pcd).map Val.d)] ∧ cs'.map (·.nm) = nm.take (i + 1) ∧ ∀ pc ∈ cs', ∃ I A, PcAll pc I A := by
      intro w s3 xs a4 a5 a6 e1 hw hxs hl
      refine ⟨s3, cs ++ [⟨w.nm, w.ps, w.R, w.lc, ofL xs⟩], _, _, _, rfl, by rw [List.map_append, List.map_append]; rfl, ?_, fun pc hpc => ?_⟩
      · rw [List.map_append, h1, List.take_add_one, hx]
        show _ ++ [w.nm] = _
        rw [e1]; rfl
      · rcases List.mem_append.mp hpc with hpc | hpc
        · exact h2 pc hpc
        · rw [List.mem_singleton.mp hpc]; exact ⟨_, _, pc_all hw hxs hl⟩
    walk_at "pv all"
    have hhd := head_ok 56 s' [.lst ((cs.map pcd).map Val.d)] x
    refine hhd _ fun w s3 e1 hw => ?_
    walk_at "pv all"
    have hd3 := fun s3 => draw_ok 2 58 s3 [.lst ((cs.map pcd).map Val.d)] (by decide) (by decide)
    refine hd3 s3 _ fun p s4 p1 => ?_
    walk_at "pv all"
    have hch := fun s => chain_ok hw.ok 2 57 s [.lst ((cs.map pcd).map Val.d)]
    have hd4 := fun s3 => draw_ok 4 58 s3 [.lst ((cs.map pcd).map Val.d)] (by decide) (by decide)
    have hbl := fun m s => block_ok hw.ok 2 m 59 s [.lst ((cs.map pcd).map Val.d)]
    have hxc : x.length < sizeLine ∨ True := .inr trivial
    have tail : ∀ (xs : List Sm) (s5 : Ds), xs.length ≤ 10 → (∀ st ∈ xs, SmD w 2 st) → True := fun _ _ _ _ => trivial
    refine ci_eq (fun _ => ?_) (fun _ => ?_)
    · walk_at "pv all"
      refine hch _ _ fun xs s5 x1 x2 => ?_
      walk_at "pv all"
      refine hd4 _ _ fun p2 s6 p3 => ?_
      walk_at "pv all"
      rw [show (3 : Int) + (p2 : Int) = ((3 + p2 : Nat) : Int) by omega]
      refine hbl (3 + p2) _ _ (by decide) (by omega) (by decide) fun ys s7 hys => ?_
      have hyl := hys.1
      walk_at "pv all"
      refine wr_addT (by rw [List.length_map, List.length_map]; omega) ?_
      rw [← List.map_append]
      walk_at "pv all"
      refine ⟨rcv_lst rfl, ?_⟩
      walk_at "pv all"
      refine ix_dct' (em := fun d : Dt => d) (m := wm w) (wH w) ?_
      walk_at "pv all"
      have e : PyData.tuple (hdd w ++ [.tuple [], .tuple [], .tuple [], .tuple [], .tuple ((xs ++ ys).map smd)]) = pcd ⟨w.nm, w.ps, w.R, w.lc, ofL (xs ++ ys)⟩ := by
        show _ = PyData.tuple [_, _, _, _, _, _, _, _, .tuple (smsd (ofL (xs ++ ys)))]
        rw [ofL_d]; rfl
      rw [e]
      walk_at "pv all"
      refine app_end (n := 1) rfl (by rw [List.length_map, List.length_map]; omega) ?_
      walk_at "pv all"
      exact stp w s7 (xs ++ ys) _ _ _ e1 hw (fun st hst => (List.mem_append.mp hst).elim (x2 st) (hys.2 st)) (by rw [List.length_append]; omega)
    · walk_at "pv all"
      refine hd4 _ _ fun p2 s6 p3 => ?_
      walk_at "pv all"
      rw [show (3 : Int) + (p2 : Int) = ((3 + p2 : Nat) : Int) by omega]
      refine hbl (3 + p2) _ _ (by decide) (by omega) (by decide) fun ys s7 hys => ?_
      have hyl := hys.1
      walk_at "pv all"
      refine wr_addT (xs := []) (by rw [List.length_map]; show 0 + _ ≤ _; omega) ?_
      rw [List.nil_append]
      walk_at "pv all"
      refine ⟨rcv_lst rfl, ?_⟩
      walk_at "pv all"
      refine ix_dct' (em := fun d : Dt => d) (m := wm w) (wH w) ?_
      walk_at "pv all"
      have e : PyData.tuple (hdd w ++ [.tuple [], .tuple [], .tuple [], .tuple [], .tuple (ys.map smd)]) = pcd ⟨w.nm, w.ps, w.R, w.lc, ofL ys⟩ := by
        show _ = PyData.tuple [_, _, _, _, _, _, _, _, .tuple (smsd (ofL ys))]
        rw [ofL_d]; rfl
      rw [e]
      walk_at "pv all"
      refine app_end (n := 1) rfl (by rw [List.length_map, List.length_map]; omega) ?_
      walk_at "pv all"
      exact stp w s7 ys _ _ _ e1 hw hys.2 (by omega)
  · obtain ⟨s', cs, a4, a5, a6, rfl, rfl, h1, h2⟩ := I
    rw [List.take_length] at h1
    have hcl : cs.length ≤ 2 := by
      have := congrArg List.length h1
      rw [List.length_map] at this
      omega
    have hnd : (cs.map (·.nm)).Nodup := by rw [h1]; exact o2
    refine thenS_nx ?_
    refine frz_lst (n := 1) rfl rfl ?_
    walk_at "pv all"
    have hle := leans_ok 48 [St s', .dead] hcl hnd h2
    refine hle _ ?_
    walk_at "pv all"
    refine ix_L ?_
    refine wc_map (r := fun pc : Pc => Val.d (rowMk pc (markR pc))) gnil (fun pc hpc => ?_) ?_
    · obtain ⟨I, A, pa⟩ := h2 pc hpc
      walk_at "pv all"
      refine lrow_ok pa.ok 59 (by decide) _ _ ?_
      exact ⟨rfl, rfl⟩
    refine wr_nl (ds := cs.map fun pc => rowMk pc (markR pc)) (by rw [List.map_map]; rfl) ?_
    walk_at "pv all"
    have hpl : Pl 5 (.tuple (cs.map fun pc => rowMk pc (markR pc))) := pl_T (by rw [List.length_map]; omega) fun x hx => by
      obtain ⟨pc, hpc, rfl⟩ := List.mem_map.mp hx
      obtain ⟨I, A, pa⟩ := h2 pc hpc
      exact pl_row pa.ok
    have hsm := fun Q q => same_ok 5 _ 52 [St s', .dead] Q hpl q
    refine hsm _ ?_
    walk_at "pv all"
    exact fin _
end PvK

set_option maxHeartbeats 0
namespace PvK
open PySem PySem.Spec PyProof.Rows L2 Pv
def top (i : Nat) : Stmt := PySem.Challenge.pw_spentwithin_k76_leans_of_one_procedure.main.body.getD i (.Pass ⟨0, 0, 0, 0⟩)
theorem m0 : mSs (tbOf P bs gl false false cs) f0.N f0.body (defScope (top 1)) (fun _ => true) (defBody (top 1)) = true := by decide +kernel
theorem s0 : FnScope f0.N f0.ps (defScope (top 1)) := ⟨rfl, rfl, rfl, by decide +kernel, rfl, by decide +kernel, by decide +kernel⟩
theorem m1 : mSs (tbOf P bs gl false false cs) f1.N f1.body (defScope (top 4)) (fun _ => true) (defBody (top 4)) = true := by decide +kernel
theorem s1 : FnScope f1.N f1.ps (defScope (top 4)) := ⟨rfl, rfl, rfl, by decide +kernel, rfl, by decide +kernel, by decide +kernel⟩
theorem m2 : mSs (tbOf P bs gl false false cs) f2.N f2.body (defScope (top 5)) (fun _ => true) (defBody (top 5)) = true := by decide +kernel
theorem s2 : FnScope f2.N f2.ps (defScope (top 5)) := ⟨rfl, rfl, rfl, by decide +kernel, rfl, by decide +kernel, by decide +kernel⟩
theorem m3 : mSs (tbOf P bs gl false false cs) f3.N f3.body (defScope (top 6)) (fun _ => true) (defBody (top 6)) = true := by decide +kernel
theorem s3 : FnScope f3.N f3.ps (defScope (top 6)) := ⟨rfl, rfl, rfl, by decide +kernel, rfl, by decide +kernel, by decide +kernel⟩
theorem m4 : mSs (tbOf P bs gl false false cs) f4.N f4.body (defScope (inClass (top 7) 0)) (fun _ => true) (defBody (inClass (top 7) 0)) = true := by decide +kernel
theorem s4 : FnScope f4.N f4.ps (defScope (inClass (top 7) 0)) := ⟨rfl, rfl, rfl, by decide +kernel, rfl, by decide +kernel, by decide +kernel⟩
theorem m5 : mSs (tbOf P bs gl false false cs) f5.N f5.body (defScope (inClass (top 7) 1)) (fun _ => true) (defBody (inClass (top 7) 1)) = true := by decide +kernel
theorem s5 : FnScope f5.N f5.ps (defScope (inClass (top 7) 1)) := ⟨rfl, rfl, rfl, by decide +kernel, rfl, by decide +kernel, by decide +kernel⟩
theorem m6 : mSs (tbOf P bs gl false false cs) f6.N f6.body (defScope (inClass (top 7) 2)) (fun _ => true) (defBody (inClass (top 7) 2)) = true := by decide +kernel
theorem s6 : FnScope f6.N f6.ps (defScope (inClass (top 7) 2)) := ⟨rfl, rfl, rfl, by decide +kernel, rfl, by decide +kernel, by decide +kernel⟩
theorem m7 : mSs (tbOf P bs gl false false cs) f7.N f7.body (defScope (inClass (top 7) 3)) (fun _ => true) (defBody (inClass (top 7) 3)) = true := by decide +kernel
theorem s7 : FnScope f7.N f7.ps (defScope (inClass (top 7) 3)) := ⟨rfl, rfl, rfl, by decide +kernel, rfl, by decide +kernel, by decide +kernel⟩
theorem m8 : mSs (tbOf P bs gl false false cs) f8.N f8.body (defScope (inClass (top 7) 4)) (fun _ => true) (defBody (inClass (top 7) 4)) = true := by decide +kernel
theorem s8 : FnScope f8.N f8.ps (defScope (inClass (top 7) 4)) := ⟨rfl, rfl, rfl, by decide +kernel, rfl, by decide +kernel, by decide +kernel⟩
theorem m9 : mSs (tbOf P bs gl false false cs) f9.N f9.body (defScope (inClass (top 7) 5)) (fun _ => true) (defBody (inClass (top 7) 5)) = true := by decide +kernel
theorem s9 : FnScope f9.N f9.ps (defScope (inClass (top 7) 5)) := ⟨rfl, rfl, rfl, by decide +kernel, rfl, by decide +kernel, by decide +kernel⟩
theorem m10 : mSs (tbOf P bs gl false false cs) f10.N f10.body (defScope (inClass (top 7) 6)) (fun _ => true) (defBody (inClass (top 7) 6)) = true := by decide +kernel
theorem s10 : FnScope f10.N f10.ps (defScope (inClass (top 7) 6)) := ⟨rfl, rfl, rfl, by decide +kernel, rfl, by decide +kernel, by decide +kernel⟩
theorem m11 : mSs (tbOf P bs gl false false cs) f11.N f11.body (defScope (inClass (top 7) 7)) (fun _ => true) (defBody (inClass (top 7) 7)) = true := by decide +kernel
theorem s11 : FnScope f11.N f11.ps (defScope (inClass (top 7) 7)) := ⟨rfl, rfl, rfl, by decide +kernel, rfl, by decide +kernel, by decide +kernel⟩
theorem m12 : mSs (tbOf P bs gl false false cs) f12.N f12.body (defScope (inClass (top 7) 8)) (fun _ => true) (defBody (inClass (top 7) 8)) = true := by decide +kernel
theorem s12 : FnScope f12.N f12.ps (defScope (inClass (top 7) 8)) := ⟨rfl, rfl, rfl, by decide +kernel, rfl, by decide +kernel, by decide +kernel⟩
theorem m13 : mSs (tbOf P bs gl false false cs) f13.N f13.body (defScope (inClass (top 7) 9)) (fun _ => true) (defBody (inClass (top 7) 9)) = true := by decide +kernel
theorem s13 : FnScope f13.N f13.ps (defScope (inClass (top 7) 9)) := ⟨rfl, rfl, rfl, by decide +kernel, rfl, by decide +kernel, by decide +kernel⟩
theorem m14 : mSs (tbOf P bs gl false false cs) f14.N f14.body (defScope (inClass (top 7) 10)) (fun _ => true) (defBody (inClass (top 7) 10)) = true := by decide +kernel
theorem s14 : FnScope f14.N f14.ps (defScope (inClass (top 7) 10)) := ⟨rfl, rfl, rfl, by decide +kernel, rfl, by decide +kernel, by decide +kernel⟩
theorem m15 : mSs (tbOf P bs gl false false cs) f15.N f15.body (defScope (inClass (top 7) 11)) (fun _ => true) (defBody (inClass (top 7) 11)) = true := by decide +kernel
theorem s15 : FnScope f15.N f15.ps (defScope (inClass (top 7) 11)) := ⟨rfl, rfl, rfl, by decide +kernel, rfl, by decide +kernel, by decide +kernel⟩
theorem m16 : mSs (tbOf P bs gl false false cs) f16.N f16.body (defScope (inClass (top 7) 12)) (fun _ => true) (defBody (inClass (top 7) 12)) = true := by decide +kernel
theorem s16 : FnScope f16.N f16.ps (defScope (inClass (top 7) 12)) := ⟨rfl, rfl, rfl, by decide +kernel, rfl, by decide +kernel, by decide +kernel⟩
theorem m17 : mSs (tbOf P bs gl false false cs) f17.N f17.body (defScope (top 8)) (fun _ => true) (defBody (top 8)) = true := by decide +kernel
theorem s17 : FnScope f17.N f17.ps (defScope (top 8)) := ⟨rfl, rfl, rfl, by decide +kernel, rfl, by decide +kernel, by decide +kernel⟩
theorem m18 : mSs (tbOf P bs gl false false cs) f18.N f18.body (defScope (top 10)) (fun _ => true) (defBody (top 10)) = true := by decide +kernel
theorem s18 : FnScope f18.N f18.ps (defScope (top 10)) := ⟨rfl, rfl, rfl, by decide +kernel, rfl, by decide +kernel, by decide +kernel⟩
theorem m19 : mSs (tbOf P bs gl false false cs) f19.N f19.body (defScope (top 11)) (fun _ => true) (defBody (top 11)) = true := by decide +kernel
theorem s19 : FnScope f19.N f19.ps (defScope (top 11)) := ⟨rfl, rfl, rfl, by decide +kernel, rfl, by decide +kernel, by decide +kernel⟩
theorem m20 : mSs (tbOf P bs gl false false cs) f20.N f20.body (defScope (top 12)) (fun _ => true) (defBody (top 12)) = true := by decide +kernel
theorem s20 : FnScope f20.N f20.ps (defScope (top 12)) := ⟨rfl, rfl, rfl, by decide +kernel, rfl, by decide +kernel, by decide +kernel⟩
theorem m21 : mSs (tbOf P bs gl false false cs) f21.N f21.body (defScope (top 13)) (fun _ => true) (defBody (top 13)) = true := by decide +kernel
theorem s21 : FnScope f21.N f21.ps (defScope (top 13)) := ⟨rfl, rfl, rfl, by decide +kernel, rfl, by decide +kernel, by decide +kernel⟩
theorem m22 : mSs (tbOf P bs gl false false cs) f22.N f22.body (defScope (top 14)) (fun _ => true) (defBody (top 14)) = true := by decide +kernel
theorem s22 : FnScope f22.N f22.ps (defScope (top 14)) := ⟨rfl, rfl, rfl, by decide +kernel, rfl, by decide +kernel, by decide +kernel⟩
theorem m23 : mSs (tbOf P bs gl false false cs) f23.N f23.body (defScope (top 15)) (fun _ => true) (defBody (top 15)) = true := by decide +kernel
theorem s23 : FnScope f23.N f23.ps (defScope (top 15)) := ⟨rfl, rfl, rfl, by decide +kernel, rfl, by decide +kernel, by decide +kernel⟩
theorem m24 : mSs (tbOf P bs gl false false cs) f24.N f24.body (defScope (top 16)) (fun _ => true) (defBody (top 16)) = true := by decide +kernel
theorem s24 : FnScope f24.N f24.ps (defScope (top 16)) := ⟨rfl, rfl, rfl, by decide +kernel, rfl, by decide +kernel, by decide +kernel⟩
theorem m25 : mSs (tbOf P bs gl false false cs) f25.N f25.body (defScope (top 17)) (fun _ => true) (defBody (top 17)) = true := by decide +kernel
theorem s25 : FnScope f25.N f25.ps (defScope (top 17)) := ⟨rfl, rfl, rfl, by decide +kernel, rfl, by decide +kernel, by decide +kernel⟩
theorem m26 : mSs (tbOf P bs gl false false cs) f26.N f26.body (defScope (top 18)) (fun _ => true) (defBody (top 18)) = true := by decide +kernel
theorem s26 : FnScope f26.N f26.ps (defScope (top 18)) := ⟨rfl, rfl, rfl, by decide +kernel, rfl, by decide +kernel, by decide +kernel⟩
theorem m27 : mSs (tbOf P bs gl false false cs) f27.N f27.body (defScope (top 19)) (fun _ => true) (defBody (top 19)) = true := by decide +kernel
theorem s27 : FnScope f27.N f27.ps (defScope (top 19)) := ⟨rfl, rfl, rfl, by decide +kernel, rfl, by decide +kernel, by decide +kernel⟩
theorem m28 : mSs (tbOf P bs gl false false cs) f28.N f28.body (defScope (top 20)) (fun _ => true) (defBody (top 20)) = true := by decide +kernel
theorem s28 : FnScope f28.N f28.ps (defScope (top 20)) := ⟨rfl, rfl, rfl, by decide +kernel, rfl, by decide +kernel, by decide +kernel⟩
theorem m29 : mSs (tbOf P bs gl false false cs) f29.N f29.body (defScope (top 21)) (fun _ => true) (defBody (top 21)) = true := by decide +kernel
theorem s29 : FnScope f29.N f29.ps (defScope (top 21)) := ⟨rfl, rfl, rfl, by decide +kernel, rfl, by decide +kernel, by decide +kernel⟩
theorem m30 : mSs (tbOf P bs gl false false cs) f30.N f30.body (defScope (top 22)) (fun _ => true) (defBody (top 22)) = true := by decide +kernel
theorem s30 : FnScope f30.N f30.ps (defScope (top 22)) := ⟨rfl, rfl, rfl, by decide +kernel, rfl, by decide +kernel, by decide +kernel⟩
theorem m31 : mSs (tbOf P bs gl false false cs) f31.N f31.body (defScope (top 23)) (fun _ => true) (defBody (top 23)) = true := by decide +kernel
theorem s31 : FnScope f31.N f31.ps (defScope (top 23)) := ⟨rfl, rfl, rfl, by decide +kernel, rfl, by decide +kernel, by decide +kernel⟩
theorem m32 : mSs (tbOf P bs gl false false cs) f32.N f32.body (defScope (top 24)) (fun _ => true) (defBody (top 24)) = true := by decide +kernel
theorem s32 : FnScope f32.N f32.ps (defScope (top 24)) := ⟨rfl, rfl, rfl, by decide +kernel, rfl, by decide +kernel, by decide +kernel⟩
theorem m33 : mSs (tbOf P bs gl false false cs) f33.N f33.body (defScope (top 25)) (fun _ => true) (defBody (top 25)) = true := by decide +kernel
theorem s33 : FnScope f33.N f33.ps (defScope (top 25)) := ⟨rfl, rfl, rfl, by decide +kernel, rfl, by decide +kernel, by decide +kernel⟩
theorem m34 : mSs (tbOf P bs gl false false cs) f34.N f34.body (defScope (top 26)) (fun _ => true) (defBody (top 26)) = true := by decide +kernel
theorem s34 : FnScope f34.N f34.ps (defScope (top 26)) := ⟨rfl, rfl, rfl, by decide +kernel, rfl, by decide +kernel, by decide +kernel⟩
theorem m35 : mSs (tbOf P bs gl false false cs) f35.N f35.body (defScope (top 27)) (fun _ => true) (defBody (top 27)) = true := by decide +kernel
theorem s35 : FnScope f35.N f35.ps (defScope (top 27)) := ⟨rfl, rfl, rfl, by decide +kernel, rfl, by decide +kernel, by decide +kernel⟩
theorem m36 : mSs (tbOf P bs gl false false cs) f36.N f36.body (defScope (top 28)) (fun _ => true) (defBody (top 28)) = true := by decide +kernel
theorem s36 : FnScope f36.N f36.ps (defScope (top 28)) := ⟨rfl, rfl, rfl, by decide +kernel, rfl, by decide +kernel, by decide +kernel⟩
theorem m37 : mSs (tbOf P bs gl false false cs) f37.N f37.body (defScope (top 29)) (fun _ => true) (defBody (top 29)) = true := by decide +kernel
theorem s37 : FnScope f37.N f37.ps (defScope (top 29)) := ⟨rfl, rfl, rfl, by decide +kernel, rfl, by decide +kernel, by decide +kernel⟩
theorem m38 : mSs (tbOf P bs gl false true cs) f38.N f38.body (defScope (top 30)) (fun _ => true) (defBody (top 30)) = true := by decide +kernel
theorem s38 : FnScope f38.N f38.ps (defScope (top 30)) := ⟨rfl, rfl, rfl, by decide +kernel, rfl, by decide +kernel, by decide +kernel⟩
theorem all_mk {l : PySem.W.OpenLaw} {w : World} {K : PySem.W.Frag} {h : Heap} {mg : Str → Option Value} {fa g0 g1 g2 g3 g4 g5 g6 g7 g8 g9 g10 g11 g12 g13 g14 g15 g16 g17 g18 g19 g20 g21 g22 g23 g24 g25 g26 g27 g28 g29 g30 g31 g32 g33 g34 g35 g36 g37 g38 C0 : Addr} (X : K.In h) (G : h.Ns mainGlobals mg) (hfa : mg "law" = some (.ref fa))
    {od0 an0 od1 an1 od2 an2 od3 an3 od4 an4 od5 an5 od6 an6 od7 an7 od8 an8 od9 an9 od10 an10 od11 an11 od12 an12 od13 an13 od14 an14 od15 an15 od16 an16 od17 an17 od18 an18 od19 an19 od20 an20 od21 an21 od22 an22 od23 an23 od24 an24 od25 an25 od26 an26 od27 an27 od28 an28 od29 an29 od30 an30 od31 an31 od32 an32 od33 an33 od34 an34 od35 an35 od36 an36 od37 an37 od38 an38 : Option Addr} {sl0 sl1 sl2 sl3 sl4 sl5 sl6 sl7 sl8 sl9 sl10 sl11 sl12 sl13 sl14 sl15 sl16 sl17 sl18 sl19 sl20 sl21 sl22 sl23 sl24 sl25 sl26 sl27 sl28 sl29 sl30 sl31 sl32 sl33 sl34 sl35 sl36 sl37 sl38 : Array (Option Value)} {oc0 kV0 dc0 pm0 cd0 ct0 oc1 kV1 dc1 pm1 cd1 ct1 oc2 kV2 dc2 pm2 cd2 ct2 oc3 kV3 dc3 pm3 cd3 ct3 oc4 kV4 dc4 pm4 cd4 ct4 oc5 kV5 dc5 pm5 cd5 ct5 oc6 kV6 dc6 pm6 cd6 ct6 oc7 kV7 dc7 pm7 cd7 ct7 oc8 kV8 dc8 pm8 cd8 ct8 oc9 kV9 dc9 pm9 cd9 ct9 oc10 kV10 dc10 pm10 cd10 ct10 oc11 kV11 dc11 pm11 cd11 ct11 oc12 kV12 dc12 pm12 cd12 ct12 oc13 kV13 dc13 pm13 cd13 ct13 oc14 kV14 dc14 pm14 cd14 ct14 oc15 kV15 dc15 pm15 cd15 ct15 oc16 kV16 dc16 pm16 cd16 ct16 oc17 kV17 dc17 pm17 cd17 ct17 oc18 kV18 dc18 pm18 cd18 ct18 oc19 kV19 dc19 pm19 cd19 ct19 oc20 kV20 dc20 pm20 cd20 ct20 oc21 kV21 dc21 pm21 cd21 ct21 oc22 kV22 dc22 pm22 cd22 ct22 oc23 kV23 dc23 pm23 cd23 ct23 oc24 kV24 dc24 pm24 cd24 ct24 oc25 kV25 dc25 pm25 cd25 ct25 oc26 kV26 dc26 pm26 cd26 ct26 oc27 kV27 dc27 pm27 cd27 ct27 oc28 kV28 dc28 pm28 cd28 ct28 oc29 kV29 dc29 pm29 cd29 ct29 oc30 kV30 dc30 pm30 cd30 ct30 oc31 kV31 dc31 pm31 cd31 ct31 oc32 kV32 dc32 pm32 cd32 ct32 oc33 kV33 dc33 pm33 cd33 ct33 oc34 kV34 dc34 pm34 cd34 ct34 oc35 kV35 dc35 pm35 cd35 ct35 oc36 kV36 dc36 pm36 cd36 ct36 oc37 kV37 dc37 pm37 cd37 ct37 oc38 kV38 dc38 pm38 cd38 ct38 : Value} {v0 : V} {u0 : Value}
    (a0 : PySem.W.nsIn K mainGlobals "statements_in" = some (some (.ref g0))) (l0 : K.lookup g0 = some ⟨oc0, od0, .func (PySem.W.fnOf "statements_in" "statements_in" (defArgs (top 1)) (defBody (top 1)) (defScope (top 1)) .none kV0 dc0 pm0 an0 cd0 ct0), sl0⟩) (c0 : PySem.W.codeIn K cd0 "statements_in" = true) (k0 : PySem.W.keepIn K (.ref g0) = true)
    (a1 : PySem.W.nsIn K mainGlobals "atoms_of_proc" = some (some (.ref g1))) (l1 : K.lookup g1 = some ⟨oc1, od1, .func (PySem.W.fnOf "atoms_of_proc" "atoms_of_proc" (defArgs (top 4)) (defBody (top 4)) (defScope (top 4)) .none kV1 dc1 pm1 an1 cd1 ct1), sl1⟩) (c1 : PySem.W.codeIn K cd1 "atoms_of_proc" = true) (k1 : PySem.W.keepIn K (.ref g1) = true)
    (a2 : PySem.W.nsIn K mainGlobals "comparisons_in" = some (some (.ref g2))) (l2 : K.lookup g2 = some ⟨oc2, od2, .func (PySem.W.fnOf "comparisons_in" "comparisons_in" (defArgs (top 5)) (defBody (top 5)) (defScope (top 5)) .none kV2 dc2 pm2 an2 cd2 ct2), sl2⟩) (c2 : PySem.W.codeIn K cd2 "comparisons_in" = true) (k2 : PySem.W.keepIn K (.ref g2) = true)
    (a3 : PySem.W.nsIn K mainGlobals "keys_in" = some (some (.ref g3))) (l3 : K.lookup g3 = some ⟨oc3, od3, .func (PySem.W.fnOf "keys_in" "keys_in" (defArgs (top 6)) (defBody (top 6)) (defScope (top 6)) .none kV3 dc3 pm3 an3 cd3 ct3), sl3⟩) (c3 : PySem.W.codeIn K cd3 "keys_in" = true) (k3 : PySem.W.keepIn K (.ref g3) = true)
    (a4 : PySem.W.findIn K (.ref C0) "__init__" = some (some (.ref g4))) (i4 : PySem.W.isFn K (.ref g4) = true) (l4 : K.lookup g4 = some ⟨oc4, od4, .func (PySem.W.fnOf "__init__" "Marks.__init__" (defArgs (inClass (top 7) 0)) (defBody (inClass (top 7) 0)) (defScope (inClass (top 7) 0)) .none kV4 dc4 pm4 an4 cd4 ct4), sl4⟩) (c4 : PySem.W.codeIn K cd4 "Marks.__init__" = true) (k4 : PySem.W.keepIn K (.ref g4) = true)
    (a5 : PySem.W.findIn K (.ref C0) "begin" = some (some (.ref g5))) (i5 : PySem.W.isFn K (.ref g5) = true) (l5 : K.lookup g5 = some ⟨oc5, od5, .func (PySem.W.fnOf "begin" "Marks.begin" (defArgs (inClass (top 7) 1)) (defBody (inClass (top 7) 1)) (defScope (inClass (top 7) 1)) .none kV5 dc5 pm5 an5 cd5 ct5), sl5⟩) (c5 : PySem.W.codeIn K cd5 "Marks.begin" = true) (k5 : PySem.W.keepIn K (.ref g5) = true)
    (a6 : PySem.W.findIn K (.ref C0) "add" = some (some (.ref g6))) (i6 : PySem.W.isFn K (.ref g6) = true) (l6 : K.lookup g6 = some ⟨oc6, od6, .func (PySem.W.fnOf "add" "Marks.add" (defArgs (inClass (top 7) 2)) (defBody (inClass (top 7) 2)) (defScope (inClass (top 7) 2)) .none kV6 dc6 pm6 an6 cd6 ct6), sl6⟩) (c6 : PySem.W.codeIn K cd6 "Marks.add" = true) (k6 : PySem.W.keepIn K (.ref g6) = true)
    (a7 : PySem.W.findIn K (.ref C0) "gathered" = some (some (.ref g7))) (i7 : PySem.W.isFn K (.ref g7) = true) (l7 : K.lookup g7 = some ⟨oc7, od7, .func (PySem.W.fnOf "gathered" "Marks.gathered" (defArgs (inClass (top 7) 3)) (defBody (inClass (top 7) 3)) (defScope (inClass (top 7) 3)) .none kV7 dc7 pm7 an7 cd7 ct7), sl7⟩) (c7 : PySem.W.codeIn K cd7 "Marks.gathered" = true) (k7 : PySem.W.keepIn K (.ref g7) = true)
    (a8 : PySem.W.findIn K (.ref C0) "flow" = some (some (.ref g8))) (i8 : PySem.W.isFn K (.ref g8) = true) (l8 : K.lookup g8 = some ⟨oc8, od8, .func (PySem.W.fnOf "flow" "Marks.flow" (defArgs (inClass (top 7) 4)) (defBody (inClass (top 7) 4)) (defScope (inClass (top 7) 4)) .none kV8 dc8 pm8 an8 cd8 ct8), sl8⟩) (c8 : PySem.W.codeIn K cd8 "Marks.flow" = true) (k8 : PySem.W.keepIn K (.ref g8) = true)
    (a9 : PySem.W.findIn K (.ref C0) "condition" = some (some (.ref g9))) (i9 : PySem.W.isFn K (.ref g9) = true) (l9 : K.lookup g9 = some ⟨oc9, od9, .func (PySem.W.fnOf "condition" "Marks.condition" (defArgs (inClass (top 7) 5)) (defBody (inClass (top 7) 5)) (defScope (inClass (top 7) 5)) .none kV9 dc9 pm9 an9 cd9 ct9), sl9⟩) (c9 : PySem.W.codeIn K cd9 "Marks.condition" = true) (k9 : PySem.W.keepIn K (.ref g9) = true)
    (a10 : PySem.W.findIn K (.ref C0) "stands_for" = some (some (.ref g10))) (i10 : PySem.W.isFn K (.ref g10) = true) (l10 : K.lookup g10 = some ⟨oc10, od10, .func (PySem.W.fnOf "stands_for" "Marks.stands_for" (defArgs (inClass (top 7) 6)) (defBody (inClass (top 7) 6)) (defScope (inClass (top 7) 6)) .none kV10 dc10 pm10 an10 cd10 ct10), sl10⟩) (c10 : PySem.W.codeIn K cd10 "Marks.stands_for" = true) (k10 : PySem.W.keepIn K (.ref g10) = true)
    (a11 : PySem.W.findIn K (.ref C0) "hand_on" = some (some (.ref g11))) (i11 : PySem.W.isFn K (.ref g11) = true) (l11 : K.lookup g11 = some ⟨oc11, od11, .func (PySem.W.fnOf "hand_on" "Marks.hand_on" (defArgs (inClass (top 7) 7)) (defBody (inClass (top 7) 7)) (defScope (inClass (top 7) 7)) .none kV11 dc11 pm11 an11 cd11 ct11), sl11⟩) (c11 : PySem.W.codeIn K cd11 "Marks.hand_on" = true) (k11 : PySem.W.keepIn K (.ref g11) = true)
    (a12 : PySem.W.findIn K (.ref C0) "call" = some (some (.ref g12))) (i12 : PySem.W.isFn K (.ref g12) = true) (l12 : K.lookup g12 = some ⟨oc12, od12, .func (PySem.W.fnOf "call" "Marks.call" (defArgs (inClass (top 7) 8)) (defBody (inClass (top 7) 8)) (defScope (inClass (top 7) 8)) .none kV12 dc12 pm12 an12 cd12 ct12), sl12⟩) (c12 : PySem.W.codeIn K cd12 "Marks.call" = true) (k12 : PySem.W.keepIn K (.ref g12) = true)
    (a13 : PySem.W.findIn K (.ref C0) "follow" = some (some (.ref g13))) (i13 : PySem.W.isFn K (.ref g13) = true) (l13 : K.lookup g13 = some ⟨oc13, od13, .func (PySem.W.fnOf "follow" "Marks.follow" (defArgs (inClass (top 7) 9)) (defBody (inClass (top 7) 9)) (defScope (inClass (top 7) 9)) .none kV13 dc13 pm13 an13 cd13 ct13), sl13⟩) (c13 : PySem.W.codeIn K cd13 "Marks.follow" = true) (k13 : PySem.W.keepIn K (.ref g13) = true)
    (a14 : PySem.W.findIn K (.ref C0) "settle" = some (some (.ref g14))) (i14 : PySem.W.isFn K (.ref g14) = true) (l14 : K.lookup g14 = some ⟨oc14, od14, .func (PySem.W.fnOf "settle" "Marks.settle" (defArgs (inClass (top 7) 10)) (defBody (inClass (top 7) 10)) (defScope (inClass (top 7) 10)) .none kV14 dc14 pm14 an14 cd14 ct14), sl14⟩) (c14 : PySem.W.codeIn K cd14 "Marks.settle" = true) (k14 : PySem.W.keepIn K (.ref g14) = true)
    (a15 : PySem.W.findIn K (.ref C0) "mark" = some (some (.ref g15))) (i15 : PySem.W.isFn K (.ref g15) = true) (l15 : K.lookup g15 = some ⟨oc15, od15, .func (PySem.W.fnOf "mark" "Marks.mark" (defArgs (inClass (top 7) 11)) (defBody (inClass (top 7) 11)) (defScope (inClass (top 7) 11)) .none kV15 dc15 pm15 an15 cd15 ct15), sl15⟩) (c15 : PySem.W.codeIn K cd15 "Marks.mark" = true) (k15 : PySem.W.keepIn K (.ref g15) = true)
    (a16 : PySem.W.findIn K (.ref C0) "row" = some (some (.ref g16))) (i16 : PySem.W.isFn K (.ref g16) = true) (l16 : K.lookup g16 = some ⟨oc16, od16, .func (PySem.W.fnOf "row" "Marks.row" (defArgs (inClass (top 7) 12)) (defBody (inClass (top 7) 12)) (defScope (inClass (top 7) 12)) .none kV16 dc16 pm16 an16 cd16 ct16), sl16⟩) (c16 : PySem.W.codeIn K cd16 "Marks.row" = true) (k16 : PySem.W.keepIn K (.ref g16) = true)
    (a17 : PySem.W.nsIn K mainGlobals "leans_of" = some (some (.ref g17))) (l17 : K.lookup g17 = some ⟨oc17, od17, .func (PySem.W.fnOf "leans_of" "leans_of" (defArgs (top 8)) (defBody (top 8)) (defScope (top 8)) .none kV17 dc17 pm17 an17 cd17 ct17), sl17⟩) (c17 : PySem.W.codeIn K cd17 "leans_of" = true) (k17 : PySem.W.keepIn K (.ref g17) = true)
    (a18 : PySem.W.nsIn K mainGlobals "_law_start" = some (some (.ref g18))) (l18 : K.lookup g18 = some ⟨oc18, od18, .func (PySem.W.fnOf "_law_start" "_law_start" (defArgs (top 10)) (defBody (top 10)) (defScope (top 10)) .none kV18 dc18 pm18 an18 cd18 ct18), sl18⟩) (c18 : PySem.W.codeIn K cd18 "_law_start" = true) (k18 : PySem.W.keepIn K (.ref g18) = true)
    (a19 : PySem.W.nsIn K mainGlobals "_law_draw" = some (some (.ref g19))) (l19 : K.lookup g19 = some ⟨oc19, od19, .func (PySem.W.fnOf "_law_draw" "_law_draw" (defArgs (top 11)) (defBody (top 11)) (defScope (top 11)) .none kV19 dc19 pm19 an19 cd19 ct19), sl19⟩) (c19 : PySem.W.codeIn K cd19 "_law_draw" = true) (k19 : PySem.W.keepIn K (.ref g19) = true)
    (a20 : PySem.W.nsIn K mainGlobals "_law_words" = some (some (.ref g20))) (l20 : K.lookup g20 = some ⟨oc20, od20, .func (PySem.W.fnOf "_law_words" "_law_words" (defArgs (top 12)) (defBody (top 12)) (defScope (top 12)) .none kV20 dc20 pm20 an20 cd20 ct20), sl20⟩) (c20 : PySem.W.codeIn K cd20 "_law_words" = true) (k20 : PySem.W.keepIn K (.ref g20) = true)
    (a21 : PySem.W.nsIn K mainGlobals "_law_is_int" = some (some (.ref g21))) (l21 : K.lookup g21 = some ⟨oc21, od21, .func (PySem.W.fnOf "_law_is_int" "_law_is_int" (defArgs (top 13)) (defBody (top 13)) (defScope (top 13)) .none kV21 dc21 pm21 an21 cd21 ct21), sl21⟩) (c21 : PySem.W.codeIn K cd21 "_law_is_int" = true) (k21 : PySem.W.keepIn K (.ref g21) = true)
    (a22 : PySem.W.nsIn K mainGlobals "_law_same" = some (some (.ref g22))) (l22 : K.lookup g22 = some ⟨oc22, od22, .func (PySem.W.fnOf "_law_same" "_law_same" (defArgs (top 14)) (defBody (top 14)) (defScope (top 14)) .none kV22 dc22 pm22 an22 cd22 ct22), sl22⟩) (c22 : PySem.W.codeIn K cd22 "_law_same" = true) (k22 : PySem.W.keepIn K (.ref g22) = true)
    (a23 : PySem.W.nsIn K mainGlobals "_law_statements" = some (some (.ref g23))) (l23 : K.lookup g23 = some ⟨oc23, od23, .func (PySem.W.fnOf "_law_statements" "_law_statements" (defArgs (top 15)) (defBody (top 15)) (defScope (top 15)) .none kV23 dc23 pm23 an23 cd23 ct23), sl23⟩) (c23 : PySem.W.codeIn K cd23 "_law_statements" = true) (k23 : PySem.W.keepIn K (.ref g23) = true)
    (a24 : PySem.W.nsIn K mainGlobals "_law_head" = some (some (.ref g24))) (l24 : K.lookup g24 = some ⟨oc24, od24, .func (PySem.W.fnOf "_law_head" "_law_head" (defArgs (top 16)) (defBody (top 16)) (defScope (top 16)) .none kV24 dc24 pm24 an24 cd24 ct24), sl24⟩) (c24 : PySem.W.codeIn K cd24 "_law_head" = true) (k24 : PySem.W.keepIn K (.ref g24) = true)
    (a25 : PySem.W.nsIn K mainGlobals "_law_sum_of" = some (some (.ref g25))) (l25 : K.lookup g25 = some ⟨oc25, od25, .func (PySem.W.fnOf "_law_sum_of" "_law_sum_of" (defArgs (top 17)) (defBody (top 17)) (defScope (top 17)) .none kV25 dc25 pm25 an25 cd25 ct25), sl25⟩) (c25 : PySem.W.codeIn K cd25 "_law_sum_of" = true) (k25 : PySem.W.keepIn K (.ref g25) = true)
    (a26 : PySem.W.nsIn K mainGlobals "_law_test" = some (some (.ref g26))) (l26 : K.lookup g26 = some ⟨oc26, od26, .func (PySem.W.fnOf "_law_test" "_law_test" (defArgs (top 18)) (defBody (top 18)) (defScope (top 18)) .none kV26 dc26 pm26 an26 cd26 ct26), sl26⟩) (c26 : PySem.W.codeIn K cd26 "_law_test" = true) (k26 : PySem.W.keepIn K (.ref g26) = true)
    (a27 : PySem.W.nsIn K mainGlobals "_law_give" = some (some (.ref g27))) (l27 : K.lookup g27 = some ⟨oc27, od27, .func (PySem.W.fnOf "_law_give" "_law_give" (defArgs (top 19)) (defBody (top 19)) (defScope (top 19)) .none kV27 dc27 pm27 an27 cd27 ct27), sl27⟩) (c27 : PySem.W.codeIn K cd27 "_law_give" = true) (k27 : PySem.W.keepIn K (.ref g27) = true)
    (a28 : PySem.W.nsIn K mainGlobals "_law_simple" = some (some (.ref g28))) (l28 : K.lookup g28 = some ⟨oc28, od28, .func (PySem.W.fnOf "_law_simple" "_law_simple" (defArgs (top 20)) (defBody (top 20)) (defScope (top 20)) .none kV28 dc28 pm28 an28 cd28 ct28), sl28⟩) (c28 : PySem.W.codeIn K cd28 "_law_simple" = true) (k28 : PySem.W.keepIn K (.ref g28) = true)
    (a29 : PySem.W.nsIn K mainGlobals "_law_block" = some (some (.ref g29))) (l29 : K.lookup g29 = some ⟨oc29, od29, .func (PySem.W.fnOf "_law_block" "_law_block" (defArgs (top 21)) (defBody (top 21)) (defScope (top 21)) .none kV29 dc29 pm29 an29 cd29 ct29), sl29⟩) (c29 : PySem.W.codeIn K cd29 "_law_block" = true) (k29 : PySem.W.keepIn K (.ref g29) = true)
    (a30 : PySem.W.nsIn K mainGlobals "_law_chain" = some (some (.ref g30))) (l30 : K.lookup g30 = some ⟨oc30, od30, .func (PySem.W.fnOf "_law_chain" "_law_chain" (defArgs (top 22)) (defBody (top 22)) (defScope (top 22)) .none kV30 dc30 pm30 an30 cd30 ct30), sl30⟩) (c30 : PySem.W.codeIn K cd30 "_law_chain" = true) (k30 : PySem.W.keepIn K (.ref g30) = true)
    (a31 : PySem.W.nsIn K mainGlobals "_law_keys" = some (some (.ref g31))) (l31 : K.lookup g31 = some ⟨oc31, od31, .func (PySem.W.fnOf "_law_keys" "_law_keys" (defArgs (top 23)) (defBody (top 23)) (defScope (top 23)) .none kV31 dc31 pm31 an31 cd31 ct31), sl31⟩) (c31 : PySem.W.codeIn K cd31 "_law_keys" = true) (k31 : PySem.W.keepIn K (.ref g31) = true)
    (a32 : PySem.W.nsIn K mainGlobals "_law_test_keys" = some (some (.ref g32))) (l32 : K.lookup g32 = some ⟨oc32, od32, .func (PySem.W.fnOf "_law_test_keys" "_law_test_keys" (defArgs (top 24)) (defBody (top 24)) (defScope (top 24)) .none kV32 dc32 pm32 an32 cd32 ct32), sl32⟩) (c32 : PySem.W.codeIn K cd32 "_law_test_keys" = true) (k32 : PySem.W.keepIn K (.ref g32) = true)
    (a33 : PySem.W.nsIn K mainGlobals "_law_flows" = some (some (.ref g33))) (l33 : K.lookup g33 = some ⟨oc33, od33, .func (PySem.W.fnOf "_law_flows" "_law_flows" (defArgs (top 25)) (defBody (top 25)) (defScope (top 25)) .none kV33 dc33 pm33 an33 cd33 ct33), sl33⟩) (c33 : PySem.W.codeIn K cd33 "_law_flows" = true) (k33 : PySem.W.keepIn K (.ref g33) = true)
    (a34 : PySem.W.nsIn K mainGlobals "_law_reached" = some (some (.ref g34))) (l34 : K.lookup g34 = some ⟨oc34, od34, .func (PySem.W.fnOf "_law_reached" "_law_reached" (defArgs (top 26)) (defBody (top 26)) (defScope (top 26)) .none kV34 dc34 pm34 an34 cd34 ct34), sl34⟩) (c34 : PySem.W.codeIn K cd34 "_law_reached" = true) (k34 : PySem.W.keepIn K (.ref g34) = true)
    (a35 : PySem.W.nsIn K mainGlobals "_law_atom_rows" = some (some (.ref g35))) (l35 : K.lookup g35 = some ⟨oc35, od35, .func (PySem.W.fnOf "_law_atom_rows" "_law_atom_rows" (defArgs (top 27)) (defBody (top 27)) (defScope (top 27)) .none kV35 dc35 pm35 an35 cd35 ct35), sl35⟩) (c35 : PySem.W.codeIn K cd35 "_law_atom_rows" = true) (k35 : PySem.W.keepIn K (.ref g35) = true)
    (a36 : PySem.W.nsIn K mainGlobals "_law_mark" = some (some (.ref g36))) (l36 : K.lookup g36 = some ⟨oc36, od36, .func (PySem.W.fnOf "_law_mark" "_law_mark" (defArgs (top 28)) (defBody (top 28)) (defScope (top 28)) .none kV36 dc36 pm36 an36 cd36 ct36), sl36⟩) (c36 : PySem.W.codeIn K cd36 "_law_mark" = true) (k36 : PySem.W.keepIn K (.ref g36) = true)
    (a37 : PySem.W.nsIn K mainGlobals "_law_row" = some (some (.ref g37))) (l37 : K.lookup g37 = some ⟨oc37, od37, .func (PySem.W.fnOf "_law_row" "_law_row" (defArgs (top 29)) (defBody (top 29)) (defScope (top 29)) .none kV37 dc37 pm37 an37 cd37 ct37), sl37⟩) (c37 : PySem.W.codeIn K cd37 "_law_row" = true) (k37 : PySem.W.keepIn K (.ref g37) = true)
    (a38 : PySem.W.nsIn K mainGlobals "law" = some (some (.ref g38))) (l38 : K.lookup g38 = some ⟨oc38, od38, .func (PySem.W.fnOf "law" "law" (defArgs (top 30)) (defBody (top 30)) (defScope (top 30)) .none kV38 dc38 pm38 an38 cd38 ct38), sl38⟩) (c38 : PySem.W.codeIn K cd38 "law" = true) (k38 : PySem.W.keepIn K (.ref g38) = true)
    (aC0 : PySem.W.nsIn K mainGlobals "Marks" = some (some (.ref C0))) (pg0 : PySem.W.plainGet K C0 Str.empty = true) (hd0 : PySem.W.hasDictIn K C0 = true) (po0 : PySem.W.plainOver K C0 = true) (sa0 : PySem.W.findIn K (.ref C0) "__setattr__" = some (some (.builtin "object.__setattr__"))) (mk0 : PySem.W.makesIn K C0 = true) (kC0 : PySem.W.keepIn K (.ref C0) = true)
    (nf0_0 : PySem.W.findIn K (.ref C0) "core" = some none)
    (nf0_1 : PySem.W.findIn K (.ref C0) "procs" = some none)
    (nf0_2 : PySem.W.findIn K (.ref C0) "table" = some none)
    (nf0_3 : PySem.W.findIn K (.ref C0) "growing" = some none)
    (z0 : PySem.W.nsIn K mainGlobals "tuple" = some none)
    (z1 : PySem.W.nsIn K mainGlobals "zip" = some none)
    (z2 : PySem.W.nsIn K mainGlobals "list" = some none)
    (z3 : PySem.W.nsIn K mainGlobals "int" = some none)
    (z4 : PySem.W.nsIn K mainGlobals "len" = some none)
    (z5 : PySem.W.nsIn K mainGlobals "abs" = some none)
    (z6 : PySem.W.nsIn K mainGlobals "range" = some none)
    (z7 : PySem.W.nsIn K mainGlobals "isinstance" = some none)
    (z8 : PySem.W.nsIn K mainGlobals "bool" = some none)
    (z9 : PySem.W.nsIn K mainGlobals "all" = some none)
    (z10 : PySem.W.nsIn K mainGlobals "str" = some none)
    (z11 : PySem.W.nsIn K mainGlobals "sorted" = some none)
    (y0 : PySem.W.nsIn K mainGlobals "STEERS" = some (some u0)) (r0 : RelV v0 u0) (d0 : ∀ F, Den K F v0 (.str "!"))
    (law : ∀ ns : List Int, ns.length ≤ 63 → ∃ mh', callP P gl 60 38 [.d (.list (ns.map PyData.int))] [] = some (.d (.bool true), mh')) :
    ∃ fd : FuncData, (∀ (s : Shared) (v : Value), BindsTo s fd ⟨[v], []⟩ [("script", v)]) ∧ ∀ base : Heap, K.In base → base.Ns mainGlobals mg → FnOkG l.prog w K mg base CX0 (2 * 60) fa fd ["script"] (spLaw K) := by
  have e := hfa.symm.trans (PySem.W.mg_of X G a38)
  cases e
  have F0 := fun_mk (st := (top 1)) l0 c0 k0
  have F1 := fun_mk (st := (top 4)) l1 c1 k1
  have F2 := fun_mk (st := (top 5)) l2 c2 k2
  have F3 := fun_mk (st := (top 6)) l3 c3 k3
  have F4 := fun_mk (st := (inClass (top 7) 0)) l4 c4 k4
  have F5 := fun_mk (st := (inClass (top 7) 1)) l5 c5 k5
  have F6 := fun_mk (st := (inClass (top 7) 2)) l6 c6 k6
  have F7 := fun_mk (st := (inClass (top 7) 3)) l7 c7 k7
  have F8 := fun_mk (st := (inClass (top 7) 4)) l8 c8 k8
  have F9 := fun_mk (st := (inClass (top 7) 5)) l9 c9 k9
  have F10 := fun_mk (st := (inClass (top 7) 6)) l10 c10 k10
  have F11 := fun_mk (st := (inClass (top 7) 7)) l11 c11 k11
  have F12 := fun_mk (st := (inClass (top 7) 8)) l12 c12 k12
  have F13 := fun_mk (st := (inClass (top 7) 9)) l13 c13 k13
  have F14 := fun_mk (st := (inClass (top 7) 10)) l14 c14 k14
  have F15 := fun_mk (st := (inClass (top 7) 11)) l15 c15 k15
  have F16 := fun_mk (st := (inClass (top 7) 12)) l16 c16 k16
  have F17 := fun_mk (st := (top 8)) l17 c17 k17
  have F18 := fun_mk (st := (top 10)) l18 c18 k18
  have F19 := fun_mk (st := (top 11)) l19 c19 k19
  have F20 := fun_mk (st := (top 12)) l20 c20 k20
  have F21 := fun_mk (st := (top 13)) l21 c21 k21
  have F22 := fun_mk (st := (top 14)) l22 c22 k22
  have F23 := fun_mk (st := (top 15)) l23 c23 k23
  have F24 := fun_mk (st := (top 16)) l24 c24 k24
  have F25 := fun_mk (st := (top 17)) l25 c25 k25
  have F26 := fun_mk (st := (top 18)) l26 c26 k26
  have F27 := fun_mk (st := (top 19)) l27 c27 k27
  have F28 := fun_mk (st := (top 20)) l28 c28 k28
  have F29 := fun_mk (st := (top 21)) l29 c29 k29
  have F30 := fun_mk (st := (top 22)) l30 c30 k30
  have F31 := fun_mk (st := (top 23)) l31 c31 k31
  have F32 := fun_mk (st := (top 24)) l32 c32 k32
  have F33 := fun_mk (st := (top 25)) l33 c33 k33
  have F34 := fun_mk (st := (top 26)) l34 c34 k34
  have F35 := fun_mk (st := (top 27)) l35 c35 k35
  have F36 := fun_mk (st := (top 28)) l36 c36 k36
  have F37 := fun_mk (st := (top 29)) l37 c37 k37
  have F38 := fun_mk (st := (top 30)) l38 c38 k38
  refine ⟨PySem.W.fnOf "law" "law" (defArgs (top 30)) (defBody (top 30)) (defScope (top 30)) .none kV38 dc38 pm38 an38 cd38 ct38, fun s v => .of_eq rfl, fun base _ _ => law_okG (Y := ⟨l.prog, w, K, mg, base, false⟩) (P := P) (bs := bs) (gl := gl) (gq := false) (cs := cs) (f := 38) (d := f38) ?_ rfl rfl rfl F38 s38 m38 law⟩
  have D0 : DefAt ⟨l.prog, w, K, mg, base, false⟩ (tbOf P bs gl false false cs) f0 (top 1) g0 _ := ⟨F0, F0.binds (ps := ["body"]) (fun _ _ _ _ _ _ us hl => match us, hl with | [_], _ => rfl), s0, m0⟩
  have D1 : DefAt ⟨l.prog, w, K, mg, base, false⟩ (tbOf P bs gl false false cs) f1 (top 4) g1 _ := ⟨F1, F1.binds (ps := ["proc"]) (fun _ _ _ _ _ _ us hl => match us, hl with | [_], _ => rfl), s1, m1⟩
  have D2 : DefAt ⟨l.prog, w, K, mg, base, false⟩ (tbOf P bs gl false false cs) f2 (top 5) g2 _ := ⟨F2, F2.binds (ps := ["condition"]) (fun _ _ _ _ _ _ us hl => match us, hl with | [_], _ => rfl), s2, m2⟩
  have D3 : DefAt ⟨l.prog, w, K, mg, base, false⟩ (tbOf P bs gl false false cs) f3 (top 6) g3 _ := ⟨F3, F3.binds (ps := ["expression"]) (fun _ _ _ _ _ _ us hl => match us, hl with | [_], _ => rfl), s3, m3⟩
  have D4 : DefAt ⟨l.prog, w, K, mg, base, false⟩ (tbOf P bs gl false false cs) f4 (inClass (top 7) 0) g4 _ := ⟨F4, F4.binds (ps := ["self", "core"]) (fun _ _ _ _ _ _ us hl => match us, hl with | [_, _], _ => rfl), s4, m4⟩
  have D5 : DefAt ⟨l.prog, w, K, mg, base, false⟩ (tbOf P bs gl false false cs) f5 (inClass (top 7) 1) g5 _ := ⟨F5, F5.binds (ps := ["self", "proc"]) (fun _ _ _ _ _ _ us hl => match us, hl with | [_, _], _ => rfl), s5, m5⟩
  have D6 : DefAt ⟨l.prog, w, K, mg, base, false⟩ (tbOf P bs gl false false cs) f6 (inClass (top 7) 2) g6 _ := ⟨F6, F6.binds (ps := ["self", "name", "key", "atoms"]) (fun _ _ _ _ _ _ us hl => match us, hl with | [_, _, _, _], _ => rfl), s6, m6⟩
  have D7 : DefAt ⟨l.prog, w, K, mg, base, false⟩ (tbOf P bs gl false false cs) f7 (inClass (top 7) 3) g7 _ := ⟨F7, F7.binds (ps := ["self", "name", "keys"]) (fun _ _ _ _ _ _ us hl => match us, hl with | [_, _, _], _ => rfl), s7, m7⟩
  have D8 : DefAt ⟨l.prog, w, K, mg, base, false⟩ (tbOf P bs gl false false cs) f8 (inClass (top 7) 4) g8 _ := ⟨F8, F8.binds (ps := ["self", "name", "key", "keys"]) (fun _ _ _ _ _ _ us hl => match us, hl with | [_, _, _, _], _ => rfl), s8, m8⟩
  have D9 : DefAt ⟨l.prog, w, K, mg, base, false⟩ (tbOf P bs gl false false cs) f9 (inClass (top 7) 5) g9 _ := ⟨F9, F9.binds (ps := ["self", "name", "condition"]) (fun _ _ _ _ _ _ us hl => match us, hl with | [_, _, _], _ => rfl), s9, m9⟩
  have D10 : DefAt ⟨l.prog, w, K, mg, base, false⟩ (tbOf P bs gl false false cs) f10 (inClass (top 7) 6) g10 _ := ⟨F10, F10.binds (ps := ["self", "name", "statement"]) (fun _ _ _ _ _ _ us hl => match us, hl with | [_, _, _], _ => rfl), s10, m10⟩
  have D11 : DefAt ⟨l.prog, w, K, mg, base, false⟩ (tbOf P bs gl false false cs) f11 (inClass (top 7) 7) g11 _ := ⟨F11, F11.binds (ps := ["self", "name", "key", "callee", "callee_key", "table"]) (fun _ _ _ _ _ _ us hl => match us, hl with | [_, _, _, _, _, _], _ => rfl), s11, m11⟩
  have D12 : DefAt ⟨l.prog, w, K, mg, base, false⟩ (tbOf P bs gl false false cs) f12 (inClass (top 7) 8) g12 _ := ⟨F12, F12.binds (ps := ["self", "name", "statement"]) (fun _ _ _ _ _ _ us hl => match us, hl with | [_, _, _], _ => rfl), s12, m12⟩
  have D13 : DefAt ⟨l.prog, w, K, mg, base, false⟩ (tbOf P bs gl false false cs) f13 (inClass (top 7) 9) g13 _ := ⟨F13, F13.binds (ps := ["self", "name", "statement"]) (fun _ _ _ _ _ _ us hl => match us, hl with | [_, _, _], _ => rfl), s13, m13⟩
  have D14 : DefAt ⟨l.prog, w, K, mg, base, false⟩ (tbOf P bs gl false false cs) f14 (inClass (top 7) 10) g14 _ := ⟨F14, F14.binds (ps := ["self"]) (fun _ _ _ _ _ _ us hl => match us, hl with | [_], _ => rfl), s14, m14⟩
  have D15 : DefAt ⟨l.prog, w, K, mg, base, false⟩ (tbOf P bs gl false false cs) f15 (inClass (top 7) 11) g15 _ := ⟨F15, F15.binds (ps := ["self", "proc", "key"]) (fun _ _ _ _ _ _ us hl => match us, hl with | [_, _, _], _ => rfl), s15, m15⟩
  have D16 : DefAt ⟨l.prog, w, K, mg, base, false⟩ (tbOf P bs gl false false cs) f16 (inClass (top 7) 12) g16 _ := ⟨F16, F16.binds (ps := ["self", "proc"]) (fun _ _ _ _ _ _ us hl => match us, hl with | [_, _], _ => rfl), s16, m16⟩
  have D17 : DefAt ⟨l.prog, w, K, mg, base, false⟩ (tbOf P bs gl false false cs) f17 (top 8) g17 _ := ⟨F17, F17.binds (ps := ["core"]) (fun _ _ _ _ _ _ us hl => match us, hl with | [_], _ => rfl), s17, m17⟩
  have D18 : DefAt ⟨l.prog, w, K, mg, base, false⟩ (tbOf P bs gl false false cs) f18 (top 10) g18 _ := ⟨F18, F18.binds (ps := ["script"]) (fun _ _ _ _ _ _ us hl => match us, hl with | [_], _ => rfl), s18, m18⟩
  have D19 : DefAt ⟨l.prog, w, K, mg, base, false⟩ (tbOf P bs gl false false cs) f19 (top 11) g19 _ := ⟨F19, F19.binds (ps := ["state", "most"]) (fun _ _ _ _ _ _ us hl => match us, hl with | [_, _], _ => rfl), s19, m19⟩
  have D20 : DefAt ⟨l.prog, w, K, mg, base, false⟩ (tbOf P bs gl false false cs) f20 (top 12) g20 _ := ⟨F20, F20.binds (ps := ["state", "many"]) (fun _ _ _ _ _ _ us hl => match us, hl with | [_, _], _ => rfl), s20, m20⟩
  have D21 : DefAt ⟨l.prog, w, K, mg, base, false⟩ (tbOf P bs gl false false cs) f21 (top 13) g21 _ := ⟨F21, F21.binds (ps := ["x"]) (fun _ _ _ _ _ _ us hl => match us, hl with | [_], _ => rfl), s21, m21⟩
  have D22 : DefAt ⟨l.prog, w, K, mg, base, false⟩ (tbOf P bs gl false false cs) f22 (top 14) g22 _ := ⟨F22, F22.binds (ps := ["x", "y"]) (fun _ _ _ _ _ _ us hl => match us, hl with | [_, _], _ => rfl), s22, m22⟩
  have D23 : DefAt ⟨l.prog, w, K, mg, base, false⟩ (tbOf P bs gl false false cs) f23 (top 15) g23 _ := ⟨F23, F23.binds (ps := ["body"]) (fun _ _ _ _ _ _ us hl => match us, hl with | [_], _ => rfl), s23, m23⟩
  have D24 : DefAt ⟨l.prog, w, K, mg, base, false⟩ (tbOf P bs gl false false cs) f24 (top 16) g24 _ := ⟨F24, F24.binds (ps := ["state", "name"]) (fun _ _ _ _ _ _ us hl => match us, hl with | [_, _], _ => rfl), s24, m24⟩
  have D25 : DefAt ⟨l.prog, w, K, mg, base, false⟩ (tbOf P bs gl false false cs) f25 (top 17) g25 _ := ⟨F25, F25.binds (ps := ["state", "w", "depth"]) (fun _ _ _ _ _ _ us hl => match us, hl with | [_, _, _], _ => rfl), s25, m25⟩
  have D26 : DefAt ⟨l.prog, w, K, mg, base, false⟩ (tbOf P bs gl false false cs) f26 (top 18) g26 _ := ⟨F26, F26.binds (ps := ["state", "w", "depth"]) (fun _ _ _ _ _ _ us hl => match us, hl with | [_, _, _], _ => rfl), s26, m26⟩
  have D27 : DefAt ⟨l.prog, w, K, mg, base, false⟩ (tbOf P bs gl false false cs) f27 (top 19) g27 _ := ⟨F27, F27.binds (ps := ["state", "w"]) (fun _ _ _ _ _ _ us hl => match us, hl with | [_, _], _ => rfl), s27, m27⟩
  have D28 : DefAt ⟨l.prog, w, K, mg, base, false⟩ (tbOf P bs gl false false cs) f28 (top 20) g28 _ := ⟨F28, F28.binds (ps := ["state", "w"]) (fun _ _ _ _ _ _ us hl => match us, hl with | [_, _], _ => rfl), s28, m28⟩
  have D29 : DefAt ⟨l.prog, w, K, mg, base, false⟩ (tbOf P bs gl false false cs) f29 (top 21) g29 _ := ⟨F29, F29.binds (ps := ["state", "w", "depth", "many"]) (fun _ _ _ _ _ _ us hl => match us, hl with | [_, _, _, _], _ => rfl), s29, m29⟩
  have D30 : DefAt ⟨l.prog, w, K, mg, base, false⟩ (tbOf P bs gl false false cs) f30 (top 22) g30 _ := ⟨F30, F30.binds (ps := ["state", "w"]) (fun _ _ _ _ _ _ us hl => match us, hl with | [_, _], _ => rfl), s30, m30⟩
  have D31 : DefAt ⟨l.prog, w, K, mg, base, false⟩ (tbOf P bs gl false false cs) f31 (top 23) g31 _ := ⟨F31, F31.binds (ps := ["e"]) (fun _ _ _ _ _ _ us hl => match us, hl with | [_], _ => rfl), s31, m31⟩
  have D32 : DefAt ⟨l.prog, w, K, mg, base, false⟩ (tbOf P bs gl false false cs) f32 (top 24) g32 _ := ⟨F32, F32.binds (ps := ["c"]) (fun _ _ _ _ _ _ us hl => match us, hl with | [_], _ => rfl), s32, m32⟩
  have D33 : DefAt ⟨l.prog, w, K, mg, base, false⟩ (tbOf P bs gl false false cs) f33 (top 25) g33 _ := ⟨F33, F33.binds (ps := ["p", "s"]) (fun _ _ _ _ _ _ us hl => match us, hl with | [_, _], _ => rfl), s33, m33⟩
  have D34 : DefAt ⟨l.prog, w, K, mg, base, false⟩ (tbOf P bs gl false false cs) f34 (top 26) g34 _ := ⟨F34, F34.binds (ps := ["flows", "key"]) (fun _ _ _ _ _ _ us hl => match us, hl with | [_, _], _ => rfl), s34, m34⟩
  have D35 : DefAt ⟨l.prog, w, K, mg, base, false⟩ (tbOf P bs gl false false cs) f35 (top 27) g35 _ := ⟨F35, F35.binds (ps := ["p"]) (fun _ _ _ _ _ _ us hl => match us, hl with | [_], _ => rfl), s35, m35⟩
  have D36 : DefAt ⟨l.prog, w, K, mg, base, false⟩ (tbOf P bs gl false false cs) f36 (top 28) g36 _ := ⟨F36, F36.binds (ps := ["p", "flows", "key"]) (fun _ _ _ _ _ _ us hl => match us, hl with | [_, _, _], _ => rfl), s36, m36⟩
  have D37 : DefAt ⟨l.prog, w, K, mg, base, false⟩ (tbOf P bs gl false false cs) f37 (top 29) g37 _ := ⟨F37, F37.binds (ps := ["p"]) (fun _ _ _ _ _ _ us hl => match us, hl with | [_], _ => rfl), s37, m37⟩
  refine ⟨fun f d hd hf => ?_, fun x hx => ?_, fun j x d hj => ?_, fun hgq => (nomatch hgq), fun cd hcd => ?_⟩
  · match f, hd with
    | 0, hd => exact Option.some.inj hd ▸ ⟨_, _, _, D0, PySem.W.mg_of X G a0⟩
    | 1, hd => exact Option.some.inj hd ▸ ⟨_, _, _, D1, PySem.W.mg_of X G a1⟩
    | 2, hd => exact Option.some.inj hd ▸ ⟨_, _, _, D2, PySem.W.mg_of X G a2⟩
    | 3, hd => exact Option.some.inj hd ▸ ⟨_, _, _, D3, PySem.W.mg_of X G a3⟩
    | 4, hd => exact (by cases hd; cases hf)
    | 5, hd => exact (by cases hd; cases hf)
    | 6, hd => exact (by cases hd; cases hf)
    | 7, hd => exact (by cases hd; cases hf)
    | 8, hd => exact (by cases hd; cases hf)
    | 9, hd => exact (by cases hd; cases hf)
    | 10, hd => exact (by cases hd; cases hf)
    | 11, hd => exact (by cases hd; cases hf)
    | 12, hd => exact (by cases hd; cases hf)
    | 13, hd => exact (by cases hd; cases hf)
    | 14, hd => exact (by cases hd; cases hf)
    | 15, hd => exact (by cases hd; cases hf)
    | 16, hd => exact (by cases hd; cases hf)
    | 17, hd => exact Option.some.inj hd ▸ ⟨_, _, _, D17, PySem.W.mg_of X G a17⟩
    | 18, hd => exact Option.some.inj hd ▸ ⟨_, _, _, D18, PySem.W.mg_of X G a18⟩
    | 19, hd => exact Option.some.inj hd ▸ ⟨_, _, _, D19, PySem.W.mg_of X G a19⟩
    | 20, hd => exact Option.some.inj hd ▸ ⟨_, _, _, D20, PySem.W.mg_of X G a20⟩
    | 21, hd => exact Option.some.inj hd ▸ ⟨_, _, _, D21, PySem.W.mg_of X G a21⟩
    | 22, hd => exact Option.some.inj hd ▸ ⟨_, _, _, D22, PySem.W.mg_of X G a22⟩
    | 23, hd => exact Option.some.inj hd ▸ ⟨_, _, _, D23, PySem.W.mg_of X G a23⟩
    | 24, hd => exact Option.some.inj hd ▸ ⟨_, _, _, D24, PySem.W.mg_of X G a24⟩
    | 25, hd => exact Option.some.inj hd ▸ ⟨_, _, _, D25, PySem.W.mg_of X G a25⟩
    | 26, hd => exact Option.some.inj hd ▸ ⟨_, _, _, D26, PySem.W.mg_of X G a26⟩
    | 27, hd => exact Option.some.inj hd ▸ ⟨_, _, _, D27, PySem.W.mg_of X G a27⟩
    | 28, hd => exact Option.some.inj hd ▸ ⟨_, _, _, D28, PySem.W.mg_of X G a28⟩
    | 29, hd => exact Option.some.inj hd ▸ ⟨_, _, _, D29, PySem.W.mg_of X G a29⟩
    | 30, hd => exact Option.some.inj hd ▸ ⟨_, _, _, D30, PySem.W.mg_of X G a30⟩
    | 31, hd => exact Option.some.inj hd ▸ ⟨_, _, _, D31, PySem.W.mg_of X G a31⟩
    | 32, hd => exact Option.some.inj hd ▸ ⟨_, _, _, D32, PySem.W.mg_of X G a32⟩
    | 33, hd => exact Option.some.inj hd ▸ ⟨_, _, _, D33, PySem.W.mg_of X G a33⟩
    | 34, hd => exact Option.some.inj hd ▸ ⟨_, _, _, D34, PySem.W.mg_of X G a34⟩
    | 35, hd => exact Option.some.inj hd ▸ ⟨_, _, _, D35, PySem.W.mg_of X G a35⟩
    | 36, hd => exact Option.some.inj hd ▸ ⟨_, _, _, D36, PySem.W.mg_of X G a36⟩
    | 37, hd => exact Option.some.inj hd ▸ ⟨_, _, _, D37, PySem.W.mg_of X G a37⟩
    | f + 38, hd => cases hd
  · have hx : x ∈ bs := hx
    simp only [bs, List.mem_cons, List.not_mem_nil, or_false] at hx
    rcases hx with rfl | rfl | rfl | rfl | rfl | rfl | rfl | rfl | rfl | rfl | rfl | rfl
    · exact PySem.W.mg_none_of X G z0
    · exact PySem.W.mg_none_of X G z1
    · exact PySem.W.mg_none_of X G z2
    · exact PySem.W.mg_none_of X G z3
    · exact PySem.W.mg_none_of X G z4
    · exact PySem.W.mg_none_of X G z5
    · exact PySem.W.mg_none_of X G z6
    · exact PySem.W.mg_none_of X G z7
    · exact PySem.W.mg_none_of X G z8
    · exact PySem.W.mg_none_of X G z9
    · exact PySem.W.mg_none_of X G z10
    · exact PySem.W.mg_none_of X G z11
  · match j, hj with
    | 0, hj => exact (by cases hj; exact ⟨_, _, PySem.W.mg_of X G y0, r0, d0⟩)
    | j + 1, hj => cases hj
  · have hcd : cd ∈ cs := hcd
    simp only [cs, List.mem_cons, List.not_mem_nil, or_false] at hcd
    subst hcd
    · refine ⟨C0, aC0, PySem.W.mg_of X G aC0, ⟨pg0, hd0, po0, sa0⟩, fun f hf => ?_, fun p hp => ?_, fun p hp => ?_⟩
      · simp only [List.mem_cons, List.not_mem_nil, or_false] at hf
        rcases hf with rfl | rfl | rfl | rfl
        · exact nf0_0
        · exact nf0_1
        · exact nf0_2
        · exact nf0_3
      · simp only [List.mem_cons, List.not_mem_nil, or_false] at hp
        rcases hp with rfl | rfl | rfl | rfl | rfl | rfl | rfl | rfl | rfl | rfl | rfl | rfl
        · exact ⟨f5, _, _, _, rfl, D5, ⟨a5, i5, k5⟩, rfl⟩
        · exact ⟨f6, _, _, _, rfl, D6, ⟨a6, i6, k6⟩, rfl⟩
        · exact ⟨f7, _, _, _, rfl, D7, ⟨a7, i7, k7⟩, rfl⟩
        · exact ⟨f8, _, _, _, rfl, D8, ⟨a8, i8, k8⟩, rfl⟩
        · exact ⟨f9, _, _, _, rfl, D9, ⟨a9, i9, k9⟩, rfl⟩
        · exact ⟨f10, _, _, _, rfl, D10, ⟨a10, i10, k10⟩, rfl⟩
        · exact ⟨f11, _, _, _, rfl, D11, ⟨a11, i11, k11⟩, rfl⟩
        · exact ⟨f12, _, _, _, rfl, D12, ⟨a12, i12, k12⟩, rfl⟩
        · exact ⟨f13, _, _, _, rfl, D13, ⟨a13, i13, k13⟩, rfl⟩
        · exact ⟨f14, _, _, _, rfl, D14, ⟨a14, i14, k14⟩, rfl⟩
        · exact ⟨f15, _, _, _, rfl, D15, ⟨a15, i15, k15⟩, rfl⟩
        · exact ⟨f16, _, _, _, rfl, D16, ⟨a16, i16, k16⟩, rfl⟩
      · cases hp
        exact ⟨f4, _, _, _, rfl, D4, ⟨mk0, a4, i4, kC0⟩, rfl⟩
end PvK

namespace PvK
open PySem PySem.Spec PyProof.Rows L2 Pv
end PvK
open PySem PySem.W PyProof.Rows
set_option maxHeartbeats 0 in
theorem PySem.Challenge.cw_spentwithin_k76_leans_of_one_procedure_holds : PySem.Challenge.rw_spentwithin_k76_leans_of_one_procedure.Holds := by
  w_on; o_law; k_head; (case hw => w_witness2)
  k_fill
  refine Pv.walk_ofG (l := PySem.Challenge.rw_spentwithin_k76_leans_of_one_procedure) (n := 63) (k := 2 * 60) (x := "script") (CX := fun _ => L2.CX0) (sp := fun w => Pv.spLaw _) rfl (by decide) rfl ⟨rfl, by decide, by decide⟩ (fun w h Y => PySem.W.kIn_of Y) ?F (fun _ _ a ns hl _ hS => ⟨a, ns, rfl, hS, hl, fun _ => rfl⟩) (fun _ _ _ _ _ h => h)
  case F =>
    intro w mg fa h KX G hmg
    refine' PvK.all_mk KX G hmg ?a0 ?l0 ?c0 ?k0 ?a1 ?l1 ?c1 ?k1 ?a2 ?l2 ?c2 ?k2 ?a3 ?l3 ?c3 ?k3 ?a4 ?i4 ?l4 ?c4 ?k4 ?a5 ?i5 ?l5 ?c5 ?k5 ?a6 ?i6 ?l6 ?c6 ?k6 ?a7 ?i7 ?l7 ?c7 ?k7 ?a8 ?i8 ?l8 ?c8 ?k8 ?a9 ?i9 ?l9 ?c9 ?k9 ?a10 ?i10 ?l10 ?c10 ?k10 ?a11 ?i11 ?l11 ?c11 ?k11 ?a12 ?i12 ?l12 ?c12 ?k12 ?a13 ?i13 ?l13 ?c13 ?k13 ?a14 ?i14 ?l14 ?c14 ?k14 ?a15 ?i15 ?l15 ?c15 ?k15 ?a16 ?i16 ?l16 ?c16 ?k16 ?a17 ?l17 ?c17 ?k17 ?a18 ?l18 ?c18 ?k18 ?a19 ?l19 ?c19 ?k19 ?a20 ?l20 ?c20 ?k20 ?a21 ?l21 ?c21 ?k21 ?a22 ?l22 ?c22 ?k22 ?a23 ?l23 ?c23 ?k23 ?a24 ?l24 ?c24 ?k24 ?a25 ?l25 ?c25 ?k25 ?a26 ?l26 ?c26 ?k26 ?a27 ?l27 ?c27 ?k27 ?a28 ?l28 ?c28 ?k28 ?a29 ?l29 ?c29 ?k29 ?a30 ?l30 ?c30 ?k30 ?a31 ?l31 ?c31 ?k31 ?a32 ?l32 ?c32 ?k32 ?a33 ?l33 ?c33 ?k33 ?a34 ?l34 ?c34 ?k34 ?a35 ?l35 ?c35 ?k35 ?a36 ?l36 ?c36 ?k36 ?a37 ?l37 ?c37 ?k37 ?a38 ?l38 ?c38 ?k38 ?aC0 ?pg0 ?hd0 ?po0 ?sa0 ?mk0 ?kC0 ?nf0_0 ?nf0_1 ?nf0_2 ?nf0_3 ?z0 ?z1 ?z2 ?z3 ?z4 ?z5 ?z6 ?z7 ?z8 ?z9 ?z10 ?z11 ?y0 ?r0 ?d0 PvK.law_true
    (case aC0 => k_is)
    (case a0 => k_is)
    (case l0 => k_is)
    (case c0 => k_is)
    (case k0 => k_is)
    (case a1 => k_is)
    (case l1 => k_is)
    (case c1 => k_is)
    (case k1 => k_is)
    (case a2 => k_is)
    (case l2 => k_is)
    (case c2 => k_is)
    (case k2 => k_is)
    (case a3 => k_is)
    (case l3 => k_is)
    (case c3 => k_is)
    (case k3 => k_is)
    (case a4 => k_is)
    (case i4 => k_is)
    (case l4 => k_is)
    (case c4 => k_is)
    (case k4 => k_is)
    (case a5 => k_is)
    (case i5 => k_is)
    (case l5 => k_is)
    (case c5 => k_is)
    (case k5 => k_is)
    (case a6 => k_is)
    (case i6 => k_is)
    (case l6 => k_is)
    (case c6 => k_is)
    (case k6 => k_is)
    (case a7 => k_is)
    (case i7 => k_is)
    (case l7 => k_is)
    (case c7 => k_is)
    (case k7 => k_is)
    (case a8 => k_is)
    (case i8 => k_is)
    (case l8 => k_is)
    (case c8 => k_is)
    (case k8 => k_is)
    (case a9 => k_is)
    (case i9 => k_is)
    (case l9 => k_is)
    (case c9 => k_is)
    (case k9 => k_is)
    (case a10 => k_is)
    (case i10 => k_is)
    (case l10 => k_is)
    (case c10 => k_is)
    (case k10 => k_is)
    (case a11 => k_is)
    (case i11 => k_is)
    (case l11 => k_is)
    (case c11 => k_is)
    (case k11 => k_is)
    (case a12 => k_is)
    (case i12 => k_is)
    (case l12 => k_is)
    (case c12 => k_is)
    (case k12 => k_is)
    (case a13 => k_is)
    (case i13 => k_is)
    (case l13 => k_is)
    (case c13 => k_is)
    (case k13 => k_is)
    (case a14 => k_is)
    (case i14 => k_is)
    (case l14 => k_is)
    (case c14 => k_is)
    (case k14 => k_is)
    (case a15 => k_is)
    (case i15 => k_is)
    (case l15 => k_is)
    (case c15 => k_is)
    (case k15 => k_is)
    (case a16 => k_is)
    (case i16 => k_is)
    (case l16 => k_is)
    (case c16 => k_is)
    (case k16 => k_is)
    (case a17 => k_is)
    (case l17 => k_is)
    (case c17 => k_is)
    (case k17 => k_is)
    (case a18 => k_is)
    (case l18 => k_is)
    (case c18 => k_is)
    (case k18 => k_is)
    (case a19 => k_is)
    (case l19 => k_is)
    (case c19 => k_is)
    (case k19 => k_is)
    (case a20 => k_is)
    (case l20 => k_is)
    (case c20 => k_is)
    (case k20 => k_is)
    (case a21 => k_is)
    (case l21 => k_is)
    (case c21 => k_is)
    (case k21 => k_is)
    (case a22 => k_is)
    (case l22 => k_is)
    (case c22 => k_is)
    (case k22 => k_is)
    (case a23 => k_is)
    (case l23 => k_is)
    (case c23 => k_is)
    (case k23 => k_is)
    (case a24 => k_is)
    (case l24 => k_is)
    (case c24 => k_is)
    (case k24 => k_is)
    (case a25 => k_is)
    (case l25 => k_is)
    (case c25 => k_is)
    (case k25 => k_is)
    (case a26 => k_is)
    (case l26 => k_is)
    (case c26 => k_is)
    (case k26 => k_is)
    (case a27 => k_is)
    (case l27 => k_is)
    (case c27 => k_is)
    (case k27 => k_is)
    (case a28 => k_is)
    (case l28 => k_is)
    (case c28 => k_is)
    (case k28 => k_is)
    (case a29 => k_is)
    (case l29 => k_is)
    (case c29 => k_is)
    (case k29 => k_is)
    (case a30 => k_is)
    (case l30 => k_is)
    (case c30 => k_is)
    (case k30 => k_is)
    (case a31 => k_is)
    (case l31 => k_is)
    (case c31 => k_is)
    (case k31 => k_is)
    (case a32 => k_is)
    (case l32 => k_is)
    (case c32 => k_is)
    (case k32 => k_is)
    (case a33 => k_is)
    (case l33 => k_is)
    (case c33 => k_is)
    (case k33 => k_is)
    (case a34 => k_is)
    (case l34 => k_is)
    (case c34 => k_is)
    (case k34 => k_is)
    (case a35 => k_is)
    (case l35 => k_is)
    (case c35 => k_is)
    (case k35 => k_is)
    (case a36 => k_is)
    (case l36 => k_is)
    (case c36 => k_is)
    (case k36 => k_is)
    (case a37 => k_is)
    (case l37 => k_is)
    (case c37 => k_is)
    (case k37 => k_is)
    (case a38 => k_is)
    (case l38 => k_is)
    (case c38 => k_is)
    (case k38 => k_is)
    (case pg0 => k_is)
    (case hd0 => k_is)
    (case po0 => k_is)
    (case sa0 => k_is)
    (case mk0 => k_is)
    (case kC0 => k_is)
    (case nf0_0 => k_is)
    (case nf0_1 => k_is)
    (case nf0_2 => k_is)
    (case nf0_3 => k_is)
    (case z0 => k_is)
    (case z1 => k_is)
    (case z2 => k_is)
    (case z3 => k_is)
    (case z4 => k_is)
    (case z5 => k_is)
    (case z6 => k_is)
    (case z7 => k_is)
    (case z8 => k_is)
    (case z9 => k_is)
    (case z10 => k_is)
    (case z11 => k_is)
    (case y0 => k_is)
    (case r0 => exact Pv.rel_str)
    (case d0 => exact fun F => .str _)

#print axioms PySem.Challenge.cw_spentwithin_k76_leans_of_one_procedure_holds
