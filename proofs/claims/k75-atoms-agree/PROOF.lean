import PyProof.Rows.All
import Wide.All
import OpenK.AllK
import Wide.FinOn
import HandS.ForMost
import HandS.TupAny
import HandS.Deep
import HandS.Wide
import HandS.IsInst
import HandS.Walk
import HandS.More
import HandS.Zip
import HandS.Rev
import HandS.WordsDict
import HandS.DictComp
import HandS.Flow
import KE.GoesZip
import KE.GoesMore
import KE.GoesEnum
import HandS.RevTup
import HandS.Strs
import PySem.Challenge.RW_spentwithin_k75_atoms_of_and_agree
set_option Elab.async false
set_option linter.all false
set_option maxRecDepth 100000
set_option autoImplicit false
/-! P0: frozen data, cells, the world relation -/
namespace Pv
open PySem PySem.Spec PyProof.Rows L2

abbrev Dt := PyData
def kD : Key → Dt
  | .inl i => .int i
  | .inr x => .str x

/-! ### what may be read stays -/
def Rle (F F' : Hp) : Prop := ∀ a u, Rd F a u → Rd F' a u
theorem Rle.refl {F : Hp} : Rle F F := fun _ _ h => h
theorem Rle.trans {F F1 F2 : Hp} (h : Rle F F1) (h' : Rle F1 F2) : Rle F F2 := fun a u r => h' a u (h a u r)
theorem Rle.upd {F : Hp} {p : Addr} {o : HO} (h : F p = none) : Rle F (upd F p o) := fun a u r => by
  have ne : a ≠ p := by
    rintro rfl
    rcases r with r | ⟨_, r⟩ <;> (rw [h] at r; cases r)
  rcases r with r | ⟨ob, r⟩
  · exact .inl (by rw [upd_ne ne]; exact r)
  · exact .inr ⟨ob, by rw [upd_ne ne]; exact r⟩
theorem Rle.sqL {K : PySem.W.Frag} {F F' : Hp} (h : Rle F F') {a : Addr} {xs : List V} (q : SqL K F a xs) : SqL K F' a xs := by
  rcases q with q | q
  · exact .inl (h _ _ q)
  · exact .inr q
theorem Rle.sqT {K : PySem.W.Frag} {F F' : Hp} (h : Rle F F') {a : Addr} {xs : List V} (q : SqT K F a xs) : SqT K F' a xs := by
  rcases q with q | q
  · exact .inl (h _ _ q)
  · exact .inr q
theorem Rle.same {F H : Hp} (h : ∀ a o, F a = some o → H a = some o) : Rle F H := fun a u r => by
  rcases r with r | ⟨ob, r⟩
  · exact .inl (h _ _ r)
  · exact .inr ⟨ob, h _ _ r⟩

/-! ### a value denotes data -/
mutual
inductive Den (K : PySem.W.Frag) (F : Hp) : V → Dt → Prop
  | non : Den K F .non .none
  | bl (b : Bool) : Den K F (.bl b) (.bool b)
  | int (i : Int) : Den K F (.int i) (.int i)
  | str (x : Str) : Den K F (.str x) (.str x)
  | lst {a : Addr} {xs : List V} {ds : List Dt} : SqL K F a xs → ds.length ≤ sizeLine → DenAll K F xs ds → Den K F (.ref a) (.list ds)
  | tup {a : Addr} {xs : List V} {ds : List Dt} : SqT K F a xs → ds.length ≤ sizeLine → DenAll K F xs ds → Den K F (.ref a) (.tuple ds)
  | dct {a : Addr} {kvs : List (Key × V)} {ds : List (Dt × Dt)} : Rd F a (.dK kvs) → ds.length ≤ sizeLine → DenKV K F kvs ds → Den K F (.ref a) (.dict ds)
inductive DenAll (K : PySem.W.Frag) (F : Hp) : List V → List Dt → Prop
  | nil : DenAll K F [] []
  | cons {v : V} {vs : List V} {d : Dt} {ds : List Dt} : Den K F v d → DenAll K F vs ds → DenAll K F (v :: vs) (d :: ds)
inductive DenKV (K : PySem.W.Frag) (F : Hp) : List (Key × V) → List (Dt × Dt) → Prop
  | nil : DenKV K F [] []
  | cons {k : Key} {v : V} {vs : List (Key × V)} {d : Dt} {ds : List (Dt × Dt)} : Den K F v d → DenKV K F vs ds → DenKV K F ((k, v) :: vs) ((kD k, d) :: ds)
end
section
variable {K : PySem.W.Frag} {F F' : Hp}
mutual
theorem Den.mono (h : Rle F F') : ∀ {v : V} {d : Dt}, Den K F v d → Den K F' v d
  | _, _, .non => .non
  | _, _, .bl b => .bl b
  | _, _, .int i => .int i
  | _, _, .str x => .str x
  | _, _, .lst q z r => .lst (h.sqL q) z (DenAll.mono h r)
  | _, _, .tup q z r => .tup (h.sqT q) z (DenAll.mono h r)
  | _, _, .dct q z r => .dct (h _ _ q) z (DenKV.mono h r)
theorem DenAll.mono (h : Rle F F') : ∀ {vs : List V} {ds : List Dt}, DenAll K F vs ds → DenAll K F' vs ds
  | _, _, .nil => .nil
  | _, _, .cons a b => .cons (Den.mono h a) (DenAll.mono h b)
theorem DenKV.mono (h : Rle F F') : ∀ {vs : List (Key × V)} {ds : List (Dt × Dt)}, DenKV K F vs ds → DenKV K F' vs ds
  | _, _, .nil => .nil
  | _, _, .cons a b => .cons (Den.mono h a) (DenKV.mono h b)
end
theorem DenAll.length : ∀ {vs : List V} {ds : List Dt}, DenAll K F vs ds → vs.length = ds.length
  | _, _, .nil => rfl
  | _, _, .cons _ b => by rw [List.length_cons, List.length_cons, DenAll.length b]
theorem DenAll.get : ∀ {vs : List V} {ds : List Dt} {i : Nat} {d : Dt}, DenAll K F vs ds → ds[i]? = some d → ∃ v, vs[i]? = some v ∧ Den K F v d
  | _, _, _, _, .nil, e => by simp at e
  | _, _, 0, _, .cons a _, e => by simp at e; subst e; exact ⟨_, rfl, a⟩
  | _, _, i + 1, _, .cons _ b, e => by
    obtain ⟨v, h1, h2⟩ := DenAll.get (i := i) b (by simpa using e)
    exact ⟨v, by simpa using h1, h2⟩
theorem DenAll.append : ∀ {xs ys : List V} {ds es : List Dt}, DenAll K F xs ds → DenAll K F ys es → DenAll K F (xs ++ ys) (ds ++ es)
  | _, _, _, _, .nil, s => s
  | _, _, _, _, .cons r t, s => .cons r (DenAll.append t s)
theorem DenAll.take : ∀ {xs : List V} {ds : List Dt} (n : Nat), DenAll K F xs ds → DenAll K F (xs.take n) (ds.take n)
  | _, _, 0, _ => .nil
  | _, _, _ + 1, .nil => .nil
  | _, _, n + 1, .cons r t => .cons r (DenAll.take n t)
theorem DenAll.drop : ∀ {xs : List V} {ds : List Dt} (n : Nat), DenAll K F xs ds → DenAll K F (xs.drop n) (ds.drop n)
  | _, _, 0, r => r
  | _, _, _ + 1, .nil => .nil
  | _, _, n + 1, .cons _ t => DenAll.drop n t
end

/-! ### values of the evaluator: data, or a cell (an object that may change) -/
inductive Val where
  | d (x : Dt) | ref (n : Nat)
inductive Ob where
  | lst (vs : List Val) | dct (kvs : List (Key × Val)) | dead
/-- ρ: where the cells stand -/
def DenV (K : PySem.W.Frag) (F : Hp) (ρ : List Addr) : V → Val → Prop
  | u, .d x => Den K F u x
  | u, .ref n => ∃ a, ρ[n]? = some a ∧ u = .ref a
abbrev DenVs (K : PySem.W.Frag) (F : Hp) (ρ : List Addr) : List V → List Val → Prop := Paired (DenV K F ρ)
abbrev DenVK (K : PySem.W.Frag) (F : Hp) (ρ : List Addr) : List (Key × V) → List (Key × Val) → Prop := Paired fun p q => p.1 = q.1 ∧ DenV K F ρ p.2 q.2
section
variable {K : PySem.W.Frag} {F F' : Hp} {ρ ρ' : List Addr}
theorem DenV.mono (h : Rle F F') (hp : ρ <+: ρ') {u : V} {v : Val} (q : DenV K F ρ u v) : DenV K F' ρ' u v := by
  cases v with
  | d x => exact Den.mono h q
  | ref n =>
    obtain ⟨a, e, r⟩ := q
    obtain ⟨t, rfl⟩ := hp
    refine ⟨a, ?_, r⟩
    rw [List.getElem?_append_left (List.getElem?_eq_some_iff.mp e).1]
    exact e
theorem DenVs.mono (h : Rle F F') (hp : ρ <+: ρ') {us : List V} {vs : List Val} (q : DenVs K F ρ us vs) : DenVs K F' ρ' us vs := Paired.mapP q fun _ _ r => r.mono h hp
theorem DenVK.mono (h : Rle F F') (hp : ρ <+: ρ') {us : List (Key × V)} {vs : List (Key × Val)} (q : DenVK K F ρ us vs) : DenVK K F' ρ' us vs := Paired.mapP q fun _ _ r => ⟨r.1, r.2.mono h hp⟩
theorem DenVs.of_all : ∀ {vs : List V} {ds : List Dt}, DenAll K F vs ds → DenVs K F ρ vs (ds.map Val.d)
  | _, _, .nil => .nil
  | _, _, .cons a b => .cons a (DenVs.of_all b)
/-- all of them data -/
def asD : Val → Option Dt
  | .d x => some x
  | .ref _ => none
def asDs : List Val → Option (List Dt)
  | [] => some []
  | v :: vs => match asD v, asDs vs with
    | some x, some xs => some (x :: xs)
    | _, _ => none
theorem asDs_map : ∀ ds : List Dt, asDs (ds.map Val.d) = some ds
  | [] => rfl
  | d :: ds => by simp only [List.map_cons, asDs, asD, asDs_map ds]
theorem asDs_eq : ∀ {vs : List Val} {ds : List Dt}, asDs vs = some ds → vs = ds.map Val.d
  | [], ds, h => by cases h; rfl
  | v :: vs, ds, h => by
    unfold asDs at h
    cases v with
    | ref n => simp [asD] at h
    | d x =>
      cases e : asDs vs with
      | none => rw [e] at h; simp [asD] at h
      | some xs =>
        rw [e] at h
        simp only [asD, Option.some.injEq] at h
        subst h
        rw [asDs_eq e]; rfl
theorem DenVs.all : ∀ {us : List V} {ds : List Dt}, DenVs K F ρ us (ds.map Val.d) → DenAll K F us ds
  | [], [], _ => .nil
  | _ :: _, _ :: _, .cons a b => .cons a (DenVs.all b)
theorem DenVs.length : ∀ {us : List V} {vs : List Val}, DenVs K F ρ us vs → us.length = vs.length
  | _, _, .nil => rfl
  | _, _, .cons _ b => by rw [List.length_cons, List.length_cons, DenVs.length b]
theorem DenVs.get : ∀ {us : List V} {vs : List Val} {i : Nat} {v : Val}, DenVs K F ρ us vs → vs[i]? = some v → ∃ u, us[i]? = some u ∧ DenV K F ρ u v
  | _, _, _, _, .nil, e => by simp at e
  | _, _, 0, _, .cons a _, e => by simp at e; subst e; exact ⟨_, rfl, a⟩
  | _, _, i + 1, _, .cons _ b, e => by
    obtain ⟨v, h1, h2⟩ := DenVs.get (i := i) b (by simpa using e)
    exact ⟨v, by simpa using h1, h2⟩
theorem DenVs.getU : ∀ {us : List V} {vs : List Val} {i : Nat} {u : V}, DenVs K F ρ us vs → us[i]? = some u → ∃ v, vs[i]? = some v ∧ DenV K F ρ u v
  | _, _, _, _, .nil, e => by simp at e
  | _, _, 0, _, .cons a _, e => by simp at e; subst e; exact ⟨_, rfl, a⟩
  | _, _, i + 1, _, .cons _ b, e => by
    obtain ⟨v, h1, h2⟩ := DenVs.getU (i := i) b (by simpa using e)
    exact ⟨v, by simpa using h1, h2⟩
theorem DenVs.append : ∀ {xs ys : List V} {ds es : List Val}, DenVs K F ρ xs ds → DenVs K F ρ ys es → DenVs K F ρ (xs ++ ys) (ds ++ es)
  | _, _, _, _, .nil, s => s
  | _, _, _, _, .cons r t, s => .cons r (DenVs.append t s)
theorem DenVs.take : ∀ {xs : List V} {ds : List Val} (n : Nat), DenVs K F ρ xs ds → DenVs K F ρ (xs.take n) (ds.take n)
  | _, _, 0, _ => .nil
  | _, _, _ + 1, .nil => .nil
  | _, _, n + 1, .cons r t => .cons r (DenVs.take n t)
theorem DenVs.drop : ∀ {xs : List V} {ds : List Val} (n : Nat), DenVs K F ρ xs ds → DenVs K F ρ (xs.drop n) (ds.drop n)
  | _, _, 0, r => r
  | _, _, _ + 1, .nil => .nil
  | _, _, n + 1, .cons _ t => DenVs.drop n t
theorem DenVs.set {u : V} {v : Val} (r : DenV K F ρ u v) : ∀ {us : List V} {vs : List Val} (i : Nat), DenVs K F ρ us vs → DenVs K F ρ (us.set i u) (vs.set i v)
  | _, _, _, .nil => .nil
  | _, _, 0, .cons _ t => .cons r t
  | _, _, i + 1, .cons q t => .cons q (DenVs.set r i t)
theorem DenVs.dropLast {xs : List V} {ds : List Val} (h : DenVs K F ρ xs ds) : DenVs K F ρ xs.dropLast ds.dropLast := by
  rw [List.dropLast_eq_take, List.dropLast_eq_take, h.length]
  exact h.take _
end

/-! ### the world: the frozen part F, the cells at ρ, the heap H -/
def ObD (K : PySem.W.Frag) (F : Hp) (ρ : List Addr) (H : Hp) (a : Addr) : Ob → Prop
  | .lst vs => vs.length ≤ sizeLine ∧ ∃ xs, H a = some (.lst xs) ∧ DenVs K F ρ xs vs
  | .dct kvs => kvs.length ≤ sizeLine ∧ ∃ ks, H a = some (.dK ks) ∧ DenVK K F ρ ks kvs
  | .dead => H a ≠ none
def Ob.live : Ob → Bool
  | .dead => false
  | _ => true
structure Wd (K : PySem.W.Frag) (mh : List Ob) (F : Hp) (ρ : List Addr) (H : Hp) : Prop where
  same : ∀ a o, F a = some o → H a = some o
  len : ρ.length = mh.length
  nd : ρ.Nodup
  off : ∀ (n : Nat) (a : Addr) (o : Ob), ρ[n]? = some a → mh[n]? = some o → o.live = true → F a = none
  cell : ∀ (n : Nat) (a : Addr) (o : Ob), ρ[n]? = some a → mh[n]? = some o → ObD K F ρ H a o
/-- growth: what was readable is, cells stay, what is neither stays as it is -/
structure Gr (F : Hp) (ρ : List Addr) (H : Hp) (F' : Hp) (ρ' : List Addr) (H' : Hp) : Prop where
  rd : Rle F F'
  pre : ρ <+: ρ'
  fr : ∀ a o, H a = some o → F a = none → a ∉ ρ → H' a = some o ∧ F' a = none ∧ a ∉ ρ'
section
variable {K : PySem.W.Frag} {mh mh' : List Ob} {F F' F2 : Hp} {ρ ρ' ρ2 : List Addr} {H H' H2 : Hp}
theorem Gr.refl : Gr F ρ H F ρ H := ⟨.refl, List.prefix_refl _, fun _ _ h1 h2 h3 => ⟨h1, h2, h3⟩⟩
theorem Gr.trans (a : Gr F ρ H F' ρ' H') (b : Gr F' ρ' H' F2 ρ2 H2) : Gr F ρ H F2 ρ2 H2 :=
  ⟨a.rd.trans b.rd, a.pre.trans b.pre, fun x o h1 h2 h3 => let ⟨q1, q2, q3⟩ := a.fr x o h1 h2 h3; b.fr x o q1 q2 q3⟩
theorem ObD.there {a : Addr} {o : Ob} (h : ObD K F ρ H a o) : H a ≠ none := by
  cases o with
  | lst vs => obtain ⟨_, xs, e, _⟩ := h; rw [e]; exact fun z => nomatch z
  | dct vs => obtain ⟨_, xs, e, _⟩ := h; rw [e]; exact fun z => nomatch z
  | dead => exact h
theorem Wd.there (w : Wd K mh F ρ H) {a : Addr} (h : a ∈ ρ) : H a ≠ none := by
  obtain ⟨n, hn, e⟩ := List.mem_iff_getElem.mp h
  have h1 : ρ[n]? = some a := by rw [List.getElem?_eq_getElem hn, e]
  have h2 : n < mh.length := by rw [← w.len]; exact hn
  exact (w.cell n a _ h1 (List.getElem?_eq_getElem h2)).there
theorem Wd.freshF (w : Wd K mh F ρ H) {p : Addr} (hp : H p = none) : F p = none := by
  cases e : F p with
  | none => rfl
  | some o => rw [w.same _ _ e] at hp; cases hp
theorem Wd.freshρ (w : Wd K mh F ρ H) {p : Addr} (hp : H p = none) : p ∉ ρ := fun h => w.there h hp
theorem ObD.mono {a : Addr} {o : Ob} (h : ObD K F ρ H a o) (r : Rle F F') (p : ρ <+: ρ') (e : ∀ u, H a = some u → H' a = some u) : ObD K F' ρ' H' a o := by
  cases o with
  | lst vs => obtain ⟨z, xs, q, d⟩ := h; exact ⟨z, xs, e _ q, d.mono r p⟩
  | dct vs => obtain ⟨z, xs, q, d⟩ := h; exact ⟨z, xs, e _ q, d.mono r p⟩
  | dead =>
    have h' : H a ≠ none := h
    show H' a ≠ none
    cases q : H a with
    | none => exact absurd q h'
    | some u => rw [e u q]; exact fun z => nomatch z
/-- a new frozen object -/
theorem Wd.newF (w : Wd K mh F ρ H) {p : Addr} {o : HO} (hp : H p = none) : Wd K mh (upd F p o) ρ (upd H p o) ∧ Gr F ρ H (upd F p o) ρ (upd H p o) := by
  have hF := w.freshF hp
  have hρ := w.freshρ hp
  have ne : ∀ {a u}, H a = some u → a ≠ p := fun {a u} e => ne_of_none e hp
  refine ⟨⟨fun a u e => ?_, w.len, w.nd, fun n a ob e1 e2 l => ?_, fun n a ob e1 e2 => ?_⟩, ⟨Rle.upd hF, List.prefix_refl _, fun a u h1 h2 h3 => ⟨?_, ?_, h3⟩⟩⟩
  · by_cases h : a = p
    · subst h; rw [upd_same] at e ⊢; exact e
    · rw [upd_ne h] at e ⊢; exact w.same _ _ e
  · have : a ≠ p := fun z => hρ (z ▸ List.mem_of_getElem? e1)
    rw [upd_ne this]; exact w.off n a ob e1 e2 l
  · refine (w.cell n a ob e1 e2).mono (Rle.upd hF) (List.prefix_refl _) fun u q => ?_
    rw [upd_ne (ne q)]; exact q
  · rw [upd_ne (ne h1)]; exact h1
  · rw [upd_ne (ne h1)]; exact h2
/-- a new cell -/
theorem Wd.newC (w : Wd K mh F ρ H) {p : Addr} {u : HO} {o : Ob} (hp : H p = none) (ho : ObD K F (ρ ++ [p]) (upd H p u) p o) : Wd K (mh ++ [o]) F (ρ ++ [p]) (upd H p u) ∧ Gr F ρ H F (ρ ++ [p]) (upd H p u) := by
  have hF := w.freshF hp
  have hρ := w.freshρ hp
  have ne : ∀ {a u}, H a = some u → a ≠ p := fun {a u} e => ne_of_none e hp
  have pre : ρ <+: ρ ++ [p] := List.prefix_append _ _
  have ix : ∀ {n : Nat} {a : Addr} {ob : Ob}, (ρ ++ [p])[n]? = some a → (mh ++ [o])[n]? = some ob → (ρ[n]? = some a ∧ mh[n]? = some ob) ∨ (a = p ∧ ob = o) := by
    intro n a ob e1 e2
    by_cases h : n < ρ.length
    · have h2 : n < mh.length := by rw [← w.len]; exact h
      rw [List.getElem?_append_left h] at e1
      rw [List.getElem?_append_left h2] at e2
      exact .inl ⟨e1, e2⟩
    · have h1 : ρ.length ≤ n := by omega
      have h2 : mh.length ≤ n := by rw [← w.len]; exact h1
      rw [List.getElem?_append_right h1] at e1
      rw [List.getElem?_append_right h2] at e2
      have hz : n - ρ.length = 0 := by
        cases q : n - ρ.length with
        | zero => rfl
        | succ k => rw [q] at e1; simp at e1
      have hz2 : n - mh.length = 0 := by rw [← w.len]; exact hz
      rw [hz] at e1
      rw [hz2] at e2
      simp at e1 e2
      exact .inr ⟨e1.symm, e2.symm⟩
  refine ⟨⟨fun a u' e => ?_, by rw [List.length_append, List.length_append, w.len]; rfl, ?_, fun n a ob e1 e2 l => ?_, fun n a ob e1 e2 => ?_⟩, ⟨.refl, pre, fun a u' h1 h2 h3 => ⟨?_, h2, ?_⟩⟩⟩
  · have q := w.same _ _ e
    rw [upd_ne (ne q)]; exact q
  · refine List.nodup_append.mpr ⟨w.nd, by simp, fun a ha b hb => ?_⟩
    have : b = p := by simpa using hb
    subst this
    exact fun z => hρ (z ▸ ha)
  · rcases ix e1 e2 with ⟨q1, q2⟩ | ⟨rfl, rfl⟩
    · exact w.off n a ob q1 q2 l
    · exact hF
  · rcases ix e1 e2 with ⟨q1, q2⟩ | ⟨rfl, rfl⟩
    · refine (w.cell n a ob q1 q2).mono .refl pre fun u' q => ?_
      rw [upd_ne (ne q)]; exact q
    · exact ho
  · rw [upd_ne (ne h1)]; exact h1
  · intro z
    rcases List.mem_append.mp z with z | z
    · exact h3 z
    · have : a = p := by simpa using z
      exact ne h1 this
/-- a cell is written -/
theorem Wd.write (w : Wd K mh F ρ H) {n : Nat} {a : Addr} {u : HO} {o0 o : Ob} (e1 : ρ[n]? = some a) (e2 : mh[n]? = some o0) (l : o0.live = true) (ho : ObD K F ρ (upd H a u) a o) : Wd K (mh.set n o) F ρ (upd H a u) ∧ Gr F ρ H F ρ (upd H a u) := by
  have hF := w.off n a o0 e1 e2 l
  have inj : ∀ {m b}, ρ[m]? = some b → b = a → m = n := fun {m b} e z => by
    subst z
    obtain ⟨l1, q1⟩ := List.getElem?_eq_some_iff.mp e
    obtain ⟨l2, q2⟩ := List.getElem?_eq_some_iff.mp e1
    exact (List.getElem_inj w.nd).mp (q1.trans q2.symm)
  have hn : n < mh.length := (List.getElem?_eq_some_iff.mp e2).1
  refine ⟨⟨fun b u' e => ?_, by rw [List.length_set]; exact w.len, w.nd, fun m b ob q1 q2 l' => ?_, fun m b ob q1 q2 => ?_⟩, ⟨.refl, List.prefix_refl _, fun b u' h1 h2 h3 => ⟨?_, h2, h3⟩⟩⟩
  · have : b ≠ a := fun z => by rw [z, hF] at e; cases e
    rw [upd_ne this]; exact w.same _ _ e
  · by_cases h : m = n
    · subst h
      rw [e1] at q1; cases q1
      exact hF
    · rw [List.getElem?_set_ne (Ne.symm h)] at q2
      exact w.off m b ob q1 q2 l'
  · by_cases h : m = n
    · subst h
      rw [e1] at q1; cases q1
      rw [List.getElem?_set_self hn] at q2
      cases q2
      exact ho
    · rw [List.getElem?_set_ne (Ne.symm h)] at q2
      refine (w.cell m b ob q1 q2).mono .refl (List.prefix_refl _) fun u' q => ?_
      rw [upd_ne fun z => h (inj q1 z)]; exact q
  · rw [upd_ne (show b ≠ a from fun z => h3 (by rw [z]; exact List.mem_of_getElem? e1))]; exact h1
/-- a cell is frozen -/
theorem Wd.freeze (w : Wd K mh F ρ H) {n : Nat} {a : Addr} {u : HO} {o0 : Ob} (e1 : ρ[n]? = some a) (e2 : mh[n]? = some o0) (l : o0.live = true) (hu : H a = some u) : Wd K (mh.set n .dead) (upd F a u) ρ H ∧ Gr F ρ H (upd F a u) ρ H := by
  have hF := w.off n a o0 e1 e2 l
  have hn : n < mh.length := (List.getElem?_eq_some_iff.mp e2).1
  have inj : ∀ {m b}, ρ[m]? = some b → b = a → m = n := fun {m b} e z => by
    subst z
    obtain ⟨l1, q1⟩ := List.getElem?_eq_some_iff.mp e
    obtain ⟨l2, q2⟩ := List.getElem?_eq_some_iff.mp e1
    exact (List.getElem_inj w.nd).mp (q1.trans q2.symm)
  refine ⟨⟨fun b u' e => ?_, by rw [List.length_set]; exact w.len, w.nd, fun m b ob q1 q2 l' => ?_, fun m b ob q1 q2 => ?_⟩, ⟨Rle.upd hF, List.prefix_refl _, fun b u' h1 h2 h3 => ⟨h1, ?_, h3⟩⟩⟩
  · by_cases h : b = a
    · subst h; rw [upd_same] at e; cases e; exact hu
    · rw [upd_ne h] at e; exact w.same _ _ e
  · by_cases h : m = n
    · subst h
      rw [List.getElem?_set_self hn] at q2
      cases q2
      cases l'
    · rw [List.getElem?_set_ne (Ne.symm h)] at q2
      rw [upd_ne fun z => h (inj q1 z)]
      exact w.off m b ob q1 q2 l'
  · by_cases h : m = n
    · subst h
      rw [e1] at q1; cases q1
      rw [List.getElem?_set_self hn] at q2
      cases q2
      show H a ≠ none
      rw [hu]; exact fun z => nomatch z
    · rw [List.getElem?_set_ne (Ne.symm h)] at q2
      exact (w.cell m b ob q1 q2).mono (Rle.upd hF) (List.prefix_refl _) fun u' q => q
  · rw [upd_ne (show b ≠ a from fun z => h3 (by rw [z]; exact List.mem_of_getElem? e1))]; exact h2
/-- the newer cells are forgotten -/
theorem Wd.cut (w : Wd K mh F ρ' H) (n : Nat) (ok : ∀ m o, m < n → mh[m]? = some o → ∀ a, ρ'[m]? = some a → ObD K F (ρ'.take n) H a o) : Wd K (mh.take n) F (ρ'.take n) H := by
  refine ⟨w.same, by rw [List.length_take, List.length_take, w.len], w.nd.sublist (List.take_sublist _ _), fun m a o e1 e2 l => ?_, fun m a o e1 e2 => ?_⟩
  · have h : m < n := by
      have := (List.getElem?_eq_some_iff.mp e1).1
      rw [List.length_take] at this; omega
    rw [List.getElem?_take_of_lt h] at e1 e2
    exact w.off m a o e1 e2 l
  · have h : m < n := by
      have := (List.getElem?_eq_some_iff.mp e1).1
      rw [List.length_take] at this; omega
    rw [List.getElem?_take_of_lt h] at e1 e2
    exact ok m o h e2 a e1
end
end Pv

/-! P1: readers of values; operators -/
namespace Pv
open PySem PySem.Spec PyProof.Rows L2

/-! ### reading a value -/
def cellL (mh : List Ob) (n : Nat) : Option (List Val) := match mh[n]? with
  | some (.lst vs) => some vs
  | _ => none
def seqL (mh : List Ob) : Val → Option (List Val)
  | .d (.list xs) => some (xs.map Val.d)
  | .ref n => cellL mh n
  | _ => none
def seqT : Val → Option (List Val)
  | .d (.tuple xs) => some (xs.map Val.d)
  | _ => none
def seqA (mh : List Ob) (v : Val) : Option (List Val) := match v with
  | .d (.tuple xs) => some (xs.map Val.d)
  | v => seqL mh v
section
variable {K : PySem.W.Frag} {mh : List Ob} {F : Hp} {ρ : List Addr} {H : Hp} {u : V} {v : Val} {vs : List Val}
theorem Wd.rle (w : Wd K mh F ρ H) : Rle F H := Rle.same w.same
theorem cellL_ok (w : Wd K mh F ρ H) {n : Nat} {a : Addr} (e : ρ[n]? = some a) (h : cellL mh n = some vs) : mh[n]? = some (.lst vs) ∧ ∃ xs, H a = some (.lst xs) ∧ DenVs K F ρ xs vs ∧ vs.length ≤ sizeLine := by
  unfold cellL at h
  split at h
  · rename_i ws e2
    cases h
    obtain ⟨z, xs, q, d⟩ := w.cell n a _ e e2
    exact ⟨e2, xs, q, d, z⟩
  · cases h
theorem seqL_ok (w : Wd K mh F ρ H) (d : DenV K F ρ u v) (h : seqL mh v = some vs) : ∃ a xs, u = .ref a ∧ SqL K H a xs ∧ DenVs K F ρ xs vs ∧ vs.length ≤ sizeLine := by
  cases v with
  | d x =>
    cases x with
    | list ds =>
      cases d with
      | lst q z r =>
        cases h
        exact ⟨_, _, rfl, w.rle.sqL q, DenVs.of_all r, by rw [List.length_map]; exact z⟩
    | _ => cases h
  | ref n =>
    obtain ⟨a, e, rfl⟩ := d
    obtain ⟨_, xs, q, r, z⟩ := cellL_ok w e h
    exact ⟨a, xs, rfl, SqL.of q, r, z⟩
theorem seqT_ok (w : Wd K mh F ρ H) (d : DenV K F ρ u v) (h : seqT v = some vs) : ∃ a xs, u = .ref a ∧ SqT K H a xs ∧ DenVs K F ρ xs vs ∧ vs.length ≤ sizeLine := by
  cases v with
  | d x =>
    cases x with
    | tuple ds =>
      cases d with
      | tup q z r =>
        cases h
        exact ⟨_, _, rfl, w.rle.sqT q, DenVs.of_all r, by rw [List.length_map]; exact z⟩
    | _ => cases h
  | ref n => cases h
theorem seqA_ok (w : Wd K mh F ρ H) (d : DenV K F ρ u v) (h : seqA mh v = some vs) : ∃ a xs, u = .ref a ∧ (SqL K H a xs ∨ SqT K H a xs) ∧ DenVs K F ρ xs vs ∧ vs.length ≤ sizeLine := by
  unfold seqA at h
  split at h
  · obtain ⟨a, xs, e, q, r⟩ := seqT_ok (vs := vs) w d h
    exact ⟨a, xs, e, .inr q, r⟩
  · obtain ⟨a, xs, e, q, r⟩ := seqL_ok w d h
    exact ⟨a, xs, e, .inl q, r⟩
end

/-! ### results -/
inductive Rv where
  | v (x : Val) | nl (vs : List Val) | nd (kvs : List (Key × Val))
def PostR (K : PySem.W.Frag) (mh : List Ob) (F : Hp) (ρ : List Addr) (H : Hp) (Q : VK) : Rv → Prop
  | .v x => ∀ F' H' u, Wd K mh F' ρ H' → Gr F ρ H F' ρ H' → DenV K F' ρ u x → Q u H'
  | .nl vs => ∀ F' H' xs p, Wd K mh F' ρ H' → Gr F ρ H F' ρ H' → vs.length ≤ sizeLine → DenVs K F' ρ xs vs → H' p = none → Q (.ref p) (upd H' p (.lst xs))
  | .nd kvs => ∀ F' H' ks p, Wd K mh F' ρ H' → Gr F ρ H F' ρ H' → kvs.length ≤ sizeLine → DenVK K F' ρ ks kvs → H' p = none → Q (.ref p) (upd H' p (.dK ks))
section
variable {K : PySem.W.Frag} {mh : List Ob} {F : Hp} {ρ : List Addr} {H : Hp} {Q : VK}
theorem PostR.here {u : V} {x : Val} (h : PostR K mh F ρ H Q (.v x)) (w : Wd K mh F ρ H) (d : DenV K F ρ u x) : Q u H := h F H u w .refl d
theorem PostR.tup {xs : List V} {ds : List Dt} {p : Addr} (h : PostR K mh F ρ H Q (.v (.d (.tuple ds)))) (w : Wd K mh F ρ H) (hp : H p = none) (d : DenAll K F xs ds) (z : ds.length ≤ sizeLine) : Q (.ref p) (upd H p (.tup xs)) := by
  obtain ⟨w', g⟩ := w.newF (o := .tup xs) hp
  exact h _ _ _ w' g (Den.tup (.inl (.inl upd_same)) z (d.mono (Rle.upd (w.freshF hp))))
theorem PostR.list {vs : List Val} {xs : List V} {p : Addr} (h : PostR K mh F ρ H Q (.nl vs)) (w : Wd K mh F ρ H) (hp : H p = none) (d : DenVs K F ρ xs vs) (z : vs.length ≤ sizeLine) : Q (.ref p) (upd H p (.lst xs)) := h F H xs p w .refl z d hp
end

abbrev M := StateT (List Ob) Option
theorem M.bind_some {α β : Type} {x : M α} {f : α → M β} {s : List Ob} {r : β × List Ob} : (x >>= f) s = some r ↔ ∃ a s1, x s = some (a, s1) ∧ f a s1 = some r := by
  show (x s >>= fun p => f p.1 p.2) = some r ↔ _
  cases x s with
  | none => simp
  | some p =>
    obtain ⟨a, t⟩ := p
    constructor
    · intro h; exact ⟨a, t, rfl, h⟩
    · rintro ⟨b, u, e, h⟩
      cases e; exact h
theorem M.pure_some {α : Type} {a : α} {s : List Ob} {r : α × List Ob} : (pure a : M α) s = some r ↔ r = (a, s) := by
  show some (a, s) = some r ↔ _
  constructor
  · intro h; exact (Option.some.inj h).symm
  · rintro rfl; rfl
/-- a reader's value; none: stuck -/
def rdM {α : Type} (f : List Ob → Option α) : M α := fun mh => (f mh).map fun a => (a, mh)
def ofO {α : Type} (o : Option α) : M α := fun mh => o.map fun a => (a, mh)
theorem rdM_some {α : Type} {f : List Ob → Option α} {s : List Ob} {r : α × List Ob} : rdM f s = some r ↔ f s = some r.1 ∧ r.2 = s := by
  unfold rdM
  cases f s with
  | none => simp
  | some a =>
    obtain ⟨b, t⟩ := r
    simp [Prod.ext_iff, eq_comm]
theorem ofO_some {α : Type} {o : Option α} {s : List Ob} {r : α × List Ob} : ofO o s = some r ↔ o = some r.1 ∧ r.2 = s := by
  unfold ofO
  cases o with
  | none => simp
  | some a =>
    obtain ⟨b, t⟩ := r
    simp [Prod.ext_iff, eq_comm]
def alloc (o : Ob) : M Val := fun mh => some (.ref mh.length, mh ++ [o])
def asDKs : List (Key × Val) → Option (List (Dt × Dt))
  | [] => some []
  | kv :: r => match asD kv.2, asDKs r with
    | some x, some xs => some ((kD kv.1, x) :: xs)
    | _, _ => none
def finR (c : Bool) : Rv → M Val
  | .v x => if c then fun _ => none else pure x
  | .nl vs => if c then alloc (.lst vs) else ofO ((asDs vs).map fun ds => .d (.list ds))
  | .nd kvs => if c then alloc (.dct kvs) else ofO ((asDKs kvs).map fun ds => .d (.dict ds))
section
variable {K : PySem.W.Frag} {mh mh' : List Ob} {F : Hp} {ρ : List Addr} {H : Hp} {Q : VK} {v : Val} {rv : Rv} {c : Bool}
theorem DenVK.length {ks : List (Key × V)} {kvs : List (Key × Val)} (h : DenVK K F ρ ks kvs) : ks.length = kvs.length := Paired.length h
theorem DenVK.all : ∀ {ks : List (Key × V)} {kvs : List (Key × Val)} {ds : List (Dt × Dt)}, DenVK K F ρ ks kvs → asDKs kvs = some ds → DenKV K F ks ds ∧ ds.length = kvs.length
  | _, _, _, .nil, h => by cases h; exact ⟨.nil, rfl⟩
  | (k, x) :: _, (k', .ref n) :: r, _, .cons a b, h => by simp [asDKs, asD] at h
  | (k, x) :: _, (k', .d y) :: r, ds, .cons a b, h => by
    unfold asDKs at h
    simp only [asD] at h
    cases e : asDKs r with
    | none => rw [e] at h; cases h
    | some xs =>
      rw [e] at h
      cases h
      obtain ⟨h1, h2⟩ := DenVK.all b e
      obtain ⟨e1, e2⟩ := a
      cases (show k = k' from e1)
      exact ⟨.cons e2 h1, by rw [List.length_cons, List.length_cons, h2]⟩
/-- the last step of an expression that makes something -/
theorem finR_ok (h : finR c rv mh = some (v, mh')) (q : ∀ F' ρ' H' u, Wd K mh' F' ρ' H' → Gr F ρ H F' ρ' H' → DenV K F' ρ' u v → Q u H') : PostR K mh F ρ H Q rv := by
  cases rv with
  | v x =>
    unfold finR at h
    cases c with
    | true => cases h
    | false =>
      cases h
      exact fun F' H' u w g d => q F' ρ H' u w g d
  | nl vs =>
    unfold finR at h
    intro F' H' xs p w g z d hp
    cases c with
    | true =>
      cases h
      obtain ⟨w', g'⟩ := w.newC (u := .lst xs) (o := .lst vs) hp ⟨z, xs, upd_same, d.mono .refl (List.prefix_append _ _)⟩
      exact q _ _ _ _ w' (g.trans g') ⟨p, by rw [← w.len, List.getElem?_append_right (Nat.le_refl _), Nat.sub_self]; rfl, rfl⟩
    | false =>
      obtain ⟨h1, h2⟩ := ofO_some.mp h
      simp only at h1 h2
      subst h2
      cases e : asDs vs with
      | none => rw [e] at h1; cases h1
      | some ds =>
        rw [e] at h1
        cases h1
        have e2 := asDs_eq e
        subst e2
        obtain ⟨w', g'⟩ := w.newF (o := .lst xs) hp
        exact q _ _ _ _ w' (g.trans g') (Den.lst (.inl (.inl upd_same)) (by rw [List.length_map] at z; exact z) (d.all.mono (Rle.upd (w.freshF hp))))
  | nd kvs =>
    unfold finR at h
    intro F' H' ks p w g z d hp
    cases c with
    | true =>
      cases h
      obtain ⟨w', g'⟩ := w.newC (u := .dK ks) (o := .dct kvs) hp ⟨z, ks, upd_same, d.mono .refl (List.prefix_append _ _)⟩
      exact q _ _ _ _ w' (g.trans g') ⟨p, by rw [← w.len, List.getElem?_append_right (Nat.le_refl _), Nat.sub_self]; rfl, rfl⟩
    | false =>
      obtain ⟨h1, h2⟩ := ofO_some.mp h
      simp only at h1 h2
      subst h2
      cases e : asDKs kvs with
      | none => rw [e] at h1; cases h1
      | some ds =>
        rw [e] at h1
        cases h1
        obtain ⟨d1, d2⟩ := d.all e
        obtain ⟨w', g'⟩ := w.newF (o := .dK ks) hp
        exact q _ _ _ _ w' (g.trans g') (Den.dct (.inl upd_same) (by rw [d2]; exact z) (d1.mono (Rle.upd (w.freshF hp))))
end

/-! ### operators by values -/
section
variable (X : Cx)
def OpS (f : Value → Value → Sem Value) (m : List Ob → Val → Val → Option Rv) : Prop :=
  ∃ r, OpR X f r ∧ ∀ {mh : List Ob} {F : Hp} {ρ : List Addr} {H : Hp} {x y : V} {dx dy : Val} {rv : Rv} (Q : VK), Wd X.K mh F ρ H → DenV X.K F ρ x dx → DenV X.K F ρ y dy → m mh dx dy = some rv → PostR X.K mh F ρ H Q rv → r x y H Q
end
section
variable {X : Cx} {f : Value → Value → Sem Value} {m m' : List Ob → Val → Val → Option Rv}
theorem OpS.or (h : OpS X f m) (h' : OpS X f m') : OpS X f (fun mh x y => (m mh x y).orElse fun _ => m' mh x y) := by
  obtain ⟨r, o, k⟩ := h
  obtain ⟨r', o', k'⟩ := h'
  refine ⟨_, o.or o', fun Q w dx dy e q => ?_⟩
  rename_i mh F ρ H x y vx vy rv
  cases e1 : m mh vx vy with
  | none =>
    simp only [e1] at e
    exact .inr (k' Q w dx dy e q)
  | some z =>
    simp only [e1] at e
    cases e
    exact .inl (k Q w dx dy e1 q)
end

def i2 (g : Int → Int → Option Dt) : List Ob → Val → Val → Option Rv
  | _, .d (.int i), .d (.int j) => (g i j).map fun x => .v (.d x)
  | _, _, _ => none
def s2 (g : Str → Str → Option Dt) : List Ob → Val → Val → Option Rv
  | _, .d (.str i), .d (.str j) => (g i j).map fun x => .v (.d x)
  | _, _, _ => none
section
variable {X : Cx} {f : Value → Value → Sem Value} {K : PySem.W.Frag} {F : Hp} {ρ : List Addr}
theorem den_int {u : V} {i : Int} (h : DenV K F ρ u (.d (.int i))) : u = .int i := by cases h; rfl
theorem den_str {u : V} {i : Str} (h : DenV K F ρ u (.d (.str i))) : u = .str i := by cases h; rfl
theorem den_bl {u : V} {i : Bool} (h : DenV K F ρ u (.d (.bool i))) : u = .bl i := by cases h; rfl
theorem den_non {u : V} (h : DenV K F ρ u (.d .none)) : u = .non := by cases h; rfl
/-- of two ints: C what is asked, the rule's answer z i j is the data d i j -/
theorem ops_i2 {C : Int → Int → Prop} {z : Int → Int → V} {g : Int → Int → Option Dt} (o : OpR X f (rI C z)) (h : ∀ i j x, g i j = some x → C i j ∧ ∀ F ρ, DenV X.K F ρ (z i j) (.d x)) : OpS X f (i2 g) := by
  refine ⟨_, o, fun Q w dx dy e q => ?_⟩
  rename_i mh F ρ H x y vx vy rv
  unfold i2 at e
  split at e
  · rename_i i j
    cases e1 : g i j with
    | none => rw [e1] at e; cases e
    | some r =>
      rw [e1] at e; cases e
      obtain ⟨c, d⟩ := h i j r e1
      exact ⟨i, j, den_int dx, den_int dy, c, q.here w (d F ρ)⟩
  · cases e
theorem ops_i20 {z : Int → Int → V} {g : Int → Int → Option Dt} (o : OpR X f (rI0 z)) (h : ∀ i j x, g i j = some x → ∀ F ρ, DenV X.K F ρ (z i j) (.d x)) : OpS X f (i2 g) := by
  refine ⟨_, o, fun Q w dx dy e q => ?_⟩
  rename_i mh F ρ H x y vx vy rv
  unfold i2 at e
  split at e
  · rename_i i j
    cases e1 : g i j with
    | none => rw [e1] at e; cases e
    | some r =>
      rw [e1] at e; cases e
      exact ⟨i, j, den_int dx, den_int dy, q.here w (h i j r e1 F ρ)⟩
  · cases e

/-! #### + -/
theorem op_catL : OpR X (binaryOp .Add) (fun x y H Q => ∃ l b xs zs, x = .ref l ∧ y = .ref b ∧ SqL X.K H l xs ∧ SqL X.K H b zs ∧ xs.length + zs.length ≤ sizeLine ∧ ∀ p, H p = none → Q (.ref p) (upd H p (.lst (xs ++ zs)))) := by
  intro pins s σ H x y v u Q I rx ry h
  obtain ⟨l, b, xs, zs, rfl, rfl, hH, hB, hz, q⟩ := h
  cases rx
  cases ry
  obtain ⟨its, r, pl, hl⟩ := I.list hH
  obtain ⟨its2, r2, pl2, hl2⟩ := I.list hB
  obtain ⟨⟨cls, dd, data, sl⟩, ho, hc, n, hd⟩ := pl.isList
  obtain ⟨⟨cls2, dd2, data2, sl2⟩, ho2, hc2, n2, hd2⟩ := pl2.isList
  simp only at hc hd hc2 hd2
  subst hc hd hc2 hd2
  have e : its.toArray ++ its2.toArray = (its ++ its2).toArray := by simp
  refine concat_meets ⟨_, ho, rfl⟩ ⟨_, ho2, rfl⟩ noFill_list_add seq_list_add PySem.F.slot_list_add PySem.F.entry_list_add (PySem.F.args_list_add_2 _ _) (list_addW l b its.toArray its2.toArray n n2 dd dd2 sl sl2 (by rw [List.size_toArray, List.size_toArray, ← r.length, ← r2.length]; exact hz)) ⟨ho, ho2, ?_⟩
  rw [e]
  exact ⟨.ref _, _, I.lnew (t' := s.toks) (r.append r2) (by rw [List.length_append]; exact hz), rfl, q _ I.fresh⟩
end
end Pv

/-! P2: operators, comparisons by values -/
namespace Pv
open PySem PySem.Spec PyProof.Rows L2

section
variable {X : Cx}
/-! ### arithmetic -/
def addV (mh : List Ob) (a b : Val) : Option Rv := match a, b with
  | .d (.int i), .d (.int j) => some (.v (.d (.int (i + j))))
  | .d (.str x), .d (.str y) => if x.length + y.length ≤ sizeLine then some (.v (.d (.str (x ++ y)))) else none
  | .d (.tuple xs), .d (.tuple ys) => if xs.length + ys.length ≤ sizeLine then some (.v (.d (.tuple (xs ++ ys)))) else none
  | a, b => match seqL mh a, seqL mh b with
    | some xs, some ys => if xs.length + ys.length ≤ sizeLine then some (.nl (xs ++ ys)) else none
    | _, _ => none
theorem ops_add : OpS X (binaryOp .Add) addV := by
  refine ⟨_, op_add.or (op_add_str.or (op_catA.or op_catL)), fun Q w dx dy e q => ?_⟩
  rename_i mh F ρ H x y vx vy rv
  unfold addV at e
  split at e
  · cases e
    exact .inl ⟨_, _, den_int dx, den_int dy, q.here w (Den.int _)⟩
  · split at e
    · cases e
      exact .inr (.inl ⟨_, _, den_str dx, den_str dy, ‹_›, q.here w (Den.str _)⟩)
    · cases e
  · rename_i xs ys
    split at e
    · rename_i hz
      cases e
      refine .inr (.inr (.inl ?_))
      cases dx with
      | tup q1 z1 r1 =>
        cases dy with
        | tup q2 z2 r2 =>
          refine ⟨_, _, _, _, rfl, rfl, w.rle.sqT q1, w.rle.sqT q2, by rw [r1.length, r2.length]; exact hz, fun z => ?_, fun z1' z => ?_, fun _ _ p hp => ?_⟩
          · subst z
            cases r1
            exact q.here w (Den.tup q2 z2 r2)
          · subst z
            cases r2
            rw [List.append_nil] at q
            exact q.here w (Den.tup q1 z1 r1)
          · exact q.tup w hp (r1.append r2) (by rw [List.length_append]; exact hz)
    · cases e
  · split at e
    · rename_i _ _ _ _ _ xs ys e1 e2
      split at e
      · rename_i hz
        cases e
        obtain ⟨a, us, rfl, q1, r1, z1⟩ := seqL_ok w dx e1
        obtain ⟨b, ws, rfl, q2, r2, z2⟩ := seqL_ok w dy e2
        exact .inr (.inr (.inr ⟨_, _, _, _, rfl, rfl, q1, q2, by rw [r1.length, r2.length]; exact hz, fun p hp => q.list w hp (r1.append r2) (by rw [List.length_append]; exact hz)⟩))
      · cases e
    · cases e
def subV : List Ob → Val → Val → Option Rv := i2 fun i j => some (.int (i - j))
theorem ops_sub : OpS X (binaryOp .Sub) subV := ops_i20 op_sub fun i j x e _ _ => by cases e; exact Den.int _
def MulOk (i j : Int) : Prop := i.natAbs < 2 ^ 64 ∨ j.natAbs < 2 ^ 64 ∨ (i.natAbs < 2 ^ 9000 ∧ j.natAbs < 2 ^ 9000)
instance (i j : Int) : Decidable (MulOk i j) := by unfold MulOk; infer_instance
def mulV (mh : List Ob) (a b : Val) : Option Rv := match a, b with
  | .d (.int i), .d (.int j) => if MulOk i j then some (.v (.d (.int (i * j)))) else none
  | _, _ => none
theorem MulOk.c {i j : Int} (h : MulOk i j) : CMul i j ∨ CMulW i j := by
  rcases h with h | h | ⟨h1, h2⟩
  · exact .inl (.inl ⟨by omega, by omega⟩)
  · exact .inl (.inr ⟨by omega, by omega⟩)
  · exact .inr (wide_mul h1 h2 (by decide) (by decide) (by decide))
theorem ops_mul : OpS X (binaryOp .Mult) mulV := by
  refine ⟨_, op_mul.or op_mulW, fun Q w dx dy e q => ?_⟩
  rename_i mh F ρ H x y vx vy rv
  unfold mulV at e
  split at e
  · split at e
    · rename_i hm
      cases e
      rcases hm.c with c | c
      · exact .inl ⟨_, _, den_int dx, den_int dy, c, q.here w (Den.int _)⟩
      · exact .inr ⟨_, _, den_int dx, den_int dy, c, q.here w (Den.int _)⟩
    · cases e
  · cases e
def DivOk (j : Int) : Prop := 0 < j ∧ j.natAbs < 2 ^ 9000
instance (j : Int) : Decidable (DivOk j) := by unfold DivOk; infer_instance
def divV : List Ob → Val → Val → Option Rv := i2 fun i j => if DivOk j then some (.int (i / j)) else none
theorem ops_div : OpS X (binaryOp .FloorDiv) divV := ops_i2 op_fdivW fun i j x e => by
  split at e
  · rename_i h
    cases e
    exact ⟨wide_div h.1 h.2 (by decide) (by decide), fun _ _ => Den.int _⟩
  · cases e
def modV : List Ob → Val → Val → Option Rv := i2 fun i j => if 0 < j then some (.int (i % j)) else none
theorem ops_mod : OpS X (binaryOp .Mod) modV := ops_i2 op_mod fun i j x e => by
  split at e
  · cases e; exact ⟨‹_›, fun _ _ => Den.int _⟩
  · cases e
def powV : List Ob → Val → Val → Option Rv := i2 fun i j => if 0 ≤ j ∧ j ≤ 1000000 ∧ i.natAbs < 2 ^ 64 then some (.int (i ^ j.toNat)) else none
theorem ops_pow : OpS X (binaryOp .Pow) powV := ops_i2 op_pow fun i j x e => by
  split at e
  · cases e; exact ⟨‹_›, fun _ _ => Den.int _⟩
  · cases e

/-! ### ordering of ints -/
def ltV : List Ob → Val → Val → Option Rv := i2 fun i j => some (.bool (decide (i < j)))
def leV : List Ob → Val → Val → Option Rv := i2 fun i j => some (.bool (decide (i ≤ j)))
def gtV : List Ob → Val → Val → Option Rv := i2 fun i j => some (.bool (decide (j < i)))
def geV : List Ob → Val → Val → Option Rv := i2 fun i j => some (.bool (decide (j ≤ i)))
theorem ops_lt : OpS X (compareOp .Lt) ltV := ops_i20 op_lt fun i j x e _ _ => by cases e; exact Den.bl _
theorem ops_le : OpS X (compareOp .LtE) leV := ops_i20 op_le fun i j x e _ _ => by cases e; exact Den.bl _
theorem ops_gt : OpS X (compareOp .Gt) gtV := ops_i20 op_gt fun i j x e _ _ => by cases e; exact Den.bl _
theorem ops_ge : OpS X (compareOp .GtE) geV := ops_i20 op_ge fun i j x e _ _ => by cases e; exact Den.bl _
end

/-! ### == -/
/-- the data that a value is (a cell of data counts) -/
def pureD (mh : List Ob) : Val → Option Dt
  | .d x => some x
  | .ref n => ((cellL mh n).bind asDs).map fun ds => .list ds
section
variable {K : PySem.W.Frag} {mh : List Ob} {F : Hp} {ρ : List Addr} {H : Hp} {u : V} {v : Val} {x : Dt}
theorem pureD_ok (w : Wd K mh F ρ H) (d : DenV K F ρ u v) (h : pureD mh v = some x) : Den K H u x := by
  cases v with
  | d y => cases h; exact Den.mono w.rle d
  | ref n =>
    have h : ((cellL mh n).bind asDs).map (fun ds => PyData.list ds) = some x := h
    cases e1 : cellL mh n with
    | none => rw [e1] at h; cases h
    | some vs =>
      rw [e1] at h
      cases e2 : asDs vs with
      | none => simp [e2] at h
      | some ds =>
        simp only [Option.bind_some, e2, Option.map_some, Option.some.injEq] at h
        subst h
        obtain ⟨a, e, rfl⟩ := d
        obtain ⟨_, xs, q, r, z⟩ := cellL_ok w e e1
        have e3 := asDs_eq e2
        subst e3
        exact Den.lst (SqL.of q) (by rw [List.length_map] at z; exact z) (r.all.mono w.rle)
mutual
theorem Den.dp (F : Hp) : ∀ (x : Dt) (u : V), Den K F u x → x.canLay0 = true → Dp K F u x
  | .none, _, h, _ => by cases h; exact .non
  | .bool b, _, h, _ => by cases h; exact .bl b
  | .int i, _, h, _ => by cases h; exact .int i
  | .str y, _, h, _ => by cases h; exact .str y
  | .list ds, _, h, c => by
    cases h with
    | lst q z r => exact .lst q (DenAll.dp F ds _ r (by simpa [PyData.canLay0] using c))
  | .tuple ds, _, h, c => by
    cases h with
    | tup q z r => exact .tup q (DenAll.dp F ds _ r (by simpa [PyData.canLay0] using c))
  | .dict ds, _, h, c => by simp [PyData.canLay0] at c
theorem DenAll.dp (F : Hp) : ∀ (xs : List Dt) (us : List V), DenAll K F us xs → PyData.canLayAll0 xs = true → DpAll K F us xs
  | [], _, h, _ => by cases h; exact .nil
  | x :: xs, _, h, c => by
    cases h with
    | cons a b =>
      simp only [PyData.canLayAll0, Bool.and_eq_true] at c
      exact .cons (Den.dp F x _ a c.1) (DenAll.dp F xs _ b c.2)
end
end
def eqD (x y : Dt) : Option Bool := match x, y with
  | .int i, .int j => some (decide (i = j))
  | .str i, .str j => some (decide (i = j))
  | .bool i, .bool j => some (decide (i = j))
  | .int _, .str _ => some false
  | .str _, .int _ => some false
  | .none, .str _ => some false
  | .none, .int _ => some false
  | .str _, .none => some false
  | .int _, .none => some false
  | x, y => if SeqAt.shaped x = true ∧ SeqAt.shaped y = true then some (PyData.eqv x y) else none
def eqV2 (mh : List Ob) (a b : Val) : Option Bool := match pureD mh a, pureD mh b with
  | some x, some y => eqD x y
  | _, _ => none
def bR (o : Option Bool) : Option Rv := o.map fun b => .v (.d (.bool b))
theorem bR_some {o : Option Bool} {rv : Rv} (h : bR o = some rv) : ∃ b, o = some b ∧ rv = .v (.d (.bool b)) := by
  unfold bR at h
  cases o with
  | none => cases h
  | some b => cases h; exact ⟨b, rfl, rfl⟩
section
variable {X : Cx}
theorem eqD_ok {mh : List Ob} {F : Hp} {ρ : List Addr} {H : Hp} {u v : V} {a c : Val} {b : Bool} (w : Wd X.K mh F ρ H) (du : DenV X.K F ρ u a) (dv : DenV X.K F ρ v c) (h : eqV2 mh a c = some b) :
    (scal u v = true ∧ b = decide (u = v)) ∨ ∃ d e, Dp X.K H u d ∧ Dp X.K H v e ∧ SeqAt.shaped d = true ∧ SeqAt.shaped e = true ∧ b = PyData.eqv d e := by
  unfold eqV2 at h
  split at h
  · rename_i x y ex ey
    have hx := pureD_ok w du ex
    have hy := pureD_ok w dv ey
    unfold eqD at h
    split at h
    · cases h; cases hx; cases hy; exact .inl ⟨rfl, by simp⟩
    · cases h; cases hx; cases hy; exact .inl ⟨rfl, by simp⟩
    · cases h; cases hx; cases hy; exact .inl ⟨rfl, by simp⟩
    · cases h; cases hx; cases hy; exact .inl ⟨rfl, by simp⟩
    · cases h; cases hx; cases hy; exact .inl ⟨rfl, by simp⟩
    · cases h; cases hx; cases hy; exact .inl ⟨rfl, by simp⟩
    · cases h; cases hx; cases hy; exact .inl ⟨rfl, by simp⟩
    · cases h; cases hx; cases hy; exact .inl ⟨rfl, by simp⟩
    · cases h; cases hx; cases hy; exact .inl ⟨rfl, by simp⟩
    · split at h
      · rename_i hs
        cases h
        exact .inr ⟨_, _, Den.dp H _ _ hx (SeqAt.canLay_of_shaped hs.1), Den.dp H _ _ hy (SeqAt.canLay_of_shaped hs.2), hs.1, hs.2, rfl⟩
      · cases h
  · cases h
theorem ops_eq (hu : X.A.units + 64 < cLine) : OpS X (compareOp .Eq) (fun mh a b => bR (eqV2 mh a b)) := by
  refine ⟨_, op_eq.or (op_eqD hu), fun Q w dx dy e q => ?_⟩
  obtain ⟨b, e1, rfl⟩ := bR_some e
  have q' := q.here w (Den.bl b)
  rcases eqD_ok w dx dy e1 with ⟨h1, rfl⟩ | ⟨d, e2, h1, h2, h3, h4, rfl⟩
  · exact .inl ⟨h1, q'⟩
  · exact .inr ⟨d, e2, h1, h2, h3, h4, q'⟩
theorem ops_ne (hu : X.A.units + 64 < cLine) : OpS X (compareOp .NotEq) (fun mh a b => bR ((eqV2 mh a b).map (!·))) := by
  refine ⟨_, op_ne.or (op_neD hu), fun Q w dx dy e q => ?_⟩
  rename_i mh F ρ H x y vx vy rv
  obtain ⟨b, e1, rfl⟩ := bR_some e
  have q' := q.here w (Den.bl b)
  cases e2 : eqV2 mh vx vy with
  | none => rw [e2] at e1; cases e1
  | some c =>
    rw [e2] at e1
    cases e1
    rcases eqD_ok w dx dy e2 with ⟨h1, rfl⟩ | ⟨d, e3, h1, h2, h3, h4, rfl⟩
    · exact .inl ⟨h1, q'⟩
    · exact .inr ⟨d, e3, h1, h2, h3, h4, q'⟩

/-! ### in -/
def flatD : Dt → Bool
  | .none => true
  | .bool _ => true
  | .int _ => true
  | .str _ => true
  | _ => false
def keyD : Dt → Option Key
  | .int i => some (.inl i)
  | .str x => some (.inr x)
  | _ => none
def keyVl : Val → Option Key
  | .d x => keyD x
  | _ => none
/-- a dict: frozen (by data), or a cell -/
def unkey : List (Dt × Dt) → Option (List (Key × Val))
  | [] => some []
  | kv :: r => match keyD kv.1, unkey r with
    | some k, some xs => some ((k, .d kv.2) :: xs)
    | _, _ => none
def dctOf (mh : List Ob) : Val → Option (List (Key × Val))
  | .d (.dict ds) => unkey ds
  | .ref n => match mh[n]? with
    | some (.dct kvs) => some kvs
    | _ => none
  | _ => none
def findK (kvs : List (Key × Val)) (k : Key) : Option Val := (kvs.find? fun kv => decide (kv.1 = k)).map (·.2)
def inSeq (x : Dt) (ys : List Dt) : Option Bool :=
  if flatD x = true ∧ ys.all flatD = true then some (ys.any fun y => PyData.eqv y x) else none
def inV2 (mh : List Ob) (a c : Val) : Option Bool := match dctOf mh c with
  | some kvs => (keyVl a).map fun k => (findK kvs k).isSome
  | none => match a, (seqA mh c).bind asDs with
    | .d x, some ys => (inSeq x ys).orElse fun _ =>
        if (seqL mh c).isNone then none else if SeqAt.shaped x = true ∧ SeqAt.shaped (.list ys) = true then some (ys.any fun y => PyData.eqv y x) else none
    | _, _ => none
theorem key_den {K : PySem.W.Frag} {F : Hp} {ρ : List Addr} {u : V} {v : Val} {k : Key} (d : DenV K F ρ u v) (h : keyVl v = some k) : u = kV k := by
  cases v with
  | ref n => cases h
  | d x =>
    cases x with
    | int i => cases h; cases d; rfl
    | str i => cases h; cases d; rfl
    | _ => cases h
theorem unkey_ok {K : PySem.W.Frag} {F : Hp} {ρ : List Addr} : ∀ {ds : List (Dt × Dt)} {kvs : List (Key × Val)} {ks : List (Key × V)}, unkey ds = some kvs → DenKV K F ks ds → DenVK K F ρ ks kvs
  | [], _, _, h, r => by cases h; cases r; exact .nil
  | p :: r, kvs, _, h, dd => by
    cases dd with
    | @cons k v vs d ds d rr =>
      unfold unkey at h
      have hk : keyD (kD k) = some k := by cases k <;> rfl
      cases e : unkey r with
      | none => simp only [e, hk] at h; cases h
      | some xs =>
        simp only [e, hk, Option.some.injEq] at h
        subst h
        exact .cons ⟨rfl, d⟩ (unkey_ok e rr)
theorem dctOf_ok {K : PySem.W.Frag} {mh : List Ob} {F : Hp} {ρ : List Addr} {H : Hp} {u : V} {v : Val} {kvs : List (Key × Val)} (w : Wd K mh F ρ H) (d : DenV K F ρ u v) (h : dctOf mh v = some kvs) :
    ∃ a ks, u = .ref a ∧ Rd H a (.dK ks) ∧ DenVK K F ρ ks kvs := by
  cases v with
  | d x =>
    cases x with
    | dict ds =>
      cases d with
      | dct q z r => exact ⟨_, _, rfl, w.rle _ _ q, unkey_ok h r⟩
    | _ => cases h
  | ref n =>
    obtain ⟨a, e, rfl⟩ := d
    unfold dctOf at h
    simp only at h
    split at h
    · rename_i kvs' e2
      cases h
      obtain ⟨z, ks, q, r⟩ := w.cell n a _ e e2
      exact ⟨a, ks, rfl, .inl q, r⟩
    · cases h
theorem findK_ok {K : PySem.W.Frag} {F : Hp} {ρ : List Addr} {k : Key} : ∀ {ks : List (Key × V)} {kvs : List (Key × Val)}, DenVK K F ρ ks kvs → (valV ks k = none ∧ findK kvs k = none) ∨ ∃ u v, valV ks k = some u ∧ findK kvs k = some v ∧ DenV K F ρ u v
  | _, _, .nil => .inl ⟨rfl, rfl⟩
  | (k1, u) :: ks, (k2, v) :: kvs, .cons ⟨e, d⟩ r => by
    have e : k1 = k2 := e
    subst e
    by_cases h : k1 = k
    · subst h
      exact .inr ⟨u, v, valV_pos rfl, by simp [findK], d⟩
    · rw [show valV ((k1, u) :: ks) k = valV ks k from valV_neg h, show findK ((k1, v) :: kvs) k = findK kvs k by simp [findK, List.find?_cons, h]]
      exact findK_ok r
theorem flat_den {K : PySem.W.Frag} {F : Hp} {u : V} {x : Dt} (d : Den K F u x) : flatV u = flatD x := by
  cases d <;> rfl
theorem flat_eq {K : PySem.W.Frag} {F : Hp} {u v : V} {x y : Dt} (d : Den K F u x) (e : Den K F v y) (h : flatD x = true) (h' : flatD y = true) : eqV u v = PyData.eqv x y := by
  cases d <;> cases e <;> first | rfl | cases h | cases h'
theorem flat_all {K : PySem.W.Frag} {F : Hp} : ∀ {us : List V} {xs : List Dt}, DenAll K F us xs → us.all flatV = xs.all flatD
  | _, _, .nil => rfl
  | _, _, .cons a b => by rw [List.all_cons, List.all_cons, flat_den a, flat_all b]
theorem flat_any {K : PySem.W.Frag} {F : Hp} {v : V} {y : Dt} (e : Den K F v y) (h' : flatD y = true) : ∀ {us : List V} {xs : List Dt}, DenAll K F us xs → xs.all flatD = true → (us.any fun u => eqV u v) = xs.any fun x => PyData.eqv x y
  | _, _, .nil, _ => rfl
  | _, _, .cons a b, h => by
    rw [List.all_cons, Bool.and_eq_true] at h
    rw [List.any_cons, List.any_cons, flat_eq a e h.1 h', flat_any e h' b h.2]
/-- x in d, by values -/
theorem op_in_dct (hu : X.A.units + 1 < cLine) : OpR X (compareOp .In) (fun y x H Q => ∃ a o, x = .ref a ∧ DGet H a y o ∧ Q (.bl o.isSome) H) := by
  intro pins s σ H y x v u Q I ry rx h
  obtain ⟨a, o, rfl, g, q⟩ := h
  cases rx
  exact d_in hu I g ry fun s3 I3 => ⟨.bl o.isSome, H, I3, rfl, q⟩
theorem op_notin_dct (hu : X.A.units + 1 < cLine) : OpR X (compareOp .NotIn) (fun y x H Q => ∃ a o, x = .ref a ∧ DGet H a y o ∧ Q (.bl (!o.isSome)) H) := by
  intro pins s σ H y x v u Q I ry rx h
  obtain ⟨a, o, rfl, g, q⟩ := h
  cases rx
  exact d_notIn hu I g ry fun s3 I3 => ⟨.bl (!o.isSome), H, I3, rfl, q⟩
theorem inV2_ok {mh : List Ob} {F : Hp} {ρ : List Addr} {H : Hp} {u v : V} {a c : Val} {b : Bool} (w : Wd X.K mh F ρ H) (du : DenV X.K F ρ u a) (dv : DenV X.K F ρ v c) (h : inV2 mh a c = some b) :
    (∃ p o, v = .ref p ∧ DGet H p u o ∧ b = o.isSome) ∨ (∃ p xs, v = .ref p ∧ (SqL X.K H p xs ∨ SqT X.K H p xs) ∧ flatV u = true ∧ xs.all flatV = true ∧ b = inV u xs) ∨
    ∃ d ds, Dp X.K H u d ∧ Dp X.K H v (.list ds) ∧ SeqAt.shaped d = true ∧ SeqAt.shaped (.list ds) = true ∧ b = ds.any fun z => PyData.eqv z d := by
  unfold inV2 at h
  split at h
  · rename_i kvs e1
    cases ek : keyVl a with
    | none => rw [ek] at h; cases h
    | some k =>
      rw [ek] at h
      have h : (findK kvs k).isSome = b := Option.some.inj h
      subst h
      obtain ⟨p, ks, rfl, q, r⟩ := dctOf_ok w dv e1
      have eu := key_den du ek
      refine .inl ⟨p, valV ks k, rfl, .inl ⟨ks, k, q, eu, rfl⟩, ?_⟩
      rcases findK_ok (k := k) r with ⟨q1, q2⟩ | ⟨x, y, q1, q2, _⟩ <;> rw [q1, q2] <;> rfl
  · split at h
    · rename_i x ys e2
      cases e3 : seqA mh c with
      | none => rw [e3] at e2; cases e2
      | some vs =>
        rw [e3] at e2
        have e4 : asDs vs = some ys := e2
        have e5 := asDs_eq e4
        subst e5
        obtain ⟨p, xs, rfl, hq, r, z⟩ := seqA_ok w dv e3
        cases e6 : inSeq x ys with
        | some b' =>
          rw [e6] at h
          cases h
          unfold inSeq at e6
          split at e6
          · rename_i hf
            cases e6
            exact .inr (.inl ⟨p, xs, rfl, hq, (flat_den du).trans hf.1, (flat_all r.all).trans hf.2, (flat_any du hf.1 r.all hf.2).symm⟩)
          · cases e6
        | none =>
          rw [e6] at h
          simp only [Option.orElse_none] at h
          split at h
          · cases h
          · rename_i nt
            split at h
            · rename_i hs
              cases h
              refine .inr (.inr ⟨x, ys, Den.dp H _ _ (Den.mono w.rle du) (SeqAt.canLay_of_shaped hs.1), ?_, hs.1, hs.2, rfl⟩)
              cases c with
              | d y =>
                cases y with
                | list zs =>
                  have : zs = ys := by
                    have e7 : some (zs.map Val.d) = some (ys.map Val.d) := e3
                    have e8 := congrArg asDs (Option.some.inj e7)
                    rw [asDs_map, asDs_map] at e8
                    exact Option.some.inj e8
                  subst this
                  exact Den.dp H _ _ (Den.mono w.rle dv) (SeqAt.canLay_of_shaped hs.2)
                | tuple zs => exact absurd rfl nt
                | _ => cases e3
              | ref n =>
                have e7 : pureD mh (.ref n) = some (.list ys) := by
                  have e8 : cellL mh n = some (ys.map Val.d) := e3
                  show ((cellL mh n).bind asDs).map _ = _
                  rw [e8]
                  show (asDs (ys.map Val.d)).map _ = _
                  rw [asDs_map]
                  rfl
                exact Den.dp H _ _ (pureD_ok w dv e7) (SeqAt.canLay_of_shaped hs.2)
            · cases h
    · cases h
theorem ops_in (hu : X.A.units + 65 < cLine) : OpS X (compareOp .In) (fun mh a b => bR (inV2 mh a b)) := by
  refine ⟨_, (op_in_dct (by omega)).or (op_in_seq.or (op_inD hu)), fun Q w dx dy e q => ?_⟩
  obtain ⟨b, e1, rfl⟩ := bR_some e
  have q' := q.here w (Den.bl b)
  rcases inV2_ok w dx dy e1 with ⟨p, o, rfl, h1, rfl⟩ | ⟨p, xs, rfl, h1, h2, h3, rfl⟩ | ⟨d, ds, h1, h2, h3, h4, rfl⟩
  · exact .inl ⟨p, o, rfl, h1, q'⟩
  · exact .inr (.inl ⟨p, xs, rfl, h1, h2, h3, q'⟩)
  · exact .inr (.inr ⟨d, ds, h1, h2, h3, h4, q'⟩)
theorem ops_notin (hu : X.A.units + 65 < cLine) : OpS X (compareOp .NotIn) (fun mh a b => bR ((inV2 mh a b).map (!·))) := by
  refine ⟨_, (op_notin_dct (by omega)).or (op_notIn_seq.or (op_notInD hu)), fun Q w dx dy e q => ?_⟩
  rename_i mh F ρ H x y vx vy rv
  obtain ⟨b, e1, rfl⟩ := bR_some e
  have q' := q.here w (Den.bl b)
  cases e2 : inV2 mh vx vy with
  | none => rw [e2] at e1; cases e1
  | some c =>
    rw [e2] at e1
    cases e1
    rcases inV2_ok w dx dy e2 with ⟨p, o, rfl, h1, rfl⟩ | ⟨p, xs, rfl, h1, h2, h3, rfl⟩ | ⟨d, ds, h1, h2, h3, h4, rfl⟩
    · exact .inl ⟨p, o, rfl, h1, q'⟩
    · exact .inr (.inl ⟨p, xs, rfl, h1, h2, h3, q'⟩)
    · exact .inr (.inr ⟨d, ds, h1, h2, h3, h4, q'⟩)
/-- is None -/
def isNV (mh : List Ob) (a b : Val) : Option Bool := match a, b with
  | .d .none, .d .none => some true
  | _, .d .none => some false
  | _, _ => none
theorem isNV_ok {mh : List Ob} {F : Hp} {ρ : List Addr} {u v : V} {a c : Val} {b : Bool} (du : DenV X.K F ρ u a) (dv : DenV X.K F ρ v c) (h : isNV mh a c = some b) : v = .non ∧ b = decide (u = .non) := by
  unfold isNV at h
  split at h
  · cases h
    exact ⟨den_non dv, by rw [den_non du]; rfl⟩
  · rename_i x hn
    cases h
    refine ⟨den_non dv, ?_⟩
    cases a with
    | ref n => obtain ⟨p, _, rfl⟩ := du; rfl
    | d y =>
      cases y with
      | none => exact absurd rfl (hn)
      | _ => cases du <;> rfl
  · cases h
theorem ops_is : OpS X (compareOp .Is) (fun mh a b => bR (isNV mh a b)) := by
  refine ⟨_, op_isN, fun Q w dx dy e q => ?_⟩
  obtain ⟨b, e1, rfl⟩ := bR_some e
  have q' := q.here w (Den.bl b)
  obtain ⟨h1, rfl⟩ := isNV_ok dx dy e1
  exact ⟨h1, q'⟩
theorem ops_isnot : OpS X (compareOp .IsNot) (fun mh a b => bR ((isNV mh a b).map (!·))) := by
  refine ⟨_, op_notN, fun Q w dx dy e q => ?_⟩
  rename_i mh F ρ H x y vx vy rv
  obtain ⟨b, e1, rfl⟩ := bR_some e
  have q' := q.here w (Den.bl b)
  cases e2 : isNV mh vx vy with
  | none => rw [e2] at e1; cases e1
  | some c =>
    rw [e2] at e1
    cases e1
    obtain ⟨h1, rfl⟩ := isNV_ok dx dy e2
    exact ⟨h1, q'⟩
end
end Pv

/-! P3: calls of built-ins by values -/
namespace Pv
open PySem PySem.Spec PyProof.Rows L2

section
variable (X : Cx)
def CallS (f : Value) (m : List Ob → List Val → Option Rv) : Prop :=
  ∃ r, CallR X f r ∧ ∀ {mh : List Ob} {F : Hp} {ρ : List Addr} {H : Hp} {xs : List V} {vs : List Val} {rv : Rv} (Q : VK), Wd X.K mh F ρ H → DenVs X.K F ρ xs vs → m mh vs = some rv → PostR X.K mh F ρ H Q rv → r xs H Q
end
theorem CallR.or {X : Cx} {f : Value} {r r' : List V → Hp → VK → Prop} (h : CallR X f r) (h' : CallR X f r') : CallR X f (fun xs H Q => r xs H Q ∨ r' xs H Q) := by
  intro pins s σ H xs us Q I rx q
  rcases q with q | q
  · exact h pins s σ H xs us Q I rx q
  · exact h' pins s σ H xs us Q I rx q

/-! ### lists of one kind -/
def asInt : Val → Option Int
  | .d (.int i) => some i
  | _ => none
def asBl : Val → Option Bool
  | .d (.bool i) => some i
  | _ => none
def asStr : Val → Option Str
  | .d (.str i) => some i
  | _ => none
def allOf {α : Type} (f : Val → Option α) : List Val → Option (List α)
  | [] => some []
  | v :: vs => match f v, allOf f vs with
    | some x, some xs => some (x :: xs)
    | _, _ => none
section
variable {K : PySem.W.Frag} {F : Hp} {ρ : List Addr}
theorem allOf_ok {α : Type} {f : Val → Option α} {g : α → V} (h : ∀ {u : V} {v : Val} {x : α}, DenV K F ρ u v → f v = some x → u = g x) : ∀ {us : List V} {vs : List Val} {xs : List α}, DenVs K F ρ us vs → allOf f vs = some xs → us = xs.map g ∧ vs.length = xs.length
  | _, _, _, .nil, e => by cases e; exact ⟨rfl, rfl⟩
  | _, _, xs, .cons (b := v) (l₂ := vs) a b, e => by
    unfold allOf at e
    cases e1 : f v with
    | none => rw [e1] at e; cases e
    | some x =>
      cases e2 : allOf f vs with
      | none => rw [e1, e2] at e; cases e
      | some ys =>
        rw [e1, e2] at e
        cases e
        obtain ⟨h1, h2⟩ := allOf_ok h b e2
        exact ⟨by rw [h a e1, h1]; rfl, by rw [List.length_cons, List.length_cons, h2]⟩
theorem asInt_ok {u : V} {v : Val} {x : Int} (d : DenV K F ρ u v) (h : asInt v = some x) : u = V.int x := by
  unfold asInt at h
  split at h
  · cases h; exact den_int d
  · cases h
theorem asBl_ok {u : V} {v : Val} {x : Bool} (d : DenV K F ρ u v) (h : asBl v = some x) : u = V.bl x := by
  unfold asBl at h
  split at h
  · cases h; exact den_bl d
  · cases h
theorem asStr_ok {u : V} {v : Val} {x : Str} (d : DenV K F ρ u v) (h : asStr v = some x) : u = V.str x := by
  unfold asStr at h
  split at h
  · cases h; exact den_str d
  · cases h
theorem allOf_map {α : Type} {f : Val → Option α} {g : α → Val} (h : ∀ x, f (g x) = some x) : ∀ xs : List α, allOf f (xs.map g) = some xs
  | [] => rfl
  | x :: xs => by simp only [List.map_cons, allOf, h, allOf_map h xs]
end

/-! ### len, abs, int, str -/
def lenV (mh : List Ob) : List Val → Option Rv
  | [v] => match dctOf mh v with
    | some kvs => some (.v (.d (.int kvs.length)))
    | none => match seqA mh v with
      | some vs => some (.v (.d (.int vs.length)))
      | none => match v with
        | .d (.str x) => if x.length ≤ sizeLine then some (.v (.d (.int x.length))) else none
        | _ => none
  | _ => none
section
variable {X : Cx}
theorem call_lenR : CallR X (.builtin "len") (fun xs H Q => ∃ a kvs, xs = [V.ref a] ∧ Rd H a (.dK kvs) ∧ Q (.int kvs.length) H) := by
  intro pins s σ H xs us Q I r h
  obtain ⟨a, kvs, rfl, ha, q⟩ := h
  obtain ⟨u, rfl, ru⟩ := vals1 r
  cases ru
  exact d_len I ha fun t s' I' => ⟨.int kvs.length, H, I', ⟨t, rfl⟩, q⟩
theorem calls_len : CallS X (.builtin "len") lenV := by
  refine ⟨_, call_lenR.or call_len, fun Q w dv e q => ?_⟩
  rename_i mh F ρ H xs vs rv
  unfold lenV at e
  split at e
  · rename_i v
    cases dv with
    | cons d dn =>
      cases dn
      split at e
      · rename_i kvs e1
        cases e
        obtain ⟨a, ks, rfl, h1, h2⟩ := dctOf_ok w d e1
        refine .inl ⟨a, ks, rfl, h1, ?_⟩
        rw [show ks.length = kvs.length from h2.length]
        exact q.here w (Den.int _)
      · split at e
        · rename_i vs e1
          cases e
          obtain ⟨a, us, rfl, h1, h2, _⟩ := seqA_ok w d e1
          have q' := q.here w (Den.int _)
          rcases h1 with h1 | h1
          · exact .inr ⟨_, _, rfl, .inl ⟨us, h1, h2.length.symm⟩, q'⟩
          · exact .inr ⟨_, _, rfl, .inr ⟨us, h1, h2.length.symm⟩, q'⟩
        · split at e
          · split at e
            · rename_i hz
              cases e
              have := den_str d
              subst this
              exact .inr ⟨_, _, rfl, ⟨hz, rfl⟩, q.here w (Den.int _)⟩
            · cases e
          · cases e
  · cases e
def absVl (mh : List Ob) : List Val → Option Rv
  | [.d (.int i)] => some (.v (.d (.int (if i < 0 then -i else i))))
  | _ => none
theorem calls_abs : CallS X (.builtin "abs") absVl := by
  refine ⟨_, call_abs, fun Q w dv e q => ?_⟩
  unfold absVl at e
  split at e
  · cases dv with
    | cons d dn =>
      cases dn
      cases e
      exact ⟨_, by rw [den_int d], q.here w (Den.int _)⟩
  · cases e
def intVl (mh : List Ob) : List Val → Option Rv
  | [.d (.int i)] => some (.v (.d (.int i)))
  | [.d (.bool k)] => some (.v (.d (.int (if k then 1 else 0))))
  | _ => none
theorem calls_int : CallS X (.type "int") intVl := by
  refine ⟨_, call_int1, fun Q w dv e q => ?_⟩
  unfold intVl at e
  split at e
  · cases dv with
    | cons d dn =>
      cases dn
      cases e
      exact .inl ⟨_, by rw [den_int d], q.here w (Den.int _)⟩
  · cases dv with
    | cons d dn =>
      cases dn
      cases e
      exact .inr ⟨_, by rw [den_bl d], q.here w (Den.int _)⟩
  · cases e
def strVl (mh : List Ob) : List Val → Option Rv
  | [.d (.int i)] => if i.natAbs < 2 ^ 1900 then some (.v (.d (.str (toString i)))) else none
  | _ => none
theorem calls_str : CallS X (.type "str") strVl := by
  refine ⟨_, call_str_int, fun Q w dv e q => ?_⟩
  unfold strVl at e
  split at e
  · split at e
    · rename_i hz
      cases dv with
      | cons d dn =>
        cases dn
        cases e
        exact ⟨_, by rw [den_int d], Nat.lt_of_lt_of_le (PySem.Flt.log2_lt_of (by decide) hz) (by decide), q.here w (Den.str _)⟩
    · cases e
  · cases e

/-! ### max, min, sum, all, any -/
def maxI (ns : List Int) : Option Int := ns.max?
def maxVl (mh : List Ob) : List Val → Option Rv
  | [.d (.int i), .d (.int j)] => some (.v (.d (.int (if j > i then j else i))))
  | [v] => match (seqL mh v).bind (allOf asInt) with
    | some ns => ns.max?.map fun m => .v (.d (.int m))
    | _ => none
  | _ => none
def minVl (mh : List Ob) : List Val → Option Rv
  | [.d (.int i), .d (.int j)] => some (.v (.d (.int (if j < i then j else i))))
  | [v] => match (seqL mh v).bind (allOf asInt) with
    | some ns => ns.min?.map fun m => .v (.d (.int m))
    | _ => none
  | _ => none
theorem seqL_ints {K : PySem.W.Frag} {mh : List Ob} {F : Hp} {ρ : List Addr} {H : Hp} {u : V} {v : Val} {α : Type} {f : Val → Option α} {g : α → V} {ns : List α} (hf : ∀ {u : V} {v : Val} {x : α}, DenV K F ρ u v → f v = some x → u = g x) (w : Wd K mh F ρ H) (d : DenV K F ρ u v) (h : (seqL mh v).bind (allOf f) = some ns) :
    ∃ a, u = .ref a ∧ SqL K H a (ns.map g) ∧ ns.length ≤ sizeLine := by
  cases e1 : seqL mh v with
  | none => rw [e1] at h; cases h
  | some vs =>
    rw [e1] at h
    obtain ⟨a, xs, rfl, h1, h2, h3⟩ := seqL_ok w d e1
    obtain ⟨h4, h5⟩ := allOf_ok hf h2 h
    subst h4
    exact ⟨a, rfl, h1, by rw [← h5]; exact h3⟩
theorem calls_max (hc : X.calm = true) : CallS X (.builtin "max") maxVl := by
  refine ⟨_, (call_max2 hc).or (cr_max hc), fun Q w dv e q => ?_⟩
  unfold maxVl at e
  split at e
  · cases dv with
    | cons d dn =>
      cases dn with
      | cons d2 dn =>
        cases dn
        cases e
        exact .inl ⟨_, _, by rw [den_int d, den_int d2], q.here w (Den.int _)⟩
  · split at e
    · rename_i ns e1
      cases dv with
      | cons d dn =>
        cases dn
        obtain ⟨a, rfl, h1, h2⟩ := seqL_ints asInt_ok w d e1
        cases e2 : ns.max? with
        | none => rw [e2] at e; cases e
        | some m =>
          rw [e2] at e
          cases e
          have hm := List.max?_eq_some_iff.mp e2
          have hne : ns ≠ [] := fun z => by subst z; cases e2
          refine .inr ⟨a, ns, rfl, h1, List.length_pos_iff.mpr hne, fun m' h3 h4 => ?_⟩
          have : m' = m := Int.le_antisymm (hm.2 m' h3) (h4 m hm.1)
          subst this
          exact q.here w (Den.int _)
    · cases e
  · cases e
theorem calls_min (hc : X.calm = true) : CallS X (.builtin "min") minVl := by
  refine ⟨_, (call_min2 hc).or (cr_min hc), fun Q w dv e q => ?_⟩
  unfold minVl at e
  split at e
  · cases dv with
    | cons d dn =>
      cases dn with
      | cons d2 dn =>
        cases dn
        cases e
        exact .inl ⟨_, _, by rw [den_int d, den_int d2], q.here w (Den.int _)⟩
  · split at e
    · rename_i ns e1
      cases dv with
      | cons d dn =>
        cases dn
        obtain ⟨a, rfl, h1, h2⟩ := seqL_ints asInt_ok w d e1
        cases e2 : ns.min? with
        | none => rw [e2] at e; cases e
        | some m =>
          rw [e2] at e
          cases e
          have hm := List.min?_eq_some_iff.mp e2
          have hne : ns ≠ [] := fun z => by subst z; cases e2
          refine .inr ⟨a, ns, rfl, h1, List.length_pos_iff.mpr hne, fun m' h3 h4 => ?_⟩
          have : m' = m := Int.le_antisymm (h4 m hm.1) (hm.2 m' h3)
          subst this
          exact q.here w (Den.int _)
    · cases e
  · cases e
def sumVl (mh : List Ob) : List Val → Option Rv
  | [v] => match (seqL mh v).bind (allOf asInt) with
    | some ns => some (.v (.d (.int ns.sum)))
    | _ => none
  | _ => none
theorem calls_sum (hc : X.calm = true) : CallS X (.builtin "sum") sumVl := by
  refine ⟨_, cr_sum hc, fun Q w dv e q => ?_⟩
  unfold sumVl at e
  split at e
  · split at e
    · rename_i ns e1
      cases dv with
      | cons d dn =>
        cases dn
        cases e
        obtain ⟨a, rfl, h1, h2⟩ := seqL_ints asInt_ok w d e1
        exact ⟨a, ns, rfl, h1, q.here w (Den.int _)⟩
    · cases e
  · cases e
def allVl (mh : List Ob) : List Val → Option Rv
  | [v] => match (seqL mh v).bind (allOf asBl) with
    | some ns => some (.v (.d (.bool (ns.all id))))
    | _ => none
  | _ => none
def anyVl (mh : List Ob) : List Val → Option Rv
  | [v] => match (seqL mh v).bind (allOf asBl) with
    | some ns => some (.v (.d (.bool (ns.any id))))
    | _ => none
  | _ => none
theorem calls_all (hc : X.calm = true) : CallS X (.builtin "all") allVl := by
  refine ⟨_, cr_all hc, fun Q w dv e q => ?_⟩
  unfold allVl at e
  split at e
  · split at e
    · rename_i ns e1
      cases dv with
      | cons d dn =>
        cases dn
        cases e
        obtain ⟨a, rfl, h1, h2⟩ := seqL_ints asBl_ok w d e1
        exact ⟨a, ns, rfl, h1, q.here w (Den.bl _)⟩
    · cases e
  · cases e
theorem calls_any (hc : X.calm = true) : CallS X (.builtin "any") anyVl := by
  refine ⟨_, cr_any hc, fun Q w dv e q => ?_⟩
  unfold anyVl at e
  split at e
  · split at e
    · rename_i ns e1
      cases dv with
      | cons d dn =>
        cases dn
        cases e
        obtain ⟨a, rfl, h1, h2⟩ := seqL_ints asBl_ok w d e1
        exact ⟨a, ns, rfl, h1, q.here w (Den.bl _)⟩
    · cases e
  · cases e

/-! ### list, tuple -/
def listVl (mh : List Ob) : List Val → Option Rv
  | [v] => (seqA mh v).map .nl
  | _ => none
def tupVl (mh : List Ob) : List Val → Option Rv
  | [v] => ((seqA mh v).bind asDs).map fun ds => .v (.d (.tuple ds))
  | _ => none
theorem calls_list : CallS X (.type "list") listVl := by
  refine ⟨_, call_list_of, fun Q w dv e q => ?_⟩
  unfold listVl at e
  split at e
  · rename_i v
    cases dv with
    | cons d dn =>
      cases dn
      cases e1 : seqA _ v with
      | none => rw [e1] at e; cases e
      | some vs =>
        rw [e1] at e
        cases e
        obtain ⟨a, us, rfl, h1, h2, h3⟩ := seqA_ok w d e1
        exact ⟨a, us, rfl, h1, fun p hp => q.list w hp h2 h3⟩
  · cases e
theorem calls_tup : CallS X (.type "tuple") tupVl := by
  refine ⟨_, call_tuple_of, fun Q w dv e q => ?_⟩
  rename_i mh F ρ H xs vs rv
  unfold tupVl at e
  split at e
  · rename_i v
    cases dv with
    | cons d dn =>
      cases dn
      cases e1 : seqA mh v with
      | none => rw [e1] at e; cases e
      | some vs =>
        rw [e1] at e
        cases e2 : asDs vs with
        | none => simp [e2] at e
        | some ds =>
          simp only [Option.bind_some, e2, Option.map_some, Option.some.injEq] at e
          subst e
          have e3 := asDs_eq e2
          subst e3
          obtain ⟨a, us, rfl, h1, h2, h3⟩ := seqA_ok w d e1
          rw [List.length_map] at h3
          rcases h1 with h1 | h1
          · exact ⟨a, us, rfl, .inl ⟨h1, fun p hp => q.tup w hp h2.all h3⟩⟩
          · -- the tuple itself: it denotes in H; the data is v's own
            have hv : v = .d (.tuple ds) ∨ ∃ l, seqL mh v = some l := by
              unfold seqA at e1
              split at e1
              · rename_i xs
                have e4 := congrArg asDs (Option.some.inj e1)
                rw [asDs_map, asDs_map] at e4
                cases e4
                exact .inl rfl
              · exact .inr ⟨_, e1⟩
            rcases hv with rfl | ⟨l, hl⟩
            · exact ⟨a, us, rfl, .inr ⟨h1, q.here w d⟩⟩
            · obtain ⟨a', us', e5, h4, h5, h6⟩ := seqL_ok w d hl
              cases e5
              have e6 : l = ds.map Val.d := by
                have : seqA mh v = some l := by
                  unfold seqA
                  split
                  · cases hl
                  · exact hl
                rw [e1] at this
                exact (Option.some.inj this).symm
              subst e6
              exact ⟨a, us', rfl, .inl ⟨h4, fun p hp => q.tup w hp h5.all h3⟩⟩
  · cases e

/-! ### sorted -/
def leS (a b : Str) : Bool := decide (a.cps.toList ≤ b.cps.toList)
def leI (a b : Int) : Bool := decide (a ≤ b)
def sortS (xs : List Str) : List Str := xs.mergeSort leS
def sortI (xs : List Int) : List Int := xs.mergeSort leI
theorem leS_trans (a b c : Str) (h : leS a b = true) (h' : leS b c = true) : leS a c = true := decide_eq_true (List.le_trans (of_decide_eq_true h) (of_decide_eq_true h'))
theorem leS_total (a b : Str) : (leS a b || leS b a) = true := by
  rw [Bool.or_eq_true]
  rcases List.le_total a.cps.toList b.cps.toList with h | h
  · exact .inl (decide_eq_true h)
  · exact .inr (decide_eq_true h)
theorem leS_antisymm {a b : Str} (h : leS a b = true) (h' : leS b a = true) : a = b := by
  have e : a.cps.toList = b.cps.toList := List.le_antisymm (of_decide_eq_true h) (of_decide_eq_true h')
  obtain ⟨⟨x⟩⟩ := a
  obtain ⟨⟨y⟩⟩ := b
  simp only at e
  rw [e]
theorem sortS_pairwise (xs : List Str) : (sortS xs).Pairwise fun a b => leS a b = true := List.pairwise_mergeSort leS_trans leS_total xs
theorem sortS_perm (xs : List Str) : (sortS xs).Perm xs := List.mergeSort_perm _ _
theorem sortI_pairwise (xs : List Int) : (sortI xs).Pairwise fun a b => a ≤ b := by
  have h := List.pairwise_mergeSort (le := leI) (fun a b c h h' => by simp only [leI, decide_eq_true_eq] at *; omega) (fun a b => by simp only [leI, Bool.or_eq_true, decide_eq_true_eq]; omega) xs
  exact h.imp fun h => of_decide_eq_true h
theorem sortI_perm (xs : List Int) : (sortI xs).Perm xs := List.mergeSort_perm _ _
theorem rising_pw : ∀ (r : List Str) (p : Str), risingS p r = true → (p :: r).Pairwise fun a b => leS a b = true
  | [], p, _ => List.pairwise_singleton _ _
  | x :: r, p, h => by
    unfold risingS at h
    rw [Bool.and_eq_true] at h
    have h1 : leS p x = true := by
      have := h.1
      rw [ltCps_eq] at this
      simp only [Bool.not_eq_true', decide_eq_false_iff_not] at this
      exact decide_eq_true (List.not_lt.mp this)
    have ih := rising_pw r x h.2
    refine List.Pairwise.cons (fun y hy => ?_) ih
    rcases List.mem_cons.mp hy with rfl | hy
    · exact h1
    · exact leS_trans _ _ _ h1 ((List.pairwise_cons.mp ih).1 y hy)
theorem sortedS_pw : ∀ (l : List Str), sortedS l = true → l.Pairwise fun a b => leS a b = true
  | [], _ => .nil
  | x :: r, h => rising_pw r x h
theorem sortS_unique {xs ys : List Str} (p : ys.Perm xs) (h : sortedS ys = true) : ys = sortS xs :=
  List.Perm.eq_of_pairwise (fun _ _ _ _ => leS_antisymm) (sortedS_pw ys h) (sortS_pairwise xs) (p.trans (sortS_perm xs).symm)
theorem sortI_unique {xs ys : List Int} (p : ys.Perm xs) (h : ys.Pairwise (· ≤ ·)) : ys = sortI xs :=
  List.Perm.eq_of_pairwise (fun _ _ _ _ => Int.le_antisymm) h (sortI_pairwise xs) (p.trans (sortI_perm xs).symm)
def keyS : Key → Option Str
  | .inr x => some x
  | _ => none
def keysS : List (Key × Val) → Option (List Str)
  | [] => some []
  | kv :: r => match keyS kv.1, keysS r with
    | some x, some xs => some (x :: xs)
    | _, _ => none
theorem keysS_ok {K : PySem.W.Frag} {F : Hp} {ρ : List Addr} : ∀ {ks : List (Key × V)} {kvs : List (Key × Val)} {xs : List Str}, DenVK K F ρ ks kvs → keysS kvs = some xs → ks.map (·.1) = xs.map Sum.inr
  | _, _, _, .nil, h => by cases h; rfl
  | (k, u) :: _, (k', v) :: r, xs, .cons a b, h => by
    unfold keysS at h
    have e : k = k' := a.1
    subst e
    cases e1 : keyS k with
    | none => simp only [e1] at h; cases h
    | some x =>
      cases e2 : keysS r with
      | none => simp only [e1, e2] at h; cases h
      | some ys =>
        simp only [e1, e2, Option.some.injEq] at h
        subst h
        have e3 : k = .inr x := by
          cases k with
          | inl i => cases e1
          | inr y => cases e1; rfl
        rw [List.map_cons, List.map_cons, keysS_ok b e2, e3]
def sortVl (mh : List Ob) : List Val → Option Rv
  | [v] => match dctOf mh v with
    | some kvs => match keysS kvs with
      | some ks => if ks.length < 64 then some (.nl ((sortS ks).map fun x => .d (.str x))) else none
      | none => none
    | none => match (seqL mh v).bind (allOf asStr) with
      | some xs => if xs.length < 64 then some (.nl ((sortS xs).map fun x => .d (.str x))) else none
      | none => match (seqL mh v).bind (allOf asInt) with
        | some xs => if xs.length < 64 then some (.nl ((sortI xs).map fun x => .d (.int x))) else none
        | none => none
  | _ => none
theorem denVs_strs {K : PySem.W.Frag} {F : Hp} {ρ : List Addr} : ∀ xs : List Str, DenVs K F ρ (xs.map V.str) (xs.map fun x => .d (.str x))
  | [] => .nil
  | x :: xs => .cons (Den.str x) (denVs_strs xs)
theorem denVs_ints {K : PySem.W.Frag} {F : Hp} {ρ : List Addr} : ∀ xs : List Int, DenVs K F ρ (xs.map V.int) (xs.map fun x => .d (.int x))
  | [] => .nil
  | x :: xs => .cons (Den.int x) (denVs_ints xs)
theorem calls_sorted (hc : X.calm = true) : CallS X (.builtin "sorted") sortVl := by
  refine ⟨_, (call_sortedD hc).or (cr_sortedS.or cr_sorted), fun Q w dv e q => ?_⟩
  rename_i mh F ρ H xs vs rv
  unfold sortVl at e
  split at e
  · rename_i v
    cases dv with
    | cons d dn =>
      cases dn
      split at e
      · rename_i kvs e1
        split at e
        · rename_i ks e2
          split at e
          · rename_i hz
            cases e
            obtain ⟨a, ls, rfl, h1, h2⟩ := dctOf_ok w d e1
            refine .inl ⟨a, ls, ks, rfl, h1, keysS_ok h2 e2, hz, fun ys p h3 h4 hp => ?_⟩
            rw [sortS_unique h3 h4]
            exact q.list w hp (denVs_strs _) (by rw [List.length_map, (sortS_perm ks).length_eq]; exact small64 hz)
          · cases e
        · cases e
      · split at e
        · rename_i xs e1
          split at e
          · rename_i hz
            cases e
            obtain ⟨a, rfl, h1, h2⟩ := seqL_ints asStr_ok w d e1
            refine .inr (.inl ⟨a, xs, rfl, h1, hz, fun ys p h3 h4 hp => ?_⟩)
            rw [sortS_unique h3 h4]
            exact q.list w hp (denVs_strs _) (by rw [List.length_map, (sortS_perm xs).length_eq]; exact small64 hz)
          · cases e
        · split at e
          · rename_i xs e1
            split at e
            · rename_i hz
              cases e
              obtain ⟨a, rfl, h1, h2⟩ := seqL_ints asInt_ok w d e1
              refine .inr (.inr ⟨a, xs, rfl, h1, hz, fun ys p h3 h4 hp => ?_⟩)
              rw [sortI_unique h3 h4]
              exact q.list w hp (denVs_ints _) (by rw [List.length_map, (sortI_perm xs).length_eq]; exact small64 hz)
            · cases e
          · cases e
  · cases e

/-! ### isinstance -/
def tyD : Dt → String
  | .none => "NoneType"
  | .bool _ => "bool"
  | .int _ => "int"
  | .str _ => "str"
  | .list _ => "list"
  | .tuple _ => "tuple"
  | .dict _ => "dict"
def tyVal (mh : List Ob) : Val → Option String
  | .d x => some (tyD x)
  | .ref n => match mh[n]? with
    | some (.lst _) => some "list"
    | some (.dct _) => some "dict"
    | _ => none
def isIn (a b : String) : Bool := a == b || (a == "bool" && b == "int")
def isTys : List String := ["bool", "int", "str", "list", "tuple", "dict"]
theorem kit_all : (("NoneType" :: isTys).all fun a => isTys.all fun b => decide (kitB a b = some (isIn a b))) = true := by decide +kernel
theorem kit_is {a b : String} (ha : a ∈ "NoneType" :: isTys) (hb : b ∈ isTys) : kitB a b = some (isIn a b) :=
  of_decide_eq_true (List.all_eq_true.mp (List.all_eq_true.mp kit_all a ha) b hb)
theorem tyD_mem (x : Dt) : tyD x ∈ "NoneType" :: isTys := by cases x <;> simp [tyD, isTys]
theorem ty_den {K : PySem.W.Frag} {H : Hp} {u : V} {x : Dt} (d : Den K H u x) : TyX K H u (.type (tyD x)) := by
  cases d with
  | non => exact .base .non
  | bl b => exact .base (.bl b)
  | int i => exact .base (.int i)
  | str y => exact .base (.str y)
  | lst q z r =>
    rcases q with (q | ⟨o, q⟩) | ⟨o, its, n, h1, h2, h3⟩
    · exact .base (.lst q)
    · exact .base (.frz q)
    · exact .kList h1 h2
  | tup q z r =>
    rcases q with (q | ⟨o, q⟩) | ⟨o, its, n, h1, h2, h3⟩
    · exact .base (.tup q)
    · exact .fTuple q
    · exact .kTuple h1 h2
  | dct q z r =>
    rcases q with q | ⟨o, q⟩
    · exact .base (.dK q)
    · exact .fDict q
theorem tyVal_ok {K : PySem.W.Frag} {mh : List Ob} {F : Hp} {ρ : List Addr} {H : Hp} {u : V} {v : Val} {t : String} (w : Wd K mh F ρ H) (d : DenV K F ρ u v) (h : tyVal mh v = some t) : TyX K H u (.type t) ∧ t ∈ "NoneType" :: isTys := by
  cases v with
  | d x =>
    cases h
    exact ⟨ty_den (Den.mono w.rle d), tyD_mem x⟩
  | ref n =>
    obtain ⟨a, e, rfl⟩ := d
    have h : (match mh[n]? with | some (.lst _) => some "list" | some (.dct _) => some "dict" | _ => none) = some t := h
    split at h
    · rename_i vs e1
      cases h
      obtain ⟨_, xs, q, _⟩ := w.cell n a _ e e1
      exact ⟨.base (.lst q), by simp [isTys]⟩
    · rename_i vs e1
      cases h
      obtain ⟨_, xs, q, _⟩ := w.cell n a _ e e1
      exact ⟨.base (.dK q), by simp [isTys]⟩
    · cases h
theorem isin_ok {mh : List Ob} {F : Hp} {ρ : List Addr} {H : Hp} {u : V} {v : Val} {t c : String} (Q : VK) (w : Wd X.K mh F ρ H) (d : DenV X.K F ρ u v) (h : tyVal mh v = some t) (hc : c ∈ isTys) (q : Q (.bl (isIn t c)) H) : rIsi X.K [u, .ty c] H Q := by
  obtain ⟨h1, h2⟩ := tyVal_ok w d h
  exact ⟨u, .ty c, .type t, .type c, isIn t c, rfl, .ty c, h1, kit_ty (kit_is h2 hc), q⟩
end
end Pv

/-! P4: subscripts, slices, stores, methods by values -/
namespace Pv
open PySem PySem.Spec PyProof.Rows L2

/-! ### a[i] -/
section
variable (X : Cx)
def IxS (m : List Ob → Val → Val → Option Val) : Prop :=
  ∃ r, IxR X r ∧ ∀ {mh : List Ob} {F : Hp} {ρ : List Addr} {H : Hp} {x y : V} {dx dy v : Val} (Q : VK), Wd X.K mh F ρ H → DenV X.K F ρ x dx → DenV X.K F ρ y dy → m mh dx dy = some v → (∀ u, DenV X.K F ρ u v → Q u H) → r x y H Q
end
def ixVl (mh : List Ob) (o i : Val) : Option Val := match dctOf mh o with
  | some kvs => (keyVl i).bind (findK kvs)
  | none => match i with
    | .d (.int k) => match seqA mh o with
      | some vs => atI vs k
      | none => match o with
        | .d (.str z) => if z.length ≤ sizeLine then (atI z.cps.toList k).map fun c => .d (.str ⟨#[c]⟩) else none
        | _ => none
    | _ => none
theorem atI_get {α : Type} {xs : List α} {i : Int} {v : α} (h : atI xs i = some v) : ∃ j, ixN xs.length i = some j ∧ xs[j]? = some v := by
  unfold atI at h
  cases e : ixN xs.length i with
  | none => rw [e] at h; cases h
  | some j => rw [e] at h; exact ⟨j, rfl, h⟩
theorem atI_den {K : PySem.W.Frag} {F : Hp} {ρ : List Addr} {us : List V} {vs : List Val} {i : Int} {v : Val} (d : DenVs K F ρ us vs) (h : atI vs i = some v) : ∃ u, atI us i = some u ∧ DenV K F ρ u v := by
  obtain ⟨j, h1, h2⟩ := atI_get h
  obtain ⟨u, h3, h4⟩ := d.get h2
  refine ⟨u, ?_, h4⟩
  unfold atI
  rw [show us.length = vs.length from d.length, h1]
  exact h3
section
variable {X : Cx}
theorem ix_dct (hu : X.A.units + 1 < cLine) : IxR X (fun x y H Q => ∃ a v, x = .ref a ∧ DGet H a y (some v) ∧ Q v H) := by
  intro value slice pins s σ H x y v u Q I rx ry h hs
  obtain ⟨a, w, rfl, g, q⟩ := h
  cases rx
  have hT := dict_typeIs I g
  have h2 : wpAny (model X.prog X.w) X.A (getItem (.ref a) u) (EP X pins σ Q) X.xe s := d_getItem hu I g ry fun w' s3 I3 rw' => ⟨w, H, I3, rw', q⟩
  unfold subscriptTail
  refine wpAny_bind ?_
  rw [getitemInPython_of_ne hT.not_modules]
  refine wpAny_bind (wpAny_specialOf hT PySem.F.slot_dict_getitem.lookup ?_)
  have fin : wpAny (model X.prog X.w) X.A (subscripted slice false (.ref a) u) (fun r s₃ => wpAny (model X.prog X.w) X.A (letTemporaryGo value (.ref a) r >>= fun _ => pure r) (EP X pins σ Q) X.xe s₃) X.xe s := by
    rw [hs]
    exact wpAny_operating (wpAny_mono h2 (fun r s₃ h₃ => wpAny_bind (wpAny_letTemporaryGo (wpAny_pure h₃))) fun _ _ x => x)
  first
    | exact wpAny_pure (wpAny_bind fin)
    | exact wpAny_bind (wpAny_pure (wpAny_bind fin))
    | exact wpAny_bind fin
theorem ixs_all (hu : X.A.units + 1 < cLine) : IxS X ixVl := by
  refine ⟨_, (ix_dct hu).or ix_seq, fun Q w dx dy e q => ?_⟩
  rename_i mh F ρ H x y vx vy v
  unfold ixVl at e
  split at e
  · rename_i kvs e1
    cases e2 : keyVl vy with
    | none => rw [e2] at e; cases e
    | some k =>
      rw [e2] at e
      have e : findK kvs k = some v := e
      obtain ⟨a, ks, rfl, h1, h2⟩ := dctOf_ok w dx e1
      rcases findK_ok (k := k) h2 with ⟨_, h3⟩ | ⟨u, v', h3, h4, h5⟩
      · rw [h3] at e; cases e
      · rw [h4] at e; cases e
        exact .inl ⟨a, u, rfl, .inl ⟨ks, k, h1, key_den dy e2, h3.symm⟩, q u h5⟩
  · split at e
    · rename_i k
      have := den_int dy
      subst this
      split at e
      · rename_i vs e1
        obtain ⟨a, us, rfl, h1, h2, _⟩ := seqA_ok w dx e1
        obtain ⟨u, h3, h4⟩ := atI_den h2 e
        rcases h1 with h1 | h1
        · exact .inr (.inl ⟨a, us, k, u, rfl, rfl, h1, h3, q u h4⟩)
        · exact .inr (.inr (.inl ⟨a, us, k, u, rfl, rfl, h1, h3, q u h4⟩))
      · split at e
        · rename_i z _ _
          split at e
          · rename_i hz
            cases e1 : atI z.cps.toList k with
            | none => rw [e1] at e; cases e
            | some c =>
              rw [e1] at e
              cases e
              have := den_str dx
              subst this
              exact .inr (.inr (.inr ⟨z, k, c, rfl, rfl, hz, e1, q _ (Den.str _)⟩))
          · cases e
        · cases e
    · cases e

/-! ### a[lo:hi] -/
end
def cutG {α : Type} (xs : List α) (lo hi : Option Int) : List α := (xs.drop (HT.sIx xs.length 0 lo)).take (HT.sIx xs.length xs.length hi - HT.sIx xs.length 0 lo)
theorem cutG_length {α : Type} (xs : List α) (lo hi : Option Int) : (cutG xs lo hi).length ≤ xs.length := by
  unfold cutG
  rw [List.length_take, List.length_drop]
  omega
theorem cutG_den {K : PySem.W.Frag} {F : Hp} {ρ : List Addr} {us : List V} {vs : List Val} {lo hi : Option Int} (d : DenVs K F ρ us vs) : DenVs K F ρ (cutV us lo hi) (cutG vs lo hi) := by
  unfold cutV cutG
  rw [show us.length = vs.length from d.length]
  exact (d.drop _).take _
theorem cutG_all {K : PySem.W.Frag} {F : Hp} {us : List V} {vs : List Dt} {lo hi : Option Int} (d : DenAll K F us vs) : DenAll K F (cutV us lo hi) (cutG vs lo hi) := by
  unfold cutV cutG
  rw [show us.length = vs.length from d.length]
  exact (d.drop _).take _
section
variable (X : Cx)
def SlS (m : List Ob → Val → Option Int → Option Int → Option Rv) : Prop :=
  ∃ r, SlR X r ∧ ∀ {mh : List Ob} {F : Hp} {ρ : List Addr} {H : Hp} {x : V} {dx : Val} {lo hi : Option Int} {rv : Rv} (Q : VK), Wd X.K mh F ρ H → DenV X.K F ρ x dx → m mh dx lo hi = some rv → PostR X.K mh F ρ H Q rv → r x lo hi H Q
end
def slVl (mh : List Ob) (v : Val) (lo hi : Option Int) : Option Rv := match v with
  | .d (.tuple xs) => some (.v (.d (.tuple (cutG xs lo hi))))
  | .d (.str z) => if z.length ≤ sizeLine then some (.v (.d (.str (cutS z lo hi)))) else none
  | v => (seqL mh v).map fun vs => .nl (cutG vs lo hi)
section
variable {X : Cx}
theorem sls_all : SlS X slVl := by
  refine ⟨_, sl_tupA.or (sl_str.or sl_list), fun Q w dx e q => ?_⟩
  rename_i mh F ρ H x vx lo hi rv
  unfold slVl at e
  split at e
  · rename_i ds
    cases e
    cases dx with
    | tup hq z r =>
      rename_i a xs
      have hl := r.length
      refine .inl ⟨a, xs, rfl, w.rle.sqT hq, fun hw => ?_, fun hw p hp => ?_⟩
      · have e1 : cutG ds lo hi = ds := by
          unfold cutG
          rw [← hl, hw.1, hw.2, hl]
          simp
        rw [e1] at q
        exact q.here w (Den.tup hq z r)
      · exact q.tup w hp (cutG_all r) (Nat.le_trans (cutG_length _ _ _) z)
  · split at e
    · rename_i hz
      cases e
      have := den_str dx
      subst this
      exact .inr (.inl ⟨_, rfl, hz, q.here w (Den.str _)⟩)
    · cases e
  · cases e1 : seqL mh vx with
    | none => rw [e1] at e; cases e
    | some vs =>
      rw [e1] at e
      cases e
      obtain ⟨a, us, rfl, h1, h2, h3⟩ := seqL_ok w dx e1
      exact .inr (.inr ⟨a, us, rfl, h1, fun p hp => q.list w hp (cutG_den h2) (Nat.le_trans (cutG_length _ _ _) h3)⟩)
end

/-! ### o[i] = v -/
def putV (kvs : List (Key × Val)) (k : Key) (v : Val) : List (Key × Val) :=
  if (kvs.any fun kv => decide (kv.1 = k)) = true then kvs.map fun kv => if kv.1 = k then (kv.1, v) else kv else kvs ++ [(k, v)]
def setVl (o i v : Val) : M Unit := fun mh => match o with
  | .ref n => match mh[n]? with
    | some (.lst vs) => match i with
      | .d (.int k) => (ixN vs.length k).map fun j => ((), mh.set n (.lst (vs.set j v)))
      | _ => none
    | some (.dct kvs) => match keyVl i with
      | some k => if kvs.length < sizeLine then some ((), mh.set n (.dct (putV kvs k v))) else none
      | none => none
    | _ => none
  | _ => none
section
variable (X : Cx)
def SetS (m : Val → Val → Val → M Unit) : Prop :=
  ∃ r, PSet X r ∧ ∀ {mh mh' : List Ob} {F : Hp} {ρ : List Addr} {H : Hp} {x y z : V} {dx dy dz : Val} (Q : Hp → Prop), Wd X.K mh F ρ H → DenV X.K F ρ x dx → DenV X.K F ρ y dy → DenV X.K F ρ z dz → m dx dy dz mh = some ((), mh') → (∀ H', Wd X.K mh' F ρ H' → Gr F ρ H F ρ H' → Q H') → r x y z H Q
end
section
variable {X : Cx}
theorem set_dct (hu : X.A.units + 1 < cLine) : PSet X (fun o i v H Q => ∃ a H', o = .ref a ∧ DPut H a i v H' ∧ Q H') := by
  intro pins s σ H o i v ov iv u Q I ro ri rv h
  obtain ⟨a, H', rfl, g, q⟩ := h
  cases ro
  exact d_setItem hu I g ri rv fun s4 I4 => ⟨H', I4, q⟩
theorem PSet.or {t t' : TSet} (h : PSet X t) (h' : PSet X t') : PSet X (fun o i v H Q => t o i v H Q ∨ t' o i v H Q) := by
  intro pins s σ H o i v ov iv u Q I ro ri rv q
  rcases q with q | q
  · exact h pins s σ H o i v ov iv u Q I ro ri rv q
  · exact h' pins s σ H o i v ov iv u Q I ro ri rv q
theorem putV_any {K : PySem.W.Frag} {F : Hp} {ρ : List Addr} {k : Key} : ∀ {ks : List (Key × V)} {kvs : List (Key × Val)}, DenVK K F ρ ks kvs → (ks.any fun kv => decide (kv.1 = k)) = kvs.any fun kv => decide (kv.1 = k)
  | _, _, .nil => rfl
  | _, _, .cons a b => by rw [List.any_cons, List.any_cons, putV_any b, a.1]
theorem putV_map {K : PySem.W.Frag} {F : Hp} {ρ : List Addr} {k : Key} {u : V} {v : Val} (d : DenV K F ρ u v) : ∀ {ks : List (Key × V)} {kvs : List (Key × Val)}, DenVK K F ρ ks kvs →
    DenVK K F ρ (ks.map fun kv => if kv.1 = k then (kv.1, u) else kv) (kvs.map fun kv => if kv.1 = k then (kv.1, v) else kv)
  | _, _, .nil => .nil
  | (k1, x) :: _, (k2, y) :: _, .cons a b => by
    have e : k1 = k2 := a.1
    subst e
    refine .cons ?_ (putV_map d b)
    by_cases h : k1 = k
    · simp only [h]; exact ⟨rfl, d⟩
    · show (if k1 = k then (k1, u) else (k1, x)).1 = (if k1 = k then (k1, v) else (k1, y)).1 ∧ DenV K F ρ (if k1 = k then (k1, u) else (k1, x)).2 (if k1 = k then (k1, v) else (k1, y)).2
      rw [if_neg h, if_neg h]; exact ⟨rfl, a.2⟩
theorem putV_snoc {K : PySem.W.Frag} {F : Hp} {ρ : List Addr} {k : Key} {u : V} {v : Val} (d : DenV K F ρ u v) : ∀ {ks : List (Key × V)} {kvs : List (Key × Val)}, DenVK K F ρ ks kvs → DenVK K F ρ (ks ++ [(k, u)]) (kvs ++ [(k, v)])
  | _, _, .nil => .cons ⟨rfl, d⟩ .nil
  | _, _, .cons a b => .cons a (putV_snoc d b)
theorem putV_den {K : PySem.W.Frag} {F : Hp} {ρ : List Addr} {k : Key} {u : V} {v : Val} (d : DenV K F ρ u v) {ks : List (Key × V)} {kvs : List (Key × Val)} (h : DenVK K F ρ ks kvs) : DenVK K F ρ (putK ks k u) (putV kvs k v) := by
  unfold putK putV
  rw [putV_any h]
  split
  · exact putV_map d h
  · exact putV_snoc d h
theorem putV_length (kvs : List (Key × Val)) (k : Key) (v : Val) : (putV kvs k v).length ≤ kvs.length + 1 := by
  unfold putV
  split
  · rw [List.length_map]; omega
  · rw [List.length_append]; exact Nat.le_refl _
theorem sets_all (hu : X.A.units + 1 < cLine) : SetS X setVl := by
  refine ⟨_, PSet.or set_list (set_dct hu), fun Q w dx dy dz e q => ?_⟩
  rename_i mh mh' F ρ H x y z vx vy vz
  unfold setVl at e
  split at e
  · rename_i n
    obtain ⟨a, ea, rfl⟩ := dx
    split at e
    · rename_i vs e1
      split at e
      · rename_i k
        have := den_int dy
        subst this
        cases e2 : ixN vs.length k with
        | none => rw [e2] at e; cases e
        | some j =>
          rw [e2] at e
          cases e
          obtain ⟨hz, us, h1, h2⟩ := w.cell n a _ ea e1
          obtain ⟨w', g⟩ := w.write (u := .lst (us.set j z)) (o := .lst (vs.set j vz)) ea e1 rfl ⟨by rw [List.length_set]; exact hz, _, upd_same, h2.set dz j⟩
          exact .inl ⟨a, us, k, j, rfl, rfl, h1, by rw [show us.length = vs.length from h2.length]; exact e2, q _ w' g⟩
      · cases e
    · rename_i kvs e1
      split at e
      · rename_i k e2
        split at e
        · rename_i hl
          cases e
          obtain ⟨hz, ks, h1, h2⟩ := w.cell n a _ ea e1
          obtain ⟨w', g⟩ := w.write (u := .dK (putK ks k z)) (o := .dct (putV kvs k vz)) ea e1 rfl ⟨Nat.le_trans (putV_length _ _ _) hl, _, upd_same, putV_den dz h2⟩
          exact .inr ⟨a, _, rfl, .inl ⟨ks, k, h1, key_den dy e2, by rw [show ks.length = kvs.length from h2.length]; exact hl, rfl⟩, q _ w' g⟩
        · cases e
      · cases e
    · cases e
  · cases e

/-! ### methods -/
/-- the value is of that built-in type (a dict may be locked) -/
def tyQ (K : PySem.W.Frag) (T : String) (x : V) (H : Hp) : Prop := match x with
  | .str _ => T = "str"
  | .ref p => (T = "list" ∧ ∃ xs, SqL K H p xs) ∨ (T = "dict" ∧ ∃ kvs, Rd H p (.dK kvs))
  | _ => False
theorem tyQ_is {pins : List (Addr × Obj)} {σ : L2.St} {H : Hp} {s : Shared} {T : String} {x : V} {v : Value} (I : Inv X pins σ H s) (r : RelV x v) (ty : tyQ X.K T x H) :
    s.TypeIs v T ∧ ∀ a, v = .ref a → ∃ ob, s.heap.get? a = some ob ∧ ob.dict = none := by
  cases x with
  | str z => exact tyV_is I r (show tyV X.K T (.str z) H from ty)
  | ref p =>
    rcases ty with h | ⟨rfl, kvs, h⟩
    · exact tyV_is I r (show tyV X.K T (.ref p) H from .inl h)
    · cases r
      obtain ⟨t1, t2, _⟩ := isD_at I (.inl ⟨kvs, h⟩)
      exact ⟨t1, t2⟩
  | _ => exact ty.elim
def tBMq (K : PySem.W.Frag) (T : String) (r : V → List V → Hp → VK → Prop) (to : TE) (t : TA) : TE := fun σ H Q => to σ H fun x H1 => tyQ K T x H1 ∧ t σ H1 fun xs H2 => r x xs H2 Q
theorem pe_bmq {o : Expr} {es : List Expr} {to : TE} {t : TA} {name : Str} {apos cpos : Pos} {T id : String} {r : V → List V → Hp → VK → Prop} {e : Expr} (pa : PlainAttrs T) (slot : Slot T name id) (hty : typeOf (.builtin id) = pure (.type "method_descriptor")) (hm : MtR X id r) (ho : PE X o to) (ha : PA X (e :: es) t)
    (hbase : attributeBase o name X.env (eval o X.env) = eval o X.env)
    (hfew : ((backTo cpos (starEach (e :: es) X.env)).all (fun x => !x.1) && (backToKw cpos (keywordEach [] X.env)).all (fun x => x.1.isSome)
      && decide ((e :: es).length + ([] : List Keyword).length + (if ([] : List Keyword).isEmpty then 0 else 1) < 30)) = true)
    (hline : (apos.endLine == cpos.line) = true) (hs : starEach (e :: es) X.env = (false, eval e X.env) :: starEach es X.env) (hplain : (backTo cpos (starEach es X.env)).any (·.1) = false) :
    PE X (.Call (.Attribute o name apos) (e :: es) [] cpos) (tBMq X.K T r to t) := by
  refine ⟨fun pins s σ H Q I h => ?_⟩
  refine wpAny_Call_method_late hbase hfew hline rfl (thn (ho.run pins s σ H _ I h) fun v s1 ⟨x, H1, I1, r1, ty, q1⟩ => ?_)
  obtain ⟨h1, h2⟩ := tyQ_is I1 r1 ty
  refine ⟨T, id, pa, slot, hty, h1, h2, ?_⟩
  have hA := ha.run cpos pins s1 σ H1 _ I1 q1
  rw [hs] at hA ⊢
  refine Calls.callWith_builtin (by show (false || (backTo cpos (starEach es X.env)).any (·.1)) = false; rw [hplain] <;> rfl) (Calls.evalArgs_plain ?_)
  exact thn hA fun us s2 ⟨vs, H2, I2, r2, q2⟩ => hm pins s2 σ H2 x vs v us Q I2 r1 r2 q2
theorem pe_bm0q {o : Expr} {to : TE} {name : Str} {apos cpos : Pos} {T id : String} {r : V → List V → Hp → VK → Prop} (pa : PlainAttrs T) (slot : Slot T name id) (hty : typeOf (.builtin id) = pure (.type "method_descriptor")) (hm : MtR X id r) (ho : PE X o to)
    (hbase : attributeBase o name X.env (eval o X.env) = eval o X.env) (hline : (apos.endLine == cpos.line) = true) : PE X (.Call (.Attribute o name apos) [] [] cpos) (fun σ H Q => to σ H fun x H1 => tyQ X.K T x H1 ∧ r x [] H1 Q) := by
  refine ⟨fun pins s σ H Q I h => ?_⟩
  refine wpAny_Call_method0_late hbase hline (thn (ho.run pins s σ H _ I h) fun v s1 ⟨x, H1, I1, r1, ty, q1⟩ => ?_)
  obtain ⟨h1, h2⟩ := tyQ_is I1 r1 ty
  exact ⟨T, id, pa, slot, hty, h1, h2, Calls.callWith_builtin rfl (PySem.evalArgs_none (hm pins s1 σ H1 x [] v [] Q I1 r1 .nil q1))⟩
end
section
variable (X : Cx)
/-- a method by values: what the receiver must be (ahead of the arguments), what it does; it may write cells, and makes nothing that lasts -/
def MtS (T : String) (id : String) (m : Val → List Val → M Val) : Prop :=
  ∃ r, MtR X id r ∧ ∀ {mh mh' : List Ob} {F : Hp} {ρ : List Addr} {H : Hp} {x : V} {xs : List V} {o v : Val} {vs : List Val} (Q : VK), Wd X.K mh F ρ H → DenV X.K F ρ x o → DenVs X.K F ρ xs vs → m o vs mh = some (v, mh') →
    (∀ F' H' u, Wd X.K mh' F' ρ H' → Gr F ρ H F' ρ H' → DenV X.K F' ρ u v → Q u H') → r x xs H Q
end
/-- the receiver's type, seen ahead of the arguments -/
def rcv (T : String) (o : Val) : List Ob → Bool := fun mh => match o with
  | .d (.str _) => T == "str"
  | .d (.list _) => T == "list"
  | .d (.dict ds) => T == "dict"
  | .ref n => match mh[n]? with
    | some (.lst _) => T == "list"
    | some (.dct _) => T == "dict"
    | _ => false
  | _ => false
section
variable {X : Cx}
theorem rcv_ok {K : PySem.W.Frag} {mh : List Ob} {F : Hp} {ρ : List Addr} {H : Hp} {x : V} {o : Val} {T : String} (w : Wd K mh F ρ H) (d : DenV K F ρ x o) (h : rcv T o mh = true) : tyQ K T x H := by
  unfold rcv at h
  split at h
  · have := den_str d
    subst this
    show T = "str"
    simpa using h
  · cases d with
    | lst q z r => exact .inl ⟨by simpa using h, _, w.rle.sqL q⟩
  · cases d with
    | dct q z r => exact .inr ⟨by simpa using h, _, w.rle _ _ q⟩
  · rename_i n
    obtain ⟨a, e, rfl⟩ := d
    split at h
    · rename_i vs e1
      obtain ⟨_, xs, q, _⟩ := w.cell n a _ e e1
      exact .inl ⟨by simpa using h, xs, SqL.of q⟩
    · rename_i vs e1
      obtain ⟨_, xs, q, _⟩ := w.cell n a _ e e1
      exact .inr ⟨by simpa using h, xs, .inl q⟩
    · cases h
  · cases h
def appVl (o : Val) (as : List Val) : M Val := fun mh => match o, as with
  | .ref n, [v] => match mh[n]? with
    | some (.lst vs) => if vs.length < sizeLine then some (.d .none, mh.set n (.lst (vs ++ [v]))) else none
    | _ => none
  | _, _ => none
theorem mts_append : MtS X "list" "list.append" appVl := by
  refine ⟨_, mt_append, fun Q w dx dv e q => ?_⟩
  rename_i mh mh' F ρ H x xs o v vs
  unfold appVl at e
  split at e
  · rename_i n v0
    obtain ⟨a, ea, rfl⟩ := dx
    cases dv with
    | @cons u _ _ _ d dn =>
      cases dn
      split at e
      · rename_i ws e1
        split at e
        · rename_i hl
          cases e
          obtain ⟨hz, us, h1, h2⟩ := w.cell n a _ ea e1
          obtain ⟨w', g⟩ := w.write (u := .lst (us ++ [u])) (o := .lst (ws ++ [v0])) ea e1 rfl ⟨by rw [List.length_append]; exact hl, _, upd_same, h2.append (.cons d .nil)⟩
          exact ⟨a, us, _, rfl, rfl, h1, by rw [show us.length = ws.length from h2.length]; exact hl, q _ _ _ w' g Den.non⟩
        · cases e
      · cases e
  · cases e
theorem list_extend_tupW (l : Addr) (items : Array Value) (n : Nat) (b : Addr) (items2 : Array Value) (n2 : Nat) (dd2 : Option Addr) (sl2 : Array (Option Value)) (hs0 : ¬(!items.isEmpty && Builtin.List.listTooLong (items.size + items2.size)) = true) (hs1 : items.size ≤ sizeLine) (hs2 : items.size + items2.size ≤ sizeLine + 1) :
    Meets (Builtin.«list.extend» ⟨[.ref l, .ref b], []⟩) (fun _ R s => s.heap.get? l = some { cls := .type "list", dict := none, data := .seq items n, slots := #[] } ∧ s.heap.get? b = some { cls := .type "tuple", dict := dd2, data := .seq items2 n2, slots := sl2 } ∧ R (.ok (.ret Value.none)) { s with heap := s.heap.update l (Obj.mapSeq fun x => x ++ items2), toks := s.toks }) :=
  .of_wp fun prog w A R s h => by
    obtain ⟨hp, g, d, tk, os⟩ := s; obtain ⟨hl, hb, h⟩ := h; have f1 := AutoSeq1.idx_int; have f2 := AutoSeq1.sub_tuple_tuple; have f3 := AutoSeq1.sub_list_list; have f4 := AutoSeq1.sub_tuple_list; have f5 := AutoSeq1.sub_list_tuple;
    have hz' : (items ++ items2).size ≤ sizeLine + 1 := by rw [Array.size_append]; exact hs2
    wp_walk using (PySem.wpAny_updateSeq hl rfl (hz := hs1) (_hz' := hz')), AutoSeq1.wpAny_loadPart' hl, AutoSeq1.wpAny_loadPart' hb; exact ⟨_, rfl, h⟩
theorem list_extend_listW (l : Addr) (items : Array Value) (n : Nat) (b : Addr) (items2 : Array Value) (n2 : Nat) (dd2 : Option Addr) (sl2 : Array (Option Value)) (hs0 : ¬(!items.isEmpty && Builtin.List.listTooLong (items.size + items2.size)) = true) (hs1 : items.size ≤ sizeLine) (hs2 : items.size + items2.size ≤ sizeLine + 1) :
    Meets (Builtin.«list.extend» ⟨[.ref l, .ref b], []⟩) (fun _ R s => s.heap.get? l = some { cls := .type "list", dict := none, data := .seq items n, slots := #[] } ∧ s.heap.get? b = some { cls := .type "list", dict := dd2, data := .seq items2 n2, slots := sl2 } ∧ R (.ok (.ret Value.none)) { s with heap := s.heap.update l (Obj.mapSeq fun x => x ++ items2), toks := s.toks }) :=
  .of_wp fun prog w A R s h => by
    obtain ⟨hp, g, d, tk, os⟩ := s; obtain ⟨hl, hb, h⟩ := h; have f1 := AutoSeq1.idx_int; have f2 := AutoSeq1.sub_tuple_tuple; have f3 := AutoSeq1.sub_list_list; have f4 := AutoSeq1.sub_tuple_list; have f5 := AutoSeq1.sub_list_tuple;
    have hz' : (items ++ items2).size ≤ sizeLine + 1 := by rw [Array.size_append]; exact hs2
    wp_walk using (PySem.wpAny_updateSeq hl rfl (hz := hs1) (_hz' := hz')), AutoSeq1.wpAny_loadPart' hl, AutoSeq1.wpAny_loadPart' hb; exact ⟨_, rfl, h⟩
theorem mt_extA : MtR X "list.extend" (fun x vs H Q => ∃ l b xs zs, x = .ref l ∧ vs = [.ref b] ∧ H l = some (.lst xs) ∧ (SqL X.K H b zs ∨ SqT X.K H b zs) ∧ xs.length + zs.length ≤ sizeLine ∧ Q .non (upd H l (.lst (xs ++ zs)))) := by
  intro pins s σ H x vs v us Q I rx rv h
  obtain ⟨l, b, xs, zs, rfl, rfl, hH, hB, hz, q⟩ := h
  cases rx
  obtain ⟨u, rfl, ru⟩ := rv.one
  cases ru
  obtain ⟨z, its, n, r, hl, e⟩ := I.lstM hH
  have fin : ∀ its2 : List Value, Vals zs its2 → Inv X pins σ (upd H l (.lst (xs ++ zs))) { s with heap := s.heap.update l (Obj.mapSeq fun x => x ++ its2.toArray) } := fun its2 r2 =>
    I.lset (its' := its ++ its2) hH e (by simp) (r.append r2) (by rw [List.length_append]; exact hz)
  have hlong : ∀ its2 : List Value, Vals zs its2 → ¬ (!its.toArray.isEmpty && Builtin.List.listTooLong (its.toArray.size + its2.toArray.size)) = true := fun its2 r2 => by
    rw [notLongL (by rw [List.size_toArray, List.size_toArray, ← r.length, ← r2.length]; exact hz), Bool.and_false]
    exact Bool.false_ne_true
  rcases hB with hB | hB
  · obtain ⟨its2, r2, pl, z2⟩ := I.list hB
    obtain ⟨⟨cls2, dd2, data2, sl2⟩, ho2, hc2, n2, hd2⟩ := pl.isList
    simp only at hc2 hd2
    subst hc2 hd2
    refine call_meets F.slot_list_extend ⟨_, e, rfl⟩ F.entry_list_extend (F.args_list_extend_2 _ _)
      (list_extend_listW l its.toArray n b its2.toArray n2 dd2 sl2 (hlong its2 r2) (by rw [List.size_toArray, ← r.length]; omega) (by rw [List.size_toArray, List.size_toArray, ← r.length, ← r2.length]; omega)) ⟨e, ho2, ?_⟩
    exact ⟨.non, _, fin its2 r2, rfl, q⟩
  · obtain ⟨its2, r2, ⟨⟨cls2, dd2, data2, sl2⟩, ho2, hc2, n2, hd2⟩, z2⟩ := I.tuple hB
    simp only at hc2 hd2
    subst hc2 hd2
    refine call_meets F.slot_list_extend ⟨_, e, rfl⟩ F.entry_list_extend (F.args_list_extend_2 _ _)
      (list_extend_tupW l its.toArray n b its2.toArray n2 dd2 sl2 (hlong its2 r2) (by rw [List.size_toArray, ← r.length]; omega) (by rw [List.size_toArray, List.size_toArray, ← r.length, ← r2.length]; omega)) ⟨e, ho2, ?_⟩
    exact ⟨.non, _, fin its2 r2, rfl, q⟩
def extVl (o : Val) (as : List Val) : M Val := fun mh => match o, as with
  | .ref n, [v] => match mh[n]?, seqA mh v with
    | some (.lst vs), some ws => if vs.length + ws.length ≤ sizeLine then some (.d .none, mh.set n (.lst (vs ++ ws))) else none
    | _, _ => none
  | _, _ => none
theorem mts_extend : MtS X "list" "list.extend" extVl := by
  refine ⟨_, mt_extA, fun Q w dx dv e q => ?_⟩
  rename_i mh mh' F ρ H x xs o v vs
  unfold extVl at e
  split at e
  · rename_i n v0
    obtain ⟨a, ea, rfl⟩ := dx
    cases dv with
    | @cons u _ _ _ d dn =>
      cases dn
      split at e
      · rename_i vs ws e1 e2
        split at e
        · rename_i hl
          cases e
          obtain ⟨hz, us, h1, h2⟩ := w.cell n a _ ea e1
          obtain ⟨b, us2, rfl, h3, h4, h5⟩ := seqA_ok w d e2
          obtain ⟨w', g⟩ := w.write (u := .lst (us ++ us2)) (o := .lst (vs ++ ws)) ea e1 rfl ⟨by rw [List.length_append]; exact hl, _, upd_same, h2.append h4⟩
          exact ⟨a, b, us, us2, rfl, rfl, h1, h3, by rw [show us.length = vs.length from h2.length, show us2.length = ws.length from h4.length]; exact hl, q _ _ _ w' g Den.non⟩
        · cases e
      · cases e
  · cases e
def getVl (o : Val) (as : List Val) : M Val := fun mh => match as with
  | [k] => match dctOf mh o, keyVl k with
    | some kvs, some k => some ((findK kvs k).getD (.d .none), mh)
    | _, _ => none
  | [k, y] => match dctOf mh o, keyVl k with
    | some kvs, some k => some ((findK kvs k).getD y, mh)
    | _, _ => none
  | _ => none
theorem mts_get (hu : X.A.units + 1 < cLine) : MtS X "dict" "dict.get" getVl := by
  refine ⟨fun x vs H Q => (∃ a y o, x = .ref a ∧ vs = [y] ∧ DGet H a y o ∧ Q (o.getD .non) H) ∨ ∃ a y z o, x = .ref a ∧ vs = [y, z] ∧ DGet H a y o ∧ Q (o.getD z) H, ?_, fun Q w dx dv e q => ?_⟩
  · intro pins s σ H x vs v us Q I rx rv h
    rcases h with ⟨a, y, o, rfl, rfl, g, q⟩ | ⟨a, y, z, o, rfl, rfl, g, q⟩
    · cases rx
      obtain ⟨u, rfl, ru⟩ := rv.one
      exact d_get1 hu I g ru fun w' s3 I3 rw' => ⟨_, H, I3, rw', q⟩
    · cases rx
      obtain ⟨u1, u2, rfl, r1, r2⟩ := rv.two
      exact d_get2 hu I g r1 r2 fun w' s3 I3 rw' => ⟨_, H, I3, rw', q⟩
  · rename_i mh mh' F ρ H x xs o v vs
    unfold getVl at e
    split at e
    · rename_i k
      cases dv with
      | @cons u _ _ _ d dn =>
        cases dn
        split at e
        · rename_i kvs k' e1 e2
          cases e
          obtain ⟨a, ks, rfl, h1, h2⟩ := dctOf_ok w dx e1
          refine .inl ⟨a, u, valV ks k', rfl, rfl, .inl ⟨ks, k', h1, key_den d e2, rfl⟩, ?_⟩
          rcases findK_ok (k := k') h2 with ⟨h3, h4⟩ | ⟨u', v', h3, h4, h5⟩
          · rw [h3]; rw [h4] at q; exact q _ _ _ w .refl Den.non
          · rw [h3]; rw [h4] at q; exact q _ _ _ w .refl h5
        · cases e
    · rename_i k y
      cases dv with
      | @cons u _ _ _ d dn =>
        cases dn with
        | @cons u2 _ _ _ d2 dn =>
          cases dn
          split at e
          · rename_i kvs k' e1 e2
            cases e
            obtain ⟨a, ks, rfl, h1, h2⟩ := dctOf_ok w dx e1
            refine .inr ⟨a, u, u2, valV ks k', rfl, rfl, .inl ⟨ks, k', h1, key_den d e2, rfl⟩, ?_⟩
            rcases findK_ok (k := k') h2 with ⟨h3, h4⟩ | ⟨u', v', h3, h4, h5⟩
            · rw [h3]; rw [h4] at q; exact q _ _ _ w .refl d2
            · rw [h3]; rw [h4] at q; exact q _ _ _ w .refl h5
          · cases e
    · cases e
def startsVl (o : Val) (as : List Val) : M Val := fun mh => match o, as with
  | .d (.str a), [.d (.str b)] => some (.d (.bool (Txt.startswith a b)), mh)
  | _, _ => none
theorem mts_starts : MtS X "str" "str.startswith" startsVl := by
  refine ⟨_, mt_startswith, fun Q w dx dv e q => ?_⟩
  unfold startsVl at e
  split at e
  · cases dv with
    | cons d dn =>
      cases dn
      cases e
      have := den_str dx
      subst this
      have := den_str d
      subst this
      exact ⟨_, _, rfl, rfl, q _ _ _ w .refl (Den.bl _)⟩
  · cases e
def insVl (o : Val) (as : List Val) : M Val := fun mh => match o, as with
  | .ref n, [.d (.int i), v] => match mh[n]? with
    | some (.lst vs) => if vs.length < sizeLine ∧ 0 ≤ i ∧ i < 2 ^ 63 then some (.d .none, mh.set n (.lst (vs.take i.toNat ++ [v] ++ vs.drop i.toNat))) else none
    | _ => none
  | _, _ => none
theorem mts_insert : MtS X "list" "list.insert" insVl := by
  refine ⟨_, mt_insert, fun Q w dx dv e q => ?_⟩
  rename_i mh mh' F ρ H x xs o v vs
  unfold insVl at e
  split at e
  · rename_i n i v0
    obtain ⟨a, ea, rfl⟩ := dx
    cases dv with
    | @cons u0 _ _ _ d0 dn =>
      cases dn with
      | @cons u _ _ _ d dn =>
        cases dn
        have := den_int d0
        subst this
        split at e
        · rename_i ws e1
          split at e
          · rename_i hl
            cases e
            obtain ⟨hz, us, h1, h2⟩ := w.cell n a _ ea e1
            have hlen : (ws.take i.toNat ++ [v0] ++ ws.drop i.toNat).length ≤ sizeLine := by
              rw [List.length_append, List.length_append, List.length_take, List.length_drop, List.length_singleton]
              omega
            obtain ⟨w', g⟩ := w.write (u := .lst (us.take i.toNat ++ [u] ++ us.drop i.toNat)) (o := .lst (ws.take i.toNat ++ [v0] ++ ws.drop i.toNat)) ea e1 rfl ⟨hlen, _, upd_same, ((h2.take _).append (.cons d .nil)).append (h2.drop _)⟩
            exact ⟨a, us, i, u, rfl, rfl, h1, by rw [show us.length = ws.length from h2.length]; exact hl.1, hl.2.1, hl.2.2, q _ _ _ w' g Den.non⟩
          · cases e
        · cases e
  · cases e
def popVl (o : Val) (as : List Val) : M Val := fun mh => match o, as with
  | .ref n, [] => match mh[n]? with
    | some (.lst vs) => (vs[vs.length - 1]?).map fun v => (v, mh.set n (.lst vs.dropLast))
    | _ => none
  | _, _ => none
theorem mts_pop : MtS X "list" "list.pop" popVl := by
  refine ⟨_, mt_pop, fun Q w dx dv e q => ?_⟩
  rename_i mh mh' F ρ H x xs o v vs
  unfold popVl at e
  split at e
  · rename_i n
    obtain ⟨a, ea, rfl⟩ := dx
    cases dv
    split at e
    · rename_i ws e1
      cases e2 : ws[ws.length - 1]? with
      | none => rw [e2] at e; cases e
      | some v0 =>
        rw [e2] at e
        cases e
        obtain ⟨hz, us, h1, h2⟩ := w.cell n a _ ea e1
        obtain ⟨u, h3, h4⟩ := h2.get e2
        obtain ⟨w', g⟩ := w.write (u := .lst us.dropLast) (o := .lst ws.dropLast) ea e1 rfl ⟨by rw [List.length_dropLast]; omega, _, upd_same, h2.dropLast⟩
        exact ⟨a, us, u, rfl, rfl, h1, by rw [show us.length = ws.length from h2.length]; exact h3, q _ _ _ w' g h4⟩
    · cases e
  · cases e
end
end Pv

/-! P5: expressions -/
namespace Pv
open PySem PySem.Spec PyProof.Rows L2

/-! ### the state of a body -/
abbrev Sl := List (Option Val)
structure Rl (K : PySem.W.Frag) (env : Sl) (mh : List Ob) (F : Hp) (ρ : List Addr) (σ : L2.St) (H : Hp) : Prop where
  wd : Wd K mh F ρ H
  len : σ.length = env.length
  get : ∀ (i : Nat) (v : Val), env[i]? = some (some v) → ∃ u, σ[i]? = some (some u) ∧ DenV K F ρ u v
section
variable {K : PySem.W.Frag} {env : Sl} {mh mh' : List Ob} {F F' : Hp} {ρ ρ' : List Addr} {σ : L2.St} {H H' : Hp}
theorem Rl.grow (r : Rl K env mh F ρ σ H) (w : Wd K mh' F' ρ' H') (g : Gr F ρ H F' ρ' H') : Rl K env mh' F' ρ' σ H' :=
  ⟨w, r.len, fun i v e => let ⟨u, h1, h2⟩ := r.get i v e; ⟨u, h1, h2.mono g.rd g.pre⟩⟩
theorem DenV.grow {u : V} {v : Val} (d : DenV K F ρ u v) (g : Gr F ρ H F' ρ' H') : DenV K F' ρ' u v := d.mono g.rd g.pre
theorem DenVs.grow {u : List V} {v : List Val} (d : DenVs K F ρ u v) (g : Gr F ρ H F' ρ' H') : DenVs K F' ρ' u v := d.mono g.rd g.pre
theorem Rl.set {u : V} {v : Val} (r : Rl K env mh F ρ σ H) (i : Nat) (d : DenV K F ρ u v) : Rl K (env.set i (some v)) mh F ρ (σ.set i (some u)) H := by
  refine ⟨r.wd, by rw [List.length_set, List.length_set]; exact r.len, fun j w e => ?_⟩
  by_cases h : i = j
  · subst h
    have hi : i < env.length := by
      have := (List.getElem?_eq_some_iff.mp e).1
      rwa [List.length_set] at this
    rw [List.getElem?_set_self hi] at e
    cases e
    exact ⟨u, by rw [List.getElem?_set_self (by rw [r.len]; exact hi)], d⟩
  · rw [List.getElem?_set_ne h] at e ⊢
    exact r.get j w e
theorem Rl.wiped (r : Rl K env mh F ρ σ H) : ∀ vs : List Nat, Rl K (vs.foldr (fun i e => e.set i none) env) mh F ρ (wipe σ vs) H
  | [] => r
  | v :: vs => by
    have ih := Rl.wiped r vs
    refine ⟨r.wd, ?_, fun j w e => ?_⟩
    · show ((wipe σ vs).set v none).length = _
      rw [List.length_set, List.foldr_cons, List.length_set]
      exact ih.len
    · rw [List.foldr_cons] at e
      show ∃ u, ((wipe σ vs).set v none)[j]? = some (some u) ∧ _
      by_cases h : v = j
      · subst h
        by_cases hl : v < (vs.foldr (fun i e => e.set i none) env).length
        · rw [List.getElem?_set_self hl] at e; cases e
        · rw [List.getElem?_eq_none (by rw [List.length_set]; omega)] at e; cases e
      · rw [List.getElem?_set_ne h] at e ⊢
        exact ih.get j w e
end

/-! ### the judgements -/
def tE (K : PySem.W.Frag) (m : Sl → M Val) : TE := fun σ H Q => ∃ env mh F ρ v mh', Rl K env mh F ρ σ H ∧ m env mh = some (v, mh') ∧ ∀ F' ρ' H' u, Wd K mh' F' ρ' H' → Gr F ρ H F' ρ' H' → DenV K F' ρ' u v → Q u H'
def tTs (K : PySem.W.Frag) (m : Sl → M Bool) : TT := fun σ H Q => ∃ env mh F ρ b mh', Rl K env mh F ρ σ H ∧ m env mh = some (b, mh') ∧ ∀ F' ρ' H', Wd K mh' F' ρ' H' → Gr F ρ H F' ρ' H' → Q b H'
def tAs (K : PySem.W.Frag) (m : Sl → M (List Val)) : TA := fun σ H Q => ∃ env mh F ρ vs mh', Rl K env mh F ρ σ H ∧ m env mh = some (vs, mh') ∧ ∀ F' ρ' H' us, Wd K mh' F' ρ' H' → Gr F ρ H F' ρ' H' → DenVs K F' ρ' us vs → Q us H'
def SE (X : Cx) (e : Expr) (m : Sl → M Val) : Prop := PE X e (tE X.K m)
def STs (X : Cx) (e : Expr) (m : Sl → M Bool) : Prop := PT X e (tTs X.K m)
def SA (X : Cx) (es : List Expr) (m : Sl → M (List Val)) : Prop := PA X es (tAs X.K m)

def mSlot (i : Nat) (env : Sl) : M Val := ofO (env.getD i none)
def mArgs : List (Sl → M Val) → Sl → M (List Val)
  | [], _ => pure []
  | m :: ms, env => do
    let v ← m env
    let vs ← mArgs ms env
    pure (v :: vs)
def mBin (f : List Ob → Val → Val → Option Rv) (c : Bool) (a b : Sl → M Val) (env : Sl) : M Val := do
  let x ← a env
  let y ← b env
  let r ← rdM fun mh => f mh x y
  finR c r
def mUn (f : Val → Option Val) (a : Sl → M Val) (env : Sl) : M Val := do
  let x ← a env
  ofO (f x)
section
variable {X : Cx} {a b : Expr} {ma mb : Sl → M Val} {pos : Pos}
theorem SE.mk {e : Expr} {t : TE} {m : Sl → M Val} (h : PE X e t) (k : ∀ {env : Sl} {mh mh' : List Ob} {F : Hp} {ρ : List Addr} {σ : L2.St} {H : Hp} {v : Val} (Q : VK), Rl X.K env mh F ρ σ H → m env mh = some (v, mh') →
    (∀ F' ρ' H' u, Wd X.K mh' F' ρ' H' → Gr F ρ H F' ρ' H' → DenV X.K F' ρ' u v → Q u H') → t σ H Q) : SE X e m := by
  refine ⟨fun pins s σ H Q I h1 => ?_⟩
  obtain ⟨env, mh, F, ρ, v, mh', rl, e1, q⟩ := h1
  exact h.run pins s σ H Q I (k Q rl e1 q)
theorem STs.mk {e : Expr} {t : TT} {m : Sl → M Bool} (h : PT X e t) (k : ∀ {env : Sl} {mh mh' : List Ob} {F : Hp} {ρ : List Addr} {σ : L2.St} {H : Hp} {b : Bool} (Q : Bool → Hp → Prop), Rl X.K env mh F ρ σ H → m env mh = some (b, mh') →
    (∀ F' ρ' H', Wd X.K mh' F' ρ' H' → Gr F ρ H F' ρ' H' → Q b H') → t σ H Q) : STs X e m := by
  refine ⟨fun pins s σ H Q I h1 => ?_⟩
  obtain ⟨env, mh, F, ρ, v, mh', rl, e1, q⟩ := h1
  exact h.run pins s σ H Q I (k Q rl e1 q)
theorem SA.mk {es : List Expr} {t : TA} {m : Sl → M (List Val)} (h : PA X es t) (k : ∀ {env : Sl} {mh mh' : List Ob} {F : Hp} {ρ : List Addr} {σ : L2.St} {H : Hp} {vs : List Val} (Q : List V → Hp → Prop), Rl X.K env mh F ρ σ H → m env mh = some (vs, mh') →
    (∀ F' ρ' H' us, Wd X.K mh' F' ρ' H' → Gr F ρ H F' ρ' H' → DenVs X.K F' ρ' us vs → Q us H') → t σ H Q) : SA X es m := by
  refine ⟨fun pos pins s σ H Q I h1 => ?_⟩
  obtain ⟨env, mh, F, ρ, v, mh', rl, e1, q⟩ := h1
  exact h.run pos pins s σ H Q I (k Q rl e1 q)

/-! ### names, constants -/
theorem se_slot {i : Nat} {x : Str} (hN : X.N[i]? = some x) (hv : Vis X.env.scope x) (hd : (x == ("__debug__" : Str)) = false) (hcd : (x == ("__classdict__" : Str)) = false) : SE X (.Name x pos) (mSlot i) :=
  SE.mk (pe_var hN hv hd hcd) fun Q rl e q => by
    rename_i env mh mh' F ρ σ H v
    obtain ⟨h1, h2⟩ := ofO_some.mp e
    simp only at h1 h2
    subst h2
    have h3 : env[i]? = some (some v) := by
      rw [List.getD_eq_getElem?_getD] at h1
      cases h4 : env[i]? with
      | none => rw [h4] at h1; cases h1
      | some o => rw [h4] at h1; rw [show o = some v from h1]
    obtain ⟨u, h5, h6⟩ := rl.get i v h3
    exact ⟨u, h5, q F ρ H u rl.wd .refl h6⟩
def mC (x : Dt) (_ : Sl) : M Val := pure (.d x)
theorem se_int {i : Int} {j : Nat} : SE X (.Constant (.int i) j pos) (mC (.int i)) := SE.mk pe_int fun Q rl e q => by cases e; exact q _ _ _ _ rl.wd .refl (Den.int i)
theorem se_str {i : Str} {j : Nat} : SE X (.Constant (.str i) j pos) (mC (.str i)) := SE.mk pe_str fun Q rl e q => by cases e; exact q _ _ _ _ rl.wd .refl (Den.str i)
theorem se_bl {i : Bool} {j : Nat} : SE X (.Constant (.bool i) j pos) (mC (.bool i)) := SE.mk pe_bl fun Q rl e q => by cases e; exact q _ _ _ _ rl.wd .refl (Den.bl i)
theorem se_non {j : Nat} : SE X (.Constant .none j pos) (mC .none) := SE.mk pe_non fun Q rl e q => by cases e; exact q _ _ _ _ rl.wd .refl Den.non
/-- a constant of the module: data that stands in the written part -/
theorem se_glob {x : Str} {v : V} {u : Value} {d : Dt} (hg : Gl X x) (hm : X.mg x = some u) (r : RelV v u) (hd : ∀ F, Den X.K F v d) (hdb : (x == ("__debug__" : Str)) = false) : SE X (.Name x pos) (mC d) :=
  SE.mk (pe_glob hg hm r hdb) fun Q rl e q => by cases e; exact q _ _ _ _ rl.wd .refl (hd _)

/-! ### operators -/
theorem se_bin {op : Operator} {f : List Ob → Val → Val → Option Rv} {c : Bool} (o : OpS X (binaryOp op) f) (ha : SE X a ma) (hb : SE X b mb) : SE X (.BinOp a op b pos) (mBin f c ma mb) := by
  obtain ⟨r, o1, o2⟩ := o
  refine SE.mk (pe_op o1 ha hb) fun Q rl e q => ?_
  obtain ⟨x, mh1, e1, e_1⟩ := M.bind_some.mp e
  obtain ⟨y, mh2, e2, e_2⟩ := M.bind_some.mp e_1
  obtain ⟨rv, mh3, e3, e_3⟩ := M.bind_some.mp e_2
  obtain ⟨e3, e4⟩ := rdM_some.mp e3
  simp only at e3 e4
  subst e4
  refine ⟨_, _, _, _, _, _, rl, e1, fun F1 ρ1 H1 u1 w1 g1 d1 => ⟨_, _, _, _, _, _, rl.grow w1 g1, e2, fun F2 ρ2 H2 u2 w2 g2 d2 => ?_⟩⟩
  exact o2 Q w2 (d1.grow g2) d2 e3 (finR_ok e_3 fun F' ρ' H' u w g d => q F' ρ' H' u w ((g1.trans g2).trans g) d)
theorem se_cmp {op : CmpOp} {f : List Ob → Val → Val → Option Rv} (o : OpS X (compareOp op) f) (ha : SE X a ma) (hb : SE X b mb) (hm : behindInMarks op b = false) : SE X (.Compare a [op] [b] pos) (mBin f false ma mb) := by
  obtain ⟨r, o1, o2⟩ := o
  refine SE.mk (pe_cmpR o1 ha hb hm) fun Q rl e q => ?_
  obtain ⟨x, mh1, e1, e_1⟩ := M.bind_some.mp e
  obtain ⟨y, mh2, e2, e_2⟩ := M.bind_some.mp e_1
  obtain ⟨rv, mh3, e3, e_3⟩ := M.bind_some.mp e_2
  obtain ⟨e3, e4⟩ := rdM_some.mp e3
  simp only at e3 e4
  subst e4
  refine ⟨_, _, _, _, _, _, rl, e1, fun F1 ρ1 H1 u1 w1 g1 d1 => ⟨_, _, _, _, _, _, rl.grow w1 g1, e2, fun F2 ρ2 H2 u2 w2 g2 d2 => ?_⟩⟩
  exact o2 Q w2 (d1.grow g2) d2 e3 (finR_ok e_3 fun F' ρ' H' u w g d => q F' ρ' H' u w ((g1.trans g2).trans g) d)
def negVl : Val → Option Val
  | .d (.int i) => some (.d (.int (-i)))
  | _ => none
def notVl : Val → Option Val
  | .d (.bool i) => some (.d (.bool (!i)))
  | _ => none
theorem se_neg (ha : SE X a ma) : SE X (.UnaryOp .USub a pos) (mUn negVl ma) :=
  SE.mk (pe_un un_neg ha) fun Q rl e q => by
    obtain ⟨x, mh1, e1, e_1⟩ := M.bind_some.mp e
    obtain ⟨e2, e3⟩ := ofO_some.mp e_1
    simp only at e2 e3
    subst e3
    refine ⟨_, _, _, _, _, _, rl, e1, fun F1 ρ1 H1 u1 w1 g1 d1 => ?_⟩
    unfold negVl at e2
    split at e2
    · cases e2
      exact ⟨_, den_int d1, q _ _ _ _ w1 g1 (Den.int _)⟩
    · cases e2
theorem se_not (ha : SE X a ma) : SE X (.UnaryOp .Not a pos) (mUn notVl ma) :=
  SE.mk (pe_not ha) fun Q rl e q => by
    obtain ⟨x, mh1, e1, e_1⟩ := M.bind_some.mp e
    obtain ⟨e2, e3⟩ := ofO_some.mp e_1
    simp only at e2 e3
    subst e3
    refine ⟨_, _, _, _, _, _, rl, e1, fun F1 ρ1 H1 u1 w1 g1 d1 => ?_⟩
    unfold notVl at e2
    split at e2
    · cases e2
      exact ⟨_, den_bl d1, q _ _ _ _ w1 g1 (Den.bl _)⟩
    · cases e2
/-- a and b, a or b: the left a bool -/
def mAnd (a b : Sl → M Val) (env : Sl) : M Val := do
  let x ← a env
  match x with
  | .d (.bool true) => b env
  | .d (.bool false) => pure (.d (.bool false))
  | _ => fun _ => none
def mOr (a b : Sl → M Val) (env : Sl) : M Val := do
  let x ← a env
  match x with
  | .d (.bool true) => pure (.d (.bool true))
  | .d (.bool false) => b env
  | _ => fun _ => none
theorem se_one {op : BoolOp} (ha : SE X a ma) : SE X (.BoolOp op [a] pos) ma := pe_one ha
theorem se_and {rest : List Expr} (ha : SE X a ma) (hb : SE X (.BoolOp .And (b :: rest) pos) mb) : SE X (.BoolOp .And (a :: b :: rest) pos) (mAnd ma mb) :=
  SE.mk (pe_and ha hb) fun Q rl e q => by
    obtain ⟨x, mh1, e1, e_1⟩ := M.bind_some.mp e
    refine ⟨_, _, _, _, _, _, rl, e1, fun F1 ρ1 H1 u1 w1 g1 d1 => ?_⟩
    split at e_1
    · exact ⟨true, den_bl d1, _, _, _, _, _, _, rl.grow w1 g1, e_1, fun F' ρ' H' u w g d => q F' ρ' H' u w (g1.trans g) d⟩
    · cases e_1
      exact ⟨false, den_bl d1, q _ _ _ _ w1 g1 (Den.bl _)⟩
    · cases e_1
theorem se_or {rest : List Expr} (ha : SE X a ma) (hb : SE X (.BoolOp .Or (b :: rest) pos) mb) : SE X (.BoolOp .Or (a :: b :: rest) pos) (mOr ma mb) :=
  SE.mk (pe_or ha hb) fun Q rl e q => by
    obtain ⟨x, mh1, e1, e_1⟩ := M.bind_some.mp e
    refine ⟨_, _, _, _, _, _, rl, e1, fun F1 ρ1 H1 u1 w1 g1 d1 => ?_⟩
    split at e_1
    · cases e_1
      exact ⟨true, den_bl d1, q _ _ _ _ w1 g1 (Den.bl _)⟩
    · exact ⟨false, den_bl d1, _, _, _, _, _, _, rl.grow w1 g1, e_1, fun F' ρ' H' u w g d => q F' ρ' H' u w (g1.trans g) d⟩
    · cases e_1

/-! ### tests -/
def truVl (mh : List Ob) : Val → Option Bool
  | .d .none => some false
  | .d (.bool b) => some b
  | .d (.int i) => some (i != 0)
  | .d (.str x) => if x.length ≤ sizeLine then some ((x.length : Int) != 0) else none
  | v => (seqA mh v).map fun vs => !vs.isEmpty
theorem truVl_ok {K : PySem.W.Frag} {mh : List Ob} {F : Hp} {ρ : List Addr} {H : Hp} {u : V} {v : Val} {b : Bool} (w : Wd K mh F ρ H) (d : DenV K F ρ u v) (h : truVl mh v = some b) : TruV K u H b := by
  unfold truVl at h
  split at h
  · cases h; rw [den_non d]; rfl
  · cases h; rw [den_bl d]; rfl
  · cases h; rw [den_int d]; rfl
  · split at h
    · cases h; rw [den_str d]; exact ⟨‹_›, rfl⟩
    · cases h
  · cases e : seqA mh v with
    | none => rw [e] at h; cases h
    | some vs =>
      rw [e] at h
      cases h
      obtain ⟨a, us, rfl, h1, h2, _⟩ := seqA_ok w d e
      have he : (!vs.isEmpty) = !us.isEmpty := by cases h2 <;> rfl
      rcases h1 with h1 | h1
      · exact .inl ⟨us, h1, he⟩
      · exact .inr (.inl ⟨us, h1, he⟩)
def mTru (a : Sl → M Val) (env : Sl) : M Bool := do
  let x ← a env
  rdM fun mh => truVl mh x
theorem st_tru (ha : SE X a ma) (he : ∀ whole, isTrue a X.env whole = (do let v ← whole; standAt a.pos; holding [v] (truthy v))) : STs X a (mTru ma) :=
  STs.mk (pt_truth ha he) fun Q rl e q => by
    obtain ⟨x, mh1, e1, e_1⟩ := M.bind_some.mp e
    obtain ⟨e2, e3⟩ := rdM_some.mp e_1
    simp only at e2 e3
    subst e3
    exact ⟨_, _, _, _, _, _, rl, e1, fun F1 ρ1 H1 u1 w1 g1 d1 => ⟨_, truVl_ok w1 d1 e2, q _ _ _ w1 g1⟩⟩
/-- a comparison as a test -/
def rvB : Rv → Option Bool
  | .v (.d (.bool b)) => some b
  | _ => none
def mCmpT (f : List Ob → Val → Val → Option Rv) (a b : Sl → M Val) (env : Sl) : M Bool := do
  let x ← a env
  let y ← b env
  rdM fun mh => (f mh x y).bind rvB
theorem rvB_some {o : Option Rv} {b : Bool} (h : o.bind rvB = some b) : o = some (.v (.d (.bool b))) := by
  cases o with
  | none => cases h
  | some r =>
    have h : rvB r = some b := h
    unfold rvB at h
    split at h
    · cases h; rfl
    · cases h
theorem st_cmp {op : CmpOp} {f : List Ob → Val → Val → Option Rv} (o : OpS X (compareOp op) f) (ha : SE X a ma) (hb : SE X b mb) (hm : behindInMarks op b = false) : STs X (.Compare a [op] [b] pos) (mCmpT f ma mb) := by
  obtain ⟨r, o1, o2⟩ := o
  refine STs.mk (pt_cmpR o1 ha hb hm) fun Q rl e q => ?_
  obtain ⟨x, mh1, e1, e_1⟩ := M.bind_some.mp e
  obtain ⟨y, mh2, e2, e_2⟩ := M.bind_some.mp e_1
  obtain ⟨e3, e4⟩ := rdM_some.mp e_2
  simp only at e3 e4
  subst e4
  refine ⟨_, _, _, _, _, _, rl, e1, fun F1 ρ1 H1 u1 w1 g1 d1 => ⟨_, _, _, _, _, _, rl.grow w1 g1, e2, fun F2 ρ2 H2 u2 w2 g2 d2 => ?_⟩⟩
  refine o2 _ w2 (d1.grow g2) d2 (rvB_some e3) fun F' H' u w g d => ?_
  exact ⟨_, den_bl d, q _ _ _ w ((g1.trans g2).trans g)⟩
def mNotT (a : Sl → M Bool) (env : Sl) : M Bool := do
  let x ← a env
  pure (!x)
theorem st_not {ta : Sl → M Bool} (ha : STs X a ta) : STs X (.UnaryOp .Not a pos) (mNotT ta) :=
  STs.mk (pt_not ha) fun Q rl e q => by
    obtain ⟨x, mh1, e1, e_1⟩ := M.bind_some.mp e
    cases e_1
    exact ⟨_, _, _, _, _, _, rl, e1, fun F1 ρ1 H1 w1 g1 => q _ _ _ w1 g1⟩
/-- and, or as tests -/
def SW (X : Cx) (e : Expr) (m : Sl → M Bool) : Prop := PW X e (tTs X.K m)
def mAndT (a b : Sl → M Bool) (env : Sl) : M Bool := do
  let x ← a env
  if x then b env else pure false
def mOrT (a b : Sl → M Bool) (env : Sl) : M Bool := do
  let x ← a env
  if x then pure true else b env
theorem SW.mk {e : Expr} {t : TT} {m : Sl → M Bool} (h : PW X e t) (k : ∀ {env : Sl} {mh mh' : List Ob} {F : Hp} {ρ : List Addr} {σ : L2.St} {H : Hp} {b : Bool} (Q : Bool → Hp → Prop), Rl X.K env mh F ρ σ H → m env mh = some (b, mh') →
    (∀ F' ρ' H', Wd X.K mh' F' ρ' H' → Gr F ρ H F' ρ' H' → Q b H') → t σ H Q) : SW X e m := by
  refine ⟨fun wh pins s σ H Q I h1 => ?_⟩
  obtain ⟨env, mh, F, ρ, v, mh', rl, e1, q⟩ := h1
  exact h.run wh pins s σ H Q I (k Q rl e1 q)
theorem SW.st {e : Expr} {m : Sl → M Bool} (h : SW X e m) : STs X e m := PW.pt h
theorem sw_and1 {ta : Sl → M Bool} (ha : STs X a ta) : SW X (.BoolOp .And [a] pos) ta := pw_and1 ha
theorem sw_or1 {ta : Sl → M Bool} (ha : STs X a ta) : SW X (.BoolOp .Or [a] pos) ta := pw_or1 ha
theorem sw_and {rest : List Expr} {ta tb : Sl → M Bool} (ha : STs X a ta) (hb : SW X (.BoolOp .And (b :: rest) pos) tb) : SW X (.BoolOp .And (a :: b :: rest) pos) (mAndT ta tb) :=
  SW.mk (pw_and ha hb) fun Q rl e q => by
    obtain ⟨x, mh1, e1, e_1⟩ := M.bind_some.mp e
    refine ⟨_, _, _, _, _, _, rl, e1, fun F1 ρ1 H1 w1 g1 => ?_⟩
    cases x with
    | true => exact ⟨_, _, _, _, _, _, rl.grow w1 g1, e_1, fun F' ρ' H' w g => q F' ρ' H' w (g1.trans g)⟩
    | false => cases e_1; exact q _ _ _ w1 g1
theorem sw_or {rest : List Expr} {ta tb : Sl → M Bool} (ha : STs X a ta) (hb : SW X (.BoolOp .Or (b :: rest) pos) tb) : SW X (.BoolOp .Or (a :: b :: rest) pos) (mOrT ta tb) :=
  SW.mk (pw_or ha hb) fun Q rl e q => by
    obtain ⟨x, mh1, e1, e_1⟩ := M.bind_some.mp e
    refine ⟨_, _, _, _, _, _, rl, e1, fun F1 ρ1 H1 w1 g1 => ?_⟩
    cases x with
    | false => exact ⟨_, _, _, _, _, _, rl.grow w1 g1, e_1, fun F' ρ' H' w g => q F' ρ' H' w (g1.trans g)⟩
    | true => cases e_1; exact q _ _ _ w1 g1
/-- x if t else y -/
def mIte {α : Type} (t : Sl → M Bool) (a b : Sl → M α) (env : Sl) : M α := do
  let x ← t env
  if x then a env else b env
theorem se_ife {c : Expr} {tc : Sl → M Bool} (hc : STs X c tc) (ha : SE X a ma) (hb : SE X b mb) : SE X (.IfExp c a b pos) (mIte tc ma mb) :=
  SE.mk (pe_ifExp hc ha hb) fun Q rl e q => by
    obtain ⟨x, mh1, e1, e_1⟩ := M.bind_some.mp e
    refine ⟨_, _, _, _, _, _, rl, e1, fun F1 ρ1 H1 w1 g1 => ?_⟩
    cases x with
    | true => exact ⟨_, _, _, _, _, _, rl.grow w1 g1, e_1, fun F' ρ' H' u w g d => q F' ρ' H' u w (g1.trans g) d⟩
    | false => exact ⟨_, _, _, _, _, _, rl.grow w1 g1, e_1, fun F' ρ' H' u w g d => q F' ρ' H' u w (g1.trans g) d⟩

/-! ### argument lists, displays -/
theorem sa_nil : SA X [] (mArgs []) := SA.mk pa_nil fun Q rl e q => by cases e; exact q _ _ _ _ rl.wd .refl .nil
theorem sa_cons {es : List Expr} {ms : List (Sl → M Val)} (ha : SE X a ma) (hr : SA X es (mArgs ms)) (hs : starEach (a :: es) X.env = (false, eval a X.env) :: starEach es X.env) : SA X (a :: es) (mArgs (ma :: ms)) :=
  SA.mk (pa_cons ha hr hs) fun Q rl e q => by
    obtain ⟨x, mh1, e1, e_1⟩ := M.bind_some.mp e
    obtain ⟨xs, mh2, e2, e_2⟩ := M.bind_some.mp e_1
    cases e_2
    exact ⟨_, _, _, _, _, _, rl, e1, fun F1 ρ1 H1 u1 w1 g1 d1 => ⟨_, _, _, _, _, _, rl.grow w1 g1, e2, fun F2 ρ2 H2 us w2 g2 d2 => q _ _ _ _ w2 (g1.trans g2) (.cons (d1.grow g2) d2)⟩⟩
def mTup (as : Sl → M (List Val)) (env : Sl) : M Val := do
  let vs ← as env
  ofO ((asDs vs).bind fun ds => if ds.length ≤ sizeLine then some (.d (.tuple ds)) else none)
def mLst (c : Bool) (as : Sl → M (List Val)) (env : Sl) : M Val := do
  let vs ← as env
  if vs.length ≤ sizeLine then finR c (.nl vs) else fun _ => none
theorem se_tup {es : List Expr} {as : Sl → M (List Val)} {j : Nat} (h : SA X es as) : SE X (.Tuple es j pos) (mTup as) :=
  SE.mk (pe_tup h) fun Q rl e q => by
    obtain ⟨vs, mh1, e1, e_1⟩ := M.bind_some.mp e
    obtain ⟨e2, e3⟩ := ofO_some.mp e_1
    simp only at e2 e3
    subst e3
    refine ⟨_, _, _, _, _, _, rl, e1, fun F1 ρ1 H1 us w1 g1 d1 => ?_⟩
    cases e4 : asDs vs with
    | none => rw [e4] at e2; cases e2
    | some ds =>
      rw [e4] at e2
      simp only [Option.bind_some] at e2
      split at e2
      · rename_i hz
        cases e2
        have e5 := asDs_eq e4
        subst e5
        refine ⟨by rw [d1.length, List.length_map]; exact hz, fun p hp => ?_⟩
        obtain ⟨w', g'⟩ := w1.newF (o := .tup us) hp
        exact q _ _ _ _ w' (g1.trans g') (Den.tup (.inl (.inl upd_same)) hz (d1.all.mono (Rle.upd (w1.freshF hp))))
      · cases e2
theorem se_lst {es : List Expr} {as : Sl → M (List Val)} {c : Bool} (h : SA X es as) : SE X (.List es pos) (mLst c as) :=
  SE.mk (pe_lst h) fun Q rl e q => by
    obtain ⟨vs, mh1, e1, e_1⟩ := M.bind_some.mp e
    split at e_1
    · rename_i hz
      refine ⟨_, _, _, _, _, _, rl, e1, fun F1 ρ1 H1 us w1 g1 d1 => ⟨by rw [d1.length]; exact hz, fun p hp => ?_⟩⟩
      exact PostR.list (finR_ok e_1 fun F' ρ' H' u w g d => q F' ρ' H' u w (g1.trans g) d) w1 hp d1 hz
    · cases e_1
def mDict0 (c : Bool) (_ : Sl) : M Val := finR c (.nd [])
theorem se_dict0 {c : Bool} : SE X (.Dict [] [] pos) (mDict0 c) :=
  SE.mk pe_dnewK fun Q rl e q => by
    intro p hp
    exact (finR_ok (K := X.K) e q : PostR _ _ _ _ _ Q (.nd [])) _ _ [] p rl.wd .refl (Nat.zero_le _) .nil hp

/-! ### subscripts, slices -/
def mIx (a b : Sl → M Val) (env : Sl) : M Val := do
  let x ← a env
  let y ← b env
  rdM fun mh => ixVl mh x y
theorem se_ix (hu : X.A.units + 1 < cLine) (ha : SE X a ma) (hb : SE X b mb) (hs : PlainIx b) : SE X (.Subscript a b pos) (mIx ma mb) := by
  obtain ⟨r, o1, o2⟩ := ixs_all hu
  refine SE.mk (pe_ix o1 ha hb hs) fun Q rl e q => ?_
  obtain ⟨x, mh1, e1, e_1⟩ := M.bind_some.mp e
  obtain ⟨y, mh2, e2, e_2⟩ := M.bind_some.mp e_1
  obtain ⟨e3, e4⟩ := rdM_some.mp e_2
  simp only at e3 e4
  subst e4
  refine ⟨_, _, _, _, _, _, rl, e1, fun F1 ρ1 H1 u1 w1 g1 d1 => ⟨_, _, _, _, _, _, rl.grow w1 g1, e2, fun F2 ρ2 H2 u2 w2 g2 d2 => ?_⟩⟩
  exact o2 Q w2 (d1.grow g2) d2 e3 fun u d => q _ _ _ _ w2 (g1.trans g2) d
/-- a slice's part -/
def SO (X : Cx) (e : Option Expr) (m : Sl → M (Option Int)) : Prop := PO X e (fun σ H Q => ∃ env mh F ρ v mh', Rl X.K env mh F ρ σ H ∧ m env mh = some (v, mh') ∧ ∀ F' ρ' H', Wd X.K mh' F' ρ' H' → Gr F ρ H F' ρ' H' → Q v H')
def mPart (a : Sl → M Val) (env : Sl) : M (Option Int) := do
  let x ← a env
  ofO ((asInt x).map some)
def mNoPart (_ : Sl) : M (Option Int) := pure none
theorem so_none : SO X none mNoPart := ⟨fun pins s σ H Q I h => by
  obtain ⟨env, mh, F, ρ, v, mh', rl, e, q⟩ := h
  cases e
  exact po_none.run pins s σ H Q I (q _ _ _ rl.wd .refl)⟩
theorem so_some (ha : SE X a ma) : SO X (some a) (mPart ma) := ⟨fun pins s σ H Q I h => by
  obtain ⟨env, mh, F, ρ, v, mh', rl, e, q⟩ := h
  obtain ⟨x, mh1, e1, e_1⟩ := M.bind_some.mp e
  obtain ⟨e2, e3⟩ := ofO_some.mp e_1
  simp only at e2 e3
  subst e3
  refine (po_some ha).run pins s σ H Q I ⟨_, _, _, _, _, _, rl, e1, fun F1 ρ1 H1 u1 w1 g1 d1 => ?_⟩
  cases e4 : asInt x with
  | none => rw [e4] at e2; cases e2
  | some i =>
    rw [e4] at e2
    cases e2
    exact ⟨i, asInt_ok d1 e4, q _ _ _ w1 g1⟩⟩
def mSl (c : Bool) (a : Sl → M Val) (lo hi : Sl → M (Option Int)) (env : Sl) : M Val := do
  let x ← a env
  let l ← lo env
  let h ← hi env
  let r ← rdM fun mh => slVl mh x l h
  finR c r
theorem se_sl {lo hi : Option Expr} {ml mhi : Sl → M (Option Int)} {c : Bool} {p2 : Pos} (ha : SE X a ma) (hl : SO X lo ml) (hh : SO X hi mhi) : SE X (.Subscript a (.Slice lo hi none p2) pos) (mSl c ma ml mhi) := by
  obtain ⟨r, o1, o2⟩ := sls_all (X := X)
  refine SE.mk (pe_slice o1 ha hl hh) fun Q rl e q => ?_
  obtain ⟨x, mh1, e1, e_1⟩ := M.bind_some.mp e
  obtain ⟨l, mh2, e2, e_2⟩ := M.bind_some.mp e_1
  obtain ⟨h, mh3, e3, e_3⟩ := M.bind_some.mp e_2
  obtain ⟨rv, mh4, e4, e_4⟩ := M.bind_some.mp e_3
  obtain ⟨e4, e5⟩ := rdM_some.mp e4
  simp only at e4 e5
  subst e5
  refine ⟨_, _, _, _, _, _, rl, e1, fun F1 ρ1 H1 u1 w1 g1 d1 => ⟨_, _, _, _, _, _, rl.grow w1 g1, e2, fun F2 ρ2 H2 w2 g2 => ⟨_, _, _, _, _, _, rl.grow w2 (g1.trans g2), e3, fun F3 ρ3 H3 w3 g3 => ?_⟩⟩⟩
  exact o2 Q w3 (d1.grow (g2.trans g3)) e4 (finR_ok e_4 fun F' ρ' H' u w g d => q F' ρ' H' u w ((g1.trans (g2.trans g3)).trans g) d)

/-! ### calls of built-ins -/
def mBi (f : List Ob → List Val → Option Rv) (c : Bool) (as : Sl → M (List Val)) (env : Sl) : M Val := do
  let vs ← as env
  let r ← rdM fun mh => f mh vs
  finR c r
theorem se_biB {x : Str} {id : String} {f : List Ob → List Val → Option Rv} {c : Bool} {e0 : Expr} {es : List Expr} {as : Sl → M (List Val)} {p : Pos} (o : CallS X (.builtin id) f) (hg : Gl X x) (hm : X.mg x = none) (hv : bootBuiltins x = some (.builtin id)) (h : SA X (e0 :: es) as)
    (hn : x ≠ "__name__") (hdb : (x == ("__debug__" : Str)) = false) (he : starEach (e0 :: es) X.env = (false, eval e0 X.env) :: starEach es X.env) (hpl : (backTo pos (starEach es X.env)).any (·.1) = false) : SE X (.Call (.Name x p) (e0 :: es) [] pos) (mBi f c as) := by
  obtain ⟨r, o1, o2⟩ := o
  refine SE.mk (pe_callB o1 hg hm hv h hn hdb he hpl) fun Q rl e q => ?_
  obtain ⟨vs, mh1, e1, e_1⟩ := M.bind_some.mp e
  obtain ⟨rv, mh2, e2, e_2⟩ := M.bind_some.mp e_1
  obtain ⟨e2, e3⟩ := rdM_some.mp e2
  simp only at e2 e3
  subst e3
  exact ⟨_, _, _, _, _, _, rl, e1, fun F1 ρ1 H1 us w1 g1 d1 => o2 Q w1 d1 e2 (finR_ok e_2 fun F' ρ' H' u w g d => q F' ρ' H' u w (g1.trans g) d)⟩
theorem se_biT {x : Str} {T : String} {f : List Ob → List Val → Option Rv} {c : Bool} {e0 : Expr} {es : List Expr} {as : Sl → M (List Val)} {p : Pos} (o : CallS X (.type T) f) (hg : Gl X x) (hm : X.mg x = none) (hv : bootBuiltins x = some (.type T)) (h : SA X (e0 :: es) as)
    (hn : x ≠ "__name__") (hdb : (x == ("__debug__" : Str)) = false) (he : starEach (e0 :: es) X.env = (false, eval e0 X.env) :: starEach es X.env) (hpl : (backTo pos (starEach es X.env)).any (·.1) = false) : SE X (.Call (.Name x p) (e0 :: es) [] pos) (mBi f c as) := by
  obtain ⟨r, o1, o2⟩ := o
  refine SE.mk (pe_callTy o1 hg hm hv h hn hdb he hpl) fun Q rl e q => ?_
  obtain ⟨vs, mh1, e1, e_1⟩ := M.bind_some.mp e
  obtain ⟨rv, mh2, e2, e_2⟩ := M.bind_some.mp e_1
  obtain ⟨e2, e3⟩ := rdM_some.mp e2
  simp only at e2 e3
  subst e3
  exact ⟨_, _, _, _, _, _, rl, e1, fun F1 ρ1 H1 us w1 g1 d1 => o2 Q w1 d1 e2 (finR_ok e_2 fun F' ρ' H' u w g d => q F' ρ' H' u w (g1.trans g) d)⟩
/-- isinstance(a, T) -/
def mIsin (T : String) (a : Sl → M Val) (env : Sl) : M Val := do
  let x ← a env
  rdM fun mh => (tyVal mh x).map fun t => .d (.bool (isIn t T))
theorem se_isin {x y : Str} {T : String} {p p2 : Pos} (ha : SE X a ma) (hT : T ∈ isTys) (hx : x = "isinstance") (hg : Gl X x) (hm : X.mg x = none) (hg2 : Gl X y) (hm2 : X.mg y = none) (hv2 : bootBuiltins y = some (.type T)) (hn2 : y ≠ "__name__") (hdb2 : (y == ("__debug__" : Str)) = false)
    (he : starEach [a, .Name y p2] X.env = (false, eval a X.env) :: starEach [.Name y p2] X.env) : SE X (.Call (.Name x p) [a, .Name y p2] [] pos) (mIsin T ma) := by
  subst hx
  refine SE.mk (pe_callB call_isi hg hm (by decide +kernel) (pa_cons ha (pa_cons (pe_bltn (v := .ty T) hg2 hm2 hv2 (show L2.RelV (.ty T) (Value.type T) from rfl) hn2 hdb2) pa_nil) he) (by decide) (by decide) he rfl) fun Q rl e q => ?_
  obtain ⟨v, mh1, e1, e_1⟩ := M.bind_some.mp e
  obtain ⟨e2, e3⟩ := rdM_some.mp e_1
  simp only at e2 e3
  subst e3
  refine ⟨_, _, _, _, _, _, rl, e1, fun F1 ρ1 H1 u w1 g1 d1 => ?_⟩
  obtain ⟨t, e4, e5⟩ := Option.map_eq_some_iff.mp e2
  cases e5
  exact isin_ok Q w1 d1 e4 hT (q _ _ _ _ w1 g1 (Den.bl _))

/-! ### methods of built-ins -/
def mMeth (T : String) (m : Val → List Val → M Val) (o : Sl → M Val) (as : Sl → M (List Val)) (env : Sl) : M Val := do
  let x ← o env
  let ok ← rdM fun mh => some (rcv T x mh)
  if ok then do
    let vs ← as env
    m x vs
  else fun _ => none
theorem se_meth {o : Expr} {es : List Expr} {mo : Sl → M Val} {as : Sl → M (List Val)} {name : Str} {apos cpos : Pos} {T id : String} {m : Val → List Val → M Val} {e0 : Expr} (pa : PlainAttrs T) (slot : Slot T name id) (hty : typeOf (.builtin id) = pure (.type "method_descriptor")) (hm : MtS X T id m) (ho : SE X o mo) (ha : SA X (e0 :: es) as)
    (hbase : attributeBase o name X.env (eval o X.env) = eval o X.env)
    (hfew : ((backTo cpos (starEach (e0 :: es) X.env)).all (fun x => !x.1) && (backToKw cpos (keywordEach [] X.env)).all (fun x => x.1.isSome)
      && decide ((e0 :: es).length + ([] : List Keyword).length + (if ([] : List Keyword).isEmpty then 0 else 1) < 30)) = true)
    (hline : (apos.endLine == cpos.line) = true) (hs : starEach (e0 :: es) X.env = (false, eval e0 X.env) :: starEach es X.env) (hplain : (backTo cpos (starEach es X.env)).any (·.1) = false) :
    SE X (.Call (.Attribute o name apos) (e0 :: es) [] cpos) (mMeth T m mo as) := by
  obtain ⟨r, o1, o2⟩ := hm
  refine SE.mk (pe_bmq pa slot hty o1 ho ha hbase hfew hline hs hplain) fun Q rl e q => ?_
  obtain ⟨x, mh1, e1, e_1⟩ := M.bind_some.mp e
  obtain ⟨ok, mh2, e2, e_2⟩ := M.bind_some.mp e_1
  obtain ⟨e2, e3⟩ := rdM_some.mp e2
  simp only at e2 e3
  subst e3
  refine ⟨_, _, _, _, _, _, rl, e1, fun F1 ρ1 H1 u w1 g1 d1 => ?_⟩
  cases ok with
  | false => cases e_2
  | true =>
    obtain ⟨vs, mh3, e3, e_3⟩ := M.bind_some.mp e_2
    refine ⟨rcv_ok w1 d1 (Option.some.inj e2), _, _, _, _, _, _, rl.grow w1 g1, e3, fun F2 ρ2 H2 us w2 g2 d2 => ?_⟩
    exact o2 Q w2 (d1.grow g2) d2 e_3 fun F' H' u' w g d => q F' ρ2 H' u' w ((g1.trans g2).trans g) d
theorem se_meth0 {o : Expr} {mo : Sl → M Val} {name : Str} {apos cpos : Pos} {T id : String} {m : Val → List Val → M Val} (pa : PlainAttrs T) (slot : Slot T name id) (hty : typeOf (.builtin id) = pure (.type "method_descriptor")) (hm : MtS X T id m) (ho : SE X o mo)
    (hbase : attributeBase o name X.env (eval o X.env) = eval o X.env) (hline : (apos.endLine == cpos.line) = true) : SE X (.Call (.Attribute o name apos) [] [] cpos) (mMeth T m mo (mArgs [])) := by
  obtain ⟨r, o1, o2⟩ := hm
  refine SE.mk (pe_bm0q pa slot hty o1 ho hbase hline) fun Q rl e q => ?_
  obtain ⟨x, mh1, e1, e_1⟩ := M.bind_some.mp e
  obtain ⟨ok, mh2, e2, e_2⟩ := M.bind_some.mp e_1
  obtain ⟨e2, e3⟩ := rdM_some.mp e2
  simp only at e2 e3
  subst e3
  refine ⟨_, _, _, _, _, _, rl, e1, fun F1 ρ1 H1 u w1 g1 d1 => ?_⟩
  cases ok with
  | false => cases e_2
  | true =>
    obtain ⟨vs, mh3, e3, e_3⟩ := M.bind_some.mp e_2
    cases e3
    exact ⟨rcv_ok w1 d1 (Option.some.inj e2), o2 Q w1 d1 .nil e_3 fun F' H' u' w g d => q F' ρ1 H' u' w (g1.trans g) d⟩
end
end Pv

/-! PR: list(reversed(x)), x a list -/
namespace Pv
open PySem PySem.Spec PyProof.Rows L2 RZ
section
variable {prog : Program} {w : World} {A : Around} {E : Value → Shared → Prop} {s : Shared}
theorem list_of_rev {it l : Addr} {items : Array Value} {Q : Value → Shared → Prop} (hh : A.handled = none) (hit : s.heap.IsRevIter it l ((items.size : Int) - 1)) (hl : s.heap.IsList l items) (hne : l ≠ it) (hn : items.size ≤ sizeLine)
    (hQ : ∀ (h' : Heap) (tk : Nat) (acc : Array Value) (c' : Nat), (∀ b o, b ≠ it → s.heap.get? b = some o → h'.get? b = some o) → ItemsOf (fun i v => items[items.size - 1 - i]? = some v) acc items.size →
      h'.get? s.heap.objs.size = some { cls := .type "list", dict := none, data := .seq acc c', slots := #[] } → Q (.ref s.heap.objs.size) { s with heap := h', toks := tk }) :
    wpAny (model prog w) A (call (.type "list") [.ref it]) Q E s := by
  obtain ⟨oi, hoi, _⟩ := id hit
  obtain ⟨ol, hol, _⟩ := id hl
  have hSi : s.heap.objs.size ≠ it := Nat.ne_of_gt (Heap.lt_size hoi)
  have hSl : s.heap.objs.size ≠ l := Nat.ne_of_gt (Heap.lt_size hol)
  have hSf : s.heap.objs.size ∉ [it, l] := by simp only [List.mem_cons, List.not_mem_nil, or_false, not_or]; exact ⟨hSi, hSl⟩
  refine callType_codes (Q₁ := fun obj s₁ => obj = .ref s.heap.objs.size ∧ s₁ = { s with heap := s.heap.push { cls := .type "list", data := .seq #[] } }) F.called_list (F.typeCall_list_1 _) F.entry_list_init
    (code_list_new _ ⟨rfl, rfl⟩) fun obj s₁ h₁ => ?_
  obtain ⟨rfl, rfl⟩ := h₁
  have hS : (s.heap.push { cls := .type "list", data := .seq #[] }).get? s.heap.objs.size = some { cls := .type "list", data := .seq #[] } := Heap.get?_push_size _ rfl
  refine ⟨⟨_, hS, rfl⟩, F.args_list_init_2 _ _, ?_⟩
  have W := (Walks.listRev (prog := prog) (w := w) (A := A.in1.in1) hh it l hne items).toS
  show wpAny _ A.in1.in1 (do let old ← Builtin.List.listItems (.ref s.heap.objs.size); Builtin.List.listUpdate (.ref s.heap.objs.size) (fun _ => #[]); letGo old.toList.reverse; Builtin.List.listExtendWith (.ref s.heap.objs.size) (.ref it) .none) _ _ _
  refine wpAny_bind ?_
  unfold Builtin.List.listItems
  refine wpAny_bind (wpAny_seqItems hS rfl (wpAny_pure ?_))
  show wpAny _ A.in1.in1 (updateSeq s.heap.objs.size (fun _ => #[]) >>= fun _ => letGo (#[] : Array Value).toList.reverse >>= fun _ => Builtin.List.listExtendWith (.ref s.heap.objs.size) (.ref it) .none) _ _ _
  refine wpAny_bind (wpAny_updateSeq hS rfl ?_)
  have hS₂ := Heap.get?_update_self (Obj.mapSeq (fun _ => (#[] : Array Value))) hS rfl
  refine wpAny_bind (wpAny_letGo ?_)
  have far : ∀ b o, s.heap.get? b = some o → ((s.heap.push { cls := .type "list", data := .seq #[] }).update s.heap.objs.size (Obj.mapSeq fun _ => (#[] : Array Value))).get? b = some o := fun b o e =>
    (Heap.get?_update_other _ _ (Ne.symm (Nat.ne_of_lt (Heap.lt_size e)))).trans (Heap.get?_push_of_some _ e)
  show wpAny _ A.in1.in1 _ _ _ { s with heap := (s.heap.push { cls := .type "list", data := .seq #[] }).update s.heap.objs.size (Obj.mapSeq fun _ => (#[] : Array Value)) }
  generalize hh2 : (s.heap.push { cls := .type "list", data := .seq #[] }).update s.heap.objs.size (Obj.mapSeq fun _ => (#[] : Array Value)) = h2 at far hS₂
  have hit1 : h2.IsRevIter it l ((items.size : Int) - 1) := hit.at fun o e => far _ o e
  have hl1 : h2.IsList l items := hl.at fun o e => far _ o e
  have hT : ({ s with heap := h2 } : Shared).TypeIs (.ref it) "list_reverseiterator" := Heap.IsRevIter.typeIs (s := { s with heap := h2 }) hit1
  have h1 : Builtin.List.listSameRef (.ref s.heap.objs.size) (.ref it) = false := by simp [Builtin.List.listSameRef, hSi]
  unfold Builtin.List.listExtendWith
  refine wpAny_bind (wpAny_typeOf hT ?_)
  rw [if_neg (by rw [h1]; decide)]
  refine wpAny_bind (wpAny_pyIter_revIter (s := { s with heap := h2 }) hit1 ?_)
  refine wpAny_bind (wpAny_holding ?_)
  unfold Builtin.List.listLengthHint
  refine wpAny_bind (wpAny_specialOf hT RT.nolen_lri ?_)
  show wpAny _ A.in1.in1 (specialOf (Value.ref it) (Str.ofString "__length_hint__") >>= _) _ _ _
  refine wpAny_bind (wpAny_specialOf hT RT.hint_lri ?_)
  generalize hid : ("list_reverseiterator.__length_hint__" : String) = id0
  wp_delta
  rw [show splitId id0 = some ("list_reverseiterator", "__length_hint__") from by subst hid; decide +kernel]
  subst hid
  refine wpAny_bind (wpAny_isInstance (b := true) hT (by rw [isSubtype_type]; kernel_rfl) ?_)
  refine wpAny_pure ?_
  rw [if_neg (by decide)]
  have e0 : ((items.size : Nat) : Int) - 1 - ((0 : Nat) : Int) = (items.size : Int) - 1 := by omega
  refine wpAny_pure ⟨plainId_quiet F.plain_extend_loop _, codeAny_extend_loopS W hn _ hSf _ items.size 0 _ _ _ rfl (Nat.zero_le _) ⟨Nat.zero_le _, by rw [e0]; exact hit1, hl1⟩ hS₂ (ItemsOf.nil _) fun s' acc' c' hm hS' hacc => ?_⟩
  have he := Moved.eq_with hm
  rw [he] at hS' ⊢
  refine ⟨rfl, hQ s'.heap s'.toks acc' c' (fun b o hb e => hm.heap b o (fun hmem => ?_) (far b o e)) hacc hS'⟩
  rcases List.mem_cons.mp hmem with e' | hmem
  · exact absurd (Heap.lt_size e) (by rw [e']; exact Nat.lt_irrefl _)
  · exact hb (List.mem_singleton.mp hmem)
end
def tListRev (K : PySem.W.Frag) (te : TE) : TE := fun σ H Q => te σ H fun v H1 => ∃ (a : Addr) (xs : List V), v = .ref a ∧ SqL K H1 a xs ∧ ∀ q, H1 q = none → Q (.ref q) (upd H1 q (.lst xs.reverse))
section
variable {X : Cx}
theorem pe_listRev {e : Expr} {te : TE} {p p2 pos pos2 : Pos} (hc : X.calm = true) (hg : Gl X "list") (hm : X.mg "list" = none) (hg2 : Gl X "reversed") (hm2 : X.mg "reversed" = none) (he : PE X e te)
    (hs : starEach [e] X.env = (false, eval e X.env) :: starEach [] X.env)
    (hs2 : starEach [.Call (.Name "reversed" p2) [e] [] pos2] X.env = (false, eval (.Call (.Name "reversed" p2) [e] [] pos2) X.env) :: starEach [] X.env) :
    PE X (.Call (.Name "list" p) [.Call (.Name "reversed" p2) [e] [] pos2] [] pos) (tListRev X.K te) := by
  refine ⟨fun pins s σ H Q I h => ?_⟩
  refine Call_ (ld_blt I hg hm (show bootBuiltins (Str.ofString "list") = some (.type "list") by decide +kernel) (PyProof.Rows.callWith_type1 (args_cons (Call_ (ld_blt I hg2 hm2 PyProof.Rows.boot_reversed (PyProof.Rows.callWith_type1 (args_cons (thn (he.run pins s σ H _ I h) fun u s1 ⟨v, H1, I1, r1, q1⟩ => args_nil ?_) hs) hs rfl))) hs2) hs2 rfl))
  obtain ⟨a, xs, ev, hq, q⟩ := q1
  subst ev
  obtain rfl : u = Value.ref a := r1
  obtain ⟨its, rv, p', hz⟩ := I1.list hq
  refine call_reversed_list p'.isList (args_nil ?_)
  have I2 : Inv X pins σ H1 { s1 with heap := s1.heap.push (revObj a ((its.toArray.size : Int) - 1)) } := I1.kept (t' := s1.toks) fun b o e => Heap.get?_push_of_some _ e
  have fp := I1.fpOk (H' := H1) (b := s1.heap.objs.size) (Nat.le_refl _) (I1.hok.fresh (Nat.le_refl _))
  have hl := p'.isList
  obtain ⟨ol, hol, _⟩ := id hl
  have hne : a ≠ s1.heap.objs.size := Nat.ne_of_lt (Heap.lt_size hol)
  have hn : its.toArray.size ≤ sizeLine := by rw [List.size_toArray, ← rv.length]; exact hz
  refine list_of_rev (s := { s1 with heap := s1.heap.push (revObj a ((its.toArray.size : Int) - 1)) }) (I1.ok.hd hc) ⟨_, Heap.get?_push_size _ rfl, rfl, rfl⟩ (hl.push _) hne hn fun h' tk acc c' hk hi hS => ?_
  have new : ObjOk X.prog X.w (upd H1 (s1.heap.push (revObj a ((its.toArray.size : Int) - 1))).objs.size (.lst xs.reverse)) h' (s1.heap.push (revObj a ((its.toArray.size : Int) - 1))).objs.size (.lst xs.reverse) :=
    ⟨by rw [List.length_reverse]; exact hz, acc.toList, c', RT.vals_rev rv hi, by rw [Array.toArray_toList]; exact hS⟩
  have I3 := I2.turnedNew (t' := tk) (ch := [s1.heap.objs.size]) (fun b o hb e => hk b o (fun z => hb (by simp [z])) e) (fun b hb => by rw [List.mem_singleton.mp hb]; exact fp) (Nat.le_refl _) new
  exact ⟨.ref _, _, I3, rfl, q _ (I2.hok.fresh (Nat.le_refl _))⟩
end
theorem paired_app {α β : Type} {R : α → β → Prop} : ∀ {xs xs' : List α} {ys ys' : List β}, Paired R xs ys → Paired R xs' ys' → Paired R (xs ++ xs') (ys ++ ys')
  | _, _, _, _, .nil, h => h
  | _, _, _, _, .cons a b, h => .cons a (paired_app b h)
theorem paired_rev {α β : Type} {R : α → β → Prop} : ∀ {xs : List α} {ys : List β}, Paired R xs ys → Paired R xs.reverse ys.reverse
  | _, _, .nil => .nil
  | _, _, .cons (l₁ := xs) (l₂ := ys) a b => by
    rw [List.reverse_cons, List.reverse_cons]
    exact paired_app (paired_rev b) (.cons a .nil)
/-! list(reversed(a)) in the evaluator -/
def mRev (c : Bool) (a : Sl → M Val) (env : Sl) : M Val := do
  let x ← a env
  let vs ← rdM fun mh => seqL mh x
  finR c (.nl vs.reverse)
section
variable {X : Cx}
theorem se_rev {c : Bool} {e : Expr} {ma : Sl → M Val} {p p2 pos pos2 : Pos} (hc : X.calm = true) (hg : Gl X "list") (hm : X.mg "list" = none) (hg2 : Gl X "reversed") (hm2 : X.mg "reversed" = none) (ha : SE X e ma)
    (hs : starEach [e] X.env = (false, eval e X.env) :: starEach [] X.env)
    (hs2 : starEach [.Call (.Name "reversed" p2) [e] [] pos2] X.env = (false, eval (.Call (.Name "reversed" p2) [e] [] pos2) X.env) :: starEach [] X.env) :
    SE X (.Call (.Name "list" p) [.Call (.Name "reversed" p2) [e] [] pos2] [] pos) (mRev c ma) :=
  SE.mk (pe_listRev hc hg hm hg2 hm2 ha hs hs2) fun Q rl e q => by
    obtain ⟨x, mh1, e1, ea⟩ := M.bind_some.mp e
    obtain ⟨vs, mh2, e2, eb⟩ := M.bind_some.mp ea
    obtain ⟨e3, e4⟩ := rdM_some.mp e2
    simp only at e3 e4
    subst e4
    refine ⟨_, _, _, _, _, _, rl, e1, fun F1 ρ1 H1 u1 w1 g1 d1 => ?_⟩
    obtain ⟨a, us, rfl, hS, hd, hz⟩ := seqL_ok w1 d1 e3
    have post := finR_ok (K := X.K) (F := F1) (ρ := ρ1) (H := H1) eb fun F' ρ' H' u w g d => q F' ρ' H' u w (g1.trans g) d
    exact ⟨a, us, rfl, hS, fun p hp => PostR.list post w1 hp (paired_rev hd) (by rw [List.length_reverse]; exact hz)⟩
end
end Pv

/-! P6: targets, walks, statements, comprehensions, calls -/
namespace Pv
open PySem PySem.Spec PyProof.Rows L2

/-! ### targets -/
def tGt (K : PySem.W.Frag) (sl : List Nat) (m : Val → Sl → M Sl) : TG := fun u σ H Q => ∃ env mh F ρ v env' mh', Rl K env mh F ρ σ H ∧ DenV K F ρ u v ∧ m v env mh = some (env', mh') ∧
  ∀ F' ρ' σ' H', Rl K env' mh' F' ρ' σ' H' → Gr F ρ H F' ρ' H' → (∀ vs : List Nat, (∀ i ∈ sl, i ∈ vs) → wipe σ' vs = wipe σ vs) → Q σ' H'
def SG (X : Cx) (tg : Expr) (sl : List Nat) (m : Val → Sl → M Sl) : Prop := PG X tg (tGt X.K sl m)
def tGsd (K : PySem.W.Frag) (sl : List Nat) (m : List Dt → Sl → M Sl) : TGs := fun us σ H Q => ∃ env mh F ρ ds env' mh', Rl K env mh F ρ σ H ∧ DenAll K F us ds ∧ m ds env mh = some (env', mh') ∧
  ∀ F' ρ' σ' H', Rl K env' mh' F' ρ' σ' H' → Gr F ρ H F' ρ' H' → (∀ vs : List Nat, (∀ i ∈ sl, i ∈ vs) → wipe σ' vs = wipe σ vs) → Q σ' H'
def SGs (X : Cx) (ts : List Expr) (sl : List Nat) (m : List Dt → Sl → M Sl) : Prop := PGs X ts (tGsd X.K sl m)
theorem wipe_set {σ : L2.St} {i : Nat} {o : Option V} : ∀ {vs : List Nat}, i ∈ vs → wipe (σ.set i o) vs = wipe σ vs
  | [], h => nomatch h
  | v :: vs, h => by
    show (wipe (σ.set i o) vs).set v none = (wipe σ vs).set v none
    by_cases e : i ∈ vs
    · rw [wipe_set e]
    · have e2 : i = v := by
        rcases List.mem_cons.mp h with z | z
        · exact z
        · exact absurd z e
      subst e2
      have : ∀ (ws : List Nat), i ∉ ws → wipe (σ.set i o) ws = (wipe σ ws).set i o := by
        intro ws
        induction ws with
        | nil => intro _; rfl
        | cons w ws ih =>
          intro hn
          have h1 : i ≠ w := fun z => hn (by simp [z])
          have h2 : i ∉ ws := fun z => hn (by simp [z])
          show (wipe (σ.set i o) ws).set w none = ((wipe σ ws).set w none).set i o
          rw [ih h2, List.set_comm _ _ h1]
      rw [this vs e, List.set_set]
def gNm (i : Nat) (v : Val) (env : Sl) : M Sl := pure (env.set i (some v))
section
variable {X : Cx} {pos : Pos}
theorem sg_name {i : Nat} {x : Str} (hN : X.N.Nodup) (hi : X.N[i]? = some x) (hx : Loc X.env.scope x) (hf : X.fn x = true ∨ X.env.scope.names.lookup x = some .local) : SG X (.Name x pos) [i] (gNm i) := by
  refine ⟨fun pins s σ H u w Q I r h => ?_⟩
  obtain ⟨env, mh, F, ρ, v, env', mh', rl, d, e, q⟩ := h
  cases e
  exact (pg_name hN hi hx hf).run pins s σ H u w Q I r (q _ _ _ _ (rl.set i d) .refl fun vs hv => wipe_set (hv i (by simp)))
def gNil : List Dt → Sl → M Sl
  | [], env => pure env
  | _ :: _, _ => fun _ => none
def gCons (m : Val → Sl → M Sl) (ms : List Dt → Sl → M Sl) : List Dt → Sl → M Sl
  | [], _ => fun _ => none
  | d :: ds, env => do
    let env1 ← m (.d d) env
    ms ds env1
theorem sgs_nil : SGs X [] [] gNil := by
  refine ⟨fun pins s σ H us ws Q I r h => ?_⟩
  obtain ⟨env, mh, F, ρ, v, env', mh', rl, d, e, q⟩ := h
  cases d with
  | nil =>
    cases e
    exact pgs_nil.run pins s σ H [] ws Q I r ⟨rfl, q _ _ _ _ rl .refl fun _ _ => rfl⟩
  | cons _ _ => cases e
theorem sgs_cons {a : Expr} {es : List Expr} {s1 s2 : List Nat} {m : Val → Sl → M Sl} {ms : List Dt → Sl → M Sl} (h1 : SG X a s1 m) (h2 : SGs X es s2 ms)
    (hs : (assignEach (a :: es) X.env).map (·.2) = assign a X.env :: (assignEach es X.env).map (·.2)) : SGs X (a :: es) (s1 ++ s2) (gCons m ms) := by
  refine ⟨fun pins s σ H us ws Q I r h => ?_⟩
  obtain ⟨env, mh, F, ρ, v, env', mh', rl, d, e, q⟩ := h
  cases d with
  | nil => cases e
  | cons d1 d2 =>
    obtain ⟨env1, mh1, e1, e2⟩ := M.bind_some.mp e
    refine (pgs_cons h1 h2 hs).run pins s σ H _ ws Q I r ⟨_, _, rfl, _, _, _, _, .d _, _, _, rl, d1, e1, fun F1 ρ1 σ1 H1 rl1 g1 w1 => ?_⟩
    exact ⟨_, _, _, _, _, _, _, rl1, d2.mono g1.rd, e2, fun F2 ρ2 σ2 H2 rl2 g2 w2 => q _ _ _ _ rl2 (g1.trans g2) fun vs hv => (w2 vs fun i hi => hv i (List.mem_append_right _ hi)).trans (w1 vs fun i hi => hv i (List.mem_append_left _ hi))⟩
def gTp (n : Nat) (ms : List Dt → Sl → M Sl) (v : Val) (env : Sl) : M Sl := match v with
  | .d (.tuple ds) => if ds.length = n then ms ds env else fun _ => none
  | _ => fun _ => none
theorem sg_tup {es : List Expr} {j n : Nat} {sl : List Nat} {ms : List Dt → Sl → M Sl} (hc : X.calm = true) (h : SGs X es sl ms)
    (hn : (assignEach es X.env).length = n) (hst : (assignEach es X.env).findIdx? (·.1) = none) : SG X (.Tuple es j pos) sl (gTp n ms) := by
  refine ⟨fun pins s σ H u w Q I r hw => ?_⟩
  obtain ⟨env, mh, F, ρ, v, env', mh', rl, d, e, q⟩ := hw
  unfold gTp at e
  split at e
  · rename_i ds
    split at e
    · rename_i hl
      cases d with
      | tup hq z ra =>
        exact (pg_tup hc h hn hst).run pins s σ H _ w Q I r ⟨_, _, rfl, rl.wd.rle.sqT hq, by rw [ra.length]; exact hl, _, _, _, _, _, _, _, rl, ra, e, q⟩
    · cases e
  · cases e
/-- o[i] = v -/
def gSb (mo mi : Sl → M Val) (v : Val) (env : Sl) : M Sl := do
  let o ← mo env
  let i ← mi env
  setVl o i v
  pure env
theorem sg_sub {o i : Expr} {mo mi : Sl → M Val} (hu : X.A.units + 1 < cLine) (ho : SE X o mo) (hi : SE X i mi)
    (ha : ∀ v, assign (.Subscript o i pos) X.env v = (do
      let ov ← holding [v] (eval o X.env)
      let iv ← holding [v, ov] (eval i X.env)
      standAt pos
      holding [v, ov, iv] (setItem ov iv v)
      release [v, ov, iv] [])) : SG X (.Subscript o i pos) [] (gSb mo mi) := by
  obtain ⟨t, o1, o2⟩ := sets_all hu
  refine ⟨fun pins s σ H u w Q I r hw => ?_⟩
  obtain ⟨env, mh, F, ρ, v, env', mh', rl, d, e, q⟩ := hw
  obtain ⟨vo, mh1, e1, ea⟩ := M.bind_some.mp e
  obtain ⟨vi, mh2, e2, eb⟩ := M.bind_some.mp ea
  obtain ⟨_, mh3, e3, ec⟩ := M.bind_some.mp eb
  cases ec
  refine (pg_sub ho hi o1 ha).run pins s σ H u w Q I r ⟨_, _, _, _, _, _, rl, e1, fun F1 ρ1 H1 u1 w1 g1 d1 => ⟨_, _, _, _, _, _, rl.grow w1 g1, e2, fun F2 ρ2 H2 u2 w2 g2 d2 => ?_⟩⟩
  exact o2 _ w2 (d1.grow g2) d2 (d.grow (g1.trans g2)) e3 fun H' w3 g3 => q _ _ _ _ (rl.grow w3 ((g1.trans g2).trans g3)) ((g1.trans g2).trans g3) fun _ _ => rfl
end

/-! ### what is walked -/
structure Ix where
  items : List Val
  g : List (Nat × List Val)
def gOk (g : List (Nat × List Val)) (mh : List Ob) : Prop := ∀ p ∈ g, mh[p.1]? = some (.lst p.2)
open Classical in
noncomputable def chkG (g : List (Nat × List Val)) : M Unit := fun mh => if gOk g mh then some ((), mh) else none
theorem chkG_some {g : List (Nat × List Val)} {mh : List Ob} {r : Unit × List Ob} (h : chkG g mh = some r) : gOk g mh ∧ r = ((), mh) := by
  unfold chkG at h
  split at h
  · cases h; exact ⟨‹_›, rfl⟩
  · cases h
structure ItOk (K : PySem.W.Frag) (J : It) (it : Ix) (F : Hp) (ρ : List Addr) : Prop where
  small : it.items.length ≤ sizeLine
  stop : ∀ {mh F' ρ' H'}, Wd K mh F' ρ' H' → Rle F F' → ρ <+: ρ' → gOk it.g mh → J.stop it.items.length H'
  go : ∀ {mh F' ρ' H' i v}, Wd K mh F' ρ' H' → Rle F F' → ρ <+: ρ' → gOk it.g mh → it.items[i]? = some v → J.go i H' ∧ ∀ x H'', J.yld i H' x H'' → ∃ F'', Wd K mh F'' ρ' H'' ∧ Gr F' ρ' H' F'' ρ' H'' ∧ DenV K F'' ρ' x v
def tIt (K : PySem.W.Frag) (m : Sl → M Ix) : TI := fun σ H R => ∃ env mh F ρ it mh', Rl K env mh F ρ σ H ∧ m env mh = some (it, mh') ∧ ∀ J F' ρ' H', Wd K mh' F' ρ' H' → Gr F ρ H F' ρ' H' → ItOk K J it F' ρ' → R J H'
def SI (X : Cx) (tg iter : Expr) (m : Sl → M Ix) : Prop := PI X tg iter (tIt X.K m)
theorem SI.mk {X : Cx} {tg iter : Expr} {t : TI} {m : Sl → M Ix} (h : PI X tg iter t) (k : ∀ {env : Sl} {mh mh' : List Ob} {F : Hp} {ρ : List Addr} {σ : L2.St} {H : Hp} {it : Ix} (R : It → Hp → Prop), Rl X.K env mh F ρ σ H → m env mh = some (it, mh') →
    (∀ J F' ρ' H', Wd X.K mh' F' ρ' H' → Gr F ρ H F' ρ' H' → ItOk X.K J it F' ρ' → R J H') → t σ H R) : SI X tg iter m := by
  refine ⟨fun pins s σ H R I h1 => ?_⟩
  obtain ⟨env, mh, F, ρ, it, mh', rl, e1, q⟩ := h1
  exact h.run pins s σ H R I (k R rl e1 q)
/-- over the cell or the data that a value is -/
def guardOf : Val → List Val → List (Nat × List Val)
  | .ref n, vs => [(n, vs)]
  | _, _ => []
section
variable {X : Cx} {tg : Expr} {pos p : Pos}
theorem seqL_again {K : PySem.W.Frag} {mh mh2 : List Ob} {F F2 : Hp} {ρ ρ2 : List Addr} {H H2 : Hp} {u : V} {v : Val} {vs : List Val} (w : Wd K mh F ρ H) (d : DenV K F ρ u v) (h : seqL mh v = some vs) (w2 : Wd K mh2 F2 ρ2 H2) (r : Rle F F2) (hp : ρ <+: ρ2) (g : gOk (guardOf v vs) mh2) :
    ∃ a us, u = .ref a ∧ SqL K H2 a us ∧ DenVs K F2 ρ2 us vs ∧ vs.length ≤ sizeLine := by
  have h2 : seqL mh2 v = some vs := by
    cases v with
    | d x =>
      cases x with
      | list ds => exact h
      | _ => cases h
    | ref n =>
      have := g (n, vs) (by simp [guardOf])
      show cellL mh2 n = some vs
      unfold cellL
      rw [this]
  exact seqL_ok w2 (d.mono r hp) h2
theorem seqT_again {K : PySem.W.Frag} {mh mh2 : List Ob} {F F2 : Hp} {ρ ρ2 : List Addr} {H H2 : Hp} {u : V} {v : Val} {vs : List Val} (w : Wd K mh F ρ H) (d : DenV K F ρ u v) (h : seqT v = some vs) (w2 : Wd K mh2 F2 ρ2 H2) (r : Rle F F2) (hp : ρ <+: ρ2) :
    ∃ a us, u = .ref a ∧ SqT K H2 a us ∧ DenVs K F2 ρ2 us vs ∧ vs.length ≤ sizeLine := seqT_ok w2 (d.mono r hp) h
theorem itok_list {K : PySem.W.Frag} {mh : List Ob} {F : Hp} {ρ : List Addr} {H : Hp} {a : Addr} {v : Val} {vs : List Val} (w : Wd K mh F ρ H) (d : DenV K F ρ (.ref a) v) (h : seqL mh v = some vs) : ItOk K (Itl K a) ⟨vs, guardOf v vs⟩ F ρ where
  small := let ⟨_, _, _, _, _, z⟩ := seqL_ok w d h; z
  stop := fun {mh2 F2 ρ2 H2} w2 r hp g => by
    obtain ⟨b, us, e, q, dd, z⟩ := seqL_again w d h w2 r hp g
    cases e
    exact ⟨us, q, by rw [dd.length]; exact Nat.le_refl _⟩
  go := fun {mh2 F2 ρ2 H2 i x} w2 r hp g hx => by
    obtain ⟨b, us, e, q, dd, z⟩ := seqL_again w d h w2 r hp g
    cases e
    obtain ⟨u, h1, h2⟩ := dd.get hx
    refine ⟨⟨us, u, q, h1⟩, fun y H'' hy => ?_⟩
    obtain ⟨rfl, hy⟩ := hy
    have : y = u := Option.some.inj ((hy us q).symm.trans h1)
    subst this
    exact ⟨F2, w2, .refl, h2⟩
theorem itok_tup {K : PySem.W.Frag} {mh : List Ob} {F : Hp} {ρ : List Addr} {H : Hp} {a : Addr} {v : Val} {vs : List Val} (w : Wd K mh F ρ H) (d : DenV K F ρ (.ref a) v) (h : seqT v = some vs) : ItOk K (Itt K a) ⟨vs, []⟩ F ρ where
  small := let ⟨_, _, _, _, _, z⟩ := seqT_ok w d h; z
  stop := fun {mh2 F2 ρ2 H2} w2 r hp g => by
    obtain ⟨b, us, e, q, dd, z⟩ := seqT_again w d h w2 r hp
    cases e
    exact ⟨us, q, by rw [dd.length]; exact Nat.le_refl _⟩
  go := fun {mh2 F2 ρ2 H2 i x} w2 r hp g hx => by
    obtain ⟨b, us, e, q, dd, z⟩ := seqT_again w d h w2 r hp
    cases e
    obtain ⟨u, h1, h2⟩ := dd.get hx
    refine ⟨⟨us, u, q, h1⟩, fun y H'' hy => ?_⟩
    obtain ⟨rfl, hy⟩ := hy
    have : y = u := Option.some.inj ((hy us q).symm.trans h1)
    subst this
    exact ⟨F2, w2, .refl, h2⟩
theorem itok_str {K : PySem.W.Frag} {F : Hp} {ρ : List Addr} {z : Str} (hz : z.length ≤ sizeLine) : ItOk K (Its z) ⟨z.cps.toList.map fun c => .d (.str ⟨#[c]⟩), []⟩ F ρ where
  small := by rw [List.length_map]; exact hz
  stop := fun {mh2 F2 ρ2 H2} w2 r hp g => by
    show z.cps.size ≤ _
    rw [List.length_map]
    exact Nat.le_refl _
  go := fun {mh2 F2 ρ2 H2 i x} w2 r hp g hx => by
    rw [List.getElem?_map] at hx
    obtain ⟨c, h1, h2⟩ := Option.map_eq_some_iff.mp hx
    have h3 : z.cps[i]? = some c := by rw [← Array.getElem?_toList]; exact h1
    refine ⟨(Array.getElem?_eq_some_iff.mp h3).1, fun y H'' hy => ?_⟩
    obtain ⟨rfl, c', h4, rfl⟩ := hy
    rw [h3] at h4
    cases h4
    subst h2
    exact ⟨F2, w2, .refl, Den.str _⟩
/-- a value that is walked: a list, a tuple, a text -/
theorem pi_val {l : Expr} {tl : TE} (hl : PE X l tl) : PI X tg l (fun σ H R => tl σ H fun x H1 => (∃ a, x = .ref a ∧ (∃ xs, SqL X.K H1 a xs) ∧ R (Itl X.K a) H1) ∨ (∃ a, x = .ref a ∧ (∃ xs, SqT X.K H1 a xs) ∧ R (Itt X.K a) H1) ∨ ∃ z, x = .str z ∧ R (Its z) H1) := by
  refine ⟨fun pins s σ H R I h => ?_⟩
  refine thn (hl.run pins s σ H _ I h) fun v s1 ⟨x, H1, I1, r1, q1⟩ => ?_
  rcases q1 with ⟨a, e, ⟨xs, hq⟩, q⟩ | ⟨a, e, ⟨xs, hq⟩, q⟩ | ⟨z, e, q⟩
  · subst e
    cases r1
    obtain ⟨its, rv, p, hz⟩ := I1.list hq
    refine wpAny_pyIter_list p.isList ?_
    refine ⟨s1.heap.objs.size, [s1.heap.objs.size], _, _, H1, rfl, I1.kept (t' := s1.toks) fun b o e => Heap.get?_push_of_some _ e, turn_list a _, ⟨_, Heap.get?_push_size _ rfl, rfl, rfl⟩, fun b hb => ?_, q⟩
    have e : b = s1.heap.objs.size := by simpa using hb
    subst e
    exact I1.fpOk (Nat.le_refl _) (I1.hok.fresh (Nat.le_refl _))
  · subst e
    cases r1
    obtain ⟨its, rv, p, hz⟩ := I1.tuple hq
    refine wpAny_pyIter_tuple (show s1.heap.IsTuple a its.toArray from p) ?_
    refine ⟨s1.heap.objs.size, [s1.heap.objs.size], _, _, H1, rfl, I1.kept (t' := s1.toks) fun b o e => Heap.get?_push_of_some _ e, turn_tuple a _, ⟨_, Heap.get?_push_size _ rfl, rfl, rfl⟩, fun b hb => ?_, q⟩
    have e : b = s1.heap.objs.size := by simpa using hb
    subst e
    exact I1.fpOk (Nat.le_refl _) (I1.hok.fresh (Nat.le_refl _))
  · subst e
    obtain ⟨t, rfl⟩ := r1
    cases ha : z.cps.all (· < 128)
    · exact wpAny_pyIter_wide ha (pi_one (tk := s1.toks) I1 _ (turn_str _ z t "str_iterator" (.inr rfl)) ⟨_, Heap.get?_push_size _ rfl, rfl, rfl⟩ q)
    · exact wpAny_pyIter_ascii ha (pi_one (tk := s1.toks) I1 _ (turn_str _ z t "str_ascii_iterator" (.inl rfl)) ⟨_, Heap.get?_push_size _ rfl, rfl, rfl⟩ q)
def ixOf (mh : List Ob) (v : Val) : Option Ix := match v with
  | .d (.tuple ds) => some ⟨ds.map Val.d, []⟩
  | .d (.str z) => if z.length ≤ sizeLine then some ⟨z.cps.toList.map fun c => .d (.str ⟨#[c]⟩), []⟩ else none
  | v => (seqL mh v).map fun vs => ⟨vs, guardOf v vs⟩
def iVal (a : Sl → M Val) (env : Sl) : M Ix := do
  let x ← a env
  rdM fun mh => ixOf mh x
theorem si_val {a : Expr} {ma : Sl → M Val} (ha : SE X a ma) : SI X tg a (iVal ma) :=
  SI.mk (pi_val ha) fun R rl e q => by
    obtain ⟨v, mh1, e1, ea⟩ := M.bind_some.mp e
    obtain ⟨e2, e3⟩ := rdM_some.mp ea
    simp only at e2 e3
    subst e3
    refine ⟨_, _, _, _, _, _, rl, e1, fun F1 ρ1 H1 u w1 g1 d1 => ?_⟩
    unfold ixOf at e2
    split at e2
    · rename_i ds
      cases e2
      obtain ⟨a, us, rfl, hq, dd, z⟩ := seqT_ok w1 d1 (show seqT (.d (.tuple ds)) = some (ds.map Val.d) from rfl)
      exact .inr (.inl ⟨a, rfl, ⟨us, hq⟩, q _ _ _ _ w1 g1 (itok_tup w1 d1 rfl)⟩)
    · split at e2
      · rename_i z hz
        cases e2
        exact .inr (.inr ⟨z, den_str d1, q _ _ _ _ w1 g1 (itok_str hz)⟩)
      · cases e2
    · obtain ⟨vs, e4, e5⟩ := Option.map_eq_some_iff.mp e2
      subst e5
      obtain ⟨a, us, rfl, hq, dd, z⟩ := seqL_ok w1 d1 e4
      exact .inl ⟨a, rfl, ⟨us, hq⟩, q _ _ _ _ w1 g1 (itok_list w1 d1 e4)⟩
/-- range -/
def rgItems (lo : Int) (n : Nat) : List Val := (List.range n).map fun (i : Nat) => .d (.int (lo + i))
theorem itok_range {K : PySem.W.Frag} {F : Hp} {ρ : List Addr} {lo : Int} {n : Nat} (hn : n ≤ sizeLine) : ItOk K (Itr lo n) ⟨rgItems lo n, []⟩ F ρ where
  small := by simp only [rgItems, List.length_map, List.length_range]; exact hn
  stop := fun {mh2 F2 ρ2 H2} w2 r hp g => by
    show n ≤ (rgItems lo n).length
    simp only [rgItems, List.length_map, List.length_range]
    exact Nat.le_refl _
  go := fun {mh2 F2 ρ2 H2 i x} w2 r hp g hx => by
    have hx : ((List.range n).map fun (i : Nat) => Val.d (.int (lo + i)))[i]? = some x := hx
    rw [List.getElem?_map] at hx
    obtain ⟨c, h1, h2⟩ := Option.map_eq_some_iff.mp hx
    obtain ⟨h3, h4⟩ := List.getElem?_eq_some_iff.mp h1
    rw [List.length_range] at h3
    rw [List.getElem_range] at h4
    subst h4 h2
    refine ⟨h3, fun y H'' hy => ?_⟩
    obtain ⟨rfl, rfl⟩ := hy
    exact ⟨F2, w2, .refl, Den.int _⟩
def rng1 : List Val → Option Ix
  | [.d (.int j)] => if -(2 ^ 62) ≤ j ∧ j ≤ 16777216 then some ⟨rgItems 0 j.toNat, []⟩ else none
  | _ => none
def rng2 : List Val → Option Ix
  | [.d (.int i), .d (.int j)] => if (-(2 ^ 62) ≤ i ∧ i < 2 ^ 62 ∧ -(2 ^ 62) ≤ j ∧ j < 2 ^ 62) ∧ j - i ≤ 16777216 then some ⟨rgItems i (j - i).toNat, []⟩ else none
  | _ => none
def iArgs (f : List Val → Option Ix) (as : Sl → M (List Val)) (env : Sl) : M Ix := do
  let vs ← as env
  ofO (f vs)
theorem si_range1 {a : Expr} {as : Sl → M (List Val)} (hg : Gl X "range") (hm : X.mg "range" = none) (h : SA X [a] as) (hs : starEach [a] X.env = [(false, eval a X.env)]) : SI X tg (.Call (.Name "range" p) [a] [] pos) (iArgs rng1 as) :=
  SI.mk (pi_range1 hg hm h hs) fun R rl e q => by
    obtain ⟨vs, mh1, e1, ea⟩ := M.bind_some.mp e
    obtain ⟨e2, e3⟩ := ofO_some.mp ea
    simp only at e2 e3
    subst e3
    refine ⟨_, _, _, _, _, _, rl, e1, fun F1 ρ1 H1 us w1 g1 d1 => ?_⟩
    unfold rng1 at e2
    split at e2
    · split at e2
      · rename_i j hj
        cases e2
        cases d1 with
        | cons d dn =>
          cases dn
          have := den_int d
          subst this
          exact ⟨j, rfl, hj.1, by omega, q _ _ _ _ w1 g1 (itok_range (by rw [sizeLine_eq]; omega))⟩
      · cases e2
    · cases e2
theorem si_range2 {a b : Expr} {as : Sl → M (List Val)} (hg : Gl X "range") (hm : X.mg "range" = none) (h : SA X [a, b] as) (hs : starEach [a, b] X.env = [(false, eval a X.env), (false, eval b X.env)]) (hs2 : starEach [b] X.env = [(false, eval b X.env)]) : SI X tg (.Call (.Name "range" p) [a, b] [] pos) (iArgs rng2 as) :=
  SI.mk (pi_range2 hg hm h hs hs2) fun R rl e q => by
    obtain ⟨vs, mh1, e1, ea⟩ := M.bind_some.mp e
    obtain ⟨e2, e3⟩ := ofO_some.mp ea
    simp only at e2 e3
    subst e3
    refine ⟨_, _, _, _, _, _, rl, e1, fun F1 ρ1 H1 us w1 g1 d1 => ?_⟩
    unfold rng2 at e2
    split at e2
    · split at e2
      · rename_i i j hj
        cases e2
        cases d1 with
        | cons d dn =>
          cases dn with
          | cons d' dn =>
            cases dn
            have := den_int d
            subst this
            have := den_int d'
            subst this
            exact ⟨i, j, rfl, hj.1, q _ _ _ _ w1 g1 (itok_range (by rw [sizeLine_eq]; omega))⟩
      · cases e2
    · cases e2
/-- zip of two lists, of two tuples -/
def zipIt (vs ws : List Val) : Option (List Val) := match asDs vs, asDs ws with
  | some ds, some es => some ((ds.zip es).map fun p => .d (.tuple [p.1, p.2]))
  | _, _ => none
def zip2 (mh : List Ob) : List Val → Option Ix
  | [v, w] => match seqT v, seqT w with
    | some vs, some ws => (zipIt vs ws).map fun l => ⟨l, []⟩
    | _, _ => match seqL mh v, seqL mh w with
      | some vs, some ws => (zipIt vs ws).map fun l => ⟨l, guardOf v vs ++ guardOf w ws⟩
      | _, _ => none
  | _ => none
theorem zipIt_ok {K : PySem.W.Frag} {F : Hp} {ρ : List Addr} {us xs : List V} {vs ws l : List Val} (h : zipIt vs ws = some l) (d1 : DenVs K F ρ us vs) (d2 : DenVs K F ρ xs ws) :
    l.length = min us.length xs.length ∧ ∀ (i : Nat) (v : Val), l[i]? = some v → ∃ (x y : V) (a b : Dt), us[i]? = some x ∧ xs[i]? = some y ∧ Den K F x a ∧ Den K F y b ∧ v = Val.d (.tuple [a, b]) := by
  unfold zipIt at h
  split at h
  · rename_i ds es e1 e2
    cases h
    have e3 := asDs_eq e1
    have e4 := asDs_eq e2
    subst e3 e4
    refine ⟨by rw [List.length_map, List.length_zip, d1.length, d2.length, List.length_map, List.length_map], fun i v hv => ?_⟩
    rw [List.getElem?_map] at hv
    obtain ⟨p, h1, h2⟩ := Option.map_eq_some_iff.mp hv
    obtain ⟨h3, h4⟩ := List.getElem?_zip_eq_some.mp h1
    obtain ⟨x, h5, h6⟩ := d1.all.get h3
    obtain ⟨y, h7, h8⟩ := d2.all.get h4
    exact ⟨x, y, p.1, p.2, h5, h7, h6, h8, h2.symm⟩
  · cases h
theorem itok_zipL {K : PySem.W.Frag} {mh : List Ob} {F : Hp} {ρ : List Addr} {H : Hp} {a b : Addr} {v w : Val} {vs ws l : List Val} (wd : Wd K mh F ρ H) (d1 : DenV K F ρ (.ref a) v) (d2 : DenV K F ρ (.ref b) w) (h1 : seqL mh v = some vs) (h2 : seqL mh w = some ws) (h : zipIt vs ws = some l) :
    ItOk K (Itz K a b) ⟨l, guardOf v vs ++ guardOf w ws⟩ F ρ where
  small := by
    obtain ⟨_, us, e, _, dd, z⟩ := seqL_ok wd d1 h1
    obtain ⟨_, xs, _, _, dd2, _⟩ := seqL_ok wd d2 h2
    have := (zipIt_ok h dd dd2).1
    rw [dd.length] at this
    show l.length ≤ _
    omega
  stop := fun {mh2 F2 ρ2 H2} w2 r hp g => by
    obtain ⟨_, us, e, q, dd, z⟩ := seqL_again wd d1 h1 w2 r hp fun p hp => g p (List.mem_append_left _ hp)
    cases e
    obtain ⟨_, xs, e, q2, dd2, z2⟩ := seqL_again wd d2 h2 w2 r hp fun p hp => g p (List.mem_append_right _ hp)
    cases e
    have := (zipIt_ok h dd dd2).1
    exact ⟨us, xs, q, q2, by show us.length ≤ l.length ∨ xs.length ≤ l.length; omega⟩
  go := fun {mh2 F2 ρ2 H2 i x} w2 r hp g hx => by
    obtain ⟨_, us, e, q, dd, z⟩ := seqL_again wd d1 h1 w2 r hp fun p hp => g p (List.mem_append_left _ hp)
    cases e
    obtain ⟨_, xs, e, q2, dd2, z2⟩ := seqL_again wd d2 h2 w2 r hp fun p hp => g p (List.mem_append_right _ hp)
    cases e
    obtain ⟨x1, y1, a1, b1, f1, f2, f3, f4, f5⟩ := (zipIt_ok h dd dd2).2 i x hx
    refine ⟨⟨us, xs, x1, y1, q, q2, f1, f2⟩, fun y H'' hy => ?_⟩
    obtain ⟨T, z1, z2, rfl, nT, rfl, k1, k2⟩ := hy
    have e1 : z1 = x1 := Option.some.inj ((k1 us q).symm.trans f1)
    have e2 : z2 = y1 := Option.some.inj ((k2 xs q2).symm.trans f2)
    subst e1 e2
    obtain ⟨w', g'⟩ := w2.newF (o := .tup [z1, z2]) nT
    refine ⟨_, w', g', ?_⟩
    subst f5
    exact Den.tup (.inl (.inl upd_same)) (by show 2 ≤ sizeLine; decide) (.cons (f3.mono g'.rd) (.cons (f4.mono g'.rd) .nil))
theorem itok_zipT {K : PySem.W.Frag} {mh : List Ob} {F : Hp} {ρ : List Addr} {H : Hp} {a b : Addr} {v w : Val} {vs ws l : List Val} (wd : Wd K mh F ρ H) (d1 : DenV K F ρ (.ref a) v) (d2 : DenV K F ρ (.ref b) w) (h1 : seqT v = some vs) (h2 : seqT w = some ws) (h : zipIt vs ws = some l) :
    ItOk K (RZ.ItzT K a b) ⟨l, []⟩ F ρ where
  small := by
    obtain ⟨_, us, e, _, dd, z⟩ := seqT_ok wd d1 h1
    obtain ⟨_, xs, _, _, dd2, _⟩ := seqT_ok wd d2 h2
    have := (zipIt_ok h dd dd2).1
    rw [dd.length] at this
    show l.length ≤ _
    omega
  stop := fun {mh2 F2 ρ2 H2} w2 r hp g => by
    obtain ⟨_, us, e, q, dd, z⟩ := seqT_again wd d1 h1 w2 r hp
    cases e
    obtain ⟨_, xs, e, q2, dd2, z2⟩ := seqT_again wd d2 h2 w2 r hp
    cases e
    have := (zipIt_ok h dd dd2).1
    exact ⟨us, xs, q, q2, by show us.length ≤ l.length ∨ xs.length ≤ l.length; omega⟩
  go := fun {mh2 F2 ρ2 H2 i x} w2 r hp g hx => by
    obtain ⟨_, us, e, q, dd, z⟩ := seqT_again wd d1 h1 w2 r hp
    cases e
    obtain ⟨_, xs, e, q2, dd2, z2⟩ := seqT_again wd d2 h2 w2 r hp
    cases e
    obtain ⟨x1, y1, a1, b1, f1, f2, f3, f4, f5⟩ := (zipIt_ok h dd dd2).2 i x hx
    refine ⟨⟨us, xs, x1, y1, q, q2, f1, f2⟩, fun y H'' hy => ?_⟩
    obtain ⟨T, z1, z2, rfl, nT, rfl, k1, k2⟩ := hy
    have e1 : z1 = x1 := Option.some.inj ((k1 us q).symm.trans f1)
    have e2 : z2 = y1 := Option.some.inj ((k2 xs q2).symm.trans f2)
    subst e1 e2
    obtain ⟨w', g'⟩ := w2.newF (o := .tup [z1, z2]) nT
    refine ⟨_, w', g', ?_⟩
    subst f5
    exact Den.tup (.inl (.inl upd_same)) (by show 2 ≤ sizeLine; decide) (.cons (f3.mono g'.rd) (.cons (f4.mono g'.rd) .nil))
def iArgsH (f : List Ob → List Val → Option Ix) (as : Sl → M (List Val)) (env : Sl) : M Ix := do
  let vs ← as env
  rdM fun mh => f mh vs
theorem si_zip {a b : Expr} {as : Sl → M (List Val)} {elts : List Expr} {kk : Nat} {tpos : Pos} (hg : Gl X "zip") (hm : X.mg "zip" = none) (h : SA X [a, b] as) (hs : starEach [a, b] X.env = (false, eval a X.env) :: starEach [b] X.env) (hpl : (backTo pos (starEach [b] X.env)).any (·.1) = false) :
    SI X (.Tuple elts kk tpos) (.Call (.Name "zip" p) [a, b] [] pos) (iArgsH zip2 as) :=
  SI.mk (RZ.pi_zipA hg hm h hs hpl) fun R rl e q => by
    obtain ⟨vs, mh1, e1, ea⟩ := M.bind_some.mp e
    obtain ⟨e2, e3⟩ := rdM_some.mp ea
    simp only at e2 e3
    subst e3
    refine ⟨_, _, _, _, _, _, rl, e1, fun F1 ρ1 H1 us w1 g1 d1 => ?_⟩
    unfold zip2 at e2
    split at e2
    · rename_i v w
      cases d1 with
      | cons dv dn =>
        cases dn with
        | cons dw dn =>
          cases dn
          split at e2
          · rename_i vs ws h1 h2
            obtain ⟨l, h3, h4⟩ := Option.map_eq_some_iff.mp e2
            subst h4
            obtain ⟨a, us, rfl, qa, _, _⟩ := seqT_ok w1 dv h1
            obtain ⟨b, xs, rfl, qb, _, _⟩ := seqT_ok w1 dw h2
            exact ⟨a, b, us, xs, rfl, .inr ⟨qa, qb, q _ _ _ _ w1 g1 (itok_zipT w1 dv dw h1 h2 h3)⟩⟩
          · split at e2
            · rename_i vs ws h1 h2
              obtain ⟨l, h3, h4⟩ := Option.map_eq_some_iff.mp e2
              subst h4
              obtain ⟨a, us, rfl, qa, _, _⟩ := seqL_ok w1 dv h1
              obtain ⟨b, xs, rfl, qb, _, _⟩ := seqL_ok w1 dw h2
              exact ⟨a, b, us, xs, rfl, .inl ⟨qa, qb, q _ _ _ _ w1 g1 (itok_zipL w1 dv dw h1 h2 h3)⟩⟩
            · cases e2
    · cases e2
end
end Pv

/-! PZ: a walk over three tuples at once -/
namespace Pv
open PySem PySem.Spec PyProof.Rows L2

/-- the items of three tuples, in new triples -/
def Itz3 (K : PySem.W.Frag) (a b c : Addr) : It :=
  ⟨fun i H => ∃ (xs ys zs : List V) (x y z : V), SqT K H a xs ∧ SqT K H b ys ∧ SqT K H c zs ∧ xs[i]? = some x ∧ ys[i]? = some y ∧ zs[i]? = some z,
    fun i H v H' => ∃ T x y z, v = .ref T ∧ H T = none ∧ H' = upd H T (.tup [x, y, z]) ∧ (∀ xs, SqT K H a xs → xs[i]? = some x) ∧ (∀ ys, SqT K H b ys → ys[i]? = some y) ∧ ∀ zs, SqT K H c zs → zs[i]? = some z,
    fun i H => ∃ xs ys zs : List V, SqT K H a xs ∧ SqT K H b ys ∧ SqT K H c zs ∧ i ≤ xs.length ∧ i ≤ ys.length ∧ i ≤ zs.length ∧ (i = xs.length ∨ i = ys.length ∨ i = zs.length)⟩
theorem turn_zip3 {P : Program} {w : World} {K : PySem.W.Frag} {elts : List Expr} {kk : Nat} {tpos : Pos} {a b c z TI TO i1 i2 i3 : Addr} (S : ZipSep3 z TI TO i1 i2 i3 [i1, a] [i2, b] [i3, c]) (n1 : a ≠ i1) (n2 : b ≠ i2) (n3 : c ≠ i3) :
    Turn P w K (.Tuple elts kk tpos) (Itz3 K a b c) [z, TI, TO, i1, i2, i3] z (fun i h => IsZip h z TI TO .none ∧ IsTupOf3 h TI (.ref i1) (.ref i2) (.ref i3) ∧ (∃ x y u, IsTupOf3 h TO x y u) ∧ h.IsTupleIter i1 a i ∧ h.IsTupleIter i2 b i ∧ h.IsTupleIter i3 c i) where
  mem := by simp
  obj := fun i h st d hd => by
    obtain ⟨hz, hTI, ⟨x, y, u, hTO⟩, ⟨o1, e1, _, d1⟩, ⟨o2, e2, _, d2⟩, ⟨o3, e3, _, d3⟩⟩ := st
    have e' : d = z ∨ d = TI ∨ d = TO ∨ d = i1 ∨ d = i2 ∨ d = i3 := by simpa using hd
    rcases e' with q | q | q | q | q | q <;> rw [q]
    · exact ⟨_, hz, fun v q => nomatch q⟩
    · exact ⟨_, hTI, fun v q => nomatch q⟩
    · exact ⟨_, hTO, fun v q => nomatch q⟩
    · exact ⟨o1, e1, fun v q => by rw [d1] at q; cases q⟩
    · exact ⟨o2, e2, fun v q => by rw [d2] at q; cases q⟩
    · exact ⟨o3, e3, fun v q => by rw [d3] at q; cases q⟩
  keep := fun i h h' st k => by
    obtain ⟨hz, hTI, ⟨x, y, u, hTO⟩, h1, h2, h3⟩ := st
    exact ⟨k z (by simp) _ hz, k TI (by simp) _ hTI, ⟨x, y, u, k TO (by simp) _ hTO⟩, h1.at fun o q => k i1 (by simp) o q, h2.at fun o q => k i2 (by simp) o q, h3.at fun o q => k i3 (by simp) o q⟩
  item := by
    intro X hP hw hK hc i pins s σ H E I hf st hg
    subst hP hw hK
    obtain ⟨hz, hTI, ⟨x0, y0, u0, hTO⟩, h1, h2, h3⟩ := st
    obtain ⟨xs, ys, zs, x, y, q, hqx, hqy, hqz, hx, hy, hzz⟩ := hg
    obtain ⟨its, rv, p, _⟩ := I.tuple hqx
    obtain ⟨its2, rv2, p2, _⟩ := I.tuple hqy
    obtain ⟨its3, rv3, p3, _⟩ := I.tuple hqz
    obtain ⟨u, hu, ru⟩ := rv.get hx
    obtain ⟨u2, hu2, ru2⟩ := rv2.get hy
    obtain ⟨u3, hu3, ru3⟩ := rv3.get hzz
    have hh := I.ok.hd hc
    have lt1 : i < its.toArray.size := by simpa using (List.getElem?_eq_some_iff.mp hu).1
    have lt2 : i < its2.toArray.size := by simpa using (List.getElem?_eq_some_iff.mp hu2).1
    have lt3 : i < its3.toArray.size := by simpa using (List.getElem?_eq_some_iff.mp hu3).1
    have hzl : z < s.heap.objs.size := Heap.lt_size hz
    refine wpAny_pyNext_zipD3_item S (Draws.tuple (prog := X.prog) (w := X.w) (A := X.A.in1) hh i1 a n1 its.toArray) (Draws.tuple (prog := X.prog) (w := X.w) (A := X.A.in1) hh i2 b n2 its2.toArray) (Draws.tuple (prog := X.prog) (w := X.w) (A := X.A.in1) hh i3 c n3 its3.toArray) hz hTI hTO ⟨h1, p⟩ ⟨h2, p2⟩ ⟨h3, p3⟩ lt1 lt2 lt3 fun v1 v2 v3 h' tk e1 e2 e3 z' TO' s1 s2 s3 hT hsz hk => ?_
    have w1 : v1 = u := Option.some.inj (e1.symm.trans (by simpa using hu))
    have w2 : v2 = u2 := Option.some.inj (e2.symm.trans (by simpa using hu2))
    have w3 : v3 = u3 := Option.some.inj (e3.symm.trans (by simpa using hu3))
    subst w1 w2 w3
    refine ⟨_, rfl, wpAny_letOwnedTupleGo_zip (s := { s with heap := h', toks := tk }) z' fun h'' z'' sb => ?_⟩
    have hT2 : h''.get? s.heap.objs.size = some { cls := .type "tuple", data := .seq #[v1, v2, v3] } := (sb.2 _ (Nat.ne_of_gt hzl)).trans hT
    have new : ObjOk X.prog X.w (upd H s.heap.objs.size (.tup [x, y, q])) h'' s.heap.objs.size (.tup [x, y, q]) :=
      ⟨by show 3 ≤ sizeLine; decide, [v1, v2, v3], .cons ru (.cons ru2 (.cons ru3 .nil)), ⟨_, hT2, rfl, _, rfl⟩⟩
    have far : ∀ d o, d ∉ [z, TI, TO, i1, i2, i3] → s.heap.get? d = some o → h''.get? d = some o := fun d o hb e =>
      (sb.2 d (fun q' => hb (by simp [q']))).trans (hk d o (fun q' => hb (by simp [q'])) (fun q' => hb (by simp [q'])) (fun q' => hb (by simp [q'])) (fun q' => hb (by simp [q'])) (fun q' => hb (by simp [q'])) e)
    have I1 : Inv X pins σ (upd H s.heap.objs.size (.tup [x, y, q])) { s with heap := h'', toks := tk } :=
      I.turnedNew (t' := tk) (ch := [z, TI, TO, i1, i2, i3]) far hf (Nat.le_refl _) new
    refine ⟨.ref s.heap.objs.size, _, I1, rfl, ⟨_, x, y, q, rfl, I.hok.fresh (Nat.le_refl _), rfl, fun l hl => by rw [I.tuple_inj hl hqx]; exact hx, fun l hl => by rw [I.tuple_inj hl hqy]; exact hy, fun l hl => by rw [I.tuple_inj hl hqz]; exact hzz⟩, ⟨z'', ?_, ⟨v1, v2, v3, ?_⟩, ?_, ?_, ?_⟩, fun d hdm => ?_⟩
    · exact (sb.2 _ S.TIz).trans (hk _ _ S.TIz S.TITO S.TIi1 S.TIi2 S.TIi3 hTI)
    · exact (sb.2 _ S.TOz).trans TO'
    · exact s1.1.at fun o e => (sb.2 _ S.zi1.symm).trans e
    · exact s2.1.at fun o e => (sb.2 _ S.zi2.symm).trans e
    · exact s3.1.at fun o e => (sb.2 _ S.zi3.symm).trans e
    · have hlt : d < s.heap.objs.size := by
        have e' : d = z ∨ d = TI ∨ d = TO ∨ d = i1 ∨ d = i2 ∨ d = i3 := by simpa using hdm
        rcases e' with e | e | e | e | e | e <;> rw [e]
        · exact hzl
        · exact Heap.lt_size hTI
        · exact Heap.lt_size hTO
        · obtain ⟨_, e1, _⟩ := h1; exact Heap.lt_size e1
        · obtain ⟨_, e1, _⟩ := h2; exact Heap.lt_size e1
        · obtain ⟨_, e1, _⟩ := h3; exact Heap.lt_size e1
      rw [upd_ne (Nat.ne_of_lt hlt)]
      exact (hf d hdm).1
  done := by
    intro X hP hw hK hc i pins s σ H E I hf st hg
    subst hP hw hK
    obtain ⟨hz, hTI, ⟨x0, y0, u0, hTO⟩, h1, h2, h3⟩ := st
    obtain ⟨xs, ys, zs, hqx, hqy, hqz, l1, l2, l3, hend⟩ := hg
    obtain ⟨its, rv, p, _⟩ := I.tuple hqx
    obtain ⟨its2, rv2, p2, _⟩ := I.tuple hqy
    obtain ⟨its3, rv3, p3, _⟩ := I.tuple hqz
    have m1 : its.toArray.size = xs.length := by have := rv.length; simp; omega
    have m2 : its2.toArray.size = ys.length := by have := rv2.length; simp; omega
    have m3 : its3.toArray.size = zs.length := by have := rv3.length; simp; omega
    have hh := I.ok.hd hc
    exact wpAny_pyNext_zipD3_end S (Draws.tuple (prog := X.prog) (w := X.w) (A := X.A.in1) hh i1 a n1 its.toArray) (Draws.tuple (prog := X.prog) (w := X.w) (A := X.A.in1) hh i2 b n2 its2.toArray) (Draws.tuple (prog := X.prog) (w := X.w) (A := X.A.in1) hh i3 c n3 its3.toArray) hz hTI hTO ⟨h1, p⟩ ⟨h2, p2⟩ ⟨h3, p3⟩ (by omega) (by omega) (by omega) (by omega) fun h' tk hk => ⟨rfl, I.turnedL (t' := tk) (ch := [z, TI, TO, i1, i2, i3]) (fun d o hb q =>
      hk d o (fun q' => hb (by simp [q'])) (fun q' => hb (by simp [q'])) (fun q' => hb (by simp [q'])) (fun q' => hb (by simp [q'])) (fun q' => hb (by simp [q'])) q) hf⟩
  self := fun A i s Q E st h => wpAny_pyIter_zip st.1 h
theorem sep3 (N a b c : Nat) (la : a < N) (lb : b < N) (lc : c < N) : ZipSep3 (N + 5) (N + 3) (N + 4) N (N + 1) (N + 2) [N, a] [N + 1, b] [N + 2, c] := by
  have ne : ∀ {x y : Nat}, x < y ∨ y < x → x ≠ y := fun h => by omega
  have nm : ∀ {x y z : Nat}, (x < y ∨ y < x) → (x < z ∨ z < x) → x ∉ [y, z] := fun h1 h2 e => by
    rcases List.mem_cons.mp e with e | e
    · omega
    · have := List.mem_singleton.mp e
      omega
  exact { TIz := ne (by omega), TOz := ne (by omega), TITO := ne (by omega), TIi1 := ne (by omega), mem1 := List.mem_cons_self, zf1 := nm (by omega) (by omega), Tf1 := nm (by omega) (by omega),
          TIi2 := ne (by omega), mem2 := List.mem_cons_self, zf2 := nm (by omega) (by omega), Tf2 := nm (by omega) (by omega), TIi3 := ne (by omega), mem3 := List.mem_cons_self, zf3 := nm (by omega) (by omega), Tf3 := nm (by omega) (by omega),
          sep1_2 := nm (by omega) (by omega), sep1_3 := nm (by omega) (by omega), sep2_1 := nm (by omega) (by omega), sep2_3 := nm (by omega) (by omega), sep3_1 := nm (by omega) (by omega), sep3_2 := nm (by omega) (by omega) }
def iZip3 (K : PySem.W.Frag) (ta : TA) : TI := fun σ H R => ta σ H fun vs H1 => ∃ a b c xs ys zs, vs = [.ref a, .ref b, .ref c] ∧ SqT K H1 a xs ∧ SqT K H1 b ys ∧ SqT K H1 c zs ∧ R (Itz3 K a b c) H1
theorem pi_zip3 {X : Cx} {e e2 e3 : Expr} {ta : TA} {p pos tpos : Pos} {elts : List Expr} {kk : Nat} (hg : Gl X "zip") (hm : X.mg "zip" = none) (ha : PA X [e, e2, e3] ta)
    (hs : starEach [e, e2, e3] X.env = (false, eval e X.env) :: starEach [e2, e3] X.env) (hpl : (backTo pos (starEach [e2, e3] X.env)).any (·.1) = false) :
    PI X (.Tuple elts kk tpos) (.Call (.Name "zip" p) [e, e2, e3] [] pos) (iZip3 X.K ta) := by
  refine ⟨fun pins s σ H R I h => ?_⟩
  refine Call_ (ld_blt I hg hm PyProof.Rows.boot_zip (PyProof.Rows.callWith_type1 (thn (ha.run pos pins s σ H _ I h) fun us s1 ⟨vs, H1, I1, r1, q1⟩ => ?_) hs hpl))
  obtain ⟨a, b, c, xs, ys, zs, ex, hqx, hqy, hqz, q⟩ := q1
  subst ex
  cases r1 with
  | cons r rr =>
    cases rr with
    | cons r' rr =>
      cases rr with
      | cons r'' rr =>
        cases rr
        cases r
        cases r'
        cases r''
        obtain ⟨its, rv, p1, _⟩ := I1.tuple hqx
        obtain ⟨its2, rv2, p2, _⟩ := I1.tuple hqy
        obtain ⟨its3, rv3, p3, _⟩ := I1.tuple hqz
        have la : a < s1.heap.objs.size := by obtain ⟨o1, ho1, _⟩ := id p1; exact Heap.lt_size ho1
        have lb : b < s1.heap.objs.size := by obtain ⟨o1, ho1, _⟩ := id p2; exact Heap.lt_size ho1
        have lc : c < s1.heap.objs.size := by obtain ⟨o1, ho1, _⟩ := id p3; exact Heap.lt_size ho1
        refine zip_begins3 (begins_tuple a its.toArray) (begins_tuple b its2.toArray) (begins_tuple c its3.toArray) p1 p2 p3 fun h' hz hTI hTO g1 g2 g3 hsz hk => wpAny_pyIter_zip hz ?_
        have I2 : Inv X pins σ H1 { s1 with heap := h' } := I1.kept (t' := s1.toks) hk
        generalize hN : s1.heap.objs.size = N at *
        have S := sep3 N a b c la lb lc
        refine ⟨N + 5, [N + 5, N + 3, N + 4, N, N + 1, N + 2], _, _, H1, rfl, I2, turn_zip3 S (Nat.ne_of_lt la) (Nat.ne_of_lt (Nat.lt_succ_of_lt lb)) (Nat.ne_of_lt (Nat.lt_succ_of_lt (Nat.lt_succ_of_lt lc))), ⟨hz, hTI, ⟨_, _, _, hTO⟩, ⟨_, g1, rfl, rfl⟩, ⟨_, g2, rfl, rfl⟩, ⟨_, g3, rfl, rfl⟩⟩, fun d hdm => ?_, q⟩
        have hle : N ≤ d := by
          have e' : d = N + 5 ∨ d = N + 3 ∨ d = N + 4 ∨ d = N ∨ d = N + 1 ∨ d = N + 2 := by simpa using hdm
          rcases e' with e | e | e | e | e | e <;> rw [e] <;> first | exact Nat.le_refl _ | exact Nat.le_add_right _ _
        have hle2 : s1.heap.objs.size ≤ d := by rw [hN]; exact hle
        exact I1.fpOk hle2 (I1.hok.fresh hle2)
def zip3 : List Val → Option Ix
  | [.d (.tuple xs), .d (.tuple ys), .d (.tuple zs)] => some ⟨(xs.zip (ys.zip zs)).map fun p => .d (.tuple [p.1, p.2.1, p.2.2]), []⟩
  | _ => none
theorem itok_zip3 {K : PySem.W.Frag} {mh : List Ob} {F : Hp} {ρ : List Addr} {H : Hp} {a b c : Addr} {xs ys zs : List Dt} (wd : Wd K mh F ρ H) (d1 : DenV K F ρ (.ref a) (.d (.tuple xs))) (d2 : DenV K F ρ (.ref b) (.d (.tuple ys))) (d3 : DenV K F ρ (.ref c) (.d (.tuple zs))) :
    ItOk K (Itz3 K a b c) ⟨(xs.zip (ys.zip zs)).map fun p => .d (.tuple [p.1, p.2.1, p.2.2]), []⟩ F ρ where
  small := by
    cases d1 with
    | tup q z r =>
      show (List.map _ _).length ≤ _
      rw [List.length_map, List.length_zip]
      omega
  stop := fun {mh2 F2 ρ2 H2} w2 r hp g => by
    cases d1 with
    | tup q z r1 =>
      cases d2 with
      | tup q2 z2 r2 =>
        cases d3 with
        | tup q3 z3 r3 =>
          have e1 := r1.length
          have e2 := r2.length
          have e3 := r3.length
          refine ⟨_, _, _, w2.rle.sqT (r.sqT q), w2.rle.sqT (r.sqT q2), w2.rle.sqT (r.sqT q3), ?_⟩
          show (List.map _ _).length ≤ _ ∧ (List.map _ _).length ≤ _ ∧ (List.map _ _).length ≤ _ ∧ ((List.map _ _).length = _ ∨ (List.map _ _).length = _ ∨ (List.map _ _).length = _)
          rw [List.length_map, List.length_zip, List.length_zip]
          omega
  go := fun {mh2 F2 ρ2 H2 i x} w2 r hp g hx => by
    cases d1 with
    | tup q z r1 =>
      cases d2 with
      | tup q2 z2 r2 =>
        cases d3 with
        | tup q3 z3 r3 =>
          have hx : ((xs.zip (ys.zip zs)).map fun p => Val.d (.tuple [p.1, p.2.1, p.2.2]))[i]? = some x := hx
          rw [List.getElem?_map] at hx
          obtain ⟨p, h1, h2⟩ := Option.map_eq_some_iff.mp hx
          obtain ⟨h3, h4⟩ := List.getElem?_zip_eq_some.mp h1
          obtain ⟨h5, h6⟩ := List.getElem?_zip_eq_some.mp h4
          obtain ⟨x1, k1, l1⟩ := r1.get h3
          obtain ⟨x2, k2, l2⟩ := r2.get h5
          obtain ⟨x3, k3, l3⟩ := r3.get h6
          have s1 := w2.rle.sqT (r.sqT q)
          have s2 := w2.rle.sqT (r.sqT q2)
          have s3 := w2.rle.sqT (r.sqT q3)
          refine ⟨⟨_, _, _, x1, x2, x3, s1, s2, s3, k1, k2, k3⟩, fun y H'' hy => ?_⟩
          obtain ⟨T, y1, y2, y3, rfl, nT, rfl, m1, m2, m3⟩ := hy
          have e1 : y1 = x1 := Option.some.inj ((m1 _ s1).symm.trans k1)
          have e2 : y2 = x2 := Option.some.inj ((m2 _ s2).symm.trans k2)
          have e3 : y3 = x3 := Option.some.inj ((m3 _ s3).symm.trans k3)
          subst e1 e2 e3
          obtain ⟨w', g'⟩ := w2.newF (o := .tup [y1, y2, y3]) nT
          refine ⟨_, w', g', ?_⟩
          subst h2
          exact Den.tup (.inl (.inl upd_same)) (by show 3 ≤ sizeLine; decide) (.cons ((l1.mono r).mono g'.rd) (.cons ((l2.mono r).mono g'.rd) (.cons ((l3.mono r).mono g'.rd) .nil)))
theorem si_zip3 {X : Cx} {a b c : Expr} {as : Sl → M (List Val)} {p pos tpos : Pos} {elts : List Expr} {kk : Nat} (hg : Gl X "zip") (hm : X.mg "zip" = none) (h : SA X [a, b, c] as) (hs : starEach [a, b, c] X.env = (false, eval a X.env) :: starEach [b, c] X.env) (hpl : (backTo pos (starEach [b, c] X.env)).any (·.1) = false) :
    SI X (.Tuple elts kk tpos) (.Call (.Name "zip" p) [a, b, c] [] pos) (iArgs zip3 as) :=
  SI.mk (pi_zip3 hg hm h hs hpl) fun R rl e q => by
    obtain ⟨vs, mh1, e1, ea⟩ := M.bind_some.mp e
    obtain ⟨e2, e3⟩ := ofO_some.mp ea
    simp only at e2 e3
    subst e3
    refine ⟨_, _, _, _, _, _, rl, e1, fun F1 ρ1 H1 us w1 g1 d1 => ?_⟩
    unfold zip3 at e2
    split at e2
    · cases e2
      cases d1 with
      | cons dv dn =>
        cases dn with
        | cons dw dn =>
          cases dn with
          | cons du dn =>
            cases dn
            obtain ⟨a, us, rfl, qa, _, _⟩ := seqT_ok w1 dv rfl
            obtain ⟨b, vs, rfl, qb, _, _⟩ := seqT_ok w1 dw rfl
            obtain ⟨c, ws, rfl, qc, _, _⟩ := seqT_ok w1 du rfl
            exact ⟨a, b, c, _, _, _, rfl, qa, qb, qc, q _ _ _ _ w1 g1 (itok_zip3 w1 dv dw du)⟩
    · cases e2
end Pv

/-! PE: a walk over a tuple with the numbers of its items -/
namespace Pv
open PySem PySem.Spec PyProof.Rows L2
open Sem (wp)

theorem meets_enum_new1 {v : Value} {o : Obj} {H : Heap → Prop} (B : Begins v o H) :
    Meets (Builtin.«enumerate.__new__» ⟨[.type "enumerate", v], []⟩) (fun _ R s => H s.heap ∧
      R (.ok (.ret (.ref (s.heap.push o).objs.size))) { s with heap := (s.heap.push o).push { cls := .type "enumerate", data := .fields #[.none, .bool false, .ref s.heap.objs.size, rawInt 0, .none, .none] } }) :=
  .of_wp fun prog w A R s h => by
    obtain ⟨hp, g, d, tk, os⟩ := s; obtain ⟨h1, h⟩ := h
    have hsub := sub_enumerate
    have q1 : ∀ {A' : Around} {E : Value → Shared → Prop} {Q : Value → Shared → Prop}, Q (.ref hp.objs.size) ⟨hp.push o, g, d, tk, os⟩ → wpAny (model prog w) A' (pyIter v) Q E ⟨hp, g, d, tk, os⟩ :=
      fun q => B.iter prog w _ _ ⟨hp, g, d, tk, os⟩ _ h1 q
    wp_walk using q1
    refine wpAny_stack_any fun st => wpAny_pure ?_
    split
    · rename_i c _ _ _ _ _
      cases (c == Value.type "enumerate")
      · wp_walk using q1
        exact ⟨_, rfl, h⟩
      · wp_walk using q1
        exact ⟨_, rfl, h⟩
    · wp_walk using q1
      exact ⟨_, rfl, h⟩
section
variable {prog : Program} {w : World} {A : Around} {E : Value → Shared → Prop} {s : Shared}
theorem enum_begins1 {v : Value} {o : Obj} {H : Heap → Prop} {Q : Value → Shared → Prop} (B : Begins v o H) (h1 : H s.heap)
    (h : ∀ h', IsEnum h' (s.heap.objs.size + 1) s.heap.objs.size 0 .none → h'.get? s.heap.objs.size = some o → h'.objs.size = s.heap.objs.size + 2 →
      (∀ b o, s.heap.get? b = some o → h'.get? b = some o) → Q (.ref (s.heap.objs.size + 1)) { s with heap := h' }) :
    wpAny (model prog w) A (call (.type "enumerate") [v]) Q E s := by
  refine callType_new F.called_enumerate (by decide) (F.typeCall_enumerate_1 _) (F.newCall_enumerate_1 _) (fun obj => F.args_object_init_2 obj _) F.entry_enumerate_new
    (meets_enum_new1 B) ⟨h1, ?_⟩
  have hz : (s.heap.push o).objs.size = s.heap.objs.size + 1 := Heap.size_push ..
  show _ ∧ _
  rw [hz]
  have he : IsEnum ((s.heap.push o).push { cls := .type "enumerate", data := .fields #[.none, .bool false, .ref s.heap.objs.size, rawInt 0, .none, .none] }) (s.heap.objs.size + 1) s.heap.objs.size 0 .none := by
    have := Heap.get?_push_size (s.heap.push o) (o := { cls := .type "enumerate", data := .fields #[.none, .bool false, .ref s.heap.objs.size, rawInt 0, .none, .none] }) rfl
    rw [hz] at this; exact this
  refine ⟨⟨_, he, rfl⟩, h _ he (Heap.get?_push_of_some _ (Heap.get?_push_size _ B.free)) (by rw [Heap.size_push, hz]) fun b o x => Heap.get?_push_of_some _ (Heap.get?_push_of_some _ x)⟩
end
def IteT (K : PySem.W.Frag) (a : Addr) : It :=
  ⟨fun i H => ∃ (xs : List V) (x : V), SqT K H a xs ∧ xs[i]? = some x, fun i H v H' => ∃ T x, v = .ref T ∧ H T = none ∧ H' = upd H T (.tup [.int (i : Nat), x]) ∧ ∀ xs, SqT K H a xs → xs[i]? = some x, fun i H => ∃ xs : List V, SqT K H a xs ∧ xs.length = i⟩
theorem turn_enumT {P : Program} {w : World} {K : PySem.W.Frag} {elts : List Expr} {kk : Nat} {tpos : Pos} (a e it : Addr) (n1 : a ≠ it) (n2 : e ≠ a) :
    Turn P w K (.Tuple elts kk tpos) (IteT K a) [e, it] e (fun i h => (∃ old, IsEnum h e it ((i : Nat) : Int) old) ∧ h.IsTupleIter it a i ∧ e ≠ it) where
  mem := by simp
  obj := fun i h st b hb => by
    obtain ⟨⟨old, he⟩, ⟨o, ho, hc, hd⟩, _⟩ := st
    have e' : b = e ∨ b = it := by simpa using hb
    rcases e' with z | z
    · rw [z]; exact ⟨_, he, fun v q => nomatch q⟩
    · rw [z]; exact ⟨o, ho, fun v q => by rw [hd] at q; cases q⟩
  keep := fun i h h' st k => let ⟨⟨old, he⟩, hi, hne⟩ := st; ⟨⟨old, k e (by simp) _ he⟩, hi.at fun o q => k it (by simp) o q, hne⟩
  item := by
    intro X hP hw hK hc i pins s σ H E I hf st hg
    subst hP hw hK
    obtain ⟨⟨old, he⟩, hit, hne⟩ := st
    obtain ⟨xs, x, hq, hx⟩ := hg
    obtain ⟨its, rv, p, hz⟩ := I.tuple hq
    obtain ⟨u, hu, ru⟩ := rv.get hx
    have hel : e < s.heap.objs.size := Heap.lt_size he
    have hil : it < s.heap.objs.size := by obtain ⟨_, q, _⟩ := hit; exact Heap.lt_size q
    have lt1 : i < its.toArray.size := by simpa using (List.getElem?_eq_some_iff.mp hu).1
    have hef : e ∉ [it, a] := by
      intro z
      rcases List.mem_cons.mp z with z | z
      · exact hne z
      · exact n2 (List.mem_singleton.mp z)
    refine wpAny_pyNext_enum_itemD (Draws.tuple (prog := X.prog) (w := X.w) (A := X.A.in1) (I.ok.hd hc) it a n1 its.toArray) he ⟨hit, p⟩ lt1 hne hef fun v h' tk hPx ho hst' hT hsz hk => ?_
    obtain ⟨hit', p'⟩ := hst'
    have w1 : v = u := Option.some.inj (hPx.symm.trans (by simpa using hu))
    subst w1
    refine ⟨_, rfl, wpAny_letOwnedTupleGo_enum (s := { s with heap := h', toks := tk + 1 }) ho fun h'' he' sb => ?_⟩
    have hT2 : h''.get? s.heap.objs.size = some { cls := .type "tuple", data := .seq #[.int i tk, v] } := (sb.2 _ (Nat.ne_of_gt hel)).trans hT
    have new : ObjOk X.prog X.w (upd H s.heap.objs.size (.tup [.int (i : Nat), x])) h'' s.heap.objs.size (.tup [.int (i : Nat), x]) :=
      ⟨by show 2 ≤ sizeLine; decide, [.int i tk, v], .cons ⟨_, rfl⟩ (.cons ru .nil), ⟨_, hT2, rfl, _, rfl⟩⟩
    have I1 : Inv X pins σ (upd H s.heap.objs.size (.tup [.int (i : Nat), x])) { s with heap := h'', toks := tk + 1 } :=
      I.turnedNew (ch := [e, it]) (fun b ob hb q => (sb.2 b (fun z => hb (by simp [z]))).trans (hk b ob (fun z => hb (by simp [z])) (fun z => hb (by simp [z])) q)) hf (Nat.le_refl _) new
    refine ⟨.ref s.heap.objs.size, _, I1, rfl, ⟨_, x, rfl, I.hok.fresh (Nat.le_refl _), rfl, fun ys hy => by rw [I.tuple_inj hy hq]; exact hx⟩, ⟨⟨v, ?_⟩, hit'.at fun o q => (sb.2 it (Ne.symm hne)).trans q, hne⟩, fun b hb => ?_⟩
    · have e1 : ((i + 1 : Nat) : Int) = (i : Int) + 1 := by omega
      rw [e1]; exact he'
    · have hb' : b < s.heap.objs.size := by
        have e' : b = e ∨ b = it := by simpa using hb
        rcases e' with z | z
        · rw [z]; exact hel
        · rw [z]; exact hil
      rw [upd_ne (Nat.ne_of_lt hb')]
      exact (hf b hb).1
  done := by
    intro X hP hw hK hc i pins s σ H E I hf st hg
    subst hP hw hK
    obtain ⟨⟨old, he⟩, hit, hne⟩ := st
    obtain ⟨xs, hq, hx⟩ := hg
    obtain ⟨its, rv, p, hz⟩ := I.tuple hq
    obtain ⟨f0, f1, f2, f3, f4, f5⟩ := hf it (by simp)
    have hl := rv.length
    have hit2 : s.heap.IsTupleIter it a its.toArray.size := by
      have : its.toArray.size = i := by simp; omega
      rw [this]; exact hit
    exact wpAny_pyNext_enum_endD (Draws.tuple (prog := X.prog) (w := X.w) (A := X.A.in1) (I.ok.hd hc) it a n1 its.toArray) he ⟨hit2, p⟩ fun h' eb => ⟨rfl, I.turned (t' := s.toks) (fun b o hb q => eb b o hb q) f0 f1 f3 f4 f5⟩
  self := fun A i s Q E st h => let ⟨⟨_, he⟩, _⟩ := st; wpAny_pyIter_enum he h
def iEnumT (K : PySem.W.Frag) (ta : TA) : TI := fun σ H R => ta σ H fun vs H1 => ∃ a xs, vs = [.ref a] ∧ SqT K H1 a xs ∧ R (IteT K a) H1
theorem pi_enumT {X : Cx} {e : Expr} {ta : TA} {p pos tpos : Pos} {elts : List Expr} {kk : Nat} (hg : Gl X "enumerate") (hm : X.mg "enumerate" = none) (ha : PA X [e] ta) (hs : starEach [e] X.env = (false, eval e X.env) :: starEach [] X.env) :
    PI X (.Tuple elts kk tpos) (.Call (.Name "enumerate" p) [e] [] pos) (iEnumT X.K ta) := by
  refine ⟨fun pins s σ H R I h => ?_⟩
  refine Call_ (ld_blt I hg hm boot_enumerate (PyProof.Rows.callWith_type1 (thn (ha.run pos pins s σ H _ I h) fun us s1 ⟨vs, H1, I1, r1, q1⟩ => ?_) hs rfl))
  obtain ⟨a, xs, ex, hq, q⟩ := q1
  subst ex
  cases r1 with
  | cons r rr =>
    cases rr
    cases r
    obtain ⟨its, rv, p', hz⟩ := I1.tuple hq
    have la : a < s1.heap.objs.size := by obtain ⟨o1, ho1, _⟩ := id p'; exact Heap.lt_size ho1
    refine enum_begins1 (begins_tuple a its.toArray) p' fun h' he g1 hsz hk => wpAny_pyIter_enum he ?_
    have I2 : Inv X pins σ H1 { s1 with heap := h' } := I1.kept (t' := s1.toks) hk
    refine ⟨s1.heap.objs.size + 1, [s1.heap.objs.size + 1, s1.heap.objs.size], _, _, H1, rfl, I2, turn_enumT a (s1.heap.objs.size + 1) s1.heap.objs.size (Nat.ne_of_lt la) (Nat.ne_of_gt (Nat.lt_succ_of_lt la)), ⟨⟨.none, he⟩, ⟨_, g1, rfl, rfl⟩, Nat.succ_ne_self _⟩, fun b hb => ?_, q⟩
    have e' : b = s1.heap.objs.size + 1 ∨ b = s1.heap.objs.size := by simpa using hb
    have hle : s1.heap.objs.size ≤ b := by
      rcases e' with z | z
      · rw [z]; exact Nat.le_add_right _ _
      · rw [z]; exact Nat.le_refl _
    exact I1.fpOk hle (I1.hok.fresh hle)
def enumV : List Val → Option Ix
  | [.d (.tuple xs)] => some ⟨(xs.zipIdx).map fun p => .d (.tuple [.int (p.2 : Nat), p.1]), []⟩
  | _ => none
theorem itok_enumT {K : PySem.W.Frag} {mh : List Ob} {F : Hp} {ρ : List Addr} {H : Hp} {a : Addr} {xs : List Dt} (wd : Wd K mh F ρ H) (d1 : DenV K F ρ (.ref a) (.d (.tuple xs))) :
    ItOk K (IteT K a) ⟨(xs.zipIdx).map fun p => .d (.tuple [.int (p.2 : Nat), p.1]), []⟩ F ρ where
  small := by
    cases d1 with
    | tup q z r =>
      show (List.map _ _).length ≤ _
      rw [List.length_map, List.length_zipIdx]
      exact z
  stop := fun {mh2 F2 ρ2 H2} w2 r hp g => by
    cases d1 with
    | tup q z r1 =>
      have e1 := r1.length
      refine ⟨_, w2.rle.sqT (r.sqT q), ?_⟩
      show _ = (List.map _ _).length
      rw [List.length_map, List.length_zipIdx]
      exact e1
  go := fun {mh2 F2 ρ2 H2 i x} w2 r hp g hx => by
    cases d1 with
    | tup q z r1 =>
      have hx : ((xs.zipIdx).map fun p => Val.d (.tuple [.int (p.2 : Nat), p.1]))[i]? = some x := hx
      rw [List.getElem?_map, List.getElem?_zipIdx, Option.map_map] at hx
      obtain ⟨d, h1, h2⟩ := Option.map_eq_some_iff.mp hx
      obtain ⟨x1, k1, l1⟩ := r1.get h1
      have s1 := w2.rle.sqT (r.sqT q)
      refine ⟨⟨_, x1, s1, k1⟩, fun y H'' hy => ?_⟩
      obtain ⟨T, y1, rfl, nT, rfl, m1⟩ := hy
      have e1 : y1 = x1 := Option.some.inj ((m1 _ s1).symm.trans k1)
      subst e1
      obtain ⟨w', g'⟩ := w2.newF (o := .tup [.int (i : Nat), y1]) nT
      refine ⟨_, w', g', ?_⟩
      subst h2
      have e3 : ((0 + i : Nat) : Int) = (i : Int) := by omega
      show DenV _ _ _ _ (.d (.tuple [.int ((0 + i : Nat) : Int), d]))
      rw [e3]
      exact Den.tup (.inl (.inl upd_same)) (by show 2 ≤ sizeLine; decide) (.cons (.int _) (.cons ((l1.mono r).mono g'.rd) .nil))
theorem si_enumT {X : Cx} {a : Expr} {as : Sl → M (List Val)} {p pos tpos : Pos} {elts : List Expr} {kk : Nat} (hg : Gl X "enumerate") (hm : X.mg "enumerate" = none) (h : SA X [a] as) (hs : starEach [a] X.env = (false, eval a X.env) :: starEach [] X.env) :
    SI X (.Tuple elts kk tpos) (.Call (.Name "enumerate" p) [a] [] pos) (iArgs enumV as) :=
  SI.mk (pi_enumT hg hm h hs) fun R rl e q => by
    obtain ⟨vs, mh1, e1, ea⟩ := M.bind_some.mp e
    obtain ⟨e2, e3⟩ := ofO_some.mp ea
    simp only at e2 e3
    subst e3
    refine ⟨_, _, _, _, _, _, rl, e1, fun F1 ρ1 H1 us w1 g1 d1 => ?_⟩
    unfold enumV at e2
    split at e2
    · cases e2
      cases d1 with
      | cons dv dn =>
        cases dn
        obtain ⟨a, us, rfl, qa, _, _⟩ := seqT_ok w1 dv rfl
        exact ⟨a, _, rfl, qa, q _ _ _ _ w1 g1 (itok_enumT w1 dv)⟩
    · cases e2
end Pv

/-! PI: t.index(x), t a tuple of texts -/
namespace Pv
open PySem PySem.Spec PyProof.Rows L2
section
variable {X : Cx}
def idxVl (o : Val) (as : List Val) : M Val := fun mh => match o, as with
  | .d (.tuple xs), [.d (.str z)] => match allOf asStr (xs.map Val.d) with
    | some ys => if ys.idxOf z < ys.length then some (.d (.int (ys.idxOf z : Nat)), mh) else none
    | none => none
  | _, _ => none
theorem mts_index : MtS X "tuple" "tuple.index" idxVl := by
  refine ⟨_, mt_tup_index, fun Q w dx dv e q => ?_⟩
  unfold idxVl at e
  split at e
  · rename_i xs z
    cases e1 : allOf asStr (xs.map Val.d) with
    | none => rw [e1] at e; cases e
    | some ys =>
      rw [e1] at e
      simp only at e
      split at e
      · rename_i hlt
        cases dv with
        | cons d dn =>
          cases dn
          cases e
          have hz := den_str d
          subst hz
          cases dx with
          | tup q1 z1 r1 =>
            have hu := (allOf_ok (g := V.str) (fun d h => asStr_ok d h) (DenVs.of_all (ρ := []) r1) e1).1
            subst hu
            refine ⟨_, ys, z, ys.idxOf z, rfl, rfl, w.rle.sqT q1, ?_, fun m hm e2 => ?_, q _ _ _ w .refl (Den.int _)⟩
            · rw [List.getElem?_eq_getElem hlt, List.getElem_idxOf hlt]
            · obtain ⟨h1, h2⟩ := List.getElem?_eq_some_iff.mp e2
              have h3 := List.idxOf_lt_length_iff.mp hlt
              have := List.not_of_lt_findIdx (p := (· == z)) hm
              rw [h2] at this
              simp at this
      · cases e
  · cases e
end
end Pv

/-! P7: statements, loops, comprehensions, calls -/
namespace Pv
open PySem PySem.Spec PyProof.Rows L2

inductive Fl where
  | nx (e : Sl) | rt (v : Val) | bk (e : Sl) | ct (e : Sl)
def Post (K : PySem.W.Frag) (D : Ends) (mh : List Ob) (F : Hp) (ρ : List Addr) (H : Hp) : Fl → Prop
  | .nx e => ∀ F' ρ' σ' H', Rl K e mh F' ρ' σ' H' → Gr F ρ H F' ρ' H' → D.nx σ' H'
  | .rt v => ∀ F' ρ' H' u, Wd K mh F' ρ' H' → Gr F ρ H F' ρ' H' → DenV K F' ρ' u v → D.rt u H'
  | .bk e => ∀ F' ρ' σ' H', Rl K e mh F' ρ' σ' H' → Gr F ρ H F' ρ' H' → D.bk σ' H'
  | .ct e => ∀ F' ρ' σ' H', Rl K e mh F' ρ' σ' H' → Gr F ρ H F' ρ' H' → D.ct σ' H'
def tSt (K : PySem.W.Frag) (m : Sl → M Fl) : TS := fun D σ H => ∃ env mh F ρ fl mh', Rl K env mh F ρ σ H ∧ m env mh = some (fl, mh') ∧ Post K D mh' F ρ H fl
def SS (X : Cx) (st : Stmt) (m : Sl → M Fl) : Prop := PS X st (tSt X.K m)
def SSs (X : Cx) (st : List Stmt) (m : Sl → M Fl) : Prop := PSs X st (tSt X.K m)
theorem Post.grow {K : PySem.W.Frag} {D : Ends} {mh : List Ob} {F F1 : Hp} {ρ ρ1 : List Addr} {H H1 : Hp} {fl : Fl} (p : Post K D mh F ρ H fl) (g : Gr F ρ H F1 ρ1 H1) : Post K D mh F1 ρ1 H1 fl := by
  cases fl with
  | nx e => exact fun F' ρ' σ' H' r g' => p F' ρ' σ' H' r (g.trans g')
  | bk e => exact fun F' ρ' σ' H' r g' => p F' ρ' σ' H' r (g.trans g')
  | ct e => exact fun F' ρ' σ' H' r g' => p F' ρ' σ' H' r (g.trans g')
  | rt v => exact fun F' ρ' H' u w g' d => p F' ρ' H' u w (g.trans g') d
section
variable {X : Cx} {pos : Pos}
theorem SS.mk {st : Stmt} {t : TS} {m : Sl → M Fl} (h : PS X st t) (k : ∀ {env : Sl} {mh mh' : List Ob} {F : Hp} {ρ : List Addr} {σ : L2.St} {H : Hp} {fl : Fl} (D : Ends), Rl X.K env mh F ρ σ H → m env mh = some (fl, mh') →
    Post X.K D mh' F ρ H fl → t D σ H) : SS X st m := by
  refine ⟨fun pins s σ H D I h1 => ?_⟩
  obtain ⟨env, mh, F, ρ, fl, mh', rl, e1, q⟩ := h1
  exact h.run pins s σ H D I (k D rl e1 q)
theorem SSs.mk {st : List Stmt} {t : TS} {m : Sl → M Fl} (h : PSs X st t) (k : ∀ {env : Sl} {mh mh' : List Ob} {F : Hp} {ρ : List Addr} {σ : L2.St} {H : Hp} {fl : Fl} (D : Ends), Rl X.K env mh F ρ σ H → m env mh = some (fl, mh') →
    Post X.K D mh' F ρ H fl → t D σ H) : SSs X st m := by
  refine ⟨fun pins s σ H D I h1 => ?_⟩
  obtain ⟨env, mh, F, ρ, fl, mh', rl, e1, q⟩ := h1
  exact h.run pins s σ H D I (k D rl e1 q)

/-! ### blocks -/
def mNil (env : Sl) : M Fl := pure (.nx env)
def mSeq (a b : Sl → M Fl) (env : Sl) : M Fl := do
  let f ← a env
  match f with
  | .nx e => b e
  | .rt v => pure (.rt v)
  | .bk e => pure (.bk e)
  | .ct e => pure (.ct e)
theorem sss_nil : SSs X [] mNil := SSs.mk pss_nil fun D rl e q => by cases e; exact q _ _ _ _ rl .refl
theorem sss_cons {st : Stmt} {rest : List Stmt} {a b : Sl → M Fl} (h1 : SS X st a) (h2 : SSs X rest b) : SSs X (st :: rest) (mSeq a b) :=
  SSs.mk (pss_cons h1 h2) fun D rl e q => by
    obtain ⟨f, mh1, e1, ea⟩ := M.bind_some.mp e
    refine ⟨_, _, _, _, _, _, rl, e1, ?_⟩
    cases f with
    | nx e2 => exact fun F1 ρ1 σ1 H1 r1 g1 => ⟨_, _, _, _, _, _, r1, ea, q.grow g1⟩
    | rt v => cases ea; exact q
    | bk e2 => cases ea; exact q
    | ct e2 => cases ea; exact q
/-- a ghost: the cell in slot i is frozen -/
def mFrz (i : Nat) (env : Sl) : M Fl := fun mh => match env.getD i none with
  | some (.ref n) => match mh[n]? with
    | some (.lst vs) => (asDs vs).map fun ds => (.nx (env.set i (some (.d (.list ds)))), mh.set n .dead)
    | some (.dct kvs) => (asDKs kvs).map fun ds => (.nx (env.set i (some (.d (.dict ds)))), mh.set n .dead)
    | _ => none
  | _ => none
theorem Rl.setGhost {K : PySem.W.Frag} {env : Sl} {mh : List Ob} {F : Hp} {ρ : List Addr} {σ : L2.St} {H : Hp} {u : V} {v : Val} {i : Nat} (r : Rl K env mh F ρ σ H) (hu : σ[i]? = some (some u)) (d : DenV K F ρ u v) : Rl K (env.set i (some v)) mh F ρ σ H := by
  have h := r.set i d
  have e : σ.set i (some u) = σ := by
    obtain ⟨h1, h2⟩ := List.getElem?_eq_some_iff.mp hu
    rw [← h2]
    exact List.set_getElem_self h1
  rw [e] at h
  exact h
theorem mFrz_ok {K : PySem.W.Frag} {env : Sl} {mh mh' : List Ob} {F : Hp} {ρ : List Addr} {σ : L2.St} {H : Hp} {fl : Fl} {i : Nat} (r : Rl K env mh F ρ σ H) (h : mFrz i env mh = some (fl, mh')) : ∃ env' F', fl = .nx env' ∧ Rl K env' mh' F' ρ σ H ∧ Gr F ρ H F' ρ H := by
  unfold mFrz at h
  split at h
  · rename_i n e0
    have e1 : env[i]? = some (some (.ref n)) := by
      rw [List.getD_eq_getElem?_getD] at e0
      cases h4 : env[i]? with
      | none => rw [h4] at e0; cases e0
      | some o => rw [h4] at e0; rw [show o = some (.ref n) from e0]
    obtain ⟨u, hu, a, ea, rfl⟩ := r.get i _ e1
    split at h
    · rename_i vs e2
      obtain ⟨ds, e3, e4⟩ := Option.map_eq_some_iff.mp h
      cases e4
      obtain ⟨z, us, q1, q2⟩ := r.wd.cell n a _ ea e2
      obtain ⟨w', g'⟩ := r.wd.freeze ea e2 rfl q1
      have e5 := asDs_eq e3
      subst e5
      exact ⟨_, _, rfl, (r.grow w' g').setGhost hu (Den.lst (.inl (.inl upd_same)) (by rw [List.length_map] at z; exact z) (q2.all.mono g'.rd)), g'⟩
    · rename_i kvs e2
      obtain ⟨ds, e3, e4⟩ := Option.map_eq_some_iff.mp h
      cases e4
      obtain ⟨z, us, q1, q2⟩ := r.wd.cell n a _ ea e2
      obtain ⟨w', g'⟩ := r.wd.freeze ea e2 rfl q1
      obtain ⟨d1, d2⟩ := q2.all e3
      exact ⟨_, _, rfl, (r.grow w' g').setGhost hu (Den.dct (.inl upd_same) (by rw [d2]; exact z) (d1.mono g'.rd)), g'⟩
    · cases h
  · cases h
theorem sss_frz {i : Nat} {rest : List Stmt} {b : Sl → M Fl} (h2 : SSs X rest b) : SSs X rest (mSeq (mFrz i) b) := by
  refine ⟨fun pins s σ H D I h1 => ?_⟩
  obtain ⟨env, mh, F, ρ, fl, mh', rl, e1, q⟩ := h1
  obtain ⟨f, mh1, e2, ea⟩ := M.bind_some.mp e1
  obtain ⟨env', F', rfl, r', g'⟩ := mFrz_ok rl e2
  exact h2.run pins s σ H D I ⟨_, _, _, _, _, _, r', ea, q.grow g'⟩

/-! ### small statements -/
def mPass (env : Sl) : M Fl := pure (.nx env)
def mBrk (env : Sl) : M Fl := pure (.bk env)
def mCnt (env : Sl) : M Fl := pure (.ct env)
theorem ss_pass : SS X (.Pass pos) mPass := SS.mk ps_pass fun D rl e q => by cases e; exact q _ _ _ _ rl .refl
theorem ss_brk : SS X (.Break pos) mBrk := SS.mk ps_break fun D rl e q => by cases e; exact q _ _ _ _ rl .refl
theorem ss_cnt : SS X (.Continue pos) mCnt := SS.mk ps_continue fun D rl e q => by cases e; exact q _ _ _ _ rl .refl
def mExpr (a : Sl → M Val) (env : Sl) : M Fl := do
  let _ ← a env
  pure (.nx env)
theorem ss_expr {a : Expr} {ma : Sl → M Val} (ha : SE X a ma) (hs : swapsWith a none pos.line X.env = pure false) : SS X (.Expr a pos) (mExpr ma) :=
  SS.mk (ps_expr ha hs) fun D rl e q => by
    obtain ⟨v, mh1, e1, ea⟩ := M.bind_some.mp e
    cases ea
    exact ⟨_, _, _, _, _, _, rl, e1, fun F1 ρ1 H1 u w1 g1 d1 => q _ _ _ _ (rl.grow w1 g1) g1⟩
def mRet (a : Sl → M Val) (env : Sl) : M Fl := do
  let v ← a env
  pure (.rt v)
theorem ss_ret {a : Expr} {ma : Sl → M Val} (ha : SE X a ma) : SS X (.Return (some a) pos) (mRet ma) :=
  SS.mk (ps_ret ha) fun D rl e q => by
    obtain ⟨v, mh1, e1, ea⟩ := M.bind_some.mp e
    cases ea
    exact ⟨_, _, _, _, _, _, rl, e1, fun F1 ρ1 H1 u w1 g1 d1 => q _ _ _ _ w1 g1 d1⟩
theorem ss_retN : SS X (.Return none pos) (mRet (mC .none)) :=
  SS.mk ps_retN fun D rl e q => by
    cases e
    exact q _ _ _ _ rl.wd .refl Den.non
def mAsg (a : Sl → M Val) (g : Val → Sl → M Sl) (env : Sl) : M Fl := do
  let v ← a env
  let e ← g v env
  pure (.nx e)
theorem ss_asg {tg a : Expr} {ma : Sl → M Val} {sl : List Nat} {g : Val → Sl → M Sl} (ha : SE X a ma) (hg : SG X tg sl g) (hs : swapsWithSole [tg] a pos.line X.env = pure false) (hw : swappedStores [tg] a X.env = pure none)
    (h1 : (assignEach [tg] X.env).map (·.2) = [assign tg X.env]) : SS X (.Assign [tg] a pos) (mAsg ma g) :=
  SS.mk (ps_asg ha hg hs hw h1) fun D rl e q => by
    obtain ⟨v, mh1, e1, ea⟩ := M.bind_some.mp e
    obtain ⟨env', mh2, e2, eb⟩ := M.bind_some.mp ea
    cases eb
    exact ⟨_, _, _, _, _, _, rl, e1, fun F1 ρ1 H1 u w1 g1 d1 => ⟨_, _, _, _, _, _, _, rl.grow w1 g1, d1, e2, fun F2 ρ2 σ2 H2 r2 g2 _ => q _ _ _ _ r2 (g1.trans g2)⟩⟩
theorem ss_set {i : Nat} {x : Str} {a : Expr} {ma : Sl → M Val} {pos' : Pos} (hN : X.N.Nodup) (hi : X.N[i]? = some x) (hx : Loc X.env.scope x) (ha : SE X a ma) (hs : swapsWith a (some (.Name x pos')) pos.line X.env = pure false) (hf : X.fn x = true ∨ X.env.scope.names.lookup x = some .local) :
    SS X (.Assign [.Name x pos'] a pos) (mAsg ma (gNm i)) :=
  SS.mk (ps_set hN hi hx ha hs hf) fun D rl e q => by
    obtain ⟨v, mh1, e1, ea⟩ := M.bind_some.mp e
    obtain ⟨env', mh2, e2, eb⟩ := M.bind_some.mp ea
    cases eb
    cases e2
    exact ⟨_, _, _, _, _, _, rl, e1, fun F1 ρ1 H1 u w1 g1 d1 => q _ _ _ _ ((rl.grow w1 g1).set i d1) g1⟩
/-- a, b = x, y -/
def mPar (i j : Nat) (as : Sl → M (List Val)) (env : Sl) : M Fl := do
  let vs ← as env
  match vs with
  | [v, w] => pure (.nx ((env.set i (some v)).set j (some w)))
  | _ => fun _ => none
theorem ss_par {i j : Nat} {x y : Str} {a b : Expr} {as : Sl → M (List Val)} {px py pt : Pos} {kt k2 : Nat} {pt2 : Pos} (hc : X.calm = true) (hN : X.N.Nodup) (hi : X.N[i]? = some x) (hj : X.N[j]? = some y) (hij : i ≠ j)
    (hx : X.env.scope.names.lookup x = some .local) (hy : X.env.scope.names.lookup y = some .local) (ha : SA X [a, b] as)
    (hw : swappedStores [.Tuple [.Name x px, .Name y py] kt pt] (.Tuple [a, b] k2 pt2) X.env = pure (some [x, y]))
    (hs : swapsWithSole [.Tuple [.Name x px, .Name y py] kt pt] (.Tuple [a, b] k2 pt2) pos.line X.env = pure false) :
    SS X (.Assign [.Tuple [.Name x px, .Name y py] kt pt] (.Tuple [a, b] k2 pt2) pos) (mPar i j as) :=
  SS.mk (ps_par hc hN hi hj hij hx hy ha hw hs) fun D rl e q => by
    obtain ⟨vs, mh1, e1, ea⟩ := M.bind_some.mp e
    refine ⟨_, _, _, _, _, _, rl, e1, fun F1 ρ1 H1 us w1 g1 d1 => ?_⟩
    split at ea
    · rename_i v w
      cases ea
      cases d1 with
      | cons dv dn =>
        cases dn with
        | cons dw dn =>
          cases dn
          exact ⟨_, _, rfl, q _ _ _ _ (((rl.grow w1 g1).set i dv).set j dw) g1⟩
    · cases ea
/-- name op= e (ints) -/
def mAug (i : Nat) (f : Int → Int → Int) (a : Sl → M Val) (env : Sl) : M Fl := do
  let x ← mSlot i env
  let y ← a env
  match x, y with
  | .d (.int p), .d (.int q) => pure (.nx (env.set i (some (.d (.int (f p q))))))
  | _, _ => fun _ => none
theorem ss_aug {i : Nat} {x : Str} {a : Expr} {ma : Sl → M Val} {op : Operator} {f : Int → Int → Int} {pos' : Pos} (hN : X.N.Nodup) (hi : X.N[i]? = some x) (hx : Loc X.env.scope x) (ha : SE X a ma) (ho : PIp X op (ipI f)) (hf : X.fn x = true ∨ X.env.scope.names.lookup x = some .local) :
    SS X (.AugAssign (.Name x pos') op a pos) (mAug i f ma) :=
  SS.mk (ps_aug hN hi hx ha ho hf) fun D rl e q => by
    rename_i env mh mh' F ρ σ H fl
    obtain ⟨v, mh1, e1, ea⟩ := M.bind_some.mp e
    obtain ⟨w, mh2, e2, eb⟩ := M.bind_some.mp ea
    obtain ⟨h1, h2⟩ := ofO_some.mp e1
    simp only at h1 h2
    subst h2
    have h3 : env[i]? = some (some v) := by
      rw [List.getD_eq_getElem?_getD] at h1
      cases h4 : env[i]? with
      | none => rw [h4] at h1; cases h1
      | some o => rw [h4] at h1; rw [show o = some v from h1]
    obtain ⟨u, h5, h6⟩ := rl.get i v h3
    refine ⟨u, h5, _, _, _, _, _, _, rl, e2, fun F1 ρ1 H1 u1 w1 g1 d1 => ?_⟩
    split at eb
    · cases eb
      exact ⟨_, _, den_int h6, den_int d1, q _ _ _ _ ((rl.grow w1 g1).set i (Den.int _)) g1⟩
    · cases eb
def mIf (t : Sl → M Bool) (a b : Sl → M Fl) (env : Sl) : M Fl := mIte t a b env
theorem ss_if {c : Expr} {a b : List Stmt} {tc : Sl → M Bool} {ma mb : Sl → M Fl} (hc : STs X c tc) (ha : SSs X a ma) (hb : SSs X b mb) : SS X (.If c a b pos) (mIf tc ma mb) :=
  SS.mk (ps_if hc ha hb) fun D rl e q => by
    obtain ⟨x, mh1, e1, ea⟩ := M.bind_some.mp e
    refine ⟨_, _, _, _, _, _, rl, e1, fun F1 ρ1 H1 w1 g1 => ?_⟩
    cases x with
    | true => exact ⟨_, _, _, _, _, _, rl.grow w1 g1, ea, q.grow g1⟩
    | false => exact ⟨_, _, _, _, _, _, rl.grow w1 g1, ea, q.grow g1⟩

/-! ### for -/
noncomputable def loopF (gd : List (Nat × List Val)) (g : Val → Sl → M Sl) (body : Sl → M Fl) : List Val → Sl → M Fl
  | [], env => do
    chkG gd
    pure (.nx env)
  | v :: vs, env => do
    chkG gd
    let e1 ← g v env
    let f ← body e1
    match f with
    | .nx e => loopF gd g body vs e
    | .ct e => loopF gd g body vs e
    | .bk e => pure (.nx e)
    | .rt r => pure (.rt r)
noncomputable def mFor (it : Sl → M Ix) (g : Val → Sl → M Sl) (body : Sl → M Fl) (env : Sl) : M Fl := do
  let ix ← it env
  loopF ix.g g body ix.items env
theorem ss_for {tg iter : Expr} {body : List Stmt} {mi : Sl → M Ix} {sl : List Nat} {g : Val → Sl → M Sl} {mb : Sl → M Fl} (hxe : X.xe = fun _ _ => False) (hc : X.calm = true) (hi : SI X tg iter mi) (hg : SG X tg sl g) (hb : SSs X body mb)
    (hs : ∀ x, foldedSetIterable iter X.env x = pure x) : SS X (.For tg iter body [] pos) (mFor mi g mb) :=
  SS.mk (ps_for (by rw [hxe]; exact PassesOwn.never) hc hi hg hb hs) fun D rl e q => by
    rename_i env mh mh' F ρ σ H fl
    obtain ⟨ix, mh1, e1, ea⟩ := M.bind_some.mp e
    refine ⟨_, _, _, _, _, _, rl, e1, fun J F1 ρ1 H1 w1 g1 ok => ?_⟩
    refine ⟨fun i m σ2 H2 => m = ix.items.length - i ∧ i ≤ ix.items.length ∧ ∃ env2 mh2 F2 ρ2, Rl X.K env2 mh2 F2 ρ2 σ2 H2 ∧ Gr F1 ρ1 H1 F2 ρ2 H2 ∧ loopF ix.g g mb (ix.items.drop i) env2 mh2 = some (fl, mh'), ⟨ix.items.length, rfl, Nat.zero_le _, _, _, _, _, rl.grow w1 g1, .refl, ea⟩, ?_⟩
    rintro i m σ2 H2 ⟨rfl, hi2, env2, mh2, F2, ρ2, r2, g2, e2⟩
    by_cases hlt : i < ix.items.length
    · rw [List.drop_eq_getElem_cons hlt] at e2
      obtain ⟨_, mh3, e3, e4⟩ := M.bind_some.mp e2
      obtain ⟨k1, k2⟩ := chkG_some e3
      cases k2
      obtain ⟨env4, mh4, e5, e6⟩ := M.bind_some.mp e4
      obtain ⟨f, mh5, e7, e8⟩ := M.bind_some.mp e6
      obtain ⟨go, yl⟩ := ok.go r2.wd g2.rd g2.pre k1 (List.getElem?_eq_getElem hlt)
      refine .inr ⟨go, fun σ' H' => ∃ env' mh' F' ρ', Rl X.K env' mh' F' ρ' σ' H' ∧ Gr F1 ρ1 H1 F' ρ' H' ∧ loopF ix.g g mb (ix.items.drop (i + 1)) env' mh' = some (fl, _), fun σ' H' ⟨env', mhx, F', ρ', a1, a2, a3⟩ => ⟨ix.items.length - (i + 1), by omega, rfl, hlt, env', mhx, F', ρ', a1, a2, a3⟩, fun x H3 hy => ?_⟩
      obtain ⟨F3, w3, g3, d3⟩ := yl x H3 hy
      refine ⟨_, _, _, _, _, _, _, r2.grow w3 g3, d3, e5, fun F4 ρ4 σ4 H4 r4 g4 _ => ⟨_, _, _, _, _, _, r4, e7, ?_⟩⟩
      have g24 := (g2.trans g3).trans g4
      cases f with
      | nx e9 => exact fun F' ρ' σ' H' r' g' => ⟨_, _, _, _, r', g24.trans g', e8⟩
      | ct e9 => exact fun F' ρ' σ' H' r' g' => ⟨_, _, _, _, r', g24.trans g', e8⟩
      | bk e9 => cases e8; exact fun F' ρ' σ' H' r' g' => q _ _ _ _ r' (g1.trans (g24.trans g'))
      | rt v => cases e8; exact fun F' ρ' H' u w' g' d' => q _ _ _ _ w' (g1.trans (g24.trans g')) d'
    · have hie : i = ix.items.length := by omega
      subst hie
      rw [List.drop_length] at e2
      obtain ⟨_, mh3, e3, e4⟩ := M.bind_some.mp e2
      obtain ⟨k1, k2⟩ := chkG_some e3
      cases k2
      cases e4
      exact .inl ⟨ok.stop r2.wd g2.rd g2.pre k1, q _ _ _ _ r2 (g1.trans g2)⟩

/-! ### while: n turns at most -/
def loopW (t : Sl → M Bool) (body : Sl → M Fl) : Nat → Sl → M Fl
  | 0, _ => fun _ => none
  | n + 1, env => do
    let b ← t env
    if b then do
      let f ← body env
      match f with
      | .nx e => loopW t body n e
      | .ct e => loopW t body n e
      | .bk e => pure (.nx e)
      | .rt r => pure (.rt r)
    else pure (.nx env)
theorem ss_while {c : Expr} {body : List Stmt} {tc : Sl → M Bool} {mb : Sl → M Fl} {n : Nat} (hxe : X.xe = fun _ _ => False) (hc : STs X c tc) (hb : SSs X body mb) : SS X (.While c body [] pos) (loopW tc mb n) :=
  SS.mk (ps_while (by rw [hxe]; exact PassesOwn.never) hc hb) fun D rl e q => by
    rename_i env mh mh' F ρ σ H fl
    refine ⟨fun m σ2 H2 => ∃ env2 mh2 F2 ρ2, Rl X.K env2 mh2 F2 ρ2 σ2 H2 ∧ Gr F ρ H F2 ρ2 H2 ∧ loopW tc mb m env2 mh2 = some (fl, mh'), ⟨n, _, _, _, _, rl, .refl, e⟩, ?_⟩
    rintro m σ2 H2 ⟨env2, mh2, F2, ρ2, r2, g2, e2⟩
    cases m with
    | zero => cases e2
    | succ m =>
      obtain ⟨b, mh3, e3, e4⟩ := M.bind_some.mp e2
      refine ⟨_, _, _, _, _, _, r2, e3, fun F3 ρ3 H3 w3 g3 => ?_⟩
      cases b with
      | true =>
        obtain ⟨f, mh5, e7, e8⟩ := M.bind_some.mp e4
        refine ⟨fun σ' H' => ∃ env' mh' F' ρ', Rl X.K env' mh' F' ρ' σ' H' ∧ Gr F ρ H F' ρ' H' ∧ loopW tc mb m env' mh' = some (fl, _), fun σ' H' h => ⟨m, Nat.lt_succ_self m, h⟩, _, _, _, _, _, _, r2.grow w3 g3, e7, ?_⟩
        cases f with
        | nx e9 => exact fun F' ρ' σ' H' r' g' => ⟨_, _, _, _, r', (g2.trans g3).trans g', e8⟩
        | ct e9 => exact fun F' ρ' σ' H' r' g' => ⟨_, _, _, _, r', (g2.trans g3).trans g', e8⟩
        | bk e9 => cases e8; exact fun F' ρ' σ' H' r' g' => q _ _ _ _ r' ((g2.trans g3).trans g')
        | rt v => cases e8; exact fun F' ρ' H' u w' g' d' => q _ _ _ _ w' ((g2.trans g3).trans g') d'
      | false =>
        cases e4
        exact q _ _ _ _ (r2.grow w3 g3) (g2.trans g3)
end
end Pv

/-! P8: comprehensions, calls of defs -/
namespace Pv
open PySem PySem.Spec PyProof.Rows L2

/-! ### an object beside the world -/
def del (H : Hp) (D : Addr) : Hp := fun b => if b = D then none else H b
theorem del_same {H : Hp} {D : Addr} : del H D D = none := if_pos rfl
theorem del_ne {H : Hp} {D a : Addr} (h : a ≠ D) : del H D a = H a := if_neg h
theorem upd_del {H : Hp} {D : Addr} {o : HO} (h : H D = some o) : upd (del H D) D o = H := by
  funext b
  by_cases e : b = D
  · subst e; rw [upd_same, h]
  · rw [upd_ne e, del_ne e]
section
variable {K : PySem.W.Frag} {mh : List Ob} {F : Hp} {ρ : List Addr} {H : Hp} {D : Addr}
theorem Wd.turn {H' : Hp} (w : Wd K mh F ρ H) (e : ∀ a, a ≠ D → H' a = H a) (hF : F D = none) (hρ : D ∉ ρ) : Wd K mh F ρ H' := by
  refine ⟨fun a o h => ?_, w.len, w.nd, w.off, fun n a o h1 h2 => ?_⟩
  · have : a ≠ D := fun z => by rw [z, hF] at h; cases h
    rw [e a this]; exact w.same a o h
  · have : a ≠ D := fun z => hρ (z ▸ List.mem_of_getElem? h1)
    exact (w.cell n a o h1 h2).mono .refl (List.prefix_refl _) fun u q => by rw [e a this]; exact q
theorem Wd.del (w : Wd K mh F ρ H) (hF : F D = none) (hρ : D ∉ ρ) : Wd K mh F ρ (del H D) := w.turn (fun a h => del_ne h) hF hρ
theorem Wd.updO {o : HO} (w : Wd K mh F ρ H) (hF : F D = none) (hρ : D ∉ ρ) : Wd K mh F ρ (upd H D o) := w.turn (fun a h => upd_ne h) hF hρ
/-- growth, beside D (which is not there at first) -/
structure GrD (D : Addr) (F : Hp) (ρ : List Addr) (H : Hp) (F' : Hp) (ρ' : List Addr) (H' : Hp) : Prop where
  rd : Rle F F'
  pre : ρ <+: ρ'
  fr : ∀ a o, a ≠ D → H a = some o → F a = none → a ∉ ρ → H' a = some o ∧ F' a = none ∧ a ∉ ρ'
theorem GrD.next {F0 F' : Hp} {ρ0 ρ' : List Addr} {H0 H' : Hp} (g : GrD D F0 ρ0 H0 F ρ H) (g' : Gr F ρ H F' ρ' H') : GrD D F0 ρ0 H0 F' ρ' H' :=
  ⟨g.rd.trans g'.rd, g.pre.trans g'.pre, fun a o n h1 h2 h3 => let ⟨a1, a2, a3⟩ := g.fr a o n h1 h2 h3; g'.fr a o a1 a2 a3⟩
theorem GrD.upd {F0 : Hp} {ρ0 : List Addr} {H0 : Hp} {o : HO} (g : GrD D F0 ρ0 H0 F ρ H) : GrD D F0 ρ0 H0 F ρ (upd H D o) :=
  ⟨g.rd, g.pre, fun a u n h1 h2 h3 => by rw [upd_ne n]; exact g.fr a u n h1 h2 h3⟩
theorem GrD.gr {F0 : Hp} {ρ0 : List Addr} {H0 : Hp} (g : GrD D F0 ρ0 H0 F ρ H) (h0 : H0 D = none) : Gr F0 ρ0 H0 F ρ (Pv.del H D) :=
  ⟨g.rd, g.pre, fun a u h1 h2 h3 => by
    have n : a ≠ D := fun z => by rw [z, h0] at h1; cases h1
    rw [del_ne n]; exact g.fr a u n h1 h2 h3⟩
theorem GrD.of {F0 : Hp} {ρ0 : List Addr} {H0 : Hp} {o : HO} : GrD D F0 ρ0 H0 F0 ρ0 (L2.upd H0 D o) := ⟨.refl, List.prefix_refl _, fun a u n h1 h2 h3 => ⟨by rw [upd_ne n]; exact h1, h2, h3⟩⟩
end

/-! ### list comprehensions -/
def wipeE (env : Sl) (vs : List Nat) : Sl := vs.foldr (fun i e => e.set i none) env
theorem wipe_twice {σ : L2.St} {vs : List Nat} : ∀ ws : List Nat, (∀ i ∈ ws, i ∈ vs) → wipe (wipe σ ws) vs = wipe σ vs
  | [], _ => rfl
  | w :: ws, h => by
    show wipe ((wipe σ ws).set w none) vs = _
    rw [wipe_set (h w (by simp))]
    exact wipe_twice ws fun i hi => h i (by simp [hi])
def SPs (X : Cx) (ifs : List Expr) (m : Sl → M Bool) : Prop := PTs X ifs (tTs X.K m)
def mYes (_ : Sl) : M Bool := pure true
theorem sps_nil {X : Cx} : SPs X [] mYes := ⟨fun pins s σ H Q I h => by
  obtain ⟨env, mh, F, ρ, b, mh', rl, e, q⟩ := h
  cases e
  exact pts_nil.run pins s σ H Q I (q _ _ _ rl.wd .refl)⟩
theorem sps_one {X : Cx} {c : Expr} {m : Sl → M Bool} (h : STs X c m) : SPs X [c] m := pts_one h
noncomputable def loopC {α : Type} (gd : List (Nat × List Val)) (g : Val → Sl → M Sl) (t : Sl → M Bool) (el : Sl → M α) (env : Sl) : List Val → M (List α)
  | [] => do
    chkG gd
    pure []
  | v :: vs => do
    chkG gd
    let e1 ← g v env
    let b ← t e1
    if b then do
      let y ← el e1
      let ys ← loopC gd g t el env vs
      pure (y :: ys)
    else loopC gd g t el env vs
noncomputable def mLc (c : Bool) (mi : Sl → M Ix) (vs : List Nat) (g : Val → Sl → M Sl) (t : Sl → M Bool) (el : Sl → M Val) (env : Sl) : M Val := do
  let ix ← mi env
  let ys ← loopC ix.g g t el (wipeE env vs) ix.items
  finR c (.nl ys)
theorem lc_sem {K : PySem.W.Frag} {c : Bool} {mi : Sl → M Ix} {vs sl : List Nat} {g : Val → Sl → M Sl} {t : Sl → M Bool} {el : Sl → M Val} {env : Sl} {mh mh' : List Ob} {F : Hp} {ρ : List Addr} {σ : L2.St} {H : Hp} {v : Val} (Q : VK) (hsl : ∀ i ∈ sl, i ∈ vs)
    (rl : Rl K env mh F ρ σ H) (e : mLc c mi vs g t el env mh = some (v, mh')) (q : ∀ F' ρ' H' u, Wd K mh' F' ρ' H' → Gr F ρ H F' ρ' H' → DenV K F' ρ' u v → Q u H') :
    tLc (tIt K mi) (tGt K sl g) (tTs K t) (tE K el) vs σ H Q := by
  obtain ⟨ix, mh1, e1, ea⟩ := M.bind_some.mp e
  obtain ⟨ys, mh2, e2, eb⟩ := M.bind_some.mp ea
  refine ⟨_, _, _, _, _, _, rl, e1, fun J F1 ρ1 H1 w1 g1 ok D hD => ?_⟩
  have hFD := w1.freshF hD
  have hρD := w1.freshρ hD
  refine ⟨fun i m H2 => m = ix.items.length - i ∧ i ≤ ix.items.length ∧ ∃ mhx F2 ρ2 acc us rest, Wd K mhx F2 ρ2 H2 ∧ GrD D F1 ρ1 H1 F2 ρ2 H2 ∧ H2 D = some (.lst us) ∧ F2 D = none ∧ D ∉ ρ2 ∧ DenVs K F2 ρ2 us acc ∧ acc.length ≤ i ∧ acc ++ rest = ys ∧
    loopC ix.g g t el (wipeE env vs) (ix.items.drop i) mhx = some (rest, mh2), ⟨ix.items.length, rfl, Nat.zero_le _, mh1, F1, ρ1, [], [], ys, w1.updO hFD hρD, .of, upd_same, hFD, hρD, .nil, Nat.le_refl _, rfl, e2⟩, ?_⟩
  rintro i m H2 ⟨rfl, hi2, mhx, F2, ρ2, acc, us, rest, w2, g2, hD2, hF2, hρ2, d2, hl, ey, e3⟩
  have rl2 : Rl K (wipeE env vs) mhx F2 ρ2 (wipe σ vs) H2 := by
    refine ⟨w2, (rl.wiped vs).len, fun j x hx => ?_⟩
    obtain ⟨u, a1, a2⟩ := (rl.wiped vs).get j x hx
    exact ⟨u, a1, a2.mono (g1.rd.trans g2.rd) (g1.pre.trans g2.pre)⟩
  by_cases hlt : i < ix.items.length
  · rw [List.drop_eq_getElem_cons hlt] at e3
    obtain ⟨_, mh3, f3, e4⟩ := M.bind_some.mp e3
    obtain ⟨k1, k2⟩ := chkG_some f3
    cases k2
    obtain ⟨env4, mh4, f4, e5⟩ := M.bind_some.mp e4
    obtain ⟨b, mh5, f5, e6⟩ := M.bind_some.mp e5
    obtain ⟨go, yl⟩ := ok.go w2 g2.rd g2.pre k1 (List.getElem?_eq_getElem hlt)
    refine .inr ⟨go, fun H' => ∃ mhx F2 ρ2 acc us rest, Wd K mhx F2 ρ2 H' ∧ GrD D F1 ρ1 H1 F2 ρ2 H' ∧ H' D = some (.lst us) ∧ F2 D = none ∧ D ∉ ρ2 ∧ DenVs K F2 ρ2 us acc ∧ acc.length ≤ i + 1 ∧ acc ++ rest = ys ∧
      loopC ix.g g t el (wipeE env vs) (ix.items.drop (i + 1)) mhx = some (rest, mh2), fun H' h => ⟨ix.items.length - (i + 1), by omega, rfl, hlt, h⟩, fun x H3 hy => ?_⟩
    obtain ⟨F3, w3, g3, d3⟩ := yl x H3 hy
    refine ⟨_, _, _, _, _, _, _, rl2.grow w3 g3, d3, f4, fun F4 ρ4 σ4 H4 r4 g4 wp => ⟨(wp vs hsl).trans (wipe_twice vs fun _ h => h), _, _, _, _, _, _, r4, f5, fun F5 ρ5 H5 w5 g5 => ?_⟩⟩
    have g25 : Gr F2 ρ2 H2 F5 ρ5 H5 := (g3.trans g4).trans g5
    cases b with
    | true =>
      obtain ⟨y, mh6, f6, e7⟩ := M.bind_some.mp e6
      obtain ⟨zs, mh7, f7, e8⟩ := M.bind_some.mp e7
      cases e8
      refine ⟨_, _, _, _, _, _, r4.grow w5 g5, f6, fun F6 ρ6 H6 u6 w6 g6 d6 => ?_⟩
      have g26 := g25.trans g6
      obtain ⟨a1, a2, a3⟩ := g26.fr D _ hD2 hF2 hρ2
      have hsm := ok.small
      refine ⟨us, a1, by rw [d2.length]; omega, mh6, F6, ρ6, acc ++ [y], us ++ [u6], zs, w6.updO a2 a3, (g2.next g26).upd, upd_same, a2, a3, (d2.grow g26).append (.cons d6 .nil), by rw [List.length_append, List.length_singleton]; omega, by rw [← ey]; simp, f7⟩
    | false =>
      obtain ⟨a1, a2, a3⟩ := g25.fr D _ hD2 hF2 hρ2
      exact ⟨mh5, F5, ρ5, acc, us, rest, w5, g2.next g25, a1, a2, a3, d2.grow g25, by omega, ey, e6⟩
  · have hie : i = ix.items.length := by omega
    subst hie
    rw [List.drop_length] at e3
    obtain ⟨_, mh3, f3, e4⟩ := M.bind_some.mp e3
    obtain ⟨k1, k2⟩ := chkG_some f3
    cases k2
    cases e4
    refine .inl ⟨ok.stop w2 g2.rd g2.pre k1, ?_⟩
    rw [List.append_nil] at ey
    subst ey
    have p : PostR K mh2 F2 ρ2 (del H2 D) Q (.nl acc) := finR_ok eb fun F' ρ' H' u w' g' d' => q F' ρ' H' u w' (g1.trans ((g2.gr hD).trans g')) d'
    have fin := p.list (w2.del hF2 hρ2) del_same d2 (Nat.le_trans hl ok.small)
    rw [upd_del hD2] at fin
    exact fin
section
variable {X : Cx} {pos : Pos}
theorem se_lc {c : Bool} {elt tg iter : Expr} {ifs : List Expr} {scope : Scope} {own : List (Str × Nat)} {sl : List Nat} {mi : Sl → M Ix} {g : Val → Sl → M Sl} {t : Sl → M Bool} {el : Sl → M Val} (hc : X.calm = true) (hN : X.N.Nodup) (hi : SI X tg iter mi) (ok : BlkOk X.N X.env.scope scope own) (hsl : ∀ i ∈ sl, i ∈ own.map (·.2))
    (hg : ∀ (s : Shared) (H : Hp) (C : Addr) (cl : List (Str × Addr)) (fp : List Addr), SG (X.blk s H scope (compEnvC scope cl C X.env) fp) tg sl g) (ht : ∀ (s : Shared) (H : Hp) (C : Addr) (cl : List (Str × Addr)) (fp : List Addr), SPs (X.blk s H scope (compEnvC scope cl C X.env) fp) ifs t)
    (he : ∀ (s : Shared) (H : Hp) (C : Addr) (cl : List (Str × Addr)) (fp : List Addr), SE (X.blk s H scope (compEnvC scope cl C X.env) fp) elt el) (hs : ∀ x, foldedSetIterable iter X.env x = pure x) :
    SE X (.ListComp elt [⟨tg, iter, ifs, 0⟩] scope pos) (mLc c mi (own.map (·.2)) g t el) :=
  SE.mk (pe_lc (g := tGt X.K sl g) (tt := tTs X.K t) (te := tE X.K el) hc hN hi ok hg ht he hs) fun Q rl e q => lc_sem Q hsl rl e q
theorem ss_setLc {c : Bool} {i : Nat} {y : Str} {py spos : Pos} {elt tg iter : Expr} {ifs : List Expr} {scope : Scope} {own : List (Str × Nat)} {sl : List Nat} {mi : Sl → M Ix} {g : Val → Sl → M Sl} {t : Sl → M Bool} {el : Sl → M Val} (hc : X.calm = true) (hN : X.N.Nodup) (hy : X.N[i]? = some y) (hyl : X.env.scope.names.lookup y = some .local)
    (hsw : swapsWith (.ListComp elt [⟨tg, iter, ifs, 0⟩] scope pos) (some (.Name y py)) spos.line X.env = pure true) (hi : SI X tg iter mi) (ok : BlkOk X.N X.env.scope scope own) (hsl : ∀ i ∈ sl, i ∈ own.map (·.2))
    (hg : ∀ (s : Shared) (H : Hp) (C : Addr) (cl : List (Str × Addr)) (fp : List Addr), SG (X.blk s H scope (compEnvC scope cl C X.env) fp) tg sl g) (ht : ∀ (s : Shared) (H : Hp) (C : Addr) (cl : List (Str × Addr)) (fp : List Addr), SPs (X.blk s H scope (compEnvC scope cl C X.env) fp) ifs t)
    (he : ∀ (s : Shared) (H : Hp) (C : Addr) (cl : List (Str × Addr)) (fp : List Addr), SE (X.blk s H scope (compEnvC scope cl C X.env) fp) elt el) (hs : ∀ x, foldedSetIterable iter X.env x = pure x) :
    SS X (.Assign [.Name y py] (.ListComp elt [⟨tg, iter, ifs, 0⟩] scope pos) spos) (mAsg (mLc c mi (own.map (·.2)) g t el) (gNm i)) :=
  SS.mk (ps_setLc (g := tGt X.K sl g) (tt := tTs X.K t) (te := tE X.K el) hc hN hy hyl hsw hi ok hg ht he hs) fun D rl e q => by
    obtain ⟨v, mh1, e1, ea⟩ := M.bind_some.mp e
    obtain ⟨env', mh2, e2, eb⟩ := M.bind_some.mp ea
    cases eb
    cases e2
    exact lc_sem _ hsl rl e1 fun F1 ρ1 H1 u w1 g1 d1 => q _ _ _ _ ((rl.grow w1 g1).set i d1) g1
end

/-! ### dict comprehensions -/
def mergeV (kvs more : List (Key × Val)) : List (Key × Val) := more.foldl (fun acc kv => putV acc kv.1 kv.2) kvs
theorem mergeV_length : ∀ (more kvs : List (Key × Val)), (mergeV kvs more).length ≤ kvs.length + more.length
  | [], kvs => Nat.le_refl _
  | p :: more, kvs => by
    have := mergeV_length more (putV kvs p.1 p.2)
    have := putV_length kvs p.1 p.2
    show (mergeV (putV kvs p.1 p.2) more).length ≤ _
    rw [List.length_cons]
    omega
def mKv (mk mv : Sl → M Val) (env : Sl) : M (Key × Val) := do
  let y ← mk env
  let z ← mv env
  let k ← ofO (keyVl y)
  pure (k, z)
noncomputable def mDc (c : Bool) (mi : Sl → M Ix) (vs : List Nat) (g : Val → Sl → M Sl) (t : Sl → M Bool) (mk mv : Sl → M Val) (env : Sl) : M Val := do
  let ix ← mi env
  let ys ← loopC ix.g g t (mKv mk mv) (wipeE env vs) ix.items
  finR c (.nd (mergeV [] ys))
theorem dc_sem {K : PySem.W.Frag} {c : Bool} {mi : Sl → M Ix} {vs sl : List Nat} {g : Val → Sl → M Sl} {t : Sl → M Bool} {mk mv : Sl → M Val} {env : Sl} {mh mh' : List Ob} {F : Hp} {ρ : List Addr} {σ : L2.St} {H : Hp} {v : Val} (Q : VK) (hsl : ∀ i ∈ sl, i ∈ vs)
    (rl : Rl K env mh F ρ σ H) (e : mDc c mi vs g t mk mv env mh = some (v, mh')) (q : ∀ F' ρ' H' u, Wd K mh' F' ρ' H' → Gr F ρ H F' ρ' H' → DenV K F' ρ' u v → Q u H') :
    tDc (tIt K mi) (tGt K sl g) (tTs K t) (tE K mk) (tE K mv) vs σ H Q := by
  obtain ⟨ix, mh1, e1, ea⟩ := M.bind_some.mp e
  obtain ⟨ys, mh2, e2, eb⟩ := M.bind_some.mp ea
  refine ⟨_, _, _, _, _, _, rl, e1, fun J F1 ρ1 H1 w1 g1 ok D hD => ?_⟩
  have hFD := w1.freshF hD
  have hρD := w1.freshρ hD
  refine ⟨fun i m H2 => m = ix.items.length - i ∧ i ≤ ix.items.length ∧ ∃ mhx F2 ρ2 acc us rest, Wd K mhx F2 ρ2 H2 ∧ GrD D F1 ρ1 H1 F2 ρ2 H2 ∧ H2 D = some (.dK us) ∧ F2 D = none ∧ D ∉ ρ2 ∧ DenVK K F2 ρ2 us acc ∧ acc.length ≤ i ∧ mergeV acc rest = mergeV [] ys ∧
    loopC ix.g g t (mKv mk mv) (wipeE env vs) (ix.items.drop i) mhx = some (rest, mh2), ⟨ix.items.length, rfl, Nat.zero_le _, mh1, F1, ρ1, [], [], ys, w1.updO hFD hρD, .of, upd_same, hFD, hρD, .nil, Nat.le_refl _, rfl, e2⟩, ?_⟩
  rintro i m H2 ⟨rfl, hi2, mhx, F2, ρ2, acc, us, rest, w2, g2, hD2, hF2, hρ2, d2, hl, ey, e3⟩
  have rl2 : Rl K (wipeE env vs) mhx F2 ρ2 (wipe σ vs) H2 := by
    refine ⟨w2, (rl.wiped vs).len, fun j x hx => ?_⟩
    obtain ⟨u, a1, a2⟩ := (rl.wiped vs).get j x hx
    exact ⟨u, a1, a2.mono (g1.rd.trans g2.rd) (g1.pre.trans g2.pre)⟩
  by_cases hlt : i < ix.items.length
  · rw [List.drop_eq_getElem_cons hlt] at e3
    obtain ⟨_, mh3, f3, e4⟩ := M.bind_some.mp e3
    obtain ⟨k1, k2⟩ := chkG_some f3
    cases k2
    obtain ⟨env4, mh4, f4, e5⟩ := M.bind_some.mp e4
    obtain ⟨b, mh5, f5, e6⟩ := M.bind_some.mp e5
    obtain ⟨go, yl⟩ := ok.go w2 g2.rd g2.pre k1 (List.getElem?_eq_getElem hlt)
    refine .inr ⟨go, fun H' => ∃ mhx F2 ρ2 acc us rest, Wd K mhx F2 ρ2 H' ∧ GrD D F1 ρ1 H1 F2 ρ2 H' ∧ H' D = some (.dK us) ∧ F2 D = none ∧ D ∉ ρ2 ∧ DenVK K F2 ρ2 us acc ∧ acc.length ≤ i + 1 ∧ mergeV acc rest = mergeV [] ys ∧
      loopC ix.g g t (mKv mk mv) (wipeE env vs) (ix.items.drop (i + 1)) mhx = some (rest, mh2), fun H' h => ⟨ix.items.length - (i + 1), by omega, rfl, hlt, h⟩, fun x H3 hy => ?_⟩
    obtain ⟨F3, w3, g3, d3⟩ := yl x H3 hy
    refine ⟨_, _, _, _, _, _, _, rl2.grow w3 g3, d3, f4, fun F4 ρ4 σ4 H4 r4 g4 wp => ⟨(wp vs hsl).trans (wipe_twice vs fun _ h => h), _, _, _, _, _, _, r4, f5, fun F5 ρ5 H5 w5 g5 => ?_⟩⟩
    have g25 : Gr F2 ρ2 H2 F5 ρ5 H5 := (g3.trans g4).trans g5
    cases b with
    | true =>
      obtain ⟨y, mh6, f6, e7⟩ := M.bind_some.mp e6
      obtain ⟨zs, mh7, f7, e8⟩ := M.bind_some.mp e7
      cases e8
      obtain ⟨vk, mh8, f8, e9⟩ := M.bind_some.mp f6
      obtain ⟨vz, mh9, f9, e10⟩ := M.bind_some.mp e9
      obtain ⟨k, mh10, f10, e11⟩ := M.bind_some.mp e10
      obtain ⟨h1, h2⟩ := ofO_some.mp f10
      simp only at h1 h2
      subst h2
      cases e11
      refine ⟨_, _, _, _, _, _, r4.grow w5 g5, f8, fun F6 ρ6 H6 u6 w6 g6 d6 => ⟨_, _, _, _, _, _, (r4.grow w5 g5).grow w6 g6, f9, fun F7 ρ7 H7 u7 w7 g7 d7 => ?_⟩⟩
      have g26 := (g25.trans g6).trans g7
      obtain ⟨a1, a2, a3⟩ := g26.fr D _ hD2 hF2 hρ2
      have hsm := ok.small
      refine ⟨us, k, key_den d6 h1, a1, by rw [show us.length = acc.length from d2.length]; omega, _, F7, ρ7, putV acc k vz, putK us k u7, zs, w7.updO a2 a3, (g2.next g26).upd, upd_same, a2, a3, putV_den d7 (d2.mono g26.rd g26.pre), Nat.le_trans (putV_length _ _ _) (by omega), ey, f7⟩
    | false =>
      obtain ⟨a1, a2, a3⟩ := g25.fr D _ hD2 hF2 hρ2
      exact ⟨mh5, F5, ρ5, acc, us, rest, w5, g2.next g25, a1, a2, a3, d2.mono g25.rd g25.pre, by omega, ey, e6⟩
  · have hie : i = ix.items.length := by omega
    subst hie
    rw [List.drop_length] at e3
    obtain ⟨_, mh3, f3, e4⟩ := M.bind_some.mp e3
    obtain ⟨k1, k2⟩ := chkG_some f3
    cases k2
    cases e4
    refine .inl ⟨ok.stop w2 g2.rd g2.pre k1, ?_⟩
    have ey : acc = mergeV [] ys := ey
    subst ey
    have p : PostR K mh2 F2 ρ2 (del H2 D) Q (.nd (mergeV [] ys)) := finR_ok eb fun F' ρ' H' u w' g' d' => q F' ρ' H' u w' (g1.trans ((g2.gr hD).trans g')) d'
    have fin := p _ _ us D (w2.del hF2 hρ2) .refl (Nat.le_trans hl ok.small) d2 del_same
    rw [upd_del hD2] at fin
    exact fin
section
variable {X : Cx} {pos : Pos}
theorem se_dc {c : Bool} {kx vx tg iter : Expr} {ifs : List Expr} {scope : Scope} {own : List (Str × Nat)} {sl : List Nat} {mi : Sl → M Ix} {g : Val → Sl → M Sl} {t : Sl → M Bool} {mk mv : Sl → M Val} (hc : X.calm = true) (hN : X.N.Nodup) (hi : SI X tg iter mi) (ok : BlkOk X.N X.env.scope scope own) (hsl : ∀ i ∈ sl, i ∈ own.map (·.2))
    (hg : ∀ (s : Shared) (H : Hp) (C : Addr) (cl : List (Str × Addr)) (fp : List Addr), SG (X.blk s H scope (compEnvC scope cl C X.env) fp) tg sl g) (ht : ∀ (s : Shared) (H : Hp) (C : Addr) (cl : List (Str × Addr)) (fp : List Addr), SPs (X.blk s H scope (compEnvC scope cl C X.env) fp) ifs t)
    (hk : ∀ (s : Shared) (H : Hp) (C : Addr) (cl : List (Str × Addr)) (fp : List Addr), SE (X.blk s H scope (compEnvC scope cl C X.env) fp) kx mk)
    (he : ∀ (s : Shared) (H : Hp) (C : Addr) (cl : List (Str × Addr)) (fp : List Addr), SE (X.blk s H scope (compEnvC scope cl C X.env) fp) vx mv) (hs : ∀ x, foldedSetIterable iter X.env x = pure x) :
    SE X (.DictComp kx vx [⟨tg, iter, ifs, 0⟩] scope pos) (mDc c mi (own.map (·.2)) g t mk mv) :=
  SE.mk (pe_dc (g := tGt X.K sl g) (tt := tTs X.K t) (tk := tE X.K mk) (tv := tE X.K mv) hc hN hi ok hg ht hk he hs) fun Q rl e q => dc_sem Q hsl rl e q
/-- name = {..} on one line, the name a local -/
theorem ps_setDc {i : Nat} {y : Str} {py : Pos} {kx vx tg iter : Expr} {ifs : List Expr} {scope : Scope} {own : List (Str × Nat)} {spos : Pos} {wi : TI} {g : TG} {tt : TT} {tk tv : TE} (hc : X.calm = true) (hN : X.N.Nodup) (hy : X.N[i]? = some y) (hyl : X.env.scope.names.lookup y = some .local)
    (hsw : swapsWith (.DictComp kx vx [⟨tg, iter, ifs, 0⟩] scope pos) (some (.Name y py)) spos.line X.env = pure true) (hi : PI X tg iter wi) (ok : BlkOk X.N X.env.scope scope own)
    (hg : ∀ (s : Shared) (H : Hp) (C : Addr) (cl : List (Str × Addr)) (fp : List Addr), PG (X.blk s H scope (compEnvC scope cl C X.env) fp) tg g) (ht : ∀ (s : Shared) (H : Hp) (C : Addr) (cl : List (Str × Addr)) (fp : List Addr), PTs (X.blk s H scope (compEnvC scope cl C X.env) fp) ifs tt)
    (hk : ∀ (s : Shared) (H : Hp) (C : Addr) (cl : List (Str × Addr)) (fp : List Addr), PE (X.blk s H scope (compEnvC scope cl C X.env) fp) kx tk)
    (he : ∀ (s : Shared) (H : Hp) (C : Addr) (cl : List (Str × Addr)) (fp : List Addr), PE (X.blk s H scope (compEnvC scope cl C X.env) fp) vx tv) (hs : ∀ x, foldedSetIterable iter X.env x = pure x) :
    PS X (.Assign [.Name y py] (.DictComp kx vx [⟨tg, iter, ifs, 0⟩] scope pos) spos) (tAsg (tDc wi g tt tk tv (own.map (·.2))) (gName i)) := by
  refine ⟨fun pins s σ H D I h => ?_⟩
  rw [exec_Assign_Name_used _ _ _ _ hsw]
  refine wpAny_bind (wpAny_standAt (wpAny_bind ?_))
  show wpAny _ X.A (do let _ ← comprehension (.DictComp kx vx [⟨tg, iter, ifs, 0⟩] scope pos) scope X.env (firstIterPos [⟨tg, iter, ifs, 0⟩] pos) newDict false (eval iter X.env) (some (assign (.Name y py) X.env))) _ _ s
  have h : tDc wi g tt tk tv (own.map (·.2)) σ H (fun x H1 => gName i x σ H1 D.nx) := h
  refine wpAny_bind (thn (dc_core (Qf := fun _ s' => SP X pins D .next s') hc hN I hi ok hg ht hk he hs h fun L C s' m H' I' q hn f => ?_) fun _ s' hq => wpAny_pure (wpAny_pure hq))
  show wpAny _ _ (assign (.Name y py) X.env (.ref L)) _ _ _
  refine wpAny_assign_Name (store_ok2 (v := V.ref L) I' hN hy (.inl hyl) rfl (fun s2 I2 ⟨a, sb, ha⟩ => ?_) (.inr hyl))
  obtain ⟨f0, f1, f2, f3, f4, f5⟩ := f
  have haC : C ≠ a := by
    rcases ha with z | z
    · rw [z]; exact f1
    · exact fun e => f4 y a z e.symm
  refine ⟨m, hn.sameBut sb haC, fun h3 sb3 => ?_⟩
  exact ⟨_, H', I2.turned (t' := s2.toks) (fun b o hb e => (sb3.2 b hb).trans e) f0 f1 f3 f4 f5, q⟩
theorem ss_setDc {c : Bool} {i : Nat} {y : Str} {py spos : Pos} {kx vx tg iter : Expr} {ifs : List Expr} {scope : Scope} {own : List (Str × Nat)} {sl : List Nat} {mi : Sl → M Ix} {g : Val → Sl → M Sl} {t : Sl → M Bool} {mk mv : Sl → M Val} (hc : X.calm = true) (hN : X.N.Nodup) (hy : X.N[i]? = some y) (hyl : X.env.scope.names.lookup y = some .local)
    (hsw : swapsWith (.DictComp kx vx [⟨tg, iter, ifs, 0⟩] scope pos) (some (.Name y py)) spos.line X.env = pure true) (hi : SI X tg iter mi) (ok : BlkOk X.N X.env.scope scope own) (hsl : ∀ i ∈ sl, i ∈ own.map (·.2))
    (hg : ∀ (s : Shared) (H : Hp) (C : Addr) (cl : List (Str × Addr)) (fp : List Addr), SG (X.blk s H scope (compEnvC scope cl C X.env) fp) tg sl g) (ht : ∀ (s : Shared) (H : Hp) (C : Addr) (cl : List (Str × Addr)) (fp : List Addr), SPs (X.blk s H scope (compEnvC scope cl C X.env) fp) ifs t)
    (hk : ∀ (s : Shared) (H : Hp) (C : Addr) (cl : List (Str × Addr)) (fp : List Addr), SE (X.blk s H scope (compEnvC scope cl C X.env) fp) kx mk)
    (he : ∀ (s : Shared) (H : Hp) (C : Addr) (cl : List (Str × Addr)) (fp : List Addr), SE (X.blk s H scope (compEnvC scope cl C X.env) fp) vx mv) (hs : ∀ x, foldedSetIterable iter X.env x = pure x) :
    SS X (.Assign [.Name y py] (.DictComp kx vx [⟨tg, iter, ifs, 0⟩] scope pos) spos) (mAsg (mDc c mi (own.map (·.2)) g t mk mv) (gNm i)) :=
  SS.mk (ps_setDc (g := tGt X.K sl g) (tt := tTs X.K t) (tk := tE X.K mk) (tv := tE X.K mv) hc hN hy hyl hsw hi ok hg ht hk he hs) fun D rl e q => by
    obtain ⟨v, mh1, e1, ea⟩ := M.bind_some.mp e
    obtain ⟨env', mh2, e2, eb⟩ := M.bind_some.mp ea
    cases eb
    cases e2
    exact dc_sem _ hsl rl e1 fun F1 ρ1 H1 u w1 g1 d1 => q _ _ _ _ ((rl.grow w1 g1).set i d1) g1

/-! ### calls of defs -/
def spF (K : PySem.W.Frag) (n : Nat) (m : List Val → M Val) : Sp := fun us H Q _ => us.length = n ∧ ∃ mh F ρ vs v mh', Wd K mh F ρ H ∧ DenVs K F ρ us vs ∧ m vs mh = some (v, mh') ∧ ∀ F' ρ' H' u, Wd K mh' F' ρ' H' → Gr F ρ H F' ρ' H' → DenV K F' ρ' u v → Q u H'
def mCall (f : List Val → M Val) (as : Sl → M (List Val)) (env : Sl) : M Val := do
  let vs ← as env
  f vs
theorem se_call {f : Addr} {fd : FuncData} {ps : List Str} {k : Nat} {m : List Val → M Val} {x : Str} {p : Pos} {e0 : Expr} {es : List Expr} {as : Sl → M (List Val)} (F : FnOk X.prog X.w X.K X.mg X.base L2.CX0 k f fd ps (spF X.K ps.length m)) (hr : Room k X.A) (hg : Gl X x) (hm : X.mg x = some (.ref f)) (hk : PySem.W.keepIn X.K (.ref f) = true) (hb : Binds X.K fd ps [])
    (ha : SA X (e0 :: es) as) (hl : (e0 :: es).length = ps.length) (hdb : (x == ("__debug__" : Str)) = false) (he : starEach (e0 :: es) X.env = (false, eval e0 X.env) :: starEach es X.env) (hpl : (backTo pos (starEach es X.env)).any (·.1) = false)
    (hal : ∀ {env : Sl} {mh mh' : List Ob} {vs : List Val}, as env mh = some (vs, mh') → vs.length = (e0 :: es).length) :
    SE X (.Call (.Name x p) (e0 :: es) [] pos) (mCall m as) :=
  SE.mk (pe_call F hr hg hm hk hb .nil L2.pass0 ha hdb he hpl) fun Q rl e q => by
    obtain ⟨vs, mh1, e1, ea⟩ := M.bind_some.mp e
    refine ⟨_, _, _, _, _, _, rl, e1, fun F1 ρ1 H1 us w1 g1 d1 => ?_⟩
    show spF X.K ps.length m (us ++ []) H1 Q L2.E0
    rw [List.append_nil]
    exact ⟨by rw [d1.length, hal e1, hl], _, _, _, _, _, _, w1, d1, ea, fun F' ρ' H' u w g d => q F' ρ' H' u w (g1.trans g) d⟩
theorem se_call0 {f : Addr} {fd : FuncData} {k : Nat} {m : List Val → M Val} {x : Str} {p : Pos} (F : FnOk X.prog X.w X.K X.mg X.base L2.CX0 k f fd [] (spF X.K 0 m)) (hr : Room k X.A) (hg : Gl X x) (hm : X.mg x = some (.ref f)) (hk : PySem.W.keepIn X.K (.ref f) = true) (hb : Binds X.K fd [] [])
    (hdb : (x == ("__debug__" : Str)) = false) : SE X (.Call (.Name x p) [] [] pos) (mCall m (mArgs [])) :=
  SE.mk (pe_call0 F hr hg hm hk hb .nil L2.pass0 hdb) fun Q rl e q => by
    obtain ⟨vs, mh1, e1, ea⟩ := M.bind_some.mp e
    cases e1
    exact ⟨rfl, _, _, _, _, _, _, rl.wd, .nil, ea, fun F' ρ' H' u w g d => q F' ρ' H' u w g d⟩
end

/-! ### a def's frame: the cells that it made are dropped -/
def Val.below (n : Nat) : Val → Bool
  | .d _ => true
  | .ref m => decide (m < n)
def Ob.below (n : Nat) : Ob → Bool
  | .lst vs => vs.all (·.below n)
  | .dct kvs => kvs.all fun kv => kv.2.below n
  | .dead => true
/-- the elder cells hold no younger ones -/
def cutOk (n : Nat) : List Ob → List Ob → Prop
  | o :: os, o' :: os' => (o' = o ∨ o'.below n = true) ∧ cutOk n os os'
  | [], _ => True
  | _ :: _, [] => False
/-- how many cells stay behind a def: those that were, and the one handed back with what was made ahead of it -/
def keepN (n : Nat) : Val → Nat
  | .d _ => n
  | .ref m => if m < n then n else m + 1
open Classical in
noncomputable def frame (f : List Val → M Val) (vs : List Val) : M Val := fun mh => match f vs mh with
  | some (v, mh') => if cutOk (keepN mh.length v) mh mh' ∧ ((mh'.take (keepN mh.length v)).drop mh.length).all (·.below (keepN mh.length v)) = true then some (v, mh'.take (keepN mh.length v)) else none
  | none => none
end Pv

/-! P9: a small language, what it does, which text it is -/
namespace Pv
open PySem PySem.Spec PyProof.Rows L2

inductive Bi where
  | len | abs | int | str | max | min | sum | all | any | tuple | list | sorted
  deriving DecidableEq
def Bi.name : Bi → Str
  | .len => "len" | .abs => "abs" | .int => "int" | .str => "str" | .max => "max" | .min => "min" | .sum => "sum" | .all => "all" | .any => "any" | .tuple => "tuple" | .list => "list" | .sorted => "sorted"
def Bi.f : Bi → List Ob → List Val → Option Rv
  | .len => lenV | .abs => absVl | .int => intVl | .str => strVl | .max => maxVl | .min => minVl | .sum => sumVl | .all => allVl | .any => anyVl | .tuple => tupVl | .list => listVl | .sorted => sortVl
inductive Mt where
  | append | extend | get | starts | insert | pop | index
  deriving DecidableEq
def Mt.name : Mt → Str
  | .append => "append" | .extend => "extend" | .get => "get" | .starts => "startswith" | .insert => "insert" | .pop => "pop" | .index => "index"
def Mt.ty : Mt → String
  | .append => "list" | .extend => "list" | .get => "dict" | .starts => "str" | .insert => "list" | .pop => "list" | .index => "tuple"
def Mt.f : Mt → Val → List Val → M Val
  | .append => appVl | .extend => extVl | .get => getVl | .starts => startsVl | .insert => insVl | .pop => popVl | .index => idxVl
def binF : Operator → List Ob → Val → Val → Option Rv
  | .Add => addV | .Sub => subV | .Mult => mulV | .FloorDiv => divV | .Mod => modV | .Pow => powV
  | _ => fun _ _ _ => none
def cmpF : CmpOp → List Ob → Val → Val → Option Rv
  | .Eq => fun mh a b => bR (eqV2 mh a b)
  | .NotEq => fun mh a b => bR ((eqV2 mh a b).map (!·))
  | .Lt => ltV | .LtE => leV | .Gt => gtV | .GtE => geV
  | .Is => fun mh a b => bR (isNV mh a b)
  | .IsNot => fun mh a b => bR ((isNV mh a b).map (!·))
  | .In => fun mh a b => bR (inV2 mh a b)
  | .NotIn => fun mh a b => bR ((inV2 mh a b).map (!·))
def augF : Operator → Int → Int → Int
  | .Sub => fun i j => i - j
  | _ => fun i j => i + j
inductive Kc where
  | int (i : Int) | str (x : Str) | bl (b : Bool) | non
def Kc.d : Kc → Dt
  | .int i => .int i | .str x => .str x | .bl b => .bool b | .non => .none

mutual
inductive E where
  | slot (i : Nat) | k (c : Kc) | glob (j : Nat) | absent
  | neg (a : E) | nt (a : E)
  | bin (op : Operator) (c : Bool) (a b : E)
  | cmp (op : CmpOp) (a b : E)
  | and2 (a b : E) | or2 (a b : E) | one (a : E)
  | ife (t : T) (a b : E)
  | tup (as : As) | lst (c : Bool) (as : As) | dict0 (c : Bool)
  | ix (a b : E) | sl (c : Bool) (a lo hi : E)
  | call (f : Nat) (as : As)
  | bi (b : Bi) (c : Bool) (as : As)
  | isin (T : String) (a : E)
  | rev (c : Bool) (a : E)
  | meth (m : Mt) (o : E) (as : As)
  | lc (c : Bool) (own : List (Str × Nat)) (g : G) (it : I) (t : T) (el : E)
  | dc (c : Bool) (own : List (Str × Nat)) (g : G) (it : I) (t : T) (kx vx : E)
inductive As where
  | nil | cons (a : E) (as : As)
inductive T where
  | yes
  | cmp (op : CmpOp) (a b : E) | tru (a : E) | nt (t : T) | and2 (a b : T) | or2 (a b : T) | one (a : T)
inductive I where
  | val (a : E) | range1 (as : As) | range2 (as : As) | zip (as : As) | zip3 (as : As) | enumT (as : As)
inductive G where
  | nm (i : Nat) | tp (n : Nat) (gs : Gs) | sb (o i : E)
inductive Gs where
  | nil | cons (g : G) (gs : Gs)
inductive S where
  | asg (g : G) (a : E) | set (i : Nat) (a : E) | swp (i : Nat) (a : E) | par (i j : Nat) (as : As) | aug (i : Nat) (op : Operator) (a : E)
  | expr (a : E) | ret (a : E) | retN | iff (t : T) (a b : Ss) | for (g : G) (it : I) (b : Ss) | while (n : Nat) (t : T) (b : Ss)
  | pass | brk | cnt | doc
inductive Ss where
  | nil | cons (s : S) (b : Ss) | frz (i : Nat) (b : Ss)
end

def E.isAbs : E → Bool
  | .absent => true
  | _ => false
def mOpt (b : Bool) (m : Sl → M Val) : Sl → M (Option Int) := match b with
  | true => mNoPart
  | false => mPart m
def mGlob (gl : List (Str × Dt)) (j : Nat) (_ : Sl) : M Val := ofO ((gl[j]?).map fun p => .d p.2)
mutual
noncomputable def evE (gl : List (Str × Dt)) (c : Nat → List Val → M Val) : E → Sl → M Val
  | .slot i => mSlot i
  | .k x => mC x.d
  | .glob j => mGlob gl j
  | .absent => fun _ _ => none
  | .neg a => mUn negVl (evE gl c a)
  | .nt a => mUn notVl (evE gl c a)
  | .bin op k a b => mBin (binF op) k (evE gl c a) (evE gl c b)
  | .cmp op a b => mBin (cmpF op) false (evE gl c a) (evE gl c b)
  | .and2 a b => mAnd (evE gl c a) (evE gl c b)
  | .or2 a b => mOr (evE gl c a) (evE gl c b)
  | .one a => evE gl c a
  | .ife t a b => mIte (evT gl c t) (evE gl c a) (evE gl c b)
  | .tup as => mTup (mArgs (evAs gl c as))
  | .lst k as => mLst k (mArgs (evAs gl c as))
  | .dict0 k => mDict0 k
  | .ix a b => mIx (evE gl c a) (evE gl c b)
  | .sl k a lo hi => mSl k (evE gl c a) (mOpt lo.isAbs (evE gl c lo)) (mOpt hi.isAbs (evE gl c hi))
  | .call f as => mCall (c f) (mArgs (evAs gl c as))
  | .bi b k as => mBi b.f k (mArgs (evAs gl c as))
  | .isin t a => mIsin t (evE gl c a)
  | .rev k a => mRev k (evE gl c a)
  | .meth m o as => mMeth m.ty m.f (evE gl c o) (mArgs (evAs gl c as))
  | .lc k own g it t el => mLc k (evI gl c it) (own.map (·.2)) (evG gl c g) (evT gl c t) (evE gl c el)
  | .dc k own g it t kx vx => mDc k (evI gl c it) (own.map (·.2)) (evG gl c g) (evT gl c t) (evE gl c kx) (evE gl c vx)
termination_by structural e => e
noncomputable def evAs (gl : List (Str × Dt)) (c : Nat → List Val → M Val) : As → List (Sl → M Val)
  | .nil => []
  | .cons a as => evE gl c a :: evAs gl c as
termination_by structural e => e
noncomputable def evT (gl : List (Str × Dt)) (c : Nat → List Val → M Val) : T → Sl → M Bool
  | .yes => mYes
  | .cmp op a b => mCmpT (cmpF op) (evE gl c a) (evE gl c b)
  | .tru a => mTru (evE gl c a)
  | .nt t => mNotT (evT gl c t)
  | .and2 a b => mAndT (evT gl c a) (evT gl c b)
  | .or2 a b => mOrT (evT gl c a) (evT gl c b)
  | .one a => evT gl c a
termination_by structural e => e
noncomputable def evI (gl : List (Str × Dt)) (c : Nat → List Val → M Val) : I → Sl → M Ix
  | .val a => iVal (evE gl c a)
  | .range1 as => iArgs rng1 (mArgs (evAs gl c as))
  | .range2 as => iArgs rng2 (mArgs (evAs gl c as))
  | .zip as => iArgsH zip2 (mArgs (evAs gl c as))
  | .zip3 as => iArgs zip3 (mArgs (evAs gl c as))
  | .enumT as => iArgs enumV (mArgs (evAs gl c as))
termination_by structural e => e
noncomputable def evG (gl : List (Str × Dt)) (c : Nat → List Val → M Val) : G → Val → Sl → M Sl
  | .nm i => gNm i
  | .tp n gs => gTp n (evGs gl c gs)
  | .sb o i => gSb (evE gl c o) (evE gl c i)
termination_by structural e => e
noncomputable def evGs (gl : List (Str × Dt)) (c : Nat → List Val → M Val) : Gs → List Dt → Sl → M Sl
  | .nil => gNil
  | .cons g gs => gCons (evG gl c g) (evGs gl c gs)
termination_by structural e => e
noncomputable def evS (gl : List (Str × Dt)) (c : Nat → List Val → M Val) : S → Sl → M Fl
  | .asg g a => mAsg (evE gl c a) (evG gl c g)
  | .set i a => mAsg (evE gl c a) (gNm i)
  | .swp i a => mAsg (evE gl c a) (gNm i)
  | .par i j as => mPar i j (mArgs (evAs gl c as))
  | .aug i op a => mAug i (augF op) (evE gl c a)
  | .expr a => mExpr (evE gl c a)
  | .ret a => mRet (evE gl c a)
  | .retN => mRet (mC .none)
  | .iff t a b => mIf (evT gl c t) (evSs gl c a) (evSs gl c b)
  | .for g it b => mFor (evI gl c it) (evG gl c g) (evSs gl c b)
  | .while n t b => loopW (evT gl c t) (evSs gl c b) n
  | .pass => mPass
  | .brk => mBrk
  | .cnt => mCnt
  | .doc => mPass
termination_by structural e => e
noncomputable def evSs (gl : List (Str × Dt)) (c : Nat → List Val → M Val) : Ss → Sl → M Fl
  | .nil => mNil
  | .cons s b => mSeq (evS gl c s) (evSs gl c b)
  | .frz i b => mSeq (mFrz i) (evSs gl c b)
termination_by structural e => e
end

/-! ### looks at a text -/
def notStar : Expr → Bool
  | .Starred .. => false
  | _ => true
def notSlice : Expr → Bool
  | .Slice .. => false
  | _ => true
def notComp : Expr → Bool
  | .ListComp .. => false | .SetComp .. => false | .DictComp .. => false
  | _ => true
def plainT : Expr → Bool
  | .UnaryOp .. => false | .BoolOp .. => false | .IfExp .. => false | .Compare .. => false
  | _ => true
def notSet : Expr → Bool
  | .Set .. => false
  | _ => true
def notCall : Expr → Bool
  | .Call .. => false
  | _ => true
def notTup : Expr → Bool
  | .Tuple .. => false
  | _ => true
def notTL : Expr → Bool
  | .Tuple .. => false | .List .. => false
  | _ => true
def isTup : Expr → Bool
  | .Tuple .. => true
  | _ => false
section
variable {env : Env} {pos : Pos}
theorem star_cons {e : Expr} {es : List Expr} (h : notStar e = true) : starEach (e :: es) env = (false, eval e env) :: starEach es env := by
  cases e <;> first | rfl | cases h
theorem star_any : ∀ {es : List Expr}, es.all notStar = true → (backTo pos (starEach es env)).any (·.1) = false
  | [], _ => rfl
  | e :: es, h => by
    rw [List.all_cons, Bool.and_eq_true] at h
    rw [star_cons h.1]
    show (false || (backTo pos (starEach es env)).any (·.1)) = false
    rw [Bool.false_or]
    exact star_any h.2
theorem star_all : ∀ {es : List Expr}, es.all notStar = true → (backTo pos (starEach es env)).all (fun x => !x.1) = true
  | [], _ => rfl
  | e :: es, h => by
    rw [List.all_cons, Bool.and_eq_true] at h
    rw [star_cons h.1]
    show (true && (backTo pos (starEach es env)).all (fun x => !x.1)) = true
    rw [Bool.true_and]
    exact star_all h.2
theorem asg_cons {e : Expr} {es : List Expr} (h : notStar e = true) : (assignEach (e :: es) env).map (·.2) = assign e env :: (assignEach es env).map (·.2) := by
  cases e <;> first | rfl | cases h
theorem asg_cons' {e : Expr} {es : List Expr} (h : notStar e = true) : assignEach (e :: es) env = (false, assign e env) :: assignEach es env := by
  cases e <;> first | rfl | cases h
theorem asg_len : ∀ {es : List Expr}, es.all notStar = true → (assignEach es env).length = es.length
  | [], _ => rfl
  | e :: es, h => by
    rw [List.all_cons, Bool.and_eq_true] at h
    rw [asg_cons' h.1, List.length_cons, List.length_cons, asg_len h.2]
theorem asg_find : ∀ {es : List Expr}, es.all notStar = true → (assignEach es env).findIdx? (·.1) = none
  | [], _ => rfl
  | e :: es, h => by
    rw [List.all_cons, Bool.and_eq_true] at h
    rw [asg_cons' h.1, List.findIdx?_cons, asg_find h.2]
    rfl
theorem slice_ix {e : Expr} (h : notSlice e = true) : PlainIx e := by
  intro o i
  cases e <;> first | rfl | cases h
theorem comp_swaps {e : Expr} {t : Option Expr} {l : Nat} (h : notComp e = true) : swapsWith e t l env = pure false := by
  cases e <;> first | rfl | cases h
theorem test_plain {e : Expr} (h : plainT e = true) : ∀ whole, isTrue e env whole = (do let v ← whole; standAt e.pos; holding [v] (truthy v)) := by
  intro whole
  cases e <;> first | rfl | cases h
theorem set_marks {e : Expr} {op : CmpOp} (h : notSet e = true) : behindInMarks op e = false := by
  cases e <;> first | rfl | cases h
theorem set_fold {e : Expr} (h : notSet e = true) : ∀ x, foldedSetIterable e env x = pure x := by
  intro x
  cases e <;> first | rfl | cases h
theorem call_base {o : Expr} {name : Str} (h : notCall o = true) : attributeBase o name env (eval o env) = eval o env := by
  cases o <;> first | rfl | cases h
theorem tup_swap {t a : Expr} (h : notTL t = true ∨ notTup a = true) : swappedStores [t] a env = pure none := by
  unfold swappedStores
  cases t <;> first | rfl | (cases a <;> first | rfl | (rcases h with h | h <;> cases h))
end
def visB (sc : Scope) (x : Str) : Bool := match sc.names.lookup x with
  | some .local => true | some .cell => true | some .free => true
  | _ => false
def locB (sc : Scope) (cl : Str → Bool) (x : Str) : Bool := match sc.names.lookup x with
  | some .local => true
  | some .cell => cl x
  | _ => false
def glB (sc : Scope) (x : Str) : Bool := match sc.names.lookup x with
  | some .globalImplicit => true
  | _ => false
def okN (x : Str) : Bool := !(x == ("__debug__" : Str)) && !(x == ("__classdict__" : Str)) && !(x == ("__name__" : Str))
theorem visB_ok {sc : Scope} {x : Str} (h : visB sc x = true) : Vis sc x := by
  unfold visB at h
  unfold Vis
  split at h <;> first | (rename_i e; rw [e]; simp) | cases h
theorem locB_ok {sc : Scope} {cl : Str → Bool} {x : Str} (h : locB sc cl x = true) : L2.Loc sc x ∧ (cl x = true ∨ sc.names.lookup x = some .local) := by
  unfold locB at h
  unfold L2.Loc
  split at h
  · rename_i e; rw [e]; simp
  · rename_i e; rw [e]; exact ⟨.inr rfl, .inl h⟩
  · cases h
theorem glB_ok {sc : Scope} {x : Str} (h : glB sc x = true) : sc.names.lookup x = some .globalImplicit := by
  unfold glB at h
  split at h
  · assumption
  · cases h
theorem okN_ok {x : Str} (h : okN x = true) : (x == ("__debug__" : Str)) = false ∧ (x == ("__classdict__" : Str)) = false ∧ x ≠ "__name__" := by
  unfold okN at h
  simp only [Bool.and_eq_true, Bool.not_eq_true'] at h
  exact ⟨h.1.1, h.1.2, fun z => by have := h.2; rw [z] at this; simp at this⟩
end Pv

/-! P10: which text a term is -/
namespace Pv
open PySem PySem.Spec PyProof.Rows L2

/-- what is known of the program: the defs (name, number of parameters), the free built-ins' names, the constants' names -/
structure Tb where
  fs : List (Str × Nat)
  bs : List Str
  gs : List Str
def As.len : As → Nat
  | .nil => 0
  | .cons _ as => as.len + 1
def T.isYes : T → Bool
  | .yes => true
  | _ => false
def Gs.len : Gs → Nat
  | .nil => 0
  | .cons _ as => as.len + 1
mutual
def gSl : G → List Nat
  | .nm i => [i]
  | .tp _ gs => gsSl gs
  | .sb _ _ => []
termination_by structural g => g
def gsSl : Gs → List Nat
  | .nil => []
  | .cons g gs => gSl g ++ gsSl gs
termination_by structural g => g
end
def optB (m : Expr → Bool) (ab : Bool) : Option Expr → Bool
  | none => ab
  | some e => !ab && m e
def ifsB (m : Expr → Bool) (y : Bool) : List Expr → Bool
  | [] => y
  | [c] => m c
  | _ => false
def clOf (scope : Scope) (x : Str) : Bool := scope.names.lookup x == some .cell
def Kc.is : Kc → Const → Bool
  | .int i, .int j => i == j
  | .str x, .str y => x == y
  | .bl b, .bool d => b == d
  | .non, .none => true
  | _, _ => false
/-! #### one sign each -/
section
variable (tb : Tb) (N : List Str) (sc : Scope) (cl : Str → Bool)
def kSlot (i : Nat) : Expr → Bool
  | .Name x _ => decide (N[i]? = some x) && visB sc x && okN x
  | _ => false
def kK (c : Kc) : Expr → Bool
  | .Constant d _ _ => c.is d
  | _ => false
def kGlob (j : Nat) : Expr → Bool
  | .Name x _ => decide (tb.gs[j]? = some x) && glB sc x && okN x
  | _ => false
def kNeg (a : Expr → Bool) : Expr → Bool
  | .UnaryOp .USub e _ => a e
  | _ => false
def kNt (a : Expr → Bool) : Expr → Bool
  | .UnaryOp .Not e _ => a e
  | _ => false
def kBin (op : Operator) (a b : Expr → Bool) : Expr → Bool
  | .BinOp ea eop eb _ => decide (op = eop) && a ea && b eb
  | _ => false
def kCmp (op : CmpOp) (a b : Expr → Bool) : Expr → Bool
  | .Compare ea [eop] [eb] _ => decide (op = eop) && a ea && b eb && notSet eb
  | _ => false
def kOne (a : Expr → Bool) : Expr → Bool
  | .BoolOp _ [e] _ => a e
  | _ => false
def kAnd (a b : Expr → Bool) : Expr → Bool
  | .BoolOp .And (e :: e2 :: es) p => a e && b (.BoolOp .And (e2 :: es) p)
  | _ => false
def kOr (a b : Expr → Bool) : Expr → Bool
  | .BoolOp .Or (e :: e2 :: es) p => a e && b (.BoolOp .Or (e2 :: es) p)
  | _ => false
def kIfe (t a b : Expr → Bool) : Expr → Bool
  | .IfExp et ea eb _ => t et && a ea && b eb
  | _ => false
def kTup (as : List Expr → Bool) : Expr → Bool
  | .Tuple es _ _ => as es
  | _ => false
def kLst (as : List Expr → Bool) : Expr → Bool
  | .List es _ => as es
  | _ => false
def kDict0 : Expr → Bool
  | .Dict [] [] _ => true
  | _ => false
def kIx (a b : Expr → Bool) : Expr → Bool
  | .Subscript ea eb _ => a ea && b eb && notSlice eb
  | _ => false
def kSl (a : Expr → Bool) (lo hi : Option Expr → Bool) : Expr → Bool
  | .Subscript ea (.Slice elo ehi none _) _ => a ea && lo elo && hi ehi
  | _ => false
def kCall (f n : Nat) (as : List Expr → Bool) : Expr → Bool
  | .Call (.Name x _) es [] _ => decide (tb.fs[f]? = some (x, n)) && glB sc x && okN x && as es
  | _ => false
def kBi (b : Bi) (n : Nat) (as : List Expr → Bool) : Expr → Bool
  | .Call (.Name x _) es [] _ => decide (x = b.name) && tb.bs.contains x && glB sc x && as es && decide (0 < n)
  | _ => false
def kIsin (t : String) (a : Expr → Bool) : Expr → Bool
  | .Call (.Name x _) [e, .Name y _] [] _ => decide (x = "isinstance") && tb.bs.contains x && glB sc x && tb.bs.contains y && glB sc y && decide (y = Str.ofString t) && isTys.contains t && a e && notStar e
  | _ => false
def kMeth (m : Mt) (n : Nat) (o : Expr → Bool) (as : List Expr → Bool) : Expr → Bool
  | .Call (.Attribute eo name ap) es [] cp => decide (name = m.name) && o eo && as es && decide (n < 30) && notCall eo && (ap.endLine == cp.line)
  | _ => false
def kLc (own : List (Str × Nat)) (sl : List Nat) (it : Expr → Expr → Bool) (g : Scope → (Str → Bool) → Expr → Bool) (ty : Bool) (t el : Scope → (Str → Bool) → Expr → Bool) : Expr → Bool
  | .ListComp ex [⟨tg, iter, ifs, ia⟩] scope _ => decide (ia = 0) && blkC N sc scope own && sl.all (fun i => (own.map (·.2)).contains i) && it tg iter && notSet iter && g (relS scope sc) (clOf scope) tg && ifsB (t (relS scope sc) (clOf scope)) ty ifs && el (relS scope sc) (clOf scope) ex
  | _ => false
def kDc (own : List (Str × Nat)) (sl : List Nat) (it : Expr → Expr → Bool) (g : Scope → (Str → Bool) → Expr → Bool) (ty : Bool) (t kx vx : Scope → (Str → Bool) → Expr → Bool) : Expr → Bool
  | .DictComp ek ev [⟨tg, iter, ifs, ia⟩] scope _ => decide (ia = 0) && blkC N sc scope own && sl.all (fun i => (own.map (·.2)).contains i) && it tg iter && notSet iter && g (relS scope sc) (clOf scope) tg && ifsB (t (relS scope sc) (clOf scope)) ty ifs && kx (relS scope sc) (clOf scope) ek && vx (relS scope sc) (clOf scope) ev
  | _ => false
def kRev (a : Expr → Bool) : Expr → Bool
  | .Call (.Name x _) [.Call (.Name y _) [e] [] _] [] _ => decide (x = "list") && tb.bs.contains x && glB sc x && decide (y = "reversed") && tb.bs.contains y && glB sc y && a e && notStar e
  | _ => false
def kNil {α : Type} : List α → Bool
  | [] => true
  | _ => false
def kCons (a : Expr → Bool) (as : List Expr → Bool) : List Expr → Bool
  | e :: es => a e && as es && notStar e
  | _ => false
def kTru (a : Expr → Bool) (e : Expr) : Bool := a e && plainT e
def kRng1 (as : List Expr → Bool) : Expr → Bool
  | .Call (.Name x _) [e] [] _ => decide (x = "range") && tb.bs.contains x && glB sc x && as [e]
  | _ => false
def kRng2 (as : List Expr → Bool) : Expr → Bool
  | .Call (.Name x _) [e, e2] [] _ => decide (x = "range") && tb.bs.contains x && glB sc x && as [e, e2]
  | _ => false
def kZip (as : List Expr → Bool) (tg : Expr) : Expr → Bool
  | .Call (.Name x _) [e, e2] [] _ => decide (x = "zip") && tb.bs.contains x && glB sc x && as [e, e2] && isTup tg
  | _ => false
def kZip3 (as : List Expr → Bool) (tg : Expr) : Expr → Bool
  | .Call (.Name x _) [e, e2, e3] [] _ => decide (x = "zip") && tb.bs.contains x && glB sc x && as [e, e2, e3] && isTup tg
  | _ => false
def kEnumT (as : List Expr → Bool) (tg : Expr) : Expr → Bool
  | .Call (.Name x _) [e] [] _ => decide (x = "enumerate") && tb.bs.contains x && glB sc x && as [e] && isTup tg
  | _ => false
def kNm (i : Nat) : Expr → Bool
  | .Name x _ => decide (N[i]? = some x) && locB sc cl x
  | _ => false
def kTp (n : Nat) (gs : List Expr → Bool) : Expr → Bool
  | .Tuple es _ _ => gs es && decide (es.length = n)
  | _ => false
def kSb (o i : Expr → Bool) : Expr → Bool
  | .Subscript eo ei _ => o eo && i ei && notSlice ei
  | _ => false
def kAsg (g a : Expr → Bool) : Stmt → Bool
  | .Assign [tg] e _ => g tg && a e && notComp e && (notTL tg || notTup e) && notStar tg
  | _ => false
def kSet (i : Nat) (a : Expr → Bool) : Stmt → Bool
  | .Assign [.Name x _] e _ => decide (N[i]? = some x) && locB sc cl x && a e && (notComp e || decide (sc.names.lookup x = some .cell))
  | _ => false
def compS : Expr → Option (Scope × Pos)
  | .ListComp _ _ s p => some (s, p)
  | .DictComp _ _ _ s p => some (s, p)
  | _ => none
def swpB (y : Str) (py : Pos) : Option (Scope × Pos) → Bool
  | some (scope, cp) => (py.line == cp.line) && !(scope.names.any fun (n, k) => n == y && (k == .local || k == .cell))
  | none => false
def kSwp (i : Nat) (a : Expr → Bool) : Stmt → Bool
  | .Assign [.Name y py] e sp => decide (N[i]? = some y) && decide (sc.names.lookup y = some .local) && a e && swpB y py (compS e)
  | _ => false
def kAug (i : Nat) (op : Operator) (a : Expr → Bool) : Stmt → Bool
  | .AugAssign (.Name x _) eop e _ => decide (op = eop) && (decide (op = .Add) || decide (op = .Sub)) && decide (N[i]? = some x) && locB sc cl x && a e
  | _ => false
def kExpr (a : Expr → Bool) : Stmt → Bool
  | .Expr e _ => a e && notComp e
  | _ => false
def kDoc : Stmt → Bool
  | .Expr (.Constant (.str _) _ _) _ => true
  | _ => false
def kRet (a : Expr → Bool) : Stmt → Bool
  | .Return (some e) _ => a e
  | _ => false
def kRetN : Stmt → Bool
  | .Return none _ => true
  | _ => false
def kIf (t : Expr → Bool) (a b : List Stmt → Bool) : Stmt → Bool
  | .If et ea eb _ => t et && a ea && b eb
  | _ => false
def kFor (g : Expr → Bool) (it : Expr → Expr → Bool) (b : List Stmt → Bool) : Stmt → Bool
  | .For tg iter body [] _ => g tg && it tg iter && b body && notSet iter
  | _ => false
def kWhile (t : Expr → Bool) (b : List Stmt → Bool) : Stmt → Bool
  | .While et body [] _ => t et && b body
  | _ => false
def kPass : Stmt → Bool
  | .Pass _ => true
  | _ => false
def kBrk : Stmt → Bool
  | .Break _ => true
  | _ => false
def kCnt : Stmt → Bool
  | .Continue _ => true
  | _ => false
def kConsS (s : Stmt → Bool) (b : List Stmt → Bool) : List Stmt → Bool
  | e :: es => s e && b es
  | _ => false
end
mutual
def mE (tb : Tb) (N : List Str) : E → Scope → (Str → Bool) → Expr → Bool
  | .slot i, sc, _ => kSlot N sc i
  | .k c, _, _ => kK c
  | .glob j, sc, _ => kGlob tb sc j
  | .absent, _, _ => fun _ => false
  | .neg a, sc, cl => kNeg (mE tb N a sc cl)
  | .nt a, sc, cl => kNt (mE tb N a sc cl)
  | .bin op _ a b, sc, cl => kBin op (mE tb N a sc cl) (mE tb N b sc cl)
  | .cmp op a b, sc, cl => kCmp op (mE tb N a sc cl) (mE tb N b sc cl)
  | .one a, sc, cl => kOne (mE tb N a sc cl)
  | .and2 a b, sc, cl => kAnd (mE tb N a sc cl) (mE tb N b sc cl)
  | .or2 a b, sc, cl => kOr (mE tb N a sc cl) (mE tb N b sc cl)
  | .ife t a b, sc, cl => kIfe (mT tb N t sc cl) (mE tb N a sc cl) (mE tb N b sc cl)
  | .tup as, sc, cl => kTup (mAs tb N as sc cl)
  | .lst _ as, sc, cl => kLst (mAs tb N as sc cl)
  | .dict0 _, _, _ => kDict0
  | .ix a b, sc, cl => kIx (mE tb N a sc cl) (mE tb N b sc cl)
  | .sl _ a lo hi, sc, cl => kSl (mE tb N a sc cl) (optB (mE tb N lo sc cl) lo.isAbs) (optB (mE tb N hi sc cl) hi.isAbs)
  | .call f as, sc, cl => kCall tb sc f as.len (mAs tb N as sc cl)
  | .bi b _ as, sc, cl => kBi tb sc b as.len (mAs tb N as sc cl)
  | .isin t a, sc, cl => kIsin tb sc t (mE tb N a sc cl)
  | .rev _ a, sc, cl => kRev tb sc (mE tb N a sc cl)
  | .meth m o as, sc, cl => kMeth m as.len (mE tb N o sc cl) (mAs tb N as sc cl)
  | .lc _ own g it t el, sc, cl => kLc N sc own (gSl g) (mI tb N it sc cl) (mG tb N g) t.isYes (mT tb N t) (mE tb N el)
  | .dc _ own g it t kx vx, sc, cl => kDc N sc own (gSl g) (mI tb N it sc cl) (mG tb N g) t.isYes (mT tb N t) (mE tb N kx) (mE tb N vx)
termination_by structural e => e
def mAs (tb : Tb) (N : List Str) : As → Scope → (Str → Bool) → List Expr → Bool
  | .nil, _, _ => kNil
  | .cons a as, sc, cl => kCons (mE tb N a sc cl) (mAs tb N as sc cl)
termination_by structural e => e
def mT (tb : Tb) (N : List Str) : T → Scope → (Str → Bool) → Expr → Bool
  | .yes, _, _ => fun _ => false
  | .cmp op a b, sc, cl => kCmp op (mE tb N a sc cl) (mE tb N b sc cl)
  | .tru a, sc, cl => kTru (mE tb N a sc cl)
  | .nt t, sc, cl => kNt (mT tb N t sc cl)
  | .one a, sc, cl => kOne (mT tb N a sc cl)
  | .and2 a b, sc, cl => kAnd (mT tb N a sc cl) (mW tb N b sc cl)
  | .or2 a b, sc, cl => kOr (mT tb N a sc cl) (mW tb N b sc cl)
termination_by structural e => e
def mW (tb : Tb) (N : List Str) : T → Scope → (Str → Bool) → Expr → Bool
  | .one a, sc, cl => kOne (mT tb N a sc cl)
  | .and2 a b, sc, cl => kAnd (mT tb N a sc cl) (mW tb N b sc cl)
  | .or2 a b, sc, cl => kOr (mT tb N a sc cl) (mW tb N b sc cl)
  | _, _, _ => fun _ => false
termination_by structural e => e
def mI (tb : Tb) (N : List Str) : I → Scope → (Str → Bool) → Expr → Expr → Bool
  | .val a, sc, cl => fun _ e => mE tb N a sc cl e
  | .range1 as, sc, cl => fun _ => kRng1 tb sc (mAs tb N as sc cl)
  | .range2 as, sc, cl => fun _ => kRng2 tb sc (mAs tb N as sc cl)
  | .zip as, sc, cl => kZip tb sc (mAs tb N as sc cl)
  | .zip3 as, sc, cl => kZip3 tb sc (mAs tb N as sc cl)
  | .enumT as, sc, cl => kEnumT tb sc (mAs tb N as sc cl)
termination_by structural e => e
def mG (tb : Tb) (N : List Str) : G → Scope → (Str → Bool) → Expr → Bool
  | .nm i, sc, cl => kNm N sc cl i
  | .tp n gs, sc, cl => kTp n (mGs tb N gs sc cl)
  | .sb o i, sc, cl => kSb (mE tb N o sc cl) (mE tb N i sc cl)
termination_by structural e => e
def mGs (tb : Tb) (N : List Str) : Gs → Scope → (Str → Bool) → List Expr → Bool
  | .nil, _, _ => kNil
  | .cons g gs, sc, cl => kCons (mG tb N g sc cl) (mGs tb N gs sc cl)
termination_by structural e => e
end
mutual
def mS (tb : Tb) (N : List Str) : S → Scope → (Str → Bool) → Stmt → Bool
  | .asg g a, sc, cl => kAsg (mG tb N g sc cl) (mE tb N a sc cl)
  | .set i a, sc, cl => kSet N sc cl i (mE tb N a sc cl)
  | .swp i a, sc, cl => kSwp N sc i (mE tb N a sc cl)
  | .par _ _ _, _, _ => fun _ => false
  | .aug i op a, sc, cl => kAug N sc cl i op (mE tb N a sc cl)
  | .expr a, sc, cl => kExpr (mE tb N a sc cl)
  | .doc, _, _ => kDoc
  | .ret a, sc, cl => kRet (mE tb N a sc cl)
  | .retN, _, _ => kRetN
  | .iff t a b, sc, cl => kIf (mT tb N t sc cl) (mSs tb N a sc cl) (mSs tb N b sc cl)
  | .for g it b, sc, cl => kFor (mG tb N g sc cl) (mI tb N it sc cl) (mSs tb N b sc cl)
  | .while _ t b, sc, cl => kWhile (mT tb N t sc cl) (mSs tb N b sc cl)
  | .pass, _, _ => kPass
  | .brk, _, _ => kBrk
  | .cnt, _, _ => kCnt
termination_by structural s => s
def mSs (tb : Tb) (N : List Str) : Ss → Scope → (Str → Bool) → List Stmt → Bool
  | .nil, _, _ => kNil
  | .cons s b, sc, cl => kConsS (mS tb N s sc cl) (mSs tb N b sc cl)
  | .frz _ b, sc, cl => mSs tb N b sc cl
termination_by structural s => s
end

/-! ### the context of a piece of text -/
structure Wx where
  P : Program
  w : World
  K : PySem.W.Frag
  mg : Str → Option Value
  base : Heap
structure Gd (Y : Wx) (N : List Str) (k : Nat) (X : Cx) (sc : Scope) (cl : Str → Bool) : Prop where
  hP : X.prog = Y.P
  hw : X.w = Y.w
  hK : X.K = Y.K
  hmg : X.mg = Y.mg
  hb : X.base = Y.base
  hN : X.N = N
  nd : N.Nodup
  calm : X.calm = true
  room : Room k X.A
  hsc : X.env.scope = sc
  kind : sc.kind = .function
  fn : ∀ x, cl x = true → X.fn x = true
  xe : X.xe = fun _ _ => False
structure Calls (Y : Wx) (k : Nat) (tb : Tb) (gl : List (Str × Dt)) (c : Nat → List Val → M Val) : Prop where
  fn : ∀ (f : Nat) (x : Str) (n : Nat), tb.fs[f]? = some (x, n) → ∃ (addr : Addr) (fd : FuncData) (ps : List Str), ps.length = n ∧ FnOk Y.P Y.w Y.K Y.mg Y.base L2.CX0 k addr fd ps (spF Y.K n (c f)) ∧ Y.mg x = some (.ref addr) ∧ PySem.W.keepIn Y.K (.ref addr) = true ∧ Binds Y.K fd ps []
  bi : ∀ x ∈ tb.bs, Y.mg x = none
  gl : ∀ (j : Nat) (x : Str), tb.gs[j]? = some x → ∃ (d : Dt) (v : V) (u : Value), gl[j]? = some (x, d) ∧ Y.mg x = some u ∧ RelV v u ∧ ∀ F, Den Y.K F v d
section
variable {Y : Wx} {N : List Str} {k : Nat} {X : Cx} {sc : Scope} {cl : Str → Bool} {tb : Tb} {gl : List (Str × Dt)} {c : Nat → List Val → M Val}
theorem Gd.blk (g : Gd Y N k X sc cl) {scope : Scope} (hk : scope.kind = .function) (s : Shared) (H : Hp) (C : Addr) (cs : List (Str × Addr)) (fp : List Addr) : Gd Y N k (X.blk s H scope (compEnvC scope cs C X.env) fp) (relS scope sc) (clOf scope) := by
  refine ⟨g.hP, g.hw, g.hK, g.hmg, g.hb, g.hN, g.nd, g.calm, g.room, ?_, hk, fun x h => h, rfl⟩
  show relabel scope X.env = relS scope sc
  rw [← g.hsc]
  rfl
theorem Gd.un (g : Gd Y N k X sc cl) : X.A.units + 65 < cLine := by have := g.room.un; omega
theorem Gd.vis (g : Gd Y N k X sc cl) {x : Str} (h : visB sc x = true) : Vis X.env.scope x := by rw [g.hsc]; exact visB_ok h
theorem Gd.loc (g : Gd Y N k X sc cl) {x : Str} (h : locB sc cl x = true) : L2.Loc X.env.scope x ∧ (X.fn x = true ∨ X.env.scope.names.lookup x = some .local) := by
  obtain ⟨h1, h2⟩ := locB_ok h
  rw [g.hsc]
  exact ⟨h1, h2.imp (g.fn x) id⟩
theorem Gd.glo (g : Gd Y N k X sc cl) {x : Str} (h : glB sc x = true) : Gl X x := by
  show X.env.scope.names.lookup x = _
  rw [g.hsc]
  exact glB_ok h
theorem Gd.at (g : Gd Y N k X sc cl) {i : Nat} {x : Str} (h : N[i]? = some x) : X.N[i]? = some x := by rw [g.hN]; exact h
theorem Gd.ndX (g : Gd Y N k X sc cl) : X.N.Nodup := by rw [g.hN]; exact g.nd
theorem Gd.free (g : Gd Y N k X sc cl) (C : Calls Y k tb gl c) {x : Str} (h : tb.bs.contains x = true) : X.mg x = none := by
  rw [g.hmg]
  exact C.bi x (List.contains_iff_mem.mp h)
theorem mArgs_len : ∀ {ms : List (Sl → M Val)} {env : Sl} {mh mh' : List Ob} {vs : List Val}, mArgs ms env mh = some (vs, mh') → vs.length = ms.length
  | [], _, _, _, _, e => by cases e; rfl
  | m :: ms, _, _, _, _, e => by
    obtain ⟨x, mh1, e1, ea⟩ := M.bind_some.mp e
    obtain ⟨xs, mh2, e2, eb⟩ := M.bind_some.mp ea
    cases eb
    rw [List.length_cons, List.length_cons, mArgs_len e2]
theorem evAs_len : ∀ as : As, (evAs gl c as).length = as.len
  | .nil => rfl
  | .cons a as => by
    show (evE gl c a :: evAs gl c as).length = as.len + 1
    rw [List.length_cons, evAs_len as]
theorem mAs_len : ∀ {as : As} {es : List Expr}, mAs tb N as sc cl es = true → es.length = as.len ∧ es.all notStar = true
  | .nil, [], _ => ⟨rfl, rfl⟩
  | .nil, _ :: _, h => by cases h
  | .cons a as, [], h => by cases h
  | .cons a as, e :: es, h => by
    have h : (mE tb N a sc cl e && mAs tb N as sc cl es && notStar e) = true := h
    rw [Bool.and_eq_true, Bool.and_eq_true] at h
    obtain ⟨h1, h2⟩ := mAs_len h.1.2
    exact ⟨by rw [List.length_cons, h1]; rfl, by rw [List.all_cons, h.2, h2]; rfl⟩
theorem mGs_len : ∀ {gs : Gs} {es : List Expr}, mGs tb N gs sc cl es = true → es.all notStar = true
  | .nil, [], _ => rfl
  | .nil, _ :: _, h => by cases h
  | .cons a as, [], h => by cases h
  | .cons a as, e :: es, h => by
    have h : (mG tb N a sc cl e && mGs tb N as sc cl es && notStar e) = true := h
    rw [Bool.and_eq_true, Bool.and_eq_true] at h
    rw [List.all_cons, h.2, mGs_len h.1.2]; rfl
/-! ### operators by their sign -/
theorem bin_ok (op : Operator) : OpS X (binaryOp op) (binF op) := by
  cases op
  case Add => exact ops_add
  case Sub => exact ops_sub
  case Mult => exact ops_mul
  case FloorDiv => exact ops_div
  case Mod => exact ops_mod
  case Pow => exact ops_pow
  all_goals exact ⟨fun _ _ _ _ => False, fun _ _ _ _ _ _ _ _ _ _ _ _ h => h.elim, fun Q w d1 d2 e q => by cases e⟩
theorem cmp_ok (hu : X.A.units + 65 < cLine) (op : CmpOp) : OpS X (compareOp op) (cmpF op) := by
  cases op
  case Eq => exact ops_eq (by omega)
  case NotEq => exact ops_ne (by omega)
  case Lt => exact ops_lt
  case LtE => exact ops_le
  case Gt => exact ops_gt
  case GtE => exact ops_ge
  case Is => exact ops_is
  case IsNot => exact ops_isnot
  case In => exact ops_in hu
  case NotIn => exact ops_notin hu
theorem bi_name (b : Bi) : okN b.name = true := by cases b <;> decide +kernel
theorem bi_se (hc : X.calm = true) {b : Bi} {k : Bool} {e0 : Expr} {es : List Expr} {as : Sl → M (List Val)} {p pos : Pos} (hg : Gl X b.name) (hm : X.mg b.name = none) (h : SA X (e0 :: es) as)
    (he : starEach (e0 :: es) X.env = (false, eval e0 X.env) :: starEach es X.env) (hpl : (backTo pos (starEach es X.env)).any (·.1) = false) : SE X (.Call (.Name b.name p) (e0 :: es) [] pos) (mBi b.f k as) := by
  obtain ⟨n1, n2, n3⟩ := okN_ok (bi_name b)
  cases b
  case len => exact se_biB calls_len hg hm (by decide +kernel) h n3 n1 he hpl
  case abs => exact se_biB calls_abs hg hm (by decide +kernel) h n3 n1 he hpl
  case int => exact se_biT calls_int hg hm (by decide +kernel) h n3 n1 he hpl
  case str => exact se_biT calls_str hg hm (by decide +kernel) h n3 n1 he hpl
  case max => exact se_biB (calls_max hc) hg hm (by decide +kernel) h n3 n1 he hpl
  case min => exact se_biB (calls_min hc) hg hm (by decide +kernel) h n3 n1 he hpl
  case sum => exact se_biB (calls_sum hc) hg hm (by decide +kernel) h n3 n1 he hpl
  case all => exact se_biB (calls_all hc) hg hm (by decide +kernel) h n3 n1 he hpl
  case any => exact se_biB (calls_any hc) hg hm (by decide +kernel) h n3 n1 he hpl
  case tuple => exact se_biT calls_tup hg hm (by decide +kernel) h n3 n1 he hpl
  case list => exact se_biT calls_list hg hm (by decide +kernel) h n3 n1 he hpl
  case sorted => exact se_biB (calls_sorted hc) hg hm (by decide +kernel) h n3 n1 he hpl
theorem ty_boot : (isTys.all fun t => decide (bootBuiltins (Str.ofString t) = some (.type t)) && okN (Str.ofString t)) = true := by decide +kernel
end
end Pv

/-! P11: a term that is the text does what the text does -/
namespace Pv
open PySem PySem.Spec PyProof.Rows L2
section
variable {Y : Wx} {N : List Str} {k : Nat} {tb : Tb} {gl : List (Str × Dt)} {c : Nat → List Val → M Val}

theorem kc_se {X : Cx} {x : Kc} {d : Const} {j : Nat} {pos : Pos} (h : x.is d = true) : SE X (.Constant d j pos) (mC x.d) := by
  cases x <;> cases d <;> first | cases h | skip
  · have := of_decide_eq_true h; subst this; exact se_int
  · have := eq_of_beq h; subst this; exact se_str
  · have := eq_of_beq h; subst this; exact se_bl
  · exact se_non
theorem glob_se {X : Cx} {sc : Scope} {cl : Str → Bool} (C : Calls Y k tb gl c) (g : Gd Y N k X sc cl) {j : Nat} {x : Str} {pos : Pos} (h : tb.gs[j]? = some x) (hg : glB sc x = true) (hn : okN x = true) : SE X (.Name x pos) (mGlob gl j) := by
  obtain ⟨d, v, u, h1, h2, h3, h4⟩ := C.gl j x h
  have := se_glob (X := X) (pos := pos) (g.glo hg) (by rw [g.hmg]; exact h2) h3 (fun F => by rw [g.hK]; exact h4 F) (okN_ok hn).1
  have e : mGlob gl j = mC d := by
    funext env mh
    unfold mGlob mC ofO
    rw [h1]
    rfl
  rw [e]; exact this
theorem isin_se {X : Cx} {sc : Scope} {cl : Str → Bool} (C : Calls Y k tb gl c) (g : Gd Y N k X sc cl) {t : String} {x y : Str} {a : Expr} {ma : Sl → M Val} {p p2 pos : Pos} (ha : SE X a ma) (hx : x = "isinstance") (bx : tb.bs.contains x = true) (gx : glB sc x = true) (by' : tb.bs.contains y = true) (gy : glB sc y = true) (hy : y = Str.ofString t) (ht : isTys.contains t = true) (hs : notStar a = true) :
    SE X (.Call (.Name x p) [a, .Name y p2] [] pos) (mIsin t ma) := by
  have ht' := List.contains_iff_mem.mp ht
  have hb := List.all_eq_true.mp ty_boot t ht'
  rw [Bool.and_eq_true] at hb
  obtain ⟨n1, n2, n3⟩ := okN_ok hb.2
  subst hy
  exact se_isin ha ht' hx (g.glo gx) (g.free C bx) (g.glo gy) (g.free C by') (of_decide_eq_true hb.1) n3 n1 (star_cons hs)
theorem meth_se {X : Cx} (hu : X.A.units + 65 < cLine) {m : Mt} {o : Expr} {es : List Expr} {mo : Sl → M Val} {ms : List (Sl → M Val)} {ap cp : Pos} (ho : SE X o mo) (ha : SA X es (mArgs ms)) (hz : es = [] → ms = []) (hs : es.all notStar = true) (hl : es.length < 30) (hb : notCall o = true) (hline : (ap.endLine == cp.line) = true) :
    SE X (.Call (.Attribute o m.name ap) es [] cp) (mMeth m.ty m.f mo (mArgs ms)) := by
  cases es with
  | nil =>
    have := hz rfl
    subst this
    cases m
    case append => exact se_meth0 PySem.F.plainAttrs_list PySem.F.slot_list_append PySem.F.type_list_append mts_append ho (call_base hb) hline
    case extend => exact se_meth0 PySem.F.plainAttrs_list PySem.F.slot_list_extend PySem.F.type_list_extend mts_extend ho (call_base hb) hline
    case get => exact se_meth0 PySem.F.plainAttrs_dict PySem.F.slot_dict_get PySem.F.type_dict_get (mts_get (by omega)) ho (call_base hb) hline
    case starts => exact se_meth0 PySem.F.plainAttrs_str PySem.F.slot_str_startswith PySem.F.type_str_startswith mts_starts ho (call_base hb) hline
    case insert => exact se_meth0 PySem.F.plainAttrs_list PySem.F.slot_list_insert PySem.F.type_list_insert mts_insert ho (call_base hb) hline
    case pop => exact se_meth0 PySem.F.plainAttrs_list PySem.F.slot_list_pop PySem.F.type_list_pop mts_pop ho (call_base hb) hline
    case index => exact se_meth0 PySem.F.plainAttrs_tuple PySem.F.slot_tuple_index PySem.F.type_tuple_index mts_index ho (call_base hb) hline
  | cons e0 es =>
    rw [List.all_cons, Bool.and_eq_true] at hs
    have hfew : ((backTo cp (starEach (e0 :: es) X.env)).all (fun x => !x.1) && (backToKw cp (keywordEach [] X.env)).all (fun x => x.1.isSome)
      && decide ((e0 :: es).length + ([] : List Keyword).length + (if ([] : List Keyword).isEmpty then 0 else 1) < 30)) = true := by
      rw [star_all (by rw [List.all_cons, hs.1, hs.2]; rfl)]
      have : decide ((e0 :: es).length + ([] : List Keyword).length + (if ([] : List Keyword).isEmpty then 0 else 1) < 30) = true := decide_eq_true (by simpa using hl)
      rw [this]
      rfl
    cases m
    case append => exact se_meth PySem.F.plainAttrs_list PySem.F.slot_list_append PySem.F.type_list_append mts_append ho ha (call_base hb) hfew hline (star_cons hs.1) (star_any hs.2)
    case extend => exact se_meth PySem.F.plainAttrs_list PySem.F.slot_list_extend PySem.F.type_list_extend mts_extend ho ha (call_base hb) hfew hline (star_cons hs.1) (star_any hs.2)
    case get => exact se_meth PySem.F.plainAttrs_dict PySem.F.slot_dict_get PySem.F.type_dict_get (mts_get (by omega)) ho ha (call_base hb) hfew hline (star_cons hs.1) (star_any hs.2)
    case starts => exact se_meth PySem.F.plainAttrs_str PySem.F.slot_str_startswith PySem.F.type_str_startswith mts_starts ho ha (call_base hb) hfew hline (star_cons hs.1) (star_any hs.2)
    case insert => exact se_meth PySem.F.plainAttrs_list PySem.F.slot_list_insert PySem.F.type_list_insert mts_insert ho ha (call_base hb) hfew hline (star_cons hs.1) (star_any hs.2)
    case pop => exact se_meth PySem.F.plainAttrs_list PySem.F.slot_list_pop PySem.F.type_list_pop mts_pop ho ha (call_base hb) hfew hline (star_cons hs.1) (star_any hs.2)
    case index => exact se_meth PySem.F.plainAttrs_tuple PySem.F.slot_tuple_index PySem.F.type_tuple_index mts_index ho ha (call_base hb) hfew hline (star_cons hs.1) (star_any hs.2)
theorem bi_se' {X : Cx} {sc : Scope} {cl : Str → Bool} (C : Calls Y k tb gl c) (g : Gd Y N k X sc cl) {b : Bi} {q : Bool} {x : Str} {es : List Expr} {as : Sl → M (List Val)} {p pos : Pos} (hx : x = b.name) (bx : tb.bs.contains x = true) (gx : glB sc x = true) (h : SA X es as) (hs : es.all notStar = true) (hl : 0 < es.length) :
    SE X (.Call (.Name x p) es [] pos) (mBi b.f q as) := by
  subst hx
  cases es with
  | nil => cases hl
  | cons e0 es =>
    rw [List.all_cons, Bool.and_eq_true] at hs
    exact bi_se g.calm (g.glo gx) (g.free C bx) h (star_cons hs.1) (star_any hs.2)
theorem call_se' {X : Cx} {sc : Scope} {cl : Str → Bool} (C : Calls Y k tb gl c) (g : Gd Y N k X sc cl) {f n : Nat} {x : Str} {es : List Expr} {ms : List (Sl → M Val)} {p pos : Pos} (hf : tb.fs[f]? = some (x, n)) (gx : glB sc x = true) (hn : okN x = true) (h : SA X es (mArgs ms)) (hs : es.all notStar = true) (hl : es.length = n) (hl2 : ms.length = n) :
    SE X (.Call (.Name x p) es [] pos) (mCall (c f) (mArgs ms)) := by
  obtain ⟨addr, fd, ps, h1, h2, h3, h4, h5⟩ := C.fn f x n hf
  rw [← g.hP, ← g.hw, ← g.hK, ← g.hmg, ← g.hb] at h2
  rw [← g.hmg] at h3
  rw [← g.hK] at h4 h5
  cases es with
  | nil =>
    have hn0 : n = 0 := hl.symm
    subst hn0
    have hps : ps = [] := List.eq_nil_of_length_eq_zero h1
    subst hps
    have hms : ms = [] := List.eq_nil_of_length_eq_zero hl2
    subst hms
    exact se_call0 h2 g.room (g.glo gx) h3 h4 h5 (okN_ok hn).1
  | cons e0 es =>
    rw [List.all_cons, Bool.and_eq_true] at hs
    rw [← h1] at h2
    exact se_call h2 g.room (g.glo gx) h3 h4 h5 h (hl.trans h1.symm) (okN_ok hn).1 (star_cons hs.1) (star_any hs.2) fun {env mh mh' vs} e => (mArgs_len e).trans (hl2.trans hl.symm)
theorem ifs_ok {X : Cx} {ifs : List Expr} {t : T} {m : Expr → Bool} (ih : ∀ x, m x = true → STs X x (evT gl c t)) (h : ifsB m t.isYes ifs = true) : SPs X ifs (evT gl c t) := by
  match ifs, h with
  | [], h => cases t <;> first | exact sps_nil | cases h
  | [_], h => exact sps_one (ih _ h)
  | _ :: _ :: _, h => cases h
theorem opt_ok {X : Cx} {o : Option Expr} {e : E} {m : Expr → Bool} (ih : ∀ x, m x = true → SE X x (evE gl c e)) (h : optB m e.isAbs o = true) : SO X o (mOpt e.isAbs (evE gl c e)) := by
  match o, h with
  | none, h => rw [show e.isAbs = true from h]; exact so_none
  | some x, h =>
    have h : (!e.isAbs && m x) = true := h
    rw [Bool.and_eq_true, Bool.not_eq_true'] at h
    rw [h.1]; exact so_some (ih x h.2)
section
variable {X : Cx} {sc : Scope} {cl : Str → Bool} {fa fb : Sl → M Val} {a b : Expr → Bool}
theorem k_slot (g : Gd Y N k X sc cl) {i : Nat} : ∀ x, kSlot N sc i x = true → SE X x (mSlot i)
  | .Name x _, h => by
    have h : (decide (N[i]? = some x) && visB sc x && okN x) = true := h
    simp only [Bool.and_eq_true, decide_eq_true_eq] at h
    obtain ⟨n1, n2, n3⟩ := okN_ok h.2
    exact se_slot (g.at h.1.1) (g.vis h.1.2) n1 n2
theorem k_k {q : Kc} : ∀ x, kK q x = true → SE X x (mC q.d)
  | .Constant d _ _, h => kc_se h
theorem k_glob (C : Calls Y k tb gl c) (g : Gd Y N k X sc cl) {j : Nat} : ∀ x, kGlob tb sc j x = true → SE X x (mGlob gl j)
  | .Name x _, h => by
    have h : (decide (tb.gs[j]? = some x) && glB sc x && okN x) = true := h
    simp only [Bool.and_eq_true, decide_eq_true_eq] at h
    exact glob_se C g h.1.1 h.1.2 h.2
theorem k_neg (ih : ∀ x, a x = true → SE X x fa) : ∀ x, kNeg a x = true → SE X x (mUn negVl fa)
  | .UnaryOp .USub e _, h => se_neg (ih e h)
theorem k_nt (ih : ∀ x, a x = true → SE X x fa) : ∀ x, kNt a x = true → SE X x (mUn notVl fa)
  | .UnaryOp .Not e _, h => se_not (ih e h)
theorem k_bin {op : Operator} {q : Bool} (ih : ∀ x, a x = true → SE X x fa) (ih2 : ∀ x, b x = true → SE X x fb) : ∀ x, kBin op a b x = true → SE X x (mBin (binF op) q fa fb)
  | .BinOp ea eop eb _, h => by
    have h : (decide (op = eop) && a ea && b eb) = true := h
    simp only [Bool.and_eq_true, decide_eq_true_eq] at h
    obtain ⟨⟨rfl, h1⟩, h2⟩ := h
    exact se_bin (bin_ok op) (ih ea h1) (ih2 eb h2)
theorem k_cmp (hu : X.A.units + 65 < cLine) {op : CmpOp} (ih : ∀ x, a x = true → SE X x fa) (ih2 : ∀ x, b x = true → SE X x fb) : ∀ x, kCmp op a b x = true → SE X x (mBin (cmpF op) false fa fb)
  | .Compare ea [eop] [eb] _, h => by
    have h : (decide (op = eop) && a ea && b eb && notSet eb) = true := h
    simp only [Bool.and_eq_true, decide_eq_true_eq] at h
    obtain ⟨⟨⟨rfl, h1⟩, h2⟩, h3⟩ := h
    exact se_cmp (cmp_ok hu op) (ih ea h1) (ih2 eb h2) (set_marks h3)
theorem k_cmpT (hu : X.A.units + 65 < cLine) {op : CmpOp} (ih : ∀ x, a x = true → SE X x fa) (ih2 : ∀ x, b x = true → SE X x fb) : ∀ x, kCmp op a b x = true → STs X x (mCmpT (cmpF op) fa fb)
  | .Compare ea [eop] [eb] _, h => by
    have h : (decide (op = eop) && a ea && b eb && notSet eb) = true := h
    simp only [Bool.and_eq_true, decide_eq_true_eq] at h
    obtain ⟨⟨⟨rfl, h1⟩, h2⟩, h3⟩ := h
    exact st_cmp (cmp_ok hu op) (ih ea h1) (ih2 eb h2) (set_marks h3)
theorem k_one (ih : ∀ x, a x = true → SE X x fa) : ∀ x, kOne a x = true → SE X x fa
  | .BoolOp _ [e] _, h => se_one (ih e h)
theorem k_and (ih : ∀ x, a x = true → SE X x fa) (ih2 : ∀ x, b x = true → SE X x fb) : ∀ x, kAnd a b x = true → SE X x (mAnd fa fb)
  | .BoolOp .And (e :: e2 :: es) p, h => by
    have h : (a e && b (.BoolOp .And (e2 :: es) p)) = true := h
    rw [Bool.and_eq_true] at h
    exact se_and (ih e h.1) (ih2 _ h.2)
theorem k_or (ih : ∀ x, a x = true → SE X x fa) (ih2 : ∀ x, b x = true → SE X x fb) : ∀ x, kOr a b x = true → SE X x (mOr fa fb)
  | .BoolOp .Or (e :: e2 :: es) p, h => by
    have h : (a e && b (.BoolOp .Or (e2 :: es) p)) = true := h
    rw [Bool.and_eq_true] at h
    exact se_or (ih e h.1) (ih2 _ h.2)
theorem k_ife {t : Expr → Bool} {ft : Sl → M Bool} (iht : ∀ x, t x = true → STs X x ft) (ih : ∀ x, a x = true → SE X x fa) (ih2 : ∀ x, b x = true → SE X x fb) : ∀ x, kIfe t a b x = true → SE X x (mIte ft fa fb)
  | .IfExp et ea eb _, h => by
    have h : (t et && a ea && b eb) = true := h
    simp only [Bool.and_eq_true] at h
    exact se_ife (iht et h.1.1) (ih ea h.1.2) (ih2 eb h.2)
theorem k_tup {as : List Expr → Bool} {fs : Sl → M (List Val)} (ih : ∀ x, as x = true → SA X x fs) : ∀ x, kTup as x = true → SE X x (mTup fs)
  | .Tuple es _ _, h => se_tup (ih es h)
theorem k_lst {as : List Expr → Bool} {fs : Sl → M (List Val)} {q : Bool} (ih : ∀ x, as x = true → SA X x fs) : ∀ x, kLst as x = true → SE X x (mLst q fs)
  | .List es _, h => se_lst (ih es h)
theorem k_dict0 {q : Bool} : ∀ x, kDict0 x = true → SE X x (mDict0 q)
  | .Dict [] [] _, h => se_dict0
theorem k_ix (hu : X.A.units + 65 < cLine) (ih : ∀ x, a x = true → SE X x fa) (ih2 : ∀ x, b x = true → SE X x fb) : ∀ x, kIx a b x = true → SE X x (mIx fa fb)
  | .Subscript ea eb _, h => by
    have h : (a ea && b eb && notSlice eb) = true := h
    simp only [Bool.and_eq_true] at h
    exact se_ix (by omega) (ih ea h.1.1) (ih2 eb h.1.2) (slice_ix h.2)
theorem k_sl {q : Bool} {lo hi : Option Expr → Bool} {fl fh : Sl → M (Option Int)} (ih : ∀ x, a x = true → SE X x fa) (ihl : ∀ x, lo x = true → SO X x fl) (ihh : ∀ x, hi x = true → SO X x fh) : ∀ x, kSl a lo hi x = true → SE X x (mSl q fa fl fh)
  | .Subscript ea (.Slice elo ehi none _) _, h => by
    have h : (a ea && lo elo && hi ehi) = true := h
    simp only [Bool.and_eq_true] at h
    exact se_sl (ih ea h.1.1) (ihl elo h.1.2) (ihh ehi h.2)
theorem k_call (C : Calls Y k tb gl c) (g : Gd Y N k X sc cl) {f : Nat} {as : As} (ih : ∀ x, mAs tb N as sc cl x = true → SA X x (mArgs (evAs gl c as))) : ∀ x, kCall tb sc f as.len (mAs tb N as sc cl) x = true → SE X x (mCall (c f) (mArgs (evAs gl c as)))
  | .Call (.Name x _) es [] _, h => by
    have h : (decide (tb.fs[f]? = some (x, as.len)) && glB sc x && okN x && mAs tb N as sc cl es) = true := h
    simp only [Bool.and_eq_true, decide_eq_true_eq] at h
    obtain ⟨⟨⟨h1, h2⟩, h3⟩, h4⟩ := h
    obtain ⟨h5, h6⟩ := mAs_len h4
    exact call_se' C g h1 h2 h3 (ih es h4) h6 h5 (evAs_len as)
theorem k_bi (C : Calls Y k tb gl c) (g : Gd Y N k X sc cl) {bb : Bi} {q : Bool} {as : As} (ih : ∀ x, mAs tb N as sc cl x = true → SA X x (mArgs (evAs gl c as))) : ∀ x, kBi tb sc bb as.len (mAs tb N as sc cl) x = true → SE X x (mBi bb.f q (mArgs (evAs gl c as)))
  | .Call (.Name x _) es [] _, h => by
    have h : (decide (x = bb.name) && tb.bs.contains x && glB sc x && mAs tb N as sc cl es && decide (0 < as.len)) = true := h
    simp only [Bool.and_eq_true, decide_eq_true_eq] at h
    obtain ⟨⟨⟨⟨h1, h2⟩, h3⟩, h4⟩, h7⟩ := h
    obtain ⟨h5, h6⟩ := mAs_len h4
    exact bi_se' C g h1 h2 h3 (ih es h4) h6 (by rw [h5]; exact h7)
theorem k_isin (C : Calls Y k tb gl c) (g : Gd Y N k X sc cl) {t : String} (ih : ∀ x, a x = true → SE X x fa) : ∀ x, kIsin tb sc t a x = true → SE X x (mIsin t fa)
  | .Call (.Name x _) [e, .Name y _] [] _, h => by
    have h : (decide (x = "isinstance") && tb.bs.contains x && glB sc x && tb.bs.contains y && glB sc y && decide (y = Str.ofString t) && isTys.contains t && a e && notStar e) = true := h
    simp only [Bool.and_eq_true, decide_eq_true_eq] at h
    obtain ⟨⟨⟨⟨⟨⟨⟨⟨h1, h2⟩, h3⟩, h4⟩, h5⟩, h6⟩, h7⟩, h8⟩, h9⟩ := h
    exact isin_se C g (ih e h8) h1 h2 h3 h4 h5 h6 h7 h9
theorem k_meth (g : Gd Y N k X sc cl) {m : Mt} {as : As} (iho : ∀ x, a x = true → SE X x fa) (ih : ∀ x, mAs tb N as sc cl x = true → SA X x (mArgs (evAs gl c as))) : ∀ x, kMeth m as.len a (mAs tb N as sc cl) x = true → SE X x (mMeth m.ty m.f fa (mArgs (evAs gl c as)))
  | .Call (.Attribute eo name ap) es [] cp, h => by
    have h : (decide (name = m.name) && a eo && mAs tb N as sc cl es && decide (as.len < 30) && notCall eo && (ap.endLine == cp.line)) = true := h
    simp only [Bool.and_eq_true, decide_eq_true_eq] at h
    obtain ⟨⟨⟨⟨⟨rfl, h2⟩, h3⟩, h4⟩, h5⟩, h6⟩ := h
    obtain ⟨h7, h8⟩ := mAs_len h3
    exact meth_se g.un (iho eo h2) (ih es h3) (fun z => by
      have h9 := evAs_len (gl := gl) (c := c) as
      rw [← h7, z] at h9
      exact List.eq_nil_of_length_eq_zero h9) h8 (by rw [h7]; exact h4) h5 h6
/-- what a comprehension's block asks -/
structure LcP (Y : Wx) (N : List Str) (k : Nat) (X : Cx) (sc : Scope) (own : List (Str × Nat)) (scope : Scope) (tg iter : Expr) (ifs : List Expr) (sl : List Nat) (mi : Sl → M Ix) (fg : Val → Sl → M Sl) (ft : Sl → M Bool) : Prop where
  hi : SI X tg iter mi
  bk : BlkOk X.N X.env.scope scope own
  sub : ∀ i ∈ sl, i ∈ own.map (·.2)
  hg : ∀ (s : Shared) (H : Hp) (C : Addr) (cl : List (Str × Addr)) (fp : List Addr), SG (X.blk s H scope (compEnvC scope cl C X.env) fp) tg sl fg
  ht : ∀ (s : Shared) (H : Hp) (C : Addr) (cl : List (Str × Addr)) (fp : List Addr), SPs (X.blk s H scope (compEnvC scope cl C X.env) fp) ifs ft
  hs : ∀ x, foldedSetIterable iter X.env x = pure x
  gd : ∀ (s : Shared) (H : Hp) (C : Addr) (cl : List (Str × Addr)) (fp : List Addr), Gd Y N k (X.blk s H scope (compEnvC scope cl C X.env) fp) (relS scope sc) (clOf scope)
theorem lcP (g : Gd Y N k X sc cl) {own : List (Str × Nat)} {sl : List Nat} {it : Expr → Expr → Bool} {gg : Scope → (Str → Bool) → Expr → Bool} {t : T} {tt : Scope → (Str → Bool) → Expr → Bool} {mi : Sl → M Ix} {fg : Val → Sl → M Sl}
    {scope : Scope} {tg iter : Expr} {ifs : List Expr} (iI : ∀ tg x, it tg x = true → SI X tg x mi) (iG : ∀ sc cl x, gg sc cl x = true → ∀ X, Gd Y N k X sc cl → SG X x sl fg) (iT : ∀ sc cl x, tt sc cl x = true → ∀ X, Gd Y N k X sc cl → STs X x (evT gl c t))
    (h1 : blkC N sc scope own = true) (h2 : sl.all (fun i => (own.map (·.2)).contains i) = true) (h3 : it tg iter = true) (h4 : notSet iter = true) (h5 : gg (relS scope sc) (clOf scope) tg = true) (h6 : ifsB (tt (relS scope sc) (clOf scope)) t.isYes ifs = true) :
    LcP Y N k X sc own scope tg iter ifs sl mi fg (evT gl c t) := by
  have bk := blkOk_by h1
  refine ⟨iI _ _ h3, by rw [g.hN, g.hsc]; exact bk, fun i hi => List.contains_iff_mem.mp (List.all_eq_true.mp h2 i hi), fun s H a b f => iG _ _ _ h5 _ (g.blk bk.kind s H a b f), fun s H a b f => ?_, set_fold h4, fun s H a b f => g.blk bk.kind s H a b f⟩
  exact ifs_ok (fun x hx => iT _ _ x hx _ (g.blk bk.kind s H a b f)) h6
theorem k_lc (g : Gd Y N k X sc cl) {q : Bool} {own : List (Str × Nat)} {sl : List Nat} {it : Expr → Expr → Bool} {gg : Scope → (Str → Bool) → Expr → Bool} {t : T} {tt ee : Scope → (Str → Bool) → Expr → Bool} {mi : Sl → M Ix} {fg : Val → Sl → M Sl} {fe : Sl → M Val}
    (iI : ∀ tg x, it tg x = true → SI X tg x mi) (iG : ∀ sc cl x, gg sc cl x = true → ∀ X, Gd Y N k X sc cl → SG X x sl fg) (iT : ∀ sc cl x, tt sc cl x = true → ∀ X, Gd Y N k X sc cl → STs X x (evT gl c t)) (iE : ∀ sc cl x, ee sc cl x = true → ∀ X, Gd Y N k X sc cl → SE X x fe) :
    ∀ x, kLc N sc own sl it gg t.isYes tt ee x = true → SE X x (mLc q mi (own.map (·.2)) fg (evT gl c t) fe)
  | .ListComp ex [⟨tg, iter, ifs, ia⟩] scope _, h => by
    have h : (decide (ia = 0) && blkC N sc scope own && sl.all (fun i => (own.map (·.2)).contains i) && it tg iter && notSet iter && gg (relS scope sc) (clOf scope) tg && ifsB (tt (relS scope sc) (clOf scope)) t.isYes ifs && ee (relS scope sc) (clOf scope) ex) = true := h
    simp only [Bool.and_eq_true, decide_eq_true_eq] at h
    obtain ⟨⟨⟨⟨⟨⟨⟨rfl, h1⟩, h2⟩, h3⟩, h4⟩, h5⟩, h6⟩, h7⟩ := h
    have P := lcP g iI iG iT h1 h2 h3 h4 h5 h6
    exact se_lc g.calm g.ndX P.hi P.bk P.sub P.hg P.ht (fun s H a b f => iE _ _ _ h7 _ (P.gd s H a b f)) P.hs
theorem k_dc (g : Gd Y N k X sc cl) {q : Bool} {own : List (Str × Nat)} {sl : List Nat} {it : Expr → Expr → Bool} {gg : Scope → (Str → Bool) → Expr → Bool} {t : T} {tt ee ev : Scope → (Str → Bool) → Expr → Bool} {mi : Sl → M Ix} {fg : Val → Sl → M Sl} {fe fv : Sl → M Val}
    (iI : ∀ tg x, it tg x = true → SI X tg x mi) (iG : ∀ sc cl x, gg sc cl x = true → ∀ X, Gd Y N k X sc cl → SG X x sl fg) (iT : ∀ sc cl x, tt sc cl x = true → ∀ X, Gd Y N k X sc cl → STs X x (evT gl c t)) (iE : ∀ sc cl x, ee sc cl x = true → ∀ X, Gd Y N k X sc cl → SE X x fe) (iV : ∀ sc cl x, ev sc cl x = true → ∀ X, Gd Y N k X sc cl → SE X x fv) :
    ∀ x, kDc N sc own sl it gg t.isYes tt ee ev x = true → SE X x (mDc q mi (own.map (·.2)) fg (evT gl c t) fe fv)
  | .DictComp ek ex [⟨tg, iter, ifs, ia⟩] scope _, h => by
    have h : (decide (ia = 0) && blkC N sc scope own && sl.all (fun i => (own.map (·.2)).contains i) && it tg iter && notSet iter && gg (relS scope sc) (clOf scope) tg && ifsB (tt (relS scope sc) (clOf scope)) t.isYes ifs && ee (relS scope sc) (clOf scope) ek && ev (relS scope sc) (clOf scope) ex) = true := h
    simp only [Bool.and_eq_true, decide_eq_true_eq] at h
    obtain ⟨⟨⟨⟨⟨⟨⟨⟨rfl, h1⟩, h2⟩, h3⟩, h4⟩, h5⟩, h6⟩, h7⟩, h8⟩ := h
    have P := lcP g iI iG iT h1 h2 h3 h4 h5 h6
    exact se_dc g.calm g.ndX P.hi P.bk P.sub P.hg P.ht (fun s H a b f => iE _ _ _ h7 _ (P.gd s H a b f)) (fun s H a b f => iV _ _ _ h8 _ (P.gd s H a b f)) P.hs
theorem k_nil : ∀ x, kNil x = true → SA X x (mArgs [])
  | [], h => sa_nil
theorem k_cons {as : List Expr → Bool} {ms : List (Sl → M Val)} (ih : ∀ x, a x = true → SE X x fa) (ih2 : ∀ x, as x = true → SA X x (mArgs ms)) : ∀ x, kCons a as x = true → SA X x (mArgs (fa :: ms))
  | e :: es, h => by
    have h : (a e && as es && notStar e) = true := h
    simp only [Bool.and_eq_true] at h
    exact sa_cons (ih e h.1.1) (ih2 es h.1.2) (star_cons h.2)
theorem k_tru (ih : ∀ x, a x = true → SE X x fa) (x : Expr) (h : kTru a x = true) : STs X x (mTru fa) := by
  unfold kTru at h
  rw [Bool.and_eq_true] at h
  exact st_tru (ih x h.1) (test_plain h.2)
theorem k_ntT {fa : Sl → M Bool} (ih : ∀ x, a x = true → STs X x fa) : ∀ x, kNt a x = true → STs X x (mNotT fa)
  | .UnaryOp .Not e _, h => st_not (ih e h)
theorem k_oneW {fa : Sl → M Bool} (ih : ∀ x, a x = true → STs X x fa) : ∀ x, kOne a x = true → SW X x fa
  | .BoolOp .And [e] _, h => sw_and1 (ih e h)
  | .BoolOp .Or [e] _, h => sw_or1 (ih e h)
theorem k_andW {fa fb : Sl → M Bool} (ih : ∀ x, a x = true → STs X x fa) (ih2 : ∀ x, b x = true → SW X x fb) : ∀ x, kAnd a b x = true → SW X x (mAndT fa fb)
  | .BoolOp .And (e :: e2 :: es) p, h => by
    have h : (a e && b (.BoolOp .And (e2 :: es) p)) = true := h
    rw [Bool.and_eq_true] at h
    exact sw_and (ih e h.1) (ih2 _ h.2)
theorem k_orW {fa fb : Sl → M Bool} (ih : ∀ x, a x = true → STs X x fa) (ih2 : ∀ x, b x = true → SW X x fb) : ∀ x, kOr a b x = true → SW X x (mOrT fa fb)
  | .BoolOp .Or (e :: e2 :: es) p, h => by
    have h : (a e && b (.BoolOp .Or (e2 :: es) p)) = true := h
    rw [Bool.and_eq_true] at h
    exact sw_or (ih e h.1) (ih2 _ h.2)
theorem k_rng1 (C : Calls Y k tb gl c) (g : Gd Y N k X sc cl) {as : As} {tg : Expr} (ih : ∀ x, mAs tb N as sc cl x = true → SA X x (mArgs (evAs gl c as))) : ∀ x, kRng1 tb sc (mAs tb N as sc cl) x = true → SI X tg x (iArgs rng1 (mArgs (evAs gl c as)))
  | .Call (.Name x _) [e] [] _, h => by
    have h : (decide (x = "range") && tb.bs.contains x && glB sc x && mAs tb N as sc cl [e]) = true := h
    simp only [Bool.and_eq_true, decide_eq_true_eq] at h
    obtain ⟨⟨⟨rfl, h1⟩, h2⟩, h3⟩ := h
    have hs := (mAs_len h3).2
    exact si_range1 (g.glo h2) (g.free C h1) (ih [e] h3) (star_cons (by rw [List.all_cons, Bool.and_eq_true] at hs; exact hs.1))
theorem k_rng2 (C : Calls Y k tb gl c) (g : Gd Y N k X sc cl) {as : As} {tg : Expr} (ih : ∀ x, mAs tb N as sc cl x = true → SA X x (mArgs (evAs gl c as))) : ∀ x, kRng2 tb sc (mAs tb N as sc cl) x = true → SI X tg x (iArgs rng2 (mArgs (evAs gl c as)))
  | .Call (.Name x _) [e, e2] [] _, h => by
    have h : (decide (x = "range") && tb.bs.contains x && glB sc x && mAs tb N as sc cl [e, e2]) = true := h
    simp only [Bool.and_eq_true, decide_eq_true_eq] at h
    obtain ⟨⟨⟨rfl, h1⟩, h2⟩, h3⟩ := h
    have hs := (mAs_len h3).2
    rw [List.all_cons, List.all_cons, Bool.and_eq_true, Bool.and_eq_true] at hs
    exact si_range2 (g.glo h2) (g.free C h1) (ih [e, e2] h3) (by rw [star_cons hs.1, star_cons hs.2.1]; rfl) (star_cons hs.2.1)
theorem k_rev (C : Calls Y k tb gl c) (g : Gd Y N k X sc cl) {q : Bool} (ih : ∀ x, a x = true → SE X x fa) : ∀ x, kRev tb sc a x = true → SE X x (mRev q fa)
  | .Call (.Name x _) [.Call (.Name y _) [e] [] _] [] _, h => by
    have h : (decide (x = "list") && tb.bs.contains x && glB sc x && decide (y = "reversed") && tb.bs.contains y && glB sc y && a e && notStar e) = true := h
    simp only [Bool.and_eq_true, decide_eq_true_eq] at h
    obtain ⟨⟨⟨⟨⟨⟨⟨rfl, h1⟩, h2⟩, rfl⟩, h3⟩, h4⟩, h5⟩, h6⟩ := h
    exact se_rev g.calm (g.glo h2) (g.free C h1) (g.glo h4) (g.free C h3) (ih e h5) (star_cons h6) (star_cons rfl)
theorem k_enumT (C : Calls Y k tb gl c) (g : Gd Y N k X sc cl) {as : As} (ih : ∀ x, mAs tb N as sc cl x = true → SA X x (mArgs (evAs gl c as))) : ∀ tg x, kEnumT tb sc (mAs tb N as sc cl) tg x = true → SI X tg x (iArgs enumV (mArgs (evAs gl c as)))
  | tg, .Call (.Name x _) [e] [] _, h => by
    have h : (decide (x = "enumerate") && tb.bs.contains x && glB sc x && mAs tb N as sc cl [e] && isTup tg) = true := h
    simp only [Bool.and_eq_true, decide_eq_true_eq] at h
    obtain ⟨⟨⟨⟨rfl, h1⟩, h2⟩, h3⟩, h4⟩ := h
    have hs := (mAs_len h3).2
    rw [List.all_cons, Bool.and_eq_true] at hs
    cases tg with
    | Tuple elts kk tpos => exact si_enumT (g.glo h2) (g.free C h1) (ih [e] h3) (star_cons hs.1)
    | _ => cases h4
theorem k_zip (C : Calls Y k tb gl c) (g : Gd Y N k X sc cl) {as : As} (ih : ∀ x, mAs tb N as sc cl x = true → SA X x (mArgs (evAs gl c as))) : ∀ tg x, kZip tb sc (mAs tb N as sc cl) tg x = true → SI X tg x (iArgsH zip2 (mArgs (evAs gl c as)))
  | tg, .Call (.Name x _) [e, e2] [] _, h => by
    have h : (decide (x = "zip") && tb.bs.contains x && glB sc x && mAs tb N as sc cl [e, e2] && isTup tg) = true := h
    simp only [Bool.and_eq_true, decide_eq_true_eq] at h
    obtain ⟨⟨⟨⟨rfl, h1⟩, h2⟩, h3⟩, h4⟩ := h
    have hs := (mAs_len h3).2
    rw [List.all_cons, Bool.and_eq_true] at hs
    cases tg with
    | Tuple elts kk tpos => exact si_zip (g.glo h2) (g.free C h1) (ih [e, e2] h3) (star_cons hs.1) (star_any hs.2)
    | _ => cases h4
theorem k_zip3 (C : Calls Y k tb gl c) (g : Gd Y N k X sc cl) {as : As} (ih : ∀ x, mAs tb N as sc cl x = true → SA X x (mArgs (evAs gl c as))) : ∀ tg x, kZip3 tb sc (mAs tb N as sc cl) tg x = true → SI X tg x (iArgs zip3 (mArgs (evAs gl c as)))
  | tg, .Call (.Name x _) [e, e2, e3] [] _, h => by
    have h : (decide (x = "zip") && tb.bs.contains x && glB sc x && mAs tb N as sc cl [e, e2, e3] && isTup tg) = true := h
    simp only [Bool.and_eq_true, decide_eq_true_eq] at h
    obtain ⟨⟨⟨⟨rfl, h1⟩, h2⟩, h3⟩, h4⟩ := h
    have hs := (mAs_len h3).2
    rw [List.all_cons, Bool.and_eq_true] at hs
    cases tg with
    | Tuple elts kk tpos => exact si_zip3 (g.glo h2) (g.free C h1) (ih [e, e2, e3] h3) (star_cons hs.1) (star_any hs.2)
    | _ => cases h4
theorem k_nm (g : Gd Y N k X sc cl) {i : Nat} : ∀ x, kNm N sc cl i x = true → SG X x [i] (gNm i)
  | .Name x _, h => by
    have h : (decide (N[i]? = some x) && locB sc cl x) = true := h
    simp only [Bool.and_eq_true, decide_eq_true_eq] at h
    obtain ⟨h1, h2⟩ := g.loc h.2
    exact sg_name g.ndX (g.at h.1) h1 h2
theorem k_tp (g : Gd Y N k X sc cl) {n : Nat} {gs : Gs} {sl : List Nat} {ms : List Dt → Sl → M Sl} (ih : ∀ x, mGs tb N gs sc cl x = true → SGs X x sl ms) : ∀ x, kTp n (mGs tb N gs sc cl) x = true → SG X x sl (gTp n ms)
  | .Tuple es _ _, h => by
    have h : (mGs tb N gs sc cl es && decide (es.length = n)) = true := h
    simp only [Bool.and_eq_true, decide_eq_true_eq] at h
    have hs := mGs_len h.1
    exact sg_tup g.calm (ih es h.1) (by rw [asg_len hs]; exact h.2) (asg_find hs)
theorem k_sb (hu : X.A.units + 65 < cLine) (ih : ∀ x, a x = true → SE X x fa) (ih2 : ∀ x, b x = true → SE X x fb) : ∀ x, kSb a b x = true → SG X x [] (gSb fa fb)
  | .Subscript eo ei _, h => by
    have h : (a eo && b ei && notSlice ei) = true := h
    simp only [Bool.and_eq_true] at h
    refine sg_sub (by omega) (ih eo h.1.1) (ih2 ei h.1.2) fun v => ?_
    have h3 := h.2
    cases ei <;> first | rfl | cases h3
theorem k_gnil : ∀ x, kNil x = true → SGs X x [] gNil
  | [], h => sgs_nil
theorem k_gcons {as : List Expr → Bool} {s1 s2 : List Nat} {m : Val → Sl → M Sl} {ms : List Dt → Sl → M Sl} (ih : ∀ x, a x = true → SG X x s1 m) (ih2 : ∀ x, as x = true → SGs X x s2 ms) : ∀ x, kCons a as x = true → SGs X x (s1 ++ s2) (gCons m ms)
  | e :: es, h => by
    have h : (a e && as es && notStar e) = true := h
    simp only [Bool.and_eq_true] at h
    exact sgs_cons (ih e h.1.1) (ih2 es h.1.2) (asg_cons h.2)
end

mutual
theorem sndE (C : Calls Y k tb gl c) : ∀ (e : E) (sc : Scope) (cl : Str → Bool) (x : Expr), mE tb N e sc cl x = true → ∀ X, Gd Y N k X sc cl → SE X x (evE gl c e)
  | .slot i, sc, cl, x, h, X, g => k_slot g x h
  | .k q, sc, cl, x, h, X, g => k_k x h
  | .glob j, sc, cl, x, h, X, g => k_glob C g x h
  | .absent, sc, cl, x, h, X, g => nomatch h
  | .neg a, sc, cl, x, h, X, g => k_neg (fun x hx => sndE C a sc cl x hx X g) x h
  | .nt a, sc, cl, x, h, X, g => k_nt (fun x hx => sndE C a sc cl x hx X g) x h
  | .bin op q a b, sc, cl, x, h, X, g => k_bin (fun x hx => sndE C a sc cl x hx X g) (fun x hx => sndE C b sc cl x hx X g) x h
  | .cmp op a b, sc, cl, x, h, X, g => k_cmp g.un (fun x hx => sndE C a sc cl x hx X g) (fun x hx => sndE C b sc cl x hx X g) x h
  | .one a, sc, cl, x, h, X, g => k_one (fun x hx => sndE C a sc cl x hx X g) x h
  | .and2 a b, sc, cl, x, h, X, g => k_and (fun x hx => sndE C a sc cl x hx X g) (fun x hx => sndE C b sc cl x hx X g) x h
  | .or2 a b, sc, cl, x, h, X, g => k_or (fun x hx => sndE C a sc cl x hx X g) (fun x hx => sndE C b sc cl x hx X g) x h
  | .ife t a b, sc, cl, x, h, X, g => k_ife (fun x hx => sndT C t sc cl x hx X g) (fun x hx => sndE C a sc cl x hx X g) (fun x hx => sndE C b sc cl x hx X g) x h
  | .tup as, sc, cl, x, h, X, g => k_tup (fun x hx => sndAs C as sc cl x hx X g) x h
  | .lst q as, sc, cl, x, h, X, g => k_lst (fun x hx => sndAs C as sc cl x hx X g) x h
  | .dict0 q, sc, cl, x, h, X, g => k_dict0 x h
  | .ix a b, sc, cl, x, h, X, g => k_ix g.un (fun x hx => sndE C a sc cl x hx X g) (fun x hx => sndE C b sc cl x hx X g) x h
  | .sl q a lo hi, sc, cl, x, h, X, g => k_sl (fun x hx => sndE C a sc cl x hx X g) (fun _ ho => opt_ok (fun x hx => sndE C lo sc cl x hx X g) ho) (fun _ ho => opt_ok (fun x hx => sndE C hi sc cl x hx X g) ho) x h
  | .call f as, sc, cl, x, h, X, g => k_call C g (fun x hx => sndAs C as sc cl x hx X g) x h
  | .bi b q as, sc, cl, x, h, X, g => k_bi C g (fun x hx => sndAs C as sc cl x hx X g) x h
  | .isin t a, sc, cl, x, h, X, g => k_isin C g (fun x hx => sndE C a sc cl x hx X g) x h
  | .rev _ a, sc, cl, x, h, X, g => k_rev C g (fun x hx => sndE C a sc cl x hx X g) x h
  | .meth m o as, sc, cl, x, h, X, g => k_meth g (fun x hx => sndE C o sc cl x hx X g) (fun x hx => sndAs C as sc cl x hx X g) x h
  | .lc q own tg it t el, sc, cl, x, h, X, g => k_lc g (fun tg x hx => sndI C it sc cl tg x hx X g) (fun sc cl x hx X g => sndG C tg sc cl x hx X g) (fun sc cl x hx X g => sndT C t sc cl x hx X g) (fun sc cl x hx X g => sndE C el sc cl x hx X g) x h
  | .dc q own tg it t kx vx, sc, cl, x, h, X, g => k_dc g (fun tg x hx => sndI C it sc cl tg x hx X g) (fun sc cl x hx X g => sndG C tg sc cl x hx X g) (fun sc cl x hx X g => sndT C t sc cl x hx X g) (fun sc cl x hx X g => sndE C kx sc cl x hx X g) (fun sc cl x hx X g => sndE C vx sc cl x hx X g) x h
termination_by structural e => e
theorem sndAs (C : Calls Y k tb gl c) : ∀ (as : As) (sc : Scope) (cl : Str → Bool) (es : List Expr), mAs tb N as sc cl es = true → ∀ X, Gd Y N k X sc cl → SA X es (mArgs (evAs gl c as))
  | .nil, sc, cl, x, h, X, g => k_nil x h
  | .cons a as, sc, cl, x, h, X, g => k_cons (fun x hx => sndE C a sc cl x hx X g) (fun x hx => sndAs C as sc cl x hx X g) x h
termination_by structural e => e
theorem sndT (C : Calls Y k tb gl c) : ∀ (t : T) (sc : Scope) (cl : Str → Bool) (x : Expr), mT tb N t sc cl x = true → ∀ X, Gd Y N k X sc cl → STs X x (evT gl c t)
  | .yes, sc, cl, x, h, X, g => nomatch h
  | .cmp op a b, sc, cl, x, h, X, g => k_cmpT g.un (fun x hx => sndE C a sc cl x hx X g) (fun x hx => sndE C b sc cl x hx X g) x h
  | .tru a, sc, cl, x, h, X, g => k_tru (fun x hx => sndE C a sc cl x hx X g) x h
  | .nt t, sc, cl, x, h, X, g => k_ntT (fun x hx => sndT C t sc cl x hx X g) x h
  | .one a, sc, cl, x, h, X, g => (k_oneW (fun x hx => sndT C a sc cl x hx X g) x h).st
  | .and2 a b, sc, cl, x, h, X, g => (k_andW (fun x hx => sndT C a sc cl x hx X g) (fun x hx => sndW C b sc cl x hx X g) x h).st
  | .or2 a b, sc, cl, x, h, X, g => (k_orW (fun x hx => sndT C a sc cl x hx X g) (fun x hx => sndW C b sc cl x hx X g) x h).st
termination_by structural e => e
theorem sndW (C : Calls Y k tb gl c) : ∀ (t : T) (sc : Scope) (cl : Str → Bool) (x : Expr), mW tb N t sc cl x = true → ∀ X, Gd Y N k X sc cl → SW X x (evT gl c t)
  | .one a, sc, cl, x, h, X, g => k_oneW (fun x hx => sndT C a sc cl x hx X g) x h
  | .and2 a b, sc, cl, x, h, X, g => k_andW (fun x hx => sndT C a sc cl x hx X g) (fun x hx => sndW C b sc cl x hx X g) x h
  | .or2 a b, sc, cl, x, h, X, g => k_orW (fun x hx => sndT C a sc cl x hx X g) (fun x hx => sndW C b sc cl x hx X g) x h
  | .yes, sc, cl, x, h, X, g => nomatch h
  | .cmp _ _ _, sc, cl, x, h, X, g => nomatch h
  | .tru _, sc, cl, x, h, X, g => nomatch h
  | .nt _, sc, cl, x, h, X, g => nomatch h
termination_by structural e => e
theorem sndI (C : Calls Y k tb gl c) : ∀ (i : I) (sc : Scope) (cl : Str → Bool) (tg x : Expr), mI tb N i sc cl tg x = true → ∀ X, Gd Y N k X sc cl → SI X tg x (evI gl c i)
  | .val a, sc, cl, tg, x, h, X, g => si_val (sndE C a sc cl x h X g)
  | .range1 as, sc, cl, tg, x, h, X, g => k_rng1 C g (fun x hx => sndAs C as sc cl x hx X g) x h
  | .range2 as, sc, cl, tg, x, h, X, g => k_rng2 C g (fun x hx => sndAs C as sc cl x hx X g) x h
  | .zip as, sc, cl, tg, x, h, X, g => k_zip C g (fun x hx => sndAs C as sc cl x hx X g) tg x h
  | .zip3 as, sc, cl, tg, x, h, X, g => k_zip3 C g (fun x hx => sndAs C as sc cl x hx X g) tg x h
  | .enumT as, sc, cl, tg, x, h, X, g => k_enumT C g (fun x hx => sndAs C as sc cl x hx X g) tg x h
termination_by structural e => e
theorem sndG (C : Calls Y k tb gl c) : ∀ (t : G) (sc : Scope) (cl : Str → Bool) (x : Expr), mG tb N t sc cl x = true → ∀ X, Gd Y N k X sc cl → SG X x (gSl t) (evG gl c t)
  | .nm i, sc, cl, x, h, X, g => k_nm g x h
  | .tp n gs, sc, cl, x, h, X, g => k_tp g (fun x hx => sndGs C gs sc cl x hx X g) x h
  | .sb o i, sc, cl, x, h, X, g => k_sb g.un (fun x hx => sndE C o sc cl x hx X g) (fun x hx => sndE C i sc cl x hx X g) x h
termination_by structural e => e
theorem sndGs (C : Calls Y k tb gl c) : ∀ (t : Gs) (sc : Scope) (cl : Str → Bool) (es : List Expr), mGs tb N t sc cl es = true → ∀ X, Gd Y N k X sc cl → SGs X es (gsSl t) (evGs gl c t)
  | .nil, sc, cl, x, h, X, g => k_gnil x h
  | .cons t ts, sc, cl, x, h, X, g => k_gcons (fun x hx => sndG C t sc cl x hx X g) (fun x hx => sndGs C ts sc cl x hx X g) x h
termination_by structural e => e
end
end
end Pv

/-! P12: statements, defs, programs -/
namespace Pv
open PySem PySem.Spec PyProof.Rows L2
section
variable {Y : Wx} {N : List Str} {k : Nat} {tb : Tb} {gl : List (Str × Dt)} {c : Nat → List Val → M Val}
theorem swaps_cell {X : Cx} {e : Expr} {x : Str} {p : Pos} {l : Nat} (h : X.env.scope.names.lookup x = some .cell) : swapsWith e (some (.Name x p)) l X.env = pure false := by
  have hk : (X.env.kindOf x == some NameKind.local) = false := by
    show (X.env.scope.names.lookup x == some NameKind.local) = false
    rw [h]; rfl
  unfold swapsWith
  cases e <;> first | rfl | simp only [hk, Bool.and_false, Bool.false_and]
theorem swaps_on {X : Cx} {e : Expr} {scope : Scope} {x : Str} {p : Pos} {l : Nat} (he : (∃ a b c, e = .ListComp a b scope c) ∨ ∃ a d b c, e = .DictComp a d b scope c) (hk : X.env.scope.kind = .function) (h : X.env.scope.names.lookup x = some .local) (hl : (p.line == e.pos.line) = true)
    (ha : (scope.names.any fun (n, k) => n == x && (k == .local || k == .cell)) = false) : swapsWith e (some (.Name x p)) l X.env = pure true := by
  have hk2 : (X.env.kindOf x == some NameKind.local) = true := by
    show (X.env.scope.names.lookup x == some NameKind.local) = true
    rw [h]; rfl
  have hb : (X.env.blockKind == ScopeKind.function) = true := by
    unfold Env.blockKind
    rw [hk]; rfl
  unfold swapsWith
  rcases he with ⟨a, b, d, rfl⟩ | ⟨a, d', b, d, rfl⟩ <;> (simp only [hk2, hb, hl, ha, Bool.not_false, Bool.and_true, Bool.and_self]; done)
theorem aug_ok {X : Cx} {op : Operator} (h : op = .Add ∨ op = .Sub) : PIp X op (ipI (augF op)) := by
  rcases h with rfl | rfl
  · exact ip_add
  · exact ip_sub
theorem swpB_on {X : Cx} {sc : Scope} {cl : Str → Bool} (g : Gd Y N k X sc cl) {y : Str} {py : Pos} {l : Nat} {e : Expr} (h2 : sc.names.lookup y = some .local) (h : swpB y py (compS e) = true) : swapsWith e (some (.Name y py)) l X.env = pure true := by
  have h2 : X.env.scope.names.lookup y = some .local := by rw [g.hsc]; exact h2
  have hk : X.env.scope.kind = .function := by rw [g.hsc]; exact g.kind
  cases e with
  | ListComp a b s p =>
    have h : ((py.line == p.line) && !(s.names.any fun (n, k) => n == y && (k == .local || k == .cell))) = true := h
    rw [Bool.and_eq_true] at h
    exact swaps_on (.inl ⟨_, _, _, rfl⟩) hk h2 h.1 ((Bool.not_eq_true' _).mp h.2)
  | DictComp a d b s p =>
    have h : ((py.line == p.line) && !(s.names.any fun (n, k) => n == y && (k == .local || k == .cell))) = true := h
    rw [Bool.and_eq_true] at h
    exact swaps_on (.inr ⟨_, _, _, _, rfl⟩) hk h2 h.1 ((Bool.not_eq_true' _).mp h.2)
  | _ => cases h
section
variable {X : Cx} {sc : Scope} {cl : Str → Bool} {fa : Sl → M Val} {a b : Expr → Bool}
theorem k_asg {t : Expr → Bool} {sl : List Nat} {fg : Val → Sl → M Sl} (ihg : ∀ x, t x = true → SG X x sl fg) (ih : ∀ x, a x = true → SE X x fa) : ∀ x, kAsg t a x = true → SS X x (mAsg fa fg) := by
  intro x h
  cases x with
  | Assign ts e pp =>
    cases ts with
    | cons tg ts =>
      cases ts with
      | nil =>
        have h : (t tg && a e && notComp e && (notTL tg || notTup e) && notStar tg) = true := h
        simp only [Bool.and_eq_true, Bool.or_eq_true] at h
        obtain ⟨⟨⟨⟨h1, h2⟩, h3⟩, h4⟩, h5⟩ := h
        exact ss_asg (ih e h2) (ihg tg h1) (comp_swaps h3) (tup_swap h4) (by rw [asg_cons h5]; rfl)
      | _ => cases h
    | _ => cases h
  | _ => cases h
theorem k_set (g : Gd Y N k X sc cl) {i : Nat} (ih : ∀ x, a x = true → SE X x fa) : ∀ x, kSet N sc cl i a x = true → SS X x (mAsg fa (gNm i)) := by
  intro x h
  cases x with
  | Assign ts e pp =>
    cases ts with
    | cons tg ts =>
      cases ts with
      | nil =>
        cases tg with
        | Name x p0 =>
          have h : (decide (N[i]? = some x) && locB sc cl x && a e && (notComp e || decide (sc.names.lookup x = some .cell))) = true := h
          simp only [Bool.and_eq_true, Bool.or_eq_true, decide_eq_true_eq] at h
          obtain ⟨⟨⟨h1, h2⟩, h3⟩, h4⟩ := h
          obtain ⟨l1, l2⟩ := g.loc h2
          refine ss_set g.ndX (g.at h1) l1 (ih e h3) ?_ l2
          rcases h4 with h4 | h4
          · exact comp_swaps h4
          · exact swaps_cell (by rw [g.hsc]; exact h4)
        | _ => cases h
      | _ => cases tg <;> cases h
    | _ => cases h
  | _ => cases h
theorem k_swpL (g : Gd Y N k X sc cl) {i : Nat} {q : Bool} {own : List (Str × Nat)} {sl : List Nat} {it : Expr → Expr → Bool} {gg : Scope → (Str → Bool) → Expr → Bool} {t : T} {tt ee : Scope → (Str → Bool) → Expr → Bool} {mi : Sl → M Ix} {fg : Val → Sl → M Sl} {fe : Sl → M Val}
    (iI : ∀ tg x, it tg x = true → SI X tg x mi) (iG : ∀ sc cl x, gg sc cl x = true → ∀ X, Gd Y N k X sc cl → SG X x sl fg) (iT : ∀ sc cl x, tt sc cl x = true → ∀ X, Gd Y N k X sc cl → STs X x (evT gl c t)) (iE : ∀ sc cl x, ee sc cl x = true → ∀ X, Gd Y N k X sc cl → SE X x fe) :
    ∀ x, kSwp N sc i (kLc N sc own sl it gg t.isYes tt ee) x = true → SS X x (mAsg (mLc q mi (own.map (·.2)) fg (evT gl c t) fe) (gNm i)) := by
  intro x h
  cases x with
  | Assign ts e sp =>
    cases ts with
    | cons tg ts =>
      cases ts with
      | nil =>
        cases tg with
        | Name y py =>
          have h : (decide (N[i]? = some y) && decide (sc.names.lookup y = some .local) && kLc N sc own sl it gg t.isYes tt ee e && swpB y py (compS e)) = true := h
          simp only [Bool.and_eq_true, decide_eq_true_eq] at h
          obtain ⟨⟨⟨h1, h2⟩, h3⟩, h4⟩ := h
          have hsw := swpB_on (l := sp.line) g h2 h4
          match e, h3, hsw with
          | .ListComp ex [⟨tg, iter, ifs, ia⟩] scope _, h, hsw =>
            have h : (decide (ia = 0) && blkC N sc scope own && sl.all (fun i => (own.map (·.2)).contains i) && it tg iter && notSet iter && gg (relS scope sc) (clOf scope) tg && ifsB (tt (relS scope sc) (clOf scope)) t.isYes ifs && ee (relS scope sc) (clOf scope) ex) = true := h
            simp only [Bool.and_eq_true, decide_eq_true_eq] at h
            obtain ⟨⟨⟨⟨⟨⟨⟨rfl, e1⟩, e2⟩, e3⟩, e4⟩, e5⟩, e6⟩, e7⟩ := h
            have P := lcP g iI iG iT e1 e2 e3 e4 e5 e6
            exact ss_setLc g.calm g.ndX (g.at h1) (by rw [g.hsc]; exact h2) hsw P.hi P.bk P.sub P.hg P.ht (fun s H a b f => iE _ _ _ e7 _ (P.gd s H a b f)) P.hs
        | _ => cases h
      | _ => cases tg <;> cases h
    | _ => cases h
  | _ => cases h
theorem k_swpD (g : Gd Y N k X sc cl) {i : Nat} {q : Bool} {own : List (Str × Nat)} {sl : List Nat} {it : Expr → Expr → Bool} {gg : Scope → (Str → Bool) → Expr → Bool} {t : T} {tt ee ev : Scope → (Str → Bool) → Expr → Bool} {mi : Sl → M Ix} {fg : Val → Sl → M Sl} {fe fv : Sl → M Val}
    (iI : ∀ tg x, it tg x = true → SI X tg x mi) (iG : ∀ sc cl x, gg sc cl x = true → ∀ X, Gd Y N k X sc cl → SG X x sl fg) (iT : ∀ sc cl x, tt sc cl x = true → ∀ X, Gd Y N k X sc cl → STs X x (evT gl c t)) (iE : ∀ sc cl x, ee sc cl x = true → ∀ X, Gd Y N k X sc cl → SE X x fe) (iV : ∀ sc cl x, ev sc cl x = true → ∀ X, Gd Y N k X sc cl → SE X x fv) :
    ∀ x, kSwp N sc i (kDc N sc own sl it gg t.isYes tt ee ev) x = true → SS X x (mAsg (mDc q mi (own.map (·.2)) fg (evT gl c t) fe fv) (gNm i)) := by
  intro x h
  cases x with
  | Assign ts e sp =>
    cases ts with
    | cons tg ts =>
      cases ts with
      | nil =>
        cases tg with
        | Name y py =>
          have h : (decide (N[i]? = some y) && decide (sc.names.lookup y = some .local) && kDc N sc own sl it gg t.isYes tt ee ev e && swpB y py (compS e)) = true := h
          simp only [Bool.and_eq_true, decide_eq_true_eq] at h
          obtain ⟨⟨⟨h1, h2⟩, h3⟩, h4⟩ := h
          have hsw := swpB_on (l := sp.line) g h2 h4
          match e, h3, hsw with
          | .DictComp ek ex [⟨tg, iter, ifs, ia⟩] scope _, h, hsw =>
            have h : (decide (ia = 0) && blkC N sc scope own && sl.all (fun i => (own.map (·.2)).contains i) && it tg iter && notSet iter && gg (relS scope sc) (clOf scope) tg && ifsB (tt (relS scope sc) (clOf scope)) t.isYes ifs && ee (relS scope sc) (clOf scope) ek && ev (relS scope sc) (clOf scope) ex) = true := h
            simp only [Bool.and_eq_true, decide_eq_true_eq] at h
            obtain ⟨⟨⟨⟨⟨⟨⟨⟨rfl, e1⟩, e2⟩, e3⟩, e4⟩, e5⟩, e6⟩, e7⟩, e8⟩ := h
            have P := lcP g iI iG iT e1 e2 e3 e4 e5 e6
            exact ss_setDc g.calm g.ndX (g.at h1) (by rw [g.hsc]; exact h2) hsw P.hi P.bk P.sub P.hg P.ht (fun s H a b f => iE _ _ _ e7 _ (P.gd s H a b f)) (fun s H a b f => iV _ _ _ e8 _ (P.gd s H a b f)) P.hs
        | _ => cases h
      | _ => cases tg <;> cases h
    | _ => cases h
  | _ => cases h
theorem kSwp_no {i : Nat} (ha : ∀ e, compS e ≠ none → a e = false) : ∀ x, kSwp N sc i a x = true → False := by
  intro x h
  cases x with
  | Assign ts e sp =>
    cases ts with
    | cons tg ts =>
      cases ts with
      | nil =>
        cases tg with
        | Name y py =>
          have h : (decide (N[i]? = some y) && decide (sc.names.lookup y = some .local) && a e && swpB y py (compS e)) = true := h
          simp only [Bool.and_eq_true] at h
          cases q : compS e with
          | none => rw [q] at h; cases h.2
          | some r =>
            have := ha e (by rw [q]; exact fun z => nomatch z)
            rw [this] at h
            cases h.1.2
        | _ => cases h
      | _ => cases tg <;> cases h
    | _ => cases h
  | _ => cases h
theorem k_aug (g : Gd Y N k X sc cl) {i : Nat} {op : Operator} (ih : ∀ x, a x = true → SE X x fa) : ∀ x, kAug N sc cl i op a x = true → SS X x (mAug i (augF op) fa) := by
  intro x h
  cases x with
  | AugAssign tg eop e p0 =>
    cases tg with
    | Name x p1 =>
      have h : (decide (op = eop) && (decide (op = .Add) || decide (op = .Sub)) && decide (N[i]? = some x) && locB sc cl x && a e) = true := h
      simp only [Bool.and_eq_true, Bool.or_eq_true, decide_eq_true_eq] at h
      obtain ⟨⟨⟨⟨rfl, h2⟩, h3⟩, h4⟩, h5⟩ := h
      obtain ⟨l1, l2⟩ := g.loc h4
      exact ss_aug g.ndX (g.at h3) l1 (ih e h5) (aug_ok h2) l2
    | _ => cases h
  | _ => cases h
theorem k_expr (ih : ∀ x, a x = true → SE X x fa) : ∀ x, kExpr a x = true → SS X x (mExpr fa) := by
  intro x h
  cases x with
  | Expr e p0 =>
    have h : (a e && notComp e) = true := h
    rw [Bool.and_eq_true] at h
    exact ss_expr (ih e h.1) (comp_swaps h.2)
  | _ => cases h
theorem k_doc : ∀ x, kDoc x = true → SS X x mPass := by
  intro x h
  cases x with
  | Expr e p0 =>
    cases e with
    | Constant d j p1 =>
      cases d with
      | str d =>
        exact SS.mk ps_doc fun D rl e q => by cases e; exact q _ _ _ _ rl .refl
      | _ => cases h
    | _ => cases h
  | _ => cases h
theorem k_ret (ih : ∀ x, a x = true → SE X x fa) : ∀ x, kRet a x = true → SS X x (mRet fa) := by
  intro x h
  cases x with
  | Return o p0 =>
    cases o with
    | some e =>
      exact ss_ret (ih e h)
    | _ => cases h
  | _ => cases h
theorem k_retN : ∀ x, kRetN x = true → SS X x (mRet (mC .none)) := by
  intro x h
  cases x with
  | Return o p0 =>
    cases o with
    | none =>
      exact ss_retN
    | _ => cases h
  | _ => cases h
theorem k_if {t : Expr → Bool} {p q : List Stmt → Bool} {ft : Sl → M Bool} {fp fq : Sl → M Fl} (iht : ∀ x, t x = true → STs X x ft) (ihp : ∀ x, p x = true → SSs X x fp) (ihq : ∀ x, q x = true → SSs X x fq) : ∀ x, kIf t p q x = true → SS X x (mIf ft fp fq) := by
  intro x h
  cases x with
  | If et ea eb p0 =>
    have h : (t et && p ea && q eb) = true := h
    rw [Bool.and_eq_true, Bool.and_eq_true] at h
    exact ss_if (iht et h.1.1) (ihp ea h.1.2) (ihq eb h.2)
  | _ => cases h
theorem k_for (g : Gd Y N k X sc cl) {t : Expr → Bool} {it : Expr → Expr → Bool} {p : List Stmt → Bool} {sl : List Nat} {mi : Sl → M Ix} {fg : Val → Sl → M Sl} {fp : Sl → M Fl} (ihg : ∀ x, t x = true → SG X x sl fg) (ihi : ∀ tg x, it tg x = true → SI X tg x mi) (ihp : ∀ x, p x = true → SSs X x fp) : ∀ x, kFor t it p x = true → SS X x (mFor mi fg fp) := by
  intro x h
  cases x with
  | For tg iter body els p0 =>
    cases els with
    | nil =>
      have h : (t tg && it tg iter && p body && notSet iter) = true := h
      rw [Bool.and_eq_true, Bool.and_eq_true, Bool.and_eq_true] at h
      exact ss_for g.xe g.calm (ihi tg iter h.1.1.2) (ihg tg h.1.1.1) (ihp body h.1.2) (set_fold h.2)
    | _ => cases h
  | _ => cases h
theorem k_while (g : Gd Y N k X sc cl) {n : Nat} {t : Expr → Bool} {p : List Stmt → Bool} {ft : Sl → M Bool} {fp : Sl → M Fl} (iht : ∀ x, t x = true → STs X x ft) (ihp : ∀ x, p x = true → SSs X x fp) : ∀ x, kWhile t p x = true → SS X x (loopW ft fp n) := by
  intro x h
  cases x with
  | While et body els p0 =>
    cases els with
    | nil =>
      have h : (t et && p body) = true := h
      rw [Bool.and_eq_true] at h
      exact ss_while g.xe (iht et h.1) (ihp body h.2)
    | _ => cases h
  | _ => cases h
theorem k_pass : ∀ x, kPass x = true → SS X x mPass := by
  intro x h
  cases x with
  | Pass p0 =>
    exact ss_pass
  | _ => cases h
theorem k_brk : ∀ x, kBrk x = true → SS X x mBrk := by
  intro x h
  cases x with
  | Break p0 =>
    exact ss_brk
  | _ => cases h
theorem k_cnt : ∀ x, kCnt x = true → SS X x mCnt := by
  intro x h
  cases x with
  | Continue p0 =>
    exact ss_cnt
  | _ => cases h
theorem k_snil : ∀ x, kNil x = true → SSs X x mNil
  | [], h => sss_nil
theorem k_scons {s : Stmt → Bool} {b : List Stmt → Bool} {fs fb : Sl → M Fl} (ih : ∀ x, s x = true → SS X x fs) (ih2 : ∀ x, b x = true → SSs X x fb) : ∀ x, kConsS s b x = true → SSs X x (mSeq fs fb)
  | e :: es, h => by
    have h : (s e && b es) = true := h
    rw [Bool.and_eq_true] at h
    exact sss_cons (ih e h.1) (ih2 es h.2)
end
/-- what stands on the right of a swapped store -/
theorem sndSwp (C : Calls Y k tb gl c) (i : Nat) (a : E) (sc : Scope) (cl : Str → Bool) (x : Stmt) (h : kSwp N sc i (mE tb N a sc cl) x = true) (X : Cx) (g : Gd Y N k X sc cl) : SS X x (mAsg (evE gl c a) (gNm i)) := by
  cases a with
  | lc q own tg it t el => exact k_swpL g (fun tg x hx => sndI C it sc cl tg x hx X g) (fun sc cl x hx X g => sndG C tg sc cl x hx X g) (fun sc cl x hx X g => sndT C t sc cl x hx X g) (fun sc cl x hx X g => sndE C el sc cl x hx X g) x h
  | dc q own tg it t kx vx => exact k_swpD g (fun tg x hx => sndI C it sc cl tg x hx X g) (fun sc cl x hx X g => sndG C tg sc cl x hx X g) (fun sc cl x hx X g => sndT C t sc cl x hx X g) (fun sc cl x hx X g => sndE C kx sc cl x hx X g) (fun sc cl x hx X g => sndE C vx sc cl x hx X g) x h
  | _ => exact (kSwp_no (fun e he => by cases e <;> first | rfl | exact absurd rfl he) x h).elim
mutual
theorem sndS (C : Calls Y k tb gl c) : ∀ (s : S) (sc : Scope) (cl : Str → Bool) (x : Stmt), mS tb N s sc cl x = true → ∀ X, Gd Y N k X sc cl → SS X x (evS gl c s)
  | .asg t a, sc, cl, x, h, X, g => k_asg (fun x hx => sndG C t sc cl x hx X g) (fun x hx => sndE C a sc cl x hx X g) x h
  | .set i a, sc, cl, x, h, X, g => k_set g (fun x hx => sndE C a sc cl x hx X g) x h
  | .swp i a, sc, cl, x, h, X, g => sndSwp C i a sc cl x h X g
  | .par _ _ _, sc, cl, x, h, X, g => nomatch h
  | .aug i op a, sc, cl, x, h, X, g => k_aug g (fun x hx => sndE C a sc cl x hx X g) x h
  | .expr a, sc, cl, x, h, X, g => k_expr (fun x hx => sndE C a sc cl x hx X g) x h
  | .doc, sc, cl, x, h, X, g => k_doc x h
  | .ret a, sc, cl, x, h, X, g => k_ret (fun x hx => sndE C a sc cl x hx X g) x h
  | .retN, sc, cl, x, h, X, g => k_retN x h
  | .iff t a b, sc, cl, x, h, X, g => k_if (fun x hx => sndT C t sc cl x hx X g) (fun x hx => sndSs C a sc cl x hx X g) (fun x hx => sndSs C b sc cl x hx X g) x h
  | .for t it b, sc, cl, x, h, X, g => k_for g (fun x hx => sndG C t sc cl x hx X g) (fun tg x hx => sndI C it sc cl tg x hx X g) (fun x hx => sndSs C b sc cl x hx X g) x h
  | .while n t b, sc, cl, x, h, X, g => k_while g (fun x hx => sndT C t sc cl x hx X g) (fun x hx => sndSs C b sc cl x hx X g) x h
  | .pass, sc, cl, x, h, X, g => k_pass x h
  | .brk, sc, cl, x, h, X, g => k_brk x h
  | .cnt, sc, cl, x, h, X, g => k_cnt x h
termination_by structural s => s
theorem sndSs (C : Calls Y k tb gl c) : ∀ (s : Ss) (sc : Scope) (cl : Str → Bool) (x : List Stmt), mSs tb N s sc cl x = true → ∀ X, Gd Y N k X sc cl → SSs X x (evSs gl c s)
  | .nil, sc, cl, x, h, X, g => k_snil x h
  | .cons s b, sc, cl, x, h, X, g => k_scons (fun x hx => sndS C s sc cl x hx X g) (fun x hx => sndSs C b sc cl x hx X g) x h
  | .frz i b, sc, cl, x, h, X, g => sss_frz (sndSs C b sc cl x h X g)
termination_by structural s => s
end

/-! ### a def's frame -/
def mBody (n : Nat) (m : Sl → M Fl) (vs : List Val) : M Val := do
  let f ← m (vs.map some ++ List.replicate (n - vs.length) none)
  match f with
  | .rt v => pure v
  | .nx _ => pure (.d .none)
  | _ => fun _ => none
section
variable {K : PySem.W.Frag} {mh mh' : List Ob} {F F' : Hp} {ρ ρ' : List Addr} {H H' : Hp}
theorem below_den {u : V} {v : Val} {n : Nat} (h : DenV K F ρ' u v) (b : v.below n = true) : DenV K F (ρ'.take n) u v := by
  cases v with
  | d x => exact h
  | ref m =>
    obtain ⟨a, e, r⟩ := h
    exact ⟨a, by rw [List.getElem?_take_of_lt (of_decide_eq_true b)]; exact e, r⟩
theorem below_dens {n : Nat} : ∀ {us : List V} {vs : List Val}, DenVs K F ρ' us vs → vs.all (·.below n) = true → DenVs K F (ρ'.take n) us vs
  | _, _, .nil, _ => .nil
  | _, _, .cons a b, h => by
    rw [List.all_cons, Bool.and_eq_true] at h
    exact .cons (below_den a h.1) (below_dens b h.2)
theorem below_denk {n : Nat} : ∀ {us : List (Key × V)} {vs : List (Key × Val)}, DenVK K F ρ' us vs → (vs.all fun kv => kv.2.below n) = true → DenVK K F (ρ'.take n) us vs
  | _, _, .nil, _ => .nil
  | _, _, .cons a b, h => by
    rw [List.all_cons, Bool.and_eq_true] at h
    exact .cons ⟨a.1, below_den a.2 h.1⟩ (below_denk b h.2)
theorem den_below {u : V} {v : Val} (h : DenV K F ρ u v) : v.below ρ.length = true := by
  cases v with
  | d x => rfl
  | ref m =>
    obtain ⟨a, e, r⟩ := h
    exact decide_eq_true (List.getElem?_eq_some_iff.mp e).1
theorem dens_below : ∀ {us : List V} {vs : List Val}, DenVs K F ρ us vs → vs.all (·.below ρ.length) = true
  | _, _, .nil => rfl
  | _, _, .cons a b => by rw [List.all_cons, den_below a, dens_below b]; rfl
theorem denk_below : ∀ {us : List (Key × V)} {vs : List (Key × Val)}, DenVK K F ρ us vs → (vs.all fun kv => kv.2.below ρ.length) = true
  | _, _, .nil => rfl
  | _, _, .cons a b => by rw [List.all_cons, den_below a.2, denk_below b]; rfl
theorem ObD.below {a : Addr} {o : Ob} (h : ObD K F ρ H a o) : o.below ρ.length = true := by
  cases o with
  | lst vs => obtain ⟨_, xs, _, d⟩ := h; exact dens_below d
  | dct vs => obtain ⟨_, xs, _, d⟩ := h; exact denk_below d
  | dead => rfl
theorem ObD.cut {a : Addr} {o : Ob} {n : Nat} (h : ObD K F ρ' H a o) (b : o.below n = true) : ObD K F (ρ'.take n) H a o := by
  cases o with
  | lst vs => obtain ⟨z, xs, e, d⟩ := h; exact ⟨z, xs, e, below_dens d b⟩
  | dct vs => obtain ⟨z, xs, e, d⟩ := h; exact ⟨z, xs, e, below_denk d b⟩
  | dead => exact h
theorem vbelow_mono {n m : Nat} (h : n ≤ m) {v : Val} (b : v.below n = true) : v.below m = true := by
  cases v with
  | d x => rfl
  | ref k =>
    have : k < n := of_decide_eq_true b
    exact decide_eq_true (by omega)
theorem below_mono {n m : Nat} (h : n ≤ m) {o : Ob} (b : o.below n = true) : o.below m = true := by
  cases o with
  | lst vs =>
    have b : vs.all (·.below n) = true := b
    show vs.all (·.below m) = true
    rw [List.all_eq_true] at b ⊢
    exact fun v hv => vbelow_mono h (b v hv)
  | dct vs =>
    have b : (vs.all fun kv => kv.2.below n) = true := b
    show (vs.all fun kv => kv.2.below m) = true
    rw [List.all_eq_true] at b ⊢
    exact fun v hv => vbelow_mono h (b v hv)
  | dead => rfl
theorem cutOk_get : ∀ {n : Nat} {os os' : List Ob} {m : Nat} {o o' : Ob}, cutOk n os os' → os[m]? = some o → os'[m]? = some o' → o' = o ∨ o'.below n = true
  | _, [], _, _, _, _, _, e, _ => by simp at e
  | _, _ :: _, [], _, _, _, h, _, _ => h.elim
  | _, o :: os, o' :: os', 0, _, _, h, e1, e2 => by
    simp at e1 e2
    subst e1 e2
    exact h.1
  | _, o :: os, o' :: os', m + 1, _, _, h, e1, e2 => cutOk_get (m := m) h.2 (by simpa using e1) (by simpa using e2)
theorem keepN_le (n : Nat) (v : Val) : n ≤ keepN n v := by
  cases v with
  | d x => exact Nat.le_refl _
  | ref m => show n ≤ (if m < n then n else m + 1); split <;> omega
theorem keepN_below (n : Nat) (v : Val) : v.below (keepN n v) = true := by
  cases v with
  | d x => rfl
  | ref m =>
    refine decide_eq_true ?_
    show m < (if m < n then n else m + 1)
    split <;> omega
theorem Wd.back (w : Wd K mh F ρ H) (w' : Wd K mh' F' ρ' H') (g : Gr F ρ H F' ρ' H') {n : Nat} (hn : mh.length ≤ n) (h : cutOk n mh mh') (h2 : ((mh'.take n).drop mh.length).all (·.below n) = true) : Wd K (mh'.take n) F' (ρ'.take n) H' ∧ Gr F ρ H F' (ρ'.take n) H' := by
  have pre : ρ <+: ρ'.take n := by
    obtain ⟨t, rfl⟩ := g.pre
    rw [List.take_append, List.take_of_length_le (by rw [w.len]; exact hn)]
    exact List.prefix_append _ _
  refine ⟨w'.cut n fun m o hm e1 a e2 => (w'.cell m a o e2 e1).cut ?_, ⟨g.rd, pre, fun a o q1 q2 q3 => let ⟨a1, a2, a3⟩ := g.fr a o q1 q2 q3; ⟨a1, a2, fun z => a3 (List.mem_of_mem_take z)⟩⟩⟩
  by_cases h1 : m < mh.length
  · rcases cutOk_get h (List.getElem?_eq_getElem h1) e1 with q | q
    · rw [q]
      have hmρ : m < ρ.length := by rw [w.len]; exact h1
      have b := (w.cell m _ _ (List.getElem?_eq_getElem hmρ) (List.getElem?_eq_getElem h1)).below
      rw [w.len] at b
      exact below_mono hn b
    · exact q
  · have hmem : o ∈ (mh'.take n).drop mh.length := by
      refine List.mem_iff_getElem?.mpr ⟨m - mh.length, ?_⟩
      rw [List.getElem?_drop, show mh.length + (m - mh.length) = m by omega, List.getElem?_take_of_lt hm]
      exact e1
    exact List.all_eq_true.mp h2 o hmem
end
/-- a def of the text, by its body -/
theorem def_ok {x qual : Str} {st : Stmt} {addr : Addr} {fd : FuncData} {ps : List Str} {b : Ss} (C : Calls Y k tb gl c) (F : Fun Y.K x qual st addr fd) (S : FnScope N ps (defScope st)) (h : mSs tb N b (defScope st) (fun _ => true) (defBody st) = true) :
    FnOk Y.P Y.w Y.K Y.mg Y.base L2.CX0 (k + 1) addr fd ps (spF Y.K ps.length (frame (mBody N.length (evSs gl c b)))) := by
  refine F.ok S (fun vs H Q E h => h.1) (fun cdv A outer s H us Q E hr hq => ?_)
  obtain ⟨hl, mh, Fz, ρ, vs, v, mh', w, d, e, q⟩ := hq
  unfold frame at e
  cases e1 : mBody N.length (evSs gl c b) vs mh with
  | none => rw [e1] at e; cases e
  | some r =>
    obtain ⟨v1, mh1⟩ := r
    rw [e1] at e
    simp only at e
    split at e
    · rename_i hb
      have ev : v1 = v ∧ mh1.take (keepN mh.length v1) = mh' := by simpa using e
      obtain ⟨rfl, rfl⟩ := ev
      obtain ⟨f, mh2, e2, e3⟩ := M.bind_some.mp e1
      have G : Gd Y N k (cxOf L2.CX0 Y.P Y.w Y.K Y.mg Y.base N qual (defScope st) addr cdv A outer s H E).nox (defScope st) (fun _ => true) :=
        ⟨rfl, rfl, rfl, rfl, rfl, rfl, S.nd, rfl, hr, rfl, S.kind, fun _ _ => rfl, rfl⟩
      refine ⟨_, sndSs C b _ _ _ h _ G, vs.map some ++ List.replicate (N.length - vs.length) none, mh, Fz, ρ, f, mh2, ?_, e2, ?_⟩
      · refine ⟨w, ?_, fun i v hv => ?_⟩
        · unfold L2.start
          rw [List.length_append, List.length_append, List.length_map, List.length_map, List.length_replicate, List.length_replicate, d.length]
        · unfold L2.start
          by_cases hi : i < vs.length
          · rw [List.getElem?_append_left (by rw [List.length_map]; exact hi), List.getElem?_map] at hv
            obtain ⟨v', h1, h2⟩ := Option.map_eq_some_iff.mp hv
            cases h2
            obtain ⟨u, h3, h4⟩ := d.get h1
            refine ⟨u, ?_, h4⟩
            rw [List.getElem?_append_left (by rw [List.length_map, d.length]; exact hi), List.getElem?_map, h3]
            rfl
          · rw [List.getElem?_append_right (by rw [List.length_map]; omega)] at hv
            have := List.mem_of_getElem? hv
            rw [List.mem_replicate] at this
            cases this.2
      · have fin : ∀ F' ρ' H' u, Wd Y.K mh1 F' ρ' H' → Gr Fz ρ H F' ρ' H' → DenV Y.K F' ρ' u v1 → Q u H' := fun F' ρ' H' u w' g' d' => by
          obtain ⟨w2, g2⟩ := w.back w' g' (keepN_le _ _) hb.1 hb.2
          exact q F' _ H' u w2 g2 (below_den d' (keepN_below _ _))
        cases f with
        | rt v => cases e3; exact fin
        | nx env' => cases e3; exact fun F' ρ' σ' H' r g' => fin F' ρ' H' _ r.wd g' Den.non
        | bk _ => cases e3
        | ct _ => cases e3
    · cases e
end
end Pv

/-! P13: a program of defs -/
namespace Pv
open PySem PySem.Spec PyProof.Rows L2

structure Df where
  name : Str
  ps : List Str
  N : List Str
  body : Ss
abbrev Pg := List Df
noncomputable def callP (P : Pg) (gl : List (Str × Dt)) : Nat → Nat → List Val → M Val
  | 0, _, _ => fun _ => none
  | k + 1, f, vs => match P[f]? with
    | some d => frame (mBody d.N.length (evSs gl (callP P gl k) d.body)) vs
    | none => fun _ => none
def tbOf (P : Pg) (bs : List Str) (gl : List (Str × Dt)) : Tb := ⟨P.map fun d => (d.name, d.ps.length), bs, gl.map (·.1)⟩
/-- the def d stands in the written part, with the text st -/
structure DefAt (Y : Wx) (tb : Tb) (d : Df) (st : Stmt) : Prop where
  at_ : ∃ (addr : Addr) (fd : FuncData), Fun Y.K d.name d.name st addr fd ∧ Binds Y.K fd d.ps [] ∧ Y.mg d.name = some (.ref addr)
  sc : FnScope d.N d.ps (defScope st)
  txt : mSs tb d.N d.body (defScope st) (fun _ => true) (defBody st) = true
structure ProgOk (Y : Wx) (P : Pg) (bs : List Str) (gl : List (Str × Dt)) : Prop where
  df : ∀ (f : Nat) (d : Df), P[f]? = some d → ∃ st, DefAt Y (tbOf P bs gl) d st
  bi : ∀ x ∈ bs, Y.mg x = none
  gl : ∀ (j : Nat) (x : Str) (d : Dt), gl[j]? = some (x, d) → ∃ (v : V) (u : Value), Y.mg x = some u ∧ RelV v u ∧ ∀ F, Den Y.K F v d
section
variable {Y : Wx} {P : Pg} {bs : List Str} {gl : List (Str × Dt)}
theorem callP_ok (O : ProgOk Y P bs gl) : ∀ (k f : Nat) (d : Df), P[f]? = some d → ∀ (addr : Addr) (fd : FuncData) (st : Stmt), Fun Y.K d.name d.name st addr fd → FnScope d.N d.ps (defScope st) → mSs (tbOf P bs gl) d.N d.body (defScope st) (fun _ => true) (defBody st) = true →
    FnOk Y.P Y.w Y.K Y.mg Y.base L2.CX0 k addr fd d.ps (spF Y.K d.ps.length (callP P gl k f))
  | 0, f, d, hd, addr, fd, st, F, S, m => by
    refine ⟨fun vs H Q E h => h.1, fun A outer s H args us vs Q E hr he hb hv hs => ?_⟩
    obtain ⟨_, mh, Fz, ρ, vs', v, mh', w, dd, e, q⟩ := hs
    cases e
  | k + 1, f, d, hd, addr, fd, st, F, S, m => by
    have C : Calls Y k (tbOf P bs gl) gl (callP P gl k) := by
      refine ⟨fun f' x n hf => ?_, O.bi, fun j x hx => ?_⟩
      · have hf : (P.map fun d => (d.name, d.ps.length))[f']? = some (x, n) := hf
        rw [List.getElem?_map] at hf
        obtain ⟨d', h1, h2⟩ := Option.map_eq_some_iff.mp hf
        cases h2
        obtain ⟨st', ⟨addr', fd', F', b', hm'⟩, S', m'⟩ := O.df f' d' h1
        exact ⟨addr', fd', d'.ps, rfl, callP_ok O k f' d' h1 addr' fd' st' F' S' m', hm', F'.kp, b'⟩
      · have hx : (gl.map (·.1))[j]? = some x := hx
        rw [List.getElem?_map] at hx
        obtain ⟨p, h1, h2⟩ := Option.map_eq_some_iff.mp hx
        subst h2
        obtain ⟨v, u, h3, h4, h5⟩ := O.gl j p.1 p.2 h1
        exact ⟨p.2, v, u, h1, h3, h4, h5⟩
    have := def_ok C F S m
    refine FnOk.imp this fun vs H Q E h => ?_
    obtain ⟨hl, mh, Fz, ρ, vs', v, mh', w, dd, e, q⟩ := h
    refine ⟨hl, mh, Fz, ρ, vs', v, mh', w, dd, ?_, q⟩
    have e : (match P[f]? with
      | some d => frame (mBody d.N.length (evSs gl (callP P gl k) d.body)) vs'
      | none => fun _ => none : M Val) mh = some (v, mh') := e
    rw [hd] at e
    exact e
/-- the law's promise -/
def spLaw (K : PySem.W.Frag) : Sp := fun vs H Q _ => ∃ (a : Addr) (ns : List Int), vs = [.ref a] ∧ SqL K H a (ns.map V.int) ∧ ns.length ≤ 63 ∧ ∀ H', Q (.bl true) H'
theorem den_ints {K : PySem.W.Frag} {F : Hp} : ∀ ns : List Int, DenAll K F (ns.map V.int) (ns.map PyData.int)
  | [] => .nil
  | n :: ns => .cons (.int n) (den_ints ns)
theorem law_ok (O : ProgOk Y P bs gl) {k f : Nat} {d : Df} (hd : P[f]? = some d) {addr : Addr} {fd : FuncData} {st : Stmt} (hps : d.ps = ([Str.ofString "script"] : List Str)) (F : Fun Y.K d.name d.name st addr fd) (S : FnScope d.N d.ps (defScope st)) (m : mSs (tbOf P bs gl) d.N d.body (defScope st) (fun _ => true) (defBody st) = true)
    (law : ∀ ns : List Int, ns.length ≤ 63 → ∃ mh', callP P gl k f [.d (.list (ns.map PyData.int))] [] = some (.d (.bool true), mh')) :
    FnOk Y.P Y.w Y.K Y.mg Y.base L2.CX0 k addr fd ([Str.ofString "script"] : List Str) (spLaw Y.K) := by
  have h := callP_ok O k f d hd addr fd st F S m
  rw [hps] at h
  refine FnOk.imp h fun vs H Q E q => ?_
  obtain ⟨a, ns, rfl, hS, hl, q⟩ := q
  obtain ⟨mh', e⟩ := law ns hl
  refine ⟨rfl, [], H, [], _, _, mh', ⟨fun _ _ h => h, rfl, List.nodup_nil, fun n a o h => by simp at h, fun n a o h => by simp at h⟩, .cons (show DenV Y.K H [] (V.ref a) (.d (.list (ns.map PyData.int))) from Den.lst hS (by rw [List.length_map]; exact Nat.le_trans hl (by decide)) (den_ints ns)) .nil, e, fun F' ρ' H' u w g dd => ?_⟩
  rw [den_bl dd]
  exact q H'
end
end Pv

/-! P14: what the evaluator does, read backwards from what is wanted -/
namespace Pv
open PySem PySem.Spec PyProof.Rows L2

def W {α : Type} (m : M α) (mh : List Ob) (Q : α → List Ob → Prop) : Prop := ∃ a mh', m mh = some (a, mh') ∧ Q a mh'
theorem W.mono {α : Type} {m : M α} {mh : List Ob} {Q R : α → List Ob → Prop} (h : W m mh Q) (k : ∀ a mh', Q a mh' → R a mh') : W m mh R := by
  obtain ⟨a, mh', e, q⟩ := h
  exact ⟨a, mh', e, k _ _ q⟩
theorem W.bind {α β : Type} {x : M α} {f : α → M β} {mh : List Ob} {Q : β → List Ob → Prop} (h : W x mh fun a mh1 => W (f a) mh1 Q) : W (x >>= f) mh Q := by
  obtain ⟨a, mh1, e1, b, mh2, e2, q⟩ := h
  exact ⟨b, mh2, M.bind_some.mpr ⟨a, mh1, e1, e2⟩, q⟩
theorem W.pure {α : Type} {a : α} {mh : List Ob} {Q : α → List Ob → Prop} (h : Q a mh) : W (pure a : M α) mh Q := ⟨a, mh, rfl, h⟩
theorem W.rd {α : Type} {f : List Ob → Option α} {mh : List Ob} {Q : α → List Ob → Prop} (h : ∃ a, f mh = some a ∧ Q a mh) : W (rdM f) mh Q := by
  obtain ⟨a, e, q⟩ := h
  exact ⟨a, mh, rdM_some.mpr ⟨e, rfl⟩, q⟩
theorem W.ofO {α : Type} {o : Option α} {mh : List Ob} {Q : α → List Ob → Prop} (h : ∃ a, o = some a ∧ Q a mh) : W (Pv.ofO o) mh Q := by
  obtain ⟨a, e, q⟩ := h
  exact ⟨a, mh, ofO_some.mpr ⟨e, rfl⟩, q⟩
/-- a result that is to be made -/
def WR (k : Bool) (o : Option Rv) (mh : List Ob) (Q : Val → List Ob → Prop) : Prop := ∃ r, o = some r ∧ W (finR k r) mh Q
section
variable {k : Bool} {o : Option Rv} {mh : List Ob} {Q : Val → List Ob → Prop}
theorem wr_v {x : Val} (e : o = some (.v x)) (h : Q x mh) : WR false o mh Q := ⟨_, e, W.pure h⟩
theorem wr_nl {ds : List Dt} (e : o = some (.nl (ds.map Val.d))) (h : Q (.d (.list ds)) mh) : WR false o mh Q :=
  ⟨_, e, W.ofO ⟨_, by rw [asDs_map]; rfl, h⟩⟩
theorem wr_cell {vs : List Val} (e : o = some (.nl vs)) (h : Q (.ref mh.length) (mh ++ [.lst vs])) : WR true o mh Q := ⟨_, e, ⟨_, _, rfl, h⟩⟩
theorem wr_dcell {kvs : List (Key × Val)} (e : o = some (.nd kvs)) (h : Q (.ref mh.length) (mh ++ [.dct kvs])) : WR true o mh Q := ⟨_, e, ⟨_, _, rfl, h⟩⟩
theorem wr_nd {kvs : List (Key × Val)} {ds : List (Dt × Dt)} (e : o = some (.nd kvs)) (e2 : asDKs kvs = some ds) (h : Q (.d (.dict ds)) mh) : WR false o mh Q :=
  ⟨_, e, W.ofO ⟨_, by rw [e2]; rfl, h⟩⟩
end
section
variable {gl : List (Str × Dt)} {c : Nat → List Val → M Val} {env : Sl} {mh : List Ob} {Q : Val → List Ob → Prop}
theorem we_slot {i : Nat} {v : Val} (h : env.getD i none = some v) (q : Q v mh) : W (evE gl c (.slot i) env) mh Q := W.ofO ⟨_, h, q⟩
theorem we_k {x : Kc} (q : Q (.d x.d) mh) : W (evE gl c (.k x) env) mh Q := W.pure q
theorem we_glob {j : Nat} {x : Str} {d : Dt} (h : gl[j]? = some (x, d)) (q : Q (.d d) mh) : W (evE gl c (.glob j) env) mh Q := W.ofO ⟨.d d, by rw [h]; rfl, q⟩
theorem we_neg {a : E} (h : W (evE gl c a env) mh fun v mh1 => ∃ i, v = .d (.int i) ∧ Q (.d (.int (-i))) mh1) : W (evE gl c (.neg a) env) mh Q :=
  W.bind (h.mono fun v mh1 ⟨i, e, q⟩ => by subst e; exact W.ofO ⟨_, rfl, q⟩)
theorem we_nt {a : E} (h : W (evE gl c a env) mh fun v mh1 => ∃ b, v = .d (.bool b) ∧ Q (.d (.bool (!b))) mh1) : W (evE gl c (.nt a) env) mh Q :=
  W.bind (h.mono fun v mh1 ⟨i, e, q⟩ => by subst e; exact W.ofO ⟨_, rfl, q⟩)
theorem we_bin {op : Operator} {k : Bool} {a b : E} (h : W (evE gl c a env) mh fun x mh1 => W (evE gl c b env) mh1 fun y mh2 => WR k (binF op mh2 x y) mh2 Q) : W (evE gl c (.bin op k a b) env) mh Q :=
  W.bind (h.mono fun x mh1 h1 => W.bind (h1.mono fun y mh2 ⟨r, e, w⟩ => W.bind (W.rd ⟨r, e, w⟩)))
theorem we_cmp {op : CmpOp} {a b : E} (h : W (evE gl c a env) mh fun x mh1 => W (evE gl c b env) mh1 fun y mh2 => WR false (cmpF op mh2 x y) mh2 Q) : W (evE gl c (.cmp op a b) env) mh Q :=
  W.bind (h.mono fun x mh1 h1 => W.bind (h1.mono fun y mh2 ⟨r, e, w⟩ => W.bind (W.rd ⟨r, e, w⟩)))
theorem we_one {a : E} (h : W (evE gl c a env) mh Q) : W (evE gl c (.one a) env) mh Q := h
theorem we_and {a b : E} (h : W (evE gl c a env) mh fun x mh1 => ∃ p, x = .d (.bool p) ∧ (p = true → W (evE gl c b env) mh1 Q) ∧ (p = false → Q (.d (.bool false)) mh1)) : W (evE gl c (.and2 a b) env) mh Q :=
  W.bind (h.mono fun x mh1 ⟨p, e, q1, q2⟩ => by subst e; cases p; exact W.pure (q2 rfl); exact q1 rfl)
theorem we_or {a b : E} (h : W (evE gl c a env) mh fun x mh1 => ∃ p, x = .d (.bool p) ∧ (p = false → W (evE gl c b env) mh1 Q) ∧ (p = true → Q (.d (.bool true)) mh1)) : W (evE gl c (.or2 a b) env) mh Q :=
  W.bind (h.mono fun x mh1 ⟨p, e, q1, q2⟩ => by subst e; cases p; exact q1 rfl; exact W.pure (q2 rfl))
theorem we_ife {t : T} {a b : E} (h : W (evT gl c t env) mh fun x mh1 => (x = true → W (evE gl c a env) mh1 Q) ∧ (x = false → W (evE gl c b env) mh1 Q)) : W (evE gl c (.ife t a b) env) mh Q :=
  W.bind (h.mono fun x mh1 ⟨q1, q2⟩ => by cases x; exact q2 rfl; exact q1 rfl)
/-- arguments -/
def WA (gl : List (Str × Dt)) (c : Nat → List Val → M Val) (as : As) (env : Sl) (mh : List Ob) (Q : List Val → List Ob → Prop) : Prop := W (mArgs (evAs gl c as) env) mh Q
theorem wa_nil {Q : List Val → List Ob → Prop} (q : Q [] mh) : WA gl c .nil env mh Q := W.pure q
theorem wa_cons {a : E} {as : As} {Q : List Val → List Ob → Prop} (h : W (evE gl c a env) mh fun v mh1 => WA gl c as env mh1 fun vs mh2 => Q (v :: vs) mh2) : WA gl c (.cons a as) env mh Q :=
  W.bind (h.mono fun v mh1 h1 => W.bind (W.mono h1 fun vs mh2 q => W.pure q))
theorem we_tup {as : As} (h : WA gl c as env mh fun vs mh1 => ∃ ds, asDs vs = some ds ∧ ds.length ≤ sizeLine ∧ Q (.d (.tuple ds)) mh1) : W (evE gl c (.tup as) env) mh Q :=
  W.bind (W.mono h fun vs mh1 ⟨ds, e, hl, q⟩ => W.ofO ⟨_, by rw [e]; exact if_pos hl, q⟩)
theorem we_lst {k : Bool} {as : As} (h : WA gl c as env mh fun vs mh1 => vs.length ≤ sizeLine ∧ WR k (some (.nl vs)) mh1 Q) : W (evE gl c (.lst k as) env) mh Q :=
  W.bind (W.mono h fun vs mh1 ⟨hl, r, e, w⟩ => by cases e; rw [if_pos hl]; exact w)
theorem we_dict0 {k : Bool} (h : WR k (some (.nd [])) mh Q) : W (evE gl c (.dict0 k) env) mh Q := by
  obtain ⟨r, e, w⟩ := h
  cases e
  exact w
theorem we_ix {a b : E} (h : W (evE gl c a env) mh fun x mh1 => W (evE gl c b env) mh1 fun y mh2 => ∃ v, ixVl mh2 x y = some v ∧ Q v mh2) : W (evE gl c (.ix a b) env) mh Q :=
  W.bind (h.mono fun x mh1 h1 => W.bind (h1.mono fun y mh2 h2 => W.rd h2))
/-- a bound of a slice -/
def WO (gl : List (Str × Dt)) (c : Nat → List Val → M Val) (e : E) (env : Sl) (mh : List Ob) (Q : Option Int → List Ob → Prop) : Prop := W (mOpt e.isAbs (evE gl c e) env) mh Q
theorem wo_none {Q : Option Int → List Ob → Prop} (q : Q none mh) : WO gl c .absent env mh Q := W.pure q
theorem wo_some {e : E} {Q : Option Int → List Ob → Prop} (ha : e.isAbs = false) (h : W (evE gl c e env) mh fun v mh1 => ∃ i, v = .d (.int i) ∧ Q (some i) mh1) : WO gl c e env mh Q := by
  unfold WO
  rw [ha]
  exact W.bind (h.mono fun v mh1 ⟨i, e, q⟩ => by subst e; exact W.ofO ⟨_, rfl, q⟩)
theorem we_sl {k : Bool} {a lo hi : E} (h : W (evE gl c a env) mh fun x mh1 => WO gl c lo env mh1 fun l mh2 => WO gl c hi env mh2 fun r mh3 => WR k (slVl mh3 x l r) mh3 Q) : W (evE gl c (.sl k a lo hi) env) mh Q :=
  W.bind (h.mono fun x mh1 h1 => W.bind (W.mono h1 fun l mh2 h2 => W.bind (W.mono h2 fun u mh3 ⟨r, e, w⟩ => W.bind (W.rd ⟨r, e, w⟩))))
theorem we_call {f : Nat} {as : As} (h : WA gl c as env mh fun vs mh1 => W (c f vs) mh1 Q) : W (evE gl c (.call f as) env) mh Q := W.bind h
theorem we_bi {b : Bi} {k : Bool} {as : As} (h : WA gl c as env mh fun vs mh1 => WR k (b.f mh1 vs) mh1 Q) : W (evE gl c (.bi b k as) env) mh Q :=
  W.bind (W.mono h fun vs mh1 ⟨r, e, w⟩ => W.bind (W.rd ⟨r, e, w⟩))
theorem we_isin {t : String} {a : E} (h : W (evE gl c a env) mh fun x mh1 => ∃ ty, tyVal mh1 x = some ty ∧ Q (.d (.bool (isIn ty t))) mh1) : W (evE gl c (.isin t a) env) mh Q :=
  W.bind (h.mono fun x mh1 ⟨ty, e, q⟩ => W.rd ⟨_, by rw [e]; rfl, q⟩)
theorem we_rev {k : Bool} {a : E} (h : W (evE gl c a env) mh fun x mh1 => ∃ vs, seqL mh1 x = some vs ∧ WR k (some (.nl vs.reverse)) mh1 Q) : W (evE gl c (.rev k a) env) mh Q :=
  W.bind (h.mono fun x mh1 ⟨vs, e, r, e2, w⟩ => W.bind (W.rd ⟨vs, e, by cases e2; exact w⟩))
theorem we_meth {m : Mt} {o : E} {as : As} (h : W (evE gl c o env) mh fun x mh1 => rcv m.ty x mh1 = true ∧ WA gl c as env mh1 fun vs mh2 => W (m.f x vs) mh2 Q) : W (evE gl c (.meth m o as) env) mh Q :=
  W.bind (h.mono fun x mh1 ⟨h1, h2⟩ => W.bind (W.rd ⟨_, rfl, by rw [h1]; exact W.bind h2⟩))
/-- a walk over things -/
def WI (gl : List (Str × Dt)) (c : Nat → List Val → M Val) (it : I) (env : Sl) (mh : List Ob) (Q : Ix → List Ob → Prop) : Prop := W (evI gl c it env) mh Q
theorem wi_val {a : E} {Q : Ix → List Ob → Prop} (h : W (evE gl c a env) mh fun v mh1 => ∃ ix, ixOf mh1 v = some ix ∧ Q ix mh1) : WI gl c (.val a) env mh Q :=
  W.bind (h.mono fun v mh1 h1 => W.rd h1)
theorem wi_range1 {as : As} {Q : Ix → List Ob → Prop} (h : WA gl c as env mh fun vs mh1 => ∃ ix, rng1 vs = some ix ∧ Q ix mh1) : WI gl c (.range1 as) env mh Q :=
  W.bind (W.mono h fun v mh1 h1 => W.ofO h1)
theorem wi_range2 {as : As} {Q : Ix → List Ob → Prop} (h : WA gl c as env mh fun vs mh1 => ∃ ix, rng2 vs = some ix ∧ Q ix mh1) : WI gl c (.range2 as) env mh Q :=
  W.bind (W.mono h fun v mh1 h1 => W.ofO h1)
theorem wi_zip {as : As} {Q : Ix → List Ob → Prop} (h : WA gl c as env mh fun vs mh1 => ∃ ix, zip2 mh1 vs = some ix ∧ Q ix mh1) : WI gl c (.zip as) env mh Q :=
  W.bind (W.mono h fun v mh1 h1 => W.rd h1)
theorem wi_zip3 {as : As} {Q : Ix → List Ob → Prop} (h : WA gl c as env mh fun vs mh1 => ∃ ix, zip3 vs = some ix ∧ Q ix mh1) : WI gl c (.zip3 as) env mh Q :=
  W.bind (W.mono h fun v mh1 h1 => W.ofO h1)
theorem wi_enumT {as : As} {Q : Ix → List Ob → Prop} (h : WA gl c as env mh fun vs mh1 => ∃ ix, enumV vs = some ix ∧ Q ix mh1) : WI gl c (.enumT as) env mh Q :=
  W.bind (W.mono h fun v mh1 h1 => W.ofO h1)
/-- a comprehension's turns -/
def WC {α : Type} (gl : List (Str × Dt)) (c : Nat → List Val → M Val) (g : G) (t : T) (el : Sl → M α) (env : Sl) (ix : Ix) (mh : List Ob) (Q : List α → List Ob → Prop) : Prop :=
  W (loopC ix.g (evG gl c g) (evT gl c t) el env ix.items) mh Q
theorem we_lc {k : Bool} {own : List (Str × Nat)} {g : G} {it : I} {t : T} {el : E} (h : WI gl c it env mh fun ix mh1 => WC gl c g t (evE gl c el) (wipeE env (own.map (·.2))) ix mh1 fun ys mh2 => WR k (some (.nl ys)) mh2 Q) : W (evE gl c (.lc k own g it t el) env) mh Q :=
  W.bind (W.mono h fun ix mh1 h1 => W.bind (W.mono h1 fun ys mh2 ⟨r, e, w⟩ => by cases e; exact w))
theorem we_dc {k : Bool} {own : List (Str × Nat)} {g : G} {it : I} {t : T} {kx vx : E} (h : WI gl c it env mh fun ix mh1 => WC gl c g t (mKv (evE gl c kx) (evE gl c vx)) (wipeE env (own.map (·.2))) ix mh1 fun ys mh2 => WR k (some (.nd (mergeV [] ys))) mh2 Q) : W (evE gl c (.dc k own g it t kx vx) env) mh Q :=
  W.bind (W.mono h fun ix mh1 h1 => W.bind (W.mono h1 fun ys mh2 ⟨r, e, w⟩ => by cases e; exact w))
theorem w_kv {kx vx : E} {Q : Key × Val → List Ob → Prop} (h : W (evE gl c kx env) mh fun y mh1 => W (evE gl c vx env) mh1 fun z mh2 => ∃ k, keyVl y = some k ∧ Q (k, z) mh2) : W (mKv (evE gl c kx) (evE gl c vx) env) mh Q :=
  W.bind (h.mono fun y mh1 h1 => W.bind (h1.mono fun z mh2 ⟨k, e, q⟩ => W.bind (W.ofO ⟨k, e, W.pure q⟩)))
/-! tests -/
def WT (gl : List (Str × Dt)) (c : Nat → List Val → M Val) (t : T) (env : Sl) (mh : List Ob) (Q : Bool → List Ob → Prop) : Prop := W (evT gl c t env) mh Q
theorem wt_yes {Q : Bool → List Ob → Prop} (q : Q true mh) : WT gl c .yes env mh Q := W.pure q
theorem wt_cmp {op : CmpOp} {a b : E} {Q : Bool → List Ob → Prop} (h : W (evE gl c a env) mh fun x mh1 => W (evE gl c b env) mh1 fun y mh2 => ∃ r, cmpF op mh2 x y = some (.v (.d (.bool r))) ∧ Q r mh2) : WT gl c (.cmp op a b) env mh Q :=
  W.bind (h.mono fun x mh1 h1 => W.bind (h1.mono fun y mh2 ⟨r, e, q⟩ => W.rd ⟨r, by rw [e]; rfl, q⟩))
theorem wt_tru {a : E} {Q : Bool → List Ob → Prop} (h : W (evE gl c a env) mh fun x mh1 => ∃ r, truVl mh1 x = some r ∧ Q r mh1) : WT gl c (.tru a) env mh Q :=
  W.bind (h.mono fun x mh1 h1 => W.rd h1)
theorem wt_nt {t : T} {Q : Bool → List Ob → Prop} (h : WT gl c t env mh fun r mh1 => Q (!r) mh1) : WT gl c (.nt t) env mh Q :=
  W.bind (W.mono h fun x mh1 h1 => W.pure h1)
theorem wt_one {t : T} {Q : Bool → List Ob → Prop} (h : WT gl c t env mh Q) : WT gl c (.one t) env mh Q := h
theorem wt_and {a b : T} {Q : Bool → List Ob → Prop} (h : WT gl c a env mh fun x mh1 => (x = true → WT gl c b env mh1 Q) ∧ (x = false → Q false mh1)) : WT gl c (.and2 a b) env mh Q :=
  W.bind (W.mono h fun x mh1 ⟨q1, q2⟩ => by cases x; exact W.pure (q2 rfl); exact q1 rfl)
theorem wt_or {a b : T} {Q : Bool → List Ob → Prop} (h : WT gl c a env mh fun x mh1 => (x = false → WT gl c b env mh1 Q) ∧ (x = true → Q true mh1)) : WT gl c (.or2 a b) env mh Q :=
  W.bind (W.mono h fun x mh1 ⟨q1, q2⟩ => by cases x; exact q1 rfl; exact W.pure (q2 rfl))
theorem we_ifeT {t : T} {a b : E} (h : WT gl c t env mh fun x mh1 => (x = true → W (evE gl c a env) mh1 Q) ∧ (x = false → W (evE gl c b env) mh1 Q)) : W (evE gl c (.ife t a b) env) mh Q := we_ife h
/-! targets -/
def WG (gl : List (Str × Dt)) (c : Nat → List Val → M Val) (g : G) (v : Val) (env : Sl) (mh : List Ob) (Q : Sl → List Ob → Prop) : Prop := W (evG gl c g v env) mh Q
def WGs (gl : List (Str × Dt)) (c : Nat → List Val → M Val) (g : Gs) (ds : List Dt) (env : Sl) (mh : List Ob) (Q : Sl → List Ob → Prop) : Prop := W (evGs gl c g ds env) mh Q
theorem wg_nm {i : Nat} {v : Val} {Q : Sl → List Ob → Prop} (q : Q (env.set i (some v)) mh) : WG gl c (.nm i) v env mh Q := W.pure q
theorem wg_tp {n : Nat} {gs : Gs} {ds : List Dt} {Q : Sl → List Ob → Prop} (hn : ds.length = n) (q : WGs gl c gs ds env mh Q) : WG gl c (.tp n gs) (.d (.tuple ds)) env mh Q := by
  unfold WG
  show W (if ds.length = n then evGs gl c gs ds env else fun _ => none) mh Q
  rw [if_pos hn]
  exact q
theorem wgs_nil {Q : Sl → List Ob → Prop} (q : Q env mh) : WGs gl c .nil [] env mh Q := W.pure q
theorem wgs_cons {g : G} {gs : Gs} {d : Dt} {ds : List Dt} {Q : Sl → List Ob → Prop} (q : WG gl c g (.d d) env mh fun e mh1 => WGs gl c gs ds e mh1 Q) : WGs gl c (.cons g gs) (d :: ds) env mh Q := W.bind q
theorem wg_sb {o i : E} {v : Val} {Q : Sl → List Ob → Prop} (h : W (evE gl c o env) mh fun x mh1 => W (evE gl c i env) mh1 fun y mh2 => W (setVl x y v) mh2 fun _ mh3 => Q env mh3) : WG gl c (.sb o i) v env mh Q :=
  W.bind (h.mono fun x mh1 h1 => W.bind (h1.mono fun y mh2 h2 => W.bind (h2.mono fun _ mh3 q => W.pure q)))
/-! statements -/
def WS (gl : List (Str × Dt)) (c : Nat → List Val → M Val) (b : Ss) (env : Sl) (mh : List Ob) (Q : Fl → List Ob → Prop) : Prop := W (evSs gl c b env) mh Q
def thenS (gl : List (Str × Dt)) (c : Nat → List Val → M Val) (b : Ss) (Q : Fl → List Ob → Prop) : Fl → List Ob → Prop := fun f mh => match f with
  | .nx e => WS gl c b e mh Q
  | f => Q f mh
end
section
variable {gl : List (Str × Dt)} {c : Nat → List Val → M Val} {env : Sl} {mh : List Ob} {Q : Fl → List Ob → Prop} {b : Ss}
theorem thenS_nx {e : Sl} (h : WS gl c b e mh Q) : thenS gl c b Q (.nx e) mh := h
theorem thenS_rt {v : Val} (h : Q (.rt v) mh) : thenS gl c b Q (.rt v) mh := h
theorem thenS_bk {e : Sl} (h : Q (.bk e) mh) : thenS gl c b Q (.bk e) mh := h
theorem thenS_ct {e : Sl} (h : Q (.ct e) mh) : thenS gl c b Q (.ct e) mh := h
theorem ws_seq {s : S} (h : W (evS gl c s env) mh (thenS gl c b Q)) : WS gl c (.cons s b) env mh Q :=
  W.bind (h.mono fun f mh1 h1 => by
    cases f with
    | nx e => exact h1
    | rt v => exact W.pure h1
    | bk e => exact W.pure h1
    | ct e => exact W.pure h1)
theorem ws_nil (q : Q (.nx env) mh) : WS gl c .nil env mh Q := W.pure q
theorem ws_set {i : Nat} {a : E} (h : W (evE gl c a env) mh fun v mh1 => WS gl c b (env.set i (some v)) mh1 Q) : WS gl c (.cons (.set i a) b) env mh Q :=
  ws_seq (W.bind (h.mono fun v mh1 h1 => W.bind (W.pure (W.pure h1))))
theorem ws_swp {i : Nat} {a : E} (h : W (evE gl c a env) mh fun v mh1 => WS gl c b (env.set i (some v)) mh1 Q) : WS gl c (.cons (.swp i a) b) env mh Q :=
  ws_seq (W.bind (h.mono fun v mh1 h1 => W.bind (W.pure (W.pure h1))))
theorem ws_asg {g : G} {a : E} (h : W (evE gl c a env) mh fun v mh1 => WG gl c g v env mh1 fun e mh2 => WS gl c b e mh2 Q) : WS gl c (.cons (.asg g a) b) env mh Q :=
  ws_seq (W.bind (h.mono fun v mh1 h1 => W.bind (W.mono h1 fun e mh2 h2 => W.pure h2)))
theorem ws_aug {i : Nat} {op : Operator} {a : E} {p : Int} (h0 : env.getD i none = some (.d (.int p))) (h : W (evE gl c a env) mh fun v mh1 => ∃ q, v = .d (.int q) ∧ WS gl c b (env.set i (some (.d (.int (augF op p q))))) mh1 Q) : WS gl c (.cons (.aug i op a) b) env mh Q :=
  ws_seq (W.bind (W.ofO ⟨_, h0, W.bind (h.mono fun v mh1 ⟨q, e, h1⟩ => by subst e; exact W.pure h1)⟩))
theorem ws_expr {a : E} (h : W (evE gl c a env) mh fun v mh1 => WS gl c b env mh1 Q) : WS gl c (.cons (.expr a) b) env mh Q :=
  ws_seq (W.bind (h.mono fun v mh1 h1 => W.pure h1))
theorem ws_ret {a : E} (h : W (evE gl c a env) mh fun v mh1 => Q (.rt v) mh1) : WS gl c (.cons (.ret a) b) env mh Q :=
  ws_seq (W.bind (h.mono fun v mh1 h1 => W.pure h1))
theorem ws_retN (h : Q (.rt (.d .none)) mh) : WS gl c (.cons .retN b) env mh Q := ws_seq (W.bind (W.pure (W.pure h)))
theorem ws_if {t : T} {x y : Ss} (h : WT gl c t env mh fun r mh1 => (r = true → WS gl c x env mh1 (thenS gl c b Q)) ∧ (r = false → WS gl c y env mh1 (thenS gl c b Q))) : WS gl c (.cons (.iff t x y) b) env mh Q :=
  ws_seq (W.bind (W.mono h fun r mh1 ⟨q1, q2⟩ => by cases r; exact q2 rfl; exact q1 rfl))
theorem ws_pass (h : WS gl c b env mh Q) : WS gl c (.cons .pass b) env mh Q := ws_seq (W.pure h)
theorem ws_doc (h : WS gl c b env mh Q) : WS gl c (.cons .doc b) env mh Q := ws_seq (W.pure h)
theorem ws_brk (h : Q (.bk env) mh) : WS gl c (.cons .brk b) env mh Q := ws_seq (W.pure h)
theorem ws_cnt (h : Q (.ct env) mh) : WS gl c (.cons .cnt b) env mh Q := ws_seq (W.pure h)
/-- the turns of a for -/
def WL (gl : List (Str × Dt)) (c : Nat → List Val → M Val) (g : G) (x : Ss) (gd : List (Nat × List Val)) (items : List Val) (env : Sl) (mh : List Ob) (Q : Fl → List Ob → Prop) : Prop := W (loopF gd (evG gl c g) (evSs gl c x) items env) mh Q
theorem ws_for {g : G} {it : I} {x : Ss} (h : WI gl c it env mh fun ix mh1 => WL gl c g x ix.g ix.items env mh1 (thenS gl c b Q)) : WS gl c (.cons (.for g it x) b) env mh Q :=
  ws_seq (W.bind h)
theorem chk_yes {gd : List (Nat × List Val)} (h : gOk gd mh) {R : Unit → List Ob → Prop} (q : R () mh) : W (chkG gd) mh R := ⟨(), mh, by unfold chkG; exact if_pos h, q⟩
theorem wl_nil {g : G} {x : Ss} {gd : List (Nat × List Val)} (hg : gOk gd mh) (q : Q (.nx env) mh) : WL gl c g x gd [] env mh Q := W.bind (chk_yes hg (W.pure q))
def stepL (gl : List (Str × Dt)) (c : Nat → List Val → M Val) (g : G) (x : Ss) (gd : List (Nat × List Val)) (items : List Val) (Q : Fl → List Ob → Prop) : Fl → List Ob → Prop := fun f mh => match f with
  | .nx e => WL gl c g x gd items e mh Q
  | .ct e => WL gl c g x gd items e mh Q
  | .bk e => Q (.nx e) mh
  | .rt r => Q (.rt r) mh
theorem wl_cons {g : G} {x : Ss} {gd : List (Nat × List Val)} {v : Val} {items : List Val} (hg : gOk gd mh) (h : WG gl c g v env mh fun e mh1 => WS gl c x e mh1 (stepL gl c g x gd items Q)) : WL gl c g x gd (v :: items) env mh Q :=
  W.bind (chk_yes hg (W.bind (W.mono h fun e mh1 h1 => W.bind (W.mono h1 fun f mh2 h2 => by
    cases f with
    | nx e => exact h2
    | ct e => exact h2
    | bk e => exact W.pure h2
    | rt r => exact W.pure h2))))
/-- an invariant of a for -/
theorem wl_inv {g : G} {x : Ss} {gd : List (Nat × List Val)} {items : List Val} (I : Nat → Sl → List Ob → Prop) (hg : ∀ i e m, I i e m → gOk gd m) (h0 : I 0 env mh)
    (hs : ∀ i v e m, items[i]? = some v → I i e m → WG gl c g v e m fun e1 m1 => WS gl c x e1 m1 fun f m2 => match f with
      | .nx e2 => I (i + 1) e2 m2 | .ct e2 => I (i + 1) e2 m2 | .bk e2 => Q (.nx e2) m2 | .rt r => Q (.rt r) m2)
    (hq : ∀ e m, I items.length e m → Q (.nx e) m) : WL gl c g x gd items env mh Q := by
  suffices h : ∀ n i e m, items.length - i = n → i ≤ items.length → I i e m → WL gl c g x gd (items.drop i) e m Q from h _ 0 env mh rfl (Nat.zero_le _) h0
  intro n
  induction n with
  | zero =>
    intro i e m hn hi hI
    have : i = items.length := by omega
    subst this
    rw [List.drop_length]
    exact wl_nil (hg _ _ _ hI) (hq _ _ hI)
  | succ n ih =>
    intro i e m hn hi hI
    have hlt : i < items.length := by omega
    rw [List.drop_eq_getElem_cons hlt]
    refine wl_cons (hg _ _ _ hI) ((hs i _ e m (List.getElem?_eq_getElem hlt) hI).mono fun e1 m1 h1 => W.mono h1 fun f m2 h2 => ?_)
    cases f with
    | nx e2 => exact ih (i + 1) e2 m2 (by omega) hlt h2
    | ct e2 => exact ih (i + 1) e2 m2 (by omega) hlt h2
    | bk e2 => exact h2
    | rt r => exact h2
end
section
variable {gl : List (Str × Dt)} {c : Nat → List Val → M Val} {env : Sl} {mh : List Ob} {α : Type} {g : G} {t : T} {el : Sl → M α}
theorem wc_inv {ix : Ix} {Q : List α → List Ob → Prop} (I : Nat → List α → List Ob → Prop) (hg : ∀ i a m, I i a m → gOk ix.g m) (h0 : I 0 [] mh)
    (hs : ∀ i v acc m, ix.items[i]? = some v → I i acc m → WG gl c g v env m fun e1 m1 => WT gl c t e1 m1 fun r m2 => (r = true → W (el e1) m2 fun y m3 => I (i + 1) (acc ++ [y]) m3) ∧ (r = false → I (i + 1) acc m2))
    (hq : ∀ acc m, I ix.items.length acc m → Q acc m) : WC gl c g t el env ix mh Q := by
  obtain ⟨items, gd⟩ := ix
  suffices h : ∀ n i acc m, items.length - i = n → i ≤ items.length → I i acc m → W (loopC gd (evG gl c g) (evT gl c t) el env (items.drop i)) m fun ys m2 => Q (acc ++ ys) m2 from h _ 0 [] mh rfl (Nat.zero_le _) h0
  intro n
  induction n with
  | zero =>
    intro i acc m hn hi hI
    have : i = items.length := by omega
    subst this
    rw [List.drop_length]
    exact W.bind (chk_yes (hg _ _ _ hI) (W.pure (by rw [List.append_nil]; exact hq _ _ hI)))
  | succ n ih =>
    intro i acc m hn hi hI
    have hlt : i < items.length := by omega
    rw [List.drop_eq_getElem_cons hlt]
    refine W.bind (chk_yes (hg _ _ _ hI) (W.bind (W.mono (hs i _ acc m (List.getElem?_eq_getElem hlt) hI) fun e1 m1 h1 => W.bind (W.mono h1 fun r m2 ⟨q1, q2⟩ => ?_))))
    cases r with
    | true => exact W.bind ((q1 rfl).mono fun y m3 h3 => W.bind ((ih (i + 1) (acc ++ [y]) m3 (by omega) hlt h3).mono fun ys m4 h4 => W.pure (by rw [List.append_assoc] at h4; exact h4)))
    | false => exact ih (i + 1) acc m2 (by omega) hlt (q2 rfl)
/-- turns that change nothing and leave nothing out -/
theorem wc_map {β : Type} {gd : List (Nat × List Val)} {xs : List β} {emb : β → Val} {r : β → α} {Q : List α → List Ob → Prop} (hg : gOk gd mh)
    (hs : ∀ x ∈ xs, WG gl c g (emb x) env mh fun e1 m1 => WT gl c t e1 m1 fun b m2 => b = true ∧ W (el e1) m2 fun y m3 => y = r x ∧ m3 = mh) (hq : Q (xs.map r) mh) : WC gl c g t el env ⟨xs.map emb, gd⟩ mh Q := by
  refine wc_inv (ix := ⟨xs.map emb, gd⟩) (fun i acc m => m = mh ∧ acc = (xs.take i).map r) (fun _ _ _ h => by rw [h.1]; exact hg) ⟨rfl, rfl⟩ (fun i v acc m hv ⟨e1, e2⟩ => ?_) (fun acc m h => ?_)
  · have hv : (xs.map emb)[i]? = some v := hv
    rw [List.getElem?_map] at hv
    obtain ⟨x, h1, rfl⟩ := Option.map_eq_some_iff.mp hv
    subst e1
    refine W.mono (hs x (List.mem_of_getElem? h1)) fun e1 m1 h2 => W.mono h2 fun b m2 ⟨hb, h3⟩ => ⟨fun _ => h3.mono fun y m3 ⟨a1, a2⟩ => ⟨a2, ?_⟩, fun z => by rw [z] at hb; cases hb⟩
    rw [e2, a1, List.take_add_one, h1, List.map_append]
    rfl
  · have h : m = mh ∧ acc = (xs.take (xs.map emb).length).map r := h
    rw [List.length_map, List.take_length] at h
    rw [h.1, h.2]
    exact hq
theorem wc_filter {β : Type} {gd : List (Nat × List Val)} {xs : List β} {emb : β → Val} {p : β → Bool} {r : β → α} {Q : List α → List Ob → Prop} (hg : gOk gd mh)
    (hs : ∀ x ∈ xs, WG gl c g (emb x) env mh fun e1 m1 => WT gl c t e1 m1 fun b m2 => b = p x ∧ m2 = mh ∧ (b = true → W (el e1) m2 fun y m3 => y = r x ∧ m3 = mh)) (hq : Q ((xs.filter p).map r) mh) : WC gl c g t el env ⟨xs.map emb, gd⟩ mh Q := by
  refine wc_inv (ix := ⟨xs.map emb, gd⟩) (fun i acc m => m = mh ∧ acc = ((xs.take i).filter p).map r) (fun _ _ _ h => by rw [h.1]; exact hg) ⟨rfl, rfl⟩ (fun i v acc m hv ⟨e1, e2⟩ => ?_) (fun acc m h => ?_)
  · have hv : (xs.map emb)[i]? = some v := hv
    rw [List.getElem?_map] at hv
    obtain ⟨x, h1, rfl⟩ := Option.map_eq_some_iff.mp hv
    subst e1
    refine W.mono (hs x (List.mem_of_getElem? h1)) fun e1 m1 h2 => W.mono h2 fun b m2 ⟨hb, hm, h3⟩ => ⟨fun z => (h3 z).mono fun y m3 ⟨a1, a2⟩ => ⟨a2, ?_⟩, fun z => ⟨hm, ?_⟩⟩
    · rw [e2, a1, List.take_add_one, h1, List.filter_append, List.map_append]
      rw [z] at hb
      simp [← hb]
    · rw [e2, List.take_add_one, h1, List.filter_append, List.map_append]
      rw [z] at hb
      simp [← hb]
  · have h : m = mh ∧ acc = ((xs.take (xs.map emb).length).filter p).map r := h
    rw [List.length_map, List.take_length] at h
    rw [h.1, h.2]
    exact hq
end
end Pv

/-! P15: the draws' state; a def's call; a tactic -/
namespace Pv
open PySem PySem.Spec PyProof.Rows L2

structure Ds where
  sc : List Int
  pos : Int
  acc : Int
  cnt : Int
def St (d : Ds) : Ob := .lst [.d (.list (d.sc.map PyData.int)), .d (.int d.pos), .d (.int d.acc), .d (.int d.cnt)]
theorem cutOk_app {n : Nat} : ∀ (tl os : List Ob), cutOk n tl (tl ++ os)
  | [], _ => trivial
  | o :: tl, os => ⟨.inl rfl, cutOk_app tl os⟩
theorem st_below {n : Nat} (d : Ds) : (St d).below n = true := rfl
section
variable {P : Pg} {gl : List (Str × Dt)} {k f : Nat} {vs : List Val} {d : Df} {Q : Val → List Ob → Prop}
open Classical in
theorem w_body {mh : List Ob} {c : Nat → List Val → M Val} (h : WS gl c d.body (vs.map some ++ List.replicate (d.N.length - vs.length) none) mh fun fl mh' => ∃ x, (fl = .rt (.d x) ∨ ∃ e, fl = .nx e ∧ x = .none) ∧ cutOk mh.length mh mh' ∧ Q (.d x) (mh'.take mh.length)) :
    W (frame (mBody d.N.length (evSs gl c d.body)) vs) mh Q := by
  obtain ⟨fl, mh', e, x, hx, hc, q⟩ := h
  refine ⟨.d x, mh'.take mh.length, ?_, q⟩
  have e2 : mBody d.N.length (evSs gl c d.body) vs mh = some (.d x, mh') := by
    refine M.bind_some.mpr ⟨fl, mh', e, ?_⟩
    rcases hx with rfl | ⟨e, rfl, rfl⟩ <;> rfl
  unfold frame
  rw [e2]
  exact if_pos ⟨hc, by
    show ((mh'.take mh.length).drop mh.length).all _ = true
    rw [List.drop_eq_nil_of_le (by rw [List.length_take]; exact Nat.min_le_left _ _)]; rfl⟩
theorem w_call {mh : List Ob} (hd : P[f]? = some d) (h : W (frame (mBody d.N.length (evSs gl (callP P gl k) d.body)) vs) mh Q) : W (callP P gl (k + 1) f vs) mh Q := by
  unfold callP
  rw [hd]
  exact h
/-- a def that hands data back; of the cells that were there only the state changes -/
theorem w_def {s : Ds} {tl : List Ob} {nm : Str} {ps N : List Str} {body : Ss} {env : Sl} (hd : P[f]? = some ⟨nm, ps, N, body⟩) (he : vs.map some ++ List.replicate (N.length - vs.length) none = env) (h : WS gl (callP P gl k) body env (St s :: tl) fun fl mh' => ∃ x s' os, (fl = .rt (.d x) ∨ ∃ e, fl = .nx e ∧ x = .none) ∧ mh' = St s' :: (tl ++ os) ∧ Q (.d x) (St s' :: tl)) :
    W (callP P gl (k + 1) f vs) (St s :: tl) Q := by
  subst he
  exact w_call hd (w_body (W.mono h fun fl mh' ⟨x, s', os, h1, h2, h3⟩ => by
    subst h2
    refine ⟨x, h1, ⟨.inr (st_below _), cutOk_app _ _⟩, ?_⟩
    show Q _ (St s' :: List.take tl.length (tl ++ os))
    rw [List.take_left]
    exact h3))
theorem fin_rt {s' : Ds} {tl os mh' : List Ob} {x : Dt} (h1 : mh' = St s' :: (tl ++ os)) (h : Q (.d x) (St s' :: tl)) :
    ∃ y t os, (Fl.rt (.d x) = .rt (.d y) ∨ ∃ e, Fl.rt (.d x) = .nx e ∧ y = .none) ∧ mh' = St t :: (tl ++ os) ∧ Q (.d y) (St t :: tl) := ⟨x, s', os, .inl rfl, h1, h⟩
/-- a def that changes nothing -/
theorem w_pure {mh : List Ob} {nm : Str} {ps N : List Str} {body : Ss} {env : Sl} (hd : P[f]? = some ⟨nm, ps, N, body⟩) (he : vs.map some ++ List.replicate (N.length - vs.length) none = env) (h : WS gl (callP P gl k) body env mh fun fl mh' => ∃ x os, (fl = .rt (.d x) ∨ ∃ e, fl = .nx e ∧ x = .none) ∧ mh' = mh ++ os ∧ Q (.d x) mh) :
    W (callP P gl (k + 1) f vs) mh Q := by
  subst he
  exact w_call hd (w_body (W.mono h fun fl mh' ⟨x, os, h1, h2, h3⟩ => by
    subst h2
    refine ⟨x, h1, cutOk_app _ _, ?_⟩
    rw [List.take_left]
    exact h3))
theorem fin_pure {mh : List Ob} {x : Dt} (h : Q (.d x) mh) : ∃ y os, (Fl.rt (.d x) = .rt (.d y) ∨ ∃ e, Fl.rt (.d x) = .nx e ∧ y = .none) ∧ mh = mh ++ os ∧ Q (.d y) mh := ⟨x, [], .inl rfl, (List.append_nil _).symm, h⟩
theorem fin_pure' {mh os : List Ob} {x : Dt} (h : Q (.d x) mh) : ∃ y os', (Fl.rt (.d x) = .rt (.d y) ∨ ∃ e, Fl.rt (.d x) = .nx e ∧ y = .none) ∧ mh ++ os = mh ++ os' ∧ Q (.d y) mh := ⟨x, os, .inl rfl, rfl, h⟩
end
section
variable {gl : List (Str × Dt)} {c : Nat → List Val → M Val} {env : Sl} {mh : List Ob} {Q : Val → List Ob → Prop}
theorem we_ki {i : Int} (q : Q (.d (.int i)) mh) : W (evE gl c (.k (.int i)) env) mh Q := W.pure q
theorem we_ks {i : Str} (q : Q (.d (.str i)) mh) : W (evE gl c (.k (.str i)) env) mh Q := W.pure q
theorem we_kb {i : Bool} (q : Q (.d (.bool i)) mh) : W (evE gl c (.k (.bl i)) env) mh Q := W.pure q
theorem we_kn (q : Q (.d .none) mh) : W (evE gl c (.k .non) env) mh Q := W.pure q
end
section
variable {s : Ds} {tl : List Ob} {i : Int} {Q : Unit → List Ob → Prop}
theorem set_pos (q : Q () (St { s with pos := i } :: tl)) : W (setVl (.ref 0) (.d (.int 1)) (.d (.int i))) (St s :: tl) Q := ⟨(), _, rfl, q⟩
theorem set_acc (q : Q () (St { s with acc := i } :: tl)) : W (setVl (.ref 0) (.d (.int 2)) (.d (.int i))) (St s :: tl) Q := ⟨(), _, rfl, q⟩
theorem set_cnt (q : Q () (St { s with cnt := i } :: tl)) : W (setVl (.ref 0) (.d (.int 3)) (.d (.int i))) (St s :: tl) Q := ⟨(), _, rfl, q⟩
theorem at_sc {R : Val → Prop} (q : R (.d (.list (s.sc.map PyData.int)))) : ∃ v, ixVl (St s :: tl) (.ref 0) (.d (.int 0)) = some v ∧ R v := ⟨_, rfl, q⟩
theorem at_pos {R : Val → Prop} (q : R (.d (.int s.pos))) : ∃ v, ixVl (St s :: tl) (.ref 0) (.d (.int 1)) = some v ∧ R v := ⟨_, rfl, q⟩
theorem at_acc {R : Val → Prop} (q : R (.d (.int s.acc))) : ∃ v, ixVl (St s :: tl) (.ref 0) (.d (.int 2)) = some v ∧ R v := ⟨_, rfl, q⟩
theorem at_cnt {R : Val → Prop} (q : R (.d (.int s.cnt))) : ∃ v, ixVl (St s :: tl) (.ref 0) (.d (.int 3)) = some v ∧ R v := ⟨_, rfl, q⟩
end
section
variable {mh : List Ob} {Q : Val → List Ob → Prop}
theorem wr_mul {i j : Int} (h : MulOk i j) (q : Q (.d (.int (i * j))) mh) : WR false (binF .Mult mh (.d (.int i)) (.d (.int j))) mh Q :=
  wr_v (show (if MulOk i j then some (Rv.v (.d (.int (i * j)))) else none) = _ from if_pos h) q
theorem wr_div {i j : Int} (h : 0 < j) (h2 : j.natAbs < 2 ^ 9000) (q : Q (.d (.int (i / j))) mh) : WR false (binF .FloorDiv mh (.d (.int i)) (.d (.int j))) mh Q := by
  have h : DivOk j := ⟨h, h2⟩
  refine wr_v (x := .d (.int (i / j))) ?_ q
  show ((if DivOk j then some (PyData.int (i / j)) else none).map _) = _
  rw [if_pos h]
  rfl
theorem wr_mod {i j : Int} (h : 0 < j) (q : Q (.d (.int (i % j))) mh) : WR false (binF .Mod mh (.d (.int i)) (.d (.int j))) mh Q := by
  refine wr_v (x := .d (.int (i % j))) ?_ q
  show ((if 0 < j then some (PyData.int (i % j)) else none).map _) = _
  rw [if_pos h]
  rfl
theorem wr_pow {i j : Int} (h : 0 ≤ j ∧ j ≤ 1000000 ∧ i.natAbs < 2 ^ 64) (q : Q (.d (.int (i ^ j.toNat))) mh) : WR false (binF .Pow mh (.d (.int i)) (.d (.int j))) mh Q := by
  refine wr_v (x := .d (.int (i ^ j.toNat))) ?_ q
  show ((if 0 ≤ j ∧ j ≤ 1000000 ∧ i.natAbs < 2 ^ 64 then some (PyData.int (i ^ j.toNat)) else none).map _) = _
  rw [if_pos h]
  rfl
theorem mul64 {i j : Int} (h : j.natAbs < 2 ^ 64) : MulOk i j := .inr (.inl h)
theorem mul64' {i j : Int} (h : i.natAbs < 2 ^ 64) : MulOk i j := .inl h
theorem div64 {j : Int} (h : j.natAbs < 2 ^ 64) : j.natAbs < 2 ^ 9000 := Nat.lt_of_lt_of_le h (Nat.pow_le_pow_right (by decide) (by decide))
end
section
variable {mh : List Ob} {A B : Prop} {a b : Int}
theorem br_by {p : Prop} [Decidable p] {f : Option Rv} (e : f = some (.v (.d (.bool (decide p))))) (h1 : p → A) (h2 : ¬ p → B) : ∃ r, f = some (.v (.d (.bool r))) ∧ (r = true → A) ∧ (r = false → B) :=
  ⟨_, e, fun h => h1 (of_decide_eq_true h), fun h => h2 (of_decide_eq_false h)⟩
theorem br_byN {p : Prop} [Decidable p] {f : Option Rv} (e : f = some (.v (.d (.bool (decide p))))) (h1 : p → B) (h2 : ¬ p → A) : ∃ r, f = some (.v (.d (.bool r))) ∧ ((!r) = true → A) ∧ ((!r) = false → B) :=
  ⟨_, e, fun h => h2 (of_decide_eq_false (by simpa using h)), fun h => h1 (of_decide_eq_true (by simpa using h))⟩
theorem br_gt (h1 : b < a → A) (h2 : ¬ b < a → B) : ∃ r, cmpF .Gt mh (.d (.int a)) (.d (.int b)) = some (.v (.d (.bool r))) ∧ (r = true → A) ∧ (r = false → B) := br_by rfl h1 h2
theorem br_lt (h1 : a < b → A) (h2 : ¬ a < b → B) : ∃ r, cmpF .Lt mh (.d (.int a)) (.d (.int b)) = some (.v (.d (.bool r))) ∧ (r = true → A) ∧ (r = false → B) := br_by rfl h1 h2
theorem br_le (h1 : a ≤ b → A) (h2 : ¬ a ≤ b → B) : ∃ r, cmpF .LtE mh (.d (.int a)) (.d (.int b)) = some (.v (.d (.bool r))) ∧ (r = true → A) ∧ (r = false → B) := br_by rfl h1 h2
theorem br_ge (h1 : b ≤ a → A) (h2 : ¬ b ≤ a → B) : ∃ r, cmpF .GtE mh (.d (.int a)) (.d (.int b)) = some (.v (.d (.bool r))) ∧ (r = true → A) ∧ (r = false → B) := br_by rfl h1 h2
theorem br_eq (h1 : a = b → A) (h2 : ¬ a = b → B) : ∃ r, cmpF .Eq mh (.d (.int a)) (.d (.int b)) = some (.v (.d (.bool r))) ∧ (r = true → A) ∧ (r = false → B) := br_by rfl h1 h2
theorem br_ne (h1 : ¬ a = b → A) (h2 : a = b → B) : ∃ r, cmpF .NotEq mh (.d (.int a)) (.d (.int b)) = some (.v (.d (.bool r))) ∧ (r = true → A) ∧ (r = false → B) :=
  ⟨!decide (a = b), rfl, fun h => h1 (of_decide_eq_false (by simpa using h)), fun h => h2 (of_decide_eq_true (by simpa using h))⟩
theorem br_eqS {x y : Str} (h1 : x = y → A) (h2 : ¬ x = y → B) : ∃ r, cmpF .Eq mh (.d (.str x)) (.d (.str y)) = some (.v (.d (.bool r))) ∧ (r = true → A) ∧ (r = false → B) := br_by rfl h1 h2
theorem br_neS {x y : Str} (h1 : ¬ x = y → A) (h2 : x = y → B) : ∃ r, cmpF .NotEq mh (.d (.str x)) (.d (.str y)) = some (.v (.d (.bool r))) ∧ (r = true → A) ∧ (r = false → B) :=
  ⟨!decide (x = y), rfl, fun h => h1 (of_decide_eq_false (by simpa using h)), fun h => h2 (of_decide_eq_true (by simpa using h))⟩
theorem pick_f (h : B) : (false = true → A) ∧ (false = false → B) := ⟨(nomatch ·), fun _ => h⟩
theorem pick_t (h : A) : (true = true → A) ∧ (true = false → B) := ⟨fun _ => h, (nomatch ·)⟩
/-! arithmetic -/
variable {Q : Val → List Ob → Prop}
theorem wr_add (q : Q (.d (.int (a + b))) mh) : WR false (binF .Add mh (.d (.int a)) (.d (.int b))) mh Q := wr_v rfl q
theorem wr_sub (q : Q (.d (.int (a - b))) mh) : WR false (binF .Sub mh (.d (.int a)) (.d (.int b))) mh Q := wr_v rfl q
theorem wr_int (q : Q (.d (.int a)) mh) : WR false (Bi.f .int mh [.d (.int a)]) mh Q := wr_v rfl q
theorem wr_abs (q : Q (.d (.int (if a < 0 then -a else a))) mh) : WR false (Bi.f .abs mh [.d (.int a)]) mh Q := wr_v rfl q
theorem wr_len {xs : List Dt} (q : Q (.d (.int xs.length)) mh) : WR false (Bi.f .len mh [.d (.list xs)]) mh Q := by
  refine wr_v (x := .d (.int (xs.map Val.d).length)) rfl ?_
  rw [List.length_map]
  exact q
theorem wr_lenT {xs : List Dt} (q : Q (.d (.int xs.length)) mh) : WR false (Bi.f .len mh [.d (.tuple xs)]) mh Q := by
  refine wr_v (x := .d (.int (xs.map Val.d).length)) rfl ?_
  rw [List.length_map]
  exact q
theorem wr_max (q : Q (.d (.int (if b > a then b else a))) mh) : WR false (Bi.f .max mh [.d (.int a), .d (.int b)]) mh Q := wr_v rfl q
theorem atI_nat' {α : Type} {xs : List α} {j : Nat} {v : α} (h : xs[j]? = some v) : atI xs (j : Int) = some v := atI_nat h
theorem ix_list {R : Val → Prop} {xs : List Dt} {j : Nat} {i : Int} {v : Dt} (e : i = (j : Int)) (h : xs[j]? = some v) (q : R (.d v)) : ∃ v, ixVl mh (.d (.list xs)) (.d (.int i)) = some v ∧ R v := by
  subst e
  refine ⟨.d v, ?_, q⟩
  show atI (xs.map Val.d) (j : Int) = _
  exact atI_nat' (by rw [List.getElem?_map, h]; rfl)
theorem ix_tup {R : Val → Prop} {xs : List Dt} {j : Nat} {i : Int} {v : Dt} (e : i = (j : Int)) (h : xs[j]? = some v) (q : R (.d v)) : ∃ v, ixVl mh (.d (.tuple xs)) (.d (.int i)) = some v ∧ R v := by
  subst e
  refine ⟨.d v, ?_, q⟩
  show atI (xs.map Val.d) (j : Int) = _
  exact atI_nat' (by rw [List.getElem?_map, h]; rfl)
end
section
variable {mh : List Ob} {Q : Val → List Ob → Prop}
theorem tup_by {vs : List Val} {ds : List Dt} {R : List Dt → Prop} (h : asDs vs = some ds) (h2 : Nat.ble ds.length sizeLine = true) (q : R ds) : ∃ ds, asDs vs = some ds ∧ ds.length ≤ sizeLine ∧ R ds := ⟨ds, h, Nat.le_of_ble_eq_true h2, q⟩
theorem lst_by {vs : List Val} {A : Prop} (h : Nat.ble vs.length sizeLine = true) (q : A) : vs.length ≤ sizeLine ∧ A := ⟨Nat.le_of_ble_eq_true h, q⟩
theorem wr_nls {vs : List Val} {ds : List Dt} (h : asDs vs = some ds) (q : Q (.d (.list ds)) mh) : WR false (some (.nl vs)) mh Q := ⟨_, rfl, W.ofO ⟨_, by rw [h]; rfl, q⟩⟩
theorem wr_new {vs : List Val} (q : Q (.ref mh.length) (mh ++ [.lst vs])) : WR true (some (.nl vs)) mh Q := wr_cell rfl q
theorem wr_newD {kvs : List (Key × Val)} (q : Q (.ref mh.length) (mh ++ [.dct kvs])) : WR true (some (.nd kvs)) mh Q := wr_dcell rfl q
theorem wr_tup {ds : List Dt} (q : Q (.d (.tuple ds)) mh) : WR false (Bi.f .tuple mh [.d (.list ds)]) mh Q := by
  refine wr_v (x := .d (.tuple ds)) ?_ q
  show ((asDs (ds.map Val.d)).map fun ds => Rv.v (.d (.tuple ds))) = _
  rw [asDs_map]
  rfl
theorem wr_tupT {ds : List Dt} (q : Q (.d (.tuple ds)) mh) : WR false (Bi.f .tuple mh [.d (.tuple ds)]) mh Q := by
  refine wr_v (x := .d (.tuple ds)) ?_ q
  show ((asDs (ds.map Val.d)).map fun ds => Rv.v (.d (.tuple ds))) = _
  rw [asDs_map]
  rfl
end
end Pv

/-! P16: cells that are frozen; dicts by texts; words -/
namespace Pv
open PySem PySem.Spec PyProof.Rows L2

section
variable {gl : List (Str × Dt)} {c : Nat → List Val → M Val} {env : Sl} {mh : List Ob} {Q : Fl → List Ob → Prop} {b : Ss}
theorem ws_frz {i n : Nat} {v : Dt} (h0 : env.getD i none = some (.ref n)) (h : mFrz i env mh = some (.nx (env.set i (some (.d v))), mh.set n .dead)) (q : WS gl c b (env.set i (some (.d v))) (mh.set n .dead) Q) : WS gl c (.frz i b) env mh Q :=
  W.bind ⟨_, _, h, q⟩
theorem frz_lst {i n : Nat} {ds : List Dt} (h0 : env.getD i none = some (.ref n)) (h : mh[n]? = some (.lst (ds.map Val.d))) (q : WS gl c b (env.set i (some (.d (.list ds)))) (mh.set n .dead) Q) : WS gl c (.frz i b) env mh Q := by
  refine ws_frz h0 ?_ q
  unfold mFrz
  rw [h0]
  show (match mh[n]? with | some (.lst vs) => _ | some (.dct kvs) => _ | _ => none : Option (Fl × List Ob)) = _
  rw [h]
  show (asDs (ds.map Val.d)).map _ = _
  rw [asDs_map]
  rfl
theorem frz_dct {i n : Nat} {kvs : List (Key × Val)} {ds : List (Dt × Dt)} (h0 : env.getD i none = some (.ref n)) (h : mh[n]? = some (.dct kvs)) (hd : asDKs kvs = some ds) (q : WS gl c b (env.set i (some (.d (.dict ds)))) (mh.set n .dead) Q) : WS gl c (.frz i b) env mh Q := by
  refine ws_frz h0 ?_ q
  unfold mFrz
  rw [h0]
  show (match mh[n]? with | some (.lst vs) => _ | some (.dct kvs) => _ | _ => none : Option (Fl × List Ob)) = _
  rw [h]
  show (asDKs kvs).map _ = _
  rw [hd]
  rfl
end
/-! a cell at the end of the cells -/
section
variable {mh : List Ob} {o o2 : Ob}
theorem end_get : (mh ++ [o])[mh.length]? = some o := by simp
theorem end_set : (mh ++ [o]).set mh.length o2 = mh ++ [o2] := by simp [List.set_append]
theorem st_get {s : Ds} {tl : List Ob} : (St s :: (tl ++ [o]))[tl.length + 1]? = some o := by simp
theorem st_set {s : Ds} {tl : List Ob} : (St s :: (tl ++ [o])).set (tl.length + 1) o2 = St s :: (tl ++ [o2]) := by simp [List.set_append]
theorem app_end {vs : List Val} {n : Nat} {v : Val} {mh : List Ob} {Q : Val → List Ob → Prop} (h : mh[n]? = some (.lst vs)) (hl : vs.length < sizeLine) (q : Q (.d .none) (mh.set n (.lst (vs ++ [v])))) : W (Mt.f .append (.ref n) [v]) mh Q := by
  refine ⟨.d .none, _, ?_, q⟩
  show (match mh[n]? with | some (.lst vs) => if vs.length < sizeLine then some (Val.d .none, mh.set n (.lst (vs ++ [v]))) else none | _ => none) = _
  rw [h]
  exact if_pos hl
theorem rcv_lst {vs : List Val} {n : Nat} {mh : List Ob} (h : mh[n]? = some (.lst vs)) : rcv "list" (.ref n) mh = true := by
  unfold rcv
  simp only [h]
  rfl
theorem rcv_dct {vs : List (Key × Val)} {n : Nat} {mh : List Ob} (h : mh[n]? = some (.dct vs)) : rcv "dict" (.ref n) mh = true := by
  unfold rcv
  simp only [h]
  rfl
end
/-! ### dicts from texts to whole numbers, as the evaluator holds them -/
section
variable {α : Type} (em : α → Dt)
def mapK (m : List (Str × α)) : List (Key × Val) := m.map fun p => (Sum.inr p.1, .d (em p.2))
def datK (m : List (Str × α)) : Dt := .dict (m.map fun p => (.str p.1, em p.2))
def lkS {α : Type} (m : List (Str × α)) (x : Str) : Option α := (m.find? fun p => decide (p.1 = x)).map (·.2)
def putS {α : Type} (m : List (Str × α)) (x : Str) (v : α) : List (Str × α) := if (m.any fun p => decide (p.1 = x)) = true then m.map fun p => if p.1 = x then (p.1, v) else p else m ++ [(x, v)]
theorem find_mapK (m : List (Str × α)) (x : Str) : findK (mapK em m) (.inr x) = (lkS m x).map fun a => .d (em a) := by
  induction m with
  | nil => rfl
  | cons p m ih =>
    unfold findK lkS mapK at *
    rw [List.map_cons, List.find?_cons, List.find?_cons]
    by_cases h : p.1 = x
    · rw [show decide ((Sum.inr p.1 : Key) = Sum.inr x) = true by rw [h]; simp, show decide (p.1 = x) = true from decide_eq_true h]
      rfl
    · rw [show decide ((Sum.inr p.1 : Key) = Sum.inr x) = false by simp [h], show decide (p.1 = x) = false from decide_eq_false h]
      exact ih
theorem put_mapK (m : List (Str × α)) (x : Str) (v : α) : putV (mapK em m) (.inr x) (.d (em v)) = mapK em (putS m x v) := by
  unfold putV putS mapK
  rw [List.any_map]
  have e : ((fun kv : Key × Val => decide (kv.1 = Sum.inr x)) ∘ fun p : Str × α => (Sum.inr p.1, Val.d (em p.2))) = fun p => decide (p.1 = x) := by
    funext p
    show decide ((Sum.inr p.1 : Key) = Sum.inr x) = decide (p.1 = x)
    by_cases h : p.1 = x <;> simp [h]
  rw [e]
  split
  · rw [List.map_map, List.map_map]
    refine List.map_congr_left fun p _ => ?_
    show (if (Sum.inr p.1 : Key) = Sum.inr x then _ else _) = _
    by_cases h : p.1 = x
    · simp [h]
    · simp [h]
  · rw [List.map_append]
    rfl
theorem unkey_datK (m : List (Str × α)) : unkey (m.map fun p => (.str p.1, em p.2)) = some (mapK em m) := by
  induction m with
  | nil => rfl
  | cons p m ih =>
    show (match keyD (.str p.1), unkey (m.map fun p => (PyData.str p.1, em p.2)) with | some k, some xs => some ((k, Val.d (em p.2)) :: xs) | _, _ => none) = _
    rw [ih]
    rfl
theorem asDKs_mapK (m : List (Str × α)) : asDKs (mapK em m) = some (m.map fun p => (.str p.1, em p.2)) := by
  induction m with
  | nil => rfl
  | cons p m ih =>
    show (match asD (Val.d (em p.2)), asDKs (mapK em m) with | some x, some xs => some ((kD (Sum.inr p.1), x) :: xs) | _, _ => none) = _
    rw [ih]
    rfl
theorem keysS_mapK (m : List (Str × α)) : keysS (mapK em m) = some (m.map (·.1)) := by
  induction m with
  | nil => rfl
  | cons p m ih =>
    show (match keyS (Sum.inr p.1), keysS (mapK em m) with | some k, some xs => some (k :: xs) | _, _ => none) = _
    rw [ih]
    rfl
end
section
variable {α : Type} {m : List (Str × α)} {x y : Str} {v w : α}
theorem lkS_mem (h : lkS m x = some v) : (x, v) ∈ m := by
  unfold lkS at h
  obtain ⟨p, h1, rfl⟩ := Option.map_eq_some_iff.mp h
  have h2 := List.find?_some h1
  have h3 : p.1 = x := of_decide_eq_true h2
  subst h3
  exact List.mem_of_find?_eq_some h1
theorem lkS_of_mem (h : x ∈ m.map (·.1)) : ∃ v, lkS m x = some v := by
  obtain ⟨p, hp, rfl⟩ := List.mem_map.mp h
  unfold lkS
  cases e : m.find? fun q => decide (q.1 = p.1) with
  | some q => exact ⟨q.2, rfl⟩
  | none => exact absurd (show decide (p.1 = p.1) = true from decide_eq_true rfl) (List.find?_eq_none.mp e p hp)
theorem putS_mem {p : Str × α} (h : p ∈ putS m x v) : p ∈ m ∨ p = (x, v) := by
  unfold putS at h
  split at h
  · obtain ⟨q, hq, rfl⟩ := List.mem_map.mp h
    split
    · rename_i e; subst e; exact .inr rfl
    · exact .inl hq
  · rcases List.mem_append.mp h with h | h
    · exact .inl h
    · exact .inr (List.mem_singleton.mp h)
theorem putS_length : (putS m x v).length ≤ m.length + 1 := by
  unfold putS
  split
  · rw [List.length_map]; omega
  · rw [List.length_append]; exact Nat.le_refl _
theorem lkS_put_same : lkS (putS m x v) x = some v := by
  unfold putS
  split
  · rename_i h
    unfold lkS
    induction m with
    | nil => simp at h
    | cons p m ih =>
      rw [List.map_cons, List.find?_cons]
      by_cases hp : p.1 = x
      · rw [if_pos hp, show decide (p.1 = x) = true from decide_eq_true hp]
        rfl
      · rw [if_neg hp, show decide (p.1 = x) = false from decide_eq_false hp]
        refine ih ?_
        rw [List.any_cons, show decide (p.1 = x) = false from decide_eq_false hp, Bool.false_or] at h
        exact h
  · rename_i h
    unfold lkS
    rw [List.find?_append]
    have : m.find? (fun p => decide (p.1 = x)) = none := by
      rw [List.find?_eq_none]
      intro p hp z
      exact h (List.any_eq_true.mpr ⟨p, hp, z⟩)
    rw [this]
    simp
theorem lkS_put_ne (hxy : y ≠ x) : lkS (putS m x v) y = lkS m y := by
  unfold putS
  split
  · unfold lkS
    rename_i hh
    clear hh
    induction m with
    | nil => rfl
    | cons p m ih =>
      rw [List.map_cons, List.find?_cons, List.find?_cons]
      by_cases hp : p.1 = x
      · rw [if_pos hp]
        have : decide (p.1 = y) = false := decide_eq_false fun e => hxy (e.symm.trans hp)
        simp only [this]
        exact ih
      · rw [if_neg hp]
        cases decide (p.1 = y)
        · exact ih
        · rfl
  · unfold lkS
    rw [List.find?_append]
    cases m.find? fun p => decide (p.1 = y) with
    | some q => rfl
    | none => simp [Ne.symm hxy]
end
/-! ### words -/
def Wo (x : Str) : Prop := PySem.PyData.strOk x = true ∧ x.length ≤ 64
theorem wo_app {x y : Str} (hx : PySem.PyData.strOk x = true) (hy : PySem.PyData.strOk y = true) : PySem.PyData.strOk (x ++ y) = true := by
  unfold PySem.PyData.strOk at *
  show ((x.cps ++ y.cps).all _) = true
  rw [Array.all_append, hx, hy]
  rfl
theorem len_app (x y : Str) : (x ++ y).length = x.length + y.length := by
  show (x.cps ++ y.cps).size = _
  rw [Array.size_append]
  rfl
section
variable {mh : List Ob} {Q : Val → List Ob → Prop}
theorem wr_addS {x y : Str} (h : x.length + y.length ≤ sizeLine) (q : Q (.d (.str (x ++ y))) mh) : WR false (binF .Add mh (.d (.str x)) (.d (.str y))) mh Q :=
  wr_v (show (if x.length + y.length ≤ sizeLine then some (Rv.v (.d (.str (x ++ y)))) else none) = _ from if_pos h) q
theorem ixS_str {R : Val → Prop} {z : Str} {j : Nat} {i : Int} {n : Nat} (hl : z.length ≤ sizeLine) (e : i = (j : Int)) (h : z.cps.toList[j]? = some n) (q : R (.d (.str ⟨#[n]⟩))) : ∃ v, ixVl mh (.d (.str z)) (.d (.int i)) = some v ∧ R v := by
  subst e
  refine ⟨_, ?_, q⟩
  show (if z.length ≤ sizeLine then (atI z.cps.toList (j : Int)).map fun c => Val.d (.str ⟨#[c]⟩) else none) = _
  rw [if_pos hl, atI_nat' h]
  rfl
theorem wr_slS {z : Str} {lo hi : Option Int} (h : z.length ≤ sizeLine) (q : Q (.d (.str (cutS z lo hi))) mh) : WR false (slVl mh (.d (.str z)) lo hi) mh Q :=
  wr_v (show (if z.length ≤ sizeLine then some (Rv.v (.d (.str (cutS z lo hi)))) else none) = _ from if_pos h) q
theorem wr_slT {xs : List Dt} {lo hi : Option Int} (q : Q (.d (.tuple (cutG xs lo hi))) mh) : WR false (slVl mh (.d (.tuple xs)) lo hi) mh Q := wr_v rfl q
theorem wr_slL {xs : List Dt} {lo hi : Option Int} (q : Q (.d (.list (cutG xs lo hi))) mh) : WR false (slVl mh (.d (.list xs)) lo hi) mh Q := by
  refine wr_nl ?_ q
  show some (Rv.nl (cutG (xs.map Val.d) lo hi)) = _
  unfold cutG
  rw [List.map_take, List.map_drop, List.length_map]
theorem ix_dct' {α : Type} {em : α → Dt} {R : Val → Prop} {m : List (Str × α)} {x : Str} {a : α} (h : lkS m x = some a) (q : R (.d (em a))) : ∃ v, ixVl mh (.d (datK em m)) (.d (.str x)) = some v ∧ R v := by
  refine ⟨_, ?_, q⟩
  show (match unkey (m.map fun p => (PyData.str p.1, em p.2)) with | some kvs => (keyVl (.d (.str x))).bind (findK kvs) | none => _) = _
  rw [unkey_datK]
  show findK (mapK em m) (.inr x) = _
  rw [find_mapK, h]
  rfl
end
/-! ### data that may be compared -/
def Shp (n : Nat) (d : Dt) : Prop := d.canLay0 = true ∧ d.depth ≤ n
theorem shp_int {n : Nat} (i : Int) : Shp n (.int i) := ⟨by simp only [PyData.canLay0], by simp only [PyData.depth]; exact Nat.zero_le _⟩
theorem shp_str {n : Nat} {x : Str} (h : PyData.strOk x = true) : Shp n (.str x) := ⟨by simp only [PyData.canLay0]; exact h, by simp only [PyData.depth]; exact Nat.zero_le _⟩
theorem shp_all {n : Nat} : ∀ {xs : List Dt}, (∀ x ∈ xs, Shp n x) → PyData.canLayAll0 xs = true ∧ PyData.depthAll xs ≤ n
  | [], _ => ⟨by simp only [PyData.canLayAll0], by simp only [PyData.depthAll]; exact Nat.zero_le _⟩
  | x :: xs, h => by
    obtain ⟨h1, h2⟩ := shp_all fun y hy => h y (List.mem_cons_of_mem _ hy)
    obtain ⟨h3, h4⟩ := h x List.mem_cons_self
    exact ⟨by simp only [PyData.canLayAll0, h1, h3, Bool.and_self], by simp only [PyData.depthAll]; exact Nat.max_le.mpr ⟨h4, h2⟩⟩
theorem shp_tup {n : Nat} {xs : List Dt} (h : ∀ x ∈ xs, Shp n x) : Shp (n + 1) (.tuple xs) := by
  obtain ⟨h1, h2⟩ := shp_all h
  exact ⟨by simp only [PyData.canLay0]; exact h1, by simp only [PyData.depth]; exact Nat.succ_le_succ h2⟩
theorem shp_lst {n : Nat} {xs : List Dt} (h : ∀ x ∈ xs, Shp n x) : Shp (n + 1) (.list xs) := by
  obtain ⟨h1, h2⟩ := shp_all h
  exact ⟨by simp only [PyData.canLay0]; exact h1, by simp only [PyData.depth]; exact Nat.succ_le_succ h2⟩
theorem Shp.mono {n m : Nat} {d : Dt} (h : Shp n d) (hm : n ≤ m) : Shp m d := ⟨h.1, Nat.le_trans h.2 hm⟩
theorem Shp.shaped {n : Nat} {d : Dt} (h : Shp n d) (hn : n ≤ 64) : SeqAt.shaped d = true := by
  show (d.canLay0 && decide (d.depth ≤ 64)) = true
  rw [h.1, decide_eq_true (Nat.le_trans h.2 hn)]
  rfl
section
variable {mh : List Ob}
/-- two tuples -/
theorem eqD_tup {xs ys : List Dt} (h1 : SeqAt.shaped (.tuple xs) = true) (h2 : SeqAt.shaped (.tuple ys) = true) : eqD (.tuple xs) (.tuple ys) = some (PyData.eqv (.tuple xs) (.tuple ys)) := by
  show (if SeqAt.shaped (.tuple xs) = true ∧ SeqAt.shaped (.tuple ys) = true then some (PyData.eqv (.tuple xs) (.tuple ys)) else none) = _
  rw [if_pos ⟨h1, h2⟩]
theorem ne_tup {xs ys : List Dt} (h1 : SeqAt.shaped (.tuple xs) = true) (h2 : SeqAt.shaped (.tuple ys) = true) : cmpF .NotEq mh (.d (.tuple xs)) (.d (.tuple ys)) = some (.v (.d (.bool (!PyData.eqv (.tuple xs) (.tuple ys))))) := by
  show bR ((eqD (.tuple xs) (.tuple ys)).map (!·)) = _
  rw [eqD_tup h1 h2]
  rfl
/-- in a list that is a cell -/
theorem in_cell {n : Nat} {x : Dt} {ys : List Dt} (h : mh[n]? = some (.lst (ys.map Val.d))) (hx : SeqAt.shaped x = true) (hy : SeqAt.shaped (.list ys) = true) (hf : flatD x = false) : inV2 mh (.d x) (.ref n) = some (ys.any fun y => PyData.eqv y x) := by
  have h1 : dctOf mh (.ref n) = none := by unfold dctOf; simp only [h]
  have h2 : seqL mh (.ref n) = some (ys.map Val.d) := by show cellL mh n = _; unfold cellL; simp only [h]
  have h3 : seqA mh (.ref n) = some (ys.map Val.d) := h2
  unfold inV2
  rw [h1]
  simp only
  rw [h3]
  rw [show (some (ys.map Val.d)).bind asDs = some ys from asDs_map ys]
  show ((inSeq x ys).orElse fun _ => if (seqL mh (.ref n)).isNone then none else if SeqAt.shaped x = true ∧ SeqAt.shaped (.list ys) = true then some (ys.any fun y => PyData.eqv y x) else none) = _
  have h4 : inSeq x ys = none := by unfold inSeq; rw [hf]; simp
  rw [h4, h2]
  show (if SeqAt.shaped x = true ∧ SeqAt.shaped (.list ys) = true then some (ys.any fun y => PyData.eqv y x) else none) = _
  rw [if_pos ⟨hx, hy⟩]
theorem notin_cell {n : Nat} {x : Dt} {ys : List Dt} (h : mh[n]? = some (.lst (ys.map Val.d))) (hx : SeqAt.shaped x = true) (hy : SeqAt.shaped (.list ys) = true) (hf : flatD x = false) : cmpF .NotIn mh (.d x) (.ref n) = some (.v (.d (.bool (!ys.any fun y => PyData.eqv y x)))) := by
  show bR ((inV2 mh (.d x) (.ref n)).map (!·)) = _
  rw [in_cell h hx hy hf]
  rfl
theorem len_cell {n : Nat} {ys : List Val} {Q : Val → List Ob → Prop} (h : mh[n]? = some (.lst ys)) (q : Q (.d (.int ys.length)) mh) : WR false (Bi.f .len mh [.ref n]) mh Q := by
  refine wr_v (x := .d (.int ys.length)) ?_ q
  have h1 : dctOf mh (.ref n) = none := by unfold dctOf; simp only [h]
  have h2 : seqA mh (.ref n) = some ys := by show cellL mh n = _; unfold cellL; simp only [h]
  show (match dctOf mh (.ref n) with | some kvs => _ | none => match seqA mh (.ref n) with | some vs => some (Rv.v (.d (.int vs.length))) | none => _) = _
  rw [h1]
  simp only [h2]
theorem ix_cell {n j : Nat} {i : Int} {ys : List Val} {v : Val} {R : Val → Prop} (h : mh[n]? = some (.lst ys)) (e : i = (j : Int)) (hv : ys[j]? = some v) (q : R v) : ∃ v, ixVl mh (.ref n) (.d (.int i)) = some v ∧ R v := by
  subst e
  refine ⟨v, ?_, q⟩
  have h1 : dctOf mh (.ref n) = none := by unfold dctOf; simp only [h]
  have h2 : seqA mh (.ref n) = some ys := by show cellL mh n = _; unfold cellL; simp only [h]
  unfold ixVl
  rw [h1]
  simp only [h2]
  exact atI_nat' hv
theorem cutG_to {α : Type} (xs : List α) (k : Nat) : cutG xs none (some (k : Int)) = xs.take k := by
  unfold cutG
  rw [show HT.sIx xs.length 0 none = 0 from rfl, HT.sIx_nat, List.drop_zero, Nat.sub_zero]
  rcases Nat.le_total k xs.length with h | h
  · rw [Nat.min_eq_left h]
  · rw [Nat.min_eq_right h, List.take_length, List.take_of_length_le h]
theorem cutG_from {α : Type} (xs : List α) (k : Nat) : cutG xs (some (k : Int)) none = xs.drop k := by
  unfold cutG
  rw [show HT.sIx xs.length xs.length none = xs.length from rfl, HT.sIx_nat]
  rcases Nat.le_total k xs.length with h | h
  · rw [Nat.min_eq_left h, List.take_of_length_le (by rw [List.length_drop]; exact Nat.le_refl _)]
  · rw [Nat.min_eq_right h, List.drop_length, List.drop_of_length_le h, List.take_nil]
end
end Pv

/-! P17: rules for draws in comprehensions and loops; ends of defs; words -/
namespace Pv
open PySem PySem.Spec PyProof.Rows L2

theorem big_sz {n : Nat} (h : n < 100000) : n < sizeLine := by have : sizeLine = 16777216 := rfl; omega
theorem items_map {α : Type} (xs : List α) (g : α → Dt) : ((xs.map g).map Val.d) = xs.map fun x => Val.d (g x) := by rw [List.map_map]; rfl
theorem rg_items (n : Nat) : rgItems 0 n = (List.range n).map fun (i : Nat) => Val.d (.int (0 + (i : Int))) := rfl
theorem rg_at {n i : Nat} {v : Val} (h : (rgItems 0 n)[i]? = some v) : i < n ∧ v = .d (.int (i : Int)) := by
  rw [rg_items, List.getElem?_map] at h
  obtain ⟨j, hj, rfl⟩ := Option.map_eq_some_iff.mp h
  obtain ⟨h1, h2⟩ := List.getElem?_eq_some_iff.mp hj
  rw [List.length_range] at h1
  rw [List.getElem_range] at h2
  subst h2
  rw [Int.zero_add]
  exact ⟨h1, rfl⟩
theorem rg_len {n : Nat} : (rgItems 0 n).length = n := by rw [rg_items, List.length_map, List.length_range]
theorem rg_map (n : Nat) : rgItems 0 n = (List.range n).map fun (i : Nat) => Val.d (.int (i : Int)) := by
  rw [rg_items]
  refine List.map_congr_left fun i _ => ?_
  rw [Int.zero_add]
section
variable {R : Ix → Prop} {mh : List Ob}
theorem rg1 {n : Nat} {i : Int} (e : i = (n : Int)) (h : n ≤ 16777216) (q : R ⟨rgItems 0 n, []⟩) : ∃ ix, rng1 [.d (.int i)] = some ix ∧ R ix := by
  subst e
  refine ⟨_, ?_, q⟩
  show (if -(2 ^ 62) ≤ (n : Int) ∧ (n : Int) ≤ 16777216 then some (Ix.mk (rgItems 0 (n : Int).toNat) []) else none) = _
  rw [if_pos (by omega), Int.toNat_natCast]
theorem ix_L {α : Type} {xs : List α} {em : α → Dt} (q : R ⟨xs.map fun x => Val.d (em x), []⟩) : ∃ ix, ixOf mh (.d (.list (xs.map em))) = some ix ∧ R ix := ⟨⟨(xs.map em).map Val.d, []⟩, rfl, by rw [items_map]; exact q⟩
theorem ix_T {α : Type} {xs : List α} {em : α → Dt} (q : R ⟨xs.map fun x => Val.d (em x), []⟩) : ∃ ix, ixOf mh (.d (.tuple (xs.map em))) = some ix ∧ R ix := ⟨⟨(xs.map em).map Val.d, []⟩, rfl, by rw [items_map]; exact q⟩
end
theorem gnil {mh : List Ob} : gOk [] mh := fun _ h => nomatch h
section
variable {gl : List (Str × Dt)} {c : Nat → List Val → M Val} {env : Sl} {α : Type} {g : G} {t : T} {el : Sl → M Val} {s : Ds} {tl : List Ob}
/-- a comprehension whose turns draw -/
theorem wc_gen {items : List Val} {Q : List Val → List Ob → Prop} (emb : α → Dt) (R : Nat → α → Prop)
    (hs : ∀ i v s, items[i]? = some v → WG gl c g v env (St s :: tl) fun e1 m1 => WT gl c t e1 m1 fun b m2 => b = true ∧ W (el e1) m2 fun y m3 => ∃ a s', y = .d (emb a) ∧ m3 = St s' :: tl ∧ R i a)
    (hq : ∀ (as : List α) s', as.length = items.length → (∀ i a, as[i]? = some a → R i a) → Q ((as.map emb).map .d) (St s' :: tl)) : WC gl c g t el env ⟨items, []⟩ (St s :: tl) Q := by
  refine wc_inv (ix := ⟨items, []⟩) (fun i acc m => ∃ (as : List α) (s' : Ds), acc = (as.map emb).map .d ∧ m = St s' :: tl ∧ as.length = i ∧ ∀ j a, as[j]? = some a → R j a) (fun _ _ _ _ => gnil) ⟨[], s, rfl, rfl, rfl, fun j a h => by simp at h⟩ (fun i v acc m hv I => ?_) (fun acc m I => ?_)
  · obtain ⟨as, s', rfl, rfl, h1, h2⟩ := I
    refine W.mono (hs i v s' hv) fun e1 m1 h3 => W.mono h3 fun b m2 ⟨hb, h4⟩ => ⟨fun _ => h4.mono fun y m3 ⟨a, s2, e1, e2, h5⟩ => ?_, fun z => by rw [hb] at z; cases z⟩
    subst e1 e2
    refine ⟨as ++ [a], s2, by rw [List.map_append, List.map_append]; rfl, rfl, by rw [List.length_append, h1]; rfl, fun j b hj => ?_⟩
    by_cases hlt : j < as.length
    · rw [List.getElem?_append_left hlt] at hj
      exact h2 j b hj
    · rw [List.getElem?_append_right (by omega)] at hj
      have : j - as.length = 0 := by
        obtain ⟨hh, _⟩ := List.getElem?_eq_some_iff.mp hj
        simp at hh; omega
      rw [this] at hj
      have : j = i := by omega
      subst this
      cases hj
      exact h5
  · obtain ⟨as, s', rfl, rfl, h1, h2⟩ := I
    exact hq as s' h1 h2
theorem wc_genR {n : Nat} {Q : List Val → List Ob → Prop} (emb : α → Dt) (R : α → Prop)
    (hs : ∀ (i : Nat) s, i < n → WG gl c g (.d (.int (i : Int))) env (St s :: tl) fun e1 m1 => WT gl c t e1 m1 fun b m2 => b = true ∧ W (el e1) m2 fun y m3 => ∃ a s', y = .d (emb a) ∧ m3 = St s' :: tl ∧ R a)
    (hq : ∀ (as : List α) s', as.length = n → (∀ a ∈ as, R a) → Q ((as.map emb).map .d) (St s' :: tl)) : WC gl c g t el env ⟨rgItems 0 n, []⟩ (St s :: tl) Q :=
  wc_gen emb (fun _ => R) (fun i v s hv => by
    obtain ⟨h1, rfl⟩ := rg_at hv
    exact hs i s h1) fun as s' h1 h2 => hq as s' (h1.trans rg_len) fun a ha => by
      obtain ⟨j, hj, e⟩ := List.getElem_of_mem ha
      exact h2 j a (by rw [List.getElem?_eq_getElem hj, e])
theorem wc_genL {β : Type} {xs : List β} {em : β → Val} {Q : List Val → List Ob → Prop} (emb : α → Dt) (R : β → α → Prop)
    (hs : ∀ x s, x ∈ xs → WG gl c g (em x) env (St s :: tl) fun e1 m1 => WT gl c t e1 m1 fun b m2 => b = true ∧ W (el e1) m2 fun y m3 => ∃ a s', y = .d (emb a) ∧ m3 = St s' :: tl ∧ R x a)
    (hq : ∀ (as : List α) s', as.length = xs.length → (∀ (i : Nat) x a, xs[i]? = some x → as[i]? = some a → R x a) → Q ((as.map emb).map .d) (St s' :: tl)) : WC gl c g t el env ⟨xs.map em, []⟩ (St s :: tl) Q :=
  wc_gen emb (fun i a => ∀ x, xs[i]? = some x → R x a) (fun i v s hv => by
    rw [List.getElem?_map] at hv
    obtain ⟨x, h1, rfl⟩ := Option.map_eq_some_iff.mp hv
    refine W.mono (hs x s (List.mem_of_getElem? h1)) fun e1 m1 h3 => W.mono h3 fun b m2 ⟨hb, h4⟩ => ⟨hb, h4.mono fun y m3 ⟨a, s2, e1, e2, h5⟩ => ⟨a, s2, e1, e2, fun y hy => ?_⟩⟩
    rw [h1] at hy
    cases hy
    exact h5) fun as s' h1 h2 => hq as s' (h1.trans (List.length_map _)) fun i x a h3 h4 => h2 i a h4 x h3
/-- the same, some left out -/
theorem wc_genF {β : Type} {xs : List β} {em : β → Val} {Q : List Val → List Ob → Prop} (emb : α → Dt) (R : α → Prop)
    (hs : ∀ x s, x ∈ xs → WG gl c g (em x) env (St s :: tl) fun e1 m1 => WT gl c t e1 m1 fun b m2 => (b = true → W (el e1) m2 fun y m3 => ∃ a s', y = .d (emb a) ∧ m3 = St s' :: tl ∧ R a) ∧ (b = false → ∃ s', m2 = St s' :: tl))
    (hq : ∀ (as : List α) s', as.length ≤ xs.length → (∀ a ∈ as, R a) → Q ((as.map emb).map .d) (St s' :: tl)) : WC gl c g t el env ⟨xs.map em, []⟩ (St s :: tl) Q := by
  refine wc_inv (ix := ⟨xs.map em, []⟩) (fun i acc m => ∃ (as : List α) (s' : Ds), acc = (as.map emb).map .d ∧ m = St s' :: tl ∧ as.length ≤ i ∧ ∀ a ∈ as, R a) (fun _ _ _ _ => gnil) ⟨[], s, rfl, rfl, Nat.le_refl _, fun _ h => nomatch h⟩ (fun i v acc m hv I => ?_) (fun acc m I => ?_)
  · obtain ⟨as, s', rfl, rfl, h1, h2⟩ := I
    have hv : (xs.map em)[i]? = some v := hv
    rw [List.getElem?_map] at hv
    obtain ⟨x, h0, rfl⟩ := Option.map_eq_some_iff.mp hv
    refine W.mono (hs x s' (List.mem_of_getElem? h0)) fun e1 m1 h3 => W.mono h3 fun b m2 ⟨h4, h5⟩ => ⟨fun z => (h4 z).mono fun y m3 ⟨a, s2, e1, e2, h6⟩ => ?_, fun z => ?_⟩
    · subst e1 e2
      refine ⟨as ++ [a], s2, by rw [List.map_append, List.map_append]; rfl, rfl, by rw [List.length_append]; exact Nat.succ_le_succ h1, fun b hb => ?_⟩
      rcases List.mem_append.mp hb with hb | hb
      · exact h2 b hb
      · rw [List.mem_singleton.mp hb]; exact h6
    · obtain ⟨s2, e⟩ := h5 z
      exact ⟨as, s2, rfl, e, Nat.le_succ_of_le h1, h2⟩
  · obtain ⟨as, s', rfl, rfl, h1, h2⟩ := I
    have h1 : as.length ≤ (xs.map em).length := h1
    rw [List.length_map] at h1
    exact hq as s' h1 h2
end
section
variable {gl : List (Str × Dt)} {c : Nat → List Val → M Val} {env : Sl} {mh : List Ob} {Q : Fl → List Ob → Prop} {g : G} {x : Ss}
theorem wl_invR {n : Nat} (I : Nat → Sl → List Ob → Prop) (h0 : I 0 env mh)
    (hs : ∀ (i : Nat) e m, i < n → I i e m → WG gl c g (.d (.int (i : Int))) e m fun e1 m1 => WS gl c x e1 m1 fun f m2 => match f with
      | .nx e2 => I (i + 1) e2 m2 | .ct e2 => I (i + 1) e2 m2 | .bk e2 => Q (.nx e2) m2 | .rt r => Q (.rt r) m2)
    (hq : ∀ e m, I n e m → Q (.nx e) m) : WL gl c g x [] (rgItems 0 n) env mh Q :=
  wl_inv I (fun _ _ _ _ => gnil) h0 (fun i v e m hv hI => by
    obtain ⟨h1, rfl⟩ := rg_at hv
    exact hs i e m h1 hI) fun e m hI => hq e m (by rw [rg_len] at hI; exact hI)
theorem wl_invL {β : Type} {xs : List β} {em : β → Val} (I : Nat → Sl → List Ob → Prop) (h0 : I 0 env mh)
    (hs : ∀ (i : Nat) y e m, xs[i]? = some y → I i e m → WG gl c g (em y) e m fun e1 m1 => WS gl c x e1 m1 fun f m2 => match f with
      | .nx e2 => I (i + 1) e2 m2 | .ct e2 => I (i + 1) e2 m2 | .bk e2 => Q (.nx e2) m2 | .rt r => Q (.rt r) m2)
    (hq : ∀ e m, I xs.length e m → Q (.nx e) m) : WL gl c g x [] (xs.map em) env mh Q :=
  wl_inv I (fun _ _ _ _ => gnil) h0 (fun i v e m hv hI => by
    rw [List.getElem?_map] at hv
    obtain ⟨y, h1, rfl⟩ := Option.map_eq_some_iff.mp hv
    exact hs i y e m h1 hI) fun e m hI => hq e m (by rw [List.length_map] at hI; exact hI)
end
/-! ends of defs -/
section
variable {s' : Ds} {tl os os2 mh : List Ob} {x : Dt} {Q : Val → List Ob → Prop}
theorem fin0 (h : Q (.d x) (St s' :: tl)) : ∃ y t os, (Fl.rt (.d x) = .rt (.d y) ∨ ∃ e, Fl.rt (.d x) = .nx e ∧ y = .none) ∧ St s' :: tl = St t :: (tl ++ os) ∧ Q (.d y) (St t :: tl) := fin_rt (os := []) (by rw [List.append_nil]) h
theorem fin1 (h : Q (.d x) (St s' :: tl)) : ∃ y t os, (Fl.rt (.d x) = .rt (.d y) ∨ ∃ e, Fl.rt (.d x) = .nx e ∧ y = .none) ∧ St s' :: (tl ++ os2) = St t :: (tl ++ os) ∧ Q (.d y) (St t :: tl) := fin_rt rfl h
theorem fin2 {a b : List Ob} (h : Q (.d x) (St s' :: tl)) : ∃ y t os, (Fl.rt (.d x) = .rt (.d y) ∨ ∃ e, Fl.rt (.d x) = .nx e ∧ y = .none) ∧ St s' :: (tl ++ a ++ b) = St t :: (tl ++ os) ∧ Q (.d y) (St t :: tl) := fin_rt (by rw [List.append_assoc]) h
theorem fin3 {a b d : List Ob} (h : Q (.d x) (St s' :: tl)) : ∃ y t os, (Fl.rt (.d x) = .rt (.d y) ∨ ∃ e, Fl.rt (.d x) = .nx e ∧ y = .none) ∧ St s' :: (tl ++ a ++ b ++ d) = St t :: (tl ++ os) ∧ Q (.d y) (St t :: tl) := fin_rt (by rw [List.append_assoc, List.append_assoc]) h
theorem pin0 (h : Q (.d x) mh) : ∃ y os, (Fl.rt (.d x) = .rt (.d y) ∨ ∃ e, Fl.rt (.d x) = .nx e ∧ y = .none) ∧ mh = mh ++ os ∧ Q (.d y) mh := fin_pure h
theorem pin1 (h : Q (.d x) mh) : ∃ y os, (Fl.rt (.d x) = .rt (.d y) ∨ ∃ e, Fl.rt (.d x) = .nx e ∧ y = .none) ∧ mh ++ os2 = mh ++ os ∧ Q (.d y) mh := fin_pure' h
theorem pin2 {a b : List Ob} (h : Q (.d x) mh) : ∃ y os, (Fl.rt (.d x) = .rt (.d y) ∨ ∃ e, Fl.rt (.d x) = .nx e ∧ y = .none) ∧ mh ++ a ++ b = mh ++ os ∧ Q (.d y) mh := ⟨x, a ++ b, .inl rfl, by rw [List.append_assoc], h⟩
theorem wr_listL {Q : Val → List Ob → Prop} {ds : List Dt} (q : Q (.d (.list ds)) mh) : WR false (Bi.f .list mh [.d (.list ds)]) mh Q := wr_nl (ds := ds) rfl q
theorem wr_listT {Q : Val → List Ob → Prop} {ds : List Dt} (q : Q (.d (.list ds)) mh) : WR false (Bi.f .list mh [.d (.tuple ds)]) mh Q := wr_nl (ds := ds) rfl q
theorem yes_and {A : Prop} (h : A) : true = true ∧ A := ⟨rfl, h⟩
theorem isi {A : Prop} {R : Val → List Ob → Prop} {t c : String} (e : tyVal mh (.d x) = some t) (h : R (.d (.bool (isIn t c))) mh) : ∃ ty, tyVal mh (.d x) = some ty ∧ R (.d (.bool (isIn ty c))) mh := ⟨t, e, h⟩
end
section
variable {mh : List Ob} {R : Val → List Ob → Prop} {A B : Prop} {RB : Bool → List Ob → Prop}
theorem isi_int {P : String → Prop} {i : Int} (h : P "int") : ∃ ty, tyVal mh (.d (.int i)) = some ty ∧ P ty := ⟨"int", rfl, h⟩
theorem isi_str {P : String → Prop} {i : Str} (h : P "str") : ∃ ty, tyVal mh (.d (.str i)) = some ty ∧ P ty := ⟨"str", rfl, h⟩
theorem isi_bool {P : String → Prop} {i : Bool} (h : P "bool") : ∃ ty, tyVal mh (.d (.bool i)) = some ty ∧ P ty := ⟨"bool", rfl, h⟩
theorem isi_tup {P : String → Prop} {xs : List Dt} (h : P "tuple") : ∃ ty, tyVal mh (.d (.tuple xs)) = some ty ∧ P ty := ⟨"tuple", rfl, h⟩
theorem isi_lst {P : String → Prop} {xs : List Dt} (h : P "list") : ∃ ty, tyVal mh (.d (.list xs)) = some ty ∧ P ty := ⟨"list", rfl, h⟩
variable {b : Bool} {PB : Bool → Prop}
theorem int_ex {P : Int → Prop} {i : Int} (h : P i) : ∃ j, Val.d (.int i) = .d (.int j) ∧ P j := ⟨i, rfl, h⟩
theorem and_t (e : b = true) (h : A) : ∃ p, Val.d (.bool b) = .d (.bool p) ∧ (p = true → A) ∧ (p = false → B) := ⟨true, by rw [e], fun _ => h, (nomatch ·)⟩
theorem and_f (e : b = false) (h : B) : ∃ p, Val.d (.bool b) = .d (.bool p) ∧ (p = true → A) ∧ (p = false → B) := ⟨false, by rw [e], (nomatch ·), fun _ => h⟩
theorem or_t (e : b = true) (h : B) : ∃ p, Val.d (.bool b) = .d (.bool p) ∧ (p = false → A) ∧ (p = true → B) := ⟨true, by rw [e], (nomatch ·), fun _ => h⟩
theorem or_f (e : b = false) (h : A) : ∃ p, Val.d (.bool b) = .d (.bool p) ∧ (p = false → A) ∧ (p = true → B) := ⟨false, by rw [e], fun _ => h, (nomatch ·)⟩
theorem tru_b (h : PB b) : ∃ r, truVl mh (.d (.bool b)) = some r ∧ PB r := ⟨b, rfl, h⟩
theorem nt_t (e : b = true) (h : PB true) : ∃ c, Val.d (.bool b) = .d (.bool c) ∧ PB c := ⟨true, by rw [e], h⟩
theorem nt_f (e : b = false) (h : PB false) : ∃ c, Val.d (.bool b) = .d (.bool c) ∧ PB c := ⟨false, by rw [e], h⟩
theorem pick_a (e : b = true) (h : A) : (b = true → A) ∧ (b = false → B) := ⟨fun _ => h, fun z => (by rw [e] at z; cases z)⟩
theorem pick_b (e : b = false) (h : B) : (b = true → A) ∧ (b = false → B) := ⟨fun z => (by rw [e] at z; cases z), fun _ => h⟩
theorem pick_c (e : b = true) (h : B) : (b = false → A) ∧ (b = true → B) := ⟨fun z => (by rw [e] at z; cases z), fun _ => h⟩
theorem pick_d (e : b = false) (h : A) : (b = false → A) ∧ (b = true → B) := ⟨fun _ => h, fun z => (by rw [e] at z; cases z)⟩
/-- a test that is known -/
theorem cmp_t {f : Option Rv} (e : f = some (.v (.d (.bool true)))) (h : PB true) : ∃ r, f = some (.v (.d (.bool r))) ∧ PB r := ⟨_, e, h⟩
theorem cmp_f {f : Option Rv} (e : f = some (.v (.d (.bool false)))) (h : PB false) : ∃ r, f = some (.v (.d (.bool r))) ∧ PB r := ⟨_, e, h⟩
end
section
variable {mh : List Ob} {P : Bool → Prop} {a b : Int}
theorem c_by {p : Prop} [Decidable p] {f : Option Rv} (e : f = some (.v (.d (.bool (decide p))))) (h1 : p → P true) (h2 : ¬ p → P false) : ∃ r, f = some (.v (.d (.bool r))) ∧ P r := by
  refine ⟨_, e, ?_⟩
  by_cases h : p
  · rw [decide_eq_true h]; exact h1 h
  · rw [decide_eq_false h]; exact h2 h
theorem c_byN {p : Prop} [Decidable p] {f : Option Rv} (e : f = some (.v (.d (.bool (!decide p))))) (h1 : ¬ p → P true) (h2 : p → P false) : ∃ r, f = some (.v (.d (.bool r))) ∧ P r := by
  refine ⟨_, e, ?_⟩
  by_cases h : p
  · rw [decide_eq_true h]; exact h2 h
  · rw [decide_eq_false h]; exact h1 h
theorem ci_gt (h1 : b < a → P true) (h2 : ¬ b < a → P false) : ∃ r, cmpF .Gt mh (.d (.int a)) (.d (.int b)) = some (.v (.d (.bool r))) ∧ P r := c_by rfl h1 h2
theorem ci_lt (h1 : a < b → P true) (h2 : ¬ a < b → P false) : ∃ r, cmpF .Lt mh (.d (.int a)) (.d (.int b)) = some (.v (.d (.bool r))) ∧ P r := c_by rfl h1 h2
theorem ci_le (h1 : a ≤ b → P true) (h2 : ¬ a ≤ b → P false) : ∃ r, cmpF .LtE mh (.d (.int a)) (.d (.int b)) = some (.v (.d (.bool r))) ∧ P r := c_by rfl h1 h2
theorem ci_ge (h1 : b ≤ a → P true) (h2 : ¬ b ≤ a → P false) : ∃ r, cmpF .GtE mh (.d (.int a)) (.d (.int b)) = some (.v (.d (.bool r))) ∧ P r := c_by rfl h1 h2
theorem ci_eq (h1 : a = b → P true) (h2 : ¬ a = b → P false) : ∃ r, cmpF .Eq mh (.d (.int a)) (.d (.int b)) = some (.v (.d (.bool r))) ∧ P r := c_by rfl h1 h2
theorem ci_ne (h1 : ¬ a = b → P true) (h2 : a = b → P false) : ∃ r, cmpF .NotEq mh (.d (.int a)) (.d (.int b)) = some (.v (.d (.bool r))) ∧ P r := c_byN rfl h1 h2
theorem cs_eq {x y : Str} (h1 : x = y → P true) (h2 : ¬ x = y → P false) : ∃ r, cmpF .Eq mh (.d (.str x)) (.d (.str y)) = some (.v (.d (.bool r))) ∧ P r := c_by rfl h1 h2
theorem cs_ne {x y : Str} (h1 : ¬ x = y → P true) (h2 : x = y → P false) : ∃ r, cmpF .NotEq mh (.d (.str x)) (.d (.str y)) = some (.v (.d (.bool r))) ∧ P r := c_byN rfl h1 h2
end
theorem wr_addT {mh : List Ob} {Q : Val → List Ob → Prop} {xs ys : List Dt} (h : xs.length + ys.length ≤ sizeLine) (q : Q (.d (.tuple (xs ++ ys))) mh) : WR false (binF .Add mh (.d (.tuple xs)) (.d (.tuple ys))) mh Q :=
  wr_v (show (if xs.length + ys.length ≤ sizeLine then some (Rv.v (.d (.tuple (xs ++ ys)))) else none) = _ from if_pos h) q
theorem wr_addL {mh : List Ob} {Q : Val → List Ob → Prop} {xs ys : List Dt} (h : xs.length + ys.length ≤ sizeLine) (q : Q (.d (.list (xs ++ ys))) mh) : WR false (binF .Add mh (.d (.list xs)) (.d (.list ys))) mh Q := by
  refine wr_nl (ds := xs ++ ys) ?_ q
  show (if (xs.map Val.d).length + (ys.map Val.d).length ≤ sizeLine then some (Rv.nl (xs.map Val.d ++ ys.map Val.d)) else none) = _
  rw [List.length_map, List.length_map, if_pos h, List.map_append]
/-- a list in a cell and a list, in a new cell -/
theorem wr_catC {mh : List Ob} {Q : Val → List Ob → Prop} {n : Nat} {xs ys : List Dt} (h : mh[n]? = some (.lst (xs.map Val.d))) (hl : xs.length + ys.length ≤ sizeLine) (q : Q (.ref mh.length) (mh ++ [.lst ((xs ++ ys).map Val.d)])) : WR true (binF .Add mh (.ref n) (.d (.list ys))) mh Q := by
  refine wr_cell (vs := (xs ++ ys).map Val.d) ?_ q
  have h1 : seqL mh (.ref n) = some (xs.map Val.d) := by show cellL mh n = _; unfold cellL; simp only [h]
  show (match seqL mh (.ref n), seqL mh (.d (.list ys)) with | some xs, some ys => if xs.length + ys.length ≤ sizeLine then some (Rv.nl (xs ++ ys)) else none | _, _ => none) = _
  rw [h1]
  show (if (xs.map Val.d).length + (ys.map Val.d).length ≤ sizeLine then some (Rv.nl (xs.map Val.d ++ ys.map Val.d)) else none) = _
  rw [List.length_map, List.length_map, if_pos hl, List.map_append]
/-! lists with a cell at the end, behind frozen ones -/
section
variable {o o2 : Ob} {s : Ds} {tl : List Ob} {a : List Ob}
theorem st_get2 : (St s :: (tl ++ a ++ [o]))[(tl ++ a).length + 1]? = some o := st_get
theorem cons_get {o : Ob} {tl os : List Ob} {m : Nat} {r : Ob} (h : tl[m]? = some r) : (o :: (tl ++ os))[m + 1]? = some r := by
  show (tl ++ os)[m]? = _
  rw [List.getElem?_append_left (List.getElem?_eq_some_iff.mp h).1]
  exact h
end
section
variable {o : Ob} {s : Ds} {tl os : List Ob} {j : Nat}
theorem os_get (h : os[j]? = some o) : (St s :: (tl ++ os))[tl.length + 1 + j]? = some o := by
  rw [show tl.length + 1 + j = (tl.length + j) + 1 by omega, List.getElem?_cons_succ, List.getElem?_append_right (by omega), show tl.length + j - tl.length = j by omega]
  exact h
theorem os_set : (St s :: (tl ++ os)).set (tl.length + 1 + j) o = St s :: (tl ++ os.set j o) := by
  rw [show tl.length + 1 + j = (tl.length + j) + 1 by omega, List.set_cons_succ, List.set_append_right _ _ (by omega), show tl.length + j - tl.length = j by omega]
theorem os_len : (St s :: (tl ++ os)).length = tl.length + 1 + os.length := by rw [List.length_cons, List.length_append]; omega
theorem os_new : St s :: (tl ++ os) ++ [o] = St s :: (tl ++ (os ++ [o])) := by rw [List.cons_append, List.append_assoc]
theorem os_end : (os ++ [o])[os.length]? = some o := by simp
end
theorem nodup_map {α β : Type} {f : α → β} : ∀ {xs : List α}, (∀ a ∈ xs, ∀ b ∈ xs, f a = f b → a = b) → xs.Nodup → (xs.map f).Nodup
  | [], _, _ => List.nodup_nil
  | x :: xs, h, n => by
    rw [List.nodup_cons] at n
    rw [List.map_cons, List.nodup_cons]
    refine ⟨fun hm => ?_, nodup_map (fun a ha b hb => h a (List.mem_cons_of_mem _ ha) b (List.mem_cons_of_mem _ hb)) n.2⟩
    obtain ⟨y, hy, e⟩ := List.mem_map.mp hm
    have := h y (List.mem_cons_of_mem _ hy) x (List.mem_cons_self) e
    subst this
    exact n.1 hy
def strD (ws : List Str) : Dt := .list (ws.map .str)
def strT (ws : List Str) : Dt := .tuple (ws.map .str)
/-! ### plain data: whole numbers, texts and tuples of such -/
mutual
def plD : Dt → Bool
  | .int _ => true
  | .str _ => true
  | .tuple xs => decide (xs.length < 1000000) && plAll xs
  | _ => false
def plAll : List Dt → Bool
  | [] => true
  | x :: xs => plD x && plAll xs
end
theorem plAll_iff : ∀ {xs : List Dt}, plAll xs = true ↔ ∀ x ∈ xs, plD x = true
  | [] => by simp [plAll]
  | x :: xs => by simp [plAll, plAll_iff (xs := xs)]
theorem pl_tup {xs : List Dt} (h : xs.length < 1000000) (h2 : ∀ x ∈ xs, plD x = true) : plD (.tuple xs) = true := by
  simp only [plD, Bool.and_eq_true, decide_eq_true_eq]
  exact ⟨h, plAll_iff.mpr h2⟩
theorem depth_tup {n : Nat} : ∀ {xs : List Dt}, (∀ x ∈ xs, x.depth ≤ n) → PyData.depthAll xs ≤ n
  | [], _ => by simp [PyData.depthAll]
  | x :: xs, h => by
    simp only [PyData.depthAll]
    exact Nat.max_le.mpr ⟨h x List.mem_cons_self, depth_tup fun y hy => h y (List.mem_cons_of_mem _ hy)⟩
theorem le_depthAll : ∀ {xs : List Dt} {x : Dt}, x ∈ xs → x.depth ≤ PyData.depthAll xs
  | y :: ys, x, h => by
    simp only [PyData.depthAll]
    rcases List.mem_cons.mp h with rfl | h
    · exact Nat.le_max_left _ _
    · exact Nat.le_trans (le_depthAll h) (Nat.le_max_right _ _)
/-- plain data of a depth -/
def Pl (n : Nat) (d : Dt) : Prop := plD d = true ∧ d.depth ≤ n
theorem pl_int {n : Nat} (i : Int) : Pl n (.int i) := ⟨rfl, by simp [PyData.depth]⟩
theorem pl_str {n : Nat} (x : Str) : Pl n (.str x) := ⟨rfl, by simp [PyData.depth]⟩
theorem pl_T {n : Nat} {xs : List Dt} (h : xs.length < 1000000) (h2 : ∀ x ∈ xs, Pl n x) : Pl (n + 1) (.tuple xs) :=
  ⟨pl_tup h fun x hx => (h2 x hx).1, by simp only [PyData.depth]; exact Nat.succ_le_succ (depth_tup fun x hx => (h2 x hx).2)⟩
theorem Pl.mono {n m : Nat} {d : Dt} (h : Pl n d) (hm : n ≤ m) : Pl m d := ⟨h.1, Nat.le_trans h.2 hm⟩
end Pv
local macro_rules | `(tactic| walk_at "pv one") => `(tactic| first
  | with_reducible refine Pv.we_ki ?_
  | with_reducible refine Pv.we_ks ?_
  | with_reducible refine Pv.we_kb ?_
  | with_reducible refine Pv.we_kn ?_
  | with_reducible refine Pv.we_neg ?_
  | with_reducible refine Pv.we_nt ?_
  | with_reducible refine Pv.we_bin ?_
  | with_reducible refine Pv.we_cmp ?_
  | with_reducible refine Pv.we_one ?_
  | with_reducible refine Pv.we_and ?_
  | with_reducible refine Pv.we_or ?_
  | with_reducible refine Pv.we_ifeT ?_
  | with_reducible refine Pv.we_tup ?_
  | with_reducible refine Pv.we_lst ?_
  | with_reducible refine Pv.we_dict0 ?_
  | with_reducible refine Pv.we_ix ?_
  | with_reducible refine Pv.we_sl ?_
  | with_reducible refine Pv.we_call ?_
  | with_reducible refine Pv.we_bi ?_
  | with_reducible refine Pv.we_isin ?_
  | with_reducible refine Pv.we_meth ?_
  | with_reducible refine Pv.we_rev ?_
  | with_reducible refine Pv.we_lc ?_
  | with_reducible refine Pv.we_dc ?_
  | with_reducible refine Pv.w_kv ?_
  | with_reducible refine Pv.wa_nil ?_
  | with_reducible refine Pv.wa_cons ?_
  | with_reducible refine Pv.wo_none ?_
  | with_reducible refine Pv.wi_val ?_
  | with_reducible refine Pv.wi_range1 ?_
  | with_reducible refine Pv.wi_range2 ?_
  | with_reducible refine Pv.wi_zip ?_
  | with_reducible refine Pv.wi_zip3 ?_
  | with_reducible refine Pv.wi_enumT ?_
  | with_reducible refine Pv.wt_yes ?_
  | with_reducible refine Pv.wt_cmp ?_
  | with_reducible refine Pv.wt_tru ?_
  | with_reducible refine Pv.wt_nt ?_
  | with_reducible refine Pv.wt_one ?_
  | with_reducible refine Pv.wt_and ?_
  | with_reducible refine Pv.wt_or ?_
  | with_reducible refine Pv.wg_nm ?_
  | with_reducible refine Pv.wgs_nil ?_
  | with_reducible refine Pv.wgs_cons ?_
  | with_reducible refine Pv.wg_sb ?_
  | with_reducible refine Pv.ws_nil ?_
  | with_reducible refine Pv.ws_set ?_
  | with_reducible refine Pv.ws_swp ?_
  | with_reducible refine Pv.ws_asg ?_
  | with_reducible refine Pv.ws_expr ?_
  | with_reducible refine Pv.ws_ret ?_
  | with_reducible refine Pv.ws_retN ?_
  | with_reducible refine Pv.ws_if ?_
  | with_reducible refine Pv.ws_pass ?_
  | with_reducible refine Pv.ws_doc ?_
  | with_reducible refine Pv.ws_brk ?_
  | with_reducible refine Pv.ws_cnt ?_
  | with_reducible refine Pv.ws_for ?_
  | with_reducible refine Pv.thenS_nx ?_
  | with_reducible refine Pv.thenS_rt ?_
  | with_reducible refine Pv.thenS_bk ?_
  | with_reducible refine Pv.thenS_ct ?_
  | ((with_reducible refine Pv.tup_by (ds := ?ds) ?h ?h2 ?_); (case h => rfl); (case h2 => rfl))
  | ((with_reducible refine Pv.lst_by ?h ?_); (case h => rfl))
  | ((with_reducible refine Pv.wr_nls (ds := ?ds) ?h ?_); (case h => rfl))
  | with_reducible refine Pv.wr_new ?_
  | with_reducible refine Pv.wr_newD ?_
  | with_reducible refine Pv.wr_tup ?_
  | with_reducible refine Pv.wr_tupT ?_
  | with_reducible refine Pv.wr_add ?_
  | with_reducible refine Pv.wr_sub ?_
  | with_reducible refine Pv.wr_int ?_
  | with_reducible refine Pv.wr_abs ?_
  | with_reducible refine Pv.wr_len ?_
  | with_reducible refine Pv.wr_lenT ?_
  | with_reducible refine Pv.wr_max ?_
  | with_reducible refine Pv.yes_and ?_
  | with_reducible refine Pv.wr_listL ?_
  | with_reducible refine Pv.wr_listT ?_
  | with_reducible refine Pv.pin0 ?_
  | with_reducible refine Pv.pin1 ?_
  | with_reducible refine Pv.fin0 ?_
  | with_reducible refine Pv.fin1 ?_
  | with_reducible refine Pv.fin2 ?_
  | with_reducible refine Pv.fin3 ?_
  | with_reducible refine Pv.wr_slT ?_
  | with_reducible refine Pv.wr_slL ?_
  | with_reducible refine Pv.tru_b ?_
  | with_reducible refine Pv.int_ex ?_
  | with_reducible refine Pv.isi_int ?_
  | with_reducible refine Pv.isi_str ?_
  | with_reducible refine Pv.isi_tup ?_
  | with_reducible refine Pv.isi_bool ?_
  | with_reducible refine Pv.isi_lst ?_
  | with_reducible refine Pv.pick_f ?_
  | with_reducible refine Pv.pick_t ?_
  | with_reducible refine Pv.at_sc ?_
  | with_reducible refine Pv.at_pos ?_
  | with_reducible refine Pv.at_acc ?_
  | with_reducible refine Pv.at_cnt ?_
  | with_reducible refine Pv.set_pos ?_
  | with_reducible refine Pv.set_acc ?_
  | with_reducible refine Pv.set_cnt ?_
  | ((with_reducible refine Pv.and_t ?h ?_); (case h => decide))
  | ((with_reducible refine Pv.and_f ?h ?_); (case h => decide))
  | ((with_reducible refine Pv.or_t ?h ?_); (case h => decide))
  | ((with_reducible refine Pv.or_f ?h ?_); (case h => decide))
  | ((with_reducible refine Pv.nt_t ?h ?_); (case h => decide))
  | ((with_reducible refine Pv.nt_f ?h ?_); (case h => decide))
  | ((with_reducible refine Pv.pick_a ?h ?_); (case h => decide))
  | ((with_reducible refine Pv.pick_b ?h ?_); (case h => decide))
  | ((with_reducible refine Pv.pick_c ?h ?_); (case h => decide))
  | ((with_reducible refine Pv.pick_d ?h ?_); (case h => decide))
  | ((with_reducible refine Pv.we_slot (v := ?v) ?h ?_); (case h => rfl))
  | ((with_reducible refine Pv.we_glob (x := ?x) (d := ?d) ?h ?_); (case h => rfl))
  | ((with_reducible refine Pv.wo_some ?h ?_); (case h => rfl))
  | ((with_reducible refine Pv.wg_tp ?h ?_); (case h => rfl))
  | ((with_reducible refine Pv.ws_aug (p := ?p) ?h ?_); (case h => rfl))
  | ((with_reducible refine Pv.wr_mul ?h ?_); (case h => exact Pv.mul64 (by decide)))
  | ((with_reducible refine Pv.wr_div ?h ?h2 ?_); (case h => first | assumption | decide); (case h2 => exact Pv.div64 (by first | assumption | decide)))
  | ((with_reducible refine Pv.wr_mod ?h ?_); (case h => first | assumption | decide))
  | ((with_reducible refine Pv.wr_pow ?h ?_); (case h => decide))
  | ((with_reducible refine Pv.wr_v (x := ?x) ?h ?_); (case h => rfl)))
local macro_rules | `(tactic| walk_at "pv all") => `(tactic| repeat walk_at "pv one")
local macro_rules | `(tactic| walk_at "pv eq") => `(tactic| ((refine ⟨?w, ?h, ?_⟩); (case h => rfl)))

/-! P18: what is equal, what is in: plain data -/
namespace Pv
open PySem PySem.Spec PyProof.Rows L2
mutual
theorem eqv_pl : ∀ (x y : Dt), plD x = true → plD y = true → (PyData.eqv x y = true ↔ x = y)
  | .int i, .int j, _, _ => by simp [PyData.eqv]
  | .str i, .str j, _, _ => by simp [PyData.eqv]
  | .tuple xs, .tuple ys, hx, hy => by
    simp only [plD, Bool.and_eq_true, decide_eq_true_eq] at hx hy
    simp only [PyData.eqv, PyData.tuple.injEq]
    exact eqvAll_pl xs ys hx.2 hy.2
  | .int i, .str j, _, _ => by simp [PyData.eqv]
  | .int i, .tuple j, _, _ => by simp [PyData.eqv]
  | .str i, .int j, _, _ => by simp [PyData.eqv]
  | .str i, .tuple j, _, _ => by simp [PyData.eqv]
  | .tuple i, .int j, _, _ => by simp [PyData.eqv]
  | .tuple i, .str j, _, _ => by simp [PyData.eqv]
  | .none, _, h, _ => by simp [plD] at h
  | .bool _, _, h, _ => by simp [plD] at h
  | .list _, _, h, _ => by simp [plD] at h
  | .dict _, _, h, _ => by simp [plD] at h
  | _, .none, _, h => by simp [plD] at h
  | _, .bool _, _, h => by simp [plD] at h
  | _, .list _, _, h => by simp [plD] at h
  | _, .dict _, _, h => by simp [plD] at h
theorem eqvAll_pl : ∀ (xs ys : List Dt), plAll xs = true → plAll ys = true → (PyData.eqvAll xs ys = true ↔ xs = ys)
  | [], [], _, _ => by simp [PyData.eqvAll]
  | [], y :: ys, _, _ => by simp [PyData.eqvAll]
  | x :: xs, [], _, _ => by simp [PyData.eqvAll]
  | x :: xs, y :: ys, hx, hy => by
    simp only [plAll, Bool.and_eq_true] at hx hy
    simp only [PyData.eqvAll, Bool.and_eq_true, List.cons.injEq, eqv_pl x y hx.1 hy.1, eqvAll_pl xs ys hx.2 hy.2]
end
/-- plain data whose texts are texts, of a depth -/
def Ps (n : Nat) (d : Dt) : Prop := plD d = true ∧ d.canLay0 = true ∧ d.depth ≤ n
theorem ps_int {n : Nat} (i : Int) : Ps n (.int i) := ⟨rfl, (shp_int (n := n) i).1, (shp_int i).2⟩
theorem ps_str {n : Nat} {x : Str} (h : PyData.strOk x = true) : Ps n (.str x) := ⟨rfl, (shp_str (n := n) h).1, (shp_str h).2⟩
theorem ps_T {n : Nat} {xs : List Dt} (h : xs.length < 1000000) (h2 : ∀ x ∈ xs, Ps n x) : Ps (n + 1) (.tuple xs) :=
  ⟨pl_tup h fun x hx => (h2 x hx).1, (shp_tup (n := n) fun x hx => ⟨(h2 x hx).2.1, (h2 x hx).2.2⟩).1, (shp_tup fun x hx => ⟨(h2 x hx).2.1, (h2 x hx).2.2⟩).2⟩
theorem ps_ints {n : Nat} {xs : List Int} (h : xs.length < 1000000) : Ps (n + 1) (.tuple (xs.map .int)) := ps_T (by rw [List.length_map]; exact h) fun x hx => by
  obtain ⟨i, _, rfl⟩ := List.mem_map.mp hx
  exact ps_int i
theorem Ps.mono {n m : Nat} {d : Dt} (h : Ps n d) (hm : n ≤ m) : Ps m d := ⟨h.1, h.2.1, Nat.le_trans h.2.2 hm⟩
theorem Ps.pl {n : Nat} {d : Dt} (h : Ps n d) : Pl n d := ⟨h.1, h.2.2⟩
theorem Ps.shp {n : Nat} {d : Dt} (h : Ps n d) : Shp n d := ⟨h.2.1, h.2.2⟩
theorem Ps.shaped {n : Nat} {d : Dt} (h : Ps n d) (hn : n ≤ 64) : SeqAt.shaped d = true := h.shp.shaped hn
section
variable {mh : List Ob} {P : Bool → Prop} {x y : Dt} {n : Nat}
theorem eqD_pl (hx : Ps 60 x) (hy : Ps 60 y) : eqD x y = some (PyData.eqv x y) := by
  have sx := hx.shaped (by decide)
  have sy := hy.shaped (by decide)
  have e : (if SeqAt.shaped x = true ∧ SeqAt.shaped y = true then some (PyData.eqv x y) else none) = some (PyData.eqv x y) := if_pos ⟨sx, sy⟩
  cases x <;> cases y <;> first | exact e | (simp [eqD, PyData.eqv]; done) | (rename_i a b; by_cases h : a = b <;> simp [eqD, PyData.eqv, h]; done) | exact absurd hx.1 (by simp [plD]) | exact absurd hy.1 (by simp [plD])
theorem cd_eq (hx : Ps 60 x) (hy : Ps 60 y) (h1 : x = y → P true) (h2 : x ≠ y → P false) : ∃ r, cmpF .Eq mh (.d x) (.d y) = some (.v (.d (.bool r))) ∧ P r := by
  refine ⟨PyData.eqv x y, ?_, ?_⟩
  · show bR (eqD x y) = _
    rw [eqD_pl hx hy]; rfl
  · have := eqv_pl x y hx.1 hy.1
    cases e : PyData.eqv x y with
    | true => exact h1 (this.mp e)
    | false => exact h2 fun z => by rw [this.mpr z] at e; cases e
theorem cd_ne (hx : Ps 60 x) (hy : Ps 60 y) (h1 : x ≠ y → P true) (h2 : x = y → P false) : ∃ r, cmpF .NotEq mh (.d x) (.d y) = some (.v (.d (.bool r))) ∧ P r := by
  refine ⟨!PyData.eqv x y, ?_, ?_⟩
  · show bR ((eqD x y).map (!·)) = _
    rw [eqD_pl hx hy]; rfl
  · have := eqv_pl x y hx.1 hy.1
    cases e : PyData.eqv x y with
    | true => exact h2 (this.mp e)
    | false => exact h1 fun z => by rw [this.mpr z] at e; cases e
theorem any_eqv {ys : List Dt} (hx : plD x = true) (hy : ∀ y ∈ ys, plD y = true) : (ys.any fun y => PyData.eqv y x) = true ↔ x ∈ ys := by
  rw [List.any_eq_true]
  constructor
  · rintro ⟨y, h1, h2⟩
    rw [← (eqv_pl y x (hy y h1) hx).mp h2]; exact h1
  · intro h
    exact ⟨x, h, (eqv_pl x x hx hx).mpr rfl⟩
theorem inV2_T {ys : List Dt} (hx : plD x = true) (fx : flatD x = true) (fy : ∀ y ∈ ys, flatD y = true) : inV2 mh (.d x) (.d (.tuple ys)) = some (ys.any fun y => PyData.eqv y x) := by
  have h2 : ((seqA mh (.d (.tuple ys))).bind asDs) = some ys := asDs_map ys
  unfold inV2
  rw [show dctOf mh (.d (.tuple ys)) = none from rfl]
  simp only [h2]
  have : inSeq x ys = some (ys.any fun y => PyData.eqv y x) := if_pos ⟨fx, List.all_eq_true.mpr fy⟩
  simp only [this]
  rfl
theorem inV2_L {ys : List Dt} (hx : plD x = true) (sx : SeqAt.shaped x = true) (sy : SeqAt.shaped (.list ys) = true) : inV2 mh (.d x) (.d (.list ys)) = some (ys.any fun y => PyData.eqv y x) := by
  have h2 : ((seqA mh (.d (.list ys))).bind asDs) = some ys := asDs_map ys
  unfold inV2
  rw [show dctOf mh (.d (.list ys)) = none from rfl]
  simp only [h2]
  by_cases h : flatD x = true ∧ ys.all flatD = true
  · have e : inSeq x ys = some (ys.any fun y => PyData.eqv y x) := if_pos h
    rw [e]; rfl
  · have e : inSeq x ys = none := if_neg h
    rw [e]
    show (if (some (ys.map Val.d)).isNone = true then none else if SeqAt.shaped x = true ∧ SeqAt.shaped (.list ys) = true then some (ys.any fun y => PyData.eqv y x) else none) = _
    have e2 : (some (ys.map Val.d)).isNone = false := rfl
    rw [e2, if_neg (by decide), if_pos ⟨sx, sy⟩]
/-- in a tuple of texts and whole numbers -/
theorem cd_inT {ys : List Dt} (hx : plD x = true) (fx : flatD x = true) (hy : ∀ y ∈ ys, plD y = true ∧ flatD y = true) (h1 : x ∈ ys → P true) (h2 : x ∉ ys → P false) : ∃ r, cmpF .In mh (.d x) (.d (.tuple ys)) = some (.v (.d (.bool r))) ∧ P r := by
  refine ⟨ys.any fun y => PyData.eqv y x, ?_, ?_⟩
  · show bR (inV2 mh (.d x) (.d (.tuple ys))) = _
    rw [inV2_T hx fx fun y h => (hy y h).2]; rfl
  · have := any_eqv (x := x) hx fun y h => (hy y h).1
    cases e : (ys.any fun y => PyData.eqv y x) with
    | true => exact h1 (this.mp e)
    | false => exact h2 fun z => by rw [this.mpr z] at e; cases e
theorem cd_ninT {ys : List Dt} (hx : plD x = true) (fx : flatD x = true) (hy : ∀ y ∈ ys, plD y = true ∧ flatD y = true) (h1 : x ∉ ys → P true) (h2 : x ∈ ys → P false) : ∃ r, cmpF .NotIn mh (.d x) (.d (.tuple ys)) = some (.v (.d (.bool r))) ∧ P r := by
  refine ⟨!ys.any fun y => PyData.eqv y x, ?_, ?_⟩
  · show bR ((inV2 mh (.d x) (.d (.tuple ys))).map (!·)) = _
    rw [inV2_T hx fx fun y h => (hy y h).2]; rfl
  · have := any_eqv (x := x) hx fun y h => (hy y h).1
    cases e : (ys.any fun y => PyData.eqv y x) with
    | true => exact h2 (this.mp e)
    | false => exact h1 fun z => by rw [this.mpr z] at e; cases e
theorem shp_L {ys : List Dt} (h : ∀ y ∈ ys, Ps n y) : Shp (n + 1) (.list ys) := shp_lst fun y hy => (h y hy).shp
theorem cd_inL {ys : List Dt} (hx : Ps 60 x) (hy : ∀ y ∈ ys, Ps 60 y) (h1 : x ∈ ys → P true) (h2 : x ∉ ys → P false) : ∃ r, cmpF .In mh (.d x) (.d (.list ys)) = some (.v (.d (.bool r))) ∧ P r := by
  refine ⟨ys.any fun y => PyData.eqv y x, ?_, ?_⟩
  · show bR (inV2 mh (.d x) (.d (.list ys))) = _
    rw [inV2_L hx.1 (hx.shaped (by decide)) ((shp_L hy).shaped (by decide))]; rfl
  · have := any_eqv (x := x) hx.1 fun y h => (hy y h).1
    cases e : (ys.any fun y => PyData.eqv y x) with
    | true => exact h1 (this.mp e)
    | false => exact h2 fun z => by rw [this.mpr z] at e; cases e
theorem cd_ninL {ys : List Dt} (hx : Ps 60 x) (hy : ∀ y ∈ ys, Ps 60 y) (h1 : x ∉ ys → P true) (h2 : x ∈ ys → P false) : ∃ r, cmpF .NotIn mh (.d x) (.d (.list ys)) = some (.v (.d (.bool r))) ∧ P r := by
  refine ⟨!ys.any fun y => PyData.eqv y x, ?_, ?_⟩
  · show bR ((inV2 mh (.d x) (.d (.list ys))).map (!·)) = _
    rw [inV2_L hx.1 (hx.shaped (by decide)) ((shp_L hy).shaped (by decide))]; rfl
  · have := any_eqv (x := x) hx.1 fun y h => (hy y h).1
    cases e : (ys.any fun y => PyData.eqv y x) with
    | true => exact h2 (this.mp e)
    | false => exact h1 fun z => by rw [this.mpr z] at e; cases e
end
theorem wr_of {mh : List Ob} {Q : Val → List Ob → Prop} {f : Option Rv} (h : ∃ r, f = some (.v (.d (.bool r))) ∧ Q (.d (.bool r)) mh) : WR false f mh Q := by
  obtain ⟨r, e, q⟩ := h
  exact wr_v e q
theorem ints_inj {xs ys : List Int} : (PyData.tuple (xs.map .int) = .tuple (ys.map .int)) ↔ xs = ys := by
  constructor
  · intro h
    have h := PyData.tuple.inj h
    exact (List.map_inj_right (f := PyData.int) fun _ _ e => PyData.int.inj e).mp h
  · rintro rfl; rfl
/-! all, any over a list of truths -/
section
variable {mh : List Ob} {Q : Val → List Ob → Prop}
theorem asBl_map (bs : List Bool) : (seqL mh (.d (.list (bs.map .bool)))).bind (allOf asBl) = some bs := by
  have := allOf_map (f := asBl) (g := fun b => Val.d (.bool b)) (fun _ => rfl) bs
  show allOf asBl ((bs.map PyData.bool).map Val.d) = _
  rw [List.map_map]
  exact this
theorem wr_all {bs : List Bool} (q : Q (.d (.bool (bs.all id))) mh) : WR false (Bi.f .all mh [.d (.list (bs.map .bool))]) mh Q := by
  refine wr_v (x := .d (.bool (bs.all id))) ?_ q
  show allVl mh [.d (.list (bs.map .bool))] = _
  unfold allVl
  simp only [asBl_map]
theorem wr_any {bs : List Bool} (q : Q (.d (.bool (bs.any id))) mh) : WR false (Bi.f .any mh [.d (.list (bs.map .bool))]) mh Q := by
  refine wr_v (x := .d (.bool (bs.any id))) ?_ q
  show anyVl mh [.d (.list (bs.map .bool))] = _
  unfold anyVl
  simp only [asBl_map]
/-- a comprehension of truths under all -/
theorem wr_allL {α : Type} {xs : List α} {f : α → Bool} {ds : List Dt} (e : ds = (xs.map f).map .bool) (q : Q (.d (.bool (xs.all f))) mh) : WR false (Bi.f .all mh [.d (.list ds)]) mh Q := by
  subst e
  refine wr_all ?_
  rw [List.all_map]
  exact q
theorem list_ix0 {α : Type} {xs : List α} {em : α → Dt} {a : α} {R : Val → Prop} (h : xs.head? = some a) (q : R (.d (em a))) : ∃ v, ixVl mh (.d (.list (xs.map em))) (.d (.int 0)) = some v ∧ R v := by
  refine ix_list (j := 0) rfl ?_ q
  rw [List.getElem?_map, ← List.head?_eq_getElem?, h]
  rfl
end
end Pv

namespace PvK
open PySem PySem.Spec PyProof.Rows L2 Pv
/-! the defs of the law, as terms -/
def f0 : Df where
  name := "proc_named"
  ps := ["core", "name"]
  N := ["core", "name", "proc"]
  body :=
    (.cons (.ret (.ix (.lc false [("proc", 2)] (.nm 2) (.val (.slot 0)) (.cmp .Eq (.ix (.slot 2) (.k (.int 0))) (.slot 1)) (.slot 2)) (.k (.int 0))))
    .nil)
def f1 : Df where
  name := "atoms_of_proc"
  ps := ["proc"]
  N := ["proc", "found", "kind", "x"]
  body :=
    (.cons (.set 1 (.lst true .nil))
    (.cons (.for (.tp 2 (.cons (.nm 2) (.cons (.nm 3) .nil))) (.val (.ix (.slot 0) (.k (.int 1)))) (.cons (.iff (.cmp .Eq (.slot 2) (.k (.str "array"))) (.cons (.expr (.meth .append (.slot 1) (.cons (.bin .Add false (.k (.str "@#")) (.slot 3)) .nil)))
    .nil) .nil)
    (.cons (.expr (.meth .append (.slot 1) (.cons (.bin .Add false (.k (.str "@")) (.slot 3)) .nil)))
    .nil)))
    (.frz 1 (.cons (.ret (.bi .tuple false (.cons (.slot 1) .nil)))
    .nil))))
def f2 : Df where
  name := "atoms_of"
  ps := ["core", "name"]
  N := ["core", "name"]
  body :=
    (.cons (.ret (.call 1 (.cons (.call 0 (.cons (.slot 0) (.cons (.slot 1) .nil))) .nil)))
    .nil)
def f3 : Df where
  name := "agree_at"
  ps := ["atom", "x", "given", "other"]
  N := ["atom", "x", "given", "other", "item", "one"]
  body :=
    (.cons (.iff (.nt (.tru (.isin "tuple" (.slot 2)))) (.cons (.ret (.cmp .Eq (.slot 2) (.slot 3)))
    .nil) .nil)
    (.cons (.iff (.cmp .Eq (.slot 0) (.bin .Add false (.k (.str "@#")) (.slot 1))) (.cons (.ret (.cmp .Eq (.bi .len false (.cons (.slot 2) .nil)) (.bi .len false (.cons (.slot 3) .nil))))
    .nil) .nil)
    (.cons (.ret (.bi .all false (.cons (.lc false [("item", 4), ("one", 5)] (.tp 2 (.cons (.nm 4) (.cons (.nm 5) .nil))) (.zip (.cons (.slot 2) (.cons (.slot 3) .nil))) .yes (.cmp .Eq (.slot 4) (.slot 5))) .nil)))
    .nil)))
def f4 : Df where
  name := "agree"
  ps := ["core", "name", "atoms", "args", "others"]
  N := ["core", "name", "atoms", "args", "others", "item", "given", "other", "atom"]
  body :=
    (.cons (.for (.tp 3 (.cons (.nm 5) (.cons (.nm 6) (.cons (.nm 7) .nil)))) (.zip3 (.cons (.ix (.call 0 (.cons (.slot 0) (.cons (.slot 1) .nil))) (.k (.int 1))) (.cons (.slot 3) (.cons (.slot 4) .nil)))) (.cons (.for (.nm 8) (.val (.slot 2)) (.cons (.iff (.and2 (.cmp .In (.slot 8) (.tup (.cons (.bin .Add false (.k (.str "@")) (.ix (.slot 5) (.k (.int 1)))) (.cons (.bin .Add false (.k (.str "@#")) (.ix (.slot 5) (.k (.int 1)))) .nil)))) (.one (.nt (.tru (.call 3 (.cons (.slot 8) (.cons (.ix (.slot 5) (.k (.int 1))) (.cons (.slot 6) (.cons (.slot 7) .nil))))))))) (.cons (.ret (.k (.bl false)))
    .nil) .nil)
    .nil))
    .nil))
    (.cons (.ret (.k (.bl true)))
    .nil))
def f5 : Df where
  name := "_law_start"
  ps := ["script"]
  N := ["script"]
  body :=
    (.cons (.ret (.lst true (.cons (.bi .list false (.cons (.slot 0) .nil)) (.cons (.k (.int 0)) (.cons (.k (.int 0)) (.cons (.k (.int 0)) .nil))))))
    .nil)
def f6 : Df where
  name := "_law_draw"
  ps := ["state", "most"]
  N := ["state", "most", "found", "cell", "mixed"]
  body :=
    (.cons (.asg (.sb (.slot 0) (.k (.int 3))) (.bin .Add false (.ix (.slot 0) (.k (.int 3))) (.k (.int 1))))
    (.cons (.iff (.cmp .Gt (.ix (.slot 0) (.k (.int 2))) (.k (.int 0))) (.cons (.set 2 (.bin .Mod false (.bi .int false (.cons (.ix (.slot 0) (.k (.int 2))) .nil)) (.slot 1)))
    (.cons (.asg (.sb (.slot 0) (.k (.int 2))) (.bin .FloorDiv false (.ix (.slot 0) (.k (.int 2))) (.slot 1)))
    (.cons (.ret (.slot 2))
    .nil))) .nil)
    (.cons (.set 3 (.k (.int 0)))
    (.cons (.iff (.cmp .Gt (.bi .len false (.cons (.ix (.slot 0) (.k (.int 0))) .nil)) (.k (.int 0))) (.cons (.set 3 (.bi .abs false (.cons (.ix (.ix (.slot 0) (.k (.int 0))) (.bin .Mod false (.bi .int false (.cons (.ix (.slot 0) (.k (.int 1))) .nil)) (.bi .len false (.cons (.ix (.slot 0) (.k (.int 0))) .nil)))) .nil)))
    .nil) .nil)
    (.cons (.asg (.sb (.slot 0) (.k (.int 1))) (.bin .Add false (.ix (.slot 0) (.k (.int 1))) (.k (.int 1))))
    (.cons (.iff (.cmp .GtE (.slot 3) (.bin .Pow false (.k (.int 10)) (.k (.int 18)))) (.cons (.asg (.sb (.slot 0) (.k (.int 2))) (.bin .FloorDiv false (.slot 3) (.slot 1)))
    (.cons (.ret (.bin .Mod false (.bi .int false (.cons (.slot 3) .nil)) (.slot 1)))
    .nil)) .nil)
    (.cons (.set 4 (.bin .Mod false (.bi .int false (.cons (.bin .Add false (.bin .Mult false (.bin .Add false (.slot 3) (.k (.int 1))) (.k (.int 48271))) (.bin .Mult false (.ix (.slot 0) (.k (.int 3))) (.k (.int 69621)))) .nil)) (.k (.int 2147483647))))
    (.cons (.set 4 (.bin .Mod false (.bi .int false (.cons (.bin .Add false (.bin .Add false (.bin .Mult false (.slot 4) (.k (.int 16807))) (.bin .FloorDiv false (.slot 3) (.k (.int 97)))) (.ix (.slot 0) (.k (.int 3)))) .nil)) (.k (.int 2147483629))))
    (.cons (.ret (.bin .Mod false (.bin .FloorDiv false (.slot 4) (.k (.int 11))) (.slot 1)))
    .nil)))))))))
def f7 : Df where
  name := "_law_words"
  ps := ["state", "many"]
  N := ["state", "many", "letters", "start", "step", "shared", "k"]
  body :=
    (.cons (.set 2 (.k (.str "abcdefghijklmnopqrstuvwxyz")))
    (.cons (.set 3 (.call 6 (.cons (.slot 0) (.cons (.k (.int 26)) .nil))))
    (.cons (.set 4 (.bin .Add false (.k (.int 1)) (.bin .Mult false (.k (.int 2)) (.call 6 (.cons (.slot 0) (.cons (.k (.int 6)) .nil))))))
    (.cons (.set 5 (.sl false (.k (.str "qxz")) .absent (.call 6 (.cons (.slot 0) (.cons (.k (.int 4)) .nil)))))
    (.cons (.iff (.cmp .Eq (.call 6 (.cons (.slot 0) (.cons (.k (.int 2)) .nil))) (.k (.int 0))) (.cons (.ret (.lc false [("k", 6)] (.nm 6) (.range1 (.cons (.slot 1) .nil)) .yes (.bin .Add false (.slot 5) (.ix (.slot 2) (.bin .Mod false (.bi .int false (.cons (.bin .Add false (.slot 3) (.bin .Mult false (.slot 6) (.slot 4))) .nil)) (.k (.int 26)))))))
    .nil) .nil)
    (.cons (.ret (.lc false [("k", 6)] (.nm 6) (.range1 (.cons (.slot 1) .nil)) .yes (.bin .Add false (.ix (.slot 2) (.bin .Mod false (.bi .int false (.cons (.bin .Add false (.slot 3) (.bin .Mult false (.slot 6) (.slot 4))) .nil)) (.k (.int 26)))) (.slot 5))))
    .nil))))))
def f8 : Df where
  name := "_law_is_int"
  ps := ["x"]
  N := ["x"]
  body :=
    (.cons (.ret (.and2 (.isin "int" (.slot 0)) (.one (.nt (.isin "bool" (.slot 0))))))
    .nil)
def f9 : Df where
  name := "_law_same"
  ps := ["x", "y"]
  N := ["x", "y", "k"]
  body :=
    (.cons (.iff (.tru (.isin "tuple" (.slot 1))) (.cons (.iff (.or2 (.nt (.tru (.isin "tuple" (.slot 0)))) (.one (.cmp .NotEq (.bi .len false (.cons (.slot 0) .nil)) (.bi .len false (.cons (.slot 1) .nil))))) (.cons (.ret (.k (.bl false)))
    .nil) .nil)
    (.cons (.ret (.bi .all false (.cons (.lc false [("k", 2)] (.nm 2) (.range1 (.cons (.bi .len false (.cons (.slot 1) .nil)) .nil)) .yes (.call 9 (.cons (.ix (.slot 0) (.slot 2)) (.cons (.ix (.slot 1) (.slot 2)) .nil)))) .nil)))
    .nil)) .nil)
    (.cons (.iff (.tru (.isin "str" (.slot 1))) (.cons (.ret (.and2 (.isin "str" (.slot 0)) (.one (.cmp .Eq (.slot 0) (.slot 1)))))
    .nil) .nil)
    (.cons (.ret (.and2 (.call 8 (.cons (.slot 0) .nil)) (.one (.cmp .Eq (.slot 0) (.slot 1)))))
    .nil)))
def f10 : Df where
  name := "_law_number"
  ps := ["state"]
  N := ["state", "number", "pick"]
  body :=
    (.cons (.set 1 (.bin .Sub false (.call 6 (.cons (.slot 0) (.cons (.k (.int 9)) .nil))) (.k (.int 4))))
    (.cons (.set 2 (.call 6 (.cons (.slot 0) (.cons (.k (.int 8)) .nil))))
    (.cons (.iff (.cmp .Eq (.slot 2) (.k (.int 0))) (.cons (.ret (.bin .Add false (.slot 1) (.bin .Pow false (.k (.int 10)) (.k (.int 25)))))
    .nil) .nil)
    (.cons (.iff (.cmp .Eq (.slot 2) (.k (.int 1))) (.cons (.ret (.bin .Sub false (.slot 1) (.bin .Pow false (.k (.int 10)) (.k (.int 25)))))
    .nil) .nil)
    (.cons (.ret (.slot 1))
    .nil)))))
def f11 : Df where
  name := "_law_parameters"
  ps := ["state", "words", "least"]
  N := ["state", "words", "least", "found", "k", "pick"]
  body :=
    (.cons (.set 3 (.lst true .nil))
    (.cons (.for (.nm 4) (.range1 (.cons (.bin .Add false (.slot 2) (.call 6 (.cons (.slot 0) (.cons (.bin .Sub false (.k (.int 7)) (.slot 2)) .nil)))) .nil)) (.cons (.set 5 (.call 6 (.cons (.slot 0) (.cons (.k (.int 5)) .nil))))
    (.cons (.iff (.cmp .Lt (.slot 5) (.k (.int 2))) (.cons (.expr (.meth .append (.slot 3) (.cons (.tup (.cons (.k (.str "array")) (.cons (.ix (.slot 1) (.slot 4)) .nil))) .nil)))
    .nil) (.cons (.iff (.cmp .Lt (.slot 5) (.k (.int 4))) (.cons (.expr (.meth .append (.slot 3) (.cons (.tup (.cons (.k (.str "int")) (.cons (.ix (.slot 1) (.slot 4)) .nil))) .nil)))
    .nil) (.cons (.set 3 (.bin .Add true (.slot 3) (.lst false (.cons (.tup (.cons (.k (.str "int")) (.cons (.bin .Add false (.ix (.slot 1) (.slot 4)) (.k (.str ".s"))) .nil))) (.cons (.tup (.cons (.k (.str "int")) (.cons (.bin .Add false (.ix (.slot 1) (.slot 4)) (.k (.str ".t"))) .nil))) .nil)))))
    .nil))
    .nil))
    .nil)))
    (.frz 3 (.cons (.ret (.bi .tuple false (.cons (.sl false (.slot 3) .absent (.k (.int 6))) .nil)))
    .nil))))
def f12 : Df where
  name := "_law_argument"
  ps := ["state", "kind"]
  N := ["state", "kind", "first", "k"]
  body :=
    (.cons (.iff (.cmp .Eq (.slot 1) (.k (.str "int"))) (.cons (.ret (.call 10 (.cons (.slot 0) .nil)))
    .nil) .nil)
    (.cons (.iff (.cmp .Eq (.call 6 (.cons (.slot 0) (.cons (.k (.int 10)) .nil))) (.k (.int 0))) (.cons (.set 2 (.call 10 (.cons (.slot 0) .nil)))
    (.cons (.ret (.bi .tuple false (.cons (.lc false [("k", 3)] (.nm 3) (.range1 (.cons (.bin .Add false (.k (.int 20)) (.call 6 (.cons (.slot 0) (.cons (.k (.int 40)) .nil)))) .nil)) .yes (.bin .Add false (.slot 2) (.bin .FloorDiv false (.slot 3) (.k (.int 3))))) .nil)))
    .nil)) .nil)
    (.cons (.ret (.bi .tuple false (.cons (.lc false [("k", 3)] (.nm 3) (.range1 (.cons (.call 6 (.cons (.slot 0) (.cons (.k (.int 5)) .nil))) .nil)) .yes (.call 10 (.cons (.slot 0) .nil))) .nil)))
    .nil)))
def f13 : Df where
  name := "_law_changed"
  ps := ["state", "given"]
  N := ["state", "given", "many", "pick", "at", "other"]
  body :=
    (.cons (.iff (.nt (.tru (.isin "tuple" (.slot 1)))) (.cons (.ret (.bin .Add false (.slot 1) (.ix (.lst false (.cons (.k (.int 1)) (.cons (.neg (.k (.int 1))) (.cons (.k (.int 3)) (.cons (.bin .Pow false (.k (.int 10)) (.k (.int 25))) .nil))))) (.call 6 (.cons (.slot 0) (.cons (.k (.int 4)) .nil))))))
    .nil) .nil)
    (.cons (.set 2 (.bi .len false (.cons (.slot 1) .nil)))
    (.cons (.set 3 (.call 6 (.cons (.slot 0) (.cons (.k (.int 5)) .nil))))
    (.cons (.set 4 (.call 6 (.cons (.slot 0) (.cons (.bi .max false (.cons (.k (.int 1)) (.cons (.slot 2) .nil))) .nil))))
    (.cons (.iff (.or2 (.cmp .Eq (.slot 2) (.k (.int 0))) (.one (.cmp .Eq (.slot 3) (.k (.int 0))))) (.cons (.ret (.bin .Add false (.slot 1) (.tup (.cons (.call 10 (.cons (.slot 0) .nil)) .nil))))
    .nil) .nil)
    (.cons (.iff (.cmp .Eq (.slot 3) (.k (.int 1))) (.cons (.ret (.sl false (.slot 1) .absent (.slot 4)))
    .nil) .nil)
    (.cons (.set 5 (.bin .Add false (.bin .Add false (.sl false (.slot 1) .absent (.slot 4)) (.tup (.cons (.bin .Add false (.bin .Add false (.ix (.slot 1) (.slot 4)) (.k (.int 1))) (.call 6 (.cons (.slot 0) (.cons (.k (.int 3)) .nil)))) .nil))) (.sl false (.slot 1) (.bin .Add false (.slot 4) (.k (.int 1))) .absent)))
    (.cons (.iff (.cmp .Eq (.slot 3) (.k (.int 2))) (.cons (.ret (.slot 5))
    .nil) .nil)
    (.cons (.iff (.cmp .Eq (.slot 3) (.k (.int 3))) (.cons (.ret (.bin .Add false (.slot 5) (.tup (.cons (.call 10 (.cons (.slot 0) .nil)) (.cons (.k (.int 7)) .nil)))))
    .nil) .nil)
    (.cons (.ret (.sl false (.slot 5) .absent (.bin .Sub false (.slot 2) (.k (.int 1)))))
    .nil))))))))))
def f14 : Df where
  name := "_law_atoms"
  ps := ["p"]
  N := ["p", "found", "kind", "x"]
  body :=
    (.cons (.set 1 (.lst true .nil))
    (.cons (.for (.tp 2 (.cons (.nm 2) (.cons (.nm 3) .nil))) (.val (.ix (.slot 0) (.k (.int 1)))) (.cons (.iff (.cmp .Eq (.slot 2) (.k (.str "array"))) (.cons (.set 1 (.bin .Add true (.slot 1) (.lst false (.cons (.bin .Add false (.k (.str "@#")) (.slot 3)) (.cons (.bin .Add false (.k (.str "@")) (.slot 3)) .nil)))))
    .nil) (.cons (.expr (.meth .append (.slot 1) (.cons (.bin .Add false (.k (.str "@")) (.slot 3)) .nil)))
    .nil))
    .nil))
    (.frz 1 (.cons (.ret (.bi .tuple false (.cons (.slot 1) .nil)))
    .nil))))
def f15 : Df where
  name := "_law_agrees"
  ps := ["p", "atom", "args", "others"]
  N := ["p", "atom", "args", "others", "k", "kind", "x", "many"]
  body :=
    (.cons (.for (.nm 4) (.range1 (.cons (.bi .len false (.cons (.ix (.slot 0) (.k (.int 1))) .nil)) .nil)) (.cons (.asg (.tp 2 (.cons (.nm 5) (.cons (.nm 6) .nil))) (.ix (.ix (.slot 0) (.k (.int 1))) (.slot 4)))
    (.cons (.iff (.and2 (.cmp .Eq (.slot 5) (.k (.str "int"))) (.one (.cmp .Eq (.slot 1) (.bin .Add false (.k (.str "@")) (.slot 6))))) (.cons (.ret (.cmp .Eq (.ix (.slot 2) (.slot 4)) (.ix (.slot 3) (.slot 4))))
    .nil) .nil)
    (.cons (.iff (.and2 (.cmp .Eq (.slot 5) (.k (.str "array"))) (.one (.cmp .Eq (.slot 1) (.bin .Add false (.k (.str "@#")) (.slot 6))))) (.cons (.ret (.cmp .Eq (.bi .len false (.cons (.ix (.slot 2) (.slot 4)) .nil)) (.bi .len false (.cons (.ix (.slot 3) (.slot 4)) .nil))))
    .nil) .nil)
    (.cons (.iff (.and2 (.cmp .Eq (.slot 5) (.k (.str "array"))) (.one (.cmp .Eq (.slot 1) (.bin .Add false (.k (.str "@")) (.slot 6))))) (.cons (.set 7 (.bi .min false (.cons (.bi .len false (.cons (.ix (.slot 2) (.slot 4)) .nil)) (.cons (.bi .len false (.cons (.ix (.slot 3) (.slot 4)) .nil)) .nil))))
    (.cons (.ret (.cmp .Eq (.sl false (.ix (.slot 2) (.slot 4)) .absent (.slot 7)) (.sl false (.ix (.slot 3) (.slot 4)) .absent (.slot 7))))
    .nil)) .nil)
    .nil)))))
    (.cons (.ret (.k (.bl true)))
    .nil))
def f16 : Df where
  name := "_law_told"
  ps := ["x", "due"]
  N := ["x", "due"]
  body :=
    (.cons (.ret (.and2 (.isin "bool" (.slot 0)) (.one (.cmp .Eq (.slot 0) (.slot 1)))))
    .nil)
def f17 : Df where
  name := "_law_pair_holds"
  ps := ["state", "core", "p", "args", "others"]
  N := ["state", "core", "p", "args", "others", "atoms", "given", "other", "atom", "due", "some"]
  body :=
    (.cons (.set 5 (.call 14 (.cons (.slot 2) .nil)))
    (.cons (.for (.tp 2 (.cons (.nm 6) (.cons (.nm 7) .nil))) (.val (.lst false (.cons (.tup (.cons (.slot 3) (.cons (.slot 4) .nil))) (.cons (.tup (.cons (.slot 4) (.cons (.slot 3) .nil))) .nil)))) (.cons (.for (.nm 8) (.val (.slot 5)) (.cons (.set 9 (.call 15 (.cons (.slot 2) (.cons (.slot 8) (.cons (.slot 6) (.cons (.slot 7) .nil))))))
    (.cons (.iff (.nt (.tru (.call 16 (.cons (.call 4 (.cons (.slot 1) (.cons (.ix (.slot 2) (.k (.int 0))) (.cons (.tup (.cons (.slot 8) .nil)) (.cons (.slot 6) (.cons (.slot 7) .nil)))))) (.cons (.slot 9) .nil))))) (.cons (.ret (.k (.bl false)))
    .nil) .nil)
    .nil)))
    .nil))
    (.cons (.swp 10 (.lc false [("atom", 8)] (.nm 8) (.val (.slot 5)) (.cmp .Gt (.call 6 (.cons (.slot 0) (.cons (.k (.int 3)) .nil))) (.k (.int 0))) (.slot 8)))
    (.cons (.iff (.cmp .Eq (.call 6 (.cons (.slot 0) (.cons (.k (.int 2)) .nil))) (.k (.int 0))) (.cons (.set 10 (.rev false (.slot 10)))
    .nil) .nil)
    (.cons (.set 9 (.bi .all false (.cons (.lc false [("atom", 8)] (.nm 8) (.val (.slot 10)) .yes (.call 15 (.cons (.slot 2) (.cons (.slot 8) (.cons (.slot 3) (.cons (.slot 4) .nil)))))) .nil)))
    (.cons (.iff (.nt (.tru (.call 16 (.cons (.call 4 (.cons (.slot 1) (.cons (.ix (.slot 2) (.k (.int 0))) (.cons (.bi .tuple false (.cons (.slot 10) .nil)) (.cons (.slot 3) (.cons (.slot 4) .nil)))))) (.cons (.slot 9) .nil))))) (.cons (.ret (.k (.bl false)))
    .nil) .nil)
    (.cons (.ret (.call 16 (.cons (.call 4 (.cons (.slot 1) (.cons (.ix (.slot 2) (.k (.int 0))) (.cons (.tup .nil) (.cons (.slot 3) (.cons (.slot 4) .nil)))))) (.cons (.k (.bl true)) .nil))))
    .nil)))))))
def f18 : Df where
  name := "law"
  ps := ["script"]
  N := ["script", "state", "names", "words", "core", "p", "args", "k", "others", "at", "more", "kind", "x"]
  body :=
    (.cons (.set 1 (.call 5 (.cons (.slot 0) .nil)))
    (.cons (.set 2 (.bi .sorted false (.cons (.call 7 (.cons (.slot 1) (.cons (.k (.int 2)) .nil))) .nil)))
    (.cons (.set 3 (.call 7 (.cons (.slot 1) (.cons (.k (.int 6)) .nil))))
    (.cons (.set 4 (.bi .tuple false (.cons (.lc false [("k", 7)] (.nm 7) (.range1 (.cons (.k (.int 2)) .nil)) .yes (.tup (.cons (.ix (.slot 2) (.slot 7)) (.cons (.call 11 (.cons (.slot 1) (.cons (.slot 3) (.cons (.bin .Sub false (.k (.int 1)) (.slot 7)) .nil)))) (.cons (.tup .nil) (.cons (.tup .nil) (.cons (.tup .nil) (.cons (.tup .nil) (.cons (.tup .nil) (.cons (.tup .nil) (.cons (.tup .nil) .nil))))))))))) .nil)))
    (.cons (.for (.nm 5) (.val (.slot 4)) (.cons (.iff (.nt (.tru (.call 9 (.cons (.call 2 (.cons (.slot 4) (.cons (.ix (.slot 5) (.k (.int 0))) .nil))) (.cons (.call 14 (.cons (.slot 5) .nil)) .nil))))) (.cons (.ret (.k (.bl false)))
    .nil) .nil)
    (.cons (.set 6 (.bi .tuple false (.cons (.lc false [("kind", 11), ("x", 12)] (.tp 2 (.cons (.nm 11) (.cons (.nm 12) .nil))) (.val (.ix (.slot 5) (.k (.int 1)))) .yes (.call 12 (.cons (.slot 1) (.cons (.slot 11) .nil)))) .nil)))
    (.cons (.iff (.nt (.tru (.call 16 (.cons (.call 4 (.cons (.slot 4) (.cons (.ix (.slot 5) (.k (.int 0))) (.cons (.call 14 (.cons (.slot 5) .nil)) (.cons (.slot 6) (.cons (.slot 6) .nil)))))) (.cons (.k (.bl true)) .nil))))) (.cons (.ret (.k (.bl false)))
    .nil) .nil)
    (.cons (.for (.nm 7) (.range1 (.cons (.bi .len false (.cons (.ix (.slot 5) (.k (.int 1))) .nil)) .nil)) (.cons (.set 8 (.bin .Add false (.bin .Add false (.sl false (.slot 6) .absent (.slot 7)) (.tup (.cons (.call 13 (.cons (.slot 1) (.cons (.ix (.slot 6) (.slot 7)) .nil))) .nil))) (.sl false (.slot 6) (.bin .Add false (.slot 7) (.k (.int 1))) .absent)))
    (.cons (.iff (.nt (.tru (.call 17 (.cons (.slot 1) (.cons (.slot 4) (.cons (.slot 5) (.cons (.slot 6) (.cons (.slot 8) .nil)))))))) (.cons (.ret (.k (.bl false)))
    .nil) .nil)
    (.cons (.set 9 (.call 6 (.cons (.slot 1) (.cons (.bi .len false (.cons (.ix (.slot 5) (.k (.int 1))) .nil)) .nil))))
    (.cons (.set 10 (.bin .Add false (.bin .Add false (.sl false (.slot 8) .absent (.slot 9)) (.tup (.cons (.call 13 (.cons (.slot 1) (.cons (.ix (.slot 8) (.slot 9)) .nil))) .nil))) (.sl false (.slot 8) (.bin .Add false (.slot 9) (.k (.int 1))) .absent)))
    (.cons (.iff (.nt (.tru (.call 17 (.cons (.slot 1) (.cons (.slot 4) (.cons (.slot 5) (.cons (.slot 6) (.cons (.slot 10) .nil)))))))) (.cons (.ret (.k (.bl false)))
    .nil) .nil)
    .nil))))))
    .nil)))))
    (.cons (.ret (.k (.bl true)))
    .nil))))))
def P : Pg := [f0, f1, f2, f3, f4, f5, f6, f7, f8, f9, f10, f11, f12, f13, f14, f15, f16, f17, f18]
def bs : List Str := ["tuple", "isinstance", "len", "all", "zip", "list", "int", "abs", "range", "bool", "str", "max", "min", "reversed", "sorted"]
def gl : List (Str × Dt) := []
end PvK

namespace PvK
open PySem PySem.Spec PyProof.Rows L2 Pv
/-! draws, words, what is the same -/
theorem draw_ok (m : Nat) (k : Nat) (s : Ds) (tl : List Ob) (hm : 0 < m) (hm2 : m < 2 ^ 64) (Q : Val → List Ob → Prop)
    (q : ∀ (r : Nat) s', r < m → Q (.d (.int (r : Int))) (St s' :: tl)) : W (callP P gl (k + 1) 6 [.ref 0, .d (.int (m : Int))]) (St s :: tl) Q := by
  have q : ∀ (r : Int) s', 0 ≤ r → r < (m : Int) → Q (.d (.int r)) (St s' :: tl) := fun r s' h0 h1 => by
    obtain ⟨r, rfl⟩ := Int.eq_ofNat_of_zero_le h0
    exact q r s' (by omega)
  have hm : (0 : Int) < (m : Int) := by omega
  have hm2 : (m : Int).natAbs < 2 ^ 64 := by rw [Int.natAbs_natCast]; exact hm2
  generalize (m : Int) = m at *
  refine w_def (nm := f6.name) (ps := f6.ps) (N := f6.N) (body := f6.body) (env := [some (.ref 0), some (.d (.int m)), none, none, none]) rfl rfl ?_
  unfold f6
  walk_at "pv all"
  refine ci_gt (fun h => ?_) (fun h => ?_)
  · walk_at "pv all"
    exact q _ _ (Int.emod_nonneg _ (by omega)) (Int.emod_lt_of_pos _ hm)
  · walk_at "pv all"
    refine ci_gt (fun h => ?_) (fun h => ?_)
    · walk_at "pv all"
      obtain ⟨j, hj⟩ := Int.eq_ofNat_of_zero_le (Int.emod_nonneg s.pos (show ((s.sc.map PyData.int).length : Int) ≠ 0 by have h : (0 : Int) < (s.sc.map PyData.int).length := h; omega))
      have hl : j < (s.sc.map PyData.int).length := by
        have h : (0 : Int) < (s.sc.map PyData.int).length := h
        have := Int.emod_lt_of_pos s.pos h
        omega
      have hx : (s.sc.map PyData.int)[j]? = some (.int (s.sc[j]'(by rwa [List.length_map] at hl))) := by
        rw [List.getElem?_map, List.getElem?_eq_getElem (by rwa [List.length_map] at hl)]
        rfl
      refine ix_list hj hx ?_
      walk_at "pv all"
      refine ci_ge (fun h => ?_) (fun h => ?_)
      · walk_at "pv all"
        exact q _ _ (Int.emod_nonneg _ (by omega)) (Int.emod_lt_of_pos _ hm)
      · walk_at "pv all"
        exact q _ _ (Int.emod_nonneg _ (by omega)) (Int.emod_lt_of_pos _ hm)
    · walk_at "pv all"
      refine ci_ge (fun h => ?_) (fun h => ?_)
      · walk_at "pv all"
        exact q _ _ (Int.emod_nonneg _ (by omega)) (Int.emod_lt_of_pos _ hm)
      · walk_at "pv all"
        exact q _ _ (Int.emod_nonneg _ (by omega)) (Int.emod_lt_of_pos _ hm)
theorem start_ok (k : Nat) (ns : List Int) (Q : Val → List Ob → Prop) (q : Q (.ref 0) [St ⟨ns, 0, 0, 0⟩]) : W (callP P gl (k + 1) 5 [.d (.list (ns.map PyData.int))]) [] Q := by
  refine w_call (d := f5) rfl ⟨.ref 0, [St ⟨ns, 0, 0, 0⟩], ?_, q⟩
  have e : mBody f5.N.length (evSs gl (callP P gl k) f5.body) [.d (.list (ns.map PyData.int))] [] = some (.ref 0, [St ⟨ns, 0, 0, 0⟩]) := by
    have e2 : W (evSs gl (callP P gl k) f5.body [some (.d (.list (ns.map PyData.int)))]) [] fun fl mh' => fl = .rt (.ref 0) ∧ mh' = [St ⟨ns, 0, 0, 0⟩] := by
      show WS gl (callP P gl k) f5.body _ _ _
      unfold f5
      walk_at "pv all"
      exact ⟨rfl, rfl⟩
    obtain ⟨fl, mh', e3, rfl, rfl⟩ := e2
    exact M.bind_some.mpr ⟨_, _, e3, rfl⟩
  unfold frame
  rw [e]
  exact if_pos ⟨trivial, rfl⟩
def ltr (s r k : Nat) : Nat := 97 + (s + k * (1 + 2 * r)) % 26
theorem ltr_inj {s r a b : Nat} (hr : r < 6) (ha : a < 26) (hb : b < 26) (h : ltr s r a = ltr s r b) : a = b := by
  unfold ltr at h
  have : r = 0 ∨ r = 1 ∨ r = 2 ∨ r = 3 ∨ r = 4 ∨ r = 5 := by omega
  rcases this with rfl | rfl | rfl | rfl | rfl | rfl <;> omega
theorem abc_at : ((List.range 26).all fun j => decide ((Str.ofString "abcdefghijklmnopqrstuvwxyz").cps.toList[j]? = some (97 + j))) = true := by decide +kernel
theorem abc_get {j : Nat} (h : j < 26) : (Str.ofString "abcdefghijklmnopqrstuvwxyz").cps.toList[j]? = some (97 + j) :=
  of_decide_eq_true (List.all_eq_true.mp abc_at j (List.mem_range.mpr h))
theorem abc_len : (Str.ofString "abcdefghijklmnopqrstuvwxyz").length ≤ sizeLine := by decide +kernel
/-- a word: one to four small letters -/
def Wrd (x : Str) : Prop := x.length ≤ 4 ∧ ∃ a as, x.cps.toList = a :: as ∧ 97 ≤ a ∧ a ≤ 122 ∧ ∀ b ∈ as, 97 ≤ b ∧ b ≤ 122
def wrdB (x : Str) : Bool := decide (x.length ≤ 3) && x.cps.toList.all fun b => decide (97 ≤ b) && decide (b ≤ 122)
theorem qxz_dec : ((List.range 4).all fun r => wrdB (cutS (Str.ofString "qxz") none (some (r : Int)))) = true := by decide +kernel
theorem wrdB_ok {x : Str} (h : wrdB x = true) : x.length ≤ 3 ∧ ∀ b ∈ x.cps.toList, 97 ≤ b ∧ b ≤ 122 := by
  unfold wrdB at h
  rw [Bool.and_eq_true, decide_eq_true_eq] at h
  refine ⟨h.1, fun b hb => ?_⟩
  have := List.all_eq_true.mp h.2 b hb
  rw [Bool.and_eq_true, decide_eq_true_eq, decide_eq_true_eq] at this
  exact this
theorem app_list (x y : Str) : (x ++ y).cps.toList = x.cps.toList ++ y.cps.toList := by
  show (x.cps ++ y.cps).toList = _
  simp
theorem ltr_le (s r k : Nat) : 97 ≤ ltr s r k ∧ ltr s r k ≤ 122 := by unfold ltr; omega
theorem wrd_pre {z : Str} {n : Nat} (h : wrdB z = true) (h1 : 97 ≤ n ∧ n ≤ 122) : Wrd (z ++ ⟨#[n]⟩) := by
  obtain ⟨a, b⟩ := wrdB_ok h
  refine ⟨by rw [len_app]; have : (⟨#[n]⟩ : Str).length = 1 := rfl; omega, ?_⟩
  rw [app_list]
  cases e : z.cps.toList with
  | nil => exact ⟨n, [], rfl, h1.1, h1.2, fun _ h => nomatch h⟩
  | cons c cs =>
    rw [e] at b
    refine ⟨c, cs ++ [n], rfl, (b c List.mem_cons_self).1, (b c List.mem_cons_self).2, fun d hd => ?_⟩
    rcases List.mem_append.mp hd with hd | hd
    · exact b d (List.mem_cons_of_mem _ hd)
    · rw [List.mem_singleton.mp hd]; exact h1
theorem wrd_suf {z : Str} {n : Nat} (h : wrdB z = true) (h1 : 97 ≤ n ∧ n ≤ 122) : Wrd (⟨#[n]⟩ ++ z) := by
  obtain ⟨a, b⟩ := wrdB_ok h
  refine ⟨by rw [len_app]; have : (⟨#[n]⟩ : Str).length = 1 := rfl; omega, ?_⟩
  rw [app_list]
  exact ⟨n, z.cps.toList, rfl, h1.1, h1.2, b⟩
theorem Wrd.ok {x : Str} (h : Wrd x) : PyData.strOk x = true := by
  obtain ⟨_, a, as, e, h1, h2, h3⟩ := h
  unfold PyData.strOk
  rw [← Array.all_toList, e, List.all_eq_true]
  intro b hb
  rcases List.mem_cons.mp hb with rfl | hb
  · exact decide_eq_true (by omega)
  · have := h3 b hb
    exact decide_eq_true (by omega)
theorem pre_inj {x : Str} {a b : Nat} (h : x ++ (⟨#[a]⟩ : Str) = x ++ ⟨#[b]⟩) : a = b := by
  have h2 := congrArg (fun z => z.cps.toList) h
  simp only [app_list] at h2
  have := List.append_cancel_left h2
  simpa using this
theorem suf_inj {x : Str} {a b : Nat} (h : (⟨#[a]⟩ : Str) ++ x = ⟨#[b]⟩ ++ x) : a = b := by
  have h2 := congrArg (fun z => z.cps.toList) h
  simp only [app_list] at h2
  have := List.append_cancel_right h2
  simpa using this
theorem words_ok (n : Nat) (k : Nat) (s : Ds) (tl : List Ob) (hn : n ≤ 26) (Q : Val → List Ob → Prop)
    (q : ∀ ws s', ws.length = n → ws.Nodup → (∀ x ∈ ws, Wrd x) → Q (.d (strD ws)) (St s' :: tl)) : W (callP P gl (k + 2) 7 [.ref 0, .d (.int (n : Int))]) (St s :: tl) Q := by
  refine w_def (nm := f7.name) (ps := f7.ps) (N := f7.N) (body := f7.body) (env := [some (.ref 0), some (.d (.int n)), none, none, none, none, none]) rfl rfl ?_
  unfold f7
  walk_at "pv all"
  refine draw_ok 26 _ _ _ (by decide) (by decide) _ fun a s1 a1 => ?_
  walk_at "pv all"
  refine draw_ok 6 _ _ _ (by decide) (by decide) _ fun r s2 r1 => ?_
  walk_at "pv all"
  refine draw_ok 4 _ _ _ (by decide) (by decide) _ fun c s3 c1 => ?_
  have hq := List.all_eq_true.mp qxz_dec c (List.mem_range.mpr c1)
  walk_at "pv eq"
  refine wr_slS (by decide +kernel) ?_
  generalize cutS (Str.ofString "qxz") none (some (c : Int)) = z at *
  have hz := (wrdB_ok hq).1
  walk_at "pv all"
  refine draw_ok 2 _ _ _ (by decide) (by decide) _ fun e s4 e1 => ?_
  walk_at "pv all"
  have hidx : ∀ i : Nat, ((a : Int) + (i : Int) * (1 + 2 * (r : Int))) % 26 = (((a + i * (1 + 2 * r)) % 26 : Nat) : Int) := by
    intro i
    push_cast
    rfl
  have hsz : ∀ i, z.length + (⟨#[ltr a r i]⟩ : Str).length ≤ sizeLine := fun i => by
    have : (⟨#[ltr a r i]⟩ : Str).length = 1 := rfl
    have h2 : sizeLine = 16777216 := rfl
    omega
  have hsz' : ∀ i, (⟨#[ltr a r i]⟩ : Str).length + z.length ≤ sizeLine := fun i => by
    have := hsz i
    omega
  refine ci_eq (fun h => ?_) (fun h => ?_)
  · walk_at "pv all"
    refine rg1 rfl (by omega) ?_
    rw [rg_map]
    refine wc_map (r := fun i => Val.d (.str (z ++ ⟨#[ltr a r i]⟩))) gnil (fun i hi => ?_) ?_
    · walk_at "pv all"
      refine wr_mul (mul64 (by omega)) ?_
      walk_at "pv all"
      refine ixS_str abc_len (hidx i) (abc_get (Nat.mod_lt _ (by decide))) ?_
      refine wr_addS (hsz i) ⟨rfl, rfl⟩
    · refine wr_nl (ds := (List.range n).map fun i => .str (z ++ ⟨#[ltr a r i]⟩)) (by rw [List.map_map]; rfl) ?_
      refine fin0 ?_
      have := q ((List.range n).map fun i => z ++ ⟨#[ltr a r i]⟩) s4 (by simp) (nodup_map (fun x hx y hy e => ltr_inj r1 (by have := List.mem_range.mp hx; omega) (by have := List.mem_range.mp hy; omega) (pre_inj e)) List.nodup_range) fun x hx => by
        obtain ⟨i, hi, rfl⟩ := List.mem_map.mp hx
        exact wrd_pre hq (ltr_le _ _ _)
      unfold strD at this
      rw [List.map_map] at this
      exact this
  · walk_at "pv all"
    refine rg1 rfl (by omega) ?_
    rw [rg_map]
    refine wc_map (r := fun i => Val.d (.str (⟨#[ltr a r i]⟩ ++ z))) gnil (fun i hi => ?_) ?_
    · walk_at "pv all"
      refine wr_mul (mul64 (by omega)) ?_
      walk_at "pv all"
      refine ixS_str abc_len (hidx i) (abc_get (Nat.mod_lt _ (by decide))) ?_
      walk_at "pv all"
      refine wr_addS (hsz' i) ⟨rfl, rfl⟩
    · refine wr_nl (ds := (List.range n).map fun i => .str (⟨#[ltr a r i]⟩ ++ z)) (by rw [List.map_map]; rfl) ?_
      refine fin0 ?_
      have := q ((List.range n).map fun i => ⟨#[ltr a r i]⟩ ++ z) s4 (by simp) (nodup_map (fun x hx y hy e => ltr_inj r1 (by have := List.mem_range.mp hx; omega) (by have := List.mem_range.mp hy; omega) (suf_inj e)) List.nodup_range) fun x hx => by
        obtain ⟨i, hi, rfl⟩ := List.mem_map.mp hx
        exact wrd_suf hq (ltr_le _ _ _)
      unfold strD at this
      rw [List.map_map] at this
      exact this
theorem isint_ok (k : Nat) (mh : List Ob) (r : Int) (Q : Val → List Ob → Prop) (q : Q (.d (.bool true)) mh) : W (callP P gl (k + 1) 8 [.d (.int r)]) mh Q := by
  refine w_pure (nm := f8.name) (ps := f8.ps) (N := f8.N) (body := f8.body) (env := [some (.d (.int r))]) rfl rfl ?_
  unfold f8
  walk_at "pv all"
  exact q
/-! the same -/
theorem all_true {mh : List Ob} {n : Nat} : Bi.f .all mh [.d (.list (List.replicate n (.bool true)))] = some (.v (.d (.bool true))) := by
  have h : (seqL mh (.d (.list (List.replicate n (.bool true))))).bind (allOf asBl) = some (List.replicate n true) := by
    have := allOf_map (f := asBl) (g := fun b => Val.d (.bool b)) (fun _ => rfl) (List.replicate n true)
    rw [List.map_replicate] at this
    show allOf asBl ((List.replicate n (PyData.bool true)).map Val.d) = _
    rw [List.map_replicate]
    exact this
  show allVl mh [.d (.list (List.replicate n (.bool true)))] = _
  unfold allVl
  simp only [h]
  simp
theorem same_ok : ∀ (n : Nat) (x : Dt) (k : Nat) (mh : List Ob) (Q : Val → List Ob → Prop), Pl n x → Q (.d (.bool true)) mh → W (callP P gl (k + n + 2) 9 [.d x, .d x]) mh Q := by
  intro n
  induction n with
  | zero =>
    intro x k mh Q hx q
    refine w_pure (nm := f9.name) (ps := f9.ps) (N := f9.N) (body := f9.body) (env := [some (.d x), some (.d x), none]) rfl rfl ?_
    unfold f9
    cases x with
    | int i =>
      walk_at "pv all"
      refine isint_ok _ _ _ _ ?_
      walk_at "pv all"
      simpa using q
    | str i =>
      walk_at "pv all"
      simpa using q
    | tuple xs => exact absurd hx.2 (by simp [PyData.depth])
    | _ => exact absurd hx.1 (by simp [plD])
  | succ n ih =>
    intro x k mh Q hx q
    cases x with
    | int i => 
      have := ih (.int i) (k + 1) mh Q (pl_int _) q
      rw [show k + 1 + n + 2 = k + (n + 1) + 2 by omega] at this
      exact this
    | str i => 
      have := ih (.str i) (k + 1) mh Q (pl_str _) q
      rw [show k + 1 + n + 2 = k + (n + 1) + 2 by omega] at this
      exact this
    | tuple xs =>
      have hl : xs.length < 1000000 ∧ plAll xs = true := by
        have := hx.1
        simp only [plD, Bool.and_eq_true, decide_eq_true_eq] at this
        exact this
      have hd : PyData.depthAll xs ≤ n := by
        have := hx.2
        simp only [PyData.depth] at this
        omega
      refine w_pure (k := k + n + 2) (nm := f9.name) (ps := f9.ps) (N := f9.N) (body := f9.body) (env := [some (.d (.tuple xs)), some (.d (.tuple xs)), none]) rfl rfl ?_
      unfold f9
      walk_at "pv all"
      refine cmp_f (by simp [cmpF, eqV2, pureD, eqD, bR]) ?_
      walk_at "pv all"
      refine rg1 rfl (by omega) ?_
      rw [rg_map]
      refine wc_map (r := fun _ => Val.d (.bool true)) gnil (fun i hi => ?_) ?_
      · have hi := List.mem_range.mp hi
        walk_at "pv all"
        refine ix_tup rfl (List.getElem?_eq_getElem hi) ?_
        walk_at "pv all"
        refine ix_tup rfl (List.getElem?_eq_getElem hi) ?_
        walk_at "pv all"
        refine ih xs[i] k mh _ ⟨plAll_iff.mp hl.2 _ (List.getElem_mem hi), Nat.le_trans (le_depthAll (List.getElem_mem hi)) hd⟩ ⟨rfl, rfl⟩
      · refine wr_nl (ds := List.replicate xs.length (.bool true)) (by rw [List.map_replicate, List.map_const', List.length_range]) ?_
        walk_at "pv all"
        refine wr_v all_true ?_
        walk_at "pv all"
        exact q
    | _ => exact absurd hx.1 (by simp [plD])
end PvK

namespace PvK
open PySem PySem.Spec PyProof.Rows L2 Pv
abbrev Par := Bool × Str
def kd (b : Bool) : Str := if b then "array" else "int"
abbrev pard (p : Par) : Dt := .tuple [.str (kd p.1), .str p.2]
inductive Ag where
  | n (i : Int) | t (xs : List Int)
def agd : Ag → Dt
  | .n i => .int i
  | .t xs => .tuple (xs.map .int)
def AgOk : Bool → Ag → Prop
  | false, .n _ => True
  | true, .t xs => xs.length ≤ 200
  | _, _ => False
theorem number_ok (k : Nat) (s : Ds) (tl : List Ob) (Q : Val → List Ob → Prop)
    (q : ∀ (i : Int) s', Q (.d (.int i)) (St s' :: tl)) : W (callP P gl (k + 2) 10 [.ref 0]) (St s :: tl) Q := by
  refine w_def (nm := f10.name) (ps := f10.ps) (N := f10.N) (body := f10.body) (env := [some (.ref 0), none, none]) rfl rfl ?_
  unfold f10
  walk_at "pv all"
  refine draw_ok 9 _ _ _ (by decide) (by decide) _ fun a s1 a1 => ?_
  walk_at "pv all"
  refine draw_ok 8 _ _ _ (by decide) (by decide) _ fun a s1 a1 => ?_
  walk_at "pv all"
  refine ci_eq (fun h => ?_) (fun h => ?_)
  · walk_at "pv all"
    exact q _ _
  · walk_at "pv all"
    refine ci_eq (fun h => ?_) (fun h => ?_)
    · walk_at "pv all"
      exact q _ _
    · walk_at "pv all"
      exact q _ _
theorem argument_ok (b : Bool) (k : Nat) (s : Ds) (tl : List Ob) (Q : Val → List Ob → Prop)
    (q : ∀ a s', AgOk b a → (∀ xs, a = .t xs → xs.length ≤ 60) → Q (.d (agd a)) (St s' :: tl)) : W (callP P gl (k + 3) 12 [.ref 0, .d (.str (kd b))]) (St s :: tl) Q := by
  refine w_def (nm := f12.name) (ps := f12.ps) (N := f12.N) (body := f12.body) (env := [some (.ref 0), some (.d (.str (kd b))), none, none]) rfl rfl ?_
  unfold f12
  cases b with
  | false =>
    walk_at "pv all"
    refine cmp_t rfl ?_
    walk_at "pv all"
    refine number_ok _ _ _ _ fun i s1 => ?_
    walk_at "pv all"
    exact q (.n i) _ trivial fun _ h => nomatch h
  | true =>
    walk_at "pv all"
    refine cmp_f rfl ?_
    walk_at "pv all"
    refine draw_ok 10 _ _ _ (by decide) (by decide) _ fun a s1 a1 => ?_
    walk_at "pv all"
    refine ci_eq (fun h => ?_) (fun h => ?_)
    · walk_at "pv all"
      refine number_ok _ _ _ _ fun i s2 => ?_
      walk_at "pv all"
      refine draw_ok 40 _ _ _ (by decide) (by decide) _ fun n s3 n1 => ?_
      walk_at "pv all"
      refine rg1 (n := 20 + n) (by push_cast; rfl) (by omega) ?_
      refine wc_genR (α := Int) PyData.int (fun _ => True) (fun j s hj => ?_) fun as s' h1 _ => ?_
      · walk_at "pv all"
        exact ⟨_, _, rfl, rfl, trivial⟩
      · refine wr_nl rfl ?_
        walk_at "pv all"
        exact q (.t as) _ (show as.length ≤ 200 by omega) fun xs e => by cases e; omega
    · walk_at "pv all"
      refine draw_ok 5 _ _ _ (by decide) (by decide) _ fun n s3 n1 => ?_
      walk_at "pv all"
      refine rg1 (n := n) rfl (by omega) ?_
      refine wc_genR (α := Int) PyData.int (fun _ => True) (fun j s hj => ?_) fun as s' h1 _ => ?_
      · walk_at "pv all"
        refine number_ok _ _ _ _ fun i s2 => ?_
        exact ⟨_, _, rfl, rfl, trivial⟩
      · refine wr_nl rfl ?_
        walk_at "pv all"
        exact q (.t as) _ (show as.length ≤ 200 by omega) fun xs e => by cases e; omega
theorem changed_ok (b : Bool) (g : Ag) (hg : AgOk b g) (hl : ∀ xs, g = .t xs → xs.length ≤ 100) (k : Nat) (s : Ds) (tl : List Ob) (Q : Val → List Ob → Prop)
    (q : ∀ a s', AgOk b a → (∀ xs ys, g = .t xs → a = .t ys → ys.length ≤ xs.length + 2) → Q (.d (agd a)) (St s' :: tl)) : W (callP P gl (k + 3) 13 [.ref 0, .d (agd g)]) (St s :: tl) Q := by
  cases g with
  | n i =>
    cases b with
    | true => exact hg.elim
    | false =>
    refine w_def (nm := f13.name) (ps := f13.ps) (N := f13.N) (body := f13.body) (env := [some (.ref 0), some (.d (.int i)), none, none, none, none]) rfl rfl ?_
    unfold f13
    walk_at "pv all"
    refine draw_ok 4 _ _ _ (by decide) (by decide) _ fun a s1 a1 => ?_
    obtain ⟨y, hy⟩ : ∃ y : Int, ([.int 1, .int (-1), .int 3, .int (10 ^ Int.toNat 25)] : List Dt)[a]? = some (.int y) := by
      have : a = 0 ∨ a = 1 ∨ a = 2 ∨ a = 3 := by omega
      rcases this with rfl | rfl | rfl | rfl <;> exact ⟨_, rfl⟩
    refine ix_list rfl hy ?_
    walk_at "pv all"
    exact q (.n (i + y)) _ trivial fun _ _ h => nomatch h
  | t xs =>
    cases b with
    | false => exact hg.elim
    | true =>
    have hl := hl xs rfl
    have sz : sizeLine = 16777216 := rfl
    have ok : ∀ ys : List Int, ys.length ≤ xs.length + 2 → ∀ s', Q (.d (.tuple (ys.map .int))) (St s' :: tl) := fun ys h s' => q (.t ys) s' (show ys.length ≤ 200 by omega) fun us vs e1 e2 => by cases e1; cases e2; exact h
    refine w_def (nm := f13.name) (ps := f13.ps) (N := f13.N) (body := f13.body) (env := [some (.ref 0), some (.d (.tuple (xs.map .int))), none, none, none, none]) rfl rfl ?_
    unfold f13
    walk_at "pv all"
    refine draw_ok 5 _ _ _ (by decide) (by decide) _ fun p s1 p1 => ?_
    walk_at "pv all"
    have hmx : (if ((xs.map PyData.int).length : Int) > 1 then ((xs.map PyData.int).length : Int) else 1) = ((max 1 xs.length : Nat) : Int) := by
      rw [List.length_map]; split <;> omega
    rw [hmx]
    refine draw_ok (max 1 xs.length) _ _ _ (by omega) (by omega) _ fun j s2 j1 => ?_
    have last : ∀ s2, xs ≠ [] → WS gl (callP P gl (k + 2)) (Ss.cons (.iff (.cmp .Eq (.slot 3) (.k (.int 1))) (.cons (.ret (.sl false (.slot 1) .absent (.slot 4)))
    .nil) .nil)
    (.cons (.set 5 (.bin .Add false (.bin .Add false (.sl false (.slot 1) .absent (.slot 4)) (.tup (.cons (.bin .Add false (.bin .Add false (.ix (.slot 1) (.slot 4)) (.k (.int 1))) (.call 6 (.cons (.slot 0) (.cons (.k (.int 3)) .nil)))) .nil))) (.sl false (.slot 1) (.bin .Add false (.slot 4) (.k (.int 1))) .absent)))
    (.cons (.iff (.cmp .Eq (.slot 3) (.k (.int 2))) (.cons (.ret (.slot 5))
    .nil) .nil)
    (.cons (.iff (.cmp .Eq (.slot 3) (.k (.int 3))) (.cons (.ret (.bin .Add false (.slot 5) (.tup (.cons (.call 10 (.cons (.slot 0) .nil)) (.cons (.k (.int 7)) .nil)))))
    .nil) .nil)
    (.cons (.ret (.sl false (.slot 5) .absent (.bin .Sub false (.slot 2) (.k (.int 1)))))
    .nil))))) [some (.ref 0), some (.d (.tuple (xs.map .int))), some (.d (.int ((xs.map PyData.int).length : Int))), some (.d (.int (p : Int))), some (.d (.int (j : Int))), none] (St s2 :: tl) fun fl mh' => ∃ x s' os, (fl = .rt (.d x) ∨ ∃ e, fl = .nx e ∧ x = .none) ∧ mh' = St s' :: (tl ++ os) ∧ Q (.d x) (St s' :: tl) := by
      intro s2 hne
      have hx : 0 < xs.length := List.length_pos_iff.mpr hne
      have hj : j < xs.length := by omega
      walk_at "pv all"
      refine ci_eq (fun h => ?_) (fun h => ?_)
      · walk_at "pv all"
        rw [cutG_to, ← List.map_take]
        walk_at "pv all"
        exact ok _ (by rw [List.length_take]; omega) _
      · walk_at "pv all"
        rw [cutG_to, ← List.map_take]
        walk_at "pv all"
        refine ix_tup rfl (show (xs.map PyData.int)[j]? = some (.int xs[j]) by rw [List.getElem?_map, List.getElem?_eq_getElem hj]; rfl) ?_
        walk_at "pv all"
        refine draw_ok 3 _ _ _ (by decide) (by decide) _ fun a s3 a1 => ?_
        walk_at "pv all"
        refine wr_addT (by rw [List.length_map, List.length_take, List.length_cons]; simp only [List.length_nil]; omega) ?_
        walk_at "pv all"
        rw [show (j : Int) + 1 = ((j + 1 : Nat) : Int) by omega, cutG_from, ← List.map_drop]
        refine wr_addT (by rw [List.length_append, List.length_map, List.length_take, List.length_map, List.length_drop, List.length_cons]; simp only [List.length_nil]; omega) ?_
        rw [show (List.map PyData.int (xs.take j) ++ [.int (xs[j] + 1 + (a : Int))]) ++ List.map PyData.int (xs.drop (j + 1)) = ((xs.take j ++ [xs[j] + 1 + (a : Int)]) ++ xs.drop (j + 1)).map PyData.int from by rw [List.map_append, List.map_append]; rfl]
        have hlen : ((xs.take j ++ [xs[j] + 1 + (a : Int)]) ++ xs.drop (j + 1)).length = xs.length := by simp; omega
        generalize ((xs.take j ++ [xs[j] + 1 + (a : Int)]) ++ xs.drop (j + 1)) = ys at *
        walk_at "pv all"
        refine ci_eq (fun h => ?_) (fun h => ?_)
        · walk_at "pv all"
          exact ok _ (by omega) _
        · walk_at "pv all"
          refine ci_eq (fun h => ?_) (fun h => ?_)
          · walk_at "pv all"
            refine number_ok _ _ _ _ fun i s4 => ?_
            walk_at "pv all"
            refine wr_addT (by rw [List.length_map]; simp only [List.length_cons, List.length_nil]; omega) ?_
            walk_at "pv all"
            have := ok (ys ++ [i, 7]) (by simp; omega) s4
            rw [List.map_append] at this
            exact this
          · walk_at "pv all"
            rw [show ((xs.map PyData.int).length : Int) - 1 = ((xs.length - 1 : Nat) : Int) by rw [List.length_map]; omega, cutG_to, ← List.map_take]
            walk_at "pv all"
            exact ok _ (by rw [List.length_take]; omega) _
    walk_at "pv all"
    refine ci_eq (fun h => ?_) (fun h => ?_)
    · walk_at "pv all"
      refine number_ok _ _ _ _ fun i s4 => ?_
      walk_at "pv all"
      refine wr_addT (by rw [List.length_map]; simp only [List.length_cons, List.length_nil]; omega) ?_
      walk_at "pv all"
      have := ok (xs ++ [i]) (by simp) s4
      rw [List.map_append] at this
      exact this
    · walk_at "pv all"
      refine ci_eq (fun h => ?_) (fun h => ?_)
      · walk_at "pv all"
        refine number_ok _ _ _ _ fun i s4 => ?_
        walk_at "pv all"
        refine wr_addT (by rw [List.length_map]; simp only [List.length_cons, List.length_nil]; omega) ?_
        walk_at "pv all"
        have := ok (xs ++ [i]) (by simp) s4
        rw [List.map_append] at this
        exact this
      · refine pick_f (ws_nil (thenS_nx ?_))
        exact last _ (by rintro rfl; exact h rfl)
end PvK

namespace PvK
open PySem PySem.Spec PyProof.Rows L2 Pv
def base (x : Str) : List Nat := x.cps.toList.takeWhile fun c => decide (c ≠ 46)
theorem tw_all {xs ys : List Nat} (h : ∀ c ∈ xs, c ≠ 46) : (xs ++ 46 :: ys).takeWhile (fun c => decide (c ≠ 46)) = xs := by
  induction xs with
  | nil => rfl
  | cons x xs ih =>
    rw [List.cons_append, List.takeWhile_cons, if_pos (decide_eq_true (h x List.mem_cons_self)), ih fun c hc => h c (List.mem_cons_of_mem _ hc)]
theorem tw_self {xs : List Nat} (h : ∀ c ∈ xs, c ≠ 46) : xs.takeWhile (fun c => decide (c ≠ 46)) = xs := by
  induction xs with
  | nil => rfl
  | cons x xs ih =>
    rw [List.takeWhile_cons, if_pos (decide_eq_true (h x List.mem_cons_self)), ih fun c hc => h c (List.mem_cons_of_mem _ hc)]
theorem wrd_ne {w : Str} (h : Wrd w) : ∀ c ∈ w.cps.toList, c ≠ 46 := by
  obtain ⟨_, a, as, e, h1, h2, h3⟩ := h
  rw [e]
  intro c hc
  rcases List.mem_cons.mp hc with rfl | hc
  · omega
  · have := h3 c hc; omega
theorem base_w {w : Str} (h : Wrd w) : base w = w.cps.toList := by
  exact tw_self (wrd_ne h)
theorem base_s {w : Str} (h : Wrd w) : base (w ++ Str.ofString ".s") = w.cps.toList := by
  unfold base
  rw [app_list]
  exact tw_all (wrd_ne h)
theorem base_t {w : Str} (h : Wrd w) : base (w ++ Str.ofString ".t") = w.cps.toList := by
  unfold base
  rw [app_list]
  exact tw_all (wrd_ne h)
def Nmd (x : Str) : Prop := x.length ≤ 6 ∧ ∃ a as, x.cps.toList = a :: as ∧ 97 ≤ a
theorem nmd_w {w : Str} (h : Wrd w) : Nmd w := by
  obtain ⟨z, a, as, e, h1, h2, h3⟩ := h
  exact ⟨by omega, a, as, e, h1⟩
theorem nmd_app {w z : Str} (h : Wrd w) (hz : z.length ≤ 2) : Nmd (w ++ z) := by
  obtain ⟨y, a, as, e, h1, h2, h3⟩ := h
  refine ⟨by rw [len_app]; omega, a, as ++ z.cps.toList, ?_, h1⟩
  rw [app_list, e]; rfl
/-- a name of the i-th word or an elder one -/
def Src (ws : List Str) (i : Nat) (x : Str) : Prop := Nmd x ∧ ∃ j w, j < i ∧ ws[j]? = some w ∧ base x = w.cps.toList
theorem str_ext {x y : Str} (h : x.cps.toList = y.cps.toList) : x = y := by
  cases x; cases y
  exact congrArg Str.mk (Array.toList_inj.mp h)
theorem src_new {ws : List Str} {i : Nat} {x w y : Str} (nd : ws.Nodup) (h : Src ws i x) (hw : ws[i]? = some w) (hy : base y = w.cps.toList) : x ≠ y := by
  rintro rfl
  obtain ⟨_, j, v, hj, hv, e⟩ := h
  have e2 : v = w := str_ext (e.symm.trans hy)
  subst e2
  obtain ⟨h1, h2⟩ := List.getElem?_eq_some_iff.mp hv
  obtain ⟨h3, h4⟩ := List.getElem?_eq_some_iff.mp hw
  have := (List.getElem_inj nd).mp (h2.trans h4.symm)
  omega
theorem Src.up {ws : List Str} {i : Nat} {x : Str} (h : Src ws i x) : Src ws (i + 1) x := by
  obtain ⟨a, j, w, h1, h2⟩ := h
  exact ⟨a, j, w, by omega, h2⟩
structure PsOk (ps : List Par) : Prop where
  len : ps.length ≤ 6
  nd : (ps.map (·.2)).Nodup
  nm : ∀ p ∈ ps, Nmd p.2
theorem params_ok (k : Nat) (s : Ds) (tl : List Ob) (ws : List Str) (l : Nat) (hw : ws.length = 6) (hnd : ws.Nodup) (hws : ∀ x ∈ ws, Wrd x) (hl : l ≤ 1) (Q : Val → List Ob → Prop)
    (q : ∀ ps s', PsOk ps → Q (.d (.tuple (ps.map pard))) (St s' :: tl)) : W (callP P gl (k + 2) 11 [.ref 0, .d (strD ws), .d (.int (l : Int))]) (St s :: tl) Q := by
  refine w_def (nm := f11.name) (ps := f11.ps) (N := f11.N) (body := f11.body) (env := [some (.ref 0), some (.d (strD ws)), some (.d (.int l)), none, none, none]) rfl rfl ?_
  unfold f11
  walk_at "pv all"
  rw [show (7 : Int) - (l : Int) = ((7 - l : Nat) : Int) by omega]
  show W _ (St s :: (tl ++ [Ob.lst []])) _
  have h7 := draw_ok (7 - l) k s (tl ++ [Ob.lst []]) (by omega) (by omega)
  refine h7 _ ?_
  intro n s1 n1
  walk_at "pv all"
  refine rg1 (n := l + n) (Int.natCast_add l n).symm (by omega) ?_
  refine wl_invR (fun i e m => ∃ (s' : Ds) (ps : List Par) (os : List Ob) (j : Nat) (a4 a5 : Option Val), e = [some (.ref 0), some (.d (strD ws)), some (.d (.int l)), some (.ref (tl.length + 1 + j)), a4, a5] ∧ m = St s' :: (tl ++ os) ∧ os[j]? = some (.lst ((ps.map pard).map .d)) ∧ ps.length ≤ 2 * i ∧ (ps.map (·.2)).Nodup ∧ ∀ p ∈ ps, Src ws i p.2)
    ⟨s1, [], [.lst []], 0, none, none, rfl, rfl, rfl, Nat.le_refl _, List.nodup_nil, fun _ h => nomatch h⟩ (fun i e m hi I => ?_) (fun e m I => ?_)
  · obtain ⟨s', ps, os, j, a4, a5, rfl, rfl, h1, h2, h3, h4⟩ := I
    have hiw : i < ws.length := by omega
    have hw0 : ws[i]? = some ws[i] := List.getElem?_eq_getElem hiw
    have hwd : Wrd ws[i] := hws _ (List.getElem_mem hiw)
    have hix : (ws.map PyData.str)[i]? = some (.str ws[i]) := by rw [List.getElem?_map, hw0]; rfl
    generalize ws[i] = w at hw0 hwd hix
    have hwl := hwd.1
    walk_at "pv all"
    refine draw_ok 5 _ _ _ (by decide) (by decide) _ fun p s2 p1 => ?_
    walk_at "pv all"
    have more : ∀ (b : Bool) (s2 : Ds) (a5 : Option Val), ∃ (s' : Ds) (qs : List Par) (os2 : List Ob) (j2 : Nat) (b4 b5 : Option Val), [some (.ref 0), some (.d (strD ws)), some (.d (.int l)), some (.ref (tl.length + 1 + j)), some (.d (.int (i : Int))), a5] = [some (.ref 0), some (.d (strD ws)), some (.d (.int l)), some (.ref (tl.length + 1 + j2)), b4, b5] ∧ St s2 :: (tl ++ os.set j (.lst ((ps.map pard).map Val.d ++ [.d (pard (b, w))]))) = St s' :: (tl ++ os2) ∧ os2[j2]? = some (.lst ((qs.map pard).map .d)) ∧ qs.length ≤ 2 * (i + 1) ∧ (qs.map (·.2)).Nodup ∧ ∀ p ∈ qs, Src ws (i + 1) p.2 := by
      intro b s2 a5
      refine ⟨s2, ps ++ [(b, w)], _, j, _, _, rfl, rfl, ?_, ?_, ?_, ?_⟩
      · rw [List.getElem?_set_self (List.getElem?_eq_some_iff.mp h1).1, List.map_append, List.map_append]
        rfl
      · rw [List.length_append]; simp only [List.length_cons, List.length_nil]; omega
      · rw [List.map_append]
        refine List.nodup_append.mpr ⟨h3, by simp, fun x hx y hy => ?_⟩
        obtain ⟨p, hp, rfl⟩ := List.mem_map.mp hx
        rw [List.mem_singleton.mp hy]
        exact src_new hnd (h4 p hp) hw0 (base_w hwd)
      · intro p hp
        rcases List.mem_append.mp hp with hp | hp
        · exact (h4 p hp).up
        · rw [List.mem_singleton.mp hp]
          exact ⟨nmd_w hwd, i, w, by omega, hw0, base_w hwd⟩
    have hsz : ((ps.map pard).map Val.d).length < sizeLine := by rw [List.length_map, List.length_map]; exact big_sz (by omega)
    refine ci_lt (fun h => ?_) (fun h => ?_)
    · walk_at "pv all"
      refine ⟨rcv_lst (os_get h1), ?_⟩
      walk_at "pv all"
      refine ix_list rfl hix ?_
      walk_at "pv all"
      refine app_end (os_get h1) hsz ?_
      walk_at "pv all"
      rw [os_set]
      exact more true _ _
    · walk_at "pv all"
      refine ci_lt (fun h => ?_) (fun h => ?_)
      · walk_at "pv all"
        refine ⟨rcv_lst (os_get h1), ?_⟩
        walk_at "pv all"
        refine ix_list rfl hix ?_
        walk_at "pv all"
        refine app_end (os_get h1) hsz ?_
        walk_at "pv all"
        rw [os_set]
        exact more false _ _
      · walk_at "pv all"
        have hl1 : (Str.ofString ".s").length = 2 := by decide +kernel
        have hl2 : (Str.ofString ".t").length = 2 := by decide +kernel
        have hsl : sizeLine = 16777216 := rfl
        refine ix_list rfl hix ?_
        walk_at "pv all"
        refine wr_addS (by rw [hl1]; omega) ?_
        walk_at "pv all"
        refine ix_list rfl hix ?_
        walk_at "pv all"
        refine wr_addS (by rw [hl2]; omega) ?_
        walk_at "pv all"
        refine wr_catC (os_get h1) (by rw [List.length_map]; simp only [List.length_cons, List.length_nil]; omega) ?_
        walk_at "pv all"
        rw [os_len, os_new]
        refine ⟨s2, ps ++ [(false, w ++ Str.ofString ".s"), (false, w ++ Str.ofString ".t")], _, os.length, _, _, rfl, rfl, ?_, ?_, ?_, ?_⟩
        · rw [os_end, List.map_append, List.map_append, List.map_append]
          rfl
        · rw [List.length_append]; simp only [List.length_cons, List.length_nil]; omega
        · rw [List.map_append]
          refine List.nodup_append.mpr ⟨h3, ?_, fun x hx y hy => ?_⟩
          · have : w ++ Str.ofString ".s" ≠ w ++ Str.ofString ".t" := fun e => by
              have := congrArg (fun z => z.cps.toList) e
              simp only [app_list] at this
              have := List.append_cancel_left this
              revert this
              decide +kernel
            simp [this]
          · obtain ⟨p, hp, rfl⟩ := List.mem_map.mp hx
            have hy : y = w ++ Str.ofString ".s" ∨ y = w ++ Str.ofString ".t" := by simpa using hy
            rcases hy with rfl | rfl
            · exact src_new hnd (h4 p hp) hw0 (base_s hwd)
            · exact src_new hnd (h4 p hp) hw0 (base_t hwd)
        · intro p hp
          rcases List.mem_append.mp hp with hp | hp
          · exact (h4 p hp).up
          · have hp : p = (false, w ++ Str.ofString ".s") ∨ p = (false, w ++ Str.ofString ".t") := by simpa using hp
            rcases hp with rfl | rfl
            · exact ⟨nmd_app hwd (by rw [hl1]; omega), i, w, by omega, hw0, base_s hwd⟩
            · exact ⟨nmd_app hwd (by rw [hl2]; omega), i, w, by omega, hw0, base_t hwd⟩
  · obtain ⟨s', ps, os, j, a4, a5, rfl, rfl, h1, h2, h3, h4⟩ := I
    refine thenS_nx ?_
    refine frz_lst rfl (os_get h1) ?_
    rw [os_set]
    walk_at "pv all"
    rw [show (6 : Int) = ((6 : Nat) : Int) from rfl, cutG_to, ← List.map_take]
    walk_at "pv all"
    refine q (ps.take 6) _ ⟨by rw [List.length_take]; omega, ?_, fun p hp => (h4 p (List.mem_of_mem_take hp)).1⟩
    rw [List.map_take]
    exact h3.sublist (List.take_sublist _ _)
end PvK

namespace PvK
open PySem PySem.Spec PyProof.Rows L2 Pv
abbrev Pc := Str × List Par
abbrev procd (p : Pc) : Dt := .tuple [.str p.1, .tuple (p.2.map pard), .tuple [], .tuple [], .tuple [], .tuple [], .tuple [], .tuple [], .tuple []]
abbrev cored (ps : List Pc) : Dt := .tuple (ps.map procd)
theorem named_ok (k : Nat) (mh : List Ob) (ps : List Pc) (p : Pc) (hp : ps.find? (fun r => decide (r.1 = p.1)) = some p) (Q : Val → List Ob → Prop) (q : Q (.d (procd p)) mh) : W (callP P gl (k + 1) 0 [.d (cored ps), .d (.str p.1)]) mh Q := by
  refine w_pure (nm := f0.name) (ps := f0.ps) (N := f0.N) (body := f0.body) (env := [some (.d (cored ps)), some (.d (.str p.1)), none]) rfl rfl ?_
  unfold f0
  walk_at "pv all"
  refine ix_T ?_
  refine wc_filter (p := fun r : Pc => decide (r.1 = p.1)) (r := fun r => Val.d (procd r)) gnil (fun r hr => ?_) ?_
  · walk_at "pv all"
    refine ix_tup (j := 0) rfl rfl ?_
    walk_at "pv all"
    refine cs_eq (fun h => ?_) (fun h => ?_)
    · refine ⟨(decide_eq_true h).symm, rfl, fun _ => ?_⟩
      walk_at "pv all"
      exact ⟨rfl, rfl⟩
    · exact ⟨(decide_eq_false h).symm, rfl, fun z => by cases z⟩
  · refine wr_nl (ds := (ps.filter fun r : Pc => decide (r.1 = p.1)).map procd) (by rw [List.map_map]; rfl) ?_
    walk_at "pv all"
    refine list_ix0 (em := procd) (a := p) (by rw [List.head?_filter]; exact hp) ?_
    walk_at "pv all"
    exact q
def at1 : Str := "@"
def at2 : Str := "@#"
def atomsS (ps : List Par) : List Str := ps.flatMap fun p => (if p.1 then [at2 ++ p.2] else []) ++ [at1 ++ p.2]
theorem at1_len : at1.length = 1 := by decide +kernel
theorem at2_len : at2.length = 2 := by decide +kernel
theorem atoms_len : ∀ ps : List Par, (atomsS ps).length ≤ 2 * ps.length
  | [] => Nat.le_refl _
  | p :: ps => by
    have := atoms_len ps
    unfold atomsS at *
    rw [List.flatMap_cons, List.length_append, List.length_cons]
    have : ((if p.1 then [at2 ++ p.2] else []) ++ [at1 ++ p.2]).length ≤ 2 := by split <;> simp
    omega
theorem atoms_take {ps : List Par} {i : Nat} {p : Par} (h : ps[i]? = some p) : atomsS (ps.take (i + 1)) = atomsS (ps.take i) ++ ((if p.1 then [at2 ++ p.2] else []) ++ [at1 ++ p.2]) := by
  unfold atomsS
  rw [List.take_add_one, h, List.flatMap_append]
  simp
theorem kd_inj {b : Bool} : (kd b = Str.ofString "array") ↔ b = true := by cases b <;> decide +kernel
theorem kd_int {b : Bool} : (kd b = Str.ofString "int") ↔ b = false := by cases b <;> decide +kernel
theorem atomsp_ok (k : Nat) (mh : List Ob) (p : Pc) (ok : PsOk p.2) (Q : Val → List Ob → Prop) (q : Q (.d (strT (atomsS p.2))) mh) : W (callP P gl (k + 1) 1 [.d (procd p)]) mh Q := by
  refine w_pure (nm := f1.name) (ps := f1.ps) (N := f1.N) (body := f1.body) (env := [some (.d (procd p)), none, none, none]) rfl rfl ?_
  unfold f1
  walk_at "pv all"
  refine ix_tup (j := 1) rfl rfl ?_
  refine ix_T ?_
  refine wl_invL (fun i e m => ∃ (a2 a3 : Option Val), e = [some (.d (procd p)), some (.ref mh.length), a2, a3] ∧ m = mh ++ [.lst (((atomsS (p.2.take i)).map .str).map .d)]) ⟨none, none, rfl, rfl⟩ (fun i y e m hy I => ?_) (fun e m I => ?_)
  · obtain ⟨a2, a3, rfl, rfl⟩ := I
    have hin := List.mem_of_getElem? hy
    have hi : i < p.2.length := (List.getElem?_eq_some_iff.mp hy).1
    have nm := ok.nm y hin
    have nl := nm.1
    have hl := ok.len
    have hal := atoms_len (p.2.take i)
    rw [List.length_take] at hal
    have hsl : sizeLine = 16777216 := rfl
    walk_at "pv all"
    refine cs_eq (fun h => ?_) (fun h => ?_)
    · walk_at "pv all"
      refine ⟨rcv_lst end_get, ?_⟩
      walk_at "pv all"
      refine wr_addS (show at2.length + y.2.length ≤ _ by rw [at2_len]; omega) ?_
      walk_at "pv all"
      refine app_end end_get (by rw [List.length_map, List.length_map]; omega) ?_
      walk_at "pv all"
      rw [end_set]
      refine ⟨rcv_lst end_get, ?_⟩
      walk_at "pv all"
      refine wr_addS (show at1.length + y.2.length ≤ _ by rw [at1_len]; omega) ?_
      walk_at "pv all"
      refine app_end end_get (by rw [List.length_append, List.length_map, List.length_map]; simp only [List.length_cons, List.length_nil]; omega) ?_
      walk_at "pv all"
      rw [end_set]
      refine ⟨_, _, rfl, ?_⟩
      rw [atoms_take hy, if_pos (kd_inj.mp h)]
      simp [at1, at2]
    · walk_at "pv all"
      refine ⟨rcv_lst end_get, ?_⟩
      walk_at "pv all"
      refine wr_addS (show at1.length + y.2.length ≤ _ by rw [at1_len]; omega) ?_
      walk_at "pv all"
      refine app_end end_get (by rw [List.length_map, List.length_map]; omega) ?_
      walk_at "pv all"
      rw [end_set]
      refine ⟨_, _, rfl, ?_⟩
      rw [atoms_take hy, if_neg fun z => h (kd_inj.mpr z)]
      simp [at1]
  · obtain ⟨a2, a3, rfl, rfl⟩ := I
    rw [List.take_length]
    refine thenS_nx ?_
    refine frz_lst rfl end_get ?_
    rw [end_set]
    walk_at "pv all"
    exact q
theorem atoms_ok (k : Nat) (mh : List Ob) (ps : List Pc) (p : Pc) (hp : ps.find? (fun r => decide (r.1 = p.1)) = some p) (ok : PsOk p.2) (Q : Val → List Ob → Prop) (q : Q (.d (strT (atomsS p.2))) mh) : W (callP P gl (k + 2) 2 [.d (cored ps), .d (.str p.1)]) mh Q := by
  refine w_pure (nm := f2.name) (ps := f2.ps) (N := f2.N) (body := f2.body) (env := [some (.d (cored ps)), some (.d (.str p.1))]) rfl rfl ?_
  unfold f2
  walk_at "pv all"
  refine named_ok _ _ _ _ hp _ ?_
  walk_at "pv all"
  refine atomsp_ok _ _ _ ok _ ?_
  walk_at "pv all"
  exact q
theorem lawatoms_ok (k : Nat) (mh : List Ob) (p : Pc) (ok : PsOk p.2) (Q : Val → List Ob → Prop) (q : Q (.d (strT (atomsS p.2))) mh) : W (callP P gl (k + 1) 14 [.d (procd p)]) mh Q := by
  refine w_pure (nm := f14.name) (ps := f14.ps) (N := f14.N) (body := f14.body) (env := [some (.d (procd p)), none, none, none]) rfl rfl ?_
  unfold f14
  walk_at "pv all"
  refine ix_tup (j := 1) rfl rfl ?_
  refine ix_T ?_
  refine wl_invL (fun i e m => ∃ (os : List Ob) (j : Nat) (a2 a3 : Option Val), e = [some (.d (procd p)), some (.ref (mh.length + j)), a2, a3] ∧ m = mh ++ os ∧ os[j]? = some (.lst (((atomsS (p.2.take i)).map .str).map .d))) ⟨[.lst []], 0, none, none, rfl, rfl, rfl⟩ (fun i y e m hy I => ?_) (fun e m I => ?_)
  · obtain ⟨os, j, a2, a3, rfl, rfl, h1⟩ := I
    have hin := List.mem_of_getElem? hy
    have hi : i < p.2.length := (List.getElem?_eq_some_iff.mp hy).1
    have nm := ok.nm y hin
    have nl := nm.1
    have hl := ok.len
    have hal := atoms_len (p.2.take i)
    rw [List.length_take] at hal
    have hsl : sizeLine = 16777216 := rfl
    have hg : (mh ++ os)[mh.length + j]? = some (.lst (((atomsS (p.2.take i)).map .str).map .d)) := by
      rw [List.getElem?_append_right (by omega), show mh.length + j - mh.length = j by omega]
      exact h1
    walk_at "pv all"
    refine cs_eq (fun h => ?_) (fun h => ?_)
    · walk_at "pv all"
      refine wr_addS (show at2.length + y.2.length ≤ _ by rw [at2_len]; omega) ?_
      walk_at "pv all"
      refine wr_addS (show at1.length + y.2.length ≤ _ by rw [at1_len]; omega) ?_
      walk_at "pv all"
      refine wr_catC hg (by rw [List.length_map]; simp only [List.length_cons, List.length_nil]; omega) ?_
      walk_at "pv all"
      refine ⟨os ++ [.lst (((atomsS (p.2.take (i + 1))).map .str).map .d)], os.length, _, _, by rw [List.length_append]; rfl, ?_, by simp⟩
      rw [atoms_take hy, if_pos (kd_inj.mp h)]
      simp [at1, at2]
    · walk_at "pv all"
      refine ⟨rcv_lst hg, ?_⟩
      walk_at "pv all"
      refine wr_addS (show at1.length + y.2.length ≤ _ by rw [at1_len]; omega) ?_
      walk_at "pv all"
      refine app_end hg (by rw [List.length_map, List.length_map]; omega) ?_
      walk_at "pv all"
      refine ⟨os.set j (.lst (((atomsS (p.2.take (i + 1))).map .str).map .d)), j, _, _, rfl, ?_, ?_⟩
      · rw [List.set_append_right _ _ (by omega), show mh.length + j - mh.length = j by omega, atoms_take hy, if_neg fun z => h (kd_inj.mpr z)]
        simp [at1]
      · rw [List.getElem?_set_self (List.getElem?_eq_some_iff.mp h1).1]
  · obtain ⟨os, j, a2, a3, rfl, rfl, h1⟩ := I
    rw [List.take_length] at h1
    have hg : (mh ++ os)[mh.length + j]? = some (.lst (((atomsS p.2).map .str).map .d)) := by
      rw [List.getElem?_append_right (by omega), show mh.length + j - mh.length = j by omega]
      exact h1
    refine thenS_nx ?_
    refine frz_lst rfl hg ?_
    rw [List.set_append_right _ _ (by omega)]
    walk_at "pv all"
    exact q
end PvK

namespace PvK
open PySem PySem.Spec PyProof.Rows L2 Pv
/-- what agree_at tells -/
def agv (a : Str) (x : Str) : Ag → Ag → Bool
  | .n i, .n j => decide (i = j)
  | .t xs, .t ys => if a = at2 ++ x then decide (xs.length = ys.length) else (xs.zip ys).all fun p => decide (p.1 = p.2)
  | _, _ => false
theorem agv_t {a x : Str} {xs ys : List Int} : agv a x (.t xs) (.t ys) = if a = at2 ++ x then decide (xs.length = ys.length) else (xs.zip ys).all fun p => decide (p.1 = p.2) := rfl
theorem cd_intsB {mh : List Ob} {i j : Int} : cmpF .Eq mh (.d (.int i)) (.d (.int j)) = some (.v (.d (.bool (decide (i = j))))) := rfl
theorem zip_ints (xs ys : List Int) (mh : List Ob) : zip2 mh [.d (.tuple (xs.map .int)), .d (.tuple (ys.map .int))] = some ⟨(xs.zip ys).map fun p => Val.d (.tuple [.int p.1, .int p.2]), []⟩ := by
  show (zipIt ((xs.map PyData.int).map Val.d) ((ys.map PyData.int).map Val.d)).map _ = _
  unfold zipIt
  rw [asDs_map, asDs_map]
  show some (Ix.mk (((xs.map PyData.int).zip (ys.map PyData.int)).map _) []) = _
  rw [List.zip_map, List.map_map]
  rfl
theorem agree_at_ok (b : Bool) (g o : Ag) (hg : AgOk b g) (ho : AgOk b o) (k : Nat) (mh : List Ob) (a x : Str) (hx : x.length ≤ 6) (Q : Val → List Ob → Prop) (q : Q (.d (.bool (agv a x g o))) mh) :
    W (callP P gl (k + 1) 3 [.d (.str a), .d (.str x), .d (agd g), .d (agd o)]) mh Q := by
  have hsl : sizeLine = 16777216 := rfl
  cases b with
  | false =>
    cases g with
    | t xs => exact hg.elim
    | n i =>
      cases o with
      | t xs => exact ho.elim
      | n j =>
        refine w_pure (nm := f3.name) (ps := f3.ps) (N := f3.N) (body := f3.body) (env := [some (.d (.str a)), some (.d (.str x)), some (.d (.int i)), some (.d (.int j)), none, none]) rfl rfl ?_
        unfold f3
        walk_at "pv all"
        exact q
  | true =>
    cases g with
    | n xs => exact hg.elim
    | t xs =>
      cases o with
      | n xs => exact ho.elim
      | t ys =>
        refine w_pure (nm := f3.name) (ps := f3.ps) (N := f3.N) (body := f3.body) (env := [some (.d (.str a)), some (.d (.str x)), some (.d (.tuple (xs.map .int))), some (.d (.tuple (ys.map .int))), none, none]) rfl rfl ?_
        unfold f3
        walk_at "pv all"
        refine wr_addS (show at2.length + x.length ≤ _ by rw [at2_len]; omega) ?_
        refine cs_eq (fun h => ?_) (fun h => ?_)
        · walk_at "pv all"
          have h : a = at2 ++ x := h
          have e : agv a x (.t xs) (.t ys) = decide (((xs.map PyData.int).length : Int) = ((ys.map PyData.int).length : Int)) := by
            rw [agv_t, if_pos h, List.length_map, List.length_map]
            exact decide_eq_decide.mpr (by omega)
          rw [← e]
          exact q
        · walk_at "pv all"
          refine ⟨_, zip_ints xs ys mh, ?_⟩
          refine wc_map (r := fun p : Int × Int => Val.d (.bool (decide (p.1 = p.2)))) gnil (fun p hp => ?_) ?_
          · walk_at "pv all"
            exact ⟨rfl, rfl⟩
          · refine wr_nl (ds := (xs.zip ys).map fun p : Int × Int => .bool (decide (p.1 = p.2))) (by rw [List.map_map]; rfl) ?_
            walk_at "pv all"
            refine wr_allL (f := fun p : Int × Int => decide (p.1 = p.2)) (by rw [List.map_map]; rfl) ?_
            walk_at "pv all"
            have h : ¬ a = at2 ++ x := h
            have e : agv a x (.t xs) (.t ys) = (xs.zip ys).all fun p => decide (p.1 = p.2) := by
              rw [agv_t, if_neg h]
            rw [← e]
            exact q
/-- what agree tells -/
def mtch (a x : Str) : Bool := decide (a = at1 ++ x ∨ a = at2 ++ x)
def item1 (a : Str) (z : Par × Ag × Ag) : Bool := !mtch a z.1.2 || agv a z.1.2 z.2.1 z.2.2
def agr (zs : List (Par × Ag × Ag)) (as : List Str) : Bool := zs.all fun z => as.all fun a => item1 a z
def ZsOk (zs : List (Par × Ag × Ag)) : Prop := ∀ z ∈ zs, AgOk z.1.1 z.2.1 ∧ AgOk z.1.1 z.2.2 ∧ z.1.2.length ≤ 6
abbrev zit (z : Par × Ag × Ag) : Dt := .tuple [pard z.1, agd z.2.1, agd z.2.2]
theorem zip3_ok {ps : List Par} {gs os : List Ag} : zip3 [.d (.tuple (ps.map pard)), .d (.tuple (gs.map agd)), .d (.tuple (os.map agd))] = some ⟨(ps.zip (gs.zip os)).map fun z => Val.d (zit z), []⟩ := by
  show some (Ix.mk (((ps.map pard).zip ((gs.map agd).zip (os.map agd))).map _) []) = _
  rw [List.zip_map, List.zip_map, List.map_map]
  rfl
theorem agree_ok (k : Nat) (mh : List Ob) (ps : List Pc) (p : Pc) (hp : ps.find? (fun r => decide (r.1 = p.1)) = some p) (gs os : List Ag) (as : List Str) (ok : ZsOk (p.2.zip (gs.zip os))) (Q : Val → List Ob → Prop) (q : Q (.d (.bool (agr (p.2.zip (gs.zip os)) as))) mh) :
    W (callP P gl (k + 2) 4 [.d (cored ps), .d (.str p.1), .d (strT as), .d (.tuple (gs.map agd)), .d (.tuple (os.map agd))]) mh Q := by
  have hsl : sizeLine = 16777216 := rfl
  refine w_pure (nm := f4.name) (ps := f4.ps) (N := f4.N) (body := f4.body) (env := [some (.d (cored ps)), some (.d (.str p.1)), some (.d (strT as)), some (.d (.tuple (gs.map agd))), some (.d (.tuple (os.map agd))), none, none, none, none]) rfl rfl ?_
  unfold f4
  walk_at "pv all"
  refine named_ok _ _ _ _ hp _ ?_
  walk_at "pv all"
  refine ix_tup (j := 1) rfl rfl ?_
  walk_at "pv all"
  refine ⟨_, zip3_ok, ?_⟩
  generalize p.2.zip (gs.zip os) = zs at *
  have no : ∀ z ∈ zs, ∀ a ∈ as, item1 a z = false → agr zs as = false := fun z hz a ha h => by
    unfold agr
    rw [List.all_eq_false]
    refine ⟨z, hz, ?_⟩
    rw [Bool.not_eq_true, List.all_eq_false]
    exact ⟨a, ha, by rw [h]; decide⟩
  refine wl_invL (fun i e m => m = mh ∧ (∃ (a5 a6 a7 a8 : Option Val), e = [some (.d (cored ps)), some (.d (.str p.1)), some (.d (strT as)), some (.d (.tuple (gs.map agd))), some (.d (.tuple (os.map agd))), a5, a6, a7, a8]) ∧ ((zs.take i).all fun z => as.all fun a => item1 a z) = true) ⟨rfl, ⟨none, none, none, none, rfl⟩, rfl⟩ (fun i z e m hz I => ?_) (fun e m I => ?_)
  · obtain ⟨rfl, ⟨a5, a6, a7, a8, rfl⟩, h1⟩ := I
    have hin := List.mem_of_getElem? hz
    obtain ⟨ok1, ok2, ok3⟩ := ok z hin
    walk_at "pv all"
    refine ix_T ?_
    refine wl_invL (fun j e m' => m' = m ∧ (∃ (a8 : Option Val), e = [some (.d (cored ps)), some (.d (.str p.1)), some (.d (strT as)), some (.d (.tuple (gs.map agd))), some (.d (.tuple (os.map agd))), some (.d (pard z.1)), some (.d (agd z.2.1)), some (.d (agd z.2.2)), a8]) ∧ ((as.take j).all fun a => item1 a z) = true) ⟨rfl, ⟨a8, rfl⟩, rfl⟩ (fun j a e m' ha I => ?_) (fun e m' I => ?_)
    · obtain ⟨rfl, ⟨a8, rfl⟩, h2⟩ := I
      have hia := List.mem_of_getElem? ha
      have step : item1 a z = true → ((as.take (j + 1)).all fun a => item1 a z) = true := fun h => by
        rw [List.take_add_one, ha, List.all_append, h2]
        simp [h]
      walk_at "pv all"
      refine ix_tup (j := 1) rfl rfl ?_
      refine wr_addS (show at1.length + z.1.2.length ≤ _ by rw [at1_len]; omega) ?_
      walk_at "pv all"
      refine ix_tup (j := 1) rfl rfl ?_
      refine wr_addS (show at2.length + z.1.2.length ≤ _ by rw [at2_len]; omega) ?_
      walk_at "pv all"
      refine cd_inT rfl rfl (fun y hy => ?_) (fun h => ?_) (fun h => ?_)
      · have : y = .str (at1 ++ z.1.2) ∨ y = .str (at2 ++ z.1.2) := (List.mem_cons.mp hy).imp id fun h => List.mem_singleton.mp h
        rcases this with rfl | rfl <;> exact ⟨rfl, rfl⟩
      · have hm : mtch a z.1.2 = true := by
          have h : PyData.str a = .str (at1 ++ z.1.2) ∨ PyData.str a = .str (at2 ++ z.1.2) := (List.mem_cons.mp h).imp id fun h => List.mem_singleton.mp h
          refine decide_eq_true ?_
          rcases h with h | h
          · exact .inl (PyData.str.inj h)
          · exact .inr (PyData.str.inj h)
        walk_at "pv all"
        refine ix_tup (j := 1) rfl rfl ?_
        walk_at "pv all"
        refine agree_at_ok _ _ _ ok1 ok2 _ _ _ _ ok3 _ ?_
        walk_at "pv all"
        cases hv : agv a z.1.2 z.2.1 z.2.2 with
        | true =>
          walk_at "pv all"
          exact ⟨rfl, ⟨_, rfl⟩, step (by unfold item1; rw [hv, Bool.or_true])⟩
        | false =>
          walk_at "pv all"
          rw [no z hin a hia (by unfold item1; rw [hm, hv]; rfl)] at q
          exact q
      · have hm : mtch a z.1.2 = false := by
          refine decide_eq_false fun z => h ?_
          rcases z with z | z
          · rw [z]; exact List.mem_cons_self
          · rw [z]; exact List.mem_cons_of_mem _ List.mem_cons_self
        walk_at "pv all"
        exact ⟨rfl, ⟨_, rfl⟩, step (by unfold item1; rw [hm]; rfl)⟩
    · obtain ⟨rfl, ⟨a8, rfl⟩, h2⟩ := I
      rw [List.take_length] at h2
      walk_at "pv all"
      refine ⟨rfl, ⟨_, _, _, _, rfl⟩, ?_⟩
      rw [List.take_add_one, hz, List.all_append, h1]
      simp only [Option.toList_some, List.all_cons, List.all_nil, Bool.and_true, Bool.true_and]
      exact h2
  · obtain ⟨rfl, ⟨a5, a6, a7, a8, rfl⟩, h1⟩ := I
    rw [List.take_length] at h1
    walk_at "pv all"
    have e : agr zs as = true := h1
    rw [e] at q
    exact q
/-- the law's own look -/
def own1 (a : Str) (z : Par × Ag × Ag) : Option Bool := match z with
  | (p, .n i, .n j) => if a = at1 ++ p.2 then some (decide (i = j)) else none
  | (p, .t xs, .t ys) => if a = at2 ++ p.2 then some (decide (xs.length = ys.length)) else if a = at1 ++ p.2 then some (decide (xs.take (min xs.length ys.length) = ys.take (min xs.length ys.length))) else none
  | _ => none
theorem own1_t {a x : Str} {xs ys : List Int} : own1 a ((true, x), .t xs, .t ys) = if a = at2 ++ x then some (decide (xs.length = ys.length)) else if a = at1 ++ x then some (decide (xs.take (min xs.length ys.length) = ys.take (min xs.length ys.length))) else none := rfl
def ownA (a : Str) : List (Par × Ag × Ag) → Bool
  | [] => true
  | z :: zs => (own1 a z).getD (ownA a zs)
theorem own_some {a : Str} {b : Bool} : ∀ {zs : List (Par × Ag × Ag)} {i : Nat} {z}, zs[i]? = some z → (∀ y ∈ zs.take i, own1 a y = none) → own1 a z = some b → ownA a zs = b
  | [], i, z, h, _, _ => by simp at h
  | y :: zs, 0, z, h, _, e => by
    have h : y = z := by simpa using h
    subst h
    unfold ownA
    rw [e]; rfl
  | y :: zs, i + 1, z, h, hn, e => by
    unfold ownA
    rw [hn y (by simp)]
    exact own_some (i := i) (by simpa using h) (fun w hw => hn w (by rw [List.take_succ_cons]; exact List.mem_cons_of_mem _ hw)) e
theorem own_none {a : Str} : ∀ {zs : List (Par × Ag × Ag)}, (∀ y ∈ zs, own1 a y = none) → ownA a zs = true
  | [], _ => rfl
  | y :: zs, h => by
    unfold ownA
    rw [h y List.mem_cons_self]
    exact own_none fun w hw => h w (List.mem_cons_of_mem _ hw)
theorem lawagrees_ok (k : Nat) (mh : List Ob) (p : Pc) (gs os : List Ag) (hl1 : gs.length = p.2.length) (hl2 : os.length = p.2.length) (hpl : p.2.length ≤ 6) (a : Str) (ok : ZsOk (p.2.zip (gs.zip os))) (Q : Val → List Ob → Prop) (q : Q (.d (.bool (ownA a (p.2.zip (gs.zip os))))) mh) :
    W (callP P gl (k + 1) 15 [.d (procd p), .d (.str a), .d (.tuple (gs.map agd)), .d (.tuple (os.map agd))]) mh Q := by
  have hsl : sizeLine = 16777216 := rfl
  refine w_pure (nm := f15.name) (ps := f15.ps) (N := f15.N) (body := f15.body) (env := [some (.d (procd p)), some (.d (.str a)), some (.d (.tuple (gs.map agd))), some (.d (.tuple (os.map agd))), none, none, none, none]) rfl rfl ?_
  unfold f15
  walk_at "pv all"
  refine ix_tup (j := 1) rfl rfl ?_
  walk_at "pv all"
  refine rg1 (n := p.2.length) (by rw [List.length_map]) (by omega) ?_
  refine wl_invR (fun i e m => m = mh ∧ (∃ (a4 a5 a6 a7 : Option Val), e = [some (.d (procd p)), some (.d (.str a)), some (.d (.tuple (gs.map agd))), some (.d (.tuple (os.map agd))), a4, a5, a6, a7]) ∧ ∀ y ∈ (p.2.zip (gs.zip os)).take i, own1 a y = none) ⟨rfl, ⟨none, none, none, none, rfl⟩, fun _ h => by simp at h⟩ (fun i e m hi I => ?_) (fun e m I => ?_)
  · obtain ⟨rfl, ⟨a4, a5, a6, a7, rfl⟩, h1⟩ := I
    have e1 : p.2[i]? = some p.2[i] := List.getElem?_eq_getElem hi
    have e2 : gs[i]? = some gs[i] := List.getElem?_eq_getElem (by omega)
    have e3 : os[i]? = some os[i] := List.getElem?_eq_getElem (by omega)
    generalize p.2[i] = y at e1
    generalize gs[i] = g at e2
    generalize os[i] = o at e3
    have ez : (p.2.zip (gs.zip os))[i]? = some (y, g, o) := List.getElem?_zip_eq_some.mpr ⟨e1, List.getElem?_zip_eq_some.mpr ⟨e2, e3⟩⟩
    obtain ⟨ok1, ok2, ok3⟩ := ok _ (List.mem_of_getElem? ez)
    have f1 : (p.2.map pard)[i]? = some (pard y) := by rw [List.getElem?_map, e1]; rfl
    have f2 : (gs.map agd)[i]? = some (agd g) := by rw [List.getElem?_map, e2]; rfl
    have f3 : (os.map agd)[i]? = some (agd o) := by rw [List.getElem?_map, e3]; rfl
    have hit : ∀ b, own1 a (y, g, o) = some b → Q (.d (.bool b)) m := fun b hb => by
      rw [own_some ez h1 hb] at q; exact q
    have miss : own1 a (y, g, o) = none → ∀ z ∈ (p.2.zip (gs.zip os)).take (i + 1), own1 a z = none := fun hb z hz => by
      rw [List.take_add_one, ez] at hz
      rcases List.mem_append.mp hz with hz | hz
      · exact h1 z hz
      · have hz : z = (y, g, o) := by simpa using hz
        rw [hz]; exact hb
    have l1 : at1.length + y.2.length ≤ sizeLine := by rw [at1_len]; simp only at ok3; omega
    have l2 : at2.length + y.2.length ≤ sizeLine := by rw [at2_len]; simp only at ok3; omega
    walk_at "pv all"
    refine ix_tup (j := 1) rfl rfl ?_
    walk_at "pv all"
    refine ix_tup rfl f1 ?_
    walk_at "pv all"
    obtain ⟨b, x⟩ := y
    cases b with
    | false =>
      cases g with
      | t xs => exact ok1.elim
      | n u =>
      cases o with
      | t xs => exact ok2.elim
      | n v =>
      have f2 : (gs.map agd)[i]? = some (.int u) := f2
      have f3 : (os.map agd)[i]? = some (.int v) := f3
      refine cmp_t (by rfl) ?_
      walk_at "pv all"
      refine wr_addS l1 ?_
      refine cs_eq (fun h => ?_) (fun h => ?_)
      · walk_at "pv all"
        refine ix_tup rfl f2 ?_
        walk_at "pv all"
        refine ix_tup rfl f3 ?_
        walk_at "pv all"
        exact hit _ (if_pos h)
      · walk_at "pv all"
        refine cmp_f (by rfl) ?_
        walk_at "pv all"
        refine cmp_f (by rfl) ?_
        walk_at "pv all"
        exact ⟨rfl, ⟨_, _, _, _, rfl⟩, miss (if_neg h)⟩
    | true =>
      cases g with
      | n xs => exact ok1.elim
      | t xs =>
      cases o with
      | n xs => exact ok2.elim
      | t ys =>
      have f2 : (gs.map agd)[i]? = some (.tuple (xs.map .int)) := f2
      have f3 : (os.map agd)[i]? = some (.tuple (ys.map .int)) := f3
      refine cmp_f (by rfl) ?_
      walk_at "pv all"
      refine cmp_t (by rfl) ?_
      walk_at "pv all"
      refine wr_addS l2 ?_
      refine cs_eq (fun h => ?_) (fun h => ?_)
      · walk_at "pv all"
        refine ix_tup rfl f2 ?_
        walk_at "pv all"
        refine ix_tup rfl f3 ?_
        walk_at "pv all"
        have h : a = at2 ++ x := h
        have e : own1 a ((true, x), Ag.t xs, Ag.t ys) = some (decide (((xs.map PyData.int).length : Int) = ((ys.map PyData.int).length : Int))) := by
          rw [own1_t, if_pos h, List.length_map, List.length_map]
          exact congrArg some (decide_eq_decide.mpr (by omega))
        exact hit _ e
      · walk_at "pv all"
        refine cmp_t (by rfl) ?_
        walk_at "pv all"
        refine wr_addS l1 ?_
        refine cs_eq (fun h' => ?_) (fun h' => ?_)
        · walk_at "pv all"
          refine ix_tup rfl f2 ?_
          walk_at "pv all"
          refine ix_tup rfl f3 ?_
          walk_at "pv all"
          have hm : (if ((ys.map PyData.int).length : Int) < ((xs.map PyData.int).length : Int) then ((ys.map PyData.int).length : Int) else ((xs.map PyData.int).length : Int)) = ((min xs.length ys.length : Nat) : Int) := by
            rw [List.length_map, List.length_map]; split <;> omega
          rw [hm]
          refine ix_tup rfl f2 ?_
          walk_at "pv all"
          rw [cutG_to, ← List.map_take]
          refine ix_tup rfl f3 ?_
          walk_at "pv all"
          rw [cutG_to, ← List.map_take]
          have h : ¬ a = at2 ++ x := h
          have h' : a = at1 ++ x := h'
          have e : own1 a ((true, x), Ag.t xs, Ag.t ys) = some (decide (xs.take (min xs.length ys.length) = ys.take (min xs.length ys.length))) := by rw [own1_t, if_neg h, if_pos h']
          have z1 : xs.length < 1000000 := by have := show xs.length ≤ 200 from ok1; omega
          have z2 : ys.length < 1000000 := by have := show ys.length ≤ 200 from ok2; omega
          generalize min xs.length ys.length = mn at *
          refine wr_of (cd_eq (ps_ints (n := 59) (by rw [List.length_take]; omega)) (ps_ints (n := 59) (by rw [List.length_take]; omega)) (fun h => ?_) (fun h => ?_))
          · rw [decide_eq_true (ints_inj.mp h)] at e
            walk_at "pv all"
            exact hit _ e
          · rw [decide_eq_false fun z => h (ints_inj.mpr z)] at e
            walk_at "pv all"
            exact hit _ e
        · walk_at "pv all"
          exact ⟨rfl, ⟨_, _, _, _, rfl⟩, miss (by have h : ¬ a = at2 ++ x := h; have h' : ¬ a = at1 ++ x := h'; rw [own1_t, if_neg h, if_neg h'])⟩
  · obtain ⟨rfl, ⟨a4, a5, a6, a7, rfl⟩, h1⟩ := I
    rw [List.take_of_length_le (by rw [List.length_zip, List.length_zip]; omega)] at h1
    walk_at "pv all"
    rw [own_none h1] at q
    exact q
end PvK

namespace PvK
open PySem PySem.Spec PyProof.Rows L2 Pv
/-! the law's look and the program's -/
theorem at_clash {x y : Str} (h : Nmd x) : at1 ++ x ≠ at2 ++ y := by
  intro e
  obtain ⟨_, a, as, e1, h1⟩ := h
  have e2 := congrArg (fun z => z.cps.toList) e
  simp only [app_list, e1] at e2
  have l1 : at1.cps.toList = [64] := by decide +kernel
  have l2 : at2.cps.toList = [64, 35] := by decide +kernel
  rw [l1, l2] at e2
  simp at e2
  omega
theorem at1_inj {x y : Str} (h : at1 ++ x = at1 ++ y) : x = y := by
  have e2 := congrArg (fun z => z.cps.toList) h
  simp only [app_list] at e2
  exact str_ext (List.append_cancel_left e2)
theorem at2_inj {x y : Str} (h : at2 ++ x = at2 ++ y) : x = y := by
  have e2 := congrArg (fun z => z.cps.toList) h
  simp only [app_list] at e2
  exact str_ext (List.append_cancel_left e2)
theorem zip_pre : ∀ (xs ys : List Int), ((xs.zip ys).all fun p => decide (p.1 = p.2)) = decide (xs.take (min xs.length ys.length) = ys.take (min xs.length ys.length))
  | [], ys => by simp
  | x :: xs, [] => by simp
  | x :: xs, y :: ys => by
    have ih := zip_pre xs ys
    have : min (xs.length + 1) (ys.length + 1) = min xs.length ys.length + 1 := by omega
    simp only [List.zip_cons_cons, List.all_cons, List.length_cons, this, List.take_succ_cons, ih, List.cons.injEq]
    by_cases h : x = y <;> simp [h]
def ZsNm (zs : List (Par × Ag × Ag)) : Prop := (zs.map fun z => z.1.2).Nodup ∧ ∀ z ∈ zs, Nmd z.1.2
def InA (a : Str) (p : Par) : Prop := (p.1 = true ∧ a = at2 ++ p.2) ∨ a = at1 ++ p.2
theorem inA_iff {a : Str} {ps : List Par} : a ∈ atomsS ps ↔ ∃ p ∈ ps, InA a p := by
  unfold atomsS
  rw [List.mem_flatMap]
  constructor
  · rintro ⟨p, hp, h⟩
    refine ⟨p, hp, ?_⟩
    rcases List.mem_append.mp h with h | h
    · split at h
      · exact .inl ⟨‹_›, List.mem_singleton.mp h⟩
      · cases h
    · exact .inr (List.mem_singleton.mp h)
  · rintro ⟨p, hp, h⟩
    refine ⟨p, hp, List.mem_append.mpr ?_⟩
    rcases h with ⟨h1, h2⟩ | h
    · rw [if_pos h1]; exact .inl (List.mem_singleton.mpr h2)
    · exact .inr (List.mem_singleton.mpr h)
/-- an atom of another parameter does not match -/
theorem mtch_other {a x : Str} {p : Par} (h : InA a p) (hp : Nmd p.2) (hx : Nmd x) (ne : x ≠ p.2) : mtch a x = false := by
  refine decide_eq_false fun z => ?_
  rcases h with ⟨_, rfl⟩ | rfl
  · rcases z with z | z
    · exact at_clash hx z.symm
    · exact ne (at2_inj z).symm
  · rcases z with z | z
    · exact ne (at1_inj z).symm
    · exact at_clash hp z
theorem mtch_own {a : Str} {p : Par} (h : InA a p) : mtch a p.2 = true := by
  refine decide_eq_true ?_
  rcases h with ⟨_, h⟩ | h
  · exact .inr h
  · exact .inl h
theorem own_miss {a : Str} {z : Par × Ag × Ag} (h : mtch a z.1.2 = false) : own1 a z = none := by
  have h := of_decide_eq_false h
  obtain ⟨⟨b, x⟩, g, o⟩ := z
  have h1 : ¬ a = at1 ++ x := fun e => h (.inl e)
  have h2 : ¬ a = at2 ++ x := fun e => h (.inr e)
  unfold own1
  cases g <;> cases o <;> simp [h1, h2]
theorem own_hit {a : Str} {z : Par × Ag × Ag} (h : InA a z.1) (ok : AgOk z.1.1 z.2.1 ∧ AgOk z.1.1 z.2.2) (hn : Nmd z.1.2) : own1 a z = some (agv a z.1.2 z.2.1 z.2.2) := by
  obtain ⟨⟨b, x⟩, g, o⟩ := z
  obtain ⟨ok1, ok2⟩ := ok
  cases b with
  | false =>
    cases g with
    | t _ => exact ok1.elim
    | n i =>
    cases o with
    | t _ => exact ok2.elim
    | n j =>
    rcases h with ⟨h, _⟩ | h
    · cases h
    · exact if_pos h
  | true =>
    cases g with
    | n _ => exact ok1.elim
    | t xs =>
    cases o with
    | n _ => exact ok2.elim
    | t ys =>
    rw [own1_t]
    show _ = some (agv a x (.t xs) (.t ys))
    rw [agv_t]
    rcases h with ⟨_, h⟩ | h
    · have h : a = at2 ++ x := h
      rw [if_pos h, if_pos h]
    · have h : a = at1 ++ x := h
      have h2 : ¬ a = at2 ++ x := fun e => at_clash hn (h.symm.trans e)
      rw [if_neg h2, if_neg h2, if_pos h, zip_pre]
theorem agr_one {a : Str} : ∀ {zs : List (Par × Ag × Ag)}, ZsOk zs → ZsNm zs → (∃ z ∈ zs, InA a z.1) → agr zs [a] = ownA a zs
  | [], _, _, h => by obtain ⟨_, h, _⟩ := h; cases h
  | y :: zs, ok, nm, h => by
    have ok' : ZsOk zs := fun z hz => ok z (List.mem_cons_of_mem _ hz)
    have nm' : ZsNm zs := ⟨(List.nodup_cons.mp nm.1).2, fun z hz => nm.2 z (List.mem_cons_of_mem _ hz)⟩
    have hy := nm.2 y List.mem_cons_self
    have oky := ok y List.mem_cons_self
    show (([a].all fun a => item1 a y) && agr zs [a]) = (own1 a y).getD (ownA a zs)
    rw [show ([a].all fun a => item1 a y) = item1 a y by simp]
    by_cases hin : InA a y.1
    · rw [own_hit hin ⟨oky.1, oky.2.1⟩ hy]
      have e : agr zs [a] = true := by
        unfold agr
        rw [List.all_eq_true]
        intro z hz
        have hne : z.1.2 ≠ y.1.2 := fun e => (List.nodup_cons.mp nm.1).1 (List.mem_map.mpr ⟨z, hz, e⟩)
        have := mtch_other hin hy (nm'.2 z hz) hne
        simp [item1, this]
      rw [e, Bool.and_true]
      show (!mtch a y.1.2 || agv a y.1.2 y.2.1 y.2.2) = _
      rw [mtch_own hin]; rfl
    · obtain ⟨z, hz, hza⟩ := h
      have hz' : z ∈ zs := by
        rcases List.mem_cons.mp hz with rfl | h
        · exact absurd hza hin
        · exact h
      have hne : y.1.2 ≠ z.1.2 := fun e => (List.nodup_cons.mp nm.1).1 (List.mem_map.mpr ⟨z, hz', e.symm⟩)
      have hm := mtch_other hza (nm'.2 z hz') hy hne
      rw [own_miss hm]
      show ((!mtch a y.1.2 || agv a y.1.2 y.2.1 y.2.2) && agr zs [a]) = ownA a zs
      rw [hm]
      exact agr_one ok' nm' ⟨z, hz', hza⟩
theorem agr_all {zs : List (Par × Ag × Ag)} {as : List Str} (ok : ZsOk zs) (nm : ZsNm zs) (h : ∀ a ∈ as, ∃ z ∈ zs, InA a z.1) : agr zs as = as.all fun a => ownA a zs := by
  have e : agr zs as = as.all fun a => agr zs [a] := by
    unfold agr
    rw [Bool.eq_iff_iff, List.all_eq_true, List.all_eq_true]
    constructor
    · intro q a ha
      rw [List.all_eq_true]
      intro z hz
      have := List.all_eq_true.mp (q z hz) a ha
      simp [this]
    · intro q z hz
      rw [List.all_eq_true]
      intro a ha
      have := List.all_eq_true.mp (q a ha) z hz
      simpa using this
  rw [e, Bool.eq_iff_iff, List.all_eq_true, List.all_eq_true]
  exact ⟨fun q a ha => (agr_one ok nm (h a ha)) ▸ q a ha, fun q a ha => (agr_one ok nm (h a ha)).symm ▸ q a ha⟩
theorem agr_self {ps : List Par} {gs : List Ag} {as : List Str} (h : ∀ z ∈ ps.zip (gs.zip gs), AgOk z.1.1 z.2.1) : agr (ps.zip (gs.zip gs)) as = true := by
  unfold agr
  rw [List.all_eq_true]
  intro z hz
  rw [List.all_eq_true]
  intro a ha
  have hok := h z hz
  have e : z.2.1 = z.2.2 := by
    obtain ⟨i, hi, e⟩ := List.getElem_of_mem hz
    have h1 := List.getElem?_zip_eq_some.mp (show (ps.zip (gs.zip gs))[i]? = some (z.1, z.2) by rw [List.getElem?_eq_getElem hi, e])
    have h2 := List.getElem?_zip_eq_some.mp (show (gs.zip gs)[i]? = some (z.2.1, z.2.2) from h1.2)
    exact Option.some.inj (h2.1.symm.trans h2.2)
  unfold item1
  rw [← e]
  have : agv a z.1.2 z.2.1 z.2.1 = true := by
    obtain ⟨⟨b, x⟩, g, o⟩ := z
    cases g with
    | n i => exact decide_eq_true rfl
    | t xs =>
      show agv a x (.t xs) (.t xs) = true
      rw [agv_t]
      split
      · exact decide_eq_true rfl
      · rw [zip_pre]; exact decide_eq_true rfl
  rw [this, Bool.or_true]
theorem told_ok (k : Nat) (mh : List Ob) (b : Bool) (Q : Val → List Ob → Prop) (q : Q (.d (.bool true)) mh) : W (callP P gl (k + 1) 16 [.d (.bool b), .d (.bool b)]) mh Q := by
  refine w_pure (nm := f16.name) (ps := f16.ps) (N := f16.N) (body := f16.body) (env := [some (.d (.bool b)), some (.d (.bool b))]) rfl rfl ?_
  unfold f16
  walk_at "pv all"
  have e : (decide (b = b)) = true := decide_eq_true rfl
  rw [e]
  exact q
end PvK

namespace PvK
open PySem PySem.Spec PyProof.Rows L2 Pv
def Fit (ps : List Par) (gs : List Ag) : Prop := gs.length = ps.length ∧ ∀ (i : Nat) p g, ps[i]? = some p → gs[i]? = some g → AgOk p.1 g
def Sml (gs : List Ag) (n : Nat) : Prop := ∀ g ∈ gs, ∀ xs, g = .t xs → xs.length ≤ n
section
variable {ps : List Par} {gs os : List Ag}
theorem zip_at {z : Par × Ag × Ag} (hz : z ∈ ps.zip (gs.zip os)) : ∃ i : Nat, ps[i]? = some z.1 ∧ gs[i]? = some z.2.1 ∧ os[i]? = some z.2.2 := by
  obtain ⟨i, hi, e⟩ := List.getElem_of_mem hz
  have h1 := List.getElem?_zip_eq_some.mp (show (ps.zip (gs.zip os))[i]? = some (z.1, z.2) by rw [List.getElem?_eq_getElem hi, e])
  have h2 := List.getElem?_zip_eq_some.mp (show (gs.zip os)[i]? = some (z.2.1, z.2.2) from h1.2)
  exact ⟨i, h1.1, h2.1, h2.2⟩
theorem zs_ok (ok : PsOk ps) (f1 : Fit ps gs) (f2 : Fit ps os) : ZsOk (ps.zip (gs.zip os)) := fun z hz => by
  obtain ⟨i, h1, h2, h3⟩ := zip_at hz
  exact ⟨f1.2 i _ _ h1 h2, f2.2 i _ _ h1 h3, (ok.nm _ (List.mem_of_getElem? h1)).1⟩
theorem zs_nm (ok : PsOk ps) (f1 : Fit ps gs) (f2 : Fit ps os) : ZsNm (ps.zip (gs.zip os)) := by
  constructor
  · have : (ps.zip (gs.zip os)).map (fun z => z.1.2) = ps.map (·.2) := by
      have := List.map_fst_zip (l₁ := ps) (l₂ := gs.zip os) (by rw [List.length_zip, f1.1, f2.1]; omega)
      rw [show (fun z : Par × Ag × Ag => z.1.2) = (·.2) ∘ Prod.fst from rfl, ← List.map_map, this]
    rw [this]
    exact ok.nd
  · intro z hz
    obtain ⟨i, h1, h2, h3⟩ := zip_at hz
    exact ok.nm _ (List.mem_of_getElem? h1)
theorem zs_in (f1 : Fit ps gs) (f2 : Fit ps os) {a : Str} (ha : a ∈ atomsS ps) : ∃ z ∈ ps.zip (gs.zip os), InA a z.1 := by
  obtain ⟨p, hp, h⟩ := inA_iff.mp ha
  obtain ⟨i, hi, e⟩ := List.getElem_of_mem hp
  have h1 : ps[i]? = some p := by rw [List.getElem?_eq_getElem hi, e]
  have hg : i < gs.length := by rw [f1.1]; exact hi
  have ho : i < os.length := by rw [f2.1]; exact hi
  have h2 : gs[i]? = some gs[i] := List.getElem?_eq_getElem hg
  have h3 : os[i]? = some os[i] := List.getElem?_eq_getElem ho
  exact ⟨(p, gs[i], os[i]), List.mem_of_getElem? (List.getElem?_zip_eq_some.mpr ⟨h1, List.getElem?_zip_eq_some.mpr ⟨h2, h3⟩⟩), h⟩
end
def innerB : Ss := match f17.body with
  | .cons _ (.cons (.for _ _ (.cons (.for _ _ b) _)) _) => b
  | _ => .nil
theorem pair_ok (k : Nat) (s : Ds) (tl : List Ob) (ps : List Pc) (p : Pc) (hp : ps.find? (fun r => decide (r.1 = p.1)) = some p) (ok : PsOk p.2) (gs os : List Ag) (f1 : Fit p.2 gs) (f2 : Fit p.2 os) (Q : Val → List Ob → Prop) (q : ∀ s', Q (.d (.bool true)) (St s' :: tl)) :
    W (callP P gl (k + 3) 17 [.ref 0, .d (cored ps), .d (procd p), .d (.tuple (gs.map agd)), .d (.tuple (os.map agd))]) (St s :: tl) Q := by
  refine w_def (nm := f17.name) (ps := f17.ps) (N := f17.N) (body := f17.body) (env := [some (.ref 0), some (.d (cored ps)), some (.d (procd p)), some (.d (.tuple (gs.map agd))), some (.d (.tuple (os.map agd))), none, none, none, none, none, none]) rfl rfl ?_
  have inner : ∀ (g o : List Ag) (a8 a9 : Option Val) (R : Fl → List Ob → Prop), Fit p.2 g → Fit p.2 o → (∀ b8 b9, R (.nx [some (.ref 0), some (.d (cored ps)), some (.d (procd p)), some (.d (.tuple (gs.map agd))), some (.d (.tuple (os.map agd))), some (.d (strT (atomsS p.2))), some (.d (.tuple (g.map agd))), some (.d (.tuple (o.map agd))), b8, b9, none]) (St s :: tl)) →
      WL gl (callP P gl (k + 2)) (.nm 8) innerB [] ((atomsS p.2).map fun x => Val.d (.str x)) [some (.ref 0), some (.d (cored ps)), some (.d (procd p)), some (.d (.tuple (gs.map agd))), some (.d (.tuple (os.map agd))), some (.d (strT (atomsS p.2))), some (.d (.tuple (g.map agd))), some (.d (.tuple (o.map agd))), a8, a9, none] (St s :: tl) R := by
    intro g o a8 a9 R h1 h2 hR
    unfold innerB
    unfold f17
    refine wl_invL (fun i e m => m = St s :: tl ∧ ∃ (a8 a9 : Option Val), e = [some (.ref 0), some (.d (cored ps)), some (.d (procd p)), some (.d (.tuple (gs.map agd))), some (.d (.tuple (os.map agd))), some (.d (strT (atomsS p.2))), some (.d (.tuple (g.map agd))), some (.d (.tuple (o.map agd))), a8, a9, none]) ⟨rfl, _, _, rfl⟩ (fun i a e m ha I => ?_) (fun e m I => ?_)
    · obtain ⟨rfl, a8, a9, rfl⟩ := I
      have hin := List.mem_of_getElem? ha
      walk_at "pv all"
      refine lawagrees_ok _ _ _ _ _ h1.1 h2.1 ok.len _ (zs_ok ok h1 h2) _ ?_
      walk_at "pv all"
      refine ix_tup (j := 0) rfl rfl ?_
      walk_at "pv all"
      refine agree_ok _ _ _ _ hp _ _ [a] (zs_ok ok h1 h2) _ ?_
      rw [agr_one (zs_ok ok h1 h2) (zs_nm ok h1 h2) (zs_in h1 h2 hin)]
      walk_at "pv all"
      refine told_ok _ _ _ _ ?_
      walk_at "pv all"
      exact ⟨rfl, _, _, rfl⟩
    · obtain ⟨rfl, a8, a9, rfl⟩ := I
      exact hR _ _
  unfold f17
  walk_at "pv all"
  refine lawatoms_ok _ _ _ ok _ ?_
  walk_at "pv all"
  refine ⟨⟨[_, _], []⟩, rfl, ?_⟩
  refine wl_cons gnil ?_
  walk_at "pv all"
  refine ix_T ?_
  refine inner gs os _ _ _ f1 f2 fun b8 b9 => ?_
  walk_at "pv all"
  refine wl_cons gnil ?_
  walk_at "pv all"
  refine ix_T ?_
  refine inner os gs _ _ _ f2 f1 fun b8 b9 => ?_
  walk_at "pv all"
  refine wl_nil gnil ?_
  walk_at "pv all"
  refine ix_T ?_
  refine wc_genF (α := Str) .str (fun a => a ∈ atomsS p.2) (fun a s ha => ?_) fun as s2 _ h2 => ?_
  · walk_at "pv all"
    refine draw_ok 3 _ _ _ (by decide) (by decide) _ fun r s2 _ => ?_
    walk_at "pv all"
    refine ci_gt (fun h => ?_) (fun h => ?_)
    · walk_at "pv all"
      exact ⟨a, _, rfl, rfl, ha⟩
    · walk_at "pv all"
      exact ⟨_, rfl⟩
  refine wr_nl rfl ?_
  walk_at "pv all"
  refine draw_ok 2 _ _ _ (by decide) (by decide) _ fun r s3 _ => ?_
  walk_at "pv all"
  have rest : ∀ (s : Ds) (as : List Str) (b6 b7 b8 b9 : Option Val), (∀ a ∈ as, a ∈ atomsS p.2) → WS gl (callP P gl (k + 2)) (.cons (.set 9 (.bi .all false (.cons (.lc false [("atom", 8)] (.nm 8) (.val (.slot 10)) .yes (.call 15 (.cons (.slot 2) (.cons (.slot 8) (.cons (.slot 3) (.cons (.slot 4) .nil)))))) .nil)))
    (.cons (.iff (.nt (.tru (.call 16 (.cons (.call 4 (.cons (.slot 1) (.cons (.ix (.slot 2) (.k (.int 0))) (.cons (.bi .tuple false (.cons (.slot 10) .nil)) (.cons (.slot 3) (.cons (.slot 4) .nil)))))) (.cons (.slot 9) .nil))))) (.cons (.ret (.k (.bl false)))
    .nil) .nil)
    (.cons (.ret (.call 16 (.cons (.call 4 (.cons (.slot 1) (.cons (.ix (.slot 2) (.k (.int 0))) (.cons (.tup .nil) (.cons (.slot 3) (.cons (.slot 4) .nil)))))) (.cons (.k (.bl true)) .nil))))
    .nil))) [some (.ref 0), some (.d (cored ps)), some (.d (procd p)), some (.d (.tuple (gs.map agd))), some (.d (.tuple (os.map agd))), some (.d (strT (atomsS p.2))), b6, b7, b8, b9, some (.d (.list (as.map .str)))] (St s :: tl) fun fl mh' => ∃ x s' os, (fl = .rt (.d x) ∨ ∃ e, fl = .nx e ∧ x = .none) ∧ mh' = St s' :: (tl ++ os) ∧ Q (.d x) (St s' :: tl) := by
    intro s as b6 b7 b8 b9 h
    walk_at "pv all"
    refine ix_L ?_
    refine wc_map (r := fun a => Val.d (.bool (ownA a (p.2.zip (gs.zip os))))) gnil (fun a ha => ?_) ?_
    · walk_at "pv all"
      refine lawagrees_ok _ _ _ _ _ f1.1 f2.1 ok.len _ (zs_ok ok f1 f2) _ ?_
      exact ⟨rfl, rfl⟩
    refine wr_nl (ds := as.map fun a => .bool (ownA a (p.2.zip (gs.zip os)))) (by rw [List.map_map]; rfl) ?_
    walk_at "pv all"
    refine wr_allL (f := fun a => ownA a (p.2.zip (gs.zip os))) (by rw [List.map_map]; rfl) ?_
    walk_at "pv all"
    refine ix_tup (j := 0) rfl rfl ?_
    walk_at "pv all"
    refine agree_ok _ _ _ _ hp _ _ as (zs_ok ok f1 f2) _ ?_
    rw [agr_all (zs_ok ok f1 f2) (zs_nm ok f1 f2) fun a ha => zs_in f1 f2 (h a ha)]
    walk_at "pv all"
    refine told_ok _ _ _ _ ?_
    walk_at "pv all"
    refine ix_tup (j := 0) rfl rfl ?_
    walk_at "pv all"
    refine agree_ok _ _ _ _ hp _ _ [] (zs_ok ok f1 f2) _ ?_
    have e : agr (p.2.zip (gs.zip os)) [] = true := by unfold agr; simp
    rw [e]
    walk_at "pv all"
    refine told_ok _ _ _ _ ?_
    walk_at "pv all"
    exact q _
  refine ci_eq (fun h => ?_) (fun h => ?_)
  · walk_at "pv all"
    refine ⟨_, rfl, ?_⟩
    rw [← List.map_reverse, ← List.map_reverse]
    refine wr_nl rfl ?_
    exact ws_nil (thenS_nx (rest _ as.reverse _ _ _ _ fun a ha => h2 a (List.mem_reverse.mp ha)))
  · exact pick_f (ws_nil (thenS_nx (rest _ as _ _ _ _ h2)))
theorem fit_at {ps : List Par} {gs : List Ag} {i : Nat} {p : Par} (f : Fit ps gs) (h : ps[i]? = some p) : ∃ g, gs[i]? = some g ∧ AgOk p.1 g := by
  have hi : i < gs.length := by rw [f.1]; exact (List.getElem?_eq_some_iff.mp h).1
  exact ⟨gs[i], List.getElem?_eq_getElem hi, f.2 i p _ h (List.getElem?_eq_getElem hi)⟩
theorem fit_put {ps : List Par} {gs : List Ag} {i : Nat} {p : Par} {a : Ag} (f : Fit ps gs) (h : ps[i]? = some p) (ha : AgOk p.1 a) : Fit ps (gs.take i ++ [a] ++ gs.drop (i + 1)) := by
  have hi : i < ps.length := (List.getElem?_eq_some_iff.mp h).1
  have hl := f.1
  refine ⟨by simp; omega, fun j q g hq hg => ?_⟩
  by_cases h1 : j < i
  · rw [List.append_assoc, List.getElem?_append_left (by rw [List.length_take]; omega), List.getElem?_take_of_lt h1] at hg
    exact f.2 j q g hq hg
  · by_cases h2 : j = i
    · subst h2
      rw [h] at hq; cases hq
      rw [List.append_assoc, List.getElem?_append_right (by rw [List.length_take]; omega), show j - (gs.take j).length = 0 by rw [List.length_take]; omega] at hg
      cases hg
      exact ha
    · rw [List.getElem?_append_right (by simp; omega), show j - (gs.take i ++ [a]).length = j - i - 1 by simp; omega, List.getElem?_drop, show i + 1 + (j - i - 1) = j by omega] at hg
      exact f.2 j q g hq hg
theorem sml_put {gs : List Ag} {i n : Nat} {a : Ag} (h : Sml gs n) (ha : ∀ xs, a = .t xs → xs.length ≤ n) : Sml (gs.take i ++ [a] ++ gs.drop (i + 1)) n := fun g hg => by
  rcases List.mem_append.mp hg with hg | hg
  · rcases List.mem_append.mp hg with hg | hg
    · exact h g (List.mem_of_mem_take hg)
    · rw [List.mem_singleton.mp hg]; exact ha
  · exact h g (List.mem_of_mem_drop hg)
/-- others that differ at a place -/
theorem other_ok (k : Nat) (s : Ds) (tl : List Ob) (ps : List Par) (gs : List Ag) (n : Nat) (hn : n ≤ 96) (f : Fit ps gs) (sm : Sml gs n) (hl : ps.length ≤ 6) (i : Nat) (hi : i < ps.length) {env : Sl} {e1 e2 : E} {Q : Val → List Ob → Prop}
    (h1 : ∀ s R, R (.d (.tuple (gs.map agd))) (St s :: tl) → W (evE gl (callP P gl (k + 3)) e1 env) (St s :: tl) R) (h2 : ∀ s R, R (.d (.int (i : Int))) (St s :: tl) → W (evE gl (callP P gl (k + 3)) e2 env) (St s :: tl) R) (h0 : env.getD 1 none = some (.ref 0))
    (q : ∀ os s', Fit ps os → Sml os (n + 2) → Q (.d (.tuple (os.map agd))) (St s' :: tl)) (he1 : e2.isAbs = false) :
    W (evE gl (callP P gl (k + 3)) (.bin .Add false (.bin .Add false (.sl false e1 .absent e2) (.tup (.cons (.call 13 (.cons (.slot 1) (.cons (.ix e1 e2) .nil))) .nil))) (.sl false e1 (.bin .Add false e2 (.k (.int 1))) .absent)) env) (St s :: tl) Q := by
  have hsl : sizeLine = 16777216 := rfl
  have hl1 := f.1
  obtain ⟨g, hg, hga⟩ := fit_at f (List.getElem?_eq_getElem hi)
  have hgd : (gs.map agd)[i]? = some (agd g) := by rw [List.getElem?_map, hg]; rfl
  walk_at "pv all"
  refine h1 _ _ ?_
  walk_at "pv all"
  refine wo_some he1 ?_
  refine h2 _ _ ?_
  walk_at "pv all"
  rw [cutG_to, ← List.map_take]
  refine we_slot h0 ?_
  walk_at "pv all"
  refine h1 _ _ ?_
  refine h2 _ _ ?_
  refine ix_tup rfl hgd ?_
  walk_at "pv all"
  refine changed_ok _ g hga (fun xs e => Nat.le_trans (sm g (List.mem_of_getElem? hg) xs e) (by omega)) _ _ _ _ fun a s2 ha hb => ?_
  walk_at "pv all"
  refine wr_addT (by rw [List.length_map, List.length_take]; simp only [List.length_cons, List.length_nil]; omega) ?_
  walk_at "pv all"
  refine h1 _ _ ?_
  walk_at "pv all"
  refine h2 _ _ ?_
  walk_at "pv all"
  rw [show (i : Int) + 1 = ((i + 1 : Nat) : Int) by omega, cutG_from, ← List.map_drop]
  refine wr_addT (by rw [List.length_append, List.length_map, List.length_take, List.length_map, List.length_drop]; simp only [List.length_cons, List.length_nil]; omega) ?_
  have e : (gs.take i).map agd ++ [agd a] ++ (gs.drop (i + 1)).map agd = (gs.take i ++ [a] ++ gs.drop (i + 1)).map agd := by rw [List.map_append, List.map_append]; rfl
  rw [e]
  refine q _ _ (fit_put f (List.getElem?_eq_getElem hi) ha) (sml_put (fun g hg xs e => Nat.le_trans (sm g hg xs e) (by omega)) fun ys e => ?_)
  cases g with
  | n j =>
    cases hb2 : ps[i].1 with
    | true => rw [hb2] at hga; exact hga.elim
    | false =>
      rw [hb2] at ha
      cases a with
      | n _ => cases e
      | t _ => exact ha.elim
  | t xs => exact Nat.le_trans (hb xs ys rfl e) (by have := sm _ (List.mem_of_getElem? hg) xs rfl; omega)
theorem wr_sortS {mh : List Ob} {Q : Val → List Ob → Prop} {ws : List Str} (hl : ws.length < 64) (q : Q (.d (strD (sortS ws))) mh) : WR false (Bi.f .sorted mh [.d (strD ws)]) mh Q := by
  refine wr_nl (ds := (sortS ws).map .str) ?_ q
  show sortVl mh [.d (strD ws)] = _
  have h : (seqL mh (.d (strD ws))).bind (allOf asStr) = some ws := by
    have := allOf_map (f := asStr) (g := fun b => Val.d (.str b)) (fun _ => rfl) ws
    show allOf asStr ((ws.map PyData.str).map Val.d) = _
    rw [List.map_map]
    exact this
  have h0 : dctOf mh (.d (strD ws)) = none := rfl
  unfold sortVl
  simp only [h0, h]
  rw [if_pos hl, List.map_map]
  rfl
theorem find_nd {ps : List Pc} (h : (ps.map (·.1)).Nodup) : ∀ {p : Pc}, p ∈ ps → ps.find? (fun r => decide (r.1 = p.1)) = some p := by
  induction ps with
  | nil => intro p hp; cases hp
  | cons r ps ih =>
    intro p hp
    rw [List.map_cons, List.nodup_cons] at h
    rw [List.find?_cons]
    rcases List.mem_cons.mp hp with rfl | hp
    · rw [decide_eq_true rfl]
    · have : ¬ r.1 = p.1 := fun e => h.1 (List.mem_map.mpr ⟨p, hp, e.symm⟩)
      rw [decide_eq_false this]
      exact ih h.2 hp
theorem pl_atoms {ps : List Par} (h : PsOk ps) : Pl 1 (strT (atomsS ps)) := pl_T (by rw [List.length_map]; have := atoms_len ps; have := h.len; omega) fun x hx => by
  obtain ⟨y, _, rfl⟩ := List.mem_map.mp hx
  exact pl_str _
theorem law_true (ns : List Int) (hns : ns.length ≤ 63) : ∃ mh', callP P gl 60 18 [.d (.list (ns.map PyData.int))] [] = some (.d (.bool true), mh') := by
  suffices h : W (callP P gl 60 18 [.d (.list (ns.map PyData.int))]) [] fun v _ => v = .d (.bool true) by
    obtain ⟨v, mh', e, rfl⟩ := h
    exact ⟨mh', e⟩
  refine w_call (d := f18) rfl (w_body ?_)
  show WS gl (callP P gl 59) f18.body [some (.d (.list (ns.map PyData.int))), none, none, none, none, none, none, none, none, none, none, none, none] [] _
  have fin : ∀ mh' : List Ob, ∃ x, (Fl.rt (.d (.bool true)) = .rt (.d x) ∨ ∃ e, Fl.rt (.d (.bool true)) = .nx e ∧ x = .none) ∧ cutOk (List.length ([] : List Ob)) [] mh' ∧ Val.d x = .d (.bool true) := fun mh' => ⟨_, .inl rfl, trivial, rfl⟩
  unfold f18
  walk_at "pv all"
  refine start_ok 58 ns _ ?_
  walk_at "pv all"
  refine words_ok 2 _ _ [] (by decide) _ fun nms s1 n1 n2 n3 => ?_
  walk_at "pv all"
  refine wr_sortS (by omega) ?_
  walk_at "pv all"
  refine words_ok 6 _ _ [] (by decide) _ fun ws s2 w1 w2 w3 => ?_
  walk_at "pv all"
  refine rg1 (n := 2) rfl (by decide) ?_
  have m1 : (sortS nms).length = 2 := by rw [(sortS_perm nms).length_eq]; exact n1
  have m2 : (sortS nms).Nodup := (sortS_perm nms).nodup_iff.mpr n2
  refine wc_gen (α := Pc) procd (fun i a => (sortS nms)[i]? = some a.1 ∧ PsOk a.2) (fun i v s hv => ?_) fun ps s3 l1 l2 => ?_
  · obtain ⟨hi, rfl⟩ := rg_at hv
    have hx : (sortS nms)[i]? = some (sortS nms)[i] := List.getElem?_eq_getElem (by omega)
    generalize (sortS nms)[i] = nm at hx
    walk_at "pv all"
    refine ix_list rfl (show ((sortS nms).map PyData.str)[i]? = some (.str nm) by rw [List.getElem?_map, hx]; rfl) ?_
    walk_at "pv all"
    rw [show (1 : Int) - (i : Int) = ((1 - i : Nat) : Int) by omega]
    have := params_ok 57 s [] ws (1 - i) w1 w2 w3 (by omega)
    refine this _ fun ps s' ok => ?_
    walk_at "pv all"
    exact ⟨(nm, ps), _, rfl, rfl, hx, ok⟩
  rw [rg_len] at l1
  refine wr_nl rfl ?_
  walk_at "pv all"
  have nd : (ps.map (·.1)).Nodup := by
    have e : ps.map (·.1) = sortS nms := by
      refine List.ext_getElem? fun i => ?_
      rw [List.getElem?_map]
      by_cases hi : i < ps.length
      · rw [List.getElem?_eq_getElem hi]
        exact (l2 i _ (List.getElem?_eq_getElem hi)).1.symm
      · rw [List.getElem?_eq_none (by omega), List.getElem?_eq_none (by omega)]
        rfl
    rw [e]; exact m2
  refine ix_T ?_
  refine wl_invL (fun i e m => ∃ (s' : Ds) (a5 a6 a7 a8 a9 a10 : Option Val), m = [St s'] ∧ e = [some (.d (.list (ns.map PyData.int))), some (.ref 0), some (.d (strD (sortS nms))), some (.d (strD ws)), some (.d (cored ps)), a5, a6, a7, a8, a9, a10, none, none]) ⟨s3, _, _, _, _, _, _, rfl, rfl⟩ (fun i p e m hp I => ?_) (fun e m I => ?_)
  · obtain ⟨s', a5, a6, a7, a8, a9, a10, rfl, rfl⟩ := I
    have hin := List.mem_of_getElem? hp
    have hf := find_nd nd hin
    have ok := (l2 i p hp).2
    walk_at "pv all"
    refine ix_tup (j := 0) rfl rfl ?_
    walk_at "pv all"
    refine atoms_ok 57 _ _ _ hf ok _ ?_
    walk_at "pv all"
    refine lawatoms_ok _ _ _ ok _ ?_
    walk_at "pv all"
    refine same_ok 1 _ 56 _ _ (pl_atoms ok) ?_
    walk_at "pv all"
    refine ix_tup (j := 1) rfl rfl ?_
    refine ix_T ?_
    refine wc_genL (α := Ag) agd (fun (p : Par) a => AgOk p.1 a ∧ ∀ xs, a = .t xs → xs.length ≤ 60) (fun p s hp => ?_) fun gs s4 g1 g2 => ?_
    · walk_at "pv all"
      refine argument_ok p.1 56 s [] _ fun a s5 h1 h2 => ?_
      exact ⟨a, _, rfl, rfl, h1, h2⟩
    refine wr_nl rfl ?_
    walk_at "pv all"
    have fg : Fit p.2 gs := ⟨g1, fun i p g h1 h2 => (g2 i p g h1 h2).1⟩
    have sg : Sml gs 60 := fun g hg xs e => by
      obtain ⟨i, hi, e2⟩ := List.getElem_of_mem hg
      exact (g2 i _ g (List.getElem?_eq_getElem (by omega)) (by rw [List.getElem?_eq_getElem hi, e2])).2 xs e
    refine ix_tup (j := 0) rfl rfl ?_
    walk_at "pv all"
    refine lawatoms_ok _ _ _ ok _ ?_
    walk_at "pv all"
    refine agree_ok 57 _ _ _ hf _ _ _ (zs_ok ok fg fg) _ ?_
    rw [agr_self fun z hz => (zs_ok ok fg fg z hz).1]
    walk_at "pv all"
    refine told_ok _ _ _ _ ?_
    walk_at "pv all"
    refine ix_tup (j := 1) rfl rfl ?_
    walk_at "pv all"
    refine rg1 (n := p.2.length) (by rw [List.length_map]) (by have := ok.len; omega) ?_
    refine wl_invR (fun i e m => ∃ (s' : Ds) (a7 a8 a9 a10 : Option Val), m = [St s'] ∧ e = [some (.d (.list (ns.map PyData.int))), some (.ref 0), some (.d (strD (sortS nms))), some (.d (strD ws)), some (.d (cored ps)), some (.d (procd p)), some (.d (.tuple (gs.map agd))), a7, a8, a9, a10, none, none]) ⟨s4, _, _, _, _, rfl, rfl⟩ (fun i e m hi I => ?_) (fun e m I => ?_)
    · obtain ⟨s', a7, a8, a9, a10, rfl, rfl⟩ := I
      refine wg_nm (ws_set ?_)
      refine other_ok 56 _ [] p.2 gs 60 (by decide) fg sg ok.len i hi (fun s R r => we_slot rfl r) (fun s R r => we_slot rfl r) rfl (fun os s5 f2 sm2 => ?_) rfl
      walk_at "pv all"
      refine pair_ok 56 _ [] _ _ hf ok _ _ fg f2 _ fun s6 => ?_
      walk_at "pv all"
      refine ix_tup (j := 1) rfl rfl ?_
      walk_at "pv all"
      have := draw_ok p.2.length 58 s6 [] (by omega) (by have := ok.len; omega)
      rw [List.length_map]
      refine this _ fun j s7 hj => ?_
      refine ws_set ?_
      refine other_ok 56 _ [] p.2 os 62 (by decide) f2 sm2 ok.len j hj (fun s R r => we_slot rfl r) (fun s R r => we_slot rfl r) rfl (fun ot s5 f3 sm3 => ?_) rfl
      walk_at "pv all"
      refine pair_ok 56 _ [] _ _ hf ok _ _ fg f3 _ fun s6 => ?_
      walk_at "pv all"
      exact ⟨_, _, _, _, _, rfl, rfl⟩
    · obtain ⟨s', a7, a8, a9, a10, rfl, rfl⟩ := I
      walk_at "pv all"
      exact ⟨_, _, _, _, _, _, _, rfl, rfl⟩
  · obtain ⟨s', a5, a6, a7, a8, a9, a10, rfl, rfl⟩ := I
    walk_at "pv all"
    exact fin _
end PvK

namespace PvK
open PySem PySem.Spec PyProof.Rows L2 Pv
def top (i : Nat) : Stmt := PySem.Challenge.pw_spentwithin_k75_atoms_of_and_agree.main.body.getD i (.Pass ⟨0, 0, 0, 0⟩)
theorem m0 : mSs (tbOf P bs gl) f0.N f0.body (defScope (top 1)) (fun _ => true) (defBody (top 1)) = true := by decide +kernel
theorem s0 : FnScope f0.N f0.ps (defScope (top 1)) := ⟨rfl, rfl, rfl, by decide +kernel, rfl, by decide +kernel, by decide +kernel⟩
theorem m1 : mSs (tbOf P bs gl) f1.N f1.body (defScope (top 3)) (fun _ => true) (defBody (top 3)) = true := by decide +kernel
theorem s1 : FnScope f1.N f1.ps (defScope (top 3)) := ⟨rfl, rfl, rfl, by decide +kernel, rfl, by decide +kernel, by decide +kernel⟩
theorem m2 : mSs (tbOf P bs gl) f2.N f2.body (defScope (top 4)) (fun _ => true) (defBody (top 4)) = true := by decide +kernel
theorem s2 : FnScope f2.N f2.ps (defScope (top 4)) := ⟨rfl, rfl, rfl, by decide +kernel, rfl, by decide +kernel, by decide +kernel⟩
theorem m3 : mSs (tbOf P bs gl) f3.N f3.body (defScope (top 5)) (fun _ => true) (defBody (top 5)) = true := by decide +kernel
theorem s3 : FnScope f3.N f3.ps (defScope (top 5)) := ⟨rfl, rfl, rfl, by decide +kernel, rfl, by decide +kernel, by decide +kernel⟩
theorem m4 : mSs (tbOf P bs gl) f4.N f4.body (defScope (top 6)) (fun _ => true) (defBody (top 6)) = true := by decide +kernel
theorem s4 : FnScope f4.N f4.ps (defScope (top 6)) := ⟨rfl, rfl, rfl, by decide +kernel, rfl, by decide +kernel, by decide +kernel⟩
theorem m5 : mSs (tbOf P bs gl) f5.N f5.body (defScope (top 8)) (fun _ => true) (defBody (top 8)) = true := by decide +kernel
theorem s5 : FnScope f5.N f5.ps (defScope (top 8)) := ⟨rfl, rfl, rfl, by decide +kernel, rfl, by decide +kernel, by decide +kernel⟩
theorem m6 : mSs (tbOf P bs gl) f6.N f6.body (defScope (top 9)) (fun _ => true) (defBody (top 9)) = true := by decide +kernel
theorem s6 : FnScope f6.N f6.ps (defScope (top 9)) := ⟨rfl, rfl, rfl, by decide +kernel, rfl, by decide +kernel, by decide +kernel⟩
theorem m7 : mSs (tbOf P bs gl) f7.N f7.body (defScope (top 10)) (fun _ => true) (defBody (top 10)) = true := by decide +kernel
theorem s7 : FnScope f7.N f7.ps (defScope (top 10)) := ⟨rfl, rfl, rfl, by decide +kernel, rfl, by decide +kernel, by decide +kernel⟩
theorem m8 : mSs (tbOf P bs gl) f8.N f8.body (defScope (top 11)) (fun _ => true) (defBody (top 11)) = true := by decide +kernel
theorem s8 : FnScope f8.N f8.ps (defScope (top 11)) := ⟨rfl, rfl, rfl, by decide +kernel, rfl, by decide +kernel, by decide +kernel⟩
theorem m9 : mSs (tbOf P bs gl) f9.N f9.body (defScope (top 12)) (fun _ => true) (defBody (top 12)) = true := by decide +kernel
theorem s9 : FnScope f9.N f9.ps (defScope (top 12)) := ⟨rfl, rfl, rfl, by decide +kernel, rfl, by decide +kernel, by decide +kernel⟩
theorem m10 : mSs (tbOf P bs gl) f10.N f10.body (defScope (top 13)) (fun _ => true) (defBody (top 13)) = true := by decide +kernel
theorem s10 : FnScope f10.N f10.ps (defScope (top 13)) := ⟨rfl, rfl, rfl, by decide +kernel, rfl, by decide +kernel, by decide +kernel⟩
theorem m11 : mSs (tbOf P bs gl) f11.N f11.body (defScope (top 14)) (fun _ => true) (defBody (top 14)) = true := by decide +kernel
theorem s11 : FnScope f11.N f11.ps (defScope (top 14)) := ⟨rfl, rfl, rfl, by decide +kernel, rfl, by decide +kernel, by decide +kernel⟩
theorem m12 : mSs (tbOf P bs gl) f12.N f12.body (defScope (top 15)) (fun _ => true) (defBody (top 15)) = true := by decide +kernel
theorem s12 : FnScope f12.N f12.ps (defScope (top 15)) := ⟨rfl, rfl, rfl, by decide +kernel, rfl, by decide +kernel, by decide +kernel⟩
theorem m13 : mSs (tbOf P bs gl) f13.N f13.body (defScope (top 16)) (fun _ => true) (defBody (top 16)) = true := by decide +kernel
theorem s13 : FnScope f13.N f13.ps (defScope (top 16)) := ⟨rfl, rfl, rfl, by decide +kernel, rfl, by decide +kernel, by decide +kernel⟩
theorem m14 : mSs (tbOf P bs gl) f14.N f14.body (defScope (top 17)) (fun _ => true) (defBody (top 17)) = true := by decide +kernel
theorem s14 : FnScope f14.N f14.ps (defScope (top 17)) := ⟨rfl, rfl, rfl, by decide +kernel, rfl, by decide +kernel, by decide +kernel⟩
theorem m15 : mSs (tbOf P bs gl) f15.N f15.body (defScope (top 18)) (fun _ => true) (defBody (top 18)) = true := by decide +kernel
theorem s15 : FnScope f15.N f15.ps (defScope (top 18)) := ⟨rfl, rfl, rfl, by decide +kernel, rfl, by decide +kernel, by decide +kernel⟩
theorem m16 : mSs (tbOf P bs gl) f16.N f16.body (defScope (top 19)) (fun _ => true) (defBody (top 19)) = true := by decide +kernel
theorem s16 : FnScope f16.N f16.ps (defScope (top 19)) := ⟨rfl, rfl, rfl, by decide +kernel, rfl, by decide +kernel, by decide +kernel⟩
theorem m17 : mSs (tbOf P bs gl) f17.N f17.body (defScope (top 20)) (fun _ => true) (defBody (top 20)) = true := by decide +kernel
theorem s17 : FnScope f17.N f17.ps (defScope (top 20)) := ⟨rfl, rfl, rfl, by decide +kernel, rfl, by decide +kernel, by decide +kernel⟩
theorem m18 : mSs (tbOf P bs gl) f18.N f18.body (defScope (top 21)) (fun _ => true) (defBody (top 21)) = true := by decide +kernel
theorem s18 : FnScope f18.N f18.ps (defScope (top 21)) := ⟨rfl, rfl, rfl, by decide +kernel, rfl, by decide +kernel, by decide +kernel⟩
theorem all_mk {l : PySem.W.OpenLaw} {w : World} {K : PySem.W.Frag} {h : Heap} {mg : Str → Option Value} {fa g0 g1 g2 g3 g4 g5 g6 g7 g8 g9 g10 g11 g12 g13 g14 g15 g16 g17 g18 : Addr} (X : K.In h) (G : h.Ns mainGlobals mg) (hfa : mg "law" = some (.ref fa))
    {od0 an0 od1 an1 od2 an2 od3 an3 od4 an4 od5 an5 od6 an6 od7 an7 od8 an8 od9 an9 od10 an10 od11 an11 od12 an12 od13 an13 od14 an14 od15 an15 od16 an16 od17 an17 od18 an18 : Option Addr} {sl0 sl1 sl2 sl3 sl4 sl5 sl6 sl7 sl8 sl9 sl10 sl11 sl12 sl13 sl14 sl15 sl16 sl17 sl18 : Array (Option Value)} {oc0 kV0 dc0 pm0 cd0 ct0 oc1 kV1 dc1 pm1 cd1 ct1 oc2 kV2 dc2 pm2 cd2 ct2 oc3 kV3 dc3 pm3 cd3 ct3 oc4 kV4 dc4 pm4 cd4 ct4 oc5 kV5 dc5 pm5 cd5 ct5 oc6 kV6 dc6 pm6 cd6 ct6 oc7 kV7 dc7 pm7 cd7 ct7 oc8 kV8 dc8 pm8 cd8 ct8 oc9 kV9 dc9 pm9 cd9 ct9 oc10 kV10 dc10 pm10 cd10 ct10 oc11 kV11 dc11 pm11 cd11 ct11 oc12 kV12 dc12 pm12 cd12 ct12 oc13 kV13 dc13 pm13 cd13 ct13 oc14 kV14 dc14 pm14 cd14 ct14 oc15 kV15 dc15 pm15 cd15 ct15 oc16 kV16 dc16 pm16 cd16 ct16 oc17 kV17 dc17 pm17 cd17 ct17 oc18 kV18 dc18 pm18 cd18 ct18 : Value}
    (a0 : PySem.W.nsIn K mainGlobals "proc_named" = some (some (.ref g0))) (l0 : K.lookup g0 = some ⟨oc0, od0, .func (PySem.W.fnOf "proc_named" "proc_named" (defArgs (top 1)) (defBody (top 1)) (defScope (top 1)) .none kV0 dc0 pm0 an0 cd0 ct0), sl0⟩) (c0 : PySem.W.codeIn K cd0 "proc_named" = true) (k0 : PySem.W.keepIn K (.ref g0) = true)
    (a1 : PySem.W.nsIn K mainGlobals "atoms_of_proc" = some (some (.ref g1))) (l1 : K.lookup g1 = some ⟨oc1, od1, .func (PySem.W.fnOf "atoms_of_proc" "atoms_of_proc" (defArgs (top 3)) (defBody (top 3)) (defScope (top 3)) .none kV1 dc1 pm1 an1 cd1 ct1), sl1⟩) (c1 : PySem.W.codeIn K cd1 "atoms_of_proc" = true) (k1 : PySem.W.keepIn K (.ref g1) = true)
    (a2 : PySem.W.nsIn K mainGlobals "atoms_of" = some (some (.ref g2))) (l2 : K.lookup g2 = some ⟨oc2, od2, .func (PySem.W.fnOf "atoms_of" "atoms_of" (defArgs (top 4)) (defBody (top 4)) (defScope (top 4)) .none kV2 dc2 pm2 an2 cd2 ct2), sl2⟩) (c2 : PySem.W.codeIn K cd2 "atoms_of" = true) (k2 : PySem.W.keepIn K (.ref g2) = true)
    (a3 : PySem.W.nsIn K mainGlobals "agree_at" = some (some (.ref g3))) (l3 : K.lookup g3 = some ⟨oc3, od3, .func (PySem.W.fnOf "agree_at" "agree_at" (defArgs (top 5)) (defBody (top 5)) (defScope (top 5)) .none kV3 dc3 pm3 an3 cd3 ct3), sl3⟩) (c3 : PySem.W.codeIn K cd3 "agree_at" = true) (k3 : PySem.W.keepIn K (.ref g3) = true)
    (a4 : PySem.W.nsIn K mainGlobals "agree" = some (some (.ref g4))) (l4 : K.lookup g4 = some ⟨oc4, od4, .func (PySem.W.fnOf "agree" "agree" (defArgs (top 6)) (defBody (top 6)) (defScope (top 6)) .none kV4 dc4 pm4 an4 cd4 ct4), sl4⟩) (c4 : PySem.W.codeIn K cd4 "agree" = true) (k4 : PySem.W.keepIn K (.ref g4) = true)
    (a5 : PySem.W.nsIn K mainGlobals "_law_start" = some (some (.ref g5))) (l5 : K.lookup g5 = some ⟨oc5, od5, .func (PySem.W.fnOf "_law_start" "_law_start" (defArgs (top 8)) (defBody (top 8)) (defScope (top 8)) .none kV5 dc5 pm5 an5 cd5 ct5), sl5⟩) (c5 : PySem.W.codeIn K cd5 "_law_start" = true) (k5 : PySem.W.keepIn K (.ref g5) = true)
    (a6 : PySem.W.nsIn K mainGlobals "_law_draw" = some (some (.ref g6))) (l6 : K.lookup g6 = some ⟨oc6, od6, .func (PySem.W.fnOf "_law_draw" "_law_draw" (defArgs (top 9)) (defBody (top 9)) (defScope (top 9)) .none kV6 dc6 pm6 an6 cd6 ct6), sl6⟩) (c6 : PySem.W.codeIn K cd6 "_law_draw" = true) (k6 : PySem.W.keepIn K (.ref g6) = true)
    (a7 : PySem.W.nsIn K mainGlobals "_law_words" = some (some (.ref g7))) (l7 : K.lookup g7 = some ⟨oc7, od7, .func (PySem.W.fnOf "_law_words" "_law_words" (defArgs (top 10)) (defBody (top 10)) (defScope (top 10)) .none kV7 dc7 pm7 an7 cd7 ct7), sl7⟩) (c7 : PySem.W.codeIn K cd7 "_law_words" = true) (k7 : PySem.W.keepIn K (.ref g7) = true)
    (a8 : PySem.W.nsIn K mainGlobals "_law_is_int" = some (some (.ref g8))) (l8 : K.lookup g8 = some ⟨oc8, od8, .func (PySem.W.fnOf "_law_is_int" "_law_is_int" (defArgs (top 11)) (defBody (top 11)) (defScope (top 11)) .none kV8 dc8 pm8 an8 cd8 ct8), sl8⟩) (c8 : PySem.W.codeIn K cd8 "_law_is_int" = true) (k8 : PySem.W.keepIn K (.ref g8) = true)
    (a9 : PySem.W.nsIn K mainGlobals "_law_same" = some (some (.ref g9))) (l9 : K.lookup g9 = some ⟨oc9, od9, .func (PySem.W.fnOf "_law_same" "_law_same" (defArgs (top 12)) (defBody (top 12)) (defScope (top 12)) .none kV9 dc9 pm9 an9 cd9 ct9), sl9⟩) (c9 : PySem.W.codeIn K cd9 "_law_same" = true) (k9 : PySem.W.keepIn K (.ref g9) = true)
    (a10 : PySem.W.nsIn K mainGlobals "_law_number" = some (some (.ref g10))) (l10 : K.lookup g10 = some ⟨oc10, od10, .func (PySem.W.fnOf "_law_number" "_law_number" (defArgs (top 13)) (defBody (top 13)) (defScope (top 13)) .none kV10 dc10 pm10 an10 cd10 ct10), sl10⟩) (c10 : PySem.W.codeIn K cd10 "_law_number" = true) (k10 : PySem.W.keepIn K (.ref g10) = true)
    (a11 : PySem.W.nsIn K mainGlobals "_law_parameters" = some (some (.ref g11))) (l11 : K.lookup g11 = some ⟨oc11, od11, .func (PySem.W.fnOf "_law_parameters" "_law_parameters" (defArgs (top 14)) (defBody (top 14)) (defScope (top 14)) .none kV11 dc11 pm11 an11 cd11 ct11), sl11⟩) (c11 : PySem.W.codeIn K cd11 "_law_parameters" = true) (k11 : PySem.W.keepIn K (.ref g11) = true)
    (a12 : PySem.W.nsIn K mainGlobals "_law_argument" = some (some (.ref g12))) (l12 : K.lookup g12 = some ⟨oc12, od12, .func (PySem.W.fnOf "_law_argument" "_law_argument" (defArgs (top 15)) (defBody (top 15)) (defScope (top 15)) .none kV12 dc12 pm12 an12 cd12 ct12), sl12⟩) (c12 : PySem.W.codeIn K cd12 "_law_argument" = true) (k12 : PySem.W.keepIn K (.ref g12) = true)
    (a13 : PySem.W.nsIn K mainGlobals "_law_changed" = some (some (.ref g13))) (l13 : K.lookup g13 = some ⟨oc13, od13, .func (PySem.W.fnOf "_law_changed" "_law_changed" (defArgs (top 16)) (defBody (top 16)) (defScope (top 16)) .none kV13 dc13 pm13 an13 cd13 ct13), sl13⟩) (c13 : PySem.W.codeIn K cd13 "_law_changed" = true) (k13 : PySem.W.keepIn K (.ref g13) = true)
    (a14 : PySem.W.nsIn K mainGlobals "_law_atoms" = some (some (.ref g14))) (l14 : K.lookup g14 = some ⟨oc14, od14, .func (PySem.W.fnOf "_law_atoms" "_law_atoms" (defArgs (top 17)) (defBody (top 17)) (defScope (top 17)) .none kV14 dc14 pm14 an14 cd14 ct14), sl14⟩) (c14 : PySem.W.codeIn K cd14 "_law_atoms" = true) (k14 : PySem.W.keepIn K (.ref g14) = true)
    (a15 : PySem.W.nsIn K mainGlobals "_law_agrees" = some (some (.ref g15))) (l15 : K.lookup g15 = some ⟨oc15, od15, .func (PySem.W.fnOf "_law_agrees" "_law_agrees" (defArgs (top 18)) (defBody (top 18)) (defScope (top 18)) .none kV15 dc15 pm15 an15 cd15 ct15), sl15⟩) (c15 : PySem.W.codeIn K cd15 "_law_agrees" = true) (k15 : PySem.W.keepIn K (.ref g15) = true)
    (a16 : PySem.W.nsIn K mainGlobals "_law_told" = some (some (.ref g16))) (l16 : K.lookup g16 = some ⟨oc16, od16, .func (PySem.W.fnOf "_law_told" "_law_told" (defArgs (top 19)) (defBody (top 19)) (defScope (top 19)) .none kV16 dc16 pm16 an16 cd16 ct16), sl16⟩) (c16 : PySem.W.codeIn K cd16 "_law_told" = true) (k16 : PySem.W.keepIn K (.ref g16) = true)
    (a17 : PySem.W.nsIn K mainGlobals "_law_pair_holds" = some (some (.ref g17))) (l17 : K.lookup g17 = some ⟨oc17, od17, .func (PySem.W.fnOf "_law_pair_holds" "_law_pair_holds" (defArgs (top 20)) (defBody (top 20)) (defScope (top 20)) .none kV17 dc17 pm17 an17 cd17 ct17), sl17⟩) (c17 : PySem.W.codeIn K cd17 "_law_pair_holds" = true) (k17 : PySem.W.keepIn K (.ref g17) = true)
    (a18 : PySem.W.nsIn K mainGlobals "law" = some (some (.ref g18))) (l18 : K.lookup g18 = some ⟨oc18, od18, .func (PySem.W.fnOf "law" "law" (defArgs (top 21)) (defBody (top 21)) (defScope (top 21)) .none kV18 dc18 pm18 an18 cd18 ct18), sl18⟩) (c18 : PySem.W.codeIn K cd18 "law" = true) (k18 : PySem.W.keepIn K (.ref g18) = true)
    (z0 : PySem.W.nsIn K mainGlobals "tuple" = some none)
    (z1 : PySem.W.nsIn K mainGlobals "isinstance" = some none)
    (z2 : PySem.W.nsIn K mainGlobals "len" = some none)
    (z3 : PySem.W.nsIn K mainGlobals "all" = some none)
    (z4 : PySem.W.nsIn K mainGlobals "zip" = some none)
    (z5 : PySem.W.nsIn K mainGlobals "list" = some none)
    (z6 : PySem.W.nsIn K mainGlobals "int" = some none)
    (z7 : PySem.W.nsIn K mainGlobals "abs" = some none)
    (z8 : PySem.W.nsIn K mainGlobals "range" = some none)
    (z9 : PySem.W.nsIn K mainGlobals "bool" = some none)
    (z10 : PySem.W.nsIn K mainGlobals "str" = some none)
    (z11 : PySem.W.nsIn K mainGlobals "max" = some none)
    (z12 : PySem.W.nsIn K mainGlobals "min" = some none)
    (z13 : PySem.W.nsIn K mainGlobals "reversed" = some none)
    (z14 : PySem.W.nsIn K mainGlobals "sorted" = some none)
    (law : ∀ ns : List Int, ns.length ≤ 63 → ∃ mh', callP P gl 60 18 [.d (.list (ns.map PyData.int))] [] = some (.d (.bool true), mh')) :
    ∃ fd : FuncData, (∀ (s : Shared) (v : Value), BindsTo s fd ⟨[v], []⟩ [("script", v)]) ∧ ∀ base : Heap, K.In base → base.Ns mainGlobals mg → FnOk l.prog w K mg base CX0 60 fa fd ["script"] (spLaw K) := by
  have e := hfa.symm.trans (PySem.W.mg_of X G a18)
  cases e
  have F0 := fun_mk (st := top 1) l0 c0 k0
  have F1 := fun_mk (st := top 3) l1 c1 k1
  have F2 := fun_mk (st := top 4) l2 c2 k2
  have F3 := fun_mk (st := top 5) l3 c3 k3
  have F4 := fun_mk (st := top 6) l4 c4 k4
  have F5 := fun_mk (st := top 8) l5 c5 k5
  have F6 := fun_mk (st := top 9) l6 c6 k6
  have F7 := fun_mk (st := top 10) l7 c7 k7
  have F8 := fun_mk (st := top 11) l8 c8 k8
  have F9 := fun_mk (st := top 12) l9 c9 k9
  have F10 := fun_mk (st := top 13) l10 c10 k10
  have F11 := fun_mk (st := top 14) l11 c11 k11
  have F12 := fun_mk (st := top 15) l12 c12 k12
  have F13 := fun_mk (st := top 16) l13 c13 k13
  have F14 := fun_mk (st := top 17) l14 c14 k14
  have F15 := fun_mk (st := top 18) l15 c15 k15
  have F16 := fun_mk (st := top 19) l16 c16 k16
  have F17 := fun_mk (st := top 20) l17 c17 k17
  have F18 := fun_mk (st := top 21) l18 c18 k18
  refine ⟨PySem.W.fnOf "law" "law" (defArgs (top 21)) (defBody (top 21)) (defScope (top 21)) .none kV18 dc18 pm18 an18 cd18 ct18, fun s v => .of_eq rfl, fun base _ _ => law_ok (Y := ⟨l.prog, w, K, mg, base⟩) (P := P) (bs := bs) (gl := gl) (f := 18) (d := f18) ?_ rfl rfl F18 s18 m18 law⟩
  refine ⟨fun f d hd => ?_, fun x hx => ?_, fun j x d hj => ?_⟩
  · match f, hd with
    | 0, hd => exact Option.some.inj hd ▸ ⟨top 1, ⟨_, _, F0, F0.binds (ps := ["core", "name"]) (fun _ _ _ _ _ _ us hl => match us, hl with | [_, _], _ => rfl), PySem.W.mg_of X G a0⟩, s0, m0⟩
    | 1, hd => exact Option.some.inj hd ▸ ⟨top 3, ⟨_, _, F1, F1.binds (ps := ["proc"]) (fun _ _ _ _ _ _ us hl => match us, hl with | [_], _ => rfl), PySem.W.mg_of X G a1⟩, s1, m1⟩
    | 2, hd => exact Option.some.inj hd ▸ ⟨top 4, ⟨_, _, F2, F2.binds (ps := ["core", "name"]) (fun _ _ _ _ _ _ us hl => match us, hl with | [_, _], _ => rfl), PySem.W.mg_of X G a2⟩, s2, m2⟩
    | 3, hd => exact Option.some.inj hd ▸ ⟨top 5, ⟨_, _, F3, F3.binds (ps := ["atom", "x", "given", "other"]) (fun _ _ _ _ _ _ us hl => match us, hl with | [_, _, _, _], _ => rfl), PySem.W.mg_of X G a3⟩, s3, m3⟩
    | 4, hd => exact Option.some.inj hd ▸ ⟨top 6, ⟨_, _, F4, F4.binds (ps := ["core", "name", "atoms", "args", "others"]) (fun _ _ _ _ _ _ us hl => match us, hl with | [_, _, _, _, _], _ => rfl), PySem.W.mg_of X G a4⟩, s4, m4⟩
    | 5, hd => exact Option.some.inj hd ▸ ⟨top 8, ⟨_, _, F5, F5.binds (ps := ["script"]) (fun _ _ _ _ _ _ us hl => match us, hl with | [_], _ => rfl), PySem.W.mg_of X G a5⟩, s5, m5⟩
    | 6, hd => exact Option.some.inj hd ▸ ⟨top 9, ⟨_, _, F6, F6.binds (ps := ["state", "most"]) (fun _ _ _ _ _ _ us hl => match us, hl with | [_, _], _ => rfl), PySem.W.mg_of X G a6⟩, s6, m6⟩
    | 7, hd => exact Option.some.inj hd ▸ ⟨top 10, ⟨_, _, F7, F7.binds (ps := ["state", "many"]) (fun _ _ _ _ _ _ us hl => match us, hl with | [_, _], _ => rfl), PySem.W.mg_of X G a7⟩, s7, m7⟩
    | 8, hd => exact Option.some.inj hd ▸ ⟨top 11, ⟨_, _, F8, F8.binds (ps := ["x"]) (fun _ _ _ _ _ _ us hl => match us, hl with | [_], _ => rfl), PySem.W.mg_of X G a8⟩, s8, m8⟩
    | 9, hd => exact Option.some.inj hd ▸ ⟨top 12, ⟨_, _, F9, F9.binds (ps := ["x", "y"]) (fun _ _ _ _ _ _ us hl => match us, hl with | [_, _], _ => rfl), PySem.W.mg_of X G a9⟩, s9, m9⟩
    | 10, hd => exact Option.some.inj hd ▸ ⟨top 13, ⟨_, _, F10, F10.binds (ps := ["state"]) (fun _ _ _ _ _ _ us hl => match us, hl with | [_], _ => rfl), PySem.W.mg_of X G a10⟩, s10, m10⟩
    | 11, hd => exact Option.some.inj hd ▸ ⟨top 14, ⟨_, _, F11, F11.binds (ps := ["state", "words", "least"]) (fun _ _ _ _ _ _ us hl => match us, hl with | [_, _, _], _ => rfl), PySem.W.mg_of X G a11⟩, s11, m11⟩
    | 12, hd => exact Option.some.inj hd ▸ ⟨top 15, ⟨_, _, F12, F12.binds (ps := ["state", "kind"]) (fun _ _ _ _ _ _ us hl => match us, hl with | [_, _], _ => rfl), PySem.W.mg_of X G a12⟩, s12, m12⟩
    | 13, hd => exact Option.some.inj hd ▸ ⟨top 16, ⟨_, _, F13, F13.binds (ps := ["state", "given"]) (fun _ _ _ _ _ _ us hl => match us, hl with | [_, _], _ => rfl), PySem.W.mg_of X G a13⟩, s13, m13⟩
    | 14, hd => exact Option.some.inj hd ▸ ⟨top 17, ⟨_, _, F14, F14.binds (ps := ["p"]) (fun _ _ _ _ _ _ us hl => match us, hl with | [_], _ => rfl), PySem.W.mg_of X G a14⟩, s14, m14⟩
    | 15, hd => exact Option.some.inj hd ▸ ⟨top 18, ⟨_, _, F15, F15.binds (ps := ["p", "atom", "args", "others"]) (fun _ _ _ _ _ _ us hl => match us, hl with | [_, _, _, _], _ => rfl), PySem.W.mg_of X G a15⟩, s15, m15⟩
    | 16, hd => exact Option.some.inj hd ▸ ⟨top 19, ⟨_, _, F16, F16.binds (ps := ["x", "due"]) (fun _ _ _ _ _ _ us hl => match us, hl with | [_, _], _ => rfl), PySem.W.mg_of X G a16⟩, s16, m16⟩
    | 17, hd => exact Option.some.inj hd ▸ ⟨top 20, ⟨_, _, F17, F17.binds (ps := ["state", "core", "p", "args", "others"]) (fun _ _ _ _ _ _ us hl => match us, hl with | [_, _, _, _, _], _ => rfl), PySem.W.mg_of X G a17⟩, s17, m17⟩
    | 18, hd => exact Option.some.inj hd ▸ ⟨top 21, ⟨_, _, F18, F18.binds (ps := ["script"]) (fun _ _ _ _ _ _ us hl => match us, hl with | [_], _ => rfl), PySem.W.mg_of X G a18⟩, s18, m18⟩
    | f + 19, hd => cases hd
  · have hx : x ∈ bs := hx
    simp only [bs, List.mem_cons, List.not_mem_nil, or_false] at hx
    rcases hx with rfl | rfl | rfl | rfl | rfl | rfl | rfl | rfl | rfl | rfl | rfl | rfl | rfl | rfl | rfl
    · exact PySem.W.mg_none_of X G z0
    · exact PySem.W.mg_none_of X G z1
    · exact PySem.W.mg_none_of X G z2
    · exact PySem.W.mg_none_of X G z3
    · exact PySem.W.mg_none_of X G z4
    · exact PySem.W.mg_none_of X G z5
    · exact PySem.W.mg_none_of X G z6
    · exact PySem.W.mg_none_of X G z7
    · exact PySem.W.mg_none_of X G z8
    · exact PySem.W.mg_none_of X G z9
    · exact PySem.W.mg_none_of X G z10
    · exact PySem.W.mg_none_of X G z11
    · exact PySem.W.mg_none_of X G z12
    · exact PySem.W.mg_none_of X G z13
    · exact PySem.W.mg_none_of X G z14
  · match j, hj with
    | j + 0, hj => cases hj
end PvK

namespace PvK
open PySem PySem.Spec PyProof.Rows L2 Pv
end PvK
open PySem PySem.W PyProof.Rows
set_option maxHeartbeats 0 in
theorem PySem.Challenge.cw_spentwithin_k75_atoms_of_and_agree_holds : PySem.Challenge.rw_spentwithin_k75_atoms_of_and_agree.Holds := by
  w_on; o_law; k_head; (case hw => w_witness2)
  k_fill
  refine L2.walk_of (l := PySem.Challenge.rw_spentwithin_k75_atoms_of_and_agree) (n := 63) (k := 60) (x := "script") (CX := fun _ => L2.CX0) (sp := fun w => Pv.spLaw _) rfl (by decide) rfl ⟨rfl, by decide, by decide⟩ (fun w h Y => PySem.W.kIn_of Y) ?F (fun _ _ a ns hl _ hS => ⟨a, ns, rfl, hS, hl, fun _ => rfl⟩) (fun _ _ _ _ _ h => h)
  case F =>
    intro w mg fa h KX G hmg
    refine' PvK.all_mk KX G hmg ?a0 ?l0 ?c0 ?k0 ?a1 ?l1 ?c1 ?k1 ?a2 ?l2 ?c2 ?k2 ?a3 ?l3 ?c3 ?k3 ?a4 ?l4 ?c4 ?k4 ?a5 ?l5 ?c5 ?k5 ?a6 ?l6 ?c6 ?k6 ?a7 ?l7 ?c7 ?k7 ?a8 ?l8 ?c8 ?k8 ?a9 ?l9 ?c9 ?k9 ?a10 ?l10 ?c10 ?k10 ?a11 ?l11 ?c11 ?k11 ?a12 ?l12 ?c12 ?k12 ?a13 ?l13 ?c13 ?k13 ?a14 ?l14 ?c14 ?k14 ?a15 ?l15 ?c15 ?k15 ?a16 ?l16 ?c16 ?k16 ?a17 ?l17 ?c17 ?k17 ?a18 ?l18 ?c18 ?k18 ?z0 ?z1 ?z2 ?z3 ?z4 ?z5 ?z6 ?z7 ?z8 ?z9 ?z10 ?z11 ?z12 ?z13 ?z14 PvK.law_true
    (case a0 => k_is)
    (case l0 => k_is)
    (case c0 => k_is)
    (case k0 => k_is)
    (case a1 => k_is)
    (case l1 => k_is)
    (case c1 => k_is)
    (case k1 => k_is)
    (case a2 => k_is)
    (case l2 => k_is)
    (case c2 => k_is)
    (case k2 => k_is)
    (case a3 => k_is)
    (case l3 => k_is)
    (case c3 => k_is)
    (case k3 => k_is)
    (case a4 => k_is)
    (case l4 => k_is)
    (case c4 => k_is)
    (case k4 => k_is)
    (case a5 => k_is)
    (case l5 => k_is)
    (case c5 => k_is)
    (case k5 => k_is)
    (case a6 => k_is)
    (case l6 => k_is)
    (case c6 => k_is)
    (case k6 => k_is)
    (case a7 => k_is)
    (case l7 => k_is)
    (case c7 => k_is)
    (case k7 => k_is)
    (case a8 => k_is)
    (case l8 => k_is)
    (case c8 => k_is)
    (case k8 => k_is)
    (case a9 => k_is)
    (case l9 => k_is)
    (case c9 => k_is)
    (case k9 => k_is)
    (case a10 => k_is)
    (case l10 => k_is)
    (case c10 => k_is)
    (case k10 => k_is)
    (case a11 => k_is)
    (case l11 => k_is)
    (case c11 => k_is)
    (case k11 => k_is)
    (case a12 => k_is)
    (case l12 => k_is)
    (case c12 => k_is)
    (case k12 => k_is)
    (case a13 => k_is)
    (case l13 => k_is)
    (case c13 => k_is)
    (case k13 => k_is)
    (case a14 => k_is)
    (case l14 => k_is)
    (case c14 => k_is)
    (case k14 => k_is)
    (case a15 => k_is)
    (case l15 => k_is)
    (case c15 => k_is)
    (case k15 => k_is)
    (case a16 => k_is)
    (case l16 => k_is)
    (case c16 => k_is)
    (case k16 => k_is)
    (case a17 => k_is)
    (case l17 => k_is)
    (case c17 => k_is)
    (case k17 => k_is)
    (case a18 => k_is)
    (case l18 => k_is)
    (case c18 => k_is)
    (case k18 => k_is)
    (case z0 => k_is)
    (case z1 => k_is)
    (case z2 => k_is)
    (case z3 => k_is)
    (case z4 => k_is)
    (case z5 => k_is)
    (case z6 => k_is)
    (case z7 => k_is)
    (case z8 => k_is)
    (case z9 => k_is)
    (case z10 => k_is)
    (case z11 => k_is)
    (case z12 => k_is)
    (case z13 => k_is)
    (case z14 => k_is)

#print axioms PySem.Challenge.cw_spentwithin_k75_atoms_of_and_agree_holds
